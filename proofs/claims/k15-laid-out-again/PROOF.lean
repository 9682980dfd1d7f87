import PyProof.Rows.All
import Wide.All
import OpenK.AllK
import Wide.FinOn
import HandS.ForMost
import HandS.Wide
import HandS.IsInst
import HandS.Style
import HandS.Rev
import HandS.Codes
import PySem.Challenge.RW_unjump_k15_whole_laid_out_again
set_option Elab.async false
set_option linter.all false
set_option maxRecDepth 100000
set_option maxHeartbeats 4000000
/-! the plain mathematics of the round trip: no program here -/
namespace K15

/-! ### nodes, rows -/
inductive Nd (α : Type) where
  | sum (nm a s b : α) (nx : Nat)
  | test (a s b : α) (ys no : Nat)
  | fin
  | spin
inductive Rw (α : Type) where
  | sum (nm a s b : α)
  | test (a s b : α) (to : Int)
  | jump (to : Int)
  | fin
variable {α : Type}

def Nd.ways : Nd α → List Nat
  | .sum _ _ _ _ nx => [nx]
  | .test _ _ _ ys no => [ys, no]
  | .fin => []
  | .spin => []
/-- the ways in the order in which the walk takes them -/
def Nd.goals (n : Nd α) : List Nat := n.ways.reverse
def Nd.mv (f : Nat → Nat) : Nd α → Nd α
  | .sum nm a s b nx => .sum nm a s b (f nx)
  | .test a s b ys no => .test a s b (f ys) (f no)
  | .fin => .fin
  | .spin => .spin
theorem Nd.mv_ways (f : Nat → Nat) (n : Nd α) : (n.mv f).ways = n.ways.map f := by cases n <;> rfl
theorem Nd.mv_goals (f : Nat → Nat) (n : Nd α) : (n.mv f).goals = n.goals.map f := by
  unfold Nd.goals
  rw [Nd.mv_ways, List.map_reverse]
theorem Nd.mv_congr {f g : Nat → Nat} {n : Nd α} (h : ∀ k ∈ n.ways, f k = g k) : n.mv f = n.mv g := by
  cases n with
  | sum nm a s b nx => simp [Nd.mv, h nx (by simp [Nd.ways])]
  | test a s b ys no => simp [Nd.mv, h ys (by simp [Nd.ways]), h no (by simp [Nd.ways])]
  | fin => rfl
  | spin => rfl
theorem Nd.mv_mv (f g : Nat → Nat) (n : Nd α) : (n.mv f).mv g = n.mv (fun k => g (f k)) := by cases n <;> rfl
theorem Nd.mv_id {f : Nat → Nat} {n : Nd α} (h : ∀ k ∈ n.ways, f k = k) : n.mv f = n := by
  cases n with
  | sum nm a s b nx => simp [Nd.mv, h nx (by simp [Nd.ways])]
  | test a s b ys no => simp [Nd.mv, h ys (by simp [Nd.ways]), h no (by simp [Nd.ways])]
  | fin => rfl
  | spin => rfl
theorem Nd.goals_len (n : Nd α) : n.goals.length ≤ 2 := by cases n <;> simp [Nd.goals, Nd.ways]
theorem Nd.mem_goals {n : Nd α} {k : Nat} : k ∈ n.goals ↔ k ∈ n.ways := by simp [Nd.goals]

/-! ### the walk -/
structure DS where
  begun : List Nat
  trail : List (Nat × Nat)
  done : List Nat
def dstep (gl : Nat → List Nat) : DS → DS
  | ⟨b, [], d⟩ => ⟨b, [], d⟩
  | ⟨b, (k, s) :: t, d⟩ => match (gl k)[s]? with
    | none => ⟨b, t, d ++ [k]⟩
    | some g => if g ∈ b then ⟨b, (k, s + 1) :: t, d⟩ else ⟨b ++ [g], (g, 0) :: (k, s + 1) :: t, d⟩
def dit (gl : Nat → List Nat) : Nat → DS → DS
  | 0, x => x
  | n + 1, x => dstep gl (dit gl n x)
def dini (st : Nat) : DS := ⟨[st], [(st, 0)], []⟩
def Reach (gl : Nat → List Nat) (st : Nat) (x : DS) : Prop := ∃ n, dit gl n (dini st) = x
theorem Reach.ini (gl : Nat → List Nat) (st : Nat) : Reach gl st (dini st) := ⟨0, rfl⟩
theorem Reach.step {gl : Nat → List Nat} {st : Nat} {x : DS} (h : Reach gl st x) : Reach gl st (dstep gl x) := by
  obtain ⟨n, rfl⟩ := h
  exact ⟨n + 1, rfl⟩
theorem dstep_done {gl : Nat → List Nat} {b : List Nat} {k s : Nat} {t : List (Nat × Nat)} {d : List Nat} (h : (gl k).length ≤ s) : dstep gl ⟨b, (k, s) :: t, d⟩ = ⟨b, t, d ++ [k]⟩ := by
  simp only [dstep, List.getElem?_eq_none h]
theorem dstep_old {gl : Nat → List Nat} {b : List Nat} {k s g : Nat} {t : List (Nat × Nat)} {d : List Nat} (h : (gl k)[s]? = some g) (hb : g ∈ b) : dstep gl ⟨b, (k, s) :: t, d⟩ = ⟨b, (k, s + 1) :: t, d⟩ := by
  simp only [dstep, h, if_pos hb]
theorem dstep_new {gl : Nat → List Nat} {b : List Nat} {k s g : Nat} {t : List (Nat × Nat)} {d : List Nat} (h : (gl k)[s]? = some g) (hb : ¬ g ∈ b) : dstep gl ⟨b, (k, s) :: t, d⟩ = ⟨b ++ [g], (g, 0) :: (k, s + 1) :: t, d⟩ := by
  simp only [dstep, h, if_neg hb]
/-- the walk has ended and finished d, in this order -/
def Fin (gl : Nat → List Nat) (st : Nat) (d : List Nat) : Prop := ∃ b, Reach gl st ⟨b, [], d⟩

theorem dit_end {gl : Nat → List Nat} {b d : List Nat} : ∀ n, dit gl n ⟨b, [], d⟩ = ⟨b, [], d⟩
  | 0 => rfl
  | n + 1 => by
    show dstep gl (dit gl n ⟨b, [], d⟩) = _
    rw [dit_end n]
    rfl
theorem dit_add {gl : Nat → List Nat} {x : DS} (n : Nat) : ∀ m, dit gl (n + m) x = dit gl m (dit gl n x)
  | 0 => rfl
  | m + 1 => by
    show dstep gl (dit gl (n + m) x) = dstep gl (dit gl m (dit gl n x))
    rw [dit_add n m]
theorem Fin.unique {gl : Nat → List Nat} {st : Nat} {d d' : List Nat} (h : Fin gl st d) (h' : Fin gl st d') : d = d' := by
  obtain ⟨b, n, e⟩ := h
  obtain ⟨b', m, e'⟩ := h'
  have q : dit gl (n + m) (dini st) = ⟨b, [], d⟩ := by rw [dit_add, e, dit_end]
  have q' : dit gl (m + n) (dini st) = ⟨b', [], d'⟩ := by rw [dit_add, e', dit_end]
  rw [Nat.add_comm, q] at q'
  injection q'

/-! ### what holds all along -/
def Closed (gl : Nat → List Nat) (N : Nat) : Prop := ∀ k, k < N → ∀ g ∈ gl k, g < N
structure DI (gl : Nat → List Nat) (N st : Nat) (x : DS) : Prop where
  nd : x.begun.Nodup
  lt : ∀ k ∈ x.begun, k < N
  nd2 : (x.trail.map (·.1) ++ x.done).Nodup
  mem : ∀ k, k ∈ x.begun ↔ k ∈ x.trail.map (·.1) ++ x.done
  tr : ∀ p ∈ x.trail, p.2 ≤ (gl p.1).length ∧ ∀ (j g : Nat), j < p.2 → (gl p.1)[j]? = some g → g ∈ x.begun
  dn : ∀ k ∈ x.done, ∀ g ∈ gl k, g ∈ x.begun
  root : (x.trail = [] → x.done.getLast? = some st) ∧ (x.trail ≠ [] → (x.trail.map (·.1)).getLast? = some st)

theorem DI.ini {gl : Nat → List Nat} {N st : Nat} (h : st < N) : DI gl N st (dini st) where
  nd := by simp [dini]
  lt := by intro k hk; simp [dini] at hk; omega
  nd2 := by simp [dini]
  mem := by intro k; simp [dini]
  tr := by
    intro p hp
    simp [dini] at hp
    subst hp
    exact ⟨Nat.zero_le _, fun j g hj => absurd hj (Nat.not_lt_zero _)⟩
  dn := by intro k hk; simp [dini] at hk
  root := by simp [dini]

theorem DI.step {gl : Nat → List Nat} {N st : Nat} {x : DS} (hc : Closed gl N) (h : DI gl N st x) : DI gl N st (dstep gl x) := by
  obtain ⟨b, t, d⟩ := x
  cases t with
  | nil => exact h
  | cons p t =>
    obtain ⟨k, s⟩ := p
    have hk : k ∈ b := (h.mem k).mpr (by simp)
    obtain ⟨hs, htr⟩ := h.tr (k, s) (by simp)
    cases e : (gl k)[s]? with
    | none =>
      have hle : (gl k).length ≤ s := List.getElem?_eq_none_iff.mp e
      rw [dstep_done hle]
      have nd2 := h.nd2
      have mem := h.mem
      refine ⟨h.nd, h.lt, ?_, ?_, fun p hp => h.tr p (by simp [hp]), ?_, ?_⟩
      · simp only [List.map_cons, List.cons_append, List.nodup_cons] at nd2
        show (t.map (·.1) ++ (d ++ [k])).Nodup
        rw [← List.append_assoc, List.nodup_append]
        refine ⟨nd2.2, by simp, ?_⟩
        intro a ha c hc'
        have : c = k := by simpa using hc'
        subst this
        intro z
        subst z
        exact nd2.1 ha
      · intro j
        rw [mem j]
        simp only [List.map_cons, List.cons_append, List.mem_cons, List.mem_append, List.mem_singleton, List.not_mem_nil, or_false]
        constructor
        · rintro (z | z | z)
          · exact .inr (.inr z)
          · exact .inl z
          · exact .inr (.inl z)
        · rintro (z | z | z)
          · exact .inr (.inl z)
          · exact .inr (.inr z)
          · exact .inl z
      · intro j hj g hg
        rcases List.mem_append.mp hj with z | z
        · exact h.dn j z g hg
        · have : j = k := by simpa using z
          subst this
          obtain ⟨i, hi⟩ := List.getElem?_of_mem hg
          have hlt : i < (gl j).length := (List.getElem?_eq_some_iff.mp hi).1
          exact htr i g (Nat.lt_of_lt_of_le hlt hle) hi
      · have r := h.root.2 (by simp)
        refine ⟨fun z => ?_, fun z => ?_⟩
        · have z' : t = [] := z
          subst z'
          have r' : some k = some st := by simpa using r
          show (d ++ [k]).getLast? = some st
          rw [List.getLast?_concat]
          exact r'
        · have z' : t ≠ [] := z
          show (t.map (·.1)).getLast? = some st
          rw [List.map_cons] at r
          cases t with
          | nil => exact absurd rfl z'
          | cons q r' => rw [List.map_cons, List.getLast?_cons_cons] at r; exact r
    | some g =>
      have hgl : g ∈ gl k := List.mem_of_getElem? e
      have hslt : s < (gl k).length := (List.getElem?_eq_some_iff.mp e).1
      have hgN : g < N := hc k (h.lt k hk) g hgl
      by_cases hb : g ∈ b
      · rw [dstep_old e hb]
        refine ⟨h.nd, h.lt, h.nd2, h.mem, ?_, h.dn, ⟨fun z => by simp at z, fun _ => by simpa using h.root.2 (by simp)⟩⟩
        intro p hp
        rcases List.mem_cons.mp hp with z | z
        · subst z
          refine ⟨hslt, fun j g' hj hg' => ?_⟩
          rcases Nat.lt_succ_iff_lt_or_eq.mp hj with z | z
          · exact htr j g' z hg'
          · have : some g = some g' := by rw [← e, ← hg', z]
            injection this with this
            subst this
            exact hb
        · exact h.tr p (by simp [z])
      · rw [dstep_new e hb]
        have nd2 := h.nd2
        refine ⟨?_, ?_, ?_, ?_, ?_, fun j hj g' hg' => List.mem_append_left _ (h.dn j hj g' hg'), ⟨fun z => by simp at z, fun _ => ?_⟩⟩
        · show (b ++ [g]).Nodup
          rw [List.nodup_append]
          refine ⟨h.nd, by simp, ?_⟩
          intro a ha c hc'
          have : c = g := by simpa using hc'
          subst this
          intro z
          subst z
          exact hb ha
        · intro j hj
          rcases List.mem_append.mp hj with z | z
          · exact h.lt j z
          · have : j = g := by simpa using z
            omega
        · have hn : ¬ g ∈ (((k, s) :: t).map (·.1)) ++ d := fun z => hb ((h.mem g).mpr z)
          exact List.nodup_cons.mpr ⟨hn, nd2⟩
        · intro j
          have := h.mem j
          show j ∈ b ++ [g] ↔ j ∈ g :: ((((k, s) :: t).map (·.1)) ++ d)
          rw [List.mem_append, List.mem_singleton, List.mem_cons, this]
          exact Or.comm
        · intro p hp
          rcases List.mem_cons.mp hp with z | hp
          · subst z
            exact ⟨Nat.zero_le _, fun j g' hj => absurd hj (Nat.not_lt_zero _)⟩
          · rcases List.mem_cons.mp hp with z | z
            · subst z
              refine ⟨hslt, fun j g' hj hg' => ?_⟩
              rcases Nat.lt_succ_iff_lt_or_eq.mp hj with z | z
              · exact List.mem_append_left _ (htr j g' z hg')
              · have : some g = some g' := by rw [← e, ← hg', z]
                injection this with this
                subst this
                exact List.mem_append_right _ (by simp)
            · obtain ⟨a1, a2⟩ := h.tr p (by simp [z])
              exact ⟨a1, fun j g' hj hg' => List.mem_append_left _ (a2 j g' hj hg')⟩
        · have r := h.root.2 (by simp)
          show (g :: (((k, s) :: t).map (·.1))).getLast? = some st
          rw [List.map_cons] at r ⊢
          rw [List.getLast?_cons_cons]
          exact r
theorem DI.reach {gl : Nat → List Nat} {N st : Nat} {x : DS} (hc : Closed gl N) (hst : st < N) (h : Reach gl st x) : DI gl N st x := by
  obtain ⟨n, rfl⟩ := h
  induction n with
  | zero => exact DI.ini hst
  | succ n ih => exact DI.step hc ih

/-- no more than N numbers below N -/
theorem nodup_le : ∀ (N : Nat) (l : List Nat), l.Nodup → (∀ k ∈ l, k < N) → l.length ≤ N
  | 0, [], _, _ => Nat.le_refl _
  | 0, a :: r, _, h => absurd (h a (by simp)) (Nat.not_lt_zero _)
  | N + 1, l, hn, h => by
    by_cases hm : N ∈ l
    · have q := nodup_le N (l.erase N) (hn.erase N) (fun k hk => by
        have h1 := h k (List.mem_of_mem_erase hk)
        have h2 : k ≠ N := fun z => by
          subst z
          exact (List.Nodup.mem_erase_iff hn).mp hk |>.1 rfl
        omega)
      rw [List.length_erase_of_mem hm] at q
      omega
    · have q := nodup_le N l hn (fun k hk => by
        have h1 := h k hk
        have h2 : k ≠ N := fun z => hm (z ▸ hk)
        omega)
      omega
def tsum (gl : Nat → List Nat) (t : List (Nat × Nat)) : Nat := (t.map fun p => (gl p.1).length + 1 - p.2).sum
/-- what falls -/
def mu (gl : Nat → List Nat) (N : Nat) (x : DS) : Nat := 4 * (N - x.begun.length) + tsum gl x.trail
theorem mu_step {gl : Nat → List Nat} {N st : Nat} {x : DS} (hc : Closed gl N) (hd : ∀ k, (gl k).length ≤ 2) (h : DI gl N st x) (hne : x.trail ≠ []) : mu gl N (dstep gl x) < mu gl N x := by
  have h' := DI.step hc h
  obtain ⟨b, t, d⟩ := x
  cases t with
  | nil => exact absurd rfl hne
  | cons p t =>
    obtain ⟨k, s⟩ := p
    obtain ⟨hs, _⟩ := h.tr (k, s) (by simp)
    have hs : s ≤ (gl k).length := hs
    cases e : (gl k)[s]? with
    | none =>
      have hle : (gl k).length ≤ s := List.getElem?_eq_none_iff.mp e
      rw [dstep_done hle]
      simp only [mu, tsum, List.map_cons, List.sum_cons]
      omega
    | some g =>
      have hslt : s < (gl k).length := (List.getElem?_eq_some_iff.mp e).1
      by_cases hb : g ∈ b
      · rw [dstep_old e hb]
        simp only [mu, tsum, List.map_cons, List.sum_cons]
        omega
      · rw [dstep_new e hb] at h' ⊢
        have hl := nodup_le N (b ++ [g]) h'.nd h'.lt
        simp only [mu, tsum, List.map_cons, List.sum_cons, List.length_append, List.length_singleton] at hl ⊢
        have := hd g
        omega

/-! ### the order that the walk gives -/
structure Ordr (gl : Nat → List Nat) (N st : Nat) (d : List Nat) : Prop where
  nd : d.Nodup
  lt : ∀ k ∈ d, k < N
  cl : ∀ k ∈ d, ∀ g ∈ gl k, g ∈ d
  hd : d.getLast? = some st
theorem Fin.ordr {gl : Nat → List Nat} {N st : Nat} {d : List Nat} (hc : Closed gl N) (hst : st < N) (h : Fin gl st d) : Ordr gl N st d := by
  obtain ⟨b, h⟩ := h
  have i := DI.reach hc hst h
  have m : ∀ k, k ∈ b ↔ k ∈ d := fun k => by simpa using i.mem k
  exact ⟨by simpa using i.nd2, fun k hk => i.lt k ((m k).mpr hk), fun k hk g hg => (m g).mp (i.dn k hk g hg), i.root.1 rfl⟩

/-! ### the same walk under other numbers -/
def DS.map (f : Nat → Nat) (x : DS) : DS := ⟨x.begun.map f, x.trail.map fun p => (f p.1, p.2), x.done.map f⟩
theorem mem_map_inj {f : Nat → Nat} {N : Nat} {l : List Nat} {g : Nat} (hi : ∀ a b, a < N → b < N → f a = f b → a = b) (hl : ∀ k ∈ l, k < N) (hg : g < N) : f g ∈ l.map f ↔ g ∈ l := by
  constructor
  · intro h
    obtain ⟨a, ha, e⟩ := List.mem_map.mp h
    rw [← hi a g (hl a ha) hg e]
    exact ha
  · exact fun h => List.mem_map.mpr ⟨g, h, rfl⟩
theorem dstep_map {gl gl' : Nat → List Nat} {N st : Nat} {f : Nat → Nat} {x : DS} (hc : Closed gl N) (hi : ∀ a b, a < N → b < N → f a = f b → a = b) (hg : ∀ k, k < N → gl' (f k) = (gl k).map f) (h : DI gl N st x) :
    dstep gl' (x.map f) = (dstep gl x).map f := by
  obtain ⟨b, t, d⟩ := x
  cases t with
  | nil => rfl
  | cons p t =>
    obtain ⟨k, s⟩ := p
    have hk : k ∈ b := (h.mem k).mpr (by simp)
    have hkN := h.lt k hk
    have e' : (gl' (f k))[s]? = ((gl k)[s]?).map f := by rw [hg k hkN, List.getElem?_map]
    cases e : (gl k)[s]? with
    | none =>
      have hle : (gl k).length ≤ s := List.getElem?_eq_none_iff.mp e
      rw [e] at e'
      have hle' : (gl' (f k)).length ≤ s := List.getElem?_eq_none_iff.mp e'
      rw [dstep_done hle]
      show dstep gl' ⟨b.map f, (f k, s) :: t.map (fun p => (f p.1, p.2)), d.map f⟩ = _
      rw [dstep_done hle']
      simp [DS.map]
    | some g =>
      rw [e] at e'
      have e' : (gl' (f k))[s]? = some (f g) := e'
      have hgN : g < N := hc k hkN g (List.mem_of_getElem? e)
      have hm := mem_map_inj (g := g) hi h.lt hgN
      show dstep gl' ⟨b.map f, (f k, s) :: t.map (fun p => (f p.1, p.2)), d.map f⟩ = _
      by_cases hb : g ∈ b
      · rw [dstep_old e hb, dstep_old e' (hm.mpr hb)]
        simp [DS.map]
      · rw [dstep_new e hb, dstep_new e' (fun z => hb (hm.mp z))]
        simp [DS.map]
theorem dit_map {gl gl' : Nat → List Nat} {N st : Nat} {f : Nat → Nat} (hc : Closed gl N) (hst : st < N) (hi : ∀ a b, a < N → b < N → f a = f b → a = b) (hg : ∀ k, k < N → gl' (f k) = (gl k).map f) :
    ∀ n, dit gl' n (dini (f st)) = (dit gl n (dini st)).map f
  | 0 => rfl
  | n + 1 => by
    show dstep gl' (dit gl' n (dini (f st))) = (dstep gl (dit gl n (dini st))).map f
    rw [dit_map hc hst hi hg n]
    exact dstep_map hc hi hg (DI.reach hc hst ⟨n, rfl⟩)
theorem Fin.map {gl gl' : Nat → List Nat} {N st : Nat} {f : Nat → Nat} {d : List Nat} (hc : Closed gl N) (hst : st < N) (hi : ∀ a b, a < N → b < N → f a = f b → a = b) (hg : ∀ k, k < N → gl' (f k) = (gl k).map f) (h : Fin gl st d) :
    Fin gl' (f st) (d.map f) := by
  obtain ⟨b, n, e⟩ := h
  exact ⟨b.map f, n, by rw [dit_map hc hst hi hg n, e]; rfl⟩
theorem Fin.unmap {gl gl' : Nat → List Nat} {N st : Nat} {f : Nat → Nat} {d' : List Nat} (hc : Closed gl N) (hst : st < N) (hi : ∀ a b, a < N → b < N → f a = f b → a = b) (hg : ∀ k, k < N → gl' (f k) = (gl k).map f) (h : Fin gl' (f st) d') :
    ∃ d, Fin gl st d ∧ d' = d.map f := by
  obtain ⟨b', n, e⟩ := h
  rw [dit_map hc hst hi hg n] at e
  cases q : dit gl n (dini st) with
  | mk b t d =>
    rw [q] at e
    simp only [DS.map, DS.mk.injEq, List.map_eq_nil_iff] at e
    obtain ⟨_, e2, e3⟩ := e
    subst e2
    exact ⟨d, ⟨b, n, q⟩, e3.symm⟩
end K15
namespace K15
variable {α : Type}

/-! ### graphs -/
def glOf (g : List (Nd α)) (k : Nat) : List Nat := match g[k]? with
  | some n => n.goals
  | none => []
theorem glOf_some {g : List (Nd α)} {k : Nat} {n : Nd α} (h : g[k]? = some n) : glOf g k = n.goals := by unfold glOf; rw [h]
theorem glOf_le (g : List (Nd α)) (k : Nat) : (glOf g k).length ≤ 2 := by
  unfold glOf
  cases g[k]? with
  | none => exact Nat.zero_le _
  | some n => exact n.goals_len
/-- all ways stay within -/
def Wf (g : List (Nd α)) : Prop := ∀ (k : Nat) (n : Nd α), g[k]? = some n → ∀ j ∈ n.ways, j < g.length
theorem Wf.closed {g : List (Nd α)} (h : Wf g) : Closed (glOf g) g.length := by
  intro k hk j hj
  have e := List.getElem?_eq_getElem hk
  rw [glOf_some e] at hj
  exact h k _ e j (Nd.mem_goals.mp hj)
/-- numbered by the walk, all can be come to -/
structure Canon (g : List (Nd α)) : Prop where
  ne : 0 < g.length
  wf : Wf g
  fin : Fin (glOf g) 0 (List.range g.length).reverse

/-- the nodes in the order, their ways by their new numbers -/
def renum (raw : List (Nd α)) (order : List Nat) : List (Nd α) := order.filterMap fun o => (raw[o]?).map fun n => n.mv fun k => order.idxOf k
theorem filterMap_eq_map {β γ : Type} {f : β → Option γ} {h : β → γ} : ∀ (l : List β), (∀ x ∈ l, f x = some (h x)) → l.filterMap f = l.map h
  | [], _ => rfl
  | x :: r, e => by
    rw [List.filterMap_cons, e x (by simp), List.map_cons, filterMap_eq_map r fun y hy => e y (by simp [hy])]
theorem renum_eq {raw : List (Nd α)} {order : List Nat} (d : Nd α) (h : ∀ o ∈ order, o < raw.length) : renum raw order = order.map fun o => ((raw[o]?).getD d).mv fun k => order.idxOf k := by
  refine filterMap_eq_map order fun o ho => ?_
  rw [List.getElem?_eq_getElem (h o ho)]
  rfl
theorem idxOf_get {β : Type} [DecidableEq β] {l : List β} (hn : l.Nodup) {i : Nat} {k : β} (h : l[i]? = some k) : l.idxOf k = i := by
  obtain ⟨hi, e⟩ := List.getElem?_eq_some_iff.mp h
  subst e
  exact hn.idxOf_getElem i hi
theorem get_idxOf {l : List Nat} {k : Nat} (h : k ∈ l) : l[l.idxOf k]? = some k := by
  have := List.idxOf_lt_length_of_mem h
  rw [List.getElem?_eq_getElem this, List.getElem_idxOf]
theorem renum_get {raw : List (Nd α)} {order : List Nat} (h : ∀ o ∈ order, o < raw.length) {i o : Nat} (ho : order[i]? = some o) {n : Nd α} (hn : raw[o]? = some n) : (renum raw order)[i]? = some (n.mv fun k => order.idxOf k) := by
  rw [renum_eq n h, List.getElem?_map, ho]
  simp [hn]
theorem renum_len {raw : List (Nd α)} {order : List Nat} (h : ∀ o ∈ order, o < raw.length) : (renum raw order).length = order.length := by
  cases raw with
  | nil =>
    cases order with
    | nil => rfl
    | cons a r => exact absurd (h a (by simp)) (Nat.not_lt_zero _)
  | cons n r => rw [renum_eq n h, List.length_map]

/-- a renumbered graph is numbered by the walk -/
theorem canon_renum {raw : List (Nd α)} {st : Nat} {d : List Nat} (hw : Wf raw) (hst : st < raw.length) (hf : Fin (glOf raw) st d) : Canon (renum raw d.reverse) := by
  have o := hf.ordr hw.closed hst
  have ndr : d.reverse.Nodup := by
    have := o.nd
    simp only [List.Nodup, List.pairwise_reverse] at this ⊢
    exact this.imp fun h => Ne.symm h
  have ltr : ∀ k ∈ d.reverse, k < raw.length := fun k hk => o.lt k (List.mem_reverse.mp hk)
  have hlen : (renum raw d.reverse).length = d.length := by rw [renum_len ltr, List.length_reverse]
  have hd0 : d.reverse[0]? = some st := by
    rw [← List.head?_eq_getElem?, List.head?_reverse]
    exact o.hd
  have hpos : 0 < d.length := by
    have := (List.getElem?_eq_some_iff.mp hd0).1
    rw [List.length_reverse] at this
    omega
  -- node i of the new graph
  have node : ∀ (i k : Nat), d.reverse[i]? = some k → ∃ n : Nd α, raw[k]? = some n ∧ (renum raw d.reverse)[i]? = some (n.mv fun k => d.reverse.idxOf k) := fun i k e => by
    have hk : k < raw.length := ltr k (List.mem_of_getElem? e)
    exact ⟨_, List.getElem?_eq_getElem hk, renum_get ltr e (List.getElem?_eq_getElem hk)⟩
  have way : ∀ (i k : Nat) (n : Nd α), d.reverse[i]? = some k → raw[k]? = some n → ∀ j ∈ n.ways, j ∈ d.reverse := fun i k n e en j hj => by
    have hk : k ∈ d := List.mem_reverse.mp (List.mem_of_getElem? e)
    have := o.cl k hk j (by rw [glOf_some en]; exact Nd.mem_goals.mpr hj)
    exact List.mem_reverse.mpr this
  let f : Nat → Nat := fun i => d.reverse.getD i 0
  have ff : ∀ i, i < d.length → d.reverse[i]? = some (f i) := fun i hi => by
    have h' : i < d.reverse.length := by rw [List.length_reverse]; exact hi
    show _ = some (d.reverse.getD i 0)
    rw [List.getD_eq_getElem?_getD, List.getElem?_eq_getElem h']
    rfl
  have wf : Wf (renum raw d.reverse) := by
    intro i n hn j hj
    have hi : i < d.length := by
      have := (List.getElem?_eq_some_iff.mp hn).1
      omega
    obtain ⟨n0, e0, e1⟩ := node i _ (ff i hi)
    rw [e1] at hn
    cases hn
    rw [Nd.mv_ways] at hj
    obtain ⟨j0, hj0, rfl⟩ := List.mem_map.mp hj
    have := List.idxOf_lt_length_of_mem (way i _ n0 (ff i hi) e0 j0 hj0)
    rw [List.length_reverse] at this
    omega
  have inj : ∀ a b, a < d.length → b < d.length → f a = f b → a = b := fun a b ha hb e => by
    have ea := ff a ha
    have eb := ff b hb
    rw [e] at ea
    have h1 := idxOf_get ndr ea
    have h2 := idxOf_get ndr eb
    omega
  have gg : ∀ k, k < d.length → glOf raw (f k) = (glOf (renum raw d.reverse) k).map f := fun k hk => by
    obtain ⟨n0, e0, e1⟩ := node k _ (ff k hk)
    rw [glOf_some e0, glOf_some e1, Nd.mv_goals, List.map_map]
    symm
    refine (List.map_congr_left fun j hj => ?_).trans (List.map_id _)
    have hm := way k _ n0 (ff k hk) e0 j (Nd.mem_goals.mp hj)
    have := get_idxOf hm
    show d.reverse.getD (d.reverse.idxOf j) 0 = j
    rw [List.getD_eq_getElem?_getD, this]
    rfl
  have f0 : f 0 = st := by
    have := ff 0 hpos
    rw [hd0] at this
    exact (Option.some.inj this).symm
  have cl : Closed (glOf (renum raw d.reverse)) d.length := by
    have := wf.closed
    rw [hlen] at this
    exact this
  rw [← f0] at hf
  obtain ⟨d2, h2, e2⟩ := Fin.unmap cl hpos inj gg hf
  have o2 := h2.ordr cl hpos
  refine ⟨by omega, wf, ?_⟩
  rw [hlen]
  -- d.reverse is the list of all f i
  have er : d.reverse = (List.range d.length).map f := by
    apply List.ext_getElem?
    intro i
    by_cases hi : i < d.length
    · rw [ff i hi, List.getElem?_map, List.getElem?_range hi]
      rfl
    · rw [List.getElem?_eq_none (by rw [List.length_reverse]; omega), List.getElem?_eq_none (by rw [List.length_map, List.length_range]; omega)]
  have e3 : d2.reverse.map f = (List.range d.length).map f := by
    rw [List.map_reverse, ← e2, er]
  have e4 : d2.reverse = List.range d.length := by
    have hl : d2.reverse.length = d.length := by
      have := congrArg List.length e3
      simpa using this
    apply List.ext_getElem?
    intro i
    by_cases hi : i < d.length
    · have hi2 : i < d2.reverse.length := by omega
      have q : (d2.reverse.map f)[i]? = ((List.range d.length).map f)[i]? := by rw [e3]
      rw [List.getElem?_map, List.getElem?_map, List.getElem?_range hi, List.getElem?_eq_getElem hi2] at q
      rw [List.getElem?_range hi, List.getElem?_eq_getElem hi2]
      have q' : f d2.reverse[i] = f i := Option.some.inj q
      have hm : d2.reverse[i] ∈ d2 := List.mem_reverse.mp (List.getElem_mem hi2)
      rw [inj _ _ (o2.lt _ hm) hi q']
    · rw [List.getElem?_eq_none (by omega), List.getElem?_eq_none (by rw [List.length_range]; omega)]
  have e5 : d2 = (List.range d.length).reverse := by rw [← e4, List.reverse_reverse]
  rw [← e5]
  exact h2

/-! ### a graph laid out -/
/-- its last way goes elsewhere than to the node behind it -/
def off (n : Nd α) (k : Nat) : Bool := match n with
  | .sum _ _ _ _ nx => nx != k + 1
  | .test _ _ _ _ no => no != k + 1
  | .fin => false
  | .spin => false
def offAt (g : List (Nd α)) (k : Nat) : Bool := match g[k]? with
  | some n => off n k
  | none => false
/-- where the rows of node k begin -/
def first (g : List (Nd α)) : Nat → Nat
  | 0 => 0
  | k + 1 => first g k + (1 + if offAt g k then 1 else 0)
theorem first_lt_succ (g : List (Nd α)) (k : Nat) : first g k < first g (k + 1) := by
  show _ < first g k + (1 + if offAt g k then 1 else 0)
  omega
theorem first_mono (g : List (Nd α)) {i k : Nat} (h : i < k) : first g i < first g k := by
  induction k with
  | zero => exact absurd h (Nat.not_lt_zero _)
  | succ k ih =>
    rcases Nat.lt_succ_iff_lt_or_eq.mp h with z | z
    · exact Nat.lt_trans (ih z) (first_lt_succ g k)
    · subst z
      exact first_lt_succ g i
theorem first_inj (g : List (Nd α)) {i k : Nat} (h : first g i = first g k) : i = k := by
  rcases Nat.lt_trichotomy i k with z | z | z
  · have := first_mono g z
    omega
  · exact z
  · have := first_mono g z
    omega
/-- the first row of a node -/
def row1 (g : List (Nd α)) (k : Nat) : Nd α → Rw α
  | .sum nm a s b _ => .sum nm a s b
  | .test a s b ys _ => .test a s b (first g ys : Nat)
  | .fin => .fin
  | .spin => .jump (first g k : Nat)
def lastWay : Nd α → Nat
  | .sum _ _ _ _ nx => nx
  | .test _ _ _ _ no => no
  | .fin => 0
  | .spin => 0
def rowsAt (g : List (Nd α)) (k : Nat) (n : Nd α) : List (Int × Rw α) :=
  ((first g k : Nat), row1 g k n) :: if off n k then [(((first g k : Nat) : Int) + 1, .jump (first g (lastWay n) : Nat))] else []
def laidTo (g : List (Nd α)) : Nat → List (Int × Rw α)
  | 0 => []
  | k + 1 => laidTo g k ++ match g[k]? with
    | some n => rowsAt g k n
    | none => []
def laid (g : List (Nd α)) : List (Int × Rw α) := laidTo g g.length
theorem laidTo_len (g : List (Nd α)) : ∀ k, k ≤ g.length → (laidTo g k).length = first g k
  | 0, _ => rfl
  | k + 1, h => by
    have hk : k < g.length := h
    have e := List.getElem?_eq_getElem hk
    show (laidTo g k ++ match g[k]? with | some n => rowsAt g k n | none => []).length = first g k + (1 + if offAt g k then 1 else 0)
    rw [List.length_append, laidTo_len g k (by omega)]
    unfold offAt
    rw [e]
    unfold rowsAt
    dsimp only
    split <;> rfl
theorem laidTo_succ {g : List (Nd α)} {k : Nat} {n : Nd α} (h : g[k]? = some n) : laidTo g (k + 1) = laidTo g k ++ rowsAt g k n := by
  show laidTo g k ++ (match g[k]? with | some n => rowsAt g k n | none => []) = _
  rw [h]
theorem laidTo_prefix (g : List (Nd α)) {i k : Nat} (h : i ≤ k) : laidTo g i <+: laidTo g k := by
  induction k with
  | zero =>
    have : i = 0 := by omega
    subst this
    exact List.prefix_refl _
  | succ k ih =>
    rcases Nat.lt_or_ge i (k + 1) with z | z
    · exact (ih (by omega)).trans (List.prefix_append _ _)
    · have : i = k + 1 := by omega
      subst this
      exact List.prefix_refl _
theorem get_prefix {β : Type} {l m : List β} (h : l <+: m) {i : Nat} {x : β} (e : l[i]? = some x) : m[i]? = some x := by
  obtain ⟨t, rfl⟩ := h
  have := (List.getElem?_eq_some_iff.mp e).1
  rw [List.getElem?_append_left this]
  exact e
theorem laid_first {g : List (Nd α)} {k : Nat} {n : Nd α} (h : g[k]? = some n) : (laid g)[first g k]? = some (((first g k : Nat) : Int), row1 g k n) := by
  have hk : k < g.length := (List.getElem?_eq_some_iff.mp h).1
  refine get_prefix (laidTo_prefix g (show k + 1 ≤ g.length from hk)) ?_
  have hl := laidTo_len g k (by omega)
  rw [laidTo_succ h, List.getElem?_append_right (by omega), hl, Nat.sub_self]
  rfl
theorem laid_second {g : List (Nd α)} {k : Nat} {n : Nd α} (h : g[k]? = some n) (ho : off n k = true) : (laid g)[first g k + 1]? = some (((first g k : Nat) : Int) + 1, .jump (first g (lastWay n) : Nat)) := by
  have hk : k < g.length := (List.getElem?_eq_some_iff.mp h).1
  refine get_prefix (laidTo_prefix g (show k + 1 ≤ g.length from hk)) ?_
  have hl := laidTo_len g k (by omega)
  rw [laidTo_succ h, List.getElem?_append_right (by omega), hl, Nat.add_sub_cancel_left]
  unfold rowsAt
  rw [if_pos ho]
  rfl
theorem laid_len (g : List (Nd α)) : (laid g).length = first g g.length := laidTo_len g _ (Nat.le_refl _)
theorem first_le (g : List (Nd α)) : ∀ k, first g k ≤ 2 * k
  | 0 => Nat.le_refl _
  | k + 1 => by
    have := first_le g k
    show first g k + (1 + if offAt g k then 1 else 0) ≤ _
    split <;> omega
/-- each row bears its place as its number -/
theorem laidTo_num (g : List (Nd α)) : ∀ k, k ≤ g.length → ∀ (i : Nat) (r : Int × Rw α), (laidTo g k)[i]? = some r → r.1 = (i : Int)
  | 0, _, i, r, h => by simp [laidTo] at h
  | k + 1, hk, i, r, h => by
    have e := List.getElem?_eq_getElem (show k < g.length from hk)
    rw [laidTo_succ e] at h
    have hl := laidTo_len g k (by omega)
    by_cases hi : i < first g k
    · rw [List.getElem?_append_left (by omega)] at h
      exact laidTo_num g k (by omega) i r h
    · rw [List.getElem?_append_right (by omega), hl] at h
      unfold rowsAt at h
      split at h
      · match hj : i - first g k, h with
        | 0, h =>
          simp at h
          subst h
          show ((first g k : Nat) : Int) = i
          omega
        | 1, h =>
          simp at h
          subst h
          show ((first g k : Nat) : Int) + 1 = i
          omega
        | j + 2, h => simp at h
      · match hj : i - first g k, h with
        | 0, h =>
          simp at h
          subst h
          show ((first g k : Nat) : Int) = i
          omega
        | j + 1, h => simp at h

/-! ### rows -/
def Rw.to : Rw α → Option Int
  | .sum _ _ _ _ => none
  | .test _ _ _ to => some to
  | .jump to => some to
  | .fin => none
/-- rows as they are promised: numbers without twins, goals that are there, a last row that one doesn't fall out of -/
structure RowsOk (R : List (Int × Rw α)) : Prop where
  ne : 0 < R.length
  nd : (R.map (·.1)).Nodup
  goes : ∀ (i : Nat) (m : Int) (r : Rw α) (t : Int), R[i]? = some (m, r) → r.to = some t → ∃ (j : Nat) (q : Rw α), R[j]? = some (t, q)
  last : ∀ (i : Nat) (m : Int) (r : Rw α), R[i]? = some (m, r) → ((∃ nm a s b, r = .sum nm a s b) ∨ ∃ a s b t, r = .test a s b t) → i + 1 < R.length
/-- the place j of the row with the number t -/
def At (R : List (Int × Rw α)) (t : Int) (j : Nat) : Prop := ∃ q, R[j]? = some (t, q)
/-- what is known of where one comes to along jumps from the place i -/
structure ComeTo (R : List (Int × Rw α)) (i r : Nat) : Prop where
  lt : r < R.length
  stay : ∀ m q, R[i]? = some (m, q) → (∀ t, q ≠ .jump t) → r = i
  ring : ∀ m t, R[i]? = some (m, .jump t) → At R t i → r = i
  one : ∀ m t j m' q, R[i]? = some (m, .jump t) → R[j]? = some (t, q) → m' = t → (∀ u, q ≠ .jump u) → r = j
  oneRing : ∀ m t j u, R[i]? = some (m, .jump t) → R[j]? = some (t, .jump u) → At R u j → r = j
/-- what is known of the node of the row at the place i -/
inductive NodeOf (R : List (Int × Rw α)) (i : Nat) : Nd α → Prop
  | sum {m : Int} {nm a s b : α} {r : Nat} (h : R[i]? = some (m, .sum nm a s b)) (c : ComeTo R (i + 1) r) : NodeOf R i (.sum nm a s b r)
  | test {m : Int} {a s b : α} {t : Int} {j ys no : Nat} (h : R[i]? = some (m, .test a s b t)) (ha : At R t j) (cy : ComeTo R j ys) (cn : ComeTo R (i + 1) no) : NodeOf R i (.test a s b ys no)
  | fin {m : Int} (h : R[i]? = some (m, .fin)) : NodeOf R i .fin
  | spin {m : Int} {t : Int} (h : R[i]? = some (m, .jump t)) : NodeOf R i .spin
def RawOf (R : List (Int × Rw α)) (raw : List (Nd α)) : Prop := raw.length = R.length ∧ ∀ (i : Nat) (n : Nd α), raw[i]? = some n → NodeOf R i n
theorem RawOf.wf {R : List (Int × Rw α)} {raw : List (Nd α)} (h : RawOf R raw) : Wf raw := by
  intro k n hn j hj
  rw [h.1]
  cases h.2 k n hn with
  | sum _ c =>
    simp only [Nd.ways, List.mem_singleton] at hj
    exact hj ▸ c.lt
  | test _ _ cy cn =>
    simp only [Nd.ways, List.mem_cons, List.not_mem_nil, or_false] at hj
    rcases hj with z | z
    · exact z ▸ cy.lt
    · exact z ▸ cn.lt
  | fin => simp [Nd.ways] at hj
  | spin => simp [Nd.ways] at hj

theorem At.unique {R : List (Int × Rw α)} (hn : (R.map (·.1)).Nodup) {t : Int} {i j : Nat} (h : At R t i) (h' : At R t j) : i = j := by
  obtain ⟨q, e⟩ := h
  obtain ⟨q', e'⟩ := h'
  have a : (R.map (·.1))[i]? = some t := by rw [List.getElem?_map, e]; rfl
  have b : (R.map (·.1))[j]? = some t := by rw [List.getElem?_map, e']; rfl
  obtain ⟨h1, x1⟩ := List.getElem?_eq_some_iff.mp a
  obtain ⟨h2, x2⟩ := List.getElem?_eq_some_iff.mp b
  exact (List.getElem_inj hn).mp (x1.trans x2.symm)
end K15
namespace K15
variable {α : Type}

theorem laid_num {g : List (Nd α)} {i : Nat} {r : Int × Rw α} (h : (laid g)[i]? = some r) : r.1 = (i : Int) := laidTo_num g _ (Nat.le_refl _) i r h
/-- each row of a graph laid out is a node's first or a node's jump -/
theorem laidTo_inv (g : List (Nd α)) : ∀ k, k ≤ g.length → ∀ (i : Nat) (r : Int × Rw α), (laidTo g k)[i]? = some r →
    ∃ (j : Nat) (n : Nd α), j < k ∧ g[j]? = some n ∧ ((i = first g j ∧ r.2 = row1 g j n) ∨ (off n j = true ∧ i = first g j + 1 ∧ r.2 = .jump (first g (lastWay n) : Nat)))
  | 0, _, i, r, h => by simp [laidTo] at h
  | k + 1, hk, i, r, h => by
    have e := List.getElem?_eq_getElem (show k < g.length from hk)
    rw [laidTo_succ e] at h
    have hl := laidTo_len g k (by omega)
    by_cases hi : i < first g k
    · rw [List.getElem?_append_left (by omega)] at h
      obtain ⟨j, n, h1, h2⟩ := laidTo_inv g k (by omega) i r h
      exact ⟨j, n, by omega, h2⟩
    · rw [List.getElem?_append_right (by omega), hl] at h
      refine ⟨k, _, Nat.lt_succ_self k, e, ?_⟩
      unfold rowsAt at h
      split at h
      · rename_i ho
        match hj : i - first g k, h with
        | 0, h =>
          simp at h
          subst h
          exact .inl ⟨by omega, rfl⟩
        | 1, h =>
          simp at h
          subst h
          exact .inr ⟨ho, by omega, rfl⟩
        | j + 2, h => simp at h
      · match hj : i - first g k, h with
        | 0, h =>
          simp at h
          subst h
          exact .inl ⟨by omega, rfl⟩
        | j + 1, h => simp at h
theorem lastWay_mem {n : Nd α} {k : Nat} (h : off n k = true) : lastWay n ∈ n.ways := by
  cases n <;> simp [off, lastWay, Nd.ways] at h ⊢
theorem first_lt {g : List (Nd α)} {k : Nat} (h : k < g.length) : first g k < (laid g).length := by
  rw [laid_len]
  exact first_mono g h
/-- the row with a number stands at that place -/
theorem laid_at {g : List (Nd α)} {k : Nat} (h : k < g.length) : At (laid g) (first g k : Nat) (first g k) := ⟨_, laid_first (List.getElem?_eq_getElem h)⟩
theorem laid_nd (g : List (Nd α)) : ((laid g).map (·.1)).Nodup := by
  have e : (laid g).map (·.1) = (List.range (laid g).length).map fun i => ((i : Nat) : Int) := by
    apply List.ext_getElem?
    intro i
    rw [List.getElem?_map, List.getElem?_map]
    by_cases hi : i < (laid g).length
    · rw [List.getElem?_range hi, List.getElem?_eq_getElem hi]
      show some (laid g)[i].1 = some (i : Int)
      rw [laid_num (List.getElem?_eq_getElem hi)]
    · rw [List.getElem?_eq_none (by omega), List.getElem?_eq_none (by rw [List.length_range]; omega)]
      rfl
  rw [e]
  have h := List.nodup_range (n := (laid g).length)
  simp only [List.Nodup, List.pairwise_map] at h ⊢
  exact h.imp fun hne e => hne (by omega)
theorem laid_ok {g : List (Nd α)} (hw : Wf g) (h0 : 0 < g.length) : RowsOk (laid g) where
  ne := Nat.lt_of_le_of_lt (Nat.zero_le _) (first_lt h0)
  nd := laid_nd g
  goes := by
    intro i m r t hr ht
    obtain ⟨j, n, hj, en, hc⟩ := laidTo_inv g _ (Nat.le_refl _) i (m, r) hr
    have key : ∀ k, k < g.length → ((first g k : Nat) : Int) = t → ∃ (j : Nat) (q : Rw α), (laid g)[j]? = some (t, q) := fun k hk e => by
      obtain ⟨q, hq⟩ := laid_at hk
      exact ⟨_, q, e ▸ hq⟩
    rcases hc with ⟨_, e⟩ | ⟨ho, _, e⟩
    · have e : r = row1 g j n := e
      subst e
      cases n with
      | sum nm a s b nx => simp [row1, Rw.to] at ht
      | test a s b ys no =>
        simp only [row1, Rw.to, Option.some.injEq] at ht
        exact key ys (hw j _ en ys (by simp [Nd.ways])) ht
      | fin => simp [row1, Rw.to] at ht
      | spin =>
        simp only [row1, Rw.to, Option.some.injEq] at ht
        exact key j hj ht
    · have e : r = .jump (first g (lastWay n) : Nat) := e
      subst e
      simp only [Rw.to, Option.some.injEq] at ht
      exact key _ (hw j n en _ (lastWay_mem ho)) ht
  last := by
    intro i m r hr hk
    obtain ⟨j, n, hj, en, hc⟩ := laidTo_inv g _ (Nat.le_refl _) i (m, r) hr
    rcases hc with ⟨ei, e⟩ | ⟨ho, _, e⟩
    · have e : r = row1 g j n := e
      have hw2 : lastWay n < g.length ∧ (off n j = false → lastWay n = j + 1) := by
        subst e
        cases n with
        | sum nm a s b nx => exact ⟨hw j _ en nx (by simp [Nd.ways]), fun z => by simpa [off, lastWay] using z⟩
        | test a s b ys no => exact ⟨hw j _ en no (by simp [Nd.ways]), fun z => by simpa [off, lastWay] using z⟩
        | fin => rcases hk with ⟨_, _, _, _, z⟩ | ⟨_, _, _, _, z⟩ <;> simp [row1] at z
        | spin => rcases hk with ⟨_, _, _, _, z⟩ | ⟨_, _, _, _, z⟩ <;> simp [row1] at z
      rw [ei]
      by_cases ho : off n j = true
      · exact (List.getElem?_eq_some_iff.mp (laid_second en ho)).1
      · have : lastWay n = j + 1 := hw2.2 (by simpa using ho)
        rw [this] at hw2
        have q := first_lt hw2.1
        have q2 := first_lt_succ g j
        omega
    · have e : r = .jump (first g (lastWay n) : Nat) := e
      subst e
      rcases hk with ⟨_, _, _, _, z⟩ | ⟨_, _, _, _, z⟩ <;> cases z

/-- a node's first row is where one comes to from it -/
theorem come_first {g : List (Nd α)} {k r : Nat} (hk : k < g.length) (c : ComeTo (laid g) (first g k) r) : r = first g k := by
  have e := List.getElem?_eq_getElem hk
  have l := laid_first e
  cases hn : g[k] with
  | sum nm a s b nx =>
    rw [hn] at l
    exact c.stay _ _ l fun t z => by simp [row1] at z
  | test a s b ys no =>
    rw [hn] at l
    exact c.stay _ _ l fun t z => by simp [row1] at z
  | fin =>
    rw [hn] at l
    exact c.stay _ _ l fun t z => by simp [row1] at z
  | spin =>
    rw [hn] at l
    exact c.ring _ _ l (laid_at hk)
/-- behind a sum or a test one comes to its last way -/
theorem come_last {g : List (Nd α)} (hw : Wf g) {k r : Nat} {n : Nd α} (en : g[k]? = some n) (hn : lastWay n ∈ n.ways) (h0 : off n k = false → lastWay n = k + 1) (c : ComeTo (laid g) (first g k + 1) r) : r = first g (lastWay n) := by
  have hl := hw k n en _ hn
  cases ho : off n k with
  | true =>
    have l2 := laid_second en ho
    have e := List.getElem?_eq_getElem hl
    have l := laid_first e
    cases hm : g[lastWay n] with
    | sum nm a s b nx =>
      rw [hm] at l
      exact c.one _ _ _ _ _ l2 l rfl fun t z => by simp [row1] at z
    | test a s b ys no =>
      rw [hm] at l
      exact c.one _ _ _ _ _ l2 l rfl fun t z => by simp [row1] at z
    | fin =>
      rw [hm] at l
      exact c.one _ _ _ _ _ l2 l rfl fun t z => by simp [row1] at z
    | spin =>
      rw [hm] at l
      exact c.oneRing _ _ _ _ l2 l (laid_at hl)
  | false =>
    have e := h0 ho
    have hs : first g k + 1 = first g (k + 1) := by
      show _ = first g k + (1 + if offAt g k then 1 else 0)
      have : offAt g k = false := by
        unfold offAt
        rw [en]
        exact ho
      rw [this]
      rfl
    rw [e] at hl ⊢
    rw [hs] at c
    exact come_first hl c
/-- the node of a node's first row is that node, its ways by their first rows -/
theorem node_first {g : List (Nd α)} (hw : Wf g) {k : Nat} {n m : Nd α} (en : g[k]? = some n) (h : NodeOf (laid g) (first g k) m) : m = n.mv (first g) := by
  have l := laid_first en
  have hk : k < g.length := (List.getElem?_eq_some_iff.mp en).1
  cases n with
  | sum nm a s b nx =>
    cases h with
    | sum h c =>
      rw [l] at h
      simp only [row1, Option.some.injEq, Prod.mk.injEq, Rw.sum.injEq] at h
      obtain ⟨_, h1, h2, h3, h4⟩ := h
      subst h1 h2 h3 h4
      have := come_last hw en (by simp [lastWay, Nd.ways]) (fun z => by simpa [off, lastWay] using z) c
      rw [this]
      rfl
    | test h => rw [l] at h; simp [row1] at h
    | fin h => rw [l] at h; simp [row1] at h
    | spin h => rw [l] at h; simp [row1] at h
  | test a s b ys no =>
    cases h with
    | sum h => rw [l] at h; simp [row1] at h
    | test h ha cy cn =>
      rw [l] at h
      simp only [row1, Option.some.injEq, Prod.mk.injEq, Rw.test.injEq] at h
      obtain ⟨_, h1, h2, h3, h4⟩ := h
      subst h1 h2 h3 h4
      have q := come_last hw en (by simp [lastWay, Nd.ways]) (fun z => by simpa [off, lastWay] using z) cn
      have hys : ys < g.length := hw k _ en ys (by simp [Nd.ways])
      have ej := At.unique (laid_nd g) ha (laid_at hys)
      subst ej
      have q2 := come_first hys cy
      rw [q, q2]
      rfl
    | fin h => rw [l] at h; simp [row1] at h
    | spin h => rw [l] at h; simp [row1] at h
  | fin =>
    cases h with
    | sum h => rw [l] at h; simp [row1] at h
    | test h => rw [l] at h; simp [row1] at h
    | fin h => rfl
    | spin h => rw [l] at h; simp [row1] at h
  | spin =>
    cases h with
    | sum h => rw [l] at h; simp [row1] at h
    | test h => rw [l] at h; simp [row1] at h
    | fin h => rw [l] at h; simp [row1] at h
    | spin h => rfl

/-- THE LAW: the graph of a graph laid out is that graph -/
theorem round {g raw : List (Nd α)} {st : Nat} {d : List Nat} (hg : Canon g) (hr : RawOf (laid g) raw) (hst : ComeTo (laid g) 0 st) (hf : Fin (glOf raw) st d) : renum raw d.reverse = g := by
  have h0 : first g 0 = 0 := rfl
  have es : st = first g 0 := come_first hg.ne hst
  subst es
  have node : ∀ (k : Nat) (n : Nd α), g[k]? = some n → raw[first g k]? = some (n.mv (first g)) := fun k n en => by
    have hk : k < g.length := (List.getElem?_eq_some_iff.mp en).1
    have hl : first g k < raw.length := by
      rw [hr.1]
      exact first_lt hk
    have e := List.getElem?_eq_getElem hl
    rw [e, node_first hg.wf en (hr.2 _ _ e)]
  have hm := Fin.map (gl' := glOf raw) (f := first g) hg.wf.closed hg.ne (fun a b _ _ e => first_inj g e) (fun k hk => by
    have e := List.getElem?_eq_getElem hk
    rw [glOf_some (node k _ e), glOf_some e, Nd.mv_goals]) hg.fin
  have ed := Fin.unique hf hm
  subst ed
  have er : ((List.range g.length).reverse.map (first g)).reverse = (List.range g.length).map (first g) := by rw [← List.map_reverse, List.reverse_reverse]
  rw [er]
  have nd : ((List.range g.length).map (first g)).Nodup := by
    have := List.nodup_range (n := g.length)
    simp only [List.Nodup, List.pairwise_map] at this ⊢
    exact this.imp fun hne e => hne (first_inj g e)
  have ho : ∀ (i : Nat), i < g.length → ((List.range g.length).map (first g))[i]? = some (first g i) := fun i hi => by
    rw [List.getElem?_map, List.getElem?_range hi]
    rfl
  have lt : ∀ o ∈ (List.range g.length).map (first g), o < raw.length := fun o h => by
    obtain ⟨i, hi, rfl⟩ := List.mem_map.mp h
    rw [hr.1]
    exact first_lt (List.mem_range.mp hi)
  apply List.ext_getElem?
  intro i
  by_cases hi : i < g.length
  · have e := List.getElem?_eq_getElem hi
    rw [renum_get lt (ho i hi) (node i _ e), e, Nd.mv_mv]
    rw [Nd.mv_id fun k hk => ?_]
    exact idxOf_get nd (ho k (hg.wf i _ e k hk))
  · have hz := renum_len lt
    rw [List.length_map, List.length_range] at hz
    rw [List.getElem?_eq_none (by omega), List.getElem?_eq_none (by omega)]
end K15

namespace K15
variable {α : Type}
/-- the row at i is a jump -/
def Jm (R : List (Int × Rw α)) (i : Nat) : Prop := ∃ (m t : Int), R[i]? = some (m, .jump t)
/-- to where the jump at i goes -/
def nxt (R : List (Int × Rw α)) (i : Nat) : Nat := match R[i]? with
  | some (_, .jump t) => (R.map (·.1)).idxOf t
  | _ => i
theorem nxt_at {R : List (Int × Rw α)} (hR : RowsOk R) {i : Nat} {m t : Int} {j : Nat} (h : R[i]? = some (m, .jump t)) (ha : At R t j) : nxt R i = j := by
  unfold nxt
  rw [h]
  obtain ⟨q, e⟩ := ha
  exact idxOf_get hR.nd (by rw [List.getElem?_map, e]; rfl)
theorem nxt_ok {R : List (Int × Rw α)} (hR : RowsOk R) {i : Nat} {m t : Int} (h : R[i]? = some (m, .jump t)) : At R t (nxt R i) ∧ nxt R i < R.length := by
  obtain ⟨j, q, e⟩ := hR.goes i m _ t h rfl
  have := nxt_at hR h ⟨q, e⟩
  rw [this]
  exact ⟨⟨q, e⟩, (List.getElem?_eq_some_iff.mp e).1⟩
/-- k jumps on -/
def tj (R : List (Int × Rw α)) (a : Nat) : Nat → Nat
  | 0 => a
  | k + 1 => nxt R (tj R a k)
theorem tj_add (R : List (Int × Rw α)) (a : Nat) (i : Nat) : ∀ k, tj R (tj R a i) k = tj R a (i + k)
  | 0 => rfl
  | k + 1 => by
    show nxt R (tj R (tj R a i) k) = nxt R (tj R a (i + k))
    rw [tj_add R a i k]
theorem tj_fix {R : List (Int × Rw α)} {a : Nat} (h : nxt R a = a) : ∀ k, tj R a k = a
  | 0 => rfl
  | k + 1 => by
    show nxt R (tj R a k) = a
    rw [tj_fix h k, h]
/-- what the two loops find is where one comes to -/
theorem come_fin {R : List (Int × Rw α)} (hR : RowsOk R) {a i cur r : Nat} (ec : cur = tj R a i) (hlt : cur < R.length) (hj : ∀ k, k < i → Jm R (tj R a k))
    (h : (¬ Jm R cur ∧ r = cur) ∨ (Jm R cur ∧ (∃ j, j < i) ∧ r < R.length ∧ (nxt R cur = cur → r = cur))) : ComeTo R a r := by
  subst ec
  have zero : ¬ Jm R a → i = 0 := fun hn => by
    rcases Nat.eq_zero_or_pos i with z | z
    · exact z
    · exact absurd (hj 0 z) hn
  refine ⟨?_, ?_, ?_, ?_, ?_⟩
  · rcases h with ⟨_, e⟩ | ⟨_, _, e, _⟩
    · omega
    · exact e
  · intro m q hq hne
    have hn : ¬ Jm R a := fun ⟨m', t, e⟩ => by
      rw [hq] at e
      simp only [Option.some.injEq, Prod.mk.injEq] at e
      exact hne t e.2
    have := zero hn
    subst this
    rcases h with ⟨_, e⟩ | ⟨hm, _⟩
    · exact e
    · exact absurd hm hn
  · intro m t hq ha
    have hx : nxt R a = a := nxt_at hR hq ha
    rw [tj_fix hx] at h
    rcases h with ⟨hm, _⟩ | ⟨_, _, _, e⟩
    · exact absurd ⟨m, t, hq⟩ hm
    · exact e hx
  · intro m t j m' q hq hj' em hne
    have hx : nxt R a = j := nxt_at hR hq ⟨q, hj'⟩
    have hn : ¬ Jm R j := fun ⟨m2, t2, e⟩ => by
      rw [hj'] at e
      simp only [Option.some.injEq, Prod.mk.injEq] at e
      exact hne t2 e.2
    have h1 : tj R a 1 = j := hx
    match i, hj, h with
    | 0, _, h =>
      rcases h with ⟨hm, _⟩ | ⟨_, ⟨j', hj2⟩, _⟩
      · exact absurd ⟨m, t, hq⟩ hm
      · exact absurd hj2 (Nat.not_lt_zero _)
    | 1, _, h =>
      rw [h1] at h
      rcases h with ⟨_, e⟩ | ⟨hm, _⟩
      · exact e
      · exact absurd hm hn
    | i + 2, hj, _ =>
      have := hj 1 (by omega)
      rw [h1] at this
      exact absurd this hn
  · intro m t j u hq hj' ha
    have hx : nxt R a = j := nxt_at hR hq ⟨_, hj'⟩
    have hx2 : nxt R j = j := nxt_at hR hj' ha
    match i, hj, h with
    | 0, _, h =>
      rcases h with ⟨hm, _⟩ | ⟨_, ⟨j', hj2⟩, _⟩
      · exact absurd ⟨m, t, hq⟩ hm
      · exact absurd hj2 (Nat.not_lt_zero _)
    | i + 1, _, h =>
      have e : tj R a (i + 1) = j := by
        have := tj_add R a 1 i
        have h1 : tj R a 1 = j := hx
        rw [h1, tj_fix hx2] at this
        rw [Nat.add_comm]
        exact this.symm
      rw [e] at h
      rcases h with ⟨hm, _⟩ | ⟨_, _, _, e⟩
      · exact absurd ⟨t, u, hj'⟩ hm
      · exact e hx2
end K15

namespace K15
open PySem L2
abbrev Fr := PySem.W.Frag
def top (i : Nat) : Stmt := PySem.Challenge.pw_unjump_k15_whole_laid_out_again.main.body.getD i (.Pass ⟨0, 0, 0, 0⟩)
abbrev sWays : Stmt := top 4
abbrev sCome : Stmt := top 7
abbrev sNodeOf : Stmt := top 8
abbrev sFin : Stmt := top 9
abbrev sRenum : Stmt := top 10
abbrev sMoved : Stmt := top 11
abbrev sGraphOf : Stmt := top 12
abbrev sTurns : Stmt := top 13
abbrev sRowOf : Stmt := top 14
abbrev sLaid : Stmt := top 15
abbrev sDraws : Stmt := top 17
abbrev sNext : Stmt := top 18
abbrev sNames : Stmt := top 19
abbrev sGreat : Stmt := top 20
abbrev sOperand : Stmt := top 21
abbrev sRow : Stmt := top 22
abbrev sRows : Stmt := top 23
abbrev sFar : Stmt := top 24
abbrev sNear : Stmt := top 25
abbrev sNode : Stmt := top 26
abbrev sGoals : Stmt := top 27
abbrev sOrder : Stmt := top 28
abbrev sGraph : Stmt := top 29
abbrev sDrawn : Stmt := top 30
abbrev sAlike : Stmt := top 31
abbrev sLaw : Stmt := top 32

/-! ### two lists, item by item -/
structure All2 {β γ : Type} (R : β → γ → Prop) (xs : List β) (ys : List γ) : Prop where
  len : xs.length = ys.length
  all : ∀ (i : Nat) (x : β) (y : γ), xs[i]? = some x → ys[i]? = some y → R x y
section
variable {β γ : Type} {R S : β → γ → Prop} {xs : List β} {ys : List γ}
theorem All2.nil : All2 R ([] : List β) ([] : List γ) := ⟨rfl, fun i x y h => by simp at h⟩
theorem All2.snoc (h : All2 R xs ys) {x : β} {y : γ} (r : R x y) : All2 R (xs ++ [x]) (ys ++ [y]) := by
  have hl := h.len
  refine ⟨by simp [hl], fun i a b ha hb => ?_⟩
  by_cases hi : i < xs.length
  · rw [List.getElem?_append_left hi] at ha
    rw [List.getElem?_append_left (by omega)] at hb
    exact h.all i a b ha hb
  · rw [List.getElem?_append_right (by omega)] at ha
    rw [List.getElem?_append_right (by omega)] at hb
    have h0 : i - xs.length = 0 := by
      have := (List.getElem?_eq_some_iff.mp ha).1
      simp at this
      omega
    have h1 : i - ys.length = 0 := by omega
    rw [h0] at ha
    rw [h1] at hb
    simp at ha hb
    subst ha hb
    exact r
theorem All2.mono (h : All2 R xs ys) (f : ∀ x y, R x y → S x y) : All2 S xs ys := ⟨h.len, fun i x y a b => f x y (h.all i x y a b)⟩
theorem All2.get (h : All2 R xs ys) {i : Nat} {y : γ} (hy : ys[i]? = some y) : ∃ x, xs[i]? = some x ∧ R x y := by
  have hi := (List.getElem?_eq_some_iff.mp hy).1
  have hx : i < xs.length := by rw [h.len]; exact hi
  exact ⟨_, List.getElem?_eq_getElem hx, h.all i _ _ (List.getElem?_eq_getElem hx) hy⟩
theorem All2.get' (h : All2 R xs ys) {i : Nat} {x : β} (hx : xs[i]? = some x) : ∃ y, ys[i]? = some y ∧ R x y := by
  have hi := (List.getElem?_eq_some_iff.mp hx).1
  have hy : i < ys.length := by rw [← h.len]; exact hi
  exact ⟨_, List.getElem?_eq_getElem hy, h.all i _ _ hx (List.getElem?_eq_getElem hy)⟩
theorem All2.ofMap {δ : Type} {f : δ → γ} {zs : List δ} (h : All2 R xs (zs.map f)) : All2 (fun x z => R x (f z)) xs zs :=
  ⟨by rw [h.len, List.length_map], fun i x z hx hz => h.all i x _ hx (by rw [List.getElem?_map, hz]; rfl)⟩
theorem All2.toMap {δ : Type} {f : δ → γ} {zs : List δ} (h : All2 (fun x z => R x (f z)) xs zs) : All2 R xs (zs.map f) :=
  ⟨by rw [h.len, List.length_map], fun i x y hx hy => by
    rw [List.getElem?_map] at hy
    obtain ⟨z, hz, rfl⟩ := Option.map_eq_some_iff.mp hy
    exact h.all i x z hx hz⟩
end

/-! ### what stays -/
/-- all tuples stay -/
def Imm (H H' : Hp) : Prop := ∀ (b : Addr) (xs : List V), Rd H b (.tup xs) → Rd H' b (.tup xs)
theorem Imm.refl (H : Hp) : Imm H H := fun _ _ h => h
theorem Imm.trans {H H1 H2 : Hp} (a : Imm H H1) (b : Imm H1 H2) : Imm H H2 := fun c o h => b c o (a c o h)
theorem imm_same {H H' : Hp} (h : Same H H') : Imm H H' := fun b xs r => by
  rcases r with r | ⟨o, r⟩
  · exact .inl (h _ _ r)
  · exact .inr ⟨o, h _ _ r⟩
theorem Imm.at {H H' : Hp} (h : Imm H H') {K : Fr} {a : Addr} {t : List V} (s : SqT K H a t) : SqT K H' a t := by
  rcases s with s | s
  · exact .inl (h _ _ s)
  · exact .inr s
theorem imm_upd {H : Hp} {p : Addr} {o : HO} (h : ∀ xs, ¬ Rd H p (.tup xs)) : Imm H (upd H p o) := fun b xs r => by
  have : b ≠ p := fun e => h xs (e ▸ r)
  rcases r with r | ⟨u, r⟩
  · exact .inl (by rw [upd_ne this]; exact r)
  · exact .inr ⟨u, by rw [upd_ne this]; exact r⟩
theorem imm_new {H : Hp} {p : Addr} {o : HO} (h : H p = none) : Imm H (upd H p o) := imm_upd fun xs r => by
  rcases r with r | ⟨u, r⟩ <;> (rw [h] at r; cases r)
theorem imm_lst {H : Hp} {p : Addr} {o : HO} {xs : List V} (h : H p = some (.lst xs)) : Imm H (upd H p o) := imm_upd fun ys r => by
  rcases r with r | ⟨u, r⟩ <;> (rw [h] at r; cases r)
theorem imm_dK {H : Hp} {p : Addr} {o : HO} {kvs : List (Key × V)} (h : H p = some (.dK kvs)) : Imm H (upd H p o) := imm_upd fun ys r => by
  rcases r with r | ⟨u, r⟩ <;> (rw [h] at r; cases r)
theorem same_new {H : Hp} {p : Addr} {o : HO} (h : H p = none) : Same H (upd H p o) := fun b u q => by
  rw [upd_ne (ne_of_none q h)]
  exact q
/-- behind a change of what is new -/
theorem same_put {H H1 : Hp} {p : Addr} {o : HO} (s : Same H H1) (h : H p = none) : Same H (upd H1 p o) := fun b u q => by
  rw [upd_ne (ne_of_none q h)]
  exact s _ _ q
theorem same_at {H H' : Hp} (h : Same H H') {K : Fr} {a : Addr} {t : List V} (s : SqT K H a t) : SqT K H' a t := (imm_same h).at s
/-- all stays but what stands at L -/
def Kp (L : Addr) (H H' : Hp) : Prop := ∀ b o, b ≠ L → H b = some o → H' b = some o
theorem Kp.refl (L : Addr) (H : Hp) : Kp L H H := fun _ _ _ h => h
theorem Kp.trans {L : Addr} {H H1 H2 : Hp} (a : Kp L H H1) (b : Kp L H1 H2) : Kp L H H2 := fun c o n h => b c o n (a c o n h)
theorem kp_same {L : Addr} {H H' : Hp} (h : Same H H') : Kp L H H' := fun b o _ e => h b o e
theorem kp_upd {L : Addr} {H : Hp} {o : HO} : Kp L H (upd H L o) := fun b u n e => by
  rw [upd_ne n]
  exact e
theorem Kp.imm {L : Addr} {H H' : Hp} (h : Kp L H H') {xs : List V} (hl : H L = some (.lst xs)) : Imm H H' := fun b ys r => by
  have n : b ≠ L := fun e => by
    subst e
    rcases r with r | ⟨u, r⟩ <;> (rw [hl] at r; cases r)
  rcases r with r | ⟨u, r⟩
  · exact .inl (h _ _ n r)
  · exact .inr ⟨u, h _ _ n r⟩
theorem Kp.seq {L : Addr} {K : Fr} {H H' : Hp} {a : Addr} {xs : List V} (h : Kp L H H') (n : a ≠ L) (s : SqL K H a xs) : SqL K H' a xs := by
  rcases s with (s | ⟨o, s⟩) | s
  · exact .inl (.inl (h _ _ n s))
  · exact .inl (.inr ⟨o, h _ _ n s⟩)
  · exact .inr s

/-! ### tuples, lists of tuples -/
def TupAt (K : Fr) (H : Hp) (v : V) (t : List V) : Prop := ∃ a, v = .ref a ∧ SqT K H a t
theorem Imm.tup {H H' : Hp} (h : Imm H H') {K : Fr} {v : V} {t : List V} (s : TupAt K H v t) : TupAt K H' v t := by
  obtain ⟨a, e, s⟩ := s
  exact ⟨a, e, h.at s⟩
theorem Imm.all {H H' : Hp} (h : Imm H H') {K : Fr} {γ : Type} {f : γ → List V} {xs : List V} {ys : List γ} (s : All2 (fun v g => TupAt K H v (f g)) xs ys) : All2 (fun v g => TupAt K H' v (f g)) xs ys := s.mono fun _ _ => h.tup
/-- an operand, a sign, a name: a whole number, or a text of plain signs -/
def opOk : Key → Bool
  | .inl _ => true
  | .inr x => PyData.strOk x
abbrev Op := { k : Key // opOk k = true }
def oV (o : Op) : V := kV o.1
def oI (i : Int) : Op := ⟨.inl i, rfl⟩
/-- a node as a tuple -/
def ndV : Nd Op → List V
  | .sum nm a s b nx => [.str "sum", oV nm, oV a, oV s, oV b, .int nx]
  | .test a s b ys no => [.str "test", oV a, oV s, oV b, .int ys, .int no]
  | .fin => [.str "end"]
  | .spin => [.str "spin"]
/-- a row as a tuple -/
def rwV : Int × Rw Op → List V
  | (m, .sum nm a s b) => [.int m, .str "sum", oV nm, oV a, oV s, oV b]
  | (m, .test a s b t) => [.int m, .str "test", oV a, oV s, oV b, .int t]
  | (m, .jump t) => [.int m, .str "jump", .int t]
  | (m, .fin) => [.int m, .str "end"]
abbrev NdAt (K : Fr) (H : Hp) (v : V) (n : Nd Op) : Prop := TupAt K H v (ndV n)
abbrev RwAt (K : Fr) (H : Hp) (v : V) (r : Int × Rw Op) : Prop := TupAt K H v (rwV r)
/-- a graph, rows: a list of such tuples -/
def GrAt (K : Fr) (H : Hp) (p : Addr) (g : List (Nd Op)) : Prop := ∃ vs, SqL K H p vs ∧ All2 (NdAt K H) vs g
def RwsAt (K : Fr) (H : Hp) (p : Addr) (R : List (Int × Rw Op)) : Prop := ∃ vs, SqL K H p vs ∧ All2 (RwAt K H) vs R
theorem same_gr {K : Fr} {H H' : Hp} {p : Addr} {g : List (Nd Op)} (h : Same H H') (s : GrAt K H p g) : GrAt K H' p g := by
  obtain ⟨vs, s, a⟩ := s
  exact ⟨vs, h.seq s, (imm_same h).all a⟩
theorem same_rws {K : Fr} {H H' : Hp} {p : Addr} {g : List (Int × Rw Op)} (h : Same H H') (s : RwsAt K H p g) : RwsAt K H' p g := by
  obtain ⟨vs, s, a⟩ := s
  exact ⟨vs, h.seq s, (imm_same h).all a⟩

/-! ### tests by known texts -/
theorem ifEq {x y : V} {A B : Prop} (h : x = y) (a : A) : if decide (x = y) = true then A else B := by
  rw [if_pos (decide_eq_true h)]
  exact a
theorem ifNe {x y : V} {A B : Prop} (h : ¬ x = y) (b : B) : if decide (x = y) = true then A else B := by
  rw [if_neg (by rw [decide_eq_false h]; exact Bool.false_ne_true)]
  exact b
theorem ifEqN {x y : V} {A B : Prop} (h : x = y) (b : B) : if (!decide (x = y)) = true then A else B := by
  rw [if_neg (by rw [decide_eq_true h]; exact Bool.false_ne_true)]
  exact b
theorem ifNeN {x y : V} {A B : Prop} (h : ¬ x = y) (a : A) : if (!decide (x = y)) = true then A else B := by
  rw [if_pos (by rw [decide_eq_false h]; rfl)]
  exact a
theorem test_sum : ¬ V.str "test" = V.str "sum" := by decide +kernel
theorem end_sum : ¬ V.str "end" = V.str "sum" := by decide +kernel
theorem spin_sum : ¬ V.str "spin" = V.str "sum" := by decide +kernel
theorem jump_sum : ¬ V.str "jump" = V.str "sum" := by decide +kernel
theorem end_test : ¬ V.str "end" = V.str "test" := by decide +kernel
theorem spin_test : ¬ V.str "spin" = V.str "test" := by decide +kernel
theorem jump_test : ¬ V.str "jump" = V.str "test" := by decide +kernel
theorem spin_end : ¬ V.str "spin" = V.str "end" := by decide +kernel
theorem jump_end : ¬ V.str "jump" = V.str "end" := by decide +kernel
theorem sum_jump : ¬ V.str "sum" = V.str "jump" := by decide +kernel
theorem test_jump : ¬ V.str "test" = V.str "jump" := by decide +kernel
theorem end_jump : ¬ V.str "end" = V.str "jump" := by decide +kernel
theorem sum_test : ¬ V.str "sum" = V.str "test" := by decide +kernel
theorem small {n : Nat} (h : n ≤ 1000) : n ≤ sizeLine := Nat.le_of_lt (small1000 h)
end K15

namespace K15
open PySem L2
section
variable {P : Program} {w : World} {K : Fr} {mg : Str → Option Value} {base : Heap}
/-! ### ways -/
def intsV (l : List Nat) : List V := l.map fun k => V.int ((k : Nat) : Int)
def spWays (K : Fr) : Sp := fun vs H Q _ => ∃ (v : V) (n : Nd Op), vs = [v] ∧ NdAt K H v n ∧ ∀ p H', Same H H' → H' p = some (.tup (intsV n.ways)) → Q (.ref p) H'
theorem scWays : FnScope ["node"] ["node"] (defScope sWays) := ⟨rfl, rfl, rfl, by decide +kernel, rfl, by decide +kernel, by decide +kernel⟩
theorem ok_ways {f : Addr} {fd : FuncData} (F : Fun K "ways" "ways" sWays f fd) : FnOk P w K mg base CX0 1 f fd ["node"] (spWays K) := by
  refine F.ok scWays (fun vs H Q E h => ?_) (fun cdv A outer s H vs Q E hr h => ?_)
  · obtain ⟨v, n, rfl, _⟩ := h
    rfl
  obtain ⟨v, n, rfl, ⟨a, rfl, hS⟩, q⟩ := h
  refine ⟨_, pss_cons (ps_if (pt_cmpR op_eq (pe_ix ix_tup (pv 0) pe_int (fun _ _ => rfl)) pe_str (nomark _)) (pss_one (ps_ret (pe_tup (pa_cons (pe_ix ix_tup (pv 0) pe_int (fun _ _ => rfl)) pa_nil)))) pss_nil)
    (pss_cons (ps_if (pt_cmpR op_eq (pe_ix ix_tup (pv 0) pe_int (fun _ _ => rfl)) pe_str (nomark _)) (pss_one (ps_ret (pe_tup (pa_cons (pe_ix ix_tup (pv 0) pe_int (fun _ _ => rfl)) (pa_cons (pe_ix ix_tup (pv 0) pe_int (fun _ _ => rfl)) pa_nil))))) pss_nil)
    (pss_one (ps_ret (pe_tup pa_nil)))), ?_⟩
  cases n with
  | sum nm x s y nx =>
    refine ⟨_, rfl, a, _, 0, _, rfl, rfl, hS, rfl, rfl, _, rfl, ifEq rfl ?_⟩
    refine ⟨_, rfl, a, _, 5, _, rfl, rfl, hS, rfl, small (n := 1) (by decide), fun p hp => ?_⟩
    exact q p _ (same_new hp) upd_same
  | test x s y ys no =>
    refine ⟨_, rfl, a, _, 0, _, rfl, rfl, hS, rfl, rfl, _, rfl, ifNe test_sum ?_⟩
    refine ⟨_, rfl, a, _, 0, _, rfl, rfl, hS, rfl, rfl, _, rfl, ifEq rfl ?_⟩
    refine ⟨_, rfl, a, _, 4, _, rfl, rfl, hS, rfl, _, rfl, a, _, 5, _, rfl, rfl, hS, rfl, small (n := 2) (by decide), fun p hp => ?_⟩
    exact q p _ (same_new hp) upd_same
  | fin =>
    refine ⟨_, rfl, a, _, 0, _, rfl, rfl, hS, rfl, rfl, _, rfl, ifNe end_sum ?_⟩
    refine ⟨_, rfl, a, _, 0, _, rfl, rfl, hS, rfl, rfl, _, rfl, ifNe end_test ?_⟩
    refine ⟨small (n := 0) (by decide), fun p hp => ?_⟩
    exact q p _ (same_new hp) upd_same
  | spin =>
    refine ⟨_, rfl, a, _, 0, _, rfl, rfl, hS, rfl, rfl, _, rfl, ifNe spin_sum ?_⟩
    refine ⟨_, rfl, a, _, 0, _, rfl, rfl, hS, rfl, rfl, _, rfl, ifNe spin_test ?_⟩
    refine ⟨small (n := 0) (by decide), fun p hp => ?_⟩
    exact q p _ (same_new hp) upd_same
end
end K15

namespace K15
open PySem L2
/-- a loop over enumerate(a list): the pairs are new tuples -/
theorem for_enum {K : Fr} {a : Addr} {xs : List V} {g : TG} {tb : TS} {D : Ends} {σ : L2.St} {H : Hp} (Pv : Nat → L2.St → Hp → Prop) (h0 : Pv 0 σ H) (hl : ∀ i σ H, i ≤ xs.length → Pv i σ H → SqL K H a xs)
    (hs : ∀ (i : Nat) (x : V) (σ : L2.St) (H : Hp) (T : Addr), xs[i]? = some x → Pv i σ H → H T = none → g (.ref T) σ (upd H T (.tup [.int ((i : Nat) : Int), x])) fun σ2 H2 => tb { D with nx := Pv (i + 1), ct := Pv (i + 1), bk := D.nx } σ2 H2)
    (hd : ∀ σ H, Pv xs.length σ H → D.nx σ H) :
    ∃ Wd : Nat → Nat → L2.St → Hp → Prop, (∃ m, Wd 0 m σ H) ∧ ∀ i m σ H, Wd i m σ H →
      ((Ite K a).stop i H ∧ D.nx σ H) ∨ ((Ite K a).go i H ∧ ∃ N : L2.St → Hp → Prop, (∀ σ' H', N σ' H' → ∃ m', m' < m ∧ Wd (i + 1) m' σ' H') ∧ ∀ x H', (Ite K a).yld i H x H' → g x σ H' fun σ2 H2 => tb { D with nx := N, ct := N, bk := D.nx } σ2 H2) := by
  refine ⟨fun k left σ H => left = xs.length - k ∧ k ≤ xs.length ∧ Pv k σ H, ⟨_, rfl, Nat.zero_le _, h0⟩, ?_⟩
  rintro i m σ H ⟨rfl, hi, p⟩
  have hq := hl i σ H hi p
  by_cases hlt : i < xs.length
  · refine .inr ⟨⟨xs, xs[i], hq, List.getElem?_eq_getElem hlt⟩, Pv (i + 1), fun σ' H' p' => ⟨xs.length - (i + 1), by omega, rfl, hlt, p'⟩, fun v H' y => ?_⟩
    obtain ⟨T, x, rfl, nT, rfl, hx⟩ := y
    exact hs i x σ H T (hx xs hq) p nT
  · have e : i = xs.length := by omega
    subst e
    exact .inl ⟨⟨xs, hq, Nat.le_refl _⟩, hd σ H p⟩
theorem dget_of {H : Hp} {d : Addr} {kvs : List (Key × V)} {m : Int} {v : V} (hd : H d = some (.dK kvs)) (hv : valV kvs (Sum.inl m) = some v) : DGet H d (.int m) (some v) := by
  have h := DGet.k (k := Sum.inl m) hd
  rw [hv] at h
  exact h
section
variable {P : Program} {w : World} {K : Fr} {mg : Str → Option Value} {base : Heap}
/-! ### moved -/
def spMoved (K : Fr) : Sp := fun vs H Q _ => ∃ (v : V) (n : Nd Op) (d : Addr) (kvs : List (Key × V)) (f : Nat → Nat), vs = [v, .ref d] ∧ NdAt K H v n ∧ H d = some (.dK kvs) ∧ (∀ k ∈ n.ways, valV kvs (Sum.inl ((k : Nat) : Int)) = some (.int ((f k : Nat) : Int))) ∧
  ∀ u H', Same H H' → NdAt K H' u (n.mv f) → Q u H'
theorem scMoved : FnScope ["node", "place"] ["node", "place"] (defScope sMoved) := ⟨rfl, rfl, rfl, by decide +kernel, rfl, by decide +kernel, by decide +kernel⟩
theorem ok_moved {f : Addr} {fd : FuncData} (F : Fun K "moved" "moved" sMoved f fd) : FnOk P w K mg base CX0 1 f fd ["node", "place"] (spMoved K) := by
  refine F.ok scMoved (fun vs H Q E h => ?_) (fun cdv A outer s H vs Q E hr h => ?_)
  · obtain ⟨v, n, d, kvs, g, rfl, _⟩ := h
    rfl
  obtain ⟨v, n, d, kvs, g, rfl, ⟨a, rfl, hS⟩, hD, hv, q⟩ := h
  have hu := hu_of hr
  refine ⟨_, pss_cons (ps_if (pt_cmpR op_eq (pe_ix ix_tup (pv 0) pe_int (fun _ _ => rfl)) pe_str (nomark _))
      (pss_one (ps_ret (pe_tup (pa_cons pe_str (pa_cons (pe_ix ix_tup (pv 0) pe_int (fun _ _ => rfl)) (pa_cons (pe_ix ix_tup (pv 0) pe_int (fun _ _ => rfl)) (pa_cons (pe_ix ix_tup (pv 0) pe_int (fun _ _ => rfl)) (pa_cons (pe_ix ix_tup (pv 0) pe_int (fun _ _ => rfl))
        (pa_cons (pe_dget hu (pv 1) (pe_ix ix_tup (pv 0) pe_int (fun _ _ => rfl)) (fun _ _ => rfl)) pa_nil))))))))) pss_nil)
    (pss_cons (ps_if (pt_cmpR op_eq (pe_ix ix_tup (pv 0) pe_int (fun _ _ => rfl)) pe_str (nomark _))
      (pss_one (ps_ret (pe_tup (pa_cons pe_str (pa_cons (pe_ix ix_tup (pv 0) pe_int (fun _ _ => rfl)) (pa_cons (pe_ix ix_tup (pv 0) pe_int (fun _ _ => rfl)) (pa_cons (pe_ix ix_tup (pv 0) pe_int (fun _ _ => rfl))
        (pa_cons (pe_dget hu (pv 1) (pe_ix ix_tup (pv 0) pe_int (fun _ _ => rfl)) (fun _ _ => rfl)) (pa_cons (pe_dget hu (pv 1) (pe_ix ix_tup (pv 0) pe_int (fun _ _ => rfl)) (fun _ _ => rfl)) pa_nil))))))))) pss_nil)
    (pss_one (ps_ret (pv 0)))), ?_⟩
  cases n with
  | sum nm x s y nx =>
    refine ⟨_, rfl, a, _, 0, _, rfl, rfl, hS, rfl, rfl, _, rfl, ifEq rfl ?_⟩
    refine ⟨_, rfl, a, _, 1, _, rfl, rfl, hS, rfl, _, rfl, a, _, 2, _, rfl, rfl, hS, rfl, _, rfl, a, _, 3, _, rfl, rfl, hS, rfl, _, rfl, a, _, 4, _, rfl, rfl, hS, rfl, ?_⟩
    refine ⟨_, rfl, _, rfl, a, _, 5, _, rfl, rfl, hS, rfl, d, _, rfl, dget_of hD (hv nx (by simp [Nd.ways])), small (n := 6) (by decide), fun p hp => ?_⟩
    exact q _ _ (same_new hp) ⟨p, rfl, .inl (.inl upd_same)⟩
  | test x s y ys no =>
    refine ⟨_, rfl, a, _, 0, _, rfl, rfl, hS, rfl, rfl, _, rfl, ifNe test_sum ?_⟩
    refine ⟨_, rfl, a, _, 0, _, rfl, rfl, hS, rfl, rfl, _, rfl, ifEq rfl ?_⟩
    refine ⟨_, rfl, a, _, 1, _, rfl, rfl, hS, rfl, _, rfl, a, _, 2, _, rfl, rfl, hS, rfl, _, rfl, a, _, 3, _, rfl, rfl, hS, rfl, ?_⟩
    refine ⟨_, rfl, _, rfl, a, _, 4, _, rfl, rfl, hS, rfl, d, _, rfl, dget_of hD (hv ys (by simp [Nd.ways])), ?_⟩
    refine ⟨_, rfl, _, rfl, a, _, 5, _, rfl, rfl, hS, rfl, d, _, rfl, dget_of hD (hv no (by simp [Nd.ways])), small (n := 6) (by decide), fun p hp => ?_⟩
    exact q _ _ (same_new hp) ⟨p, rfl, .inl (.inl upd_same)⟩
  | fin =>
    refine ⟨_, rfl, a, _, 0, _, rfl, rfl, hS, rfl, rfl, _, rfl, ifNe end_sum ?_⟩
    refine ⟨_, rfl, a, _, 0, _, rfl, rfl, hS, rfl, rfl, _, rfl, ifNe end_test ?_⟩
    exact ⟨_, rfl, q _ _ (Same.refl H) ⟨a, rfl, hS⟩⟩
  | spin =>
    refine ⟨_, rfl, a, _, 0, _, rfl, rfl, hS, rfl, rfl, _, rfl, ifNe spin_sum ?_⟩
    refine ⟨_, rfl, a, _, 0, _, rfl, rfl, hS, rfl, rfl, _, rfl, ifNe spin_test ?_⟩
    exact ⟨_, rfl, q _ _ (Same.refl H) ⟨a, rfl, hS⟩⟩

/-! ### turns_off -/
def spTurns (K : Fr) : Sp := fun vs H Q _ => ∃ (v : V) (n : Nd Op) (k : Nat), vs = [v, .int ((k : Nat) : Int)] ∧ NdAt K H v n ∧ ∀ H', Same H H' → Q (.bl (off n k)) H'
theorem scTurns : FnScope ["node", "k"] ["node", "k"] (defScope sTurns) := ⟨rfl, rfl, rfl, by decide +kernel, rfl, by decide +kernel, by decide +kernel⟩
theorem dec_ne {i j : Nat} : (!decide (V.int ((i : Nat) : Int) = V.int (((j : Nat) : Int) + 1))) = (i != j + 1) := by
  by_cases h : i = j + 1
  · subst h
    rw [decide_eq_true (by rfl)]
    simp
  · rw [decide_eq_false (fun e => h (by have := V.int.inj e; omega))]
    simp [h]
theorem ok_turns {f fW : Addr} {fd fdW : FuncData} (F : Fun K "turns_off" "turns_off" sTurns f fd) (FW : Fun K "ways" "ways" sWays fW fdW) (bW : Binds K fdW ["node"] []) (mW : mg "ways" = some (.ref fW)) (ml : mg "len" = none) :
    FnOk P w K mg base CX0 2 f fd ["node", "k"] (spTurns K) := by
  have GW : FnOk P w K mg base CX0 1 fW fdW ["node"] (spWays K) := ok_ways FW
  refine F.ok scTurns (fun vs H Q E h => ?_) (fun cdv A outer s H vs Q E hr h => ?_)
  · obtain ⟨v, n, k, rfl, _⟩ := h
    rfl
  obtain ⟨v, n, k, rfl, hv, q⟩ := h
  refine ⟨_, pss_one (ps_ret (pe_and (pe_cmpR op_gt (pe_callB call_len_seq (by rfl) ml PySem.boot_len (pa_cons (pe_call GW hr (by rfl) mW FW.kp bW .nil pass0 (pa_cons (pv 0) pa_nil)) pa_nil)) pe_int (nomark _))
    (pe_one (pe_cmpR op_ne (pe_ix ix_tup (pv 0) pe_int (fun _ _ => rfl)) (pe_op op_add (pv 1) pe_int) (nomark _))))), ?_⟩
  refine ⟨_, rfl, v, n, rfl, hv, fun p H1 s1 hp => ?_⟩
  refine ⟨p, _, rfl, .inr (.inl (.inl hp)), _, _, rfl, rfl, _, rfl, ?_⟩
  obtain ⟨a, rfl, hS⟩ := (imm_same s1).tup hv
  cases n with
  | sum nm x s y nx =>
    refine iteT ⟨_, rfl, a, _, 5, _, rfl, rfl, hS, rfl, _, rfl, _, _, rfl, rfl, rfl, ?_⟩
    show Q (.bl (!decide (V.int ((nx : Nat) : Int) = V.int (((k : Nat) : Int) + 1)))) H1
    rw [dec_ne]
    exact q H1 s1
  | test x s y ys no =>
    refine iteT ⟨_, rfl, a, _, 5, _, rfl, rfl, hS, rfl, _, rfl, _, _, rfl, rfl, rfl, ?_⟩
    show Q (.bl (!decide (V.int ((no : Nat) : Int) = V.int (((k : Nat) : Int) + 1)))) H1
    rw [dec_ne]
    exact q H1 s1
  | fin => exact iteF (q H1 s1)
  | spin => exact iteF (q H1 s1)

/-! ### row_of -/
def firstsOf (g : List (Nd Op)) : List V := intsV ((List.range g.length).map (first g))
theorem firsts_at {g : List (Nd Op)} {j : Nat} (h : j < g.length) : (firstsOf g)[j]? = some (.int ((first g j : Nat) : Int)) := by
  unfold firstsOf intsV
  rw [List.getElem?_map, List.getElem?_map, List.getElem?_range h]
  rfl
def spRowOf (K : Fr) : Sp := fun vs H Q _ => ∃ (v : V) (n : Nd Op) (g : List (Nd Op)) (k : Nat) (fl : Addr), vs = [v, .int ((first g k : Nat) : Int), .ref fl] ∧ NdAt K H v n ∧ SqL K H fl (firstsOf g) ∧ (∀ j ∈ n.ways, j < g.length) ∧
  ∀ u H', Same H H' → RwAt K H' u (((first g k : Nat) : Int), row1 g k n) → Q u H'
theorem scRowOf : FnScope ["node", "at", "firsts"] ["node", "at", "firsts"] (defScope sRowOf) := ⟨rfl, rfl, rfl, by decide +kernel, rfl, by decide +kernel, by decide +kernel⟩
theorem ok_rowOf {f : Addr} {fd : FuncData} (F : Fun K "row_of" "row_of" sRowOf f fd) : FnOk P w K mg base CX0 1 f fd ["node", "at", "firsts"] (spRowOf K) := by
  refine F.ok scRowOf (fun vs H Q E h => ?_) (fun cdv A outer s H vs Q E hr h => ?_)
  · obtain ⟨v, n, g, k, fl, rfl, _⟩ := h
    rfl
  obtain ⟨v, n, g, k, fl, rfl, ⟨a, rfl, hS⟩, hF, hw, q⟩ := h
  refine ⟨_, pss_cons (ps_if (pt_cmpR op_eq (pe_ix ix_tup (pv 0) pe_int (fun _ _ => rfl)) pe_str (nomark _))
      (pss_one (ps_ret (pe_tup (pa_cons (pv 1) (pa_cons pe_str (pa_cons (pe_ix ix_tup (pv 0) pe_int (fun _ _ => rfl)) (pa_cons (pe_ix ix_tup (pv 0) pe_int (fun _ _ => rfl)) (pa_cons (pe_ix ix_tup (pv 0) pe_int (fun _ _ => rfl)) (pa_cons (pe_ix ix_tup (pv 0) pe_int (fun _ _ => rfl)) pa_nil))))))))) pss_nil)
    (pss_cons (ps_if (pt_cmpR op_eq (pe_ix ix_tup (pv 0) pe_int (fun _ _ => rfl)) pe_str (nomark _))
      (pss_one (ps_ret (pe_tup (pa_cons (pv 1) (pa_cons pe_str (pa_cons (pe_ix ix_tup (pv 0) pe_int (fun _ _ => rfl)) (pa_cons (pe_ix ix_tup (pv 0) pe_int (fun _ _ => rfl)) (pa_cons (pe_ix ix_tup (pv 0) pe_int (fun _ _ => rfl))
        (pa_cons (pe_ix ix_list (pv 2) (pe_ix ix_tup (pv 0) pe_int (fun _ _ => rfl)) (fun _ _ => rfl)) pa_nil))))))))) pss_nil)
    (pss_cons (ps_if (pt_cmpR op_eq (pe_ix ix_tup (pv 0) pe_int (fun _ _ => rfl)) pe_str (nomark _))
      (pss_one (ps_ret (pe_tup (pa_cons (pv 1) (pa_cons pe_str pa_nil))))) pss_nil)
    (pss_one (ps_ret (pe_tup (pa_cons (pv 1) (pa_cons pe_str (pa_cons (pv 1) pa_nil)))))))), ?_⟩
  cases n with
  | sum nm x s y nx =>
    refine ⟨_, rfl, a, _, 0, _, rfl, rfl, hS, rfl, rfl, _, rfl, ifEq rfl ?_⟩
    refine ⟨_, rfl, _, rfl, a, _, 1, _, rfl, rfl, hS, rfl, _, rfl, a, _, 2, _, rfl, rfl, hS, rfl, _, rfl, a, _, 3, _, rfl, rfl, hS, rfl, _, rfl, a, _, 4, _, rfl, rfl, hS, rfl, small (n := 6) (by decide), fun p hp => ?_⟩
    exact q _ _ (same_new hp) ⟨p, rfl, .inl (.inl upd_same)⟩
  | test x s y ys no =>
    refine ⟨_, rfl, a, _, 0, _, rfl, rfl, hS, rfl, rfl, _, rfl, ifNe test_sum ?_⟩
    refine ⟨_, rfl, a, _, 0, _, rfl, rfl, hS, rfl, rfl, _, rfl, ifEq rfl ?_⟩
    refine ⟨_, rfl, _, rfl, a, _, 1, _, rfl, rfl, hS, rfl, _, rfl, a, _, 2, _, rfl, rfl, hS, rfl, _, rfl, a, _, 3, _, rfl, rfl, hS, rfl, ?_⟩
    refine ⟨_, rfl, _, rfl, a, _, 4, _, rfl, rfl, hS, rfl, fl, _, _, _, rfl, rfl, hF, atI_nat (firsts_at (hw ys (by simp [Nd.ways]))), small (n := 6) (by decide), fun p hp => ?_⟩
    exact q _ _ (same_new hp) ⟨p, rfl, .inl (.inl upd_same)⟩
  | fin =>
    refine ⟨_, rfl, a, _, 0, _, rfl, rfl, hS, rfl, rfl, _, rfl, ifNe end_sum ?_⟩
    refine ⟨_, rfl, a, _, 0, _, rfl, rfl, hS, rfl, rfl, _, rfl, ifNe end_test ?_⟩
    refine ⟨_, rfl, a, _, 0, _, rfl, rfl, hS, rfl, rfl, _, rfl, ifEq rfl ?_⟩
    refine ⟨_, rfl, small (n := 2) (by decide), fun p hp => ?_⟩
    exact q _ _ (same_new hp) ⟨p, rfl, .inl (.inl upd_same)⟩
  | spin =>
    refine ⟨_, rfl, a, _, 0, _, rfl, rfl, hS, rfl, rfl, _, rfl, ifNe spin_sum ?_⟩
    refine ⟨_, rfl, a, _, 0, _, rfl, rfl, hS, rfl, rfl, _, rfl, ifNe spin_test ?_⟩
    refine ⟨_, rfl, a, _, 0, _, rfl, rfl, hS, rfl, rfl, _, rfl, ifNe spin_end ?_⟩
    refine ⟨_, rfl, _, rfl, small (n := 3) (by decide), fun p hp => ?_⟩
    exact q _ _ (same_new hp) ⟨p, rfl, .inl (.inl upd_same)⟩
end
end K15

namespace K15
open PySem L2
theorem firsts_snoc (g : List (Nd Op)) (i : Nat) : intsV ((List.range i).map (first g)) ++ [V.int ((first g i : Nat) : Int)] = intsV ((List.range (i + 1)).map (first g)) := by
  unfold intsV
  rw [List.range_succ, List.map_append, List.map_append]
  rfl
theorem first_succ {g : List (Nd Op)} {i : Nat} {n : Nd Op} (h : g[i]? = some n) : ((first g i : Nat) : Int) + (1 + (if off n i = true then 1 else 0)) = ((first g (i + 1) : Nat) : Int) := by
  have e : first g (i + 1) = first g i + (1 + if offAt g i then 1 else 0) := rfl
  have e2 : offAt g i = off n i := by unfold offAt; rw [h]
  rw [e, e2]
  cases off n i <;> simp <;> omega
theorem rowsAt_on {g : List (Nd Op)} {i : Nat} {n : Nd Op} (h : off n i = true) : rowsAt g i n = [(((first g i : Nat) : Int), row1 g i n), (((first g i : Nat) : Int) + 1, .jump (first g (lastWay n) : Nat))] := by
  unfold rowsAt
  rw [if_pos h]
theorem rowsAt_off {g : List (Nd Op)} {i : Nat} {n : Nd Op} (h : off n i = false) : rowsAt g i n = [(((first g i : Nat) : Int), row1 g i n)] := by
  unfold rowsAt
  rw [if_neg (by rw [h]; exact Bool.false_ne_true)]
theorem five {n : Nd Op} {k : Nat} (h : off n k = true) : (ndV n)[5]? = some (.int ((lastWay n : Nat) : Int)) := by
  cases n <;> simp [off] at h <;> rfl
section
variable {P : Program} {w : World} {K : Fr} {mg : Str → Option Value} {base : Heap}
def spLaid (K : Fr) : Sp := fun vs H Q _ => ∃ (p : Addr) (g : List (Nd Op)), vs = [.ref p] ∧ GrAt K H p g ∧ Wf g ∧ g.length ≤ 40 ∧
  ∀ r H', Same H H' → H r = none → (∃ us, H' r = some (.lst us) ∧ All2 (RwAt K H') us (laid g)) → Q (.ref r) H'
theorem scLaid : FnScope ["graph", "firsts", "many", "k", "node", "rows"] ["graph"] (defScope sLaid) := ⟨rfl, rfl, rfl, by decide +kernel, rfl, by decide +kernel, by decide +kernel⟩
theorem ok_laid {f fT fR fW : Addr} {fd fdT fdR fdW : FuncData} (F : Fun K "laid_out" "laid_out" sLaid f fd)
    (FT : Fun K "turns_off" "turns_off" sTurns fT fdT) (bT : Binds K fdT ["node", "k"] []) (mT : mg "turns_off" = some (.ref fT))
    (FR : Fun K "row_of" "row_of" sRowOf fR fdR) (bR : Binds K fdR ["node", "at", "firsts"] []) (mR : mg "row_of" = some (.ref fR))
    (FW : Fun K "ways" "ways" sWays fW fdW) (bW : Binds K fdW ["node"] []) (mW : mg "ways" = some (.ref fW)) (ml : mg "len" = none) (mi : mg "int" = none) (me : mg "enumerate" = none) :
    FnOk P w K mg base CX0 3 f fd ["graph"] (spLaid K) := by
  have GT : FnOk P w K mg base CX0 2 fT fdT ["node", "k"] (spTurns K) := ok_turns FT FW bW mW ml
  have GR : FnOk P w K mg base CX0 1 fR fdR ["node", "at", "firsts"] (spRowOf K) := ok_rowOf FR
  refine F.ok scLaid (fun vs H Q E h => ?_) (fun cdv A outer s H vs Q E hr h => ?_)
  · obtain ⟨p, g, rfl, _⟩ := h
    rfl
  obtain ⟨p, g, rfl, hG, hw, h40, q⟩ := h
  have hr1 : Room 1 _ := hr.mono (by decide)
  refine ⟨_, pss_cons (ps_set (i := 1) scLaid.nd rfl (.inl rfl) (pe_lst pa_nil)) (pss_cons (ps_set (i := 2) scLaid.nd rfl (.inl rfl) pe_int)
    (pss_cons (ps_for PassesOwn.never rfl (pi_enum (by rfl) me (pa_cons (pv 0) pa_nil)) (pg_tup rfl (pgs_cons (pg_name (i := 3) scLaid.nd rfl (.inl rfl)) (pgs_cons (pg_name (i := 4) scLaid.nd rfl (.inl rfl)) pgs_nil)))
      (pss_cons (ps_expr (pe_bm PySem.F.plainAttrs_list PySem.F.slot_list_append PySem.F.type_list_append mt_append (pv 1) (pa_cons (pv 2) pa_nil)))
      (pss_one (ps_aug (i := 2) scLaid.nd rfl (.inl rfl) (pe_op op_add pe_int (pe_callTy call_int1 (by rfl) mi (by decide +kernel) (pa_cons (pe_call GT hr (by rfl) mT FT.kp bT .nil pass0 (pa_cons (pv 4) (pa_cons (pv 3) pa_nil))) pa_nil))) ip_add))))
    (pss_cons (ps_set (i := 5) scLaid.nd rfl (.inl rfl) (pe_lst pa_nil))
    (pss_cons (ps_for PassesOwn.never rfl (pi_enum (by rfl) me (pa_cons (pv 0) pa_nil)) (pg_tup rfl (pgs_cons (pg_name (i := 3) scLaid.nd rfl (.inl rfl)) (pgs_cons (pg_name (i := 4) scLaid.nd rfl (.inl rfl)) pgs_nil)))
      (pss_cons (ps_expr (pe_bm PySem.F.plainAttrs_list PySem.F.slot_list_append PySem.F.type_list_append mt_append (pv 5) (pa_cons (pe_call GR hr1 (by rfl) mR FR.kp bR .nil pass0 (pa_cons (pv 4) (pa_cons (pe_ix ix_list (pv 1) (pv 3) (fun _ _ => rfl)) (pa_cons (pv 1) pa_nil)))) pa_nil)))
      (pss_one (ps_if (pt_val (pe_call GT hr (by rfl) mT FT.kp bT .nil pass0 (pa_cons (pv 4) (pa_cons (pv 3) pa_nil))))
        (pss_one (ps_expr (pe_bm PySem.F.plainAttrs_list PySem.F.slot_list_append PySem.F.type_list_append mt_append (pv 5) (pa_cons (pe_tup (pa_cons (pe_op op_add (pe_ix ix_list (pv 1) (pv 3) (fun _ _ => rfl)) pe_int) (pa_cons pe_str (pa_cons (pe_ix ix_list (pv 1) (pe_ix ix_tup (pv 4) pe_int (fun _ _ => rfl)) (fun _ _ => rfl)) pa_nil)))) pa_nil)))) pss_nil))))
    (pss_one (ps_ret (pv 5))))))), ?_⟩
  -- firsts = [], many = 0
  refine ⟨small (n := 0) (by decide), fun fl hf => ?_⟩
  obtain ⟨vs, hS, hA⟩ := id hG
  have s1 : Same H (upd H fl (.lst [])) := same_new hf
  refine ⟨_, rfl, p, vs, rfl, s1.seq hS, for_enum (K := K) (a := p) (xs := vs) (fun i σ H' => ∃ y3 y4, σ = [some (.ref p), some (.ref fl), some (.int ((first g i : Nat) : Int)), y3, y4, none] ∧ Same H H' ∧ H' fl = some (.lst (intsV ((List.range i).map (first g)))))
    ⟨none, none, rfl, s1, upd_same⟩ (fun i σ H' _ ⟨_, _, _, sm, _⟩ => sm.seq hS) ?_ ?_⟩
  · rintro i v σ H1 T hv ⟨y3, y4, rfl, sm, hfl⟩ nT
    obtain ⟨n, hn, hvn⟩ := hA.get' hv
    have hi : i < g.length := (List.getElem?_eq_some_iff.mp hn).1
    have sT : Same H1 (upd H1 T (.tup [.int ((i : Nat) : Int), v])) := same_new nT
    refine ⟨T, _, rfl, .inl (.inl upd_same), rfl, _, _, rfl, _, _, rfl, rfl, ?_⟩
    have hfl2 := sT _ _ hfl
    refine ⟨_, rfl, .inl ⟨rfl, _, SqL.of hfl2⟩, _, rfl, fl, _, _, rfl, rfl, hfl2, ?_, ?_⟩
    · unfold intsV
      rw [List.length_map, List.length_map, List.length_range]
      exact small1000 (by omega)
    have s3 : Same H (upd (upd H1 T (.tup [.int ((i : Nat) : Int), v])) fl (.lst (intsV ((List.range i).map (first g)) ++ [V.int ((first g i : Nat) : Int)]))) := same_put (sm.trans sT) hf
    refine ⟨_, rfl, _, rfl, _, rfl, v, n, i, rfl, (imm_same s3).tup hvn, fun H2 s4 => ?_⟩
    refine .inr ⟨_, rfl, _, _, rfl, rfl, _, _, rfl, rfl, ?_⟩
    refine ⟨some (.int ((i : Nat) : Int)), some v, ?_, s3.trans s4, ?_⟩
    · rw [← first_succ hn]
      rfl
    · rw [← firsts_snoc]
      exact s4 _ _ upd_same
  · rintro σ H1 ⟨y3, y4, rfl, sm, hfl⟩
    rw [hA.len] at hfl
    refine ⟨small (n := 0) (by decide), fun rl hrl => ?_⟩
    have nfr : fl ≠ rl := ne_of_none hfl hrl
    have hrl0 : H rl = none := sm.free hrl
    have s2 : Same H (upd H1 rl (.lst [])) := sm.trans (same_new hrl)
    refine ⟨_, rfl, p, vs, rfl, s2.seq hS, for_enum (K := K) (a := p) (xs := vs) (fun i σ H' => ∃ y2 y3 y4 us, σ = [some (.ref p), some (.ref fl), y2, y3, y4, some (.ref rl)] ∧ Same H H' ∧ H' fl = some (.lst (firstsOf g)) ∧ H' rl = some (.lst us) ∧ All2 (RwAt K H') us (laidTo g i))
      ⟨_, _, _, [], rfl, s2, by rw [upd_ne nfr]; exact hfl, upd_same, All2.nil⟩ (fun i σ H' _ ⟨_, _, _, _, _, sm, _⟩ => sm.seq hS) ?_ ?_⟩
    · rintro i v σ H2 T hv ⟨y2, y3, y4, us, rfl, sm2, hfl, hrl2, hU⟩ nT
      obtain ⟨n, hn, hvn⟩ := hA.get' hv
      have hi : i < g.length := (List.getElem?_eq_some_iff.mp hn).1
      have hwn := hw i n hn
      have sT : Same H2 (upd H2 T (.tup [.int ((i : Nat) : Int), v])) := same_new nT
      refine ⟨T, _, rfl, .inl (.inl upd_same), rfl, _, _, rfl, _, _, rfl, rfl, ?_⟩
      have hul : us.length ≤ 80 := by
        rw [hU.len, laidTo_len g i (by omega)]
        have := first_le g i
        omega
      have hflT := sT _ _ hfl
      have sH := sm2.trans sT
      refine ⟨_, rfl, .inl ⟨rfl, _, SqL.of (sT _ _ hrl2)⟩, ?_⟩
      refine ⟨_, rfl, _, rfl, _, rfl, fl, _, _, _, rfl, rfl, SqL.of hflT, atI_nat (firsts_at hi), _, rfl, v, n, g, i, fl, rfl, (imm_same sH).tup hvn, SqL.of hflT, hwn, fun u H3 s3 hu => ?_⟩
      have s03 := sH.trans s3
      have hrl3 := s3 _ _ (sT _ _ hrl2)
      have hU3 : All2 (RwAt K H3) us (laidTo g i) := ((imm_same (sT.trans s3)).all hU)
      refine ⟨rl, us, u, rfl, rfl, hrl3, small1000 (by omega), ?_⟩
      have i4 : Imm H3 (upd H3 rl (.lst (us ++ [u]))) := imm_lst hrl3
      have s04 : Same H (upd H3 rl (.lst (us ++ [u]))) := same_put s03 hrl0
      have hfl3 := s3 _ _ hflT
      refine ⟨_, rfl, _, rfl, v, n, i, rfl, (imm_same s04).tup hvn, fun H5 s5 => ⟨_, rfl, ?_⟩⟩
      have s05 := s04.trans s5
      have hrl5 : H5 rl = some (.lst (us ++ [u])) := s5 _ _ upd_same
      have hU5 : All2 (RwAt K H5) (us ++ [u]) (laidTo g i ++ [(((first g i : Nat) : Int), row1 g i n)]) := ((imm_same s5).all ((i4.all hU3).snoc (i4.tup hu)))
      have hfl5 : H5 fl = some (.lst (firstsOf g)) := s5 _ _ (by rw [upd_ne nfr]; exact hfl3)
      obtain ⟨a, rfl, hTa⟩ := (imm_same s05).tup hvn
      refine ite2 (fun ho => ?_) (fun ho => ?_)
      · refine ⟨_, rfl, .inl ⟨rfl, _, SqL.of hrl5⟩, ?_⟩
        have hlw : lastWay n < g.length := hwn _ (lastWay_mem ho)
        refine ⟨_, rfl, _, rfl, fl, _, _, _, rfl, rfl, SqL.of hfl5, atI_nat (firsts_at hi), _, _, rfl, rfl, ?_⟩
        refine ⟨_, rfl, _, rfl, a, _, 5, _, rfl, rfl, hTa, atI_nat (j := 5) (five ho), fl, _, _, _, rfl, rfl, SqL.of hfl5, atI_nat (firsts_at hlw), small (n := 3) (by decide), fun t ht => ?_⟩
        have nrt : rl ≠ t := ne_of_none hrl5 ht
        have sT6 : Same H5 (upd H5 t (.tup [.int (((first g i : Nat) : Int) + 1), .str "jump", .int ((first g (lastWay n) : Nat) : Int)])) := same_new ht
        refine ⟨rl, us ++ [u], .ref t, rfl, rfl, sT6 _ _ hrl5, small1000 (by rw [List.length_append, List.length_singleton]; omega), ?_⟩
        have i6 := (imm_same sT6).trans (imm_lst (o := .lst (us ++ [u] ++ [.ref t])) (sT6 _ _ hrl5))
        refine ⟨_, _, _, us ++ [u] ++ [.ref t], rfl, same_put (s05.trans sT6) hrl0, ?_, upd_same, ?_⟩
        · rw [upd_ne nfr]
          exact sT6 _ _ hfl5
        · rw [laidTo_succ hn, rowsAt_on ho]
          have e : laidTo g i ++ [(((first g i : Nat) : Int), row1 g i n), (((first g i : Nat) : Int) + 1, Rw.jump (first g (lastWay n) : Nat))] = laidTo g i ++ [(((first g i : Nat) : Int), row1 g i n)] ++ [(((first g i : Nat) : Int) + 1, Rw.jump (first g (lastWay n) : Nat))] := by simp
          rw [e]
          refine (i6.all hU5).snoc ⟨t, rfl, .inl (.inl ?_)⟩
          rw [upd_ne nrt.symm]
          exact upd_same
      · have ho : off n i = false := by simpa using ho
        refine ⟨_, _, _, us ++ [u], rfl, s05, hfl5, hrl5, ?_⟩
        rw [laidTo_succ hn, rowsAt_off ho]
        exact hU5
    · rintro σ H2 ⟨y2, y3, y4, us, rfl, sm2, hfl, hrl2, hU⟩
      refine ⟨_, rfl, q rl H2 sm2 hrl0 ⟨us, hrl2, ?_⟩⟩
      rw [hA.len] at hU
      exact hU
end
end K15

namespace K15
open PySem L2
/-! ### dicts whose keys are numbers, all True -/
def setD (S : List Nat) : List (Key × V) := S.map fun k => (Sum.inl ((k : Nat) : Int), V.bl true)
theorem valV_setD : ∀ (S : List Nat) (k : Nat), valV (setD S) (Sum.inl ((k : Nat) : Int) : Key) = if k ∈ S then some (V.bl true) else none
  | [], k => rfl
  | a :: r, k => by
    show valV (((Sum.inl ((a : Nat) : Int) : Key), V.bl true) :: setD r) _ = _
    by_cases h : a = k
    · subst h
      rw [valV_pos rfl, if_pos List.mem_cons_self]
    · rw [valV_neg (fun e => h (by have := Sum.inl.inj e; omega)), valV_setD r k]
      have : k ∈ a :: r ↔ k ∈ r := by
        rw [List.mem_cons]
        exact ⟨fun z => z.resolve_left (fun e => h e.symm), fun z => .inr z⟩
      by_cases hk : k ∈ r
      · rw [if_pos hk, if_pos (this.mpr hk)]
      · rw [if_neg hk, if_neg (fun z => hk (this.mp z))]
theorem setD_put {S : List Nat} {k : Nat} (h : k ∉ S) : putK (setD S) (Sum.inl ((k : Nat) : Int) : Key) (V.bl true) = setD (S ++ [k]) := by
  rw [putK_new _ (by rw [valV_setD, if_neg h])]
  unfold setD
  rw [List.map_append]
  rfl
theorem setD_len (S : List Nat) : (setD S).length = S.length := List.length_map _
theorem dget_setD {H : Hp} {d : Addr} {S : List Nat} (hd : H d = some (.dK (setD S))) (k : Nat) : DGet H d (.int ((k : Nat) : Int)) (if k ∈ S then some (V.bl true) else none) := by
  have h := DGet.k (k := (Sum.inl ((k : Nat) : Int) : Key)) hd
  rw [valV_setD] at h
  exact h
theorem dput_setD {H : Hp} {d : Addr} {S : List Nat} {k : Nat} (hd : H d = some (.dK (setD S))) (hk : k ∉ S) (hl : S.length ≤ 1000) : DPut H d (.int ((k : Nat) : Int)) (V.bl true) (upd H d (.dK (setD (S ++ [k])))) := by
  have h := DPut.k (k := (Sum.inl ((k : Nat) : Int) : Key)) (v := V.bl true) hd (by rw [setD_len]; exact small1000 hl)
  rw [setD_put hk] at h
  exact h
/-! ### the places of rows -/
def PlAt (H : Hp) (d : Addr) (R : List (Int × Rw Op)) : Prop := ∃ kvs, H d = some (.dK kvs) ∧ ∀ (i : Nat) (m : Int) (r : Rw Op), R[i]? = some (m, r) → valV kvs (Sum.inl m : Key) = some (.int ((i : Nat) : Int))
theorem PlAt.get {H : Hp} {d : Addr} {R : List (Int × Rw Op)} (h : PlAt H d R) {t : Int} {j : Nat} (ha : At R t j) : DGet H d (.int t) (some (.int ((j : Nat) : Int))) := by
  obtain ⟨kvs, hd, hv⟩ := h
  obtain ⟨q, e⟩ := ha
  exact dget_of hd (hv j t q e)
theorem same_pl {H H' : Hp} {d : Addr} {R : List (Int × Rw Op)} (s : Same H H') (h : PlAt H d R) : PlAt H' d R := by
  obtain ⟨kvs, hd, hv⟩ := h
  exact ⟨kvs, s _ _ hd, hv⟩
/-- a row's word tells whether it is a jump -/
theorem row_kind (x : Int × Rw Op) : ∃ z, (rwV x)[1]? = some (V.str z) ∧ ((V.str z = V.str "jump" ∧ ∃ t, x.2 = .jump t) ∨ (¬ V.str z = V.str "jump" ∧ ∀ t, x.2 ≠ .jump t)) := by
  obtain ⟨m, r⟩ := x
  cases r with
  | sum nm a s b => exact ⟨_, rfl, .inr ⟨sum_jump, fun t e => by cases e⟩⟩
  | test a s b t => exact ⟨_, rfl, .inr ⟨test_jump, fun t e => by cases e⟩⟩
  | jump t => exact ⟨_, rfl, .inl ⟨rfl, t, rfl⟩⟩
  | fin => exact ⟨_, rfl, .inr ⟨end_jump, fun t e => by cases e⟩⟩
theorem jm_of {R : List (Int × Rw Op)} {i : Nat} {x : Int × Rw Op} (h : R[i]? = some x) {t : Int} (e : x.2 = .jump t) : R[i]? = some (x.1, .jump t) := by
  rw [h, ← e]
theorem not_jm {R : List (Int × Rw Op)} {i : Nat} {x : Int × Rw Op} (h : R[i]? = some x) (e : ∀ t, x.2 ≠ .jump t) : ¬ Jm R i := fun ⟨m, t, z⟩ => by
  rw [h] at z
  exact e t (by rw [Option.some.inj z])
theorem tj_in {R : List (Int × Rw Op)} (hR : RowsOk R) {a i : Nat} (ha : a < R.length) (hj : ∀ k, k < i → Jm R (tj R a k)) : ∀ k, k ≤ i → tj R a k < R.length
  | 0, _ => ha
  | k + 1, h => by
    obtain ⟨m, t, e⟩ := hj k h
    exact (nxt_ok hR e).2
section
variable {P : Program} {w : World} {K : Fr} {mg : Str → Option Value} {base : Heap}
def spCome (K : Fr) : Sp := fun vs H Q _ => ∃ (p d : Addr) (a : Nat) (R : List (Int × Rw Op)), vs = [.ref p, .ref d, .int ((a : Nat) : Int)] ∧ RwsAt K H p R ∧ PlAt H d R ∧ RowsOk R ∧ R.length ≤ 100 ∧ a < R.length ∧
  ∀ (r : Nat) H', Same H H' → ComeTo R a r → Q (.int ((r : Nat) : Int)) H'
theorem scCome : FnScope ["rows", "places", "at", "seen", "first", "here"] ["rows", "places", "at"] (defScope sCome) := ⟨rfl, rfl, rfl, by decide +kernel, rfl, by decide +kernel, by decide +kernel⟩
theorem ok_come {f : Addr} {fd : FuncData} (F : Fun K "come_to" "come_to" sCome f fd) (mm : mg "min" = none) : FnOk P w K mg base CX0 1 f fd ["rows", "places", "at"] (spCome K) := by
  refine F.ok scCome (fun vs H Q E h => ?_) (fun cdv A outer s H vs Q E hr h => ?_)
  · obtain ⟨p, d, a, R, rfl, _⟩ := h
    rfl
  obtain ⟨p, d, a, R, rfl, ⟨vs, hS, hA⟩, hP, hR, h100, ha, q⟩ := h
  have hu := hu_of hr
  refine ⟨_, pss_cons (ps_set (i := 3) scCome.nd rfl (.inl rfl) pe_dnewK)
    (pss_cons (ps_while PassesOwn.never (PW.pt (pw_and (pt_cmpR op_eq (pe_ix ix_tup (pe_ix ix_list (pv 0) (pv 2) (fun _ _ => rfl)) pe_int (fun _ _ => rfl)) pe_str (nomark _)) (pw_and1 (pt_cmp (pc_dnotin hu (pv 2) (pv 3))))))
      (pss_cons (ps_dput hu (pv 3) (pv 2) pe_bl rfl)
      (pss_one (ps_set (i := 2) scCome.nd rfl (.inl rfl) (pe_dget hu (pv 1) (pe_ix ix_tup (pe_ix ix_list (pv 0) (pv 2) (fun _ _ => rfl)) pe_int (fun _ _ => rfl)) (fun _ _ => rfl))))))
    (pss_cons (ps_if (pt_cmpR op_ne (pe_ix ix_tup (pe_ix ix_list (pv 0) (pv 2) (fun _ _ => rfl)) pe_int (fun _ _ => rfl)) pe_str (nomark _)) (pss_one (ps_ret (pv 2))) pss_nil)
    (pss_cons (ps_set (i := 4) scCome.nd rfl (.inl rfl) (pv 2))
    (pss_cons (ps_set (i := 5) scCome.nd rfl (.inl rfl) (pe_dget hu (pv 1) (pe_ix ix_tup (pe_ix ix_list (pv 0) (pv 2) (fun _ _ => rfl)) pe_int (fun _ _ => rfl)) (fun _ _ => rfl)))
    (pss_cons (ps_while PassesOwn.never (pt_cmpR op_ne (pv 5) (pv 2) (nomark _))
      (pss_cons (ps_set (i := 4) scCome.nd rfl (.inl rfl) (pe_callB (call_min2 rfl) (by rfl) mm (by decide +kernel) (pa_cons (pv 4) (pa_cons (pv 5) pa_nil))))
      (pss_one (ps_set (i := 5) scCome.nd rfl (.inl rfl) (pe_dget hu (pv 1) (pe_ix ix_tup (pe_ix ix_list (pv 0) (pv 5) (fun _ _ => rfl)) pe_int (fun _ _ => rfl)) (fun _ _ => rfl))))))
    (pss_one (ps_ret (pv 4)))))))), ?_⟩
  intro sd hsd
  -- a row, read
  have row : ∀ {H' : Hp}, Same H H' → ∀ (i : Nat), i < R.length → ∃ (x : Int × Rw Op) (b : Addr), R[i]? = some x ∧ vs[i]? = some (.ref b) ∧ SqT K H' b (rwV x) := fun {H'} sm i hi => by
    have e := List.getElem?_eq_getElem hi
    obtain ⟨v, hv, b, rfl, hb⟩ := hA.get e
    exact ⟨_, b, e, hv, same_at sm hb⟩
  have s1 : Same H (upd H sd (.dK [])) := same_new hsd
  refine ⟨fun m σ H' => ∃ (i : Nat) (S : List Nat) (y4 y5 : Option V), m = 100 - i ∧ σ = [some (.ref p), some (.ref d), some (.int ((tj R a i : Nat) : Int)), some (.ref sd), none, none] ∧ Same H H' ∧ H' sd = some (.dK (setD S)) ∧
      S = (List.range i).map (tj R a) ∧ S.Nodup ∧ (∀ k, k < i → Jm R (tj R a k)), ⟨100, 0, [], none, none, rfl, rfl, s1, upd_same, rfl, List.nodup_nil, fun k hk => absurd hk (Nat.not_lt_zero _)⟩, ?_⟩
  rintro m σ H1 ⟨i, S, y4, y5, rfl, rfl, sm, hsd1, hSe, hnd, hj⟩
  have hcur : tj R a i < R.length := tj_in hR ha hj i (Nat.le_refl _)
  have hSl : S.length = i := by rw [hSe, List.length_map, List.length_range]
  have hile : i ≤ R.length := by
    have := nodup_le R.length S hnd (fun k hk => by
      rw [hSe] at hk
      obtain ⟨j, hj', rfl⟩ := List.mem_map.mp hk
      exact tj_in hR ha hj j (Nat.le_of_lt (List.mem_range.mp hj')))
    omega
  obtain ⟨x, b, ex, hv, hb⟩ := row sm _ hcur
  obtain ⟨z, hz, hk⟩ := row_kind x
  have rd : ∀ {H' : Hp}, Same H1 H' → SqL K H' p vs ∧ SqT K H' b (rwV x) := fun s' => ⟨(sm.trans s').seq hS, same_at s' hb⟩
  refine ⟨_, rfl, _, rfl, p, vs, _, _, rfl, rfl, sm.seq hS, atI_nat hv, b, _, 1, _, rfl, rfl, hb, atI_nat (j := 1) hz, rfl, _, rfl, ?_⟩
  rcases hk with ⟨ez, t, et⟩ | ⟨ez, et⟩
  · -- a jump
    have ej := jm_of ex et
    have hx2 : (rwV x)[2]? = some (.int t) := by
      obtain ⟨x1, x2⟩ := x
      have et : x2 = .jump t := et
      subst et
      rfl
    obtain ⟨hat, hnlt⟩ := nxt_ok hR ej
    refine ifEq ez ?_
    refine ⟨_, rfl, _, rfl, sd, _, rfl, dget_setD hsd1 (tj R a i), _, rfl, ?_⟩
    by_cases hmem : tj R a i ∈ S
    · -- seen: the ring
      rw [if_pos hmem]
      refine iteF ?_
      refine ⟨_, rfl, _, rfl, p, vs, _, _, rfl, rfl, sm.seq hS, atI_nat hv, b, _, 1, _, rfl, rfl, hb, atI_nat (j := 1) hz, rfl, _, rfl, ?_⟩
      refine ifEqN ez ?_
      refine ⟨_, rfl, ?_⟩
      refine ⟨_, rfl, _, rfl, _, rfl, p, vs, _, _, rfl, rfl, sm.seq hS, atI_nat hv, b, _, 2, _, rfl, rfl, hb, atI_nat (j := 2) hx2, d, _, rfl, (same_pl sm hP).get hat, ?_⟩
      -- the place on the way at which the ring begins
      have hring : ∃ j, j < i ∧ tj R a j = tj R a i := by
        rw [hSe] at hmem
        obtain ⟨j, hj', e⟩ := List.mem_map.mp hmem
        exact ⟨j, List.mem_range.mp hj', e⟩
      obtain ⟨j, hji, ejr⟩ := hring
      have rj : ∀ k, k < i - j → Jm R (tj R (tj R a i) k) := fun k hk => by
        rw [← ejr, tj_add]
        exact hj _ (by omega)
      have rend : tj R (tj R a i) (i - j) = tj R a i := by
        have h1 := tj_add R a j (i - j)
        have h2 : j + (i - j) = i := by omega
        rw [h2, ejr] at h1
        exact h1
      refine ⟨fun m σ H' => ∃ (k fi : Nat), m = (i - j) - k ∧ 1 ≤ k ∧ k ≤ i - j ∧ fi < R.length ∧ (nxt R (tj R a i) = tj R a i → fi = tj R a i) ∧ σ = [some (.ref p), some (.ref d), some (.int ((tj R a i : Nat) : Int)), some (.ref sd), some (.int ((fi : Nat) : Int)), some (.int ((tj R (tj R a i) k : Nat) : Int))] ∧ Same H H',
        ⟨(i - j) - 1, 1, tj R a i, rfl, Nat.le_refl _, by omega, hcur, fun _ => rfl, rfl, sm⟩, ?_⟩
      rintro m σ H2 ⟨k, fi, rfl, hk1, hk2, hfi, hf1, rfl, sm2⟩
      refine ⟨_, rfl, _, rfl, rfl, _, rfl, ?_⟩
      by_cases hend : tj R (tj R a i) k = tj R a i
      · refine ifEqN (by rw [hend]) ?_
        exact ⟨_, rfl, q fi H2 sm2 (come_fin hR rfl hcur hj (.inr ⟨⟨_, _, ej⟩, ⟨j, hji⟩, hfi, hf1⟩))⟩
      · have hklt : k < i - j := by
          rcases Nat.lt_or_ge k (i - j) with z | z
          · exact z
          · have : k = i - j := by omega
            rw [this] at hend
            exact absurd rend hend
        obtain ⟨m2, t2, e2⟩ := rj k hklt
        obtain ⟨hat2, hn2⟩ := nxt_ok hR e2
        have hhere : tj R (tj R a i) k < R.length := (List.getElem?_eq_some_iff.mp e2).1
        refine ifNeN (fun e => hend (by have := V.int.inj e; omega)) ?_
        obtain ⟨x', b', ex', hv', hb'⟩ := row sm2 _ hhere
        rw [e2] at ex'
        have ex' := Option.some.inj ex'
        subst ex'
        refine ⟨fun σ' H' => ∃ fi' : Nat, fi' < R.length ∧ σ' = [some (.ref p), some (.ref d), some (.int ((tj R a i : Nat) : Int)), some (.ref sd), some (.int ((fi' : Nat) : Int)), some (.int ((tj R (tj R a i) (k + 1) : Nat) : Int))] ∧ Same H H',
          fun σ' H' ⟨fi', h1, h2, h3⟩ => ⟨(i - j) - (k + 1), by omega, k + 1, fi', rfl, by omega, by omega, h1, fun hfix => absurd (tj_fix hfix k) hend, h2, h3⟩, ?_⟩
        refine ⟨_, rfl, _, rfl, _, _, rfl, ?_⟩
        refine ⟨_, rfl, _, rfl, _, rfl, p, vs, _, _, rfl, rfl, sm2.seq hS, atI_nat hv', b', _, 2, _, rfl, rfl, hb', atI_nat (j := 2) rfl, d, _, rfl, (same_pl sm2 hP).get hat2, ?_⟩
        refine ⟨if tj R (tj R a i) k < fi then tj R (tj R a i) k else fi, ?_, ?_, sm2⟩
        · split <;> omega
        · have em : (if ((tj R (tj R a i) k : Nat) : Int) < ((fi : Nat) : Int) then ((tj R (tj R a i) k : Nat) : Int) else ((fi : Nat) : Int)) = (((if tj R (tj R a i) k < fi then tj R (tj R a i) k else fi) : Nat) : Int) := by
            by_cases hc : tj R (tj R a i) k < fi
            · rw [if_pos hc, if_pos (by omega)]
            · rw [if_neg hc, if_neg (by omega)]
          rw [← em]
          rfl
    · -- a jump not seen yet
      rw [if_neg hmem]
      refine iteT ?_
      refine ⟨fun σ' H' => σ' = [some (.ref p), some (.ref d), some (.int ((tj R a (i + 1) : Nat) : Int)), some (.ref sd), none, none] ∧ Same H H' ∧ H' sd = some (.dK (setD (S ++ [tj R a i]))),
        fun σ' H' ⟨h1, h2, h3⟩ => ⟨100 - (i + 1), ?_, i + 1, S ++ [tj R a i], none, none, rfl, h1, h2, h3, ?_, ?_, ?_⟩, ?_⟩
      · have hnd2 : (S ++ [tj R a i]).Nodup := nd_snoc hnd hmem
        have := nodup_le R.length (S ++ [tj R a i]) hnd2 (fun k hk => by
          rcases List.mem_append.mp hk with z | z
          · rw [hSe] at z
            obtain ⟨j, hj', rfl⟩ := List.mem_map.mp z
            exact tj_in hR ha hj j (Nat.le_of_lt (List.mem_range.mp hj'))
          · rw [List.mem_singleton.mp z]
            exact hcur)
        rw [List.length_append, List.length_singleton, hSl] at this
        omega
      · rw [List.range_succ, List.map_append, hSe]
        rfl
      · exact nd_snoc hnd hmem
      · intro k hk
        rcases Nat.lt_succ_iff_lt_or_eq.mp hk with z | z
        · exact hj k z
        · rw [z]
          exact ⟨_, _, ej⟩
      · refine ⟨_, rfl, _, rfl, sd, _, rfl, dput_setD hsd1 hmem (by omega), ?_⟩
        have s2 : Same H (upd H1 sd (.dK (setD (S ++ [tj R a i])))) := same_put sm hsd
        refine ⟨_, rfl, _, rfl, _, rfl, p, vs, _, _, rfl, rfl, s2.seq hS, atI_nat hv, b, _, 2, _, rfl, rfl, ?_, atI_nat (j := 2) hx2, d, _, rfl, (same_pl s2 hP).get hat, ?_⟩
        · exact (imm_dK hsd1).at hb
        · exact ⟨rfl, s2, upd_same⟩
  · -- no jump
    refine ifNe ez ?_
    refine iteF ?_
    refine ⟨_, rfl, _, rfl, p, vs, _, _, rfl, rfl, sm.seq hS, atI_nat hv, b, _, 1, _, rfl, rfl, hb, atI_nat (j := 1) hz, rfl, _, rfl, ?_⟩
    refine ifNeN ez ?_
    exact ⟨_, rfl, q _ H1 sm (come_fin hR rfl hcur hj (.inl ⟨not_jm ex et, rfl⟩))⟩
end
end K15

namespace K15
open PySem L2
section
variable {P : Program} {w : World} {K : Fr} {mg : Str → Option Value} {base : Heap}
/-! ### node_of -/
def spNodeOf (K : Fr) : Sp := fun vs H Q _ => ∃ (p d : Addr) (a : Nat) (R : List (Int × Rw Op)), vs = [.ref p, .ref d, .int ((a : Nat) : Int)] ∧ RwsAt K H p R ∧ PlAt H d R ∧ RowsOk R ∧ R.length ≤ 100 ∧ a < R.length ∧
  ∀ u H' n, Same H H' → NdAt K H' u n → NodeOf R a n → Q u H'
theorem scNodeOf : FnScope ["rows", "places", "at", "row", "yes"] ["rows", "places", "at"] (defScope sNodeOf) := ⟨rfl, rfl, rfl, by decide +kernel, rfl, by decide +kernel, by decide +kernel⟩
theorem succ_int (a : Nat) : V.int (((a : Nat) : Int) + 1) = V.int (((a + 1 : Nat) : Nat) : Int) := congrArg V.int (by omega)
theorem ok_nodeOf {f fC : Addr} {fd fdC : FuncData} (F : Fun K "node_of" "node_of" sNodeOf f fd) (FC : Fun K "come_to" "come_to" sCome fC fdC) (bC : Binds K fdC ["rows", "places", "at"] []) (mC : mg "come_to" = some (.ref fC)) (mm : mg "min" = none) :
    FnOk P w K mg base CX0 2 f fd ["rows", "places", "at"] (spNodeOf K) := by
  have GC : FnOk P w K mg base CX0 1 fC fdC ["rows", "places", "at"] (spCome K) := ok_come FC mm
  refine F.ok scNodeOf (fun vs H Q E h => ?_) (fun cdv A outer s H vs Q E hr h => ?_)
  · obtain ⟨p, d, a, R, rfl, _⟩ := h
    rfl
  obtain ⟨p, d, a, R, rfl, hRw, hP, hR, h100, ha, q⟩ := h
  have hu := hu_of hr
  refine ⟨_, pss_cons (ps_set (i := 3) scNodeOf.nd rfl (.inl rfl) (pe_ix ix_list (pv 0) (pv 2) (fun _ _ => rfl)))
    (pss_cons (ps_if (pt_cmpR op_eq (pe_ix ix_tup (pv 3) pe_int (fun _ _ => rfl)) pe_str (nomark _))
      (pss_one (ps_ret (pe_tup (pa_cons pe_str (pa_cons (pe_ix ix_tup (pv 3) pe_int (fun _ _ => rfl)) (pa_cons (pe_ix ix_tup (pv 3) pe_int (fun _ _ => rfl)) (pa_cons (pe_ix ix_tup (pv 3) pe_int (fun _ _ => rfl)) (pa_cons (pe_ix ix_tup (pv 3) pe_int (fun _ _ => rfl))
        (pa_cons (pe_call GC hr (by rfl) mC FC.kp bC .nil pass0 (pa_cons (pv 0) (pa_cons (pv 1) (pa_cons (pe_op op_add (pv 2) pe_int) pa_nil)))) pa_nil))))))))) pss_nil)
    (pss_cons (ps_if (pt_cmpR op_eq (pe_ix ix_tup (pv 3) pe_int (fun _ _ => rfl)) pe_str (nomark _))
      (pss_cons (ps_set (i := 4) scNodeOf.nd rfl (.inl rfl) (pe_call GC hr (by rfl) mC FC.kp bC .nil pass0 (pa_cons (pv 0) (pa_cons (pv 1) (pa_cons (pe_dget hu (pv 1) (pe_ix ix_tup (pv 3) pe_int (fun _ _ => rfl)) (fun _ _ => rfl)) pa_nil)))))
      (pss_one (ps_ret (pe_tup (pa_cons pe_str (pa_cons (pe_ix ix_tup (pv 3) pe_int (fun _ _ => rfl)) (pa_cons (pe_ix ix_tup (pv 3) pe_int (fun _ _ => rfl)) (pa_cons (pe_ix ix_tup (pv 3) pe_int (fun _ _ => rfl)) (pa_cons (pv 4)
        (pa_cons (pe_call GC hr (by rfl) mC FC.kp bC .nil pass0 (pa_cons (pv 0) (pa_cons (pv 1) (pa_cons (pe_op op_add (pv 2) pe_int) pa_nil)))) pa_nil)))))))))) pss_nil)
    (pss_cons (ps_if (pt_cmpR op_eq (pe_ix ix_tup (pv 3) pe_int (fun _ _ => rfl)) pe_str (nomark _)) (pss_one (ps_ret (pe_tup (pa_cons pe_str pa_nil)))) pss_nil)
    (pss_one (ps_ret (pe_tup (pa_cons pe_str pa_nil))))))), ?_⟩
  obtain ⟨vs, hS, hA⟩ := id hRw
  have er := List.getElem?_eq_getElem ha
  obtain ⟨v, hv, b, rfl, hb⟩ := hA.get er
  generalize R[a] = x at er hb
  obtain ⟨m, r⟩ := x
  refine ⟨_, rfl, _, rfl, p, vs, _, _, rfl, rfl, hS, atI_nat hv, ?_⟩
  cases r with
  | sum nm x s y =>
    refine ⟨_, rfl, b, _, 1, _, rfl, rfl, hb, rfl, rfl, _, rfl, ifEq rfl ?_⟩
    have hl := hR.last a _ _ er (.inl ⟨_, _, _, _, rfl⟩)
    refine ⟨_, rfl, b, _, 2, _, rfl, rfl, hb, rfl, _, rfl, b, _, 3, _, rfl, rfl, hb, rfl, _, rfl, b, _, 4, _, rfl, rfl, hb, rfl, _, rfl, b, _, 5, _, rfl, rfl, hb, rfl, ?_⟩
    refine ⟨_, rfl, _, rfl, _, rfl, _, _, rfl, rfl, p, d, a + 1, R, by rw [← succ_int]; rfl, hRw, hP, hR, h100, hl, fun z H1 s1 hc => ?_⟩
    refine ⟨small (n := 6) (by decide), fun t ht => ?_⟩
    exact q _ _ (.sum nm x s y z) (s1.trans (same_new ht)) ⟨t, rfl, .inl (.inl upd_same)⟩ (.sum er hc)
  | test x s y t =>
    refine ⟨_, rfl, b, _, 1, _, rfl, rfl, hb, rfl, rfl, _, rfl, ifNe test_sum ?_⟩
    refine ⟨_, rfl, b, _, 1, _, rfl, rfl, hb, rfl, rfl, _, rfl, ifEq rfl ?_⟩
    have hl := hR.last a _ _ er (.inr ⟨_, _, _, _, rfl⟩)
    obtain ⟨j, rj, ej⟩ := hR.goes a m _ t er rfl
    have hat : At R t j := ⟨rj, ej⟩
    have hjl := (List.getElem?_eq_some_iff.mp ej).1
    refine ⟨_, rfl, _, rfl, _, rfl, _, rfl, b, _, 5, _, rfl, rfl, hb, rfl, d, _, rfl, hP.get hat, p, d, j, R, rfl, hRw, hP, hR, h100, hjl, fun y1 H1 s1 hc1 => ?_⟩
    have hb1 := same_at s1 hb
    refine ⟨_, rfl, b, _, 2, _, rfl, rfl, hb1, rfl, _, rfl, b, _, 3, _, rfl, rfl, hb1, rfl, _, rfl, b, _, 4, _, rfl, rfl, hb1, rfl, _, rfl, ?_⟩
    refine ⟨_, rfl, _, rfl, _, rfl, _, _, rfl, rfl, p, d, a + 1, R, by rw [← succ_int]; rfl, same_rws s1 hRw, same_pl s1 hP, hR, h100, hl, fun z H2 s2 hc2 => ?_⟩
    refine ⟨small (n := 6) (by decide), fun t' ht => ?_⟩
    exact q _ _ (.test x s y y1 z) (s1.trans (s2.trans (same_new ht))) ⟨t', rfl, .inl (.inl upd_same)⟩ (.test er hat hc1 hc2)
  | jump t =>
    refine ⟨_, rfl, b, _, 1, _, rfl, rfl, hb, rfl, rfl, _, rfl, ifNe jump_sum ?_⟩
    refine ⟨_, rfl, b, _, 1, _, rfl, rfl, hb, rfl, rfl, _, rfl, ifNe jump_test ?_⟩
    refine ⟨_, rfl, b, _, 1, _, rfl, rfl, hb, rfl, rfl, _, rfl, ifNe jump_end ?_⟩
    refine ⟨small (n := 1) (by decide), fun t' ht => ?_⟩
    exact q _ _ .spin (same_new ht) ⟨t', rfl, .inl (.inl upd_same)⟩ (.spin er)
  | fin =>
    refine ⟨_, rfl, b, _, 1, _, rfl, rfl, hb, rfl, rfl, _, rfl, ifNe end_sum ?_⟩
    refine ⟨_, rfl, b, _, 1, _, rfl, rfl, hb, rfl, rfl, _, rfl, ifNe end_test ?_⟩
    refine ⟨_, rfl, b, _, 1, _, rfl, rfl, hb, rfl, rfl, _, rfl, ifEq rfl ?_⟩
    refine ⟨small (n := 1) (by decide), fun t' ht => ?_⟩
    exact q _ _ .fin (same_new ht) ⟨t', rfl, .inl (.inl upd_same)⟩ (.fin er)
end
end K15

namespace K15
open PySem PySem.Spec PyProof.Rows L2 RT
/-! ### list(an iterator that is its own iterator) -/
section
variable {prog : Program} {w : World} {A : Around} {E : Value → Shared → Prop} {s : Shared} {it : Addr} {T : String} {fp wr : List Addr} {n : Nat} {Pv : Nat → Value → Prop} {St : Nat → Heap → Prop}
/-- what is asked of such an iterator -/
structure SelfIt (prog : Program) (w : World) (T : String) (it : Addr) (fp wr : List Addr) (n : Nat) (Pv : Nat → Value → Prop) (St : Nat → Heap → Prop) : Prop where
  mem : it ∈ fp
  walk : ∀ A : Around, A.handled = none → Walks prog w A it fp wr n Pv St
  type : ∀ s : Shared, St 0 s.heap → s.TypeIs (.ref it) T
  noList : (Value.type T == Value.type "list") = false
  noTuple : (Value.type T == Value.type "tuple") = false
  hint : ∀ (A : Around) (E : Value → Shared → Prop) (s : Shared) (Q : Bool → Shared → Prop), A.handled = none → St 0 s.heap → (∀ b tn, Q b { s with toks := tn }) → wpAny (model prog w) A (Builtin.List.listLengthHint (.ref it)) Q E s
theorem self_extend {R : Result → Shared → Prop} (Jt : SelfIt prog w T it fp wr n Pv St) (nh : A.handled = none) (st0 : St 0 s.heap) (Z : Addr) (gf : Z ∉ fp) (ans : Value) (n0 : Nat) (gZ : s.heap.get? Z = some { cls := .type "list", data := .seq #[] n0 })
    (give : ∀ hp tn ac cn, (∀ b o, b ≠ Z → b ∉ wr → s.heap.get? b = some o → hp.get? b = some o) → hp.get? Z = some { cls := .type "list", dict := none, data := .seq ac cn, slots := #[] } → ItemsOf Pv ac n → R (.ok (.ret ans)) { s with heap := hp, toks := tn }) (hle : n ≤ sizeLine) :
    wpAny (model prog w) A.in1 (Builtin.List.listExtendWith (.ref Z) (.ref it) ans)
      (fun rr sn => match rr with | .done fl => R (.ok fl) sn | .again cn => cn.quiet = true ∧ codeAny (model prog w) A cn R sn) (fun e sn => R (.error e) sn) s := by
  have Wk := Jt.walk A.in1 nh
  have gi : Z ≠ it := fun e => gf (e ▸ Jt.mem)
  have turn : ∀ (h : Heap) (n1 tn : Nat), St 0 h → (∀ b o, b ≠ Z → s.heap.get? b = some o → h.get? b = some o) →
      h.get? Z = some { cls := .type "list", data := .seq #[] n1 } → codeAny (model prog w) A (.builtin "list.extend.loop" ⟨[.ref Z, .ref it, ans], []⟩) R { s with heap := h, toks := tn } := by
    intro h n1 tn st1 kp gZa
    refine codeAny_extend_loopS Wk.toS hle Z gf ans n 0 _ #[] n1 rfl (Nat.zero_le _) st1 gZa (ItemsOf.nil _) fun sn ac cn mv gz ia => ?_
    rw [Moved.eq_with mv]
    refine give sn.heap sn.toks ac cn (fun b o nb nw e => mv.heap b o (fun hin => ?_) (kp b o nb e)) gz ia
    rcases List.mem_cons.mp hin with ee | hin
    · exact nb ee
    · exact nw hin
  unfold Builtin.List.listExtendWith
  refine wpAny_bind (wpAny_typeOf (T := T) (Jt.type s st0) ?_)
  have z1 : Builtin.List.listSameRef (.ref Z) (.ref it) = false := by simp [Builtin.List.listSameRef, gi]
  simp only [z1, Jt.noList, Jt.noTuple, Bool.or_false, Bool.false_eq_true, if_false]
  refine wpAny_bind (Wk.self 0 _ _ _ st0 ?_)
  refine wpAny_bind (wpAny_holding (Jt.hint _ _ _ _ nh st0 fun room tn => ?_))
  refine wpAny_ite_split (fun _ => ?_) (fun _ => wpAny_pure ⟨plainId_quiet PySem.F.plain_extend_loop _, turn _ n0 _ st0 (fun b o _ e => e) gZ⟩)
  refine wpAny_bind (wpAny_rule (wpAny_bind ?_))
  show wpAny _ _ (do updateSeq Z (·.push .none); updateSeq Z (·.pop)) _ _ _
  refine wpAny_bind (wpAny_updateSeq (s := { s with toks := tn }) gZ rfl ?_)
  have gZb := Heap.get?_update_self (Obj.mapSeq (·.push Value.none)) gZ rfl
  refine wpAny_updateSeq (hz := by seq_fits) gZb rfl ?_
  have gZc := Heap.get?_update_self (Obj.mapSeq (·.pop)) gZb rfl
  have away : ∀ b o, b ≠ Z → s.heap.get? b = some o → ((s.heap.update Z (Obj.mapSeq (·.push Value.none))).update Z (Obj.mapSeq (·.pop))).get? b = some o := fun b o nb e =>
    (Heap.get?_update_other _ _ (Ne.symm nb)).trans ((Heap.get?_update_other _ _ (Ne.symm nb)).trans e)
  exact wpAny_pure ⟨plainId_quiet PySem.F.plain_extend_loop _, turn _ _ _ (Wk.frame 0 _ _ st0 fun b nb o e => away b o (fun z => gf (z ▸ nb)) e) away gZc⟩
theorem self_init {R : Result → Shared → Prop} (Jt : SelfIt prog w T it fp wr n Pv St) (nh : A.handled = none) (st0 : St 0 s.heap) (Z : Addr) (gf : Z ∉ fp) (gZ : s.heap.get? Z = some { cls := .type "list", data := .seq #[] })
    (give : ∀ hp tn ac cn, (∀ b o, b ≠ Z → b ∉ wr → s.heap.get? b = some o → hp.get? b = some o) → hp.get? Z = some { cls := .type "list", dict := none, data := .seq ac cn, slots := #[] } → ItemsOf Pv ac n → R (.ok (.ret .none)) { s with heap := hp, toks := tn }) (hle : n ≤ sizeLine) :
    wpAny (model prog w) A.in1 (Builtin.«list.__init__» ⟨[.ref Z, .ref it], []⟩)
      (fun rr sn => match rr with | .done fl => R (.ok fl) sn | .again cn => cn.quiet = true ∧ codeAny (model prog w) A cn R sn) (fun e sn => R (.error e) sn) s := by
  show wpAny _ _ (do let old ← Builtin.List.listItems (.ref Z); Builtin.List.listUpdate (.ref Z) (fun _ => #[]); letGo old.toList.reverse; Builtin.List.listExtendWith (.ref Z) (.ref it) .none) _ _ s
  refine wpAny_bind ?_
  unfold Builtin.List.listItems
  refine wpAny_bind (wpAny_seqItems gZ rfl (wpAny_pure ?_))
  show wpAny _ _ (updateSeq Z (fun _ => #[]) >>= fun _ => letGo (#[] : Array Value).toList.reverse >>= fun _ => Builtin.List.listExtendWith (.ref Z) (.ref it) .none) _ _ s
  refine wpAny_bind (wpAny_updateSeq gZ rfl ?_)
  have gZb := Heap.get?_update_self (Obj.mapSeq (fun _ => (#[] : Array Value))) gZ rfl
  have away : ∀ b o, b ≠ Z → s.heap.get? b = some o → (s.heap.update Z (Obj.mapSeq (fun _ => (#[] : Array Value)))).get? b = some o := fun b o nb e =>
    (Heap.get?_update_other _ _ (Ne.symm nb)).trans e
  refine wpAny_bind (wpAny_letGo ?_)
  refine self_extend Jt nh ((Jt.walk A nh).frame 0 _ _ st0 fun b nb o e => away b o (fun z => gf (z ▸ nb)) e) Z gf .none _ gZb (fun hp tn ac cn kp gz ia => ?_) hle
  exact give hp tn ac cn (fun b o nb nw e => kp b o nb nw (away b o nb e)) gz ia
theorem self_list {Q : Value → Shared → Prop} (Jt : SelfIt prog w T it fp wr n Pv St) (nh : A.handled = none) (st0 : St 0 s.heap) (inf : ∀ b ∈ fp, b < s.heap.objs.size) (hle : n ≤ sizeLine)
    (give : ∀ hp tn ac cn, (∀ b o, b ∉ wr → s.heap.get? b = some o → hp.get? b = some o) → hp.get? s.heap.objs.size = some { cls := .type "list", dict := none, data := .seq ac cn, slots := #[] } → ItemsOf Pv ac n → Q (.ref s.heap.objs.size) { s with heap := hp, toks := tn }) :
    wpAny (model prog w) A (call (.type "list") [.ref it]) Q E s := by
  have gf : s.heap.objs.size ∉ fp := fun z => Nat.lt_irrefl _ (inf _ z)
  refine callType_codes (Q₁ := fun new sx => new = .ref s.heap.objs.size ∧ sx = { s with heap := s.heap.push { cls := .type "list", data := .seq #[] } }) PySem.F.called_list (PySem.F.typeCall_list_1 _) PySem.F.entry_list_init
    (code_list_new (.ref it) ⟨rfl, rfl⟩) fun _ _ hnew => ?_
  obtain ⟨rfl, rfl⟩ := hnew
  have gZ : (s.heap.push { cls := .type "list", data := .seq #[] }).get? s.heap.objs.size = some { cls := .type "list", data := .seq #[] } := Heap.get?_push_size _ rfl
  refine ⟨⟨_, gZ, rfl⟩, PySem.F.args_list_init_2 _ _, self_init (A := A.in1) Jt nh ((Jt.walk A nh).frame 0 _ _ st0 fun b _ o e => Heap.get?_push_of_some _ e) _ gf gZ (fun hp tn ac cn kp gz ia => ?_) hle⟩
  exact ⟨rfl, give hp tn ac cn (fun b o nw e => kp b o (Nat.ne_of_lt (Heap.lt_size e)) nw (Heap.get?_push_of_some _ e)) gz ia⟩
end

/-! ### reversed(a list) -/
section
variable {prog : Program} {w : World} {A : Around} {E : Value → Shared → Prop} {s : Shared}
theorem hint_rl {it l : Addr} {i : Int} {Q : Bool → Shared → Prop} (ri : s.heap.IsRevIter it l i) (h : Q false s) : wpAny (model prog w) A (Builtin.List.listLengthHint (.ref it)) Q E s := by
  have ty : s.TypeIs (.ref it) "list_reverseiterator" := ri.typeIs
  unfold Builtin.List.listLengthHint
  refine wpAny_bind (wpAny_specialOf ty nolen_lri ?_)
  show wpAny _ A (specialOf (Value.ref it) (Str.ofString "__length_hint__") >>= _) _ _ _
  refine wpAny_bind (wpAny_specialOf ty hint_lri ?_)
  generalize idh : ("list_reverseiterator.__length_hint__" : String) = ident
  wp_delta
  rw [show splitId ident = some ("list_reverseiterator", "__length_hint__") from by subst idh; decide +kernel]
  subst idh
  refine wpAny_bind (wpAny_isInstance (b := true) ty (by rw [isSubtype_type]; kernel_rfl) ?_)
  exact wpAny_pure h
theorem self_rl {it l : Addr} {xs0 : Array Value} (ne0 : l ≠ it) : SelfIt prog w "list_reverseiterator" it [it, l] [it] xs0.size (fun i v => xs0[xs0.size - 1 - i]? = some v) (fun i h => i ≤ xs0.size ∧ h.IsRevIter it l ((xs0.size : Int) - 1 - (i : Int)) ∧ h.IsList l xs0) where
  mem := by simp
  walk := fun A nh => Walks.listRev nh it l ne0 xs0
  type := fun s x => x.2.1.typeIs
  noList := by decide
  noTuple := by decide
  hint := fun A E s Q _ x h => hint_rl x.2.1 (h false s.toks)

/-! ### reversed(a tuple) -/
theorem slot_rt_hint : Slot "reversed" "__length_hint__" "reversed.__length_hint__" :=
  .of (owner := "reversed") (n := "__length_hint__") (by rw [typeLookup_type, builtinLookup_eq_fast]; kernel_rfl) (by decide +kernel) (by decide +kernel) (by decide +kernel)
    (by first | exact .inl (by decide +kernel) | exact .inr (by decide +kernel)) (by rw [isSubtype_type]; kernel_rfl)
theorem entry_rt_hint : entryFor table "reversed.__length_hint__" = some Builtin.«reversed.__length_hint__» := entryFor_of_tree (by kernel_rfl)
theorem args_rt_hint (a : Value) : argsOk "reversed.__length_hint__" ⟨[a], []⟩ := by
  unfold argsOk; rw [signature?_of (id := "reversed.__length_hint__") (n := ['_', '_', 't', 'n', 'i', 'h', '_', 'h', 't', 'g', 'n', 'e', 'l', '_', '_']) (o := ['d', 'e', 's', 'r', 'e', 'v', 'e', 'r']) (by kernel_rfl) owner_rt]; kernel_rfl
theorem nolen_rt : typeLookup (.type "reversed") "__len__" = pure none := by rw [typeLookup_type, builtinLookup_eq_fast]; kernel_rfl
theorem hint_rt {it t : Addr} {xs0 : Array Value} {Q : Bool → Shared → Prop} (ri : IsRt s.heap it t ((xs0.size : Int) - 1)) (ht : IsTup s.heap t xs0) (hle : xs0.size ≤ sizeLine) (h : ∀ b tn, Q b { s with toks := tn }) : wpAny (model prog w) A (Builtin.List.listLengthHint (.ref it)) Q E s := by
  have ty : s.TypeIs (.ref it) "reversed" := ri.typeIs
  unfold Builtin.List.listLengthHint
  refine wpAny_bind (wpAny_specialOf ty nolen_rt ?_)
  show wpAny _ A (specialOf (Value.ref it) (Str.ofString "__length_hint__") >>= _) _ _ _
  refine wpAny_bind (wpAny_specialOf ty slot_rt_hint.lookup ?_)
  generalize idh : ("reversed.__length_hint__" : String) = ident
  wp_delta
  rw [show splitId ident = some ("reversed", "__length_hint__") from by subst idh; decide +kernel]
  subst idh
  refine wpAny_bind (wpAny_isInstance (b := true) ty (by rw [isSubtype_type]; kernel_rfl) ?_)
  obtain ⟨o, oo, cm, od⟩ := id ri
  have sz := sizeLine_eq
  rw [if_neg (by decide)]
  try dsimp only
  rw [if_neg (by decide)]
  refine wpAny_bind (wpAny_rule (wpAny_bind (wpAny_of_eq (slot_rt_hint.bind _) ?_)))
  try dsimp only
  refine wpAny_bind (wpAny_attempt (wpAny_call_entry slot_rt_hint ri.typeIs entry_rt_hint ?_ (args_rt_hint _)))
  unfold Builtin.«reversed.__length_hint__»
  refine wpAny_bind (wpAny_of_eq (a := Value.ref it) rfl ?_)
  try dsimp only
  refine wpAny_bind (wpAny_field oo od (x := .ref t) rfl ?_)
  try dsimp only
  rw [show (Value.ref t == Value.none) = false from rfl, if_neg Bool.false_ne_true]
  try dsimp only
  refine wpAny_bind (len_tuple ht (by omega) ?_)
  refine wpAny_bind (wpAny_of_eq (a := some ((xs0.size : Nat) : Int)) rfl ?_)
  try dsimp only
  refine wpAny_bind (wpAny_field (s := { s with toks := s.toks + 1 + 1 }) oo od (x := rawInt ((xs0.size : Int) - 1)) rfl ?_)
  show wpAny _ _ (if ((xs0.size : Nat) : Int) < ((xs0.size : Int) - 1) + 1 then _ else retInt (((xs0.size : Int) - 1) + 1)) _ _ _
  rw [if_neg (by omega)]
  unfold retInt
  refine wpAny_bind (wpAny_mkInt ?_)
  refine wpAny_pure ⟨_, rfl, ?_⟩
  try dsimp only
  refine wpAny_bind (wpAny_of_eq (a := some (((xs0.size : Int) - 1) + 1)) rfl ?_)
  try dsimp only
  have f1 : Builtin.List.listFitsIndex (((xs0.size : Int) - 1) + 1) = true := by
    unfold Builtin.List.listFitsIndex
    rw [Bool.and_eq_true]
    exact ⟨decide_eq_true (by omega), decide_eq_true (by omega)⟩
  have f2 : Builtin.List.listTooLong (((xs0.size : Int) - 1) + 1).toNat = false := by
    unfold Builtin.List.listTooLong
    exact decide_eq_false (by omega)
  rw [f1, f2, if_neg (by decide), if_neg (by omega), if_neg (by decide)]
  exact wpAny_pure (h _ _)
theorem istup_at {h hp : Heap} {t : Addr} {xs0 : Array Value} (x : IsTup h t xs0) (e : ∀ o, h.get? t = some o → hp.get? t = some o) : IsTup hp t xs0 := by
  obtain ⟨o, oo, r⟩ := x
  exact ⟨o, e _ oo, r⟩
theorem self_rt {it t : Addr} {xs0 : Array Value} (ne0 : t ≠ it) (hle : xs0.size ≤ sizeLine) : SelfIt prog w "reversed" it [it, t] [it] xs0.size (fun i v => xs0[xs0.size - 1 - i]? = some v) (fun i h => i ≤ xs0.size ∧ IsRt h it t ((xs0.size : Int) - 1 - (i : Int)) ∧ IsTup h t xs0) where
  mem := by simp
  walk := fun A nh => {
    sub := fun b nb => by simp at nb; simp [nb]
    frame := fun _ _ _ x kp => ⟨x.1, x.2.1.at fun o e => kp it (by simp) o e, istup_at x.2.2 fun o e => kp t (by simp) o e⟩
    item := fun i s Q E lti x give => by
      have e : (xs0.size : Int) - 1 - (i : Int) = ((xs0.size - 1 - i : Nat) : Int) := by omega
      have ri := x.2.1
      rw [e] at ri
      have gx : xs0[xs0.size - 1 - i]? = some (xs0[xs0.size - 1 - i]'(by omega)) := Array.getElem?_eq_getElem (by omega)
      refine next_rt_item ri x.2.2 gx hle fun hp ri2 sb => ?_
      have e2 : ((xs0.size - 1 - i : Nat) : Int) - 1 = (xs0.size : Int) - 1 - ((i + 1 : Nat) : Int) := by omega
      rw [e2] at ri2
      exact give _ hp _ gx ⟨lti, ri2, istup_at x.2.2 fun o eo => (sb.2 t ne0).trans eo⟩ fun b o nb eo => sb.extBut b o (fun h => nb (by simp [h])) eo
    done := fun s Q E x give => by
      have e : (xs0.size : Int) - 1 - (xs0.size : Int) = -1 := by omega
      have ri := x.2.1
      rw [e] at ri
      exact next_rt_end nh ri fun hp eb => give hp s.toks fun b o nb eo => eb b o (fun h => nb (by simp [h])) eo
    self := fun _ _ _ _ x give => iter_rt x.2.1 give }
  type := fun s x => x.2.1.typeIs
  noList := by decide
  noTuple := by decide
  hint := fun A E s Q _ x h => by
    have e : (xs0.size : Int) - 1 - ((0 : Nat) : Int) = (xs0.size : Int) - 1 := by omega
    have ri := x.2.1
    rw [e] at ri
    exact hint_rt ri x.2.2 hle h
end

/-! ### list(reversed(x)), x a list or a tuple: a new list -/
def tListRev (K : PySem.W.Frag) (te : TE) : TE := fun σ H Q => te σ H fun v Ha => ∃ (a : Addr) (xs : List V), v = .ref a ∧ (SqL K Ha a xs ∨ SqT K Ha a xs) ∧ ∀ q, Ha q = none → Q (.ref q) (upd Ha q (.lst xs.reverse))
section
variable {X : Cx}
theorem list_made {pn : List (Addr × Obj)} {σ : L2.St} {Ha : Hp} {sa : Shared} {tk0 : Nat} {ob : Obj} {T : String} {xs : List V} {us : List Value} {a : Addr} {St : Nat → Heap → Prop} {Q : VK} {E : Value → Shared → Prop} (cm : X.calm = true) (Ia : Inv X pn σ Ha sa) (ru : Vals xs us) (sz : xs.length ≤ sizeLine) (lt : a < sa.heap.objs.size)
    (Jt : SelfIt X.prog X.w T sa.heap.objs.size [sa.heap.objs.size, a] [sa.heap.objs.size] us.toArray.size (fun i v => us.toArray[us.toArray.size - 1 - i]? = some v) St) (st0 : St 0 (sa.heap.push ob)) (q : ∀ q, Ha q = none → Q (.ref q) (upd Ha q (.lst xs.reverse))) :
    wpAny (model X.prog X.w) X.A (call (.type "list") [.ref sa.heap.objs.size]) (EP X pn σ Q) E { sa with heap := sa.heap.push ob, toks := tk0 } := by
  have Ib : Inv X pn σ Ha { sa with heap := sa.heap.push ob, toks := tk0 } := Ia.kept (t' := tk0) fun b o e => Heap.get?_push_of_some _ e
  have hsz : (sa.heap.push ob).objs.size = sa.heap.objs.size + 1 := Heap.size_push _ _
  have hle : us.toArray.size ≤ sizeLine := by rw [List.size_toArray, ← ru.length]; exact sz
  refine self_list (s := { sa with heap := sa.heap.push ob, toks := tk0 }) Jt (Ib.ok.hd cm) st0 (fun b nb => ?_) hle fun hp tn ac cn kp dl ia => ?_
  · show b < (sa.heap.push ob).objs.size
    rw [hsz]
    rcases List.mem_cons.mp nb with z | z
    · rw [z]
      exact Nat.lt_succ_self _
    · rw [List.mem_singleton.mp z]
      exact Nat.lt_succ_of_lt lt
  have ff : ∀ b ∈ [sa.heap.objs.size], FpOk X pn Ha b := fun b nb => by
    rw [List.mem_singleton.mp nb]
    exact Ia.fpOk (Nat.le_refl _) (Ia.hok.fresh (Nat.le_refl _))
  have new : ObjOk X.prog X.w (upd Ha (sa.heap.push ob).objs.size (.lst xs.reverse)) hp (sa.heap.push ob).objs.size (.lst xs.reverse) := by
    refine ⟨by rw [List.length_reverse]; exact sz, ac.toList, cn, vals_rev ru ia, ?_⟩
    rw [Array.toArray_toList]
    exact dl
  have Ic := Ib.turnedNew (t' := tn) (ch := [sa.heap.objs.size]) (fun b o nb e => kp b o nb e) ff (Nat.le_refl _) new
  exact ⟨.ref (sa.heap.push ob).objs.size, _, Ic, rfl, q _ (Ib.hok.fresh (Nat.le_refl _))⟩
theorem pe_listRev {e : Expr} {te : TE} {p p2 pos pos2 : Pos} (cm : X.calm = true) (gl1 : Gl X "list") (mv : X.mg "list" = none) (gl2 : Gl X "reversed") (hm2 : X.mg "reversed" = none) (he : PE X e te)
    (sa1 : starEach [e] X.env = (false, eval e X.env) :: starEach [] X.env := by rfl)
    (sa2 : starEach [.Call (.Name "reversed" p2) [e] [] pos2] X.env = (false, eval (.Call (.Name "reversed" p2) [e] [] pos2) X.env) :: starEach [] X.env := by rfl) :
    PE X (.Call (.Name "list" p) [.Call (.Name "reversed" p2) [e] [] pos2] [] pos) (tListRev X.K te) := by
  refine ⟨fun pn s σ H Q Iv h => ?_⟩
  refine Call_ (ld_blt Iv gl1 mv (u := Value.type "list") (by decide +kernel) (PyProof.Rows.callWith_type1 (args_cons (Call_ (ld_blt Iv gl2 hm2 PyProof.Rows.boot_reversed (PyProof.Rows.callWith_type1 (args_cons (thn (he.run pn s σ H _ Iv h) fun u sa ⟨v, Ha, Ia, ra, w1⟩ => args_nil ?_) sa1) sa1 rfl))) sa2) sa2 rfl))
  obtain ⟨a, xs, ev, sq, q⟩ := w1
  subst ev
  obtain rfl : u = Value.ref a := ra
  rcases sq with sq | sq
  · obtain ⟨us, ru, pt, sz⟩ := Ia.list sq
    refine call_reversed_list pt.isList (args_nil ?_)
    have ln := pt.isList
    obtain ⟨ob1, got, _⟩ := id ln
    have lt := Heap.lt_size got
    refine list_made (tk0 := sa.toks) (ob := revObj a ((us.toArray.size : Int) - 1)) cm Ia ru sz lt (self_rl (Nat.ne_of_lt lt)) ⟨Nat.zero_le _, ?_, ln.push _⟩ q
    have e : (us.toArray.size : Int) - 1 - ((0 : Nat) : Int) = (us.toArray.size : Int) - 1 := by omega
    rw [e]
    exact ⟨_, Heap.get?_push_size _ rfl, rfl, rfl⟩
  · obtain ⟨us, ru, pt, sz⟩ := Ia.tuple sq
    have ln := ru.length
    have hle := line63
    refine call_reversed_tup pt (fun A E Q k => len_tuple pt (by simp only [List.size_toArray] <;> omega) k) (args_nil ?_)
    obtain ⟨ob1, got, _⟩ := id pt
    have lt := Heap.lt_size got
    refine list_made (tk0 := sa.toks + 1 + 1) (ob := rtObj a ((us.toArray.size : Int) - 1)) cm Ia ru sz lt (self_rt (Nat.ne_of_lt lt) (by rw [List.size_toArray, ← ln]; exact sz)) ⟨Nat.zero_le _, ?_, istup_at pt fun o e => Heap.get?_push_of_some _ e⟩ q
    have e : (us.toArray.size : Int) - 1 - ((0 : Nat) : Int) = (us.toArray.size : Int) - 1 := by omega
    rw [e]
    exact ⟨_, Heap.get?_push_size _ rfl, rfl, rfl⟩
end
end K15

namespace K15
open PySem L2
section
variable {β γ : Type} {R S : β → γ → Prop} {xs : List β} {ys : List γ}
theorem All2.cons {x : β} {y : γ} (r : R x y) (h : All2 R xs ys) : All2 R (x :: xs) (y :: ys) := ⟨by simp [h.len], fun i a b ha hb => by
  cases i with
  | zero =>
    simp at ha hb
    subst ha hb
    exact r
  | succ i => exact h.all i a b (by simpa using ha) (by simpa using hb)⟩
theorem All2.uncons {y : γ} (h : All2 R xs (y :: ys)) : ∃ x r, xs = x :: r ∧ R x y ∧ All2 R r ys := by
  cases xs with
  | nil => exact absurd h.len (by simp)
  | cons x r =>
    refine ⟨x, r, rfl, h.all 0 x y rfl rfl, ⟨by simpa using h.len, fun i a b ha hb => h.all (i + 1) a b (by simpa using ha) (by simpa using hb)⟩⟩
theorem All2.monoM (h : All2 R xs ys) (f : ∀ x y, x ∈ xs → R x y → S x y) : All2 S xs ys := ⟨h.len, fun i x y a b => f x y (List.mem_of_getElem? a) (h.all i x y a b)⟩
end
/-- xs[j], by values, the index a plain number -/
def rGet0 (K : Fr) : V → V → Hp → VK → Prop := fun x y H Q => ∃ (p : Addr) (xs : List V) (j : Nat) (z : V), x = .ref p ∧ y = .int ((j : Nat) : Int) ∧ SqL K H p xs ∧ xs[j]? = some z ∧ Q z H
theorem pget_list {X : Cx} : PGet X (rGet0 X.K) := by
  intro pins s σ H x y v u Q I rx ry h
  obtain ⟨p, xs, j, z, rfl, rfl, hq, he, q⟩ := h
  cases rx
  obtain ⟨t, rfl⟩ := ry
  obtain ⟨its, r, pl, hz⟩ := I.list hq
  obtain ⟨w', ew, rw'⟩ := r.get he
  have hj := (List.getElem?_eq_some_iff.mp he).1
  have hn := line63
  exact wpAny_getItem_list pl.isList (by omega) (by omega) (by simpa using ew) ⟨z, H, I, rw', q⟩

/-! ### the walk's state in the heap -/
def prV (p : Nat × Nat) : List V := [.int ((p.1 : Nat) : Int), .int ((p.2 : Nat) : Int)]
structure FL (H0 H : Hp) (bg tr dn : Addr) (x : DS) : Prop where
  same : Same H0 H
  b : H bg = some (.dK (setD x.begun))
  d : H dn = some (.lst (intsV x.done))
  nb : H0 bg = none
  nt : H0 tr = none
  nd : H0 dn = none
  ne : tr ≠ dn
  t : ∃ as : List Addr, H tr = some (.lst (as.map V.ref).reverse) ∧ as.Nodup ∧ All2 (fun a p => H a = some (.lst (prV p)) ∧ H0 a = none ∧ a ≠ dn ∧ a ≠ tr) as x.trail
theorem FL.mono {H0 H H' : Hp} {bg tr dn : Addr} {x : DS} (h : FL H0 H bg tr dn x) (s : Same H H') : FL H0 H' bg tr dn x := by
  obtain ⟨as, ha, hn, hA⟩ := h.t
  exact ⟨h.same.trans s, s _ _ h.b, s _ _ h.d, h.nb, h.nt, h.nd, h.ne, as, s _ _ ha, hn, hA.mono fun a p q => ⟨s _ _ q.1, q.2⟩⟩
theorem FL.nbt {H0 H : Hp} {bg tr dn : Addr} {x : DS} (h : FL H0 H bg tr dn x) : bg ≠ tr ∧ bg ≠ dn := by
  obtain ⟨as, ha, _⟩ := h.t
  exact ⟨ne_of h.b ha (by intro z; cases z), ne_of h.b h.d (by intro z; cases z)⟩
/-- the top is done with -/
theorem FL.fin {H0 H : Hp} {bg tr dn : Addr} {b d : List Nat} {k s : Nat} {t : List (Nat × Nat)} (h : FL H0 H bg tr dn ⟨b, (k, s) :: t, d⟩) {as : List Addr} {a : Addr} (ha : H tr = some (.lst ((a :: as).map V.ref).reverse)) :
    FL H0 (upd (upd H dn (.lst (intsV d ++ [.int ((k : Nat) : Int)]))) tr (.lst (as.map V.ref).reverse)) bg tr dn ⟨b, t, d ++ [k]⟩ := by
  obtain ⟨as', ha', hn, hA⟩ := h.t
  rw [ha] at ha'
  have e : as' = a :: as := by
    have e := Option.some.inj ha'
    injection e with e
    have e := congrArg List.reverse e
    rw [List.reverse_reverse, List.reverse_reverse] at e
    exact ((List.map_inj_right (fun x y z => V.ref.inj z)).mp e).symm
  subst e
  obtain ⟨x, r, e, _, hA'⟩ := hA.uncons
  injection e with e1 e2
  subst e1 e2
  have hnn := (List.nodup_cons.mp hn).2
  refine ⟨?_, ?_, ?_, h.nb, h.nt, h.nd, h.ne, as, upd_same, hnn, ?_⟩
  · exact same_put (same_put h.same h.nd) h.nt
  · rw [upd_ne h.nbt.1, upd_ne h.nbt.2]
    exact h.b
  · rw [upd_ne h.ne.symm, upd_same]
    unfold intsV
    rw [List.map_append]
    rfl
  · exact hA'.mono fun a' p ⟨q1, q2, q3, q4⟩ => ⟨by rw [upd_ne q4, upd_ne q3]; exact q1, q2, q3, q4⟩
/-- the top goes on a step -/
theorem FL.old {H0 H : Hp} {bg tr dn : Addr} {b d : List Nat} {k s : Nat} {t : List (Nat × Nat)} (h : FL H0 H bg tr dn ⟨b, (k, s) :: t, d⟩) {as : List Addr} {a : Addr} (ha : H tr = some (.lst ((a :: as).map V.ref).reverse)) :
    FL H0 (upd H a (.lst (prV (k, s + 1)))) bg tr dn ⟨b, (k, s + 1) :: t, d⟩ := by
  obtain ⟨as', ha', hn, hA⟩ := h.t
  rw [ha] at ha'
  have e : as' = a :: as := by
    have e := Option.some.inj ha'
    injection e with e
    have e := congrArg List.reverse e
    rw [List.reverse_reverse, List.reverse_reverse] at e
    exact ((List.map_inj_right (fun x y z => V.ref.inj z)).mp e).symm
  subst e
  obtain ⟨x, r, e, ⟨q1, q2, q3, q4⟩, hA'⟩ := hA.uncons
  injection e with e1 e2
  subst e1 e2
  have hnn := List.nodup_cons.mp hn
  refine ⟨?_, ?_, ?_, h.nb, h.nt, h.nd, h.ne, a :: as, ?_, hn, ?_⟩
  · exact same_put h.same q2
  · rw [upd_ne (ne_of h.b q1 (by intro z; cases z))]
    exact h.b
  · rw [upd_ne q3.symm]
    exact h.d
  · rw [upd_ne q4.symm]
    exact ha
  · refine All2.cons ⟨upd_same, q2, q3, q4⟩ (hA'.monoM fun a' p m ⟨z1, z2⟩ => ⟨?_, z2⟩)
    have : a' ≠ a := fun e => hnn.1 (e ▸ m)
    rw [upd_ne this]
    exact z1
/-- a node not begun is begun -/
theorem FL.new {H0 H : Hp} {bg tr dn : Addr} {b d : List Nat} {g : Nat} {t : List (Nat × Nat)} (h : FL H0 H bg tr dn ⟨b, t, d⟩) {as : List Addr} (ha : H tr = some (.lst (as.map V.ref).reverse)) {p : Addr} (hp : H p = none) :
    FL H0 (upd (upd (upd H bg (.dK (setD (b ++ [g])))) p (.lst (prV (g, 0)))) tr (.lst ((as.map V.ref).reverse ++ [.ref p]))) bg tr dn ⟨b ++ [g], (g, 0) :: t, d⟩ := by
  obtain ⟨as', ha', hn, hA⟩ := h.t
  rw [ha] at ha'
  have e : as' = as := by
    have e := Option.some.inj ha'
    injection e with e
    have e := congrArg List.reverse e
    rw [List.reverse_reverse, List.reverse_reverse] at e
    exact ((List.map_inj_right (fun x y z => V.ref.inj z)).mp e).symm
  subst e
  have npb : bg ≠ p := ne_of_none h.b hp
  have npd : dn ≠ p := ne_of_none h.d hp
  have npt : tr ≠ p := ne_of_none ha hp
  have hp0 : H0 p = none := h.same.free hp
  refine ⟨?_, ?_, ?_, h.nb, h.nt, h.nd, h.ne, p :: as', ?_, ?_, ?_⟩
  · exact same_put (same_put (same_put h.same h.nb) hp0) h.nt
  · rw [upd_ne h.nbt.1, upd_ne npb, upd_same]
  · rw [upd_ne h.ne.symm, upd_ne npd, upd_ne h.nbt.2.symm]
    exact h.d
  · rw [upd_same, List.map_cons, List.reverse_cons]
  · refine List.nodup_cons.mpr ⟨fun m => ?_, hn⟩
    obtain ⟨i, hi⟩ := List.getElem?_of_mem m
    obtain ⟨y, _, q1, _⟩ := hA.get' hi
    exact ne_of_none q1 hp rfl
  · refine All2.cons ⟨?_, hp0, npd.symm, npt.symm⟩ (hA.mono fun a' q ⟨q1, q2, q3, q4⟩ => ⟨?_, q2, q3, q4⟩)
    · rw [upd_ne npt.symm, upd_same]
    · rw [upd_ne q4, upd_ne (ne_of_none q1 hp), upd_ne (ne_of q1 h.b (by intro z; cases z))]
      exact q1
/-! ### the trail as data -/
def prD (p : Nat × Nat) : PyData := .list [.int ((p.1 : Nat) : Int), .int ((p.2 : Nat) : Int)]
theorem dp_trail {K : Fr} {H : Hp} : ∀ (as : List Addr) (t : List (Nat × Nat)), All2 (fun a p => H a = some (.lst (prV p))) as t → DpAll K H (as.map V.ref) (t.map prD)
  | as, [], h => by
    have : as = [] := List.length_eq_zero_iff.mp h.len
    subst this
    exact .nil
  | as, p :: t, h => by
    obtain ⟨a, r, rfl, q, h'⟩ := h.uncons
    exact .cons (.lst (SqL.of q) (.cons (.int _) (.cons (.int _) .nil))) (dp_trail r t h')
theorem dpAll_append {K : Fr} {H : Hp} : ∀ {xs ys : List V} {ds es : List PyData}, DpAll K H xs ds → DpAll K H ys es → DpAll K H (xs ++ ys) (ds ++ es)
  | _, _, _, _, .nil, h => h
  | _, _, _, _, .cons a b, h => .cons a (dpAll_append b h)
theorem dpAll_reverse {K : Fr} {H : Hp} : ∀ {xs : List V} {ds : List PyData}, DpAll K H xs ds → DpAll K H xs.reverse ds.reverse
  | _, _, .nil => .nil
  | _, _, .cons a b => by
    rw [List.reverse_cons, List.reverse_cons]
    exact dpAll_append (dpAll_reverse b) (.cons a .nil)
theorem lay_pairs : ∀ t : List (Nat × Nat), PyData.canLayAll0 (t.map prD) = true ∧ PyData.depthAll (t.map prD) ≤ 1
  | [] => ⟨rfl, Nat.zero_le _⟩
  | p :: t => by
    obtain ⟨h1, h2⟩ := lay_pairs t
    refine ⟨?_, ?_⟩
    · show (PyData.canLay0 (prD p) && PyData.canLayAll0 (t.map prD)) = true
      rw [h1]
      rfl
    · show max (PyData.depth (prD p)) (PyData.depthAll (t.map prD)) ≤ 1
      have : PyData.depth (prD p) = 1 := rfl
      omega
theorem shaped_trail (t : List (Nat × Nat)) : SeqAt.shaped (.list (t.map prD).reverse) = true := by
  rw [← List.map_reverse]
  obtain ⟨h1, h2⟩ := lay_pairs t.reverse
  unfold SeqAt.shaped
  rw [Bool.and_eq_true]
  refine ⟨h1, decide_eq_true ?_⟩
  show PyData.depthAll (t.reverse.map prD) + 1 ≤ 64
  omega
theorem eqv_nil (t : List (Nat × Nat)) : PyData.eqv (.list (t.map prD).reverse) (.list []) = t.isEmpty := by
  cases t with
  | nil => rfl
  | cons p t =>
    cases q : ((p :: t).map prD).reverse with
    | nil =>
      have := congrArg List.length q
      simp at this
    | cons a r => rfl
end K15

namespace K15
open PySem L2
theorem intsV_get {l : List Nat} {i k : Nat} (h : l[i]? = some k) : (intsV l)[i]? = some (.int ((k : Nat) : Int)) := by
  unfold intsV
  rw [List.getElem?_map, h]
  rfl
theorem intsV_len (l : List Nat) : (intsV l).length = l.length := List.length_map _
theorem intsV_rev (l : List Nat) : (intsV l).reverse = intsV l.reverse := by
  unfold intsV
  rw [List.map_reverse]
theorem atI_top (l : List V) (v : V) : atI (l ++ [v]) (-1) = some v := atI_last l v
theorem trail_rev (a : Addr) (as : List Addr) : ((a :: as).map V.ref).reverse = (as.map V.ref).reverse ++ [.ref a] := by
  rw [List.map_cons, List.reverse_cons]
section
variable {P : Program} {w : World} {K : Fr} {mg : Str → Option Value} {base : Heap}
def spFin (K : Fr) : Sp := fun vs H Q _ => ∃ (p : Addr) (raw : List (Nd Op)) (st : Nat), vs = [.ref p, .int ((st : Nat) : Int)] ∧ GrAt K H p raw ∧ Wf raw ∧ st < raw.length ∧ raw.length ≤ 100 ∧
  ∀ q H' d, Same H H' → H q = none → H' q = some (.lst (intsV d.reverse)) → Fin (glOf raw) st d → Q (.ref q) H'
theorem scFin : FnScope ["raw", "start", "begun", "trail", "done", "top", "goals", "goal"] ["raw", "start"] (defScope sFin) := ⟨rfl, rfl, rfl, by decide +kernel, rfl, by decide +kernel, by decide +kernel⟩
theorem ok_fin {f fW : Addr} {fd fdW : FuncData} (F : Fun K "finished_last" "finished_last" sFin f fd) (FW : Fun K "ways" "ways" sWays fW fdW) (bW : Binds K fdW ["node"] []) (mW : mg "ways" = some (.ref fW))
    (ml : mg "len" = none) (mr : mg "reversed" = none) (mt : mg "list" = none) : FnOk P w K mg base CX0 2 f fd ["raw", "start"] (spFin K) := by
  have GW : FnOk P w K mg base CX0 1 fW fdW ["node"] (spWays K) := ok_ways FW
  refine F.ok scFin (fun vs H Q E h => ?_) (fun cdv A outer s H vs Q E hr h => ?_)
  · obtain ⟨p, raw, st, rfl, _⟩ := h
    rfl
  obtain ⟨p, raw, st, rfl, ⟨vs, hS, hA⟩, hw, hst, h100, q⟩ := h
  have hu := hu_of hr
  refine ⟨_, (pss_cons (ps_set (i := 2) scFin.nd rfl (.inl rfl) (pe_disp (pps_cons (pv 1) pe_bl pps_nil) (by rfl) (by rfl) (fun z => by cases z) (by decide)))
    (pss_cons (ps_set (i := 3) scFin.nd rfl (.inl rfl) (pe_lst (pa_cons (pe_lst (pa_cons (pv 1) (pa_cons pe_int pa_nil))) pa_nil)))
    (pss_cons (ps_set (i := 4) scFin.nd rfl (.inl rfl) (pe_lst pa_nil))
    (pss_cons (ps_while PassesOwn.never (pt_cmpR (op_neD hr.units) (pv 3) (pe_lst pa_nil) (nomark _))
    (pss_cons (ps_set (i := 5) scFin.nd rfl (.inl rfl) (pe_ix ix_list (pv 3) (pe_un un_neg pe_int) (fun _ _ => rfl)))
    (pss_cons (ps_set (i := 6) scFin.nd rfl (.inl rfl) (pe_listRev rfl (by rfl) mt (by rfl) mr (pe_call GW (hr.mono (by decide)) (by rfl) mW FW.kp bW .nil pass0 (pa_cons (pe_ix ix_list (pv 0) (pe_ix ix_list (pv 5) pe_int (fun _ _ => rfl)) (fun _ _ => rfl)) pa_nil))))
    (pss_cons (ps_if (pt_cmpR op_eq (pe_ix ix_list (pv 5) pe_int (fun _ _ => rfl)) (pe_callB call_len_seq (by rfl) ml PySem.boot_len (pa_cons (pv 6) pa_nil)) (nomark _))
    (pss_cons (ps_expr (pe_bm PySem.F.plainAttrs_list PySem.F.slot_list_append PySem.F.type_list_append mt_append (pv 4) (pa_cons (pe_ix ix_list (pv 5) pe_int (fun _ _ => rfl)) pa_nil)))
    (pss_cons (ps_expr (pe_bm0 PySem.F.plainAttrs_list PySem.F.slot_list_pop PySem.F.type_list_pop mt_pop (pv 3)))
    (pss_one ps_continue)))
    pss_nil)
    (pss_cons (ps_set (i := 7) scFin.nd rfl (.inl rfl) (pe_ix ix_list (pv 6) (pe_ix ix_list (pv 5) pe_int (fun _ _ => rfl)) (fun _ _ => rfl)))
    (pss_cons (ps_augS (pv 5) pe_int pget_list pe_int ip_add set_list)
    (pss_one (ps_if (pt_cmp (pc_dnotin hu (pv 7) (pv 2)))
    (pss_cons (ps_dput hu (pv 2) (pv 7) pe_bl rfl)
    (pss_one (ps_expr (pe_bm PySem.F.plainAttrs_list PySem.F.slot_list_append PySem.F.type_list_append mt_append (pv 3) (pa_cons (pe_lst (pa_cons (pv 7) (pa_cons pe_int pa_nil))) pa_nil)))))
    pss_nil))))))))
    (pss_one (ps_ret (pe_listRev rfl (by rfl) mt (by rfl) mr (pv 4)))))))), ?_⟩
  intro bg hbg
  refine ⟨_, rfl, upd_same, [(Sum.inl ((st : Nat) : Int), V.bl true)], rfl, by show 1 ≤ 15; decide, ?_⟩
  have s1 : Same H (upd (upd H bg (.dK [])) bg (.dK (setD [st]))) := same_put (same_new hbg) hbg
  refine ⟨_, rfl, small (n := 2) (by decide), fun a0 ha0 => ?_⟩
  have s2 := s1.trans (same_new (o := .lst (prV (st, 0))) ha0)
  refine ⟨small (n := 1) (by decide), fun tr htr => ?_⟩
  have s3 := s2.trans (same_new (o := .lst [.ref a0]) htr)
  refine ⟨small (n := 0) (by decide), fun dn hdn => ?_⟩
  have s4 := s3.trans (same_new (o := .lst []) hdn)
  have nb0 : bg ≠ a0 := ne_of_none upd_same ha0
  have nt0 : a0 ≠ tr := ne_of_none upd_same htr
  have ntd : tr ≠ dn := ne_of_none upd_same hdn
  have nbt : bg ≠ tr := ne_of_none (by rw [upd_ne nb0, upd_same]) htr
  have nad : a0 ≠ dn := ne_of_none (by rw [upd_ne nt0, upd_same]) hdn
  have nbd : bg ≠ dn := ne_of_none (by rw [upd_ne nbt, upd_ne nb0, upd_same]) hdn
  have hcl := hw.closed
  have f0 : FL H (upd (upd (upd (upd (upd H bg (.dK [])) bg (.dK (setD [st]))) a0 (.lst (prV (st, 0)))) tr (.lst [.ref a0])) dn (.lst [])) bg tr dn (dini st) := by
    refine ⟨s4, ?_, upd_same, hbg, s2.free htr, s3.free hdn, ntd, [a0], ?_, by simp, ?_⟩
    · rw [upd_ne nbd, upd_ne nbt, upd_ne nb0]
      exact upd_same
    · rw [upd_ne ntd]
      exact upd_same
    · refine All2.cons ⟨?_, s1.free ha0, nad, nt0⟩ All2.nil
      rw [upd_ne nad, upd_ne nt0]
      exact upd_same
  refine ⟨fun m σ H' => ∃ (x : DS) (y5 y6 y7 : Option V), m = mu (glOf raw) raw.length x ∧ Reach (glOf raw) st x ∧ FL H H' bg tr dn x ∧ σ = [some (.ref p), some (.int ((st : Nat) : Int)), some (.ref bg), some (.ref tr), some (.ref dn), y5, y6, y7],
    ⟨_, dini st, none, none, none, rfl, Reach.ini _ _, f0, rfl⟩, ?_⟩
  rintro m σ H1 ⟨⟨b, t, d⟩, y5, y6, y7, rfl, hre, hf, rfl⟩
  have di := DI.reach hcl hst hre
  obtain ⟨as, hta, hnd, htA⟩ := id hf.t
  -- trail != []
  refine ⟨_, rfl, small (n := 0) (by decide), fun e0 he0 => ?_⟩
  have se : Same H1 (upd H1 e0 (.lst [])) := same_new he0
  have hf1 := hf.mono se
  refine ⟨.list (t.map prD).reverse, .list [], .lst (SqL.of (se _ _ hta)) (dpAll_reverse (dp_trail as t (htA.mono fun a p z => se _ _ z.1))), .lst (SqL.of upd_same) .nil, shaped_trail t, rfl, _, rfl, ?_⟩
  rw [eqv_nil]
  cases t with
  | nil =>
    refine iteF ?_
    refine ⟨_, rfl, dn, _, rfl, .inl (SqL.of hf1.d), fun r hr' => ?_⟩
    rw [intsV_rev]
    exact q r _ d (hf1.same.trans (same_new hr')) (hf1.same.free hr') upd_same ⟨b, hre⟩
  | cons kp t =>
    obtain ⟨k, s'⟩ := kp
    obtain ⟨a, as, rfl, ⟨ha1, ha2, ha3, ha4⟩, htA'⟩ := htA.uncons
    refine iteT ?_
    have hkb : k ∈ b := (di.mem k).mpr (by simp)
    have hk : k < raw.length := di.lt k hkb
    have en := List.getElem?_eq_getElem hk
    obtain ⟨v, hv, hvn⟩ := hA.get en
    generalize raw[k] = n at en hvn
    have egl : glOf raw k = n.goals := glOf_some en
    obtain ⟨hsl, _⟩ := di.tr (k, s') (by simp)
    have hsl : s' ≤ (glOf raw k).length := hsl
    have ha1' := se _ _ ha1
    have hta' := se _ _ hta
    rw [trail_rev] at hta'
    have hmu := mu_step hcl (glOf_le raw) di (by simp)
    have hre' := hre.step
    refine ⟨fun σ' H' => ∃ y5 y6 y7, FL H H' bg tr dn (dstep (glOf raw) ⟨b, (k, s') :: t, d⟩) ∧ σ' = [some (.ref p), some (.int ((st : Nat) : Int)), some (.ref bg), some (.ref tr), some (.ref dn), y5, y6, y7],
      fun σ' H' ⟨z5, z6, z7, h1, h2⟩ => ⟨_, hmu, _, z5, z6, z7, rfl, hre', h1, h2⟩, ?_⟩
    -- top = trail[-1]
    refine ⟨_, rfl, 1, rfl, tr, _, -1, _, rfl, rfl, SqL.of hta', atI_top _ _, ?_⟩
    -- goals
    refine ⟨_, rfl, _, rfl, a, _, 0, _, rfl, rfl, SqL.of ha1', rfl, p, vs, _, _, rfl, rfl, hf1.same.seq hS, atI_nat hv, v, n, rfl, (imm_same hf1.same).tup hvn, fun pw H2 s2' hpw => ?_⟩
    refine ⟨pw, _, rfl, .inr (.inl (.inl hpw)), fun gq hgq => ?_⟩
    have s3' := s2'.trans (same_new (o := .lst (intsV n.ways).reverse) hgq)
    have hf2 := hf1.mono s3'
    rw [intsV_rev] at hf2 ⊢
    have hgoals : (upd H2 gq (.lst (intsV n.ways.reverse))) gq = some (.lst (intsV (glOf raw k))) := by
      rw [upd_same, egl]
      rfl
    rw [intsV_rev] at s3'
    have ha2' := s3' _ _ ha1'
    have hta2 := s3' _ _ hta'
    generalize upd H2 gq (.lst (intsV n.ways.reverse)) = H3 at hf2 hgoals ha2' hta2 s3' ⊢
    -- if top[1] == len(goals)
    refine ⟨_, rfl, a, _, 1, _, rfl, rfl, SqL.of ha2', rfl, _, rfl, gq, _, rfl, .inl (SqL.of hgoals), rfl, _, rfl, ?_⟩
    rw [intsV_len]
    have hdl : d.length ≤ 1000 := by
      have := nodup_le raw.length d (List.nodup_append.mp di.nd2).2.1 (fun j hj => di.lt j ((di.mem j).mpr (List.mem_append_right _ hj)))
      omega
    have htl : ((a :: as).map V.ref).reverse.length ≤ 1000 := by
      rw [List.length_reverse, List.length_map]
      have h1 : (a :: as).length = ((k, s') :: t).length := htA.len
      have h2 := nodup_le raw.length (((k, s') :: t).map (·.1)) (List.nodup_append.mp di.nd2).1 (fun j hj => di.lt j ((di.mem j).mpr (List.mem_append_left _ hj)))
      rw [List.length_map] at h2
      omega
    by_cases hend : s' = (glOf raw k).length
    · refine ifEq (congrArg V.int (by omega)) ?_
      have hstep : dstep (glOf raw) ⟨b, (k, s') :: t, d⟩ = ⟨b, t, d ++ [k]⟩ := dstep_done (by omega)
      have ff := hf2.fin (by rw [trail_rev]; exact hta2)
      refine ⟨_, rfl, .inl ⟨rfl, _, SqL.of hf2.d⟩, _, rfl, a, _, 0, _, rfl, rfl, SqL.of ha2', rfl, dn, _, _, rfl, rfl, hf2.d, small1000 (by rw [intsV_len]; exact hdl), ?_⟩
      have hta3 : (upd H3 dn (.lst (intsV d ++ [.int ((k : Nat) : Int)]))) tr = some (.lst ((as.map V.ref).reverse ++ [.ref a])) := by
        rw [upd_ne hf2.ne]
        exact hta2
      refine ⟨_, rfl, .inl ⟨rfl, _, SqL.of hta3⟩, tr, _, .ref a, rfl, rfl, hta3, ?_, ?_⟩
      · rw [List.length_append, List.length_singleton, Nat.add_sub_cancel, List.getElem?_append_right (Nat.le_refl _), Nat.sub_self]
        rfl
      · rw [List.dropLast_concat]
        exact ⟨_, _, _, by rw [hstep]; exact ff, rfl⟩
    · refine ifNe (fun e => hend (by have := V.int.inj e; omega)) ?_
      have hslt : s' < (glOf raw k).length := by omega
      have eg := List.getElem?_eq_getElem hslt
      generalize (glOf raw k)[s'] = g at eg
      -- goal = goals[top[1]]
      refine ⟨_, rfl, _, rfl, a, _, 1, _, rfl, rfl, SqL.of ha2', rfl, gq, _, _, _, rfl, rfl, SqL.of hgoals, atI_nat (intsV_get eg), ?_⟩
      -- top[1] += 1
      refine ⟨_, rfl, a, _, 1, _, rfl, rfl, SqL.of ha2', rfl, _, _, rfl, rfl, a, _, 1, 1, rfl, rfl, ha2', rfl, ?_⟩
      have ff := hf2.old (by rw [trail_rev]; exact hta2)
      have hB : (upd H3 a (.lst ((prV (k, s')).set 1 (.int (((s' : Nat) : Int) + 1))))) = upd H3 a (.lst (prV (k, s' + 1))) := by
        unfold prV
        rw [← succ_int]
        rfl
      have htaB : (upd H3 a (.lst (prV (k, s' + 1)))) tr = some (.lst (((a :: as).map V.ref).reverse)) := by
        have nat : tr ≠ a := ha4.symm
        rw [upd_ne nat, trail_rev]
        exact hta2
      have fin : ∀ H4, H4 = upd H3 a (.lst (prV (k, s' + 1))) → FL H H4 bg tr dn ⟨b, (k, s' + 1) :: t, d⟩ ∧ H4 tr = some (.lst (((a :: as).map V.ref).reverse)) := fun H4 e => by
        rw [e]
        exact ⟨ff, htaB⟩
      obtain ⟨f4, t4⟩ := fin _ hB
      generalize (upd H3 a (.lst ((prV (k, s')).set 1 (.int (((s' : Nat) : Int) + 1))))) = H4 at f4 t4
      refine ⟨_, rfl, _, rfl, bg, _, rfl, dget_setD f4.b g, _, rfl, ?_⟩
      by_cases hgb : g ∈ b
      · have hstep := dstep_old (d := d) (t := t) eg hgb
        rw [if_pos hgb]
        exact iteF ⟨_, _, _, by rw [hstep]; exact f4, rfl⟩
      · have hstep := dstep_new (d := d) (t := t) eg hgb
        rw [if_neg hgb]
        have hbl : b.length ≤ 1000 := by
          have := nodup_le raw.length b di.nd di.lt
          omega
        refine iteT ⟨_, rfl, _, rfl, bg, _, rfl, dput_setD f4.b hgb hbl, ?_⟩
        have t5 : (upd H4 bg (.dK (setD (b ++ [g])))) tr = some (.lst (((a :: as).map V.ref).reverse)) := by
          rw [upd_ne f4.nbt.1.symm]
          exact t4
        refine ⟨_, rfl, .inl ⟨rfl, _, SqL.of t5⟩, _, rfl, small (n := 2) (by decide), fun np hnp => ?_⟩
        have nbp : bg ≠ np := ne_of_none upd_same hnp
        have hnp4 : H4 np = none := by
          rw [upd_ne nbp.symm] at hnp
          exact hnp
        have t6 : (upd (upd H4 bg (.dK (setD (b ++ [g])))) np (.lst (prV (g, 0)))) tr = some (.lst (((a :: as).map V.ref).reverse)) := by
          rw [upd_ne (ne_of_none t5 hnp)]
          exact t5
        refine ⟨tr, _, .ref np, rfl, rfl, t6, small1000 htl, ?_⟩
        exact ⟨_, _, _, by rw [hstep]; exact f4.new t4 hnp4, rfl⟩
end
end K15

namespace K15
open PySem L2
theorem valV_putI (kvs : List (Key × V)) (k j : Int) (y : V) : valV (putK kvs (Sum.inl k : Key) y) (Sum.inl j : Key) = if j = k then some y else valV kvs (Sum.inl j : Key) := by
  rw [valV_put]
  by_cases h : j = k
  · rw [if_pos (congrArg Sum.inl h), if_pos h]
  · rw [if_neg (fun e => h (Sum.inl.inj e)), if_neg h]
theorem dput_I {H : Hp} {d : Addr} {kvs : List (Key × V)} {m : Int} {v : V} (hd : H d = some (.dK kvs)) (hl : kvs.length ≤ 1000) : DPut H d (.int m) v (upd H d (.dK (putK kvs (Sum.inl m : Key) v))) := DPut.k (k := (Sum.inl m : Key)) hd (small1000 hl)
/-- behind i items of a list without twins each item's place is told -/
def Plc (kvs : List (Key × V)) (ns : List Int) (i : Nat) : Prop := kvs.length ≤ i ∧ ∀ (j : Nat) (m : Int), j < i → ns[j]? = some m → valV kvs (Sum.inl m : Key) = some (.int ((j : Nat) : Int))
theorem Plc.nil (ns : List Int) : Plc [] ns 0 := ⟨Nat.le_refl _, fun j m h => absurd h (Nat.not_lt_zero _)⟩
theorem Plc.put {kvs : List (Key × V)} {ns : List Int} {i : Nat} {m : Int} (h : Plc kvs ns i) (hn : ns.Nodup) (hm : ns[i]? = some m) : Plc (putK kvs (Sum.inl m : Key) (.int ((i : Nat) : Int))) ns (i + 1) := by
  refine ⟨Nat.le_trans (length_putK _ _ _) (Nat.succ_le_succ h.1), fun j k hj hk => ?_⟩
  rw [valV_putI]
  by_cases e : k = m
  · subst e
    rw [if_pos rfl, nd_ix hn hk hm]
  · rw [if_neg e]
    refine h.2 j k ?_ hk
    rcases Nat.lt_succ_iff_lt_or_eq.mp hj with z | z
    · exact z
    · subst z
      rw [hm] at hk
      exact absurd (Option.some.inj hk).symm e
section
variable {P : Program} {w : World} {K : Fr} {mg : Str → Option Value} {base : Heap}
/-! ### renumbered -/
def spRenum (K : Fr) : Sp := fun vs H Q _ => ∃ (p o : Addr) (raw : List (Nd Op)) (order : List Nat), vs = [.ref p, .ref o] ∧ GrAt K H p raw ∧ SqL K H o (intsV order) ∧ order.Nodup ∧ (∀ k ∈ order, k < raw.length) ∧
  (∀ (k : Nat) (n : Nd Op), k ∈ order → raw[k]? = some n → ∀ j ∈ n.ways, j ∈ order) ∧ order.length ≤ 100 ∧ ∀ q H', Same H H' → H q = none → GrAt K H' q (renum raw order) → Q (.ref q) H'
theorem scRenum : FnScope ["raw", "order", "place", "k", "old"] ["raw", "order"] (defScope sRenum) := ⟨rfl, rfl, rfl, by decide +kernel, rfl, by decide +kernel, by decide +kernel⟩
theorem nodup_ints {l : List Nat} (h : l.Nodup) : (l.map fun k => ((k : Nat) : Int)).Nodup := by
  simp only [List.Nodup, List.pairwise_map] at h ⊢
  exact h.imp fun hne e => hne (by omega)
theorem ok_renum {f fM : Addr} {fd fdM : FuncData} (F : Fun K "renumbered" "renumbered" sRenum f fd) (FM : Fun K "moved" "moved" sMoved fM fdM) (bM : Binds K fdM ["node", "place"] []) (mM : mg "moved" = some (.ref fM)) (me : mg "enumerate" = none) :
    FnOk P w K mg base CX0 2 f fd ["raw", "order"] (spRenum K) := by
  have GM : FnOk P w K mg base CX0 1 fM fdM ["node", "place"] (spMoved K) := ok_moved FM
  refine F.ok scRenum (fun vs H Q E h => ?_) (fun cdv A outer s H vs Q E hr h => ?_)
  · obtain ⟨p, o, raw, order, rfl, _⟩ := h
    rfl
  obtain ⟨p, o, raw, order, rfl, ⟨vs, hS, hA⟩, hO, hnd, hlt, hcl, h100, q⟩ := h
  have hu := hu_of hr
  have hr1 : Room 1 _ := hr.mono (by decide)
  refine ⟨_, (pss_cons (ps_set (i := 2) scRenum.nd rfl (.inr rfl) pe_dnewK)
    (pss_cons (ps_for PassesOwn.never rfl (pi_enum (by rfl) me (pa_cons (pv 1) pa_nil)) (pg_tup rfl (pgs_cons (pg_name (i := 3) scRenum.nd rfl (.inl rfl)) (pgs_cons (pg_name (i := 4) scRenum.nd rfl (.inl rfl)) pgs_nil)))
    (pss_one (ps_dput hu (pv 2) (pv 4) (pv 3) rfl)))
    (pss_one (ps_ret (pe_lc (own := [("old", 4)]) (g := gName 4) (tt := tYes) rfl scRenum.nd (pi_list (pv 1)) (blkOk_by (own := [("old", 4)]) (N := ["raw", "order", "place", "k", "old"]) (sc := defScope sRenum) (by decide +kernel)) (fun _ _ _ _ _ => pg_name (i := 4) scRenum.nd rfl (Or.inl rfl)) (fun _ _ _ _ _ => pts_nil) (fun _ _ _ _ _ => (pe_call GM hr (by rfl) mM FM.kp bM .nil pass0 (pa_cons (pe_ix (r := rIxL K) ix_list (pv 0) (pv 4) (fun _ _ => rfl)) (pa_cons (pv 2) pa_nil))))))))), ?_⟩
  intro pl hpl
  have s1 : Same H (upd H pl (.dK [])) := same_new hpl
  have gi : ∀ {i : Nat} {v : V}, (intsV order)[i]? = some v → ∃ k, order[i]? = some k ∧ v = .int ((k : Nat) : Int) := fun {i v} hv => by
    unfold intsV at hv
    rw [List.getElem?_map] at hv
    obtain ⟨k, hk, e⟩ := Option.map_eq_some_iff.mp hv
    exact ⟨k, hk, e.symm⟩
  refine ⟨_, rfl, o, _, rfl, s1.seq hO, for_enum (K := K) (a := o) (xs := intsV order) (fun i σ H' => ∃ y3 y4 kvs, σ = [some (.ref p), some (.ref o), some (.ref pl), y3, y4] ∧ Same H H' ∧ H' pl = some (.dK kvs) ∧ Plc kvs (order.map fun k => ((k : Nat) : Int)) i)
    ⟨none, none, [], rfl, s1, upd_same, Plc.nil _⟩ (fun i σ H' _ ⟨_, _, _, _, sm, _⟩ => sm.seq hO) ?_ ?_⟩
  · rintro i v σ H1 T hv ⟨y3, y4, kvs, rfl, sm, hk, hp⟩ nT
    obtain ⟨k, hik, rfl⟩ := gi hv
    have hi := (List.getElem?_eq_some_iff.mp hik).1
    have sT : Same H1 (upd H1 T (.tup [.int ((i : Nat) : Int), .int ((k : Nat) : Int)])) := same_new nT
    refine ⟨T, _, rfl, .inl (.inl upd_same), rfl, _, _, rfl, _, _, rfl, rfl, ?_⟩
    refine ⟨_, rfl, _, rfl, _, rfl, pl, _, rfl, dput_I (sT _ _ hk) (by have := hp.1; omega), ?_⟩
    exact ⟨_, _, _, rfl, same_put (sm.trans sT) hpl, upd_same, hp.put (nodup_ints hnd) (by rw [List.getElem?_map, hik]; rfl)⟩
  · rintro σ H1 ⟨y3, y4, kvs, rfl, sm, hk, hp⟩
    rw [intsV_len] at hp
    have pv' : ∀ k ∈ order, valV kvs (Sum.inl ((k : Nat) : Int) : Key) = some (.int ((order.idxOf k : Nat) : Int)) := fun k hk' => by
      have e := get_idxOf hk'
      exact hp.2 _ _ (List.idxOf_lt_length_of_mem hk') (by rw [List.getElem?_map, e]; rfl)
    refine ⟨_, rfl, o, rfl, ⟨_, sm.seq hO⟩, fun D hD => ?_⟩
    have nD : pl ≠ D := ne_of_none hk hD
    have s2 : Same H (upd H1 D (.lst [])) := sm.trans (same_new hD)
    refine lc_list (K := K) (a := o) (xs := intsV order) (fun i H' => ∃ us, Same H H' ∧ H' pl = some (.dK kvs) ∧ H' D = some (.lst us) ∧ All2 (NdAt K H') us ((renum raw order).take i)) ⟨[], s2, by rw [upd_ne nD]; exact hk, upd_same, by rw [List.take_zero]; exact All2.nil⟩
      (fun i H' _ ⟨_, sm', _⟩ => sm'.seq hO) ?_ ?_
    · rintro i v H2 hv ⟨us, sm2, hk2, hD2, hU⟩
      obtain ⟨k, hik, rfl⟩ := gi hv
      have hko : k ∈ order := List.mem_of_getElem? hik
      have hkl := hlt k hko
      have en := List.getElem?_eq_getElem hkl
      obtain ⟨v', hv', hvn⟩ := hA.get en
      refine ⟨rfl, ?_⟩
      refine ⟨_, rfl, _, rfl, p, vs, _, _, rfl, rfl, sm2.seq hS, atI_nat hv', _, rfl, v', _, pl, kvs, fun k => order.idxOf k, rfl, (imm_same sm2).tup hvn, hk2, fun j hj => pv' j (hcl k _ hko en j hj), fun u H3 s3 hu3 => ?_⟩
      have hg := renum_get hlt hik en
      have hul : us.length ≤ 1000 := by
        have := hU.len
        rw [List.length_take, renum_len hlt] at this
        omega
      have hD3 := s3 _ _ hD2
      have i3 := (imm_same s3).trans (imm_lst (o := .lst (us ++ [u])) hD3)
      refine ⟨us, hD3, small1000 hul, us ++ [u], same_put (sm2.trans s3) (sm.free hD), ?_, upd_same, ?_⟩
      · rw [upd_ne nD]
        exact s3 _ _ hk2
      · rw [List.take_add_one, hg]
        exact (i3.all hU).snoc ((imm_lst hD3).tup hu3)
    · rintro H2 ⟨us, sm2, hk2, hD2, hU⟩
      rw [intsV_len, List.take_of_length_le (by rw [renum_len hlt] <;> exact Nat.le_refl _)] at hU
      exact q D H2 sm2 (sm.free hD) ⟨us, SqL.of hD2, hU⟩
end
end K15

namespace K15
open PySem L2
theorem ifD {p : Prop} [Decidable p] {A B : Prop} (h : p) (a : A) : if decide p = true then A else B := by
  rw [if_pos (decide_eq_true h)]
  exact a
theorem ifDN {p : Prop} [Decidable p] {A B : Prop} (h : ¬ p) (b : B) : if decide p = true then A else B := by
  rw [if_neg (by rw [decide_eq_false h]; exact Bool.false_ne_true)]
  exact b
theorem row_num (x : Int × Rw Op) : (rwV x)[0]? = some (.int x.1) := by
  obtain ⟨m, r⟩ := x
  cases r <;> rfl
section
variable {P : Program} {w : World} {K : Fr} {mg : Str → Option Value} {base : Heap}
/-! ### graph_of -/
def spGraphOf (K : Fr) : Sp := fun vs H Q _ => ∃ (p : Addr) (R : List (Int × Rw Op)), vs = [.ref p] ∧ RwsAt K H p R ∧ RowsOk R ∧ R.length ≤ 100 ∧ (R.length ≤ 40 ∨ ∃ g, Canon g ∧ g.length ≤ 40 ∧ R = laid g) ∧
  ∀ q H' (g' : List (Nd Op)), Same H H' → H q = none → GrAt K H' q g' → Canon g' → g'.length ≤ 40 → (∀ g, Canon g → R = laid g → g' = g) → Q (.ref q) H'
theorem scGraphOf : FnScope ["rows", "places", "at", "row", "raw", "order"] ["rows"] (defScope sGraphOf) := ⟨rfl, rfl, rfl, by decide +kernel, rfl, by decide +kernel, by decide +kernel⟩
theorem ok_graphOf {f fN fC fF fR fM fW : Addr} {fd fdN fdC fdF fdR fdM fdW : FuncData} {tM : Tok} (F : Fun K "graph_of" "graph_of" sGraphOf f fd)
    (FN : Fun K "node_of" "node_of" sNodeOf fN fdN) (bN : Binds K fdN ["rows", "places", "at"] []) (mN : mg "node_of" = some (.ref fN))
    (FC : Fun K "come_to" "come_to" sCome fC fdC) (bC : Binds K fdC ["rows", "places", "at"] []) (mC : mg "come_to" = some (.ref fC))
    (FF : Fun K "finished_last" "finished_last" sFin fF fdF) (bF : Binds K fdF ["raw", "start"] []) (mF : mg "finished_last" = some (.ref fF))
    (FR : Fun K "renumbered" "renumbered" sRenum fR fdR) (bR : Binds K fdR ["raw", "order"] []) (mR : mg "renumbered" = some (.ref fR))
    (FM : Fun K "moved" "moved" sMoved fM fdM) (bM : Binds K fdM ["node", "place"] []) (mM : mg "moved" = some (.ref fM))
    (FW : Fun K "ways" "ways" sWays fW fdW) (bW : Binds K fdW ["node"] []) (mW : mg "ways" = some (.ref fW))
    (mMost : mg "MOST_NODES" = some (.int 40 tM)) (ml : mg "len" = none) (mr : mg "reversed" = none) (mt : mg "list" = none) (me : mg "enumerate" = none) (mm : mg "min" = none) (mg' : mg "range" = none) :
    FnOk P w K mg base CX0 3 f fd ["rows"] (spGraphOf K) := by
  have GN : FnOk P w K mg base CX0 2 fN fdN ["rows", "places", "at"] (spNodeOf K) := ok_nodeOf FN FC bC mC mm
  have GC : FnOk P w K mg base CX0 1 fC fdC ["rows", "places", "at"] (spCome K) := ok_come FC mm
  have GF : FnOk P w K mg base CX0 2 fF fdF ["raw", "start"] (spFin K) := ok_fin FF FW bW mW ml mr mt
  have GR : FnOk P w K mg base CX0 2 fR fdR ["raw", "order"] (spRenum K) := ok_renum FR FM bM mM me
  refine F.ok scGraphOf (fun vs H Q E h => ?_) (fun cdv A outer s H vs Q E hr h => ?_)
  · obtain ⟨p, R, rfl, _⟩ := h
    rfl
  obtain ⟨p, R, rfl, hRw, hR, h100, hmode, q⟩ := h
  have hu := hu_of hr
  obtain ⟨vs, hS, hA⟩ := id hRw
  refine ⟨_, (pss_cons (ps_set (i := 1) scGraphOf.nd rfl (.inr rfl) pe_dnewK)
    (pss_cons (ps_for PassesOwn.never rfl (pi_enum (by rfl) me (pa_cons (pv 0) pa_nil)) (pg_tup rfl (pgs_cons (pg_name (i := 2) scGraphOf.nd rfl (.inl rfl)) (pgs_cons (pg_name (i := 3) scGraphOf.nd rfl (.inl rfl)) pgs_nil)))
    (pss_one (ps_dput hu (pv 1) (pe_ix (r := rIxT K) ix_tup (pv 3) pe_int (fun _ _ => rfl)) (pv 2) rfl)))
    (pss_cons (ps_setLc (i := 4) (own := [("at", 2)]) (g := gName 2) (tt := tYes) rfl scGraphOf.nd rfl rfl (sw_true rfl rfl rfl (by decide +kernel)) (pi_range1 (by rfl) mg' (pa_cons (pe_callB call_len_seq (by rfl) ml PySem.boot_len (pa_cons (pv 0) pa_nil)) pa_nil)) (blkOk_by (own := [("at", 2)]) (N := ["rows", "places", "at", "row", "raw", "order"]) (sc := defScope sGraphOf) (by decide +kernel)) (fun _ _ _ _ _ => pg_name (i := 2) scGraphOf.nd rfl (Or.inl rfl)) (fun _ _ _ _ _ => pts_nil) (fun _ _ _ _ _ => (pe_call GN hr (by rfl) mN FN.kp bN .nil pass0 (pa_cons (pv 0) (pa_cons (pv 1) (pa_cons (pv 2) pa_nil))))))
    (pss_cons (ps_set (i := 5) scGraphOf.nd rfl (.inl rfl) (pe_call GF hr (by rfl) mF FF.kp bF .nil pass0 (pa_cons (pv 4) (pa_cons (pe_call GC (hr.mono (by decide)) (by rfl) mC FC.kp bC .nil pass0 (pa_cons (pv 0) (pa_cons (pv 1) (pa_cons pe_int pa_nil)))) pa_nil))))
    (pss_cons (ps_if (pt_cmpR op_gt (pe_callB call_len_seq (by rfl) ml PySem.boot_len (pa_cons (pv 5) pa_nil)) (pe_glob (v := V.int 40) rfl mMost ⟨_, rfl⟩) (nomark _))
    (pss_one ps_never)
    pss_nil)
    (pss_one (ps_ret (pe_call GR hr (by rfl) mR FR.kp bR .nil pass0 (pa_cons (pv 4) (pa_cons (pv 5) pa_nil)))))))))), ?_⟩
  intro pl hpl
  have s1 : Same H (upd H pl (.dK [])) := same_new hpl
  refine ⟨_, rfl, p, vs, rfl, s1.seq hS, for_enum (K := K) (a := p) (xs := vs) (fun i σ H' => ∃ y2 y3 kvs, σ = [some (.ref p), some (.ref pl), y2, y3, none, none] ∧ Same H H' ∧ H' pl = some (.dK kvs) ∧ Plc kvs (R.map (·.1)) i)
    ⟨none, none, [], rfl, s1, upd_same, Plc.nil _⟩ (fun i σ H' _ ⟨_, _, _, _, sm, _⟩ => sm.seq hS) ?_ ?_⟩
  · rintro i v σ H1 T hv ⟨y2, y3, kvs, rfl, sm, hk, hp⟩ nT
    obtain ⟨x, hx, b, rfl, hb⟩ := hA.get' hv
    have hi := (List.getElem?_eq_some_iff.mp hx).1
    have sT : Same H1 (upd H1 T (.tup [.int ((i : Nat) : Int), .ref b])) := same_new nT
    refine ⟨T, _, rfl, .inl (.inl upd_same), rfl, _, _, rfl, _, _, rfl, rfl, ?_⟩
    refine ⟨_, rfl, _, rfl, _, rfl, b, _, 0, _, rfl, rfl, same_at (sm.trans sT) hb, atI_nat (j := 0) (row_num x), pl, _, rfl, dput_I (sT _ _ hk) (by have := hp.1; omega), ?_⟩
    exact ⟨_, _, _, rfl, same_put (sm.trans sT) hpl, upd_same, hp.put hR.nd (by rw [List.getElem?_map, hx]; rfl)⟩
  rintro σ H1 ⟨y2, y3, kvs, rfl, sm, hk, hp⟩
  rw [hA.len] at hp
  have hPl : PlAt H1 pl R := ⟨kvs, hk, fun i m r e => hp.2 i m (List.getElem?_eq_some_iff.mp e).1 (by rw [List.getElem?_map, e]; rfl)⟩
  -- raw
  refine ⟨_, rfl, p, _, rfl, .inl (sm.seq hS), _, rfl, by omega, by have := hA.len; omega, fun D hD => ?_⟩
  have en : ((vs.length : Nat) : Int).toNat = R.length := by rw [Int.toNat_natCast, hA.len]
  have nD : pl ≠ D := ne_of_none hk hD
  have s2 : Same H1 (upd H1 D (.lst [])) := same_new hD
  refine lc_range (lo := 0) (n := ((vs.length : Nat) : Int).toNat) (fun i H' => ∃ us raw, Same H1 H' ∧ H' D = some (.lst us) ∧ All2 (NdAt K H') us raw ∧ raw.length = i ∧ ∀ (j : Nat) (n : Nd Op), raw[j]? = some n → NodeOf R j n)
    ⟨[], [], s2, upd_same, All2.nil, rfl, fun j n h => by simp at h⟩ ?_ ?_
  · rintro i H2 hi ⟨us, raw, sm2, hD2, hU, hl, hN⟩
    rw [en] at hi
    have s02 := sm.trans sm2
    refine ⟨rfl, ?_⟩
    refine ⟨_, rfl, _, rfl, _, rfl, p, pl, i, R, (by rw [Int.zero_add]; rfl), same_rws s02 hRw, same_pl sm2 hPl, hR, h100, hi, fun u H3 n s3 hu3 hn => ?_⟩
    have hD3 := s3 _ _ hD2
    have i3 := (imm_same s3).trans (imm_lst (o := .lst (us ++ [u])) hD3)
    refine ⟨us, hD3, small1000 (by rw [hU.len]; omega), us ++ [u], raw ++ [n], same_put (sm2.trans s3) hD, upd_same, (i3.all hU).snoc ((imm_lst hD3).tup hu3), by rw [List.length_append, List.length_singleton, hl], fun j n' hj => ?_⟩
    by_cases hjl : j < raw.length
    · rw [List.getElem?_append_left hjl] at hj
      exact hN j n' hj
    · rw [List.getElem?_append_right (by omega)] at hj
      have h0 : j - raw.length = 0 := by
        have := (List.getElem?_eq_some_iff.mp hj).1
        simp at this
        omega
      rw [h0] at hj
      have e1 : n = n' := by simpa using hj
      have e2 : j = i := by omega
      rw [← e1, e2]
      exact hn
  rintro H2 ⟨us, raw, sm2, hD2, hU, hl, hN⟩
  rw [en] at hl
  have hraw : RawOf R raw := ⟨hl, hN⟩
  have s02 := sm.trans sm2
  have hGr : GrAt K H2 D raw := ⟨us, SqL.of hD2, hU⟩
  -- order
  refine ⟨_, rfl, _, rfl, _, rfl, p, pl, 0, R, rfl, same_rws s02 hRw, same_pl sm2 hPl, hR, h100, hR.ne, fun st H3 s3 hst => ?_⟩
  have hstl : st < raw.length := by rw [hl]; exact hst.lt
  refine ⟨D, raw, st, rfl, same_gr s3 hGr, hraw.wf, hstl, by omega, fun o H4 d s4 ho hlo hfin => ?_⟩
  have od := hfin.ordr hraw.wf.closed hstl
  have ndr : d.reverse.Nodup := by
    have := od.nd
    simp only [List.Nodup, List.pairwise_reverse] at this ⊢
    exact this.imp fun h => Ne.symm h
  have ltr : ∀ k ∈ d.reverse, k < raw.length := fun k hk => od.lt k (List.mem_reverse.mp hk)
  have hround : ∀ g, Canon g → R = laid g → renum raw d.reverse = g := fun g hg e => by
    subst e
    exact round hg hraw hst hfin
  have hlen : d.reverse.length ≤ 40 := by
    rcases hmode with h | ⟨g, hg, h40, e⟩
    · have := nodup_le raw.length d.reverse ndr ltr
      omega
    · have := hround g hg e
      rw [← renum_len ltr, this]
      exact h40
  refine ⟨_, rfl, o, _, rfl, .inl (SqL.of hlo), _, _, rfl, rfl, _, rfl, ?_⟩
  refine ifDN (by rw [intsV_len]; omega) ?_
  have s34 := s3.trans s4
  refine ⟨_, rfl, _, rfl, D, o, raw, d.reverse, rfl, same_gr s34 hGr, SqL.of hlo, ndr, ltr, fun k n hk en j hj => ?_, by omega, fun z H5 s5 hz hg => ?_⟩
  · exact List.mem_reverse.mpr (od.cl k (List.mem_reverse.mp hk) j (by rw [glOf_some en]; exact Nd.mem_goals.mpr hj))
  · refine q z H5 _ (s02.trans (s34.trans s5)) ((s02.trans s34).free hz) hg (canon_renum hraw.wf hstl hfin) (by rw [renum_len ltr]; exact hlen) hround
end
end K15

namespace K15
open PySem L2
/-! ### the draws: a list from whose end one is taken -/
def DrAt (H : Hp) (L : Addr) : Prop := ∃ ds : List Int, H L = some (.lst (ds.map V.int)) ∧ ∀ d ∈ ds, 0 ≤ d ∧ d < 2147483629
theorem same_dr {H H' : Hp} {L : Addr} (s : Same H H') (h : DrAt H L) : DrAt H' L := by
  obtain ⟨ds, h, a⟩ := h
  exact ⟨ds, s _ _ h, a⟩
theorem Kp.immD {L : Addr} {H H' : Hp} (h : Kp L H H') (d : DrAt H L) : Imm H H' := by
  obtain ⟨ds, e, _⟩ := d
  exact h.imm e
theorem ne_dr {H : Hp} {L p : Addr} (d : DrAt H L) (hp : H p = none) : p ≠ L := by
  obtain ⟨ds, e, _⟩ := d
  exact (ne_of_none e hp).symm
/-- what is new is not among what was there -/
theorem Kp.free {L : Addr} {H H' : Hp} (h : Kp L H H') {p : Addr} (n : p ≠ L) (hp : H' p = none) : H p = none := by
  cases e : H p with
  | none => rfl
  | some o =>
    rw [h p o n e] at hp
    cases hp
theorem kp_new {L : Addr} {H H1 : Hp} {p : Addr} {o : HO} (h : Kp L H H1) (hp : H p = none) : Kp L H (upd H1 p o) := fun b u n e => by
  rw [upd_ne (ne_of_none e hp)]
  exact h b u n e
theorem kp_put {L : Addr} {H H1 : Hp} {o : HO} (h : Kp L H H1) : Kp L H (upd H1 L o) := fun b u n e => by
  rw [upd_ne n]
  exact h b u n e
/-- four names -/
def NmAt (H : Hp) (nm : Addr) : Prop := ∃ ws : List Op, ws.length = 4 ∧ H nm = some (.lst (ws.map oV))
theorem Kp.nm {L nm : Addr} {H H' : Hp} (h : Kp L H H') (n : nm ≠ L) (a : NmAt H nm) : NmAt H' nm := by
  obtain ⟨ws, hl, e⟩ := a
  exact ⟨ws, hl, h _ _ n e⟩
theorem at_of' {α : Type} {xs : List α} {z : Int} {j : Nat} {v : α} (e : z = (j : Int)) (h : xs[j]? = some v) : atI xs z = some v := by
  subst e
  exact atI_nat h
theorem pick {α : Type} {xs : List α} {i : Int} (h0 : 0 ≤ i) (h : i < (xs.length : Int)) : ∃ x, xs[i.toNat]? = some x ∧ atI (xs) i = some x := by
  have hl : i.toNat < xs.length := by omega
  refine ⟨xs[i.toNat], List.getElem?_eq_getElem hl, ?_⟩
  exact at_of' (by omega) (List.getElem?_eq_getElem hl)
theorem pick_nm {ws : List Op} (hl : ws.length = 4) {i : Int} (h0 : 0 ≤ i) (h : i < 4) : ∃ o : Op, atI (ws.map oV) i = some (oV o) := by
  obtain ⟨x, hx, e⟩ := pick (xs := ws.map oV) h0 (by rw [List.length_map]; omega)
  rw [List.getElem?_map] at hx
  obtain ⟨o, _, rfl⟩ := Option.map_eq_some_iff.mp hx
  exact ⟨o, e⟩
theorem lay_ints : ∀ ds : List Int, PyData.canLayAll0 (ds.map PyData.int) = true ∧ PyData.depthAll (ds.map PyData.int) = 0
  | [] => ⟨rfl, rfl⟩
  | d :: r => by
    obtain ⟨h1, h2⟩ := lay_ints r
    refine ⟨h1, ?_⟩
    show max 0 (PyData.depthAll (r.map PyData.int)) = 0
    omega
theorem shaped_ints (ds : List Int) : SeqAt.shaped (.list (ds.map PyData.int)) = true := by
  obtain ⟨h1, h2⟩ := lay_ints ds
  unfold SeqAt.shaped
  rw [Bool.and_eq_true]
  refine ⟨h1, decide_eq_true ?_⟩
  show PyData.depthAll (ds.map PyData.int) + 1 ≤ 64
  omega
theorem dp_ints {K : Fr} {H : Hp} : ∀ ds : List Int, DpAll K H (ds.map V.int) (ds.map PyData.int)
  | [] => .nil
  | d :: r => .cons (.int d) (dp_ints r)
theorem eqv_ints (ds : List Int) : PyData.eqv (.list (ds.map PyData.int)) (.list []) = ds.isEmpty := by
  cases ds <;> rfl
section
variable {P : Program} {w : World} {K : Fr} {mg : Str → Option Value} {base : Heap}
def spNext : Sp := fun vs H Q _ => ∃ L : Addr, vs = [.ref L] ∧ DrAt H L ∧ ∀ (d : Int) H', Kp L H H' → DrAt H' L → 0 ≤ d → d < 2147483629 → Q (.int d) H'
theorem scNext : FnScope ["_law_drawn_here"] ["_law_drawn_here"] (defScope sNext) := ⟨rfl, rfl, rfl, by decide +kernel, rfl, by decide +kernel, by decide +kernel⟩
theorem ok_next {f : Addr} {fd : FuncData} (F : Fun K "_law_next" "_law_next" sNext f fd) : FnOk P w K mg base CX0 1 f fd ["_law_drawn_here"] spNext := by
  refine F.ok scNext (fun vs H Q E h => ?_) (fun cdv A outer s H vs Q E hr h => ?_)
  · obtain ⟨L, rfl, _⟩ := h
    rfl
  obtain ⟨L, rfl, hd, q⟩ := h
  obtain ⟨ds, hL, hds⟩ := id hd
  refine ⟨_, (pss_cons (ps_if (pt_cmpR (op_eqD hr.units) (pv 0) (pe_lst pa_nil) (nomark _))
    (pss_one (ps_ret pe_int))
    pss_nil)
    (pss_one (ps_ret (pe_bm0 PySem.F.plainAttrs_list PySem.F.slot_list_pop PySem.F.type_list_pop mt_pop (pv 0))))), ?_⟩
  refine ⟨_, rfl, small (n := 0) (by decide), fun e he => ?_⟩
  have s1 : Same H (upd H e (.lst [])) := same_new he
  refine ⟨.list (ds.map PyData.int), .list [], .lst (SqL.of (s1 _ _ hL)) (dp_ints ds), .lst (SqL.of upd_same) .nil, shaped_ints ds, rfl, _, rfl, ?_⟩
  rw [eqv_ints]
  by_cases hne : ds = []
  · subst hne
    exact iteT (q 0 _ (kp_same s1) (same_dr s1 hd) (by decide) (by decide))
  · have hb : ds.isEmpty = false := by
      cases ds with
      | nil => exact absurd rfl hne
      | cons a r => rfl
    rw [hb]
    refine iteF ?_
    have hx : ds = ds.dropLast ++ [ds.getLast hne] := (List.dropLast_concat_getLast hne).symm
    have hm : ds.getLast hne ∈ ds := List.getLast_mem hne
    obtain ⟨h0, h1⟩ := hds _ hm
    have hL1 := s1 _ _ hL
    refine ⟨_, rfl, .inl ⟨rfl, _, SqL.of hL1⟩, L, _, .int (ds.getLast hne), rfl, rfl, hL1, ?_, ?_⟩
    · rw [List.length_map, List.getElem?_map, ← List.getLast?_eq_getElem?, List.getLast?_eq_some_getLast hne]
      rfl
    · refine q _ _ (kp_put (kp_same s1)) ⟨ds.dropLast, ?_, fun d hd' => hds d (by rw [hx]; exact List.mem_append_left _ hd')⟩ h0 h1
      rw [upd_same, List.map_dropLast]
def spGreat : Sp := fun vs H Q _ => ∃ L : Addr, vs = [.ref L] ∧ DrAt H L ∧ ∀ (i : Int) H', Kp L H H' → DrAt H' L → Q (.int i) H'
theorem scGreat : FnScope ["_law_drawn_here", "_law_number"] ["_law_drawn_here"] (defScope sGreat) := ⟨rfl, rfl, rfl, by decide +kernel, rfl, by decide +kernel, by decide +kernel⟩
theorem ok_great {f fX : Addr} {fd fdX : FuncData} (F : Fun K "_law_great" "_law_great" sGreat f fd) (FX : Fun K "_law_next" "_law_next" sNext fX fdX) (bX : Binds K fdX ["_law_drawn_here"] []) (mX : mg "_law_next" = some (.ref fX)) :
    FnOk P w K mg base CX0 2 f fd ["_law_drawn_here"] spGreat := by
  have GX : FnOk P w K mg base CX0 1 fX fdX ["_law_drawn_here"] spNext := ok_next FX
  refine F.ok scGreat (fun vs H Q E h => ?_) (fun cdv A outer s H vs Q E hr h => ?_)
  · obtain ⟨L, rfl, _⟩ := h
    rfl
  obtain ⟨L, rfl, hd, q⟩ := h
  refine ⟨_, (pss_cons (ps_set (i := 1) scGreat.nd rfl (.inl rfl) (pe_op op_mul (pe_call GX hr (by rfl) mX FX.kp bX .nil pass0 (pa_cons (pv 0) pa_nil)) pe_int))
    (pss_one (ps_ret (pe_op op_sub (pe_op op_mod (pe_op op_add (pv 1) (pe_call GX hr (by rfl) mX FX.kp bX .nil pass0 (pa_cons (pv 0) pa_nil))) (pe_op op_add (pe_op op_mul pe_int (pe_op op_pow pe_int pe_int)) pe_int)) (pe_op op_pow pe_int pe_int))))), ?_⟩
  refine ⟨_, rfl, L, rfl, hd, fun d1 H1 k1 hd1 h1 h2 => ?_⟩
  refine ⟨_, _, rfl, rfl, .inl ⟨by omega, by omega⟩, ?_⟩
  refine ⟨_, rfl, _, rfl, L, rfl, hd1, fun d2 H2 k2 hd2 h3 h4 => ?_⟩
  refine ⟨_, _, rfl, rfl, ?_⟩
  refine ⟨10, 18, rfl, rfl, ⟨by decide, by decide, by decide⟩, 2, _, rfl, rfl, .inl ⟨by decide, by decide⟩, _, _, rfl, rfl, _, _, rfl, rfl, (by show (0 : Int) < _; decide), ?_⟩
  refine ⟨10, 18, rfl, rfl, ⟨by decide, by decide, by decide⟩, _, _, rfl, rfl, ?_⟩
  exact q _ H2 (k1.trans k2) hd2
def spOperand : Sp := fun vs H Q _ => ∃ L nm : Addr, vs = [.ref L, .ref nm] ∧ DrAt H L ∧ NmAt H nm ∧ nm ≠ L ∧ ∀ (o : Op) H', Kp L H H' → DrAt H' L → Q (oV o) H'
theorem scOperand : FnScope ["_law_drawn_here", "_law_names_here", "_law_way"] ["_law_drawn_here", "_law_names_here"] (defScope sOperand) := ⟨rfl, rfl, rfl, by decide +kernel, rfl, by decide +kernel, by decide +kernel⟩
theorem ok_operand {f fX fG : Addr} {fd fdX fdG : FuncData} (F : Fun K "_law_operand" "_law_operand" sOperand f fd) (FX : Fun K "_law_next" "_law_next" sNext fX fdX) (bX : Binds K fdX ["_law_drawn_here"] []) (mX : mg "_law_next" = some (.ref fX))
    (FG : Fun K "_law_great" "_law_great" sGreat fG fdG) (bG : Binds K fdG ["_law_drawn_here"] []) (mG : mg "_law_great" = some (.ref fG)) :
    FnOk P w K mg base CX0 3 f fd ["_law_drawn_here", "_law_names_here"] spOperand := by
  have GX : FnOk P w K mg base CX0 1 fX fdX ["_law_drawn_here"] spNext := ok_next FX
  have GG : FnOk P w K mg base CX0 2 fG fdG ["_law_drawn_here"] spGreat := ok_great FG FX bX mX
  refine F.ok scOperand (fun vs H Q E h => ?_) (fun cdv A outer s H vs Q E hr h => ?_)
  · obtain ⟨L, nm, rfl, _⟩ := h
    rfl
  obtain ⟨L, nm, rfl, hd, hn, hnl, q⟩ := h
  have hr1 : Room 1 _ := hr.mono (by decide)
  refine ⟨_, (pss_cons (ps_set (i := 2) scOperand.nd rfl (.inl rfl) (pe_op op_mod (pe_call GX hr1 (by rfl) mX FX.kp bX .nil pass0 (pa_cons (pv 0) pa_nil)) pe_int))
    (pss_cons (ps_if (pt_cmpR op_eq (pv 2) pe_int (nomark _))
    (pss_one (ps_ret (pe_call GG hr (by rfl) mG FG.kp bG .nil pass0 (pa_cons (pv 0) pa_nil))))
    pss_nil)
    (pss_cons (ps_if (pt_cmpR op_lt (pv 2) pe_int (nomark _))
    (pss_one (ps_ret (pe_op op_sub (pe_op op_mod (pe_call GX hr1 (by rfl) mX FX.kp bX .nil pass0 (pa_cons (pv 0) pa_nil)) pe_int) pe_int)))
    pss_nil)
    (pss_one (ps_ret (pe_ix (r := rIxL K) ix_list (pv 1) (pe_op op_mod (pe_call GX hr1 (by rfl) mX FX.kp bX .nil pass0 (pa_cons (pv 0) pa_nil)) pe_int) (fun _ _ => rfl))))))), ?_⟩
  refine ⟨_, rfl, L, rfl, hd, fun d1 H1 k1 hd1 h1 h2 => ?_⟩
  refine ⟨_, _, rfl, rfl, (by show (0 : Int) < _; decide), ?_⟩
  refine ⟨_, rfl, rfl, _, rfl, ?_⟩
  refine ite2 (fun _ => ?_) (fun _ => ?_)
  · exact ⟨_, rfl, L, rfl, hd1, fun i H2 k2 hd2 => q (oI i) H2 (k1.trans k2) hd2⟩
  · refine ⟨_, rfl, _, _, rfl, rfl, _, rfl, ?_⟩
    refine ite2 (fun _ => ?_) (fun _ => ?_)
    · refine ⟨_, rfl, L, rfl, hd1, fun d2 H2 k2 hd2 h3 h4 => ?_⟩
      refine ⟨_, _, rfl, rfl, (by show (0 : Int) < _; decide), _, _, rfl, rfl, ?_⟩
      exact q (oI _) H2 (k1.trans k2) hd2
    · refine ⟨_, rfl, _, rfl, L, rfl, hd1, fun d2 H2 k2 hd2 h3 h4 => ?_⟩
      obtain ⟨ws, hl, hw⟩ := (k1.trans k2).nm hnl hn
      obtain ⟨o, ho⟩ := pick_nm hl (i := d2 % 4) (by omega) (by omega)
      refine ⟨_, _, rfl, rfl, (by show (0 : Int) < _; decide), nm, _, _, _, rfl, rfl, SqL.of hw, ho, ?_⟩
      exact q o H2 (k1.trans k2) hd2
def opS (x : Str) (h : PyData.strOk x = true := by decide +kernel) : Op := ⟨.inr x, h⟩
def spNames : Sp := fun vs H Q _ => ∃ i : Int, vs = [.int i] ∧ ∀ (a : Addr) H', Same H H' → H a = none → NmAt H' a → Q (.ref a) H'
theorem scNames : FnScope ["_law_number", "_law_some"] ["_law_number"] (defScope sNames) := ⟨rfl, rfl, rfl, by decide +kernel, rfl, by decide +kernel, by decide +kernel⟩
theorem ok_names {f : Addr} {fd : FuncData} (F : Fun K "_law_names" "_law_names" sNames f fd) : FnOk P w K mg base CX0 1 f fd ["_law_number"] spNames := by
  refine F.ok scNames (fun vs H Q E h => ?_) (fun cdv A outer s H vs Q E hr h => ?_)
  · obtain ⟨i, rfl, _⟩ := h
    rfl
  obtain ⟨i, rfl, q⟩ := h
  refine ⟨_, (pss_cons (ps_set (i := 1) scNames.nd rfl (.inl rfl) (pe_lst (pa_cons (pe_lst (pa_cons pe_str (pa_cons pe_str (pa_cons pe_str (pa_cons pe_str pa_nil))))) (pa_cons (pe_lst (pa_cons pe_str (pa_cons pe_str (pa_cons pe_str (pa_cons pe_str pa_nil))))) (pa_cons (pe_lst (pa_cons pe_str (pa_cons pe_str (pa_cons pe_str (pa_cons pe_str pa_nil))))) pa_nil)))))
    (pss_cons (ps_expr (pe_bm PySem.F.plainAttrs_list PySem.F.slot_list_append PySem.F.type_list_append mt_append (pv 1) (pa_cons (pe_lst (pa_cons pe_str (pa_cons pe_str (pa_cons pe_str (pa_cons pe_str pa_nil))))) pa_nil)))
    (pss_one (ps_ret (pe_ix (r := rIxL K) ix_list (pv 1) (pe_op op_mod (pv 0) pe_int) (fun _ _ => rfl)))))), ?_⟩
  refine ⟨small (n := 4) (by decide), fun a0 h0 => ?_⟩
  have s0 := same_new (o := .lst ([opS "x", opS "y", opS "z", opS "w"].map oV)) h0
  refine ⟨small (n := 4) (by decide), fun a1 h1 => ?_⟩
  have s1 := same_new (o := .lst ([opS "ab", opS "aa", opS "bb", opS "ba"].map oV)) h1
  refine ⟨small (n := 4) (by decide), fun a2 h2 => ?_⟩
  have s2 := same_new (o := .lst ([opS "q1", opS "q", opS "q11", opS "q2"].map oV)) h2
  refine ⟨small (n := 3) (by decide), fun sm hsm => ?_⟩
  have s3 := same_new (o := .lst [.ref a0, .ref a1, .ref a2]) hsm
  refine ⟨_, rfl, .inl ⟨rfl, _, SqL.of upd_same⟩, small (n := 4) (by decide), fun a3 h3 => ?_⟩
  have s4 := same_new (o := .lst ([opS "sum1aaaa", opS "sum1aaab", opS "sum2aaaa", opS "tum1aaaa"].map oV)) h3
  refine ⟨sm, _, _, rfl, rfl, s4 _ _ upd_same, small1000 (n := 3) (by decide), ?_⟩
  have nm_same : ∀ {H1 H2 : Hp} {a : Addr}, Same H1 H2 → NmAt H1 a → NmAt H2 a := fun sm ⟨ws, hl, e⟩ => ⟨ws, hl, sm _ _ e⟩
  have n0 : NmAt (upd H a0 (.lst ([opS "x", opS "y", opS "z", opS "w"].map oV))) a0 := ⟨_, rfl, upd_same⟩
  have n1 : NmAt (upd (upd H a0 (.lst ([opS "x", opS "y", opS "z", opS "w"].map oV))) a1 (.lst ([opS "ab", opS "aa", opS "bb", opS "ba"].map oV))) a1 := ⟨_, rfl, upd_same⟩
  have n2 : NmAt (upd (upd (upd H a0 (.lst ([opS "x", opS "y", opS "z", opS "w"].map oV))) a1 (.lst ([opS "ab", opS "aa", opS "bb", opS "ba"].map oV))) a2 (.lst ([opS "q1", opS "q", opS "q11", opS "q2"].map oV))) a2 := ⟨_, rfl, upd_same⟩
  have m0 := nm_same s4 (nm_same s3 (nm_same s2 (nm_same s1 n0)))
  have m1 := nm_same s4 (nm_same s3 (nm_same s2 n1))
  have m2 := nm_same s4 (nm_same s3 n2)
  have hs := (s0.trans (s1.trans (s2.trans (s3.trans s4))))
  have m3 : NmAt (upd (upd (upd (upd (upd H a0 (.lst ([opS "x", opS "y", opS "z", opS "w"].map oV))) a1 (.lst ([opS "ab", opS "aa", opS "bb", opS "ba"].map oV))) a2 (.lst ([opS "q1", opS "q", opS "q11", opS "q2"].map oV))) sm (.lst [.ref a0, .ref a1, .ref a2])) a3 (.lst ([opS "sum1aaaa", opS "sum1aaab", opS "sum2aaaa", opS "tum1aaaa"].map oV))) a3 := ⟨_, rfl, upd_same⟩
  have z0 : H a0 = none := h0
  have z1 : H a1 = none := s0.free h1
  have z2 : H a2 = none := (s0.trans s1).free h2
  have zs : H sm = none := (s0.trans (s1.trans s2)).free hsm
  have z3 : H a3 = none := (s0.trans (s1.trans (s2.trans s3))).free h3
  have d0 : a0 ≠ sm := by
    obtain ⟨_, _, e⟩ := nm_same s2 (nm_same s1 n0)
    exact ne_of_none e hsm
  have d1 : a1 ≠ sm := by
    obtain ⟨_, _, e⟩ := nm_same s2 n1
    exact ne_of_none e hsm
  have d2 : a2 ≠ sm := by
    obtain ⟨_, _, e⟩ := n2
    exact ne_of_none e hsm
  have d3 : a3 ≠ sm := (ne_of_none (upd_same (a := sm) (o := .lst [.ref a0, .ref a1, .ref a2])) h3).symm
  refine ⟨_, rfl, _, rfl, _, _, rfl, rfl, (by show (0 : Int) < _; decide), ?_⟩
  have out : ∀ {H4 : Hp} {a : Addr} {o : HO}, a ≠ sm → NmAt H4 a → NmAt (upd H4 sm o) a := fun n ⟨ws, hl, e⟩ => ⟨ws, hl, by rw [upd_ne n]; exact e⟩
  have hk : i % 4 = 0 ∨ i % 4 = 1 ∨ i % 4 = 2 ∨ i % 4 = 3 := by omega
  rcases hk with hk | hk | hk | hk
  · exact ⟨sm, _, _, _, rfl, rfl, SqL.of upd_same, at_of' (j := 0) hk rfl, q a0 _ (same_put hs zs) z0 (out d0 m0)⟩
  · exact ⟨sm, _, _, _, rfl, rfl, SqL.of upd_same, at_of' (j := 1) hk rfl, q a1 _ (same_put hs zs) z1 (out d1 m1)⟩
  · exact ⟨sm, _, _, _, rfl, rfl, SqL.of upd_same, at_of' (j := 2) hk rfl, q a2 _ (same_put hs zs) z2 (out d2 m2)⟩
  · exact ⟨sm, _, _, _, rfl, rfl, SqL.of upd_same, at_of' (j := 3) hk rfl, q a3 _ (same_put hs zs) z3 (out d3 m3)⟩
end
end K15

namespace K15
open PySem L2
theorem pick_ops {ws : List Op} {i : Int} (h0 : 0 ≤ i) (h : i < (ws.length : Int)) : ∃ o : Op, atI (ws.map oV) i = some (oV o) := by
  obtain ⟨x, hx, e⟩ := pick (xs := ws.map oV) h0 (by rw [List.length_map]; exact h)
  rw [List.getElem?_map] at hx
  obtain ⟨o, _, rfl⟩ := Option.map_eq_some_iff.mp hx
  exact ⟨o, e⟩
theorem pick_int {ns : List Int} {i : Int} (h0 : 0 ≤ i) (h : i < (ns.length : Int)) : ∃ t : Int, t ∈ ns ∧ atI (ns.map V.int) i = some (.int t) := by
  obtain ⟨x, hx, e⟩ := pick (xs := ns.map V.int) h0 (by rw [List.length_map]; exact h)
  rw [List.getElem?_map] at hx
  obtain ⟨t, ht, rfl⟩ := Option.map_eq_some_iff.mp hx
  exact ⟨t, List.mem_of_getElem? ht, e⟩
section
variable {P : Program} {w : World} {K : Fr} {mg : Str → Option Value} {base : Heap}
def spRow (K : Fr) : Sp := fun vs H Q _ => ∃ (L nb nm : Addr) (k : Nat) (ns : List Int) (m : Int), vs = [.ref L, .int ((k : Nat) : Int), .ref nb, .ref nm] ∧ DrAt H L ∧ H nb = some (.lst (ns.map V.int)) ∧ nb ≠ L ∧ ns[k]? = some m ∧ NmAt H nm ∧ nm ≠ L ∧
  ∀ u H' r, Kp L H H' → DrAt H' L → RwAt K H' u (m, r) → (∀ t, r.to = some t → t ∈ ns) → Q u H'
theorem scRow : FnScope ["_law_drawn_here", "_law_k", "_law_numbers", "_law_names_here", "_law_kind", "_law_one", "_law_other", "_law_sign"] ["_law_drawn_here", "_law_k", "_law_numbers", "_law_names_here"] (defScope sRow) := ⟨rfl, rfl, rfl, by decide +kernel, rfl, by decide +kernel, by decide +kernel⟩
theorem ok_row {f fX fG fO : Addr} {fd fdX fdG fdO : FuncData} (F : Fun K "_law_row" "_law_row" sRow f fd) (FX : Fun K "_law_next" "_law_next" sNext fX fdX) (bX : Binds K fdX ["_law_drawn_here"] []) (mX : mg "_law_next" = some (.ref fX))
    (FG : Fun K "_law_great" "_law_great" sGreat fG fdG) (bG : Binds K fdG ["_law_drawn_here"] []) (mG : mg "_law_great" = some (.ref fG))
    (FO : Fun K "_law_operand" "_law_operand" sOperand fO fdO) (bO : Binds K fdO ["_law_drawn_here", "_law_names_here"] []) (mO : mg "_law_operand" = some (.ref fO)) (ml : mg "len" = none) :
    FnOk P w K mg base CX0 4 f fd ["_law_drawn_here", "_law_k", "_law_numbers", "_law_names_here"] (spRow K) := by
  have GX : FnOk P w K mg base CX0 1 fX fdX ["_law_drawn_here"] spNext := ok_next FX
  have GO : FnOk P w K mg base CX0 3 fO fdO ["_law_drawn_here", "_law_names_here"] spOperand := ok_operand FO FX bX mX FG bG mG
  refine F.ok scRow (fun vs H Q E h => ?_) (fun cdv A outer s H vs Q E hr h => ?_)
  · obtain ⟨L, nb, nm, k, ns, m, rfl, _⟩ := h
    rfl
  obtain ⟨L, nb, nm, k, ns, m, rfl, hd, hnb, nbl, hm, hn, hnl, q⟩ := h
  have hr1 : Room 1 _ := hr.mono (by decide)
  have hpos : (0 : Int) < ((ns.map V.int).length : Int) := by
    have := (List.getElem?_eq_some_iff.mp hm).1
    rw [List.length_map]
    omega
  have hm' : (ns.map V.int)[k]? = some (.int m) := by
    rw [List.getElem?_map, hm]
    rfl
  have pickn : ∀ d : Int, ∃ t : Int, t ∈ ns ∧ atI (ns.map V.int) (d % ((ns.map V.int).length : Int)) = some (.int t) := fun d => by
    refine pick_int (Int.emod_nonneg _ (by omega)) ?_
    have := Int.emod_lt_of_pos d hpos
    rw [List.length_map] at this ⊢
    exact this
  refine ⟨_, (pss_cons (ps_set (i := 4) scRow.nd rfl (.inl rfl) (pe_op op_mod (pe_call GX hr1 (by rfl) mX FX.kp bX .nil pass0 (pa_cons (pv 0) pa_nil)) pe_int))
    (pss_cons (ps_if (pt_cmpR op_eq (pv 4) pe_int (nomark _))
    (pss_one (ps_ret (pe_tup (pa_cons (pe_ix (r := rIxL K) ix_list (pv 2) (pv 1) (fun _ _ => rfl)) (pa_cons pe_str pa_nil)))))
    pss_nil)
    (pss_cons (ps_if (pt_cmpR op_gt (pv 4) pe_int (nomark _))
    (pss_one (ps_ret (pe_tup (pa_cons (pe_ix (r := rIxL K) ix_list (pv 2) (pv 1) (fun _ _ => rfl)) (pa_cons pe_str (pa_cons (pe_ix (r := rIxL K) ix_list (pv 2) (pe_op op_mod (pe_call GX hr1 (by rfl) mX FX.kp bX .nil pass0 (pa_cons (pv 0) pa_nil)) (pe_callB call_len_seq (by rfl) ml PySem.boot_len (pa_cons (pv 2) pa_nil))) (fun _ _ => rfl)) pa_nil))))))
    pss_nil)
    (pss_cons (ps_set (i := 5) scRow.nd rfl (.inl rfl) (pe_call GO hr (by rfl) mO FO.kp bO .nil pass0 (pa_cons (pv 0) (pa_cons (pv 3) pa_nil))))
    (pss_cons (ps_set (i := 6) scRow.nd rfl (.inl rfl) (pe_call GO hr (by rfl) mO FO.kp bO .nil pass0 (pa_cons (pv 0) (pa_cons (pv 3) pa_nil))))
    (pss_cons (ps_if (pt_cmpR op_lt (pv 4) pe_int (nomark _))
    (pss_cons (ps_set (i := 7) scRow.nd rfl (.inl rfl) (pe_ix (r := rIxL K) ix_list (pe_lst (pa_cons pe_str (pa_cons pe_str (pa_cons pe_str (pa_cons pe_str (pa_cons pe_str (pa_cons pe_str pa_nil))))))) (pe_op op_mod (pe_call GX hr1 (by rfl) mX FX.kp bX .nil pass0 (pa_cons (pv 0) pa_nil)) pe_int) (fun _ _ => rfl)))
    (pss_one (ps_ret (pe_tup (pa_cons (pe_ix (r := rIxL K) ix_list (pv 2) (pv 1) (fun _ _ => rfl)) (pa_cons pe_str (pa_cons (pe_ix (r := rIxL K) ix_list (pv 3) (pe_op op_mod (pe_call GX hr1 (by rfl) mX FX.kp bX .nil pass0 (pa_cons (pv 0) pa_nil)) pe_int) (fun _ _ => rfl)) (pa_cons (pv 5) (pa_cons (pv 7) (pa_cons (pv 6) pa_nil))))))))))
    pss_nil)
    (pss_cons (ps_set (i := 7) scRow.nd rfl (.inl rfl) (pe_ix (r := rIxL K) ix_list (pe_lst (pa_cons pe_str (pa_cons pe_str pa_nil))) (pe_op op_mod (pe_call GX hr1 (by rfl) mX FX.kp bX .nil pass0 (pa_cons (pv 0) pa_nil)) pe_int) (fun _ _ => rfl)))
    (pss_one (ps_ret (pe_tup (pa_cons (pe_ix (r := rIxL K) ix_list (pv 2) (pv 1) (fun _ _ => rfl)) (pa_cons pe_str (pa_cons (pv 5) (pa_cons (pv 7) (pa_cons (pv 6) (pa_cons (pe_ix (r := rIxL K) ix_list (pv 2) (pe_op op_mod (pe_call GX hr1 (by rfl) mX FX.kp bX .nil pass0 (pa_cons (pv 0) pa_nil)) (pe_callB call_len_seq (by rfl) ml PySem.boot_len (pa_cons (pv 2) pa_nil))) (fun _ _ => rfl)) pa_nil)))))))))))))))), ?_⟩
  refine ⟨_, rfl, L, rfl, hd, fun d1 H1 k1 hd1 h1 h2 => ?_⟩
  refine ⟨_, _, rfl, rfl, (by show (0 : Int) < _; decide), ?_⟩
  have hnb1 := k1 _ _ nbl hnb
  have hn1 := k1.nm hnl hn
  refine ⟨_, rfl, rfl, _, rfl, ?_⟩
  refine ite2 (fun _ => ?_) (fun _ => ?_)
  · -- an end
    refine ⟨_, rfl, _, rfl, nb, _, _, _, rfl, rfl, SqL.of hnb1, atI_nat hm', small (n := 2) (by decide), fun p hp => ?_⟩
    exact q _ _ .fin (k1.trans (kp_same (same_new hp))) (same_dr (same_new hp) hd1) ⟨p, rfl, .inl (.inl upd_same)⟩ (fun t ht => by cases ht)
  refine ⟨_, rfl, _, _, rfl, rfl, _, rfl, ?_⟩
  refine ite2 (fun _ => ?_) (fun _ => ?_)
  · -- a jump
    refine ⟨_, rfl, _, rfl, nb, _, _, _, rfl, rfl, SqL.of hnb1, atI_nat hm', ?_⟩
    refine ⟨_, rfl, _, rfl, L, rfl, hd1, fun d2 H2 k2 hd2 h3 h4 => ?_⟩
    have hnb2 := k2 _ _ nbl hnb1
    obtain ⟨t, ht, et⟩ := pickn d2
    refine ⟨_, rfl, nb, _, rfl, .inl (SqL.of hnb2), _, _, rfl, rfl, hpos, nb, _, _, _, rfl, rfl, SqL.of hnb2, et, small (n := 3) (by decide), fun p hp => ?_⟩
    exact q _ _ (.jump t) ((k1.trans k2).trans (kp_same (same_new hp))) (same_dr (same_new hp) hd2) ⟨p, rfl, .inl (.inl upd_same)⟩ (fun t' ht' => by cases ht'; exact ht)
  -- one, other
  refine ⟨_, rfl, _, rfl, L, nm, rfl, hd1, hn1, hnl, fun o1 H2 k2 hd2 => ?_⟩
  have hn2 := k2.nm hnl hn1
  refine ⟨_, rfl, _, rfl, L, nm, rfl, hd2, hn2, hnl, fun o2 H3 k3 hd3 => ?_⟩
  have hn3 := k3.nm hnl hn2
  have k03 := k1.trans (k2.trans k3)
  refine ⟨_, rfl, _, _, rfl, rfl, _, rfl, ?_⟩
  refine ite2 (fun _ => ?_) (fun _ => ?_)
  · -- a sum
    refine ⟨small (n := 6) (by decide), fun sg hsg => ?_⟩
    have ssg : Same H3 (upd H3 sg (.lst ([opS "+", opS "-", opS "/", opS "rest", opS "&", opS "^"].map oV))) := same_new hsg
    have hd4 := same_dr ssg hd3
    have nsg : sg ≠ L := ne_dr hd3 hsg
    refine ⟨_, rfl, L, rfl, hd4, fun d4 H4 k4 hd4' h5 h6 => ?_⟩
    obtain ⟨sgo, esg⟩ := pick_ops (ws := [opS "+", opS "-", opS "/", opS "rest", opS "&", opS "^"]) (i := d4 % 6) (by omega) (by show d4 % 6 < 6; omega)
    refine ⟨_, _, rfl, rfl, (by show (0 : Int) < _; decide), sg, _, _, _, rfl, rfl, SqL.of (k4 _ _ nsg upd_same), esg, ?_⟩
    have k04 := k03.trans ((kp_same ssg).trans k4)
    have hnb4 := k04 _ _ nbl hnb
    refine ⟨_, rfl, _, rfl, nb, _, _, _, rfl, rfl, SqL.of hnb4, atI_nat hm', ?_⟩
    refine ⟨_, rfl, _, rfl, L, rfl, hd4', fun d5 H5 k5 hd5 h7 h8 => ?_⟩
    obtain ⟨ws, hwl, hw⟩ := (k04.trans k5).nm hnl hn
    obtain ⟨nmo, enm⟩ := pick_nm hwl (i := d5 % 4) (by omega) (by omega)
    refine ⟨_, _, rfl, rfl, (by show (0 : Int) < _; decide), nm, _, _, _, rfl, rfl, SqL.of hw, enm, _, rfl, _, rfl, _, rfl, small (n := 6) (by decide), fun p hp => ?_⟩
    exact q _ _ (.sum nmo o1 sgo o2) ((k04.trans k5).trans (kp_same (same_new hp))) (same_dr (same_new hp) hd5) ⟨p, rfl, .inl (.inl upd_same)⟩ (fun t ht => by cases ht)
  · -- a test
    refine ⟨small (n := 2) (by decide), fun sg hsg => ?_⟩
    have ssg : Same H3 (upd H3 sg (.lst ([opS "<", opS "="].map oV))) := same_new hsg
    have hd4 := same_dr ssg hd3
    have nsg : sg ≠ L := ne_dr hd3 hsg
    refine ⟨_, rfl, L, rfl, hd4, fun d4 H4 k4 hd4' h5 h6 => ?_⟩
    obtain ⟨sgo, esg⟩ := pick_ops (ws := [opS "<", opS "="]) (i := d4 % 2) (by omega) (by show d4 % 2 < 2; omega)
    refine ⟨_, _, rfl, rfl, (by show (0 : Int) < _; decide), sg, _, _, _, rfl, rfl, SqL.of (k4 _ _ nsg upd_same), esg, ?_⟩
    have k04 := k03.trans ((kp_same ssg).trans k4)
    have hnb4 := k04 _ _ nbl hnb
    refine ⟨_, rfl, _, rfl, nb, _, _, _, rfl, rfl, SqL.of hnb4, atI_nat hm', _, rfl, _, rfl, _, rfl, ?_⟩
    refine ⟨_, rfl, _, rfl, L, rfl, hd4', fun d5 H5 k5 hd5 h7 h8 => ?_⟩
    have hnb5 := k5 _ _ nbl hnb4
    obtain ⟨t, ht, et⟩ := pickn d5
    refine ⟨_, rfl, nb, _, rfl, .inl (SqL.of hnb5), _, _, rfl, rfl, hpos, nb, _, _, _, rfl, rfl, SqL.of hnb5, et, small (n := 6) (by decide), fun p hp => ?_⟩
    exact q _ _ (.test o1 sgo o2 t) ((k04.trans k5).trans (kp_same (same_new hp))) (same_dr (same_new hp) hd5) ⟨p, rfl, .inl (.inl upd_same)⟩ (fun t' ht' => by cases ht'; exact ht)
end
end K15

namespace K15
open PySem L2
theorem rows_ok {ns : List Int} {R : List (Int × Rw Op)} (hinc : ns.Pairwise (· < ·)) (hl : R.length = ns.length) (hnum : ∀ (j : Nat) (m : Int) (r : Rw Op), R[j]? = some (m, r) → ns[j]? = some m ∧ ∀ t, r.to = some t → t ∈ ns)
    (hlast : ∀ (m : Int) (r : Rw Op), R[ns.length - 1]? = some (m, r) → (∃ t, r = .jump t) ∨ r = .fin) (hpos : 0 < ns.length) : RowsOk R where
  ne := by omega
  nd := by
    have e : R.map (·.1) = ns := by
      apply List.ext_getElem?
      intro i
      rw [List.getElem?_map]
      by_cases hi : i < R.length
      · rw [List.getElem?_eq_getElem hi]
        have e := List.getElem?_eq_getElem hi
        generalize R[i] = x at e ⊢
        obtain ⟨m, r⟩ := x
        rw [(hnum i m r e).1]
        rfl
      · rw [List.getElem?_eq_none (by omega), List.getElem?_eq_none (by omega)]
        rfl
    rw [e]
    exact hinc.imp fun h => by omega
  goes := fun i m r t hr ht => by
    obtain ⟨_, h⟩ := hnum i m r hr
    obtain ⟨j, hj⟩ := List.getElem?_of_mem (h t ht)
    have hjl : j < R.length := by
      have := (List.getElem?_eq_some_iff.mp hj).1
      omega
    have e := List.getElem?_eq_getElem hjl
    generalize R[j] = x at e
    obtain ⟨m', q⟩ := x
    have := (hnum j m' q e).1
    rw [hj] at this
    have := Option.some.inj this
    subst this
    exact ⟨j, q, e⟩
  last := fun i m r hr hk => by
    have hi := (List.getElem?_eq_some_iff.mp hr).1
    rcases Nat.lt_or_ge (i + 1) R.length with z | z
    · exact z
    · have : i = ns.length - 1 := by omega
      subst this
      rcases hlast m r hr with ⟨t, e⟩ | e <;> subst e <;> rcases hk with ⟨_, _, _, _, z⟩ | ⟨_, _, _, _, z⟩ <;> cases z
theorem last_int {ns : List Int} {i : Nat} {m : Int} (hl : ns.length = i + 1) (hm : ns[i]? = some m) : atI (ns.map V.int) (-1) = some (.int m) := by
  have hne : ns ≠ [] := fun e => by
    subst e
    simp at hl
  have hx : ns = ns.dropLast ++ [ns.getLast hne] := (List.dropLast_concat_getLast hne).symm
  have e : ns.getLast hne = m := by
    have h := List.getLast?_eq_some_getLast hne
    rw [List.getLast?_eq_getElem?, hl, Nat.add_sub_cancel, hm] at h
    exact (Option.some.inj h).symm
  rw [hx, e, List.map_append]
  exact atI_last _ _
section
variable {P : Program} {w : World} {K : Fr} {mg : Str → Option Value} {base : Heap}
def spRows (K : Fr) : Sp := fun vs H Q _ => ∃ (L nm : Addr), vs = [.ref L, .ref nm, .int 39] ∧ DrAt H L ∧ NmAt H nm ∧ nm ≠ L ∧
  ∀ q H' R, Kp L H H' → DrAt H' L → H q = none → RwsAt K H' q R → RowsOk R → R.length ≤ 40 → Q (.ref q) H'
theorem scRows : FnScope ["_law_drawn_here", "_law_names_here", "_law_most", "_law_many", "_law_step", "_law_numbers", "_law_k", "_law_rows_here"] ["_law_drawn_here", "_law_names_here", "_law_most"] (defScope sRows) := ⟨rfl, rfl, rfl, by decide +kernel, rfl, by decide +kernel, by decide +kernel⟩
theorem ok_rows {f fX fG fO fR : Addr} {fd fdX fdG fdO fdR : FuncData} (F : Fun K "_law_rows" "_law_rows" sRows f fd) (FX : Fun K "_law_next" "_law_next" sNext fX fdX) (bX : Binds K fdX ["_law_drawn_here"] []) (mX : mg "_law_next" = some (.ref fX))
    (FG : Fun K "_law_great" "_law_great" sGreat fG fdG) (bG : Binds K fdG ["_law_drawn_here"] []) (mG : mg "_law_great" = some (.ref fG))
    (FO : Fun K "_law_operand" "_law_operand" sOperand fO fdO) (bO : Binds K fdO ["_law_drawn_here", "_law_names_here"] []) (mO : mg "_law_operand" = some (.ref fO))
    (FR : Fun K "_law_row" "_law_row" sRow fR fdR) (bR : Binds K fdR ["_law_drawn_here", "_law_k", "_law_numbers", "_law_names_here"] []) (mR : mg "_law_row" = some (.ref fR)) (ml : mg "len" = none) (mrg : mg "range" = none) :
    FnOk P w K mg base CX0 5 f fd ["_law_drawn_here", "_law_names_here", "_law_most"] (spRows K) := by
  have GX : FnOk P w K mg base CX0 1 fX fdX ["_law_drawn_here"] spNext := ok_next FX
  have GR : FnOk P w K mg base CX0 4 fR fdR ["_law_drawn_here", "_law_k", "_law_numbers", "_law_names_here"] (spRow K) := ok_row FR FX bX mX FG bG mG FO bO mO ml
  refine F.ok scRows (fun vs H Q E h => ?_) (fun cdv A outer s H vs Q E hr h => ?_)
  · obtain ⟨L, nm, rfl, _⟩ := h
    rfl
  obtain ⟨L, nm, rfl, hd, hn, hnl, q⟩ := h
  have hr1 : Room 1 _ := hr.mono (by decide)
  refine ⟨_, (pss_cons (ps_set (i := 3) scRows.nd rfl (.inl rfl) (pe_op op_mod (pe_call GX hr1 (by rfl) mX FX.kp bX .nil pass0 (pa_cons (pv 0) pa_nil)) (pe_op op_add (pv 2) pe_int)))
    (pss_cons (ps_set (i := 4) scRows.nd rfl (.inl rfl) (pe_ix (r := rIxL K) ix_list (pe_lst (pa_cons pe_int (pa_cons pe_int (pa_cons pe_int pa_nil)))) (pe_op op_mod (pe_call GX hr1 (by rfl) mX FX.kp bX .nil pass0 (pa_cons (pv 0) pa_nil)) pe_int) (fun _ _ => rfl)))
    (pss_cons (ps_set (i := 5) scRows.nd rfl (.inr rfl) (pe_lst (pa_cons (pe_op op_mod (pe_call GX hr1 (by rfl) mX FX.kp bX .nil pass0 (pa_cons (pv 0) pa_nil)) pe_int) pa_nil)))
    (pss_cons (ps_for PassesOwn.never rfl (pi_range1 (by rfl) mrg (pa_cons (pv 3) pa_nil)) (pg_name (i := 6) scRows.nd rfl (.inl rfl))
    (pss_one (ps_expr (pe_bm PySem.F.plainAttrs_list PySem.F.slot_list_append PySem.F.type_list_append mt_append (pv 5) (pa_cons (pe_op op_add (pe_op op_add (pe_ix (r := rIxL K) ix_list (pv 5) (pv 6) (fun _ _ => rfl)) pe_int) (pe_op op_mod (pe_call GX hr1 (by rfl) mX FX.kp bX .nil pass0 (pa_cons (pv 0) pa_nil)) (pv 4))) pa_nil)))))
    (pss_cons (ps_setLc (i := 7) (own := [("_law_k", 6)]) (g := gName 6) (tt := tYes) rfl scRows.nd rfl rfl (sw_true rfl rfl rfl (by decide +kernel)) (pi_range1 (by rfl) mrg (pa_cons (pv 3) pa_nil)) (blkOk_by (own := [("_law_k", 6)]) (N := ["_law_drawn_here", "_law_names_here", "_law_most", "_law_many", "_law_step", "_law_numbers", "_law_k", "_law_rows_here"]) (sc := defScope sRows) (by decide +kernel)) (fun _ _ _ _ _ => pg_name (i := 6) scRows.nd rfl (Or.inl rfl)) (fun _ _ _ _ _ => pts_nil) (fun _ _ _ _ _ => (pe_call GR hr (by rfl) mR FR.kp bR .nil pass0 (pa_cons (pv 0) (pa_cons (pv 6) (pa_cons (pv 5) (pa_cons (pv 1) pa_nil)))))))
    (pss_cons (ps_if (pt_cmpR op_eq (pe_op op_mod (pe_call GX hr1 (by rfl) mX FX.kp bX .nil pass0 (pa_cons (pv 0) pa_nil)) pe_int) pe_int (nomark _))
    (pss_one (ps_expr (pe_bm PySem.F.plainAttrs_list PySem.F.slot_list_append PySem.F.type_list_append mt_append (pv 7) (pa_cons (pe_tup (pa_cons (pe_ix (r := rIxL K) ix_list (pv 5) (pe_un un_neg pe_int) (fun _ _ => rfl)) (pa_cons pe_str (pa_cons (pe_ix (r := rIxL K) ix_list (pv 5) (pe_op op_mod (pe_call GX hr1 (by rfl) mX FX.kp bX .nil pass0 (pa_cons (pv 0) pa_nil)) (pe_callB call_len_seq (by rfl) ml PySem.boot_len (pa_cons (pv 5) pa_nil))) (fun _ _ => rfl)) pa_nil)))) pa_nil))))
    (pss_one (ps_expr (pe_bm PySem.F.plainAttrs_list PySem.F.slot_list_append PySem.F.type_list_append mt_append (pv 7) (pa_cons (pe_tup (pa_cons (pe_ix (r := rIxL K) ix_list (pv 5) (pe_un un_neg pe_int) (fun _ _ => rfl)) (pa_cons pe_str pa_nil))) pa_nil)))))
    (pss_one (ps_ret (pv 7))))))))), ?_⟩
  -- many
  refine ⟨_, rfl, L, rfl, hd, fun d1 H1 k1 hd1 h1 h2 => ?_⟩
  refine ⟨_, rfl, _, _, rfl, rfl, _, _, rfl, rfl, (by show (0 : Int) < _; decide), ?_⟩
  have hmany : 0 ≤ d1 % (39 + 1) ∧ d1 % (39 + 1) < 40 := by omega
  obtain ⟨mn, emn⟩ : ∃ mn : Nat, d1 % (39 + 1) = ((mn : Nat) : Int) := ⟨(d1 % (39 + 1)).toNat, by omega⟩
  have etn : (d1 % (39 + 1)).toNat = mn := by omega
  -- step
  refine ⟨small (n := 3) (by decide), fun st hst => ?_⟩
  have s2 : Same H1 (upd H1 st (.lst (([1, 10, 97] : List Int).map V.int))) := same_new hst
  have nst : st ≠ L := ne_dr hd1 hst
  refine ⟨_, rfl, L, rfl, same_dr s2 hd1, fun d2 H2 k2 hd2 h3 h4 => ?_⟩
  obtain ⟨step, hstep, est⟩ := pick_int (ns := [1, 10, 97]) (i := d2 % 3) (by omega) (by show d2 % 3 < 3; omega)
  have hsp : 0 < step := by
    simp at hstep
    omega
  refine ⟨_, _, rfl, rfl, (by show (0 : Int) < _; decide), st, _, _, _, rfl, rfl, SqL.of (k2 _ _ nst upd_same), est, ?_⟩
  have k02 := k1.trans ((kp_same s2).trans k2)
  -- numbers
  refine ⟨_, rfl, L, rfl, hd2, fun d3 H3 k3 hd3 h5 h6 => ?_⟩
  refine ⟨_, _, rfl, rfl, (by show (0 : Int) < _; decide), small (n := 1) (by decide), fun nb hnb => ?_⟩
  have k03 := k02.trans k3
  have nbl : nb ≠ L := ne_dr hd3 hnb
  have hnb0 : H nb = none := k03.free nbl hnb
  have hd4 : DrAt (upd H3 nb (.lst [.int (d3 % 300)])) L := same_dr (same_new hnb) hd3
  refine ⟨_, rfl, _, rfl, by omega, by omega, for_range (lo := 0) (n := (d1 % (39 + 1)).toNat) (fun i σ H' => ∃ (y6 : Option V) (ns : List Int), σ = [some (.ref L), some (.ref nm), some (.int 39), some (.int (d1 % (39 + 1))), some (.int step), some (.ref nb), y6, none] ∧ Kp L H H' ∧ DrAt H' L ∧ H' nb = some (.lst (ns.map V.int)) ∧ ns.length = i + 1 ∧ ns.Pairwise (· < ·))
    ⟨none, [d3 % 300], rfl, kp_new k03 hnb0, hd4, upd_same, rfl, by simp⟩ ?_ ?_⟩
  · rintro i σ H4 hi ⟨y6, ns, rfl, k4, hd4, hnb4, hl, hinc⟩
    rw [etn] at hi
    have hil : i < ns.length := by omega
    have ei := List.getElem?_eq_getElem hil
    have e1 : atI (ns.map V.int) (0 + ((i : Nat) : Int)) = some (.int ns[i]) := at_of' (j := i) (by omega) (by rw [List.getElem?_map, ei]; rfl)
    refine ⟨_, rfl, .inl ⟨rfl, _, SqL.of hnb4⟩, ?_⟩
    refine ⟨_, rfl, _, rfl, nb, _, _, _, rfl, rfl, SqL.of hnb4, e1, _, _, rfl, rfl, ?_⟩
    refine ⟨_, rfl, L, rfl, hd4, fun d H5 k5 hd5 h7 h8 => ?_⟩
    refine ⟨_, rfl, _, _, rfl, rfl, hsp, _, _, rfl, rfl, ?_⟩
    have hnb5 := k5 _ _ nbl hnb4
    refine ⟨nb, _, _, rfl, rfl, hnb5, small1000 (by rw [List.length_map]; omega), ?_⟩
    have hge := Int.emod_nonneg d (show step ≠ 0 by omega)
    refine ⟨_, ns ++ [ns[i] + 1 + d % step], rfl, kp_new (k4.trans k5) hnb0, ?_, ?_, by rw [List.length_append, List.length_singleton, hl], ?_⟩
    · obtain ⟨ds, e, a⟩ := hd5
      exact ⟨ds, by rw [upd_ne nbl.symm]; exact e, a⟩
    · rw [upd_same, List.map_append]
      rfl
    · rw [List.pairwise_append]
      refine ⟨hinc, by simp, fun a ha b hb => ?_⟩
      have eb : b = ns[i] + 1 + d % step := by simpa using hb
      obtain ⟨j, hj, rfl⟩ := List.mem_iff_getElem.mp ha
      have : ns[j] ≤ ns[i] := by
        rcases Nat.lt_or_ge j i with z | z
        · exact Int.le_of_lt (List.pairwise_iff_getElem.mp hinc j i hj hil z)
        · have : j = i := by omega
          subst this
          exact Int.le_refl _
      omega
  rintro σ H4 ⟨y6, ns, rfl, k4, hd4, hnb4, hl, hinc⟩
  rw [etn] at hl
  -- rows
  refine ⟨_, rfl, _, rfl, by omega, by omega, fun D hD => ?_⟩
  have nDL : D ≠ L := ne_dr hd4 hD
  have nDb : nb ≠ D := ne_of_none hnb4 hD
  have hD0 : H D = none := k4.free nDL hD
  have s5 : Same H4 (upd H4 D (.lst [])) := same_new hD
  refine lc_range (lo := 0) (n := (d1 % (39 + 1)).toNat) (fun i H' => ∃ (us : List V) (R : List (Int × Rw Op)), Kp L H H' ∧ DrAt H' L ∧ H' nb = some (.lst (ns.map V.int)) ∧ H' D = some (.lst us) ∧ All2 (RwAt K H') us R ∧ R.length = i ∧
      ∀ (j : Nat) (m : Int) (r : Rw Op), R[j]? = some (m, r) → ns[j]? = some m ∧ ∀ t, r.to = some t → t ∈ ns)
    ⟨[], [], kp_new k4 hD0, same_dr s5 hd4, s5 _ _ hnb4, upd_same, All2.nil, rfl, fun j m r h => by simp at h⟩ ?_ ?_
  · rintro i H5 hi ⟨us, R, k5, hd5, hnb5, hD5, hU, hRl, hRn⟩
    rw [etn] at hi
    have hil : i < ns.length := by omega
    have ei := List.getElem?_eq_getElem hil
    refine ⟨rfl, ?_⟩
    refine ⟨_, rfl, _, rfl, _, rfl, _, rfl, L, nb, nm, i, ns, ns[i], (by rw [Int.zero_add]; rfl), hd5, hnb5, nbl, ei, k5.nm hnl hn, hnl, fun u H6 r k6 hd6 hu6 hto => ?_⟩
    have hD6 := k6 _ _ nDL hD5
    have i6 := (k6.immD hd5).trans (imm_lst (o := .lst (us ++ [u])) hD6)
    refine ⟨us, hD6, small1000 (by rw [hU.len]; omega), us ++ [u], R ++ [(ns[i], r)], kp_new (k5.trans k6) hD0, ?_, ?_, upd_same, (i6.all hU).snoc ((imm_lst hD6).tup hu6), by rw [List.length_append, List.length_singleton, hRl], fun j m' r' hj => ?_⟩
    · obtain ⟨ds, e, a⟩ := hd6
      exact ⟨ds, by rw [upd_ne nDL.symm]; exact e, a⟩
    · rw [upd_ne nDb]
      exact k6 _ _ nbl hnb5
    · by_cases hjl : j < R.length
      · rw [List.getElem?_append_left hjl] at hj
        exact hRn j m' r' hj
      · rw [List.getElem?_append_right (by omega)] at hj
        have h0 : j - R.length = 0 := by
          have := (List.getElem?_eq_some_iff.mp hj).1
          simp at this
          omega
        rw [h0] at hj
        have e1 : (ns[i], r) = (m', r') := by simpa using hj
        obtain ⟨e2, e3⟩ := Prod.mk.inj e1
        have e4 : j = i := by omega
        subst e2 e3 e4
        exact ⟨ei, hto⟩
  rintro H5 ⟨us, R, k5, hd5, hnb5, hD5, hU, hRl, hRn⟩
  rw [etn] at hRl
  have hml : mn < ns.length := by omega
  have em := List.getElem?_eq_getElem hml
  have elast := last_int hl em
  have hlen : ((ns.map V.int).length : Int) = (mn : Int) + 1 := by
    rw [List.length_map, hl]
    rfl
  -- the last row
  have fin : ∀ (H6 : Hp) (T : Addr) (r : Rw Op), Kp L H H6 → DrAt H6 L → H6 D = some (.lst us) → All2 (RwAt K H6) us R → H6 T = some (.tup (rwV (ns[mn], r))) → ((∃ t, r = .jump t) ∨ r = .fin) → (∀ t, r.to = some t → t ∈ ns) →
      Q (.ref D) (upd H6 D (.lst (us ++ [.ref T]))) := fun H6 T r k6 hd6 hD6 hU6 hT hk hto => by
    have i6 : Imm H6 (upd H6 D (.lst (us ++ [.ref T]))) := imm_lst hD6
    have hrl : (R ++ [(ns[mn], r)]).length = ns.length := by rw [List.length_append, List.length_singleton]; omega
    refine q D _ (R ++ [(ns[mn], r)]) (kp_new k6 hD0) ?_ hD0 ⟨us ++ [.ref T], SqL.of upd_same, (i6.all hU6).snoc (i6.tup ⟨T, rfl, .inl (.inl hT)⟩)⟩ ?_ (by omega)
    · obtain ⟨ds, e, a⟩ := hd6
      exact ⟨ds, by rw [upd_ne nDL.symm]; exact e, a⟩
    · have hget : (R ++ [(ns[mn], r)])[mn]? = some (ns[mn], r) := by
        rw [List.getElem?_append_right (by omega), hRl, Nat.sub_self]
        rfl
      refine rows_ok hinc hrl (fun j m' r' hj => ?_) (fun m' r' hj => ?_) (by omega)
      · by_cases hjl : j < R.length
        · rw [List.getElem?_append_left hjl] at hj
          exact hRn j m' r' hj
        · have : j = mn := by
            have := (List.getElem?_eq_some_iff.mp hj).1
            omega
          subst this
          rw [hget] at hj
          obtain ⟨e2, e3⟩ := Prod.mk.inj (Option.some.inj hj)
          subst e2 e3
          exact ⟨em, hto⟩
      · rw [hl, Nat.add_sub_cancel, hget] at hj
        obtain ⟨_, e3⟩ := Prod.mk.inj (Option.some.inj hj)
        subst e3
        exact hk
  refine ⟨_, rfl, L, rfl, hd5, fun d6 H6 k6 hd6 h7 h8 => ?_⟩
  have hD6 := k6 _ _ nDL hD5
  have hnb6 := k6 _ _ nbl hnb5
  have hU6 := (k6.immD hd5).all hU
  refine ⟨_, _, rfl, rfl, (by show (0 : Int) < _; decide), rfl, _, rfl, ?_⟩
  refine ite2 (fun _ => ?_) (fun _ => ?_)
  · refine ⟨_, rfl, .inl ⟨rfl, _, SqL.of hD6⟩, ?_⟩
    refine ⟨_, rfl, 1, rfl, nb, _, -1, _, rfl, rfl, SqL.of hnb6, elast, ?_⟩
    refine ⟨_, rfl, _, rfl, L, rfl, hd6, fun d7 H7 k7 hd7 h9 h10 => ?_⟩
    have hnb7 := k7 _ _ nbl hnb6
    have hD7 := k7 _ _ nDL hD6
    have hU7 := (k7.immD hd6).all hU6
    obtain ⟨t, ht, et⟩ := pick_int (ns := ns) (i := d7 % ((ns.map V.int).length : Int)) (Int.emod_nonneg _ (by omega)) (by have := Int.emod_lt_of_pos d7 (show (0 : Int) < ((ns.map V.int).length : Int) by omega); rw [List.length_map] at this ⊢; exact this)
    refine ⟨_, rfl, nb, _, rfl, .inl (SqL.of hnb7), _, _, rfl, rfl, (by show (0 : Int) < _; omega), nb, _, _, _, rfl, rfl, SqL.of hnb7, et, small (n := 3) (by decide), fun T hT => ?_⟩
    have sT : Same H7 (upd H7 T (.tup (rwV (ns[mn], .jump t)))) := same_new hT
    refine ⟨D, us, .ref T, rfl, rfl, sT _ _ hD7, small1000 (by rw [hU.len]; omega), ?_⟩
    exact ⟨_, rfl, fin _ T (.jump t) (((k5.trans k6).trans k7).trans (kp_same sT)) (same_dr sT hd7) (sT _ _ hD7) ((imm_same sT).all hU7) upd_same (.inl ⟨t, rfl⟩) (fun t' e => by cases e; exact ht)⟩
  · refine ⟨_, rfl, .inl ⟨rfl, _, SqL.of hD6⟩, ?_⟩
    refine ⟨_, rfl, 1, rfl, nb, _, -1, _, rfl, rfl, SqL.of hnb6, elast, small (n := 2) (by decide), fun T hT => ?_⟩
    have sT : Same H6 (upd H6 T (.tup (rwV (ns[mn], .fin)))) := same_new hT
    refine ⟨D, us, .ref T, rfl, rfl, sT _ _ hD6, small1000 (by rw [hU.len]; omega), ?_⟩
    exact ⟨_, rfl, fin _ T .fin ((k5.trans k6).trans (kp_same sT)) (same_dr sT hd6) (sT _ _ hD6) ((imm_same sT).all hU6) upd_same (.inr rfl) (fun t' e => by cases e)⟩
end
end K15

namespace K15
open PySem L2
section
variable {P : Program} {w : World} {K : Fr} {mg : Str → Option Value} {base : Heap}
def spFar : Sp := fun vs H Q _ => ∃ (L : Addr) (k many : Nat) (mode : Int), vs = [.ref L, .int ((k : Nat) : Int), .int ((many : Nat) : Int), .int mode] ∧ DrAt H L ∧ k < many ∧
  ∀ (r : Nat) H', Kp L H H' → DrAt H' L → r < many → Q (.int ((r : Nat) : Int)) H'
theorem scFar : FnScope ["_law_drawn_here", "_law_k", "_law_many", "_law_mode", "_law_number", "_law_to"] ["_law_drawn_here", "_law_k", "_law_many", "_law_mode"] (defScope sFar) := ⟨rfl, rfl, rfl, by decide +kernel, rfl, by decide +kernel, by decide +kernel⟩
theorem ok_far {f fX : Addr} {fd fdX : FuncData} (F : Fun K "_law_far" "_law_far" sFar f fd) (FX : Fun K "_law_next" "_law_next" sNext fX fdX) (bX : Binds K fdX ["_law_drawn_here"] []) (mX : mg "_law_next" = some (.ref fX)) (mm : mg "min" = none) :
    FnOk P w K mg base CX0 2 f fd ["_law_drawn_here", "_law_k", "_law_many", "_law_mode"] spFar := by
  have GX : FnOk P w K mg base CX0 1 fX fdX ["_law_drawn_here"] spNext := ok_next FX
  refine F.ok scFar (fun vs H Q E h => ?_) (fun cdv A outer s H vs Q E hr h => ?_)
  · obtain ⟨L, k, many, mode, rfl, _⟩ := h
    rfl
  obtain ⟨L, k, many, mode, rfl, hd, hk, q⟩ := h
  refine ⟨_, (pss_cons (ps_set (i := 4) scFar.nd rfl (.inl rfl) (pe_call GX hr (by rfl) mX FX.kp bX .nil pass0 (pa_cons (pv 0) pa_nil)))
    (pss_cons (ps_if (pt_cmpR op_eq (pv 3) pe_int (nomark _))
    (pss_cons (ps_set (i := 5) scFar.nd rfl (.inl rfl) (pe_op op_add (pe_op op_add (pv 1) pe_int) (pe_op op_mod (pe_op op_fdiv (pv 4) pe_int) (pe_op op_sub (pv 2) (pv 1)))))
    (pss_cons (ps_if (pt_cmpR op_lt (pv 5) (pv 2) (nomark _))
    (pss_one (ps_ret (pv 5)))
    pss_nil)
    (pss_one (ps_ret (pe_ix (r := rIxL K) ix_list (pe_lst (pa_cons pe_int (pa_cons (pv 1) pa_nil))) (pe_op op_mod (pv 4) pe_int) (fun _ _ => rfl))))))
    pss_nil)
    (pss_cons (ps_if (PW.pt (pw_and (pt_cmpR op_eq (pv 3) pe_int (nomark _)) (pw_and1 (pt_cmpR op_eq (pe_op op_mod (pv 4) pe_int) pe_int (nomark _)))))
    (pss_one (ps_ret (pe_callB (call_min2 rfl) (by rfl) mm (by decide +kernel) (pa_cons (pe_op op_add (pe_op op_add (pv 1) pe_int) (pe_op op_mod (pe_op op_fdiv (pv 4) pe_int) pe_int)) (pa_cons (pe_op op_sub (pv 2) pe_int) pa_nil)))))
    pss_nil)
    (pss_cons (ps_if (pt_cmpR op_eq (pv 3) pe_int (nomark _))
    (pss_one (ps_ret (pe_op op_sub (pv 1) (pe_op op_mod (pv 1) (pe_ix (r := rIxL K) ix_list (pe_lst (pa_cons pe_int (pa_cons pe_int (pa_cons pe_int (pa_cons pe_int pa_nil))))) (pe_op op_mod (pe_op op_fdiv (pv 4) pe_int) pe_int) (fun _ _ => rfl))))))
    pss_nil)
    (pss_one (ps_ret (pe_op op_mod (pv 4) (pv 2)))))))), ?_⟩
  refine ⟨_, rfl, L, rfl, hd, fun d H1 k1 hd1 h1 h2 => ?_⟩
  have giveI : ∀ {i : Int} {H' : Hp}, Kp L H H' → DrAt H' L → 0 ≤ i → i < ((many : Nat) : Int) → Q (.int i) H' := fun {i H'} kk dd a b => by
    obtain ⟨r, rfl⟩ : ∃ r : Nat, i = ((r : Nat) : Int) := ⟨i.toNat, by omega⟩
    exact q r H' kk dd (by omega)
  refine ⟨_, rfl, rfl, _, rfl, ?_⟩
  refine ite2 (fun _ => ?_) (fun _ => ?_)
  · have hmk : (0 : Int) < ((many : Nat) : Int) - ((k : Nat) : Int) := by omega
    refine ⟨_, rfl, _, _, rfl, rfl, _, rfl, _, _, rfl, rfl, ⟨by decide, by decide⟩, _, rfl, _, rfl, _, _, rfl, rfl, _, _, rfl, rfl, hmk, _, _, rfl, rfl, ?_⟩
    have z1 := Int.emod_nonneg (d / 2) (show ((many : Nat) : Int) - ((k : Nat) : Int) ≠ 0 by omega)
    refine ⟨_, rfl, _, rfl, _, _, rfl, rfl, _, rfl, ?_⟩
    refine ite2 (fun c => ?_) (fun _ => ?_)
    · have c' := of_decide_eq_true c
      exact ⟨_, rfl, giveI k1 hd1 (by omega) c'⟩
    · refine ⟨_, rfl, small (n := 2) (by decide), fun p hp => ?_⟩
      obtain ⟨t, ht, et⟩ := pick_int (ns := [0, ((k : Nat) : Int)]) (i := d % 2) (by omega) (by show d % 2 < 2; omega)
      refine ⟨_, rfl, _, _, rfl, rfl, (by show (0 : Int) < _; decide), p, _, _, _, rfl, rfl, SqL.of upd_same, et, ?_⟩
      have : t = 0 ∨ t = ((k : Nat) : Int) := by simpa using ht
      exact giveI (k1.trans (kp_same (same_new hp))) (same_dr (same_new hp) hd1) (by omega) (by omega)
  refine ⟨_, rfl, rfl, _, rfl, ?_⟩
  have last : ∀ {H' : Hp}, True := fun {H'} => trivial
  by_cases hm : mode = 2
  · refine ifEq (by rw [hm]) ?_
    refine ⟨_, rfl, _, _, rfl, rfl, (by show (0 : Int) < _; decide), rfl, _, rfl, ?_⟩
    refine ite2 (fun _ => ?_) (fun _ => ?_)
    · refine ⟨_, rfl, _, _, rfl, rfl, _, rfl, _, _, rfl, rfl, ⟨by decide, by decide⟩, _, _, rfl, rfl, (by show (0 : Int) < _; decide), _, _, rfl, rfl, _, rfl, _, _, rfl, rfl, _, _, rfl, ?_⟩
      refine giveI k1 hd1 ?_ ?_ <;> split <;> omega
    · refine ⟨_, rfl, rfl, _, rfl, ifEq (by rw [hm]) ?_⟩
      refine ⟨_, rfl, _, rfl, small (n := 4) (by decide), fun p hp => ?_⟩
      obtain ⟨t, ht, et⟩ := pick_int (ns := [1, 2, 4, 8]) (i := d / 2 % 4) (by omega) (by show d / 2 % 4 < 4; omega)
      have ht' : t = 1 ∨ t = 2 ∨ t = 4 ∨ t = 8 := by simpa using ht
      refine ⟨_, rfl, _, _, rfl, rfl, ⟨by decide, by decide⟩, _, _, rfl, rfl, (by show (0 : Int) < _; decide), p, _, _, _, rfl, rfl, SqL.of upd_same, et, _, _, rfl, rfl, (by show (0 : Int) < t; omega), _, _, rfl, rfl, ?_⟩
      refine giveI (k1.trans (kp_same (same_new hp))) (same_dr (same_new hp) hd1) ?_ ?_ <;> rcases ht' with z | z | z | z <;> subst z <;> omega
  · have hm2 : ¬ V.int mode = V.int 2 := fun e => hm (V.int.inj e)
    refine ifNe hm2 (iteF ?_)
    refine ⟨_, rfl, rfl, _, rfl, ifNe hm2 ?_⟩
    refine ⟨_, rfl, _, rfl, _, _, rfl, rfl, (by show (0 : Int) < ((many : Nat) : Int); omega), ?_⟩
    exact giveI k1 hd1 (Int.emod_nonneg _ (by omega)) (Int.emod_lt_of_pos _ (by omega))
theorem scNear : FnScope ["_law_drawn_here", "_law_k", "_law_many", "_law_mode"] ["_law_drawn_here", "_law_k", "_law_many", "_law_mode"] (defScope sNear) := ⟨rfl, rfl, rfl, by decide +kernel, rfl, by decide +kernel, by decide +kernel⟩
theorem ok_near {f fX fA : Addr} {fd fdX fdA : FuncData} (F : Fun K "_law_near" "_law_near" sNear f fd) (FX : Fun K "_law_next" "_law_next" sNext fX fdX) (bX : Binds K fdX ["_law_drawn_here"] []) (mX : mg "_law_next" = some (.ref fX))
    (FA : Fun K "_law_far" "_law_far" sFar fA fdA) (bA : Binds K fdA ["_law_drawn_here", "_law_k", "_law_many", "_law_mode"] []) (mA : mg "_law_far" = some (.ref fA)) (mm : mg "min" = none) :
    FnOk P w K mg base CX0 3 f fd ["_law_drawn_here", "_law_k", "_law_many", "_law_mode"] spFar := by
  have GX : FnOk P w K mg base CX0 1 fX fdX ["_law_drawn_here"] spNext := ok_next FX
  have GA : FnOk P w K mg base CX0 2 fA fdA ["_law_drawn_here", "_law_k", "_law_many", "_law_mode"] spFar := ok_far FA FX bX mX mm
  refine F.ok scNear (fun vs H Q E h => ?_) (fun cdv A outer s H vs Q E hr h => ?_)
  · obtain ⟨L, k, many, mode, rfl, _⟩ := h
    rfl
  obtain ⟨L, k, many, mode, rfl, hd, hk, q⟩ := h
  have hr1 : Room 1 _ := hr.mono (by decide)
  refine ⟨_, (pss_cons (ps_if (pt_cmpR op_eq (pe_op op_mod (pe_call GX hr1 (by rfl) mX FX.kp bX .nil pass0 (pa_cons (pv 0) pa_nil)) pe_int) pe_int (nomark _))
    (pss_one (ps_ret (pe_call GA hr (by rfl) mA FA.kp bA .nil pass0 (pa_cons (pv 0) (pa_cons (pv 1) (pa_cons (pv 2) (pa_cons (pv 3) pa_nil)))))))
    pss_nil)
    (pss_one (ps_ret (pe_callB (call_min2 rfl) (by rfl) mm (by decide +kernel) (pa_cons (pe_op op_add (pv 1) pe_int) (pa_cons (pe_op op_sub (pv 2) pe_int) pa_nil)))))), ?_⟩
  refine ⟨_, rfl, L, rfl, hd, fun d H1 k1 hd1 h1 h2 => ?_⟩
  refine ⟨_, _, rfl, rfl, (by show (0 : Int) < _; decide), rfl, _, rfl, ?_⟩
  refine ite2 (fun _ => ?_) (fun _ => ?_)
  · exact ⟨_, rfl, _, rfl, _, rfl, _, rfl, L, k, many, mode, rfl, hd1, hk, fun r H2 k2 hd2 hr2 => q r H2 (k1.trans k2) hd2 hr2⟩
  · refine ⟨_, rfl, _, _, rfl, rfl, _, rfl, _, _, rfl, rfl, _, _, rfl, ?_⟩
    have e : (if ((many : Nat) : Int) - 1 < ((k : Nat) : Int) + 1 then ((many : Nat) : Int) - 1 else ((k : Nat) : Int) + 1) = (((if many - 1 < k + 1 then many - 1 else k + 1) : Nat) : Int) := by
      by_cases hc : many - 1 < k + 1
      · rw [if_pos hc, if_pos (by omega)]
        omega
      · rw [if_neg hc, if_neg (by omega)]
        omega
    show Q (.int (if ((many : Nat) : Int) - 1 < ((k : Nat) : Int) + 1 then ((many : Nat) : Int) - 1 else ((k : Nat) : Int) + 1)) H1
    rw [e]
    exact q _ H1 k1 hd1 (by split <;> omega)
end
end K15

namespace K15
open PySem L2
section
variable {P : Program} {w : World} {K : Fr} {mg : Str → Option Value} {base : Heap}
def spNode (K : Fr) : Sp := fun vs H Q _ => ∃ (L : Addr) (k many : Nat) (mode : Int), vs = [.ref L, .int ((k : Nat) : Int), .int ((many : Nat) : Int), .int mode] ∧ DrAt H L ∧ k < many ∧
  ∀ u H' (n : Nd Op), Kp L H H' → DrAt H' L → NdAt K H' u n → (∀ j ∈ n.ways, j < many) → Q u H'
theorem scNode : FnScope ["_law_drawn_here", "_law_k", "_law_many", "_law_mode", "_law_names_here", "_law_kind", "_law_one", "_law_other", "_law_sign", "_law_to"] ["_law_drawn_here", "_law_k", "_law_many", "_law_mode"] (defScope sNode) := ⟨rfl, rfl, rfl, by decide +kernel, rfl, by decide +kernel, by decide +kernel⟩
theorem ok_node {f fX fA fE fG : Addr} {fd fdX fdA fdE fdG : FuncData} (F : Fun K "_law_node" "_law_node" sNode f fd) (FX : Fun K "_law_next" "_law_next" sNext fX fdX) (bX : Binds K fdX ["_law_drawn_here"] []) (mX : mg "_law_next" = some (.ref fX))
    (FA : Fun K "_law_far" "_law_far" sFar fA fdA) (bA : Binds K fdA ["_law_drawn_here", "_law_k", "_law_many", "_law_mode"] []) (mA : mg "_law_far" = some (.ref fA))
    (FE : Fun K "_law_near" "_law_near" sNear fE fdE) (bE : Binds K fdE ["_law_drawn_here", "_law_k", "_law_many", "_law_mode"] []) (mE : mg "_law_near" = some (.ref fE))
    (FG : Fun K "_law_great" "_law_great" sGreat fG fdG) (bG : Binds K fdG ["_law_drawn_here"] []) (mG : mg "_law_great" = some (.ref fG)) (mm : mg "min" = none) :
    FnOk P w K mg base CX0 4 f fd ["_law_drawn_here", "_law_k", "_law_many", "_law_mode"] (spNode K) := by
  have GX : FnOk P w K mg base CX0 1 fX fdX ["_law_drawn_here"] spNext := ok_next FX
  have GA : FnOk P w K mg base CX0 2 fA fdA ["_law_drawn_here", "_law_k", "_law_many", "_law_mode"] spFar := ok_far FA FX bX mX mm
  have GE : FnOk P w K mg base CX0 3 fE fdE ["_law_drawn_here", "_law_k", "_law_many", "_law_mode"] spFar := ok_near FE FX bX mX FA bA mA mm
  have GG : FnOk P w K mg base CX0 2 fG fdG ["_law_drawn_here"] spGreat := ok_great FG FX bX mX
  refine F.ok scNode (fun vs H Q E h => ?_) (fun cdv A outer s H vs Q E hr h => ?_)
  · obtain ⟨L, k, many, mode, rfl, _⟩ := h
    rfl
  obtain ⟨L, k, many, mode, rfl, hd, hk, q⟩ := h
  have hr1 : Room 1 _ := hr.mono (by decide)
  have hr2 : Room 2 _ := hr.mono (by decide)
  refine ⟨_, (pss_cons (ps_set (i := 4) scNode.nd rfl (.inl rfl) (pe_lst (pa_cons pe_str (pa_cons pe_str (pa_cons pe_str (pa_cons pe_str pa_nil))))))
    (pss_cons (ps_set (i := 5) scNode.nd rfl (.inl rfl) (pe_op op_mod (pe_call GX hr1 (by rfl) mX FX.kp bX .nil pass0 (pa_cons (pv 0) pa_nil)) pe_int))
    (pss_cons (ps_if (pt_cmpR op_gt (pv 5) pe_int (nomark _))
    (pss_one (ps_ret (pe_ix (r := rIxL K) ix_list (pe_lst (pa_cons (pe_tup (pa_cons pe_str pa_nil)) (pa_cons (pe_tup (pa_cons pe_str pa_nil)) pa_nil))) (pe_op op_sub (pv 5) pe_int) (fun _ _ => rfl))))
    pss_nil)
    (pss_cons (ps_set (i := 6) scNode.nd rfl (.inl rfl) (pe_ix (r := rIxL K) ix_list (pv 4) (pe_op op_mod (pe_call GX hr1 (by rfl) mX FX.kp bX .nil pass0 (pa_cons (pv 0) pa_nil)) pe_int) (fun _ _ => rfl)))
    (C8.pss_cut (ps_if (pt_cmpR op_eq (pe_op op_mod (pe_call GX hr1 (by rfl) mX FX.kp bX .nil pass0 (pa_cons (pv 0) pa_nil)) pe_int) pe_int (nomark _))
    (pss_one (ps_set (i := 6) scNode.nd rfl (.inl rfl) (pe_op op_sub (pe_op op_mod (pe_call GX hr1 (by rfl) mX FX.kp bX .nil pass0 (pa_cons (pv 0) pa_nil)) pe_int) pe_int)))
    pss_nil)
    (pss_cons (ps_set (i := 7) scNode.nd rfl (.inl rfl) (pe_ix (r := rIxL K) ix_list (pv 4) (pe_op op_mod (pe_call GX hr1 (by rfl) mX FX.kp bX .nil pass0 (pa_cons (pv 0) pa_nil)) pe_int) (fun _ _ => rfl)))
    (C8.pss_cut (ps_if (pt_cmpR op_eq (pe_op op_mod (pe_call GX hr1 (by rfl) mX FX.kp bX .nil pass0 (pa_cons (pv 0) pa_nil)) pe_int) pe_int (nomark _))
    (pss_one (ps_set (i := 7) scNode.nd rfl (.inl rfl) (pe_call GG hr2 (by rfl) mG FG.kp bG .nil pass0 (pa_cons (pv 0) pa_nil))))
    pss_nil)
    (pss_cons (ps_if (pt_cmpR op_lt (pv 5) pe_int (nomark _))
    (pss_cons (ps_set (i := 8) scNode.nd rfl (.inl rfl) (pe_ix (r := rIxL K) ix_list (pe_lst (pa_cons pe_str (pa_cons pe_str (pa_cons pe_str (pa_cons pe_str (pa_cons pe_str (pa_cons pe_str pa_nil))))))) (pe_op op_mod (pe_call GX hr1 (by rfl) mX FX.kp bX .nil pass0 (pa_cons (pv 0) pa_nil)) pe_int) (fun _ _ => rfl)))
    (pss_one (ps_ret (pe_tup (pa_cons pe_str (pa_cons (pe_ix (r := rIxL K) ix_list (pv 4) (pe_op op_mod (pe_call GX hr1 (by rfl) mX FX.kp bX .nil pass0 (pa_cons (pv 0) pa_nil)) pe_int) (fun _ _ => rfl)) (pa_cons (pv 6) (pa_cons (pv 8) (pa_cons (pv 7) (pa_cons (pe_call GE hr (by rfl) mE FE.kp bE .nil pass0 (pa_cons (pv 0) (pa_cons (pv 1) (pa_cons (pv 2) (pa_cons (pv 3) pa_nil))))) pa_nil))))))))))
    pss_nil)
    (pss_cons (ps_set (i := 8) scNode.nd rfl (.inl rfl) (pe_ix (r := rIxL K) ix_list (pe_lst (pa_cons pe_str (pa_cons pe_str pa_nil))) (pe_op op_mod (pe_call GX hr1 (by rfl) mX FX.kp bX .nil pass0 (pa_cons (pv 0) pa_nil)) pe_int) (fun _ _ => rfl)))
    (pss_cons (ps_set (i := 9) scNode.nd rfl (.inl rfl) (pe_call GA hr2 (by rfl) mA FA.kp bA .nil pass0 (pa_cons (pv 0) (pa_cons (pv 1) (pa_cons (pv 2) (pa_cons (pv 3) pa_nil))))))
    (pss_one (ps_ret (pe_tup (pa_cons pe_str (pa_cons (pv 6) (pa_cons (pv 8) (pa_cons (pv 7) (pa_cons (pv 9) (pa_cons (pe_call GE hr (by rfl) mE FE.kp bE .nil pass0 (pa_cons (pv 0) (pa_cons (pv 1) (pa_cons (pv 2) (pa_cons (pv 3) pa_nil))))) pa_nil))))))))))))))))))), ?_⟩
  -- names
  refine ⟨small (n := 4) (by decide), fun nm hnm => ?_⟩
  have s0 : Same H (upd H nm (.lst ([opS "x", opS "y", opS "z1", opS "z"].map oV))) := same_new hnm
  have nml : nm ≠ L := ne_dr hd hnm
  have n0 : NmAt (upd H nm (.lst ([opS "x", opS "y", opS "z1", opS "z"].map oV))) nm := ⟨_, rfl, upd_same⟩
  -- kind
  refine ⟨_, rfl, L, rfl, same_dr s0 hd, fun d1 H1 k1 hd1 h1 h2 => ?_⟩
  refine ⟨_, _, rfl, rfl, (by show (0 : Int) < _; decide), ?_⟩
  have k01 := (kp_same (L := L) s0).trans k1
  have n1 := k1.nm nml n0
  refine ⟨_, rfl, _, _, rfl, rfl, _, rfl, ?_⟩
  refine ite2 (fun c => ?_) (fun _ => ?_)
  · have c' : (29 : Int) < d1 % 32 := of_decide_eq_true c
    refine ⟨small (n := 1) (by decide), fun e1 he1 => ?_⟩
    have s1 : Same H1 (upd H1 e1 (.tup [.str "end"])) := same_new he1
    refine ⟨small (n := 1) (by decide), fun e2 he2 => ?_⟩
    have s2 : Same (upd H1 e1 (.tup [.str "end"])) (upd (upd H1 e1 (.tup [.str "end"])) e2 (.tup [.str "spin"])) := same_new he2
    refine ⟨small (n := 2) (by decide), fun e3 he3 => ?_⟩
    have s3 : Same (upd (upd H1 e1 (.tup [.str "end"])) e2 (.tup [.str "spin"])) (upd (upd (upd H1 e1 (.tup [.str "end"])) e2 (.tup [.str "spin"])) e3 (.lst [.ref e1, .ref e2])) := same_new he3
    have s13 := s1.trans (s2.trans s3)
    refine ⟨_, rfl, _, _, rfl, rfl, ?_⟩
    have hk2 : d1 % 32 - 30 = 0 ∨ d1 % 32 - 30 = 1 := by omega
    rcases hk2 with z | z
    · refine ⟨e3, _, _, _, rfl, rfl, SqL.of upd_same, at_of' (j := 0) z rfl, ?_⟩
      exact q _ _ .fin (k01.trans (kp_same s13)) (same_dr s13 hd1) ⟨e1, rfl, .inl (.inl (s3 _ _ (s2 _ _ upd_same)))⟩ (fun j hj => by simp [Nd.ways] at hj)
    · refine ⟨e3, _, _, _, rfl, rfl, SqL.of upd_same, at_of' (j := 1) z rfl, ?_⟩
      exact q _ _ .spin (k01.trans (kp_same s13)) (same_dr s13 hd1) ⟨e2, rfl, .inl (.inl (s3 _ _ upd_same))⟩ (fun j hj => by simp [Nd.ways] at hj)
  -- one
  have nmpick : ∀ {H' : Hp} (d : Int), NmAt H' nm → ∃ (xs : List V) (o : Op), SqL K H' nm xs ∧ atI xs (d % 4) = some (oV o) := fun {H'} d ⟨ws, hl, hw⟩ => by
    obtain ⟨o, ho⟩ := pick_nm hl (i := d % 4) (by omega) (by omega)
    exact ⟨_, o, SqL.of hw, ho⟩
  refine ⟨_, rfl, _, rfl, L, rfl, hd1, fun d2 H2 k2 hd2 h3 h4 => ?_⟩
  have n2 := k2.nm nml n1
  obtain ⟨xs1, o1, hx1, ho1⟩ := nmpick d2 n2
  have k02 := k01.trans k2
  refine ⟨_, _, rfl, rfl, (by show (0 : Int) < _; decide), nm, _, _, _, rfl, rfl, hx1, ho1, ?_⟩
  refine ⟨fun σ' H' => ∃ o : Op, σ' = [some (.ref L), some (.int ((k : Nat) : Int)), some (.int ((many : Nat) : Int)), some (.int mode), some (.ref nm), some (.int (d1 % 32)), some (oV o), none, none, none] ∧ Kp L H H' ∧ DrAt H' L ∧ NmAt H' nm, ?_, ?_⟩
  · refine ⟨_, rfl, L, rfl, hd2, fun d3 H3 k3 hd3 h5 h6 => ?_⟩
    refine ⟨_, _, rfl, rfl, (by show (0 : Int) < _; decide), rfl, _, rfl, ?_⟩
    refine ite2 (fun _ => ?_) (fun _ => ?_)
    · refine ⟨_, rfl, L, rfl, hd3, fun d4 H4 k4 hd4 h7 h8 => ?_⟩
      refine ⟨_, _, rfl, rfl, (by show (0 : Int) < _; decide), _, _, rfl, rfl, ?_⟩
      exact ⟨oI _, rfl, k02.trans (k3.trans k4), hd4, k4.nm nml (k3.nm nml n2)⟩
    · exact ⟨o1, rfl, k02.trans k3, hd3, k3.nm nml n2⟩
  rintro σ3 H3 ⟨oA, rfl, k03, hd3, n3⟩
  -- other
  refine ⟨_, rfl, _, rfl, L, rfl, hd3, fun d4 H4 k4 hd4 h7 h8 => ?_⟩
  have n4 := k4.nm nml n3
  obtain ⟨xs2, o2, hx2, ho2⟩ := nmpick d4 n4
  have k04 := k03.trans k4
  refine ⟨_, _, rfl, rfl, (by show (0 : Int) < _; decide), nm, _, _, _, rfl, rfl, hx2, ho2, ?_⟩
  refine ⟨fun σ' H' => ∃ o : Op, σ' = [some (.ref L), some (.int ((k : Nat) : Int)), some (.int ((many : Nat) : Int)), some (.int mode), some (.ref nm), some (.int (d1 % 32)), some (oV oA), some (oV o), none, none] ∧ Kp L H H' ∧ DrAt H' L ∧ NmAt H' nm, ?_, ?_⟩
  · refine ⟨_, rfl, L, rfl, hd4, fun d5 H5 k5 hd5 h9 h10 => ?_⟩
    refine ⟨_, _, rfl, rfl, (by show (0 : Int) < _; decide), rfl, _, rfl, ?_⟩
    refine ite2 (fun _ => ?_) (fun _ => ?_)
    · refine ⟨_, rfl, L, rfl, hd5, fun i H6 k6 hd6 => ?_⟩
      exact ⟨oI _, rfl, k04.trans (k5.trans k6), hd6, k6.nm nml (k5.nm nml n4)⟩
    · exact ⟨o2, rfl, k04.trans k5, hd5, k5.nm nml n4⟩
  rintro σ5 H5 ⟨oB, rfl, k05, hd5, n5⟩
  refine ⟨_, rfl, _, _, rfl, rfl, _, rfl, ?_⟩
  refine ite2 (fun _ => ?_) (fun _ => ?_)
  · -- a sum
    refine ⟨small (n := 6) (by decide), fun sg hsg => ?_⟩
    have ssg : Same H5 (upd H5 sg (.lst ([opS "+", opS "-", opS "/", opS "rest", opS "&", opS "^"].map oV))) := same_new hsg
    have nsg : sg ≠ L := ne_dr hd5 hsg
    refine ⟨_, rfl, L, rfl, same_dr ssg hd5, fun d6 H6 k6 hd6 h11 h12 => ?_⟩
    obtain ⟨sgo, esg⟩ := pick_ops (ws := [opS "+", opS "-", opS "/", opS "rest", opS "&", opS "^"]) (i := d6 % 6) (by omega) (by show d6 % 6 < 6; omega)
    refine ⟨_, _, rfl, rfl, (by show (0 : Int) < _; decide), sg, _, _, _, rfl, rfl, SqL.of (k6 _ _ nsg upd_same), esg, ?_⟩
    have k56 := (kp_same (L := L) ssg).trans k6
    have k06 := k05.trans k56
    refine ⟨_, rfl, _, rfl, L, rfl, hd6, fun d7 H7 k7 hd7 h13 h14 => ?_⟩
    obtain ⟨xs3, o3, hx3, ho3⟩ := nmpick d7 (k7.nm nml (k56.nm nml n5))
    refine ⟨_, _, rfl, rfl, (by show (0 : Int) < _; decide), nm, _, _, _, rfl, rfl, hx3, ho3, ?_⟩
    refine ⟨_, rfl, _, rfl, _, rfl, ?_⟩
    refine ⟨_, rfl, _, rfl, _, rfl, _, rfl, L, k, many, mode, rfl, hd7, hk, fun r H8 k8 hd8 hrm => ?_⟩
    refine ⟨small (n := 6) (by decide), fun p hp => ?_⟩
    exact q _ _ (.sum o3 oA sgo oB r) ((k06.trans (k7.trans k8)).trans (kp_same (same_new hp))) (same_dr (same_new hp) hd8) ⟨p, rfl, .inl (.inl upd_same)⟩ (fun j hj => by simp only [Nd.ways, List.mem_singleton] at hj; exact hj ▸ hrm)
  · -- a test
    refine ⟨small (n := 2) (by decide), fun sg hsg => ?_⟩
    have ssg : Same H5 (upd H5 sg (.lst ([opS "<", opS "="].map oV))) := same_new hsg
    have nsg : sg ≠ L := ne_dr hd5 hsg
    refine ⟨_, rfl, L, rfl, same_dr ssg hd5, fun d6 H6 k6 hd6 h11 h12 => ?_⟩
    obtain ⟨sgo, esg⟩ := pick_ops (ws := [opS "<", opS "="]) (i := d6 % 2) (by omega) (by show d6 % 2 < 2; omega)
    refine ⟨_, _, rfl, rfl, (by show (0 : Int) < _; decide), sg, _, _, _, rfl, rfl, SqL.of (k6 _ _ nsg upd_same), esg, ?_⟩
    have k06 := k05.trans ((kp_same (L := L) ssg).trans k6)
    refine ⟨_, rfl, _, rfl, _, rfl, _, rfl, L, k, many, mode, rfl, hd6, hk, fun y H7 k7 hd7 hym => ?_⟩
    refine ⟨_, rfl, _, rfl, _, rfl, _, rfl, ?_⟩
    refine ⟨_, rfl, _, rfl, _, rfl, _, rfl, L, k, many, mode, rfl, hd7, hk, fun r H8 k8 hd8 hrm => ?_⟩
    refine ⟨small (n := 6) (by decide), fun p hp => ?_⟩
    exact q _ _ (.test oA sgo oB y r) ((k06.trans (k7.trans k8)).trans (kp_same (same_new hp))) (same_dr (same_new hp) hd8) ⟨p, rfl, .inl (.inl upd_same)⟩ (fun j hj => by
      simp only [Nd.ways, List.mem_cons, List.not_mem_nil, or_false] at hj
      rcases hj with z | z
      · exact z ▸ hym
      · exact z ▸ hrm)
end
end K15

namespace K15
open PySem L2
theorem inV_ints (g : Nat) : ∀ b : List Nat, inV (.int ((g : Nat) : Int)) (intsV b) = decide (g ∈ b)
  | [] => rfl
  | a :: r => by
    show (((a : Nat) : Int) == ((g : Nat) : Int) || inV (.int ((g : Nat) : Int)) (intsV r)) = decide (g ∈ a :: r)
    rw [inV_ints g r]
    by_cases h : g = a
    · subst h
      simp
    · have h2 : ¬ ((a : Nat) : Int) = ((g : Nat) : Int) := by omega
      simp [h, h2]
theorem flat_ints : ∀ b : List Nat, (intsV b).all flatV = true
  | [] => rfl
  | a :: r => flat_ints r
structure FO (K : Fr) (H0 H : Hp) (bg tr dn : Addr) (x : DS) : Prop where
  same : Same H0 H
  b : H bg = some (.lst (intsV x.begun))
  d : H dn = some (.lst (intsV x.done))
  nb : H0 bg = none
  nt : H0 tr = none
  nd : H0 dn = none
  bt : bg ≠ tr
  bd : bg ≠ dn
  td : tr ≠ dn
  t : ∃ us : List V, H tr = some (.lst us.reverse) ∧ All2 (fun u p => TupAt K H u (prV p)) us x.trail
section
variable {K : Fr} {H0 H : Hp} {bg tr dn : Addr} {b d : List Nat} {t : List (Nat × Nat)}
theorem FO.mono {H' : Hp} {x : DS} (h : FO K H0 H bg tr dn x) (s : Same H H') : FO K H0 H' bg tr dn x := by
  obtain ⟨us, hu, hA⟩ := h.t
  exact ⟨h.same.trans s, s _ _ h.b, s _ _ h.d, h.nb, h.nt, h.nd, h.bt, h.bd, h.td, us, s _ _ hu, (imm_same s).all hA⟩
theorem FO.top {k : Nat × Nat} (h : FO K H0 H bg tr dn ⟨b, k :: t, d⟩) : ∃ (u : V) (us : List V), H tr = some (.lst (us.reverse ++ [u])) ∧ TupAt K H u (prV k) ∧ FO K H0 (upd H tr (.lst us.reverse)) bg tr dn ⟨b, t, d⟩ ∧ us.length = t.length := by
  obtain ⟨us, hu, hA⟩ := h.t
  obtain ⟨u, r, rfl, hk, hA'⟩ := hA.uncons
  rw [List.reverse_cons] at hu
  refine ⟨u, r, hu, hk, ⟨same_put h.same h.nt, ?_, ?_, h.nb, h.nt, h.nd, h.bt, h.bd, h.td, r, upd_same, (imm_lst hu).all hA'⟩, hA'.len⟩
  · rw [upd_ne h.bt]
    exact h.b
  · rw [upd_ne h.td.symm]
    exact h.d
theorem FO.push {k : Nat × Nat} (h : FO K H0 H bg tr dn ⟨b, t, d⟩) {T : Addr} (hT : H T = some (.tup (prV k))) : ∃ us : List V, H tr = some (.lst us) ∧ us.length = t.length ∧ FO K H0 (upd H tr (.lst (us ++ [.ref T]))) bg tr dn ⟨b, k :: t, d⟩ := by
  obtain ⟨us, hu, hA⟩ := h.t
  refine ⟨us.reverse, hu, by rw [List.length_reverse]; exact hA.len, same_put h.same h.nt, ?_, ?_, h.nb, h.nt, h.nd, h.bt, h.bd, h.td, .ref T :: us, ?_, All2.cons ((imm_lst hu).tup ⟨T, rfl, .inl (.inl hT)⟩) ((imm_lst hu).all hA)⟩
  · rw [upd_ne h.bt]
    exact h.b
  · rw [upd_ne h.td.symm]
    exact h.d
  · rw [upd_same, List.reverse_cons]
theorem FO.fin {k : Nat} (h : FO K H0 H bg tr dn ⟨b, t, d⟩) : FO K H0 (upd H dn (.lst (intsV d ++ [.int ((k : Nat) : Int)]))) bg tr dn ⟨b, t, d ++ [k]⟩ := by
  obtain ⟨us, hu, hA⟩ := h.t
  have hd : H dn = some (.lst (intsV d)) := h.d
  refine ⟨same_put h.same h.nd, ?_, ?_, h.nb, h.nt, h.nd, h.bt, h.bd, h.td, us, ?_, (imm_lst hd).all hA⟩
  · rw [upd_ne h.bd]
    exact h.b
  · rw [upd_same]
    unfold intsV
    rw [List.map_append]
    rfl
  · rw [upd_ne h.td]
    exact hu
theorem FO.begin {g : Nat} (h : FO K H0 H bg tr dn ⟨b, t, d⟩) : FO K H0 (upd H bg (.lst (intsV b ++ [.int ((g : Nat) : Int)]))) bg tr dn ⟨b ++ [g], t, d⟩ := by
  obtain ⟨us, hu, hA⟩ := h.t
  have hb : H bg = some (.lst (intsV b)) := h.b
  refine ⟨same_put h.same h.nb, ?_, ?_, h.nb, h.nt, h.nd, h.bt, h.bd, h.td, us, ?_, (imm_lst hb).all hA⟩
  · rw [upd_same]
    unfold intsV
    rw [List.map_append]
    rfl
  · rw [upd_ne h.bd.symm]
    exact h.d
  · rw [upd_ne h.bt.symm]
    exact hu
end
def prT (p : Nat × Nat) : PyData := .tuple [.int ((p.1 : Nat) : Int), .int ((p.2 : Nat) : Int)]
theorem dp_trailT {K : Fr} {H : Hp} : ∀ (us : List V) (t : List (Nat × Nat)), All2 (fun u p => TupAt K H u (prV p)) us t → DpAll K H us (t.map prT)
  | us, [], h => by
    have : us = [] := List.length_eq_zero_iff.mp h.len
    subst this
    exact .nil
  | us, p :: t, h => by
    obtain ⟨u, r, rfl, ⟨a, rfl, q⟩, h'⟩ := h.uncons
    exact .cons (.tup q (.cons (.int _) (.cons (.int _) .nil))) (dp_trailT r t h')
theorem lay_pairsT : ∀ t : List (Nat × Nat), PyData.canLayAll0 (t.map prT) = true ∧ PyData.depthAll (t.map prT) ≤ 1
  | [] => ⟨rfl, Nat.zero_le _⟩
  | p :: t => by
    obtain ⟨h1, h2⟩ := lay_pairsT t
    refine ⟨?_, ?_⟩
    · show (PyData.canLay0 (prT p) && PyData.canLayAll0 (t.map prT)) = true
      rw [h1]
      rfl
    · show max (PyData.depth (prT p)) (PyData.depthAll (t.map prT)) ≤ 1
      have : PyData.depth (prT p) = 1 := rfl
      omega
theorem shaped_trailT (t : List (Nat × Nat)) : SeqAt.shaped (.list (t.map prT).reverse) = true := by
  rw [← List.map_reverse]
  obtain ⟨h1, h2⟩ := lay_pairsT t.reverse
  unfold SeqAt.shaped
  rw [Bool.and_eq_true]
  refine ⟨h1, decide_eq_true ?_⟩
  show PyData.depthAll (t.reverse.map prT) + 1 ≤ 64
  omega
theorem eqv_nilT (t : List (Nat × Nat)) : PyData.eqv (.list (t.map prT).reverse) (.list []) = t.isEmpty := by
  cases t with
  | nil => rfl
  | cons p t =>
    cases q : ((p :: t).map prT).reverse with
    | nil =>
      have := congrArg List.length q
      simp at this
    | cons a r => rfl
section
variable {P : Program} {w : World} {K : Fr} {mg : Str → Option Value} {base : Heap}
def spGoals (K : Fr) : Sp := fun vs H Q _ => ∃ (v : V) (n : Nd Op), vs = [v] ∧ NdAt K H v n ∧ ∀ p H', Same H H' → H p = none → H' p = some (.lst (intsV n.goals)) → Q (.ref p) H'
theorem scGoals : FnScope ["_law_node_here"] ["_law_node_here"] (defScope sGoals) := ⟨rfl, rfl, rfl, by decide +kernel, rfl, by decide +kernel, by decide +kernel⟩
theorem ok_goals {f : Addr} {fd : FuncData} (F : Fun K "_law_goals" "_law_goals" sGoals f fd) : FnOk P w K mg base CX0 1 f fd ["_law_node_here"] (spGoals K) := by
  refine F.ok scGoals (fun vs H Q E h => ?_) (fun cdv A outer s H vs Q E hr h => ?_)
  · obtain ⟨v, n, rfl, _⟩ := h
    rfl
  obtain ⟨v, n, rfl, ⟨a, rfl, hS⟩, q⟩ := h
  refine ⟨_, (pss_cons (ps_if (pt_cmpR op_eq (pe_ix (r := rIxT K) ix_tup (pv 0) pe_int (fun _ _ => rfl)) pe_str (nomark _))
    (pss_one (ps_ret (pe_lst (pa_cons (pe_ix (r := rIxT K) ix_tup (pv 0) pe_int (fun _ _ => rfl)) pa_nil))))
    pss_nil)
    (pss_cons (ps_if (pt_cmpR op_eq (pe_ix (r := rIxT K) ix_tup (pv 0) pe_int (fun _ _ => rfl)) pe_str (nomark _))
    (pss_one (ps_ret (pe_lst (pa_cons (pe_ix (r := rIxT K) ix_tup (pv 0) pe_int (fun _ _ => rfl)) (pa_cons (pe_ix (r := rIxT K) ix_tup (pv 0) pe_int (fun _ _ => rfl)) pa_nil)))))
    pss_nil)
    (pss_one (ps_ret (pe_lst pa_nil))))), ?_⟩
  cases n with
  | sum nm x s y nx =>
    refine ⟨_, rfl, a, _, 0, _, rfl, rfl, hS, rfl, rfl, _, rfl, ifEq rfl ?_⟩
    refine ⟨_, rfl, a, _, 5, _, rfl, rfl, hS, rfl, small (n := 1) (by decide), fun p hp => ?_⟩
    exact q p _ (same_new hp) hp upd_same
  | test x s y ys no =>
    refine ⟨_, rfl, a, _, 0, _, rfl, rfl, hS, rfl, rfl, _, rfl, ifNe test_sum ?_⟩
    refine ⟨_, rfl, a, _, 0, _, rfl, rfl, hS, rfl, rfl, _, rfl, ifEq rfl ?_⟩
    refine ⟨_, rfl, a, _, 5, _, rfl, rfl, hS, rfl, _, rfl, a, _, 4, _, rfl, rfl, hS, rfl, small (n := 2) (by decide), fun p hp => ?_⟩
    exact q p _ (same_new hp) hp upd_same
  | fin =>
    refine ⟨_, rfl, a, _, 0, _, rfl, rfl, hS, rfl, rfl, _, rfl, ifNe end_sum ?_⟩
    refine ⟨_, rfl, a, _, 0, _, rfl, rfl, hS, rfl, rfl, _, rfl, ifNe end_test ?_⟩
    refine ⟨small (n := 0) (by decide), fun p hp => ?_⟩
    exact q p _ (same_new hp) hp upd_same
  | spin =>
    refine ⟨_, rfl, a, _, 0, _, rfl, rfl, hS, rfl, rfl, _, rfl, ifNe spin_sum ?_⟩
    refine ⟨_, rfl, a, _, 0, _, rfl, rfl, hS, rfl, rfl, _, rfl, ifNe spin_test ?_⟩
    refine ⟨small (n := 0) (by decide), fun p hp => ?_⟩
    exact q p _ (same_new hp) hp upd_same
def spOrder (K : Fr) : Sp := fun vs H Q _ => ∃ (p : Addr) (raw : List (Nd Op)), vs = [.ref p] ∧ GrAt K H p raw ∧ Wf raw ∧ 0 < raw.length ∧ raw.length ≤ 100 ∧
  ∀ q H' d, Same H H' → H q = none → H' q = some (.lst (intsV d.reverse)) → Fin (glOf raw) 0 d → Q (.ref q) H'
theorem scOrder : FnScope ["_law_raw", "_law_begun", "_law_trail", "_law_done", "_law_here", "_law_step", "_law_goals_here"] ["_law_raw"] (defScope sOrder) := ⟨rfl, rfl, rfl, by decide +kernel, rfl, by decide +kernel, by decide +kernel⟩
theorem ok_order {f fG : Addr} {fd fdG : FuncData} (F : Fun K "_law_order" "_law_order" sOrder f fd) (FG : Fun K "_law_goals" "_law_goals" sGoals fG fdG) (bG : Binds K fdG ["_law_node_here"] []) (mG : mg "_law_goals" = some (.ref fG)) (ml : mg "len" = none) :
    FnOk P w K mg base CX0 2 f fd ["_law_raw"] (spOrder K) := by
  have GG : FnOk P w K mg base CX0 1 fG fdG ["_law_node_here"] (spGoals K) := ok_goals FG
  refine F.ok scOrder (fun vs H Q E h => ?_) (fun cdv A outer s H vs Q E hr h => ?_)
  · obtain ⟨p, raw, rfl, _⟩ := h
    rfl
  obtain ⟨p, raw, rfl, ⟨vs, hS, hA⟩, hw, h0, h100, q⟩ := h
  refine ⟨_, (pss_cons (ps_set (i := 1) scOrder.nd rfl (.inl rfl) (pe_lst (pa_cons pe_int pa_nil)))
    (pss_cons (ps_set (i := 2) scOrder.nd rfl (.inl rfl) (pe_lst (pa_cons (pe_tup (pa_cons pe_int (pa_cons pe_int pa_nil))) pa_nil)))
    (pss_cons (ps_set (i := 3) scOrder.nd rfl (.inl rfl) (pe_lst pa_nil))
    (pss_cons (ps_while PassesOwn.never (pt_cmpR (op_neD hr.units) (pv 2) (pe_lst pa_nil) (nomark _))
    (pss_cons (ps_asg (pe_bm0 PySem.F.plainAttrs_list PySem.F.slot_list_pop PySem.F.type_list_pop mt_pop (pv 2)) (pg_tup rfl (pgs_cons (pg_name (i := 4) scOrder.nd rfl (.inl rfl)) (pgs_cons (pg_name (i := 5) scOrder.nd rfl (.inl rfl)) pgs_nil))))
    (pss_cons (ps_set (i := 6) scOrder.nd rfl (.inl rfl) (pe_call GG (hr.mono (by decide)) (by rfl) mG FG.kp bG .nil pass0 (pa_cons (pe_ix (r := rIxL K) ix_list (pv 0) (pv 4) (fun _ _ => rfl)) pa_nil)))
    (pss_one (ps_if (pt_cmpR op_eq (pv 5) (pe_callB call_len_seq (by rfl) ml PySem.boot_len (pa_cons (pv 6) pa_nil)) (nomark _))
    (pss_one (ps_expr (pe_bm PySem.F.plainAttrs_list PySem.F.slot_list_append PySem.F.type_list_append mt_append (pv 3) (pa_cons (pv 4) pa_nil))))
    (pss_cons (ps_expr (pe_bm PySem.F.plainAttrs_list PySem.F.slot_list_append PySem.F.type_list_append mt_append (pv 2) (pa_cons (pe_tup (pa_cons (pv 4) (pa_cons (pe_op op_add (pv 5) pe_int) pa_nil))) pa_nil)))
    (pss_one (ps_if (pt_cmpR op_notIn_seq (pe_ix (r := rIxL K) ix_list (pv 6) (pv 5) (fun _ _ => rfl)) (pv 1) (by rfl))
    (pss_cons (ps_expr (pe_bm PySem.F.plainAttrs_list PySem.F.slot_list_append PySem.F.type_list_append mt_append (pv 1) (pa_cons (pe_ix (r := rIxL K) ix_list (pv 6) (pv 5) (fun _ _ => rfl)) pa_nil)))
    (pss_one (ps_expr (pe_bm PySem.F.plainAttrs_list PySem.F.slot_list_append PySem.F.type_list_append mt_append (pv 2) (pa_cons (pe_tup (pa_cons (pe_ix (r := rIxL K) ix_list (pv 6) (pv 5) (fun _ _ => rfl)) (pa_cons pe_int pa_nil))) pa_nil)))))
    pss_nil))))))))
    (pss_one (ps_ret (pe_revL (pv 3)))))))), ?_⟩
  refine ⟨small (n := 1) (by decide), fun bg hbg => ?_⟩
  have s1 : Same H (upd H bg (.lst (intsV [0]))) := same_new hbg
  refine ⟨small (n := 2) (by decide), fun t0 ht0 => ?_⟩
  have s2 := s1.trans (same_new (o := .tup (prV (0, 0))) ht0)
  refine ⟨small (n := 1) (by decide), fun tr htr => ?_⟩
  have s3 := s2.trans (same_new (o := .lst [.ref t0]) htr)
  refine ⟨small (n := 0) (by decide), fun dn hdn => ?_⟩
  have s4 := s3.trans (same_new (o := .lst []) hdn)
  have nb0 : bg ≠ t0 := ne_of_none upd_same ht0
  have nt0 : t0 ≠ tr := ne_of_none upd_same htr
  have ntd : tr ≠ dn := ne_of_none upd_same hdn
  have nbt : bg ≠ tr := ne_of_none (by rw [upd_ne nb0, upd_same]) htr
  have nad : t0 ≠ dn := ne_of_none (by rw [upd_ne nt0, upd_same]) hdn
  have nbd : bg ≠ dn := ne_of_none (by rw [upd_ne nbt, upd_ne nb0, upd_same]) hdn
  have hcl := hw.closed
  have f0 : FO K H (upd (upd (upd (upd H bg (.lst (intsV [0]))) t0 (.tup (prV (0, 0)))) tr (.lst [.ref t0])) dn (.lst [])) bg tr dn (dini 0) := by
    refine ⟨s4, ?_, upd_same, hbg, s2.free htr, s3.free hdn, nbt, nbd, ntd, [.ref t0], ?_, All2.cons ⟨t0, rfl, .inl (.inl ?_)⟩ All2.nil⟩
    · rw [upd_ne nbd, upd_ne nbt, upd_ne nb0]
      exact upd_same
    · rw [upd_ne ntd]
      exact upd_same
    · rw [upd_ne nad, upd_ne nt0]
      exact upd_same
  refine ⟨fun m σ H' => ∃ (x : DS) (y4 y5 y6 : Option V), m = mu (glOf raw) raw.length x ∧ Reach (glOf raw) 0 x ∧ FO K H H' bg tr dn x ∧ σ = [some (.ref p), some (.ref bg), some (.ref tr), some (.ref dn), y4, y5, y6],
    ⟨_, dini 0, none, none, none, rfl, Reach.ini _ _, f0, rfl⟩, ?_⟩
  rintro m σ H1 ⟨⟨b, t, d⟩, y4, y5, y6, rfl, hre, hf, rfl⟩
  have di := DI.reach hcl h0 hre
  obtain ⟨us, hta, htA⟩ := id hf.t
  refine ⟨_, rfl, small (n := 0) (by decide), fun e0 he0 => ?_⟩
  have se : Same H1 (upd H1 e0 (.lst [])) := same_new he0
  have hf1 := hf.mono se
  refine ⟨.list (t.map prT).reverse, .list [], .lst (SqL.of (se _ _ hta)) (dpAll_reverse (dp_trailT us t ((imm_same se).all htA))), .lst (SqL.of upd_same) .nil, shaped_trailT t, rfl, _, rfl, ?_⟩
  rw [eqv_nilT]
  cases t with
  | nil =>
    refine iteF ?_
    refine ⟨_, rfl, dn, _, rfl, SqL.of hf1.d, fun r hr' => ?_⟩
    rw [intsV_rev]
    exact q r _ d (hf1.same.trans (same_new hr')) (hf1.same.free hr') upd_same ⟨b, hre⟩
  | cons kp t =>
    obtain ⟨k, s'⟩ := kp
    refine iteT ?_
    have hkb : k ∈ b := (di.mem k).mpr (by simp)
    have hk : k < raw.length := di.lt k hkb
    have en := List.getElem?_eq_getElem hk
    obtain ⟨v, hv, hvn⟩ := hA.get en
    generalize raw[k] = n at en hvn
    have egl : glOf raw k = n.goals := glOf_some en
    obtain ⟨hsl, _⟩ := di.tr (k, s') (by simp)
    have hsl : s' ≤ (glOf raw k).length := hsl
    have hmu := mu_step hcl (glOf_le raw) di (by simp)
    have hre' := hre.step
    refine ⟨fun σ' H' => ∃ y4 y5 y6, FO K H H' bg tr dn (dstep (glOf raw) ⟨b, (k, s') :: t, d⟩) ∧ σ' = [some (.ref p), some (.ref bg), some (.ref tr), some (.ref dn), y4, y5, y6],
      fun σ' H' ⟨z4, z5, z6, h1, h2⟩ => ⟨_, hmu, _, z4, z5, z6, rfl, hre', h1, h2⟩, ?_⟩
    have hbl : b.length ≤ 1000 := by
      have := nodup_le raw.length b di.nd di.lt
      omega
    have hdl : d.length ≤ 1000 := by
      have := nodup_le raw.length d (List.nodup_append.mp di.nd2).2.1 (fun j hj => di.lt j ((di.mem j).mpr (List.mem_append_right _ hj)))
      omega
    have htl : t.length + 1 ≤ 100 := by
      have h2 := nodup_le raw.length (((k, s') :: t).map (·.1)) (List.nodup_append.mp di.nd2).1 (fun j hj => di.lt j ((di.mem j).mpr (List.mem_append_left _ hj)))
      rw [List.length_map, List.length_cons] at h2
      omega
    -- here, step = trail.pop()
    obtain ⟨u, us', hu, ⟨a, rfl, hTa⟩, hf2, hul⟩ := hf1.top
    have iu : Imm (upd H1 e0 (.lst [])) (upd (upd H1 e0 (.lst [])) tr (.lst us'.reverse)) := imm_lst hu
    refine ⟨_, rfl, .inl ⟨rfl, _, SqL.of hu⟩, tr, _, .ref a, rfl, rfl, hu, ?_, ?_⟩
    · rw [List.length_append, List.length_singleton, Nat.add_sub_cancel, List.getElem?_append_right (Nat.le_refl _), Nat.sub_self]
      rfl
    rw [List.dropLast_concat]
    refine ⟨a, _, rfl, iu.at hTa, rfl, _, _, rfl, _, _, rfl, rfl, ?_⟩
    -- goals
    refine ⟨_, rfl, _, rfl, p, vs, _, _, rfl, rfl, hf2.same.seq hS, atI_nat hv, v, n, rfl, (imm_same hf2.same).tup hvn, fun gq H3 s3' hgq0 hgq => ?_⟩
    have hf3 := hf2.mono s3'
    have hgoals : H3 gq = some (.lst (intsV (glOf raw k))) := by
      rw [egl]
      exact hgq
    -- if step == len(goals)
    refine ⟨_, rfl, _, rfl, gq, _, rfl, .inl (SqL.of hgoals), rfl, _, rfl, ?_⟩
    rw [intsV_len]
    by_cases hend : s' = (glOf raw k).length
    · refine ifEq (congrArg V.int (by omega)) ?_
      have hstep : dstep (glOf raw) ⟨b, (k, s') :: t, d⟩ = ⟨b, t, d ++ [k]⟩ := dstep_done (by omega)
      refine ⟨_, rfl, .inl ⟨rfl, _, SqL.of hf3.d⟩, _, rfl, dn, _, _, rfl, rfl, hf3.d, small1000 (by rw [intsV_len]; exact hdl), ?_⟩
      exact ⟨_, _, _, by rw [hstep]; exact hf3.fin, rfl⟩
    · refine ifNe (fun e => hend (by have := V.int.inj e; omega)) ?_
      have hslt : s' < (glOf raw k).length := by omega
      have eg := List.getElem?_eq_getElem hslt
      generalize (glOf raw k)[s'] = g at eg
      -- trail.append((here, step + 1))
      obtain ⟨us3, hta3, _⟩ := hf3.t
      refine ⟨_, rfl, .inl ⟨rfl, _, SqL.of hta3⟩, _, rfl, _, rfl, _, _, rfl, rfl, small (n := 2) (by decide), fun T hT => ?_⟩
      have eT : ([.int ((k : Nat) : Int), .int (((s' : Nat) : Int) + 1)] : List V) = prV (k, s' + 1) := by
        unfold prV
        rw [← succ_int]
      have sT : Same H3 (upd H3 T (.tup ([.int ((k : Nat) : Int), .int (((s' : Nat) : Int) + 1)] : List V))) := same_new hT
      have hf4 := hf3.mono sT
      obtain ⟨us4, hta4, hl4, hf5⟩ := hf4.push (k := (k, s' + 1)) (T := T) (by rw [← eT]; exact upd_same)
      have hl4 : us4.length = t.length := hl4
      refine ⟨tr, us4, .ref T, rfl, rfl, hta4, small1000 (by omega), ?_⟩
      have ngt : gq ≠ tr := (ne_of_none upd_same hgq0).symm
      have ngb : gq ≠ bg := (ne_of_none hf2.b hgq0).symm
      have hg5 : (upd (upd H3 T (.tup ([.int ((k : Nat) : Int), .int (((s' : Nat) : Int) + 1)] : List V))) tr (.lst (us4 ++ [.ref T]))) gq = some (.lst (intsV (glOf raw k))) := by
        rw [upd_ne ngt]
        exact sT _ _ hgoals
      refine ⟨_, rfl, _, rfl, gq, _, _, _, rfl, rfl, SqL.of hg5, atI_nat (intsV_get eg), _, rfl, bg, _, rfl, .inl (SqL.of hf5.b), rfl, flat_ints b, !decide (g ∈ b), (by rw [← inV_ints]; rfl), ?_⟩
      by_cases hgb : g ∈ b
      · have hstep := dstep_old (d := d) (t := t) eg hgb
        exact iteNS hgb ⟨_, _, _, by rw [hstep]; exact hf5, rfl⟩
      · have hstep := dstep_new (d := d) (t := t) eg hgb
        rw [decide_eq_false hgb]
        refine iteT ?_
        refine ⟨_, rfl, .inl ⟨rfl, _, SqL.of hf5.b⟩, _, rfl, _, rfl, gq, _, _, _, rfl, rfl, SqL.of hg5, atI_nat (intsV_get eg), bg, _, _, rfl, rfl, hf5.b, small1000 (by rw [intsV_len]; exact hbl), ?_⟩
        have hf6 := hf5.begin (g := g)
        have hg6 : (upd (upd (upd H3 T (.tup ([.int ((k : Nat) : Int), .int (((s' : Nat) : Int) + 1)] : List V))) tr (.lst (us4 ++ [.ref T]))) bg (.lst (intsV b ++ [.int ((g : Nat) : Int)]))) gq = some (.lst (intsV (glOf raw k))) := by
          rw [upd_ne ngb]
          exact hg5
        obtain ⟨us6, hta6, _⟩ := hf6.t
        refine ⟨_, rfl, .inl ⟨rfl, _, SqL.of hta6⟩, _, rfl, _, rfl, gq, _, _, _, rfl, rfl, SqL.of hg6, atI_nat (intsV_get eg), small (n := 2) (by decide), fun T2 hT2 => ?_⟩
        have sT2 := same_new (o := .tup (prV (g, 0))) hT2
        have hf7 := hf6.mono sT2
        obtain ⟨us7, hta7, hl7, hf8⟩ := hf7.push (k := (g, 0)) (T := T2) upd_same
        have hl7 : us7.length = t.length + 1 := hl7
        refine ⟨tr, us7, .ref T2, rfl, rfl, hta7, small1000 (by omega), ?_⟩
        exact ⟨_, _, _, by rw [hstep]; exact hf8, rfl⟩
end
end K15

namespace K15
open PySem L2
theorem idxOf_le : ∀ {l : List Nat} {m j : Nat}, l[m]? = some j → l.idxOf j ≤ m
  | [], m, j, h => by simp at h
  | a :: r, m, j, h => by
    rw [List.idxOf_cons]
    by_cases e : a = j
    · simp [e]
    · have e' : (a == j) = false := by simp [e]
      rw [e']
      cases m with
      | zero => exact absurd (Option.some.inj h) e
      | succ m =>
        have := idxOf_le (l := r) (m := m) (j := j) (by simpa using h)
        show r.idxOf j + 1 ≤ m + 1
        omega
theorem idx_least {order : List Nat} {k : Nat} (m : Nat) (z' : V) (hm : m < order.idxOf k) (h : (intsV order)[m]? = some z') : eqV z' (.int ((k : Nat) : Int)) = false := by
  unfold intsV at h
  rw [List.getElem?_map] at h
  obtain ⟨j, hj, rfl⟩ := Option.map_eq_some_iff.mp h
  have hne : j ≠ k := fun e => by
    subst e
    have := idxOf_le hj
    omega
  show (((j : Nat) : Int) == ((k : Nat) : Int)) = false
  have : ¬ ((j : Nat) : Int) = ((k : Nat) : Int) := by omega
  simp [this]
theorem eqV_self (k : Nat) : eqV (.int ((k : Nat) : Int)) (.int ((k : Nat) : Int)) = true := by
  show (((k : Nat) : Int) == ((k : Nat) : Int)) = true
  simp
section
variable {P : Program} {w : World} {K : Fr} {mg : Str → Option Value} {base : Heap}
def spGraph (K : Fr) : Sp := fun vs H Q _ => ∃ (p : Addr) (raw : List (Nd Op)), vs = [.ref p] ∧ GrAt K H p raw ∧ Wf raw ∧ 0 < raw.length ∧ raw.length ≤ 40 ∧
  ∀ q H' (g : List (Nd Op)), Same H H' → H q = none → GrAt K H' q g → Canon g → g.length ≤ 40 → Q (.ref q) H'
theorem scGraph : FnScope ["_law_raw", "_law_order_here", "_law_graph_here", "_law_old", "_law_node_here"] ["_law_raw"] (defScope sGraph) := ⟨rfl, rfl, rfl, by decide +kernel, rfl, by decide +kernel, by decide +kernel⟩
theorem ok_graph {f fO fG : Addr} {fd fdO fdG : FuncData} (F : Fun K "_law_graph" "_law_graph" sGraph f fd) (FO : Fun K "_law_order" "_law_order" sOrder fO fdO) (bO : Binds K fdO ["_law_raw"] []) (mO : mg "_law_order" = some (.ref fO))
    (FG : Fun K "_law_goals" "_law_goals" sGoals fG fdG) (bG : Binds K fdG ["_law_node_here"] []) (mG : mg "_law_goals" = some (.ref fG)) (ml : mg "len" = none) :
    FnOk P w K mg base CX0 3 f fd ["_law_raw"] (spGraph K) := by
  have GO : FnOk P w K mg base CX0 2 fO fdO ["_law_raw"] (spOrder K) := ok_order FO FG bG mG ml
  refine F.ok scGraph (fun vs H Q E h => ?_) (fun cdv A outer s H vs Q E hr h => ?_)
  · obtain ⟨p, raw, rfl, _⟩ := h
    rfl
  obtain ⟨p, raw, rfl, hGr, hw, h0, h40, q⟩ := h
  obtain ⟨vs, hS, hA⟩ := id hGr
  refine ⟨_, (pss_cons (ps_set (i := 1) scGraph.nd rfl (.inl rfl) (pe_call GO hr (by rfl) mO FO.kp bO .nil pass0 (pa_cons (pv 0) pa_nil)))
    (pss_cons (ps_set (i := 2) scGraph.nd rfl (.inl rfl) (pe_lst pa_nil))
    (pss_cons (ps_for PassesOwn.never rfl (pi_list (pv 1)) (pg_name (i := 3) scGraph.nd rfl (.inl rfl))
    (pss_cons (ps_set (i := 4) scGraph.nd rfl (.inl rfl) (pe_ix (r := rIxL K) ix_list (pv 0) (pv 3) (fun _ _ => rfl)))
    (pss_cons (ps_if (pt_cmpR op_eq (pe_ix (r := rIxT K) ix_tup (pv 4) pe_int (fun _ _ => rfl)) pe_str (nomark _))
    (pss_one (ps_set (i := 4) scGraph.nd rfl (.inl rfl) (pe_op op_catT (pe_slice sl_tup (pv 4) po_none (po_some pe_int)) (pe_tup (pa_cons (pe_bm PySem.F.plainAttrs_list PySem.F.slot_list_index PySem.F.type_list_index mt_index (pv 1) (pa_cons (pe_ix (r := rIxT K) ix_tup (pv 4) pe_int (fun _ _ => rfl)) pa_nil)) pa_nil)))))
    pss_nil)
    (pss_cons (ps_if (pt_cmpR op_eq (pe_ix (r := rIxT K) ix_tup (pv 4) pe_int (fun _ _ => rfl)) pe_str (nomark _))
    (pss_one (ps_set (i := 4) scGraph.nd rfl (.inl rfl) (pe_op op_catT (pe_slice sl_tup (pv 4) po_none (po_some pe_int)) (pe_tup (pa_cons (pe_bm PySem.F.plainAttrs_list PySem.F.slot_list_index PySem.F.type_list_index mt_index (pv 1) (pa_cons (pe_ix (r := rIxT K) ix_tup (pv 4) pe_int (fun _ _ => rfl)) pa_nil)) (pa_cons (pe_bm PySem.F.plainAttrs_list PySem.F.slot_list_index PySem.F.type_list_index mt_index (pv 1) (pa_cons (pe_ix (r := rIxT K) ix_tup (pv 4) pe_int (fun _ _ => rfl)) pa_nil)) pa_nil))))))
    pss_nil)
    (pss_one (ps_expr (pe_bm PySem.F.plainAttrs_list PySem.F.slot_list_append PySem.F.type_list_append mt_append (pv 2) (pa_cons (pv 4) pa_nil))))))))
    (pss_one (ps_ret (pv 2)))))), ?_⟩
  refine ⟨_, rfl, p, raw, rfl, hGr, hw, h0, by omega, fun o H1 d s1 ho hlo hfin => ?_⟩
  have od := hfin.ordr hw.closed h0
  have ndr : d.reverse.Nodup := by
    have := od.nd
    simp only [List.Nodup, List.pairwise_reverse] at this ⊢
    exact this.imp fun h => Ne.symm h
  have ltr : ∀ k ∈ d.reverse, k < raw.length := fun k hk => od.lt k (List.mem_reverse.mp hk)
  have hlen : d.reverse.length ≤ 40 := by
    have := nodup_le raw.length d.reverse ndr ltr
    omega
  have hcl : ∀ (k : Nat) (n : Nd Op), k ∈ d.reverse → raw[k]? = some n → ∀ j ∈ n.ways, j ∈ d.reverse := fun k n hk en j hj =>
    List.mem_reverse.mpr (od.cl k (List.mem_reverse.mp hk) j (by rw [glOf_some en]; exact Nd.mem_goals.mpr hj))
  have hcan := canon_renum hw h0 hfin
  generalize d.reverse = order at hlo ndr ltr hlen hcl hcan
  refine ⟨small (n := 0) (by decide), fun gh hgh => ?_⟩
  have s2 : Same H1 (upd H1 gh (.lst [])) := same_new hgh
  have hgh0 : H gh = none := s1.free hgh
  refine ⟨_, rfl, o, rfl, ⟨_, SqL.of (s2 _ _ hlo)⟩, for_list (K := K) (a := o) (xs := intsV order) (fun i σ H' => ∃ y3 y4 us, σ = [some (.ref p), some (.ref o), some (.ref gh), y3, y4] ∧ Same H1 H' ∧ H' gh = some (.lst us) ∧ All2 (NdAt K H') us ((renum raw order).take i))
    ⟨none, none, [], rfl, s2, upd_same, by rw [List.take_zero]; exact All2.nil⟩ (fun i σ H' _ ⟨_, _, _, _, sm, _⟩ => SqL.of (sm _ _ hlo)) ?_ ?_⟩
  · rintro i v σ H2 hv ⟨y3, y4, us, rfl, sm, hgh2, hU⟩
    obtain ⟨k, hik, rfl⟩ : ∃ k, order[i]? = some k ∧ v = .int ((k : Nat) : Int) := by
      unfold intsV at hv
      rw [List.getElem?_map] at hv
      obtain ⟨k, hk, e⟩ := Option.map_eq_some_iff.mp hv
      exact ⟨k, hk, e.symm⟩
    have hko := List.mem_of_getElem? hik
    have hkl := ltr k hko
    have en := List.getElem?_eq_getElem hkl
    obtain ⟨v', hv', b, rfl, hb⟩ := hA.get en
    have hg := renum_get ltr hik en
    have hwn := hcl k _ hko en
    have s02 := s1.trans sm
    have hb2 := same_at s02 hb
    have hlo2 := sm _ _ hlo
    have idx : ∀ j ∈ order, (intsV order)[order.idxOf j]? = some (.int ((j : Nat) : Int)) := fun j hj => intsV_get (get_idxOf hj)
    have hul : us.length ≤ 1000 := by
      have := hU.len
      rw [List.length_take, renum_len ltr] at this
      omega
    -- what the turn's end asks, whatever the node became
    have fin : ∀ (u : V) (H3 : Hp), Same H2 H3 → NdAt K H3 u (Nd.mv (fun k => order.idxOf k) raw[k]) → ∃ y3 y4 us', [some (.ref p), some (.ref o), some (.ref gh), some (.int ((k : Nat) : Int)), some u] = [some (.ref p), some (.ref o), some (.ref gh), y3, y4] ∧
        Same H1 (upd H3 gh (.lst (us ++ [u]))) ∧ (upd H3 gh (.lst (us ++ [u]))) gh = some (.lst us') ∧ All2 (NdAt K (upd H3 gh (.lst (us ++ [u])))) us' ((renum raw order).take (i + 1)) := fun u H3 s3 hu => by
      have hgh3 := s3 _ _ hgh2
      have i3 := (imm_same s3).trans (imm_lst (o := .lst (us ++ [u])) hgh3)
      refine ⟨_, _, us ++ [u], rfl, same_put (sm.trans s3) hgh, upd_same, ?_⟩
      rw [List.take_add_one, hg]
      exact (i3.all hU).snoc ((imm_lst hgh3).tup hu)
    refine ⟨_, rfl, _, rfl, p, vs, _, _, rfl, rfl, s02.seq hS, atI_nat hv', ?_⟩
    generalize raw[k] = n at en hb2 hg hwn fin
    cases n with
    | sum nm x s y nx =>
      refine ⟨_, rfl, b, _, 0, _, rfl, rfl, hb2, rfl, rfl, _, rfl, ifEq rfl ?_⟩
      have hx : nx ∈ order := hwn nx (by simp [Nd.ways])
      refine ⟨_, rfl, 5, rfl, b, _, rfl, hb2, (fun h => absurd (show (5 : Nat) = 6 from h.2) (by decide)), fun c1 hc1 => ?_⟩
      have t1 : Same H2 (upd H2 c1 (.tup [.str "sum", oV nm, oV x, oV s, oV y])) := same_new hc1
      refine ⟨_, rfl, .inl ⟨rfl, _, SqL.of (t1 _ _ hlo2)⟩, _, rfl, b, _, 5, _, rfl, rfl, same_at t1 hb2, rfl, o, _, _, order.idxOf nx, _, rfl, rfl, SqL.of (t1 _ _ hlo2), rfl, flat_ints order, idx nx hx, eqV_self nx, idx_least, ?_⟩
      refine ⟨small (n := 1) (by decide), fun c2 hc2 => ?_⟩
      have t2 := t1.trans (same_new (o := .tup [.int ((order.idxOf nx : Nat) : Int)]) hc2)
      refine ⟨c1, c2, [.str "sum", oV nm, oV x, oV s, oV y], [.int ((order.idxOf nx : Nat) : Int)], rfl, rfl, .inl (.inl (same_new hc2 _ _ upd_same)), .inl (.inl upd_same), (by simp), small (n := 6) (by decide), (fun h => by cases h), fun _ c3 hc3 => ?_⟩
      have t3 := t2.trans (same_new (o := .tup (ndV (Nd.mv (fun k => order.idxOf k) (.sum nm x s y nx)))) hc3)
      have hc3' : SqT K (upd (upd (upd H2 c1 (.tup [.str "sum", oV nm, oV x, oV s, oV y])) c2 (.tup [.int ((order.idxOf nx : Nat) : Int)])) c3 (.tup (ndV (Nd.mv (fun k => order.idxOf k) (.sum nm x s y nx))))) c3 (ndV (Nd.mv (fun k => order.idxOf k) (.sum nm x s y nx))) := .inl (.inl upd_same)
      refine ⟨_, rfl, c3, _, 0, _, rfl, rfl, hc3', rfl, rfl, _, rfl, ifNe sum_test ?_⟩
      exact ⟨_, rfl, .inl ⟨rfl, _, SqL.of (t3 _ _ hgh2)⟩, _, rfl, gh, us, .ref c3, rfl, rfl, t3 _ _ hgh2, small1000 hul, fin (.ref c3) _ t3 ⟨c3, rfl, hc3'⟩⟩
    | test x s y ys no =>
      refine ⟨_, rfl, b, _, 0, _, rfl, rfl, hb2, rfl, rfl, _, rfl, ifNe test_sum ?_⟩
      refine ⟨_, rfl, b, _, 0, _, rfl, rfl, hb2, rfl, rfl, _, rfl, ifEq rfl ?_⟩
      have hy : ys ∈ order := hwn ys (by simp [Nd.ways])
      have hn : no ∈ order := hwn no (by simp [Nd.ways])
      refine ⟨_, rfl, 4, rfl, b, _, rfl, hb2, (fun h => absurd (show (4 : Nat) = 6 from h.2) (by decide)), fun c1 hc1 => ?_⟩
      have t1 : Same H2 (upd H2 c1 (.tup [.str "test", oV x, oV s, oV y])) := same_new hc1
      refine ⟨_, rfl, .inl ⟨rfl, _, SqL.of (t1 _ _ hlo2)⟩, _, rfl, b, _, 4, _, rfl, rfl, same_at t1 hb2, rfl, o, _, _, order.idxOf ys, _, rfl, rfl, SqL.of (t1 _ _ hlo2), rfl, flat_ints order, idx ys hy, eqV_self ys, idx_least, ?_⟩
      refine ⟨_, rfl, .inl ⟨rfl, _, SqL.of (t1 _ _ hlo2)⟩, _, rfl, b, _, 5, _, rfl, rfl, same_at t1 hb2, rfl, o, _, _, order.idxOf no, _, rfl, rfl, SqL.of (t1 _ _ hlo2), rfl, flat_ints order, idx no hn, eqV_self no, idx_least, ?_⟩
      refine ⟨small (n := 2) (by decide), fun c2 hc2 => ?_⟩
      have t2 := t1.trans (same_new (o := .tup [.int ((order.idxOf ys : Nat) : Int), .int ((order.idxOf no : Nat) : Int)]) hc2)
      refine ⟨c1, c2, [.str "test", oV x, oV s, oV y], [.int ((order.idxOf ys : Nat) : Int), .int ((order.idxOf no : Nat) : Int)], rfl, rfl, .inl (.inl (same_new hc2 _ _ upd_same)), .inl (.inl upd_same), (by simp), small (n := 6) (by decide), (fun h => by cases h), fun _ c3 hc3 => ?_⟩
      have t3 := t2.trans (same_new (o := .tup (ndV (Nd.mv (fun k => order.idxOf k) (.test x s y ys no)))) hc3)
      exact ⟨_, rfl, .inl ⟨rfl, _, SqL.of (t3 _ _ hgh2)⟩, _, rfl, gh, us, .ref c3, rfl, rfl, t3 _ _ hgh2, small1000 hul, fin (.ref c3) _ t3 ⟨c3, rfl, .inl (.inl upd_same)⟩⟩
    | fin =>
      refine ⟨_, rfl, b, _, 0, _, rfl, rfl, hb2, rfl, rfl, _, rfl, ifNe end_sum ?_⟩
      refine ⟨_, rfl, b, _, 0, _, rfl, rfl, hb2, rfl, rfl, _, rfl, ifNe end_test ?_⟩
      exact ⟨_, rfl, .inl ⟨rfl, _, SqL.of hgh2⟩, _, rfl, gh, us, .ref b, rfl, rfl, hgh2, small1000 hul, fin (.ref b) _ (Same.refl _) ⟨b, rfl, hb2⟩⟩
    | spin =>
      refine ⟨_, rfl, b, _, 0, _, rfl, rfl, hb2, rfl, rfl, _, rfl, ifNe spin_sum ?_⟩
      refine ⟨_, rfl, b, _, 0, _, rfl, rfl, hb2, rfl, rfl, _, rfl, ifNe spin_test ?_⟩
      exact ⟨_, rfl, .inl ⟨rfl, _, SqL.of hgh2⟩, _, rfl, gh, us, .ref b, rfl, rfl, hgh2, small1000 hul, fin (.ref b) _ (Same.refl _) ⟨b, rfl, hb2⟩⟩
  · rintro σ H2 ⟨y3, y4, us, rfl, sm, hgh2, hU⟩
    rw [intsV_len, List.take_of_length_le (by rw [renum_len ltr] <;> exact Nat.le_refl _)] at hU
    exact ⟨_, rfl, q gh H2 _ (s1.trans sm) hgh0 ⟨us, SqL.of hgh2, hU⟩ hcan (by rw [renum_len ltr]; exact hlen)⟩
end
end K15

namespace K15
open PySem L2
section
variable {P : Program} {w : World} {K : Fr} {mg : Str → Option Value} {base : Heap}
def spDrawn (K : Fr) : Sp := fun vs H Q _ => ∃ L : Addr, vs = [.ref L, .int 40] ∧ DrAt H L ∧ ∀ q H' (g : List (Nd Op)), Kp L H H' → DrAt H' L → H q = none → GrAt K H' q g → Canon g → g.length ≤ 40 → Q (.ref q) H'
theorem scDrawn : FnScope ["_law_drawn_here", "_law_most", "_law_many", "_law_mode", "_law_k"] ["_law_drawn_here", "_law_most"] (defScope sDrawn) := ⟨rfl, rfl, rfl, by decide +kernel, rfl, by decide +kernel, by decide +kernel⟩
theorem ok_drawn {f fX fN fG fA fE fB fO fL : Addr} {fd fdX fdN fdG fdA fdE fdB fdO fdL : FuncData} (F : Fun K "_law_drawn" "_law_drawn" sDrawn f fd) (FX : Fun K "_law_next" "_law_next" sNext fX fdX) (bX : Binds K fdX ["_law_drawn_here"] []) (mX : mg "_law_next" = some (.ref fX))
    (FN : Fun K "_law_node" "_law_node" sNode fN fdN) (bN : Binds K fdN ["_law_drawn_here", "_law_k", "_law_many", "_law_mode"] []) (mN : mg "_law_node" = some (.ref fN))
    (FA : Fun K "_law_far" "_law_far" sFar fA fdA) (bA : Binds K fdA ["_law_drawn_here", "_law_k", "_law_many", "_law_mode"] []) (mA : mg "_law_far" = some (.ref fA))
    (FE : Fun K "_law_near" "_law_near" sNear fE fdE) (bE : Binds K fdE ["_law_drawn_here", "_law_k", "_law_many", "_law_mode"] []) (mE : mg "_law_near" = some (.ref fE))
    (FB : Fun K "_law_great" "_law_great" sGreat fB fdB) (bB : Binds K fdB ["_law_drawn_here"] []) (mB : mg "_law_great" = some (.ref fB))
    (FG : Fun K "_law_graph" "_law_graph" sGraph fG fdG) (bG : Binds K fdG ["_law_raw"] []) (mG : mg "_law_graph" = some (.ref fG))
    (FO : Fun K "_law_order" "_law_order" sOrder fO fdO) (bO : Binds K fdO ["_law_raw"] []) (mO : mg "_law_order" = some (.ref fO))
    (FL : Fun K "_law_goals" "_law_goals" sGoals fL fdL) (bL : Binds K fdL ["_law_node_here"] []) (mL : mg "_law_goals" = some (.ref fL)) (ml : mg "len" = none) (mrg : mg "range" = none) (mm : mg "min" = none) :
    FnOk P w K mg base CX0 5 f fd ["_law_drawn_here", "_law_most"] (spDrawn K) := by
  have GX : FnOk P w K mg base CX0 1 fX fdX ["_law_drawn_here"] spNext := ok_next FX
  have GN : FnOk P w K mg base CX0 4 fN fdN ["_law_drawn_here", "_law_k", "_law_many", "_law_mode"] (spNode K) := ok_node FN FX bX mX FA bA mA FE bE mE FB bB mB mm
  have GG : FnOk P w K mg base CX0 3 fG fdG ["_law_raw"] (spGraph K) := ok_graph FG FO bO mO FL bL mL ml
  refine F.ok scDrawn (fun vs H Q E h => ?_) (fun cdv A outer s H vs Q E hr h => ?_)
  · obtain ⟨L, rfl, _⟩ := h
    rfl
  obtain ⟨L, rfl, hd, q⟩ := h
  have hr1 : Room 1 _ := hr.mono (by decide)
  have hr3 : Room 3 _ := hr.mono (by decide)
  refine ⟨_, (pss_cons (ps_set (i := 2) scDrawn.nd rfl (.inr rfl) (pe_op op_add pe_int (pe_op op_mod (pe_call GX hr1 (by rfl) mX FX.kp bX .nil pass0 (pa_cons (pv 0) pa_nil)) (pv 1))))
    (pss_cons (ps_set (i := 3) scDrawn.nd rfl (.inr rfl) (pe_op op_mod (pe_call GX hr1 (by rfl) mX FX.kp bX .nil pass0 (pa_cons (pv 0) pa_nil)) pe_int))
    (pss_one (ps_ret (pe_call GG hr3 (by rfl) mG FG.kp bG .nil pass0 (pa_cons (pe_lc (own := [("_law_k", 4)]) (g := gName 4) (tt := tYes) rfl scDrawn.nd (pi_range1 (by rfl) mrg (pa_cons (pv 2) pa_nil)) (blkOk_by (own := [("_law_k", 4)]) (N := ["_law_drawn_here", "_law_most", "_law_many", "_law_mode", "_law_k"]) (sc := defScope sDrawn) (by decide +kernel)) (fun _ _ _ _ _ => pg_name (i := 4) scDrawn.nd rfl (Or.inl rfl)) (fun _ _ _ _ _ => pts_nil) (fun _ _ _ _ _ => (pe_call GN hr (by rfl) mN FN.kp bN .nil pass0 (pa_cons (pv 0) (pa_cons (pv 4) (pa_cons (pv 2) (pa_cons (pv 3) pa_nil))))))) pa_nil)))))), ?_⟩
  refine ⟨_, rfl, L, rfl, hd, fun d1 H1 k1 hd1 h1 h2 => ?_⟩
  refine ⟨_, rfl, _, _, rfl, rfl, (by show (0 : Int) < _; decide), _, _, rfl, rfl, ?_⟩
  obtain ⟨many, em, hm1, hm2⟩ : ∃ many : Nat, 1 + d1 % 40 = ((many : Nat) : Int) ∧ 1 ≤ many ∧ many ≤ 40 := ⟨(1 + d1 % 40).toNat, by omega, by omega, by omega⟩
  have etn : (1 + d1 % 40).toNat = many := by omega
  refine ⟨_, rfl, L, rfl, hd1, fun d2 H2 k2 hd2 h3 h4 => ?_⟩
  refine ⟨_, _, rfl, rfl, (by show (0 : Int) < _; decide), ?_⟩
  have k02 := k1.trans k2
  refine ⟨_, rfl, _, rfl, by omega, by omega, fun D hD => ?_⟩
  have nDL : D ≠ L := ne_dr hd2 hD
  have hD0 : H D = none := k02.free nDL hD
  have s3 : Same H2 (upd H2 D (.lst [])) := same_new hD
  refine lc_range (lo := 0) (n := (1 + d1 % 40).toNat) (fun i H' => ∃ (us : List V) (raw : List (Nd Op)), Kp L H H' ∧ DrAt H' L ∧ H' D = some (.lst us) ∧ All2 (NdAt K H') us raw ∧ raw.length = i ∧ ∀ (j : Nat) (n : Nd Op), raw[j]? = some n → ∀ z ∈ n.ways, z < many)
    ⟨[], [], kp_new k02 hD0, same_dr s3 hd2, upd_same, All2.nil, rfl, fun j n h => by simp at h⟩ ?_ ?_
  · rintro i H3 hi ⟨us, raw, k3, hd3, hD3, hU, hl, hW⟩
    rw [etn] at hi
    refine ⟨rfl, ?_⟩
    have ev : ([.ref L, .int (0 + ((i : Nat) : Int)), .int (1 + d1 % 40), .int (d2 % 3)] : List V) = [.ref L, .int ((i : Nat) : Int), .int ((many : Nat) : Int), .int (d2 % 3)] := by rw [Int.zero_add, em]
    refine ⟨_, rfl, _, rfl, _, rfl, _, rfl, L, i, many, _, ev, hd3, hi, fun u H4 n k4 hd4 hu4 hwn => ?_⟩
    have hD4 := k4 _ _ nDL hD3
    have i4 := (k4.immD hd3).trans (imm_lst (o := .lst (us ++ [u])) hD4)
    refine ⟨us, hD4, small1000 (by rw [hU.len]; omega), us ++ [u], raw ++ [n], kp_new (k3.trans k4) hD0, ?_, upd_same, (i4.all hU).snoc ((imm_lst hD4).tup hu4), by rw [List.length_append, List.length_singleton, hl], fun j n' hj => ?_⟩
    · obtain ⟨ds, e, a⟩ := hd4
      exact ⟨ds, by rw [upd_ne nDL.symm]; exact e, a⟩
    · by_cases hjl : j < raw.length
      · rw [List.getElem?_append_left hjl] at hj
        exact hW j n' hj
      · rw [List.getElem?_append_right (by omega)] at hj
        have h0 : j - raw.length = 0 := by
          have := (List.getElem?_eq_some_iff.mp hj).1
          simp at this
          omega
        rw [h0] at hj
        have e1 : n = n' := by simpa using hj
        rw [← e1]
        exact hwn
  rintro H3 ⟨us, raw, k3, hd3, hD3, hU, hl, hW⟩
  rw [etn] at hl
  refine ⟨D, raw, rfl, ⟨us, SqL.of hD3, hU⟩, fun j n hj z hz => by rw [hl]; exact hW j n hj z hz, by omega, by omega, fun r H4 g s4 hr4 hg hc h40 => ?_⟩
  have nrL : r ≠ L := ne_dr hd3 hr4
  exact q r H4 g (k3.trans (kp_same s4)) (same_dr s4 hd3) (k3.free nrL hr4) hg hc h40
end
end K15

namespace K15
open PySem L2
/-- alike, to the depth d -/
def Al (K : Fr) (H : Hp) : Nat → V → V → Prop
  | 0, x, y => x = y ∧ ((∃ i, y = .int i) ∨ ∃ s, y = .str s)
  | d + 1, x, y => (x = y ∧ ((∃ i, y = .int i) ∨ ∃ s, y = .str s)) ∨ ∃ (a b : Addr) (xs ys : List V), x = .ref a ∧ y = .ref b ∧ ((SqT K H a xs ∧ SqT K H b ys) ∨ (SqL K H a xs ∧ SqL K H b ys)) ∧ All2 (Al K H d) xs ys ∧ xs.length ≤ 1000
theorem Al.mono {K : Fr} {H H' : Hp} (s : Same H H') : ∀ (d : Nat) (x y : V), Al K H d x y → Al K H' d x y
  | 0, _, _, h => h
  | d + 1, x, y, h => by
    rcases h with h | ⟨a, b, xs, ys, e1, e2, h1, h2, h3⟩
    · exact .inl h
    · refine .inr ⟨a, b, xs, ys, e1, e2, ?_, h2.mono fun x y => Al.mono s d x y, h3⟩
      rcases h1 with ⟨p, q⟩ | ⟨p, q⟩
      · exact .inl ⟨same_at s p, same_at s q⟩
      · exact .inr ⟨s.seq p, s.seq q⟩
theorem tyx_L {K : Fr} {H : Hp} {a : Addr} {xs : List V} (h : SqL K H a xs) : TyX K H (.ref a) (.type "list") := by
  rcases h with (h | ⟨o, h⟩) | ⟨o, its, n, h, hc, _⟩
  · exact .base (.lst h)
  · exact .base (.frz h)
  · exact .kList h hc
theorem tyx_T {K : Fr} {H : Hp} {a : Addr} {xs : List V} (h : SqT K H a xs) : TyX K H (.ref a) (.type "tuple") := by
  rcases h with (h | ⟨o, h⟩) | ⟨o, its, n, h, hc, _⟩
  · exact .base (.tup h)
  · exact .fTuple h
  · exact .kTuple h hc
section
variable {P : Program} {w : World} {K : Fr} {mg : Str → Option Value} {base : Heap}
def spAlike (K : Fr) : Nat → Sp
  | 0 => fun _ _ _ _ => False
  | d + 1 => fun vs H Q _ => ∃ x y : V, vs = [x, y] ∧ Al K H d x y ∧ ∀ H', Same H H' → Q (.bl true) H'
theorem scAlike : FnScope ["_law_found", "_law_due", "_law_k"] ["_law_found", "_law_due"] (defScope sAlike) := ⟨rfl, rfl, rfl, by decide +kernel, rfl, by decide +kernel, by decide +kernel⟩
theorem alike_none {f : Addr} {fd : FuncData} : FnOk P w K mg base CX0 0 f fd ["_law_found", "_law_due"] (spAlike K 0) :=
  ⟨fun vs H Q E h => h.elim, fun A outer s H args us vs Q E _ _ _ _ h => h.elim⟩
theorem qtrue {x : V} {Q : VK} {H : Hp} (h : Q (.bl true) H) : Q (.bl (decide (x = x))) H := by
  rw [decide_eq_true rfl]
  exact h
theorem alike_step {f : Addr} {fd : FuncData} {d : Nat} (FS : Fun K "_law_alike" "_law_alike" sAlike f fd) (bS : Binds K fd ["_law_found", "_law_due"] []) (mS : mg "_law_alike" = some (.ref f)) (ml : mg "len" = none) (mrg : mg "range" = none) (mis : mg "isinstance" = none)
    (mbool : mg "bool" = none) (mint : mg "int" = none) (mstr : mg "str" = none) (mtuple : mg "tuple" = none) (mlist : mg "list" = none) (GS : FnOk P w K mg base CX0 d f fd ["_law_found", "_law_due"] (spAlike K d)) :
    FnOk P w K mg base CX0 (d + 1) f fd ["_law_found", "_law_due"] (spAlike K (d + 1)) := by
  refine FS.ok scAlike (fun vs H Q E h => ?_) (fun cdv A outer s H vs Q E hr h => ?_)
  · obtain ⟨x, y, rfl, _⟩ := h
    rfl
  obtain ⟨x, y, rfl, hal, q⟩ := h
  refine ⟨_, (pss_cons (ps_if (pt_cmpR op_isN (pv 1) pe_non (nomark _))
    (pss_one (ps_ret (pe_cmpR op_isN (pv 0) pe_non (nomark _))))
    pss_nil)
    (pss_cons (ps_if (pt_val (pe_callB call_isi (by rfl) mis (by decide +kernel) (pa_cons (pv 1) (pa_cons (pe_bltn (v := V.ty "bool") (u := Value.type "bool") (by rfl) mbool (by decide +kernel) rfl) pa_nil))))
    (pss_one (ps_ret (pe_and (pe_callB call_isi (by rfl) mis (by decide +kernel) (pa_cons (pv 0) (pa_cons (pe_bltn (v := V.ty "bool") (u := Value.type "bool") (by rfl) mbool (by decide +kernel) rfl) pa_nil))) (pe_one (pe_cmpR op_eq (pv 0) (pv 1) (nomark _))))))
    pss_nil)
    (pss_cons (ps_if (pt_val (pe_callB call_isi (by rfl) mis (by decide +kernel) (pa_cons (pv 1) (pa_cons (pe_bltn (v := V.ty "int") (u := Value.type "int") (by rfl) mint (by decide +kernel) rfl) pa_nil))))
    (pss_one (ps_ret (pe_and (pe_callB call_isi (by rfl) mis (by decide +kernel) (pa_cons (pv 0) (pa_cons (pe_bltn (v := V.ty "int") (u := Value.type "int") (by rfl) mint (by decide +kernel) rfl) pa_nil))) (pe_and (pe_not (pe_callB call_isi (by rfl) mis (by decide +kernel) (pa_cons (pv 0) (pa_cons (pe_bltn (v := V.ty "bool") (u := Value.type "bool") (by rfl) mbool (by decide +kernel) rfl) pa_nil)))) (pe_one (pe_cmpR op_eq (pv 0) (pv 1) (nomark _)))))))
    pss_nil)
    (pss_cons (ps_if (pt_val (pe_callB call_isi (by rfl) mis (by decide +kernel) (pa_cons (pv 1) (pa_cons (pe_bltn (v := V.ty "str") (u := Value.type "str") (by rfl) mstr (by decide +kernel) rfl) pa_nil))))
    (pss_one (ps_ret (pe_and (pe_callB call_isi (by rfl) mis (by decide +kernel) (pa_cons (pv 0) (pa_cons (pe_bltn (v := V.ty "str") (u := Value.type "str") (by rfl) mstr (by decide +kernel) rfl) pa_nil))) (pe_one (pe_cmpR op_eq (pv 0) (pv 1) (nomark _))))))
    pss_nil)
    (C8.pss_cut (ps_if (pt_val (pe_callB call_isi (by rfl) mis (by decide +kernel) (pa_cons (pv 1) (pa_cons (pe_bltn (v := V.ty "tuple") (u := Value.type "tuple") (by rfl) mtuple (by decide +kernel) rfl) pa_nil))))
    (pss_one (ps_if (pt_not (pt_val (pe_callB call_isi (by rfl) mis (by decide +kernel) (pa_cons (pv 0) (pa_cons (pe_bltn (v := V.ty "tuple") (u := Value.type "tuple") (by rfl) mtuple (by decide +kernel) rfl) pa_nil)))))
    (pss_one (ps_ret pe_bl))
    pss_nil))
    (pss_one (ps_if (pt_not (pt_val (pe_callB call_isi (by rfl) mis (by decide +kernel) (pa_cons (pv 0) (pa_cons (pe_bltn (v := V.ty "list") (u := Value.type "list") (by rfl) mlist (by decide +kernel) rfl) pa_nil)))))
    (pss_one (ps_ret pe_bl))
    pss_nil)))
    (pss_cons (ps_if (pt_cmpR op_ne (pe_callB call_len_seq (by rfl) ml PySem.boot_len (pa_cons (pv 0) pa_nil)) (pe_callB call_len_seq (by rfl) ml PySem.boot_len (pa_cons (pv 1) pa_nil)) (nomark _))
    (pss_one (ps_ret pe_bl))
    pss_nil)
    (pss_cons (ps_for PassesOwn.never rfl (pi_range1 (by rfl) mrg (pa_cons (pe_callB call_len_seq (by rfl) ml PySem.boot_len (pa_cons (pv 1) pa_nil)) pa_nil)) (pg_name (i := 2) scAlike.nd rfl (.inl rfl))
    (pss_one (ps_if (pt_not (pt_val (pe_call GS hr (by rfl) mS FS.kp bS .nil pass0 (pa_cons (pe_ix (r := rIx K) ix_seq (pv 0) (pv 2) (fun _ _ => rfl)) (pa_cons (pe_ix (r := rIx K) ix_seq (pv 1) (pv 2) (fun _ _ => rfl)) pa_nil)))))
    (pss_one (ps_ret pe_bl))
    pss_nil)))
    (pss_one (ps_ret pe_bl))))))))), ?_⟩
  have flat : x = y ∧ ((∃ i, y = .int i) ∨ ∃ s, y = .str s) ∨ ∃ (a b : Addr) (xs ys : List V) (d' : Nat), d = d' + 1 ∧ x = .ref a ∧ y = .ref b ∧ ((SqT K H a xs ∧ SqT K H b ys) ∨ (SqL K H a xs ∧ SqL K H b ys)) ∧ All2 (Al K H d') xs ys ∧ xs.length ≤ 1000 := by
    cases d with
    | zero => exact .inl hal
    | succ d =>
      rcases hal with h | ⟨a, b, xs, ys, h⟩
      · exact .inl h
      · exact .inr ⟨a, b, xs, ys, d, rfl, h⟩
  rcases flat with ⟨rfl, ⟨i, rfl⟩ | ⟨t, rfl⟩⟩ | ⟨a, b, xs, ys, d', rfl, rfl, rfl, hsq, hall, h1000⟩
  · -- a number
    refine ⟨_, rfl, rfl, _, rfl, ifNe (by simp) ?_⟩
    refine ⟨_, rfl, _, _, _, _, _, rfl, .ty _, .base (.int i), kit_ty (r := false) (by decide +kernel), _, rfl, iteF ?_⟩
    refine ⟨_, rfl, _, _, _, _, _, rfl, .ty _, .base (.int i), kit_ty (r := true) (by decide +kernel), _, rfl, iteT ?_⟩
    refine ⟨_, rfl, _, _, _, _, _, rfl, .ty _, .base (.int i), kit_ty (r := true) (by decide +kernel), _, rfl, iteT ?_⟩
    refine ⟨_, rfl, _, _, _, _, _, rfl, .ty _, .base (.int i), kit_ty (r := false) (by decide +kernel), _, rfl, _, rfl, iteT ?_⟩
    exact ⟨_, rfl, _, rfl, rfl, qtrue (q H (Same.refl H))⟩
  · -- a text
    refine ⟨_, rfl, rfl, _, rfl, ifNe (by simp) ?_⟩
    refine ⟨_, rfl, _, _, _, _, _, rfl, .ty _, .base (.str t), kit_ty (r := false) (by decide +kernel), _, rfl, iteF ?_⟩
    refine ⟨_, rfl, _, _, _, _, _, rfl, .ty _, .base (.str t), kit_ty (r := false) (by decide +kernel), _, rfl, iteF ?_⟩
    refine ⟨_, rfl, _, _, _, _, _, rfl, .ty _, .base (.str t), kit_ty (r := true) (by decide +kernel), _, rfl, iteT ?_⟩
    refine ⟨_, rfl, _, _, _, _, _, rfl, .ty _, .base (.str t), kit_ty (r := true) (by decide +kernel), _, rfl, iteT ?_⟩
    exact ⟨_, rfl, _, rfl, rfl, qtrue (q H (Same.refl H))⟩
  · -- two tuples, two lists
    have lens := hall.len
    have lenv : ∀ {H' : Hp}, Same H H' → ((SqT K H' a xs ∧ SqT K H' b ys) ∨ (SqL K H' a xs ∧ SqL K H' b ys)) := fun {H'} sm => by
      rcases hsq with ⟨p, q⟩ | ⟨p, q⟩
      · exact .inl ⟨same_at sm p, same_at sm q⟩
      · exact .inr ⟨sm.seq p, sm.seq q⟩
    have lena : SqL K H a xs ∨ SqT K H a xs := by
      rcases hsq with ⟨p, q⟩ | ⟨p, q⟩
      · exact .inr p
      · exact .inl p
    have lenb : SqL K H b ys ∨ SqT K H b ys := by
      rcases hsq with ⟨p, q⟩ | ⟨p, q⟩
      · exact .inr q
      · exact .inl q
    refine ⟨_, rfl, rfl, _, rfl, ifNe (by simp) ?_⟩
    have tyb : ∃ T : String, TyX K H (.ref b) (.type T) ∧ (T = "tuple" ∨ T = "list") := by
      rcases hsq with ⟨_, q⟩ | ⟨_, q⟩
      · exact ⟨"tuple", tyx_T q, .inl rfl⟩
      · exact ⟨"list", tyx_L q, .inr rfl⟩
    have k1 : ∀ T : String, T = "tuple" ∨ T = "list" → PySem.W.kitOne K (.type T) (.type "bool") = some false := fun T h => by
      rcases h with rfl | rfl <;> exact kit_ty (by decide +kernel)
    have k2 : ∀ T : String, T = "tuple" ∨ T = "list" → PySem.W.kitOne K (.type T) (.type "int") = some false := fun T h => by
      rcases h with rfl | rfl <;> exact kit_ty (by decide +kernel)
    have k3 : ∀ T : String, T = "tuple" ∨ T = "list" → PySem.W.kitOne K (.type T) (.type "str") = some false := fun T h => by
      rcases h with rfl | rfl <;> exact kit_ty (by decide +kernel)
    obtain ⟨T, hT, hTT⟩ := tyb
    refine ⟨_, rfl, _, _, _, _, _, rfl, .ty _, hT, k1 T hTT, _, rfl, iteF ?_⟩
    refine ⟨_, rfl, _, _, _, _, _, rfl, .ty _, hT, k2 T hTT, _, rfl, iteF ?_⟩
    refine ⟨_, rfl, _, _, _, _, _, rfl, .ty _, hT, k3 T hTT, _, rfl, iteF ?_⟩
    refine ⟨fun σ' H' => σ' = [some (.ref a), some (.ref b), none] ∧ H' = H, ?_, ?_⟩
    · rcases hsq with ⟨p, q⟩ | ⟨p, q⟩
      · refine ⟨_, rfl, _, _, _, _, _, rfl, .ty _, tyx_T q, kit_ty (r := true) (by decide +kernel), _, rfl, iteT ?_⟩
        exact ⟨_, rfl, _, _, _, _, _, rfl, .ty _, tyx_T p, kit_ty (r := true) (by decide +kernel), _, rfl, iteF ⟨rfl, rfl⟩⟩
      · refine ⟨_, rfl, _, _, _, _, _, rfl, .ty _, tyx_L q, kit_ty (r := false) (by decide +kernel), _, rfl, iteF ?_⟩
        exact ⟨_, rfl, _, _, _, _, _, rfl, .ty _, tyx_L p, kit_ty (r := true) (by decide +kernel), _, rfl, iteF ⟨rfl, rfl⟩⟩
    rintro σ' H' ⟨rfl, rfl⟩
    refine ⟨_, rfl, a, _, rfl, lena, _, rfl, b, _, rfl, lenb, rfl, _, rfl, ifEqN (congrArg V.int (by rw [lens])) ?_⟩
    refine ⟨_, rfl, b, _, rfl, lenb, _, rfl, by omega, by omega, for_range (lo := 0) (n := ((ys.length : Nat) : Int).toNat) (fun i σ H1 => ∃ y2, σ = [some (.ref a), some (.ref b), y2] ∧ Same H' H1) ⟨none, rfl, Same.refl _⟩ ?_ ?_⟩
    · rintro i σ H1 hi ⟨y2, rfl, sm⟩
      rw [Int.toNat_natCast] at hi
      have hix : i < xs.length := by omega
      have ex := List.getElem?_eq_getElem hix
      have ey := List.getElem?_eq_getElem hi
      have hxy := hall.all i _ _ ex ey
      have ax : atI xs (0 + ((i : Nat) : Int)) = some xs[i] := at_of' (j := i) (by omega) ex
      have ay : atI ys (0 + ((i : Nat) : Int)) = some ys[i] := at_of' (j := i) (by omega) ey
      have rx : ∀ Q' : VK, Q' xs[i] H1 → rIx K (.ref a) (.int (0 + ((i : Nat) : Int))) H1 Q' := fun Q' h => by
        rcases lenv sm with ⟨p, _⟩ | ⟨p, _⟩
        · exact .inr (.inl ⟨a, _, _, _, rfl, rfl, p, ax, h⟩)
        · exact .inl ⟨a, _, _, _, rfl, rfl, p, ax, h⟩
      have ry : ∀ Q' : VK, Q' ys[i] H1 → rIx K (.ref b) (.int (0 + ((i : Nat) : Int))) H1 Q' := fun Q' h => by
        rcases lenv sm with ⟨_, p⟩ | ⟨_, p⟩
        · exact .inr (.inl ⟨b, _, _, _, rfl, rfl, p, ay, h⟩)
        · exact .inl ⟨b, _, _, _, rfl, rfl, p, ay, h⟩
      refine ⟨_, rfl, _, rfl, rx _ ⟨_, rfl, _, rfl, ry _ ⟨_, _, rfl, Al.mono sm d' _ _ hxy, fun H2 s2 => ⟨_, rfl, iteF ?_⟩⟩⟩⟩
      exact ⟨_, rfl, sm.trans s2⟩
    · rintro σ H1 ⟨y2, rfl, sm⟩
      exact q H1 sm
theorem ok_alike {f : Addr} {fd : FuncData} (FS : Fun K "_law_alike" "_law_alike" sAlike f fd) (bS : Binds K fd ["_law_found", "_law_due"] []) (mS : mg "_law_alike" = some (.ref f)) (ml : mg "len" = none) (mrg : mg "range" = none) (mis : mg "isinstance" = none)
    (mbool : mg "bool" = none) (mint : mg "int" = none) (mstr : mg "str" = none) (mtuple : mg "tuple" = none) (mlist : mg "list" = none) : ∀ d : Nat, FnOk P w K mg base CX0 d f fd ["_law_found", "_law_due"] (spAlike K d)
  | 0 => alike_none
  | d + 1 => alike_step FS bS mS ml mrg mis mbool mint mstr mtuple mlist (ok_alike FS bS mS ml mrg mis mbool mint mstr mtuple mlist d)
end
end K15

namespace K15
open PySem L2
theorem cut_ints (ns : List Int) (v : Int) : cutV (ns.map V.int) none (some v) = (ns.take (HT.sIx ns.length ns.length (some v))).map V.int := by
  unfold cutV
  rw [List.length_map, HT.sIx_none, List.drop_zero, Nat.sub_zero, List.map_take]
theorem sIx_some {n : Nat} {v : Int} (h : 0 ≤ v) : HT.sIx n n (some v) = min v.toNat n := by
  obtain ⟨k, rfl⟩ : ∃ k : Nat, v = (k : Int) := ⟨v.toNat, by omega⟩
  rw [HT.sIx_nat, Int.toNat_natCast]
theorem set_ints (ns : List Int) (j : Nat) (x : Int) : (ns.map V.int).set j (.int x) = (ns.set j x).map V.int := by
  rw [List.map_set]
theorem rest_of (x m : Int) (h : 0 < m) : 0 ≤ x % m ∧ x % m < m := ⟨Int.emod_nonneg _ (by omega), Int.emod_lt_of_pos _ h⟩
theorem ixN_of {n : Nat} {i : Int} (h0 : 0 ≤ i) (h : i < (n : Int)) : ixN n i = some i.toNat := by
  unfold ixN
  rw [if_pos h0, if_pos h]
theorem at_ints {ns : List Int} {i : Int} (h0 : 0 ≤ i) (h : i < (ns.length : Int)) : ∃ t : Int, atI (ns.map V.int) i = some (.int t) := by
  obtain ⟨t, _, e⟩ := pick_int h0 h
  exact ⟨t, e⟩
theorem cut_some (cs0 : List Int) (v : Int) (hv : 1 ≤ v) (h1 : 1 ≤ cs0.length) (h2 : cs0.length ≤ 64) : ∃ cs : List Int, cutV (cs0.map V.int) none (some v) = cs.map V.int ∧ 1 ≤ cs.length ∧ cs.length ≤ 64 := by
  refine ⟨_, cut_ints cs0 v, ?_, ?_⟩ <;> rw [List.length_take, sIx_some (by omega)] <;> omega
section
variable {P : Program} {w : World} {K : Fr} {mg : Str → Option Value} {base : Heap}
def spDraws (K : Fr) : Sp := fun vs H Q _ => ∃ (a : Addr) (ns : List Int), vs = [.ref a] ∧ SqL K H a (ns.map V.int) ∧ ns.length ≤ 63 ∧ ∀ L H', Same H H' → H L = none → DrAt H' L → Q (.ref L) H'
theorem scDraws : FnScope ["_law_script", "_law_cells", "_law_by_digits", "_law_left", "_law_found", "_law_k", "_law_at", "_law_number"] ["_law_script"] (defScope sDraws) := ⟨rfl, rfl, rfl, by decide +kernel, rfl, by decide +kernel, by decide +kernel⟩
theorem ok_draws {f : Addr} {fd : FuncData} (F : Fun K "_law_draws" "_law_draws" sDraws f fd) (ml : mg "len" = none) (mrg : mg "range" = none) (mlist : mg "list" = none) (mmax : mg "max" = none) (mm : mg "min" = none) :
    FnOk P w K mg base CX0 1 f fd ["_law_script"] (spDraws K) := by
  refine F.ok scDraws (fun vs H Q E h => ?_) (fun cdv A outer s H vs Q E hr h => ?_)
  · obtain ⟨a, ns, rfl, _⟩ := h
    rfl
  obtain ⟨a, ns, rfl, hS, h63, q⟩ := h
  refine ⟨_, (pss_cons (ps_set (i := 1) scDraws.nd rfl (.inl rfl) (pe_slice sl_list (pe_op op_cat (pe_callTy call_list_of (by rfl) mlist (by decide +kernel) (pa_cons (pe_slice sl_list (pv 0) po_none (po_some pe_int)) pa_nil)) (pe_lst (pa_cons pe_int pa_nil))) po_none (po_some (pe_callB (call_max2 rfl) (by rfl) mmax (by decide +kernel) (pa_cons pe_int (pa_cons (pe_callB (call_min2 rfl) (by rfl) mm (by decide +kernel) (pa_cons (pe_callB call_len_seq (by rfl) ml PySem.boot_len (pa_cons (pv 0) pa_nil)) (pa_cons pe_int pa_nil))) pa_nil))))))
    (pss_cons (ps_set (i := 2) scDraws.nd rfl (.inl rfl) (pe_cmpR op_eq (pe_op op_mod (pe_ix (r := rIxL K) ix_list (pv 1) pe_int (fun _ _ => rfl)) pe_int) pe_int (nomark _)))
    (pss_cons (ps_asg (pe_op op_fdiv (pe_ix (r := rIxL K) ix_list (pv 1) pe_int (fun _ _ => rfl)) pe_int) (pg_sub (pv 1) pe_int set_list))
    (pss_cons (ps_set (i := 3) scDraws.nd rfl (.inl rfl) (pe_callTy call_list_of (by rfl) mlist (by decide +kernel) (pa_cons (pv 1) pa_nil)))
    (pss_cons (ps_set (i := 4) scDraws.nd rfl (.inl rfl) (pe_lst pa_nil))
    (pss_cons (ps_for PassesOwn.never rfl (pi_range1 (by rfl) mrg (pa_cons pe_int pa_nil)) (pg_name (i := 5) scDraws.nd rfl (.inl rfl))
    (pss_cons (ps_set (i := 6) scDraws.nd rfl (.inl rfl) (pe_op op_mod (pv 5) (pe_callB call_len_seq (by rfl) ml PySem.boot_len (pa_cons (pv 1) pa_nil))))
    (pss_cons (ps_set (i := 7) scDraws.nd rfl (.inl rfl) (pe_op op_mod (pe_ix (r := rIxL K) ix_list (pv 3) (pv 6) (fun _ _ => rfl)) pe_int))
    (C8.pss_cut (ps_if (PW.pt (pw_and (pt_val (pv 2)) (pw_and1 (pt_cmpR op_notIn_seq (pe_ix (r := rIxL K) ix_list (pv 3) (pv 6) (fun _ _ => rfl)) (pe_lst (pa_cons pe_int (pa_cons (pe_un un_neg pe_int) pa_nil))) (by rfl)))))
    (pss_one (ps_asg (pe_op op_fdivW (pe_ix (r := rIxL K) ix_list (pv 3) (pv 6) (fun _ _ => rfl)) pe_int) (pg_sub (pv 3) (pv 6) set_list)))
    (pss_cons (ps_set (i := 7) scDraws.nd rfl (.inl rfl) (pe_op op_mod (pe_op op_add (pe_op op_add (pe_op op_mul (pe_op op_mod (pe_ix (r := rIxL K) ix_list (pv 1) (pv 6) (fun _ _ => rfl)) pe_int) pe_int) (pe_op op_mul (pe_op op_mul pe_int (pv 5)) (pv 5))) pe_int) pe_int))
    (pss_cons (ps_set (i := 7) scDraws.nd rfl (.inl rfl) (pe_op op_mod (pe_op op_mul (pv 7) (pv 7)) pe_int))
    (pss_one (ps_set (i := 7) scDraws.nd rfl (.inl rfl) (pe_op op_mod (pe_op op_mul (pe_op op_mod (pe_op op_add (pe_op op_mul (pv 7) pe_int) (pe_op op_mul pe_int (pv 5))) pe_int) (pv 7)) pe_int))))))
    (pss_one (ps_expr (pe_bm PySem.F.plainAttrs_list PySem.F.slot_list_append PySem.F.type_list_append mt_append (pv 4) (pa_cons (pv 7) pa_nil))))))))
    (pss_one (ps_ret (pe_revL (pv 4)))))))))), ?_⟩
  -- cells
  refine ⟨_, rfl, 63, rfl, a, _, rfl, hS, fun p1 hp1 => ?_⟩
  rw [cut_ints]
  have s1 : Same H (upd H p1 (.lst ((ns.take (HT.sIx ns.length ns.length (some 63))).map V.int))) := same_new hp1
  refine ⟨p1, _, rfl, .inl (SqL.of upd_same), fun p2 hp2 => ?_⟩
  have s2 := s1.trans (same_new (o := .lst ((ns.take (HT.sIx ns.length ns.length (some 63))).map V.int)) hp2)
  refine ⟨small (n := 1) (by decide), fun p3 hp3 => ?_⟩
  have s3' := same_new (o := .lst [V.int 0]) hp3
  have s3 := s2.trans s3'
  have hl1 : (ns.take (HT.sIx ns.length ns.length (some 63))).length ≤ 63 := by
    rw [List.length_take]
    omega
  refine ⟨p2, p3, _, _, rfl, rfl, s3' _ _ upd_same, upd_same, small (by rw [List.length_map]; show _ + 1 ≤ 1000; omega), fun p4 hp4 => ?_⟩
  have e4 : (ns.take (HT.sIx ns.length ns.length (some 63))).map V.int ++ [V.int 0] = (ns.take (HT.sIx ns.length ns.length (some 63)) ++ [0]).map V.int := by
    rw [List.map_append]
    rfl
  rw [e4]
  generalize hcs : ns.take (HT.sIx ns.length ns.length (some 63)) ++ [0] = cs0 at *
  have hcl : 1 ≤ cs0.length ∧ cs0.length ≤ 64 := by
    rw [← hcs, List.length_append, List.length_singleton]
    omega
  have s4 := s3.trans (same_new (o := .lst (cs0.map V.int)) hp4)
  refine ⟨_, rfl, a, _, rfl, .inl (s4.seq hS), _, _, rfl, _, _, rfl, _, rfl, p4, _, rfl, SqL.of upd_same, fun c hc => ?_⟩
  have hv : 1 ≤ (if (if (63 : Int) < ((ns.map V.int).length : Int) then (63 : Int) else ((ns.map V.int).length : Int)) > 1 then (if (63 : Int) < ((ns.map V.int).length : Int) then (63 : Int) else ((ns.map V.int).length : Int)) else 1) := by
    split <;> omega
  obtain ⟨cs, ecs, hc1, hc2⟩ := cut_some cs0 _ hv hcl.1 hcl.2
  rw [ecs]
  have s5 := s4.trans (same_new (o := .lst (cs.map V.int)) hc)
  have hc0 : H c = none := s4.free hc
  -- by_digits
  obtain ⟨t0, et0⟩ := at_ints (ns := cs) (i := 0) (by omega) (by omega)
  refine ⟨_, rfl, c, _, 0, _, rfl, rfl, SqL.of upd_same, et0, _, _, rfl, rfl, (by show (0 : Int) < _; decide), rfl, ?_⟩
  generalize decide (V.int (t0 % 2) = V.int 1) = B
  -- cells[0] = cells[0] // 2
  refine ⟨_, rfl, c, _, 0, _, rfl, rfl, SqL.of upd_same, et0, _, _, rfl, rfl, ⟨by decide, by decide⟩, _, rfl, c, _, 0, 0, rfl, rfl, upd_same, ixN_of (by omega) (by rw [List.length_map]; omega), ?_⟩
  rw [set_ints, upd_upd]
  obtain ⟨cs2, ecs2, hc3⟩ : ∃ cs2 : List Int, cs.set 0 (t0 / 2) = cs2 ∧ cs2.length = cs.length := ⟨_, rfl, List.length_set ..⟩
  rw [ecs2]
  have s6 : Same H (upd (upd (upd (upd (upd H p1 (.lst ((ns.take (HT.sIx ns.length ns.length (some 63))).map V.int))) p2 (.lst ((ns.take (HT.sIx ns.length ns.length (some 63))).map V.int))) p3 (.lst [V.int 0])) p4 (.lst (cs0.map V.int))) c (.lst (cs2.map V.int))) := same_put s4 hc0
  -- left
  refine ⟨_, rfl, c, _, rfl, .inl (SqL.of upd_same), fun l hl => ?_⟩
  have ncl : c ≠ l := ne_of_none upd_same hl
  have hl0 : H l = none := s6.free hl
  have s7' := same_new (o := .lst (cs2.map V.int)) hl
  have s7 := s6.trans s7'
  refine ⟨small (n := 0) (by decide), fun fo hfo => ?_⟩
  have nlf : l ≠ fo := ne_of_none upd_same hfo
  have hf0 : H fo = none := s7.free hfo
  have s8' := same_new (o := .lst []) hfo
  have ncf : c ≠ fo := ne_of_none (s7' _ _ upd_same) hfo
  refine ⟨900, rfl, by decide, by decide, for_range (lo := 0) (n := (900 : Int).toNat) (fun i σ H' => ∃ (y5 y6 y7 : Option V) (ls ds : List Int), σ = [some (.ref a), some (.ref c), some (.bl B), some (.ref l), some (.ref fo), y5, y6, y7] ∧ Same H H' ∧ H' c = some (.lst (cs2.map V.int)) ∧
      H' l = some (.lst (ls.map V.int)) ∧ ls.length = cs2.length ∧ H' fo = some (.lst (ds.map V.int)) ∧ ds.length = i ∧ ∀ d ∈ ds, 0 ≤ d ∧ d < 2147483629)
    ⟨none, none, none, cs2, [], rfl, s7.trans s8', s8' _ _ (s7' _ _ upd_same), s8' _ _ upd_same, rfl, upd_same, rfl, fun d hd => by cases hd⟩ ?_ ?_⟩
  · rintro i σ H1 hi ⟨y5, y6, y7, ls, ds, rfl, sm, hc1', hl1', hll, hf1', hdl, hds⟩
    have hi : i < 900 := hi
    have hpos : (0 : Int) < ((cs2.map V.int).length : Int) := by
      rw [List.length_map]
      omega
    refine ⟨_, rfl, _, rfl, c, _, rfl, .inl (SqL.of hc1'), _, _, rfl, rfl, hpos, ?_⟩
    have hat := rest_of (0 + ((i : Nat) : Int)) ((cs2.map V.int).length : Int) hpos
    rw [List.length_map] at hat ⊢
    obtain ⟨tl, etl⟩ := at_ints (ns := ls) hat.1 (by omega)
    obtain ⟨tc, etc⟩ := at_ints (ns := cs2) hat.1 hat.2
    refine ⟨_, rfl, _, rfl, l, _, _, _, rfl, rfl, SqL.of hl1', etl, _, _, rfl, rfl, (by show (0 : Int) < _; decide), ?_⟩
    refine ⟨fun σ' H' => ∃ (x : Int) (ls' : List Int), σ' = [some (.ref a), some (.ref c), some (.bl B), some (.ref l), some (.ref fo), some (.int (0 + ((i : Nat) : Int))), some (.int ((0 + ((i : Nat) : Int)) % (cs2.length : Int))), some (.int x)] ∧ (0 ≤ x ∧ x < 2147483629) ∧ Same H H' ∧ H' c = some (.lst (cs2.map V.int)) ∧
      H' l = some (.lst (ls'.map V.int)) ∧ H' fo = some (.lst (ds.map V.int)) ∧ ls'.length = cs2.length, ?_, ?_⟩
    · refine ⟨_, rfl, B, rfl, ?_⟩
      cases B with
      | false =>
        refine iteF ?_
        refine ⟨_, rfl, _, rfl, c, _, _, _, rfl, rfl, SqL.of hc1', etc, _, _, rfl, rfl, (by show (0 : Int) < _; decide), _, _, rfl, rfl, .inl ⟨by omega, by omega⟩, ?_⟩
        refine ⟨_, rfl, _, _, rfl, rfl, .inl ⟨by decide, by decide⟩, _, rfl, _, _, rfl, rfl, .inl ⟨by omega, by omega⟩, _, _, rfl, rfl, _, _, rfl, rfl, _, _, rfl, rfl, (by show (0 : Int) < _; decide), ?_⟩
        have ra := rest_of (tc % 2147483629 * 48271 + 7919 * (0 + ((i : Nat) : Int)) * (0 + ((i : Nat) : Int)) + 104729) 2147483647 (by decide)
        refine ⟨_, rfl, _, rfl, _, _, rfl, rfl, .inl ⟨by omega, by omega⟩, _, _, rfl, rfl, (by show (0 : Int) < _; decide), ?_⟩
        have rb := rest_of ((tc % 2147483629 * 48271 + 7919 * (0 + ((i : Nat) : Int)) * (0 + ((i : Nat) : Int)) + 104729) % 2147483647 * ((tc % 2147483629 * 48271 + 7919 * (0 + ((i : Nat) : Int)) * (0 + ((i : Nat) : Int)) + 104729) % 2147483647)) 2147483629 (by decide)
        refine ⟨_, rfl, _, _, rfl, rfl, .inl ⟨by omega, by omega⟩, _, rfl, _, _, rfl, rfl, .inl ⟨by decide, by decide⟩, _, _, rfl, rfl, _, _, rfl, rfl, (by show (0 : Int) < _; decide), ?_⟩
        have rc := rest_of ((tc % 2147483629 * 48271 + 7919 * (0 + ((i : Nat) : Int)) * (0 + ((i : Nat) : Int)) + 104729) % 2147483647 * ((tc % 2147483629 * 48271 + 7919 * (0 + ((i : Nat) : Int)) * (0 + ((i : Nat) : Int)) + 104729) % 2147483647) % 2147483629 * 69621 + 3571 * (0 + ((i : Nat) : Int))) 2147483563 (by decide)
        refine ⟨_, rfl, _, _, rfl, rfl, .inl ⟨by omega, by omega⟩, _, _, rfl, rfl, (by show (0 : Int) < _; decide), ?_⟩
        have rd := rest_of ((((tc % 2147483629 * 48271 + 7919 * (0 + ((i : Nat) : Int)) * (0 + ((i : Nat) : Int)) + 104729) % 2147483647 * ((tc % 2147483629 * 48271 + 7919 * (0 + ((i : Nat) : Int)) * (0 + ((i : Nat) : Int)) + 104729) % 2147483647) % 2147483629 * 69621 + 3571 * (0 + ((i : Nat) : Int))) % 2147483563) * ((tc % 2147483629 * 48271 + 7919 * (0 + ((i : Nat) : Int)) * (0 + ((i : Nat) : Int)) + 104729) % 2147483647 * ((tc % 2147483629 * 48271 + 7919 * (0 + ((i : Nat) : Int)) * (0 + ((i : Nat) : Int)) + 104729) % 2147483647) % 2147483629)) 2147483629 (by decide)
        exact ⟨_, ls, rfl, rd, sm, hc1', hl1', hf1', hll⟩
      | true =>
        refine iteT ?_
        refine ⟨_, rfl, _, rfl, l, _, _, _, rfl, rfl, SqL.of hl1', etl, 1, rfl, small (n := 2) (by decide), fun e he => ?_⟩
        have se : Same H1 (upd H1 e (.lst [.int 0, .int (-1)])) := same_new he
        refine ⟨e, _, rfl, .inl (SqL.of upd_same), rfl, rfl, _, rfl, ?_⟩
        have hl2 := se _ _ hl1'
        have hc2' := se _ _ hc1'
        have hf2 := se _ _ hf1'
        refine ite2 (fun _ => ?_) (fun _ => ?_)
        · refine ⟨_, rfl, _, rfl, l, _, _, _, rfl, rfl, SqL.of hl2, etl, _, _, rfl, rfl, wide_div (b := 32) (by decide) (by decide) (by decide) (by decide), _, rfl, _, rfl, l, _, _, _, rfl, rfl, hl2, ixN_of hat.1 (by rw [List.length_map]; omega), ?_⟩
          rw [set_ints]
          exact ⟨_, _, rfl, rest_of tl 2147483629 (by decide), same_put (sm.trans se) hl0, by rw [upd_ne ncl]; exact hc2', upd_same, by rw [upd_ne nlf.symm]; exact hf2, by rw [List.length_set]; exact hll⟩
        · refine ⟨_, rfl, _, rfl, c, _, _, _, rfl, rfl, SqL.of hc2', etc, _, _, rfl, rfl, (by show (0 : Int) < _; decide), _, _, rfl, rfl, .inl ⟨by omega, by omega⟩, ?_⟩
          refine ⟨_, rfl, _, _, rfl, rfl, .inl ⟨by decide, by decide⟩, _, rfl, _, _, rfl, rfl, .inl ⟨by omega, by omega⟩, _, _, rfl, rfl, _, _, rfl, rfl, _, _, rfl, rfl, (by show (0 : Int) < _; decide), ?_⟩
          have ra := rest_of (tc % 2147483629 * 48271 + 7919 * (0 + ((i : Nat) : Int)) * (0 + ((i : Nat) : Int)) + 104729) 2147483647 (by decide)
          refine ⟨_, rfl, _, rfl, _, _, rfl, rfl, .inl ⟨by omega, by omega⟩, _, _, rfl, rfl, (by show (0 : Int) < _; decide), ?_⟩
          have rb := rest_of ((tc % 2147483629 * 48271 + 7919 * (0 + ((i : Nat) : Int)) * (0 + ((i : Nat) : Int)) + 104729) % 2147483647 * ((tc % 2147483629 * 48271 + 7919 * (0 + ((i : Nat) : Int)) * (0 + ((i : Nat) : Int)) + 104729) % 2147483647)) 2147483629 (by decide)
          refine ⟨_, rfl, _, _, rfl, rfl, .inl ⟨by omega, by omega⟩, _, rfl, _, _, rfl, rfl, .inl ⟨by decide, by decide⟩, _, _, rfl, rfl, _, _, rfl, rfl, (by show (0 : Int) < _; decide), ?_⟩
          have rc := rest_of ((tc % 2147483629 * 48271 + 7919 * (0 + ((i : Nat) : Int)) * (0 + ((i : Nat) : Int)) + 104729) % 2147483647 * ((tc % 2147483629 * 48271 + 7919 * (0 + ((i : Nat) : Int)) * (0 + ((i : Nat) : Int)) + 104729) % 2147483647) % 2147483629 * 69621 + 3571 * (0 + ((i : Nat) : Int))) 2147483563 (by decide)
          refine ⟨_, rfl, _, _, rfl, rfl, .inl ⟨by omega, by omega⟩, _, _, rfl, rfl, (by show (0 : Int) < _; decide), ?_⟩
          have rd := rest_of ((((tc % 2147483629 * 48271 + 7919 * (0 + ((i : Nat) : Int)) * (0 + ((i : Nat) : Int)) + 104729) % 2147483647 * ((tc % 2147483629 * 48271 + 7919 * (0 + ((i : Nat) : Int)) * (0 + ((i : Nat) : Int)) + 104729) % 2147483647) % 2147483629 * 69621 + 3571 * (0 + ((i : Nat) : Int))) % 2147483563) * ((tc % 2147483629 * 48271 + 7919 * (0 + ((i : Nat) : Int)) * (0 + ((i : Nat) : Int)) + 104729) % 2147483647 * ((tc % 2147483629 * 48271 + 7919 * (0 + ((i : Nat) : Int)) * (0 + ((i : Nat) : Int)) + 104729) % 2147483647) % 2147483629)) 2147483629 (by decide)
          exact ⟨_, ls, rfl, rd, sm.trans se, hc2', hl2, hf2, hll⟩
    · rintro σ2 H2 ⟨x, ls', rfl, hx, sm2, hc2', hl2', hf2', hll'⟩
      refine ⟨_, rfl, .inl ⟨rfl, _, SqL.of hf2'⟩, _, rfl, fo, _, _, rfl, rfl, hf2', small1000 (by rw [List.length_map]; omega), ?_⟩
      refine ⟨_, _, _, ls', ds ++ [x], rfl, same_put sm2 hf0, by rw [upd_ne ncf]; exact hc2', by rw [upd_ne nlf]; exact hl2', hll', by rw [upd_same, List.map_append]; rfl, by rw [List.length_append, List.length_singleton, hdl], fun d hd => ?_⟩
      rcases List.mem_append.mp hd with z | z
      · exact hds d z
      · rw [List.mem_singleton.mp z]
        exact hx
  · rintro σ H1 ⟨y5, y6, y7, ls, ds, rfl, sm, hc1', hl1', hll, hf1', hdl, hds⟩
    refine ⟨_, rfl, fo, _, rfl, SqL.of hf1', fun r hr' => ?_⟩
    rw [← List.map_reverse]
    exact q r _ (sm.trans (same_new hr')) (sm.free hr') ⟨ds.reverse, upd_same, fun d hd => hds d (List.mem_reverse.mp hd)⟩
end
end K15

namespace K15
open PySem L2
def Flat (x : V) : Prop := (∃ i, x = .int i) ∨ ∃ s, x = .str s ∧ PyData.strOk s = true
theorem flat_op (o : Op) : Flat (oV o) := by
  obtain ⟨k, hk⟩ := o
  cases k with
  | inl i => exact .inl ⟨i, rfl⟩
  | inr x => exact .inr ⟨x, rfl, hk⟩
theorem flat_int (i : Int) : Flat (.int i) := .inl ⟨i, rfl⟩
theorem flat_sum : Flat (.str "sum") := .inr ⟨_, rfl, by decide +kernel⟩
theorem flat_test : Flat (.str "test") := .inr ⟨_, rfl, by decide +kernel⟩
theorem flat_end : Flat (.str "end") := .inr ⟨_, rfl, by decide +kernel⟩
theorem flat_spin : Flat (.str "spin") := .inr ⟨_, rfl, by decide +kernel⟩
theorem flat_jump : Flat (.str "jump") := .inr ⟨_, rfl, by decide +kernel⟩
theorem flat_nil : ∀ x ∈ ([] : List V), Flat x := fun x h => by cases h
theorem flat_cons {v : V} {r : List V} (h : Flat v) (hr : ∀ x ∈ r, Flat x) : ∀ x ∈ v :: r, Flat x := fun x hx => by
  rcases List.mem_cons.mp hx with e | e
  · exact e ▸ h
  · exact hr x e
theorem flat_nd (n : Nd Op) : ∀ x ∈ ndV n, Flat x := by
  cases n with
  | sum nm a s b nx => exact flat_cons flat_sum (flat_cons (flat_op _) (flat_cons (flat_op _) (flat_cons (flat_op _) (flat_cons (flat_op _) (flat_cons (flat_int _) flat_nil)))))
  | test a s b ys no => exact flat_cons flat_test (flat_cons (flat_op _) (flat_cons (flat_op _) (flat_cons (flat_op _) (flat_cons (flat_int _) (flat_cons (flat_int _) flat_nil)))))
  | fin => exact flat_cons flat_end flat_nil
  | spin => exact flat_cons flat_spin flat_nil
theorem flat_rw (x : Int × Rw Op) : ∀ v ∈ rwV x, Flat v := by
  obtain ⟨m, r⟩ := x
  cases r with
  | sum nm a s b => exact flat_cons (flat_int _) (flat_cons flat_sum (flat_cons (flat_op _) (flat_cons (flat_op _) (flat_cons (flat_op _) (flat_cons (flat_op _) flat_nil)))))
  | test a s b t => exact flat_cons (flat_int _) (flat_cons flat_test (flat_cons (flat_op _) (flat_cons (flat_op _) (flat_cons (flat_op _) (flat_cons (flat_int _) flat_nil)))))
  | jump t => exact flat_cons (flat_int _) (flat_cons flat_jump (flat_cons (flat_int _) flat_nil))
  | fin => exact flat_cons (flat_int _) (flat_cons flat_end flat_nil)
theorem len_nd (n : Nd Op) : (ndV n).length ≤ 1000 := by cases n <;> (show _ ≤ 1000; simp [ndV])
theorem len_rw (x : Int × Rw Op) : (rwV x).length ≤ 1000 := by
  obtain ⟨m, r⟩ := x
  cases r <;> (show _ ≤ 1000; simp [rwV])
/-- two lists of tuples of the same flat items are alike -/
theorem al_tab {K : Fr} {H : Hp} {γ : Type} {f : γ → List V} (hf : ∀ g, ∀ x ∈ f g, Flat x) (hl : ∀ g, (f g).length ≤ 1000) {p q : Addr} {us vs : List V} {gs : List γ} (hp : SqL K H p us) (hq : SqL K H q vs)
    (hu : All2 (fun v g => TupAt K H v (f g)) us gs) (hv : All2 (fun v g => TupAt K H v (f g)) vs gs) (h : gs.length ≤ 1000) : Al K H 2 (.ref p) (.ref q) := by
  refine .inr ⟨p, q, us, vs, rfl, rfl, .inr ⟨hp, hq⟩, ⟨by rw [hu.len, hv.len], fun i x y hx hy => ?_⟩, by rw [hu.len]; exact h⟩
  obtain ⟨g, hg, a, rfl, ha⟩ := hu.get' hx
  obtain ⟨b, rfl, hb⟩ := hv.all i y g hy hg
  refine .inr ⟨a, b, f g, f g, rfl, rfl, .inl ⟨ha, hb⟩, ⟨rfl, fun j x y hx hy => ?_⟩, hl g⟩
  rw [hx] at hy
  have e := Option.some.inj hy
  subst e
  refine ⟨rfl, ?_⟩
  rcases hf g x (List.mem_of_getElem? hx) with z | ⟨s, e, _⟩
  · exact .inl z
  · exact .inr ⟨s, e⟩
theorem al_gr {K : Fr} {H : Hp} {p q : Addr} {g : List (Nd Op)} (hp : GrAt K H p g) (hq : GrAt K H q g) (h : g.length ≤ 1000) : Al K H 2 (.ref p) (.ref q) := by
  obtain ⟨us, h1, h2⟩ := hp
  obtain ⟨vs, h3, h4⟩ := hq
  exact al_tab flat_nd len_nd h1 h3 h2 h4 h
theorem al_rws {K : Fr} {H : Hp} {p q : Addr} {R : List (Int × Rw Op)} (hp : RwsAt K H p R) (hq : RwsAt K H q R) (h : R.length ≤ 1000) : Al K H 2 (.ref p) (.ref q) := by
  obtain ⟨us, h1, h2⟩ := hp
  obtain ⟨vs, h3, h4⟩ := hq
  exact al_tab flat_rw len_rw h1 h3 h2 h4 h
/-- flat items as data -/
theorem dp_flat {K : Fr} {H : Hp} : ∀ l : List V, (∀ x ∈ l, Flat x) → ∃ ds, DpAll K H l ds ∧ PyData.canLayAll0 ds = true ∧ PyData.depthAll ds = 0
  | [], _ => ⟨[], .nil, rfl, rfl⟩
  | v :: r, h => by
    obtain ⟨ds, h1, h2, h3⟩ := dp_flat r (fun x hx => h x (List.mem_cons_of_mem _ hx))
    rcases h v List.mem_cons_self with ⟨i, rfl⟩ | ⟨s, rfl, hs⟩
    · refine ⟨.int i :: ds, .cons (.int i) h1, h2, ?_⟩
      show max 0 (PyData.depthAll ds) = 0
      omega
    · refine ⟨.str s :: ds, .cons (.str s) h1, ?_, ?_⟩
      · show (PyData.strOk s && PyData.canLayAll0 ds) = true
        rw [hs, h2]
        rfl
      · show max 0 (PyData.depthAll ds) = 0
        omega
theorem dp_rws {K : Fr} {H : Hp} : ∀ (us : List V) (R : List (Int × Rw Op)), All2 (RwAt K H) us R → ∃ ds, DpAll K H us ds ∧ PyData.canLayAll0 ds = true ∧ PyData.depthAll ds ≤ 1
  | us, [], h => by
    have : us = [] := List.length_eq_zero_iff.mp h.len
    subst this
    exact ⟨[], .nil, rfl, Nat.zero_le _⟩
  | us, x :: R, h => by
    obtain ⟨u, r, rfl, ⟨a, rfl, ha⟩, h'⟩ := h.uncons
    obtain ⟨ds, h1, h2, h3⟩ := dp_rws r R h'
    obtain ⟨es, e1, e2, e3⟩ := dp_flat (K := K) (H := H) (rwV x) (flat_rw x)
    refine ⟨.tuple es :: ds, .cons (.tup ha e1) h1, ?_, ?_⟩
    · show (PyData.canLayAll0 es && PyData.canLayAll0 ds) = true
      rw [e2, h2]
      rfl
    · show max (PyData.depthAll es + 1) (PyData.depthAll ds) ≤ 1
      omega
section
variable {P : Program} {w : World} {K : Fr} {mg : Str → Option Value} {base : Heap}
def spLaw (K : Fr) : Sp := fun vs H Q _ => ∃ (a : Addr) (ns : List Int), vs = [.ref a] ∧ SqL K H a (ns.map V.int) ∧ ns.length ≤ 63 ∧ ∀ H', Q (.bl true) H'
theorem scLaw : FnScope ["_law_script", "_law_drawn_here", "_law_graph_here", "_law_rows_here", "_law_found", "_law_laid", "_law_kept"] ["_law_script"] (defScope sLaw) := ⟨rfl, rfl, rfl, by decide +kernel, rfl, by decide +kernel, by decide +kernel⟩
theorem ok_law {f fDs fDn fAl fGo fLo fRs fNs fX : Addr} {fd fdDs fdDn fdAl fdGo fdLo fdRs fdNs fdX : FuncData} (F : Fun K "law" "law" sLaw f fd)
    (FDs : Fun K "_law_draws" "_law_draws" sDraws fDs fdDs) (bDs : Binds K fdDs ["_law_script"] []) (mDs : mg "_law_draws" = some (.ref fDs)) (GDs : FnOk P w K mg base CX0 1 fDs fdDs ["_law_script"] (spDraws K))
    (FDn : Fun K "_law_drawn" "_law_drawn" sDrawn fDn fdDn) (bDn : Binds K fdDn ["_law_drawn_here", "_law_most"] []) (mDn : mg "_law_drawn" = some (.ref fDn)) (GDn : FnOk P w K mg base CX0 5 fDn fdDn ["_law_drawn_here", "_law_most"] (spDrawn K))
    (FAl : Fun K "_law_alike" "_law_alike" sAlike fAl fdAl) (bAl : Binds K fdAl ["_law_found", "_law_due"] []) (mAl : mg "_law_alike" = some (.ref fAl)) (GAl : FnOk P w K mg base CX0 3 fAl fdAl ["_law_found", "_law_due"] (spAlike K 3))
    (FGo : Fun K "graph_of" "graph_of" sGraphOf fGo fdGo) (bGo : Binds K fdGo ["rows"] []) (mGo : mg "graph_of" = some (.ref fGo)) (GGo : FnOk P w K mg base CX0 3 fGo fdGo ["rows"] (spGraphOf K))
    (FLo : Fun K "laid_out" "laid_out" sLaid fLo fdLo) (bLo : Binds K fdLo ["graph"] []) (mLo : mg "laid_out" = some (.ref fLo)) (GLo : FnOk P w K mg base CX0 3 fLo fdLo ["graph"] (spLaid K))
    (FRs : Fun K "_law_rows" "_law_rows" sRows fRs fdRs) (bRs : Binds K fdRs ["_law_drawn_here", "_law_names_here", "_law_most"] []) (mRs : mg "_law_rows" = some (.ref fRs)) (GRs : FnOk P w K mg base CX0 5 fRs fdRs ["_law_drawn_here", "_law_names_here", "_law_most"] (spRows K))
    (FNs : Fun K "_law_names" "_law_names" sNames fNs fdNs) (bNs : Binds K fdNs ["_law_number"] []) (mNs : mg "_law_names" = some (.ref fNs)) (GNs : FnOk P w K mg base CX0 1 fNs fdNs ["_law_number"] spNames)
    (FX : Fun K "_law_next" "_law_next" sNext fX fdX) (bX : Binds K fdX ["_law_drawn_here"] []) (mX : mg "_law_next" = some (.ref fX)) (GX : FnOk P w K mg base CX0 1 fX fdX ["_law_drawn_here"] spNext) (mlist : mg "list" = none) :
    FnOk P w K mg base CX0 6 f fd ["_law_script"] (spLaw K) := by
  refine F.ok scLaw (fun vs H Q E h => ?_) (fun cdv A outer s H vs Q E hr h => ?_)
  · obtain ⟨a, ns, rfl, _⟩ := h
    rfl
  obtain ⟨a, ns, rfl, hS, h63, q⟩ := h
  refine ⟨_, (pss_cons (ps_set (i := 1) scLaw.nd rfl (.inl rfl) (pe_call GDs (hr.mono (by decide)) (by rfl) mDs FDs.kp bDs .nil pass0 (pa_cons (pv 0) pa_nil)))
    (pss_cons (ps_set (i := 2) scLaw.nd rfl (.inl rfl) (pe_call GDn hr (by rfl) mDn FDn.kp bDn .nil pass0 (pa_cons (pv 1) (pa_cons pe_int pa_nil))))
    (pss_cons (ps_if (pt_not (pt_val (pe_call GAl (hr.mono (by decide)) (by rfl) mAl FAl.kp bAl .nil pass0 (pa_cons (pe_call GGo (hr.mono (by decide)) (by rfl) mGo FGo.kp bGo .nil pass0 (pa_cons (pe_call GLo (hr.mono (by decide)) (by rfl) mLo FLo.kp bLo .nil pass0 (pa_cons (pv 2) pa_nil)) pa_nil)) (pa_cons (pv 2) pa_nil)))))
    (pss_one (ps_ret pe_bl))
    pss_nil)
    (pss_cons (ps_set (i := 3) scLaw.nd rfl (.inl rfl) (pe_call GRs hr (by rfl) mRs FRs.kp bRs .nil pass0 (pa_cons (pv 1) (pa_cons (pe_call GNs (hr.mono (by decide)) (by rfl) mNs FNs.kp bNs .nil pass0 (pa_cons (pe_call GX (hr.mono (by decide)) (by rfl) mX FX.kp bX .nil pass0 (pa_cons (pv 1) pa_nil)) pa_nil)) (pa_cons pe_int pa_nil)))))
    (pss_cons (ps_set (i := 4) scLaw.nd rfl (.inl rfl) (pe_call GGo (hr.mono (by decide)) (by rfl) mGo FGo.kp bGo .nil pass0 (pa_cons (pv 3) pa_nil)))
    (pss_cons (ps_set (i := 5) scLaw.nd rfl (.inl rfl) (pe_call GLo (hr.mono (by decide)) (by rfl) mLo FLo.kp bLo .nil pass0 (pa_cons (pv 4) pa_nil)))
    (pss_cons (ps_set (i := 6) scLaw.nd rfl (.inl rfl) (pe_callTy call_list_of (by rfl) mlist (by decide +kernel) (pa_cons (pv 5) pa_nil)))
    (pss_cons (ps_if (pt_not (pt_val (pe_call GAl (hr.mono (by decide)) (by rfl) mAl FAl.kp bAl .nil pass0 (pa_cons (pe_call GGo (hr.mono (by decide)) (by rfl) mGo FGo.kp bGo .nil pass0 (pa_cons (pv 5) pa_nil)) (pa_cons (pv 4) pa_nil)))))
    (pss_one (ps_ret pe_bl))
    pss_nil)
    (pss_one (ps_ret (pe_and (pe_cmpR (op_eqD hr.units) (pv 5) (pv 6) (nomark _)) (pe_one (pe_call GAl (hr.mono (by decide)) (by rfl) mAl FAl.kp bAl .nil pass0 (pa_cons (pe_call GLo (hr.mono (by decide)) (by rfl) mLo FLo.kp bLo .nil pass0 (pa_cons (pe_call GGo (hr.mono (by decide)) (by rfl) mGo FGo.kp bGo .nil pass0 (pa_cons (pv 6) pa_nil)) pa_nil)) (pa_cons (pv 6) pa_nil))))))))))))))), ?_⟩
  -- the draws
  refine ⟨_, rfl, a, ns, rfl, hS, h63, fun L H1 s1 hL hd1 => ?_⟩
  -- the graph
  refine ⟨_, rfl, L, rfl, hd1, fun gp H2 g k2 hd2 hgp hg hcan hg40 => ?_⟩
  have hlen : ∀ {x : List (Nd Op)}, x.length ≤ 40 → (laid x).length ≤ 100 := fun {x} h => by
    rw [laid_len]
    have := first_le x x.length
    omega
  refine ⟨_, rfl, gp, g, rfl, hg, hcan.wf, hg40, fun r1 H3 s3 hr1 ⟨us1, hus1, hU1⟩ => ?_⟩
  refine ⟨r1, laid g, rfl, ⟨us1, SqL.of hus1, hU1⟩, laid_ok hcan.wf hcan.ne, hlen hg40, .inr ⟨g, hcan, hg40, rfl⟩, fun q1 H4 g' s4 hq1 hg' _ _ hround => ?_⟩
  have e1 := hround g hcan rfl
  subst e1
  have s34 := s3.trans s4
  refine ⟨_, rfl, .ref q1, .ref gp, rfl, al_gr hg' (same_gr s34 hg) (by omega), fun H5 s5 => ⟨_, rfl, iteF ?_⟩⟩
  have s25 := s34.trans s5
  have hd5 := same_dr s25 hd2
  -- the rows
  refine ⟨_, rfl, _, rfl, L, rfl, hd5, fun dn H6 k6 hd6 _ _ => ?_⟩
  refine ⟨dn, rfl, fun nm H7 s7 hnm hnm7 => ?_⟩
  have hd7 := same_dr s7 hd6
  refine ⟨L, nm, rfl, hd7, hnm7, ne_dr hd6 hnm, fun rp H8 R k8 hd8 hrp hR hRok hR40 => ?_⟩
  -- found
  refine ⟨_, rfl, rp, R, rfl, hR, hRok, by omega, .inl hR40, fun fp H9 g2 s9 hfp hg2 hcan2 hg240 _ => ?_⟩
  -- laid
  refine ⟨_, rfl, fp, g2, rfl, hg2, hcan2.wf, hg240, fun lp H10 s10 hlp ⟨us2, hus2, hU2⟩ => ?_⟩
  have hLp : RwsAt K H10 lp (laid g2) := ⟨us2, SqL.of hus2, hU2⟩
  -- kept
  refine ⟨_, rfl, lp, us2, rfl, .inl (SqL.of hus2), fun kp hkp => ?_⟩
  have s11 : Same H10 (upd H10 kp (.lst us2)) := same_new hkp
  have hKp : RwsAt K (upd H10 kp (.lst us2)) kp (laid g2) := ⟨us2, SqL.of upd_same, (imm_same s11).all hU2⟩
  have hKeq : (upd H10 kp (.lst us2)) kp = some (.lst us2) := upd_same
  generalize upd H10 kp (.lst us2) = H11 at s11 hKp hKeq ⊢
  have hl2 : (laid g2).length ≤ 100 := hlen hg240
  refine ⟨_, rfl, lp, laid g2, rfl, same_rws s11 hLp, laid_ok hcan2.wf hcan2.ne, hl2, .inr ⟨g2, hcan2, hg240, rfl⟩, fun q2 H12 g3 s12 hq2 hg3 _ _ hround2 => ?_⟩
  have e2 := hround2 g2 hcan2 rfl
  subst e2
  have s1012 := s11.trans s12
  refine ⟨_, rfl, .ref q2, .ref fp, rfl, al_gr hg3 (same_gr (s10.trans s1012) hg2) (by omega), fun H13 s13 => ⟨_, rfl, iteF ?_⟩⟩
  have s1113 := s12.trans s13
  -- laid == kept
  obtain ⟨ds, hds, hlay, hdep⟩ := dp_rws us2 (laid g3) ((imm_same (s11.trans s1113)).all hU2)
  have hsh : SeqAt.shaped (.list ds) = true := by
    unfold SeqAt.shaped
    rw [Bool.and_eq_true]
    refine ⟨hlay, decide_eq_true ?_⟩
    show PyData.depthAll ds + 1 ≤ 64
    omega
  refine ⟨_, rfl, _, rfl, .list ds, .list ds, .lst (SqL.of (s1113 _ _ (s11 _ _ hus2))) hds, .lst (SqL.of (s1113 _ _ hKeq)) hds, hsh, hsh, true, ?_, iteT ?_⟩
  · rw [PySem.SeqAt.eqv_refl (.list ds) hlay]
  -- laid out again
  have hKp13 := same_rws s1113 hKp
  refine ⟨_, rfl, kp, laid g3, rfl, hKp13, laid_ok hcan2.wf hcan2.ne, hl2, .inr ⟨g3, hcan2, hg240, rfl⟩, fun q3 H14 g4 s14 hq3 hg4 _ _ hround3 => ?_⟩
  have e3 := hround3 g3 hcan2 rfl
  subst e3
  refine ⟨q3, g4, rfl, hg4, hcan2.wf, hg240, fun r4 H15 s15 hr4 ⟨us4, hus4, hU4⟩ => ?_⟩
  refine ⟨_, rfl, .ref r4, .ref kp, rfl, al_rws ⟨us4, SqL.of hus4, hU4⟩ (same_rws (s14.trans s15) hKp13) (by omega), fun H16 _ => ?_⟩
  exact q H16
end
end K15

namespace K15
open PySem L2
/-! ### what the program's top has written -/
/-- a def of the top stands where its name says -/
structure Stands (K : Fr) (x : Str) (st : Stmt) (f : Addr) : Prop where
  a : PySem.W.nsIn K mainGlobals x = some (some (.ref f))
  ex : ∃ fd : FuncData, Fun K x x st f fd
theorem stands_mk {K : Fr} {x : Str} {st : Stmt} {f : Addr} {od an : Option Addr} {sl : Array (Option Value)} {oc kV dc pm cd ct : Value} (a : PySem.W.nsIn K mainGlobals x = some (some (.ref f)))
    (l : K.lookup f = some ⟨oc, od, .func (PySem.W.fnOf x x (defArgs st) (defBody st) (defScope st) .none kV dc pm an cd ct), sl⟩) (c : PySem.W.codeIn K cd x = true) (k : PySem.W.keepIn K (.ref f) = true) : Stands K x st f :=
  ⟨a, _, fun_mk l c k⟩
theorem all_mk {l : PySem.W.OpenLaw} {w : World} {K : Fr} {h : Heap} {mg : Str → Option Value} {fa f1 f2 f3 f4 f5 f6 f7 f8 f9 f10 f11 f12 f13 f14 f15 f16 f17 f18 f19 f20 f21 f22 f23 f24 f25 f26 : Addr} {tM : Tok} (X : K.In h) (G : h.Ns mainGlobals mg) (hfa : mg "law" = some (.ref fa))
    (S1 : Stands K "ways" sWays f1)
    (S2 : Stands K "come_to" sCome f2)
    (S3 : Stands K "node_of" sNodeOf f3)
    (S4 : Stands K "finished_last" sFin f4)
    (S5 : Stands K "renumbered" sRenum f5)
    (S6 : Stands K "moved" sMoved f6)
    (S7 : Stands K "graph_of" sGraphOf f7)
    (S8 : Stands K "turns_off" sTurns f8)
    (S9 : Stands K "row_of" sRowOf f9)
    (S10 : Stands K "laid_out" sLaid f10)
    (S11 : Stands K "_law_draws" sDraws f11)
    (S12 : Stands K "_law_next" sNext f12)
    (S13 : Stands K "_law_names" sNames f13)
    (S14 : Stands K "_law_great" sGreat f14)
    (S15 : Stands K "_law_operand" sOperand f15)
    (S16 : Stands K "_law_row" sRow f16)
    (S17 : Stands K "_law_rows" sRows f17)
    (S18 : Stands K "_law_far" sFar f18)
    (S19 : Stands K "_law_near" sNear f19)
    (S20 : Stands K "_law_node" sNode f20)
    (S21 : Stands K "_law_goals" sGoals f21)
    (S22 : Stands K "_law_order" sOrder f22)
    (S23 : Stands K "_law_graph" sGraph f23)
    (S24 : Stands K "_law_drawn" sDrawn f24)
    (S25 : Stands K "_law_alike" sAlike f25)
    (S26 : Stands K "law" sLaw f26)
    (mM : PySem.W.nsIn K mainGlobals "MOST_NODES" = some (some (.int 40 tM)))
    (z1 : PySem.W.nsIn K mainGlobals "len" = some none)
    (z2 : PySem.W.nsIn K mainGlobals "int" = some none)
    (z3 : PySem.W.nsIn K mainGlobals "enumerate" = some none)
    (z4 : PySem.W.nsIn K mainGlobals "min" = some none)
    (z5 : PySem.W.nsIn K mainGlobals "max" = some none)
    (z6 : PySem.W.nsIn K mainGlobals "range" = some none)
    (z7 : PySem.W.nsIn K mainGlobals "list" = some none)
    (z8 : PySem.W.nsIn K mainGlobals "reversed" = some none)
    (z9 : PySem.W.nsIn K mainGlobals "isinstance" = some none)
    (z10 : PySem.W.nsIn K mainGlobals "bool" = some none)
    (z11 : PySem.W.nsIn K mainGlobals "str" = some none)
    (z12 : PySem.W.nsIn K mainGlobals "tuple" = some none)
    : ∃ fd : FuncData, (∀ (s : Shared) (v : Value), BindsTo s fd ⟨[v], []⟩ [("_law_script", v)]) ∧ ∀ base : Heap, K.In base → base.Ns mainGlobals mg → FnOk l.prog w K mg base CX0 6 fa fd ["_law_script"] (spLaw K) := by
  have e := hfa.symm.trans (PySem.W.mg_of X G S26.a)
  cases e
  obtain ⟨d1, F1⟩ := S1.ex
  have b1 := F1.binds (ps := ["node"]) fun _ _ _ _ _ _ us hl => match us, hl with | [_], _ => rfl
  have m1 := PySem.W.mg_of X G S1.a
  obtain ⟨d2, F2⟩ := S2.ex
  have b2 := F2.binds (ps := ["rows", "places", "at"]) fun _ _ _ _ _ _ us hl => match us, hl with | [_, _, _], _ => rfl
  have m2 := PySem.W.mg_of X G S2.a
  obtain ⟨d3, F3⟩ := S3.ex
  have b3 := F3.binds (ps := ["rows", "places", "at"]) fun _ _ _ _ _ _ us hl => match us, hl with | [_, _, _], _ => rfl
  have m3 := PySem.W.mg_of X G S3.a
  obtain ⟨d4, F4⟩ := S4.ex
  have b4 := F4.binds (ps := ["raw", "start"]) fun _ _ _ _ _ _ us hl => match us, hl with | [_, _], _ => rfl
  have m4 := PySem.W.mg_of X G S4.a
  obtain ⟨d5, F5⟩ := S5.ex
  have b5 := F5.binds (ps := ["raw", "order"]) fun _ _ _ _ _ _ us hl => match us, hl with | [_, _], _ => rfl
  have m5 := PySem.W.mg_of X G S5.a
  obtain ⟨d6, F6⟩ := S6.ex
  have b6 := F6.binds (ps := ["node", "place"]) fun _ _ _ _ _ _ us hl => match us, hl with | [_, _], _ => rfl
  have m6 := PySem.W.mg_of X G S6.a
  obtain ⟨d7, F7⟩ := S7.ex
  have b7 := F7.binds (ps := ["rows"]) fun _ _ _ _ _ _ us hl => match us, hl with | [_], _ => rfl
  have m7 := PySem.W.mg_of X G S7.a
  obtain ⟨d8, F8⟩ := S8.ex
  have b8 := F8.binds (ps := ["node", "k"]) fun _ _ _ _ _ _ us hl => match us, hl with | [_, _], _ => rfl
  have m8 := PySem.W.mg_of X G S8.a
  obtain ⟨d9, F9⟩ := S9.ex
  have b9 := F9.binds (ps := ["node", "at", "firsts"]) fun _ _ _ _ _ _ us hl => match us, hl with | [_, _, _], _ => rfl
  have m9 := PySem.W.mg_of X G S9.a
  obtain ⟨d10, F10⟩ := S10.ex
  have b10 := F10.binds (ps := ["graph"]) fun _ _ _ _ _ _ us hl => match us, hl with | [_], _ => rfl
  have m10 := PySem.W.mg_of X G S10.a
  obtain ⟨d11, F11⟩ := S11.ex
  have b11 := F11.binds (ps := ["_law_script"]) fun _ _ _ _ _ _ us hl => match us, hl with | [_], _ => rfl
  have m11 := PySem.W.mg_of X G S11.a
  obtain ⟨d12, F12⟩ := S12.ex
  have b12 := F12.binds (ps := ["_law_drawn_here"]) fun _ _ _ _ _ _ us hl => match us, hl with | [_], _ => rfl
  have m12 := PySem.W.mg_of X G S12.a
  obtain ⟨d13, F13⟩ := S13.ex
  have b13 := F13.binds (ps := ["_law_number"]) fun _ _ _ _ _ _ us hl => match us, hl with | [_], _ => rfl
  have m13 := PySem.W.mg_of X G S13.a
  obtain ⟨d14, F14⟩ := S14.ex
  have b14 := F14.binds (ps := ["_law_drawn_here"]) fun _ _ _ _ _ _ us hl => match us, hl with | [_], _ => rfl
  have m14 := PySem.W.mg_of X G S14.a
  obtain ⟨d15, F15⟩ := S15.ex
  have b15 := F15.binds (ps := ["_law_drawn_here", "_law_names_here"]) fun _ _ _ _ _ _ us hl => match us, hl with | [_, _], _ => rfl
  have m15 := PySem.W.mg_of X G S15.a
  obtain ⟨d16, F16⟩ := S16.ex
  have b16 := F16.binds (ps := ["_law_drawn_here", "_law_k", "_law_numbers", "_law_names_here"]) fun _ _ _ _ _ _ us hl => match us, hl with | [_, _, _, _], _ => rfl
  have m16 := PySem.W.mg_of X G S16.a
  obtain ⟨d17, F17⟩ := S17.ex
  have b17 := F17.binds (ps := ["_law_drawn_here", "_law_names_here", "_law_most"]) fun _ _ _ _ _ _ us hl => match us, hl with | [_, _, _], _ => rfl
  have m17 := PySem.W.mg_of X G S17.a
  obtain ⟨d18, F18⟩ := S18.ex
  have b18 := F18.binds (ps := ["_law_drawn_here", "_law_k", "_law_many", "_law_mode"]) fun _ _ _ _ _ _ us hl => match us, hl with | [_, _, _, _], _ => rfl
  have m18 := PySem.W.mg_of X G S18.a
  obtain ⟨d19, F19⟩ := S19.ex
  have b19 := F19.binds (ps := ["_law_drawn_here", "_law_k", "_law_many", "_law_mode"]) fun _ _ _ _ _ _ us hl => match us, hl with | [_, _, _, _], _ => rfl
  have m19 := PySem.W.mg_of X G S19.a
  obtain ⟨d20, F20⟩ := S20.ex
  have b20 := F20.binds (ps := ["_law_drawn_here", "_law_k", "_law_many", "_law_mode"]) fun _ _ _ _ _ _ us hl => match us, hl with | [_, _, _, _], _ => rfl
  have m20 := PySem.W.mg_of X G S20.a
  obtain ⟨d21, F21⟩ := S21.ex
  have b21 := F21.binds (ps := ["_law_node_here"]) fun _ _ _ _ _ _ us hl => match us, hl with | [_], _ => rfl
  have m21 := PySem.W.mg_of X G S21.a
  obtain ⟨d22, F22⟩ := S22.ex
  have b22 := F22.binds (ps := ["_law_raw"]) fun _ _ _ _ _ _ us hl => match us, hl with | [_], _ => rfl
  have m22 := PySem.W.mg_of X G S22.a
  obtain ⟨d23, F23⟩ := S23.ex
  have b23 := F23.binds (ps := ["_law_raw"]) fun _ _ _ _ _ _ us hl => match us, hl with | [_], _ => rfl
  have m23 := PySem.W.mg_of X G S23.a
  obtain ⟨d24, F24⟩ := S24.ex
  have b24 := F24.binds (ps := ["_law_drawn_here", "_law_most"]) fun _ _ _ _ _ _ us hl => match us, hl with | [_, _], _ => rfl
  have m24 := PySem.W.mg_of X G S24.a
  obtain ⟨d25, F25⟩ := S25.ex
  have b25 := F25.binds (ps := ["_law_found", "_law_due"]) fun _ _ _ _ _ _ us hl => match us, hl with | [_, _], _ => rfl
  have m25 := PySem.W.mg_of X G S25.a
  obtain ⟨d26, F26⟩ := S26.ex
  have mMost := PySem.W.mg_of X G mM
  have n1 := PySem.W.mg_none_of X G z1
  have n2 := PySem.W.mg_none_of X G z2
  have n3 := PySem.W.mg_none_of X G z3
  have n4 := PySem.W.mg_none_of X G z4
  have n5 := PySem.W.mg_none_of X G z5
  have n6 := PySem.W.mg_none_of X G z6
  have n7 := PySem.W.mg_none_of X G z7
  have n8 := PySem.W.mg_none_of X G z8
  have n9 := PySem.W.mg_none_of X G z9
  have n10 := PySem.W.mg_none_of X G z10
  have n11 := PySem.W.mg_none_of X G z11
  have n12 := PySem.W.mg_none_of X G z12
  refine ⟨d26, ?_, fun base _ _ => ?_⟩
  · obtain ⟨oc, od, kV, doc, pm, an, cdv, ct, osl, rfl, _⟩ := F26.ex
    exact fun s v => .of_eq rfl
  have gX : FnOk l.prog w K mg base CX0 1 f12 d12 ["_law_drawn_here"] spNext := ok_next F12
  have gDs : FnOk l.prog w K mg base CX0 1 f11 d11 ["_law_script"] (spDraws K) := ok_draws F11 n1 n6 n7 n5 n4
  have gDn : FnOk l.prog w K mg base CX0 5 f24 d24 ["_law_drawn_here", "_law_most"] (spDrawn K) := ok_drawn F24 F12 b12 m12 F20 b20 m20 F18 b18 m18 F19 b19 m19 F14 b14 m14 F23 b23 m23 F22 b22 m22 F21 b21 m21 n1 n6 n4
  have gAl : FnOk l.prog w K mg base CX0 3 f25 d25 ["_law_found", "_law_due"] (spAlike K 3) := ok_alike F25 b25 m25 n1 n6 n9 n10 n2 n11 n12 n7 3
  have gGo : FnOk l.prog w K mg base CX0 3 f7 d7 ["rows"] (spGraphOf K) := ok_graphOf F7 F3 b3 m3 F2 b2 m2 F4 b4 m4 F5 b5 m5 F6 b6 m6 F1 b1 m1 mMost n1 n8 n7 n3 n4 n6
  have gLo : FnOk l.prog w K mg base CX0 3 f10 d10 ["graph"] (spLaid K) := ok_laid F10 F8 b8 m8 F9 b9 m9 F1 b1 m1 n1 n2 n3
  have gRs : FnOk l.prog w K mg base CX0 5 f17 d17 ["_law_drawn_here", "_law_names_here", "_law_most"] (spRows K) := ok_rows F17 F12 b12 m12 F14 b14 m14 F15 b15 m15 F16 b16 m16 n1 n6
  have gNs : FnOk l.prog w K mg base CX0 1 f13 d13 ["_law_number"] spNames := ok_names F13
  exact ok_law F26 F11 b11 m11 gDs F24 b24 m24 gDn F25 b25 m25 gAl F7 b7 m7 gGo F10 b10 m10 gLo F17 b17 m17 gRs F13 b13 m13 gNs F12 b12 m12 gX n7
theorem walk {l : PySem.W.OpenLaw} {q : Program} {loose : List Str} {XP : (Str → Option Value) → Heap → Prop} {YP : World → Heap → Prop} {d : DefRec} {K : Params → PySem.W.Frag} (hn : l.most = some 63) (hdf : d.params.defaults = [])
    (hY : ∀ (w : World) (h : Heap), YP w h → (K w.params).In h)
    (F : ∀ (w : World) (mg : Str → Option Value) (fa : Addr) (h : Heap), (K w.params).In h → h.Ns mainGlobals mg → mg d.name = some (.ref fa) →
      ∃ fd : FuncData, (∀ (s : Shared) (u : Value), BindsTo s fd ⟨[u], []⟩ [("_law_script", u)]) ∧ ∀ base : Heap, (K w.params).In base → base.Ns mainGlobals mg → FnOk l.prog w (K w.params) mg base CX0 6 fa fd ["_law_script"] (spLaw (K w.params))) :
    PySem.W.WalkO q loose XP YP l.row.toRowW d [] (fun f vs => PySem.call f vs) :=
  L2.walk_of (n := 63) (k := 6) (x := "_law_script") (CX := fun _ => CX0) (sp := fun w => spLaw (K w.params)) hn (by decide) hdf ⟨rfl, by decide, by decide⟩ hY F (fun _ _ a ns hl _ hS => ⟨a, ns, rfl, hS, hl, fun _ => rfl⟩) fun _ _ _ _ _ z => z
end K15

open PySem PySem.W PyProof.Rows in
set_option maxRecDepth 100000 in
set_option maxHeartbeats 0 in
theorem PySem.Challenge.cw_unjump_k15_whole_laid_out_again_holds : PySem.Challenge.rw_unjump_k15_whole_laid_out_again.Holds := by
  w_on; o_law; k_head; (case hw => w_witness2)
  k_fill
  refine K15.walk (l := PySem.Challenge.rw_unjump_k15_whole_laid_out_again) rfl rfl (fun w h Y => PySem.W.kIn_of Y) ?F
  case F =>
    intro w mg fa h KX G hmg
    refine' K15.all_mk KX G hmg (K15.stands_mk ?a1 ?l1 ?c1 ?k1) (K15.stands_mk ?a2 ?l2 ?c2 ?k2) (K15.stands_mk ?a3 ?l3 ?c3 ?k3) (K15.stands_mk ?a4 ?l4 ?c4 ?k4) (K15.stands_mk ?a5 ?l5 ?c5 ?k5) (K15.stands_mk ?a6 ?l6 ?c6 ?k6) (K15.stands_mk ?a7 ?l7 ?c7 ?k7) (K15.stands_mk ?a8 ?l8 ?c8 ?k8) (K15.stands_mk ?a9 ?l9 ?c9 ?k9) (K15.stands_mk ?a10 ?l10 ?c10 ?k10) (K15.stands_mk ?a11 ?l11 ?c11 ?k11) (K15.stands_mk ?a12 ?l12 ?c12 ?k12) (K15.stands_mk ?a13 ?l13 ?c13 ?k13) (K15.stands_mk ?a14 ?l14 ?c14 ?k14) (K15.stands_mk ?a15 ?l15 ?c15 ?k15) (K15.stands_mk ?a16 ?l16 ?c16 ?k16) (K15.stands_mk ?a17 ?l17 ?c17 ?k17) (K15.stands_mk ?a18 ?l18 ?c18 ?k18) (K15.stands_mk ?a19 ?l19 ?c19 ?k19) (K15.stands_mk ?a20 ?l20 ?c20 ?k20) (K15.stands_mk ?a21 ?l21 ?c21 ?k21) (K15.stands_mk ?a22 ?l22 ?c22 ?k22) (K15.stands_mk ?a23 ?l23 ?c23 ?k23) (K15.stands_mk ?a24 ?l24 ?c24 ?k24) (K15.stands_mk ?a25 ?l25 ?c25 ?k25) (K15.stands_mk ?a26 ?l26 ?c26 ?k26) ?mM ?z1 ?z2 ?z3 ?z4 ?z5 ?z6 ?z7 ?z8 ?z9 ?z10 ?z11 ?z12
    (case a1 => k_is); (case l1 => k_is); (case c1 => k_is); (case k1 => k_is)
    (case a2 => k_is); (case l2 => k_is); (case c2 => k_is); (case k2 => k_is)
    (case a3 => k_is); (case l3 => k_is); (case c3 => k_is); (case k3 => k_is)
    (case a4 => k_is); (case l4 => k_is); (case c4 => k_is); (case k4 => k_is)
    (case a5 => k_is); (case l5 => k_is); (case c5 => k_is); (case k5 => k_is)
    (case a6 => k_is); (case l6 => k_is); (case c6 => k_is); (case k6 => k_is)
    (case a7 => k_is); (case l7 => k_is); (case c7 => k_is); (case k7 => k_is)
    (case a8 => k_is); (case l8 => k_is); (case c8 => k_is); (case k8 => k_is)
    (case a9 => k_is); (case l9 => k_is); (case c9 => k_is); (case k9 => k_is)
    (case a10 => k_is); (case l10 => k_is); (case c10 => k_is); (case k10 => k_is)
    (case a11 => k_is); (case l11 => k_is); (case c11 => k_is); (case k11 => k_is)
    (case a12 => k_is); (case l12 => k_is); (case c12 => k_is); (case k12 => k_is)
    (case a13 => k_is); (case l13 => k_is); (case c13 => k_is); (case k13 => k_is)
    (case a14 => k_is); (case l14 => k_is); (case c14 => k_is); (case k14 => k_is)
    (case a15 => k_is); (case l15 => k_is); (case c15 => k_is); (case k15 => k_is)
    (case a16 => k_is); (case l16 => k_is); (case c16 => k_is); (case k16 => k_is)
    (case a17 => k_is); (case l17 => k_is); (case c17 => k_is); (case k17 => k_is)
    (case a18 => k_is); (case l18 => k_is); (case c18 => k_is); (case k18 => k_is)
    (case a19 => k_is); (case l19 => k_is); (case c19 => k_is); (case k19 => k_is)
    (case a20 => k_is); (case l20 => k_is); (case c20 => k_is); (case k20 => k_is)
    (case a21 => k_is); (case l21 => k_is); (case c21 => k_is); (case k21 => k_is)
    (case a22 => k_is); (case l22 => k_is); (case c22 => k_is); (case k22 => k_is)
    (case a23 => k_is); (case l23 => k_is); (case c23 => k_is); (case k23 => k_is)
    (case a24 => k_is); (case l24 => k_is); (case c24 => k_is); (case k24 => k_is)
    (case a25 => k_is); (case l25 => k_is); (case c25 => k_is); (case k25 => k_is)
    (case a26 => k_is); (case l26 => k_is); (case c26 => k_is); (case k26 => k_is)
    (case mM => k_is)
    (case z1 => k_is)
    (case z2 => k_is)
    (case z3 => k_is)
    (case z4 => k_is)
    (case z5 => k_is)
    (case z6 => k_is)
    (case z7 => k_is)
    (case z8 => k_is)
    (case z9 => k_is)
    (case z10 => k_is)
    (case z11 => k_is)
    (case z12 => k_is)
