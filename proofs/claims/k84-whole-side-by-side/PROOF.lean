import PyProof.Rows.All
import Wide.All
import OpenK.AllK
import Wide.FinOn
import HandS.ForMost
import HandS.ForExc
import HandS.Deep
import HandS.Flow
import HandS.IsInst
import HandS.Defaults
import HandS.More
import HandS.Nested
import HandS.EndTab
import HandS.Zip
import PySem.Challenge.RW_triesgrow_k84_whole_side_by_side
import HandS.Walk
import HandS.SortKw
import KE.GoesMore
import HandS.Iter
import KE.GoesCell
import KE.KDictKeyed
import HandS.Set
import PyProof.Rows.SetFrom
import PyProof.Rows.SortStr
import PyProof.Rows.SortShellK
import HandS.SetKeys
import HandS.TupLen
import KE.KDictDisplayH
import KE.KExcInit
import HandS.ExcInit
import HandS.ExcOwn
import HandS.HeadHook4
import HandS.HeadNt
import HandS.HeadWalk
import HandS.Head0
import HandS.Head1
import HandS.Head2
import HandS.HeadEnd
set_option Elab.async false
set_option linter.all false
set_option maxRecDepth 100000
set_option maxHeartbeats 0
/-! Triesgrow, plain mathematics A: words in shortlex order, the walk in breadth. -/
namespace Tg

/-! ### words, the last sign ahead; shorter ones ahead, then as letters go -/
def Sl : List Nat → List Nat → Prop
  | _, [] => False
  | [], _ :: _ => True
  | b :: u, a :: w => Sl u w ∨ (u = w ∧ b < a)
theorem sl_irr : ∀ w : List Nat, ¬ Sl w w
  | [], h => h
  | a :: w, h => by
    rcases h with h | ⟨_, h⟩
    · exact sl_irr w h
    · exact Nat.lt_irrefl _ h
theorem sl_tr : ∀ {u v w : List Nat}, Sl u v → Sl v w → Sl u w
  | u, [], _, h, _ => by cases u <;> exact False.elim h
  | _, b :: v, [], _, h => False.elim h
  | [], _ :: _, _ :: _, _, _ => trivial
  | a :: u, b :: v, c :: w, h1, h2 => by
    rcases h1 with h1 | ⟨e1, h1⟩
    · rcases h2 with h2 | ⟨e2, h2⟩
      · exact .inl (sl_tr h1 h2)
      · exact .inl (e2 ▸ h1)
    · rcases h2 with h2 | ⟨e2, h2⟩
      · exact .inl (e1 ▸ h2)
      · exact .inr ⟨e1.trans e2, Nat.lt_trans h1 h2⟩
theorem sl_tri : ∀ u v : List Nat, Sl u v ∨ u = v ∨ Sl v u
  | [], [] => .inr (.inl rfl)
  | [], _ :: _ => .inl trivial
  | _ :: _, [] => .inr (.inr trivial)
  | a :: u, b :: v => by
    rcases sl_tri u v with h | h | h
    · exact .inl (.inl h)
    · subst h
      rcases Nat.lt_trichotomy a b with h | h | h
      · exact .inl (.inr ⟨rfl, h⟩)
      · exact .inr (.inl (by rw [h]))
      · exact .inr (.inr (.inr ⟨rfl, h⟩))
    · exact .inr (.inr (.inl h))
theorem sl_cons (a : Nat) : ∀ w : List Nat, Sl w (a :: w)
  | [] => trivial
  | b :: w => .inl (sl_cons b w)
theorem sl_as {u v : List Nat} (h : Sl u v) (g : Sl v u) : False := sl_irr u (sl_tr h g)

/-! ### what leads -/
section
variable {S : Type} (succ : S → Nat → List S)
inductive Leads (s : S) : List Nat → S → Prop
  | nil : Leads s [] s
  | cons {w : List Nat} {t u : S} {a : Nat} (h : Leads s w t) (e : u ∈ succ t a) : Leads s (a :: w) u
variable {succ}
theorem Leads.split {s u : S} {a : Nat} {w : List Nat} (h : Leads succ s (a :: w) u) : ∃ t, Leads succ s w t ∧ u ∈ succ t a := by
  cases h with
  | cons h e => exact ⟨_, h, e⟩
theorem Leads.nil_eq {s u : S} (h : Leads succ s [] u) : u = s := by
  cases h; rfl
theorem Leads.app {s t u : S} {v : List Nat} (h : Leads succ s v t) : ∀ {w : List Nat}, Leads succ t w u → Leads succ s (w ++ v) u := by
  intro w g
  induction g with
  | nil => exact h
  | cons _ e ih => exact .cons ih e
/-- the first word, not without signs, of a kind -/
def First (P : List Nat → Prop) (w : List Nat) : Prop := w ≠ [] ∧ P w ∧ ∀ v, v ≠ [] → P v → v = w ∨ Sl w v
theorem First.eq {P Q : List Nat → Prop} {v w : List Nat} (hv : First P v) (hw : First Q w) (e : ∀ u, P u ↔ Q u) : v = w := by
  rcases hv.2.2 w hw.1 ((e w).mpr hw.2.1) with h | h
  · exact h.symm
  · rcases hw.2.2 v hv.1 ((e v).mp hv.2.1) with g | g
    · exact g
    · exact (sl_as h g).elim
/-- the told answer -/
def FirstO (P : List Nat → Prop) : Option (List Nat) → Prop
  | none => ∀ v, v ≠ [] → ¬ P v
  | some w => First P w
theorem FirstO.eq {P Q : List Nat → Prop} {r q : Option (List Nat)} (hr : FirstO P r) (hq : FirstO Q q) (e : ∀ u, P u ↔ Q u) : r = q := by
  cases r with
  | none =>
    cases q with
    | none => rfl
    | some w => exact (hr w hq.1 ((e w).mpr hq.2.1)).elim
  | some v =>
    cases q with
    | none => exact (hq v hr.1 ((e v).mp hr.2.1)).elim
    | some w => rw [First.eq hr hq e]

/-! ### one sign: what is new -/
variable [DecidableEq S]
def absorb (p : List S × List S) (t : S) : List S × List S := if t ∈ p.1 then p else (p.1 ++ [t], p.2 ++ [t])
/-- ks known, ns new among them: what stands behind ts were gone through -/
structure Abs (K : List S) (ts : List S) (p : List S × List S) : Prop where
  app : p.1 = K ++ p.2
  nd : p.2.Nodup
  mem : ∀ t, t ∈ p.2 ↔ t ∈ ts ∧ t ∉ K
theorem Abs.nil (K : List S) : Abs K [] (K, []) := ⟨by simp, List.nodup_nil, by simp⟩
theorem Abs.snoc {K ts : List S} {p : List S × List S} (h : Abs K ts p) (t : S) : Abs K (ts ++ [t]) (absorb p t) := by
  obtain ⟨h1, h2, h3⟩ := h
  unfold absorb
  by_cases c : t ∈ p.1
  · rw [if_pos c]
    refine ⟨h1, h2, fun u => ?_⟩
    rw [h3 u, List.mem_append, List.mem_singleton]
    constructor
    · rintro ⟨a, b⟩; exact ⟨.inl a, b⟩
    · rintro ⟨a | rfl, b⟩
      · exact ⟨a, b⟩
      · rw [h1, List.mem_append] at c
        rcases c with c | c
        · exact (b c).elim
        · exact (h3 u).mp c
  · rw [if_neg c]
    have c1 : t ∉ K := fun z => c (by rw [h1]; exact List.mem_append_left _ z)
    have c2 : t ∉ p.2 := fun z => c (by rw [h1]; exact List.mem_append_right _ z)
    refine ⟨by show p.1 ++ [t] = K ++ (p.2 ++ [t]); rw [h1, List.append_assoc], ?_, fun u => ?_⟩
    · show (p.2 ++ [t]).Nodup
      rw [List.nodup_append]
      exact ⟨h2, by simp, fun a ha b hb => by rw [List.mem_singleton] at hb; subst hb; exact fun z => c2 (z ▸ ha)⟩
    · show u ∈ p.2 ++ [t] ↔ _
      rw [List.mem_append, List.mem_singleton, h3 u, List.mem_append, List.mem_singleton]
      constructor
      · rintro (⟨a, b⟩ | rfl)
        · exact ⟨.inl a, b⟩
        · exact ⟨.inr rfl, c1⟩
      · rintro ⟨a | rfl, b⟩
        · exact .inl ⟨a, b⟩
        · exact .inr rfl

/-! ### the walk in breadth -/
abbrev Ent (S : Type) := List S × List Nat
/-- done: entries gone through; cur: the one in hand, of which the signs pre are gone through; queue: those that wait -/
structure Mid (succ : S → Nat → List S) (start goal : S) (done : List (Ent S)) (X : List S) (w : List Nat) (pre : List Nat) (queue : List (Ent S)) (K : List S) : Prop where
  sorted : (((done ++ (X, w) :: queue)).map (·.2)).Pairwise Sl
  first : ∃ r, done ++ [(X, w)] = ([start], []) :: r
  sound : ∀ Y v, (Y, v) ∈ done ++ (X, w) :: queue → ∀ s ∈ Y, Leads succ start v s
  least : ∀ Y v, (Y, v) ∈ done ++ (X, w) :: queue → v ≠ [] → ∀ s ∈ Y, First (fun u => Leads succ start u s) v
  known : ∀ t, t ∈ K ↔ ∃ Y v, (Y, v) ∈ done ++ (X, w) :: queue ∧ v ≠ [] ∧ t ∈ Y
  closed : ∀ Y v, (Y, v) ∈ done → ∀ s ∈ Y, ∀ a, ∀ t ∈ succ s a, t ∈ K
  closedX : ∀ s ∈ X, ∀ a ∈ pre, ∀ t ∈ succ s a, t ∈ K
  goal : goal ∉ K
  form : ∀ Y v, (Y, v) ∈ done ++ (X, w) :: queue → v = [] ∨ ∃ b u, v = b :: u ∧ ((∃ Z, (Z, u) ∈ done) ∨ (u = w ∧ b ∈ pre))
structure Out (succ : S → Nat → List S) (start goal : S) (done queue : List (Ent S)) (K : List S) : Prop where
  sorted : ((done ++ queue).map (·.2)).Pairwise Sl
  first : ∃ r, done ++ queue = ([start], []) :: r
  sound : ∀ Y v, (Y, v) ∈ done ++ queue → ∀ s ∈ Y, Leads succ start v s
  least : ∀ Y v, (Y, v) ∈ done ++ queue → v ≠ [] → ∀ s ∈ Y, First (fun u => Leads succ start u s) v
  known : ∀ t, t ∈ K ↔ ∃ Y v, (Y, v) ∈ done ++ queue ∧ v ≠ [] ∧ t ∈ Y
  closed : ∀ Y v, (Y, v) ∈ done → ∀ s ∈ Y, ∀ a, ∀ t ∈ succ s a, t ∈ K
  goal : goal ∉ K
  form : ∀ Y v, (Y, v) ∈ done ++ queue → v = [] ∨ ∃ b u, v = b :: u ∧ ∃ Z, (Z, u) ∈ done
variable {start goal : S} {done queue : List (Ent S)} {X K : List S} {w pre : List Nat}
theorem Out.init : Out succ start goal [] [([start], [])] [] where
  sorted := by simp
  first := ⟨[], rfl⟩
  sound := fun Y v h s hs => by
    obtain ⟨rfl, rfl⟩ : Y = [start] ∧ v = [] := by simpa using h
    rw [List.mem_singleton] at hs
    subst hs
    exact .nil
  least := fun Y v h hv => by
    obtain ⟨rfl, rfl⟩ : Y = [start] ∧ v = [] := by simpa using h
    exact (hv rfl).elim
  known := fun t => by
    constructor
    · intro h; cases h
    · rintro ⟨Y, v, h, hv, _⟩
      obtain ⟨rfl, rfl⟩ : Y = [start] ∧ v = [] := by simpa using h
      exact (hv rfl).elim
  closed := fun _ _ h => by cases h
  goal := by simp
  form := fun Y v h => by
    obtain ⟨rfl, rfl⟩ : Y = [start] ∧ v = [] := by simpa using h
    exact .inl rfl
/-- an entry is taken in hand -/
theorem Out.take (h : Out succ start goal done ((X, w) :: queue) K) : Mid succ start goal done X w [] queue K where
  sorted := h.sorted
  first := by
    obtain ⟨r, e⟩ := h.first
    cases done with
    | nil =>
      simp at e
      exact ⟨[], by simp [e.1]⟩
    | cons d ds =>
      simp at e
      exact ⟨ds ++ [(X, w)], by simp [e.1]⟩
  sound := h.sound
  least := h.least
  known := h.known
  closed := h.closed
  closedX := fun _ _ _ ha => by cases ha
  goal := h.goal
  form := fun Y v hm => (h.form Y v hm).imp id fun ⟨b, u, e, z⟩ => ⟨b, u, e, .inl z⟩
/-- all signs of it are gone through -/
theorem Mid.over {signs : List Nat} (h : Mid succ start goal done X w signs queue K) (hs : ∀ s a t, t ∈ succ s a → a ∈ signs) : Out succ start goal (done ++ [(X, w)]) queue K := by
  have e : (done ++ [(X, w)]) ++ queue = done ++ (X, w) :: queue := by simp
  refine ⟨by rw [e]; exact h.sorted, ?_, by rw [e]; exact h.sound, by rw [e]; exact h.least, by rw [e]; exact h.known, fun Y v hm s hy a t ht => ?_, h.goal, fun Y v hm => ?_⟩
  · obtain ⟨r, z⟩ := h.first
    exact ⟨r ++ queue, by rw [z]; rfl⟩
  · rcases List.mem_append.mp hm with hm | hm
    · exact h.closed Y v hm s hy a t ht
    · obtain ⟨rfl, rfl⟩ : Y = X ∧ v = w := by simpa using hm
      exact h.closedX s hy a (hs s a t ht) t ht
  · rw [e] at hm
    rcases h.form Y v hm with z | ⟨b, u, z, ⟨Z, g⟩ | ⟨g, _⟩⟩
    · exact .inl z
    · exact .inr ⟨b, u, z, Z, List.mem_append_left _ g⟩
    · exact .inr ⟨b, u, z, X, by rw [g]; simp⟩
theorem mem_split {α : Type} {l : List α} {x : α} (h : x ∈ l) : ∃ a b, l = a ++ x :: b := List.append_of_mem h
theorem pw_app {l r : List (Ent S)} {d e : Ent S} (h : ((l ++ r).map (·.2)).Pairwise Sl) (hd : d ∈ l) (he : e ∈ r) : Sl d.2 e.2 := by
  rw [List.map_append, List.pairwise_append] at h
  exact h.2.2 _ (List.mem_map_of_mem hd) _ (List.mem_map_of_mem he)
theorem Mid.lt_cur (h : Mid succ start goal done X w pre queue K) {Y : List S} {v : List Nat} (hm : (Y, v) ∈ done) : Sl v w :=
  pw_app (l := done) (r := (X, w) :: queue) (d := (Y, v)) (e := (X, w)) h.sorted hm (List.mem_cons_self ..)
theorem Mid.gt_cur (h : Mid succ start goal done X w pre queue K) {Y : List S} {v : List Nat} (hm : (Y, v) ∈ queue) : Sl w v := by
  have e : done ++ (X, w) :: queue = (done ++ [(X, w)]) ++ queue := by simp
  have q := h.sorted
  rw [e] at q
  exact pw_app (d := (X, w)) (e := (Y, v)) q (by simp) hm
/-- what words up to the one in hand lead to stands in an entry that is done, or in hand -/
theorem Mid.cover (h : Mid succ start goal done X w pre queue K) {u : List Nat} {s : S} (l : Leads succ start u s) : (Sl u w ∨ u = w) → ∃ Y v, ((Y, v) ∈ done ∨ (Y = X ∧ v = w)) ∧ s ∈ Y ∧ (v = u ∨ Sl v u) := by
  induction l with
  | nil =>
    intro _
    obtain ⟨r, e⟩ := h.first
    have m : ([start], ([] : List Nat)) ∈ done ++ [(X, w)] := by rw [e]; exact List.mem_cons_self ..
    refine ⟨[start], [], ?_, by simp, .inl rfl⟩
    rcases List.mem_append.mp m with m | m
    · exact .inl m
    · rw [List.mem_singleton] at m
      exact .inr ⟨(Prod.mk.inj m).1, (Prod.mk.inj m).2⟩
  | @cons u' s' t c l' e ih =>
    intro hu
    have hu' : Sl u' w := by
      rcases hu with hu | hu
      · exact sl_tr (sl_cons c u') hu
      · rw [← hu]; exact sl_cons c u'
    obtain ⟨Y, v, hy, hs, hv⟩ := ih (.inl hu')
    have hvw : Sl v w := by
      rcases hv with hv | hv
      · rw [hv]; exact hu'
      · exact sl_tr hv hu'
    have hd : (Y, v) ∈ done := by
      rcases hy with hy | ⟨_, hy⟩
      · exact hy
      · rw [hy] at hvw; exact (sl_irr _ hvw).elim
    have hk := h.closed Y v hd s' hs c t e
    obtain ⟨Z, z, hz, z0, ht⟩ := (h.known t).mp hk
    have hl := (h.least Z z hz z0 t ht).2.2 (c :: u') (by simp) (.cons l' e)
    refine ⟨Z, z, ?_, ht, hl.imp Eq.symm id⟩
    rcases List.mem_append.mp hz with hz | hz
    · exact .inl hz
    · rcases List.mem_cons.mp hz with hz | hz
      · exact .inr ⟨(Prod.mk.inj hz).1, (Prod.mk.inj hz).2⟩
      · exfalso
        have g := h.gt_cur hz
        have zw : z = w ∨ Sl z w := by
          rcases hl with hl | hl <;> rcases hu with hu | hu
          · exact .inr (hl ▸ hu)
          · exact .inl (hl.symm.trans hu)
          · exact .inr (sl_tr hl hu)
          · exact .inr (hu ▸ hl)
        rcases zw with zw | zw
        · rw [zw] at g; exact sl_irr _ g
        · exact sl_as g zw
/-- one sign more: what is new has this word as its first -/
theorem Mid.new {post : List Nat} {a : Nat} (h : Mid succ start goal done X w pre queue K) (hp : (pre ++ a :: post).Pairwise (· < ·)) (hs : ∀ s b t, t ∈ succ s b → b ∈ pre ++ a :: post) {t : S} (ht : ∃ s ∈ X, t ∈ succ s a) (hk : t ∉ K) :
    First (fun u => Leads succ start u t) (a :: w) := by
  obtain ⟨s, hx, e⟩ := ht
  refine ⟨by simp, .cons (h.sound X w (by simp) s hx) e, fun v hv lv => ?_⟩
  cases v with
  | nil => exact (hv rfl).elim
  | cons b u =>
    obtain ⟨s', l', e'⟩ := lv.split
    rcases sl_tri (a :: w) (b :: u) with z | z | z
    · exact .inr z
    · exact .inl z.symm
    · exfalso
      have key : ∀ {Y : List S} {v : List Nat}, (Y, v) ∈ done → s' ∈ Y → False := fun hd hy => hk (h.closed _ _ hd s' hy b t e')
      have z' : Sl u w ∨ (u = w ∧ b < a) := z
      rcases z' with z | ⟨z, hb⟩
      · obtain ⟨Y, v, hy, hs', hv'⟩ := h.cover l' (.inl z)
        rcases hy with hy | ⟨_, hy⟩
        · exact key hy hs'
        · rw [hy] at hv'
          rcases hv' with q | q
          · rw [q] at z; exact sl_irr _ z
          · exact sl_as q z
      · obtain ⟨Y, v, hy, hs', hv'⟩ := h.cover l' (.inr z)
        rcases hy with hy | ⟨hy, _⟩
        · exact key hy hs'
        · rw [hy] at hs'
          have hb2 := hs s' b t e'
          rw [List.pairwise_append] at hp
          have hbp : b ∈ pre := by
            rcases List.mem_append.mp hb2 with q | q
            · exact q
            · rcases List.mem_cons.mp q with q | q
              · rw [q] at hb; exact (Nat.lt_irrefl _ hb).elim
              · have := (List.pairwise_cons.mp hp.2.1).1 b q
                exact (Nat.lt_asymm hb this).elim
          exact hk (h.closedX s' hs' b hbp t e')
/-- the goal is new: this is its first word -/
theorem Mid.found {post : List Nat} {a : Nat} {p : List S × List S} (h : Mid succ start goal done X w pre queue K) (hp : (pre ++ a :: post).Pairwise (· < ·)) (hs : ∀ s b t, t ∈ succ s b → b ∈ pre ++ a :: post) (ab : Abs K (X.flatMap fun s => succ s a) p)
    (hg : goal ∈ p.2) : First (fun u => Leads succ start u goal) (a :: w) := by
  have q := (ab.mem goal).mp hg
  exact h.new hp hs (List.mem_flatMap.mp q.1) q.2
/-- .. it is not: one sign more is gone through -/
theorem Mid.step {post : List Nat} {a : Nat} {p : List S × List S} (h : Mid succ start goal done X w pre queue K) (hp : (pre ++ a :: post).Pairwise (· < ·)) (hs : ∀ s b t, t ∈ succ s b → b ∈ pre ++ a :: post) (ab : Abs K (X.flatMap fun s => succ s a) p)
    (hg : goal ∉ p.2) : Mid succ start goal done X w (pre ++ [a]) (if p.2 = [] then queue else queue ++ [(p.2, a :: w)]) p.1 := by
  have fw : ∀ t ∈ p.2, First (fun u => Leads succ start u t) (a :: w) := fun t ht => by
    have q := (ab.mem t).mp ht
    exact h.new hp hs (List.mem_flatMap.mp q.1) q.2
  have clX : ∀ s ∈ X, ∀ t ∈ succ s a, t ∈ p.1 := fun s hx t ht => by
    rw [ab.app, List.mem_append]
    by_cases c : t ∈ K
    · exact .inl c
    · exact .inr ((ab.mem t).mpr ⟨List.mem_flatMap.mpr ⟨s, hx, ht⟩, c⟩)
  have grow : ∀ t, t ∈ K → t ∈ p.1 := fun t ht => by rw [ab.app]; exact List.mem_append_left _ ht
  have gK : goal ∉ p.1 := by
    rw [ab.app, List.mem_append]
    rintro (z | z)
    · exact h.goal z
    · exact hg z
  by_cases c : p.2 = []
  · rw [if_pos c]
    have e : p.1 = K := by rw [ab.app, c, List.append_nil]
    refine ⟨h.sorted, h.first, h.sound, h.least, by rw [e]; exact h.known, fun Y v hm s hy b t ht => grow t (h.closed Y v hm s hy b t ht), fun s hx b hb t ht => ?_, gK, fun Y v hm => ?_⟩
    · rcases List.mem_append.mp hb with hb | hb
      · exact grow t (h.closedX s hx b hb t ht)
      · rw [List.mem_singleton] at hb
        subst hb
        exact clX s hx t ht
    · exact (h.form Y v hm).imp id fun ⟨b, u, e, z⟩ => ⟨b, u, e, z.imp id fun ⟨z1, z2⟩ => ⟨z1, List.mem_append_left _ z2⟩⟩
  · rw [if_neg c]
    have eq : done ++ (X, w) :: (queue ++ [(p.2, a :: w)]) = (done ++ (X, w) :: queue) ++ [(p.2, a :: w)] := by simp
    have memE : ∀ {Y : List S} {v : List Nat}, (Y, v) ∈ done ++ (X, w) :: (queue ++ [(p.2, a :: w)]) → (Y, v) ∈ done ++ (X, w) :: queue ∨ (Y = p.2 ∧ v = a :: w) := fun {Y v} hm => by
      rw [eq, List.mem_append, List.mem_singleton] at hm
      exact hm.imp id fun z => ⟨(Prod.mk.inj z).1, (Prod.mk.inj z).2⟩
    have all_lt : ∀ Y v, (Y, v) ∈ done ++ (X, w) :: queue → Sl v (a :: w) := fun Y v hm => by
      rcases h.form Y v hm with z | ⟨b, u, z, ⟨Z, g⟩ | ⟨g, hb⟩⟩
      · rw [z]; trivial
      · rw [z]
        exact .inl (h.lt_cur g)
      · rw [z]
        refine .inr ⟨g, ?_⟩
        rw [List.pairwise_append] at hp
        exact hp.2.2 b hb a (List.mem_cons_self ..)
    refine ⟨?_, h.first, fun Y v hm s hy => ?_, fun Y v hm v0 s hy => ?_, fun t => ?_, fun Y v hm s hy b t ht => grow t (h.closed Y v hm s hy b t ht), fun s hx b hb t ht => ?_, gK, fun Y v hm => ?_⟩
    · rw [eq, List.map_append, List.pairwise_append]
      refine ⟨h.sorted, by simp, fun x hx y hy => ?_⟩
      obtain ⟨⟨Y, v⟩, hm, rfl⟩ := List.mem_map.mp hx
      have ey : y = a :: w := by simpa using hy
      subst ey
      exact all_lt Y v hm
    · rcases memE hm with hm | ⟨rfl, rfl⟩
      · exact h.sound Y v hm s hy
      · exact (fw s hy).2.1
    · rcases memE hm with hm | ⟨rfl, rfl⟩
      · exact h.least Y v hm v0 s hy
      · exact fw s hy
    · rw [ab.app, List.mem_append, h.known t]
      constructor
      · rintro (⟨Y, v, hm, v0, ht⟩ | ht)
        · exact ⟨Y, v, by rw [eq]; exact List.mem_append_left _ hm, v0, ht⟩
        · exact ⟨p.2, a :: w, by rw [eq]; simp, by simp, ht⟩
      · rintro ⟨Y, v, hm, v0, ht⟩
        rcases memE hm with hm | ⟨rfl, rfl⟩
        · exact .inl ⟨Y, v, hm, v0, ht⟩
        · exact .inr ht
    · rcases List.mem_append.mp hb with hb | hb
      · exact grow t (h.closedX s hx b hb t ht)
      · rw [List.mem_singleton] at hb
        subst hb
        exact clX s hx t ht
    · rcases memE hm with hm | ⟨rfl, rfl⟩
      · exact (h.form Y v hm).imp id fun ⟨b, u, e, z⟩ => ⟨b, u, e, z.imp id fun ⟨z1, z2⟩ => ⟨z1, List.mem_append_left _ z2⟩⟩
      · exact .inr ⟨a, w, rfl, .inr ⟨rfl, by simp⟩⟩
/-- nothing waits: no word leads to the goal -/
theorem Out.none (h : Out succ start goal done [] K) : ∀ v, v ≠ [] → ¬ Leads succ start v goal := by
  have all : ∀ {v : List Nat} {s : S}, Leads succ start v s → ∃ Y u, (Y, u) ∈ done ∧ s ∈ Y := by
    intro v s l
    induction l with
    | nil =>
      obtain ⟨r, e⟩ := h.first
      rw [List.append_nil] at e
      exact ⟨[start], [], by rw [e]; exact List.mem_cons_self .., by simp⟩
    | cons _ e ih =>
      obtain ⟨Y, u, hm, hs⟩ := ih
      obtain ⟨Z, z, hz, _, ht⟩ := (h.known _).mp (h.closed Y u hm _ hs _ _ e)
      rw [List.append_nil] at hz
      exact ⟨Z, z, hz, ht⟩
  intro v hv l
  cases v with
  | nil => exact hv rfl
  | cons a u =>
    obtain ⟨s, l', e⟩ := l.split
    obtain ⟨Y, y, hm, hs⟩ := all l'
    exact h.goal (h.closed Y y hm s hs a goal e)
end
end Tg
/-! Triesgrow, plain mathematics B: machines, what is useful, rounds, ranks. -/
namespace Tg
open Classical

structure Mac where
  n : Int
  F : List Int
  L : List Int
  S : List (Int × Nat × Int)

structure Good (M : Mac) : Prop where
  n1 : 1 ≤ M.n
  n2 : M.n ≤ 12
  F : M.F.Pairwise (· < ·)
  Fr : ∀ r ∈ M.F, 0 ≤ r ∧ r < M.n
  L : M.L.Pairwise (· < ·)
  Lr : ∀ r ∈ M.L, 0 ≤ r ∧ r < M.n
  S : M.S.Nodup
  Sn : M.S.length ≤ 200
  Sr : ∀ s ∈ M.S, (0 ≤ s.1 ∧ s.1 < M.n) ∧ (97 ≤ s.2.1 ∧ s.2.1 ≤ 122) ∧ (0 ≤ s.2.2 ∧ s.2.2 < M.n)

def rangeI (n : Int) : List Int := (List.range n.toNat).map Int.ofNat
theorem mem_rangeI {n r : Int} : r ∈ rangeI n ↔ 0 ≤ r ∧ r < n := by
  unfold rangeI
  rw [List.mem_map]
  constructor
  · rintro ⟨i, hi, rfl⟩
    rw [List.mem_range] at hi
    exact ⟨Int.natCast_nonneg i, by show ((i : Nat) : Int) < n; omega⟩
  · rintro ⟨h1, h2⟩
    exact ⟨r.toNat, List.mem_range.mpr (by omega), Int.toNat_of_nonneg h1⟩
theorem rangeI_add {n m : Int} (hn : 0 ≤ n) (hm : 0 ≤ m) : rangeI (n + m) = rangeI n ++ (rangeI m).map (· + n) := by
  unfold rangeI
  rw [show (n + m).toNat = n.toNat + m.toNat by omega, List.range_add, List.map_append, List.map_map, List.map_map]
  congr 1
  refine List.map_congr_left fun i _ => ?_
  show Int.ofNat (n.toNat + i) = Int.ofNat i + n
  simp only [Int.ofNat_eq_natCast]
  omega
theorem rangeI_len {n : Int} : (rangeI n).length = n.toNat := by unfold rangeI; rw [List.length_map, List.length_range]
theorem rangeI_nodup {n : Int} : (rangeI n).Nodup := by
  unfold rangeI
  exact List.Pairwise.map _ (fun a b (h : a ≠ b) => by intro z; exact h (Int.ofNat.inj z)) List.nodup_range
/-- as many unlike things as there are at most -/
theorem nodup_len {α : Type} : ∀ {l u : List α}, l.Nodup → (∀ x ∈ l, x ∈ u) → l.length ≤ u.length
  | [], _, _, _ => Nat.zero_le _
  | a :: l, u, nd, h => by
    obtain ⟨x, y, e⟩ := List.append_of_mem (h a (List.mem_cons_self ..))
    have q : l.length ≤ (x ++ y).length := nodup_len (List.nodup_cons.mp nd).2 fun b hb => by
      have z := h b (List.mem_cons_of_mem _ hb)
      rw [e] at z
      rcases List.mem_append.mp z with z | z
      · exact List.mem_append_left _ z
      · rcases List.mem_cons.mp z with z | z
        · exact ((List.nodup_cons.mp nd).1 (z ▸ hb)).elim
        · exact List.mem_append_right _ z
    rw [e, List.length_append, List.length_cons]
    rw [List.length_append] at q
    rw [List.length_cons]
    omega

/-! ### reaching -/
inductive Reach (E : List (Int × Int)) (s : List Int) : Int → Prop
  | base {r : Int} (h : r ∈ s) : Reach E s r
  | step {r t : Int} (h : Reach E s r) (e : (r, t) ∈ E) : Reach E s t
def eF (M : Mac) : List (Int × Int) := M.S.map fun s => (s.1, s.2.2)
def eB (M : Mac) : List (Int × Int) := M.S.map fun s => (s.2.2, s.1)
def Useful (M : Mac) (r : Int) : Prop := Reach (eF M) M.F r ∧ Reach (eB M) M.L r
noncomputable def usefulL (M : Mac) : List Int := (rangeI M.n).filter fun r => decide (Useful M r)
noncomputable def trim (M : Mac) : Mac := ⟨M.n, M.F.filter (fun r => decide (Useful M r)), M.L.filter (fun r => decide (Useful M r)), M.S.filter fun s => decide (Useful M s.1 ∧ Useful M s.2.2)⟩

theorem mem_eF {M : Mac} {p : Int × Int} : p ∈ eF M ↔ ∃ a, (p.1, a, p.2) ∈ M.S := by
  unfold eF
  rw [List.mem_map]
  constructor
  · rintro ⟨⟨x, a, y⟩, h, rfl⟩; exact ⟨a, h⟩
  · rintro ⟨a, h⟩; exact ⟨_, h, rfl⟩
theorem mem_eB {M : Mac} {p : Int × Int} : p ∈ eB M ↔ ∃ a, (p.2, a, p.1) ∈ M.S := by
  unfold eB
  rw [List.mem_map]
  constructor
  · rintro ⟨⟨x, a, y⟩, h, rfl⟩; exact ⟨a, h⟩
  · rintro ⟨a, h⟩; exact ⟨_, h, rfl⟩
theorem Good.eF {M : Mac} (g : Good M) : ∀ p ∈ eF M, (0 ≤ p.1 ∧ p.1 < M.n) ∧ (0 ≤ p.2 ∧ p.2 < M.n) := fun p h => by
  obtain ⟨a, h⟩ := mem_eF.mp h
  have q := g.Sr _ h
  exact ⟨q.1, q.2.2⟩
theorem Good.eB {M : Mac} (g : Good M) : ∀ p ∈ eB M, (0 ≤ p.1 ∧ p.1 < M.n) ∧ (0 ≤ p.2 ∧ p.2 < M.n) := fun p h => by
  obtain ⟨a, h⟩ := mem_eB.mp h
  have q := g.Sr _ h
  exact ⟨q.2.2, q.1⟩
theorem Reach.range {E : List (Int × Int)} {s : List Int} {n r : Int} (hs : ∀ r ∈ s, 0 ≤ r ∧ r < n) (he : ∀ p ∈ E, (0 ≤ p.1 ∧ p.1 < n) ∧ (0 ≤ p.2 ∧ p.2 < n)) (h : Reach E s r) : 0 ≤ r ∧ r < n := by
  cases h with
  | base h => exact hs _ h
  | step _ e => exact (he _ e).2
theorem Good.range {M : Mac} (g : Good M) {r : Int} (h : Useful M r) : 0 ≤ r ∧ r < M.n := h.1.range g.Fr g.eF
theorem Good.mem_useful {M : Mac} (g : Good M) {r : Int} : r ∈ usefulL M ↔ Useful M r := by
  unfold usefulL
  rw [List.mem_filter, mem_rangeI, decide_eq_true_eq]
  exact ⟨fun h => h.2, fun h => ⟨g.range h, h⟩⟩
theorem pw_filter {α : Type} {R : α → α → Prop} {l : List α} (p : α → Bool) (h : l.Pairwise R) : (l.filter p).Pairwise R := List.Pairwise.sublist List.filter_sublist h
theorem Good.trim {M : Mac} (g : Good M) : Good (trim M) where
  n1 := g.n1
  n2 := g.n2
  F := pw_filter _ g.F
  Fr := fun r h => g.Fr r (List.mem_filter.mp h).1
  L := pw_filter _ g.L
  Lr := fun r h => g.Lr r (List.mem_filter.mp h).1
  S := pw_filter _ g.S
  Sn := Nat.le_trans (List.length_filter_le _ _) g.Sn
  Sr := fun s h => g.Sr s (List.mem_filter.mp h).1
theorem trim_mem {M : Mac} {x : Int} {a : Nat} {y : Int} : (x, a, y) ∈ (trim M).S ↔ (x, a, y) ∈ M.S ∧ Useful M x ∧ Useful M y := by
  show (x, a, y) ∈ M.S.filter _ ↔ _
  rw [List.mem_filter, decide_eq_true_eq]

/-! ### one machine beside another one -/
def sh (k : Int) (s : Int × Nat × Int) : Int × Nat × Int := (s.1 + k, s.2.1, s.2.2 + k)
structure Beside (M N B : Mac) : Prop where
  n : B.n = M.n + N.n
  F : B.F = M.F ++ N.F.map (· + M.n)
  L : B.L = M.L ++ N.L.map (· + M.n)
  S : B.S.Perm (M.S ++ N.S.map (sh M.n))
theorem sh_inj (k : Int) {s t : Int × Nat × Int} (h : sh k s = sh k t) : s = t := by
  obtain ⟨a, b, c⟩ := s
  obtain ⟨d, e, f⟩ := t
  simp only [sh, Prod.mk.injEq] at h ⊢
  omega
theorem nodup_map {α β : Type} {f : α → β} : ∀ {l : List α}, (∀ a b, f a = f b → a = b) → l.Nodup → (l.map f).Nodup := fun hf h => List.Pairwise.map _ (fun a b (n : a ≠ b) z => n (hf a b z)) h
theorem rise_add {l r : List Int} {n : Int} (h1 : l.Pairwise (· < ·)) (h2 : r.Pairwise (· < ·)) (hl : ∀ x ∈ l, 0 ≤ x ∧ x < n) (hr : ∀ x ∈ r, 0 ≤ x) : (l ++ r.map (· + n)).Pairwise (· < ·) := by
  rw [List.pairwise_append]
  refine ⟨h1, List.Pairwise.map _ (fun a b (h : a < b) => by show a + n < b + n; omega) h2, fun a ha b hb => ?_⟩
  obtain ⟨c, hc, rfl⟩ := List.mem_map.mp hb
  have := hl a ha
  have := hr c hc
  omega
section
variable {M N B : Mac} (gM : Good M) (gN : Good N) (b : Beside M N B)
include gM gN b
theorem Beside.mem {x : Int} {a : Nat} {y : Int} : (x, a, y) ∈ B.S ↔ (x, a, y) ∈ M.S ∨ ∃ x' y', x = x' + M.n ∧ y = y' + M.n ∧ (x', a, y') ∈ N.S := by
  rw [b.S.mem_iff, List.mem_append, List.mem_map]
  constructor
  · rintro (h | ⟨⟨x', a', y'⟩, h, e⟩)
    · exact .inl h
    · simp only [sh, Prod.mk.injEq] at e
      obtain ⟨rfl, rfl, rfl⟩ := e
      exact .inr ⟨x', y', rfl, rfl, h⟩
  · rintro (h | ⟨x', y', rfl, rfl, h⟩)
    · exact .inl h
    · exact .inr ⟨_, h, rfl⟩
/-- from a room of the first -/
theorem Beside.memL {x : Int} {a : Nat} {y : Int} (hx : x < M.n) : (x, a, y) ∈ B.S ↔ (x, a, y) ∈ M.S := by
  rw [b.mem gM gN]
  constructor
  · rintro (h | ⟨x', y', rfl, rfl, h⟩)
    · exact h
    · have := (gN.Sr _ h).1.1
      simp at this
      omega
  · exact .inl
/-- from a room of the second -/
theorem Beside.memR {x : Int} {a : Nat} {y : Int} (hx : 0 ≤ x) : (x + M.n, a, y) ∈ B.S ↔ ∃ y', y = y' + M.n ∧ (x, a, y') ∈ N.S := by
  rw [b.mem gM gN]
  constructor
  · rintro (h | ⟨x', y', e, rfl, h⟩)
    · have := (gM.Sr _ h).1.2
      simp at this
      omega
    · obtain rfl : x = x' := by omega
      exact ⟨y', rfl, h⟩
  · rintro ⟨y', rfl, h⟩
    exact .inr ⟨x, y', rfl, rfl, h⟩
theorem Beside.good (h12 : M.n + N.n ≤ 12) (h200 : M.S.length + N.S.length ≤ 200) : Good B where
  n1 := by have := gM.n1; have := gN.n1; rw [b.n]; omega
  n2 := by rw [b.n]; exact h12
  F := by rw [b.F]; exact rise_add gM.F gN.F gM.Fr fun x h => (gN.Fr x h).1
  Fr := fun r h => by
    rw [b.F, List.mem_append, List.mem_map] at h
    have := gM.n1
    have := gN.n1
    rw [b.n]
    rcases h with h | ⟨r', h, rfl⟩
    · have := gM.Fr r h; omega
    · have := gN.Fr r' h; omega
  L := by rw [b.L]; exact rise_add gM.L gN.L gM.Lr fun x h => (gN.Lr x h).1
  Lr := fun r h => by
    rw [b.L, List.mem_append, List.mem_map] at h
    have := gM.n1
    have := gN.n1
    rw [b.n]
    rcases h with h | ⟨r', h, rfl⟩
    · have := gM.Lr r h; omega
    · have := gN.Lr r' h; omega
  S := by
    refine b.S.nodup_iff.mpr ?_
    rw [List.nodup_append]
    refine ⟨gM.S, nodup_map (fun _ _ => sh_inj _) gN.S, fun s hs t ht => ?_⟩
    obtain ⟨t', ht', rfl⟩ := List.mem_map.mp ht
    intro e
    have h1 := (gM.Sr s hs).1.2
    have h2 := (gN.Sr t' ht').1.1
    rw [e] at h1
    simp only [sh] at h1
    omega
  Sn := by rw [b.S.length_eq, List.length_append, List.length_map]; exact h200
  Sr := fun s h => by
    obtain ⟨x, a, y⟩ := s
    have := gM.n1
    have := gN.n1
    have bn := b.n
    rcases (b.mem gM gN).mp h with h' | ⟨x', y', e1, e2, h'⟩
    · have q := gM.Sr _ h'
      have q1 : 0 ≤ x ∧ x < M.n := q.1
      have q3 : 0 ≤ y ∧ y < M.n := q.2.2
      exact ⟨⟨q1.1, by show x < B.n; omega⟩, q.2.1, q3.1, by show y < B.n; omega⟩
    · have q := gN.Sr _ h'
      have q1 : 0 ≤ x' ∧ x' < N.n := q.1
      have q3 : 0 ≤ y' ∧ y' < N.n := q.2.2
      exact ⟨⟨by show 0 ≤ x; omega, by show x < B.n; omega⟩, q.2.1, by show 0 ≤ y; omega, by show y < B.n; omega⟩
end
/-- reaching, side by side -/
theorem reach_beside {E E1 E2 : List (Int × Int)} {s s1 s2 : List Int} {k : Int} (hE : ∀ p, p ∈ E ↔ p ∈ E1 ∨ ∃ q ∈ E2, p = (q.1 + k, q.2 + k)) (hs : ∀ r, r ∈ s ↔ r ∈ s1 ∨ ∃ q ∈ s2, r = q + k)
    (e1 : ∀ p ∈ E1, (0 ≤ p.1 ∧ p.1 < k) ∧ (0 ≤ p.2 ∧ p.2 < k)) (r1 : ∀ r ∈ s1, 0 ≤ r ∧ r < k) (e2 : ∀ p ∈ E2, 0 ≤ p.1 ∧ 0 ≤ p.2) (r2 : ∀ r ∈ s2, 0 ≤ r) (r : Int) : Reach E s r ↔ Reach E1 s1 r ∨ ∃ q, Reach E2 s2 q ∧ r = q + k := by
  have rg1 : ∀ {r}, Reach E1 s1 r → 0 ≤ r ∧ r < k := fun h => h.range r1 e1
  have rg2 : ∀ {r}, Reach E2 s2 r → 0 ≤ r := fun h => by
    cases h with
    | base h => exact r2 _ h
    | step _ e => exact (e2 _ e).2
  constructor
  · intro h
    induction h with
    | base h => exact ((hs _).mp h).imp .base fun ⟨q, hq, e⟩ => ⟨q, .base hq, e⟩
    | step _ e ih =>
      rcases (hE _).mp e with e | ⟨q, hq, e⟩
      · refine .inl (.step ?_ e)
        rcases ih with ih | ⟨q', h', e'⟩
        · exact ih
        · have := (e1 _ e).1.2
          have := rg2 h'
          omega
      · have ea := (Prod.mk.inj e).1
        have eb := (Prod.mk.inj e).2
        refine .inr ⟨q.2, ?_, eb⟩
        rcases ih with ih | ⟨q', h', e'⟩
        · have := rg1 ih
          have := e2 q hq
          omega
        · obtain rfl : q' = q.1 := by omega
          exact .step h' hq
  · rintro (h | ⟨q, h, rfl⟩)
    · induction h with
      | base h => exact .base ((hs _).mpr (.inl h))
      | step _ e ih => exact .step ih ((hE _).mpr (.inl e))
    · induction h with
      | base h => exact .base ((hs _).mpr (.inr ⟨_, h, rfl⟩))
      | step _ e ih => exact .step ih ((hE _).mpr (.inr ⟨_, e, rfl⟩))
section
variable {M N B : Mac} (gM : Good M) (gN : Good N) (b : Beside M N B)
include gM gN b
theorem Beside.useful (r : Int) : Useful B r ↔ Useful M r ∨ ∃ q, Useful N q ∧ r = q + M.n := by
  have f := reach_beside (E := eF B) (E1 := eF M) (E2 := eF N) (s := B.F) (s1 := M.F) (s2 := N.F) (k := M.n) (fun p => by
      rw [mem_eF, mem_eF]
      constructor
      · rintro ⟨a, h⟩
        rcases (b.mem gM gN).mp h with h | ⟨x, y, h1, h2, h⟩
        · exact .inl ⟨a, h⟩
        · exact .inr ⟨(x, y), mem_eF.mpr ⟨a, h⟩, Prod.ext h1 h2⟩
      · rintro (⟨a, h⟩ | ⟨q, hq, rfl⟩)
        · exact ⟨a, (b.mem gM gN).mpr (.inl h)⟩
        · obtain ⟨a, h⟩ := mem_eF.mp hq
          exact ⟨a, (b.mem gM gN).mpr (.inr ⟨_, _, rfl, rfl, h⟩)⟩) (fun r => by
      rw [b.F, List.mem_append, List.mem_map]
      exact or_congr Iff.rfl ⟨fun ⟨q, h, e⟩ => ⟨q, h, e.symm⟩, fun ⟨q, h, e⟩ => ⟨q, h, e.symm⟩⟩) gM.eF gM.Fr (fun p h => ⟨(gN.eF p h).1.1, (gN.eF p h).2.1⟩) (fun r h => (gN.Fr r h).1) r
  have g := reach_beside (E := eB B) (E1 := eB M) (E2 := eB N) (s := B.L) (s1 := M.L) (s2 := N.L) (k := M.n) (fun p => by
      rw [mem_eB, mem_eB]
      constructor
      · rintro ⟨a, h⟩
        rcases (b.mem gM gN).mp h with h | ⟨x, y, h1, h2, h⟩
        · exact .inl ⟨a, h⟩
        · exact .inr ⟨(y, x), mem_eB.mpr ⟨a, h⟩, Prod.ext h2 h1⟩
      · rintro (⟨a, h⟩ | ⟨q, hq, rfl⟩)
        · exact ⟨a, (b.mem gM gN).mpr (.inl h)⟩
        · obtain ⟨a, h⟩ := mem_eB.mp hq
          exact ⟨a, (b.mem gM gN).mpr (.inr ⟨_, _, rfl, rfl, h⟩)⟩) (fun r => by
      rw [b.L, List.mem_append, List.mem_map]
      exact or_congr Iff.rfl ⟨fun ⟨q, h, e⟩ => ⟨q, h, e.symm⟩, fun ⟨q, h, e⟩ => ⟨q, h, e.symm⟩⟩) gM.eB gM.Lr (fun p h => ⟨(gN.eB p h).1.1, (gN.eB p h).2.1⟩) (fun r h => (gN.Lr r h).1) r
  unfold Useful
  rw [f, g]
  constructor
  · rintro ⟨h1 | ⟨q, h1, e1⟩, h2 | ⟨q', h2, e2⟩⟩
    · exact .inl ⟨h1, h2⟩
    · have := h1.range gM.Fr gM.eF
      have := h2.range gN.Lr gN.eB
      omega
    · have := h1.range gN.Fr gN.eF
      have := h2.range gM.Lr gM.eB
      omega
    · obtain rfl : q = q' := by omega
      exact .inr ⟨q, ⟨h1, h2⟩, e1⟩
  · rintro (⟨h1, h2⟩ | ⟨q, ⟨h1, h2⟩, e⟩)
    · exact ⟨.inl h1, .inl h2⟩
    · exact ⟨.inr ⟨q, h1, e⟩, .inr ⟨q, h2, e⟩⟩
theorem Beside.usefulM {r : Int} (h : r < M.n) : Useful B r ↔ Useful M r := by
  rw [b.useful gM gN]
  constructor
  · rintro (h | ⟨q, h, e⟩)
    · exact h
    · have := gN.range h
      omega
  · exact .inl
theorem Beside.usefulN {r : Int} (h : 0 ≤ r) : Useful B (r + M.n) ↔ Useful N r := by
  rw [b.useful gM gN]
  constructor
  · rintro (h | ⟨q, h, e⟩)
    · have := gM.range h
      omega
    · obtain rfl : r = q := by omega
      exact h
  · intro h
    exact .inr ⟨r, h, rfl⟩
theorem filter_shift {l : List Int} {k : Int} {P Q : Int → Prop} (h : ∀ r ∈ l, (P (r + k) ↔ Q r)) : (l.map (· + k)).filter (fun r => decide (P r)) = (l.filter fun r => decide (Q r)).map (· + k) := by
  rw [List.filter_map]
  congr 1
  refine List.filter_congr fun r hr => ?_
  show decide (P (r + k)) = decide (Q r)
  rw [decide_eq_decide]
  exact h r hr
theorem filter_same {l : List Int} {P Q : Int → Prop} (h : ∀ r ∈ l, (P r ↔ Q r)) : l.filter (fun r => decide (P r)) = l.filter fun r => decide (Q r) := List.filter_congr fun r hr => by
  rw [decide_eq_decide]
  exact h r hr
theorem Beside.usefulL : usefulL B = usefulL M ++ (usefulL N).map (· + M.n) := by
  have h1 := gM.n1
  have h2 := gN.n1
  unfold Tg.usefulL
  rw [b.n, rangeI_add (by omega) (by omega), List.filter_append, filter_same gM gN b fun r hr => b.usefulM gM gN (mem_rangeI.mp hr).2, filter_shift gM gN b fun r hr => b.usefulN gM gN (mem_rangeI.mp hr).1]
theorem Beside.trim : Beside (trim M) (trim N) (trim B) where
  n := b.n
  F := by
    show B.F.filter _ = M.F.filter _ ++ (N.F.filter _).map _
    rw [b.F, List.filter_append, filter_same gM gN b fun r hr => b.usefulM gM gN (gM.Fr r hr).2, filter_shift gM gN b fun r hr => b.usefulN gM gN (gN.Fr r hr).1]
    rfl
  L := by
    show B.L.filter _ = M.L.filter _ ++ (N.L.filter _).map _
    rw [b.L, List.filter_append, filter_same gM gN b fun r hr => b.usefulM gM gN (gM.Lr r hr).2, filter_shift gM gN b fun r hr => b.usefulN gM gN (gN.Lr r hr).1]
    rfl
  S := by
    show (B.S.filter _).Perm (M.S.filter _ ++ (N.S.filter _).map _)
    refine (b.S.filter _).trans ?_
    rw [List.filter_append, List.filter_map]
    refine .of_eq ?_
    congr 1
    · refine List.filter_congr fun s hs => ?_
      rw [decide_eq_decide, b.usefulM gM gN (gM.Sr s hs).1.2, b.usefulM gM gN (gM.Sr s hs).2.2.2]
    · show (N.S.filter _).map (sh M.n) = (N.S.filter _).map (sh M.n)
      congr 1
      refine List.filter_congr fun s hs => ?_
      show decide (Useful B (s.1 + M.n) ∧ Useful B (s.2.2 + M.n)) = decide (Useful N s.1 ∧ Useful N s.2.2)
      rw [decide_eq_decide, b.usefulN gM gN (gN.Sr s hs).1.1, b.usefulN gM gN (gN.Sr s hs).2.2.1]
end
end Tg
/-! Triesgrow, plain mathematics C: rooms that go double, led rounds, ranks, growth. -/
namespace Tg
open Classical

abbrev T3 := Int × Int × Int
def tos (S : List (Int × Nat × Int)) (x : Int) (a : Nat) : List Int := (S.filter fun s => decide (s.1 = x ∧ s.2.1 = a)).map (·.2.2)
theorem mem_tos {S : List (Int × Nat × Int)} {x : Int} {a : Nat} {y : Int} : y ∈ tos S x a ↔ (x, a, y) ∈ S := by
  unfold tos
  rw [List.mem_map]
  constructor
  · rintro ⟨⟨x', a', y'⟩, h, rfl⟩
    rw [List.mem_filter, decide_eq_true_eq] at h
    obtain ⟨h, h1, h2⟩ := h
    simp only at h1 h2
    subst h1; subst h2
    exact h
  · intro h
    exact ⟨_, List.mem_filter.mpr ⟨h, by simp⟩, rfl⟩
def pt (p : Int) (x y : Int) : Int := if p = 1 ∨ x ≠ y then 1 else 0
def succD (S : List (Int × Nat × Int)) (s : T3) (a : Nat) : List T3 := (tos S s.1 a).flatMap fun t => (tos S s.2.1 a).map fun u => (t, u, pt s.2.2 t u)
def succL (S : List (Int × Nat × Int)) (s : T3) (a : Nat) : List T3 := (tos S s.1 a).flatMap fun t => (tos S s.2.1 a).flatMap fun u => (tos S s.2.2 a).map fun v => (t, u, v)
theorem mem_succD {S : List (Int × Nat × Int)} {s t : T3} {a : Nat} : t ∈ succD S s a ↔ (s.1, a, t.1) ∈ S ∧ (s.2.1, a, t.2.1) ∈ S ∧ t.2.2 = pt s.2.2 t.1 t.2.1 := by
  unfold succD
  rw [List.mem_flatMap]
  constructor
  · rintro ⟨x, hx, h⟩
    obtain ⟨y, hy, rfl⟩ := List.mem_map.mp h
    exact ⟨mem_tos.mp hx, mem_tos.mp hy, rfl⟩
  · rintro ⟨h1, h2, h3⟩
    refine ⟨t.1, mem_tos.mpr h1, List.mem_map.mpr ⟨t.2.1, mem_tos.mpr h2, ?_⟩⟩
    rw [← h3]
theorem mem_succL {S : List (Int × Nat × Int)} {s t : T3} {a : Nat} : t ∈ succL S s a ↔ (s.1, a, t.1) ∈ S ∧ (s.2.1, a, t.2.1) ∈ S ∧ (s.2.2, a, t.2.2) ∈ S := by
  unfold succL
  rw [List.mem_flatMap]
  constructor
  · rintro ⟨x, hx, h⟩
    obtain ⟨y, hy, h⟩ := List.mem_flatMap.mp h
    obtain ⟨z, hz, rfl⟩ := List.mem_map.mp h
    exact ⟨mem_tos.mp hx, mem_tos.mp hy, mem_tos.mp hz⟩
  · rintro ⟨h1, h2, h3⟩
    exact ⟨t.1, mem_tos.mpr h1, List.mem_flatMap.mpr ⟨t.2.1, mem_tos.mpr h2, List.mem_map.mpr ⟨t.2.2, mem_tos.mpr h3, rfl⟩⟩⟩

/-- the told answer -/
noncomputable def fo (P : List Nat → Prop) : Option (List Nat) := if h : ∃ r, FirstO P r then h.choose else none
theorem fo_eq {P : List Nat → Prop} {r : Option (List Nat)} (h : FirstO P r) : fo P = r := by
  unfold fo
  have e : ∃ r, FirstO P r := ⟨r, h⟩
  rw [dif_pos e]
  exact FirstO.eq e.choose_spec h fun _ => Iff.rfl
theorem fo_congr {P Q : List Nat → Prop} (h : ∀ w, P w ↔ Q w) : fo P = fo Q := by
  have e : P = Q := funext fun w => propext (h w)
  rw [e]
theorem fo_no {P : List Nat → Prop} (h : ∀ w, ¬ P w) : fo P = none := fo_eq (show FirstO P none from fun w _ => h w)

def PD (S : List (Int × Nat × Int)) (r : Int) (w : List Nat) : Prop := Leads (succD S) (r, r, 0) w (r, r, 1)
def PL (S : List (Int × Nat × Int)) (r q : Int) (w : List Nat) : Prop := Leads (succL S) (r, r, q) w (r, q, q)
/-- words are told the right way round -/
noncomputable def dblAt (M : Mac) (r : Int) : Option (List Nat) := (fo (PD (Tg.trim M).S r)).map List.reverse
noncomputable def ledAt (M : Mac) (r q : Int) : Option (List Nat) := if r = q then none else (fo (PL (Tg.trim M).S r q)).map List.reverse
noncomputable def doubleL (M : Mac) : List (Int × List Nat) := (usefulL M).filterMap fun r => (dblAt M r).map fun w => (r, w)
noncomputable def ledL (M : Mac) : List (Int × Int × List Nat) := (usefulL M).flatMap fun r => (usefulL M).filterMap fun q => (ledAt M r q).map fun w => (r, q, w)

/-- leading, put over by a map of the things -/
theorem leads_map {S S' : Type} {f : S → Nat → List S} {g : S' → Nat → List S'} (φ : S → S') (D : S → Prop) (hD : ∀ s a t, D s → t ∈ f s a → D t) (h : ∀ s a t', D s → (t' ∈ g (φ s) a ↔ ∃ t, t' = φ t ∧ t ∈ f s a))
    {s : S} (hs : D s) (w : List Nat) (t' : S') : Leads g (φ s) w t' ↔ ∃ t, D t ∧ t' = φ t ∧ Leads f s w t := by
  constructor
  · intro l
    induction l with
    | nil => exact ⟨s, hs, rfl, .nil⟩
    | cons _ e ih =>
      obtain ⟨t, ht, rfl, lt⟩ := ih
      obtain ⟨u, e1, hu⟩ := (h t _ _ ht).mp e
      exact ⟨u, hD _ _ _ ht hu, e1, .cons lt hu⟩
  · rintro ⟨t, _, rfl, l⟩
    have key : ∀ {w t}, Leads f s w t → D t ∧ Leads g (φ s) w (φ t) := by
      intro w t l
      induction l with
      | nil => exact ⟨hs, .nil⟩
      | cons _ e ih => exact ⟨hD _ _ _ ih.1 e, .cons ih.2 ((h _ _ _ ih.1).mpr ⟨_, rfl, e⟩)⟩
    exact (key l).2
section
variable {M N B : Mac} (gM : Good M) (gN : Good N) (b : Beside M N B)
include gM gN b
theorem Beside.pdM {r : Int} (h : r < M.n) (w : List Nat) : PD B.S r w ↔ PD M.S r w := by
  unfold PD
  rw [leads_map (f := succD M.S) (fun s => s) (fun s => s.1 < M.n ∧ s.2.1 < M.n) (fun s a t _ ht => ?_) (fun s a t' hs => ?_) (s := (r, r, 0)) ⟨h, h⟩]
  · exact ⟨fun ⟨_, _, e, l⟩ => e ▸ l, fun l => ⟨(r, r, 1), ⟨h, h⟩, rfl, l⟩⟩
  · have q := mem_succD.mp ht
    exact ⟨(gM.Sr _ q.1).2.2.2, (gM.Sr _ q.2.1).2.2.2⟩
  · rw [mem_succD, b.memL gM gN hs.1, b.memL gM gN hs.2]
    constructor
    · intro z; exact ⟨t', rfl, mem_succD.mpr z⟩
    · rintro ⟨t, rfl, z⟩; exact mem_succD.mp z
theorem Beside.plM {r q : Int} (h : r < M.n) (hq : q < M.n) (w : List Nat) : PL B.S r q w ↔ PL M.S r q w := by
  unfold PL
  rw [leads_map (f := succL M.S) (fun s => s) (fun s => s.1 < M.n ∧ s.2.1 < M.n ∧ s.2.2 < M.n) (fun s a t _ ht => ?_) (fun s a t' hs => ?_) (s := (r, r, q)) ⟨h, h, hq⟩]
  · exact ⟨fun ⟨_, _, e, l⟩ => e ▸ l, fun l => ⟨(r, q, q), ⟨h, hq, hq⟩, rfl, l⟩⟩
  · have q := mem_succL.mp ht
    exact ⟨(gM.Sr _ q.1).2.2.2, (gM.Sr _ q.2.1).2.2.2, (gM.Sr _ q.2.2).2.2.2⟩
  · rw [mem_succL, b.memL gM gN hs.1, b.memL gM gN hs.2.1, b.memL gM gN hs.2.2]
    constructor
    · intro z; exact ⟨t', rfl, mem_succL.mpr z⟩
    · rintro ⟨t, rfl, z⟩; exact mem_succL.mp z
theorem pt_sh (p x y k : Int) : pt p (x + k) (y + k) = pt p x y := by
  unfold pt
  have e : (x + k ≠ y + k) ↔ x ≠ y := by constructor <;> intro h z <;> apply h <;> omega
  simp only [e]
theorem Beside.pdN {r : Int} (h : 0 ≤ r) (w : List Nat) : PD B.S (r + M.n) w ↔ PD N.S r w := by
  unfold PD
  rw [show (r + M.n, r + M.n, (0 : Int)) = (fun s : T3 => (s.1 + M.n, s.2.1 + M.n, s.2.2)) (r, r, 0) from rfl]
  rw [leads_map (f := succD N.S) (fun s : T3 => (s.1 + M.n, s.2.1 + M.n, s.2.2)) (fun s => 0 ≤ s.1 ∧ 0 ≤ s.2.1) (fun s a t _ ht => ?_) (fun s a t' hs => ?_) (s := (r, r, 0)) ⟨h, h⟩]
  · constructor
    · rintro ⟨⟨x, y, z⟩, _, e, l⟩
      simp only [Prod.mk.injEq] at e
      obtain ⟨e1, e2, rfl⟩ := e
      obtain rfl : r = x := by omega
      obtain rfl : r = y := by omega
      exact l
    · intro l; exact ⟨(r, r, 1), ⟨h, h⟩, rfl, l⟩
  · have q := mem_succD.mp ht
    exact ⟨(gN.Sr _ q.1).2.2.1, (gN.Sr _ q.2.1).2.2.1⟩
  · obtain ⟨x, y, z⟩ := t'
    rw [mem_succD, b.memR gM gN hs.1, b.memR gM gN hs.2]
    constructor
    · rintro ⟨⟨x', rfl, h1⟩, ⟨y', rfl, h2⟩, h3⟩
      rw [pt_sh gM gN b] at h3
      exact ⟨(x', y', z), rfl, mem_succD.mpr ⟨h1, h2, h3⟩⟩
    · rintro ⟨⟨x', y', z'⟩, e, hm⟩
      simp only [Prod.mk.injEq] at e
      obtain ⟨rfl, rfl, rfl⟩ := e
      obtain ⟨h1, h2, h3⟩ := mem_succD.mp hm
      exact ⟨⟨x', rfl, h1⟩, ⟨y', rfl, h2⟩, by rw [pt_sh gM gN b]; exact h3⟩
theorem Beside.plN {r q : Int} (h : 0 ≤ r) (hq : 0 ≤ q) (w : List Nat) : PL B.S (r + M.n) (q + M.n) w ↔ PL N.S r q w := by
  unfold PL
  rw [show (r + M.n, r + M.n, q + M.n) = (fun s : T3 => (s.1 + M.n, s.2.1 + M.n, s.2.2 + M.n)) (r, r, q) from rfl]
  rw [leads_map (f := succL N.S) (fun s : T3 => (s.1 + M.n, s.2.1 + M.n, s.2.2 + M.n)) (fun s => 0 ≤ s.1 ∧ 0 ≤ s.2.1 ∧ 0 ≤ s.2.2) (fun s a t _ ht => ?_) (fun s a t' hs => ?_) (s := (r, r, q)) ⟨h, h, hq⟩]
  · constructor
    · rintro ⟨⟨x, y, z⟩, _, e, l⟩
      simp only [Prod.mk.injEq] at e
      obtain ⟨e1, e2, e3⟩ := e
      obtain rfl : r = x := by omega
      obtain rfl : q = y := by omega
      obtain rfl : q = z := by omega
      exact l
    · intro l; exact ⟨(r, q, q), ⟨h, hq, hq⟩, rfl, l⟩
  · have q := mem_succL.mp ht
    exact ⟨(gN.Sr _ q.1).2.2.1, (gN.Sr _ q.2.1).2.2.1, (gN.Sr _ q.2.2).2.2.1⟩
  · obtain ⟨x, y, z⟩ := t'
    rw [mem_succL, b.memR gM gN hs.1, b.memR gM gN hs.2.1, b.memR gM gN hs.2.2]
    constructor
    · rintro ⟨⟨x', rfl, h1⟩, ⟨y', rfl, h2⟩, ⟨z', rfl, h3⟩⟩
      exact ⟨(x', y', z'), rfl, mem_succL.mpr ⟨h1, h2, h3⟩⟩
    · rintro ⟨⟨x', y', z'⟩, e, hm⟩
      simp only [Prod.mk.injEq] at e
      obtain ⟨rfl, rfl, rfl⟩ := e
      obtain ⟨h1, h2, h3⟩ := mem_succL.mp hm
      exact ⟨⟨x', rfl, h1⟩, ⟨y', rfl, h2⟩, ⟨z', rfl, h3⟩⟩
/-- no word leads from one side to the other -/
theorem Beside.cross {s t : T3} {w : List Nat} (l : Leads (succL B.S) s w t) : (s.2.1 < M.n → t.2.1 < M.n) ∧ (M.n ≤ s.2.1 → M.n ≤ t.2.1) := by
  induction l with
  | nil => exact ⟨id, id⟩
  | @cons w t u a _ e ih =>
    have q := (mem_succL.mp e).2.1
    refine ⟨fun h => ?_, fun h => ?_⟩
    · exact (gM.Sr _ ((b.memL gM gN (ih.1 h)).mp q)).2.2.2
    · have z := ih.2 h
      have q' : (t.2.1 - M.n + M.n, a, u.2.1) ∈ B.S := by rw [Int.sub_add_cancel]; exact q
      obtain ⟨y, e1, h1⟩ := (b.memR gM gN (by omega)).mp q'
      have := (gN.Sr _ h1).2.2.1
      simp only at this
      omega
end
section
variable {M N B : Mac} (gM : Good M) (gN : Good N) (b : Beside M N B)
include gM gN b
theorem fm_congr {α β : Type} {f g : α → Option β} : ∀ {l : List α}, (∀ x ∈ l, f x = g x) → l.filterMap f = l.filterMap g
  | [], _ => rfl
  | a :: l, h => by
    rw [List.filterMap_cons, List.filterMap_cons, h a (List.mem_cons_self ..), fm_congr fun x hx => h x (List.mem_cons_of_mem _ hx)]
theorem Beside.doubleL : doubleL B = doubleL M ++ (doubleL N).map fun p => (p.1 + M.n, p.2) := by
  have t := b.trim gM gN
  unfold Tg.doubleL
  rw [b.usefulL gM gN, List.filterMap_append, List.filterMap_map, List.map_filterMap]
  congr 1
  · refine fm_congr gM gN b fun r hr => ?_
    have hr' := gM.range ((gM.mem_useful).mp hr)
    unfold dblAt
    rw [fo_congr (t.pdM gM.trim gN.trim (show r < (Tg.trim M).n from hr'.2))]
  · refine fm_congr gM gN b fun r hr => ?_
    have hr' := gN.range ((gN.mem_useful).mp hr)
    show (dblAt B (r + M.n)).map _ = ((dblAt N r).map _).map _
    unfold dblAt
    rw [show fo (PD (Tg.trim B).S (r + M.n)) = fo (PD (Tg.trim N).S r) from fo_congr (t.pdN gM.trim gN.trim hr'.1)]
    simp [Option.map_map, Function.comp_def]
theorem flatMap_congr' {α β : Type} {f g : α → List β} : ∀ {l : List α}, (∀ x ∈ l, f x = g x) → l.flatMap f = l.flatMap g
  | [], _ => rfl
  | a :: l, h => by
    rw [List.flatMap_cons, List.flatMap_cons, h a (List.mem_cons_self ..), flatMap_congr' fun x hx => h x (List.mem_cons_of_mem _ hx)]
theorem fm_none {α β : Type} {f : α → Option β} {l : List α} (h : ∀ x ∈ l, f x = none) : l.filterMap f = [] := by
  rw [fm_congr gM gN b (g := fun _ => none) h]
  induction l with
  | nil => rfl
  | cons a l ih =>
    rw [List.filterMap_cons]
    exact ih fun x hx => h x (List.mem_cons_of_mem _ hx)
theorem Beside.ledL : ledL B = ledL M ++ (ledL N).map fun p => (p.1 + M.n, p.2.1 + M.n, p.2.2) := by
  have t := b.trim gM gN
  have uM : ∀ r ∈ Tg.usefulL M, 0 ≤ r ∧ r < M.n := fun r hr => gM.range ((gM.mem_useful).mp hr)
  have uN : ∀ r ∈ Tg.usefulL N, 0 ≤ r ∧ r < N.n := fun r hr => gN.range ((gN.mem_useful).mp hr)
  unfold Tg.ledL
  rw [b.usefulL gM gN, List.flatMap_append, List.flatMap_map]
  congr 1
  · refine flatMap_congr' gM gN b fun r hr => ?_
    have hr' := uM r hr
    rw [List.filterMap_append, List.filterMap_map, fm_none gM gN b (l := Tg.usefulL N) (fun q hq => ?_), List.append_nil]
    · refine fm_congr gM gN b fun q hq => ?_
      have hq' := uM q hq
      unfold ledAt
      rw [show fo (PL (Tg.trim B).S r q) = fo (PL (Tg.trim M).S r q) from fo_congr (t.plM gM.trim gN.trim (show r < (Tg.trim M).n from hr'.2) (show q < (Tg.trim M).n from hq'.2))]
    · have hq' := uN q hq
      show (ledAt B r (q + M.n)).map _ = none
      unfold ledAt
      rw [if_neg (by omega), fo_no fun w l => ?_]
      · rfl
      · have z : q + M.n < M.n := (t.cross gM.trim gN.trim l).1 (show r < (Tg.trim M).n from hr'.2)
        omega
  · rw [List.map_flatMap]
    refine flatMap_congr' gM gN b fun r hr => ?_
    have hr' := uN r hr
    rw [List.filterMap_append, List.filterMap_map, fm_none gM gN b (l := Tg.usefulL M) (fun q hq => ?_), List.nil_append, List.map_filterMap]
    · refine fm_congr gM gN b fun q hq => ?_
      have hq' := uN q hq
      show (ledAt B (r + M.n) (q + M.n)).map _ = ((ledAt N r q).map _).map _
      unfold ledAt
      by_cases c : r = q
      · rw [if_pos c, if_pos (by rw [c])]; rfl
      · rw [if_neg c, if_neg (by omega), show fo (PL (Tg.trim B).S (r + M.n) (q + M.n)) = fo (PL (Tg.trim N).S r q) from fo_congr (t.plN gM.trim gN.trim hr'.1 hq'.1)]
        simp [Option.map_map, Function.comp_def]
    · have hq' := uM q hq
      show (ledAt B (r + M.n) q).map _ = none
      unfold ledAt
      rw [if_neg (by omega), fo_no fun w l => ?_]
      · rfl
      · have z : M.n ≤ q := (t.cross gM.trim gN.trim l).2 (show (Tg.trim M).n ≤ r + M.n by show M.n ≤ _; omega)
        omega
end
end Tg
/-! Triesgrow, plain mathematics D: ranks and growth. -/
namespace Tg
open Classical

theorem least_ex {P : Nat → Prop} (h : ∃ n, P n) : ∃ n, P n ∧ ∀ m, P m → n ≤ m := by
  obtain ⟨n, hn⟩ := h
  induction n using Nat.strongRecOn with
  | _ n ih =>
    by_cases c : ∃ m, m < n ∧ P m
    · obtain ⟨m, hm, pm⟩ := c
      exact ih m hm pm
    · exact ⟨n, hn, fun m pm => Nat.le_of_not_lt fun z => c ⟨m, z, pm⟩⟩
theorem least_word : ∀ (n : Nat) (P : List Nat → Prop), (∃ w, w.length = n ∧ P w) → ∃ w, w.length = n ∧ P w ∧ ∀ v, v.length = n → P v → v = w ∨ Sl w v
  | 0, P, ⟨w, hw, pw⟩ => ⟨w, hw, pw, fun v hv _ => .inl ((List.eq_nil_of_length_eq_zero hv).trans (List.eq_nil_of_length_eq_zero hw).symm)⟩
  | n + 1, P, ⟨w, hw, pw⟩ => by
    cases w with
    | nil => simp at hw
    | cons a u =>
      obtain ⟨u0, l0, ⟨a1, p1⟩, m0⟩ := least_word n (fun u => ∃ a, P (a :: u)) ⟨u, by simpa using hw, a, pw⟩
      obtain ⟨a0, p0, ma⟩ := least_ex (P := fun a => P (a :: u0)) ⟨a1, p1⟩
      refine ⟨a0 :: u0, by simp [l0], p0, fun v hv pv => ?_⟩
      cases v with
      | nil => simp at hv
      | cons b v =>
        rcases m0 v (by simpa using hv) ⟨b, pv⟩ with e | e
        · subst e
          rcases Nat.lt_or_eq_of_le (ma b pv) with q | q
          · exact .inr (.inr ⟨rfl, q⟩)
          · exact .inl (by rw [q])
        · exact .inr (.inl e)
theorem sl_len : ∀ {v w : List Nat}, v.length < w.length → Sl v w
  | [], [], h => by simp at h
  | [], _ :: _, _ => trivial
  | _ :: _, [], h => by simp at h
  | _ :: v, _ :: w, h => .inl (sl_len (by simpa using h))
theorem first_ex {P : List Nat → Prop} (h : ∃ w, w ≠ [] ∧ P w) : ∃ w, First P w := by
  obtain ⟨w, hw, pw⟩ := h
  obtain ⟨n, ⟨w1, l1, n1, p1⟩, hm⟩ := least_ex (P := fun n => ∃ w, w.length = n ∧ w ≠ [] ∧ P w) ⟨w.length, w, rfl, hw, pw⟩
  obtain ⟨w0, l0, ⟨n0, p0⟩, h0⟩ := least_word n (fun w => w ≠ [] ∧ P w) ⟨w1, l1, n1, p1⟩
  refine ⟨w0, n0, p0, fun v hv pv => ?_⟩
  rcases Nat.lt_or_eq_of_le (hm v.length ⟨v, rfl, hv, pv⟩) with q | q
  · exact .inr (sl_len (by rw [l0]; exact q))
  · exact h0 v q.symm ⟨hv, pv⟩
theorem fo_some {P : List Nat → Prop} {w : List Nat} (h : fo P = some w) : First P w := by
  unfold fo at h
  by_cases e : ∃ r, FirstO P r
  · rw [dif_pos e] at h
    have q := e.choose_spec
    rw [h] at q
    exact q
  · rw [dif_neg e] at h
    cases h
theorem fo_none {P : List Nat → Prop} (h : fo P = none) {w : List Nat} (hw : w ≠ []) (pw : P w) : False := by
  obtain ⟨v, hv⟩ := first_ex ⟨w, hw, pw⟩
  rw [fo_eq (show FirstO P (some v) from hv)] at h
  cases h

/-! ### runs -/
theorem Leads.toL {S : List (Int × Nat × Int)} {s t : T3} {w : List Nat} (l : Leads (succL S) s w t) : Leads (tos S) s.1 w t.1 ∧ Leads (tos S) s.2.1 w t.2.1 ∧ Leads (tos S) s.2.2 w t.2.2 := by
  induction l with
  | nil => exact ⟨.nil, .nil, .nil⟩
  | cons _ e ih =>
    have q := mem_succL.mp e
    exact ⟨.cons ih.1 (mem_tos.mpr q.1), .cons ih.2.1 (mem_tos.mpr q.2.1), .cons ih.2.2 (mem_tos.mpr q.2.2)⟩
theorem pt_one {x y : Int} : pt 1 x y = 1 := by unfold pt; simp
theorem pt_ne {p x y : Int} (h : x ≠ y) : pt p x y = 1 := by unfold pt; simp [h]
theorem leads_two {S : List (Int × Nat × Int)} : ∀ {w : List Nat} {x y x' y' : Int} (f : Int), Leads (tos S) x w x' → Leads (tos S) y w y' → ∃ f', Leads (succD S) (x, y, f) w (x', y', f') ∧ (f = 1 → f' = 1) ∧ (w ≠ [] → x' ≠ y' → f' = 1)
  | [], x, y, x', y', f, h1, h2 => by
    obtain rfl := h1.nil_eq
    obtain rfl := h2.nil_eq
    exact ⟨f, .nil, id, fun z => (z rfl).elim⟩
  | a :: w, x, y, x', y', f, h1, h2 => by
    obtain ⟨u, l1, e1⟩ := h1.split
    obtain ⟨v, l2, e2⟩ := h2.split
    obtain ⟨f', l, k, _⟩ := leads_two f l1 l2
    refine ⟨pt f' x' y', .cons l (mem_succD.mpr ⟨mem_tos.mp e1, mem_tos.mp e2, rfl⟩), fun z => ?_, fun _ z => pt_ne z⟩
    rw [k z]; exact pt_one
theorem path_word {S : List (Int × Nat × Int)} {x r : Int} (h : Reach (S.map fun s => (s.1, s.2.2)) [x] r) : ∃ u, Leads (tos S) x u r := by
  induction h with
  | base h =>
    rw [List.mem_singleton] at h
    subst h
    exact ⟨[], .nil⟩
  | step _ e ih =>
    obtain ⟨u, l⟩ := ih
    obtain ⟨⟨p, a, q⟩, hm, e⟩ := List.mem_map.mp e
    simp only [Prod.mk.injEq] at e
    obtain ⟨rfl, rfl⟩ := e
    exact ⟨a :: u, .cons l (mem_tos.mpr hm)⟩
theorem word_path {S : List (Int × Nat × Int)} {x r : Int} {u : List Nat} (l : Leads (tos S) x u r) : Reach (S.map fun s => (s.1, s.2.2)) [x] r := by
  induction l with
  | nil => exact .base (by simp)
  | cons _ e ih => exact .step ih (List.mem_map.mpr ⟨_, mem_tos.mp e, rfl⟩)
/-- a room that leads another one's rounds, to which a word leads back, goes double -/
theorem led_back {S : List (Int × Nat × Int)} {p q : Int} (hne : p ≠ q) {w : List Nat} (hw : w ≠ []) (l : PL S p q w) (back : Reach (S.map fun s => (s.1, s.2.2)) [q] p) : ∃ v, v ≠ [] ∧ PD S p v := by
  obtain ⟨l1, l2, l3⟩ := l.toL
  obtain ⟨u, lu⟩ := path_word back
  obtain ⟨f1, d1, _, k1⟩ := leads_two 0 l1 l2
  have e1 : f1 = 1 := k1 hw hne
  obtain ⟨f2, d2, k2, _⟩ := leads_two f1 l2 l3
  obtain ⟨f3, d3, k3, _⟩ := leads_two f2 lu lu
  have e3 : f3 = 1 := k3 (k2 e1)
  rw [e3] at d3
  refine ⟨u ++ (w ++ w), fun z => ?_, (d1.app d2).app d3⟩
  have := (List.append_eq_nil_iff.mp (List.append_eq_nil_iff.mp z).2).1
  exact hw this

/-! ### ranks -/
def IsSol (led steps : List (Int × Int)) (f : Int → Nat) : Prop := (∀ p ∈ led, f p.1 + 1 ≤ f p.2) ∧ ∀ p ∈ steps, f p.1 ≤ f p.2
noncomputable def ledP (M : Mac) : List (Int × Int) := (ledL M).map fun p => (p.1, p.2.1)
noncomputable def stepP (M : Mac) : List (Int × Int) := (trim M).S.map fun s => (s.1, s.2.2)
noncomputable def rk (M : Mac) (r : Int) : Nat := if h : ∃ n, (∃ f, IsSol (ledP M) (stepP M) f ∧ f r = n) ∧ ∀ m, (∃ f, IsSol (ledP M) (stepP M) f ∧ f r = m) → n ≤ m then h.choose else 0
theorem rk_le {M : Mac} {f : Int → Nat} (h : IsSol (ledP M) (stepP M) f) (r : Int) : rk M r ≤ f r := by
  unfold rk
  have e := least_ex (P := fun n => ∃ f, IsSol (ledP M) (stepP M) f ∧ f r = n) ⟨f r, f, h, rfl⟩
  rw [dif_pos e]
  exact e.choose_spec.2 (f r) ⟨f, h, rfl⟩
theorem rk_at {M : Mac} (h : ∃ f, IsSol (ledP M) (stepP M) f) (r : Int) : ∃ f, IsSol (ledP M) (stepP M) f ∧ f r = rk M r := by
  obtain ⟨f, h⟩ := h
  unfold rk
  have e := least_ex (P := fun n => ∃ f, IsSol (ledP M) (stepP M) f ∧ f r = n) ⟨f r, f, h, rfl⟩
  rw [dif_pos e]
  exact e.choose_spec.1
theorem rk_sol {M : Mac} (h : ∃ f, IsSol (ledP M) (stepP M) f) : IsSol (ledP M) (stepP M) (rk M) := by
  refine ⟨fun p hp => ?_, fun p hp => ?_⟩
  · obtain ⟨f, hf, e⟩ := rk_at h p.2
    have := rk_le hf p.1
    have := hf.1 p hp
    omega
  · obtain ⟨f, hf, e⟩ := rk_at h p.2
    have := rk_le hf p.1
    have := hf.2 p hp
    omega
/-- the one that the loop finds -/
theorem rk_is {M : Mac} {f : Int → Nat} (h : IsSol (ledP M) (stepP M) f) {r : Int} (hm : ∀ g, IsSol (ledP M) (stepP M) g → f r ≤ g r) : rk M r = f r := by
  have h1 := rk_le h r
  have h2 := hm _ (rk_sol ⟨f, h⟩)
  omega
theorem filt_le {α : Type} {P Q : α → Prop} (h : ∀ x, P x → Q x) : ∀ l : List α, (l.filter fun x => decide (P x)).length ≤ (l.filter fun x => decide (Q x)).length
  | [] => Nat.le_refl _
  | a :: l => by
    have ih := filt_le h l
    rw [List.filter_cons, List.filter_cons]
    by_cases c : P a
    · rw [if_pos (by simpa using c), if_pos (by simpa using h a c), List.length_cons, List.length_cons]
      omega
    · rw [if_neg (by simpa using c)]
      by_cases d : Q a
      · rw [if_pos (by simpa using d), List.length_cons]
        omega
      · rw [if_neg (by simpa using d)]
        exact ih
theorem filt_lt {α : Type} {P Q : α → Prop} (h : ∀ x, P x → Q x) : ∀ {l : List α} {x : α}, x ∈ l → Q x → ¬ P x → (l.filter fun x => decide (P x)).length < (l.filter fun x => decide (Q x)).length
  | [], x, hx, _, _ => by cases hx
  | a :: l, x, hx, hq, hp => by
    have le := filt_le h l
    rw [List.filter_cons, List.filter_cons]
    rcases List.mem_cons.mp hx with e | hx
    · subst e
      rw [if_neg (by simpa using hp), if_pos (by simpa using hq), List.length_cons]
      omega
    · have ih := filt_lt h hx hq hp
      by_cases c : P a
      · rw [if_pos (by simpa using c), if_pos (by simpa using h a c), List.length_cons, List.length_cons]
        omega
      · rw [if_neg (by simpa using c)]
        by_cases d : Q a
        · rw [if_pos (by simpa using d), List.length_cons]
          omega
        · rw [if_neg (by simpa using d)]
          exact ih
theorem mem_ledP {M : Mac} {p q : Int} (h : (p, q) ∈ ledP M) : p ≠ q ∧ p ∈ usefulL M ∧ q ∈ usefulL M ∧ ∃ w, w ≠ [] ∧ PL (trim M).S p q w := by
  obtain ⟨⟨p', q', w⟩, hm, e⟩ := List.mem_map.mp h
  simp only [Prod.mk.injEq] at e
  obtain ⟨rfl, rfl⟩ := e
  obtain ⟨p1, hp, hm⟩ := List.mem_flatMap.mp hm
  obtain ⟨q1, hq, hm⟩ := List.mem_filterMap.mp hm
  cases e : ledAt M p1 q1 with
  | none => rw [e] at hm; cases hm
  | some v =>
    rw [e] at hm
    have z := Option.some.inj hm
    simp only [Prod.mk.injEq] at z
    obtain ⟨rfl, rfl, rfl⟩ := z
    unfold ledAt at e
    by_cases c : p1 = q1
    · rw [if_pos c] at e; cases e
    · rw [if_neg c] at e
      cases f : fo (PL (trim M).S p1 q1) with
      | none => rw [f] at e; cases e
      | some u =>
        have z := fo_some f
        exact ⟨c, hp, hq, u, z.1, z.2.1⟩
theorem not_double {M : Mac} (h : doubleL M = []) {r : Int} (hr : r ∈ usefulL M) {w : List Nat} (hw : w ≠ []) (l : PD (trim M).S r w) : False := by
  cases e : fo (PD (trim M).S r) with
  | none => exact fo_none e hw l
  | some v =>
    have z : (r, v.reverse) ∈ doubleL M := List.mem_filterMap.mpr ⟨r, hr, by unfold dblAt; rw [e]; rfl⟩
    rw [h] at z
    cases z
theorem reach_tr {E : List (Int × Int)} {x r t : Int} (h : Reach E [x] r) (g : Reach E [r] t) : Reach E [x] t := by
  induction g with
  | base h' =>
    rw [List.mem_singleton] at h'
    subst h'
    exact h
  | step _ e ih => exact .step ih e
theorem sol_ex {M : Mac} (g : Good M) (h : doubleL M = []) : ∃ f, IsSol (ledP M) (stepP M) f ∧ ∀ r, f r ≤ 12 := by
  refine ⟨fun r => ((usefulL M).filter fun x => decide (Reach (stepP M) [x] r)).length, ⟨fun p hp => ?_, fun p hp => ?_⟩, fun r => ?_⟩
  · obtain ⟨p, q⟩ := p
    obtain ⟨hne, hp1, hq1, w, hw, l⟩ := mem_ledP hp
    have l12 := l.toL.2.1
    have pq : Reach (stepP M) [p] q := word_path l12
    exact filt_lt (fun x hx => reach_tr hx pq) hq1 (.base (by simp)) fun back => by
      obtain ⟨v, hv, dv⟩ := led_back hne hw l back
      exact not_double h hp1 hv dv
  · exact filt_le (fun x hx => hx.step hp) _
  · refine Nat.le_trans (List.length_filter_le _ _) (Nat.le_trans (List.length_filter_le _ _) ?_)
    rw [rangeI_len]
    have := g.n2
    omega
noncomputable def ranksL (M : Mac) : Option (List (Option Int)) := if doubleL M = [] then some ((rangeI M.n).map fun r => if Useful M r then some (rk M r : Int) else none) else none
section
variable {M N B : Mac} (gM : Good M) (gN : Good N) (b : Beside M N B)
include gM gN b
theorem Beside.mem_ledP {p : Int × Int} : p ∈ ledP B ↔ p ∈ ledP M ∨ ∃ q ∈ ledP N, p = (q.1 + M.n, q.2 + M.n) := by
  unfold ledP
  rw [b.ledL gM gN, List.map_append, List.mem_append, List.map_map, List.mem_map (l := Tg.ledL N)]
  refine or_congr Iff.rfl ?_
  constructor
  · rintro ⟨x, hx, rfl⟩
    exact ⟨_, List.mem_map.mpr ⟨x, hx, rfl⟩, rfl⟩
  · rintro ⟨q, hq, rfl⟩
    obtain ⟨x, hx, rfl⟩ := List.mem_map.mp hq
    exact ⟨x, hx, rfl⟩
theorem Beside.mem_stepP {p : Int × Int} : p ∈ stepP B ↔ p ∈ stepP M ∨ ∃ q ∈ stepP N, p = (q.1 + M.n, q.2 + M.n) := by
  have t := b.trim gM gN
  unfold stepP
  rw [List.mem_map, List.mem_map]
  constructor
  · rintro ⟨s, hs, rfl⟩
    rw [t.S.mem_iff, List.mem_append, List.mem_map] at hs
    rcases hs with hs | ⟨s', hs, rfl⟩
    · exact .inl ⟨s, hs, rfl⟩
    · exact .inr ⟨_, List.mem_map.mpr ⟨s', hs, rfl⟩, rfl⟩
  · rintro (⟨s, hs, rfl⟩ | ⟨q, hq, rfl⟩)
    · exact ⟨s, t.S.mem_iff.mpr (List.mem_append_left _ hs), rfl⟩
    · obtain ⟨s, hs, rfl⟩ := List.mem_map.mp hq
      exact ⟨sh M.n s, t.S.mem_iff.mpr (List.mem_append_right _ (List.mem_map.mpr ⟨s, hs, rfl⟩)), rfl⟩
theorem ledP_range (g : Good M) : ∀ p ∈ ledP M, (0 ≤ p.1 ∧ p.1 < M.n) ∧ (0 ≤ p.2 ∧ p.2 < M.n) := fun p hp => by
  obtain ⟨p, q⟩ := p
  have z := Tg.mem_ledP hp
  exact ⟨g.range (g.mem_useful.mp z.2.1), g.range (g.mem_useful.mp z.2.2.1)⟩
theorem stepP_range (g : Good M) : ∀ p ∈ stepP M, (0 ≤ p.1 ∧ p.1 < M.n) ∧ (0 ≤ p.2 ∧ p.2 < M.n) := fun p hp => g.trim.eF p hp
theorem Beside.rk (hM : Tg.doubleL M = []) (hN : Tg.doubleL N = []) : (∀ r, r < M.n → rk B r = rk M r) ∧ ∀ r, 0 ≤ r → rk B (r + M.n) = rk N r := by
  obtain ⟨f, sf, _⟩ := sol_ex gM hM
  obtain ⟨g, sg, _⟩ := sol_ex gN hN
  have sM := rk_sol ⟨f, sf⟩
  have sN := rk_sol ⟨g, sg⟩
  have rM1 := ledP_range gM gN b gM
  have rM2 := stepP_range gM gN b gM
  have rN1 : ∀ p ∈ ledP N, (0 ≤ p.1 ∧ p.1 < N.n) ∧ (0 ≤ p.2 ∧ p.2 < N.n) := fun p hp => by
    obtain ⟨p, q⟩ := p
    have z := Tg.mem_ledP hp
    exact ⟨gN.range (gN.mem_useful.mp z.2.1), gN.range (gN.mem_useful.mp z.2.2.1)⟩
  have rN2 : ∀ p ∈ stepP N, (0 ≤ p.1 ∧ p.1 < N.n) ∧ (0 ≤ p.2 ∧ p.2 < N.n) := fun p hp => gN.trim.eF p hp
  have both : IsSol (ledP B) (stepP B) fun r => if r < M.n then Tg.rk M r else Tg.rk N (r - M.n) := by
    refine ⟨fun p hp => ?_, fun p hp => ?_⟩
    · rcases (b.mem_ledP gM gN).mp hp with h | ⟨q, h, rfl⟩
      · have q1 := (rM1 p h).1.2
        have q2 := (rM1 p h).2.2
        have z := sM.1 p h
        simp only [q1, q2, if_true]
        exact z
      · have q1 := (rN1 q h).1.1
        have q2 := (rN1 q h).2.1
        have z := sN.1 q h
        have n1 : ¬ q.1 + M.n < M.n := by omega
        have n2 : ¬ q.2 + M.n < M.n := by omega
        simp only [n1, n2, if_false, Int.add_sub_cancel]
        exact z
    · rcases (b.mem_stepP gM gN).mp hp with h | ⟨q, h, rfl⟩
      · have q1 := (rM2 p h).1.2
        have q2 := (rM2 p h).2.2
        have z := sM.2 p h
        simp only [q1, q2, if_true]
        exact z
      · have q1 := (rN2 q h).1.1
        have q2 := (rN2 q h).2.1
        have z := sN.2 q h
        have n1 : ¬ q.1 + M.n < M.n := by omega
        have n2 : ¬ q.2 + M.n < M.n := by omega
        simp only [n1, n2, if_false, Int.add_sub_cancel]
        exact z
  have sB := rk_sol ⟨_, both⟩
  refine ⟨fun r hr => ?_, fun r hr => ?_⟩
  · have h1 := rk_le both r
    rw [if_pos hr] at h1
    have h2 := rk_le (M := M) (f := Tg.rk B) ⟨fun p hp => sB.1 p ((b.mem_ledP gM gN).mpr (.inl hp)), fun p hp => sB.2 p ((b.mem_stepP gM gN).mpr (.inl hp))⟩ r
    omega
  · have h1 := rk_le both (r + M.n)
    rw [if_neg (by omega), Int.add_sub_cancel] at h1
    have h2 := rk_le (M := N) (f := fun x => Tg.rk B (x + M.n)) ⟨fun p hp => sB.1 _ ((b.mem_ledP gM gN).mpr (.inr ⟨p, hp, rfl⟩)), fun p hp => sB.2 _ ((b.mem_stepP gM gN).mpr (.inr ⟨p, hp, rfl⟩))⟩ r
    omega
theorem Beside.double_nil : Tg.doubleL B = [] ↔ Tg.doubleL M = [] ∧ Tg.doubleL N = [] := by
  rw [b.doubleL gM gN, List.append_eq_nil_iff, List.map_eq_nil_iff]
/-- ranks are those of both -/
theorem Beside.ranks {x y : List (Option Int)} (hx : ranksL M = some x) (hy : ranksL N = some y) : ranksL B = some (x ++ y) := by
  unfold ranksL at hx hy ⊢
  by_cases cM : Tg.doubleL M = []
  · by_cases cN : Tg.doubleL N = []
    · rw [if_pos cM] at hx
      rw [if_pos cN] at hy
      rw [if_pos ((b.double_nil gM gN).mpr ⟨cM, cN⟩)]
      obtain rfl := Option.some.inj hx
      obtain rfl := Option.some.inj hy
      have h1 := gM.n1
      have h2 := gN.n1
      obtain ⟨r1, r2⟩ := b.rk gM gN cM cN
      congr 1
      rw [b.n, rangeI_add (by omega) (by omega), List.map_append, List.map_map]
      congr 1
      · refine List.map_congr_left fun r hr => ?_
        have hr := (mem_rangeI.mp hr).2
        rw [r1 r hr]
        by_cases u : Useful M r
        · rw [if_pos u, if_pos ((b.usefulM gM gN hr).mpr u)]
        · rw [if_neg u, if_neg fun z => u ((b.usefulM gM gN hr).mp z)]
      · refine List.map_congr_left fun r hr => ?_
        have hr := (mem_rangeI.mp hr).1
        show (if Useful B (r + M.n) then some (Tg.rk B (r + M.n) : Int) else none) = _
        rw [r2 r hr]
        by_cases u : Useful N r
        · rw [if_pos u, if_pos ((b.usefulN gM gN hr).mpr u)]
        · rw [if_neg u, if_neg fun z => u ((b.usefulN gM gN hr).mp z)]
    · rw [if_neg cN] at hy; cases hy
  · rw [if_neg cM] at hx; cases hx
theorem Beside.ranks_none (h : ranksL M = none ∨ ranksL N = none) : ranksL B = none := by
  unfold ranksL at h ⊢
  refine if_neg fun z => ?_
  obtain ⟨z1, z2⟩ := (b.double_nil gM gN).mp z
  rcases h with h | h
  · rw [if_pos z1] at h; cases h
  · rw [if_pos z2] at h; cases h
end

/-! ### growth -/
def grk (l : List (Option Int)) : Int := (l.filterMap id).foldl max 0
theorem foldl_max (l : List Int) : ∀ a : Int, l.foldl max a = max a (l.foldl max a) := by
  induction l with
  | nil => intro a; simp
  | cons b l ih =>
    intro a
    rw [List.foldl_cons, ih (max a b)]
    omega
theorem foldl_max0 (l : List Int) : ∀ a : Int, 0 ≤ a → l.foldl max a = max a (l.foldl max 0) := by
  induction l with
  | nil => intro a ha; simp; omega
  | cons b l ih =>
    intro a ha
    rw [List.foldl_cons, List.foldl_cons, ih (max a b) (by omega), ih (max 0 b) (by omega)]
    omega
theorem grk_nn (l : List (Option Int)) : 0 ≤ grk l := by
  have := foldl_max (l.filterMap id) 0
  unfold grk
  omega
theorem grk_app (x y : List (Option Int)) : grk (x ++ y) = max (grk x) (grk y) := by
  unfold grk
  rw [List.filterMap_append, List.foldl_append]
  exact foldl_max0 _ _ (grk_nn x)
/-- it is the greatest -/
theorem grk_is {l : List (Option Int)} {m : Int} (hm : some m ∈ l) (h0 : 0 ≤ m) (h : ∀ x, some x ∈ l → x ≤ m) : grk l = m := by
  unfold grk
  have key : ∀ (l : List Int) (a : Int), (∀ x ∈ l, x ≤ m) → a ≤ m → (m ∈ l ∨ a = m) → l.foldl max a = m := by
    intro l
    induction l with
    | nil =>
      intro a _ _ h
      rcases h with h | h
      · cases h
      · exact h
    | cons b l ih =>
      intro a h1 h2 h3
      rw [List.foldl_cons]
      have hb := h1 b (List.mem_cons_self ..)
      refine ih _ (fun x hx => h1 x (List.mem_cons_of_mem _ hx)) (by omega) ?_
      rcases h3 with h3 | h3
      · rcases List.mem_cons.mp h3 with h3 | h3
        · exact .inr (by omega)
        · exact .inl h3
      · exact .inr (by omega)
  refine key _ 0 (fun x hx => ?_) h0 (.inl ?_)
  · obtain ⟨o, ho, e⟩ := List.mem_filterMap.mp hx
    obtain rfl : o = some x := e
    exact h x ho
  · exact List.mem_filterMap.mpr ⟨some m, hm, rfl⟩
theorem grk_none {l : List (Option Int)} (h : ∀ x, some x ∉ l) : grk l = 0 := by
  unfold grk
  rw [show l.filterMap id = [] from ?_]
  · rfl
  · rw [List.filterMap_eq_nil_iff]
    intro o ho
    cases o with
    | none => rfl
    | some x => exact (h x ho).elim
noncomputable def gsz (M : Mac) : Int := match ranksL M with
  | none => 100
  | some l => grk l
theorem gsz_some {M : Mac} {l : List (Option Int)} (h : ranksL M = some l) : gsz M = grk l := by unfold gsz; rw [h]
theorem gsz_none {M : Mac} (h : ranksL M = none) : gsz M = 100 := by unfold gsz; rw [h]
theorem ranks_mem {M : Mac} (g : Good M) {l : List (Option Int)} (h : ranksL M = some l) {x : Int} (hx : some x ∈ l) : 0 ≤ x ∧ x ≤ 12 := by
  unfold ranksL at h
  by_cases c : doubleL M = []
  · rw [if_pos c] at h
    obtain rfl := Option.some.inj h
    obtain ⟨r, _, e⟩ := List.mem_map.mp hx
    by_cases u : Useful M r
    · rw [if_pos u] at e
      have e' : (rk M r : Int) = x := Option.some.inj e
      obtain ⟨f, hf, hb⟩ := sol_ex g c
      have := rk_le hf r
      have := hb r
      omega
    · rw [if_neg u] at e; cases e
  · rw [if_neg c] at h; cases h
theorem grk_le {M : Mac} (g : Good M) {l : List (Option Int)} (h : ranksL M = some l) : grk l ≤ 12 := by
  have key : ∀ (l : List Int) (a : Int), (∀ x ∈ l, x ≤ 12) → a ≤ 12 → l.foldl max a ≤ 12 := by
    intro l
    induction l with
    | nil => intro a _ h; exact h
    | cons b l ih =>
      intro a h1 h2
      rw [List.foldl_cons]
      have hb := h1 b (List.mem_cons_self ..)
      exact ih _ (fun x hx => h1 x (List.mem_cons_of_mem _ hx)) (by omega)
  refine key _ 0 (fun x hx => ?_) (by omega)
  obtain ⟨o, ho, e⟩ := List.mem_filterMap.mp hx
  obtain rfl : o = some x := e
  exact (ranks_mem g h ho).2
theorem Beside.gsz {M N B : Mac} (gM : Good M) (gN : Good N) (b : Beside M N B) : gsz B = max (gsz M) (gsz N) := by
  cases hM : ranksL M with
  | none =>
    rw [gsz_none hM, gsz_none (b.ranks_none gM gN (.inl hM))]
    cases hN : ranksL N with
    | none => rw [gsz_none hN]; rfl
    | some y => have := grk_le gN hN; rw [gsz_some hN]; omega
  | some x =>
    cases hN : ranksL N with
    | none =>
      have := grk_le gM hM
      rw [gsz_none hN, gsz_none (b.ranks_none gM gN (.inr hN)), gsz_some hM]
      omega
    | some y => rw [gsz_some hM, gsz_some hN, gsz_some (b.ranks gM gN hM hN), grk_app]
end Tg
/-! Triesgrow, plain mathematics E: vectors, ways, beginnings, tries, the greatest number. -/
namespace Tg
open Classical

def smI : List Int → Int
  | [] => 0
  | a :: l => a + smI l
theorem smI_sum : ∀ l : List Int, l.sum = smI l
  | [] => rfl
  | a :: l => by rw [List.sum_cons, smI_sum l]; rfl
theorem smI_app : ∀ l r : List Int, smI (l ++ r) = smI l + smI r
  | [], r => by simp [smI]
  | a :: l, r => by
    show a + smI (l ++ r) = a + smI l + smI r
    rw [smI_app l r]
    omega
theorem smI_perm {l r : List Int} (h : l.Perm r) : smI l = smI r := by
  induction h with
  | nil => rfl
  | cons a _ ih => show a + _ = a + _; rw [ih]
  | swap a b l => show b + (a + smI l) = a + (b + smI l); omega
  | trans _ _ i1 i2 => exact i1.trans i2
theorem smI_nn : ∀ {l : List Int}, (∀ x ∈ l, 0 ≤ x) → 0 ≤ smI l
  | [], _ => Int.le_refl 0
  | a :: l, h => by
    have h1 := h a (List.mem_cons_self ..)
    have h2 := smI_nn fun x hx => h x (List.mem_cons_of_mem _ hx)
    show 0 ≤ a + smI l
    omega
theorem smI_zero : ∀ {l : List Int}, (∀ x ∈ l, x = 0) → smI l = 0
  | [], _ => rfl
  | a :: l, h => by
    have h1 := h a (List.mem_cons_self ..)
    have h2 := smI_zero fun x hx => h x (List.mem_cons_of_mem _ hx)
    show a + smI l = 0
    omega

/-! ### vectors: what stands at each room -/
abbrev Vec := Int → Int
def al (rooms : List Int) : Vec := fun r => if r ∈ rooms then 1 else 0
def mv (S : List (Int × Nat × Int)) (v : Vec) (a : Nat) : Vec := fun t => smI ((S.filter fun s => decide (s.2.1 = a ∧ s.2.2 = t)).map fun s => v s.1)
def mvs (S : List (Int × Nat × Int)) (v : Vec) (w : List Nat) : Vec := w.foldl (mv S) v
def sumAt (v : Vec) (rooms : List Int) : Int := smI (rooms.map v)
def tot (v : Vec) (n : Int) : Int := smI ((rangeI n).map v)
def waysI (M : Mac) (w : List Nat) : Int := sumAt (mvs M.S (al M.F) w) M.L
def begsFrom (M : Mac) (v : Vec) : List Nat → List Int
  | [] => [tot v M.n]
  | a :: w => tot v M.n :: begsFrom M (mv M.S v a) w
def begsI (M : Mac) (w : List Nat) : List Int := begsFrom M (al M.F) w
def triesI (M : Mac) (w : List Nat) : Int := smI (begsI M w)
theorem mv_snoc (S : List (Int × Nat × Int)) (s : Int × Nat × Int) (v : Vec) (a : Nat) (t : Int) : mv (S ++ [s]) v a t = mv S v a t + if s.2.1 = a ∧ s.2.2 = t then v s.1 else 0 := by
  unfold mv
  rw [List.filter_append, List.map_append, smI_app]
  congr 1
  rw [List.filter_cons]
  by_cases c : s.2.1 = a ∧ s.2.2 = t
  · rw [if_pos (by simpa using c), if_pos c]
    simp [smI]
  · rw [if_neg (by simpa using c), if_neg c]
    rfl
theorem mv_nil (v : Vec) (a : Nat) (t : Int) : mv [] v a t = 0 := rfl
theorem mv_nn {S : List (Int × Nat × Int)} {v : Vec} {a : Nat} (h : ∀ r, 0 ≤ v r) (t : Int) : 0 ≤ mv S v a t := smI_nn fun x hx => by
  obtain ⟨s, _, rfl⟩ := List.mem_map.mp hx
  exact h _
theorem al_nn (rooms : List Int) (r : Int) : 0 ≤ al rooms r := by unfold al; split <;> omega
theorem mvs_nn {S : List (Int × Nat × Int)} : ∀ {w : List Nat} {v : Vec}, (∀ r, 0 ≤ v r) → ∀ r, 0 ≤ mvs S v w r
  | [], _, h => h
  | a :: w, v, h => mvs_nn (w := w) (mv_nn h)
theorem mvs_snoc (S : List (Int × Nat × Int)) (v : Vec) (w : List Nat) (a : Nat) : mvs S v (w ++ [a]) = mv S (mvs S v w) a := by
  unfold mvs
  rw [List.foldl_append]
  rfl
theorem mv_zero {S : List (Int × Nat × Int)} {v : Vec} {a : Nat} (h : ∀ s ∈ S, v s.1 = 0) (t : Int) : mv S v a t = 0 := smI_zero fun x hx => by
  obtain ⟨s, hs, rfl⟩ := List.mem_map.mp hx
  exact h s (List.mem_filter.mp hs).1
theorem mv_congr {S : List (Int × Nat × Int)} {u v : Vec} {a : Nat} (h : ∀ s ∈ S, u s.1 = v s.1) (t : Int) : mv S u a t = mv S v a t := by
  unfold mv
  congr 1
  exact List.map_congr_left fun s hs => h s (List.mem_filter.mp hs).1

/-! ### side by side -/
structure Par (k : Int) (v v1 v2 : Vec) : Prop where
  one : ∀ r, r < k → v r = v1 r
  two : ∀ r, 0 ≤ r → v (r + k) = v2 r
section
variable {M N B : Mac} (gM : Good M) (gN : Good N) (b : Beside M N B)
include gM gN b
theorem Beside.al : Par M.n (al B.F) (al M.F) (al N.F) := by
  constructor
  · intro r hr
    unfold Tg.al
    have e : r ∈ B.F ↔ r ∈ M.F := by
      rw [b.F, List.mem_append, List.mem_map]
      constructor
      · rintro (h | ⟨q, h, rfl⟩)
        · exact h
        · have := (gN.Fr q h).1; omega
      · exact .inl
    simp only [e]
  · intro r hr
    unfold Tg.al
    have e : r + M.n ∈ B.F ↔ r ∈ N.F := by
      rw [b.F, List.mem_append, List.mem_map]
      constructor
      · rintro (h | ⟨q, h, e⟩)
        · have := (gM.Fr _ h).2; omega
        · obtain rfl : q = r := by omega
          exact h
      · intro h; exact .inr ⟨r, h, rfl⟩
    simp only [e]
theorem Beside.mv {v v1 v2 : Vec} (p : Par M.n v v1 v2) (a : Nat) : Par M.n (mv B.S v a) (mv M.S v1 a) (mv N.S v2 a) := by
  have key : ∀ t, Tg.mv B.S v a t = Tg.mv M.S v a t + smI (((N.S.map (sh M.n)).filter fun s => decide (s.2.1 = a ∧ s.2.2 = t)).map fun s => v s.1) := fun t => by
    unfold Tg.mv
    rw [smI_perm ((b.S.filter _).map _), List.filter_append, List.map_append, smI_app]
  constructor
  · intro t ht
    rw [key t, mv_congr (v := v1) fun s hs => p.one _ (gM.Sr s hs).1.2, smI_zero (l := List.map _ _) fun x hx => ?_, Int.add_zero]
    exfalso
    obtain ⟨s, hs, rfl⟩ := List.mem_map.mp hx
    rw [List.mem_filter, decide_eq_true_eq] at hs
    obtain ⟨hs, _, e⟩ := hs
    obtain ⟨s', hs', rfl⟩ := List.mem_map.mp hs
    have := (gN.Sr s' hs').2.2.1
    have e' : s'.2.2 + M.n = t := e
    omega
  · intro t ht
    rw [key (t + M.n)]
    have z : Tg.mv M.S v a (t + M.n) = 0 := by
      unfold Tg.mv
      refine smI_zero fun x hx => ?_
      exfalso
      obtain ⟨s, hs, rfl⟩ := List.mem_map.mp hx
      rw [List.mem_filter, decide_eq_true_eq] at hs
      obtain ⟨hs, _, e⟩ := hs
      have := (gM.Sr s hs).2.2.2
      omega
    rw [z, Int.zero_add]
    unfold Tg.mv
    rw [List.filter_map, List.map_map]
    congr 1
    rw [List.filter_congr (q := fun s => decide (s.2.1 = a ∧ s.2.2 = t))]
    · refine List.map_congr_left fun s hs => ?_
      exact p.two s.1 (gN.Sr s (List.mem_filter.mp hs).1).1.1
    · intro s _
      show decide (s.2.1 = a ∧ s.2.2 + M.n = t + M.n) = _
      rw [decide_eq_decide]
      constructor
      · rintro ⟨h1, h2⟩; exact ⟨h1, by omega⟩
      · rintro ⟨h1, h2⟩; exact ⟨h1, by omega⟩
theorem Beside.mvs {w : List Nat} : ∀ {v v1 v2 : Vec}, Par M.n v v1 v2 → Par M.n (mvs B.S v w) (mvs M.S v1 w) (mvs N.S v2 w) := by
  induction w with
  | nil => intro v v1 v2 p; exact p
  | cons a w ih => intro v v1 v2 p; exact ih (b.mv gM gN p a)
theorem sumAt_par {v v1 v2 : Vec} (p : Par M.n v v1 v2) : sumAt v B.L = sumAt v1 M.L + sumAt v2 N.L := by
  unfold sumAt
  rw [b.L, List.map_append, smI_app, List.map_map]
  congr 1
  · congr 1
    exact List.map_congr_left fun r hr => p.one r (gM.Lr r hr).2
  · congr 1
    exact List.map_congr_left fun r hr => p.two r (gN.Lr r hr).1
theorem tot_par {v v1 v2 : Vec} (p : Par M.n v v1 v2) : tot v B.n = tot v1 M.n + tot v2 N.n := by
  have h1 := gM.n1
  have h2 := gN.n1
  unfold tot
  rw [b.n, rangeI_add (by omega) (by omega), List.map_append, smI_app, List.map_map]
  congr 1
  · congr 1
    exact List.map_congr_left fun r hr => p.one r (mem_rangeI.mp hr).2
  · congr 1
    exact List.map_congr_left fun r hr => p.two r (mem_rangeI.mp hr).1
theorem Beside.ways (w : List Nat) : waysI B w = waysI M w + waysI N w := sumAt_par gM gN b (b.mvs gM gN (b.al gM gN))
theorem begs_par {w : List Nat} : ∀ {v v1 v2 : Vec}, Par M.n v v1 v2 → begsFrom B v w = List.zipWith (· + ·) (begsFrom M v1 w) (begsFrom N v2 w) := by
  induction w with
  | nil => intro v v1 v2 p; show [tot v B.n] = [tot v1 M.n + tot v2 N.n]; rw [tot_par gM gN b p]
  | cons a w ih =>
    intro v v1 v2 p
    show tot v B.n :: begsFrom B (Tg.mv B.S v a) w = (tot v1 M.n + tot v2 N.n) :: List.zipWith (· + ·) (begsFrom M (Tg.mv M.S v1 a) w) (begsFrom N (Tg.mv N.S v2 a) w)
    rw [tot_par gM gN b p, ih (b.mv gM gN p a)]
theorem Beside.begs (w : List Nat) : begsI B w = List.zipWith (· + ·) (begsI M w) (begsI N w) := begs_par gM gN b (b.al gM gN)
end
theorem begs_len (M : Mac) : ∀ (w : List Nat) (v : Vec), (begsFrom M v w).length = w.length + 1
  | [], _ => rfl
  | a :: w, v => by show (begsFrom M _ w).length + 1 = _; rw [begs_len M w]; rfl
theorem smI_zip : ∀ {l r : List Int}, l.length = r.length → smI (List.zipWith (· + ·) l r) = smI l + smI r
  | [], [], _ => rfl
  | [], _ :: _, h => by simp at h
  | _ :: _, [], h => by simp at h
  | a :: l, c :: r, h => by
    show a + c + smI (List.zipWith (· + ·) l r) = a + smI l + (c + smI r)
    rw [smI_zip (by simpa using h)]
    omega
theorem Beside.tries {M N B : Mac} (gM : Good M) (gN : Good N) (b : Beside M N B) (w : List Nat) : triesI B w = triesI M w + triesI N w := by
  unfold triesI
  rw [b.begs gM gN, smI_zip]
  unfold begsI
  rw [begs_len, begs_len]

/-! ### the greatest number of ways -/
noncomputable def valI (M : Mac) (w : List Nat) : Int := waysI (trim M) w
structure Grt (M : Mac) (G : Int) : Prop where
  nn : 0 ≤ G
  up : ∀ w, valI M w ≤ G
  has : G = 0 ∨ ∃ w, valI M w = G
theorem valI_nn (M : Mac) (w : List Nat) : 0 ≤ valI M w := smI_nn fun x hx => by
  obtain ⟨r, _, rfl⟩ := List.mem_map.mp hx
  exact mvs_nn (al_nn _) r
theorem Beside.grt {M N B : Mac} (gM : Good M) (gN : Good N) (b : Beside M N B) {x y z : Int} (hx : Grt M x) (hy : Grt N y) (hz : Grt B z) : max x y ≤ z ∧ z ≤ x + y := by
  have val : ∀ w, valI B w = valI M w + valI N w := fun w => (b.trim gM gN).ways gM.trim gN.trim w
  have h1 : x ≤ z := by
    rcases hx.has with h | ⟨w, h⟩
    · have := hz.nn; omega
    · have := hz.up w
      have := val w
      have := valI_nn N w
      omega
  have h2 : y ≤ z := by
    rcases hy.has with h | ⟨w, h⟩
    · have := hz.nn; omega
    · have := hz.up w
      have := val w
      have := valI_nn M w
      omega
  refine ⟨by omega, ?_⟩
  rcases hz.has with h | ⟨w, h⟩
  · have := hx.nn
    have := hy.nn
    omega
  · have := hx.up w
    have := hy.up w
    have := val w
    omega
/-- the loop's end: all vectors that words lead to are known, or 0 everywhere -/
theorem grt_of {M : Mac} {G : Int} {known : List (List Int)} (g : Good M) (nn : 0 ≤ G) (has : G = 0 ∨ ∃ w, valI M w = G) (beg : (rangeI M.n).map (al (trim M).F) ∈ known)
    (cl : ∀ v : Vec, (rangeI M.n).map v ∈ known → sumAt v (trim M).L ≤ G ∧ ∀ a, (∃ s ∈ (trim M).S, s.2.1 = a) → (rangeI M.n).map (mv (trim M).S v a) ∈ known ∨ ∀ r ∈ rangeI M.n, mv (trim M).S v a r = 0) : Grt M G := by
  have gt := g.trim
  have inR : ∀ s ∈ (trim M).S, s.1 ∈ rangeI M.n := fun s hs => mem_rangeI.mpr (gt.Sr s hs).1
  have key : ∀ (w : List Nat), (rangeI M.n).map (mvs (trim M).S (al (trim M).F) w) ∈ known ∨ ∀ r ∈ rangeI M.n, mvs (trim M).S (al (trim M).F) w r = 0 := by
    intro w
    -- words from behind
    have rev : ∀ (u : List Nat), (rangeI M.n).map (mvs (trim M).S (al (trim M).F) u.reverse) ∈ known ∨ ∀ r ∈ rangeI M.n, mvs (trim M).S (al (trim M).F) u.reverse r = 0 := by
      intro u
      induction u with
      | nil => exact .inl beg
      | cons a u ih =>
        rw [List.reverse_cons, mvs_snoc]
        by_cases c : ∃ s ∈ (trim M).S, s.2.1 = a
        · rcases ih with ih | ih
          · exact (cl _ ih).2 a c
          · exact .inr fun r _ => mv_zero (fun s hs => ih _ (inR s hs)) r
        · refine .inr fun r _ => smI_zero fun x hx => ?_
          obtain ⟨s, hs, rfl⟩ := List.mem_map.mp hx
          rw [List.mem_filter, decide_eq_true_eq] at hs
          exact (c ⟨s, hs.1, hs.2.1⟩).elim
    have := rev w.reverse
    rwa [List.reverse_reverse] at this
  refine ⟨nn, fun w => ?_, has⟩
  rcases key w with h | h
  · exact (cl _ h).1
  · show smI _ ≤ G
    rw [smI_zero fun x hx => ?_]
    · exact nn
    · obtain ⟨r, hr, rfl⟩ := List.mem_map.mp hx
      exact h r (mem_rangeI.mpr (gt.Lr r hr))
end Tg
/-! Triesgrow, the text by places -/
namespace Tw
open PySem L2 Tg
def top (i : Nat) : Stmt := PySem.Challenge.pw_triesgrow_k84_whole_side_by_side.main.body.getD i (.Pass ⟨0, 0, 0, 0⟩)
abbrev s_is_sign : Stmt := top 10
abbrev N_is_sign : List Str := ["thing"]
abbrev P_is_sign : List Str := ["thing"]
theorem sc_is_sign : FnScope N_is_sign P_is_sign (defScope s_is_sign) := ⟨rfl, rfl, rfl, by decide +kernel, rfl, by decide +kernel, by decide +kernel⟩
abbrev s_is_whole : Stmt := top 14
abbrev N_is_whole : List Str := ["thing"]
abbrev P_is_whole : List Str := ["thing"]
theorem sc_is_whole : FnScope N_is_whole P_is_whole (defScope s_is_whole) := ⟨rfl, rfl, rfl, by decide +kernel, rfl, by decide +kernel, by decide +kernel⟩
abbrev s_is_within : Stmt := top 15
abbrev N_is_within : List Str := ["thing", "least", "most"]
abbrev P_is_within : List Str := ["thing", "least", "most"]
theorem sc_is_within : FnScope N_is_within P_is_within (defScope s_is_within) := ⟨rfl, rfl, rfl, by decide +kernel, rfl, by decide +kernel, by decide +kernel⟩
abbrev s_look_at_rooms : Stmt := top 16
abbrev N_look_at_rooms : List Str := ["many", "part", "thing", "last", "number", "room"]
abbrev P_look_at_rooms : List Str := ["many", "part", "thing"]
theorem sc_look_at_rooms : FnScope N_look_at_rooms P_look_at_rooms (defScope s_look_at_rooms) := ⟨rfl, rfl, rfl, by decide +kernel, rfl, by decide +kernel, by decide +kernel⟩
abbrev s_is_step : Stmt := top 17
abbrev N_is_step : List Str := ["many", "thing"]
abbrev P_is_step : List Str := ["many", "thing"]
theorem sc_is_step : FnScope N_is_step P_is_step (defScope s_is_step) := ⟨rfl, rfl, rfl, by decide +kernel, rfl, by decide +kernel, by decide +kernel⟩
abbrev s_look_at_steps : Stmt := top 18
abbrev N_look_at_steps : List Str := ["many", "thing", "seen", "number", "step"]
abbrev P_look_at_steps : List Str := ["many", "thing"]
theorem sc_look_at_steps : FnScope N_look_at_steps P_look_at_steps (defScope s_look_at_steps) := ⟨rfl, rfl, rfl, by decide +kernel, rfl, by decide +kernel, by decide +kernel⟩
abbrev s_look_at : Stmt := top 19
abbrev N_look_at : List Str := ["thing", "many", "firsts", "lasts", "steps"]
abbrev P_look_at : List Str := ["thing"]
theorem sc_look_at : FnScope N_look_at P_look_at (defScope s_look_at) := ⟨rfl, rfl, rfl, by decide +kernel, rfl, by decide +kernel, by decide +kernel⟩
abbrev s_look_at_room : Stmt := top 20
abbrev N_look_at_room : List Str := ["machine", "room"]
abbrev P_look_at_room : List Str := ["machine", "room"]
theorem sc_look_at_room : FnScope N_look_at_room P_look_at_room (defScope s_look_at_room) := ⟨rfl, rfl, rfl, by decide +kernel, rfl, by decide +kernel, by decide +kernel⟩
abbrev s_come_to : Stmt := top 22
abbrev N_come_to : List Str := ["steps", "rooms", "found", "waiting", "room", "here", "to"]
abbrev P_come_to : List Str := ["steps", "rooms"]
theorem sc_come_to : FnScope N_come_to P_come_to (defScope s_come_to) := ⟨rfl, rfl, rfl, by decide +kernel, rfl, by decide +kernel, by decide +kernel⟩
abbrev s_useful : Stmt := top 23
abbrev N_useful : List Str := ["machine", "ahead", "room", "sign", "to", "behind"]
abbrev P_useful : List Str := ["machine"]
theorem sc_useful : FnScope N_useful P_useful (defScope s_useful) := ⟨rfl, rfl, rfl, by decide +kernel, rfl, by decide +kernel, by decide +kernel⟩
abbrev s_trimmed : Stmt := top 24
abbrev N_trimmed : List Str := ["machine", "rooms", "firsts", "room", "lasts", "step"]
abbrev P_trimmed : List Str := ["machine"]
theorem sc_trimmed : FnScope N_trimmed P_trimmed (defScope s_trimmed) := ⟨rfl, rfl, rfl, by decide +kernel, rfl, by decide +kernel, by decide +kernel⟩
abbrev s_signs_of : Stmt := top 25
abbrev N_signs_of : List Str := ["machine", "room", "sign", "to"]
abbrev P_signs_of : List Str := ["machine"]
theorem sc_signs_of : FnScope N_signs_of P_signs_of (defScope s_signs_of) := ⟨rfl, rfl, rfl, by decide +kernel, rfl, by decide +kernel, by decide +kernel⟩
abbrev s_by_signs : Stmt := top 26
abbrev N_by_signs : List Str := ["machine", "found", "room", "sign", "to"]
abbrev P_by_signs : List Str := ["machine"]
theorem sc_by_signs : FnScope N_by_signs P_by_signs (defScope s_by_signs) := ⟨rfl, rfl, rfl, by decide +kernel, rfl, by decide +kernel, by decide +kernel⟩
abbrev s_first_text : Stmt := top 27
abbrev N_first_text : List Str := ["signs", "start", "goal", "nexts", "known", "waiting", "some", "text", "sign", "found", "here", "to"]
abbrev P_first_text : List Str := ["signs", "start", "goal", "nexts"]
theorem sc_first_text : FnScope N_first_text P_first_text (defScope s_first_text) := ⟨rfl, rfl, rfl, by decide +kernel, rfl, by decide +kernel, by decide +kernel⟩
abbrev s_double_text : Stmt := top 30
abbrev N_double_text : List Str := ["table", "signs", "room", "nexts"]
abbrev P_double_text : List Str := ["table", "signs", "room"]
theorem sc_double_text : FnScope N_double_text P_double_text (defScope s_double_text) := ⟨rfl, rfl, rfl, by decide +kernel, rfl, by decide +kernel, by decide +kernel⟩
abbrev s_led_text : Stmt := top 31
abbrev N_led_text : List Str := ["table", "signs", "room", "other", "nexts"]
abbrev P_led_text : List Str := ["table", "signs", "room", "other"]
theorem sc_led_text : FnScope N_led_text P_led_text (defScope s_led_text) := ⟨rfl, rfl, rfl, by decide +kernel, rfl, by decide +kernel, by decide +kernel⟩
abbrev s_double_rounds : Stmt := top 32
abbrev N_double_rounds : List Str := ["machine", "rooms", "table", "found", "room", "text"]
abbrev P_double_rounds : List Str := ["machine"]
theorem sc_double_rounds : FnScope N_double_rounds P_double_rounds (defScope s_double_rounds) := ⟨rfl, rfl, rfl, by decide +kernel, rfl, by decide +kernel, by decide +kernel⟩
abbrev s_led_rounds : Stmt := top 33
abbrev N_led_rounds : List Str := ["machine", "rooms", "table", "signs", "found", "room", "other", "text"]
abbrev P_led_rounds : List Str := ["machine"]
theorem sc_led_rounds : FnScope N_led_rounds P_led_rounds (defScope s_led_rounds) := ⟨rfl, rfl, rfl, by decide +kernel, rfl, by decide +kernel, by decide +kernel⟩
abbrev s_raised : Stmt := top 35
abbrev N_raised : List Str := ["found", "pairs", "by", "changed", "room", "other"]
abbrev P_raised : List Str := ["found", "pairs", "by"]
theorem sc_raised : FnScope N_raised P_raised (defScope s_raised) := ⟨rfl, rfl, rfl, by decide +kernel, rfl, by decide +kernel, by decide +kernel⟩
abbrev s_ranks : Stmt := top 36
abbrev N_ranks : List Str := ["machine", "rooms", "led", "room", "other", "text", "steps", "sign", "to", "found", "changed"]
abbrev P_ranks : List Str := ["machine"]
theorem sc_ranks : FnScope N_ranks P_ranks (defScope s_ranks) := ⟨rfl, rfl, rfl, by decide +kernel, rfl, by decide +kernel, by decide +kernel⟩
abbrev s_greatest_rank : Stmt := top 37
abbrev N_greatest_rank : List Str := ["some", "rank"]
abbrev P_greatest_rank : List Str := ["some"]
theorem sc_greatest_rank : FnScope N_greatest_rank P_greatest_rank (defScope s_greatest_rank) := ⟨rfl, rfl, rfl, by decide +kernel, rfl, by decide +kernel, by decide +kernel⟩
abbrev s_growth : Stmt := top 38
abbrev N_growth : List Str := ["machine", "some"]
abbrev P_growth : List Str := ["machine"]
theorem sc_growth : FnScope N_growth P_growth (defScope s_growth) := ⟨rfl, rfl, rfl, by decide +kernel, rfl, by decide +kernel, by decide +kernel⟩
abbrev s_look_at_word : Stmt := top 40
abbrev N_look_at_word : List Str := ["text", "at", "sign"]
abbrev P_look_at_word : List Str := ["text"]
theorem sc_look_at_word : FnScope N_look_at_word P_look_at_word (defScope s_look_at_word) := ⟨rfl, rfl, rfl, by decide +kernel, rfl, by decide +kernel, by decide +kernel⟩
abbrev s_alone_at : Stmt := top 41
abbrev N_alone_at : List Str := ["machine", "rooms", "room"]
abbrev P_alone_at : List Str := ["machine", "rooms"]
theorem sc_alone_at : FnScope N_alone_at P_alone_at (defScope s_alone_at) := ⟨rfl, rfl, rfl, by decide +kernel, rfl, by decide +kernel, by decide +kernel⟩
abbrev s_moved : Stmt := top 42
abbrev N_moved : List Str := ["machine", "vector", "sign", "later", "room", "letter", "to"]
abbrev P_moved : List Str := ["machine", "vector", "sign"]
theorem sc_moved : FnScope N_moved P_moved (defScope s_moved) := ⟨rfl, rfl, rfl, by decide +kernel, rfl, by decide +kernel, by decide +kernel⟩
abbrev s_moved_by : Stmt := top 43
abbrev N_moved_by : List Str := ["machine", "vector", "text", "sign"]
abbrev P_moved_by : List Str := ["machine", "vector", "text"]
theorem sc_moved_by : FnScope N_moved_by P_moved_by (defScope s_moved_by) := ⟨rfl, rfl, rfl, by decide +kernel, rfl, by decide +kernel, by decide +kernel⟩
abbrev s_sum_at : Stmt := top 44
abbrev N_sum_at : List Str := ["vector", "rooms", "room"]
abbrev P_sum_at : List Str := ["vector", "rooms"]
theorem sc_sum_at : FnScope N_sum_at P_sum_at (defScope s_sum_at) := ⟨rfl, rfl, rfl, by decide +kernel, rfl, by decide +kernel, by decide +kernel⟩
abbrev s_ways : Stmt := top 45
abbrev N_ways : List Str := ["machine", "text", "first", "last", "firsts", "lasts"]
abbrev P_ways : List Str := ["machine", "text", "first", "last"]
theorem sc_ways : FnScope N_ways P_ways (defScope s_ways) := ⟨rfl, rfl, rfl, by decide +kernel, rfl, by decide +kernel, by decide +kernel⟩
abbrev s_beginnings_by : Stmt := top 46
abbrev N_beginnings_by : List Str := ["machine", "text", "vector", "found", "sign"]
abbrev P_beginnings_by : List Str := ["machine", "text"]
theorem sc_beginnings_by : FnScope N_beginnings_by P_beginnings_by (defScope s_beginnings_by) := ⟨rfl, rfl, rfl, by decide +kernel, rfl, by decide +kernel, by decide +kernel⟩
abbrev s_ranks_or_doubling : Stmt := top 56
abbrev N_ranks_or_doubling : List Str := ["machine", "some"]
abbrev P_ranks_or_doubling : List Str := ["machine"]
theorem sc_ranks_or_doubling : FnScope N_ranks_or_doubling P_ranks_or_doubling (defScope s_ranks_or_doubling) := ⟨rfl, rfl, rfl, by decide +kernel, rfl, by decide +kernel, by decide +kernel⟩
abbrev s_greatest : Stmt := top 57
abbrev N_greatest : List Str := ["machine", "some", "there", "begin", "known", "waiting", "found", "vector", "text", "sign", "later"]
abbrev P_greatest : List Str := ["machine"]
theorem sc_greatest : FnScope N_greatest P_greatest (defScope s_greatest) := ⟨rfl, rfl, rfl, by decide +kernel, rfl, by decide +kernel, by decide +kernel⟩
abbrev s_tries_all : Stmt := top 59
abbrev N_tries_all : List Str := ["machine", "text"]
abbrev P_tries_all : List Str := ["machine", "text"]
theorem sc_tries_all : FnScope N_tries_all P_tries_all (defScope s_tries_all) := ⟨rfl, rfl, rfl, by decide +kernel, rfl, by decide +kernel, by decide +kernel⟩
abbrev s_law_hand : Stmt := top 61
abbrev N_law_hand : List Str := ["_law_script", "_law_k", "_law_cell", "_law_seed"]
abbrev P_law_hand : List Str := ["_law_script", "_law_k"]
theorem sc_law_hand : FnScope N_law_hand P_law_hand (defScope s_law_hand) := ⟨rfl, rfl, rfl, by decide +kernel, rfl, by decide +kernel, by decide +kernel⟩
abbrev s_law_draw : Stmt := top 62
abbrev N_law_draw : List Str := ["_law_hand_here", "_law_size_here", "_law_found"]
abbrev P_law_draw : List Str := ["_law_hand_here", "_law_size_here"]
theorem sc_law_draw : FnScope N_law_draw P_law_draw (defScope s_law_draw) := ⟨rfl, rfl, rfl, by decide +kernel, rfl, by decide +kernel, by decide +kernel⟩
abbrev s_law_rooms : Stmt := top 63
abbrev N_law_rooms : List Str := ["_law_hand_here", "_law_size_here", "_law_some", "_law_room"]
abbrev P_law_rooms : List Str := ["_law_hand_here", "_law_size_here"]
theorem sc_law_rooms : FnScope N_law_rooms P_law_rooms (defScope s_law_rooms) := ⟨rfl, rfl, rfl, by decide +kernel, rfl, by decide +kernel, by decide +kernel⟩
abbrev s_law_letters : Stmt := top 64
abbrev N_law_letters : List Str := ["_law_hand_here"]
abbrev P_law_letters : List Str := ["_law_hand_here"]
theorem sc_law_letters : FnScope N_law_letters P_law_letters (defScope s_law_letters) := ⟨rfl, rfl, rfl, by decide +kernel, rfl, by decide +kernel, by decide +kernel⟩
abbrev s_law_machine : Stmt := top 65
abbrev N_law_machine : List Str := ["_law_hand_here", "_law_upto", "_law_extra", "_law_letters_here", "_law_rooms_here", "_law_firsts", "_law_lasts", "_law_steps", "_law_k", "_law_step"]
abbrev P_law_machine : List Str := ["_law_hand_here", "_law_upto", "_law_extra", "_law_letters_here"]
theorem sc_law_machine : FnScope N_law_machine P_law_machine (defScope s_law_machine) := ⟨rfl, rfl, rfl, by decide +kernel, rfl, by decide +kernel, by decide +kernel⟩
abbrev s_law_word : Stmt := top 66
abbrev N_law_word : List Str := ["_law_hand_here", "_law_letters_here", "_law_upto", "_law_k"]
abbrev P_law_word : List Str := ["_law_hand_here", "_law_letters_here", "_law_upto"]
theorem sc_law_word : FnScope N_law_word P_law_word (defScope s_law_word) := ⟨rfl, rfl, rfl, by decide +kernel, rfl, by decide +kernel, by decide +kernel⟩
abbrev s_law_beside : Stmt := top 67
abbrev N_law_beside : List Str := ["_law_hand_here", "_law_one", "_law_other", "_law_by", "_law_steps", "_law_room", "_law_sign", "_law_to", "_law_firsts"]
abbrev P_law_beside : List Str := ["_law_hand_here", "_law_one", "_law_other"]
theorem sc_law_beside : FnScope N_law_beside P_law_beside (defScope s_law_beside) := ⟨rfl, rfl, rfl, by decide +kernel, rfl, by decide +kernel, by decide +kernel⟩
abbrev s_law_size : Stmt := top 68
abbrev N_law_size : List Str := ["_law_grows"]
abbrev P_law_size : List Str := ["_law_grows"]
theorem sc_law_size : FnScope N_law_size P_law_size (defScope s_law_size) := ⟨rfl, rfl, rfl, by decide +kernel, rfl, by decide +kernel, by decide +kernel⟩
abbrev s_law_greatest : Stmt := top 69
abbrev N_law_greatest : List Str := ["_law_machine_here", "_law_found", "e"]
abbrev P_law_greatest : List Str := ["_law_machine_here"]
theorem sc_law_greatest : FnScope N_law_greatest P_law_greatest (defScope s_law_greatest) := ⟨rfl, rfl, rfl, by decide +kernel, rfl, by decide +kernel, by decide +kernel⟩
abbrev s_law_structure_right : Stmt := top 70
abbrev N_law_structure_right : List Str := ["_law_one", "_law_other", "_law_both", "_law_by", "_law_room", "_law_doubles", "_law_word_here", "_law_more", "_law_to", "_law_parts"]
abbrev P_law_structure_right : List Str := ["_law_one", "_law_other", "_law_both"]
theorem sc_law_structure_right : FnScope N_law_structure_right P_law_structure_right (defScope s_law_structure_right) := ⟨rfl, rfl, rfl, by decide +kernel, rfl, by decide +kernel, by decide +kernel⟩
abbrev s_law_growth_right : Stmt := top 71
abbrev N_law_growth_right : List Str := ["_law_one", "_law_other", "_law_both", "_law_sizes", "_law_many"]
abbrev P_law_growth_right : List Str := ["_law_one", "_law_other", "_law_both"]
theorem sc_law_growth_right : FnScope N_law_growth_right P_law_growth_right (defScope s_law_growth_right) := ⟨rfl, rfl, rfl, by decide +kernel, rfl, by decide +kernel, by decide +kernel⟩
abbrev s_law : Stmt := top 72
abbrev N_law : List Str := ["_law_script", "_law_k", "_law_hand_here", "_law_letters_here", "_law_one", "_law_other", "_law_both", "_law_turn", "_law_word_here", "_law_some", "_law_a", "_law_b"]
abbrev P_law : List Str := ["_law_script"]
theorem sc_law : FnScope N_law P_law (defScope s_law) := ⟨rfl, rfl, rfl, by decide +kernel, rfl, by decide +kernel, by decide +kernel⟩
/-- a def of the top as it stands behind it -/
structure Df (K : PySem.W.Frag) (mg : Str → Option Value) (x : Str) (st : Stmt) (ps : List Str) where
  f : Addr
  fd : FuncData
  F : Fun K x x st f fd
  g : mg x = some (.ref f)
  b : Binds K fd ps []
/-- the same with defaults -/
structure DfD (K : PySem.W.Frag) (mg : Str → Option Value) (x : Str) (st : Stmt) (ps : List Str) (dvs : List V) where
  f : Addr
  fd : FuncData
  F : FunD K x x (defArgs st) (defBody st) (defScope st) dvs [] f fd
  g : mg x = some (.ref f)
  ds : List Value
  b : Binds K fd ps ds
  dv : Vals dvs ds
/-- the same, its code object told -/
structure FunC (K : PySem.W.Frag) (x qual : Str) (st : Stmt) (c f : Addr) (fd : FuncData) : Prop where
  ex : ∃ (oc : Value) (od : Option Addr) (kV doc pm : Value) (an : Option Addr) (ct : Value) (osl : Array (Option Value)),
    fd = PySem.W.fnOf x qual (defArgs st) (defBody st) (defScope st) .none kV doc pm an (.ref c) ct ∧ K.lookup f = some ⟨oc, od, .func fd, osl⟩ ∧ PySem.W.codeIn K (.ref c) qual = true
  kp : PySem.W.keepIn K (.ref f) = true
structure DfC (K : PySem.W.Frag) (mg : Str → Option Value) (x : Str) (st : Stmt) (ps : List Str) where
  f : Addr
  c : Addr
  P : Addr
  fd : FuncData
  F : FunC K x x st c f fd
  g : mg x = some (.ref f)
  b : Binds K fd ps []
abbrev nmD : Nat → Nat → Str := fun _ _ => ("double_text" : Str) ++ ".<locals>." ++ "nexts"
abbrev nmL : Nat → Nat → Str := fun _ _ => ("led_text" : Str) ++ ".<locals>." ++ "nexts"
abbrev ofT : List Value := [.type "OverflowError", .type "ArithmeticError", .type "Exception", .type "BaseException", .type "object"]
/-- what is told of the class TooMany -/
structure TmC (K : PySem.W.Frag) (C : Addr) : Prop where
  cls : ∃ nm q N bs sn sub ab col dd k0 k1 k2 k3 k5, K.lookup C = some (excClassObj nm q C N bs ofT true sn sub ab col dd k0 k1 k2 k3 k5 "OverflowError.__new__")
  sa : PySem.W.findIn K (.ref C) "__setattr__" = some (some (.builtin "object.__setattr__"))
  exC : PySem.W.subIn K (.ref C) (.type "BaseException") = some true
  tyC : PySem.W.typeIn K (.ref C) = some (.type "type")
  kC : PySem.W.keepIn K (.ref C) = true
  noM : PySem.W.findIn K (.ref C) "many" = some none
def s_tmInit : Stmt := match top 4 with
  | .ClassDef _ _ _ body _ _ _ _ _ _ _ => body.getD 0 (.Pass ⟨0, 0, 0, 0⟩)
  | x => x
theorem sc_tmInit : FnScope ["self", "many"] ["self", "many"] (defScope s_tmInit) := ⟨rfl, rfl, rfl, by decide +kernel, rfl, by decide +kernel, by decide +kernel⟩
structure Tm (K : PySem.W.Frag) (mg : Str → Option Value) where
  C : Addr
  f : Addr
  fd : FuncData
  T : TmC K C
  gC : mg "TooMany" = some (.ref C)
  iC : PySem.W.findIn K (.ref C) "__init__" = some (some (.ref f))
  tI : PySem.W.typeIn K (.ref f) = some (.type "function")
  F : Fun K "__init__" "TooMany.__init__" s_tmInit f fd
  b : Binds K fd ["self", "many"] []
  te : PySem.W.exmOne K (.ref C) (.ref C) = some true
  mO : mg "OverflowError" = none
  vV : PySem.W.findCls K (.type "OverflowError") (.type "type") "__init__" = some (.val (.builtin "OverflowError.__init__"))
/-- what the top has written -/
structure Txt (K : PySem.W.Frag) (mg : Str → Option Value) where
  Ts : List NdefX.NTab
  is_sign : Df K mg "is_sign" s_is_sign P_is_sign
  is_whole : Df K mg "is_whole" s_is_whole P_is_whole
  is_within : Df K mg "is_within" s_is_within P_is_within
  look_at_rooms : Df K mg "look_at_rooms" s_look_at_rooms P_look_at_rooms
  is_step : Df K mg "is_step" s_is_step P_is_step
  look_at_steps : Df K mg "look_at_steps" s_look_at_steps P_look_at_steps
  look_at : Df K mg "look_at" s_look_at P_look_at
  look_at_room : Df K mg "look_at_room" s_look_at_room P_look_at_room
  come_to : Df K mg "come_to" s_come_to P_come_to
  useful : Df K mg "useful" s_useful P_useful
  trimmed : Df K mg "trimmed" s_trimmed P_trimmed
  signs_of : Df K mg "signs_of" s_signs_of P_signs_of
  by_signs : Df K mg "by_signs" s_by_signs P_by_signs
  first_text : Df K mg "first_text" s_first_text P_first_text
  double_text : DfC K mg "double_text" s_double_text P_double_text
  led_text : DfC K mg "led_text" s_led_text P_led_text
  double_rounds : Df K mg "double_rounds" s_double_rounds P_double_rounds
  led_rounds : Df K mg "led_rounds" s_led_rounds P_led_rounds
  raised : Df K mg "raised" s_raised P_raised
  ranks : Df K mg "ranks" s_ranks P_ranks
  greatest_rank : Df K mg "greatest_rank" s_greatest_rank P_greatest_rank
  growth : Df K mg "growth" s_growth P_growth
  look_at_word : Df K mg "look_at_word" s_look_at_word P_look_at_word
  alone_at : Df K mg "alone_at" s_alone_at P_alone_at
  moved : Df K mg "moved" s_moved P_moved
  moved_by : Df K mg "moved_by" s_moved_by P_moved_by
  sum_at : Df K mg "sum_at" s_sum_at P_sum_at
  ways : DfD K mg "ways" s_ways P_ways [.non, .non]
  beginnings_by : Df K mg "beginnings_by" s_beginnings_by P_beginnings_by
  ranks_or_doubling : Df K mg "ranks_or_doubling" s_ranks_or_doubling P_ranks_or_doubling
  greatest : Df K mg "greatest" s_greatest P_greatest
  tries_all : Df K mg "tries_all" s_tries_all P_tries_all
  law_hand : Df K mg "_law_hand" s_law_hand P_law_hand
  law_draw : Df K mg "_law_draw" s_law_draw P_law_draw
  law_rooms : Df K mg "_law_rooms" s_law_rooms P_law_rooms
  law_letters : Df K mg "_law_letters" s_law_letters P_law_letters
  law_machine : Df K mg "_law_machine" s_law_machine P_law_machine
  law_word : Df K mg "_law_word" s_law_word P_law_word
  law_beside : Df K mg "_law_beside" s_law_beside P_law_beside
  law_size : Df K mg "_law_size" s_law_size P_law_size
  law_greatest : Df K mg "_law_greatest" s_law_greatest P_law_greatest
  law_structure_right : Df K mg "_law_structure_right" s_law_structure_right P_law_structure_right
  law_growth_right : Df K mg "_law_growth_right" s_law_growth_right P_law_growth_right
  law : Df K mg "law" s_law P_law
  t_MOST_WORD : Tok
  g_MOST_WORD : mg "MOST_WORD" = some (.int 400 t_MOST_WORD)
  t_MOST_ROOMS : Tok
  g_MOST_ROOMS : mg "MOST_ROOMS" = some (.int 12 t_MOST_ROOMS)
  t_MOST_STEPS : Tok
  g_MOST_STEPS : mg "MOST_STEPS" = some (.int 200 t_MOST_STEPS)
  t_MOST_MET : Tok
  g_MOST_MET : mg "MOST_MET" = some (.int 2000 t_MOST_MET)
  t_LETTERS : Tok
  g_LETTERS : mg "LETTERS" = some (.str "abcdefghijklmnopqrstuvwxyz" t_LETTERS)
  n_isinstance : mg "isinstance" = none
  n_str : mg "str" = none
  n_len : mg "len" = none
  n_int : mg "int" = none
  n_bool : mg "bool" = none
  n_list : mg "list" = none
  n_tuple : mg "tuple" = none
  n_enumerate : mg "enumerate" = none
  n_range : mg "range" = none
  n_sorted : mg "sorted" = none
  n_set : mg "set" = none
  n_max : mg "max" = none
  n_min : mg "min" = none
  n_sum : mg "sum" = none
  n_zip : mg "zip" = none
  tm : Tm K mg
  ts : Ts = [(double_text.P, nmD), (led_text.P, nmL)]
  ne : double_text.P ≠ led_text.P
end Tw
/-! Triesgrow: heaps that grow, data in them -/
namespace Tw
open PySem L2 Tg NdefX LamX

/-- all but tables stays, tables stay well -/
structure Xt (T : List NTab) (H H' : Hp) : Prop where
  dom : ∀ a, H' a = none → H a = none
  ext : ExtN H H'
  tab : TabsN T H → TabsN T H'
theorem Xt.refl {T : List NTab} (H : Hp) : Xt T H H := ⟨fun _ h => h, ExtN.refl H, id⟩
theorem Xt.trans {T : List NTab} {H H1 H2 : Hp} (a : Xt T H H1) (b : Xt T H1 H2) : Xt T H H2 := ⟨fun x h => a.dom x (b.dom x h), a.ext.trans b.ext, fun t => b.tab (a.tab t)⟩
theorem Xt.new {T : List NTab} {H : Hp} {p : Addr} {o : HO} (h : H p = none) : Xt T H (upd H p o) := by
  have e : ∀ b u, H b = some u → upd H p o b = some u := fun b u q => by rw [upd_ne (ne_of_none q h)]; exact q
  refine ⟨fun b q => ?_, ExtN.of e, fun t => t.ext e⟩
  by_cases z : b = p
  · exact z ▸ h
  · rwa [upd_ne z] at q
/-- an object that was not there at first may change, where it is no table and no code object -/
def Plain (u : HO) : Prop := (∀ ps, u ≠ .tbl ps) ∧ ∀ φ, u ≠ .ext φ
theorem plain_lst {xs : List V} : Plain (.lst xs) := ⟨fun _ z => (by cases z), fun _ z => (by cases z)⟩
theorem plain_dK {xs : List (Key × V)} : Plain (.dK xs) := ⟨fun _ z => (by cases z), fun _ z => (by cases z)⟩
theorem plain_dT {xs : List (List Key × V)} : Plain (.dT xs) := ⟨fun _ z => (by cases z), fun _ z => (by cases z)⟩
theorem tabs_put {T : List NTab} {H : Hp} {p : Addr} {u o : HO} (hp : H p = some u) (n : Plain u) (t : TabsN T H) : TabsN T (upd H p o) := fun q hq => by
  obtain ⟨ps, e1, e2, e3⟩ := t q hq
  refine ⟨ps, ?_, e2, fun pos cv hc => ?_⟩
  · rw [upd_ne fun z => n.1 ps (Option.some.inj (hp.symm.trans (by rw [← z]; exact e1)))]
    exact e1
  · obtain ⟨c, z1, z2⟩ := e3 pos cv hc
    refine ⟨c, z1, ?_⟩
    rw [upd_ne fun z => ?_]
    · exact z2
    · unfold CodeO at z2
      rw [z] at z2
      exact n.2 _ (Option.some.inj (hp.symm.trans z2))
theorem Xt.put {T : List NTab} {H H' : Hp} {p : Addr} {u o : HO} (e : Xt T H H') (h : H p = none) (hp : H' p = some u) (n : Plain u) : Xt T H (upd H' p o) :=
  ⟨fun b q => by
    by_cases z : b = p
    · exact z ▸ h
    · rw [upd_ne z] at q; exact e.dom b q,
  fun b v q nv => by rw [upd_ne (ne_of_none q h)]; exact e.ext b v q nv, fun t => tabs_put hp n (e.tab t)⟩
theorem Xt.at {T : List NTab} {H H' : Hp} (e : Xt T H H') {p : Addr} {o : HO} (h : H p = some o) (n : Plain o) : H' p = some o := e.ext p o h n.1
theorem Xt.tup {T : List NTab} {H H' : Hp} (e : Xt T H H') {p : Addr} {xs : List V} (h : H p = some (.tup xs)) : H' p = some (.tup xs) := e.ext p _ h fun _ z => by cases z
theorem Xt.lst {T : List NTab} {H H' : Hp} (e : Xt T H H') {p : Addr} {xs : List V} (h : H p = some (.lst xs)) : H' p = some (.lst xs) := e.ext p _ h fun _ z => by cases z
section
variable {T : List NTab} {K : PySem.W.Frag} {H H' : Hp}
theorem Xt.rd {a : Addr} {u : HO} (e : Xt T H H') (n : ∀ ps, u ≠ .tbl ps) (h : Rd H a u) : Rd H' a u := by
  rcases h with h | ⟨o, h⟩
  · exact .inl (e.ext a _ h n)
  · exact .inr ⟨o, e.ext a _ h fun _ z => by cases z⟩
theorem Xt.sl {a : Addr} {xs : List V} (e : Xt T H H') (h : SqL K H a xs) : SqL K H' a xs := by
  rcases h with h | h
  · exact .inl (e.rd (fun _ z => by cases z) h)
  · exact .inr h
theorem Xt.st {a : Addr} {xs : List V} (e : Xt T H H') (h : SqT K H a xs) : SqT K H' a xs := by
  rcases h with h | h
  · exact .inl (e.rd (fun _ z => by cases z) h)
  · exact .inr h
end
mutual
/-- data that is tracked as it stands -/
inductive Rp (H : Hp) : V → PyData → Prop
  | non : Rp H .non .none
  | bl (b : Bool) : Rp H (.bl b) (.bool b)
  | int (i : Int) : Rp H (.int i) (.int i)
  | str (x : Str) : Rp H (.str x) (.str x)
  | lst {a : Addr} {xs : List V} {ds : List PyData} (h : H a = some (.lst xs)) (t : RpAll H xs ds) : Rp H (.ref a) (.list ds)
  | tup {a : Addr} {xs : List V} {ds : List PyData} (h : H a = some (.tup xs)) (t : RpAll H xs ds) : Rp H (.ref a) (.tuple ds)
inductive RpAll (H : Hp) : List V → List PyData → Prop
  | nil : RpAll H [] []
  | cons {v : V} {vs : List V} {d : PyData} {ds : List PyData} (h : Rp H v d) (t : RpAll H vs ds) : RpAll H (v :: vs) (d :: ds)
end
section
variable {T : List NTab} {K : PySem.W.Frag} {H H' : Hp}
/-- lists and tuples that stand, stand there too -/
def Sub (H H' : Hp) : Prop := (∀ a xs, H a = some (.lst xs) → H' a = some (.lst xs)) ∧ ∀ a xs, H a = some (.tup xs) → H' a = some (.tup xs)
theorem Xt.sub (e : Xt T H H') : Sub H H' := ⟨fun _ _ h => e.lst h, fun _ _ h => e.tup h⟩
mutual
theorem rp_sub (e : Sub H H') : ∀ {v : V} (d : PyData), Rp H v d → Rp H' v d
  | _, .none, .non => .non
  | _, .bool _, .bl b => .bl b
  | _, .int _, .int i => .int i
  | _, .str _, .str x => .str x
  | _, .list ds, .lst h a => .lst (e.1 _ _ h) (rps_sub e ds a)
  | _, .tuple ds, .tup h a => .tup (e.2 _ _ h) (rps_sub e ds a)
theorem rps_sub (e : Sub H H') : ∀ {vs : List V} (ds : List PyData), RpAll H vs ds → RpAll H' vs ds
  | _, [], .nil => .nil
  | _, d :: ds, .cons h t => .cons (rp_sub e d h) (rps_sub e ds t)
end
mutual
theorem rp_dp : ∀ {v : V} (d : PyData), Rp H v d → Dp K H v d
  | _, .none, .non => .non
  | _, .bool _, .bl b => .bl b
  | _, .int _, .int i => .int i
  | _, .str _, .str x => .str x
  | _, .list ds, .lst h a => .lst (.of h) (rps_dp ds a)
  | _, .tuple ds, .tup h a => .tup (.of h) (rps_dp ds a)
theorem rps_dp : ∀ {vs : List V} (ds : List PyData), RpAll H vs ds → DpAll K H vs ds
  | _, [], .nil => .nil
  | _, d :: ds, .cons h t => .cons (rp_dp d h) (rps_dp ds t)
end
theorem Rp.dp {v : V} {d : PyData} (h : Rp H v d) : Dp K H v d := rp_dp d h
theorem Xt.rp (e : Xt T H H') {v : V} {d : PyData} (h : Rp H v d) : Rp H' v d := rp_sub e.sub d h
theorem Xt.rps (e : Xt T H H') {vs : List V} {ds : List PyData} (h : RpAll H vs ds) : RpAll H' vs ds := rps_sub e.sub ds h
theorem RpAll.len : ∀ {vs : List V} {ds : List PyData}, RpAll H vs ds → vs.length = ds.length
  | _, _, .nil => rfl
  | _, _, .cons _ t => by rw [List.length_cons, List.length_cons, RpAll.len t]
theorem RpAll.get : ∀ {vs : List V} {ds : List PyData} {i : Nat} {v : V}, RpAll H vs ds → vs[i]? = some v → ∃ d, ds[i]? = some d ∧ Rp H v d
  | _, _, _, _, .nil, e => by simp at e
  | _, _, 0, _, .cons h _, e => by simp at e; subst e; exact ⟨_, rfl, h⟩
  | _, _, i + 1, _, .cons _ t, e => RpAll.get (i := i) t (by simpa using e)
theorem RpAll.app : ∀ {vs us : List V} {ds es : List PyData}, RpAll H vs ds → RpAll H us es → RpAll H (vs ++ us) (ds ++ es)
  | _, _, _, _, .nil, g => g
  | _, _, _, _, .cons h t, g => .cons h (RpAll.app t g)
theorem RpAll.one {v : V} {d : PyData} (h : Rp H v d) : RpAll H [v] [d] := .cons h .nil
/-- items by a map -/
theorem RpAll.getM {α : Type} {f : α → PyData} {vs : List V} {l : List α} {i : Nat} {v : V} (h : RpAll H vs (l.map f)) (e : vs[i]? = some v) : ∃ z, l[i]? = some z ∧ Rp H v (f z) := by
  obtain ⟨d, e1, h1⟩ := RpAll.get h e
  rw [List.getElem?_map] at e1
  cases q : l[i]? with
  | none => rw [q] at e1; cases e1
  | some z =>
    rw [q] at e1
    have e2 : f z = d := Option.some.inj e1
    exact ⟨z, rfl, e2 ▸ h1⟩
theorem RpAll.getI {α : Type} {f : α → PyData} {vs : List V} {l : List α} {i : Nat} {z : α} (h : RpAll H vs (l.map f)) (e : l[i]? = some z) : ∃ v, vs[i]? = some v ∧ Rp H v (f z) := by
  have hl := RpAll.len h
  rw [List.length_map] at hl
  have hi := (List.getElem?_eq_some_iff.mp e).1
  have e1 : vs[i]? = some vs[i] := List.getElem?_eq_getElem (by omega)
  obtain ⟨z', e2, h2⟩ := RpAll.getM h e1
  rw [e] at e2
  cases e2
  exact ⟨_, e1, h2⟩
theorem Rp.int_inv {v : V} {i : Int} (h : Rp H v (.int i)) : v = .int i := by cases h; rfl
theorem Rp.str_inv {v : V} {x : Str} (h : Rp H v (.str x)) : v = .str x := by cases h; rfl
theorem Rp.none_inv {v : V} (h : Rp H v .none) : v = .non := by cases h; rfl
theorem Rp.bool_inv {v : V} {b : Bool} (h : Rp H v (.bool b)) : v = .bl b := by cases h; rfl
theorem Rp.list_inv {v : V} {ds : List PyData} (h : Rp H v (.list ds)) : ∃ a xs, v = .ref a ∧ H a = some (.lst xs) ∧ RpAll H xs ds := by cases h with | lst h1 h2 => exact ⟨_, _, rfl, h1, h2⟩
theorem Rp.tuple_inv {v : V} {ds : List PyData} (h : Rp H v (.tuple ds)) : ∃ a xs, v = .ref a ∧ H a = some (.tup xs) ∧ RpAll H xs ds := by cases h with | tup h1 h2 => exact ⟨_, _, rfl, h1, h2⟩
theorem rps_ints : ∀ {vs : List V} {ns : List Int}, RpAll H vs (ns.map PyData.int) → vs = ns.map V.int
  | [], [], _ => rfl
  | [], _ :: _, h => by cases h
  | _ :: _, [], h => by cases h
  | v :: vs, n :: ns, h => by
    cases h with
    | cons h t =>
      rw [Rp.int_inv h, rps_ints t]
      rfl
theorem ints_rps : ∀ (ns : List Int), RpAll H (ns.map V.int) (ns.map PyData.int)
  | [] => .nil
  | n :: ns => .cons (.int n) (ints_rps ns)
theorem strs_rps : ∀ (ns : List Str), RpAll H (ns.map V.str) (ns.map PyData.str)
  | [] => .nil
  | n :: ns => .cons (.str n) (strs_rps ns)
theorem Rp.ints_inv {v : V} {ns : List Int} (h : Rp H v (.list (ns.map .int))) : ∃ a, v = .ref a ∧ H a = some (.lst (ns.map V.int)) := by
  obtain ⟨a, xs, e, h1, h2⟩ := Rp.list_inv h
  rw [rps_ints h2] at h1
  exact ⟨a, e, h1⟩
theorem Rp.ints {a : Addr} {ns : List Int} (h : H a = some (.lst (ns.map V.int))) : Rp H (.ref a) (.list (ns.map .int)) := .lst h (ints_rps ns)
end

/-! ### machines, words -/
def sg (c : Nat) : Str := ⟨#[c]⟩
def sD (s : Int × Nat × Int) : PyData := .tuple [.int s.1, .str (sg s.2.1), .int s.2.2]
def mD (M : Mac) : PyData := .tuple [.int M.n, .list (M.F.map .int), .list (M.L.map .int), .list (M.S.map sD)]
section
variable {H : Hp}
/-- a machine that stands at a -/
structure MAt (H : Hp) (M : Mac) (a : Addr) (f l s : Addr) (ss : List V) : Prop where
  t : H a = some (.tup [.int M.n, .ref f, .ref l, .ref s])
  f : H f = some (.lst (M.F.map V.int))
  l : H l = some (.lst (M.L.map V.int))
  s : H s = some (.lst ss)
  ss : RpAll H ss (M.S.map sD)
theorem mD_inv {v : V} {M : Mac} (h : Rp H v (mD M)) : ∃ a f l s ss, v = .ref a ∧ MAt H M a f l s ss := by
  obtain ⟨a, xs, rfl, ht, hx⟩ := Rp.tuple_inv h
  cases hx with
  | cons h1 r =>
    cases r with
    | cons h2 r =>
      cases r with
      | cons h3 r =>
        cases r with
        | cons h4 r =>
          cases r
          obtain rfl := Rp.int_inv h1
          obtain ⟨f, rfl, hf⟩ := Rp.ints_inv h2
          obtain ⟨l, rfl, hl⟩ := Rp.ints_inv h3
          obtain ⟨s, ss, rfl, hs, hss⟩ := Rp.list_inv h4
          exact ⟨a, f, l, s, ss, rfl, ht, hf, hl, hs, hss⟩
theorem MAt.rp {M : Mac} {a f l s : Addr} {ss : List V} (h : MAt H M a f l s ss) : Rp H (.ref a) (mD M) :=
  .tup h.t (.cons (.int _) (.cons (.ints h.f) (.cons (.ints h.l) (.cons (.lst h.s h.ss) .nil))))
theorem MAt.sub {H' : Hp} {M : Mac} {a f l s : Addr} {ss : List V} (e : Sub H H') (h : MAt H M a f l s ss) : MAt H' M a f l s ss := ⟨e.2 _ _ h.t, e.1 _ _ h.f, e.1 _ _ h.l, e.1 _ _ h.s, rps_sub e _ h.ss⟩
theorem MAt.mono {T : List NTab} {H' : Hp} {M : Mac} {a f l s : Addr} {ss : List V} (e : Xt T H H') (h : MAt H M a f l s ss) : MAt H' M a f l s ss := h.sub e.sub
theorem sD_inv {v : V} {s : Int × Nat × Int} (h : Rp H v (sD s)) : ∃ a, v = .ref a ∧ H a = some (.tup [.int s.1, .str (sg s.2.1), .int s.2.2]) := by
  obtain ⟨a, xs, rfl, ht, hx⟩ := Rp.tuple_inv h
  cases hx with
  | cons h1 r =>
    cases r with
    | cons h2 r =>
      cases r with
      | cons h3 r =>
        cases r
        obtain rfl := Rp.int_inv h1
        obtain rfl := Rp.str_inv h2
        obtain rfl := Rp.int_inv h3
        exact ⟨a, rfl, ht⟩
theorem sD_of {a : Addr} {s : Int × Nat × Int} (h : H a = some (.tup [.int s.1, .str (sg s.2.1), .int s.2.2])) : Rp H (.ref a) (sD s) := .tup h (.cons (.int _) (.cons (.str _) (.cons (.int _) .nil)))
end
theorem len_le {n : Nat} (h : n ≤ 1000000) : n ≤ sizeLine := Nat.le_trans h (by decide)
theorem len_lt {n : Nat} (h : n ≤ 1000000) : n < sizeLine := Nat.lt_of_le_of_lt h (by decide)
theorem hu65 {A : Around} {k : Nat} (hr : Room k A) : A.units + 65 < cLine := by have := hr.un; omega
/-- what is wanted of a value that a def hands back: the heap has grown, the value is so -/
def Ret (T : List NTab) (H : Hp) (Q : VK) (post : V → Hp → Prop) : Prop := ∀ v H', Xt T H H' → post v H' → Q v H'
theorem Ret.go {T : List NTab} {H H' : Hp} {Q : VK} {post : V → Hp → Prop} (r : Ret T H Q post) {v : V} (e : Xt T H H') (p : post v H') : Q v H' := r v H' e p
end Tw
/-! Triesgrow: what looks at machines -/
namespace Tw
open PySem L2 Tg NdefX LamX
section
variable {K : PySem.W.Frag} {H : Hp}
theorem tyL {a : Addr} {xs : List V} (h : SqL K H a xs) : TyX K H (.ref a) (.type "list") := by
  rcases h with (h | ⟨o, h⟩) | ⟨o, its, n, h, c, _⟩
  · exact .base (.lst h)
  · exact .base (.frz h)
  · exact .kList h c
theorem tyT {a : Addr} {xs : List V} (h : SqT K H a xs) : TyX K H (.ref a) (.type "tuple") := by
  rcases h with (h | ⟨o, h⟩) | ⟨o, its, n, h, c, _⟩
  · exact .base (.tup h)
  · exact .fTuple h
  · exact .kTuple h c
end
theorem k_int : PySem.W.kitOne K (.type "int") (.type "int") = some true := kit_ty (by decide +kernel)
theorem k_intb : PySem.W.kitOne K (.type "int") (.type "bool") = some false := kit_ty (by decide +kernel)
theorem k_list : PySem.W.kitOne K (.type "list") (.type "list") = some true := kit_ty (by decide +kernel)
theorem k_tuple : PySem.W.kitOne K (.type "tuple") (.type "tuple") = some true := kit_ty (by decide +kernel)
theorem k_str : PySem.W.kitOne K (.type "str") (.type "str") = some true := kit_ty (by decide +kernel)
/-- for i, x in enumerate(a list that stays) -/
theorem for_enumL {K : PySem.W.Frag} {a : Addr} {xs : List V} {g : TG} {tb : TS} {D : Ends} {σ : L2.St} {H : Hp} (Pv : Nat → L2.St → Hp → Prop) (h0 : Pv 0 σ H) (hl : ∀ i σ H, Pv i σ H → SqL K H a xs)
    (hs : ∀ i x p σ H, xs[i]? = some x → Pv i σ H → H p = none → g (.ref p) σ (upd H p (.tup [.int (i : Nat), x])) fun σ2 H2 => tb { D with nx := Pv (i + 1), ct := Pv (i + 1), bk := D.nx } σ2 H2) (hd : ∀ σ H, Pv xs.length σ H → D.nx σ H) :
    ∃ W : Nat → Nat → L2.St → Hp → Prop, (∃ m, W 0 m σ H) ∧ ∀ i m σ H, W i m σ H →
      ((Ite K a).stop i H ∧ D.nx σ H) ∨ ((Ite K a).go i H ∧ ∃ N : L2.St → Hp → Prop, (∀ σ' H', N σ' H' → ∃ m', m' < m ∧ W (i + 1) m' σ' H') ∧ ∀ x H', (Ite K a).yld i H x H' → g x σ H' fun σ2 H2 => tb { D with nx := N, ct := N, bk := D.nx } σ2 H2) := by
  refine ⟨fun i m σ H => m = xs.length - i ∧ i ≤ xs.length ∧ Pv i σ H, ⟨xs.length, by simp, Nat.zero_le _, h0⟩, ?_⟩
  rintro i m σ H ⟨rfl, hi, p⟩
  have q := hl i σ H p
  by_cases hlt : i < xs.length
  · refine .inr ⟨⟨xs, xs[i], q, by simp [hlt]⟩, Pv (i + 1), fun σ' H' p' => ⟨xs.length - (i + 1), by omega, rfl, hlt, p'⟩, fun x H' y => ?_⟩
    obtain ⟨t, x', rfl, ht, rfl, y⟩ := y
    exact hs i x' t σ _ (y xs q) p ht
  · have e : i = xs.length := by omega
    subst e
    exact .inl ⟨⟨xs, q, Nat.le_refl _⟩, hd σ H p⟩
/-! ### the promises -/
def sp_is_sign : Sp := fun vs H Q _ => ∃ c : Nat, vs = [.str (sg c)] ∧ 97 ≤ c ∧ c ≤ 122 ∧ Q (.bl true) H
def sp_is_whole : Sp := fun vs H Q _ => ∃ i : Int, vs = [.int i] ∧ Q (.bl true) H
def sp_is_within : Sp := fun vs H Q _ => ∃ i l m : Int, vs = [.int i, .int l, .int m] ∧ l ≤ i ∧ i ≤ m ∧ Q (.bl true) H
def sp_look_at_rooms (K : PySem.W.Frag) (T : List NTab) : Sp := fun vs H Q _ => ∃ (n : Int) (x : Str) (a : Addr) (rs : List Int), vs = [.int n, .str x, .ref a] ∧ SqL K H a (rs.map V.int) ∧ rs.Pairwise (· < ·) ∧ (∀ r ∈ rs, 0 ≤ r ∧ r < n) ∧
  Ret T H Q fun v _ => v = .non
section
variable {P : Program} {w : World} {K : PySem.W.Frag} {mg : Str → Option Value} {base : Heap}
theorem letters_in {c : Nat} (h1 : 97 ≤ c) (h2 : c ≤ 122) : c ∈ ("abcdefghijklmnopqrstuvwxyz" : Str).cps.toList := by
  have e : ("abcdefghijklmnopqrstuvwxyz" : Str).cps.toList = (List.range 26).map (· + 97) := by decide +kernel
  rw [e, List.mem_map]
  exact ⟨c - 97, List.mem_range.mpr (by omega), by omega⟩
theorem ok_is_sign (T : Txt K mg) : FnOk P w K mg base CX0 1 T.is_sign.f T.is_sign.fd P_is_sign sp_is_sign := by
  refine T.is_sign.F.ok sc_is_sign (fun vs H Q E h => ?_) (fun cdv A outer s H vs Q E hr h => ⟨_, (pss_one (ps_ret (pe_and (pe_callB call_isi (by rfl) T.n_isinstance (by decide +kernel) (pa_cons (pv 0) (pa_cons (pe_bltn (v := .ty "str") (u := .type "str") (by rfl) T.n_str (by decide +kernel) rfl) pa_nil))) (pe_and (pe_cmpR op_eq (pe_callB call_len_str (by rfl) T.n_len PySem.boot_len (pa_cons (pv 0) pa_nil)) pe_int (nomark _)) (pe_one (pe_cmpR op_in_sign (pv 0) (pe_glob (v := .str "abcdefghijklmnopqrstuvwxyz") rfl T.g_LETTERS ⟨_, rfl⟩) (by rfl))))))), ?_⟩)
  · obtain ⟨c, rfl, _⟩ := h; rfl
  · obtain ⟨c, rfl, h1, h2, q⟩ := h
    refine ⟨_, rfl, _, _, _, _, _, rfl, .ty "str", .base (.str _), k_str, ?_⟩
    refine ⟨_, rfl, iteT ?_⟩
    refine ⟨_, rfl, _, rfl, (by show 1 ≤ sizeLine; decide), ?_⟩
    refine ⟨rfl, true, congrArg V.bl (decide_eq_true rfl), iteT ?_⟩
    refine ⟨_, rfl, c, _, rfl, rfl, ?_⟩
    show Q (.bl (decide (c ∈ _))) H
    rw [decide_eq_true (letters_in h1 h2)]
    exact q
theorem ok_is_whole (T : Txt K mg) : FnOk P w K mg base CX0 1 T.is_whole.f T.is_whole.fd P_is_whole sp_is_whole := by
  refine T.is_whole.F.ok sc_is_whole (fun vs H Q E h => ?_) (fun cdv A outer s H vs Q E hr h => ⟨_, (pss_one (ps_ret (pe_and (pe_callB call_isi (by rfl) T.n_isinstance (by decide +kernel) (pa_cons (pv 0) (pa_cons (pe_bltn (v := .ty "int") (u := .type "int") (by rfl) T.n_int (by decide +kernel) rfl) pa_nil))) (pe_one (pe_not (pe_callB call_isi (by rfl) T.n_isinstance (by decide +kernel) (pa_cons (pv 0) (pa_cons (pe_bltn (v := .ty "bool") (u := .type "bool") (by rfl) T.n_bool (by decide +kernel) rfl) pa_nil)))))))), ?_⟩)
  · obtain ⟨c, rfl, _⟩ := h; rfl
  · obtain ⟨i, rfl, q⟩ := h
    refine ⟨_, rfl, _, _, _, _, _, rfl, .ty "int", .base (.int _), k_int, ?_⟩
    refine ⟨_, rfl, iteT ?_⟩
    refine ⟨_, rfl, _, _, _, _, _, rfl, .ty "bool", .base (.int _), k_intb, ?_⟩
    exact ⟨_, rfl, q⟩
theorem ok_is_within (T : Txt K mg) : FnOk P w K mg base CX0 2 T.is_within.f T.is_within.fd P_is_within sp_is_within := by
  refine T.is_within.F.ok sc_is_within (fun vs H Q E h => ?_) (fun cdv A outer s H vs Q E hr h => ⟨_, (pss_one (ps_ret (pe_and (pe_call (ok_is_whole T) (hr.mono (by decide)) rfl T.is_whole.g T.is_whole.F.kp T.is_whole.b .nil pass0 (pa_cons (pv 0) pa_nil)) (pe_one (pe_chain op_le op_le (pv 1) (pv 0) (pv 2)))))), ?_⟩)
  · obtain ⟨i, l, m, rfl, _⟩ := h; rfl
  · obtain ⟨i, l, m, rfl, h1, h2, q⟩ := h
    refine ⟨_, rfl, _, rfl, _, rfl, iteT ?_⟩
    refine ⟨_, rfl, _, rfl, _, _, rfl, rfl, _, rfl, ?_⟩
    rw [decide_eq_true h1]
    refine iteT ?_
    refine ⟨_, rfl, _, _, rfl, rfl, ?_⟩
    show Q (.bl (decide (i ≤ m))) H
    rw [decide_eq_true h2]
    exact q
theorem ok_look_at_rooms (T : Txt K mg) : FnOk P w K mg base CX0 3 T.look_at_rooms.f T.look_at_rooms.fd P_look_at_rooms (sp_look_at_rooms K T.Ts) := by
  refine T.look_at_rooms.F.ok sc_look_at_rooms (fun vs H Q E h => ?_) (fun cdv A outer s H vs Q E hr h => ⟨_, (pss_cons (ps_if (pt_not (pt_val (pe_callB call_isi (by rfl) T.n_isinstance (by decide +kernel) (pa_cons (pv 2) (pa_cons (pe_bltn (v := .ty "list") (u := .type "list") (by rfl) T.n_list (by decide +kernel) rfl) pa_nil))))) (pss_one ps_never) pss_nil)
    (pss_cons (ps_set (i := 3) sc_look_at_rooms.nd rfl (Or.inl rfl) (pe_un un_neg pe_int))
    (pss_one (ps_for PassesOwn.never rfl (pi_enum (by rfl) T.n_enumerate (pa_cons (pv 2) pa_nil)) (pg_tup rfl (pgs_cons (pg_name (i := 4) sc_look_at_rooms.nd rfl (Or.inl rfl)) (pgs_cons (pg_name (i := 5) sc_look_at_rooms.nd rfl (Or.inl rfl)) pgs_nil)))
    (pss_cons (ps_if (pt_not (pt_val (pe_call (ok_is_within T) (hr.mono (by decide)) rfl T.is_within.g T.is_within.F.kp T.is_within.b .nil pass0 (pa_cons (pv 5) (pa_cons (pe_op op_add (pv 3) pe_int) (pa_cons (pe_op op_sub (pv 0) pe_int) pa_nil)))))) (pss_one ps_never) pss_nil)
     (pss_one (ps_set (i := 3) sc_look_at_rooms.nd rfl (Or.inl rfl) (pv 5)))))))), ?_⟩)
  · obtain ⟨n, x, a, rs, rfl, _⟩ := h; rfl
  · obtain ⟨n, x, a, rs, rfl, hS, hp, hrg, q⟩ := h
    refine ⟨_, rfl, _, _, _, _, _, rfl, .ty "list", tyL hS, k_list, ?_⟩
    refine ⟨_, rfl, iteF ?_⟩
    refine ⟨_, rfl, ?_⟩
    refine ⟨_, rfl, a, _, rfl, hS, for_enumL (K := K) (a := a) (xs := rs.map V.int) (fun i σ H' => ∃ (l : Int) (v1 v2 : Option V), σ = [some (.int n), some (.str x), some (.ref a), some (.int l), v1, v2] ∧ Xt T.Ts H H' ∧ (∀ (j : Nat) r, i ≤ j → rs[j]? = some r → l < r) ∧ -1 ≤ l)
      ⟨-1, none, none, rfl, Xt.refl H, fun j r _ hj => ?_, by omega⟩ (fun i σ H' h => ?_) ?_ ?_⟩
    · have := hrg r (List.mem_of_getElem? hj); omega
    · obtain ⟨_, _, _, _, e, _⟩ := h; exact e.sl hS
    · rintro i y p σ H' hi ⟨l, v1, v2, rfl, e, hl, h1⟩ hp'
      obtain ⟨z, hz, rfl⟩ : ∃ z, rs[i]? = some z ∧ y = V.int z := by
        rw [List.getElem?_map] at hi
        cases e : rs[i]? with
        | none => rw [e] at hi; cases hi
        | some z => rw [e] at hi; exact ⟨z, rfl, (Option.some.inj hi).symm⟩
      refine ⟨p, _, rfl, .of upd_same, rfl, _, _, rfl, _, _, rfl, rfl, ?_⟩
      have hz2 := hl i z (Nat.le_refl _) hz
      have hz3 := hrg z (List.mem_of_getElem? hz)
      refine ⟨_, rfl, _, rfl, _, _, rfl, rfl, _, rfl, _, _, rfl, rfl, ?_⟩
      refine ⟨_, _, _, rfl, by omega, by omega, ?_⟩
      refine ⟨_, rfl, iteF ?_⟩
      refine ⟨_, rfl, ?_⟩
      refine ⟨z, _, _, rfl, e.trans (.new hp'), fun j r hj hr' => ?_, by omega⟩
      obtain ⟨hj1, ej⟩ := List.getElem?_eq_some_iff.mp hr'
      obtain ⟨hi1, ei⟩ := List.getElem?_eq_some_iff.mp hz
      have := List.pairwise_iff_getElem.mp hp i j hi1 hj1 (by omega)
      rw [ei, ej] at this
      exact this
    · rintro σ H' ⟨l, v1, v2, rfl, e, _⟩
      exact q.go e rfl
end
end Tw
/-! Triesgrow: what looks at machines, further -/
namespace Tw
open PySem L2 Tg NdefX LamX
theorem int_at {ns : List Int} {i : Nat} {v : V} (h : (ns.map V.int)[i]? = some v) : ∃ z, ns[i]? = some z ∧ v = .int z := by
  rw [List.getElem?_map] at h
  cases e : ns[i]? with
  | none => rw [e] at h; cases h
  | some z => rw [e] at h; exact ⟨z, rfl, (Option.some.inj h).symm⟩
def StepOk (n : Int) (s : Int × Nat × Int) : Prop := (0 ≤ s.1 ∧ s.1 < n) ∧ (97 ≤ s.2.1 ∧ s.2.1 ≤ 122) ∧ (0 ≤ s.2.2 ∧ s.2.2 < n)
def sp_is_step : Sp := fun vs H Q _ => ∃ (n : Int) (a : Addr) (s : Int × Nat × Int), vs = [.int n, .ref a] ∧ H a = some (.tup [.int s.1, .str (sg s.2.1), .int s.2.2]) ∧ StepOk n s ∧ Q (.bl true) H
def sp_look_at_steps (T : List NTab) : Sp := fun vs H Q _ => ∃ (n : Int) (a : Addr) (ss : List V) (S : List (Int × Nat × Int)), vs = [.int n, .ref a] ∧ H a = some (.lst ss) ∧ RpAll H ss (S.map sD) ∧ S.Nodup ∧ S.length ≤ 200 ∧ (∀ s ∈ S, StepOk n s) ∧
  Ret T H Q fun v _ => v = .non
def sp_look_at (T : List NTab) : Sp := fun vs H Q _ => ∃ (v : V) (M : Mac), vs = [v] ∧ Rp H v (mD M) ∧ Good M ∧ Ret T H Q fun v _ => v = .non
def skey (s : Int × Nat × Int) : List Key := [.inl s.1, .inr (sg s.2.1), .inl s.2.2]
theorem skey_inj {s t : Int × Nat × Int} (h : skey s = skey t) : s = t := by
  obtain ⟨a, b, c⟩ := s
  obtain ⟨d, e, f⟩ := t
  simp only [skey, List.cons.injEq, Sum.inl.injEq, Sum.inr.injEq, sg, and_true] at h
  obtain ⟨rfl, h, rfl⟩ := h
  have : #[b] = #[e] := congrArg Str.cps h
  simp at this
  rw [this]
section
variable {P : Program} {w : World} {K : PySem.W.Frag} {mg : Str → Option Value} {base : Heap}
theorem ok_is_step (T : Txt K mg) : FnOk P w K mg base CX0 3 T.is_step.f T.is_step.fd P_is_step sp_is_step := by
  refine T.is_step.F.ok sc_is_step (fun vs H Q E h => ?_) (fun cdv A outer s H vs Q E hr h => ⟨_, (pss_cons (ps_if (PW.pt (pw_or (pt_not (pt_val (pe_callB call_isi (by rfl) T.n_isinstance (by decide +kernel) (pa_cons (pv 1) (pa_cons (pe_bltn (v := .ty "tuple") (u := .type "tuple") (by rfl) T.n_tuple (by decide +kernel) rfl) pa_nil))))) (pw_or (pt_cmpR op_ne (pe_callB call_len_seq (by rfl) T.n_len PySem.boot_len (pa_cons (pv 1) pa_nil)) pe_int (nomark _)) (pw_or1 (pt_not (pt_val (pe_call (ok_is_sign T) (hr.mono (by decide)) rfl T.is_sign.g T.is_sign.F.kp T.is_sign.b .nil pass0 (pa_cons (pe_ix ix_tup (pv 1) pe_int (fun _ _ => rfl)) pa_nil)))))))) (pss_one (ps_ret pe_bl)) pss_nil)
    (pss_one (ps_ret (pe_and (pe_call (ok_is_within T) (hr.mono (by decide)) rfl T.is_within.g T.is_within.F.kp T.is_within.b .nil pass0 (pa_cons (pe_ix ix_tup (pv 1) pe_int (fun _ _ => rfl)) (pa_cons pe_int (pa_cons (pe_op op_sub (pv 0) pe_int) pa_nil)))) (pe_one (pe_call (ok_is_within T) (hr.mono (by decide)) rfl T.is_within.g T.is_within.F.kp T.is_within.b .nil pass0 (pa_cons (pe_ix ix_tup (pv 1) pe_int (fun _ _ => rfl)) (pa_cons pe_int (pa_cons (pe_op op_sub (pv 0) pe_int) pa_nil))))))))), ?_⟩)
  · obtain ⟨n, a, s, rfl, _⟩ := h; rfl
  · obtain ⟨n, a, z, rfl, ha, ⟨⟨h1, h2⟩, ⟨h3, h4⟩, h5, h6⟩, q⟩ := h
    refine ⟨_, rfl, _, _, _, _, _, rfl, .ty "tuple", tyT (.of ha), k_tuple, ?_⟩
    refine ⟨_, rfl, iteF ?_⟩
    refine ⟨_, rfl, _, _, rfl, .inr (.of ha), ?_⟩
    refine ⟨rfl, false, rfl, iteF ?_⟩
    refine ⟨_, rfl, _, _, _, _, rfl, rfl, .of ha, atI_nat (j := 1) rfl, ?_⟩
    refine ⟨z.2.1, rfl, h3, h4, _, rfl, iteF ?_⟩
    refine ⟨_, rfl, _, _, _, _, rfl, rfl, .of ha, atI_nat (j := 0) rfl, ?_⟩
    refine ⟨_, rfl, _, _, rfl, rfl, ?_⟩
    refine ⟨_, _, _, rfl, h1, by omega, _, rfl, iteT ?_⟩
    refine ⟨_, rfl, _, _, _, _, rfl, rfl, .of ha, atI_nat (j := 2) rfl, ?_⟩
    refine ⟨_, rfl, _, _, rfl, rfl, ?_⟩
    exact ⟨_, _, _, rfl, h5, by omega, q⟩
theorem ok_look_at_steps (T : Txt K mg) : FnOk P w K mg base CX0 4 T.look_at_steps.f T.look_at_steps.fd P_look_at_steps (sp_look_at_steps T.Ts) := by
  refine T.look_at_steps.F.ok sc_look_at_steps (fun vs H Q E h => ?_) (fun cdv A outer s H vs Q E hr h => ⟨_, (pss_cons (ps_if (PW.pt (pw_or (pt_not (pt_val (pe_callB call_isi (by rfl) T.n_isinstance (by decide +kernel) (pa_cons (pv 1) (pa_cons (pe_bltn (v := .ty "list") (u := .type "list") (by rfl) T.n_list (by decide +kernel) rfl) pa_nil))))) (pw_or1 (pt_cmpR op_gt (pe_callB call_len_seq (by rfl) T.n_len PySem.boot_len (pa_cons (pv 1) pa_nil)) (pe_glob (v := .int 200) rfl T.g_MOST_STEPS ⟨_, rfl⟩) (nomark _))))) (pss_one ps_never) pss_nil)
    (pss_cons (ps_set (i := 2) sc_look_at_steps.nd rfl (Or.inl rfl) pe_dnewT)
    (pss_one (ps_for PassesOwn.never rfl (pi_enum (by rfl) T.n_enumerate (pa_cons (pv 1) pa_nil)) (pg_tup rfl (pgs_cons (pg_name (i := 3) sc_look_at_steps.nd rfl (Or.inl rfl)) (pgs_cons (pg_name (i := 4) sc_look_at_steps.nd rfl (Or.inl rfl)) pgs_nil)))
    (pss_cons (ps_if (PW.pt (pw_or (pt_not (pt_val (pe_call (ok_is_step T) (hr.mono (by decide)) rfl T.is_step.g T.is_step.F.kp T.is_step.b .nil pass0 (pa_cons (pv 0) (pa_cons (pv 4) pa_nil))))) (pw_or1 (pt_cmp (pc_din (hu_of hr) (pv 4) (pv 2)))))) (pss_one ps_never) pss_nil)
     (pss_one (ps_dput (hu_of hr) (pv 2) (pv 4) pe_bl rfl))))))), ?_⟩)
  · obtain ⟨n, a, ss, S, rfl, _⟩ := h; rfl
  · obtain ⟨n, a, ss, S, rfl, ha, hss, nd, l200, hok, q⟩ := h
    have hlen : ss.length = S.length := by rw [RpAll.len hss, List.length_map]
    refine ⟨_, rfl, _, _, _, _, _, rfl, .ty "list", tyL (.of ha), k_list, ?_⟩
    refine ⟨_, rfl, iteF ?_⟩
    refine ⟨_, rfl, _, _, rfl, .inl (.of ha), ?_⟩
    refine ⟨_, _, rfl, rfl, false, ?_, iteF ?_⟩
    · show V.bl (decide ((200 : Int) < (ss.length : Nat))) = _
      rw [decide_eq_false (by omega)]
    intro d hd
    refine ⟨_, rfl, a, ss, rfl, .of (by rw [upd_ne (ne_of_none ha hd)]; exact ha), for_enumL (K := K) (a := a) (xs := ss)
      (fun i σ H' => ∃ (kvs : List (List Key × V)) (v1 v2 : Option V), σ = [some (.int n), some (.ref a), some (.ref d), v1, v2] ∧ Xt T.Ts H H' ∧ H' d = some (.dT kvs) ∧ kvs.length ≤ i ∧ i ≤ ss.length ∧ ∀ (j : Nat) s, i ≤ j → S[j]? = some s → valV kvs (skey s) = none)
      ⟨[], none, none, rfl, .new hd, upd_same, Nat.le_refl _, Nat.zero_le _, fun _ _ _ _ => rfl⟩ (fun i σ H' h => ?_) ?_ ?_⟩
    · obtain ⟨_, _, _, _, e, _⟩ := h; exact .of (e.lst ha)
    · rintro i y p σ H' hi ⟨kvs, v1, v2, rfl, e, hd', hk, hi2, hno⟩ hp
      obtain ⟨s, hs, hy⟩ := RpAll.getM hss hi
      obtain ⟨b, rfl, hb⟩ := sD_inv hy
      have hi3 : i < ss.length := (List.getElem?_eq_some_iff.mp hi).1
      have hb' := e.tup hb
      have ok := hok s (List.mem_of_getElem? hs)
      have nb : b ≠ p := ne_of_none hb' hp
      have nd' : d ≠ p := ne_of_none hd' hp
      refine ⟨p, _, rfl, .of upd_same, rfl, _, _, rfl, _, _, rfl, rfl, ?_⟩
      refine ⟨_, rfl, _, rfl, n, b, s, rfl, (by rw [upd_ne nb]; exact hb'), ok, _, rfl, iteF ?_⟩
      refine ⟨_, rfl, _, rfl, d, _, rfl, DGet.t (k := skey s) (by rw [upd_ne nd']; exact hd') (by rw [upd_ne nb]; exact hb'), _, rfl, ?_⟩
      rw [hno i s (Nat.le_refl _) hs]
      refine iteF ?_
      refine ⟨_, rfl, _, rfl, d, _, rfl, DPut.t (k := skey s) (by rw [upd_ne nd']; exact hd') (by rw [upd_ne nb]; exact hb') (len_lt (by omega)), ?_⟩
      refine ⟨_, _, _, rfl, (e.trans (.new hp)).put (o := .dT (putK kvs (skey s) (.bl true))) hd (by rw [upd_ne nd']; exact hd') plain_dT, upd_same, ?_, by omega, fun j t hj ht => ?_⟩
      · have := length_putK kvs (skey s) (.bl true); omega
      · rw [valV_put, if_neg fun z => ?_]
        · exact hno j t (by omega) ht
        · have z' := skey_inj z
          subst z'
          have := nd_ix nd ht hs
          omega
    · rintro σ H' ⟨kvs, v1, v2, rfl, e, _⟩
      exact q.go e rfl
theorem ok_look_at (T : Txt K mg) : FnOk P w K mg base CX0 5 T.look_at.f T.look_at.fd P_look_at (sp_look_at T.Ts) := by
  refine T.look_at.F.ok sc_look_at (fun vs H Q E h => ?_) (fun cdv A outer s H vs Q E hr h => ⟨_, (pss_cons (ps_if (PW.pt (pw_or (pt_not (pt_val (pe_callB call_isi (by rfl) T.n_isinstance (by decide +kernel) (pa_cons (pv 0) (pa_cons (pe_bltn (v := .ty "tuple") (u := .type "tuple") (by rfl) T.n_tuple (by decide +kernel) rfl) pa_nil))))) (pw_or1 (pt_cmpR op_ne (pe_callB call_len_seq (by rfl) T.n_len PySem.boot_len (pa_cons (pv 0) pa_nil)) pe_int (nomark _))))) (pss_one ps_never) pss_nil)
    (pss_cons (ps_asg (pv 0) (pg_tup rfl (pgs_cons (pg_name (i := 1) sc_look_at.nd rfl (Or.inl rfl)) (pgs_cons (pg_name (i := 2) sc_look_at.nd rfl (Or.inl rfl)) (pgs_cons (pg_name (i := 3) sc_look_at.nd rfl (Or.inl rfl)) (pgs_cons (pg_name (i := 4) sc_look_at.nd rfl (Or.inl rfl)) pgs_nil))))))
    (pss_cons (ps_if (pt_not (pt_val (pe_call (ok_is_within T) (hr.mono (by decide)) rfl T.is_within.g T.is_within.F.kp T.is_within.b .nil pass0 (pa_cons (pv 1) (pa_cons pe_int (pa_cons (pe_glob (v := .int 12) rfl T.g_MOST_ROOMS ⟨_, rfl⟩) pa_nil)))))) (pss_one ps_never) pss_nil)
    (pss_cons (ps_expr (pe_call (ok_look_at_rooms T) (hr.mono (by decide)) rfl T.look_at_rooms.g T.look_at_rooms.F.kp T.look_at_rooms.b .nil pass0 (pa_cons (pv 1) (pa_cons pe_str (pa_cons (pv 2) pa_nil)))))
    (pss_cons (ps_expr (pe_call (ok_look_at_rooms T) (hr.mono (by decide)) rfl T.look_at_rooms.g T.look_at_rooms.F.kp T.look_at_rooms.b .nil pass0 (pa_cons (pv 1) (pa_cons pe_str (pa_cons (pv 3) pa_nil)))))
    (pss_one (ps_expr (pe_call (ok_look_at_steps T) (hr.mono (by decide)) rfl T.look_at_steps.g T.look_at_steps.F.kp T.look_at_steps.b .nil pass0 (pa_cons (pv 1) (pa_cons (pv 4) pa_nil)))))))))), ?_⟩)
  · obtain ⟨v, M, rfl, _⟩ := h; rfl
  · obtain ⟨v, M, rfl, hv, g, q⟩ := h
    obtain ⟨a, f, l, s, ss, rfl, m⟩ := mD_inv hv
    refine ⟨_, rfl, _, _, _, _, _, rfl, .ty "tuple", tyT (.of m.t), k_tuple, ?_⟩
    refine ⟨_, rfl, iteF ?_⟩
    refine ⟨_, rfl, _, _, rfl, .inr (.of m.t), ?_⟩
    refine ⟨rfl, false, rfl, iteF ?_⟩
    refine ⟨_, rfl, a, _, rfl, .of m.t, rfl, _, _, rfl, _, _, rfl, _, _, rfl, _, _, rfl, rfl, ?_⟩
    refine ⟨_, rfl, _, _, _, rfl, g.n1, g.n2, _, rfl, iteF ?_⟩
    refine ⟨_, rfl, _, rfl, _, _, _, M.F, rfl, .of m.f, g.F, g.Fr, fun v H1 e1 _ => ?_⟩
    refine ⟨_, rfl, _, rfl, _, _, _, M.L, rfl, .of (e1.lst m.l), g.L, g.Lr, fun v H2 e2 _ => ?_⟩
    have m2 := m.mono (e1.trans e2)
    refine ⟨_, rfl, _, rfl, _, _, ss, M.S, rfl, m2.s, m2.ss, g.S, g.Sn, g.Sr, fun v H3 e3 _ => ?_⟩
    exact q.go ((e1.trans e2).trans e3) rfl
end
end Tw
/-! Triesgrow: comprehensions, deep equality, small helps -/
namespace Tw
open PySem L2 Tg NdefX LamX
section
variable {X : Cx} {pos : Pos}
/-- a tuple of targets in a comprehension, the kit by name -/
theorem pg_tupC {es : List Expr} {k : Nat} {t : TGs} {K : PySem.W.Frag} {n : Nat} (hK : X.K = K) (hc : X.calm = true) (h : PGs X es t) (hn : (assignEach es X.env).length = n := by rfl) (hst : (assignEach es X.env).findIdx? (·.1) = none := by rfl) :
    PG X (.Tuple es k pos) (gTup K n t) := by subst hK; exact pg_tup hc h hn hst
theorem ix_tupC {K : PySem.W.Frag} (hK : X.K = K) : IxR X (rIxT K) := hK ▸ ix_tup
theorem ix_listC {K : PySem.W.Frag} (hK : X.K = K) : IxR X (rIxL K) := hK ▸ ix_list
theorem op_in_seqC {K : PySem.W.Frag} (hK : X.K = K) : OpR X (compareOp .In) (rIn K false) := hK ▸ op_in_seq
end
theorem ifT {c : Bool} {A B : Prop} (hc : c = true) (h : A) : if c = true then A else B := by rw [if_pos hc]; exact h
theorem ifF {c : Bool} {A B : Prop} (hc : c = false) (h : B) : if c = true then A else B := by rw [hc]; exact h
theorem snoc_cases {α : Type} (l : List α) : l = [] ∨ ∃ l' z, l = l' ++ [z] := (List.eq_nil_or_concat l).imp_right fun ⟨l', z, e⟩ => ⟨l', z, by rw [e, List.concat_eq_append]⟩
theorem last_snoc {α : Type} {l : List α} {z : α} : (l ++ [z])[(l ++ [z]).length - 1]? = some z := by simp
theorem drop_snoc {α : Type} {l : List α} {z : α} : (l ++ [z]).dropLast = l := by simp
/-! ### a heap without one object -/
def hid (D : Addr) (H : Hp) : Hp := fun b => if b = D then none else H b
theorem hid_ne {D b : Addr} {H : Hp} (h : b ≠ D) : hid D H b = H b := if_neg h
theorem hid_upd {D : Addr} {H : Hp} {o : HO} : hid D (upd H D o) = hid D H := by
  funext b
  by_cases h : b = D
  · subst h; simp [hid]
  · rw [hid_ne h, hid_ne h, upd_ne h]
theorem hid_new {D p : Addr} {H : Hp} {o : HO} (h : p ≠ D) : hid D (upd H p o) = upd (hid D H) p o := by
  funext b
  by_cases e : b = D
  · subst e
    rw [upd_ne (Ne.symm h)]
    simp [hid]
  · rw [hid_ne e]
    by_cases q : b = p
    · subst q; rw [upd_same, upd_same]
    · rw [upd_ne q, upd_ne q, hid_ne e]
theorem sub_hid {D : Addr} {H : Hp} : Sub (hid D H) H := by
  constructor <;> intro a xs h <;> (by_cases e : a = D)
  · subst e; simp [hid] at h
  · rwa [hid_ne e] at h
  · subst e; simp [hid] at h
  · rwa [hid_ne e] at h
theorem Sub.trans {H H1 H2 : Hp} (a : Sub H H1) (b : Sub H1 H2) : Sub H H2 := ⟨fun x y h => b.1 x y (a.1 x y h), fun x y h => b.2 x y (a.2 x y h)⟩
theorem Sub.refl {H : Hp} : Sub H H := ⟨fun _ _ h => h, fun _ _ h => h⟩
theorem sub_new {H : Hp} {p : Addr} {o : HO} (h : H p = none) : Sub H (upd H p o) := (Xt.new (T := []) h).sub
theorem Xt.hid {T : List NTab} {H H' : Hp} {D : Addr} (e : Xt T H H') (h : H D = none) : Sub H (Tw.hid D H') := by
  refine ⟨fun a xs q => ?_, fun a xs q => ?_⟩
  · rw [hid_ne (ne_of_none q h)]; exact e.lst q
  · rw [hid_ne (ne_of_none q h)]; exact e.tup q
/-- the same through a growth of the whole, where the hidden one is the same -/
theorem hid_sub {D : Addr} {H H' : Hp} (e : Sub H H') : Sub (hid D H) (hid D H') := by
  constructor <;> intro a xs h <;> (by_cases q : a = D)
  · subst q; simp [hid] at h
  · rw [hid_ne q] at h ⊢; exact e.1 _ _ h
  · subst q; simp [hid] at h
  · rw [hid_ne q] at h ⊢; exact e.2 _ _ h
/-! ### comprehensions -/
/-- the list so far, the heap grown -/
def LcP (T : List NTab) (H1 : Hp) (D : Addr) (R : Nat → List V → Hp → Prop) (i : Nat) (H : Hp) : Prop := ∃ acc, Xt T H1 H ∧ H D = some (.lst acc) ∧ acc.length ≤ i ∧ R i acc (hid D H)
theorem LcP.put {T : List NTab} {H1 H : Hp} {D : Addr} {R : Nat → List V → Hp → Prop} {i : Nat} {acc : List V} {y : V} (hD : H1 D = none) (e : Xt T H1 H) (h : H D = some (.lst acc)) (l : acc.length ≤ i) (hi : i < 1000000) (r : R (i + 1) (acc ++ [y]) (hid D H)) :
    ∃ acc, H D = some (.lst acc) ∧ acc.length < sizeLine ∧ LcP T H1 D R (i + 1) (upd H D (.lst (acc ++ [y]))) :=
  ⟨acc, h, len_lt (by omega), acc ++ [y], e.put hD h plain_lst, upd_same, by rw [List.length_append]; show acc.length + 1 ≤ _; omega, by rw [hid_upd]; exact r⟩
theorem LcP.keep {T : List NTab} {H1 H : Hp} {D : Addr} {R : Nat → List V → Hp → Prop} {i : Nat} {acc : List V} (e : Xt T H1 H) (h : H D = some (.lst acc)) (l : acc.length ≤ i) (r : R (i + 1) acc (hid D H)) : LcP T H1 D R (i + 1) H :=
  ⟨acc, e, h, by omega, r⟩
theorem lc_sel {J : It} {n : Nat} {G : Hp → Prop} {Y : Nat → Hp → V → Hp → Prop} (w : Walk J n G Y) {g : TG} {tt : TT} {te : TE} {vs : List Nat} {σ : L2.St} {T : List NTab} {H1 : Hp} {D : Addr} {Qd : Hp → Prop} (hD : H1 D = none)
    (R : Nat → List V → Hp → Prop) (hG : ∀ H, Xt T H1 H → G H) (h0 : R 0 [] (hid D H1))
    (hs : ∀ i x acc H H', i < n → Xt T H1 H → H D = some (.lst acc) → acc.length ≤ i → R i acc (hid D H) → Y i H x H' → g x (wipe σ vs) H' fun σ2 H2 => wipe σ2 vs = wipe σ vs ∧ tt σ2 H2 fun b H3 =>
      if b = true then te σ2 H3 fun y H4 => ∃ acc, H4 D = some (.lst acc) ∧ acc.length < sizeLine ∧ LcP T H1 D R (i + 1) (upd H4 D (.lst (acc ++ [y]))) else LcP T H1 D R (i + 1) H3)
    (hd : ∀ acc H, Xt T H1 H → H D = some (.lst acc) → acc.length ≤ n → R n acc (hid D H) → Qd H) :
    ∃ W : Nat → Nat → Hp → Prop, (∃ m, W 0 m (upd H1 D (.lst []))) ∧ ∀ i m H, W i m H →
      (J.stop i H ∧ Qd H) ∨ (J.go i H ∧ ∃ Nx : Hp → Prop, (∀ H', Nx H' → ∃ m', m' < m ∧ W (i + 1) m' H') ∧ ∀ x H', J.yld i H x H' → g x (wipe σ vs) H' fun σ2 H2 => wipe σ2 vs = wipe σ vs ∧ tt σ2 H2 fun b H3 =>
        if b = true then te σ2 H3 fun y H4 => ∃ acc, H4 D = some (.lst acc) ∧ acc.length < sizeLine ∧ Nx (upd H4 D (.lst (acc ++ [y]))) else Nx H3) := by
  refine lc_it w (LcP T H1 D R) ⟨[], .new hD, upd_same, Nat.le_refl _, by rw [hid_upd]; exact h0⟩ (fun i H _ h => ?_) (fun i x H H' hi h y => ?_) (fun H h => ?_)
  · obtain ⟨_, e, _⟩ := h; exact hG H e
  · obtain ⟨acc, e, h1, h2, h3⟩ := h; exact hs i x acc H H' hi e h1 h2 h3 y
  · obtain ⟨acc, e, h1, h2, h3⟩ := h; exact hd acc H e h1 h2 h3
theorem take_succ' {α : Type} {l : List α} {i : Nat} {z : α} (h : l[i]? = some z) : l.take (i + 1) = l.take i ++ [z] := by
  rw [List.take_add_one, h]; rfl
/-- a list so far of new tuples -/
theorem LcP.putT {T : List NTab} {H1 H : Hp} {D p : Addr} {i : Nat} {acc vs : List V} {α : Type} {f : α → PyData} {L : List α} {z : α} (hD : H1 D = none) (e : Xt T H1 H) (h : H D = some (.lst acc)) (l : acc.length ≤ i) (hi : i < 1000000) (hp : H p = none) (hz : L[i]? = some z)
    (r : RpAll (hid D H) acc ((L.take i).map f)) (hv : ∀ H', Sub (hid D H) H' → H' p = some (.tup vs) → Rp H' (.ref p) (f z)) :
    ∃ acc, (upd H p (.tup vs)) D = some (.lst acc) ∧ acc.length < sizeLine ∧ LcP T H1 D (fun i acc Hh => RpAll Hh acc ((L.take i).map f)) (i + 1) (upd (upd H p (.tup vs)) D (.lst (acc ++ [.ref p]))) := by
  have nD : D ≠ p := ne_of_none h hp
  refine LcP.put hD (e.trans (.new hp)) (by rw [upd_ne nD]; exact h) l hi ?_
  show RpAll _ _ ((L.take (i + 1)).map f)
  have hp' : hid D H p = none := by rw [hid_ne (Ne.symm nD)]; exact hp
  rw [hid_new (Ne.symm nD), take_succ' hz, List.map_append]
  exact (rps_sub (sub_new hp') _ r).app (.one (hv _ (sub_new hp') upd_same))
theorem range_at {n : Int} {i : Nat} (hi : i < n.toNat) : (rangeI n)[i]? = some ((0 : Int) + i) := by
  unfold rangeI
  rw [List.getElem?_map, List.getElem?_range hi, Int.zero_add]
  rfl
theorem range_all {n : Int} : (rangeI n).take n.toNat = rangeI n := by rw [← rangeI_len (n := n), List.take_length]
theorem filt_snoc {α : Type} {l : List α} {i : Nat} {z : α} (p : α → Bool) (h : l[i]? = some z) : (l.take (i + 1)).filter p = (l.take i).filter p ++ if p z then [z] else [] := by
  rw [take_succ' h, List.filter_append]
  congr 1
  by_cases e : p z = true
  · simp [e]
  · simp [e]
theorem rps_dps {K : PySem.W.Frag} {H : Hp} {vs : List V} {ds : List PyData} (h : RpAll H vs ds) : DpAll K H vs ds := rps_dp ds h
/-! ### deep equality -/
mutual
/-- data with neither truths nor dicts, signs in range -/
def nice : PyData → Bool
  | .none | .int _ => true
  | .str x => PyData.canLay0 (.str x)
  | .list xs | .tuple xs => nices xs
  | .bool _ | .dict _ => false
def nices : List PyData → Bool
  | [] => true
  | x :: xs => nice x && nices xs
end
mutual
theorem nice_lay : ∀ d : PyData, nice d = true → d.canLay0 = true
  | .none, _ => by simp [PyData.canLay0]
  | .int _, _ => by simp [PyData.canLay0]
  | .str x, h => by simpa [nice] using h
  | .list xs, h => by simp only [PyData.canLay0]; exact nices_lay xs (by simpa [nice] using h)
  | .tuple xs, h => by simp only [PyData.canLay0]; exact nices_lay xs (by simpa [nice] using h)
  | .bool _, h => by simp [nice] at h
  | .dict _, h => by simp [nice] at h
theorem nices_lay : ∀ ds : List PyData, nices ds = true → PyData.canLayAll0 ds = true
  | [], _ => by simp [PyData.canLayAll0]
  | d :: ds, h => by
    simp only [nices, Bool.and_eq_true] at h
    simp only [PyData.canLayAll0, Bool.and_eq_true]
    exact ⟨nice_lay d h.1, nices_lay ds h.2⟩
end
mutual
theorem nice_eqv : ∀ d e : PyData, nice d = true → nice e = true → (PyData.eqv d e = true ↔ d = e)
  | .none, e, _, h => by cases e <;> simp_all [PyData.eqv, nice]
  | .int _, e, _, h => by cases e <;> simp_all [PyData.eqv, nice]
  | .str x, e, _, h => by cases e <;> simp_all [PyData.eqv, nice]
  | .list xs, e, g, h => by
    cases e <;> simp_all [PyData.eqv, nice]
    exact nices_eqv xs _ g h
  | .tuple xs, e, g, h => by
    cases e <;> simp_all [PyData.eqv, nice]
    exact nices_eqv xs _ g h
  | .bool _, _, g, _ => by simp [nice] at g
  | .dict _, _, g, _ => by simp [nice] at g
theorem nices_eqv : ∀ ds es : List PyData, nices ds = true → nices es = true → (PyData.eqvAll ds es = true ↔ ds = es)
  | [], [], _, _ => by simp [PyData.eqvAll]
  | [], _ :: _, _, _ => by simp [PyData.eqvAll]
  | _ :: _, [], _, _ => by simp [PyData.eqvAll]
  | d :: ds, e :: es, g, h => by
    simp only [nices, Bool.and_eq_true] at g h
    simp only [PyData.eqvAll, Bool.and_eq_true, nice_eqv d e g.1 h.1, nices_eqv ds es g.2 h.2, List.cons.injEq]
end
theorem eqv_nice {d e : PyData} (h : nice d = true) (g : nice e = true) [Decidable (d = e)] : PyData.eqv d e = decide (d = e) := by
  rw [Bool.eq_iff_iff, decide_eq_true_eq]
  exact nice_eqv d e h g
theorem shaped_nice {d : PyData} (h : nice d = true) (hd : d.depth ≤ 64) : SeqAt.shaped d = true := by
  show (d.canLay0 && decide (d.depth ≤ 64)) = true
  rw [nice_lay d h, decide_eq_true hd]
  rfl
theorem nices_map {α : Type} {f : α → PyData} : ∀ {l : List α}, (∀ z ∈ l, nice (f z) = true) → nices (l.map f) = true
  | [], _ => by simp [nices]
  | z :: l, h => by
    rw [List.map_cons, nices, Bool.and_eq_true]
    exact ⟨h z (List.mem_cons_self ..), nices_map fun y hy => h y (List.mem_cons_of_mem _ hy)⟩
theorem depth_map {α : Type} {f : α → PyData} {k : Nat} : ∀ {l : List α}, (∀ z ∈ l, (f z).depth ≤ k) → PyData.depthAll (l.map f) ≤ k
  | [], _ => by simp [PyData.depthAll]
  | z :: l, h => by
    rw [List.map_cons, PyData.depthAll]
    have := h z (List.mem_cons_self ..)
    have := depth_map fun y hy => h y (List.mem_cons_of_mem _ hy)
    omega
theorem shaped_list {α : Type} {f : α → PyData} {l : List α} (h : ∀ z ∈ l, nice (f z) = true) (hd : ∀ z ∈ l, (f z).depth ≤ 60) : SeqAt.shaped (.list (l.map f)) = true :=
  shaped_nice (by rw [nice]; exact nices_map h) (by rw [PyData.depth]; have := depth_map hd; omega)
theorem nice_str {cs : List Nat} (h : ∀ c ∈ cs, c < 1114112) : nice (.str ⟨cs.toArray⟩) = true := by
  rw [nice, PyData.canLay0]
  show cs.toArray.all (fun c => decide (c < 1114112)) = true
  rw [Array.all_eq_true']
  intro c hc
  exact decide_eq_true (h c (by simpa using hc))
/-- xs != [] -/
theorem ne_nil {xs : List PyData} : PyData.eqv (.list xs) (.list []) = xs.isEmpty := by
  cases xs <;> simp [PyData.eqv, PyData.eqvAll]
theorem shaped_nil : SeqAt.shaped (.list []) = true := by
  show (PyData.canLay0 (.list []) && decide (PyData.depth (.list []) ≤ 64)) = true
  simp [PyData.canLay0, PyData.canLayAll0, PyData.depth, PyData.depthAll]
/-! ### rooms in lists -/
theorem inV_ints {r : Int} : ∀ {l : List Int}, inV (.int r) (l.map V.int) = decide (r ∈ l)
  | [] => by simp [inV]
  | z :: l => by
    have ih := inV_ints (r := r) (l := l)
    simp only [inV, List.map_cons, List.any_cons] at ih ⊢
    rw [ih]
    have e : eqV (.int z) (.int r) = (z == r) := rfl
    rw [e, Bool.eq_iff_iff, Bool.or_eq_true, beq_iff_eq, decide_eq_true_eq, decide_eq_true_eq, List.mem_cons]
    exact ⟨fun h => h.elim (fun z => .inl z.symm) .inr, fun h => h.elim (fun z => .inl z.symm) .inr⟩
theorem flat_ints (l : List Int) : (l.map V.int).all flatV = true := by
  rw [List.all_eq_true]
  intro v hv
  obtain ⟨i, _, rfl⟩ := List.mem_map.mp hv
  rfl
end Tw
/-! Triesgrow: what is reached, what is useful -/
namespace Tw
open PySem L2 Tg NdefX LamX
open scoped Classical
def pD (p : Int × Int) : PyData := .tuple [.int p.1, .int p.2]
theorem pD_inv {H : Hp} {v : V} {s : Int × Int} (h : Rp H v (pD s)) : ∃ a, v = .ref a ∧ H a = some (.tup [.int s.1, .int s.2]) := by
  obtain ⟨a, xs, rfl, ht, hx⟩ := Rp.tuple_inv h
  cases hx with
  | cons h1 r =>
    cases r with
    | cons h2 r =>
      cases r
      obtain rfl := Rp.int_inv h1
      obtain rfl := Rp.int_inv h2
      exact ⟨a, rfl, ht⟩
theorem pD_of {H : Hp} {a : Addr} {s : Int × Int} (h : H a = some (.tup [.int s.1, .int s.2])) : Rp H (.ref a) (pD s) := .tup h (.cons (.int _) (.cons (.int _) .nil))
/-- a dict whose keys are these -/
def KeysAre (kvs : List (Key × V)) (P : Int → Prop) : Prop := ∀ r : Int, (valV kvs (.inl r)).isSome = true ↔ P r
/-- what is met, what waits -/
structure Come (E : List (Int × Int)) (R u : List Int) (fs ws : List Int) : Prop where
  nd : fs.Nodup
  fr : ∀ r ∈ fs, Reach E R r
  wr : ∀ r ∈ ws, Reach E R r
  st : ∀ r ∈ R, r ∈ fs ∨ r ∈ ws
  cl : ∀ r ∈ fs, ∀ t, (r, t) ∈ E → t ∈ fs ∨ t ∈ ws
  ln : ws.length ≤ 12 + fs.length * 200
theorem Come.done {E : List (Int × Int)} {R u fs : List Int} (c : Come E R u fs []) (r : Int) : r ∈ fs ↔ Reach E R r := by
  refine ⟨c.fr r, fun h => ?_⟩
  induction h with
  | base h => exact (c.st _ h).elim id fun z => by cases z
  | step h e ih => exact (c.cl _ ih _ e).elim id fun z => by cases z
theorem Come.skip {E : List (Int × Int)} {R u fs ws : List Int} {r : Int} (c : Come E R u fs (ws ++ [r])) (h : r ∈ fs) : Come E R u fs ws where
  nd := c.nd
  fr := c.fr
  wr := fun x hx => c.wr x (List.mem_append_left _ hx)
  st := fun x hx => (c.st x hx).elim .inl fun z => (List.mem_append.mp z).elim .inr fun z => .inl (by rw [List.mem_singleton.mp z]; exact h)
  cl := fun x hx t ht => (c.cl x hx t ht).elim .inl fun z => (List.mem_append.mp z).elim .inr fun z => .inl (by rw [List.mem_singleton.mp z]; exact h)
  ln := by have := c.ln; rw [List.length_append] at this; omega
def tosE (E : List (Int × Int)) (r : Int) : List Int := (E.filter fun p => p.1 = r).map (·.2)
theorem Come.more {E : List (Int × Int)} {R u fs ws : List Int} {r : Int} (c : Come E R u fs (ws ++ [r])) (h : r ∉ fs) (hE : E.length ≤ 200) : Come E R u (r :: fs) (ws ++ tosE E r) where
  nd := List.nodup_cons.mpr ⟨h, c.nd⟩
  fr := fun x hx => (List.mem_cons.mp hx).elim (fun z => z ▸ c.wr r (List.mem_append_right _ (List.mem_singleton.mpr rfl))) (c.fr x)
  wr := fun x hx => (List.mem_append.mp hx).elim (fun z => c.wr x (List.mem_append_left _ z)) fun z => by
    obtain ⟨p, hp, rfl⟩ := List.mem_map.mp z
    obtain ⟨h1, h2⟩ := List.mem_filter.mp hp
    have h2 : p.1 = r := by simpa using h2
    exact .step (c.wr r (List.mem_append_right _ (List.mem_singleton.mpr rfl))) (by rw [← h2]; exact h1)
  st := fun x hx => by
    rcases c.st x hx with z | z
    · exact .inl (List.mem_cons_of_mem _ z)
    · rcases List.mem_append.mp z with z | z
      · exact .inr (List.mem_append_left _ z)
      · exact .inl (by rw [List.mem_singleton.mp z]; exact List.mem_cons_self ..)
  cl := fun x hx t ht => by
    rcases List.mem_cons.mp hx with rfl | hx
    · exact .inr (List.mem_append_right _ (List.mem_map.mpr ⟨(x, t), List.mem_filter.mpr ⟨ht, by simp⟩, rfl⟩))
    · rcases c.cl x hx t ht with z | z
      · exact .inl (List.mem_cons_of_mem _ z)
      · rcases List.mem_append.mp z with z | z
        · exact .inr (List.mem_append_left _ z)
        · exact .inl (by rw [List.mem_singleton.mp z]; exact List.mem_cons_self ..)
  ln := by
    have h1 := c.ln
    have h2 : (tosE E r).length ≤ E.length := by unfold tosE; rw [List.length_map]; exact List.length_filter_le _ _
    rw [List.length_append] at h1 ⊢
    rw [List.length_cons]
    omega
def sp_come_to (T : List NTab) : Sp := fun vs H Q _ => ∃ (a b : Addr) (es : List V) (E : List (Int × Int)) (R u : List Int), vs = [.ref a, .ref b] ∧ H a = some (.lst es) ∧ RpAll H es (E.map pD) ∧ H b = some (.lst (R.map V.int)) ∧ E.length ≤ 200 ∧ R.length ≤ 12 ∧ u.length ≤ 12 ∧
  (∀ r ∈ R, r ∈ u) ∧ (∀ p ∈ E, p.2 ∈ u) ∧ Ret T H Q fun v H' => ∃ d kvs, v = .ref d ∧ H' d = some (.dK kvs) ∧ KeysAre kvs (Reach E R)
def sp_useful (T : List NTab) : Sp := fun vs H Q _ => ∃ (v : V) (M : Mac), vs = [v] ∧ Rp H v (mD M) ∧ Good M ∧ Ret T H Q fun v H' => ∃ a, v = .ref a ∧ H' a = some (.lst ((usefulL M).map V.int))
def sp_trimmed (T : List NTab) : Sp := fun vs H Q _ => ∃ (v : V) (M : Mac), vs = [v] ∧ Rp H v (mD M) ∧ Good M ∧ Ret T H Q fun v H' => Rp H' v (mD (trim M))
theorem reach_univ {E : List (Int × Int)} {R u : List Int} (h1 : ∀ r ∈ R, r ∈ u) (h2 : ∀ p ∈ E, p.2 ∈ u) {r : Int} (h : Reach E R r) : r ∈ u := by
  cases h with
  | base h => exact h1 _ h
  | step _ e => exact h2 _ e
theorem le_12 {n : Int} (l : List Int) (hl : l.Pairwise (· < ·)) (hr : ∀ r ∈ l, 0 ≤ r ∧ r < n) (hn : n ≤ 12) : l.length ≤ 12 := by
  have h := nodup_len (l := l) (u := rangeI n) (hl.imp fun h => by omega) fun x hx => mem_rangeI.mpr (hr x hx)
  rw [rangeI_len] at h
  omega
section
variable {P : Program} {w : World} {K : PySem.W.Frag} {mg : Str → Option Value} {base : Heap}
theorem ok_come_to (T : Txt K mg) : FnOk P w K mg base CX0 1 T.come_to.f T.come_to.fd P_come_to (sp_come_to T.Ts) := by
  refine T.come_to.F.ok sc_come_to (fun vs H Q E h => ?_) (fun cdv A outer s H vs Q E hr h => ⟨_, (pss_cons (ps_set (i := 2) sc_come_to.nd rfl (Or.inl rfl) pe_dnewK)
    (pss_cons (ps_set (i := 3) sc_come_to.nd rfl (Or.inl rfl) (pe_callTy call_list_of (by rfl) T.n_list (by decide +kernel) (pa_cons (pv 1) pa_nil)))
    (pss_cons (ps_while PassesOwn.never (pt_cmpR (op_neD hr.units) (pv 3) (pe_lst pa_nil) (nomark _))
     (pss_cons (ps_set (i := 4) sc_come_to.nd rfl (Or.inr rfl) (pe_bm0 PySem.F.plainAttrs_list PySem.F.slot_list_pop PySem.F.type_list_pop mt_pop (pv 3)))
      (pss_one (ps_if (pt_cmp (pc_dnotin (hu_of hr) (pv 4) (pv 2))) (pss_cons (ps_dput (hu_of hr) (pv 2) (pv 4) pe_bl rfl)
       (pss_one (ps_expr (pe_bm PySem.F.plainAttrs_list PySem.F.slot_list_extend PySem.F.type_list_extend mt_extend (pv 3) (pa_cons (pe_lc (own := [("here", 5), ("to", 6)]) (by rfl) sc_come_to.nd (pi_list (pv 0)) (blkOk_by (own := [("here", 5), ("to", 6)]) (N := N_come_to) (sc := defScope s_come_to) (by decide +kernel)) (fun _ _ _ _ _ => (pg_tupC (K := K) (n := 2) rfl rfl (pgs_cons (pg_name (i := 5) sc_come_to.nd rfl (Or.inl rfl) (Or.inr rfl)) (pgs_cons (pg_name (i := 6) sc_come_to.nd rfl (Or.inl rfl) (Or.inr rfl)) pgs_nil)))) (fun _ _ _ _ _ => (pts_one (pt_cmpR op_eq (pv 5) (pv 4) (nomark _)))) (fun _ _ _ _ _ => (pv 6))) pa_nil))))) pss_nil))))
    (pss_one (ps_ret (pv 2)))))), ?_⟩)
  · obtain ⟨a, b, es, E, R, u, rfl, _⟩ := h; rfl
  · obtain ⟨a, b, es, E, R, u, rfl, ha, hes, hb, lE, lR, lu, hR, hE, q⟩ := h
    intro d hd
    have hb' : upd H d (.dK []) b = some (.lst (R.map V.int)) := by rw [upd_ne (ne_of_none hb hd)]; exact hb
    refine ⟨_, rfl, b, _, rfl, .inl (.of hb'), fun wp hw => ?_⟩
    have hwH : H wp = none := by
      by_cases e : wp = d
      · subst e; exact hd
      · rw [upd_ne e] at hw; exact hw
    have dw : d ≠ wp := fun z => by rw [← z, upd_same] at hw; cases hw
    refine ⟨fun m σ H' => ∃ (kvs : List (Key × V)) (fs ws : List Int) (v1 v2 v3 : Option V), σ = [some (.ref a), some (.ref b), some (.ref d), some (.ref wp), v1, v2, v3] ∧ Xt T.Ts H H' ∧ H' d = some (.dK kvs) ∧ H' wp = some (.lst (ws.map V.int)) ∧
      KeysAre kvs (· ∈ fs) ∧ kvs.length ≤ fs.length ∧ Come E R u fs ws ∧ m = (12 - fs.length) * 201 + ws.length, ⟨_, [], [], R, none, none, none, rfl, (Xt.new hd).trans (.new hw), ?_, upd_same, fun r => by simp [valV], Nat.le_refl _, ?_, rfl⟩, ?_⟩
    · rw [upd_ne dw]; exact upd_same
    · exact ⟨List.nodup_nil, fun _ h => (by cases h), fun r hr => .base hr, fun r hr => .inr hr, fun _ h => (by cases h), by show R.length ≤ 12 + 0 * 200; omega⟩
    rintro m σ H' ⟨kvs, fs, ws, v1, v2, v3, rfl, e, hd', hw', hk, kl, c, rfl⟩
    have fu : fs.length ≤ 12 := Nat.le_trans (nodup_len c.nd fun r hr => reach_univ hR hE (c.fr r hr)) lu
    refine ⟨_, rfl, Nat.zero_le _, fun z hz => ?_⟩
    have wz : wp ≠ z := ne_of_none hw' hz
    refine ⟨.list (ws.map .int), .list [], .lst (.of (by rw [upd_ne wz]; exact hw')) (rps_dps (ints_rps ws)), .lst (.of upd_same) .nil, PySem.W.shaped_ints ws, shaped_nil, _, rfl, ?_⟩
    rw [ne_nil]
    have ez : Xt T.Ts H' (upd H' z (.lst [])) := .new hz
    have e2 := e.trans ez
    have hd2 : upd H' z (.lst []) d = some (.dK kvs) := by rw [upd_ne (ne_of_none hd' hz)]; exact hd'
    have hw2 : upd H' z (.lst []) wp = some (.lst (ws.map V.int)) := by rw [upd_ne wz]; exact hw'
    rcases snoc_cases ws with rfl | ⟨ws, r, rfl⟩
    · refine iteF ?_
      exact ⟨_, rfl, q.go e2 ⟨d, kvs, rfl, hd2, fun r => (hk r).trans (c.done r)⟩⟩
    have hw2 : upd H' z (.lst []) wp = some (.lst (ws.map V.int ++ [.int r])) := by rw [hw2]; simp
    refine ifT (by simp) ?_
    refine ⟨_, fun σ' H' h => h, ?_⟩
    refine ⟨_, rfl, .inl ⟨rfl, _, .of hw2⟩, wp, _, _, rfl, rfl, hw2, last_snoc, ?_⟩
    rw [drop_snoc]
    generalize hH3 : upd (upd H' z (.lst [])) wp (.lst (ws.map V.int)) = H3
    have e3 : Xt T.Ts H H3 := hH3 ▸ e2.put hwH hw2 plain_lst
    have hw3 : H3 wp = some (.lst (ws.map V.int)) := by rw [← hH3]; exact upd_same
    have hd3 : H3 d = some (.dK kvs) := by rw [← hH3, upd_ne dw]; exact hd2
    refine ⟨_, rfl, _, rfl, d, _, rfl, .k (k := .inl r) hd3, _, rfl, ?_⟩
    by_cases hf : r ∈ fs
    · refine ifF (by rw [(hk r).mpr hf]; rfl) ?_
      exact ⟨_, by simp, kvs, fs, ws, _, _, _, rfl, e3, hd3, hw3, hk, kl, c.skip hf, rfl⟩
    refine ifT (by have : ¬ (valV kvs (.inl r)).isSome = true := fun z => hf ((hk r).mp z)
                   simp only [Bool.not_eq_true] at this; rw [this]; rfl) ?_
    refine ⟨_, rfl, _, rfl, d, _, rfl, .k (k := .inl r) hd3 (len_lt (by omega)), ?_⟩
    generalize hH4 : upd H3 d (.dK (putK kvs (.inl r) (.bl true))) = H4
    have e4 : Xt T.Ts H H4 := hH4 ▸ e3.put hd hd3 plain_dK
    have hw4 : H4 wp = some (.lst (ws.map V.int)) := by rw [← hH4, upd_ne (Ne.symm dw)]; exact hw3
    have hd4 : H4 d = some (.dK (putK kvs (.inl r) (.bl true))) := by rw [← hH4]; exact upd_same
    have ha4 := e4.lst ha
    have hes4 := e4.rps hes
    refine ⟨_, rfl, .inl ⟨rfl, _, .of hw4⟩, ?_⟩
    refine ⟨_, rfl, a, rfl, ⟨_, .of ha4⟩, fun D hD => ?_⟩
    refine lc_sel (T := T.Ts) (walk_list (xs := es)) hD (fun i acc _ => acc = (tosE (E.take i) r).map V.int) (fun H5 e5 => .of (e5.lst ha4)) rfl (fun i x acc H5 H6 hi e5 hacc lacc hR5 hY => ?_) (fun acc H5 e5 hacc lacc hR5 => ?_)
    · obtain ⟨rfl, hx⟩ := hY
      obtain ⟨p, hp, hxp⟩ := RpAll.getM hes4 hx
      obtain ⟨pa, rfl, hpa⟩ := pD_inv hxp
      have hpa5 := e5.tup hpa
      refine ⟨pa, _, rfl, .inl (.of hpa5), rfl, _, _, rfl, _, _, rfl, rfl, rfl, ?_⟩
      refine ⟨_, rfl, _, rfl, rfl, _, rfl, ?_⟩
      have et : tosE (E.take (i + 1)) r = tosE (E.take i) r ++ tosE [p] r := by unfold tosE; rw [take_succ' hp, List.filter_append, List.map_append]
      by_cases hpr : p.1 = r
      · refine ifT (by rw [hpr]; exact decide_eq_true rfl) ?_
        have hn : i < 1000000 := by have := RpAll.len hes4; rw [List.length_map] at this; omega
        refine ⟨_, rfl, LcP.put hD e5 hacc lacc hn ?_⟩
        rw [hR5, et, List.map_append]
        congr 1
        simp [tosE, hpr]
      · refine ifF (decide_eq_false fun z => hpr (V.int.inj z)) (LcP.keep e5 hacc lacc ?_)
        rw [hR5, et]
        simp [tosE, hpr]
    · have ewl : E.length = es.length := by have := RpAll.len hes4; rw [List.length_map] at this; omega
      rw [← ewl, List.take_length] at hR5
      subst hR5
      have hw5 := e5.lst hw4
      have hd5 := e5.at hd4 plain_dK
      have nD : wp ≠ D := ne_of_none hw4 hD
      have hwH5 : H wp = none := hwH
      have lt : (tosE E r).length ≤ 200 := by have : (tosE E r).length ≤ E.length := (by unfold tosE; rw [List.length_map]; exact List.length_filter_le _ _); omega
      have lw : (ws ++ [r]).length ≤ 12 + fs.length * 200 := c.ln
      have fl : (r :: fs).length ≤ 12 := Nat.le_trans (nodup_len (u := u) (List.nodup_cons.mpr ⟨hf, c.nd⟩) fun x hx => by
        rcases List.mem_cons.mp hx with rfl | hx
        · exact reach_univ hR hE (c.wr x (List.mem_append_right _ (List.mem_singleton.mpr rfl)))
        · exact reach_univ hR hE (c.fr x hx)) lu
      rw [List.length_append, List.length_singleton] at lw
      rw [List.length_cons] at fl
      refine ⟨wp, D, _, _, rfl, rfl, hw5, hacc, ?_, ?_⟩
      · rw [List.length_map, List.length_map]; exact len_le (by omega)
      refine ⟨_, ?_, putK kvs (.inl r) (.bl true), r :: fs, ws ++ tosE E r, _, _, _, rfl, (e4.trans e5).put hwH hw5 plain_lst, ?_, ?_, fun x => ?_, ?_, c.more hf lE, rfl⟩
      · rw [List.length_append, List.length_append, List.length_cons, List.length_singleton]; omega
      · rw [upd_ne dw]; exact hd5
      · rw [upd_same, List.map_append]
      · rw [valV_put]
        by_cases hx : x = r
        · subst hx; simp
        · rw [if_neg fun z => hx (Sum.inl.inj z)]
          exact (hk x).trans ⟨fun z => List.mem_cons_of_mem _ z, fun z => (List.mem_cons.mp z).elim (fun y => (hx y).elim) id⟩
      · have := length_putK kvs (.inl r) (.bl true); rw [List.length_cons]; omega
theorem eB_len {M : Mac} : (eB M).length = M.S.length := List.length_map _
theorem eF_len {M : Mac} : (eF M).length = M.S.length := List.length_map _
theorem ok_useful (T : Txt K mg) : FnOk P w K mg base CX0 6 T.useful.f T.useful.fd P_useful (sp_useful T.Ts) := by
  refine T.useful.F.ok sc_useful (fun vs H Q E h => ?_) (fun cdv A outer s H vs Q E hr h => ⟨_, (pss_cons (ps_expr (pe_call (ok_look_at T) (hr.mono (by decide)) rfl T.look_at.g T.look_at.F.kp T.look_at.b .nil pass0 (pa_cons (pv 0) pa_nil)))
    (pss_cons (ps_set (i := 1) sc_useful.nd rfl (Or.inr rfl) (pe_call (ok_come_to T) (hr.mono (by decide)) rfl T.come_to.g T.come_to.F.kp T.come_to.b .nil pass0 (pa_cons (pe_lc (own := [("room", 2), ("sign", 3), ("to", 4)]) (by rfl) sc_useful.nd (pi_list (pe_ix ix_tup (pv 0) pe_int (fun _ _ => rfl))) (blkOk_by (own := [("room", 2), ("sign", 3), ("to", 4)]) (N := N_useful) (sc := defScope s_useful) (by decide +kernel)) (fun _ _ _ _ _ => (pg_tupC (K := K) (n := 3) rfl rfl (pgs_cons (pg_name (i := 2) sc_useful.nd rfl (Or.inl rfl) (Or.inr rfl)) (pgs_cons (pg_name (i := 3) sc_useful.nd rfl (Or.inl rfl) (Or.inr rfl)) (pgs_cons (pg_name (i := 4) sc_useful.nd rfl (Or.inl rfl) (Or.inr rfl)) pgs_nil))))) (fun _ _ _ _ _ => pts_nil) (fun _ _ _ _ _ => (pe_tup (pa_cons (pv 2) (pa_cons (pv 4) pa_nil))))) (pa_cons (pe_ix ix_tup (pv 0) pe_int (fun _ _ => rfl)) pa_nil))))
    (pss_cons (ps_set (i := 5) sc_useful.nd rfl (Or.inr rfl) (pe_call (ok_come_to T) (hr.mono (by decide)) rfl T.come_to.g T.come_to.F.kp T.come_to.b .nil pass0 (pa_cons (pe_lc (own := [("room", 2), ("sign", 3), ("to", 4)]) (by rfl) sc_useful.nd (pi_list (pe_ix ix_tup (pv 0) pe_int (fun _ _ => rfl))) (blkOk_by (own := [("room", 2), ("sign", 3), ("to", 4)]) (N := N_useful) (sc := defScope s_useful) (by decide +kernel)) (fun _ _ _ _ _ => (pg_tupC (K := K) (n := 3) rfl rfl (pgs_cons (pg_name (i := 2) sc_useful.nd rfl (Or.inl rfl) (Or.inr rfl)) (pgs_cons (pg_name (i := 3) sc_useful.nd rfl (Or.inl rfl) (Or.inr rfl)) (pgs_cons (pg_name (i := 4) sc_useful.nd rfl (Or.inl rfl) (Or.inr rfl)) pgs_nil))))) (fun _ _ _ _ _ => pts_nil) (fun _ _ _ _ _ => (pe_tup (pa_cons (pv 4) (pa_cons (pv 2) pa_nil))))) (pa_cons (pe_ix ix_tup (pv 0) pe_int (fun _ _ => rfl)) pa_nil))))
    (pss_one (ps_ret (pe_lc (own := [("room", 2)]) (by rfl) sc_useful.nd (pi_range1 (by rfl) T.n_range (pa_cons (pe_ix ix_tup (pv 0) pe_int (fun _ _ => rfl)) pa_nil)) (blkOk_by (own := [("room", 2)]) (N := N_useful) (sc := defScope s_useful) (by decide +kernel)) (fun _ _ _ _ _ => (pg_name (i := 2) sc_useful.nd rfl (Or.inl rfl) (Or.inr rfl))) (fun _ _ _ _ _ => (pts_one (PW.pt (pw_and (pt_cmp (pc_din (hu_of hr) (pv 2) (pv 1))) (pw_and1 (pt_cmp (pc_din (hu_of hr) (pv 2) (pv 5)))))))) (fun _ _ _ _ _ => (pv 2)))))))), ?_⟩)
  · obtain ⟨v, M, rfl, _⟩ := h; rfl
  · obtain ⟨v, M, rfl, hv, g, q⟩ := h
    refine ⟨_, rfl, _, M, rfl, hv, g, fun v1 H1 e1 _ => ?_⟩
    have hv1 := e1.rp hv
    obtain ⟨a, f, l, sp, ss, rfl, m⟩ := mD_inv hv1
    have hl := RpAll.len m.ss
    rw [List.length_map] at hl
    refine ⟨_, rfl, _, _, _, _, rfl, rfl, .of m.t, atI_nat (j := 3) rfl, sp, rfl, ⟨_, .of m.s⟩, fun D hD => ?_⟩
    refine lc_sel (T := T.Ts) (walk_list (xs := ss)) hD (fun i acc Hh => RpAll Hh acc (((eF M).take i).map pD)) (fun H5 e5 => .of (e5.lst m.s)) .nil (fun i x acc H5 H6 hi e5 hacc lacc hR5 hY => ?_) (fun acc H5 e5 hacc lacc hR5 => ?_)
    · obtain ⟨rfl, hx⟩ := hY
      obtain ⟨z, hz, hxz⟩ := RpAll.getM m.ss hx
      obtain ⟨pa, rfl, hpa⟩ := sD_inv hxz
      refine ⟨pa, _, rfl, .inl (.of (e5.tup hpa)), rfl, _, _, rfl, _, _, rfl, _, _, rfl, rfl, rfl, ?_⟩
      refine ⟨_, rfl, _, rfl, (by show 2 ≤ sizeLine; decide), fun p hp => ?_⟩
      exact LcP.putT (z := (z.1, z.2.2)) hD e5 hacc lacc (by have := g.Sn; omega) hp (by rw [eF, List.getElem?_map, hz]; rfl) hR5 fun H' _ h => pD_of h
    rw [show (eF M).take ss.length = eF M by rw [hl, ← eF_len, List.take_length]] at hR5
    have m5 := m.mono e5
    refine ⟨_, rfl, _, _, _, _, rfl, rfl, .of m5.t, atI_nat (j := 1) rfl, ?_⟩
    refine ⟨D, f, acc, eF M, M.F, rangeI M.n, rfl, hacc, rps_sub sub_hid _ hR5, m5.f, by rw [eF_len]; exact g.Sn, le_12 _ g.F g.Fr g.n2, by rw [rangeI_len]; have := g.n2; omega, fun r hr => mem_rangeI.mpr (g.Fr r hr), fun p hp => mem_rangeI.mpr (g.eF p hp).2, fun v H6 e6 hv6 => ?_⟩
    obtain ⟨da, ka, rfl, hda, hka⟩ := hv6
    have m6 := m5.mono e6
    clear hR5 lacc hacc hD
    refine ⟨_, rfl, _, _, _, _, rfl, rfl, .of m6.t, atI_nat (j := 3) rfl, sp, rfl, ⟨_, .of m6.s⟩, fun D2 hD => ?_⟩
    refine lc_sel (T := T.Ts) (walk_list (xs := ss)) hD (fun i acc Hh => RpAll Hh acc (((eB M).take i).map pD)) (fun H5 e5 => .of (e5.lst m6.s)) .nil (fun i x acc H5 H8 hi e5 hacc lacc hR5 hY => ?_) (fun acc2 H7 e7 hacc lacc hR5 => ?_)
    · obtain ⟨rfl, hx⟩ := hY
      obtain ⟨z, hz, hxz⟩ := RpAll.getM m6.ss hx
      obtain ⟨pa, rfl, hpa⟩ := sD_inv hxz
      refine ⟨pa, _, rfl, .inl (.of (e5.tup hpa)), rfl, _, _, rfl, _, _, rfl, _, _, rfl, rfl, rfl, ?_⟩
      refine ⟨_, rfl, _, rfl, (by show 2 ≤ sizeLine; decide), fun p hp => ?_⟩
      exact LcP.putT (z := (z.2.2, z.1)) hD e5 hacc lacc (by have := g.Sn; omega) hp (by rw [eB, List.getElem?_map, hz]; rfl) hR5 fun H' _ h => pD_of h
    rw [show (eB M).take ss.length = eB M by rw [hl, ← eB_len, List.take_length]] at hR5
    have m7 := m6.mono e7
    refine ⟨_, rfl, _, _, _, _, rfl, rfl, .of m7.t, atI_nat (j := 2) rfl, ?_⟩
    refine ⟨D2, l, acc2, eB M, M.L, rangeI M.n, rfl, hacc, rps_sub sub_hid _ hR5, m7.l, by rw [eB_len]; exact g.Sn, le_12 _ g.L g.Lr g.n2, by rw [rangeI_len]; have := g.n2; omega, fun r hr => mem_rangeI.mpr (g.Lr r hr), fun p hp => mem_rangeI.mpr (g.eB p hp).2, fun v H8 e8 hv8 => ?_⟩
    obtain ⟨db, kb, rfl, hdb, hkb⟩ := hv8
    have m8 := m7.mono e8
    have hda8 := (e7.trans e8).at hda plain_dK
    have nb := g.n2
    have nb1 := g.n1
    refine ⟨_, rfl, _, _, _, _, rfl, rfl, .of m8.t, atI_nat (j := 0) rfl, M.n, rfl, by omega, by omega, fun D3 hD3 => ?_⟩
    refine lc_sel (T := T.Ts) (walk_range (lo := 0)) hD3 (fun i acc Hh => acc = (((rangeI M.n).take i).filter fun r => decide (Useful M r)).map V.int) (fun H5 e5 => trivial) rfl (fun i x acc H5 H9 hi e9 hacc lacc hR5 hY => ?_) (fun acc3 H9 e9 hacc lacc hR9 => ?_)
    · obtain ⟨rfl, rfl⟩ := hY
      have hda9 := e9.at hda8 plain_dK
      have hdb9 := e9.at hdb plain_dK
      have hr := range_at hi
      refine ⟨rfl, _, rfl, _, rfl, da, _, rfl, .k (k := .inl ((0 : Int) + i)) hda9, _, rfl, ?_⟩
      by_cases h1 : (valV ka (.inl ((0 : Int) + i))).isSome = true
      · refine ifT h1 ?_
        refine ⟨_, rfl, _, rfl, db, _, rfl, .k (k := .inl ((0 : Int) + i)) hdb9, _, rfl, ?_⟩
        by_cases h2 : (valV kb (.inl ((0 : Int) + i))).isSome = true
        · refine ifT h2 ⟨_, rfl, LcP.put hD3 e9 hacc lacc (by omega) ?_⟩
          rw [hR5, filt_snoc _ hr, if_pos (decide_eq_true ⟨(hka _).mp h1, (hkb _).mp h2⟩), List.map_append]
          rfl
        · refine ifF (by simpa using h2) (LcP.keep e9 hacc lacc ?_)
          rw [hR5, filt_snoc _ hr, if_neg (by rw [decide_eq_true_eq]; exact fun z => h2 ((hkb _).mpr z.2)), List.append_nil]
      · refine ifF (by simpa using h1) (iteF (LcP.keep e9 hacc lacc ?_))
        rw [hR5, filt_snoc _ hr, if_neg (by rw [decide_eq_true_eq]; exact fun z => h1 ((hka _).mpr z.1)), List.append_nil]
    rw [range_all] at hR9
    subst hR9
    have e19 := ((((e1.trans e5).trans e6).trans e7).trans e8)
    exact q.go (e19.trans e9) ⟨D3, rfl, hacc⟩
theorem ok_trimmed (T : Txt K mg) : FnOk P w K mg base CX0 7 T.trimmed.f T.trimmed.fd P_trimmed (sp_trimmed T.Ts) := by
  refine T.trimmed.F.ok sc_trimmed (fun vs H Q E h => ?_) (fun cdv A outer s H vs Q E hr h => ⟨_, (pss_cons (ps_set (i := 1) sc_trimmed.nd rfl (Or.inr rfl) (pe_call (ok_useful T) (hr.mono (by decide)) rfl T.useful.g T.useful.F.kp T.useful.b .nil pass0 (pa_cons (pv 0) pa_nil)))
    (pss_cons (ps_setLc (i := 2) (own := [("room", 3)]) (by rfl) sc_trimmed.nd rfl rfl (sw_true rfl rfl rfl (by decide +kernel)) (pi_list (pe_ix ix_tup (pv 0) pe_int (fun _ _ => rfl))) (blkOk_by (own := [("room", 3)]) (N := N_trimmed) (sc := defScope s_trimmed) (by decide +kernel)) (fun _ _ _ _ _ => (pg_name (i := 3) sc_trimmed.nd rfl (Or.inl rfl) (Or.inr rfl))) (fun _ _ _ _ _ => (pts_one (pt_cmpR (op_in_seqC (K := K) rfl) (pv 3) (pv 1) (by rfl)))) (fun _ _ _ _ _ => (pv 3)))
    (pss_cons (ps_setLc (i := 4) (own := [("room", 3)]) (by rfl) sc_trimmed.nd rfl rfl (sw_true rfl rfl rfl (by decide +kernel)) (pi_list (pe_ix ix_tup (pv 0) pe_int (fun _ _ => rfl))) (blkOk_by (own := [("room", 3)]) (N := N_trimmed) (sc := defScope s_trimmed) (by decide +kernel)) (fun _ _ _ _ _ => (pg_name (i := 3) sc_trimmed.nd rfl (Or.inl rfl) (Or.inr rfl))) (fun _ _ _ _ _ => (pts_one (pt_cmpR (op_in_seqC (K := K) rfl) (pv 3) (pv 1) (by rfl)))) (fun _ _ _ _ _ => (pv 3)))
    (pss_one (ps_ret (pe_tup (pa_cons (pe_ix ix_tup (pv 0) pe_int (fun _ _ => rfl)) (pa_cons (pv 2) (pa_cons (pv 4) (pa_cons (pe_lc (own := [("step", 5)]) (by rfl) sc_trimmed.nd (pi_list (pe_ix ix_tup (pv 0) pe_int (fun _ _ => rfl))) (blkOk_by (own := [("step", 5)]) (N := N_trimmed) (sc := defScope s_trimmed) (by decide +kernel)) (fun _ _ _ _ _ => (pg_name (i := 5) sc_trimmed.nd rfl (Or.inl rfl) (Or.inr rfl))) (fun _ _ _ _ _ => (pts_one (PW.pt (pw_and (pt_cmpR (op_in_seqC (K := K) rfl) (pe_ix (ix_tupC (K := K) rfl) (pv 5) pe_int (fun _ _ => rfl)) (pv 1) (by rfl)) (pw_and1 (pt_cmpR (op_in_seqC (K := K) rfl) (pe_ix (ix_tupC (K := K) rfl) (pv 5) pe_int (fun _ _ => rfl)) (pv 1) (by rfl))))))) (fun _ _ _ _ _ => (pv 5))) pa_nil)))))))))), ?_⟩)
  · obtain ⟨v, M, rfl, _⟩ := h; rfl
  · obtain ⟨v, M, rfl, hv, g, q⟩ := h
    refine ⟨_, rfl, _, M, rfl, hv, g, fun v1 H1 e1 h1 => ?_⟩
    obtain ⟨ra, rfl, hra⟩ := h1
    have hv1 := e1.rp hv
    obtain ⟨a, f, l, sp, ss, rfl, m⟩ := mD_inv hv1
    have n1 := g.n1
    have n2 := g.n2
    have hl := RpAll.len m.ss
    rw [List.length_map] at hl
    have lF := le_12 _ g.F g.Fr g.n2
    have lL := le_12 _ g.L g.Lr g.n2
    have lS := g.Sn
    have hin : ∀ r : Int, inV (.int r) ((usefulL M).map V.int) = decide (Useful M r) := fun r => by rw [inV_ints, decide_eq_decide]; exact g.mem_useful
    refine ⟨_, rfl, _, _, _, _, rfl, rfl, .of m.t, atI_nat (j := 1) rfl, f, rfl, ⟨_, .of m.f⟩, fun D hD => ?_⟩
    refine lc_sel (T := T.Ts) (walk_list (xs := M.F.map V.int)) hD (fun i acc Hh => acc = ((M.F.take i).filter fun r => decide (Useful M r)).map V.int) (fun H5 e5 => .of (e5.lst m.f)) rfl (fun i x acc H5 H6 hi e5 hacc lacc hR5 hY => ?_) (fun acc H5 e5 hacc lacc hR5 => ?_)
    · obtain ⟨rfl, hx⟩ := hY
      obtain ⟨z, hz, rfl⟩ := int_at hx
      refine ⟨rfl, _, rfl, _, rfl, ra, _, rfl, .inl (.of (e5.lst hra)), rfl, flat_ints _, _, rfl, ?_⟩
      rw [List.length_map] at hi
      by_cases hu : Useful M z
      · refine ifT ((hin z).trans (decide_eq_true hu)) ⟨_, rfl, LcP.put hD e5 hacc lacc (by omega) ?_⟩
        rw [hR5, filt_snoc _ hz, if_pos (decide_eq_true hu), List.map_append]
        rfl
      · refine ifF ((hin z).trans (decide_eq_false hu)) (LcP.keep e5 hacc lacc ?_)
        rw [hR5, filt_snoc _ hz, if_neg (by rw [decide_eq_true_eq]; exact hu), List.append_nil]
    rw [List.length_map, List.take_length] at hR5
    subst hR5
    have m5 := m.mono e5
    have hra5 := e5.lst hra
    clear lacc
    refine ⟨_, rfl, _, _, _, _, rfl, rfl, .of m5.t, atI_nat (j := 2) rfl, l, rfl, ⟨_, .of m5.l⟩, fun D2 hD2 => ?_⟩
    refine lc_sel (T := T.Ts) (walk_list (xs := M.L.map V.int)) hD2 (fun i acc Hh => acc = ((M.L.take i).filter fun r => decide (Useful M r)).map V.int) (fun H6 e6 => .of (e6.lst m5.l)) rfl (fun i x acc H6 H7 hi e6 hacc lacc hR6 hY => ?_) (fun acc2 H6 e6 hacc2 lacc hR6 => ?_)
    · obtain ⟨rfl, hx⟩ := hY
      obtain ⟨z, hz, rfl⟩ := int_at hx
      refine ⟨rfl, _, rfl, _, rfl, ra, _, rfl, .inl (.of (e6.lst hra5)), rfl, flat_ints _, _, rfl, ?_⟩
      rw [List.length_map] at hi
      by_cases hu : Useful M z
      · refine ifT ((hin z).trans (decide_eq_true hu)) ⟨_, rfl, LcP.put hD2 e6 hacc lacc (by omega) ?_⟩
        rw [hR6, filt_snoc _ hz, if_pos (decide_eq_true hu), List.map_append]
        rfl
      · refine ifF ((hin z).trans (decide_eq_false hu)) (LcP.keep e6 hacc lacc ?_)
        rw [hR6, filt_snoc _ hz, if_neg (by rw [decide_eq_true_eq]; exact hu), List.append_nil]
    rw [List.length_map, List.take_length] at hR6
    subst hR6
    have m6 := m5.mono e6
    have hra6 := e6.lst hra5
    clear lacc
    refine ⟨_, rfl, _, _, _, _, rfl, rfl, .of m6.t, atI_nat (j := 0) rfl, _, rfl, _, rfl, ?_⟩
    refine ⟨_, rfl, _, _, _, _, rfl, rfl, .of m6.t, atI_nat (j := 3) rfl, sp, rfl, ⟨_, .of m6.s⟩, fun D3 hD3 => ?_⟩
    have uS : ∀ (s : Int × Nat × Int), decide (Useful M s.1 ∧ Useful M s.2.2) = (decide (Useful M s.1) && decide (Useful M s.2.2)) := fun s => Bool.decide_and ..
    refine lc_sel (T := T.Ts) (walk_list (xs := ss)) hD3 (fun i acc Hh => RpAll Hh acc (((M.S.take i).filter fun s => decide (Useful M s.1 ∧ Useful M s.2.2)).map sD)) (fun H7 e7 => .of (e7.lst m6.s)) .nil (fun i x acc H7 H8 hi e7 hacc3 lacc hR7 hY => ?_) (fun acc3 H7 e7 hacc3 lacc hR7 => ?_)
    · obtain ⟨rfl, hx⟩ := hY
      obtain ⟨z, hz, hxz⟩ := RpAll.getM m6.ss hx
      have hxh := rp_sub (e7.hid hD3) _ hxz
      obtain ⟨pa, rfl, hpa⟩ := sD_inv hxz
      have hpa7 := e7.tup hpa
      refine ⟨rfl, _, rfl, _, _, _, _, rfl, rfl, .of hpa7, atI_nat (j := 0) rfl, _, rfl, ra, _, rfl, .inl (.of (e7.lst hra6)), rfl, flat_ints _, _, rfl, ?_⟩
      by_cases hu : Useful M z.1
      · refine ifT ((hin _).trans (decide_eq_true hu)) ?_
        refine ⟨_, rfl, _, _, _, _, rfl, rfl, .of hpa7, atI_nat (j := 2) rfl, _, rfl, ra, _, rfl, .inl (.of (e7.lst hra6)), rfl, flat_ints _, _, rfl, ?_⟩
        by_cases hu2 : Useful M z.2.2
        · refine ifT ((hin _).trans (decide_eq_true hu2)) ⟨_, rfl, LcP.put hD3 e7 hacc3 lacc (by omega) ?_⟩
          rw [filt_snoc _ hz, if_pos (decide_eq_true ⟨hu, hu2⟩), List.map_append]
          exact hR7.app (.one hxh)
        · refine ifF ((hin _).trans (decide_eq_false hu2)) (LcP.keep e7 hacc3 lacc ?_)
          rw [filt_snoc _ hz, if_neg (by rw [decide_eq_true_eq]; exact fun z => hu2 z.2), List.append_nil]
          exact hR7
      · refine ifF ((hin _).trans (decide_eq_false hu)) (iteF (LcP.keep e7 hacc3 lacc ?_))
        rw [filt_snoc _ hz, if_neg (by rw [decide_eq_true_eq]; exact fun z => hu z.1), List.append_nil]
        exact hR7
    rw [hl, List.take_length] at hR7
    refine ⟨(by show 4 ≤ sizeLine; decide), fun p hp => ?_⟩
    have e8 : Xt T.Ts H7 (upd H7 p (.tup [.int M.n, .ref D, .ref D2, .ref D3])) := .new hp
    refine q.go (((e1.trans e5).trans e6).trans (e7.trans e8)) ?_
    refine .tup upd_same (.cons (.int _) (.cons (.ints ?_) (.cons (.ints ?_) (.cons (.lst (e8.lst hacc3) (e8.rps (rps_sub sub_hid _ hR7))) .nil))))
    · exact (e6.trans (e7.trans e8)).lst hacc
    · exact (e7.trans e8).lst hacc2
end
end Tw
/-! Triesgrow, rules of our own: sum(.., start=0), max(.., default=0), xs[i] += .., b |= .. -/
namespace PySem
open Sem (wp)
open PyProof.Rows
section
variable {prog : Program} {w : World} {A : Around} {E : Value → Shared → Prop} {s : Shared}
/-- a built-in function called with keywords -/
theorem call_fnKw {id : String} {b : Builtin} {us : List Value} {kw : List (Str × Value)} {Q : Value → Shared → Prop} (hk : builtinKind id = none) (hp : plainId id = true) (hb : entryFor table id = some b) (ha : argsOk id ⟨us, kw⟩)
    (hc : wpAny (model prog w) A.in1 (b ⟨us, kw⟩) (fun fin s' => match fin with
      | .done f => (match (Except.ok f : Result) with | .ok (.ret v) => Q v s' | .ok _ => False | .error e => E e s')
      | .again c' => c'.quiet = true ∧ codeAny (model prog w) A c' (fun r s' => match r with | .ok (.ret v) => Q v s' | .ok _ => False | .error e => E e s') s') E s) : wpAny (model prog w) A (call (.builtin id) us kw) Q E s := by
  refine wpAny_call (codeAny_call_builtin hp hb ?_)
  simp only [checkBuiltinCall, hk]
  cases q : Manifest.signature? id with
  | none => exact wpAny_pure hc
  | some sig =>
    simp only [argsOk, q] at ha
    have z : Bind.checkArgs id sig ⟨us, kw⟩ = pure () := ha
    show wpAny _ A.in1 (Bind.checkArgs id sig ⟨us, kw⟩) _ _ s
    rw [z]
    exact wpAny_pure hc
theorem args_sumS (a b : Value) : argsOk "sum" ⟨[a], [(Str.ofString "start", b)]⟩ := by unfold argsOk; kernel_rfl
theorem args_maxD (a b : Value) : argsOk "max" ⟨[a], [(Str.ofString "default", b)]⟩ := by unfold argsOk; kernel_rfl
theorem bind_sumS (b : Value) : Builtin.Builtins.bindParams "sum" ["start"] 0 ⟨[], [(Str.ofString "start", b)]⟩ = pure [some b] := by kernel_rfl
theorem bind_maxD (b : Value) : Builtin.Builtins.bindParams "max" ["key", "default"] 0 ⟨[], [(Str.ofString "default", b)]⟩ = pure [none, some b] := by kernel_rfl
/-- sum(x, start=0) -/
theorem call_sum_start {x : Value} {t0 : Tok} {Q : Value → Shared → Prop}
    (h : wpAny (model prog w) A.in1 (pyIter x) (fun it s₂ => ∃ I fp wr n P St val, it = .ref I ∧ Walks prog w A.in1 I fp wr n P St ∧ St 0 s₂.heap ∧ (∀ b ∈ fp, b < s₂.heap.objs.size) ∧
      (∀ i v, P i v → ∃ t, v = .int (val i) t) ∧
      ∀ h' tk t', (∀ b o, b ∉ wr → s₂.heap.get? b = some o → h'.get? b = some o) → Q (.int (preSum val n) t') { s₂ with heap := h', toks := tk }) E s) :
    wpAny (model prog w) A (call (.builtin "sum") [x] [(Str.ofString "start", .int 0 t0)]) Q E s := by
  refine call_fnKw F.kind_sum F.plain_sum F.entry_sum (args_sumS _ _) ?_
  unfold Builtin.«sum»
  simp only [List.length_cons, List.length_nil]
  rw [if_neg (by decide)]
  refine wpAny_bind (wpAny_of_eq (bind_sumS _) ?_)
  refine wpAny_bind (wpAny_mono h (fun it s₂ h₂ => ?_) fun _ _ e => e)
  obtain ⟨I, fp, wr, n, P, St, val, rfl, W, hst, hfp, hval, hQ⟩ := h₂
  show wpAny _ A.in1 (rule "sum.start-copied" >>= _) _ _ _
  refine wpAny_bind (wpAny_rule (wpAny_bind (wpAny_mkInt (wpAny_bind (wpAny_pure ?_)))))
  simp only [List.forIn_cons, List.forIn_nil]
  refine wpAny_bind (wpAny_bind (wpAny_bind (wpAny_isInstance (T := "int") (b := false) (typeIs_int _ _ _) sub_int_str ?_)))
  simp only [Bool.false_eq_true, if_false]
  refine wpAny_pure (wpAny_bind (wpAny_bind (wpAny_isInstance (T := "int") (b := false) (typeIs_int _ _ _) sub_int_bytes ?_)))
  simp only [Bool.false_eq_true, if_false]
  refine wpAny_pure (wpAny_bind (wpAny_bind (wpAny_isInstance (T := "int") (b := false) (typeIs_int _ _ _) sub_int_bytearray ?_)))
  simp only [Bool.false_eq_true, if_false]
  refine wpAny_pure (wpAny_pure ?_)
  refine wpAny_bind (wpAny_newObj_type ?_)
  have hSf : s₂.heap.objs.size ∉ fp := fun hm => Nat.lt_irrefl _ (hfp _ hm)
  refine wpAny_pure ⟨plainId_quiet F.plain_sum_loop _, codeAny_sum_loopG W val hval s₂.heap.objs.size hSf n 0 _ s₂.toks 0 0 (Or.inl rfl) rfl (Nat.zero_le _)
    (W.frame _ _ _ hst fun b _ o e => Heap.get?_push_of_some _ e) (Heap.get?_push_size _ rfl) fun h' tk t' hk => ?_⟩
  exact hQ h' tk t' fun b o hbw e => hk b o hbw (Nat.ne_of_lt (Heap.lt_size e)) (Heap.get?_push_of_some _ e)
section
variable {I : Addr} {fp wr : List Addr} {n : Nat} {P : Nat → Value → Prop} {St : Nat → Heap → Prop} {R : Result → Shared → Prop} {d : Value}
theorem max_loop_kw (W : Walks prog w A.in1 I fp wr n P St) (bt : Nat → Nat → Bool) (hcmp : CmpOf prog w A.in1 .Gt P bt) (S : Addr) (hSf : S ∉ fp) :
    ∀ (k j : Nat) (s : Shared) (vb : Value) (c : Nat), n - (j + 1) = k → j + 1 ≤ n → St (j + 1) s.heap → P (argBest bt j) vb →
    s.heap.get? S = some { cls := .type "list", dict := none, data := .seq #[vb, vb] c, slots := #[] } →
    (∀ v h' tk, P (argBest bt (n - 1)) v → (∀ b o, b ∉ wr → b ≠ S → s.heap.get? b = some o → h'.get? b = some o) → R (.ok (.ret v)) { s with heap := h', toks := tk }) →
    codeAny (model prog w) A (.builtin "max.loop" ⟨[.ref I, .none, .ref S], [(Str.ofString "default", d)]⟩) R s := by
  have hSw : S ∉ wr := fun h => hSf (W.sub _ h)
  have hname : (toString "max" ++ toString ".loop" : String) = "max.loop" := by decide
  intro k
  induction k with
  | zero =>
    intro j s vb c hk hj hst hPb hS hR
    have hin : j + 1 = n := by omega
    refine codeAny_builtin F.entry_max_loop ?_
    rw [Around.under_plainId F.plain_max_loop _]
    show wpAny _ A.in1 (seqItems? (.ref S) >>= _) _ _ s
    refine wpAny_bind (wpAny_seqItems hS rfl ?_)
    show wpAny _ A.in1 (tryCatch (pyNext (.ref I)) _ >>= _) _ _ s
    refine wpAny_bind (wpAny_tryCatch (W.done s _ _ (hin ▸ hst) fun h' tk hk' => ?_))
    have hS' := hk' S _ hSw hS
    show wpAny _ A.in1 (updateSeq S (fun _ => #[]) >>= _) _ _ _
    refine wpAny_bind ?_
    refine wpAny_updateSeq hS' rfl (wpAny_bind (wpAny_letGo (wpAny_pure ?_)))
    refine hR vb _ tk (by rw [← hin]; exact hPb) fun b o hbw hbS e => (Heap.get?_update_other _ _ (Ne.symm hbS)).trans (hk' b o hbw e)
  | succ k ih =>
    intro j s vb c hk hj hst hPb hS hR
    have hlt : j + 1 < n := by omega
    refine codeAny_builtin F.entry_max_loop ?_
    rw [Around.under_plainId F.plain_max_loop _]
    show wpAny _ A.in1 (seqItems? (.ref S) >>= _) _ _ s
    refine wpAny_bind (wpAny_seqItems hS rfl ?_)
    show wpAny _ A.in1 (tryCatch (pyNext (.ref I)) _ >>= _) _ _ s
    refine wpAny_bind (wpAny_tryCatch (W.item (j + 1) s _ _ hlt hst fun v h' tk hP hst' hk' => ?_))
    have hS' := hk' S _ hSw hS
    show wpAny _ A.in1 (tryCatch (holding [v, v] (richCompare .Gt v vb >>= _)) _ >>= _) _ _ _
    refine wpAny_bind (wpAny_tryCatch (wpAny_holding (wpAny_bind (hcmp (j + 1) (argBest bt j) v vb _ _ _ hP hPb ?_))))
    refine wpAny_bind (wpAny_holding (wpAny_truthy_bool ?_))
    refine wpAny_bind (wpAny_letGo (wpAny_pure ?_))
    cases hb : bt (j + 1) (argBest bt j) with
    | true =>
      simp only [if_true]
      refine wpAny_bind ?_
      refine wpAny_updateSeq hS' rfl (wpAny_bind (wpAny_letGo ?_))
      rw [hname]
      refine wpAny_pure ⟨plainId_quiet F.plain_max_loop _, ih (j + 1) _ v _ (by omega) hlt (W.frame _ _ _ hst' fun b hbf o e => ?_) (by simp only [argBest, hb, if_true]; exact hP) (Heap.get?_update_self _ hS' rfl)
        fun v' h'' tk'' hP' hk'' => ?_⟩
      · exact (Heap.get?_update_other _ _ (fun h : S = b => hSf (by rw [h]; exact hbf))).trans e
      · exact hR v' h'' tk'' hP' fun b o hbw hbS e => hk'' b o hbw hbS ((Heap.get?_update_other _ _ (Ne.symm hbS)).trans (hk' b o hbw e))
    | false =>
      simp only [Bool.false_eq_true, if_false]
      refine wpAny_bind (wpAny_letGo ?_)
      rw [hname]
      refine wpAny_pure ⟨plainId_quiet F.plain_max_loop _, ih (j + 1) _ vb c (by omega) hlt hst' (by simp only [argBest, hb, Bool.false_eq_true, if_false]; exact hPb) hS' fun v' h'' tk'' hP' hk'' => ?_⟩
      exact hR v' h'' tk'' hP' fun b o hbw hbS e => hk'' b o hbw hbS (hk' b o hbw e)
theorem max_first_kw (W : Walks prog w A.in1 I fp wr n P St) (bt : Nat → Nat → Bool) (hcmp : CmpOf prog w A.in1 .Gt P bt) (S : Addr) (hSf : S ∉ fp) {s : Shared} {c : Nat} (hst : St 0 s.heap)
    (hS : s.heap.get? S = some { cls := .type "list", dict := none, data := .seq #[] c, slots := #[] })
    (hR : ∀ v h' tk, (if n = 0 then v = d else P (argBest bt (n - 1)) v) → (∀ b o, b ∉ wr → b ≠ S → s.heap.get? b = some o → h'.get? b = some o) → R (.ok (.ret v)) { s with heap := h', toks := tk }) :
    codeAny (model prog w) A (.builtin "max.loop" ⟨[.ref I, .none, .ref S], [(Str.ofString "default", d)]⟩) R s := by
  have hSw : S ∉ wr := fun h => hSf (W.sub _ h)
  have hname : (toString "max" ++ toString ".loop" : String) = "max.loop" := by decide
  refine codeAny_builtin F.entry_max_loop ?_
  rw [Around.under_plainId F.plain_max_loop _]
  show wpAny _ A.in1 (seqItems? (.ref S) >>= _) _ _ s
  refine wpAny_bind (wpAny_seqItems hS rfl ?_)
  show wpAny _ A.in1 (tryCatch (pyNext (.ref I)) _ >>= _) _ _ s
  by_cases hn : n = 0
  · refine wpAny_bind (wpAny_tryCatch (W.done s _ _ (hn ▸ hst) fun h' tk hk' => ?_))
    show wpAny _ A.in1 (rule _ >>= _) _ _ _
    refine wpAny_bind (wpAny_rule (wpAny_pure ?_))
    exact hR d h' tk (by rw [if_pos hn]) fun b o hbw hbS e => hk' b o hbw e
  · refine wpAny_bind (wpAny_tryCatch (W.item 0 s _ _ (by omega) hst fun v h' tk hP hst' hk' => ?_))
    have hS' := hk' S _ hSw hS
    show wpAny _ A.in1 (updateSeq S (fun _ => #[v, v]) >>= _) _ _ _
    refine wpAny_bind ?_
    refine wpAny_updateSeq hS' rfl ?_
    rw [hname]
    refine wpAny_pure ⟨plainId_quiet F.plain_max_loop _, max_loop_kw W bt hcmp S hSf _ 0 _ v _ rfl (by omega) (W.frame _ _ _ hst' fun b hbf o e => ?_) hP (Heap.get?_update_self _ hS' rfl) fun v' h'' tk'' hP' hk'' => ?_⟩
    · exact (Heap.get?_update_other _ _ (fun h : S = b => hSf (by rw [h]; exact hbf))).trans e
    · exact hR v' h'' tk'' (by rw [if_neg hn]; exact hP') fun b o hbw hbS e => hk'' b o hbw hbS ((Heap.get?_update_other _ _ (Ne.symm hbS)).trans (hk' b o hbw e))
end
/-- max(x, default=d) -/
theorem call_max_default {x d : Value} {Q : Value → Shared → Prop}
    (h : wpAny (model prog w) A.in1 (pyIter x) (fun it s₂ => ∃ I fp wr n P St bt, it = .ref I ∧ Walks prog w A.in1 I fp wr n P St ∧ St 0 s₂.heap ∧ (∀ b ∈ fp, b < s₂.heap.objs.size) ∧ CmpOf prog w A.in1 .Gt P bt ∧
      ∀ v h' tk, (if n = 0 then v = d else P (argBest bt (n - 1)) v) → (∀ b o, b ∉ wr → s₂.heap.get? b = some o → h'.get? b = some o) → Q v { s₂ with heap := h', toks := tk }) E s) :
    wpAny (model prog w) A (call (.builtin "max") [x] [(Str.ofString "default", d)]) Q E s := by
  have hname : (toString "max" ++ toString ".loop" : String) = "max.loop" := by decide
  refine call_fnKw F.kind_max F.plain_max F.entry_max (args_maxD _ _) ?_
  show wpAny _ A.in1 (Builtin.Builtins.bindParams "max" ["key", "default"] 0 ⟨[], [(Str.ofString "default", d)]⟩ >>= _) _ _ s
  refine wpAny_bind (wpAny_of_eq (bind_maxD _) ?_)
  refine wpAny_bind (wpAny_pure ?_)
  refine wpAny_bind (wpAny_mono h (fun it s₂ h₂ => ?_) fun _ _ e => e)
  obtain ⟨I, fp, wr, n, P, St, bt, rfl, W, hst, hfp, hcmp, hQ⟩ := h₂
  refine wpAny_bind (wpAny_newObj_type ?_)
  have hSf : s₂.heap.objs.size ∉ fp := fun hm => Nat.lt_irrefl _ (hfp _ hm)
  rw [hname]
  refine wpAny_pure ⟨plainId_quiet F.plain_max_loop _, max_first_kw W bt hcmp s₂.heap.objs.size hSf (W.frame _ _ _ hst fun b _ o e => Heap.get?_push_of_some _ e) (Heap.get?_push_size _ rfl) fun v h' tk hP hk => ?_⟩
  exact hQ v h' tk hP fun b o hbw e => hk b o hbw (Nat.ne_of_lt (Heap.lt_size e)) (Heap.get?_push_of_some _ e)
end
end PySem
namespace Tw
open PySem L2 Tg NdefX LamX
section
variable {X : Cx}
theorem cr_sumS (hc : X.calm = true) : CallRK X (.builtin "sum") [Str.ofString "start"] (fun vs zs H Q => ∃ (a : Addr) (ns : List Int), vs = [.ref a] ∧ zs = [.int 0] ∧ SqL X.K H a (ns.map V.int) ∧ Q (.int ns.sum) H) := by
  intro pins s σ H vs zs us ws Q I r rz h
  obtain ⟨a, ns, rfl, rfl, hs, q⟩ := h
  obtain rfl := Vals.ref1 r
  obtain ⟨w1, rfl, e1⟩ := vals1 rz
  obtain ⟨t0, rfl⟩ : ∃ t, w1 = Value.int 0 t := e1
  obtain ⟨its, rv, hl, _⟩ := I.list hs
  have hl := hl.isList
  have hi := rv.ints
  obtain ⟨xs, e⟩ := hi.allInts.items
  have hn : numsOf (intItems xs).toList = ns := by rw [← e]; exact hi.numsOf
  rw [nums_intItems] at hn
  rw [e] at hl
  refine PySem.call_sum_start (PySem.iter_intList hl fun s₂ e st hfp hlI => ?_)
  subst e
  refine ⟨_, _, _, _, _, _, numAt xs, rfl, Walks.list (A := X.A.in1) (I.ok.hd hc) _ a hlI (intItems xs), st, hfp, (fun _ _ => intItems_at), fun h' tk t' hk => ?_⟩
  refine ⟨.int ns.sum, H, I.kept (old_kept hk), ⟨t', ?_⟩, q⟩
  have es : (intItems xs).size = xs.size := by simp [intItems]
  rw [es, preSum_eq, List.take_of_length_le (by simp), hn]
theorem cr_maxDf (hc : X.calm = true) : CallRK X (.builtin "max") [Str.ofString "default"] (fun vs zs H Q => ∃ (a : Addr) (ns : List Int) (d : Int), vs = [.ref a] ∧ zs = [.int d] ∧ SqL X.K H a (ns.map V.int) ∧
    ∀ m, (if ns = [] then m = d else m ∈ ns ∧ ∀ a ∈ ns, a ≤ m) → Q (.int m) H) := by
  intro pins s σ H vs zs us ws Q I r rz h
  obtain ⟨a, ns, d, rfl, rfl, hs, q⟩ := h
  obtain rfl := Vals.ref1 r
  obtain ⟨w1, rfl, e1⟩ := vals1 rz
  obtain ⟨t0, rfl⟩ : ∃ t, w1 = Value.int d t := e1
  obtain ⟨its, rv, hl, _⟩ := I.list hs
  have hl := hl.isList
  have hi := rv.ints
  obtain ⟨xs, e⟩ := hi.allInts.items
  have hn : numsOf (intItems xs).toList = ns := by rw [← e]; exact hi.numsOf
  rw [nums_intItems] at hn
  subst hn
  rw [e] at hl
  refine PySem.call_max_default (PySem.iter_intList hl fun s₂ e st hfp hlI => ?_)
  subst e
  refine ⟨_, _, _, _, _, _, _, rfl, Walks.list (A := X.A.in1) (I.ok.hd hc) _ a hlI (intItems xs), st, hfp, CmpOf.ints_gt (numAt xs) (fun _ _ => intItems_at), fun v h' tk hP hk => ?_⟩
  have es : (intItems xs).size = xs.size := by simp [intItems]
  rw [es] at hP
  by_cases h0 : xs.size = 0
  · rw [if_pos h0] at hP
    subst hP
    exact ⟨.int d, H, I.kept (old_kept hk), ⟨_, rfl⟩, q d (by rw [if_pos]; rw [List.map_eq_nil_iff]; exact Array.toList_eq_nil_iff.mpr (Array.eq_empty_of_size_eq_zero h0))⟩
  · rw [if_neg h0] at hP
    obtain ⟨t, rfl⟩ := intItems_at hP
    obtain ⟨h1, h2⟩ := argBest_gt (numAt xs) (xs.size - 1)
    refine ⟨.int _, H, I.kept (old_kept hk), ⟨_, rfl⟩, q _ ?_⟩
    rw [if_neg (fun z => h0 (by have := congrArg List.length z; simpa using this))]
    refine ⟨?_, fun a ha => ?_⟩
    · rw [numAt_eq]; exact PySem.getD_mem (by rw [List.length_map, Array.length_toList]; omega)
    · obtain ⟨j, hj, rfl⟩ := mem_getD ha
      rw [List.length_map, Array.length_toList] at hj
      rw [← numAt_eq]; exact h2 j (by omega)
end
end Tw
/-! Triesgrow, rules of our own: xs[i] read by an augmented store, b |= .., enumerate over a text, a call in keywords -/
namespace Tw
open PySem PySem.Spec PyProof.Rows L2 Tg NdefX LamX
section
variable {X : Cx}
theorem get_list : PGet X (rIxL X.K) := by
  intro pins s σ H x y v u Q I rx ry h
  obtain ⟨p, xs, i, z, rfl, rfl, hq, he, q⟩ := h
  cases rx
  obtain ⟨t, rfl⟩ := ry
  obtain ⟨its, r, pl, hz⟩ := I.list hq
  obtain ⟨j, h1, h2, h3, h4, h5⟩ := atI_get he
  obtain ⟨w, ew, rw'⟩ := r.get h2
  have hl := r.length
  have hn := line63
  have fin : EP X pins σ Q w s := ⟨z, H, I, rw', q⟩
  by_cases h0 : 0 ≤ i
  · have hj : i.toNat = j := by
      rw [seqIndex_of h0 h5] at h1
      exact Option.some.inj h1
    exact wpAny_getItem_list pl.isList h0 (by omega) (by rw [hj]; simpa using ew) fin
  · have hj : (i + (its.toArray.size : Int)).toNat = j := by
      rw [seqIndex_neg (by omega) h4] at h1
      rw [List.size_toArray, ← hl]
      exact Option.some.inj h1
    exact wpAny_getItem_list_neg pl.isList (by omega) (by rw [List.size_toArray] <;> omega) (by omega) (by rw [hj]; simpa using ew) fin
theorem ip_orB : PIp X .BitOr (fun x y H Q => ∃ a b : Bool, x = .bl a ∧ y = .bl b ∧ Q (.bl (a || b)) H) := by
  intro pins s σ H x y v u Q I r1 r2 h
  obtain ⟨a, b, rfl, rfl, q⟩ := h
  cases r1
  cases r2
  exact PyProof.Rows.ior_bool ⟨.bl _, H, I, rfl, q⟩
end
def Ites (x : Str) : It := ⟨fun i _ => i < x.cps.size, fun i H v H' => ∃ T c, v = .ref T ∧ H T = none ∧ H' = upd H T (.tup [.int (i : Nat), .str ⟨#[c]⟩]) ∧ x.cps[i]? = some c, fun i _ => i = x.cps.size⟩
theorem turn_enumS {P : Program} {w : World} {K : PySem.W.Frag} {elts : List Expr} {kk : Nat} {tpos : Pos} (e it : Addr) (x : Str) (t : Tok) :
    Turn P w K (.Tuple elts kk tpos) (Ites x) [e, it] e (fun i h => (∃ old, IsEnum h e it ((i : Nat) : Int) old) ∧ h.IsStrIter it (strIterType x) x t i ∧ e ≠ it) where
  mem := by simp
  obj := fun i h st b hb => by
    obtain ⟨⟨old, he⟩, ⟨o, ho, hc, hd⟩, _⟩ := st
    have e' : b = e ∨ b = it := by simpa using hb
    rcases e' with z | z
    · rw [z]; exact ⟨_, he, fun v q => nomatch q⟩
    · rw [z]; exact ⟨o, ho, fun v q => by rw [hd] at q; cases q⟩
  keep := fun i h h' st k => let ⟨⟨old, he⟩, ⟨o, ho, hr⟩, hne⟩ := st; ⟨⟨old, k e (by simp) _ he⟩, ⟨o, k it (by simp) o ho, hr⟩, hne⟩
  item := by
    intro X hP hw hK hc i pins s σ H E I hf st hg
    subst hP hw hK
    obtain ⟨⟨old, he⟩, hit, hne⟩ := st
    have hel : e < s.heap.objs.size := Heap.lt_size he
    have hil : it < s.heap.objs.size := by obtain ⟨_, q, _⟩ := hit; exact Heap.lt_size q
    have D := Draws.text (prog := X.prog) (w := X.w) (A := X.A.in1) (I.ok.hd hc) it x t
    refine wpAny_pyNext_enum_itemD D he hit hg hne (by simpa using hne) fun u h' tk hP ho hit' hT hsz hk => ?_
    obtain ⟨c, v, hcx, rfl⟩ := hP
    refine ⟨_, rfl, wpAny_letOwnedTupleGo_enum (s := { s with heap := h', toks := tk + 1 }) ho fun h'' he' sb => ?_⟩
    have hT2 : h''.get? s.heap.objs.size = some { cls := .type "tuple", data := .seq #[.int i tk, .str ⟨#[c]⟩ v] } := (sb.2 _ (Nat.ne_of_gt hel)).trans hT
    have new : ObjOk X.prog X.w (upd H s.heap.objs.size (.tup [.int (i : Nat), .str ⟨#[c]⟩])) h'' s.heap.objs.size (.tup [.int (i : Nat), .str ⟨#[c]⟩]) :=
      ⟨by show 2 ≤ sizeLine; decide, [.int i tk, .str ⟨#[c]⟩ v], .cons ⟨_, rfl⟩ (.cons ⟨_, rfl⟩ .nil), ⟨_, hT2, rfl, _, rfl⟩⟩
    have I1 : Inv X pins σ (upd H s.heap.objs.size (.tup [.int (i : Nat), .str ⟨#[c]⟩])) { s with heap := h'', toks := tk + 1 } :=
      I.turnedNew (ch := [e, it]) (fun b ob hb q => (sb.2 b (fun z => hb (by simp [z]))).trans (hk b ob (fun z => hb (by simp [z])) (fun z => hb (by simp [z])) q)) hf (Nat.le_refl _) new
    refine ⟨.ref s.heap.objs.size, _, I1, rfl, ⟨_, c, rfl, I.hok.fresh (Nat.le_refl _), rfl, hcx⟩, ⟨⟨.str ⟨#[c]⟩ v, ?_⟩, ?_, hne⟩, fun b hb => ?_⟩
    · have e1 : ((i + 1 : Nat) : Int) = (i : Int) + 1 := by omega
      rw [e1]; exact he'
    · obtain ⟨o, ho, hr⟩ := hit'
      exact ⟨o, (sb.2 it (Ne.symm hne)).trans ho, hr⟩
    · have hb' : b < s.heap.objs.size := by
        have e' : b = e ∨ b = it := by simpa using hb
        rcases e' with z | z
        · rw [z]; exact hel
        · rw [z]; exact hil
      rw [upd_ne (Nat.ne_of_lt hb')]
      exact (hf b hb).1
  done := by
    intro X hP hw hK hc i pins s σ H E I hf st hg
    subst hP hw hK
    obtain ⟨⟨old, he⟩, hit, hne⟩ := st
    obtain ⟨f0, f1, f2, f3, f4, f5⟩ := hf it (by simp)
    have D := Draws.text (prog := X.prog) (w := X.w) (A := X.A.in1) (I.ok.hd hc) it x t
    have hg : i = x.cps.size := hg
    subst hg
    exact wpAny_pyNext_enum_endD D he hit fun h' eb => ⟨rfl, I.turned (t' := s.toks) (fun b o hb q => eb b o hb q) f0 f1 f3 f4 f5⟩
  self := fun A i s Q E st h => let ⟨⟨_, he⟩, _⟩ := st; wpAny_pyIter_enum he h
def iEnumS (ta : TA) : TI := fun σ H R => ta σ H fun vs H1 => ∃ x, vs = [.str x] ∧ R (Ites x) H1
theorem pi_enumS {X : Cx} {e : Expr} {ta : TA} {p pos tpos : Pos} {elts : List Expr} {kk : Nat} (hg : Gl X "enumerate") (hm : X.mg "enumerate" = none) (ha : PA X [e] ta) (hs : starEach [e] X.env = [(false, eval e X.env)] := by rfl) :
    PI X (.Tuple elts kk tpos) (.Call (.Name "enumerate" p) [e] [] pos) (iEnumS ta) := by
  refine ⟨fun pins s σ H R I h => ?_⟩
  refine Call_ (ld_blt I hg hm boot_enumerate (PyProof.Rows.callWith_type1 (thn (ha.run pos pins s σ H _ I h) fun us s1 ⟨vs, H1, I1, r1, q1⟩ => ?_) hs rfl))
  obtain ⟨x, ex, q⟩ := q1
  subst ex
  obtain ⟨u, rfl, ru⟩ := vals1 r1
  obtain ⟨t, rfl⟩ := ru
  refine call_enumerate_str fun h' he hit hsz hk => wpAny_pyIter_enum he ?_
  have I2 : Inv X pins σ H1 { s1 with heap := h' } := I1.kept (t' := s1.toks) hk
  refine ⟨s1.heap.objs.size + 1, [s1.heap.objs.size + 1, s1.heap.objs.size], _, _, H1, rfl, I2, turn_enumS (s1.heap.objs.size + 1) s1.heap.objs.size x t, ⟨⟨.none, he⟩, hit, Nat.succ_ne_self _⟩, fun b hb => ?_, q⟩
  have e' : b = s1.heap.objs.size + 1 ∨ b = s1.heap.objs.size := by simpa using hb
  have hle : s1.heap.objs.size ≤ b := by
    rcases e' with z | z
    · rw [z]; exact Nat.le_add_right _ _
    · rw [z]; exact Nat.le_refl _
  exact I1.fpOk hle (I1.hok.fresh hle)
theorem walk_enumS {z : Str} : Walk (Ites z) z.cps.size (fun _ => True) (fun i H v H' => ∃ T c, v = .ref T ∧ H T = none ∧ H' = upd H T (.tup [.int (i : Nat), .str ⟨#[c]⟩]) ∧ z.cps[i]? = some c) :=
  ⟨fun _ _ hi _ => hi, fun _ _ => rfl, fun _ _ _ _ _ _ y => y⟩
section
variable {X : Cx} {e k : Expr} {t tk : TA} {p pos : Pos} {kpos : Pos}
end
end Tw
/-! Triesgrow: vectors, words -/
namespace Tw
open PySem L2 Tg NdefX LamX
open scoped Classical
def wS (w : List Nat) : Str := ⟨w.toArray⟩
def LetOk (w : List Nat) : Prop := ∀ c ∈ w, 97 ≤ c ∧ c ≤ 122
theorem sg_inj {a b : Nat} (h : sg a = sg b) : a = b := by
  have : #[a] = #[b] := congrArg Str.cps h
  simpa using this
theorem wS_at {w : List Nat} {i c : Nat} : (wS w).cps[i]? = some c ↔ w[i]? = some c := by
  show w.toArray[i]? = some c ↔ _
  rw [List.getElem?_toArray]
/-- a vector's list -/
def vecL (n : Int) (v : Vec) : List Int := (rangeI n).map v
theorem vecL_len {n : Int} {v : Vec} : (vecL n v).length = n.toNat := by unfold vecL; rw [List.length_map, rangeI_len]
theorem vecL_at {n r : Int} {v : Vec} (h0 : 0 ≤ r) (h1 : r < n) : (vecL n v)[r.toNat]? = some (v r) := by
  unfold vecL
  rw [List.getElem?_map, range_at (by omega : r.toNat < n.toNat)]
  show some (v (0 + (r.toNat : Int))) = _
  congr 2
  omega
theorem ixN_in {n : Nat} {r : Int} (h0 : 0 ≤ r) (h1 : r < n) : ixN n r = some r.toNat := by
  unfold ixN
  rw [if_pos h0, if_pos h1]
theorem atI_vec {n r : Int} {v : Vec} (h0 : 0 ≤ r) (h1 : r < n) : atI ((vecL n v).map V.int) r = some (.int (v r)) := by
  unfold atI
  rw [List.length_map, vecL_len, ixN_in h0 (by omega)]
  show ((vecL n v).map V.int)[r.toNat]? = _
  rw [List.getElem?_map, vecL_at h0 h1]
  rfl
theorem vec_set {n r : Int} {v u : Vec} (h0 : 0 ≤ r) (h1 : r < n) (hu : ∀ t, t ≠ r → u t = v t) : ((vecL n v).map V.int).set r.toNat (.int (u r)) = (vecL n u).map V.int := by
  refine List.ext_getElem? fun j => ?_
  rw [List.getElem?_set, List.length_map, vecL_len]
  by_cases hj : j < n.toNat
  · have e := @vecL_at n j v (by omega) (by omega)
    have e' := @vecL_at n j u (by omega) (by omega)
    rw [Int.toNat_natCast] at e e'
    rw [List.getElem?_map, List.getElem?_map, e, e']
    by_cases q : r.toNat = j
    · rw [if_pos q, if_pos (by omega)]
      have : (j : Int) = r := by omega
      rw [this]
      rfl
    · rw [if_neg q, hu _ (by omega)]
  · rw [List.getElem?_map, List.getElem?_map, List.getElem?_eq_none (by rw [vecL_len]; omega), List.getElem?_eq_none (by rw [vecL_len]; omega), if_neg (by omega)]
/-- the promises -/
def sp_look_at_room (T : List NTab) : Sp := fun vs H Q _ => False
def sp_look_at_word (T : List NTab) : Sp := fun vs H Q _ => ∃ w : List Nat, vs = [.str (wS w)] ∧ LetOk w ∧ w.length ≤ 400 ∧ Ret T H Q fun v _ => v = .non
def sp_alone_at (T : List NTab) : Sp := fun vs H Q _ => ∃ (v : V) (a : Addr) (M : Mac) (rs : List Int), vs = [v, .ref a] ∧ Rp H v (mD M) ∧ Good M ∧ H a = some (.lst (rs.map V.int)) ∧ Ret T H Q fun v H' => ∃ p, v = .ref p ∧ H p = none ∧ H' p = some (.lst ((vecL M.n (al rs)).map V.int))
def sp_moved (T : List NTab) : Sp := fun vs H Q _ => ∃ (v : V) (a : Addr) (M : Mac) (u : Vec) (c : Nat), vs = [v, .ref a, .str (sg c)] ∧ Rp H v (mD M) ∧ Good M ∧ H a = some (.lst ((vecL M.n u).map V.int)) ∧
  Ret T H Q fun v H' => ∃ p, v = .ref p ∧ H p = none ∧ H' p = some (.lst ((vecL M.n (mv M.S u c)).map V.int))
def sp_moved_by (T : List NTab) : Sp := fun vs H Q _ => ∃ (v : V) (a : Addr) (M : Mac) (u : Vec) (w : List Nat), vs = [v, .ref a, .str (wS w)] ∧ Rp H v (mD M) ∧ Good M ∧ H a = some (.lst ((vecL M.n u).map V.int)) ∧
  Ret T H Q fun v H' => ∃ p, v = .ref p ∧ H' p = some (.lst ((vecL M.n (mvs M.S u w)).map V.int))
def sp_sum_at (T : List NTab) : Sp := fun vs H Q _ => ∃ (a b : Addr) (n : Int) (u : Vec) (rs : List Int), vs = [.ref a, .ref b] ∧ H a = some (.lst ((vecL n u).map V.int)) ∧ H b = some (.lst (rs.map V.int)) ∧ rs.length ≤ 1000 ∧ (∀ r ∈ rs, 0 ≤ r ∧ r < n) ∧
  Ret T H Q fun v _ => v = .int (sumAt u rs)
def sp_ways (T : List NTab) : Sp := fun vs H Q _ => ∃ (v : V) (M : Mac) (w : List Nat), vs = [v, .str (wS w), .non, .non] ∧ Rp H v (mD M) ∧ Good M ∧ LetOk w ∧ w.length ≤ 400 ∧ Ret T H Q fun v _ => v = .int (waysI M w)
def sp_beginnings_by (T : List NTab) : Sp := fun vs H Q _ => ∃ (v : V) (M : Mac) (w : List Nat), vs = [v, .str (wS w)] ∧ Rp H v (mD M) ∧ Good M ∧ LetOk w ∧ w.length ≤ 400 ∧ Ret T H Q fun v H' => ∃ p, v = .ref p ∧ H' p = some (.lst ((begsI M w).map V.int))
def sp_tries_all (T : List NTab) : Sp := fun vs H Q _ => ∃ (v : V) (M : Mac) (w : List Nat), vs = [v, .str (wS w)] ∧ Rp H v (mD M) ∧ Good M ∧ LetOk w ∧ w.length ≤ 400 ∧ Ret T H Q fun v _ => v = .int (triesI M w)
section
variable {P : Program} {w : World} {K : PySem.W.Frag} {mg : Str → Option Value} {base : Heap}
theorem ok_look_at_word (T : Txt K mg) : FnOk P w K mg base CX0 2 T.look_at_word.f T.look_at_word.fd P_look_at_word (sp_look_at_word T.Ts) := by
  refine T.look_at_word.F.ok sc_look_at_word (fun vs H Q E h => ?_) (fun cdv A outer s H vs Q E hr h => ⟨_, (pss_cons (ps_if (pt_not (pt_val (pe_callB call_isi (by rfl) T.n_isinstance (by decide +kernel) (pa_cons (pv 0) (pa_cons (pe_bltn (v := .ty "str") (u := .type "str") (by rfl) T.n_str (by decide +kernel) rfl) pa_nil))))) (pss_one ps_never) pss_nil)
    (pss_one (ps_for PassesOwn.never rfl (pi_enumS (by rfl) T.n_enumerate (pa_cons (pv 0) pa_nil)) (pg_tup rfl (pgs_cons (pg_name (i := 1) sc_look_at_word.nd rfl (Or.inl rfl)) (pgs_cons (pg_name (i := 2) sc_look_at_word.nd rfl (Or.inl rfl)) pgs_nil)))
    (pss_one (ps_if (PW.pt (pw_or (pt_cmpR op_eq (pv 1) (pe_glob (v := .int 400) rfl T.g_MOST_WORD ⟨_, rfl⟩) (nomark _)) (pw_or1 (pt_not (pt_val (pe_call (ok_is_sign T) (hr.mono (by decide)) rfl T.is_sign.g T.is_sign.F.kp T.is_sign.b .nil pass0 (pa_cons (pv 2) pa_nil))))))) (pss_one ps_never) pss_nil))))), ?_⟩)
  · obtain ⟨x, rfl, _⟩ := h; rfl
  · obtain ⟨x, rfl, hx, hl, q⟩ := h
    refine ⟨_, rfl, _, _, _, _, _, rfl, .ty "str", .base (.str _), k_str, ?_⟩
    refine ⟨_, rfl, iteF ?_⟩
    refine ⟨_, rfl, _, rfl, for_it (walk_enumS (z := wS x)) (fun i σ H' => (∃ v1 v2, σ = [some (.str (wS x)), v1, v2]) ∧ Xt T.Ts H H') ⟨⟨none, none, rfl⟩, Xt.refl H⟩ (fun _ _ _ _ _ => trivial) ?_ ?_⟩
    · rintro i v σ H1 H2 hi ⟨⟨v1, v2, rfl⟩, e⟩ ⟨p, c, rfl, hp, rfl, hc⟩
      rw [wS_at] at hc
      have hc2 := hx c (List.mem_of_getElem? hc)
      have hi2 := (List.getElem?_eq_some_iff.mp hc).1
      refine ⟨p, _, rfl, .inl (.of upd_same), rfl, _, _, rfl, _, _, rfl, rfl, ?_⟩
      refine ⟨_, rfl, rfl, false, congrArg V.bl (decide_eq_false fun z => ?_), iteF ?_⟩
      · have := V.int.inj z; omega
      refine ⟨_, rfl, c, rfl, hc2.1, hc2.2, _, rfl, iteF ?_⟩
      exact ⟨⟨_, _, rfl⟩, e.trans (.new hp)⟩
    · rintro σ H' ⟨_, e⟩
      exact q.go e rfl
theorem ok_alone_at (T : Txt K mg) : FnOk P w K mg base CX0 1 T.alone_at.f T.alone_at.fd P_alone_at (sp_alone_at T.Ts) := by
  refine T.alone_at.F.ok sc_alone_at (fun vs H Q E h => ?_) (fun cdv A outer s H vs Q E hr h => ⟨_, (pss_one (ps_ret (pe_lc (own := [("room", 2)]) (by rfl) sc_alone_at.nd (pi_range1 (by rfl) T.n_range (pa_cons (pe_ix ix_tup (pv 0) pe_int (fun _ _ => rfl)) pa_nil)) (blkOk_by (own := [("room", 2)]) (N := N_alone_at) (sc := defScope s_alone_at) (by decide +kernel)) (fun _ _ _ _ _ => (pg_name (i := 2) sc_alone_at.nd rfl (Or.inl rfl) (Or.inr rfl))) (fun _ _ _ _ _ => pts_nil) (fun _ _ _ _ _ => (pe_callTy call_int1 (by rfl) T.n_int (by decide +kernel) (pa_cons (pe_cmpR (op_in_seqC (K := K) rfl) (pv 2) (pv 1) (by rfl)) pa_nil)))))), ?_⟩)
  · obtain ⟨v, a, M, rs, rfl, _⟩ := h; rfl
  · obtain ⟨v, b, M, rs, rfl, hv, g, hb, q⟩ := h
    obtain ⟨a, f, l, sp, ss, rfl, m⟩ := mD_inv hv
    have n1 := g.n1
    have n2 := g.n2
    refine ⟨_, rfl, _, _, _, _, rfl, rfl, .of m.t, atI_nat (j := 0) rfl, M.n, rfl, by omega, by omega, fun D hD => ?_⟩
    refine lc_sel (T := T.Ts) (walk_range (lo := 0)) hD (fun i acc Hh => acc = (((rangeI M.n).take i).map (al rs)).map V.int) (fun H5 e5 => trivial) rfl (fun i x acc H5 H6 hi e5 hacc lacc hR5 hY => ?_) (fun acc H5 e5 hacc lacc hR5 => ?_)
    · obtain ⟨rfl, rfl⟩ := hY
      refine ⟨rfl, _, rfl, _, rfl, b, _, rfl, .inl (.of (e5.lst hb)), rfl, flat_ints _, .inr ⟨_, rfl, LcP.put hD e5 hacc lacc (by omega) ?_⟩⟩
      rw [hR5, take_succ' (range_at hi), List.map_append, List.map_append]
      congr 1
      show [V.int (if inV _ _ = true then 1 else 0)] = [V.int (al rs _)]
      rw [inV_ints]
      unfold al
      simp
    · rw [range_all] at hR5
      subst hR5
      exact q.go e5 ⟨D, rfl, hD, hacc⟩
theorem ok_moved (T : Txt K mg) : FnOk P w K mg base CX0 1 T.moved.f T.moved.fd P_moved (sp_moved T.Ts) := by
  refine T.moved.F.ok sc_moved (fun vs H Q E h => ?_) (fun cdv A outer s H vs Q E hr h => ⟨_, (pss_cons (ps_set (i := 3) sc_moved.nd rfl (Or.inl rfl) (pe_op op_rep (pe_lst (pa_cons pe_int pa_nil)) (pe_ix ix_tup (pv 0) pe_int (fun _ _ => rfl))))
    (pss_cons (ps_for PassesOwn.never rfl (pi_list (pe_ix ix_tup (pv 0) pe_int (fun _ _ => rfl))) (pg_tup rfl (pgs_cons (pg_name (i := 4) sc_moved.nd rfl (Or.inl rfl)) (pgs_cons (pg_name (i := 5) sc_moved.nd rfl (Or.inl rfl)) (pgs_cons (pg_name (i := 6) sc_moved.nd rfl (Or.inl rfl)) pgs_nil))))
     (pss_one (ps_if (pt_cmpR op_eq (pv 5) (pv 2) (nomark _)) (pss_one (ps_augS (pv 3) (pv 6) get_list (pe_ix ix_list (pv 1) (pv 4) (fun _ _ => rfl)) ip_add set_list)) pss_nil)))
    (pss_one (ps_ret (pv 3))))), ?_⟩)
  · obtain ⟨v, a, M, u, c, rfl, _⟩ := h; rfl
  · obtain ⟨v, b, M, u, c, rfl, hv, g, hb, q⟩ := h
    obtain ⟨a, f, l, sp, ss, rfl, m⟩ := mD_inv hv
    have n1 := g.n1
    have n2 := g.n2
    have hl := RpAll.len m.ss
    rw [List.length_map] at hl
    refine ⟨(by show 1 ≤ sizeLine; decide), fun z hz => ?_⟩
    have e1 : Xt T.Ts H (upd H z (.lst [.int 0])) := .new hz
    have m1 := m.mono e1
    refine ⟨_, rfl, _, _, _, _, rfl, rfl, .of m1.t, atI_nat (j := 0) rfl, z, M.n, [.int 0], rfl, rfl, upd_same, by omega, by omega, len_le (by show 1 * M.n.toNat ≤ _; omega), fun d hd => ?_⟩
    have hdH : H d = none := by
      by_cases e : d = z
      · subst e; exact hz
      · rw [upd_ne e] at hd; exact hd
    have e2 := e1.trans (.new (o := .lst (List.replicate M.n.toNat [V.int 0]).flatten) hd)
    have m2 := m.mono e2
    have hzero : (List.replicate M.n.toNat [V.int 0]).flatten = (vecL M.n (mv [] u c)).map V.int := by
      unfold vecL rangeI
      rw [List.map_map, List.map_map]
      generalize M.n.toNat = k
      apply List.ext_getElem
      · simp
      · intro i h1 h2
        simp [mv_nil]
    refine ⟨_, rfl, _, _, _, _, rfl, rfl, .of m2.t, atI_nat (j := 3) rfl, sp, rfl, ⟨_, .of m2.s⟩, ?_⟩
    refine for_it (walk_list (xs := ss)) (fun i σ H' => (∃ v4 v5 v6, σ = [some (.ref a), some (.ref b), some (.str (sg c)), some (.ref d), v4, v5, v6]) ∧ Xt T.Ts H H' ∧ H' d = some (.lst ((vecL M.n (mv (M.S.take i) u c)).map V.int)))
      ⟨⟨none, none, none, rfl⟩, e2, by rw [upd_same, hzero]; rfl⟩ (fun i σ H' _ h => .of (h.2.1.lst m.s)) ?_ ?_
    · rintro i x σ H1 H2 hi ⟨⟨v4, v5, v6, rfl⟩, e, hd'⟩ ⟨rfl, hx⟩
      obtain ⟨s', hs, hxs⟩ := RpAll.getM m.ss hx
      obtain ⟨pa, rfl, hpa⟩ := sD_inv hxs
      have sr := g.Sr _ (List.mem_of_getElem? hs)
      refine ⟨pa, _, rfl, .inl (.of (e.tup hpa)), rfl, _, _, rfl, _, _, rfl, _, _, rfl, rfl, ?_⟩
      refine ⟨_, rfl, _, rfl, rfl, decide (s'.2.1 = c), congrArg V.bl ?_, ?_⟩
      · rw [decide_eq_decide]
        exact ⟨fun h => sg_inj (V.str.inj h), fun h => by rw [h]⟩
      have snoc := fun t => mv_snoc (M.S.take i) s' u c t
      by_cases hc : s'.2.1 = c
      · refine ifT (decide_eq_true hc) ?_
        refine ⟨_, rfl, _, rfl, d, _, s'.2.2, _, rfl, rfl, .of hd', atI_vec sr.2.2.1 sr.2.2.2, ?_⟩
        refine ⟨_, rfl, _, rfl, b, _, s'.1, _, rfl, rfl, .of (e.lst hb), atI_vec sr.1.1 sr.1.2, ?_⟩
        refine ⟨_, _, rfl, rfl, ?_⟩
        refine ⟨d, _, _, s'.2.2.toNat, rfl, rfl, hd', ?_, ?_⟩
        · rw [List.length_map, vecL_len]
          exact ixN_in sr.2.2.1 (by omega)
        refine ⟨⟨_, _, _, rfl⟩, e.put hdH hd' plain_lst, ?_⟩
        rw [upd_same, take_succ' hs]
        congr 2
        have sn := snoc s'.2.2
        rw [if_pos ⟨hc, rfl⟩] at sn
        have vv := @vec_set M.n s'.2.2 (mv (M.S.take i) u c) (mv (M.S.take i ++ [s']) u c) sr.2.2.1 sr.2.2.2 fun t ht => by rw [snoc t, if_neg fun z => ht z.2.symm, Int.add_zero]
        rw [sn] at vv
        exact vv
      · refine ifF (decide_eq_false hc) ⟨⟨_, _, _, rfl⟩, e, ?_⟩
        rw [hd', take_succ' hs]
        congr 3
        refine List.map_congr_left fun t _ => ?_
        rw [snoc t, if_neg fun z => hc z.1, Int.add_zero]
    · rintro σ H' ⟨⟨v4, v5, v6, rfl⟩, e, hd'⟩
      rw [hl, List.take_length] at hd'
      exact ⟨_, rfl, q.go e ⟨d, rfl, hdH, hd'⟩⟩
theorem ok_moved_by (T : Txt K mg) : FnOk P w K mg base CX0 2 T.moved_by.f T.moved_by.fd P_moved_by (sp_moved_by T.Ts) := by
  refine T.moved_by.F.ok sc_moved_by (fun vs H Q E h => ?_) (fun cdv A outer s H vs Q E hr h => ⟨_, (pss_cons (ps_for PassesOwn.never rfl (pi_str (pv 2)) (pg_name (i := 3) sc_moved_by.nd rfl (Or.inl rfl))
     (pss_one (ps_set (i := 1) sc_moved_by.nd rfl (Or.inl rfl) (pe_call (ok_moved T) (hr.mono (by decide)) rfl T.moved.g T.moved.F.kp T.moved.b .nil pass0 (pa_cons (pv 0) (pa_cons (pv 1) (pa_cons (pv 3) pa_nil)))))))
    (pss_one (ps_ret (pv 1)))), ?_⟩)
  · obtain ⟨v, a, M, u, x, rfl, _⟩ := h; rfl
  · obtain ⟨v, b, M, u, x, rfl, hv, g, hb, q⟩ := h
    refine ⟨_, rfl, _, rfl, for_it (walk_str (z := wS x)) (fun i σ H' => ∃ p v3, σ = [some v, some (.ref p), some (.str (wS x)), v3] ∧ Xt T.Ts H H' ∧ H' p = some (.lst ((vecL M.n (mvs M.S u (x.take i))).map V.int)))
      ⟨b, none, rfl, Xt.refl H, hb⟩ (fun _ _ _ _ _ => trivial) ?_ ?_⟩
    · rintro i y σ H1 H2 hi ⟨p, v3, rfl, e, hp⟩ ⟨rfl, c, hc, rfl⟩
      rw [wS_at] at hc
      refine ⟨_, rfl, _, rfl, _, rfl, v, p, M, _, c, rfl, e.rp hv, g, hp, fun v1 H3 e3 h3 => ?_⟩
      obtain ⟨p3, rfl, _, hp3⟩ := h3
      refine ⟨p3, _, rfl, e.trans e3, ?_⟩
      rw [hp3, take_succ' hc, mvs_snoc]
    · rintro σ H' ⟨p, v3, rfl, e, hp⟩
      have : (wS x).cps.size = x.length := by show x.toArray.size = _; simp
      rw [this, List.take_length] at hp
      exact ⟨_, rfl, q.go e ⟨p, rfl, hp⟩⟩
theorem ok_sum_at (T : Txt K mg) : FnOk P w K mg base CX0 1 T.sum_at.f T.sum_at.fd P_sum_at (sp_sum_at T.Ts) := by
  refine T.sum_at.F.ok sc_sum_at (fun vs H Q E h => ?_) (fun cdv A outer s H vs Q E hr h => ⟨_, (pss_one (ps_ret (pe_callBK (cr_sumS rfl) (by rfl) T.n_sum (by decide +kernel) (pa_cons (pe_lc (own := [("room", 2)]) (by rfl) sc_sum_at.nd (pi_list (pv 1)) (blkOk_by (own := [("room", 2)]) (N := N_sum_at) (sc := defScope s_sum_at) (by decide +kernel)) (fun _ _ _ _ _ => (pg_name (i := 2) sc_sum_at.nd rfl (Or.inl rfl) (Or.inr rfl))) (fun _ _ _ _ _ => pts_nil) (fun _ _ _ _ _ => (pe_ix (ix_listC (K := K) rfl) (pv 0) (pv 2) (fun _ _ => rfl)))) pa_nil) (pk_cons pe_int pk_nil)))), ?_⟩)
  · obtain ⟨a, b, n, u, rs, rfl, _⟩ := h; rfl
  · obtain ⟨a, b, n, u, rs, rfl, ha, hb, hl, hr, q⟩ := h
    refine ⟨_, rfl, b, rfl, ⟨_, .of hb⟩, fun D hD => ?_⟩
    refine lc_sel (T := T.Ts) (walk_list (xs := rs.map V.int)) hD (fun i acc Hh => acc = ((rs.take i).map u).map V.int) (fun H5 e5 => .of (e5.lst hb)) rfl (fun i x acc H5 H6 hi e5 hacc lacc hR5 hY => ?_) (fun acc H5 e5 hacc lacc hR5 => ?_)
    · obtain ⟨rfl, hx⟩ := hY
      obtain ⟨z, hz, rfl⟩ := int_at hx
      have zr := hr _ (List.mem_of_getElem? hz)
      rw [List.length_map] at hi
      refine ⟨rfl, _, rfl, _, rfl, a, _, z, _, rfl, rfl, .of (e5.lst ha), atI_vec zr.1 zr.2, LcP.put hD e5 hacc lacc (by omega) ?_⟩
      rw [hR5, take_succ' hz, List.map_append, List.map_append]
      rfl
    · rw [List.length_map, List.take_length] at hR5
      subst hR5
      refine ⟨D, _, rfl, rfl, .of hacc, ?_⟩
      rw [smI_sum]
      exact q.go e5 rfl
theorem ok_beginnings_by (T : Txt K mg) : FnOk P w K mg base CX0 6 T.beginnings_by.f T.beginnings_by.fd P_beginnings_by (sp_beginnings_by T.Ts) := by
  refine T.beginnings_by.F.ok sc_beginnings_by (fun vs H Q E h => ?_) (fun cdv A outer s H vs Q E hr h => ⟨_, (pss_cons (ps_expr (pe_call (ok_look_at T) (hr.mono (by decide)) rfl T.look_at.g T.look_at.F.kp T.look_at.b .nil pass0 (pa_cons (pv 0) pa_nil)))
    (pss_cons (ps_expr (pe_call (ok_look_at_word T) (hr.mono (by decide)) rfl T.look_at_word.g T.look_at_word.F.kp T.look_at_word.b .nil pass0 (pa_cons (pv 1) pa_nil)))
    (pss_cons (ps_set (i := 2) sc_beginnings_by.nd rfl (Or.inl rfl) (pe_call (ok_alone_at T) (hr.mono (by decide)) rfl T.alone_at.g T.alone_at.F.kp T.alone_at.b .nil pass0 (pa_cons (pv 0) (pa_cons (pe_ix ix_tup (pv 0) pe_int (fun _ _ => rfl)) pa_nil))))
    (pss_cons (ps_set (i := 3) sc_beginnings_by.nd rfl (Or.inl rfl) (pe_lst (pa_cons (pe_callB (cr_sum rfl) (by rfl) T.n_sum (by decide +kernel) (pa_cons (pv 2) pa_nil)) pa_nil)))
    (pss_cons (ps_for PassesOwn.never rfl (pi_str (pv 1)) (pg_name (i := 4) sc_beginnings_by.nd rfl (Or.inl rfl))
     (pss_cons (ps_set (i := 2) sc_beginnings_by.nd rfl (Or.inl rfl) (pe_call (ok_moved T) (hr.mono (by decide)) rfl T.moved.g T.moved.F.kp T.moved.b .nil pass0 (pa_cons (pv 0) (pa_cons (pv 2) (pa_cons (pv 4) pa_nil)))))
      (pss_one (ps_expr (pe_bm PySem.F.plainAttrs_list PySem.F.slot_list_append PySem.F.type_list_append mt_append (pv 3) (pa_cons (pe_callB (cr_sum rfl) (by rfl) T.n_sum (by decide +kernel) (pa_cons (pv 2) pa_nil)) pa_nil))))))
    (pss_one (ps_ret (pv 3)))))))), ?_⟩)
  · obtain ⟨v, M, x, rfl, _⟩ := h; rfl
  · obtain ⟨v, M, x, rfl, hv, g, hx, hl, q⟩ := h
    refine ⟨_, rfl, _, M, rfl, hv, g, fun v1 H1 e1 _ => ?_⟩
    refine ⟨_, rfl, x, rfl, hx, hl, fun v2 H2 e2 _ => ?_⟩
    have e02 := e1.trans e2
    obtain ⟨a, f, l, sp, ss, rfl, m⟩ := mD_inv (e02.rp hv)
    refine ⟨_, rfl, _, rfl, _, _, _, _, rfl, rfl, .of m.t, atI_nat (j := 1) rfl, ?_⟩
    refine ⟨_, f, M, M.F, rfl, m.rp, g, m.f, fun v3 H3 e3 h3 => ?_⟩
    obtain ⟨p, rfl, _, hp⟩ := h3
    have e03 := e02.trans e3
    refine ⟨_, rfl, p, _, rfl, .of hp, (by show 1 ≤ sizeLine; decide), fun d hd => ?_⟩
    rw [smI_sum]
    have hdH : H d = none := e03.dom _ hd
    refine ⟨_, rfl, _, rfl, for_it (walk_str (z := wS x)) (fun i σ H' => ∃ (p : Addr) (v4 : Option V) (r : List Int), σ = [some (.ref a), some (.str (wS x)), some (.ref p), some (.ref d), v4] ∧ Xt T.Ts H H' ∧ H' p = some (.lst ((vecL M.n (mvs M.S (al M.F) (x.take i))).map V.int)) ∧
      H' d = some (.lst (r.map V.int)) ∧ r.length = i + 1 ∧ begsI M x = r ++ (begsFrom M (mvs M.S (al M.F) (x.take i)) (x.drop i)).tail)
      ⟨p, none, [tot (al M.F) M.n], rfl, e03.trans (.new hd), ?_, upd_same, rfl, ?_⟩ (fun _ _ _ _ _ => trivial) ?_ ?_⟩
    · rw [upd_ne (ne_of_none hp hd)]; exact hp
    · show begsFrom M (al M.F) x = _
      rw [List.drop_zero]
      show begsFrom M (al M.F) x = _ :: (begsFrom M (al M.F) x).tail
      cases x <;> rfl
    · rintro i y σ H4 H5 hi ⟨p, v4, r, rfl, e, hp, hd', hr, hb⟩ ⟨rfl, c, hc, rfl⟩
      rw [wS_at] at hc
      have hi2 := (List.getElem?_eq_some_iff.mp hc).1
      refine ⟨_, rfl, _, rfl, _, rfl, _, p, M, _, c, rfl, e.rp hv, g, hp, fun v6 H6 e6 h6 => ?_⟩
      obtain ⟨p6, rfl, hf6, hp6⟩ := h6
      have hd6 := e6.lst hd'
      refine ⟨_, rfl, .inl ⟨rfl, _, .of hd6⟩, _, rfl, p6, _, rfl, .of hp6, ?_⟩
      rw [smI_sum]
      refine ⟨d, _, _, rfl, rfl, hd6, ?_, ?_⟩
      · rw [List.length_map]; exact len_lt (by omega)
      refine ⟨p6, _, r ++ [tot (mv M.S (mvs M.S (al M.F) (x.take i)) c) M.n], rfl, (e.trans e6).put hdH hd6 plain_lst, ?_, ?_, ?_, ?_⟩
      · have nd : p6 ≠ d := Ne.symm (ne_of_none hd' hf6)
        rw [upd_ne nd, hp6, take_succ' hc, mvs_snoc]
      · rw [upd_same, List.map_append]
        rfl
      · rw [List.length_append, hr]; rfl
      · rw [hb, List.append_assoc, take_succ' hc, mvs_snoc]
        congr 1
        have ed : x.drop i = c :: x.drop (i + 1) := by
          rw [List.drop_eq_getElem_cons hi2]
          congr 1
          exact Option.some.inj ((List.getElem?_eq_getElem hi2).symm.trans hc)
        rw [ed]
        show begsFrom M _ (x.drop (i + 1)) = _
        cases x.drop (i + 1) <;> rfl
    · rintro σ H' ⟨p, v4, r, rfl, e, hp, hd', hr, hb⟩
      have : (wS x).cps.size = x.length := by show x.toArray.size = _; simp
      rw [this] at hb
      rw [List.drop_length, show (begsFrom M (mvs M.S (al M.F) (x.take x.length)) []).tail = [] from rfl, List.append_nil] at hb
      rw [← hb] at hd'
      exact ⟨_, rfl, q.go e ⟨d, rfl, hd'⟩⟩
theorem ok_tries_all (T : Txt K mg) : FnOk P w K mg base CX0 7 T.tries_all.f T.tries_all.fd P_tries_all (sp_tries_all T.Ts) := by
  refine T.tries_all.F.ok sc_tries_all (fun vs H Q E h => ?_) (fun cdv A outer s H vs Q E hr h => ⟨_, (pss_one (ps_ret (pe_callB (cr_sum rfl) (by rfl) T.n_sum (by decide +kernel) (pa_cons (pe_call (ok_beginnings_by T) (hr.mono (by decide)) rfl T.beginnings_by.g T.beginnings_by.F.kp T.beginnings_by.b .nil pass0 (pa_cons (pv 0) (pa_cons (pv 1) pa_nil))) pa_nil)))), ?_⟩)
  · obtain ⟨v, M, x, rfl, _⟩ := h; rfl
  · obtain ⟨v, M, x, rfl, hv, g, hx, hl, q⟩ := h
    refine ⟨_, rfl, _, rfl, v, M, x, rfl, hv, g, hx, hl, fun v1 H1 e1 h1 => ?_⟩
    obtain ⟨p, rfl, hp⟩ := h1
    refine ⟨p, _, rfl, .of hp, ?_⟩
    rw [smI_sum]
    exact q.go e1 rfl
theorem ok_look_at_room (T : Txt K mg) : FnOk P w K mg base CX0 3 T.look_at_room.f T.look_at_room.fd P_look_at_room (sp_look_at_room T.Ts) := by
  refine T.look_at_room.F.ok sc_look_at_room (fun vs H Q E h => h.elim) (fun cdv A outer s H vs Q E hr h => h.elim)
theorem fund_ok {x qual : Str} {st : Stmt} {dvs : List V} {f : Addr} {fd : FuncData} {N ps : List Str} {k : Nat} {sp : Sp} (F : FunD K x qual (defArgs st) (defBody st) (defScope st) dvs [] f fd) (S : FnScope N ps (defScope st)) (len : ∀ vs H Q E, sp vs H Q E → vs.length = ps.length)
    (hbody : ∀ (cdv : Value) (A : Around) (outer : List Env) (s : Shared) (H : Hp) (vs : List V) (Q : VK) (E : XK), Room k (A.deeper (PyProof.Rows.envOfC qual (defScope st) s.heap.objs.size f cdv)) → sp vs H Q E →
      ∃ t, PSs (cxOf CX0 P w K mg base N qual (defScope st) f cdv A outer s H E).nox (defBody st) t ∧ t { nx := fun _ H' => Q .non H', rt := Q } (L2.start N vs) H) : FnOk P w K mg base CX0 (k + 1) f fd ps sp :=
  F.ok S len fun cdv A outer s H vs Q E hr hsp => let ⟨t, h, q⟩ := hbody cdv A outer s H vs Q E hr hsp; ⟨t, h.nox, q⟩
theorem ok_ways (T : Txt K mg) : FnOk P w K mg base CX0 6 T.ways.f T.ways.fd P_ways (sp_ways T.Ts) := by
  refine fund_ok T.ways.F sc_ways (fun vs H Q E h => ?_) (fun cdv A outer s H vs Q E hr h => ⟨_, (pss_cons (ps_expr (pe_call (ok_look_at T) (hr.mono (by decide)) rfl T.look_at.g T.look_at.F.kp T.look_at.b .nil pass0 (pa_cons (pv 0) pa_nil)))
    (pss_cons (ps_expr (pe_call (ok_look_at_word T) (hr.mono (by decide)) rfl T.look_at_word.g T.look_at_word.F.kp T.look_at_word.b .nil pass0 (pa_cons (pv 1) pa_nil)))
    (pss_cons (ps_set (i := 4) sc_ways.nd rfl (Or.inl rfl) (pe_ix ix_tup (pv 0) pe_int (fun _ _ => rfl)))
    (pss_cons (ps_set (i := 5) sc_ways.nd rfl (Or.inl rfl) (pe_ix ix_tup (pv 0) pe_int (fun _ _ => rfl)))
    (pss_cons (ps_if (pt_cmpR op_notN (pv 2) pe_non (nomark _)) (pss_cons (ps_expr (pe_call (ok_look_at_room T) (hr.mono (by decide)) rfl T.look_at_room.g T.look_at_room.F.kp T.look_at_room.b .nil pass0 (pa_cons (pv 0) (pa_cons (pv 2) pa_nil))))
      (pss_one (ps_set (i := 4) sc_ways.nd rfl (Or.inl rfl) (pe_lst (pa_cons (pv 2) pa_nil))))) pss_nil)
    (pss_cons (ps_if (pt_cmpR op_notN (pv 3) pe_non (nomark _)) (pss_cons (ps_expr (pe_call (ok_look_at_room T) (hr.mono (by decide)) rfl T.look_at_room.g T.look_at_room.F.kp T.look_at_room.b .nil pass0 (pa_cons (pv 0) (pa_cons (pv 3) pa_nil))))
      (pss_one (ps_set (i := 5) sc_ways.nd rfl (Or.inl rfl) (pe_lst (pa_cons (pv 3) pa_nil))))) pss_nil)
    (pss_one (ps_ret (pe_call (ok_sum_at T) (hr.mono (by decide)) rfl T.sum_at.g T.sum_at.F.kp T.sum_at.b .nil pass0 (pa_cons (pe_call (ok_moved_by T) (hr.mono (by decide)) rfl T.moved_by.g T.moved_by.F.kp T.moved_by.b .nil pass0 (pa_cons (pv 0) (pa_cons (pe_call (ok_alone_at T) (hr.mono (by decide)) rfl T.alone_at.g T.alone_at.F.kp T.alone_at.b .nil pass0 (pa_cons (pv 0) (pa_cons (pv 4) pa_nil))) (pa_cons (pv 1) pa_nil)))) (pa_cons (pv 5) pa_nil))))))))))), ?_⟩)
  · obtain ⟨v, M, x, rfl, _⟩ := h; rfl
  · obtain ⟨v, M, x, rfl, hv, g, hx, hl, q⟩ := h
    refine ⟨_, rfl, _, M, rfl, hv, g, fun v1 H1 e1 _ => ?_⟩
    refine ⟨_, rfl, x, rfl, hx, hl, fun v2 H2 e2 _ => ?_⟩
    have e02 := e1.trans e2
    obtain ⟨a, f, l, sp, ss, rfl, m⟩ := mD_inv (e02.rp hv)
    refine ⟨_, rfl, _, _, _, _, rfl, rfl, .of m.t, atI_nat (j := 1) rfl, ?_⟩
    refine ⟨_, rfl, _, _, _, _, rfl, rfl, .of m.t, atI_nat (j := 2) rfl, ?_⟩
    refine ⟨_, rfl, rfl, _, rfl, iteF ?_⟩
    refine ⟨_, rfl, rfl, _, rfl, iteF ?_⟩
    refine ⟨_, rfl, _, rfl, _, rfl, _, f, M, M.F, rfl, m.rp, g, m.f, fun v3 H3 e3 h3 => ?_⟩
    obtain ⟨p, rfl, _, hp⟩ := h3
    refine ⟨_, rfl, _, p, M, _, x, rfl, (m.mono e3).rp, g, hp, fun v4 H4 e4 h4 => ?_⟩
    obtain ⟨p4, rfl, hp4⟩ := h4
    refine ⟨_, rfl, p4, l, M.n, _, M.L, rfl, hp4, (e3.trans e4).lst m.l, ?_, g.Lr, fun v5 H5 e5 h5 => ?_⟩
    · have := le_12 _ g.L g.Lr g.n2; omega
    exact q.go ((e02.trans e3).trans (e4.trans e5)) h5
end
end Tw
/-! Triesgrow, rules of our own: a nested def that has cells of its own and captured ones; a def that calls a function that it got -/
namespace Tw
open PySem PySem.Spec PyProof.Rows L2 Tg NdefX LamX
theorem newEnv_both {M : Model} {A : Around} {E : Value → Shared → Prop} {s : Shared} {scope : Scope} {globals : Addr} {closure : List (Str × Addr)} {binds : List (Str × Value)} {qual : Str} {func : Option Addr} {code : Value} {builtins : Addr} {Q : Env → Shared → Prop}
    (hk : scope.kind = .function) (hl : ∀ x ∈ binds, scope.names.lookup x.1 = some .local)
    (hQ : ∀ h', h'.Ns s.heap.objs.size (fun x => binds.reverse.lookup x) → Heap.SameBut s.heap.objs.size (pushCells (s.heap.push { cls := .type "frame", data := .dict #[] }) scope.names) h' →
      Q (newEnv scope s.heap.objs.size globals (cellsFrom (s.heap.objs.size + 1) scope.names closure) qual func code none builtins) { s with heap := h', toks := s.toks + binds.length }) :
    wpAny M A (newFunctionEnv scope globals closure binds qual func code none builtins) Q E s := by
  simp only [newFunctionEnv, Option.isSome_none, Bool.false_eq_true, if_false]
  simp only [newEnv] at hQ
  refine wpAny_bind (wpAny_alloc ?_)
  refine wpAny_bind (wpAny_layCells _ (fun n k c => rfl) scope.names closure _ _ ?_)
  rw [show ({ s with heap := s.heap.push { cls := .type "frame", data := .dict #[] } } : Shared).heap.objs.size = s.heap.objs.size + 1 from Heap.size_push ..]
  refine wpAny_bind ?_
  refine wpAny_forIn_list _
    (fun rest _ s' => ∃ done h', binds = done ++ rest ∧ s' = { s with heap := h', toks := s.toks + done.length } ∧
      h'.Ns s.heap.objs.size (fun x => done.reverse.lookup x) ∧
      Heap.SameBut s.heap.objs.size (pushCells (s.heap.push { cls := .type "frame", data := .dict #[] }) scope.names) h') _ ?_ ?_ binds _
    ⟨[], _, rfl, rfl, (Heap.Ns.new s.heap (.type "frame")).keeps (pushCells_keeps _ _), Heap.SameBut.refl ..⟩
  · rintro ⟨name, v⟩ rest _ s' ⟨done, h', hb, rfl, hns, hsb⟩
    have hk' : Env.kindOf { scope, locals := s.heap.objs.size, globals, cells := cellsFrom (s.heap.objs.size + 1) scope.names closure, qual, func, code, frame := some s.heap.objs.size, builtins } name = some .local :=
      hl (name, v) (by rw [hb]; simp)
    have hp : (({ scope, locals := s.heap.objs.size, globals, cells := cellsFrom (s.heap.objs.size + 1) scope.names closure, qual, func, code, frame := some s.heap.objs.size, builtins } : Env).scope.kind == .class || (({ scope, locals := s.heap.objs.size, globals, cells := cellsFrom (s.heap.objs.size + 1) scope.names closure, qual, func, code, frame := some s.heap.objs.size, builtins } : Env).scope.kind == .module &&
        ({ scope, locals := s.heap.objs.size, globals, cells := cellsFrom (s.heap.objs.size + 1) scope.names closure, qual, func, code, frame := some s.heap.objs.size, builtins } : Env).locals != ({ scope, locals := s.heap.objs.size, globals, cells := cellsFrom (s.heap.objs.size + 1) scope.names closure, qual, func, code, frame := some s.heap.objs.size, builtins } : Env).globals)) = false := by
      show (scope.kind == .class || (scope.kind == .module && _)) = false
      rw [hk]; rfl
    simp only [storeName_local hk' hp]
    refine wpAny_bind (wpAny_nsSet hns fun h'' hns' hsb' => wpAny_pure ⟨done ++ [(name, v)], h'', by simp [hb], ?_, ?_, hsb.trans hsb'⟩)
    · simp [Nat.add_assoc]
    · rw [lookup_reverse_snoc]; exact hns'
  · rintro _ s' ⟨done, h', hb, rfl, hns, hsb⟩
    rw [List.append_nil] at hb; subst hb
    exact wpAny_pure (hQ h' hns hsb)
/-- the names of a nested def: the parameters, the captured ones, its own (cells among them) -/
structure CScope (N ps fr : List Str) (sc : Scope) : Prop where
  kind : sc.kind = .function
  co : sc.isCoroutine = false
  gen : sc.isGenerator = false
  nd : N.Nodup
  pre : N.take (ps.length + fr.length) = ps ++ fr
  par : ∀ x ∈ ps, sc.names.lookup x = some .local
  cell : ∀ y ∈ sc.names, y.2 = .cell → y.1 ∉ fr
  free : ∀ y ∈ sc.names, y.2 = .free → y.1 ∈ fr
  frk : ∀ x ∈ fr, sc.names.lookup x = some .free
def cscB (N ps fr : List Str) (sc : Scope) : Bool :=
  decide (sc.kind = .function) && !sc.isCoroutine && !sc.isGenerator && decide N.Nodup && decide (N.take (ps.length + fr.length) = ps ++ fr) && ps.all (fun x => decide (sc.names.lookup x = some .local)) && sc.names.all (fun y => !decide (y.2 = .cell) || !decide (y.1 ∈ fr)) && sc.names.all (fun y => !decide (y.2 = .free) || decide (y.1 ∈ fr)) && fr.all (fun x => decide (sc.names.lookup x = some .free))
theorem cscope_by {N ps fr : List Str} {sc : Scope} (h : cscB N ps fr sc = true) : CScope N ps fr sc := by
  unfold cscB at h
  simp only [Bool.and_eq_true, Bool.not_eq_true', decide_eq_true_eq, List.all_eq_true, Bool.or_eq_true, decide_eq_false_iff_not] at h
  obtain ⟨⟨⟨⟨⟨⟨⟨⟨h1, h2⟩, h3⟩, h4⟩, h5⟩, h6⟩, h7⟩, h8⟩, h9⟩ := h
  exact ⟨h1, h2, h3, h4, h5, h6, fun y hy e => (h7 y hy).elim (fun z => absurd e z) id, fun y hy e => (h8 y hy).elim (fun z => absurd e z) id, h9⟩
abbrev envFC (F : NF) (f L : Addr) : Env := PySem.W.envX F.qual F.scope L f (.ref F.c) (cellsFrom (L + 1) F.scope.names F.cl)
def nxc (CX : CXT) (P : Program) (w : World) (K : PySem.W.Frag) (mg : Str → Option Value) (base : Heap) (N : List Str) (F : NF) (f : Addr) (A : Around) (outer : List Env) (s : Shared) (H : Hp) (E : XK) : Cx where
  prog := P
  w := w
  K := K
  mg := mg
  base := base
  A := A.deeper (envFC F f s.heap.objs.size)
  N := N
  s_0 := s
  H_0 := H
  env := envFC F f s.heap.objs.size
  outer := outer
  stack := envFC F f s.heap.objs.size :: outer
  ex := []
  calm := true
  fn := fun x => decide (F.scope.names.lookup x = some .cell)
  pn := []
  xe := fun e s' => wpAny (model P w) (A.deeper (envFC F f s.heap.objs.size)) (leaving (envFC F f s.heap.objs.size) e) (fun _ s'' => CX outer H s E e s'') (fun e' s'' => CX outer H s E e' s'') s'
section
variable {CX : CXT} {P : Program} {w : World} {K : PySem.W.Frag} {mg : Str → Option Value} {base : Heap} {N ps fr : List Str} {F : NF} {f : Addr} {A : Around} {outer : List Env} {s : Shared} {H : Hp} {E : XK} {us : List Value} {vs : List V} {ws : List (Option V)}
/-- a name's cell: a new one, or a captured one -/
theorem cells_both {names : List (Str × NameKind)} {h : Heap} {cl : List (Str × Addr)} {y : Str} {c : Addr} (e : (cellsFrom (h.objs.size + 1) names cl).lookup y = some c) :
    ((y, .cell) ∈ names ∧ (y, c) ∈ cellsFrom (h.objs.size + 1) names [] ∧ h.objs.size + 1 ≤ c) ∨ (cl.lookup y = some c ∧ (cellsFrom (h.objs.size + 1) names []).lookup y = none) := by
  rw [cellsFrom_over, List.lookup_append] at e
  cases q : (cellsFrom (h.objs.size + 1) names []).lookup y with
  | none =>
    rw [q] at e
    exact .inr ⟨e, rfl⟩
  | some d =>
    rw [q] at e
    cases e
    have m := PySem.mem_of_lookup q
    have m' := m
    rw [← Heap.size_push h { cls := .type "frame", data := .dict #[] }] at m'
    rcases cells_mem m' with z | ⟨z1, z2, _⟩
    · cases z
    · rw [Heap.size_push] at z2
      exact .inl ⟨z1, m, z2⟩
theorem inv_startC {h₁ : Heap} {tk : Nat} (S : CScope N ps fr F.scope) (hd : A.handled = none) (e0 : Env0 P w K mg base A outer s H) (hl : vs.length = ps.length) (r : Vals vs us) (C : CellsAt F.cl fr ws s.heap H) (hns : h₁.Ns s.heap.objs.size fun y => (ps.zip us).reverse.lookup y)
    (hsb : Heap.SameBut s.heap.objs.size (pushCells (s.heap.push { cls := .type "frame", data := .dict #[] }) F.scope.names) h₁) : Inv (nxc CX P w K mg base N F f A outer s H E) [] (startF N vs ws) H { s with heap := h₁, toks := tk } := by
  have hpl : ps.length + fr.length ≤ N.length := by
    have q := congrArg List.length S.pre
    rw [List.length_take, List.length_append] at q
    omega
  have kp : ∀ b o, s.heap.get? b = some o → h₁.get? b = some o := fun b o e => hsb.extBut b o (Nat.ne_of_lt (Heap.lt_size e)) (pushCells_keeps _ _ b o (Heap.get?_push_of_some _ e))
  have noA : ∀ b : Addr, b ∉ (nxc CX P w K mg base N F f A outer s H E).ex := fun b z => absurd (show b ∈ ([] : List Addr) from z) (by simp)
  have cellK : ∀ {c : Addr} {v : Option Value}, s.heap.IsCell c v → h₁.IsCell c v := fun {c v} ⟨o, ho, hd⟩ => ⟨o, kp _ _ ho, hd⟩
  have ok := cellsFrom_ok F.scope.names (s.heap.push { cls := .type "frame", data := .dict #[] }) (s.heap.objs.size + 1) [] ⟨fun _ _ hm => (nomatch hm), List.Pairwise.nil⟩ (by rw [Heap.size_push]; exact Nat.le_refl _)
  rw [Heap.size_push] at ok
  have oldlt : ∀ {y : Str} {c : Addr}, F.cl.lookup y = some c → c < s.heap.objs.size := fun {y c} e => by
    obtain ⟨_, v, o, ho, _⟩ := C.all y c e
    exact Heap.lt_size ho
  have newCell : ∀ {y : Str} {c : Addr}, (y, c) ∈ cellsFrom (s.heap.objs.size + 1) F.scope.names [] → h₁.IsCell c none := fun {y c} m => by
    obtain ⟨⟨o, ho, hd⟩, hlt⟩ := ok.empty y c m
    exact ⟨o, hsb.extBut c o (Nat.ne_of_gt hlt) ho, hd⟩
  refine ⟨⟨e0.mod, S.kind, rfl, rfl, Nat.le_refl _, fun x y c e1 e2 => ?_, fun y hy => ?_, fun y c z e => ?_, fun _ => hd, Around.frames_deeper e0.frames, .inr ⟨rfl, rfl⟩, fun b z => absurd z (noA b), e0.bs, e0.bsz, fun b _ _ => noA b,
      fun b z => absurd z (noA b), e0.funs, e0.frf⟩,
    rfl, e0.bare, Un.kept kp, ⟨_, hns, fun i y v e1 e2 e3 => ?_⟩, fun y c e => ?_, e0.hok.fresh (Nat.le_refl _), fun y c e => ?_, fun q hq => absurd (show q ∈ ([] : List (Addr × Obj)) ++ [] from hq) (by simp), e0.hok.kept kp, ?_⟩
  · rcases cells_both e1 with ⟨_, m1, l1⟩ | ⟨o1, _⟩ <;> rcases cells_both e2 with ⟨_, m2, l2⟩ | ⟨o2, _⟩
    · exact name_of_addr ok.apart m1 m2
    · exact absurd (Nat.lt_of_lt_of_le (oldlt o2) (Nat.le_of_succ_le l1)) (Nat.lt_irrefl _)
    · exact absurd (Nat.lt_of_lt_of_le (oldlt o1) (Nat.le_of_succ_le l2)) (Nat.lt_irrefl _)
    · exact C.inj x y c o1 o2
  · have hy : F.scope.names.lookup y = some .cell ∨ F.scope.names.lookup y = some .free := hy
    refine Option.isSome_iff_exists.mp (PySem.W.cellsFrom_some _ _ _ (hy.imp id fun hy => ?_))
    obtain ⟨i, hi⟩ := List.mem_iff_getElem?.mp (S.free _ (PySem.mem_of_lookup hy) rfl)
    obtain ⟨c, hc, _⟩ := C.has i y hi
    rw [hc]; rfl
  · have z : decide (F.scope.names.lookup y = some .cell) = true := z
    have z := of_decide_eq_true z
    rcases cells_both e with ⟨_, _, l1⟩ | ⟨_, q⟩
    · exact Nat.le_of_succ_le l1
    · obtain ⟨d, hd⟩ := Option.isSome_iff_exists.mp (PySem.W.cellsFrom_some F.scope.names (s.heap.objs.size + 1) [] (.inl z))
      rw [q] at hd
      cases hd
  · have e1 : N[i]? = some y := e1
    have clen := C.len
    unfold startF at e2
    by_cases h1 : i < ps.length
    · have hq : (ps ++ fr)[i]? = some y := by
        rw [← S.pre, List.getElem?_take_of_lt (by omega)]
        exact e1
      rw [List.getElem?_append_left h1] at hq
      rw [List.getElem?_append_left (by rw [List.length_map]; omega), List.getElem?_map] at e2
      have ha : vs[i]? = some v := by
        cases e : vs[i]? with
        | none => rw [e] at e2; cases e2
        | some a => rw [e] at e2; cases e2; rfl
      obtain ⟨u, hu, rv⟩ := r.get ha
      have ndP : ps.Nodup := by
        have q := S.nd.sublist (List.take_sublist (ps.length + fr.length) N)
        rw [S.pre] at q
        exact (List.nodup_append.mp q).1
      exact ⟨u, rv, .inl ⟨S.par y (List.mem_of_getElem? hq), zip_look ndP hq hu⟩⟩
    · rw [List.getElem?_append_right (by rw [List.length_map]; omega), List.length_map] at e2
      by_cases h2 : i < ps.length + fr.length
      · have hq : (ps ++ fr)[i]? = some y := by
          rw [← S.pre, List.getElem?_take_of_lt (by omega)]
          exact e1
        rw [List.getElem?_append_right (by omega)] at hq
        rw [List.getElem?_append_left (by omega), hl] at e2
        obtain ⟨c, hc, hv⟩ := C.has (i - ps.length) y hq
        obtain ⟨u, ru, hu⟩ := hv v e2
        refine ⟨u, ru, .inr ⟨.inr (S.frk y (List.mem_of_getElem? hq)), c, ?_, cellK hu⟩⟩
        show (cellsFrom (s.heap.objs.size + 1) F.scope.names F.cl).lookup y = some c
        rw [cellsFrom_over, List.lookup_append]
        cases q : (cellsFrom (s.heap.objs.size + 1) F.scope.names []).lookup y with
        | none => exact hc
        | some d =>
          have m := PySem.mem_of_lookup q
          rw [← Heap.size_push s.heap { cls := .type "frame", data := .dict #[] }] at m
          rcases cells_mem m with z | ⟨z1, _, _⟩
          · cases z
          · exact (S.cell _ z1 rfl (List.mem_of_getElem? hq)).elim
      · rw [List.getElem?_append_right (by omega), List.getElem?_replicate] at e2
        split at e2 <;> cases e2
  · rcases cells_both e with ⟨_, m, _⟩ | ⟨o, _⟩
    · exact ⟨_, newCell m⟩
    · obtain ⟨v, z⟩ := (C.all y c o).2
      exact ⟨v, cellK z⟩
  · rcases cells_both e with ⟨_, _, l⟩ | ⟨o, _⟩
    · exact e0.hok.fresh (Nat.le_of_succ_le l)
    · exact (C.all y c o).1
  · have clen := C.len
    unfold startF
    show _ = N.length
    rw [List.length_append, List.length_append, List.length_map, List.length_replicate]
    omega
/-- a nested def by its body -/
theorem nok_ofC {k : Nat} {sp : List (Option V) → Sp} (S : CScope N ps fr F.scope) (hb : ∀ (doc pm ctv : Value) (us : List Value), us.length = ps.length → bindArgs (F.fd doc pm ctv) ⟨us, []⟩ = pure (ps.zip us)) (len : ∀ ws vs H Q E, sp ws vs H Q E → vs.length = ps.length)
    (hbody : ∀ (A : Around) (outer : List Env) (s : Shared) (H : Hp) (vs : List V) (ws : List (Option V)) (Q : VK) (E : XK), Room k (A.deeper (envFC F f s.heap.objs.size)) → H f = some (FnO f F) → H F.c = some (CodeO F.c F.qual) → ws.length = fr.length → sp ws vs H Q E →
      ∃ t, PSs (nxc CX P w K mg base N F f A outer s H E) F.body t ∧ t { nx := fun _ H' => Q .non H', rt := Q } (startF N vs ws) H) :
    NOk P w K mg base CX (k + 1) f F ps fr sp := by
  refine ⟨len, fun A outer s H us vs ws Q E hr e0 hf hc C r hsp => ?_⟩
  have hl := len _ _ _ _ _ hsp
  have lim : s.heap.NoLimit := e0.mod.nolimit.keeps fun b o e => (e0.bs b o e).1
  obtain ⟨od, sl, doc, pm, ctv, ho⟩ := fnO_at e0.hok hf
  refine codeAny_call_function hr.depth ho rfl S.co S.gen rfl (codeO_at e0.hok hc) ?_
  rw [hb doc pm ctv us (by rw [← r.length]; exact hl)]
  refine wpAny_pure (newEnv_both S.kind (fun ⟨n, _⟩ hy => S.par n (List.of_mem_zip hy).1) (fun h₁ hns hsb => ?_))
  have kp : ∀ b o, s.heap.get? b = some o → h₁.get? b = some o := fun b o e => hsb.extBut b o (Nat.ne_of_lt (Heap.lt_size e)) (pushCells_keeps _ _ b o (Heap.get?_push_of_some _ e))
  refine ⟨lim.keeps kp, ?_⟩
  show codeAny _ _ (.func F.body (envFC F f s.heap.objs.size)) _ _
  refine codeAny_func ?_
  obtain ⟨t, ht, hq⟩ := hbody A outer s H vs ws Q E (hr.deeper _) hf hc C.len hsp
  have I : Inv (nxc CX P w K mg base N F f A outer s H E) [] (startF N vs ws) H { s with heap := h₁, toks := s.toks + (ps.zip us).length } := inv_startC S hr.hd e0 hl r C hns hsb
  refine wpAny_mono (ht.run [] _ (startF N vs ws) H _ I hq) (fun fl s' hs => ?_) fun e s' hs => hs
  have fin : ∀ {σ' : L2.St} {H' : Hp} {v : V} {u : Value}, Inv (nxc CX P w K mg base N F f A outer s H E) [] σ' H' s' → L2.RelV v u → Q v H' → CE outer P w H s Q u s' :=
    fun {σ' H' v u} J rv q => ⟨v, H', J.os, J.bare, J.base, J.hok, rv, q⟩
  cases fl with
  | ret u =>
    obtain ⟨v, σ', H', J, rv, q⟩ := hs
    exact fin J rv q
  | next =>
    obtain ⟨σ', H', J, q⟩ := hs
    exact fin (v := V.non) (u := Value.none) J rfl q
  | brk =>
    obtain ⟨_, _, _, q⟩ := hs
    exact False.elim q
  | cont =>
    obtain ⟨_, _, _, q⟩ := hs
    exact False.elim q
end
section
variable {X : Cx} {pins : List (Addr × Obj)} {σ : L2.St} {H : Hp} {s : Shared} {cl : List (Str × Addr)} {fr : List Str} {ws : List (Option V)} {js : List Nat}
/-- the running def's own cells are no frames -/
theorem cells_nofr (I : Inv X pins σ H s) (hfn : ∀ y, X.fn y = true) (hst : X.stack = X.env :: X.outer) (hfl : X.env.frame = some X.env.locals) (cp : Caps X cl fr js) : ∀ y c, cl.lookup y = some c → c ∉ frs X.stack := by
  intro y c e z
  have e1 := cp.sub y c e
  have above := I.ok.cab y c (hfn y) e1
  rw [hst] at z
  have z : c ∈ (X.env :: X.outer).filterMap (·.frame) := z
  rw [List.filterMap_cons, hfl] at z
  rcases List.mem_cons.mp z with z | z
  · obtain ⟨v, o, ho, hd⟩ := I.cell y c e1
    obtain ⟨m, ⟨o2, es, ep, ho2, hd2, _⟩, _⟩ := I.loc
    rw [z, ho2] at ho
    cases ho
    rw [hd2] at hd
    cases hd
  · obtain ⟨_, o, ho, _⟩ := I.ok.funs.mem z
    exact absurd (Nat.lt_of_lt_of_le (Heap.lt_size ho) above) (Nat.lt_irrefl _)
/-- f(..), f a function that the running def got: its cells are as they were when it began -/
def tCallV (f : Addr) (F : NF) (sp : List (Option V) → Sp) (ws : List (Option V)) (i : Nat) (t : TA) : TE := fun σ H Q => σ[i]? = some (some (.ref f)) ∧ H f = some (FnO f F) ∧ t σ H fun vs H1 => H1 f = some (FnO f F) ∧ H1 F.c = some (CodeO F.c F.qual) ∧ sp ws vs H1 Q E0
theorem pe_callV {F : NF} {f : Addr} {ps : List Str} {i j k : Nat} {x : Str} {sp : List (Option V) → Sp} {t : TA} {e : Expr} {es : List Expr} {p pos : Pos} (Fn : NOk X.prog X.w X.K X.mg X.base CX0 k f F ps fr sp) (C : CellsAt F.cl fr ws X.s_0.heap X.H_0) (nf : ∀ y c, F.cl.lookup y = some c → c ∉ X.fs) (hx : ∀ y c, F.cl.lookup y = some c → c ∉ X.ex)
    (hr : Room j X.A) (hk : k ≤ j) (hN : X.N[i]? = some x) (hv : Vis X.env.scope x) (ha : PA X (e :: es) t)
    (hd : (x == ("__debug__" : Str)) = false := by decide) (hcd : (x == ("__classdict__" : Str)) = false := by decide)
    (he : starEach (e :: es) X.env = (false, eval e X.env) :: starEach es X.env := by rfl) (hpl : (backTo pos (starEach es X.env)).any (·.1) = false := by rfl) :
    PE X (.Call (.Name x p) (e :: es) [] pos) (tCallV f F sp ws i t) := by
  refine ⟨fun pins s σ H Q I h => ?_⟩
  obtain ⟨hs, hf, ht⟩ := h
  refine wpAny_Call_Name_kw (thn ((pe_var (pos := p) hN hv hd hcd).run pins s σ H (fun v H1 => v = .ref f ∧ H1 = H) I ⟨.ref f, hs, rfl, rfl⟩) fun u s1 ⟨v, H1, I1, r1, q1⟩ => ?_)
  obtain ⟨ev, eH⟩ := q1
  subst ev
  rw [eH] at I1
  obtain rfl : u = Value.ref f := r1
  refine PySem.W.callWith_F (first := []) (fnAt_of I1 hf) (thn (ha.run pos pins s1 σ H _ I1 ht) fun us s2 ⟨vs, H2, I2, r, h1, h2, q⟩ => ⟨fnAt_of I2 h1, ?_⟩) he hpl
  show wpAny _ _ (call (.ref f) us) _ _ _
  refine wpAny_call (codeAny_mono (Fn.run X.A X.stack s2 H2 us vs ws Q E0 (hr.mono hk) I2.env0 h1 h2 (C.later nf hx I2) r q) fun r s' hq => ?_)
  cases r with
  | error e => exact hq.elim
  | ok fl =>
    cases fl with
    | ret u => exact I2.after hq
    | next => exact False.elim hq
    | brk => exact False.elim hq
    | cont => exact False.elim hq
/-- a def's call, its promise told of the very state -/
theorem fun_run {P : Program} {w : World} {K : PySem.W.Frag} {mg : Str → Option Value} {base : Heap} {k : Nat} {x : Str} {st : Stmt} {f : Addr} {fd : FuncData} {N ps : List Str} (F : Fun K x x st f fd) (S : FnScope N ps (defScope st)) (b : Binds K fd ps [])
    {A : Around} {outer : List Env} {s : Shared} {H : Hp} {us : List Value} {vs : List V} {Q : VK} {E : XK} (hr : Room (k + 1) A) (e0 : Env0 P w K mg base A outer s H) (r : Vals vs us) (hl : vs.length = ps.length)
    (hbody : ∀ cdv : Value, Room k (A.deeper (envOfC x (defScope st) s.heap.objs.size f cdv)) → ∃ t, PSs (cxOf CX0 P w K mg base N x (defScope st) f cdv A outer s H E).nox (defBody st) t ∧ t { nx := fun _ H' => Q .non H', rt := Q } (L2.start N vs) H) :
    codeAny (model P w) A (.call (.ref f) ⟨us, []⟩) (CR CX0 outer P w H s Q E) s := by
  obtain ⟨oc, od, kV, doc, pm, an, cdv, ct, osl, rfl, lk, hcd⟩ := F.ex
  have KX : K.In s.heap := e0.mod.kin.keeps fun b o e => (e0.bs b o e).1
  refine run_ofS lk hcd S hr e0 ?_ r hl fun hr' => ?_
  · have z := b s us KX (by rw [List.append_nil, ← r.length]; exact hl)
    simpa using z
  · obtain ⟨t, h, q⟩ := hbody cdv hr'
    exact ⟨t, h.nox, q⟩
/-- g(.., h): a def is handed a function made by mk -/
def tCallG (mk : Addr → NF) (js : List Nat) (TT : Addr → Addr → List (Option V) → List V → Hp → VK → Prop) (t : TA) : TE := fun σ H Q => t σ H fun vs H1 => ∃ f c', H1 f = some (FnO f (mk c')) ∧ H1 (mk c').c = some (CodeO (mk c').c (mk c').qual) ∧ TT f c' (js.map (slotAt σ)) vs H1 Q
theorem pe_callG {mk : Addr → NF} {k : Nat} {x : Str} {st : Stmt} {g : Addr} {fd : FuncData} {N ps : List Str} {TT : Addr → Addr → List (Option V) → List V → Hp → VK → Prop} {t : TA} {e : Expr} {es : List Expr} {p pos : Pos}
    (F : Fun X.K x x st g fd) (S : FnScope N ps (defScope st)) (b : Binds X.K fd ps []) (hr : Room (k + 1) X.A) (hg : Gl X x) (hm : X.mg x = some (.ref g)) (hcl : ∀ c', (mk c').cl = cl) (cp : X.Ok → Caps X cl fr js) (hfn : ∀ y, X.fn y = true) (hst : X.stack = X.env :: X.outer) (hfl : X.env.frame = some X.env.locals)
    (hTT : ∀ (f c' : Addr) (ws : List (Option V)) (vs : List V) (H : Hp) (Q : VK), TT f c' ws vs H Q → vs.length = ps.length ∧ ∀ (cdv : Value) (A : Around) (outer : List Env) (s : Shared), Room k (A.deeper (envOfC x (defScope st) s.heap.objs.size g cdv)) → CellsAt cl fr ws s.heap H → (∀ y c, cl.lookup y = some c → c ∉ frs outer) →
      H f = some (FnO f (mk c')) → H (mk c').c = some (CodeO (mk c').c (mk c').qual) → ∃ t, PSs (cxOf CX0 X.prog X.w X.K X.mg X.base N x (defScope st) g cdv A outer s H E0).nox (defBody st) t ∧ t { nx := fun _ H' => Q .non H', rt := Q } (L2.start N vs) H)
    (ha : PA X (e :: es) t) (hdb : (x == ("__debug__" : Str)) = false := by decide) (he : starEach (e :: es) X.env = (false, eval e X.env) :: starEach es X.env := by rfl) (hpl : (backTo pos (starEach es X.env)).any (·.1) = false := by rfl) :
    PE X (.Call (.Name x p) (e :: es) [] pos) (tCallG mk js TT t) := by
  refine ⟨fun pins s σ H Q I h => ?_⟩
  refine wpAny_Call_Name_kw (ld_glob I hg hm ?_ hdb)
  refine PySem.W.callWith_K (h₀ := X.base) I.ok.mod.kin F.kp (thn (ha.run pos pins s σ H _ I h) fun us s1 ⟨vs, H1, I1, r, f, c', h1, h2, q⟩ => ⟨I1.kIn, ?_⟩) he hpl
  obtain ⟨hl, hb⟩ := hTT _ _ _ _ _ _ q
  have cp' := cp I1.ok
  refine wpAny_call (codeAny_mono (fun_run (k := k) (E := E0) (Q := Q) F S b hr I1.env0 r hl fun cdv hr' => hb cdv _ _ s1 hr' (cells_of I1 cp') (cells_nofr I1 hfn hst hfl cp') h1 h2) fun r s2 hq => ?_)
  cases r with
  | error e => exact (show False from hq).elim
  | ok fl =>
    cases fl with
    | ret u => exact I1.after hq
    | next => exact False.elim hq
    | brk => exact False.elim hq
    | cont => exact False.elim hq
end
end Tw
/-! Triesgrow, rules of our own: a dict whose keys are triples (two rooms and a room or a truth) -/
namespace Tw
open PySem PySem.Spec PyProof.Rows L2 Tg NdefX LamX
def k3 (t : T3) : NestedKey := .tup [.num t.1, .num t.2.1, .num t.2.2]
theorem k3_inj {s t : T3} (h : k3 s = k3 t) : s = t := by
  obtain ⟨a, b, c⟩ := s
  obtain ⟨d, e, f⟩ := t
  simp only [k3, NestedKey.tup.injEq, List.cons.injEq, NestedKey.num.injEq, and_true] at h
  obtain ⟨rfl, rfl, rfl⟩ := h
  rfl
/-- the tuple at p is the triple t; its third is a number, or a truth for 1 and 0 -/
def St3 (bo : Bool) (H : Hp) (p : Addr) (t : T3) : Prop := ∃ z, H p = some (.tup [.int t.1, .int t.2.1, z]) ∧ (z = .int t.2.2 ∨ bo = true ∧ ∃ b : Bool, z = .bl b ∧ t.2.2 = if b = true then 1 else 0)
theorem St3.sub {H H' : Hp} {p : Addr} {t : T3} (e : Sub H H') (h : St3 bo H p t) : St3 bo H' p t := by
  obtain ⟨z, h1, h2⟩ := h
  exact ⟨z, e.2 _ _ h1, h2⟩
theorem St3.mono {T : List NTab} {H H' : Hp} {p : Addr} {t : T3} (e : Xt T H H') (h : St3 bo H p t) : St3 bo H' p t := h.sub e.sub
theorem St3.is {P : Program} {w : World} {H : Hp} {h : Heap} {p : Addr} {t : T3} (ok : HOk P w H h) (x : St3 bo H p t) : (nestedKind P w).is h (k3 t) p := by
  obtain ⟨z, h1, h2⟩ := x
  obtain ⟨_, its, r, o, e1, e2, n, e3⟩ := (show ObjOk P w H h p (.tup _) from ok p _ h1)
  refine ⟨.tup e1 e2 e3 ?_, by show (k3 t).depth ≤ 8; simp [k3, NestedKey.depth, NestedKey.depthAll]⟩
  obtain ⟨u1, its, rfl, r1, r⟩ : ∃ u r', its = u :: r' ∧ RelV (.int t.1) u ∧ Vals [.int t.2.1, z] r' := by cases r with | cons a b => exact ⟨_, _, rfl, a, b⟩
  obtain ⟨u2, its, rfl, r2, r⟩ : ∃ u r', its = u :: r' ∧ RelV (.int t.2.1) u ∧ Vals [z] r' := by cases r with | cons a b => exact ⟨_, _, rfl, a, b⟩
  obtain ⟨u3, rfl, r3⟩ := vals1 r
  obtain ⟨t1, rfl⟩ := r1
  obtain ⟨t2, rfl⟩ := r2
  refine .cons (.int _ _) (.cons (.int _ _) (.cons ?_ .nil))
  rcases h2 with rfl | ⟨_, b, rfl, e⟩
  · obtain ⟨t3, rfl⟩ := r3
    exact .int _ _
  · obtain rfl : u3 = Value.bool b := r3
    exact .bool e
/-- the object at d is the dict with these keys -/
def KnO (P : Program) (w : World) (d : Addr) (xs : List (NestedKey × Addr × Value)) : HO := .ext fun h => (d == sysModules) = false ∧ ∃ o es ep, h.get? d = some o ∧ o.ExactDict ∧ o.data = .dict es ep ∧ es.toList = xs.map (entryOfKey (nestedKind P w)) ∧ (xs.map (·.1)).Nodup
def kx (ps : List (T3 × Addr)) : List (NestedKey × Addr × Value) := ps.map fun q => (k3 q.1, q.2, .bool true)
/-- the dict at d: its keys are the triples ks -/
def Kn (bo : Bool) (P : Program) (w : World) (H : Hp) (d : Addr) (ks : List T3) : Prop := ∃ ps : List (T3 × Addr), ps.map (·.1) = ks ∧ H d = some (KnO P w d (kx ps)) ∧ ∀ q ∈ ps, St3 bo H q.2 q.1
theorem knO_ne {P : Program} {w : World} {d : Addr} {xs : List (NestedKey × Addr × Value)} (ps : Array Value) : KnO P w d xs ≠ .tbl ps := fun z => by
  unfold KnO at z
  cases z
theorem Kn.mono {T : List NTab} {P : Program} {w : World} {H H' : Hp} {d : Addr} {ks : List T3} (e : Xt T H H') (h : Kn bo P w H d ks) : Kn bo P w H' d ks := by
  obtain ⟨ps, h1, h2, h3⟩ := h
  exact ⟨ps, h1, e.ext _ _ h2 knO_ne, fun q hq => (h3 q hq).mono e⟩
theorem at_kx {ps : List (T3 × Addr)} {t : T3} : (atKey (kx ps) (k3 t)).isSome = decide (t ∈ ps.map (·.1)) := by
  induction ps with
  | nil => simp [atKey, kx]
  | cons q ps ih =>
    by_cases h : q.1 = t
    · subst h
      simp [atKey, kx]
    · have h' : ¬ k3 q.1 = k3 t := fun z => h (k3_inj z)
      have e1 : atKey (kx (q :: ps)) (k3 t) = atKey (kx ps) (k3 t) := by simp [atKey, kx, List.find?_cons, h']
      rw [e1, ih, decide_eq_decide, List.map_cons, List.mem_cons]
      exact ⟨.inr, fun z => z.elim (fun y => (h y.symm).elim) id⟩
section
variable {P : Program} {w : World} {H : Hp} {h : Heap} {d : Addr} {ks : List T3}
theorem kn_at (ok : HOk P w H h) {ps : List (T3 × Addr)} (e : H d = some (KnO P w d (kx ps))) (hs : ∀ q ∈ ps, St3 bo H q.2 q.1) : (d == sysModules) = false ∧ h.DictOfH (nestedKind P w) d (kx ps) := by
  obtain ⟨⟨z, o, es, ep, h1, h2, h3, h4, h5⟩, _, _⟩ := ok d _ e
  refine ⟨z, o, es, ep, h1, h2, h3, h4, fun x hx => ?_, h5⟩
  obtain ⟨q, hq, rfl⟩ := List.mem_map.mp hx
  exact (hs q hq).is ok
theorem knO_code (ok : HOk P w H h) {xs : List (NestedKey × Addr × Value)} (e : H d = some (KnO P w d xs)) (q : Str) : KnO P w d xs ≠ CodeO d q := fun z => by
  obtain ⟨⟨_, o, es, ep, h1, h2, h3, _⟩, _, _⟩ := ok d _ e
  have e' := e
  rw [z] at e'
  obtain ⟨⟨oc, vs, t, g1, g2, _⟩, _, _⟩ := ok d _ e'
  rw [h1] at g1
  cases g1
  rw [h3] at g2
  cases g2
end
section
variable {X : Cx} {pos : Pos}
def tKnNew (P : Program) (w : World) : TE := fun _ H Q => ∀ p, H p = none → Q (.ref p) (upd H p (KnO P w p []))
theorem pe_dnewX : PE X (.Dict [] [] pos) (tKnNew X.prog X.w) := ⟨fun pins s σ H Q I h =>
  wpAny_Dict_empty ⟨.ref s.heap.objs.size, _, I.laid (a := s.heap.objs.size) (o := KnO X.prog X.w s.heap.objs.size []) (t' := s.toks) (fun _ _ q => Heap.get?_push_of_some _ q) (Nat.le_refl _)
    ⟨⟨beq_eq_false_iff_ne.mpr (Ne.symm (Nat.ne_of_lt I.big)), _, #[], 0, Heap.get?_push_size _ rfl, ⟨rfl, rfl, rfl⟩, rfl, rfl, List.nodup_nil⟩, ⟨_, Heap.get?_push_size _ rfl⟩, fun h1 h2 ⟨z, o, es, ep, a, b, c, d, e⟩ st => ⟨z, o, es, ep, st _ a, b, c, d, e⟩⟩,
    rfl, h _ (I.hok.fresh (Nat.le_refl _))⟩⟩
theorem op_notinX {bo : Bool} (hu : X.A.units + 64 < cLine) : OpR X (compareOp .NotIn) (fun x y H Q => ∃ p d t ks, x = .ref p ∧ y = .ref d ∧ St3 bo H p t ∧ Kn bo X.prog X.w H d ks ∧ Q (.bl (!decide (t ∈ ks))) H) := by
  intro pins s σ H x y v u Q I rx ry h
  obtain ⟨p, d, t, ks, rfl, rfl, h1, ⟨ps, rfl, h2, h3⟩, q⟩ := h
  cases rx
  cases ry
  obtain ⟨hd, hm⟩ := kn_at I.hok h2 h3
  refine wpAny_notIn_heap (by show X.A.units + 1 + 8 < cLine; omega) (h1.is I.hok) hd hm ?_
  rw [at_kx]
  exact ⟨.bl _, H, I.tok _, rfl, q⟩
def PlainAt (p : Addr) (u : HO) : Prop := (∀ ps, u ≠ .tbl ps) ∧ ∀ q, u ≠ CodeO p q
def sKnPut (bo : Bool) (P : Program) (w : World) (td ty tv : TE) : TS := fun D σ H => tv σ H fun v H1 => td σ H1 fun x H2 => ty σ H2 fun y H3 => ∃ d p t ks, v = .bl true ∧ x = .ref d ∧ y = .ref p ∧ St3 bo H3 p t ∧ Kn bo P w H3 d ks ∧ t ∉ ks ∧ ks.length < sizeLine ∧
  ∀ u o, H3 d = some u → PlainAt d u → Kn bo P w (upd H3 d o) d (ks ++ [t]) → D.nx σ (upd H3 d o)
theorem ps_dputX {bo : Bool} {o i value : Expr} {td ty tv : TE} {pos' : Pos} (hu : X.A.units + 64 < cLine) (ho : PE X o td) (hi : PE X i ty) (hv : PE X value tv) (hs : swapsWith value (some (.Subscript o i pos')) pos.line X.env = pure false := by rfl) :
    PS X (.Assign [.Subscript o i pos'] value pos) (sKnPut bo X.prog X.w td ty tv) := by
  refine ⟨fun pins s σ H D I h => ?_⟩
  refine wpAny_Assign_Subscript (thn (hv.run pins s σ H _ I h) fun r s1 ⟨v, H1, I1, rv, q1⟩ => thn (ho.run pins s1 σ H1 _ I1 q1) fun u s2 ⟨x, H2, I2, rx, q2⟩ => thn (hi.run pins s2 σ H2 _ I2 q2) fun iv s3 ⟨y, H3, I3, ry, d, p, t, ks, ev, ex, ey, h1, hk, hn, hl, q3⟩ => ?_) hs
  subst ev ex ey
  obtain rfl : r = Value.bool true := rv
  obtain rfl : u = Value.ref d := rx
  obtain rfl : iv = Value.ref p := ry
  obtain ⟨ps, rfl, h2, h3⟩ := hk
  obtain ⟨hd, hm⟩ := kn_at I3.hok h2 h3
  have hat : atKey (kx ps) (k3 t) = none := by
    cases e : atKey (kx ps) (k3 t) with
    | none => rfl
    | some _ =>
      have z := at_kx (ps := ps) (t := t)
      rw [e, decide_eq_false hn] at z
      cases z
  refine wpAny_setItem_heap (hsz := by show (kx ps).length ≤ sizeLine; unfold kx; rw [List.length_map]; rw [List.length_map] at hl; omega) (by show X.A.units + 1 + 8 < cLine; omega) (h1.is I3.hok) hm fun h' dd' hs => ?_
  rw [storedH_new hat] at dd'
  have ekx : kx ps ++ [(k3 t, p, Value.bool true)] = kx (ps ++ [(t, p)]) := by unfold kx; rw [List.map_append]; rfl
  rw [ekx] at dd'
  obtain ⟨q, es, ep, hq, g2, g3, g4, _, g5⟩ := dd'
  refine ⟨σ, _, I3.write (x := d) (e := d) (o := KnO X.prog X.w d (kx (ps ++ [(t, p)]))) (t' := s3.toks + (nestedKind X.prog X.w).draws (k3 t)) (by rw [h2]; exact True.intro) (.inl rfl) (fun b q hb z => (hs.2 b hb).trans z) ⟨q, hq⟩
    ⟨⟨hd, q, es, ep, hq, g2, g3, g4, g5⟩, ⟨q, hq⟩, fun h1 h2 ⟨z, o, es, ep, a, b, c, d, e⟩ st => ⟨z, o, es, ep, st _ a, b, c, d, e⟩⟩, q3 _ _ h2 ⟨knO_ne, knO_code I3.hok h2⟩ ?_⟩
  have sb : Sub H3 (upd H3 d (KnO X.prog X.w d (kx (ps ++ [(t, p)])))) := by
    refine ⟨fun a xs e => ?_, fun a xs e => ?_⟩ <;> (rw [upd_ne (ne_of e h2 fun z => by unfold KnO at z; cases z)]; exact e)
  refine ⟨ps ++ [(t, p)], by rw [List.map_append]; rfl, upd_same, fun q hq => ?_⟩
  rcases List.mem_append.mp hq with hq | hq
  · exact (h3 q hq).sub sb
  · rw [List.mem_singleton.mp hq]
    exact h1.sub sb
end
/-- a heap grown by a change of an object that was not there at first -/
theorem Xt.putC {T : List NTab} {H H' : Hp} {p : Addr} {u o : HO} (e : Xt T H H') (h : H p = none) (hp : H' p = some u) (n : PlainAt p u) : Xt T H (upd H' p o) := by
  refine ⟨fun b q => ?_, fun b v q nv => ?_, fun t q hq => ?_⟩
  · by_cases z : b = p
    · exact z ▸ h
    · rw [upd_ne z] at q; exact e.dom b q
  · rw [upd_ne (ne_of_none q h)]; exact e.ext b v q nv
  · obtain ⟨ps, e1, e2, e3⟩ := e.tab t q hq
    refine ⟨ps, ?_, e2, fun pos cv hc => ?_⟩
    · rw [upd_ne fun z => n.1 ps (Option.some.inj (hp.symm.trans (by rw [← z]; exact e1)))]
      exact e1
    · obtain ⟨c, z1, z2⟩ := e3 pos cv hc
      refine ⟨c, z1, ?_⟩
      rw [upd_ne fun z => ?_]
      · exact z2
      · rw [z] at z2
        exact n.2 _ (Option.some.inj (hp.symm.trans z2))
end Tw
/-! Triesgrow, rules of our own: sorted(set(texts)) -/
namespace Tw
open PySem PySem.Spec PyProof.Rows L2 Tg
def keyS (e : Int × Value) : Str := match e.2 with | .str k _ => k | _ => ⟨#[]⟩
def GoodS (w : World) (e : Int × Value) : Prop := ∃ k tk, e.2 = Value.str k tk ∧ e.1 = hashStr w k

/-- the set of texts at a: S its members, n their number; its table rises and can be walked -/
def SRS (w : World) (h : Heap) (a : Addr) (S : Str → Bool) (n : Nat) : Prop :=
  ∃ o es ep t, h.get? a = some o ∧ o.ExactSet ∧ o.data = .set es ep t ∧ (∀ e ∈ es.toList, GoodS w e) ∧ (es.toList.map keyS).Nodup ∧ (∀ k, S k = true ↔ k ∈ es.toList.map keyS) ∧
    es.size < scanBound ∧ t.fits es.size = true ∧ es.size = n ∧ Ris t.place.toList ∧ (w.params.followText "set-order" = true ∨ t.led = true)

section
variable {P : Program} {w : World} {h h' : Heap} {a : Addr} {S : Str → Bool} {n : Nat}

theorem SRS.at (R : SRS w h a S n) (k : ∀ o, h.get? a = some o → h'.get? a = some o) : SRS w h' a S n := by
  obtain ⟨o, es, ep, t, ho, r⟩ := R
  exact ⟨o, es, ep, t, k o ho, r⟩
theorem SRS.lt (R : SRS w h a S n) : a < h.objs.size := by
  obtain ⟨o, es, ep, t, ho, r⟩ := R
  exact Heap.lt_size ho
theorem SRS.congr {S' : Str → Bool} (R : SRS w h a S n) (e : ∀ k, S' k = S k) : SRS w h a S' n := by
  have q : S' = S := funext e
  rw [q]; exact R
theorem goodS_elems {l : List (Int × Value)} (g : ∀ e ∈ l, GoodS w e) : ElemsOf (PySem.strKind P w) l := fun e he => by
  obtain ⟨k, tk, h1, h2⟩ := g e he
  exact ⟨⟨k, by rw [h1]; exact strKind_is P w k tk, h2⟩, by rw [h1] <;> rfl⟩
theorem goodS_is {e : Int × Value} (g : GoodS w e) (k : Str) : (PySem.strKind P w).is k e.2 = true ↔ keyS e = k := by
  obtain ⟨k0, tk, h1, _⟩ := g
  unfold keyS
  rw [h1]
  show ((k0 == k) = true) ↔ k0 = k
  exact beq_iff_eq
theorem goodS_mem {l : List (Int × Value)} (g : ∀ e ∈ l, GoodS w e) (k : Str) : k ∈ l.map keyS ↔ ∃ e ∈ l, (PySem.strKind P w).is k e.2 = true := by
  rw [List.mem_map]
  constructor
  · rintro ⟨e, he, q⟩
    exact ⟨e, he, (goodS_is (g e he) k).2 q⟩
  · rintro ⟨e, he, q⟩
    exact ⟨e, he, (goodS_is (g e he) k).1 q⟩
theorem SRS.setOf (R : SRS w h a S n) : h.SetOf (PySem.strKind P w) a S n := by
  obtain ⟨o, es, ep, t, ho, hx, hd, g, nd, hm, hb, hf, hn, _⟩ := R
  exact ⟨o, es, ep, t, ho, hx, hd, goodS_elems g, fun k => (hm k).trans (goodS_mem g k), hb, hf, hn⟩
end

section
variable {P : Program} {w : World} {A : Around} {E : Value → Shared → Prop} {s : Shared} {a : Addr} {S : Str → Bool} {n : Nat}

/-! ### add -/
theorem storeS_at {h : Heap} {a : Addr} {o : Obj} {es es' : Array (Int × Value)} {ep : Nat} {t t' : SetTable} (ho : h.get? a = some o) (hd : o.data = .set es ep t) :
    (h.update a (Obj.putSet es' t')).get? a = some { o with data := .set es' (ep + 1) t' } := by
  have q := Heap.get?_update_self (Obj.putSet es' t') ho (by rw [putSet_of es' t' hd]; rfl)
  rw [putSet_of es' t' hd] at q
  exact q

theorem srs_add_tail {g : Bool → Sem Unit} (hg : ∀ (b : Bool) (s₁ : Shared) (Q' : Unit → Shared → Prop), Q' () s₁ → wpAny (model P w) A (g b) Q' E s₁)
    {o : Obj} {es : Array (Int × Value)} {ep : Nat} {t : SetTable} (ho : s.heap.get? a = some o) (hex : o.ExactSet) (hd : o.data = .set es ep t)
    {es1 : Array (Int × Value)} {t2 : SetTable} {S' : Str → Bool} (g1 : ∀ e ∈ es1.toList, GoodS w e) (nd1 : (es1.toList.map keyS).Nodup) (m1 : ∀ k, S' k = true ↔ k ∈ es1.toList.map keyS)
    (hb1 : es1.size < scanBound) (hf2 : t2.fits es1.size = true) (hr : Ris t2.place.toList) (hl : w.params.followText "set-order" = true ∨ t2.led = true) {wasDummy : Bool} {R : Option Bool → Shared → Prop}
    (hR : ∀ h', Heap.SameBut a s.heap h' → SRS w h' a S' es1.size → R (some true) { s with heap := h' }) :
    wpAny (model P w) A (do
        storeSet a es1 t2
        if (!wasDummy && t2.tooFull) = true then do
            g (relayAll t2 es1 (SetTable.grown es1.size)).2.2
            storeSet a (relayAll t2 es1 (SetTable.grown es1.size)).1 (relayAll t2 es1 (SetTable.grown es1.size)).2.1
            pure (some true)
          else pure (some true)) R E s := by
  refine wpAny_bind (wpAny_storeSet_of ho hd ?_ (fits_of_scanBound hb1))
  have ho1 := storeS_at (es' := es1) (t' := t2) ho hd
  have sb1 := Heap.SameBut.update s.heap a (Obj.putSet es1 t2)
  split
  · have pm := relayAll_perm t2 es1 (SetTable.grown es1.size)
    have hf3 := relayAll_fits t2 es1 (SetTable.grown es1.size)
    have hr3 := relayAll_ris t2 es1 (SetTable.grown es1.size)
    have hl3 := relayAll_led t2 es1 (SetTable.grown es1.size)
    generalize relayAll t2 es1 (SetTable.grown es1.size) = Z at pm hf3 hr3 hl3 ⊢
    obtain ⟨es2, t3, gave⟩ := Z
    dsimp only at pm hf3 hr3 hl3 ⊢
    have hsz : es2.size = es1.size := by rw [← Array.length_toList, pm.length_eq, Array.length_toList]
    have hb2 : es2.size < scanBound := by rw [hsz]; exact hb1
    refine wpAny_bind (hg _ _ _ ?_)
    refine wpAny_bind (wpAny_storeSet_of ho1 rfl ?_ (fits_of_scanBound hb2))
    have ho2 := storeS_at (es' := es2) (t' := t3) ho1 rfl
    refine wpAny_pure (hR _ (sb1.trans (Heap.SameBut.update _ a _)) ?_)
    exact ⟨_, es2, _, t3, ho2, hex, rfl, fun e he => g1 e (pm.mem_iff.mp he), (pm.map keyS).nodup_iff.mpr nd1, fun k => (m1 k).trans (pm.map keyS).mem_iff.symm, hb2, hf3, hsz, hr3,
      hl.imp id fun z => by rw [hl3]; exact z⟩
  · exact wpAny_pure (hR _ sb1 ⟨_, es1, _, t2, ho1, hex, rfl, g1, nd1, m1, hb1, hf2, rfl, hr, hl⟩)

theorem srs_add_hashed {k : Str} {tk : Tok} {Q : Bool → Shared → Prop} (R : SRS w s.heap a S n) (room : n + 1 < scanBound)
    (hQ : ∀ h', Heap.SameBut a s.heap h' → SRS w h' a (fun j => S j || decide (j = k)) (if S k = true then n else n + 1) → Q (!S k) { s with heap := h' }) :
    wpAny (model P w) A (setAddHashed a (.str k tk) ((PySem.strKind P w).hash k)) Q E s := by
  obtain ⟨o, es, ep, t, ho, hex, hd, g, nd, hm, hb, hf, hn, hr, hl⟩ := R
  have hkey : (PySem.strKind P w).is k (.str k tk) = true := strKind_is P w k tk
  have hsc : (Value.str k tk).scannable = true := rfl
  have hel : ElemsOf (PySem.strKind P w) es.toList := goodS_elems g
  unfold setAddHashed setAddHashedIn
  refine wpAny_holding (wpAny_bind (wpAny_setState_of ho hd hf ?_))
  dsimp only
  rw [byScan_of hsc hb hel]
  simp only [↓reduceIte]
  unfold setAddByScan
  refine wpAny_bind ?_
  refine wpAny_bind (wpAny_rule ?_)
  refine wpAny_bind (wpAny_setScan_of hkey ho hd hf hel ?_)
  cases hfi : List.findIdx? (fun e => (PySem.strKind P w).is k e.2) es.toList with
  | some j =>
    dsimp only
    obtain ⟨hj, pj, _⟩ := List.findIdx?_eq_some_iff_getElem.mp hfi
    have hSk : S k = true := (hm k).2 ((goodS_mem (P := P) (w := w) g k).2 ⟨es.toList[j], List.getElem_mem hj, pj⟩)
    refine wpAny_pure (wpAny_pure ?_)
    have q := hQ s.heap (Heap.SameBut.refl a s.heap) ⟨o, es, ep, t, ho, hex, hd, g, nd, fun i => by
      rw [Bool.or_eq_true, decide_eq_true_eq, ← hm i]
      exact ⟨fun z => z.elim id (fun e => e ▸ hSk), .inl⟩, hb, hf, by rw [if_pos hSk]; exact hn, hr, hl⟩
    rw [hSk] at q
    exact q
  | none =>
    dsimp only
    have hnk : k ∉ es.toList.map keyS := fun z => by
      obtain ⟨e, he, q⟩ := (goodS_mem (P := P) (w := w) g k).1 z
      have c := List.findIdx?_eq_none_iff.mp hfi e he
      rw [q] at c
      cases c
    have hSk : S k = false := by
      cases q : S k with
      | false => rfl
      | true => exact absurd ((hm k).1 q) hnk
    have hgw : ∀ (b : Bool) {s₁ : Shared} {Q' : Unit → Shared → Prop}, Q' () s₁ → wpAny (model P w) A (match b with | true => rule "set.scan.the-table-gave-way" | false => pure ()) Q' E s₁ :=
      fun b s₁ Q' q => by cases b <;> first | exact wpAny_pure q | exact wpAny_rule q
    have pm := layNew_perm t es ((PySem.strKind P w).hash k) (.str k tk)
    have hf1 := layNew_fits t es ((PySem.strKind P w).hash k) (.str k tk)
    have hr1 := layNew_ris t es ((PySem.strKind P w).hash k) (.str k tk) hr
    have hl1 := layNew_led t es ((PySem.strKind P w).hash k) (.str k tk)
    generalize layNew t es ((PySem.strKind P w).hash k) (.str k tk) = Z at pm hf1 hr1 hl1 ⊢
    obtain ⟨es1, t1, wasDummy, gave⟩ := Z
    dsimp only at pm hf1 hr1 hl1 ⊢
    rw [Array.toList_push] at pm
    have pc : es1.toList.Perm (((PySem.strKind P w).hash k, Value.str k tk) :: es.toList) := pm.trans (List.perm_append_singleton _ _)
    have pk : (es1.toList.map keyS).Perm (k :: es.toList.map keyS) := pc.map keyS
    have g1 : ∀ e ∈ es1.toList, GoodS w e := fun e he => by
      rcases List.mem_cons.mp (pc.mem_iff.mp he) with z | z
      · rw [z]; exact ⟨k, tk, rfl, rfl⟩
      · exact g e z
    have nd1 : (es1.toList.map keyS).Nodup := pk.nodup_iff.mpr (List.nodup_cons.mpr ⟨hnk, nd⟩)
    have m1 : ∀ i, (S i || decide (i = k)) = true ↔ i ∈ es1.toList.map keyS := fun i => by
      rw [Bool.or_eq_true, decide_eq_true_eq, hm i, pk.mem_iff, List.mem_cons]
      exact Or.comm
    have hsz : es1.size = n + 1 := by rw [← Array.length_toList, pc.length_eq, List.length_cons, Array.length_toList, hn]
    have hb1 : es1.size < scanBound := by rw [hsz]; exact room
    have hled : w.params.followText "set-order" = true ∨ t1.led = true := hl.imp id fun z => by rw [hl1]; exact z
    have fin : ∀ h', Heap.SameBut a s.heap h' → SRS w h' a (fun j => S j || decide (j = k)) es1.size → Q true { s with heap := h' } := fun h' sb r => by
      have q := hQ h' sb
      rw [hSk] at q
      rw [hsz] at r
      exact q r
    refine wpAny_bind (hgw _ ?_)
    split
    · refine wpAny_bind ?_
      rw [hashByValue_scannable 8 hsc]
      refine wpAny_pure ?_
      refine srs_add_tail ?_ ho hex hd g1 nd1 m1 hb1 ?_ ?_ ?_ ?_
      · intro b s₁ Q' q; cases b <;> first | exact wpAny_pure q | exact wpAny_rule q
      · first | (split <;> first | exact hf1 | exact SetTable.fits_plain_off hf1) | exact hf1
      · first | (split <;> exact hr1) | exact hr1
      · first | (split <;> exact hled) | exact hled
      · intro h' sb r; dsimp only; exact wpAny_pure (fin h' sb r)
    · refine wpAny_bind (wpAny_pure ?_)
      simp only [↓reduceIte]
      refine srs_add_tail ?_ ho hex hd g1 nd1 m1 hb1 hf1 hr1 hled ?_
      · intro b s₁ Q' q; cases b <;> first | exact wpAny_pure q | exact wpAny_rule q
      · intro h' sb r; dsimp only; exact wpAny_pure (fin h' sb r)
/-! ### set([..]) of texts -/
theorem code_set_led1 (b : Value) {Q₁ : Value → Shared → Prop}
    (h : Q₁ (.ref s.heap.objs.size) { s with heap := s.heap.push { cls := .type "set", dict := none, data := .set #[] 0 (.fresh 0 0 (!w.params.followText "set-order")) } }) :
    codeAny (model P w) A (.call (.builtin "set.__new__") ⟨[.type "set", b], []⟩) (wants Q₁ E) s := by
  refine codeAny_of_tree ?_
  show wpAny _ A.in1 (do checkBuiltinCall "set.__new__" ⟨[.type "set", b], []⟩; again (.builtin "set.__new__" ⟨[.type "set", b], []⟩)) _ _ s
  refine wpAny_bind (wpAny_of_eq (PySem.F.newCall_set_1 b) (wpAny_pure ⟨plainId_quiet PySem.F.plain_set_new _, codeAny_builtin PySem.F.entry_set_new ?_⟩))
  rw [Around.under_plainId PySem.F.plain_set_new _]
  unfold Builtin.«set.__new__» Builtin.Frozenset.newClass
  have hsub := sub_set_self
  obtain ⟨hp, g, d, tk, os⟩ := s
  dsimp only
  wp_walk
  refine wpAny_askSetting (wpAny_pure ?_)
  dsimp only
  simp only [newObj]
  refine wpAny_bind (wpAny_alloc (wpAny_pure ?_))
  exact wpAny_pure h
theorem srs_fresh {h : Heap} (w : World) : SRS w (h.push { cls := .type "set", dict := none, data := .set #[] 0 (.fresh 0 0 (!w.params.followText "set-order")) }) h.objs.size (fun _ => false) 0 :=
  ⟨_, #[], 0, _, Heap.get?_push_size _ rfl, ⟨rfl, rfl, rfl⟩, rfl, (fun e he => by simp at he), (by simp), (fun k => by simp), (by decide), (by rfl), rfl, List.Pairwise.nil, by
    show _ ∨ (!w.params.followText "set-order") = true
    cases w.params.followText "set-order"
    · exact .inr rfl
    · exact .inl rfl⟩
/-- the members after i items -/
def SAt (w : World) (h : Heap) (a : Addr) (ks : List Str) : Prop := ∃ S n, SRS w h a S n ∧ n ≤ ks.length ∧ ∀ k, S k = true ↔ k ∈ ks
end
section
variable {prog : Program} {w : World} {A : Around} {R : Result → Shared → Prop} {I : Addr} {fp wr : List Addr} {G : Array GenState → Array GenState → Prop} {n : Nat} {P : Nat → Value → Prop} {St : Nat → Shared → Prop}
theorem set_loop_txt (W : WalksS prog w A.in1 I fp wr G n P St) (S : Addr) (hSf : S ∉ fp)
    (val : Nat → Str) (hval : ∀ i v, P i v → ∃ t, v = .str (val i) t) (hb : n + 1 < scanBound) :
    ∀ (k i : Nat) (s : Shared), n - i = k → i ≤ n → St i s → SAt w s.heap S ((List.range i).map val) →
      (∀ s', Moved (S :: wr) G s s' → SAt w s'.heap S ((List.range n).map val) → R (.ok (.ret .none)) s') →
      codeAny (model prog w) A (.builtin "set.update.loop" ⟨[.ref S, .ref I], []⟩) R s := by
  have hSw : S ∉ wr := fun h => hSf (W.sub _ h)
  have hsub : ∀ b ∈ wr, b ∈ S :: wr := fun b hb => List.mem_cons_of_mem _ hb
  intro k
  induction k with
  | zero =>
    intro i s hk hi hst hS hR
    have hin : i = n := by omega
    subst hin
    refine codeAny_builtin PyProof.Rows.F.entry_set_update_loop ?_
    rw [Around.under_plainId PyProof.Rows.F.plain_set_update_loop _]
    show wpAny _ A.in1 (pyNext (.ref I) >>= _) _ _ s
    refine wpAny_bind (W.done s _ _ hst fun s' hm => ?_)
    show wpAny _ A.in1 (ret Value.none) _ _ s'
    obtain ⟨S0, m, hs, hm1, hm2⟩ := hS
    exact wpAny_pure (hR s' (hm.mono hsub) ⟨S0, m, hs.at fun o e => hm.heap S _ hSw e, hm1, hm2⟩)
  | succ k ih =>
    intro i s hk hi hst hS hR
    have hlt : i < n := by omega
    refine codeAny_builtin PyProof.Rows.F.entry_set_update_loop ?_
    rw [Around.under_plainId PyProof.Rows.F.plain_set_update_loop _]
    show wpAny _ A.in1 (pyNext (.ref I) >>= _) _ _ s
    refine wpAny_bind (W.item i s _ _ hlt hst fun v s' hP hst' hm => ?_)
    obtain ⟨t, rfl⟩ := hval i v hP
    obtain ⟨S0, m, hs, hm1, hm2⟩ := hS
    have hs' : SRS w s'.heap S S0 m := hs.at fun o e => hm.heap S _ hSw e
    rw [List.length_map, List.length_range] at hm1
    show wpAny _ A.in1 (holding [Value.str (val i) t] (setAdd S (.str (val i) t)) >>= _) _ _ s'
    refine wpAny_bind (wpAny_holding ?_)
    unfold setAdd
    refine wpAny_holding ?_
    refine wpAny_bind ((PySem.strKind prog w).pyHash (k := val i) (strKind_is _ _ _ _) ?_)
    refine srs_add_hashed (P := prog) (s := { s' with toks := s'.toks + 1 }) hs' (by omega) fun h' hsb hS2 => ?_
    have hSi : SAt w h' S ((List.range (i + 1)).map val) := ⟨_, _, hS2, by rw [List.length_map, List.length_range]; split <;> omega, fun k' => by
      rw [Bool.or_eq_true, decide_eq_true_eq, hm2 k', List.range_succ, List.map_append, List.mem_append, List.map_cons, List.map_nil, List.mem_singleton]⟩
    refine wpAny_pure ⟨plainId_quiet PyProof.Rows.F.plain_set_update_loop _, ih (i + 1) _ (by omega) hlt (W.frame _ s' _ _ hst' (Nat.le_succ _) fun b hb o e => ?_) hSi fun s'' hm'' hS'' => ?_⟩
    · rw [hsb.2 b (fun h : b = S => hSf (by rw [← h]; exact hb))]; exact e
    · refine hR s'' (Moved.trans W.gtrans ((hm.mono hsub).then_heap (Nat.le_succ _) fun b o hb e => ?_) hm'') hS''
      rw [hsb.2 b (fun h : b = S => hb (by rw [h]; exact List.mem_cons_self))]; exact e
end
theorem strs_at : ∀ {vs : List Value} {ns : List Str}, StrsAre vs ns → ∀ (i : Nat) (v : Value), vs[i]? = some v → ∃ t, v = .str (ns.getD i ⟨#[]⟩) t
  | _, _, .nil, i, v, h => by simp at h
  | _, _, .cons n t hr, 0, v, h => by simp at h; exact ⟨t, by rw [← h]; rfl⟩
  | _, _, .cons n t hr, i + 1, v, h => by
    simp only [List.getElem?_cons_succ] at h
    obtain ⟨t', e⟩ := strs_at hr i v h
    exact ⟨t', by rw [e]; rfl⟩
theorem range_getD {α : Type} (d : α) (l : List α) : (List.range l.length).map (fun i => l.getD i d) = l := by
  apply List.ext_getElem
  · simp
  · intro i h1 h2
    simp [List.getElem?_eq_getElem h2]
section
variable {prog : Program} {w : World} {A : Around} {E : Value → Shared → Prop} {s : Shared}
set_option maxHeartbeats 6400000 in
theorem call_set_txt {l : Addr} {items : Array Value} {ns : List Str} {Q : Value → Shared → Prop}
    (hh : A.handled = none) (hl : s.heap.IsList l items) (hi : StrsAre items.toList ns) (hb : items.size + 1 < scanBound)
    (h : ∀ (h' : Heap) (tk : Nat), SAt w h' s.heap.objs.size ns → (∀ b o, b < s.heap.objs.size → s.heap.get? b = some o → h'.get? b = some o) → Q (.ref s.heap.objs.size) { s with heap := h', toks := tk }) :
    wpAny (model prog w) A (call (.type "set") [.ref l]) Q E s := by
  have hln : ns.length = items.size := by rw [← Array.length_toList]; exact (Vals.length (vals_of_strs hi)).symm ▸ (by rw [List.length_map])
  obtain ⟨c, tl, hmro⟩ := PySem.F.called_set.mro
  have hmade := PySem.F.called_set.made
  have hsub := PySem.F.called_set.sub
  refine wpAny_call (codeAny_of_tree ?_)
  show wpAny _ _ (callAny (.type "set") _) _ _ _
  refine wpAny_pure ⟨Code.quiet_builtin _ (by decide +kernel), codeAny_builtin PySem.F.entry_type_call ?_⟩
  rw [Around.under_plain (weight_type_call_type "set" [.ref l] []) rfl]
  have h1 := PySem.F.called_set.notType
  have h2 := PySem.F.called_set.canCreate
  have hct := PySem.F.typeCall_set_1 (.ref l)
  repeat (any_goals (first | assumption | wp_step))
  refine codeAny_mono (code_set_led1 (.ref l) (P := prog) (E := E) (Q₁ := fun obj s₁ => obj = .ref s.heap.objs.size ∧ s₁ = { s with heap := s.heap.push { cls := .type "set", dict := none, data := .set #[] 0 (.fresh 0 0 (!w.params.followText "set-order")) } }) ⟨rfl, rfl⟩) fun r s₁ hr => ?_
  cases r with
  | error e => exact hr
  | ok fl =>
    cases fl with
    | ret obj =>
      obtain ⟨rfl, rfl⟩ := hr
      have hfr := srs_fresh (h := s.heap) w
      revert hfr
      generalize (!w.params.followText "set-order") = led
      intro hfr
      have hS : (s.heap.push { cls := .type "set", dict := none, data := .set #[] 0 (.fresh 0 0 led) }).get? s.heap.objs.size = some { cls := .type "set", dict := none, data := .set #[] 0 (.fresh 0 0 led) } := Heap.get?_push_size _ rfl
      have hT : Shared.TypeIs { s with heap := s.heap.push { cls := .type "set", dict := none, data := .set #[] 0 (.fresh 0 0 led) } } (.ref s.heap.objs.size) "set" := ⟨_, hS, rfl⟩
      have hli := PySem.F.called_set.init.lookup
      have hbi := PySem.F.called_set.init.bind (.ref s.heap.objs.size)
      repeat (any_goals (first | assumption | wp_step))
      refine codeAny_mono (codeAny_call_builtin (R := wants (fun r s₂ => r = .none ∧ ∃ h' tk, s₂ = { s with heap := h', toks := tk } ∧ SAt w h' s.heap.objs.size ns ∧
          (∀ b o, b < s.heap.objs.size → s.heap.get? b = some o → h'.get? b = some o)) E) PySem.F.called_set.init.plain PySem.F.entry_set_init (check_set_init_1 hT ?_)) fun r₂ s₂ hr₂ => ?_
      · obtain ⟨ol, hol, hcl, nl, hdl⟩ := hl
        obtain ⟨ocls, odict, odata, oslots⟩ := ol
        simp only at hcl hdl
        subst hcl; subst hdl
        have hol' : (s.heap.push { cls := .type "set", dict := none, data := .set #[] 0 (.fresh 0 0 led) }).get? l = some { cls := .type "list", dict := odict, data := .seq items nl, slots := oslots } := Heap.get?_push_of_some _ hol
        have hsls := PySem.F.sub_list_set
        have hslf := PySem.F.sub_list_frozenset
        have hne : (Value.type "list" == Value.type "dict") = false := by decide
        have hl1 : (s.heap.push { cls := .type "set", dict := none, data := .set #[] 0 (.fresh 0 0 led) }).IsList l items := ⟨_, hol', rfl, nl, rfl⟩
        unfold Builtin.«set.__init__» noKeywords Builtin.Frozenset.updateFrom
        generalize hPI : pyIter = PI
        wp_walk
        subst hPI
        refine wpAny_pyIter_list hl1 ?_
        refine wpAny_bind (wpAny_runValue ?_)
        have hlS : l < s.heap.objs.size := Heap.lt_size hol
        have hh3 : A.in1.in1.in1.handled = none := by simp [hh]
        have hneI : l ≠ (s.heap.push { cls := .type "set", dict := none, data := .set #[] 0 (.fresh 0 0 led) }).objs.size := by
          rw [Heap.size_push]; exact Nat.ne_of_lt (Nat.lt_succ_of_lt hlS)
        have hSf : s.heap.objs.size ∉ [(s.heap.push { cls := .type "set", dict := none, data := .set #[] 0 (.fresh 0 0 led) }).objs.size, l] := by
          rw [Heap.size_push]; simp only [List.mem_cons, List.mem_singleton, List.not_mem_nil, or_false, not_or]
          exact ⟨Nat.ne_of_lt (Nat.lt_succ_self _), Nat.ne_of_gt hlS⟩
        have hval : ∀ (i : Nat) (v : Value), items[i]? = some v → ∃ t, v = .str ((fun i => ns.getD i ⟨#[]⟩) i) t := fun i v hv => strs_at hi i v (by rw [Array.getElem?_toList]; exact hv)
        refine set_loop_txt ((Walks.list hh3 _ l hneI items).toS) s.heap.objs.size
          hSf (fun i => ns.getD i ⟨#[]⟩) hval hb (items.size - 0) 0 _ (by omega) (Nat.zero_le _)
          ⟨⟨_, Heap.get?_push_size _ rfl, rfl, rfl⟩, (hl1.push _)⟩ ?hS0 ?hR
        case hS0 =>
          exact ⟨_, 0, hfr.at fun o e => Heap.get?_push_of_some _ e, Nat.zero_le _, fun k => by simp⟩
        case hR =>
          intro s' hm hS'
          obtain ⟨h', g', d', tk', os'⟩ := s'
          have eg : g' = s.gens := hm.gens
          have ed : d' = s.drawn := hm.drawn
          have eo : os' = s.os := hm.os
          subst eg; subst ed; subst eo
          rw [← hln, range_getD] at hS'
          show wpAny _ _ _ _ _ _
          refine wpAny_pure ?_
          show wpAny _ _ (ret Value.none) _ _ _
          refine wpAny_pure ⟨rfl, h', tk', rfl, hS', fun b o hb e => ?_⟩
          have hb1 : b ≠ s.heap.objs.size := Nat.ne_of_lt hb
          have hb2 : b ≠ (s.heap.push { cls := .type "set", dict := none, data := .set #[] 0 (.fresh 0 0 led) }).objs.size := by
            rw [Heap.size_push]; exact Nat.ne_of_lt (Nat.lt_succ_of_lt hb)
          exact hm.heap b o (by simp only [List.mem_cons, List.mem_singleton, List.not_mem_nil, or_false, not_or]; exact ⟨hb1, hb2⟩) (Heap.get?_push_of_some _ (Heap.get?_push_of_some _ e))
      · cases r₂ with
        | error e => exact hr₂
        | ok fl₂ =>
          cases fl₂ with
          | ret r =>
            obtain ⟨rfl, h', tk, rfl, hS', hk'⟩ := hr₂
            repeat (any_goals (first | assumption | wp_step))
            exact h _ _ hS' hk'
          | _ => exact hr₂.elim
    | _ => exact hr.elim
/-- sorted(a set of texts) -/
theorem sorted_set_txt {a : Addr} {S : Str → Bool} {n : Nat} {Q : Value → Shared → Prop} (R : SRS w s.heap a S n) (hh : A.handled = none) (h64 : n < 64)
    (hQ : ∀ s' p (out : Array Value) (c : Nat) (ns : List Str), (∀ b o, s.heap.get? b = some o → s'.heap.get? b = some o) → s'.gens = s.gens → s'.os = s.os → s.heap.objs.size ≤ p →
      s'.heap.get? p = some (seqObj "list" out c) → StrsAre out.toList ns → sortedS ns = true → ns.Nodup → (∀ k, k ∈ ns ↔ S k = true) → ns.length = n → Q (.ref p) s') :
    wpAny (model prog w) A (call (.builtin "sorted") [.ref a]) Q E s := by
  obtain ⟨o, es, ep, t, ho, hex, hd, g, nd, hm, hb, hf, hn, hr, hl⟩ := R
  refine Calls.call_function_entry kind_sorted plain_sorted entry_sorted (args_sorted1 _) ?_
  unfold Builtin.«sorted»
  refine wpAny_bind (m := checkCount "sorted" 1 1 _) (wpAny_pure ?_)
  refine wpAny_bind (collect_set (A := A.in1) hh ⟨o, ho, hex.1, hd⟩ hf hb hr hl fun s1 vs k1 hz g1 o1 pm => ?_)
  have hvl : vs.length = n := by rw [pm.length_eq, List.length_map, Array.length_toList]; exact hn
  have hI : StrsAre vs (vs.map strOf) := strsAre_map vs fun v hv => by
    obtain ⟨e, he, q⟩ := List.mem_map.mp (pm.mem_iff.mp hv)
    obtain ⟨k, tk, h1, _⟩ := g e he
    exact ⟨k, tk, by rw [← q]; exact h1⟩
  have pk : (vs.map strOf).Perm (es.toList.map keyS) := by
    have q := pm.map strOf
    rw [List.map_map] at q
    have e2 : es.toList.map (strOf ∘ fun x => x.2) = es.toList.map keyS := List.map_congr_left fun e he => by
      obtain ⟨k, tk, h1, _⟩ := g e he
      show strOf e.2 = keyS e
      unfold keyS
      rw [h1]; rfl
    rw [e2] at q
    exact q
  refine wpAny_bind (wpAny_newList ?_ (by rw [hvl, sizeLine_eq]; omega))
  have hoL : (s1.heap.push (seqObj "list" vs.toArray 0)).get? s1.heap.objs.size = some (seqObj "list" vs.toArray 0) := Heap.get?_push_size _ rfl
  refine wpAny_bind (wpAny_holding (wpAny_call_entry slot_list_sort ⟨_, hoL, rfl⟩ entry_list_sort (list_sort_treeK strKind_oneLt hoL hI.keysOf (fun v₁ v₂ rest e => keyKind_strs (by rw [← e]; exact hI)) (by rw [hvl]; exact h64) fun st' hp hs => ⟨_, rfl, ?_⟩) (args_list_sort _)))
  obtain ⟨ns', a1, a2, a3⟩ := sorted_out_str hI hp hs
  generalize ((arrOf st').map (·.2)) = out at a1 ⊢
  obtain ⟨c, hc⟩ := sortedHeap_at (vs := vs) (out := out) hoL
  have pn : ns'.Perm (es.toList.map keyS) := a2.trans pk
  refine wpAny_pure ⟨_, rfl, hQ _ s1.heap.objs.size out c ns' (fun b u e => ?_) g1 o1 hz hc a1 a3 (pn.nodup_iff.mpr nd) (fun k => by rw [pn.mem_iff, ← hm k]) ?_⟩
  · have q := k1 b u e
    have hlt := Heap.lt_size q
    show (sortedHeap (s1.heap.push (seqObj "list" vs.toArray 0)) s1.heap.objs.size vs out).get? b = some u
    rw [sortedHeap_old (Nat.ne_of_lt hlt) (by rw [size_push']; exact Nat.lt_succ_of_lt hlt)]
    exact Heap.get?_push_of_some _ q
  · rw [pn.length_eq, List.length_map, Array.length_toList]; exact hn
end
end Tw
/-! Triesgrow, rules of our own: set and sorted of texts as calls; setdefault by tuple keys; len of a dict by tuple keys; {tuple: True} -/
namespace Tw
open PySem PySem.Spec PyProof.Rows L2 Tg LamX
def StO (w : World) (p : Addr) (ks : List Str) : HO := .ext fun h => SAt w h p ks
section
variable {X : Cx}
theorem cr_setTx (hc : X.calm = true) : CallR X (.type "set") (fun xs H Q => ∃ (a : Addr) (ks : List Str), xs = [.ref a] ∧ SqL X.K H a (ks.map V.str) ∧ ks.length + 1 < 4096 ∧ ∀ p, H p = none → Q (.ref p) (upd H p (StO X.w p ks))) := by
  intro pins s σ H vs us Q I r h
  obtain ⟨a, ks, rfl, hs, hl, q⟩ := h
  obtain ⟨its, rv, hp, _⟩ := I.list hs
  rw [Vals.ref1 r]
  have hlen := rv.length
  rw [List.length_map] at hlen
  refine call_set_txt (I.ok.hd hc) hp.isList (by simpa using rv.strs) (by rw [List.size_toArray, ← hlen]; exact hl) fun h' tk hS hk => ?_
  have hk' : ∀ b o, s.heap.get? b = some o → h'.get? b = some o := fun b o e => hk b o (Heap.lt_size e) e
  obtain ⟨S0, m, hs0, hm1, hm2⟩ := id hS
  obtain ⟨o, es, ep, t, ho, _⟩ := id hs0
  exact ⟨.ref s.heap.objs.size, _, I.laid (a := s.heap.objs.size) (o := StO X.w s.heap.objs.size ks) (t' := tk) hk' (Nat.le_refl _) ⟨hS, ⟨o, ho⟩, fun h1 h2 ⟨S, n, a, b, c⟩ st => ⟨S, n, a.at st, b, c⟩⟩, rfl, q _ (I.hok.fresh (Nat.le_refl _))⟩
theorem cr_sortedTx (hc : X.calm = true) : CallR X (.builtin "sorted") (fun xs H Q => ∃ (p : Addr) (ks l : List Str), xs = [.ref p] ∧ H p = some (StO X.w p ks) ∧ l.length < 64 ∧ (∀ k ∈ ks, k ∈ l) ∧
    ∀ (ys : List Str) (q : Addr), sortedS ys = true → ys.Nodup → (∀ k, k ∈ ys ↔ k ∈ ks) → H q = none → Q (.ref q) (upd H q (.lst (ys.map V.str)))) := by
  intro pins s σ H vs us Q I r h
  obtain ⟨p, ks, l, rfl, hp, hl, hin, q⟩ := h
  rw [Vals.ref1 r]
  obtain ⟨⟨S, n, hS, hn, hm⟩, _, _⟩ := I.hok p _ hp
  have h64 : n < 64 := by
    obtain ⟨o, es, ep, t, ho, hx, hd, g, nd, hm2, hb, hf, hn2, _⟩ := hS
    have : (es.toList.map keyS).length ≤ l.length := nodup_len nd fun k hk => hin k ((hm k).mp ((hm2 k).mpr hk))
    rw [List.length_map, Array.length_toList] at this
    omega
  refine sorted_set_txt hS (I.ok.hd hc) h64 fun s' d out c ns k1 g1 o1 hz hd hS2 h1 h2 h3 h4 => ?_
  have hlen : (ns.map V.str).length ≤ sizeLine := by rw [List.length_map, h4]; exact small64 h64
  have nD : H d = none := I.hok.fresh hz
  have J : Inv X pins σ (upd H d (.lst (ns.map V.str))) { s with heap := s'.heap, gens := s'.gens, drawn := s'.drawn, toks := s'.toks } :=
    I.call (ch := []) (Un.laid k1 hz nD) (I.hok.laid k1 hz ⟨hlen, out.toList, c, vals_of_strs hS2, hd⟩) (by rw [g1]; exact I.bare) (fun _ z => nomatch z)
  have e : s' = { s with heap := s'.heap, gens := s'.gens, drawn := s'.drawn, toks := s'.toks } := by
    cases s'
    cases s
    cases o1
    rfl
  rw [e]
  exact ⟨.ref d, _, J, rfl, q ns d h1 h2 (fun k => (h3 k).trans (hm k)) nD⟩
/-- d.setdefault(a tuple, z) -/
def tDSetdT (td ty tx : TE) : TE := fun σ H Q => td σ H fun x H1 => ∃ a, x = .ref a ∧ IsD H1 a ∧ ty σ H1 fun y H2 => tx σ H2 fun z H3 => ∃ (kvs : List (List Key × V)) (k : List Key) (b : Addr), H3 a = some (.dT kvs) ∧ y = .ref b ∧ H3 b = some (.tup (k.map kV)) ∧ kvs.length < sizeLine ∧
  (∀ v, valV kvs k = some v → Q v H3) ∧ (valV kvs k = none → Q z (upd H3 a (.dT (putK kvs k z))))
theorem pe_dsetdT {o e f : Expr} {td ty tx : TE} {apos cpos : Pos} (hu : X.A.units + 1 < cLine) (ho : PE X o td) (he : PE X e ty) (hf : PE X f tx) (m : M2 X o "setdefault" apos e f cpos) : PE X (.Call (.Attribute o "setdefault" apos) [e, f] [] cpos) (tDSetdT td ty tx) := by
  refine ⟨fun pins s σ H Q I h => ?_⟩
  refine wpAny_Call_method m.base m.few m.line PySem.F.plainAttrs_dict PySem.F.slot_dict_setdefault PySem.F.type_dict_setdefault (thn (ho.run pins s σ H _ I h) fun u s1 ⟨x, H1, I1, rx, a, ex, d, q1⟩ => ?_)
  subst ex
  obtain rfl : u = Value.ref a := rx
  obtain ⟨t1, t2, _⟩ := isD_at I1 d
  refine ⟨t1, t2, ?_⟩
  rw [m.trees]
  refine Calls.callWith_builtin rfl (Calls.evalArgs_plain (Calls.spliced_cons (thn (he.run pins s1 σ H1 _ I1 q1) fun iv s2 ⟨y, H2, I2, ry, q2⟩ =>
    Calls.spliced_cons (thn (hf.run pins s2 σ H2 _ I2 q2) fun fv s3 ⟨z, H3, I3, rz, kvs, k, b, ea, ey, eb, hl, q3, q4⟩ => Calls.spliced_nil ?_))))
  subst ey
  obtain rfl : iv = Value.ref b := ry
  obtain ⟨z0, hd, xs, rel, dd⟩ := dt_of I3.hok ea
  have hz : xs.length ≤ sizeLine := by rw [← Paired.length rel]; exact z0
  refine call_setdefault_heap (hsz := hz) (tupleKind_room_in1 hu) (key_of I3.hok eb) hd dd (fun p hp => ?_) fun hn h' dd' hs => ?_
  · have q := rel.val k
    rw [hp] at q
    cases q0 : valV kvs k with
    | none =>
      rw [q0] at q
      exact (show False from q).elim
    | some v0 =>
      rw [q0] at q
      exact ⟨v0, _, I3.tok _, q, q3 v0 q0⟩
  · have q := rel.val k
    rw [hn] at q
    cases q0 : valV kvs k with
    | some v0 =>
      rw [q0] at q
      exact (show False from q).elim
    | none =>
      have hl2 : (putK kvs k z).length ≤ sizeLine := by
        have := length_putK kvs k z
        omega
      obtain ⟨q, es, ep, hq, h2, h3, h4, _, h5⟩ := dd'
      refine ⟨z, _, d_write (ob := .dT (putK kvs k z)) I3 (by rw [ea]; exact True.intro) hs ⟨q, hq⟩ ⟨hl2, hd, _, (rel.put k eb rz).keeps fun c ys ec => ?_, q, es, ep, hq, h2, h3, h4, h5⟩, rz, q4 q0⟩
      rw [upd_ne (ne_of ec ea (fun z => nomatch z))]
      exact ec
/-- {a tuple: v} -/
def tDispT1 (tk tv : TE) : TE := fun σ H Q => ∀ p, H p = none → tk σ (upd H p (.dT [])) fun x H2 => tv σ H2 fun y H3 => ∃ (k : List Key) (b : Addr), H3 p = some (.dT []) ∧ x = .ref b ∧ H3 b = some (.tup (k.map kV)) ∧ Q (.ref p) (upd H3 p (.dT (putK [] k y)))
theorem pe_dispT1 {k v : Expr} {pos : Pos} {tk tv : TE} (hu : X.A.units + 1 < cLine) (hk : PE X k tk) (hv : PE X v tv) : PE X (.Dict [some k] [v] pos) (tDispT1 tk tv) := by
  refine ⟨fun pins s σ H Q I q => ?_⟩
  have hn := I.hok.fresh (Nat.le_refl s.heap.objs.size)
  have I1 := I.laid (a := s.heap.objs.size) (o := .dT []) (h' := s.heap.push { cls := .type "dict", data := .dict #[] }) (t' := s.toks) (fun _ _ q => Heap.get?_push_of_some _ q) (Nat.le_refl _) (dt_empty s.heap I.big)
  rw [PySem.arm_eval_Dict, zip_pairTrees [some k] [v] X.env pos rfl rfl, PySem.dictDisplay_pairs (pairTrees [some k] [v] X.env pos) (by simp [pairTrees]) (by simp [pairTrees])]
  refine wpAny_bind (wpAny_standAt (wpAny_bind (wpAny_subDictH (knd := tupleKind (mixKind X.prog X.w)) (Nat.lt_of_le_of_lt (Nat.le_succ _) hu) (by simp [pairTrees]) ?_)))
  refine pairTrees_cons_walk (thn (hk.run pins _ σ _ _ I1 (q _ hn)) fun u s1 ⟨x, H1, I2, rx, q1⟩ => thn (hv.run pins s1 σ H1 _ I2 q1) fun w2 s2 ⟨y, H3, I3, ry, kk, b, e, ex, eb, q2⟩ => pairTrees_nil_walk ?_)
  subst ex
  obtain rfl : u = Value.ref b := rx
  obtain ⟨z, hd, xs, rel, dd⟩ := dt_of I3.hok e
  cases rel
  refine ⟨[(kk, b, w2)], ⟨rfl, rfl, key_of I3.hok eb, trivial⟩, dd, fun h' tk dd' hs => wpAny_pure ?_⟩
  have r2 := KT.put (H := H3) (kvs := []) (xs := []) .nil kk eb ry
  obtain ⟨qo, es, ep, hq, h2, h3, h4, _, h5⟩ := dd'
  refine ⟨.ref s.heap.objs.size, _, d_write (ob := .dT (putK [] kk y)) I3 (by rw [e]; exact True.intro) hs ⟨qo, hq⟩ ⟨?_, hd, _, r2.keeps fun c ys ec => ?_, qo, es, ep, hq, h2, h3, h4, h5⟩, rfl, q2⟩
  · have := length_putK ([] : List (List Key × V)) kk y
    exact len_le (by simp at this; omega)
  · rw [upd_ne (ne_of ec e (fun z => nomatch z))]
    exact ec
end
end Tw
/-! Triesgrow: signs and tables -/
namespace Tw
open PySem PySem.Spec L2 Tg NdefX LamX PyProof.Rows
open scoped Classical
theorem lt_sg {a b : Nat} : ltCps (sg a).cps.toList (sg b).cps.toList = decide (a < b) := by
  rw [PyProof.Rows.ltCps_eq]
  show decide ([a] < [b]) = _
  rw [decide_eq_decide]
  constructor
  · intro h
    cases h with
    | rel h => exact h
    | cons h => cases h
  · intro h; exact .rel h
theorem rising_le : ∀ {cs : List Nat} {a : Nat}, risingS (sg a) (cs.map sg) = true → (∀ c ∈ cs, a ≤ c) ∧ cs.Pairwise (· ≤ ·)
  | [], _, _ => ⟨fun _ h => (by cases h), .nil⟩
  | c :: cs, a, h => by
    rw [List.map_cons, risingS, lt_sg, Bool.and_eq_true, Bool.not_eq_true', decide_eq_false_iff_not] at h
    obtain ⟨h1, h2⟩ := h
    obtain ⟨h3, h4⟩ := rising_le h2
    refine ⟨fun d hd => ?_, List.pairwise_cons.mpr ⟨h3, h4⟩⟩
    rcases List.mem_cons.mp hd with rfl | hd
    · omega
    · have := h3 d hd; omega
theorem sorted_sg {cs : List Nat} (h : sortedS (cs.map sg) = true) (nd : (cs.map sg).Nodup) : cs.Pairwise (· < ·) := by
  have hle : cs.Pairwise (· ≤ ·) := by
    cases cs with
    | nil => exact .nil
    | cons c cs =>
      obtain ⟨h1, h2⟩ := rising_le (show risingS (sg c) (cs.map sg) = true from h)
      exact List.pairwise_cons.mpr ⟨h1, h2⟩
  have hne : cs.Pairwise (· ≠ ·) := by
    have := List.pairwise_map.mp nd
    exact this.imp fun h z => h (by rw [z])
  have := hle.and hne
  exact this.imp fun ⟨a, b⟩ => by omega
def keyT (x : Int) (a : Nat) : List Key := [.inl x, .inr (sg a)]
theorem keyT_inj {x y : Int} {a b : Nat} (h : keyT x a = keyT y b) : x = y ∧ a = b := by
  simp only [keyT, List.cons.injEq, Sum.inl.injEq, Sum.inr.injEq, and_true] at h
  exact ⟨h.1, sg_inj h.2⟩
/-- the table tells where the steps lead -/
def TabOk (H : Hp) (kvs : List (List Key × V)) (S : List (Int × Nat × Int)) : Prop := ∀ (x : Int) (a : Nat), (valV kvs (keyT x a) = none ∧ tos S x a = []) ∨ ∃ l, valV kvs (keyT x a) = some (.ref l) ∧ H l = some (.lst ((tos S x a).map V.int))
theorem TabOk.mono {T : List NTab} {H H' : Hp} {kvs : List (List Key × V)} {S : List (Int × Nat × Int)} (e : Xt T H H') (h : TabOk H kvs S) : TabOk H' kvs S := fun x a => (h x a).imp id fun ⟨l, h1, h2⟩ => ⟨l, h1, e.lst h2⟩
theorem tos_snoc {S : List (Int × Nat × Int)} {s : Int × Nat × Int} {x : Int} {a : Nat} : tos (S ++ [s]) x a = tos S x a ++ if s.1 = x ∧ s.2.1 = a then [s.2.2] else [] := by
  unfold tos
  rw [List.filter_append, List.map_append]
  congr 1
  by_cases h : s.1 = x ∧ s.2.1 = a
  · rw [if_pos h]; simp [h]
  · rw [if_neg h]; simp [h]
structure TabIn (H0 H : Hp) (d : Addr) (kvs : List (List Key × V)) (S : List (Int × Nat × Int)) : Prop where
  ok : TabOk H kvs S
  refs : ∀ k v, valV kvs k = some v → ∃ l, v = .ref l ∧ H0 l = none ∧ l ≠ d ∧ ∃ xs, H l = some (.lst xs)
  inj : ∀ k1 k2 l, valV kvs k1 = some (.ref l) → valV kvs k2 = some (.ref l) → k1 = k2
def sp_signs_of (T : List NTab) : Sp := fun vs H Q _ => ∃ (v : V) (M : Mac), vs = [v] ∧ Rp H v (mD M) ∧ Good M ∧ Ret T H Q fun v H' => ∃ p cs, v = .ref p ∧ H' p = some (.lst (cs.map fun c => V.str (sg c))) ∧ cs.Pairwise (· < ·) ∧ (∀ c, c ∈ cs ↔ ∃ x y, (x, c, y) ∈ M.S) ∧ LetOk cs
def sp_by_signs (T : List NTab) : Sp := fun vs H Q _ => ∃ (v : V) (M : Mac), vs = [v] ∧ Rp H v (mD M) ∧ Good M ∧ Ret T H Q fun v H' => ∃ d kvs, v = .ref d ∧ H' d = some (.dT kvs) ∧ TabOk H' kvs M.S
section
variable {P : Program} {w : World} {K : PySem.W.Frag} {mg : Str → Option Value} {base : Heap}
theorem ok_signs_of (T : Txt K mg) : FnOk P w K mg base CX0 1 T.signs_of.f T.signs_of.fd P_signs_of (sp_signs_of T.Ts) := by
  refine T.signs_of.F.ok sc_signs_of (fun vs H Q E h => ?_) (fun cdv A outer s H vs Q E hr h => ⟨_, (pss_one (ps_ret (pe_callB (cr_sortedTx rfl) (by rfl) T.n_sorted (by decide +kernel) (pa_cons (pe_callTy (cr_setTx rfl) (by rfl) T.n_set (by decide +kernel) (pa_cons (pe_lc (own := [("room", 1), ("sign", 2), ("to", 3)]) (by rfl) sc_signs_of.nd (pi_list (pe_ix ix_tup (pv 0) pe_int (fun _ _ => rfl))) (blkOk_by (own := [("room", 1), ("sign", 2), ("to", 3)]) (N := N_signs_of) (sc := defScope s_signs_of) (by decide +kernel)) (fun _ _ _ _ _ => (pg_tupC (K := K) (n := 3) rfl rfl (pgs_cons (pg_name (i := 1) sc_signs_of.nd rfl (Or.inl rfl) (Or.inr rfl)) (pgs_cons (pg_name (i := 2) sc_signs_of.nd rfl (Or.inl rfl) (Or.inr rfl)) (pgs_cons (pg_name (i := 3) sc_signs_of.nd rfl (Or.inl rfl) (Or.inr rfl)) pgs_nil))))) (fun _ _ _ _ _ => pts_nil) (fun _ _ _ _ _ => (pv 2))) pa_nil)) pa_nil)))), ?_⟩)
  · obtain ⟨v, M, rfl, _⟩ := h; rfl
  · obtain ⟨v, M, rfl, hv, g, q⟩ := h
    obtain ⟨a, f, l, sp, ss, rfl, m⟩ := mD_inv hv
    have hl := RpAll.len m.ss
    rw [List.length_map] at hl
    have lS := g.Sn
    refine ⟨_, rfl, _, _, _, _, rfl, rfl, .of m.t, atI_nat (j := 3) rfl, sp, rfl, ⟨_, .of m.s⟩, fun D hD => ?_⟩
    refine lc_sel (T := T.Ts) (walk_list (xs := ss)) hD (fun i acc Hh => acc = ((M.S.take i).map fun s => sg s.2.1).map V.str) (fun H5 e5 => .of (e5.lst m.s)) rfl (fun i x acc H5 H6 hi e5 hacc lacc hR5 hY => ?_) (fun acc H5 e5 hacc lacc hR5 => ?_)
    · obtain ⟨rfl, hx⟩ := hY
      obtain ⟨z, hz, hxz⟩ := RpAll.getM m.ss hx
      obtain ⟨pa, rfl, hpa⟩ := sD_inv hxz
      refine ⟨pa, _, rfl, .inl (.of (e5.tup hpa)), rfl, _, _, rfl, _, _, rfl, _, _, rfl, rfl, rfl, _, rfl, LcP.put hD e5 hacc lacc (by omega) ?_⟩
      rw [hR5, take_succ' hz, List.map_append, List.map_append]
      rfl
    rw [hl, List.take_length] at hR5
    subst hR5
    refine ⟨D, _, rfl, .of hacc, by rw [List.length_map]; omega, fun p hp => ?_⟩
    have e6 : Xt T.Ts H (upd H5 p (StO w p (M.S.map fun s => sg s.2.1))) := e5.trans (.new hp)
    refine ⟨p, _, (List.range 26).map fun i => sg (97 + i), rfl, upd_same, by simp, fun k hk => ?_, fun ys d h1 h2 h3 hd => ?_⟩
    · obtain ⟨s', hs, rfl⟩ := List.mem_map.mp hk
      have := (g.Sr _ hs).2.1
      exact List.mem_map.mpr ⟨s'.2.1 - 97, List.mem_range.mpr (by omega), by congr 1; omega⟩
    · obtain ⟨cs, rfl⟩ : ∃ cs : List Nat, ys = cs.map sg := by
        refine ⟨ys.map fun y => y.cps.toList.headD 0, ?_⟩
        rw [List.map_map]
        refine (List.map_id ys).symm.trans (List.map_congr_left fun y hy => ?_)
        obtain ⟨s', hs, rfl⟩ := List.mem_map.mp ((h3 y).mp hy)
        rfl
      have hm : ∀ c, c ∈ cs ↔ ∃ x y, (x, c, y) ∈ M.S := fun c => by
        have := h3 (sg c)
        constructor
        · intro hc
          obtain ⟨s', hs, e⟩ := List.mem_map.mp (this.mp (List.mem_map_of_mem hc))
          exact ⟨s'.1, s'.2.2, by rw [← sg_inj e]; exact hs⟩
        · rintro ⟨x, y, hs⟩
          obtain ⟨c', hc', e⟩ := List.mem_map.mp (this.mpr (List.mem_map.mpr ⟨_, hs, rfl⟩))
          rw [← sg_inj e]; exact hc'
      refine q.go (e6.trans (.new hd)) ⟨d, cs, rfl, by rw [upd_same, List.map_map]; rfl, sorted_sg h1 h2, hm, fun c hc => ?_⟩
      obtain ⟨x, y, hs⟩ := (hm c).mp hc
      exact (g.Sr _ hs).2.1
theorem ok_by_signs (T : Txt K mg) : FnOk P w K mg base CX0 1 T.by_signs.f T.by_signs.fd P_by_signs (sp_by_signs T.Ts) := by
  refine T.by_signs.F.ok sc_by_signs (fun vs H Q E h => ?_) (fun cdv A outer s H vs Q E hr h => ⟨_, (pss_cons (ps_set (i := 1) sc_by_signs.nd rfl (Or.inl rfl) pe_dnewT)
    (pss_cons (ps_for PassesOwn.never rfl (pi_list (pe_ix ix_tup (pv 0) pe_int (fun _ _ => rfl))) (pg_tup rfl (pgs_cons (pg_name (i := 2) sc_by_signs.nd rfl (Or.inl rfl)) (pgs_cons (pg_name (i := 3) sc_by_signs.nd rfl (Or.inl rfl)) (pgs_cons (pg_name (i := 4) sc_by_signs.nd rfl (Or.inl rfl)) pgs_nil))))
     (pss_one (ps_expr (pe_bm PySem.F.plainAttrs_list PySem.F.slot_list_append PySem.F.type_list_append mt_append (pe_dsetdT (hu_of hr) (pv 1) (pe_tup (pa_cons (pv 2) (pa_cons (pv 3) pa_nil))) (pe_lst pa_nil) ⟨by rfl, by rfl, by rfl, by rfl⟩) (pa_cons (pv 4) pa_nil)))))
    (pss_one (ps_ret (pv 1))))), ?_⟩)
  · obtain ⟨v, M, rfl, _⟩ := h; rfl
  · obtain ⟨v, M, rfl, hv, g, q⟩ := h
    obtain ⟨a, f, l, sp, ss, rfl, m⟩ := mD_inv hv
    have hl := RpAll.len m.ss
    rw [List.length_map] at hl
    have lS := g.Sn
    intro d hd
    have e0 : Xt T.Ts H (upd H d (.dT [])) := .new hd
    have m0 := m.mono e0
    refine ⟨_, rfl, _, _, _, _, rfl, rfl, .of m0.t, atI_nat (j := 3) rfl, sp, rfl, ⟨_, .of m0.s⟩, ?_⟩
    refine for_it (walk_list (xs := ss)) (fun i σ H' => ∃ (kvs : List (List Key × V)) (v2 v3 v4 : Option V), σ = [some (.ref a), some (.ref d), v2, v3, v4] ∧ Xt T.Ts H H' ∧ H' d = some (.dT kvs) ∧ kvs.length ≤ i ∧ TabIn H H' d kvs (M.S.take i))
      ⟨[], none, none, none, rfl, e0, upd_same, Nat.le_refl _, ⟨fun x a => .inl ⟨rfl, rfl⟩, fun k v h => (by simp [valV] at h), fun k1 k2 l h => (by simp [valV] at h)⟩⟩ (fun i σ H' _ h => ?_) ?_ ?_
    · obtain ⟨_, _, _, _, _, e, _⟩ := h; exact .of (e.lst m.s)
    · rintro i x σ H1 H2 hi ⟨kvs, v2, v3, v4, rfl, e, hd', hk, ti⟩ ⟨rfl, hx⟩
      obtain ⟨s', hs, hxs⟩ := RpAll.getM m.ss hx
      obtain ⟨pa, rfl, hpa⟩ := sD_inv hxs
      refine ⟨pa, _, rfl, .inl (.of (e.tup hpa)), rfl, _, _, rfl, _, _, rfl, _, _, rfl, rfl, ?_⟩
      refine ⟨_, rfl, d, rfl, .inr ⟨_, .of hd'⟩, ?_⟩
      refine ⟨_, rfl, _, rfl, (by show 2 ≤ sizeLine; decide), fun t ht => ?_⟩
      refine ⟨Nat.zero_le _, fun z hz => ?_⟩
      have tz : t ≠ z := ne_of_none (H := upd H2 t (.tup [.int s'.1, .str (sg s'.2.1)])) upd_same hz
      have dt : d ≠ t := ne_of_none hd' ht
      have hzH : H2 z = none := by rw [upd_ne (Ne.symm tz)] at hz; exact hz
      have dz : d ≠ z := ne_of_none hd' hzH
      have e2 := (e.trans (.new ht)).trans (.new (o := .lst []) hz)
      generalize hH3 : upd (upd H2 t (.tup [.int s'.1, .str (sg s'.2.1)])) z (.lst []) = H3 at e2
      have hd3 : H3 d = some (.dT kvs) := by rw [← hH3, upd_ne dz, upd_ne dt]; exact hd'
      have ht3 : H3 t = some (.tup ((keyT s'.1 s'.2.1).map kV)) := by rw [← hH3, upd_ne tz]; exact upd_same
      have hz3 : H3 z = some (.lst []) := by rw [← hH3]; exact upd_same
      have e23 : Xt T.Ts H2 H3 := by rw [← hH3]; exact (Xt.new ht).trans (.new hz)
      have ok3 := ti.ok.mono e23
      refine ⟨kvs, keyT s'.1 s'.2.1, t, hd3, rfl, ht3, len_lt (by omega), fun v hv => ?_, fun hn => ?_⟩
      · rcases ok3 s'.1 s'.2.1 with ⟨h1, _⟩ | ⟨l', h1, h2⟩
        · rw [hv] at h1; cases h1
        rw [hv] at h1
        cases h1
        obtain ⟨l2, e3, fr, ld, _⟩ := ti.refs _ _ hv
        cases e3
        refine ⟨.inl ⟨rfl, _, .of h2⟩, _, rfl, l', _, _, rfl, rfl, h2, ?_, ?_⟩
        · have : (tos (M.S.take i) s'.1 s'.2.1).length ≤ (M.S.take i).length := by unfold tos; rw [List.length_map]; exact List.length_filter_le _ _
          rw [List.length_map]
          rw [List.length_take] at this
          exact len_lt (by omega)
        refine ⟨kvs, _, _, _, rfl, e2.put fr h2 plain_lst, by rw [upd_ne (Ne.symm ld)]; exact hd3, by omega, ⟨fun x b => ?_, fun k v h => ?_, ti.inj⟩⟩
        · rw [take_succ' hs, tos_snoc]
          by_cases hxb : s'.1 = x ∧ s'.2.1 = b
          · obtain ⟨rfl, rfl⟩ := hxb
            refine .inr ⟨l', hv, ?_⟩
            rw [upd_same, if_pos ⟨rfl, rfl⟩, List.map_append]
            rfl
          · rw [if_neg hxb, List.append_nil]
            rcases ok3 x b with ⟨h3, h4⟩ | ⟨l3, h3, h4⟩
            · exact .inl ⟨h3, h4⟩
            · refine .inr ⟨l3, h3, ?_⟩
              rw [upd_ne fun z => hxb ?_]
              · exact h4
              · subst z
                exact keyT_inj (ti.inj _ _ _ hv h3)
        · obtain ⟨l4, rfl, h5, h6, xs, h7⟩ := ti.refs k v h
          refine ⟨l4, rfl, h5, h6, ?_⟩
          by_cases q : l4 = l'
          · subst q; exact ⟨_, upd_same⟩
          · exact ⟨xs, by rw [upd_ne q]; exact e23.lst h7⟩
      · have hz4 : (upd H3 d (.dT (putK kvs (keyT s'.1 s'.2.1) (.ref z)))) z = some (.lst []) := by rw [upd_ne (Ne.symm dz)]; exact hz3
        have zH : H z = none := e.dom _ hzH
        refine ⟨.inl ⟨rfl, _, .of hz4⟩, _, rfl, z, _, _, rfl, rfl, hz4, (by show 0 < sizeLine; decide), ?_⟩
        refine ⟨_, _, _, _, rfl, (e2.put hd hd3 plain_dT).put zH hz4 plain_lst, by rw [upd_ne dz]; exact upd_same, by have := length_putK kvs (keyT s'.1 s'.2.1) (.ref z); omega, ⟨fun x b => ?_, fun k v hv => ?_, fun k1 k2 l h1 h2 => ?_⟩⟩
        · rw [take_succ' hs, tos_snoc, valV_put]
          have t0 : tos (M.S.take i) s'.1 s'.2.1 = [] := by
            rcases ok3 s'.1 s'.2.1 with ⟨_, h⟩ | ⟨l', h, _⟩
            · exact h
            · rw [hn] at h; cases h
          by_cases hxb : s'.1 = x ∧ s'.2.1 = b
          · obtain ⟨rfl, rfl⟩ := hxb
            refine .inr ⟨z, if_pos rfl, ?_⟩
            rw [upd_same, if_pos ⟨rfl, rfl⟩, t0]
            rfl
          · rw [if_neg hxb, List.append_nil, if_neg fun e => hxb (let ⟨h1, h2⟩ := keyT_inj e; ⟨h1.symm, h2.symm⟩)]
            rcases ok3 x b with ⟨h3, h4⟩ | ⟨l3, h3, h4⟩
            · exact .inl ⟨h3, h4⟩
            · obtain ⟨l4, e4, fr, ld, _⟩ := ti.refs _ _ h3
              cases e4
              have l3z : l3 ≠ z := fun e => by
                subst e
                rcases ti.ok x b with ⟨h5, _⟩ | ⟨l5, h5, h6⟩
                · rw [h3] at h5; cases h5
                · rw [h3] at h5; cases h5
                  rw [hzH] at h6; cases h6
              exact .inr ⟨l3, h3, by rw [upd_ne l3z, upd_ne ld]; exact h4⟩
        · rw [valV_put] at hv
          by_cases hkk : k = keyT s'.1 s'.2.1
          · rw [if_pos hkk] at hv
            cases hv
            exact ⟨z, rfl, zH, Ne.symm dz, _, upd_same⟩
          · rw [if_neg hkk] at hv
            obtain ⟨l4, rfl, h5, h6, xs, h7⟩ := ti.refs k v hv
            have l4z : l4 ≠ z := ne_of_none h7 hzH
            exact ⟨l4, rfl, h5, h6, xs, by rw [upd_ne l4z, upd_ne h6]; exact e23.lst h7⟩
        · rw [valV_put] at h1 h2
          have old : ∀ {k : List Key} {l : Addr}, valV kvs k = some (.ref l) → l ≠ z := fun {k l} h => by
            obtain ⟨l4, e4, _, _, xs, h7⟩ := ti.refs k _ h
            cases e4
            exact ne_of_none h7 hzH
          by_cases e1 : k1 = keyT s'.1 s'.2.1 <;> by_cases e2 : k2 = keyT s'.1 s'.2.1
          · rw [e1, e2]
          · rw [if_pos e1] at h1
            rw [if_neg e2] at h2
            cases h1
            exact (old h2 rfl).elim
          · rw [if_neg e1] at h1
            rw [if_pos e2] at h2
            cases h2
            exact (old h1 rfl).elim
          · rw [if_neg e1] at h1
            rw [if_neg e2] at h2
            exact ti.inj _ _ _ h1 h2
    · rintro σ H' ⟨kvs, v2, v3, v4, rfl, e, hd', hk, ti⟩
      have ok := ti.ok
      rw [hl, List.take_length] at ok
      exact ⟨_, rfl, q.go e ⟨d, kvs, rfl, hd', ok⟩⟩
end
end Tw
/-! Triesgrow: the first text -/
namespace Tw
open PySem L2 Tg NdefX LamX
open scoped Classical
/-! ### what stays for an entry -/
/-- tuples stay, lists stay but the one at q -/
structure Stp (q : Addr) (H1 H2 : Hp) : Prop where
  tup : ∀ a xs, H1 a = some (.tup xs) → H2 a = some (.tup xs)
  lst : ∀ a xs, a ≠ q → H1 a = some (.lst xs) → H2 a = some (.lst xs)
section
variable {q : Addr} {H H1 H2 H3 : Hp}
theorem Stp.refl : Stp q H H := ⟨fun _ _ h => h, fun _ _ _ h => h⟩
theorem Stp.trans (a : Stp q H1 H2) (b : Stp q H2 H3) : Stp q H1 H3 := ⟨fun x y h => b.tup x y (a.tup x y h), fun x y n h => b.lst x y n (a.lst x y n h)⟩
theorem Stp.xt {T : List NTab} (e : Xt T H1 H2) : Stp q H1 H2 := ⟨fun _ _ h => e.tup h, fun _ _ _ h => e.lst h⟩
theorem Stp.new {p : Addr} {o : HO} (h : H p = none) : Stp q H (upd H p o) := .xt (T := []) (.new h)
theorem Stp.atq {xs : List V} {o : HO} (h : H q = some (.lst xs)) : Stp q H (upd H q o) :=
  ⟨fun a ys e => by rw [upd_ne (ne_of e h fun z => nomatch z)]; exact e, fun a ys n e => by rw [upd_ne n]; exact e⟩
/-- a list that was not there -/
theorem Stp.fresh {p : Addr} {o : HO} (a : Stp q H1 H) (h : H1 p = none) : Stp q H1 (upd H p o) :=
  ⟨fun b ys e => by rw [upd_ne (ne_of_none e h)]; exact a.tup _ _ e, fun b ys n e => by rw [upd_ne (ne_of_none e h)]; exact a.lst _ _ n e⟩
theorem Stp.kn {P : Program} {w : World} {d : Addr} {K : List T3} {o : HO} (h : Kn bo P w H d K) : Stp q H (upd H d o) := by
  obtain ⟨ps, _, h2, _⟩ := h
  have ne : ∀ {u : HO} {a : Addr}, H a = some u → (∀ xs, u ≠ KnO P w d xs) → a ≠ d := fun e n z => by
    subst z; rw [h2] at e; exact n _ (Option.some.inj e).symm
  refine ⟨fun a xs e => ?_, fun a xs _ e => ?_⟩ <;> (rw [upd_ne (ne e fun xs z => by unfold KnO at z; cases z)]; exact e)
theorem St3.stp {p : Addr} {t : T3} (e : Stp q H1 H2) (h : St3 bo H1 p t) : St3 bo H2 p t := by
  obtain ⟨z, h1, h2⟩ := h
  exact ⟨z, e.tup _ _ h1, h2⟩
theorem Kn.stp {P : Program} {w : World} {d : Addr} {K : List T3} (e : Stp q H1 H2) (hd : H2 d = H1 d) (h : Kn bo P w H1 d K) : Kn bo P w H2 d K := by
  obtain ⟨ps, h1, h2, h3⟩ := h
  exact ⟨ps, h1, hd.trans h2, fun z hz => (h3 z hz).stp e⟩
inductive StAll (bo : Bool) (H : Hp) : List V → List T3 → Prop
  | nil : StAll bo H [] []
  | cons {p : Addr} {t : T3} {vs : List V} {ts : List T3} (h : St3 bo H p t) (r : StAll bo H vs ts) : StAll bo H (.ref p :: vs) (t :: ts)
theorem StAll.stp (e : Stp q H1 H2) : ∀ {vs : List V} {ts : List T3}, StAll bo H1 vs ts → StAll bo H2 vs ts
  | _, _, .nil => .nil
  | _, _, .cons h r => .cons (h.stp e) (StAll.stp e r)
theorem StAll.len : ∀ {vs : List V} {ts : List T3}, StAll bo H vs ts → vs.length = ts.length
  | _, _, .nil => rfl
  | _, _, .cons _ r => by rw [List.length_cons, List.length_cons, StAll.len r]
theorem StAll.get : ∀ {vs : List V} {ts : List T3} {i : Nat} {v : V}, StAll bo H vs ts → vs[i]? = some v → ∃ p t, v = .ref p ∧ ts[i]? = some t ∧ St3 bo H p t
  | _, _, _, _, .nil, e => by simp at e
  | _, _, 0, _, .cons h _, e => by simp at e; subst e; exact ⟨_, _, rfl, rfl, h⟩
  | _, _, i + 1, _, .cons _ r, e => StAll.get (i := i) r (by simpa using e)
theorem StAll.snoc : ∀ {vs : List V} {ts : List T3} {p : Addr} {t : T3}, StAll bo H vs ts → St3 bo H p t → StAll bo H (vs ++ [.ref p]) (ts ++ [t])
  | _, _, _, _, .nil, h => .cons h .nil
  | _, _, _, _, .cons g r, h => .cons g (StAll.snoc r h)
theorem StAll.app : ∀ {vs us : List V} {ts rs : List T3}, StAll bo H vs ts → StAll bo H us rs → StAll bo H (vs ++ us) (ts ++ rs)
  | _, _, _, _, .nil, h => h
  | _, _, _, _, .cons g r, h => .cons g (StAll.app r h)
/-- data of a triple -/
def D3 (t : T3) (d : PyData) : Prop := ∃ z, d = .tuple [.int t.1, .int t.2.1, z] ∧ (z = .int t.2.2 ∨ ∃ b : Bool, z = .bool b ∧ t.2.2 = if b = true then 1 else 0)
def Lay (k : Nat) (d : PyData) : Prop := d.canLay0 = true ∧ d.depth ≤ k
theorem D3.lay {t : T3} {d : PyData} (h : D3 t d) : Lay 1 d := by
  obtain ⟨z, rfl, rfl | ⟨b, rfl, _⟩⟩ := h <;> exact ⟨by simp [PyData.canLay0, PyData.canLayAll0], by simp [PyData.depth, PyData.depthAll]⟩
theorem D3.eqv {t u : T3} {d e : PyData} (h : D3 t d) (g : D3 u e) : PyData.eqv d e = decide (t = u) := by
  obtain ⟨a, b, c⟩ := t
  obtain ⟨a', b', c'⟩ := u
  obtain ⟨z, rfl, h⟩ := h
  obtain ⟨y, rfl, g⟩ := g
  have key : PyData.eqv z y = decide (c = c') := by
    rcases h with rfl | ⟨p, rfl, h⟩ <;> rcases g with rfl | ⟨q, rfl, g⟩
    · rw [PyData.eqv, Bool.eq_iff_iff]; simp
    · simp only at g ⊢
      rw [PyData.eqv, Bool.eq_iff_iff, g]; simp
    · simp only at h ⊢
      rw [PyData.eqv, Bool.eq_iff_iff, h]; simp
    · simp only at h g ⊢
      rw [PyData.eqv, Bool.eq_iff_iff, h, g]
      cases p <;> cases q <;> simp
  simp only [PyData.eqv, PyData.eqvAll, key]
  rw [Bool.eq_iff_iff]
  simp
theorem St3.data {p : Addr} {t : T3} (h : St3 bo H p t) : ∃ d, D3 t d ∧ Rp H (.ref p) d := by
  obtain ⟨z, h1, rfl | ⟨_, b, rfl, e⟩⟩ := h
  · exact ⟨_, ⟨_, rfl, .inl rfl⟩, .tup h1 (.cons (.int _) (.cons (.int _) (.cons (.int _) .nil)))⟩
  · exact ⟨_, ⟨_, rfl, .inr ⟨b, rfl, e⟩⟩, .tup h1 (.cons (.int _) (.cons (.int _) (.cons (.bl _) .nil)))⟩
theorem StAll.data : ∀ {vs : List V} {ts : List T3}, StAll bo H vs ts → ∃ ds, RpAll H vs ds ∧ (∀ d ∈ ds, Lay 1 d) ∧ ∀ {g : T3} {e : PyData}, D3 g e → (ds.any fun z => PyData.eqv z e) = decide (g ∈ ts)
  | _, _, .nil => ⟨[], .nil, fun _ h => (by cases h), fun _ => by simp⟩
  | _, _, .cons (t := t) (ts := ts) h r => by
    obtain ⟨d, h1, h2⟩ := h.data
    obtain ⟨ds, r1, r2, r3⟩ := StAll.data r
    refine ⟨d :: ds, .cons h2 r1, fun x hx => (List.mem_cons.mp hx).elim (fun z => z ▸ h1.lay) (r2 x), fun {g e} hg => ?_⟩
    rw [List.any_cons, r3 hg, h1.eqv hg, Bool.eq_iff_iff, Bool.or_eq_true, decide_eq_true_eq, decide_eq_true_eq, decide_eq_true_eq, List.mem_cons]
    exact ⟨fun z => z.elim (fun y => .inl y.symm) .inr, fun z => z.elim (fun y => .inl y.symm) .inr⟩
theorem lay_all {k : Nat} : ∀ {ds : List PyData}, (∀ d ∈ ds, Lay k d) → PyData.canLayAll0 ds = true ∧ PyData.depthAll ds ≤ k
  | [], _ => ⟨by simp [PyData.canLayAll0], by simp [PyData.depthAll]⟩
  | d :: ds, h => by
    obtain ⟨h1, h2⟩ := h d (List.mem_cons_self ..)
    obtain ⟨h3, h4⟩ := lay_all fun x hx => h x (List.mem_cons_of_mem _ hx)
    exact ⟨by rw [PyData.canLayAll0, h1, h3]; rfl, by rw [PyData.depthAll]; omega⟩
theorem lay_list {k : Nat} {ds : List PyData} (h : ∀ d ∈ ds, Lay k d) : Lay (k + 1) (.list ds) := by
  obtain ⟨h1, h2⟩ := lay_all h
  exact ⟨by rw [PyData.canLay0]; exact h1, by rw [PyData.depth]; omega⟩
theorem lay_tuple {k : Nat} {ds : List PyData} (h : ∀ d ∈ ds, Lay k d) : Lay (k + 1) (.tuple ds) := by
  obtain ⟨h1, h2⟩ := lay_all h
  exact ⟨by rw [PyData.canLay0]; exact h1, by rw [PyData.depth]; omega⟩
theorem Lay.shaped {k : Nat} {d : PyData} (h : Lay k d) (hk : k ≤ 64) : SeqAt.shaped d = true := by
  show (d.canLay0 && decide (d.depth ≤ 64)) = true
  rw [h.1, decide_eq_true (Nat.le_trans h.2 hk)]
  rfl
theorem Lay.mono {j k : Nat} {d : PyData} (h : Lay j d) (hk : j ≤ k) : Lay k d := ⟨h.1, Nat.le_trans h.2 hk⟩
theorem lay_str {w : List Nat} (h : LetOk w) : Lay 0 (.str (wS w)) := by
  refine ⟨?_, by simp [PyData.depth]⟩
  have := nice_str (cs := w) fun c hc => by have := h c hc; omega
  rw [nice] at this
  exact this
/-! ### the entries that wait -/
inductive Ents (bo : Bool) (H : Hp) (q : Addr) : List V → List (Ent T3) → Prop
  | nil : Ents bo H q [] []
  | cons {p l : Addr} {ys : List V} {X : List T3} {w : List Nat} {vs : List V} {es : List (Ent T3)} (h : H p = some (.tup [.ref l, .str (wS w.reverse)])) (hq : l ≠ q) (hl : H l = some (.lst ys)) (hy : StAll bo H ys X) (r : Ents bo H q vs es) : Ents bo H q (.ref p :: vs) ((X, w) :: es)
theorem Ents.stp (e : Stp q H1 H2) : ∀ {vs : List V} {es : List (Ent T3)}, Ents bo H1 q vs es → Ents bo H2 q vs es
  | _, _, .nil => .nil
  | _, _, .cons h hq hl hy r => .cons (e.tup _ _ h) hq (e.lst _ _ hq hl) (hy.stp e) (Ents.stp e r)
theorem Ents.len : ∀ {vs : List V} {es : List (Ent T3)}, Ents bo H q vs es → vs.length = es.length
  | _, _, .nil => rfl
  | _, _, .cons _ _ _ _ r => by rw [List.length_cons, List.length_cons, Ents.len r]
theorem Ents.snoc : ∀ {vs : List V} {es : List (Ent T3)} {p l : Addr} {ys : List V} {X : List T3} {w : List Nat}, Ents bo H q vs es → H p = some (.tup [.ref l, .str (wS w.reverse)]) → l ≠ q → H l = some (.lst ys) → StAll bo H ys X → Ents bo H q (vs ++ [.ref p]) (es ++ [(X, w)])
  | _, _, _, _, _, _, _, .nil, h1, h2, h3, h4 => .cons h1 h2 h3 h4 .nil
  | _, _, _, _, _, _, _, .cons a b c d r, h1, h2, h3, h4 => .cons a b c d (Ents.snoc r h1 h2 h3 h4)
theorem letOk_rev {w : List Nat} (h : LetOk w) : LetOk w.reverse := fun c hc => h c (List.mem_reverse.mp hc)
theorem Ents.data : ∀ {vs : List V} {es : List (Ent T3)}, Ents bo H q vs es → (∀ e ∈ es, LetOk e.2) → ∃ ds, RpAll H vs ds ∧ ∀ d ∈ ds, Lay 3 d
  | _, _, .nil, _ => ⟨[], .nil, fun _ h => (by cases h)⟩
  | _, _, .cons (w := w) h hq hl hy r, hw => by
    obtain ⟨ds, r1, r2, _⟩ := hy.data
    obtain ⟨rs, s1, s2⟩ := Ents.data r fun e he => hw e (List.mem_cons_of_mem _ he)
    refine ⟨.tuple [.list ds, .str (wS w.reverse)] :: rs, .cons (.tup h (.cons (.lst hl r1) (.cons (.str _) .nil))) s1, fun d hd => ?_⟩
    rcases List.mem_cons.mp hd with rfl | hd
    · refine lay_tuple (k := 2) fun e he => ?_
      rcases List.mem_cons.mp he with rfl | he
      · exact lay_list r2
      · rw [List.mem_singleton.mp he]
        exact (lay_str (letOk_rev (hw _ (List.mem_cons_self ..)))).mono (by omega)
    · exact s2 d hd
end
/-! ### promises -/
/-- where things lead, told by the table -/
def sp_nx (bo : Bool) (T : List NTab) (succ : T3 → Nat → List T3) (D : T3 → Prop) (S : List (Int × Nat × Int)) : List (Option V) → Sp := fun ws vs H Q _ => ∃ (tb : Addr) (kvs : List (List Key × V)) (p : Addr) (t : T3) (c : Nat),
  ws = [some (.ref tb)] ∧ vs = [.ref p, .str (sg c)] ∧ H tb = some (.dT kvs) ∧ TabOk H kvs S ∧ St3 bo H p t ∧ D t ∧ Ret T H Q fun v H' => ∃ q xs, v = .ref q ∧ H q = none ∧ H' q = some (.lst xs) ∧ StAll bo H' xs (succ t c)
def oW : Option (List Nat) → V
  | none => .non
  | some w => .str (wS w)
/-- what the search is handed -/
structure FtIn (bo : Bool) (T : List NTab) (succ : T3 → Nat → List T3) (D : T3 → Prop) (S : List (Int × Nat × Int)) (start goal : T3) (H : Hp) (sgs st gl tb : Addr) (cs : List Nat) (U : List T3) (kvs : List (List Key × V)) : Prop where
  sg : H sgs = some (.lst (cs.map fun c => V.str (sg c)))
  so : cs.Pairwise (· < ·)
  le : LetOk cs
  st : St3 bo H st start
  gl : St3 bo H gl goal
  tb : H tb = some (.dT kvs)
  ok : TabOk H kvs S
  hs : ∀ s a t, t ∈ succ s a → a ∈ cs
  hu : ∀ s a t, t ∈ succ s a → t ∈ U
  ul : U.length ≤ 4000
  ds : D start
  dc : ∀ s a t, D s → t ∈ succ s a → D t
def FtPost (succ : T3 → Nat → List T3) (start goal : T3) : V → Hp → Prop := fun v _ => ∃ r, FirstO (fun u => Leads succ start u goal) r ∧ v = oW (r.map List.reverse) ∧ ∀ w, r = some w → LetOk w
section
variable {P : Program} {w : World} {K : PySem.W.Frag} {mg : Str → Option Value} {base : Heap}
theorem abs_bounds {Kl X : List T3} {p : List T3 × List T3} {U : List T3} (nd : Kl.Nodup) (hu : ∀ t ∈ Kl, t ∈ U) (hX : ∀ t ∈ X, t ∈ U) (ab : Abs Kl X p) : p.1.Nodup ∧ (∀ t ∈ p.1, t ∈ U) ∧ p.1 = Kl ++ p.2 := by
  have e := ab.app
  have hm : ∀ t ∈ p.2, t ∈ X ∧ t ∉ Kl := fun t ht => (ab.mem t).mp ht
  refine ⟨?_, fun t ht => ?_, e⟩
  · rw [e, List.nodup_append]
    exact ⟨nd, ab.nd, fun a ha b hb z => (hm b hb).2 (z ▸ ha)⟩
  · rw [e] at ht
    rcases List.mem_append.mp ht with ht | ht
    · exact hu t ht
    · exact hX t (hm t ht).1
def TupS (H1 H2 : Hp) : Prop := ∀ a xs, H1 a = some (.tup xs) → H2 a = some (.tup xs)
theorem St3.tups {H1 H2 : Hp} {p : Addr} {t : T3} (e : TupS H1 H2) (h : St3 bo H1 p t) : St3 bo H2 p t := by
  obtain ⟨z, h1, h2⟩ := h
  exact ⟨z, e _ _ h1, h2⟩
theorem StAll.tups {H1 H2 : Hp} (e : TupS H1 H2) : ∀ {vs : List V} {ts : List T3}, StAll bo H1 vs ts → StAll bo H2 vs ts
  | _, _, .nil => .nil
  | _, _, .cons h r => .cons (h.tups e) (StAll.tups e r)
theorem Kn.tups {H1 H2 : Hp} {d : Addr} {Kl : List T3} (e : TupS H1 H2) (hd : H2 d = H1 d) (h : Kn bo P w H1 d Kl) : Kn bo P w H2 d Kl := by
  obtain ⟨ps, h1, h2, h3⟩ := h
  exact ⟨ps, h1, hd.trans h2, fun z hz => (h3 z hz).tups e⟩
theorem Kn.nolst {H : Hp} {d a : Addr} {Kl : List T3} {xs : List V} (h : Kn bo P w H d Kl) (g : H a = some (.lst xs)) : a ≠ d := by
  obtain ⟨ps, _, h2, _⟩ := h
  exact ne_of g h2 fun z => by unfold KnO at z; cases z
theorem add_sg (u : List Nat) (c : Nat) : wS u ++ sg c = wS (u ++ [c]) := congrArg Str.mk (show u.toArray ++ #[c] = (u ++ [c]).toArray by simp)
theorem leads_D {succ : T3 → Nat → List T3} {D : T3 → Prop} {start t : T3} {u : List Nat} (hs : D start) (hc : ∀ s a t, D s → t ∈ succ s a → D t) (l : Leads succ start u t) : D t := by
  induction l with
  | nil => exact hs
  | cons _ e ih => exact hc _ _ _ ih e
/-- what stands behind each turn -/
structure FtM (bo : Bool) (P : Program) (w : World) (T : List NTab) (U : List T3) (H0 H : Hp) (d wq : Addr) (queue : List (Ent T3)) (Kl : List T3) (xs : List V) : Prop where
  e : Xt T H0 H
  kn : Kn bo P w H d Kl
  wl : H wq = some (.lst xs)
  en : Ents bo H wq xs queue
  nd : Kl.Nodup
  ku : ∀ t ∈ Kl, t ∈ U
  ln : ∀ e ∈ queue, e.2.length ≤ Kl.length ∧ LetOk e.2
  ql : queue.length ≤ Kl.length + 1
theorem ft_body (T : Txt K mg) {bo : Bool} {f : Addr} {F : NF} {succ : T3 → Nat → List T3} {D : T3 → Prop} {S : List (Int × Nat × Int)} {start goal : T3} {cdv : Value} {A : Around} {outer : List Env} {s : Shared} {H : Hp} {Q : VK} {sgs st gl tb : Addr} {cs : List Nat} {U : List T3} {kvs : List (List Key × V)}
    (Fn : NOk P w K mg base CX0 1 f F ["here", "sign"] ["table"] (sp_nx bo T.Ts succ D S)) (hr : Room 2 (A.deeper (PyProof.Rows.envOfC "first_text" (defScope s_first_text) s.heap.objs.size T.first_text.f cdv)))
    (C : CellsAt F.cl ["table"] [some (.ref tb)] s.heap H) (nf : ∀ y c, F.cl.lookup y = some c → c ∉ frs outer) (hf : H f = some (FnO f F)) (hc : H F.c = some (CodeO F.c F.qual))
    (I : FtIn bo T.Ts succ D S start goal H sgs st gl tb cs U kvs) (q : Ret T.Ts H Q (FtPost succ start goal)) :
    ∃ t, PSs (cxOf CX0 P w K mg base N_first_text "first_text" (defScope s_first_text) T.first_text.f cdv A outer s H E0).nox (defBody s_first_text) t ∧ t { nx := fun _ H' => Q .non H', rt := Q } (L2.start N_first_text [.ref sgs, .ref st, .ref gl, .ref f]) H := by
  refine ⟨_, (pss_cons (ps_set (i := 4) sc_first_text.nd rfl (Or.inl rfl) pe_dnewX)
    (pss_cons (ps_set (i := 5) sc_first_text.nd rfl (Or.inl rfl) (pe_lst (pa_cons (pe_tup (pa_cons (pe_lst (pa_cons (pv 1) pa_nil)) (pa_cons pe_str pa_nil))) pa_nil)))
    (pss_cons (ps_while PassesOwn.never (pt_cmpR (op_neD hr.units) (pv 5) (pe_lst pa_nil) (nomark _))
     (pss_cons (ps_asg (pe_bm PySem.F.plainAttrs_list PySem.F.slot_list_pop PySem.F.type_list_pop mt_popAt (pv 5) (pa_cons pe_int pa_nil)) (pg_tup rfl (pgs_cons (pg_name (i := 6) sc_first_text.nd rfl (Or.inl rfl)) (pgs_cons (pg_name (i := 7) sc_first_text.nd rfl (Or.inl rfl)) pgs_nil))))
      (pss_one (ps_for PassesOwn.never rfl (pi_list (pv 0)) (pg_name (i := 8) sc_first_text.nd rfl (Or.inl rfl))
      (pss_cons (ps_set (i := 9) sc_first_text.nd rfl (Or.inl rfl) (pe_lst pa_nil))
       (pss_cons (ps_for PassesOwn.never rfl (pi_list (pv 6)) (pg_name (i := 10) sc_first_text.nd rfl (Or.inl rfl))
        (pss_one (ps_for PassesOwn.never rfl (pi_list (pe_callV (i := 3) Fn C nf (fun _ _ _ z => by cases z) hr (by decide) rfl (Or.inl rfl) (pa_cons (pv 10) (pa_cons (pv 8) pa_nil)))) (pg_name (i := 11) sc_first_text.nd rfl (Or.inl rfl))
         (pss_one (ps_if (pt_cmpR (op_notinX (bo := bo) hr.units) (pv 11) (pv 4) (by rfl)) (pss_cons (ps_dputX (bo := bo) hr.units (pv 4) (pv 11) pe_bl)
           (pss_one (ps_expr (pe_bm PySem.F.plainAttrs_list PySem.F.slot_list_append PySem.F.type_list_append mt_append (pv 9) (pa_cons (pv 11) pa_nil))))) pss_nil)))))
       (pss_cons (ps_if (pt_cmpR (op_inD (hu65 hr)) (pv 2) (pv 9) (by rfl)) (pss_one (ps_ret (pe_op op_add_str (pv 7) (pv 8)))) pss_nil)
       (pss_one (ps_if (pt_cmpR (op_neD hr.units) (pv 9) (pe_lst pa_nil) (nomark _)) (pss_one (ps_expr (pe_bm PySem.F.plainAttrs_list PySem.F.slot_list_append PySem.F.type_list_append mt_append (pv 5) (pa_cons (pe_tup (pa_cons (pv 9) (pa_cons (pe_op op_add_str (pv 7) (pv 8)) pa_nil))) pa_nil)))) pss_nil)))))))))
    (pss_one (ps_ret pe_non))))), ?_⟩
  intro d hd
  have e0 : Xt T.Ts H (upd H d (KnO P w d [])) := .new hd
  refine ⟨_, rfl, (by show 1 ≤ sizeLine; decide), fun l0 hl0 => ?_⟩
  refine ⟨(by show 2 ≤ sizeLine; decide), fun p0 hp0 => ?_⟩
  refine ⟨(by show 1 ≤ sizeLine; decide), fun wq hwq => ?_⟩
  have e1 : Xt T.Ts H (upd (upd (upd (upd H d (KnO P w d [])) l0 (.lst [.ref st])) p0 (.tup [.ref l0, .str ""])) wq (.lst [.ref p0])) := by exact ((e0.trans (.new hl0)).trans (.new hp0)).trans (.new hwq)
  have dl : d ≠ l0 := ne_of_none (H := upd H d (KnO P w d [])) upd_same hl0
  have dp : d ≠ p0 := ne_of_none (H := upd (upd H d (KnO P w d [])) l0 (.lst [.ref st])) (by rw [upd_ne dl]; exact upd_same) hp0
  have lp : l0 ≠ p0 := ne_of_none (H := upd (upd H d (KnO P w d [])) l0 (.lst [.ref st])) upd_same hp0
  have h3 : ∀ {a : Addr} {o : HO}, (upd (upd (upd H d (KnO P w d [])) l0 (.lst [.ref st])) p0 (.tup [.ref l0, .str ""])) a = some o → a ≠ wq := fun h => ne_of_none h hwq
  have d3 : (upd (upd (upd H d (KnO P w d [])) l0 (.lst [.ref st])) p0 (.tup [.ref l0, .str ""])) d = some (KnO P w d []) := by rw [upd_ne dp, upd_ne dl]; exact upd_same
  have l3 : (upd (upd (upd H d (KnO P w d [])) l0 (.lst [.ref st])) p0 (.tup [.ref l0, .str ""])) l0 = some (.lst [.ref st]) := by rw [upd_ne lp]; exact upd_same
  have p3 : (upd (upd (upd H d (KnO P w d [])) l0 (.lst [.ref st])) p0 (.tup [.ref l0, .str ""])) p0 = some (.tup [.ref l0, .str ""]) := upd_same
  have kn1 : Kn bo P w (upd (upd (upd (upd H d (KnO P w d [])) l0 (.lst [.ref st])) p0 (.tup [.ref l0, .str ""])) wq (.lst [.ref p0])) d [] := ⟨[], rfl, by rw [upd_ne (h3 d3)]; exact d3, fun _ h => by cases h⟩
  have wl1 : (upd (upd (upd (upd H d (KnO P w d [])) l0 (.lst [.ref st])) p0 (.tup [.ref l0, .str ""])) wq (.lst [.ref p0])) wq = some (.lst [.ref p0]) := by exact upd_same
  have en1 : Ents bo (upd (upd (upd (upd H d (KnO P w d [])) l0 (.lst [.ref st])) p0 (.tup [.ref l0, .str ""])) wq (.lst [.ref p0])) wq [.ref p0] [([start], [])] := .cons (l := l0) (ys := [.ref st]) (w := []) (by rw [upd_ne (h3 p3)]; exact p3) (h3 l3) (by rw [upd_ne (h3 l3)]; exact l3) (.cons (I.st.mono e1) .nil) .nil
  have dH : H d = none := hd
  have wH : H wq = none := by
    have := hwq
    exact e0.dom _ ((Xt.new (T := T.Ts) hl0).dom _ ((Xt.new (T := T.Ts) hp0).dom _ this))
  refine ⟨fun m σ H' => ∃ (done queue : List (Ent T3)) (Kl : List T3) (xs : List V) (v6 v7 v8 v9 v10 v11 : Option V), σ = [some (.ref sgs), some (.ref st), some (.ref gl), some (.ref f), some (.ref d), some (.ref wq), v6, v7, v8, v9, v10, v11] ∧ FtM bo P w T.Ts U H H' d wq queue Kl xs ∧
    Out succ start goal done queue Kl ∧ m = (U.length - Kl.length) + queue.length, ⟨_, [], [([start], [])], [], [.ref p0], none, none, none, none, none, none, rfl, ⟨e1, kn1, wl1, en1, List.nodup_nil, fun _ h => (by cases h), fun e he => ?_, Nat.le_refl _⟩, Out.init, rfl⟩, ?_⟩
  · obtain rfl := List.mem_singleton.mp he
    exact ⟨Nat.le_refl _, fun _ h => by cases h⟩
  rintro m σ H2 ⟨done, queue, Kl, xs, v6, v7, v8, v9, v10, v11, rfl, M, out, rfl⟩
  refine ⟨_, rfl, Nat.zero_le _, fun z hz => ?_⟩
  have ez : Xt T.Ts H2 (upd H2 z (.lst [])) := .new hz
  obtain ⟨ds, r1, r2⟩ := M.en.data fun e he => (M.ln e he).2
  have wz : wq ≠ z := ne_of_none M.wl hz
  have wl2 : upd H2 z (.lst []) wq = some (.lst xs) := by rw [upd_ne wz]; exact M.wl
  refine ⟨.list ds, .list [], .lst (.of wl2) (rps_dps (ez.rps r1)), .lst (.of upd_same) .nil, (lay_list r2).shaped (by omega), shaped_nil, _, rfl, ?_⟩
  rw [ne_nil]
  have kn2 := M.kn.mono ez
  have en2 := M.en.stp (Stp.xt (q := wq) ez)
  have e2 := M.e.trans ez
  have nd := M.nd
  have ku := M.ku
  have ln := M.ln
  have ql := M.ql
  have kU : Kl.length ≤ U.length := nodup_len nd ku
  clear M
  generalize hH3 : upd H2 z (.lst []) = H3 at wl2 kn2 en2 e2
  cases en2 with
  | nil =>
    cases r1
    refine iteF ?_
    exact q.go e2 ⟨none, out.none, rfl, fun _ h => by cases h⟩
  | @cons p l ys X u xs queue hp hlq hl hy hen =>
    cases r1
    refine ifT rfl ⟨_, fun σ' H' h => h, ?_⟩
    refine ⟨_, rfl, .inl ⟨rfl, _, .of wl2⟩, wq, _, 0, 0, _, rfl, rfl, wl2, by decide, by decide, PySem.seqIndex_of (by decide) (by rw [List.length_cons]; omega), rfl, ?_⟩
    have e4 : Xt T.Ts H (upd H3 wq (.lst xs)) := e2.put wH wl2 plain_lst
    have s4 : Stp wq H3 (upd H3 wq (.lst xs)) := Stp.atq wl2
    have wd : wq ≠ d := kn2.nolst wl2
    have kn4 : Kn bo P w (upd H3 wq (.lst xs)) d Kl := kn2.tups s4.tup (upd_ne (Ne.symm wd))
    have wl4 : upd H3 wq (.lst xs) wq = some (.lst xs) := upd_same
    have en4 := hen.stp s4
    have hp4 := s4.tup _ _ hp
    have hl4 := s4.lst _ _ hlq hl
    have hy4 := hy.stp s4
    have lnu := ln _ (List.mem_cons_self ..)
    show gTup _ _ _ _ _ (upd H3 wq (.lst xs)) _
    generalize upd H3 wq (.lst xs) = H4 at e4 kn4 wl4 en4 hp4 hl4 hy4
    refine ⟨p, _, rfl, .inl (.of hp4), rfl, _, _, rfl, _, _, rfl, rfl, ?_⟩
    have ql2 : queue.length + 1 ≤ Kl.length + 1 := ql
    refine ⟨_, rfl, sgs, rfl, ⟨_, .of (e4.lst I.sg)⟩, for_it (walk_list (xs := cs.map fun c => V.str (sg c))) (fun i σ H5 => ∃ (queue' : List (Ent T3)) (Kl' : List T3) (xs' : List V) (v8 v9 v10 v11 : Option V), σ = [some (.ref sgs), some (.ref st), some (.ref gl), some (.ref f), some (.ref d), some (.ref wq), some (.ref l), some (.str (wS u.reverse)), v8, v9, v10, v11] ∧
      FtM bo P w T.Ts U H H5 d wq queue' Kl' xs' ∧ Mid succ start goal done X u (cs.take i) queue' Kl' ∧ Stp wq H4 H5 ∧ Kl.length ≤ Kl'.length ∧ (U.length - Kl'.length) + queue'.length < (U.length - Kl.length) + (queue.length + 1))
      ⟨queue, Kl, xs, v8, v9, v10, v11, rfl, ⟨e4, kn4, wl4, en4, nd, ku, fun e he => ln e (List.mem_cons_of_mem _ he), by omega⟩, out.take, Stp.refl, Nat.le_refl _, by omega⟩ (fun i σ H5 _ h => ?_) ?_ ?_⟩
    · obtain ⟨_, _, _, _, _, _, _, _, M, _⟩ := h; exact .of (M.e.lst I.sg)
    · rintro i x σ H5 H6 hi ⟨queue', Kl', xs', v8, v9, v10, v11, rfl, M, mid, s5, kk, mm⟩ ⟨rfl, hx⟩
      obtain ⟨c, hcs, rfl⟩ : ∃ c, cs[i]? = some c ∧ x = V.str (sg c) := by
        rw [List.getElem?_map] at hx
        cases e : cs[i]? with
        | none => rw [e] at hx; cases hx
        | some c => rw [e] at hx; exact ⟨c, rfl, (Option.some.inj hx).symm⟩
      refine ⟨Nat.zero_le _, fun fd hfd => ?_⟩
      have fdH : H fd = none := M.e.dom _ hfd
      have fdw : fd ≠ wq := Ne.symm (ne_of_none M.wl hfd)
      have e7 : Xt T.Ts H6 (upd H6 fd (.lst [])) := .new hfd
      have hl7 := (s5.trans (.xt e7)).lst _ _ hlq hl4
      refine ⟨_, rfl, l, rfl, ⟨_, .of hl7⟩, for_it (walk_list (xs := ys)) (fun j σ H8 => ∃ (K2 F2 : List T3) (fs : List V) (v10 v11 : Option V), σ = [some (.ref sgs), some (.ref st), some (.ref gl), some (.ref f), some (.ref d), some (.ref wq), some (.ref l), some (.str (wS u.reverse)), some (.str (sg c)), some (.ref fd), v10, v11] ∧
        Xt T.Ts H H8 ∧ Kn bo P w H8 d K2 ∧ H8 wq = some (.lst xs') ∧ H8 fd = some (.lst fs) ∧ StAll bo H8 fs F2 ∧ Stp wq H6 H8 ∧ Abs Kl' ((X.take j).flatMap fun s => succ s c) (K2, F2))
        ⟨Kl', [], [], v10, v11, rfl, M.e.trans e7, M.kn.mono e7, by rw [upd_ne (Ne.symm fdw)]; exact M.wl, upd_same, .nil, .xt e7, Abs.nil _⟩ (fun j σ H8 _ h => ?_) ?_ ?_⟩
      · obtain ⟨_, _, _, _, _, _, _, _, _, _, _, s8, _⟩ := h
        exact .of ((s5.trans s8).lst _ _ hlq hl4)
      · rintro j x σ H8 H8' hj ⟨K2, F2, fs, v10, v11, rfl, e8, k8, w8, f8, a8, s8, ab⟩ ⟨rfl, hx⟩
        obtain ⟨pp, t, rfl, ht, hst⟩ := (hy4.stp s5).get hx
        have hst := hst.stp s8
        have hD := leads_D I.ds I.dc (mid.sound X u (by simp) t (List.mem_of_getElem? ht))
        have hf8 := e8.ext _ _ hf fnO_ne
        refine ⟨rfl, hf8, _, rfl, _, rfl, hf8, e8.ext _ _ hc codeO_ne, tb, kvs, pp, t, c, rfl, rfl, e8.at I.tb plain_dT, I.ok.mono e8, hst, hD, fun v H9 e9 h9 => ?_⟩
        obtain ⟨q3, zs, rfl, hq3, hz3, az⟩ := h9
        have q3f : fd ≠ q3 := ne_of_none f8 hq3
        have q3w : wq ≠ q3 := ne_of_none w8 hq3
        refine ⟨q3, rfl, ⟨_, .of hz3⟩, for_it (walk_list (xs := zs)) (fun k σ H10 => ∃ (K3 F3 : List T3) (fs3 : List V) (v11 : Option V), σ = [some (.ref sgs), some (.ref st), some (.ref gl), some (.ref f), some (.ref d), some (.ref wq), some (.ref l), some (.str (wS u.reverse)), some (.str (sg c)), some (.ref fd), some (.ref pp), v11] ∧
          Xt T.Ts H H10 ∧ Kn bo P w H10 d K3 ∧ H10 wq = some (.lst xs') ∧ H10 fd = some (.lst fs3) ∧ StAll bo H10 fs3 F3 ∧ Stp wq H6 H10 ∧ TupS H9 H10 ∧ H10 q3 = some (.lst zs) ∧ Abs Kl' ((X.take j).flatMap (fun s => succ s c) ++ (succ t c).take k) (K3, F3))
          ⟨K2, F2, fs, v11, rfl, e8.trans e9, k8.mono e9, e9.lst w8, e9.lst f8, a8.stp (Stp.xt (q := wq) e9), s8.trans (.xt e9), fun _ _ h => h, hz3, by rw [List.take_zero, List.append_nil]; exact ab⟩ (fun k σ H10 _ h => ?_) ?_ ?_⟩
        · obtain ⟨_, _, _, _, _, _, _, _, _, _, _, _, h10, _⟩ := h
          exact .of h10
        · rintro k x σ H10' H10 hk ⟨K3, F3, fs3, v11, rfl, e10, k10, w10, f10, a10, s10, t10, z10, ab3⟩ ⟨rfl, hx⟩
          obtain ⟨tp, v, rfl, hv, hsv⟩ := az.get hx
          have hsv := hsv.tups t10
          have ab4 := ab3.snoc v
          have etk : ((X.take j).flatMap fun s => succ s c) ++ (succ t c).take k ++ [v] = ((X.take j).flatMap fun s => succ s c) ++ (succ t c).take (k + 1) := by rw [take_succ' hv, List.append_assoc]
          rw [etk] at ab4
          refine ⟨_, rfl, _, rfl, tp, d, v, K3, rfl, rfl, hsv, k10, _, rfl, ?_⟩
          by_cases hin : v ∈ K3
          · refine ifF (by rw [decide_eq_true hin]; rfl) ⟨K3, F3, fs3, _, rfl, e10, k10, w10, f10, a10, s10, t10, z10, ?_⟩
            have : absorb (K3, F3) v = (K3, F3) := if_pos hin
            rw [this] at ab4
            exact ab4
          · have e5 : absorb (K3, F3) v = (K3 ++ [v], F3 ++ [v]) := if_neg hin
            rw [e5] at ab4
            have hXU : ∀ s' ∈ ((X.take j).flatMap fun s => succ s c) ++ (succ t c).take k, s' ∈ U := fun s' h' => by
              rcases List.mem_append.mp h' with h' | h'
              · obtain ⟨s0, _, h0⟩ := List.mem_flatMap.mp h'
                exact I.hu _ _ _ h0
              · exact I.hu _ _ _ (List.mem_of_mem_take h')
            obtain ⟨n3, u3, ap3⟩ := abs_bounds M.nd M.ku hXU ab3
            have l3 : K3.length ≤ U.length := nodup_len n3 u3
            have uL := I.ul
            have lf : fs3.length ≤ K3.length := by
              rw [a10.len, show K3 = Kl' ++ F3 from ap3, List.length_append]; omega
            refine ifT (by rw [decide_eq_false hin]; rfl) ?_
            refine ⟨_, rfl, _, rfl, d, tp, v, K3, rfl, rfl, rfl, hsv, k10, hin, len_lt (by omega), fun uo o ho po kn => ?_⟩
            have fdd : fd ≠ d := k10.nolst f10
            have wdd : wq ≠ d := k10.nolst w10
            have q3d : q3 ≠ d := k10.nolst z10
            have e11 := e10.putC dH ho po (o := o)
            have s11 : Stp wq H10 (upd H10 d o) := Stp.kn k10
            have f11 : upd H10 d o fd = some (.lst fs3) := by rw [upd_ne fdd]; exact f10
            have t11 : TupS (upd H10 d o) (upd (upd H10 d o) fd (.lst (fs3 ++ [.ref tp]))) := fun a ys e => by rw [upd_ne (ne_of e f11 fun z => nomatch z)]; exact e
            refine ⟨_, rfl, .inl ⟨rfl, _, .of f11⟩, _, rfl, fd, _, _, rfl, rfl, f11, len_lt (by omega), ?_⟩
            refine ⟨K3 ++ [v], F3 ++ [v], fs3 ++ [.ref tp], _, rfl, e11.put fdH f11 plain_lst, kn.tups t11 (upd_ne (Ne.symm fdd)), ?_, upd_same, ?_, (s10.trans s11).fresh hfd, fun a ys e => t11 _ _ (s11.tup _ _ (t10 _ _ e)), ?_, ab4⟩
            · rw [upd_ne (Ne.symm fdw), upd_ne wdd]; exact w10
            · exact ((a10.stp s11).snoc (hsv.stp s11)).tups t11
            · rw [upd_ne (Ne.symm q3f), upd_ne q3d]; exact z10
        · rintro σ H10 ⟨K3, F3, fs3, v11, rfl, e10, k10, w10, f10, a10, s10, t10, z10, ab3⟩
          rw [az.len, List.take_length] at ab3
          refine ⟨K3, F3, fs3, _, _, rfl, e10, k10, w10, f10, a10, s10, ?_⟩
          rw [take_succ' ht, List.flatMap_append]
          simpa using ab3
      · rintro σ H8 ⟨K2, F2, fs, v10, v11, rfl, e8, k8, w8, f8, a8, s8, ab⟩
        rw [hy4.len, List.take_length] at ab
        have hcs2 : cs = cs.take i ++ c :: cs.drop (i + 1) := by
          have hi2 := (List.getElem?_eq_some_iff.mp hcs).1
          rw [← Option.some.inj ((List.getElem?_eq_getElem hi2).symm.trans hcs), ← List.drop_eq_getElem_cons hi2, List.take_append_drop]
        have hp := I.so
        rw [hcs2] at hp
        have hs := fun s' b t (h : t ∈ succ s' b) => I.hs s' b t h
        rw [hcs2] at hs
        have hcl := I.le c (List.mem_of_getElem? hcs)
        have hXU : ∀ s' ∈ X.flatMap (fun s => succ s c), s' ∈ U := fun s' h' => by
          obtain ⟨s0, _, h0⟩ := List.mem_flatMap.mp h'
          exact I.hu _ _ _ h0
        obtain ⟨n2, u2, ap2⟩ := abs_bounds M.nd M.ku hXU ab
        have l2 : K2.length ≤ U.length := nodup_len n2 u2
        have uL := I.ul
        have ap2 : K2 = Kl' ++ F2 := ap2
        have lk2 : K2.length = Kl'.length + F2.length := by rw [ap2, List.length_append]
        have lut : (wS u.reverse).length = u.length := by show u.reverse.toArray.size = _; simp
        have lu1 : u.length ≤ Kl.length := lnu.1
        have luo : LetOk u := lnu.2
        have lcu : LetOk (c :: u) := fun b hb => (List.mem_cons.mp hb).elim (fun z => z ▸ hcl) (luo b)
        have lop : (wS u.reverse).length + (sg c).length ≤ sizeLine := by rw [lut]; exact len_le (show u.length + 1 ≤ _ by omega)
        obtain ⟨dg, hg1, hg2⟩ := (I.gl.mono e8).data
        obtain ⟨ds, r1, r2, r3⟩ := a8.data
        refine ⟨_, rfl, _, rfl, dg, ds, hg2.dp, .lst (.of f8) (rps_dps r1), hg1.lay.shaped (by omega), (lay_list r2).shaped (by omega), _, rfl, ?_⟩
        rw [r3 hg1]
        by_cases hgf : goal ∈ F2
        · refine ifT (decide_eq_true hgf) ⟨_, rfl, _, rfl, _, _, rfl, rfl, lop, ?_⟩
          rw [add_sg]
          refine q.go e8 ⟨some (c :: u), mid.found hp hs ab hgf, ?_, fun w' hw' => ?_⟩
          · show V.str _ = V.str (wS (c :: u).reverse)
            rw [List.reverse_cons]
          · cases hw'
            exact lcu
        · refine ifF (decide_eq_false hgf) ?_
          have mid2 := mid.step hp hs ab hgf
          rw [show cs.take i ++ [c] = cs.take (i + 1) from (take_succ' hcs).symm] at mid2
          refine ⟨_, rfl, Nat.zero_le _, fun z2 hz2 => ?_⟩
          have e9 : Xt T.Ts H8 (upd H8 z2 (.lst [])) := .new hz2
          have f9 := e9.lst f8
          have w9 := e9.lst w8
          have k9 := k8.mono e9
          have a9 := a8.stp (Stp.xt (q := wq) e9)
          have s9 := s8.trans (.xt e9)
          have e89 := e8.trans e9
          refine ⟨.list ds, .list [], .lst (.of f9) (rps_dps (e9.rps r1)), .lst (.of upd_same) .nil, (lay_list r2).shaped (by omega), shaped_nil, _, rfl, ?_⟩
          rw [ne_nil]
          clear hz2
          generalize upd H8 z2 (.lst []) = H9 at e9 f9 w9 k9 a9 s9 e89
          have lds : ds.length = F2.length := by rw [← RpAll.len r1, a8.len]
          by_cases hF : F2 = []
          · have hds : ds = [] := List.length_eq_zero_iff.mp (by rw [lds, hF]; rfl)
            subst hds
            refine iteF ?_
            rw [if_pos hF] at mid2
            subst hF
            rw [List.append_nil] at ap2
            subst ap2
            exact ⟨queue', K2, xs', _, _, _, _, rfl, ⟨e89, k9, w9, M.en.stp s9, M.nd, M.ku, M.ln, M.ql⟩, mid2, s5.trans s9, kk, mm⟩
          · have hds : ds.isEmpty = false := by
              cases ds with
              | nil => exact (hF (List.length_eq_zero_iff.mp (by rw [← lds]; rfl))).elim
              | cons _ _ => rfl
            have hF1 : 1 ≤ F2.length := by cases F2 with | nil => exact (hF rfl).elim | cons _ _ => rw [List.length_cons]; omega
            refine ifT (by rw [hds]; rfl) ?_
            rw [if_neg hF] at mid2
            refine ⟨_, rfl, .inl ⟨rfl, _, .of w9⟩, ?_⟩
            refine ⟨_, rfl, _, rfl, _, rfl, _, _, rfl, rfl, lop, (by show 2 ≤ sizeLine; decide), fun pt hpt => ?_⟩
            have e10 : Xt T.Ts H9 (upd H9 pt (.tup [.ref fd, .str (wS u.reverse ++ sg c)])) := .new hpt
            have w10 := e10.lst w9
            have lxq : xs'.length = queue'.length := M.en.len
            have lq := M.ql
            refine ⟨wq, _, _, rfl, rfl, w10, len_lt (by omega), ?_⟩
            have s10 : Stp wq H9 (upd (upd H9 pt (.tup [.ref fd, .str (wS u.reverse ++ sg c)])) wq (.lst (xs' ++ [.ref pt]))) := (Stp.xt e10).trans (.atq w10)
            have k10 := k9.mono e10
            have wdd : wq ≠ d := k10.nolst w10
            have pw : pt ≠ wq := Ne.symm (ne_of_none w9 hpt)
            refine ⟨queue' ++ [(F2, c :: u)], K2, xs' ++ [.ref pt], _, _, _, _, rfl, ⟨(e89.trans e10).put wH w10 plain_lst, k10.tups (Stp.atq w10).tup (upd_ne (Ne.symm wdd)), upd_same, ?_, n2, u2, fun e he => ?_, ?_⟩, mid2, s5.trans (s9.trans s10), by omega, ?_⟩
            · refine Ents.snoc ((M.en.stp s9).stp s10) ?_ fdw (s10.lst _ _ fdw f9) (a9.stp s10)
              rw [upd_ne pw, upd_same, add_sg, List.reverse_cons]
            · rcases List.mem_append.mp he with he | he
              · have := M.ln e he
                exact ⟨by omega, this.2⟩
              · rw [List.mem_singleton.mp he]
                exact ⟨by show u.length + 1 ≤ _; omega, lcu⟩
            · rw [List.length_append, List.length_singleton]; omega
            · rw [List.length_append, List.length_singleton]; omega
    · rintro σ H5 ⟨queue', Kl', xs', v8, v9, v10, v11, rfl, M, mid, s5, kk, mm⟩
      rw [List.length_map, List.take_length] at mid
      exact ⟨_, mm, done ++ [(X, u)], queue', Kl', xs', _, _, _, _, _, _, rfl, M, mid.over I.hs, rfl⟩
end
end Tw
/-! Triesgrow: where pairs and triples of rooms lead -/
namespace Tw
open PySem L2 Tg NdefX LamX
open scoped Classical
section
variable {X : Cx} {a b : Expr} {rest : List Expr} {pos : Pos} {ta tb : TE}
theorem pe_orTC {K : PySem.W.Frag} (hK : X.K = K) (ha : PE X a ta) (hb : PE X (.BoolOp .Or (b :: rest) pos) tb) : PE X (.BoolOp .Or (a :: b :: rest) pos) (tOrT K ta tb) := by subst hK; exact pe_orT ha hb
end
abbrev s_nxD : Stmt := (defBody s_double_text).getD 0 (.Pass ⟨0, 0, 0, 0⟩)
abbrev N_nxD : List Str := ["here", "sign", "table", "one", "other", "parted", "found", "to", "too"]
theorem sc_nxD : CScope N_nxD ["here", "sign"] ["table"] (C8.fnScope s_nxD) := cscope_by (by decide +kernel)
abbrev s_nxL : Stmt := (defBody s_led_text).getD 0 (.Pass ⟨0, 0, 0, 0⟩)
abbrev N_nxL : List Str := ["here", "sign", "table", "one", "two", "three", "found", "to", "too", "last"]
theorem sc_nxL : CScope N_nxL ["here", "sign"] ["table"] (C8.fnScope s_nxL) := cscope_by (by decide +kernel)
def D01 (t : T3) : Prop := t.2.2 = 0 ∨ t.2.2 = 1
/-- what a look in the table gives -/
theorem tab_get {H0 H : Hp} {kvs : List (List Key × V)} {S : List (Int × Nat × Int)} {z : Addr} (x : Int) (a : Nat) (ok : TabOk H0 kvs S) (e : Sub H0 H) (hz : H z = some (.lst [])) : ∃ l, (valV kvs (keyT x a)).getD (.ref z) = .ref l ∧ H l = some (.lst ((tos S x a).map V.int)) ∧ (l = z ∨ ∃ xs, H0 l = some (.lst xs)) := by
  rcases ok x a with ⟨h1, h2⟩ | ⟨l, h1, h2⟩
  · exact ⟨z, by rw [h1]; rfl, by rw [hz, h2]; rfl, .inl rfl⟩
  · exact ⟨l, by rw [h1]; rfl, e.1 _ _ h2, .inr ⟨_, h2⟩⟩
theorem StAll.sub {H1 H2 : Hp} (e : Sub H1 H2) {vs : List V} {ts : List T3} (h : StAll bo H1 vs ts) : StAll bo H2 vs ts := h.tups e.2
theorem tos_nodup {M : Mac} (g : Good M) (x : Int) (a : Nat) : (tos M.S x a).length ≤ 12 := by
  have nd : (tos M.S x a).Nodup := by
    unfold tos
    refine List.Pairwise.map (R := fun s t => s ≠ t ∧ s.1 = x ∧ s.2.1 = a ∧ t.1 = x ∧ t.2.1 = a) _ (fun s t h e => ?_) ?_
    · obtain ⟨h1, h2, h3, h4, h5⟩ := h
      exact h1 (Prod.ext (h2.trans h4.symm) (Prod.ext (h3.trans h5.symm) e))
    · have h1 := g.S.filter (fun s => decide (s.1 = x ∧ s.2.1 = a))
      rw [List.pairwise_iff_getElem]
      intro i j hi hj hij
      have h2 := List.pairwise_iff_getElem.mp h1 i j hi hj hij
      have h3 := (List.mem_filter.mp (List.getElem_mem hi)).2
      have h4 := (List.mem_filter.mp (List.getElem_mem hj)).2
      rw [decide_eq_true_eq] at h3 h4
      exact ⟨h2, h3.1, h3.2, h4.1, h4.2⟩
  have h := nodup_len (u := rangeI M.n) nd fun y hy => mem_rangeI.mpr (g.Sr _ (mem_tos.mp hy)).2.2
  rw [rangeI_len] at h
  have := g.n2
  omega
/-- table.get((x, sign), []): the heap behind, what it gives -/
abbrev lk (H : Hp) (t z : Addr) (x : Int) (c : Nat) : Hp := upd (upd H t (.tup [.int x, .str (sg c)])) z (.lst [])
theorem look_tab {T : List NTab} {H0 H : Hp} {kvs : List (List Key × V)} {S : List (Int × Nat × Int)} {tb t z : Addr} {x : Int} {c : Nat} (e : Xt T H0 H) (htb : H0 tb = some (.dT kvs)) (ok : TabOk H0 kvs S) (ht : H t = none) (hz : upd H t (.tup [.int x, .str (sg c)]) z = none) :
    Xt T H (lk H t z x c) ∧ DGet (lk H t z x c) tb (.ref t) (valV kvs (keyT x c)) ∧ ∃ l, (valV kvs (keyT x c)).getD (.ref z) = .ref l ∧ lk H t z x c l = some (.lst ((tos S x c).map V.int)) ∧ (H l = none ∨ ∃ xs, H0 l = some (.lst xs)) := by
  have e2 : Xt T H (upd H t (.tup [.int x, .str (sg c)])) := .new ht
  have e3 : Xt T H (lk H t z x c) := e2.trans (.new hz)
  have tz : t ≠ z := ne_of_none (H := upd H t (.tup [.int x, .str (sg c)])) upd_same hz
  obtain ⟨l, hl1, hl2, hl3⟩ := tab_get (H := lk H t z x c) (z := z) x c ok (e.trans e3).sub upd_same
  refine ⟨e3, .t (k := keyT x c) ((e.trans e3).at htb plain_dT) ((upd_ne tz).trans upd_same), l, hl1, hl2, hl3.imp (fun h => ?_) id⟩
  rw [h]
  exact e2.dom _ hz
section
variable {P : Program} {w : World} {K : PySem.W.Frag} {mg : Str → Option Value} {base : Heap}
theorem ok_nxD (T : Txt K mg) {f c' : Addr} {q : Str} {cl : List (Str × Addr)} {S : List (Int × Nat × Int)} (hS : ∀ x a, (tos S x a).length ≤ 12) : NOk P w K mg base CX0 1 f (NF.of s_nxD "nexts" q cl c') ["here", "sign"] ["table"] (sp_nx true T.Ts (succD S) D01 S) := by
  refine nok_ofC sc_nxD (fun _ _ _ us hl => match us, hl with | [_, _], _ => rfl) (fun ws vs H Q E h => ?_) (fun A outer s H vs ws Q E hr hf hc hl h => ⟨_, PSs.nox (pss_cons (ps_asg (pv 0) (pg_tup rfl (pgs_cons (pg_name (i := 3) sc_nxD.nd rfl (Or.inl rfl)) (pgs_cons (pg_name (i := 4) sc_nxD.nd rfl (Or.inl rfl)) (pgs_cons (pg_name (i := 5) sc_nxD.nd rfl (Or.inr rfl)) pgs_nil)))))
    (pss_cons (ps_set (i := 6) sc_nxD.nd rfl (Or.inl rfl) (pe_lst pa_nil))
    (pss_cons (ps_for PassesOwn.never rfl (pi_list (pe_dget2 (hu_of hr) (pv 2) (pe_tup (pa_cons (pv 3) (pa_cons (pv 1) pa_nil))) (pe_lst pa_nil) ⟨by rfl, by rfl, by rfl, by rfl⟩)) (pg_name (i := 7) sc_nxD.nd rfl (Or.inr rfl))
     (pss_one (ps_expr (pe_bm PySem.F.plainAttrs_list PySem.F.slot_list_extend PySem.F.type_list_extend mt_extend (pv 6) (pa_cons (pe_lc (own := [("too", 8)]) (by rfl) sc_nxD.nd (pi_list (pe_dget2 (hu_of hr) (pv 2) (pe_tup (pa_cons (pv 4) (pa_cons (pv 1) pa_nil))) (pe_lst pa_nil) ⟨by rfl, by rfl, by rfl, by rfl⟩)) (blkOk_by (own := [("too", 8)]) (N := N_nxD) (sc := C8.fnScope s_nxD) (by decide +kernel)) (fun _ _ _ _ _ => (pg_name (i := 8) sc_nxD.nd rfl (Or.inl rfl) (Or.inr rfl))) (fun _ _ _ _ _ => pts_nil) (fun _ _ _ _ _ => (pe_tup (pa_cons (pv 7) (pa_cons (pv 8) (pa_cons (pe_orTC (K := K) rfl (pv 5) (pe_one (pe_cmpR op_ne (pv 7) (pv 8) (nomark _)))) pa_nil)))))) pa_nil)))))
    (pss_one (ps_ret (pv 6)))))), ?_⟩)
  · obtain ⟨_, _, _, _, _, _, rfl, _⟩ := h; rfl
  · obtain ⟨tb, kvs, p, t, c, rfl, rfl, htb, ok, ⟨z, hp, hz⟩, hD01, q⟩ := h
    refine ⟨_, rfl, p, _, rfl, .inl (.of hp), rfl, _, _, rfl, _, _, rfl, _, _, rfl, rfl, ?_⟩
    refine ⟨Nat.zero_le _, fun fd hfd => ?_⟩
    have e1 : Xt T.Ts H (upd H fd (.lst [])) := .new hfd
    refine ⟨_, rfl, tb, rfl, .inr ⟨_, .of (e1.at htb plain_dT)⟩, ?_⟩
    refine ⟨_, rfl, _, rfl, (by show 2 ≤ sizeLine; decide), fun t1 ht1 => ⟨Nat.zero_le _, fun z1 hz1 => ?_⟩⟩
    obtain ⟨e2, dg, l, hl1, hl, hor⟩ := look_tab e1 htb ok ht1 hz1
    refine ⟨_, dg, ?_⟩
    rw [hl1]
    clear hl1 dg
    refine ⟨l, rfl, ⟨_, .of hl⟩, ?_⟩
    have lfd : l ≠ fd := fun z => by
      subst z
      rcases hor with h | ⟨xs, h⟩
      · rw [upd_same] at h; cases h
      · rw [hfd] at h; cases h
    have sl := hS t.1 c
    refine for_it (walk_list (xs := (tos S t.1 c).map V.int)) (fun i σ H' => ∃ (fs : List V) (v7 v8 : Option V), σ = [some (.ref p), some (.str (sg c)), some (.ref tb), some (.int t.1), some (.int t.2.1), some z, some (.ref fd), v7, v8] ∧ Xt T.Ts H H' ∧ H' fd = some (.lst fs) ∧ H' l = some (.lst ((tos S t.1 c).map V.int)) ∧
      StAll true H' fs (((tos S t.1 c).take i).flatMap fun x => (tos S t.2.1 c).map fun y => (x, y, pt t.2.2 x y)) ∧ fs.length ≤ i * 12)
      ⟨[], none, none, rfl, e1.trans e2, e2.lst upd_same, hl, .nil, Nat.zero_le _⟩ (fun i σ H' _ h => ?_) ?_ ?_
    · obtain ⟨_, _, _, _, _, _, h, _⟩ := h; exact .of h
    · rintro i v σ H3' H3 hi ⟨fs, v7, v8, rfl, e3, hf3, hl3, as, lf⟩ ⟨rfl, hx⟩
      obtain ⟨x, hxx, rfl⟩ := int_at hx
      rw [List.length_map] at hi
      refine ⟨_, rfl, .inl ⟨rfl, _, .of hf3⟩, ?_⟩
      refine ⟨_, rfl, tb, rfl, .inr ⟨_, .of (e3.at htb plain_dT)⟩, ?_⟩
      refine ⟨_, rfl, _, rfl, (by show 2 ≤ sizeLine; decide), fun t2 ht2 => ⟨Nat.zero_le _, fun z2 hz2 => ?_⟩⟩
      obtain ⟨e4, dg, l2, hl1, hl2, _⟩ := look_tab e3 htb ok ht2 hz2
      refine ⟨_, dg, ?_⟩
      rw [hl1]
      clear hl1 dg
      refine ⟨l2, rfl, ⟨_, .of hl2⟩, fun D hD => ?_⟩
      have sl2 := hS t.2.1 c
      refine lc_sel (T := T.Ts) (walk_list (xs := (tos S t.2.1 c).map V.int)) hD (fun k acc Hh => StAll true Hh acc (((tos S t.2.1 c).take k).map fun y => (x, y, pt t.2.2 x y))) (fun H5 e5 => .of (e5.lst hl2)) .nil (fun k v acc H5 H6 hk e5 hacc lacc hR5 hY => ?_) (fun acc H5 e5 hacc lacc hR5 => ?_)
      · obtain ⟨rfl, hy⟩ := hY
        obtain ⟨y, hyy, rfl⟩ := int_at hy
        rw [List.length_map] at hk
        have fin : ∀ (v3 : V) (p3 : Addr), (v3 = .int (pt t.2.2 x y) ∨ true = true ∧ ∃ b : Bool, v3 = .bl b ∧ pt t.2.2 x y = if b = true then 1 else 0) → H6 p3 = none →
            ∃ acc, upd H6 p3 (.tup [.int x, .int y, v3]) D = some (.lst acc) ∧ acc.length < sizeLine ∧ LcP T.Ts (lk H3 t2 z2 t.2.1 c) D (fun k acc Hh => StAll true Hh acc (((tos S t.2.1 c).take k).map fun y => (x, y, pt t.2.2 x y))) (k + 1) (upd (upd H6 p3 (.tup [.int x, .int y, v3])) D (.lst (acc ++ [.ref p3]))) := fun v3 p3 hv hp3 => by
          have nD : D ≠ p3 := ne_of_none hacc hp3
          refine LcP.put hD (e5.trans (.new hp3)) (by rw [upd_ne nD]; exact hacc) lacc (by omega) ?_
          have hp' : hid D H6 p3 = none := by rw [hid_ne (Ne.symm nD)]; exact hp3
          rw [hid_new (Ne.symm nD), take_succ' hyy, List.map_append]
          exact (hR5.sub (sub_new hp')).snoc ⟨v3, upd_same, hv⟩
        refine ⟨rfl, _, rfl, _, rfl, _, rfl, ?_⟩
        have tru : ∃ k : Bool, TruV K z H6 k ∧ k = decide (t.2.2 = 1) := by
          rcases hz with rfl | ⟨_, b, rfl, hb⟩
          · refine ⟨_, rfl, ?_⟩
            rcases hD01 with h | h <;> rw [h] <;> decide
          · refine ⟨_, rfl, ?_⟩
            rw [hb]
            cases b <;> decide
        obtain ⟨k, hk1, rfl⟩ := tru
        refine ⟨_, hk1, ?_⟩
        by_cases h1 : t.2.2 = 1
        · refine ifT (decide_eq_true h1) ⟨(by show 3 ≤ sizeLine; decide), fun p3 hp3 => fin _ p3 ?_ hp3⟩
          have e1 : pt t.2.2 x y = t.2.2 := by unfold pt; rw [if_pos (.inl h1), h1]
          rw [e1]
          exact hz
        · refine ifF (decide_eq_false h1) ⟨_, rfl, _, rfl, rfl, (by show 3 ≤ sizeLine; decide), fun p3 hp3 => fin _ p3 (.inr ⟨rfl, _, rfl, ?_⟩) hp3⟩
          unfold pt
          by_cases hxy : x = y
          · subst hxy; simp [h1]
          · have : ¬ V.int x = V.int y := fun h => hxy (V.int.inj h)
            simp [h1, hxy, this]
      · rw [List.length_map, List.take_length] at hR5
        have fdD : fd ≠ D := ne_of_none (e4.lst hf3) hD
        have hf5 := e5.lst (e4.lst hf3)
        have lac : acc.length = (tos S t.2.1 c).length := by rw [hR5.len, List.length_map]
        refine ⟨fd, D, _, _, rfl, rfl, hf5, hacc, len_le (by omega), ?_⟩
        have e35 := e4.trans e5
        have fdH : H fd = none := hfd
        have s6 : TupS H5 (upd H5 fd (.lst (fs ++ acc))) := fun a ys e => by rw [upd_ne (ne_of e hf5 fun z => nomatch z)]; exact e
        refine ⟨fs ++ acc, _, _, rfl, (e3.trans e35).put fdH hf5 plain_lst, upd_same, by rw [upd_ne lfd]; exact e35.lst hl3, ?_, by rw [List.length_append]; omega⟩
        rw [take_succ' hxx, List.flatMap_append]
        refine StAll.app ((as.sub e35.sub).tups s6) ?_
        simpa using (hR5.sub sub_hid).tups s6
    · rintro σ H3 ⟨fs, v7, v8, rfl, e3, hf3, hl3, as, lf⟩
      rw [List.length_map, List.take_length] at as
      exact ⟨_, rfl, q.go e3 ⟨fd, fs, rfl, hfd, hf3, as⟩⟩
theorem ok_nxL (T : Txt K mg) {f c' : Addr} {q : Str} {cl : List (Str × Addr)} {S : List (Int × Nat × Int)} (hS : ∀ x a, (tos S x a).length ≤ 12) : NOk P w K mg base CX0 1 f (NF.of s_nxL "nexts" q cl c') ["here", "sign"] ["table"] (sp_nx false T.Ts (succL S) (fun _ => True) S) := by
  refine nok_ofC sc_nxL (fun _ _ _ us hl => match us, hl with | [_, _], _ => rfl) (fun ws vs H Q E h => ?_) (fun A outer s H vs ws Q E hr hf hc hl h => ⟨_, PSs.nox (pss_cons (ps_asg (pv 0) (pg_tup rfl (pgs_cons (pg_name (i := 3) sc_nxL.nd rfl (Or.inl rfl)) (pgs_cons (pg_name (i := 4) sc_nxL.nd rfl (Or.inl rfl)) (pgs_cons (pg_name (i := 5) sc_nxL.nd rfl (Or.inl rfl)) pgs_nil)))))
    (pss_cons (ps_set (i := 6) sc_nxL.nd rfl (Or.inl rfl) (pe_lst pa_nil))
    (pss_cons (ps_for PassesOwn.never rfl (pi_list (pe_dget2 (hu_of hr) (pv 2) (pe_tup (pa_cons (pv 3) (pa_cons (pv 1) pa_nil))) (pe_lst pa_nil) ⟨by rfl, by rfl, by rfl, by rfl⟩)) (pg_name (i := 7) sc_nxL.nd rfl (Or.inr rfl))
     (pss_one (ps_for PassesOwn.never rfl (pi_list (pe_dget2 (hu_of hr) (pv 2) (pe_tup (pa_cons (pv 4) (pa_cons (pv 1) pa_nil))) (pe_lst pa_nil) ⟨by rfl, by rfl, by rfl, by rfl⟩)) (pg_name (i := 8) sc_nxL.nd rfl (Or.inr rfl))
      (pss_one (ps_expr (pe_bm PySem.F.plainAttrs_list PySem.F.slot_list_extend PySem.F.type_list_extend mt_extend (pv 6) (pa_cons (pe_lc (own := [("last", 9)]) (by rfl) sc_nxL.nd (pi_list (pe_dget2 (hu_of hr) (pv 2) (pe_tup (pa_cons (pv 5) (pa_cons (pv 1) pa_nil))) (pe_lst pa_nil) ⟨by rfl, by rfl, by rfl, by rfl⟩)) (blkOk_by (own := [("last", 9)]) (N := N_nxL) (sc := C8.fnScope s_nxL) (by decide +kernel)) (fun _ _ _ _ _ => (pg_name (i := 9) sc_nxL.nd rfl (Or.inl rfl) (Or.inr rfl))) (fun _ _ _ _ _ => pts_nil) (fun _ _ _ _ _ => (pe_tup (pa_cons (pv 7) (pa_cons (pv 8) (pa_cons (pv 9) pa_nil)))))) pa_nil)))))))
    (pss_one (ps_ret (pv 6)))))), ?_⟩)
  · obtain ⟨_, _, _, _, _, _, rfl, _⟩ := h; rfl
  · obtain ⟨tb, kvs, p, t, c, rfl, rfl, htb, ok, ⟨z, hp, hz⟩, _, q⟩ := h
    obtain rfl : z = .int t.2.2 := hz.elim id fun h => by cases h.1
    refine ⟨_, rfl, p, _, rfl, .inl (.of hp), rfl, _, _, rfl, _, _, rfl, _, _, rfl, rfl, ?_⟩
    refine ⟨Nat.zero_le _, fun fd hfd => ?_⟩
    have e1 : Xt T.Ts H (upd H fd (.lst [])) := .new hfd
    refine ⟨_, rfl, tb, rfl, .inr ⟨_, .of (e1.at htb plain_dT)⟩, ?_⟩
    refine ⟨_, rfl, _, rfl, (by show 2 ≤ sizeLine; decide), fun t1 ht1 => ⟨Nat.zero_le _, fun z1 hz1 => ?_⟩⟩
    obtain ⟨e2, dg, l, hl1, hl, hor⟩ := look_tab e1 htb ok ht1 hz1
    refine ⟨_, dg, ?_⟩
    rw [hl1]
    clear hl1 dg
    refine ⟨l, rfl, ⟨_, .of hl⟩, ?_⟩
    have lfd : l ≠ fd := fun z => by
      subst z
      rcases hor with h | ⟨xs, h⟩
      · rw [upd_same] at h; cases h
      · rw [hfd] at h; cases h
    have sl := hS t.1 c
    have sl2 := hS t.2.1 c
    have sl3 := hS t.2.2 c
    refine for_it (walk_list (xs := (tos S t.1 c).map V.int)) (fun i σ H' => ∃ (fs : List V) (v7 v8 v9 : Option V), σ = [some (.ref p), some (.str (sg c)), some (.ref tb), some (.int t.1), some (.int t.2.1), some (.int t.2.2), some (.ref fd), v7, v8, v9] ∧ Xt T.Ts H H' ∧ H' fd = some (.lst fs) ∧ H' l = some (.lst ((tos S t.1 c).map V.int)) ∧
      StAll false H' fs (((tos S t.1 c).take i).flatMap fun x => (tos S t.2.1 c).flatMap fun y => (tos S t.2.2 c).map fun v => (x, y, v)) ∧ fs.length ≤ i * 144)
      ⟨[], none, none, none, rfl, e1.trans e2, e2.lst upd_same, hl, .nil, Nat.zero_le _⟩ (fun i σ H' _ h => ?_) ?_ ?_
    · obtain ⟨_, _, _, _, _, _, _, h, _⟩ := h; exact .of h
    · rintro i v σ H3' H3 hi ⟨fs0, v7, v8, v9, rfl, e3, hf3, hl3, as0, lf0⟩ ⟨rfl, hx⟩
      obtain ⟨x, hxx, rfl⟩ := int_at hx
      rw [List.length_map] at hi
      refine ⟨_, rfl, tb, rfl, .inr ⟨_, .of (e3.at htb plain_dT)⟩, ?_⟩
      refine ⟨_, rfl, _, rfl, (by show 2 ≤ sizeLine; decide), fun t2 ht2 => ⟨Nat.zero_le _, fun z2 hz2 => ?_⟩⟩
      obtain ⟨e4, dg, l2, hl1, hl2, hor2⟩ := look_tab e3 htb ok ht2 hz2
      refine ⟨_, dg, ?_⟩
      rw [hl1]
      clear hl1 dg
      refine ⟨l2, rfl, ⟨_, .of hl2⟩, ?_⟩
      have l2fd : l2 ≠ fd := fun z => by
        subst z
        rcases hor2 with h | ⟨xs, h⟩
        · rw [hf3] at h; cases h
        · rw [hfd] at h; cases h
      refine for_it (walk_list (xs := (tos S t.2.1 c).map V.int)) (fun j σ H' => ∃ (fs : List V) (v8 v9 : Option V), σ = [some (.ref p), some (.str (sg c)), some (.ref tb), some (.int t.1), some (.int t.2.1), some (.int t.2.2), some (.ref fd), some (.int x), v8, v9] ∧ Xt T.Ts H H' ∧ H' fd = some (.lst fs) ∧ H' l = some (.lst ((tos S t.1 c).map V.int)) ∧ H' l2 = some (.lst ((tos S t.2.1 c).map V.int)) ∧
        StAll false H' fs ((((tos S t.1 c).take i).flatMap fun x => (tos S t.2.1 c).flatMap fun y => (tos S t.2.2 c).map fun v => (x, y, v)) ++ ((tos S t.2.1 c).take j).flatMap fun y => (tos S t.2.2 c).map fun v => (x, y, v)) ∧ fs.length ≤ i * 144 + j * 12)
        ⟨fs0, v8, v9, rfl, e3.trans e4, e4.lst hf3, e4.lst hl3, hl2, by rw [List.take_zero]; simpa using as0.sub e4.sub, by omega⟩ (fun i σ H' _ h => ?_) ?_ ?_
      · obtain ⟨_, _, _, _, _, _, _, h, _⟩ := h; exact .of h
      · rintro j v σ H5' H5 hj ⟨fs, v8, v9, rfl, e5, hf5, hl5, hl25, as, lf⟩ ⟨rfl, hy⟩
        obtain ⟨y, hyy, rfl⟩ := int_at hy
        rw [List.length_map] at hj
        refine ⟨_, rfl, .inl ⟨rfl, _, .of hf5⟩, ?_⟩
        refine ⟨_, rfl, tb, rfl, .inr ⟨_, .of (e5.at htb plain_dT)⟩, ?_⟩
        refine ⟨_, rfl, _, rfl, (by show 2 ≤ sizeLine; decide), fun t3 ht3 => ⟨Nat.zero_le _, fun z3 hz3 => ?_⟩⟩
        obtain ⟨e6, dg, l3, hl1, hl36, _⟩ := look_tab e5 htb ok ht3 hz3
        refine ⟨_, dg, ?_⟩
        rw [hl1]
        clear hl1 dg
        refine ⟨l3, rfl, ⟨_, .of hl36⟩, fun D hD => ?_⟩
        refine lc_sel (T := T.Ts) (walk_list (xs := (tos S t.2.2 c).map V.int)) hD (fun k acc Hh => StAll false Hh acc (((tos S t.2.2 c).take k).map fun v => (x, y, v))) (fun H7 e7 => .of (e7.lst hl36)) .nil (fun k v acc H7 H8 hk e7 hacc lacc hR hY => ?_) (fun acc H7 e7 hacc lacc hR => ?_)
        · obtain ⟨rfl, hv⟩ := hY
          obtain ⟨v, hvv, rfl⟩ := int_at hv
          rw [List.length_map] at hk
          refine ⟨rfl, _, rfl, _, rfl, _, rfl, (by show 3 ≤ sizeLine; decide), fun p3 hp3 => ?_⟩
          have nD : D ≠ p3 := ne_of_none hacc hp3
          refine LcP.put hD (e7.trans (.new hp3)) (by rw [upd_ne nD]; exact hacc) lacc (by omega) ?_
          have hp' : hid D H8 p3 = none := by rw [hid_ne (Ne.symm nD)]; exact hp3
          rw [hid_new (Ne.symm nD), take_succ' hvv, List.map_append]
          exact (hR.sub (sub_new hp')).snoc ⟨_, upd_same, .inl rfl⟩
        · rw [List.length_map, List.take_length] at hR
          have hf7 := e7.lst (e6.lst hf5)
          have lac : acc.length = (tos S t.2.2 c).length := by rw [hR.len, List.length_map]
          refine ⟨fd, D, _, _, rfl, rfl, hf7, hacc, len_le (by omega), ?_⟩
          have e57 := e6.trans e7
          have fdH : H fd = none := hfd
          have s6 : TupS H7 (upd H7 fd (.lst (fs ++ acc))) := fun a ys e => by rw [upd_ne (ne_of e hf7 fun z => nomatch z)]; exact e
          refine ⟨fs ++ acc, _, _, rfl, (e5.trans e57).put fdH hf7 plain_lst, upd_same, by rw [upd_ne lfd]; exact e57.lst hl5, by rw [upd_ne l2fd]; exact e57.lst hl25, ?_, by rw [List.length_append]; omega⟩
          rw [take_succ' hyy, List.flatMap_append, ← List.append_assoc]
          refine StAll.app ((as.sub e57.sub).tups s6) ?_
          simpa using (hR.sub sub_hid).tups s6
      · rintro σ H5 ⟨fs, v8, v9, rfl, e5, hf5, hl5, hl25, as, lf⟩
        rw [List.length_map, List.take_length] at as
        rw [List.length_map] at lf
        refine ⟨fs, _, _, _, rfl, e5, hf5, hl5, ?_, by omega⟩
        rw [take_succ' hxx, List.flatMap_append]
        simpa using as
    · rintro σ H3 ⟨fs, v7, v8, v9, rfl, e3, hf3, hl3, as, lf⟩
      rw [List.length_map, List.take_length] at as
      exact ⟨_, rfl, q.go e3 ⟨fd, fs, rfl, hfd, hf3, as⟩⟩
end
end Tw
/-! Triesgrow: double and led texts, rounds -/
namespace Tw
open PySem PySem.Spec PyProof.Rows L2 Tg NdefX LamX
open scoped Classical
/-- a table and signs that stand -/
structure TbIn (H : Hp) (tb sgs : Addr) (kvs : List (List Key × V)) (cs : List Nat) (S : List (Int × Nat × Int)) : Prop where
  tb : H tb = some (.dT kvs)
  ok : TabOk H kvs S
  sg : H sgs = some (.lst (cs.map fun c => V.str (sg c)))
  so : cs.Pairwise (· < ·)
  le : LetOk cs
  hs : ∀ x a y, (x, a, y) ∈ S → a ∈ cs
  rg : ∀ x a y, (x, a, y) ∈ S → (0 ≤ x ∧ x < 12) ∧ (0 ≤ y ∧ y < 12)
  t12 : ∀ x a, (tos S x a).length ≤ 12
theorem TbIn.mono {T : List NTab} {H H' : Hp} {tb sgs : Addr} {kvs : List (List Key × V)} {cs : List Nat} {S : List (Int × Nat × Int)} (e : Xt T H H') (h : TbIn H tb sgs kvs cs S) : TbIn H' tb sgs kvs cs S :=
  ⟨e.at h.tb plain_dT, h.ok.mono e, e.lst h.sg, h.so, h.le, h.hs, h.rg, h.t12⟩
def U3 : List T3 := (rangeI 13).flatMap fun x => (rangeI 13).flatMap fun y => (rangeI 13).map fun z => (x, y, z)
theorem mem_U3 {x y z : Int} (hx : 0 ≤ x ∧ x < 13) (hy : 0 ≤ y ∧ y < 13) (hz : 0 ≤ z ∧ z < 13) : (x, y, z) ∈ U3 :=
  List.mem_flatMap.mpr ⟨x, mem_rangeI.mpr hx, List.mem_flatMap.mpr ⟨y, mem_rangeI.mpr hy, List.mem_map.mpr ⟨z, mem_rangeI.mpr hz, rfl⟩⟩⟩
theorem U3_len : U3.length ≤ 4000 := by decide +kernel
def TxPost (P : List Nat → Prop) : V → Hp → Prop := fun v _ => v = oW ((fo P).map List.reverse) ∧ ∀ w, fo P = some w → LetOk w
theorem post_of {succ : T3 → Nat → List T3} {start goal : T3} {v : V} {H : Hp} (h : FtPost succ start goal v H) : TxPost (fun u => Leads succ start u goal) v H := by
  obtain ⟨r, h1, h2, h3⟩ := h
  unfold TxPost
  rw [fo_eq h1]
  exact ⟨h2, h3⟩
def sp_double_text (T : List NTab) : Sp := fun vs H Q _ => ∃ (tb sgs : Addr) (r : Int) (kvs : List (List Key × V)) (cs : List Nat) (S : List (Int × Nat × Int)), vs = [.ref tb, .ref sgs, .int r] ∧ TbIn H tb sgs kvs cs S ∧ TabsN T H ∧ Ret T H Q (TxPost (PD S r))
def sp_led_text (T : List NTab) : Sp := fun vs H Q _ => ∃ (tb sgs : Addr) (r o : Int) (kvs : List (List Key × V)) (cs : List Nat) (S : List (Int × Nat × Int)), vs = [.ref tb, .ref sgs, .int r, .int o] ∧ TbIn H tb sgs kvs cs S ∧ TabsN T H ∧ Ret T H Q (TxPost (PL S r o))
structure Tbs {K : PySem.W.Frag} {mg : Str → Option Value} (T : Txt K mg) (base : Heap) : Prop where
  d : TabB base mg T.double_text.c T.double_text.P
  l : TabB base mg T.led_text.c T.led_text.P
section
variable {P : Program} {w : World} {K : PySem.W.Frag} {mg : Str → Option Value} {base : Heap}
theorem func_ok {x qual : Str} {st : Stmt} {c f : Addr} {fd : FuncData} {N ps : List Str} {k : Nat} {sp : Sp} (F : FunC K x qual st c f fd) (S : FnScope N ps (defScope st)) (len : ∀ vs H Q E, sp vs H Q E → vs.length = ps.length)
    (hbody : ∀ (A : Around) (outer : List Env) (s : Shared) (H : Hp) (vs : List V) (Q : VK) (E : XK), Room k (A.deeper (envOfC qual (defScope st) s.heap.objs.size f (.ref c))) → sp vs H Q E →
      ∃ t, PSs (cxOf CX0 P w K mg base N qual (defScope st) f (.ref c) A outer s H E).nox (defBody st) t ∧ t { nx := fun _ H' => Q .non H', rt := Q } (L2.start N vs) H) : FnOk P w K mg base CX0 (k + 1) f fd ps sp := by
  obtain ⟨oc, od, kV, doc, pm, an, ct, osl, rfl, lk, hcd⟩ := F.ex
  refine fn_of lk hcd S len fun A outer s H vs Q E hr hsp => ?_
  obtain ⟨t, h, q⟩ := hbody A outer s H vs Q E hr hsp
  exact ⟨t, h.nox, q⟩
theorem memD (T : Txt K mg) : (T.double_text.P, nmD) ∈ T.Ts := by rw [T.ts]; exact List.mem_cons_self ..
theorem memL (T : Txt K mg) : (T.led_text.P, nmL) ∈ T.Ts := by rw [T.ts]; exact List.mem_cons_of_mem _ (List.mem_cons_self ..)
theorem huD (T : Txt K mg) : ∀ p ∈ T.Ts, p.1 = T.double_text.P → p.2 = nmD := fun p hp e => by
  rw [T.ts] at hp
  rcases List.mem_cons.mp hp with rfl | hp
  · rfl
  · rw [List.mem_singleton.mp hp] at e
    exact (T.ne e.symm).elim
theorem huL (T : Txt K mg) : ∀ p ∈ T.Ts, p.1 = T.led_text.P → p.2 = nmL := fun p hp e => by
  rw [T.ts] at hp
  rcases List.mem_cons.mp hp with rfl | hp
  · exact (T.ne e).elim
  · rw [List.mem_singleton.mp hp]
/-- the search is handed one of the two -/
def TTf (T : List NTab) (bo : Bool) (succ : List (Int × Nat × Int) → T3 → Nat → List T3) (D : T3 → Prop) : Addr → Addr → List (Option V) → List V → Hp → VK → Prop := fun f _ ws vs H Q => ∃ (sgs st gl tb : Addr) (cs : List Nat) (kvs : List (List Key × V)) (S : List (Int × Nat × Int)) (start goal : T3),
  ws = [some (.ref tb)] ∧ vs = [.ref sgs, .ref st, .ref gl, .ref f] ∧ FtIn bo T (succ S) D S start goal H sgs st gl tb cs U3 kvs ∧ (∀ x a, (tos S x a).length ≤ 12) ∧ Ret T H Q (FtPost (succ S) start goal)
abbrev clD (n : Nat) : List (Str × Addr) := cloFrom (cellsFrom (n + 1) (defScope s_double_text).names []) (C8.fnScope s_nxD).names []
abbrev clL (n : Nat) : List (Str × Addr) := cloFrom (cellsFrom (n + 1) (defScope s_led_text).names []) (C8.fnScope s_nxL).names []
theorem ndbD : ndefB (defScope s_double_text) (C8.fnScope s_nxD) ["table"] = true := by decide +kernel
theorem ndbL : ndefB (defScope s_led_text) (C8.fnScope s_nxL) ["table"] = true := by decide +kernel
theorem ok_double_text (T : Txt K mg) (TB : Tbs T base) : FnOk P w K mg base CX0 4 T.double_text.f T.double_text.fd P_double_text (sp_double_text T.Ts) := by
  refine func_ok T.double_text.F sc_double_text (fun vs H Q E h => ?_) (fun A outer s H vs Q E hr h => ⟨_, (pss_cons (ps_ndefMS (T := T.Ts) (nm := nmD) (i := 3) (st := s_nxD) rfl TB.d rfl (memD T) rfl (huD T) (ndef_free ndbD) rfl rfl rfl sc_double_text.nd rfl (Or.inl rfl) (Or.inr rfl))
    (pss_one (ps_ret (pe_callG (mk := NF.of s_nxD "nexts" (("double_text" : Str) ++ ".<locals>." ++ "nexts") (clD s.heap.objs.size)) (cl := clD s.heap.objs.size) (fr := ["table"]) (js := [0]) (k := 2) (TT := TTf T.Ts true succD D01) T.first_text.F sc_first_text T.first_text.b hr rfl T.first_text.g (fun _ => rfl) (fun ok => Caps.made ok (ndef_free ndbD) (ndef_fr ndbD) rfl) (fun _ => rfl) rfl rfl
      (fun f c' ws vs H Q h => ?_) (pa_cons (pv 1) (pa_cons (pe_tup (pa_cons (pv 2) (pa_cons (pv 2) (pa_cons pe_bl pa_nil)))) (pa_cons (pe_tup (pa_cons (pv 2) (pa_cons (pv 2) (pa_cons pe_bl pa_nil)))) (pa_cons (pv 3) pa_nil)))))))), ?_⟩)
  · obtain ⟨_, _, _, _, _, _, rfl, _⟩ := h; rfl
  · obtain ⟨sgs, st, gl, tb, cs, kvs, S, start, goal, rfl, rfl, I, hS, q⟩ := h
    exact ⟨rfl, fun cdv A outer s hr C nf hf hc => ft_body T (ok_nxD T hS) hr C nf hf hc I q⟩
  · obtain ⟨tb, sgs, r, kvs, cs, S, rfl, I, hT, q⟩ := h
    refine ⟨hT, fun f c' H1 eN nn T1 hf0 hf1 hc1 => ?_⟩
    have e1 : Xt T.Ts H H1 := ⟨nn, eN, fun _ => T1⟩
    refine ⟨_, rfl, ?_⟩
    refine ⟨_, rfl, _, rfl, (by show 3 ≤ sizeLine; decide), fun p1 hp1 => ?_⟩
    refine ⟨_, rfl, _, rfl, (by show 3 ≤ sizeLine; decide), fun p2 hp2 => ?_⟩
    have e3 : Xt T.Ts H1 (upd (upd H1 p1 (.tup [.int r, .int r, .bl false])) p2 (.tup [.int r, .int r, .bl true])) := (Xt.new hp1).trans (.new hp2)
    have p12 : p1 ≠ p2 := ne_of_none (H := upd H1 p1 (.tup [.int r, .int r, .bl false])) upd_same hp2
    have e13 := e1.trans e3
    have I3 := I.mono e13
    refine ⟨_, rfl, f, c', e3.ext _ _ hf1 fnO_ne, e3.ext _ _ hc1 codeO_ne, sgs, p1, p2, tb, cs, kvs, S, (r, r, 0), (r, r, 1), rfl, rfl, ⟨I3.sg, I3.so, I3.le, ⟨_, by rw [upd_ne p12]; exact upd_same, .inr ⟨rfl, false, rfl, rfl⟩⟩, ⟨_, upd_same, .inr ⟨rfl, true, rfl, rfl⟩⟩, I3.tb, I3.ok, fun s a t ht => ?_, fun s a t ht => ?_, U3_len, .inl rfl, fun s a t _ ht => ?_⟩, I.t12, fun v H4 e4 h4 => ?_⟩
    · exact I.hs _ _ _ (mem_succD.mp ht).1
    · obtain ⟨h1, h2, h3⟩ := mem_succD.mp ht
      have r1 := I.rg _ _ _ h1
      have r2 := I.rg _ _ _ h2
      obtain ⟨x, y, z⟩ := t
      simp only at h3 r1 r2
      refine mem_U3 ⟨r1.2.1, by omega⟩ ⟨r2.2.1, by omega⟩ ?_
      rw [h3]; unfold pt; split <;> omega
    · obtain ⟨_, _, h3⟩ := mem_succD.mp ht
      unfold D01
      rw [h3]; unfold pt; split <;> simp
    · exact q.go (e13.trans e4) (post_of h4)
theorem ok_led_text (T : Txt K mg) (TB : Tbs T base) : FnOk P w K mg base CX0 4 T.led_text.f T.led_text.fd P_led_text (sp_led_text T.Ts) := by
  refine func_ok T.led_text.F sc_led_text (fun vs H Q E h => ?_) (fun A outer s H vs Q E hr h => ⟨_, (pss_cons (ps_ndefMS (T := T.Ts) (nm := nmL) (i := 4) (st := s_nxL) rfl TB.l rfl (memL T) rfl (huL T) (ndef_free ndbL) rfl rfl rfl sc_led_text.nd rfl (Or.inl rfl) (Or.inr rfl))
    (pss_one (ps_ret (pe_callG (mk := NF.of s_nxL "nexts" (("led_text" : Str) ++ ".<locals>." ++ "nexts") (clL s.heap.objs.size)) (cl := clL s.heap.objs.size) (fr := ["table"]) (js := [0]) (k := 2) (TT := TTf T.Ts false succL (fun _ => True)) T.first_text.F sc_first_text T.first_text.b hr rfl T.first_text.g (fun _ => rfl) (fun ok => Caps.made ok (ndef_free ndbL) (ndef_fr ndbL) rfl) (fun _ => rfl) rfl rfl
      (fun f c' ws vs H Q h => ?_) (pa_cons (pv 1) (pa_cons (pe_tup (pa_cons (pv 2) (pa_cons (pv 2) (pa_cons (pv 3) pa_nil)))) (pa_cons (pe_tup (pa_cons (pv 2) (pa_cons (pv 3) (pa_cons (pv 3) pa_nil)))) (pa_cons (pv 4) pa_nil)))))))), ?_⟩)
  · obtain ⟨_, _, _, _, _, _, _, rfl, _⟩ := h; rfl
  · obtain ⟨sgs, st, gl, tb, cs, kvs, S, start, goal, rfl, rfl, I, hS, q⟩ := h
    exact ⟨rfl, fun cdv A outer s hr C nf hf hc => ft_body T (ok_nxL T hS) hr C nf hf hc I q⟩
  · obtain ⟨tb, sgs, r, o, kvs, cs, S, rfl, I, hT, q⟩ := h
    refine ⟨hT, fun f c' H1 eN nn T1 hf0 hf1 hc1 => ?_⟩
    have e1 : Xt T.Ts H H1 := ⟨nn, eN, fun _ => T1⟩
    refine ⟨_, rfl, ?_⟩
    refine ⟨_, rfl, _, rfl, _, rfl, (by show 3 ≤ sizeLine; decide), fun p1 hp1 => ?_⟩
    refine ⟨_, rfl, _, rfl, _, rfl, (by show 3 ≤ sizeLine; decide), fun p2 hp2 => ?_⟩
    have e3 : Xt T.Ts H1 (upd (upd H1 p1 (.tup [.int r, .int r, .int o])) p2 (.tup [.int r, .int o, .int o])) := (Xt.new hp1).trans (.new hp2)
    have p12 : p1 ≠ p2 := ne_of_none (H := upd H1 p1 (.tup [.int r, .int r, .int o])) upd_same hp2
    have e13 := e1.trans e3
    have I3 := I.mono e13
    refine ⟨_, rfl, f, c', e3.ext _ _ hf1 fnO_ne, e3.ext _ _ hc1 codeO_ne, sgs, p1, p2, tb, cs, kvs, S, (r, r, o), (r, o, o), rfl, rfl, ⟨I3.sg, I3.so, I3.le, ⟨_, by rw [upd_ne p12]; exact upd_same, .inl rfl⟩, ⟨_, upd_same, .inl rfl⟩, I3.tb, I3.ok, fun s a t ht => ?_, fun s a t ht => ?_, U3_len, trivial, fun _ _ _ _ _ => trivial⟩, I.t12, fun v H4 e4 h4 => ?_⟩
    · exact I.hs _ _ _ (mem_succL.mp ht).1
    · obtain ⟨h1, h2, h3⟩ := mem_succL.mp ht
      have r1 := I.rg _ _ _ h1
      have r2 := I.rg _ _ _ h2
      have r3 := I.rg _ _ _ h3
      obtain ⟨x, y, z⟩ := t
      simp only at r1 r2 r3
      exact mem_U3 ⟨r1.2.1, by omega⟩ ⟨r2.2.1, by omega⟩ ⟨r3.2.1, by omega⟩
    · exact q.go (e13.trans e4) (post_of h4)
/-! ### rounds -/
def oD : Option (List Nat) → PyData
  | none => .none
  | some w => .str (wS w)
theorem oD_rp {H : Hp} (o : Option (List Nat)) : Rp H (oW o) (oD o) := by cases o <;> first | exact .non | exact .str _
def dD (p : Int × List Nat) : PyData := .tuple [.int p.1, .str (wS p.2)]
def lD (p : Int × Int × List Nat) : PyData := .tuple [.int p.1, .int p.2.1, .str (wS p.2.2)]
def pO (p : Int × Option (List Nat)) : PyData := .tuple [.int p.1, oD p.2]
def sp_double_rounds (T : List NTab) : Sp := fun vs H Q _ => ∃ (v : V) (M : Mac), vs = [v] ∧ Rp H v (mD M) ∧ Good M ∧ TabsN T H ∧ Ret T H Q fun v H' => Rp H' v (.list ((doubleL M).map dD)) ∧ ∀ p ∈ doubleL M, LetOk p.2
def sp_led_rounds (T : List NTab) : Sp := fun vs H Q _ => ∃ (v : V) (M : Mac), vs = [v] ∧ Rp H v (mD M) ∧ Good M ∧ TabsN T H ∧ Ret T H Q fun v H' => Rp H' v (.list ((ledL M).map lD)) ∧ ∀ p ∈ ledL M, LetOk p.2.2
theorem letOk_some {w : List Nat} (h : LetOk w.reverse) : LetOk w := fun c hc => h c (List.mem_reverse.mpr hc)
theorem tbIn_of {M : Mac} (g : Good M) {H : Hp} {tb sgs : Addr} {kvs : List (List Key × V)} {cs : List Nat} (htb : H tb = some (.dT kvs)) (ok : TabOk H kvs (trim M).S) (sg : H sgs = some (.lst (cs.map fun c => V.str (sg c)))) (so : cs.Pairwise (· < ·)) (hm : ∀ c, c ∈ cs ↔ ∃ x y, (x, c, y) ∈ M.S) (le : LetOk cs) : TbIn H tb sgs kvs cs (trim M).S :=
  ⟨htb, ok, sg, so, le, fun x a y h => (hm a).mpr ⟨x, y, (trim_mem.mp h).1⟩, fun x a y h => by
    have := g.Sr _ (trim_mem.mp h).1
    have n2 := g.n2
    simp only at this
    exact ⟨⟨this.1.1, by omega⟩, ⟨this.2.2.1, by omega⟩⟩, tos_nodup g.trim⟩
theorem ok_double_rounds (T : Txt K mg) (TB : Tbs T base) : FnOk P w K mg base CX0 8 T.double_rounds.f T.double_rounds.fd P_double_rounds (sp_double_rounds T.Ts) := by
  refine T.double_rounds.F.ok sc_double_rounds (fun vs H Q E h => ?_) (fun cdv A outer s H vs Q E hr h => ⟨_, (pss_cons (ps_set (i := 1) sc_double_rounds.nd rfl (Or.inl rfl) (pe_call (ok_useful T) (hr.mono (by decide)) rfl T.useful.g T.useful.F.kp T.useful.b .nil pass0 (pa_cons (pv 0) pa_nil)))
    (pss_cons (ps_set (i := 2) sc_double_rounds.nd rfl (Or.inr rfl) (pe_call (ok_by_signs T) (hr.mono (by decide)) rfl T.by_signs.g T.by_signs.F.kp T.by_signs.b .nil pass0 (pa_cons (pe_call (ok_trimmed T) (hr.mono (by decide)) rfl T.trimmed.g T.trimmed.F.kp T.trimmed.b .nil pass0 (pa_cons (pv 0) pa_nil)) pa_nil)))
    (pss_cons (ps_setLc (i := 3) (own := [("room", 4)]) (by rfl) sc_double_rounds.nd rfl rfl (sw_true rfl rfl rfl (by decide +kernel)) (pi_list (pv 1)) (blkOk_by (own := [("room", 4)]) (N := N_double_rounds) (sc := defScope s_double_rounds) (by decide +kernel)) (fun _ _ _ _ _ => (pg_name (i := 4) sc_double_rounds.nd rfl (Or.inl rfl) (Or.inr rfl))) (fun _ _ _ _ _ => pts_nil) (fun _ _ _ _ _ => (pe_tup (pa_cons (pv 4) (pa_cons (pe_call (ok_double_text T TB) (hr.mono (by decide)) rfl T.double_text.g T.double_text.F.kp T.double_text.b .nil pass0 (pa_cons (pv 2) (pa_cons (pe_call (ok_signs_of T) (hr.mono (by decide)) rfl T.signs_of.g T.signs_of.F.kp T.signs_of.b .nil pass0 (pa_cons (pv 0) pa_nil)) (pa_cons (pv 4) pa_nil)))) pa_nil)))))
    (pss_one (ps_ret (pe_lc (own := [("room", 4), ("text", 5)]) (by rfl) sc_double_rounds.nd (pi_list (pv 3)) (blkOk_by (own := [("room", 4), ("text", 5)]) (N := N_double_rounds) (sc := defScope s_double_rounds) (by decide +kernel)) (fun _ _ _ _ _ => (pg_tupC (K := K) (n := 2) rfl rfl (pgs_cons (pg_name (i := 4) sc_double_rounds.nd rfl (Or.inl rfl) (Or.inr rfl)) (pgs_cons (pg_name (i := 5) sc_double_rounds.nd rfl (Or.inl rfl) (Or.inr rfl)) pgs_nil)))) (fun _ _ _ _ _ => (pts_one (pt_cmpR op_notN (pv 5) pe_non (nomark _)))) (fun _ _ _ _ _ => (pe_tup (pa_cons (pv 4) (pa_cons (pv 5) pa_nil)))))))))), ?_⟩)
  · obtain ⟨v, M, rfl, _⟩ := h; rfl
  · obtain ⟨v, M, rfl, hv, g, hT, q⟩ := h
    refine ⟨_, rfl, _, M, rfl, hv, g, fun v1 H1 e1 h1 => ?_⟩
    obtain ⟨rm, rfl, hrm⟩ := h1
    refine ⟨_, rfl, _, M, rfl, e1.rp hv, g, fun v2 H2 e2 h2 => ?_⟩
    refine ⟨_, trim M, rfl, h2, g.trim, fun v3 H3 e3 h3 => ?_⟩
    obtain ⟨tb, kvs, rfl, htb, ok⟩ := h3
    have e13 := (e1.trans e2).trans e3
    have hrm3 := (e2.trans e3).lst hrm
    have lu : (usefulL M).length ≤ 12 := by
      have := List.length_filter_le (fun r => decide (Useful M r)) (rangeI M.n)
      rw [rangeI_len] at this
      have n2 := g.n2
      have n1 := g.n1
      show (List.filter _ _).length ≤ 12
      omega
    refine ⟨_, rfl, rm, rfl, ⟨_, .of hrm3⟩, fun D hD => ?_⟩
    refine lc_sel (T := T.Ts) (walk_list (xs := (usefulL M).map V.int)) hD (fun i acc Hh => RpAll Hh acc (((usefulL M).take i).map fun r => pO (r, dblAt M r)) ∧ ∀ r ∈ (usefulL M).take i, ∀ w, dblAt M r = some w → LetOk w) (fun H5 e5 => .of (e5.lst hrm3)) ⟨.nil, fun _ h => by cases h⟩ (fun i x acc H5 H6 hi e5 hacc lacc hR5 hY => ?_) (fun acc H5 e5 hacc lacc hR5 => ?_)
    · obtain ⟨rfl, hx⟩ := hY
      obtain ⟨r, hr', rfl⟩ := int_at hx
      rw [List.length_map] at hi
      have e06 := e13.trans e5
      refine ⟨rfl, _, rfl, _, rfl, _, rfl, _, M, rfl, e06.rp hv, g, fun v7 H7 e7 h7 => ?_⟩
      obtain ⟨sgs, cs, rfl, hsg, so, hm, le⟩ := h7
      refine ⟨_, rfl, tb, sgs, r, kvs, cs, (trim M).S, rfl, tbIn_of g ((e5.trans e7).at htb plain_dT) (ok.mono (e5.trans e7)) hsg so hm le, (e06.trans e7).tab hT, fun v8 H8 e8 h8 => ?_⟩
      obtain ⟨rfl, hw⟩ := h8
      refine ⟨(by show 2 ≤ sizeLine; decide), fun p hp => ?_⟩
      have e68 := e7.trans e8
      have hacc8 : H8 D = some (.lst acc) := e68.lst hacc
      have nD : D ≠ p := ne_of_none hacc8 hp
      refine LcP.put hD ((e5.trans e68).trans (.new hp)) (by rw [upd_ne nD]; exact hacc8) lacc (by omega) ⟨?_, fun r' hr2 w hw' => ?_⟩
      · have hp' : hid D H8 p = none := by rw [hid_ne (Ne.symm nD)]; exact hp
        rw [hid_new (Ne.symm nD), take_succ' hr', List.map_append]
        exact (rps_sub ((hid_sub e68.sub).trans (sub_new hp')) _ hR5.1).app (.one (.tup upd_same (.cons (.int _) (.cons (oD_rp _) .nil))))
      · rw [take_succ' hr'] at hr2
        rcases List.mem_append.mp hr2 with hr2 | hr2
        · exact hR5.2 r' hr2 w hw'
        · obtain rfl := List.mem_singleton.mp hr2
          unfold dblAt at hw'
          cases ho : fo (PD (trim M).S r') with
          | none => rw [ho] at hw'; cases hw'
          | some w0 =>
            rw [ho] at hw'
            cases hw'
            exact letOk_rev (hw w0 ho)
    · rw [List.length_map, List.take_length] at hR5
      obtain ⟨hR5, hle⟩ := hR5
      have hR6 := rps_sub sub_hid _ hR5
      have lal := RpAll.len hR5
      rw [List.length_map] at lal
      clear hD lacc hR5
      refine ⟨_, rfl, D, rfl, ⟨_, .of hacc⟩, fun D2 hD => ?_⟩
      refine lc_sel (T := T.Ts) (walk_list (xs := acc)) hD (fun i acc Hh => RpAll Hh acc ((((usefulL M).take i).filterMap fun r => (dblAt M r).map fun w => (r, w)).map dD)) (fun H7 e7 => .of (e7.lst hacc)) .nil (fun i x acc2 H7 H8 hi e7 hacc2 lacc hR7 hY => ?_) (fun acc2 H7 e7 hacc2 lacc hR7 => ?_)
      · obtain ⟨rfl, hx⟩ := hY
        obtain ⟨r, hr', hxr⟩ := RpAll.getM hR6 hx
        obtain ⟨pa, xs, rfl, hpa, hxs⟩ := Rp.tuple_inv hxr
        obtain ⟨tx, rfl, htx⟩ : ∃ tx, xs = [.int r, tx] ∧ Rp H5 tx (oD (dblAt M r)) := by
          cases hxs with
          | cons h1 h2 =>
            cases h2 with
            | cons h2 h3 =>
              cases h3
              obtain rfl := Rp.int_inv h1
              exact ⟨_, rfl, h2⟩
        refine ⟨pa, _, rfl, .inl (.of (e7.tup hpa)), rfl, _, _, rfl, _, _, rfl, rfl, rfl, ?_⟩
        refine ⟨_, rfl, rfl, _, rfl, ?_⟩
        have fs : ((usefulL M).take (i + 1)).filterMap (fun r => (dblAt M r).map fun w => (r, w)) = ((usefulL M).take i).filterMap (fun r => (dblAt M r).map fun w => (r, w)) ++ ((dblAt M r).map fun w => (r, w)).toList := by
          rw [take_succ' hr', List.filterMap_append]
          cases hd : (dblAt M r) <;> simp [hd]
        cases hd : dblAt M r with
        | none =>
          rw [hd] at htx fs
          cases htx
          refine ifF rfl (LcP.keep e7 hacc2 lacc ?_)
          rw [fs]
          simpa using hR7
        | some wd =>
          rw [hd] at htx fs
          obtain rfl := Rp.str_inv htx
          refine ifT rfl ⟨_, rfl, _, rfl, (by show 2 ≤ sizeLine; decide), fun p hp => ?_⟩
          have nD : D2 ≠ p := ne_of_none hacc2 hp
          refine LcP.put hD (e7.trans (.new hp)) (by rw [upd_ne nD]; exact hacc2) lacc (by omega) ?_
          have hp' : hid D2 H8 p = none := by rw [hid_ne (Ne.symm nD)]; exact hp
          rw [hid_new (Ne.symm nD), fs, List.map_append]
          exact (rps_sub (sub_new hp') _ hR7).app (.one (.tup upd_same (.cons (.int _) (.cons (.str _) .nil))))
      · rw [lal, List.take_length] at hR7
        refine q.go ((e13.trans e5).trans e7) ⟨.lst hacc2 (rps_sub sub_hid _ hR7), fun p hp => ?_⟩
        obtain ⟨r, hr1, hr2⟩ := List.mem_filterMap.mp hp
        cases hd : dblAt M r with
        | none => rw [hd] at hr2; cases hr2
        | some wd =>
          rw [hd] at hr2
          cases hr2
          exact hle r hr1 wd hd
end
end Tw
/-! Triesgrow: led rounds -/
namespace Tw
open PySem PySem.Spec PyProof.Rows L2 Tg NdefX LamX
open scoped Classical
noncomputable def ledFor (M : Mac) (l : List Int) (r : Int) : List (Int × Int × List Nat) := l.filterMap fun q => (ledAt M r q).map fun w => (r, q, w)
theorem usefulL_len {M : Mac} (g : Good M) : (usefulL M).length ≤ 12 := by
  have := List.length_filter_le (fun r => decide (Useful M r)) (rangeI M.n)
  rw [rangeI_len] at this
  have n2 := g.n2
  have n1 := g.n1
  show (List.filter _ _).length ≤ 12
  omega
theorem rp_upd {H : Hp} {d : Addr} {xs : List V} {o : HO} (h : H d = some (.lst xs)) : Sub (hid d H) (upd H d o) := by
  refine ⟨fun a ys e => ?_, fun a ys e => ?_⟩ <;> (by_cases z : a = d)
  · subst z; simp [hid] at e
  · rw [upd_ne z]; rwa [hid_ne z] at e
  · subst z; simp [hid] at e
  · rw [upd_ne z]; rwa [hid_ne z] at e
section
variable {P : Program} {w : World} {K : PySem.W.Frag} {mg : Str → Option Value} {base : Heap}
theorem ok_led_rounds (T : Txt K mg) (TB : Tbs T base) : FnOk P w K mg base CX0 8 T.led_rounds.f T.led_rounds.fd P_led_rounds (sp_led_rounds T.Ts) := by
  refine T.led_rounds.F.ok sc_led_rounds (fun vs H Q E h => ?_) (fun cdv A outer s H vs Q E hr h => ⟨_, (pss_cons (ps_set (i := 1) sc_led_rounds.nd rfl (Or.inl rfl) (pe_call (ok_useful T) (hr.mono (by decide)) rfl T.useful.g T.useful.F.kp T.useful.b .nil pass0 (pa_cons (pv 0) pa_nil)))
    (pss_cons (ps_set (i := 2) sc_led_rounds.nd rfl (Or.inl rfl) (pe_call (ok_by_signs T) (hr.mono (by decide)) rfl T.by_signs.g T.by_signs.F.kp T.by_signs.b .nil pass0 (pa_cons (pe_call (ok_trimmed T) (hr.mono (by decide)) rfl T.trimmed.g T.trimmed.F.kp T.trimmed.b .nil pass0 (pa_cons (pv 0) pa_nil)) pa_nil)))
    (pss_cons (ps_set (i := 3) sc_led_rounds.nd rfl (Or.inl rfl) (pe_call (ok_signs_of T) (hr.mono (by decide)) rfl T.signs_of.g T.signs_of.F.kp T.signs_of.b .nil pass0 (pa_cons (pv 0) pa_nil)))
    (pss_cons (ps_set (i := 4) sc_led_rounds.nd rfl (Or.inl rfl) (pe_lst pa_nil))
    (pss_cons (ps_for PassesOwn.never rfl (pi_list (pv 1)) (pg_name (i := 5) sc_led_rounds.nd rfl (Or.inl rfl))
     (pss_one (ps_for PassesOwn.never rfl (pi_list (pv 1)) (pg_name (i := 6) sc_led_rounds.nd rfl (Or.inl rfl))
      (pss_cons (ps_set (i := 7) sc_led_rounds.nd rfl (Or.inl rfl) pe_non)
       (pss_cons (ps_if (pt_cmpR op_ne (pv 5) (pv 6) (nomark _)) (pss_one (ps_set (i := 7) sc_led_rounds.nd rfl (Or.inl rfl) (pe_call (ok_led_text T TB) (hr.mono (by decide)) rfl T.led_text.g T.led_text.F.kp T.led_text.b .nil pass0 (pa_cons (pv 2) (pa_cons (pv 3) (pa_cons (pv 5) (pa_cons (pv 6) pa_nil))))))) pss_nil)
       (pss_one (ps_if (pt_cmpR op_notN (pv 7) pe_non (nomark _)) (pss_one (ps_expr (pe_bm PySem.F.plainAttrs_list PySem.F.slot_list_append PySem.F.type_list_append mt_append (pv 4) (pa_cons (pe_tup (pa_cons (pv 5) (pa_cons (pv 6) (pa_cons (pv 7) pa_nil)))) pa_nil)))) pss_nil)))))))
    (pss_one (ps_ret (pv 4)))))))), ?_⟩)
  · obtain ⟨v, M, rfl, _⟩ := h; rfl
  · obtain ⟨v, M, rfl, hv, g, hT, q⟩ := h
    refine ⟨_, rfl, _, M, rfl, hv, g, fun v1 H1 e1 h1 => ?_⟩
    obtain ⟨rm, rfl, hrm⟩ := h1
    refine ⟨_, rfl, _, M, rfl, e1.rp hv, g, fun v2 H2 e2 h2 => ?_⟩
    refine ⟨_, trim M, rfl, h2, g.trim, fun v3 H3 e3 h3 => ?_⟩
    obtain ⟨tb, kvs, rfl, htb, ok⟩ := h3
    have e13 := (e1.trans e2).trans e3
    have hrm3 := (e2.trans e3).lst hrm
    have lu := usefulL_len g
    refine ⟨_, rfl, _, M, rfl, e13.rp hv, g, fun v4 H4 e4 h4 => ?_⟩
    obtain ⟨sgs, cs, rfl, hsg, so, hm, le⟩ := h4
    have tbi := tbIn_of g (e4.at htb plain_dT) (ok.mono e4) hsg so hm le
    have e14 := e13.trans e4
    have hrm4 := e4.lst hrm3
    refine ⟨Nat.zero_le _, fun fd hfd => ?_⟩
    have e5 : Xt T.Ts H4 (upd H4 fd (.lst [])) := .new hfd
    have fdH : H fd = none := e14.dom _ hfd
    refine ⟨_, rfl, rm, rfl, ⟨_, .of (e5.lst hrm4)⟩, for_it (walk_list (xs := (usefulL M).map V.int)) (fun i σ H' => ∃ (acc : List V) (v5 v6 v7 : Option V), σ = [some v, some (.ref rm), some (.ref tb), some (.ref sgs), some (.ref fd), v5, v6, v7] ∧ Xt T.Ts H4 H' ∧ H' fd = some (.lst acc) ∧
      RpAll (hid fd H') acc ((((usefulL M).take i).flatMap fun r => ledFor M (usefulL M) r).map lD) ∧ (∀ p ∈ ((usefulL M).take i).flatMap fun r => ledFor M (usefulL M) r, LetOk p.2.2) ∧ acc.length ≤ i * 12)
      ⟨[], none, none, none, rfl, e5, upd_same, .nil, fun _ h => (by cases h), Nat.zero_le _⟩ (fun i σ H' _ h => ?_) ?_ ?_⟩
    · obtain ⟨_, _, _, _, _, e, _⟩ := h; exact .of (e.lst hrm4)
    · rintro i x σ H6' H6 hi ⟨acc0, v5, v6, v7, rfl, e6, hf6, ra0, ok0, la0⟩ ⟨rfl, hx⟩
      obtain ⟨r, hr', rfl⟩ := int_at hx
      rw [List.length_map] at hi
      refine ⟨_, rfl, rm, rfl, ⟨_, .of (e6.lst hrm4)⟩, for_it (walk_list (xs := (usefulL M).map V.int)) (fun j σ H' => ∃ (acc : List V) (v6 v7 : Option V), σ = [some v, some (.ref rm), some (.ref tb), some (.ref sgs), some (.ref fd), some (.int r), v6, v7] ∧ Xt T.Ts H4 H' ∧ H' fd = some (.lst acc) ∧
        RpAll (hid fd H') acc (((((usefulL M).take i).flatMap fun r => ledFor M (usefulL M) r) ++ ledFor M ((usefulL M).take j) r).map lD) ∧ (∀ p ∈ (((usefulL M).take i).flatMap fun r => ledFor M (usefulL M) r) ++ ledFor M ((usefulL M).take j) r, LetOk p.2.2) ∧ acc.length ≤ i * 12 + j)
        ⟨acc0, v6, v7, rfl, e6, hf6, by rw [List.take_zero]; simpa [ledFor] using ra0, fun p hp => ok0 p (by simpa [ledFor] using hp), by omega⟩ (fun j σ H' _ h => ?_) ?_ ?_⟩
      · obtain ⟨_, _, _, _, e, _⟩ := h; exact .of (e.lst hrm4)
      · rintro j x σ H7' H7 hj ⟨acc, v6, v7, rfl, e7, hf7, ra, oka, la⟩ ⟨rfl, hx⟩
        obtain ⟨o, ho', rfl⟩ := int_at hx
        rw [List.length_map] at hj
        have step : ledFor M ((usefulL M).take (j + 1)) r = ledFor M ((usefulL M).take j) r ++ ((ledAt M r o).map fun w => (r, o, w)).toList := by
          unfold ledFor
          rw [take_succ' ho', List.filterMap_append]
          cases hd : ledAt M r o <;> simp [hd]
        have fin : ∀ (o7 : Option (List Nat)) (H8 : Hp), o7 = ledAt M r o → (∀ w, o7 = some w → LetOk w) → Xt T.Ts H4 H8 → H8 fd = some (.lst acc) → RpAll (hid fd H8) acc (((((usefulL M).take i).flatMap fun r => ledFor M (usefulL M) r) ++ ledFor M ((usefulL M).take j) r).map lD) →
            tIfS (tTest (tOp (fun x y H Q => y = .non ∧ Q (.bl (!decide (x = .non))) H) (tVar 7) (tC .non))) (tDrop (tBM (cxOf CX0 P w K mg base N_led_rounds "led_rounds" (defScope s_led_rounds) T.led_rounds.f cdv A outer s H E).nox.K "list" rAppend (tVar 4) (tCons (tTup (tCons (tVar 5) (tCons (tVar 6) (tCons (tVar 7) tNil)))) tNil))) tNext
              { nx := fun σ H' => ∃ (acc : List V) (v6 v7 : Option V), σ = [some v, some (.ref rm), some (.ref tb), some (.ref sgs), some (.ref fd), some (.int r), v6, v7] ∧ Xt T.Ts H4 H' ∧ H' fd = some (.lst acc) ∧
                RpAll (hid fd H') acc (((((usefulL M).take i).flatMap fun r => ledFor M (usefulL M) r) ++ ledFor M ((usefulL M).take (j + 1)) r).map lD) ∧ (∀ p ∈ (((usefulL M).take i).flatMap fun r => ledFor M (usefulL M) r) ++ ledFor M ((usefulL M).take (j + 1)) r, LetOk p.2.2) ∧ acc.length ≤ i * 12 + (j + 1), ct := fun _ _ => True, bk := fun _ _ => True, rt := Q }
              [some v, some (.ref rm), some (.ref tb), some (.ref sgs), some (.ref fd), some (.int r), some (.int o), some (oW o7)] H8 := by
          intro o7 H8 h7 hw e8 hf8 r8
          rw [step, ← List.append_assoc]
          refine ⟨_, rfl, rfl, _, rfl, ?_⟩
          cases o7 with
          | none =>
            refine iteF ⟨acc, _, _, rfl, e8, hf8, ?_, ?_, by omega⟩
            · rw [← h7]; simpa using r8
            · rw [← h7]; simpa using oka
          | some wd =>
            refine ifT rfl ⟨_, rfl, .inl ⟨rfl, _, .of hf8⟩, ?_⟩
            refine ⟨_, rfl, _, rfl, _, rfl, (by show 3 ≤ sizeLine; decide), fun p hp => ?_⟩
            have nD : fd ≠ p := ne_of_none hf8 hp
            have hf9 : upd H8 p (.tup [.int r, .int o, .str (wS wd)]) fd = some (.lst acc) := by rw [upd_ne nD]; exact hf8
            refine ⟨fd, _, _, rfl, rfl, hf9, len_lt (by omega), ?_⟩
            have hp' : hid fd H8 p = none := by rw [hid_ne (Ne.symm nD)]; exact hp
            refine ⟨acc ++ [.ref p], _, _, rfl, (e8.trans (.new hp)).put hfd hf9 plain_lst, upd_same, ?_, ?_, by rw [List.length_append]; show acc.length + 1 ≤ _; omega⟩
            · rw [hid_upd, hid_new (Ne.symm nD), ← h7, List.map_append]
              exact (rps_sub (sub_new hp') _ r8).app (.one (.tup upd_same (.cons (.int _) (.cons (.int _) (.cons (.str _) .nil)))))
            · intro p hp
              rw [← h7] at hp
              rcases List.mem_append.mp hp with hp | hp
              · exact oka p hp
              · obtain rfl : p = (r, o, wd) := by simpa using hp
                exact hw wd rfl
        refine ⟨_, rfl, _, rfl, rfl, _, rfl, ?_⟩
        by_cases hro : r = o
        · refine ifF (by rw [decide_eq_true (congrArg V.int hro)]; rfl) ?_
          have : ledAt M r o = none := if_pos hro
          exact fin none H7 this.symm (fun _ h => by cases h) e7 hf7 ra
        · refine ifT (by rw [decide_eq_false fun z => hro (V.int.inj z)]; rfl) ?_
          refine ⟨_, rfl, _, rfl, _, rfl, _, rfl, tb, sgs, r, o, kvs, cs, (trim M).S, rfl, tbi.mono e7, (e14.trans e7).tab hT, fun v8 H8 e8 h8 => ?_⟩
          obtain ⟨rfl, hw⟩ := h8
          have hl : ledAt M r o = (fo (PL (trim M).S r o)).map List.reverse := if_neg hro
          refine fin _ H8 hl.symm (fun w' hw' => ?_) (e7.trans e8) (e8.lst hf7) (rps_sub (hid_sub e8.sub) _ ra)
          cases hfo : fo (PL (trim M).S r o) with
          | none => rw [hfo] at hw'; cases hw'
          | some w0 =>
            rw [hfo] at hw'
            cases hw'
            exact letOk_rev (hw w0 hfo)
      · rintro σ H7 ⟨acc, v6, v7, rfl, e7, hf7, ra, oka, la⟩
        rw [List.length_map, List.take_length] at ra oka
        rw [List.length_map] at la
        have st : ((usefulL M).take (i + 1)).flatMap (fun r => ledFor M (usefulL M) r) = ((usefulL M).take i).flatMap (fun r => ledFor M (usefulL M) r) ++ ledFor M (usefulL M) r := by
          rw [take_succ' hr', List.flatMap_append]; simp
        exact ⟨acc, _, _, _, rfl, e7, hf7, by rw [st]; exact ra, by rw [st]; exact oka, by omega⟩
    · rintro σ H6 ⟨acc, v5, v6, v7, rfl, e6, hf6, ra, oka, la⟩
      rw [List.length_map, List.take_length] at ra oka
      exact ⟨_, rfl, q.go (e14.trans e6) ⟨.lst hf6 (rps_sub sub_hid _ ra), oka⟩⟩
end
end Tw
/-! Triesgrow: ranks, growth -/
namespace Tw
open PySem PySem.Spec PyProof.Rows L2 Tg NdefX LamX
open scoped Classical
theorem upd_self {H : Hp} {a : Addr} {o : HO} (h : H a = some o) : upd H a o = H := by
  funext b
  by_cases e : b = a
  · subst e; rw [upd_same, h]
  · rw [upd_ne e]
theorem putK_len {kvs : List (Key × V)} {k : Key} {v : V} (h : (valV kvs k).isSome = true) : (putK kvs k v).length = kvs.length := by
  unfold putK
  rw [valV_any, if_pos h, List.length_map]
/-- the numbers found -/
structure Fnd (kvs : List (Key × V)) (us : List Int) (F : Int → Nat) : Prop where
  at_ : ∀ r ∈ us, valV kvs (.inl r) = some (.int (F r))
  no : ∀ r, r ∉ us → valV kvs (.inl r) = none
  out : ∀ r, r ∉ us → F r = 0
  ln : kvs.length ≤ us.length
def sumN (us : List Int) (F : Int → Nat) : Nat := (us.map F).sum
theorem sumN_le {F G : Int → Nat} (h : ∀ r, F r ≤ G r) : ∀ us : List Int, sumN us F ≤ sumN us G
  | [] => Nat.le_refl _
  | r :: us => by
    have := sumN_le h us
    have := h r
    unfold sumN at *
    simp only [List.map_cons, List.sum_cons]
    omega
theorem sumN_lt {F G : Int → Nat} (h : ∀ r, F r ≤ G r) : ∀ {us : List Int} {r : Int}, r ∈ us → F r < G r → sumN us F < sumN us G
  | r' :: us, r, hr, hl => by
    have h1 := sumN_le h us
    have h2 := h r'
    rcases List.mem_cons.mp hr with rfl | hr
    · unfold sumN at *
      simp only [List.map_cons, List.sum_cons]
      omega
    · have h3 := sumN_lt h hr hl
      unfold sumN at *
      simp only [List.map_cons, List.sum_cons]
      omega
theorem sumN_bd {F : Int → Nat} {k : Nat} (h : ∀ r, F r ≤ k) : ∀ us : List Int, sumN us F ≤ us.length * k
  | [] => Nat.zero_le _
  | r :: us => by
    have := sumN_bd h us
    have := h r
    unfold sumN at *
    simp only [List.map_cons, List.sum_cons, List.length_cons, Nat.succ_mul]
    omega
/-- one run over the pairs -/
structure Rsd (us : List Int) (L : List (Int × Int)) (b : Nat) (F F' : Int → Nat) (ch : Bool) : Prop where
  up : ∀ r, F r ≤ F' r
  least : ∀ g : Int → Nat, (∀ p ∈ L, g p.1 + b ≤ g p.2) → (∀ r, F r ≤ g r) → ∀ r, F' r ≤ g r
  no : ch = false → F' = F ∧ ∀ p ∈ L, F p.1 + b ≤ F p.2
  yes : ch = true → sumN us F < sumN us F'
def sp_raised : Sp := fun vs H Q _ => ∃ (d pl : Addr) (ps : List V) (kvs : List (Key × V)) (us : List Int) (L : List (Int × Int)) (b : Nat) (F : Int → Nat), vs = [.ref d, .ref pl, .int b] ∧ H d = some (.dK kvs) ∧ H pl = some (.lst ps) ∧ RpAll H ps (L.map pD) ∧ us.length ≤ 1000 ∧ Fnd kvs us F ∧
  (∀ p ∈ L, p.1 ∈ us ∧ p.2 ∈ us) ∧ ∀ kvs' F' ch, Fnd kvs' us F' → Rsd us L b F F' ch → Q (.bl ch) (upd H d (.dK kvs'))
section
variable {P : Program} {w : World} {K : PySem.W.Frag} {mg : Str → Option Value} {base : Heap}
theorem ok_raised (T : Txt K mg) : FnOk P w K mg base CX0 1 T.raised.f T.raised.fd P_raised sp_raised := by
  refine T.raised.F.ok sc_raised (fun vs H Q E h => ?_) (fun cdv A outer s H vs Q E hr h => ⟨_, (pss_cons (ps_set (i := 3) sc_raised.nd rfl (Or.inl rfl) pe_bl)
    (pss_cons (ps_for PassesOwn.never rfl (pi_list (pv 1)) (pg_tup rfl (pgs_cons (pg_name (i := 4) sc_raised.nd rfl (Or.inl rfl)) (pgs_cons (pg_name (i := 5) sc_raised.nd rfl (Or.inl rfl)) pgs_nil)))
     (pss_one (ps_if (pt_cmpR op_lt (pe_dget (hu_of hr) (pv 0) (pv 5) (fun _ _ => rfl)) (pe_op op_add (pe_dget (hu_of hr) (pv 0) (pv 4) (fun _ _ => rfl)) (pv 2)) (nomark _)) (pss_cons (ps_dput (hu_of hr) (pv 0) (pv 5) (pe_op op_add (pe_dget (hu_of hr) (pv 0) (pv 4) (fun _ _ => rfl)) (pv 2)) rfl)
       (pss_one (ps_set (i := 3) sc_raised.nd rfl (Or.inl rfl) pe_bl))) pss_nil)))
    (pss_one (ps_ret (pv 3))))), ?_⟩)
  · obtain ⟨_, _, _, _, _, _, _, _, rfl, _⟩ := h; rfl
  · obtain ⟨d, pl, ps, kvs, us, L, b, F, rfl, hd, hpl, hps, lus, fd, hL, q⟩ := h
    have plp := RpAll.len hps
    rw [List.length_map] at plp
    have up_at : ∀ {kvs' : List (Key × V)} {a : Addr} {ys : List V}, H a = some (.lst ys) → upd H d (.dK kvs') a = some (.lst ys) := fun h => by rw [upd_ne (ne_of h hd fun z => nomatch z)]; exact h
    have up_tp : ∀ {kvs' : List (Key × V)} {a : Addr} {ys : List V}, H a = some (.tup ys) → upd H d (.dK kvs') a = some (.tup ys) := fun h => by rw [upd_ne (ne_of h hd fun z => nomatch z)]; exact h
    refine ⟨_, rfl, pl, rfl, ⟨_, .of hpl⟩, for_it (walk_list (xs := ps)) (fun i σ H' => ∃ (kvs' : List (Key × V)) (F' : Int → Nat) (ch : Bool) (v4 v5 : Option V), σ = [some (.ref d), some (.ref pl), some (.int b), some (.bl ch), v4, v5] ∧ H' = upd H d (.dK kvs') ∧ Fnd kvs' us F' ∧
      (∀ r, F r ≤ F' r) ∧ (∀ g : Int → Nat, (∀ p ∈ L, g p.1 + b ≤ g p.2) → (∀ r, F r ≤ g r) → ∀ r, F' r ≤ g r) ∧ (ch = false → F' = F ∧ ∀ p ∈ L.take i, F p.1 + b ≤ F p.2) ∧ (ch = true → sumN us F < sumN us F'))
      ⟨kvs, F, false, none, none, rfl, (upd_self hd).symm, fd, fun _ => Nat.le_refl _, fun g _ h => h, fun _ => ⟨rfl, fun _ h => by cases h⟩, fun h => by cases h⟩ (fun i σ H' _ h => ?_) ?_ ?_⟩
    · obtain ⟨_, _, _, _, _, _, rfl, _⟩ := h; exact .of (up_at hpl)
    · rintro i x σ H1 H2 hi ⟨kvs', F', ch, v4, v5, rfl, rfl, fd', hup, hle, hno, hye⟩ ⟨rfl, hx⟩
      obtain ⟨p, hp, hxp⟩ := RpAll.getM hps hx
      obtain ⟨pa, rfl, hpa⟩ := pD_inv hxp
      obtain ⟨m1, m2⟩ := hL p (List.mem_of_getElem? hp)
      have g1 : DGet (upd H d (.dK kvs')) d (.int p.1) (some (.int (F' p.1))) := by rw [← fd'.at_ _ m1]; exact .k (k := .inl p.1) upd_same
      have g2 : DGet (upd H d (.dK kvs')) d (.int p.2) (some (.int (F' p.2))) := by rw [← fd'.at_ _ m2]; exact .k (k := .inl p.2) upd_same
      refine ⟨pa, _, rfl, .inl (.of (up_tp hpa)), rfl, _, _, rfl, _, _, rfl, rfl, ?_⟩
      refine ⟨_, rfl, _, rfl, d, _, rfl, g2, ?_⟩
      refine ⟨_, rfl, _, rfl, d, _, rfl, g1, _, rfl, _, _, rfl, rfl, _, _, rfl, rfl, _, rfl, ?_⟩
      by_cases hlt : F' p.2 < F' p.1 + b
      · refine ifT (decide_eq_true (by show ((F' p.2 : Nat) : Int) < (F' p.1 : Nat) + (b : Nat); omega)) ?_
        refine ⟨_, rfl, _, rfl, d, _, rfl, g1, _, rfl, _, _, rfl, rfl, _, rfl, _, rfl, d, _, rfl, .k (k := .inl p.2) upd_same (len_lt (by have := fd'.ln; omega)), ?_⟩
        rw [upd_upd]
        let F1 : Int → Nat := fun r => if r = p.2 then F' p.1 + b else F' r
        have e1 : F1 p.2 = F' p.1 + b := if_pos rfl
        have u1 : ∀ r, F' r ≤ F1 r := fun r => by
          by_cases e : r = p.2
          · rw [e, e1]; exact Nat.le_of_lt hlt
          · rw [show F1 r = F' r from if_neg e]; exact Nat.le_refl _
        refine ⟨_, F1, true, _, _, rfl, rfl, ⟨fun r hr' => ?_, fun r hr' => ?_, fun r hr' => ?_, ?_⟩, fun r => Nat.le_trans (hup r) (u1 r), fun g hg h r => ?_, fun h => (by cases h), fun _ => ?_⟩
        · rw [valV_put]
          by_cases e : r = p.2
          · subst e
            rw [if_pos rfl, e1]
            rfl
          · rw [if_neg fun z => e (Sum.inl.inj z), fd'.at_ r hr']
            show some (V.int (F' r)) = some (V.int (F1 r))
            rw [show F1 r = F' r from if_neg e]
        · have e : r ≠ p.2 := fun z => hr' (z ▸ m2)
          rw [valV_put, if_neg fun z => e (Sum.inl.inj z)]
          exact fd'.no r hr'
        · have e : r ≠ p.2 := fun z => hr' (z ▸ m2)
          rw [show F1 r = F' r from if_neg e]
          exact fd'.out r hr'
        · rw [putK_len (by rw [fd'.at_ _ m2]; rfl)]
          exact fd'.ln
        · show (if r = p.2 then F' p.1 + b else F' r) ≤ g r
          have hg2 := hle g hg h
          split
          · rename_i e
            subst e
            have := hg p (List.mem_of_getElem? hp)
            have := hg2 p.1
            omega
          · exact hg2 r
        · exact Nat.lt_of_le_of_lt (sumN_le hup us) (sumN_lt u1 m2 (by rw [e1]; omega))
      · refine ifF (decide_eq_false (by show ¬ ((F' p.2 : Nat) : Int) < (F' p.1 : Nat) + (b : Nat); omega)) ?_
        refine ⟨kvs', F', ch, _, _, rfl, rfl, fd', hup, hle, fun h => ⟨(hno h).1, fun p' hp' => ?_⟩, hye⟩
        rw [take_succ' hp] at hp'
        rcases List.mem_append.mp hp' with hp' | hp'
        · exact (hno h).2 p' hp'
        · obtain rfl := List.mem_singleton.mp hp'
          rw [(hno h).1] at hlt
          omega
    · rintro σ H1 ⟨kvs', F', ch, v4, v5, rfl, rfl, fd', hup, hle, hno, hye⟩
      rw [plp, List.take_length] at hno
      exact ⟨_, rfl, q kvs' F' ch fd' ⟨hup, hle, hno, hye⟩⟩
end
end Tw
/-! Triesgrow: ranks, growth -/
namespace Tw
open PySem PySem.Spec PyProof.Rows L2 Tg NdefX LamX
open scoped Classical
theorem letOk_nice {w : List Nat} (h : LetOk w) : nice (.str (wS w)) = true := nice_str fun c hc => by have := h c hc; omega
theorem nice_dD {p : Int × List Nat} (h : LetOk p.2) : nice (dD p) = true := by
  show nice (.tuple [.int p.1, .str (wS p.2)]) = true
  simp [nice, nices]
  simpa [nice] using letOk_nice h
theorem nice_lD {p : Int × Int × List Nat} (h : LetOk p.2.2) : nice (lD p) = true := by
  show nice (.tuple [.int p.1, .int p.2.1, .str (wS p.2.2)]) = true
  simp [nice, nices]
  simpa [nice] using letOk_nice h
theorem depth_dD (p : Int × List Nat) : (dD p).depth ≤ 60 := by
  show PyData.depth (.tuple [.int p.1, .str (wS p.2)]) ≤ 60
  simp [PyData.depth, PyData.depthAll]
theorem depth_lD (p : Int × Int × List Nat) : (lD p).depth ≤ 60 := by
  show PyData.depth (.tuple [.int p.1, .int p.2.1, .str (wS p.2.2)]) ≤ 60
  simp [PyData.depth, PyData.depthAll]
theorem shaped_dD {l : List (Int × List Nat)} (h : ∀ p ∈ l, LetOk p.2) : SeqAt.shaped (.list (l.map dD)) = true := shaped_list (fun z hz => nice_dD (h z hz)) fun z _ => depth_dD z
theorem shaped_lD {l : List (Int × Int × List Nat)} (h : ∀ p ∈ l, LetOk p.2.2) : SeqAt.shaped (.list (l.map lD)) = true := shaped_list (fun z hz => nice_lD (h z hz)) fun z _ => depth_lD z
theorem lD_inv {H : Hp} {v : V} {p : Int × Int × List Nat} (h : Rp H v (lD p)) : ∃ a, v = .ref a ∧ H a = some (.tup [.int p.1, .int p.2.1, .str (wS p.2.2)]) := by
  obtain ⟨a, xs, rfl, ht, hx⟩ := Rp.tuple_inv h
  cases hx with
  | cons h1 r =>
    cases r with
    | cons h2 r =>
      cases r with
      | cons h3 r =>
        cases r
        obtain rfl := Rp.int_inv h1
        obtain rfl := Rp.int_inv h2
        obtain rfl := Rp.str_inv h3
        exact ⟨a, rfl, ht⟩
theorem dD_inv {H : Hp} {v : V} {p : Int × List Nat} (h : Rp H v (dD p)) : ∃ a, v = .ref a ∧ H a = some (.tup [.int p.1, .str (wS p.2)]) := by
  obtain ⟨a, xs, rfl, ht, hx⟩ := Rp.tuple_inv h
  cases hx with
  | cons h1 r =>
    cases r with
    | cons h2 r =>
      cases r
      obtain rfl := Rp.int_inv h1
      obtain rfl := Rp.str_inv h2
      exact ⟨a, rfl, ht⟩
theorem flatMap_len {α β : Type} {f : α → List β} {k : Nat} (h : ∀ a, (f a).length ≤ k) : ∀ l : List α, (l.flatMap f).length ≤ l.length * k
  | [] => Nat.zero_le _
  | a :: l => by
    have h1 := flatMap_len h l
    have h2 := h a
    rw [List.flatMap_cons, List.length_append, List.length_cons, Nat.succ_mul]
    omega
theorem ledL_len {M : Mac} (g : Good M) : (ledL M).length ≤ 144 := by
  have h1 := flatMap_len (f := fun r => (usefulL M).filterMap fun q => (ledAt M r q).map fun w => (r, q, w)) (k := 12) (fun r => Nat.le_trans (List.length_filterMap_le _ _) (usefulL_len g)) (usefulL M)
  have h2 := usefulL_len g
  unfold ledL
  omega
theorem doubleL_len {M : Mac} (g : Good M) : (doubleL M).length ≤ 12 := Nat.le_trans (List.length_filterMap_le _ _) (usefulL_len g)
def oV : Option Int → V := fun o => o.elim .non .int
def oP : Option Int → PyData := fun o => o.elim .none .int
/-- ranks, handed back -/
def RkPost (M : Mac) : V → Hp → Prop := fun v H => match ranksL M with
  | none => v = .non
  | some l => ∃ p, v = .ref p ∧ H p = some (.lst (l.map oV))
def sp_ranks (T : List NTab) : Sp := fun vs H Q _ => ∃ (v : V) (M : Mac), vs = [v] ∧ Rp H v (mD M) ∧ Good M ∧ TabsN T H ∧ Ret T H Q (RkPost M)
def sp_greatest_rank (T : List NTab) : Sp := fun vs H Q _ => ∃ (p : Addr) (l : List (Option Int)), vs = [.ref p] ∧ H p = some (.lst (l.map oV)) ∧ l.length ≤ 1000 ∧ (∀ x, some x ∈ l → 0 ≤ x) ∧ Ret T H Q fun v _ => v = .int (grk l)
theorem stepP_len {M : Mac} (g : Good M) : (stepP M).length ≤ 200 := by
  show (List.map _ _).length ≤ 200
  rw [List.length_map]
  exact g.trim.Sn
section
variable {P : Program} {w : World} {K : PySem.W.Frag} {mg : Str → Option Value} {base : Heap}
theorem ok_ranks (T : Txt K mg) (TB : Tbs T base) : FnOk P w K mg base CX0 9 T.ranks.f T.ranks.fd P_ranks (sp_ranks T.Ts) := by
  refine T.ranks.F.ok sc_ranks (fun vs H Q E h => ?_) (fun cdv A outer s H vs Q E hr h => ⟨_, (pss_cons (ps_if (pt_cmpR (op_neD hr.units) (pe_call (ok_double_rounds T TB) (hr.mono (by decide)) rfl T.double_rounds.g T.double_rounds.F.kp T.double_rounds.b .nil pass0 (pa_cons (pv 0) pa_nil)) (pe_lst pa_nil) (nomark _)) (pss_one (ps_ret pe_non)) pss_nil)
    (pss_cons (ps_set (i := 1) sc_ranks.nd rfl (Or.inl rfl) (pe_call (ok_useful T) (hr.mono (by decide)) rfl T.useful.g T.useful.F.kp T.useful.b .nil pass0 (pa_cons (pv 0) pa_nil)))
    (pss_cons (ps_setLc (i := 2) (own := [("room", 3), ("other", 4), ("text", 5)]) (by rfl) sc_ranks.nd rfl rfl (sw_true rfl rfl rfl (by decide +kernel)) (pi_list (pe_call (ok_led_rounds T TB) (hr.mono (by decide)) rfl T.led_rounds.g T.led_rounds.F.kp T.led_rounds.b .nil pass0 (pa_cons (pv 0) pa_nil))) (blkOk_by (own := [("room", 3), ("other", 4), ("text", 5)]) (N := N_ranks) (sc := defScope s_ranks) (by decide +kernel)) (fun _ _ _ _ _ => (pg_tupC (K := K) (n := 3) rfl rfl (pgs_cons (pg_name (i := 3) sc_ranks.nd rfl (Or.inl rfl) (Or.inr rfl)) (pgs_cons (pg_name (i := 4) sc_ranks.nd rfl (Or.inl rfl) (Or.inr rfl)) (pgs_cons (pg_name (i := 5) sc_ranks.nd rfl (Or.inl rfl) (Or.inr rfl)) pgs_nil))))) (fun _ _ _ _ _ => pts_nil) (fun _ _ _ _ _ => (pe_tup (pa_cons (pv 3) (pa_cons (pv 4) pa_nil)))))
    (pss_cons (ps_setLc (i := 6) (own := [("room", 3), ("sign", 7), ("to", 8)]) (by rfl) sc_ranks.nd rfl rfl (sw_true rfl rfl rfl (by decide +kernel)) (pi_list (pe_ix ix_tup (pe_call (ok_trimmed T) (hr.mono (by decide)) rfl T.trimmed.g T.trimmed.F.kp T.trimmed.b .nil pass0 (pa_cons (pv 0) pa_nil)) pe_int (fun _ _ => rfl))) (blkOk_by (own := [("room", 3), ("sign", 7), ("to", 8)]) (N := N_ranks) (sc := defScope s_ranks) (by decide +kernel)) (fun _ _ _ _ _ => (pg_tupC (K := K) (n := 3) rfl rfl (pgs_cons (pg_name (i := 3) sc_ranks.nd rfl (Or.inl rfl) (Or.inr rfl)) (pgs_cons (pg_name (i := 7) sc_ranks.nd rfl (Or.inl rfl) (Or.inr rfl)) (pgs_cons (pg_name (i := 8) sc_ranks.nd rfl (Or.inl rfl) (Or.inr rfl)) pgs_nil))))) (fun _ _ _ _ _ => pts_nil) (fun _ _ _ _ _ => (pe_tup (pa_cons (pv 3) (pa_cons (pv 8) pa_nil)))))
    (pss_cons (ps_set (i := 9) sc_ranks.nd rfl (Or.inr rfl) pe_dnewK)
    (pss_cons (ps_for PassesOwn.never rfl (pi_list (pv 1)) (pg_name (i := 3) sc_ranks.nd rfl (Or.inl rfl))
     (pss_one (ps_dput (hu_of hr) (pv 9) (pv 3) pe_int rfl)))
    (pss_cons (ps_set (i := 10) sc_ranks.nd rfl (Or.inl rfl) pe_bl)
    (pss_cons (ps_while PassesOwn.never (pt_val (pv 10))
     (pss_cons (ps_set (i := 10) sc_ranks.nd rfl (Or.inl rfl) (pe_call (ok_raised T) (hr.mono (by decide)) rfl T.raised.g T.raised.F.kp T.raised.b .nil pass0 (pa_cons (pv 9) (pa_cons (pv 2) (pa_cons pe_int pa_nil)))))
      (pss_one (ps_aug (i := 10) sc_ranks.nd rfl (.inl rfl) (pe_call (ok_raised T) (hr.mono (by decide)) rfl T.raised.g T.raised.F.kp T.raised.b .nil pass0 (pa_cons (pv 9) (pa_cons (pv 6) (pa_cons pe_int pa_nil)))) ip_orB))))
    (pss_one (ps_ret (pe_lc (own := [("room", 3)]) (by rfl) sc_ranks.nd (pi_range1 (by rfl) T.n_range (pa_cons (pe_ix ix_tup (pv 0) pe_int (fun _ _ => rfl)) pa_nil)) (blkOk_by (own := [("room", 3)]) (N := N_ranks) (sc := defScope s_ranks) (by decide +kernel)) (fun _ _ _ _ _ => (pg_name (i := 3) sc_ranks.nd rfl (Or.inl rfl) (Or.inr rfl))) (fun _ _ _ _ _ => pts_nil) (fun _ _ _ _ _ => (pe_dget2 (hu_of hr) (pv 9) (pv 3) pe_non ⟨by rfl, by rfl, by rfl, by rfl⟩))))))))))))), ?_⟩)
  · obtain ⟨v, M, rfl, _⟩ := h; rfl
  · obtain ⟨v, M, rfl, hv, g, hT, q⟩ := h
    refine ⟨_, rfl, _, M, rfl, hv, g, hT, fun v1 H1 e1 h1 => ?_⟩
    obtain ⟨h1, hd1⟩ := h1
    refine ⟨Nat.zero_le _, fun z hz => ⟨_, .list [], rp_dp _ ((Xt.new (T := T.Ts) hz).rp h1), .lst (.of upd_same) .nil, shaped_dD hd1, shaped_nil, _, rfl, ?_⟩⟩
    have e2 : Xt T.Ts H (upd H1 z (.lst [])) := e1.trans (.new hz)
    generalize upd H1 z (.lst []) = H2 at e2
    rw [ne_nil]
    by_cases hdb : doubleL M = []
    case neg =>
      refine ifT (by cases hq : doubleL M with | nil => exact (hdb hq).elim | cons => rfl) ?_
      refine q.go e2 ?_
      unfold RkPost ranksL
      rw [if_neg hdb]
    rw [hdb]
    refine iteF ?_
    refine ⟨_, rfl, _, M, rfl, e2.rp hv, g, fun v3 H3 e3 h3 => ?_⟩
    obtain ⟨rm, rfl, hrm⟩ := h3
    have e03 := e2.trans e3
    refine ⟨_, rfl, _, M, rfl, e03.rp hv, g, e03.tab hT, fun v4 H4 e4 h4 => ?_⟩
    obtain ⟨lp, xs, rfl, hlp, hxs⟩ := h4.1.list_inv
    have xl := RpAll.len hxs
    rw [List.length_map] at xl
    have ll := ledL_len g
    refine ⟨lp, rfl, ⟨_, .of hlp⟩, fun D hD => ?_⟩
    refine lc_sel (T := T.Ts) (walk_list (xs := xs)) hD (fun i acc Hh => RpAll Hh acc (((ledP M).take i).map pD)) (fun H5 e5 => .of (e5.lst hlp)) .nil (fun i x acc H5 H6 hi e5 hacc lacc hR5 hY => ?_) (fun acc H5 e5 hacc lacc hR5 => ?_)
    · obtain ⟨rfl, hx⟩ := hY
      obtain ⟨z, hz, hxz⟩ := RpAll.getM hxs hx
      obtain ⟨pa, rfl, hpa⟩ := lD_inv hxz
      refine ⟨pa, _, rfl, .inl (.of (e5.tup hpa)), rfl, _, _, rfl, _, _, rfl, _, _, rfl, rfl, rfl, ?_⟩
      refine ⟨_, rfl, _, rfl, (by show 2 ≤ sizeLine; decide), fun p hp => ?_⟩
      exact LcP.putT (z := (z.1, z.2.1)) hD e5 hacc lacc (by omega) hp (by rw [ledP, List.getElem?_map, hz]; rfl) hR5 fun H' _ h => pD_of h
    rw [show (ledP M).take xs.length = ledP M by rw [xl, ← List.length_map (as := ledL M) (fun p => (p.1, p.2.1))]; exact List.take_length] at hR5
    have hRL := rps_sub sub_hid _ hR5
    have hLA := hacc
    clear hR5 lacc hacc hD
    have e05 := (e03.trans e4).trans e5
    refine ⟨_, rfl, _, M, rfl, e05.rp hv, g, fun v6 H6 e6 h6 => ?_⟩
    obtain ⟨ta, tf, tl, sp, ss, rfl, m⟩ := mD_inv h6
    have hl := RpAll.len m.ss
    rw [List.length_map] at hl
    have lS := g.trim.Sn
    refine ⟨_, _, _, _, rfl, rfl, .of m.t, atI_nat (j := 3) rfl, sp, rfl, ⟨_, .of m.s⟩, fun D2 hD => ?_⟩
    refine lc_sel (T := T.Ts) (walk_list (xs := ss)) hD (fun i acc Hh => RpAll Hh acc (((stepP M).take i).map pD)) (fun H7 e7 => .of (e7.lst m.s)) .nil (fun i x acc H7 H8 hi e7 hacc lacc hR7 hY => ?_) (fun acc2 H7 e7 hacc lacc hR7 => ?_)
    · obtain ⟨rfl, hx⟩ := hY
      obtain ⟨z, hz, hxz⟩ := RpAll.getM m.ss hx
      obtain ⟨pa, rfl, hpa⟩ := sD_inv hxz
      refine ⟨pa, _, rfl, .inl (.of (e7.tup hpa)), rfl, _, _, rfl, _, _, rfl, _, _, rfl, rfl, rfl, ?_⟩
      refine ⟨_, rfl, _, rfl, (by show 2 ≤ sizeLine; decide), fun p hp => ?_⟩
      exact LcP.putT (z := (z.1, z.2.2)) hD e7 hacc lacc (by omega) hp (by rw [stepP, List.getElem?_map, hz]; rfl) hR7 fun H' _ h => pD_of h
    rw [show (stepP M).take ss.length = stepP M by rw [hl, ← List.length_map (as := (trim M).S) (fun s => (s.1, s.2.2))]; exact List.take_length] at hR7
    have hRS := rps_sub sub_hid _ hR7
    have hSA := hacc
    clear hR7 lacc hacc hD
    have hrm7 := ((e4.trans e5).trans (e6.trans e7)).lst hrm
    have e67 := e6.trans e7
    have hLA7 := e67.lst hLA
    have hRL7 := e67.rps hRL
    have e07 := e05.trans e67
    clear hLA hRL
    intro d hd
    have e8 : Xt T.Ts H7 (upd H7 d (.dK [])) := .new hd
    have us12 := usefulL_len g
    refine ⟨_, rfl, rm, rfl, ⟨_, .of (e8.lst hrm7)⟩, for_it (walk_list (xs := (usefulL M).map V.int)) (fun i σ H' => ∃ (kvs : List (Key × V)) (v3 : Option V), σ = [some v, some (.ref rm), some (.ref D), v3, none, none, some (.ref D2), none, none, some (.ref d), none] ∧ H' = upd H7 d (.dK kvs) ∧ kvs.length ≤ i ∧
      (∀ r ∈ (usefulL M).take i, valV kvs (.inl r) = some (.int 0)) ∧ ∀ r, r ∉ (usefulL M).take i → valV kvs (.inl r) = none)
      ⟨[], none, rfl, rfl, Nat.le_refl _, fun _ h => (by cases h), fun _ _ => rfl⟩ (fun i σ H' _ h => ?_) ?_ ?_⟩
    · obtain ⟨kvs, _, _, rfl, _⟩ := h; exact .of ((Xt.new (T := T.Ts) hd).lst hrm7)
    · rintro i x σ H8 H9 hi ⟨kvs, v3, rfl, rfl, kl, ka, kn⟩ ⟨rfl, hx⟩
      obtain ⟨r, hr', rfl⟩ := int_at hx
      rw [List.length_map] at hi
      refine ⟨_, rfl, _, rfl, d, _, rfl, .k (k := .inl r) upd_same (len_lt (by omega)), _, _, rfl, upd_upd, ?_, fun r1 h1 => ?_, fun r1 h1 => ?_⟩
      · exact Nat.le_trans (length_putK kvs (.inl r) (.int 0)) (by omega)
      · rw [take_succ' hr'] at h1
        rw [valV_put]
        by_cases e : r1 = r
        · subst e; rw [if_pos rfl]
        · rw [if_neg fun z => e (Sum.inl.inj z)]
          exact ka r1 ((List.mem_append.mp h1).resolve_right fun z => e (List.mem_singleton.mp z))
      · rw [take_succ' hr', List.mem_append, not_or, List.mem_singleton] at h1
        rw [valV_put, if_neg fun z => h1.2 (Sum.inl.inj z)]
        exact kn r1 h1.1
    rintro σ H8 ⟨kvs0, v3, rfl, rfl, kl, ka, kn⟩
    rw [List.length_map] at kl ka kn
    rw [List.take_length] at ka kn
    obtain ⟨F0, sol0, b0⟩ := sol_ex g hdb
    have inL : ∀ p ∈ ledP M, p.1 ∈ usefulL M ∧ p.2 ∈ usefulL M := fun p hp => let z := mem_ledP (p := p.1) (q := p.2) hp; ⟨z.2.1, z.2.2.1⟩
    have inS : ∀ p ∈ stepP M, p.1 ∈ usefulL M ∧ p.2 ∈ usefulL M := fun p hp => by
      obtain ⟨s', hs, rfl⟩ := List.mem_map.mp hp
      have := (trim_mem (x := s'.1) (a := s'.2.1) (y := s'.2.2)).mp hs
      exact ⟨g.mem_useful.mpr this.2.1, g.mem_useful.mpr this.2.2⟩
    refine ⟨fun m σ H' => ∃ (kvs : List (Key × V)) (F : Int → Nat) (ch : Bool) (v3 : Option V), σ = [some v, some (.ref rm), some (.ref D), v3, none, none, some (.ref D2), none, none, some (.ref d), some (.bl ch)] ∧ H' = upd H7 d (.dK kvs) ∧ Fnd kvs (usefulL M) F ∧
      (∀ f, IsSol (ledP M) (stepP M) f → ∀ r, F r ≤ f r) ∧ (ch = false → IsSol (ledP M) (stepP M) F) ∧ m = (if ch = true then 1 else 0) + (200 - sumN (usefulL M) F), ⟨_, kvs0, fun _ => 0, true, _, rfl, rfl, ⟨ka, kn, fun _ _ => rfl, kl⟩, fun _ _ _ => Nat.zero_le _, fun h => (by cases h), rfl⟩, ?_⟩
    rintro m σ H9 ⟨kvs, F, ch, v3, rfl, rfl, fd, le, so, rfl⟩
    refine ⟨_, rfl, ch, rfl, ?_⟩
    cases ch with
    | true =>
      refine ifT rfl ⟨_, fun σ' H' h => h, ?_⟩
      have up_at : ∀ {kvs' : List (Key × V)} {a : Addr} {ys : List V}, H7 a = some (.lst ys) → upd H7 d (.dK kvs') a = some (.lst ys) := fun h => by rw [upd_ne (ne_of_none h hd)]; exact h
      refine ⟨_, rfl, _, rfl, d, D, acc, kvs, usefulL M, ledP M, 1, F, rfl, upd_same, up_at hLA7, rps_sub (Xt.new (T := T.Ts) hd).sub _ hRL7, by omega, fd, inL, fun kvs1 F1 ch1 fd1 rs1 => ?_⟩
      rw [upd_upd]
      refine ⟨_, rfl, _, rfl, _, rfl, d, D2, acc2, kvs1, usefulL M, stepP M, 0, F1, rfl, upd_same, up_at hSA, rps_sub (Xt.new (T := T.Ts) hd).sub _ hRS, by omega, fd1, inS, fun kvs2 F2 ch2 fd2 rs2 => ?_⟩
      rw [upd_upd]
      refine ⟨ch1, ch2, rfl, rfl, ?_⟩
      have le1 : ∀ f, IsSol (ledP M) (stepP M) f → ∀ r, F1 r ≤ f r := fun f hf => rs1.least f hf.1 (le f hf)
      have le2 : ∀ f, IsSol (ledP M) (stepP M) f → ∀ r, F2 r ≤ f r := fun f hf => rs2.least f (fun p hp => hf.2 p hp) (le1 f hf)
      have bd : ∀ G : Int → Nat, (∀ r, G r ≤ F0 r) → sumN (usefulL M) G ≤ 144 := fun G h => by
        have := sumN_bd (fun r => Nat.le_trans (h r) (b0 r)) (usefulL M)
        have : (usefulL M).length * 12 ≤ 12 * 12 := Nat.mul_le_mul_right 12 us12
        omega
      have s0 := bd F (le F0 sol0)
      have s1 := bd F1 (le1 F0 sol0)
      have s2 := bd F2 (le2 F0 sol0)
      have u1 := sumN_le rs1.up (usefulL M)
      have u2 := sumN_le rs2.up (usefulL M)
      refine ⟨_, ?_, kvs2, F2, ch1 || ch2, _, rfl, rfl, fd2, le2, fun h => ?_, rfl⟩
      · cases ch1 with
        | true =>
          have := rs1.yes rfl
          show (if true = true then 1 else 0) + _ < 1 + _
          rw [if_pos rfl]
          omega
        | false =>
          cases ch2 with
          | true =>
            have := rs2.yes rfl
            show (if true = true then 1 else 0) + _ < 1 + _
            rw [if_pos rfl]
            omega
          | false =>
            show (if false = true then 1 else 0) + _ < 1 + _
            rw [if_neg Bool.false_ne_true]
            omega
      · rw [Bool.or_eq_false_iff] at h
        obtain ⟨x1, x2⟩ := rs1.no h.1
        obtain ⟨x3, x4⟩ := rs2.no h.2
        rw [x3, x1]
        rw [x1] at x4
        exact ⟨x2, x4⟩
    | false =>
      refine ifF rfl ?_
      have sF := so rfl
      have e9 : Xt T.Ts H (upd H7 d (.dK kvs)) := e07.trans (.new hd)
      obtain ⟨ma, mf, ml, msp, mss, rfl, mm⟩ := mD_inv (e9.rp hv)
      have nb := g.n2
      have nb1 := g.n1
      refine ⟨_, rfl, _, _, _, _, rfl, rfl, .of mm.t, atI_nat (j := 0) rfl, M.n, rfl, by omega, by omega, fun D3 hD3 => ?_⟩
      have rkF : ∀ r, rk M r = F r := fun r => rk_is sF fun f hf => le f hf r
      have hdk : upd H7 d (.dK kvs) d = some (.dK kvs) := upd_same
      generalize upd H7 d (.dK kvs) = H9 at *
      refine lc_sel (T := T.Ts) (walk_range (lo := 0)) hD3 (fun i acc Hh => acc = ((rangeI M.n).take i).map fun r => oV (if Useful M r then some (rk M r : Int) else none)) (fun H5 e5 => trivial) rfl (fun i x acc H10 H11 hi e10 hacc lacc hR10 hY => ?_) (fun acc3 H10 e10 hacc lacc hR10 => ?_)
      · obtain ⟨rfl, rfl⟩ := hY
        have hdk' := e10.at hdk plain_dK
        have hr := range_at hi
        refine ⟨rfl, _, rfl, d, rfl, .inl ⟨_, .of hdk'⟩, _, rfl, _, .k (k := .inl ((0 : Int) + i)) hdk', ?_⟩
        refine LcP.put hD3 e10 hacc lacc (by omega) ?_
        rw [hR10, take_succ' hr, List.map_append]
        congr 1
        show [_] = [oV (if Useful M ((0 : Int) + i) then some (rk M ((0 : Int) + i) : Int) else none)]
        congr 1
        by_cases u : Useful M ((0 : Int) + i)
        · rw [if_pos u, fd.at_ _ (g.mem_useful.mpr u), rkF]; rfl
        · rw [if_neg u, fd.no _ fun z => u (g.mem_useful.mp z)]; rfl
      · rw [range_all] at hR10
        refine q.go (e9.trans e10) ?_
        unfold RkPost ranksL
        rw [if_pos hdb]
        refine ⟨D3, rfl, ?_⟩
        rw [hacc, hR10, List.map_map]
        rfl
theorem grk_of {l : List (Option Int)} {m : Int} (h : l.filterMap id ≠ []) (nn : ∀ x, some x ∈ l → 0 ≤ x) (h1 : m ∈ l.filterMap id) (h2 : ∀ a ∈ l.filterMap id, a ≤ m) : grk l = m := by
  have hm : some m ∈ l := by
    obtain ⟨o, ho, e⟩ := List.mem_filterMap.mp h1
    obtain rfl : o = some m := e
    exact ho
  exact grk_is hm (nn m hm) fun x hx => h2 x (List.mem_filterMap.mpr ⟨some x, hx, rfl⟩)
theorem ok_greatest_rank (T : Txt K mg) : FnOk P w K mg base CX0 1 T.greatest_rank.f T.greatest_rank.fd P_greatest_rank (sp_greatest_rank T.Ts) := by
  refine T.greatest_rank.F.ok sc_greatest_rank (fun vs H Q E h => ?_) (fun cdv A outer s H vs Q E hr h => ⟨_, (pss_one (ps_ret (pe_callBK (cr_maxDf rfl) (by rfl) T.n_max (by decide +kernel) (pa_cons (pe_lc (own := [("rank", 1)]) (by rfl) sc_greatest_rank.nd (pi_list (pv 0)) (blkOk_by (own := [("rank", 1)]) (N := N_greatest_rank) (sc := defScope s_greatest_rank) (by decide +kernel)) (fun _ _ _ _ _ => (pg_name (i := 1) sc_greatest_rank.nd rfl (Or.inl rfl) (Or.inr rfl))) (fun _ _ _ _ _ => (pts_one (pt_cmpR op_notN (pv 1) pe_non (nomark _)))) (fun _ _ _ _ _ => (pv 1))) pa_nil) (pk_cons pe_int pk_nil)))), ?_⟩)
  · obtain ⟨_, _, rfl, _⟩ := h; rfl
  · obtain ⟨p, l, rfl, hp, ll, hnn, q⟩ := h
    refine ⟨_, rfl, p, rfl, ⟨_, .of hp⟩, fun D hD => ?_⟩
    refine lc_sel (T := T.Ts) (walk_list (xs := l.map oV)) hD (fun i acc Hh => acc = ((l.take i).filterMap id).map V.int) (fun H5 e5 => .of (e5.lst hp)) rfl (fun i x acc H5 H6 hi e5 hacc lacc hR5 hY => ?_) (fun acc H5 e5 hacc lacc hR5 => ?_)
    · obtain ⟨rfl, hx⟩ := hY
      rw [List.length_map] at hi
      rw [List.getElem?_map] at hx
      cases ho : l[i]? with
      | none => rw [ho] at hx; cases hx
      | some o =>
        rw [ho] at hx
        obtain rfl : oV o = x := Option.some.inj hx
        refine ⟨rfl, _, rfl, rfl, _, rfl, ?_⟩
        have st : (l.take (i + 1)).filterMap id = (l.take i).filterMap id ++ o.toList := by
          rw [take_succ' ho, List.filterMap_append]
          cases o <;> rfl
        cases o with
        | none => exact ifF rfl (LcP.keep e5 hacc lacc (by rw [st, hR5]; simp))
        | some r => exact ifT rfl ⟨_, rfl, LcP.put hD e5 hacc lacc (by omega) (by rw [st, hR5, List.map_append]; rfl)⟩
    · rw [List.length_map, List.take_length] at hR5
      subst hR5
      refine ⟨_, _, _, rfl, rfl, .inl (.of hacc), fun m hm => q.go e5 ?_⟩
      by_cases hn : l.filterMap id = []
      · rw [if_pos hn] at hm
        subst hm
        rw [grk, hn]
        rfl
      · rw [if_neg hn] at hm
        congr 1
        exact (grk_of hn hnn hm.1 hm.2).symm
noncomputable def grD (M : Mac) : PyData := match ranksL M with
  | none => .tuple [.str "doubles"]
  | some l => if grk l = 0 then .tuple [.str "never"] else .tuple [.str "power", .int (grk l)]
def sp_growth (T : List NTab) : Sp := fun vs H Q _ => ∃ (v : V) (M : Mac), vs = [v] ∧ Rp H v (mD M) ∧ Good M ∧ TabsN T H ∧ Ret T H Q fun v H' => Rp H' v (grD M)
theorem ranksL_len {M : Mac} {l : List (Option Int)} (g : Good M) (h : ranksL M = some l) : l.length ≤ 12 := by
  unfold ranksL at h
  by_cases c : doubleL M = []
  · rw [if_pos c] at h
    obtain rfl := Option.some.inj h
    rw [List.length_map, rangeI_len]
    have := g.n2
    omega
  · rw [if_neg c] at h; cases h
theorem ok_growth (T : Txt K mg) (TB : Tbs T base) : FnOk P w K mg base CX0 10 T.growth.f T.growth.fd P_growth (sp_growth T.Ts) := by
  refine T.growth.F.ok sc_growth (fun vs H Q E h => ?_) (fun cdv A outer s H vs Q E hr h => ⟨_, (pss_cons (ps_set (i := 1) sc_growth.nd rfl (Or.inl rfl) (pe_call (ok_ranks T TB) (hr.mono (by decide)) rfl T.ranks.g T.ranks.F.kp T.ranks.b .nil pass0 (pa_cons (pv 0) pa_nil)))
    (pss_cons (ps_if (pt_cmpR op_isN (pv 1) pe_non (nomark _)) (pss_one (ps_ret (pe_tup (pa_cons pe_str pa_nil)))) pss_nil)
    (pss_cons (ps_if (pt_cmpR op_eq (pe_call (ok_greatest_rank T) (hr.mono (by decide)) rfl T.greatest_rank.g T.greatest_rank.F.kp T.greatest_rank.b .nil pass0 (pa_cons (pv 1) pa_nil)) pe_int (nomark _)) (pss_one (ps_ret (pe_tup (pa_cons pe_str pa_nil)))) pss_nil)
    (pss_one (ps_ret (pe_tup (pa_cons pe_str (pa_cons (pe_call (ok_greatest_rank T) (hr.mono (by decide)) rfl T.greatest_rank.g T.greatest_rank.F.kp T.greatest_rank.b .nil pass0 (pa_cons (pv 1) pa_nil)) pa_nil)))))))), ?_⟩)
  · obtain ⟨v, M, rfl, _⟩ := h; rfl
  · obtain ⟨v, M, rfl, hv, g, hT, q⟩ := h
    refine ⟨_, rfl, _, M, rfl, hv, g, hT, fun v1 H1 e1 h1 => ?_⟩
    refine ⟨_, rfl, rfl, _, rfl, ?_⟩
    unfold RkPost at h1
    cases hr : ranksL M with
    | none =>
      rw [hr] at h1
      obtain rfl := h1
      refine ifT rfl ⟨(by show 1 ≤ sizeLine; decide), fun p hp => ?_⟩
      refine q.go (e1.trans (.new hp)) ?_
      unfold grD
      rw [hr]
      exact .tup upd_same (.one (.str _))
    | some l =>
      rw [hr] at h1
      obtain ⟨a, rfl, ha⟩ := h1
      have ll := ranksL_len g hr
      have nn : ∀ x, some x ∈ l → 0 ≤ x := fun x hx => (ranks_mem g hr hx).1
      refine iteF ?_
      refine ⟨_, rfl, a, l, rfl, ha, by omega, nn, fun v2 H2 e2 h2 => ?_⟩
      subst h2
      refine ⟨rfl, _, rfl, ?_⟩
      by_cases c : grk l = 0
      · refine ifT (by rw [c]; rfl) ⟨(by show 1 ≤ sizeLine; decide), fun p hp => ?_⟩
        refine q.go ((e1.trans e2).trans (.new hp)) ?_
        unfold grD
        rw [hr]
        show Rp _ _ (if grk l = 0 then _ else _)
        rw [if_pos c]
        exact .tup upd_same (.one (.str _))
      · refine ifF (by simp [c]) ⟨_, rfl, a, l, rfl, e2.lst ha, by omega, nn, fun v3 H3 e3 h3 => ?_⟩
        subst h3
        refine ⟨(by show 2 ≤ sizeLine; decide), fun p hp => ?_⟩
        refine q.go (((e1.trans e2).trans e3).trans (.new hp)) ?_
        unfold grD
        rw [hr]
        show Rp _ _ (if grk l = 0 then _ else _)
        rw [if_neg c]
        exact .tup upd_same (.cons (.str _) (.cons (.int _) .nil))
end
end Tw
/-! Triesgrow, rules of our own: an error class over OverflowError whose own maker hands a text to its base's and stores one field -/
namespace Tw
open PySem PySem.Spec PyProof.Rows L2 Tg NdefX LamX
theorem TmC.data {K : PySem.W.Frag} {C : Addr} (T : TmC K C) : ∃ cd : ClassData, PySem.W.clsIn K C = some cd ∧ cd.mro = .ref C :: ofT ∧ cd.hasDict = true := by
  obtain ⟨nm, q, N, bs, sn, sub, ab, col, dd, k0, k1, k2, k3, k5, h⟩ := T.cls
  refine ⟨{ name := nm, bases := bs, mro := .ref C :: ofT, ns := N, qualname := q, hasDict := true, slotNames := sn, subclasses := sub, abstract := ab, collection := col, hasDel := false }, ?_, rfl, rfl⟩
  unfold PySem.W.clsIn
  rw [h] <;> rfl
end Tw
namespace PySem
open PySem.W PySem.Calls PyProof.Rows PySem.HandSPX
open Builtin Builtin.ObjectAttr
theorem tw_store {prog : Program} {w : World} {A : Around} {R : Result → Shared → Prop} {hp : Heap} {g : Array GenState} {d : Drawn} {t : Nat} {os : OsState} {K : W.Frag} {name : Str} {tk : Tok} {v : Value} {x C : Addr} {fv : Array Value}
    (X : K.In hp) (T : Tw.TmC K C) (hx : hp.get? x = some { cls := .ref C, data := .fields fv }) (ha : W.findIn K (.ref C) name = some none)
    (hq : ∀ h' tk' dx, (∀ b o, b ≠ x → hp.get? b = some o → h'.get? b = some o) → hp.objs.size ≤ dx → dx ≠ x → h'.get? x = some { cls := .ref C, dict := some dx, data := .fields fv } → h'.Ns1 dx (fun y => if y = name then some v else none) → R (.ok (.ret .none)) ⟨h', g, d, tk', os⟩) :
    codeAny (model prog w) A (.call (.builtin "object.__setattr__") ⟨[.ref x, .str name tk, v], []⟩) R ⟨hp, g, d, t, os⟩ := by
  obtain ⟨cd, hcd, hm, hh⟩ := T.data
  have J : W.InstAt hp x { cls := .ref C, data := .fields fv } C none := ⟨hx, rfl, rfl, trivial⟩
  have at_cls : W.Looks (model prog w) hp (classData C) cd := W.looks_clsIn X hcd
  have at_mro : W.Looks (model prog w) hp (mroOf (.ref C)) (.ref C :: Tw.ofT) := hm ▸ at_cls.andThen .now
  have none_taken : W.Looks (model prog w) hp (storeTaker? none) none := .now
  have apart : x ≠ hp.objs.size := Nat.ne_of_lt (Heap.lt_size hx)
  have over : W.mroIn K C (.type "object") = some true := by
    unfold W.mroIn
    rw [hcd, Option.bind_some, hm]
    rfl
  have is_obj : W.Looks (model prog w) hp (isInstance (.ref x) (.type "object")) true := J.type.andThen (W.looks_mroIn X over)
  have pass : refuseLoop (.ref x) "__setattr__" (.ref C :: Tw.ofT) = pure () := by rw [refuseLoop_ref]; exact F.store_OverflowError.passes _
  refine codeAny_call_builtin F.store_object.slot.plain F.store_object.entry (@W.check_slot (model prog w) _ _ ⟨hp, g, d, t, os⟩ "object.__setattr__" "object" "__setattr__" (.ref x) [.str name tk, v] [] _ F.store_object.kind F.store_object.split is_obj (F.store_object.args _ _ _) ?_)
  rw [W.osa_eq, refuse_eq]
  refine wpAny_bind (wpAny_bind (J.type.at (wpAny_bind (at_mro.at ?_))))
  rw [pass]
  refine wpAny_pure (wpAny_bind (J.type.at (wpAny_bind ((W.looks_findIn X ha).at (wpAny_bind (none_taken.at ?_))))))
  show wpAny _ _ (storeInOwnDict (.ref x) (.ref C) (.str name tk) name v false) _ _ _
  obtain ⟨c1, c2, c3, c4, c5, c6, c7, c8, c9, c10, c11⟩ := cd
  obtain rfl : c6 = true := hh
  unfold storeInOwnDict ownDictForStores
  repeat (first | with_reducible refine store_in_new ?_ ?_ | with_reducible refine wpAny_loadPart_at hx ?_ | with_reducible refine at_cls.at ?_ | wp_step)
  · exact ⟨_, #[], _, (Heap.get?_update_ne _ _ _ _ apart.symm).trans (Heap.get?_push_at rfl rfl), rfl, fun e he => absurd he (by simp), fun _ => rfl⟩
  · intro h' tk' hn' same
    refine hq h' tk' hp.objs.size (fun b o hb ho => ?_) (Nat.le_refl _) apart.symm ?_ hn'
    · rw [same.2 b (Nat.ne_of_lt (Heap.lt_size ho)), Heap.get?_update_ne _ _ _ _ hb]
      exact Heap.get?_push_of_some _ ho
    · rw [same.2 x apart]
      exact Heap.get?_update_self _ (Heap.get?_push_of_some _ hx) rfl
end PySem
namespace Tw
open PySem PySem.Spec PyProof.Rows L2 Tg NdefX LamX
section
variable {X : Cx} {pins : List (Addr × Obj)} {σ : L2.St} {H : Hp} {s : Shared} {a C : Addr} {f : Str} {y : V} {u : Value} {E : Value → Shared → Prop} {A : Around}
theorem tm_field {Q : Unit → Shared → Prop} (T : TmC X.K C) (I : Inv X pins σ H s) (e : H a = some (exo a C none)) (hno : PySem.W.findIn X.K (.ref C) f = some none) (ry : RelV y u)
    (go : ∀ dx s', H dx = none → dx ≠ a → Inv X pins σ (upd (upd H dx (exd dx [(f, y)])) a (exo a C (some dx))) s' → Q () s') : wpAny (model X.prog X.w) A (setAttr (.ref a) f u) Q E s := by
  obtain ⟨t1, ho⟩ := exo_at I.hok e
  obtain ⟨hp, g, d, t, os⟩ := s
  refine PySem.W.set_plain I.kIn (od := none) ⟨ho, rfl, rfl, trivial⟩ T.sa (PySem.tw_store I.kIn T ho hno fun h' tk' dx k dn dne hx hn => ?_)
  have fresh : H dx = none := I.hok.fresh dn
  have old_ne : ∀ {b : Addr} {o : Obj}, hp.get? b = some o → b ≠ dx := fun q => Nat.ne_of_lt (Nat.lt_of_lt_of_le (Heap.lt_size q) dn)
  have free_ne : ∀ {b : Addr}, H b = none → b ≠ a := fun n z => by rw [z, e] at n; cases n
  have U : Un X.fs [] H (upd (upd H dx (exd dx [(f, y)])) a (exo a C (some dx))) hp h' :=
    { keep := fun b o q n _ _ => k b o (free_ne n) q
      slot := fun b o q n _ _ => ⟨o.slots, k b o (free_ne n) q⟩
      free := fun b o q n _ => (upd_ne (free_ne n)).trans ((upd_ne (old_ne q)).trans n)
      there := fun b o q _ => if z : b = a then ⟨_, z ▸ hx⟩ else ⟨o, k b o z q⟩
      tups := fun b xs q => (upd_ne (at_ne e q exo_tup)).trans ((upd_ne (ne_of_none q fresh)).trans q)
      frzs := fun b o v q => (upd_ne (at_ne e q exo_frz)).trans ((upd_ne (ne_of_none q fresh)).trans q)
      tbls := fun b ps q => ⟨#[], by rw [upd_ne (at_ne e q exo_tbl), upd_ne (ne_of_none q fresh), q]; simp⟩ }
  refine go dx _ fresh dne (I.un (t' := tk') U fun b o q => ?_)
  by_cases ba : b = a
  · subst ba
    rw [upd_same] at q
    cases q
    exact exo_ok hx
  rw [upd_ne ba] at q
  by_cases bd : b = dx
  · subst bd
    rw [upd_same] at q
    cases q
    exact exd_ok hn (relO_put (fs := []) ry fun _ => trivial)
  rw [upd_ne bd] at q
  refine (I.hok b o q).stay (fun c v hc z => k c v ?_ z) (fun c hc => ?_) fun c xs hc => ?_
  · rcases hc with rfl | hc
    · exact ba
    · exact at_ne e hc exo_own
  · rw [upd_ne (at_ne e hc exo_own), upd_ne (ne_of_none hc fresh)]
    exact hc
  · rw [upd_ne (at_ne e hc exo_tup), upd_ne (ne_of_none hc fresh)]
    exact hc
theorem tm_base {us : List Value} {Q : Value → Shared → Prop} (T : TmC X.K C) (I : Inv X pins σ H s) (e : H a = some (exo a C none)) (hl : us.length ≤ sizeLine) (go : ∀ s', Inv X pins σ H s' → Q .none s') :
    wpAny (model X.prog X.w) A (call (.builtin "OverflowError.__init__") (.ref a :: us)) Q E s := by
  obtain ⟨nm, q, N, bs, sn, sub, ab, col, dd, k0, k1, k2, k3, k5, hC⟩ := T.cls
  obtain ⟨t1, ho⟩ := exo_at I.hok e
  obtain ⟨hp, g, d, t, os⟩ := s
  refine wpAny_call (PySem.HandSPX.init_base F.excBase_OverflowError (fun _ => rfl) (I.kIn _ _ hC) ho hl fun h' t2 k hx => ?_)
  have same : upd H a (exo a C none) = H := upd_self e
  exact go _ (same ▸ I.write (t' := t) (x := a) (e := a) (o := exo a C none) (by rw [e]; exact True.intro) (.inl rfl) k ⟨_, hx⟩ (exo_ok hx))
end
/-! ### readings, rules -/
/-- OverflowError.__init__(self, ..) -/
def tTmI (K : PySem.W.Frag) (ta : TA) : TE := fun σ H Q => ta σ H fun vs H1 => ∃ (a C : Addr) (ws : List V), vs = .ref a :: ws ∧ ws.length ≤ 1000 ∧ TmC K C ∧ H1 a = some (exo a C none) ∧ Q .non H1
/-- self.f = e -/
def tTmS (K : PySem.W.Frag) (f : Str) (to te : TE) : TS := fun D σ H => te σ H fun y H1 => to σ H1 fun x H2 => ∃ a C : Addr, x = .ref a ∧ TmC K C ∧ PySem.W.findIn K (.ref C) f = some none ∧ H2 a = some (exo a C none) ∧
  ∀ dx, H2 dx = none → dx ≠ a → D.nx σ (upd (upd H2 dx (exd dx [(f, y)])) a (exo a C (some dx)))
theorem typ_OE : typeOf (.type "OverflowError") = pure (.type "type") := by kernel_rfl
section
variable {X : Cx} {o e : Expr} {es : List Expr} {to te : TE} {ta : TA} {f : Str} {p p' p1 p2 pos : Pos}
theorem pe_tmI {pl : Sem Bool} (hg : Gl X "OverflowError") (hm : X.mg "OverflowError" = none) (vV : PySem.W.findCls X.K (.type "OverflowError") (.type "type") "__init__" = some (.val (.builtin "OverflowError.__init__"))) (ha : PA X (e :: es) ta)
    (hc : eval (.Call (.Attribute (.Name "OverflowError" p1) "__init__" p2) (e :: es) [] pos) X.env = (do
      let ov ← eval (.Name "OverflowError" p1) X.env
      standAt p2.atName
      let (f, first) ← holding [ov] (getMethod ov "__init__" pl)
      callWith pos f first (backTo pos (starEach (e :: es) X.env)) (backToKw pos (keywordEach [] X.env))) := by rfl)
    (he : starEach (e :: es) X.env = (false, eval e X.env) :: starEach es X.env := by rfl) (hpl : (backTo pos (starEach es X.env)).any (·.1) = false := by rfl) :
    PE X (.Call (.Attribute (.Name "OverflowError" p1) "__init__" p2) (e :: es) [] pos) (tTmI X.K ta) := by
  refine ⟨fun pins s σ H Q I h => PySem.W.methodCall_KW (ld_blt I hg hm (show bootBuiltins "OverflowError" = some (.type "OverflowError") by decide +kernel) ?_ (by decide) (by decide)) hc⟩
  obtain ⟨m, fr⟩ := I.fr
  refine PySem.W.method_type fr I.ok.mod.kin typ_OE (by decide +kernel) vV (by decide +kernel) ?_
  show wpAny _ _ (callWith pos (Value.builtin "OverflowError.__init__") [] (backTo pos (starEach (e :: es) X.env)) []) _ _ _
  refine PyProof.Rows.callWith_method1 (thn (ha.run pos pins _ σ H _ (I.tok _) h) fun us s1 ⟨vs, H1, I1, r1, a, C, ws, ev, hl, T, ea, q⟩ => ?_) he hpl
  subst ev
  cases r1 with
  | @cons _ u0 _ ur ra rw' =>
    obtain rfl : u0 = Value.ref a := ra
    refine tm_base T I1 ea ?_ fun s' J => ⟨.non, H1, J, rfl, q⟩
    rw [← Paired.length rw', sizeLine_eq]
    omega
theorem ps_tmS (ho : PE X o to) (he : PE X e te) (hs : swapsWith e (some (.Attribute o f p')) pos.line X.env = pure false := by rfl) : PS X (.Assign [.Attribute o f p'] e pos) (tTmS X.K f to te) := by
  refine ⟨fun pins s σ H D I h => plainObj_wpAny_Assign_Attribute (thn (he.run pins s σ H _ I h) fun v s1 ⟨y, H1, I1, r1, q1⟩ => thn (ho.run pins s1 σ H1 _ I1 q1) fun u s2 ⟨x, H2, I2, r2, a, C, ex, T, hno, ea, q⟩ => ?_) hs⟩
  subst ex
  obtain rfl : u = Value.ref a := r2
  exact tm_field T I2 ea hno r1 fun dx s' n ne J => ⟨σ, _, J, q dx n ne⟩
/-- the maker: its base's, then the one field -/
def sp_tmInit (C : Addr) : Sp := fun vs H Q _ => ∃ (a : Addr) (y : V), vs = [.ref a, y] ∧ H a = some (exo a C none) ∧ ∀ d, H d = none → d ≠ a → Q .non (upd (upd H d (exd d [("many", y)])) a (exo a C (some d)))
/-- TooMany(e) -/
def tMkTm (C : Addr) (ta : TA) : L2.St → Hp → XK → Prop := fun σ H Q => ta σ H fun vs H1 => ∃ y, vs = [y] ∧ ∀ d, H1 d = none → Q (.ref C) (some d) (upd H1 d (.xd [("many", y)]))
theorem pmk_tm {x : Str} {C fI : Addr} {k : Nat} {fd : FuncData} (T : TmC X.K C) (iC : PySem.W.findIn X.K (.ref C) "__init__" = some (some (.ref fI))) (tI : PySem.W.typeIn X.K (.ref fI) = some (.type "function"))
    (F1 : FnOk X.prog X.w X.K X.mg X.base CX0 k fI fd ["self", "many"] (sp_tmInit C)) (hr : Room (k + 1) X.A) (hb : Binds X.K fd ["self", "many"] []) (hg : Gl X x) (hm : X.mg x = some (.ref C)) (ha : PA X (e :: es) ta)
    (hdb : (x == ("__debug__" : Str)) = false := by decide) (he : starEach (e :: es) X.env = (false, eval e X.env) :: starEach es X.env := by rfl) (hpl : (backTo pos (starEach es X.env)).any (·.1) = false := by rfl) :
    PMk X (.Call (.Name x p) (e :: es) [] pos) (tMkTm C ta) := by
  intro pins s σ H Q I h
  obtain ⟨nm, q, N, bs, sn, sub, ab, col, dd, k0, k1, k2, k3, k5, hC⟩ := T.cls
  refine wpAny_Call_Name_kw (ld_glob I hg hm (PySem.W.callWith_K (h₀ := X.base) I.ok.mod.kin T.kC (thn (ha.run pos pins s σ H _ I h) fun us s1 ⟨vs, H1, I1, r1, y, ev, q1⟩ => ⟨I1.kIn, ?_⟩) he hpl) hdb)
  show wpAny _ _ (call (.ref C) us) _ _ _
  obtain ⟨hp, g, dr, tk, os⟩ := s1
  generalize hA : hp.objs.size + 1 = A
  have le : hp.objs.size ≤ A := by omega
  have hn : H1 A = none := I1.hok.fresh le
  subst ev
  have hq : sp_tmInit C (.ref A :: ([y] ++ [])) (upd H1 A (exo A C none)) (fun v H2 => v = .non ∧ ∃ (d : Addr) (fs : List (Str × V)), H2 A = some (exo A C (some d)) ∧ H2 d = some (exd d fs) ∧ H1 d = none ∧ Q (.ref C) (some d) (upd (del H2 A) d (.xd fs))) (fun _ _ _ => False) := by
    refine ⟨A, y, rfl, upd_same, fun d hd dA => ⟨rfl, d, [("many", y)], upd_same, by rw [upd_ne dA]; exact upd_same, by rwa [upd_ne dA] at hd, ?_⟩⟩
    have hd1 : H1 d = none := by rwa [upd_ne dA] at hd
    have e : upd (del (upd (upd (upd H1 A (exo A C none)) d (exd d [("many", y)])) A (exo A C (some d))) A) d (.xd [("many", y)]) = upd H1 d (.xd [("many", y)]) := by
      funext b
      by_cases bd : b = d
      · subst bd; rw [upd_same, upd_same]
      · rw [upd_ne bd, upd_ne bd]
        by_cases bA : b = A
        · subst bA; rw [del_same, hn]
        · rw [del_ne bA, upd_ne bA, upd_ne bd, upd_ne bA]
    rw [e]
    exact q1 d hd1
  have kk : ∀ b o, hp.get? b = some o → ((hp.push (PySem.W.kdv_tup us)).push (PySem.HandSPX.excO C hp.objs.size)).get? b = some o := fun b o e => Heap.get?_push_of_some _ (Heap.get?_push_of_some _ e)
  have at_A : ((hp.push (PySem.W.kdv_tup us)).push (PySem.HandSPX.excO C hp.objs.size)).get? A = some (PySem.HandSPX.excO C hp.objs.size) := by subst hA; heap_get
  have I2 : Inv X pins σ (upd H1 A (exo A C none)) ⟨(hp.push (PySem.W.kdv_tup us)).push (PySem.HandSPX.excO C hp.objs.size), g, dr, tk, os⟩ := I1.laid (t' := tk) kk le (exo_ok at_A)
  have r2 : Vals (V.ref A :: ([y] ++ [])) (Value.ref A :: us) := .cons rfl (by rw [List.append_nil]; exact r1)
  have hl : (Value.ref A :: us).length = (["self", "many"] : List Str).length := (r2.length.symm.trans (F1.len _ _ _ _ hq))
  have hus : us.length ≤ sizeLine := by
    rw [← Paired.length r1]
    show 1 ≤ sizeLine
    decide
  refine wpAny_call (PySem.HandSPX.call_own F.excBase_OverflowError (fun _ => rfl) (I1.kIn _ _ hC) (PySem.W.looks_findIn I1.kIn iC) (fun self => PySem.W.bind_fn I1.kIn self tI) hus ?_)
  rw [hA]
  refine codeAny_mono (F1.run _ X.stack _ _ ⟨Value.ref A :: us, []⟩ (Value.ref A :: us) _ _ (fun _ _ _ => False) (hr.make C us []) (I2.env0.make C us []) (by have := hb _ (Value.ref A :: us) I2.kIn (by rw [List.append_nil]; exact hl); rwa [List.append_nil] at this) r2 hq) fun r s' hq' => ?_
  cases r with
  | error er => exact pass0 pins σ _ _ er s' I2 hq'
  | ok fl =>
    cases fl with
    | ret u =>
      obtain ⟨v, H2, os2, bare2, un2, hok2, rv, ev, d, fs, ea, ed, hd1, q2⟩ := hq'
      subst ev
      obtain ⟨h2, g2, d2, t2, os'⟩ := s'
      exact ⟨rv, mk_end (raises_own T.exC T.tyC) I1 le kk un2 hok2 os2 bare2 ea ed hd1 q2⟩
    | next => exact hq'.elim
    | brk => exact hq'.elim
    | cont => exact hq'.elim
/-- raise TooMany(e) -/
def tRaiseTm (C : Addr) (W : WX) (ta : TA) : TS := fun _ σ H => tMkTm C ta σ H fun cls d H' => W cls d σ H'
theorem ok_tmInit {P : Program} {w : World} {K : PySem.W.Frag} {mg : Str → Option Value} {base : Heap} (T : Tm K mg) : FnOk P w K mg base CX0 1 T.f T.fd ["self", "many"] (sp_tmInit T.C) := by
  refine T.F.ok sc_tmInit (fun vs H Q E h => ?_) (fun cdv A outer s H vs Q E hr h => ⟨_, (pss_cons (ps_expr (pe_tmI rfl T.mO T.vV (pa_cons (pv 0) (pa_cons pe_str pa_nil)))) (pss_one (ps_tmS (pv 0) (pv 1)))), ?_⟩)
  · obtain ⟨_, _, rfl, _⟩ := h; rfl
  · obtain ⟨a, y, rfl, ha, q⟩ := h
    exact ⟨_, rfl, a, T.C, _, rfl, by decide, T.T, ha, _, rfl, _, rfl, a, T.C, rfl, T.T, T.T.noM, ha, q⟩
theorem ps_raiseTM {W : WX} {a : Expr} {k : Nat} {p pos pos2 : Pos} (hc : X.calm = true) (T : Tm X.K X.mg) (hr : Room k X.A) (tk : Takes X W) (ha : PA X [a] ta) (hk : 2 ≤ k := by decide) (hg : Gl X "TooMany" := by rfl)
    (he : starEach (a :: []) X.env = (false, eval a X.env) :: starEach [] X.env := by rfl) (hpl : (backTo pos (starEach [] X.env)).any (·.1) = false := by rfl) :
    PS X (.Raise (some (.Call (.Name "TooMany" p) [a] [] pos)) none pos2) (tRaiseTm T.C W ta) := ps_raise hc tk (pmk_tm T.T T.iC T.tI (ok_tmInit T) (hr.mono hk) T.b hg T.gC ha (by decide) he hpl)
end
end Tw
/-! Triesgrow: what the law draws -/
namespace Tw
open PySem PySem.Spec PyProof.Rows L2 Tg NdefX LamX
open scoped Classical
/-- the hand -/
def Hnd (H : Hp) (h : Addr) : Prop := ∃ a b : Int, H h = some (.lst [.int a, .int b])
theorem hid_none {h a : Addr} {H : Hp} (e : H a = none) : hid h H a = none := by
  by_cases z : a = h
  · subst z; simp [hid]
  · rw [hid_ne z]; exact e
theorem hid_some {h a : Addr} {H : Hp} {o : HO} (e : hid h H a = some o) : a ≠ h ∧ H a = some o := by
  by_cases z : a = h
  · subst z; simp [hid] at e
  · rw [hid_ne z] at e; exact ⟨z, e⟩
/-- all but tables and the hand stays -/
structure Xh (T : List NTab) (h : Addr) (H H' : Hp) : Prop where
  e : Xt T (hid h H) (hid h H')
  hd : Hnd H' h
section
variable {T : List NTab} {h : Addr} {H H1 H2 : Hp}
theorem Xh.refl (hd : Hnd H h) : Xh T h H H := ⟨.refl _, hd⟩
theorem Xh.trans (a : Xh T h H H1) (b : Xh T h H1 H2) : Xh T h H H2 := ⟨a.e.trans b.e, b.hd⟩
theorem Xh.draw (a : Xh T h H H1) (x y : Int) : Xh T h H (upd H1 h (.lst [.int x, .int y])) := ⟨by rw [hid_upd]; exact a.e, x, y, upd_same⟩
theorem ExtN.hid (e : ExtN H1 H2) : ExtN (Tw.hid h H1) (Tw.hid h H2) := fun b u q n => by
  obtain ⟨z, q⟩ := hid_some q
  rw [hid_ne z]
  exact e b u q n
theorem tabs_sub (t : TabsN T (hid h H)) : TabsN T H := t.ext fun b u q => (hid_some q).2
theorem tabs_hid (hd : Hnd H h) (t : TabsN T H) : TabsN T (hid h H) := fun q hq => by
  obtain ⟨a, b, hd⟩ := hd
  obtain ⟨ps, e1, e2, e3⟩ := t q hq
  refine ⟨ps, ?_, e2, fun pos cv hc => ?_⟩
  · rw [hid_ne fun z => by rw [z, hd] at e1; cases e1]
    exact e1
  · obtain ⟨c, z1, z2⟩ := e3 pos cv hc
    refine ⟨c, z1, ?_⟩
    rw [hid_ne fun z => ?_]
    · exact z2
    · unfold CodeO at z2
      rw [z, hd] at z2
      cases z2
theorem Xh.of (hd : Hnd H1 h) (e : Xt T H1 H2) : Xh T h H1 H2 := by
  have hd2 : Hnd H2 h := let ⟨a, b, q⟩ := hd; ⟨a, b, e.lst q⟩
  refine ⟨⟨fun a q => ?_, ExtN.hid e.ext, fun t => tabs_hid hd2 (e.tab (tabs_sub t))⟩, hd2⟩
  by_cases z : a = h
  · subst z; simp [hid]
  · rw [hid_ne z] at q ⊢; exact e.dom a q
theorem Xh.put {p : Addr} {u o : HO} (e : Xh T h H H1) (hp : H p = none) (hp1 : H1 p = some u) (ne : p ≠ h) (n : Plain u) : Xh T h H (upd H1 p o) := by
  refine ⟨?_, ?_⟩
  · rw [hid_new ne]
    exact e.e.put (hid_none hp) (by rw [hid_ne ne]; exact hp1) n
  · obtain ⟨a, b, q⟩ := e.hd
    exact ⟨a, b, by rw [upd_ne (Ne.symm ne)]; exact q⟩
theorem Hnd.ne {p : Addr} (hd : Hnd H h) (hp : H p = none) : p ≠ h := fun z => by
  obtain ⟨a, b, q⟩ := hd
  rw [← z, hp] at q
  cases q
theorem Xh.new {p : Addr} {o : HO} (hd : Hnd H h) (hp : H p = none) : Xh T h H (upd H p o) := .of hd (.new hp)
theorem Xh.dom {a : Addr} (e : Xh T h H H1) (q : H1 a = none) : H a = none := by
  have ne := e.hd.ne q
  have := e.e.dom a (hid_none q)
  rwa [hid_ne ne] at this
theorem Xh.lst {a : Addr} {xs : List V} (e : Xh T h H H1) (ne : a ≠ h) (q : H a = some (.lst xs)) : H1 a = some (.lst xs) := (hid_some (e.e.lst (xs := xs) (by rw [hid_ne ne]; exact q))).2
theorem Xh.tup {a : Addr} {xs : List V} (e : Xh T h H H1) (ne : a ≠ h) (q : H a = some (.tup xs)) : H1 a = some (.tup xs) := (hid_some (e.e.tup (xs := xs) (by rw [hid_ne ne]; exact q))).2
theorem Xh.tups {a : Addr} {xs : List V} (e : Xh T h H H1) (hd : Hnd H h) (q : H a = some (.tup xs)) : H1 a = some (.tup xs) := e.tup (fun z => by obtain ⟨_, _, w⟩ := hd; rw [z, w] at q; cases q) q
theorem Xh.rp {v : V} {d : PyData} (e : Xh T h H H1) (r : Rp (hid h H) v d) : Rp (hid h H1) v d := e.e.rp r
theorem Xh.tab (e : Xh T h H H1) (hd : Hnd H h) (t : TabsN T H) : TabsN T H1 := tabs_sub (e.e.tab (tabs_hid hd t))
theorem Xh.sl {K : PySem.W.Frag} {a : Addr} {xs : List V} (e : Xh T h H H1) (ne : SqL K (hid h H) a xs) : SqL K H1 a xs := by
  rcases e.e.sl ne with z | z
  · rcases z with z | ⟨o, z⟩
    · exact .inl (.inl (hid_some z).2)
    · exact .inl (.inr ⟨o, (hid_some z).2⟩)
  · exact .inr z
end
/-- what is wanted of a value handed back where the hand was drawn from -/
def RetH (T : List NTab) (h : Addr) (H : Hp) (Q : VK) (post : V → Hp → Prop) : Prop := ∀ v H', Xh T h H H' → post v (hid h H') → Q v H'
/-! ### what each def promises -/
def sp_law_hand (K : PySem.W.Frag) (T : List NTab) : Sp := fun vs H Q _ => ∃ (s : Addr) (k : Nat) (ns : List Int), vs = [.ref s, .int (k : Int)] ∧ SqL K H s (ns.map V.int) ∧ ns.length ≤ sizeLine - 1 ∧ ∀ (H' : Hp) (h : Addr), Xt T H H' → H h = none → Hnd H' h → Q (.ref h) H'
def sp_law_draw : Sp := fun vs H Q _ => ∃ (h : Addr) (n : Int), vs = [.ref h, .int n] ∧ Hnd H h ∧ 1 ≤ n ∧ n ≤ 1000 ∧ ∀ a b r : Int, 0 ≤ r → r < n → Q (.int r) (upd H h (.lst [.int a, .int b]))
def RoomsOk (n : Int) (rs : List Int) : Prop := rs.Pairwise (· < ·) ∧ ∀ r ∈ rs, 0 ≤ r ∧ r < n
def sp_law_rooms (T : List NTab) : Sp := fun vs H Q _ => ∃ (h : Addr) (n : Int), vs = [.ref h, .int n] ∧ Hnd H h ∧ 1 ≤ n ∧ n ≤ 4 ∧ RetH T h H Q fun v H' => ∃ p rs, v = .ref p ∧ H' p = some (.lst (rs.map V.int)) ∧ RoomsOk n rs
def Lets (x : V) : Prop := ∃ cs : List Nat, x = .str (wS cs) ∧ cs ≠ [] ∧ LetOk cs ∧ cs.length ≤ 10
def sp_law_letters (T : List NTab) : Sp := fun vs H Q _ => ∃ h : Addr, vs = [.ref h] ∧ Hnd H h ∧ RetH T h H Q fun v _ => Lets v
def sp_law_word (T : List NTab) : Sp := fun vs H Q _ => ∃ (h : Addr) (x : V), vs = [.ref h, x, .int 12] ∧ Hnd H h ∧ Lets x ∧ RetH T h H Q fun v _ => ∃ w, v = .str (wS w) ∧ LetOk w ∧ w.length ≤ 12
theorem cut_mem {xs : List V} {lo hi : Option Int} {y : V} (h : y ∈ cutV xs lo hi) : y ∈ xs := List.mem_of_mem_drop (List.mem_of_mem_take h)
/-- a list so far, the hand drawn from -/
def LcPh (T : List NTab) (h : Addr) (H1 : Hp) (D : Addr) (R : Nat → List V → Prop) (i : Nat) (H : Hp) : Prop := ∃ acc, Xh T h H1 H ∧ H D = some (.lst acc) ∧ acc.length ≤ i ∧ R i acc
theorem LcPh.put {T : List NTab} {h : Addr} {H1 H : Hp} {D : Addr} {R : Nat → List V → Prop} {i : Nat} {acc : List V} {y : V} (hD : H1 D = none) (e : Xh T h H1 H) (q : H D = some (.lst acc)) (l : acc.length ≤ i) (hi : i < 1000000) (r : R (i + 1) (acc ++ [y])) (hn : D ≠ h) :
    ∃ acc, H D = some (.lst acc) ∧ acc.length < sizeLine ∧ LcPh T h H1 D R (i + 1) (upd H D (.lst (acc ++ [y]))) :=
  ⟨acc, q, len_lt (by omega), acc ++ [y], e.put hD q hn plain_lst, upd_same, by rw [List.length_append]; show acc.length + 1 ≤ _; omega, r⟩
theorem lc_selH {J : It} {n : Nat} {G : Hp → Prop} {Y : Nat → Hp → V → Hp → Prop} (w : Walk J n G Y) {g : TG} {tt : TT} {te : TE} {vs : List Nat} {σ : L2.St} {T : List NTab} {h : Addr} {H1 : Hp} {D : Addr} {Qd : Hp → Prop} (hD : H1 D = none) (hh : Hnd H1 h)
    (R : Nat → List V → Prop) (hG : ∀ H, Xh T h H1 H → G H) (h0 : R 0 [])
    (hs : ∀ i x acc H H', i < n → Xh T h H1 H → H D = some (.lst acc) → acc.length ≤ i → R i acc → Y i H x H' → g x (wipe σ vs) H' fun σ2 H2 => wipe σ2 vs = wipe σ vs ∧ tt σ2 H2 fun b H3 =>
      if b = true then te σ2 H3 fun y H4 => ∃ acc, H4 D = some (.lst acc) ∧ acc.length < sizeLine ∧ LcPh T h H1 D R (i + 1) (upd H4 D (.lst (acc ++ [y]))) else LcPh T h H1 D R (i + 1) H3)
    (hd : ∀ acc H, Xh T h H1 H → H D = some (.lst acc) → acc.length ≤ n → R n acc → Qd H) :
    ∃ W : Nat → Nat → Hp → Prop, (∃ m, W 0 m (upd H1 D (.lst []))) ∧ ∀ i m H, W i m H →
      (J.stop i H ∧ Qd H) ∨ (J.go i H ∧ ∃ Nx : Hp → Prop, (∀ H', Nx H' → ∃ m', m' < m ∧ W (i + 1) m' H') ∧ ∀ x H', J.yld i H x H' → g x (wipe σ vs) H' fun σ2 H2 => wipe σ2 vs = wipe σ vs ∧ tt σ2 H2 fun b H3 =>
        if b = true then te σ2 H3 fun y H4 => ∃ acc, H4 D = some (.lst acc) ∧ acc.length < sizeLine ∧ Nx (upd H4 D (.lst (acc ++ [y]))) else Nx H3) := by
  refine lc_it w (LcPh T h H1 D R) ⟨[], .new hh hD, upd_same, Nat.le_refl _, h0⟩ (fun i H _ q => ?_) (fun i x H H' hi q y => ?_) (fun H q => ?_)
  · obtain ⟨_, e, _⟩ := q; exact hG H e
  · obtain ⟨acc, e, h1, h2, h3⟩ := q; exact hs i x acc H H' hi e h1 h2 h3 y
  · obtain ⟨acc, e, h1, h2, h3⟩ := q; exact hd acc H e h1 h2 h3
theorem RetH.go {T : List NTab} {h : Addr} {H H' : Hp} {Q : VK} {post : V → Hp → Prop} (r : RetH T h H Q post) {v : V} (e : Xh T h H H') (p : post v (hid h H')) : Q v H' := r v H' e p
theorem letOk_of {cs : List Nat} (h : (cs.all fun c => decide (97 ≤ c) && decide (c ≤ 122)) = true) : LetOk cs := fun c hc => by
  have := List.all_eq_true.mp h c hc
  simpa using this
open _root_.TL in
theorem joinL_one : ∀ cs : List Nat, joinL [] ((cs.map sg).map tl) = cs
  | [] => rfl
  | [c] => rfl
  | c :: d :: cs => by
    show c :: joinL [] (((d :: cs).map sg).map tl) = _
    rw [joinL_one (d :: cs)]
open _root_.TL in
theorem join_sg (cs : List Nat) : Txt.join "" (cs.map sg) = wS cs := by
  have h : tl (Txt.join "" (cs.map sg)) = cs := by
    unfold Txt.join
    rw [StrLaws.glued_eq_join, tl_join]
    exact joinL_one cs
  exact ext_tl h
theorem sum_sg : ∀ cs : List Nat, ((cs.map sg).map fun x => x.length).sum = cs.length
  | [] => rfl
  | c :: cs => by
    rw [List.map_cons, List.map_cons, List.sum_cons, sum_sg cs, List.length_cons]
    show 1 + _ = _
    omega
theorem rooms_snoc {n : Int} {i : Nat} {rs : List Int} (ok : RoomsOk n rs) (lt : ∀ r ∈ rs, r < (i : Int)) (hi : (i : Int) < n) : RoomsOk n (rs ++ [(i : Int)]) ∧ ∀ r ∈ rs ++ [(i : Int)], r < ((i + 1 : Nat) : Int) := by
  refine ⟨⟨List.pairwise_append.mpr ⟨ok.1, List.pairwise_singleton .., fun a ha b hb => ?_⟩, fun r hr => ?_⟩, fun r hr => ?_⟩
  · obtain rfl := List.mem_singleton.mp hb
    exact lt a ha
  · rcases List.mem_append.mp hr with hr | hr
    · exact ok.2 r hr
    · obtain rfl := List.mem_singleton.mp hr
      omega
  · rcases List.mem_append.mp hr with hr | hr
    · have := lt r hr; omega
    · obtain rfl := List.mem_singleton.mp hr
      omega
section
variable {P : Program} {w : World} {K : PySem.W.Frag} {mg : Str → Option Value} {base : Heap}
theorem ok_law_hand (T : Txt K mg) : FnOk P w K mg base CX0 1 T.law_hand.f T.law_hand.fd P_law_hand (sp_law_hand K T.Ts) := by
  refine T.law_hand.F.ok sc_law_hand (fun vs H Q E h => ?_) (fun cdv A outer s H vs Q E hr h => ⟨_, (pss_cons (ps_set (i := 2) sc_law_hand.nd rfl (Or.inl rfl) (pe_ix ix_list (pe_op op_cat (pe_slice sl_list (pv 0) (po_some (pv 1)) (po_some (pe_op op_add (pv 1) pe_int))) (pe_lst (pa_cons pe_int pa_nil))) pe_int (fun _ _ => rfl)))
    (pss_cons (ps_set (i := 3) sc_law_hand.nd rfl (Or.inl rfl) (pe_op op_mod (pe_op op_mul (pe_op op_add (pe_op op_add (pe_op op_mod (pv 2) pe_int) (pe_op op_mul pe_int (pv 1))) pe_int) pe_int) pe_int))
    (pss_one (ps_ret (pe_lst (pa_cons (pe_op op_mul (pe_callTy call_int1 (by rfl) T.n_int (by decide +kernel) (pa_cons (pe_cmpR op_ge (pv 2) (pe_op op_pow pe_int pe_int) (nomark _)) pa_nil)) (pv 2)) (pa_cons (pv 3) pa_nil))))))), ?_⟩)
  · obtain ⟨_, _, _, rfl, _⟩ := h; rfl
  · obtain ⟨sa, k, ns, rfl, hs, ln, q⟩ := h
    refine ⟨_, rfl, _, rfl, _, rfl, _, rfl, _, _, rfl, rfl, _, rfl, sa, _, rfl, hs, fun p hp => ?_⟩
    have hl : (cutV (ns.map V.int) (some (k : Int)) (some ((k : Int) + 1))).length ≤ ns.length := by have := cutV_length (ns.map V.int) (some (k : Int)) (some ((k : Int) + 1)); rwa [List.length_map] at this
    have hm : ∀ y ∈ cutV (ns.map V.int) (some (k : Int)) (some ((k : Int) + 1)), ∃ i : Int, y = .int i := fun y hy => by
      obtain ⟨i, _, rfl⟩ := List.mem_map.mp (cut_mem hy)
      exact ⟨i, rfl⟩
    generalize cutV (ns.map V.int) (some (k : Int)) (some ((k : Int) + 1)) = ys at hl hm
    refine ⟨(by show 1 ≤ sizeLine; decide), fun z hz => ?_⟩
    have pz : p ≠ z := ne_of_none (H := upd H p (.lst ys)) upd_same hz
    have e2 : Xt T.Ts H (upd (upd H p (.lst ys)) z (.lst [.int 0])) := by exact (Xt.new hp).trans (.new hz)
    have hp2 : upd (upd H p (.lst ys)) z (.lst [.int 0]) p = some (.lst ys) := by rw [upd_ne pz]; exact upd_same
    have hz2 : upd (upd H p (.lst ys)) z (.lst [.int 0]) z = some (.lst [.int 0]) := upd_same
    show rCat _ _ (upd (upd H p (.lst ys)) z (.lst [.int 0])) _
    generalize upd (upd H p (.lst ys)) z (.lst [.int 0]) = H2 at e2 hp2 hz2
    refine ⟨p, z, _, _, rfl, rfl, hp2, hz2, (by show ys.length + 1 ≤ sizeLine; have : 1 ≤ sizeLine := by decide
                                                omega), fun c hc => ?_⟩
    obtain ⟨i, hi⟩ : ∃ i : Int, (ys ++ [.int 0])[0]? = some (.int i) := by
      cases ys with
      | nil => exact ⟨0, rfl⟩
      | cons y ys =>
        obtain ⟨i, rfl⟩ := hm y (List.mem_cons_self ..)
        exact ⟨i, rfl⟩
    have e3 : Xt T.Ts H (upd H2 c (.lst (ys ++ [.int 0]))) := e2.trans (.new hc)
    refine ⟨c, _, _, _, rfl, rfl, .inl (.of upd_same), atI_nat (j := 0) hi, ?_⟩
    generalize upd H2 c (.lst (ys ++ [.int 0])) = H3 at e3
    refine ⟨_, rfl, _, _, rfl, rfl, (by show (0 : Int) < 2147483647; decide), _, rfl, _, _, rfl, rfl, .inl ⟨by decide, by decide⟩, _, _, rfl, rfl, _, _, rfl, rfl, _, _, rfl, rfl, .inr ⟨by decide, by decide⟩, _, _, rfl, rfl, (by show (0 : Int) < 2147483629; decide), ?_⟩
    refine ⟨_, rfl, _, _, rfl, rfl, (by show (0 : Int) ≤ 18 ∧ (18 : Int) ≤ 1000000 ∧ Int.natAbs 10 < 2 ^ 64; decide), _, _, rfl, rfl, .inr ⟨_, rfl, _, rfl, _, _, rfl, rfl, ?_, _, rfl, ?_⟩⟩
    · left; split <;> constructor <;> decide
    refine ⟨(by show 2 ≤ sizeLine; decide), fun h hh => ?_⟩
    exact q _ h (e3.trans (.new hh)) (e3.dom _ hh) ⟨_, _, upd_same⟩
theorem ok_law_draw (T : Txt K mg) : FnOk P w K mg base CX0 1 T.law_draw.f T.law_draw.fd P_law_draw sp_law_draw := by
  refine T.law_draw.F.ok sc_law_draw (fun vs H Q E h => ?_) (fun cdv A outer s H vs Q E hr h => ⟨_, (pss_cons (ps_if (pt_cmpR op_gt (pe_ix ix_list (pv 0) pe_int (fun _ _ => rfl)) pe_int (nomark _)) (pss_cons (ps_set (i := 2) sc_law_draw.nd rfl (Or.inl rfl) (pe_op op_mod (pe_ix ix_list (pv 0) pe_int (fun _ _ => rfl)) (pv 1)))
      (pss_cons (ps_asg (pe_op op_fdivN (pe_ix ix_list (pv 0) pe_int (fun _ _ => rfl)) (pv 1)) (pg_sub (pv 0) pe_int set_list))
      (pss_one (ps_ret (pv 2))))) pss_nil)
    (pss_cons (ps_asg (pe_op op_mod (pe_op op_add (pe_op op_mul (pe_ix ix_list (pv 0) pe_int (fun _ _ => rfl)) pe_int) pe_int) pe_int) (pg_sub (pv 0) pe_int set_list))
    (pss_one (ps_ret (pe_op op_mod (pe_op op_fdivN (pe_op op_mod (pe_op op_mul (pe_ix ix_list (pv 0) pe_int (fun _ _ => rfl)) (pe_ix ix_list (pv 0) pe_int (fun _ _ => rfl))) pe_int) pe_int) (pv 1)))))), ?_⟩)
  · obtain ⟨_, _, rfl, _⟩ := h; rfl
  · obtain ⟨h, n, rfl, ⟨a, b, hh⟩, n1, n2, q⟩ := h
    refine ⟨_, rfl, h, _, _, _, rfl, rfl, .inl (.of hh), atI_nat (j := 0) rfl, a, 0, rfl, rfl, _, rfl, ?_⟩
    by_cases ha : 0 < a
    · refine ifT (decide_eq_true ha) ?_
      refine ⟨_, rfl, h, _, _, _, rfl, rfl, .inl (.of hh), atI_nat (j := 0) rfl, _, rfl, a, n, rfl, rfl, by omega, ?_⟩
      refine ⟨_, rfl, h, _, _, _, rfl, rfl, .inl (.of hh), atI_nat (j := 0) rfl, _, rfl, a, n, rfl, rfl, ⟨by omega, by omega⟩, ?_⟩
      refine ⟨_, rfl, h, _, 0, 0, rfl, rfl, hh, rfl, _, rfl, ?_⟩
      exact q _ _ _ (Int.emod_nonneg _ (by omega)) (Int.emod_lt_of_pos _ (by omega))
    · refine ifF (decide_eq_false ha) ?_
      refine ⟨_, rfl, h, _, _, _, rfl, rfl, .inl (.of hh), atI_nat (j := 1) rfl, b, 48271, rfl, rfl, .inr ⟨by decide, by decide⟩, _, _, rfl, rfl, _, _, rfl, rfl, (by show (0 : Int) < 2147483647; decide), ?_⟩
      refine ⟨_, rfl, h, _, 1, 1, rfl, rfl, hh, rfl, ?_⟩
      have r0 : 0 ≤ (b * 48271 + 11) % 2147483647 := Int.emod_nonneg _ (by decide)
      have r1 : (b * 48271 + 11) % 2147483647 < 2147483647 := Int.emod_lt_of_pos _ (by decide)
      have hh2 : upd H h (.lst ([V.int a, .int b].set 1 (.int ((b * 48271 + 11) % 2147483647)))) h = some (.lst [.int a, .int ((b * 48271 + 11) % 2147483647)]) := upd_same
      refine ⟨_, rfl, h, _, _, _, rfl, rfl, .inl (.of hh2), atI_nat (j := 1) rfl, _, rfl, h, _, _, _, rfl, rfl, .inl (.of hh2), atI_nat (j := 1) rfl, _, _, rfl, rfl, .inl ⟨by omega, by omega⟩, _, _, rfl, rfl, (by show (0 : Int) < 2147483629; decide), _, _, rfl, rfl, (by show (64 : Int) ≠ 0 ∧ Int.natAbs 64 < 1073741824; decide), _, rfl, _, _, rfl, rfl, by omega, ?_⟩
      exact q a _ _ (Int.emod_nonneg _ (by omega)) (Int.emod_lt_of_pos _ (by omega))
theorem ok_law_rooms (T : Txt K mg) : FnOk P w K mg base CX0 2 T.law_rooms.f T.law_rooms.fd P_law_rooms (sp_law_rooms T.Ts) := by
  refine T.law_rooms.F.ok sc_law_rooms (fun vs H Q E h => ?_) (fun cdv A outer s H vs Q E hr h => ⟨_, (pss_cons (ps_if (pt_cmpR op_eq (pe_call (ok_law_draw T) (hr.mono (by decide)) rfl T.law_draw.g T.law_draw.F.kp T.law_draw.b .nil pass0 (pa_cons (pv 0) (pa_cons pe_int pa_nil))) pe_int (nomark _)) (pss_one (ps_ret (pe_lst pa_nil))) pss_nil)
    (pss_cons (ps_setLc (i := 2) (own := [("_law_room", 3)]) (by rfl) sc_law_rooms.nd rfl rfl (sw_true rfl rfl rfl (by decide +kernel)) (pi_range1 (by rfl) T.n_range (pa_cons (pv 1) pa_nil)) (blkOk_by (own := [("_law_room", 3)]) (N := N_law_rooms) (sc := defScope s_law_rooms) (by decide +kernel)) (fun _ _ _ _ _ => (pg_name (i := 3) sc_law_rooms.nd rfl (Or.inl rfl) (Or.inr rfl))) (fun _ _ _ _ _ => (pts_one (pt_cmpR op_eq (pe_call (ok_law_draw T) (hr.mono (by decide)) rfl T.law_draw.g T.law_draw.F.kp T.law_draw.b .nil pass0 (pa_cons (pv 0) (pa_cons pe_int pa_nil))) pe_int (nomark _)))) (fun _ _ _ _ _ => (pv 3)))
    (pss_one (ps_ret (pe_orT (pv 2) (pe_one (pe_lst (pa_cons (pe_call (ok_law_draw T) (hr.mono (by decide)) rfl T.law_draw.g T.law_draw.F.kp T.law_draw.b .nil pass0 (pa_cons (pv 0) (pa_cons (pv 1) pa_nil))) pa_nil)))))))), ?_⟩)
  · obtain ⟨_, _, rfl, _⟩ := h; rfl
  · obtain ⟨h, n, rfl, hh, n1, n2, q⟩ := h
    refine ⟨_, rfl, h, 14, rfl, hh, by decide, by decide, fun a b r r0 r1 => ?_⟩
    have e1 : Xh T.Ts h H (upd H h (.lst [.int a, .int b])) := (Xh.refl hh).draw a b
    generalize upd H h (.lst [.int a, .int b]) = H1 at e1
    refine ⟨rfl, _, rfl, ?_⟩
    by_cases hr0 : r = 0
    · refine ifT (by rw [hr0]; rfl) ⟨Nat.zero_le _, fun p hp => ?_⟩
      have ne := e1.hd.ne hp
      refine q.go (e1.trans (.new e1.hd hp)) ⟨p, [], rfl, by rw [hid_ne ne]; exact upd_same, List.Pairwise.nil, fun _ h => by cases h⟩
    refine ifF (by simp [hr0]) ?_
    refine ⟨_, rfl, n, rfl, by omega, by omega, fun D hD => ?_⟩
    have Dh := e1.hd.ne hD
    refine lc_selH (T := T.Ts) (walk_range (lo := 0)) hD e1.hd (fun i acc => ∃ rs : List Int, acc = rs.map V.int ∧ RoomsOk n rs ∧ ∀ r ∈ rs, r < (i : Int)) (fun H5 e5 => trivial) ⟨[], rfl, ⟨List.Pairwise.nil, fun _ h => (by cases h)⟩, fun _ h => (by cases h)⟩ (fun i x acc H5 H6 hi e5 hacc lacc hR hY => ?_) (fun acc H5 e5 hacc lacc hR => ?_)
    · obtain ⟨rfl, rfl⟩ := hY
      obtain ⟨rs, rfl, ok, lt⟩ := hR
      refine ⟨rfl, _, rfl, h, 3, rfl, e5.hd, by decide, by decide, fun a b r r0 r1 => ?_⟩
      have e6 := e5.draw a b
      have hacc6 : upd H6 h (.lst [.int a, .int b]) D = some (.lst (rs.map V.int)) := by rw [upd_ne Dh]; exact hacc
      generalize upd H6 h (.lst [.int a, .int b]) = H7 at e6 hacc6
      refine ⟨rfl, _, rfl, ?_⟩
      by_cases hr0 : r = 0
      · refine ifT (by rw [hr0]; rfl) ⟨_, rfl, LcPh.put hD e6 hacc6 lacc (by omega) ?_ Dh⟩
        have z := rooms_snoc (i := i) ok lt (by omega)
        exact ⟨rs ++ [(i : Int)], by rw [List.map_append]; show _ ++ [V.int (0 + (i : Int))] = _; rw [Int.zero_add]; rfl, z.1, z.2⟩
      · exact ifF (by simp [hr0]) ⟨_, e6, hacc6, by omega, rs, rfl, ok, fun r hr => by have := lt r hr; omega⟩
    · obtain ⟨rs, rfl, ok, lt⟩ := hR
      have e15 := e1.trans e5
      refine ⟨_, rfl, !(rs.map V.int).isEmpty, .inl ⟨_, .inl (.of hacc), rfl⟩, ?_⟩
      cases rs with
      | cons r rs => exact ifT rfl (q.go e15 ⟨D, r :: rs, rfl, by rw [hid_ne Dh]; exact hacc, ok⟩)
      | nil =>
        refine ifF rfl ?_
        refine ⟨_, rfl, _, rfl, h, n, rfl, e5.hd, n1, by omega, fun a b r r0 r1 => ?_⟩
        have e6 := e15.draw a b
        generalize upd H5 h (.lst [.int a, .int b]) = H7 at e6
        refine ⟨(by show 1 ≤ sizeLine; decide), fun p hp => ?_⟩
        have ne := e6.hd.ne hp
        exact q.go (e6.trans (.new e6.hd hp)) ⟨p, [r], rfl, by rw [hid_ne ne]; exact upd_same, List.pairwise_singleton .., fun r' h => by obtain rfl := List.mem_singleton.mp h; exact ⟨r0, r1⟩⟩
theorem ok_law_letters (T : Txt K mg) : FnOk P w K mg base CX0 2 T.law_letters.f T.law_letters.fd P_law_letters (sp_law_letters T.Ts) := by
  refine T.law_letters.F.ok sc_law_letters (fun vs H Q E h => ?_) (fun cdv A outer s H vs Q E hr h => ⟨_, (pss_one (ps_ret (pe_ix ix_list (pe_lst (pa_cons pe_str (pa_cons pe_str (pa_cons pe_str (pa_cons pe_str (pa_cons pe_str (pa_cons pe_str pa_nil))))))) (pe_call (ok_law_draw T) (hr.mono (by decide)) rfl T.law_draw.g T.law_draw.F.kp T.law_draw.b .nil pass0 (pa_cons (pv 0) (pa_cons pe_int pa_nil))) (fun _ _ => rfl)))), ?_⟩)
  · obtain ⟨_, rfl, _⟩ := h; rfl
  · obtain ⟨h, rfl, hh, q⟩ := h
    refine ⟨(by show 6 ≤ sizeLine; decide), fun p hp => ?_⟩
    have ph := hh.ne hp
    have e0 : Xh T.Ts h H (upd H p (.lst [.str "ab", .str "ab", .str "abc", .str "qz", .str "mpx", .str "a"])) := .new hh hp
    refine ⟨_, rfl, h, 6, rfl, e0.hd, by decide, by decide, fun a b r r0 r1 => ?_⟩
    have hp2 : upd (upd H p (.lst [.str "ab", .str "ab", .str "abc", .str "qz", .str "mpx", .str "a"])) h (.lst [.int a, .int b]) p = some (.lst [.str "ab", .str "ab", .str "abc", .str "qz", .str "mpx", .str "a"]) := by rw [upd_ne ph]; exact upd_same
    have all : ∀ y ∈ ([.str "ab", .str "ab", .str "abc", .str "qz", .str "mpx", .str "a"] : List V), Lets y := fun y hy => by
      simp only [List.mem_cons, List.not_mem_nil, or_false] at hy
      rcases hy with rfl | rfl | rfl | rfl | rfl | rfl
      · exact ⟨[97, 98], rfl, by decide, letOk_of rfl, by decide⟩
      · exact ⟨[97, 98], rfl, by decide, letOk_of rfl, by decide⟩
      · exact ⟨[97, 98, 99], rfl, by decide, letOk_of rfl, by decide⟩
      · exact ⟨[113, 122], rfl, by decide, letOk_of rfl, by decide⟩
      · exact ⟨[109, 112, 120], rfl, by decide, letOk_of rfl, by decide⟩
      · exact ⟨[97], rfl, by decide, letOk_of rfl, by decide⟩
    obtain ⟨k, rfl⟩ : ∃ k : Nat, r = (k : Int) := ⟨r.toNat, by omega⟩
    have hk : k < ([.str "ab", .str "ab", .str "abc", .str "qz", .str "mpx", .str "a"] : List V).length := by show k < 6; omega
    refine ⟨p, _, _, _, rfl, rfl, .inl (.of hp2), atI_nat (List.getElem?_eq_getElem hk), ?_⟩
    exact q.go (e0.draw a b) (all _ (List.getElem_mem hk))
theorem ok_law_word (T : Txt K mg) : FnOk P w K mg base CX0 2 T.law_word.f T.law_word.fd P_law_word (sp_law_word T.Ts) := by
  refine T.law_word.F.ok sc_law_word (fun vs H Q E h => ?_) (fun cdv A outer s H vs Q E hr h => ⟨_, (pss_one (ps_ret (pe_join pe_str (pe_lc (own := [("_law_k", 3)]) (by rfl) sc_law_word.nd (pi_range1 (by rfl) T.n_range (pa_cons (pe_call (ok_law_draw T) (hr.mono (by decide)) rfl T.law_draw.g T.law_draw.F.kp T.law_draw.b .nil pass0 (pa_cons (pv 0) (pa_cons (pe_op op_add (pv 2) pe_int) pa_nil))) pa_nil)) (blkOk_by (own := [("_law_k", 3)]) (N := N_law_word) (sc := defScope s_law_word) (by decide +kernel)) (fun _ _ _ _ _ => (pg_name (i := 3) sc_law_word.nd rfl (Or.inl rfl) (Or.inr rfl))) (fun _ _ _ _ _ => pts_nil) (fun _ _ _ _ _ => (pe_ix ix_str (pv 1) (pe_call (ok_law_draw T) (hr.mono (by decide)) rfl T.law_draw.g T.law_draw.F.kp T.law_draw.b .nil pass0 (pa_cons (pv 0) (pa_cons (pe_callB call_len_str (by rfl) T.n_len PySem.boot_len (pa_cons (pv 1) pa_nil)) pa_nil))) (fun _ _ => rfl))))))), ?_⟩)
  · obtain ⟨_, _, rfl, _⟩ := h; rfl
  · obtain ⟨h, x, rfl, hh, ⟨cs, rfl, cn, cl, c10⟩, q⟩ := h
    refine ⟨⟨_, rfl⟩, _, rfl, _, rfl, _, _, rfl, rfl, h, 13, rfl, hh, by decide, by decide, fun a b m m0 m1 => ?_⟩
    have e1 : Xh T.Ts h H (upd H h (.lst [.int a, .int b])) := (Xh.refl hh).draw a b
    generalize upd H h (.lst [.int a, .int b]) = H1 at e1
    refine ⟨m, rfl, by omega, by omega, fun D hD => ?_⟩
    have Dh := e1.hd.ne hD
    refine lc_selH (T := T.Ts) (walk_range (lo := 0)) hD e1.hd (fun i acc => ∃ ws : List Nat, acc = (ws.map sg).map V.str ∧ LetOk ws) (fun H5 e5 => trivial) ⟨[], rfl, fun _ h => (by cases h)⟩ (fun i x acc H5 H6 hi e5 hacc lacc hR hY => ?_) (fun acc H5 e5 hacc lacc hR => ?_)
    · obtain ⟨rfl, rfl⟩ := hY
      obtain ⟨ws, rfl, ok⟩ := hR
      have lz : (wS cs).length = cs.length := by show cs.toArray.size = _; simp
      have c1 : 1 ≤ cs.length := by cases cs with | nil => exact (cn rfl).elim | cons => simp
      refine ⟨rfl, _, rfl, _, rfl, _, rfl, _, rfl, by rw [lz]; exact len_le (by omega), h, _, rfl, e5.hd, by rw [lz]; omega, by rw [lz]; omega, fun a b r r0 r1 => ?_⟩
      rw [lz] at r1
      have e6 := e5.draw a b
      have hacc6 : upd H6 h (.lst [.int a, .int b]) D = some (.lst ((ws.map sg).map V.str)) := by rw [upd_ne Dh]; exact hacc
      generalize upd H6 h (.lst [.int a, .int b]) = H7 at e6 hacc6
      obtain ⟨k, rfl⟩ : ∃ k : Nat, r = (k : Int) := ⟨r.toNat, by omega⟩
      have hk : k < cs.length := by omega
      refine ⟨wS cs, _, cs[k], rfl, rfl, by rw [lz]; exact len_le (by omega), atI_nat (by show cs.toArray.toList[k]? = _; simp [hk]), ?_⟩
      refine LcPh.put hD e6 hacc6 lacc (by omega) ⟨ws ++ [cs[k]], by rw [List.map_append, List.map_append]; rfl, fun c hc => ?_⟩ Dh
      rcases List.mem_append.mp hc with hc | hc
      · exact ok c hc
      · obtain rfl := List.mem_singleton.mp hc
        exact cl _ (List.getElem_mem hk)
    · obtain ⟨ws, rfl, ok⟩ := hR
      have lw : ws.length ≤ 12 := by rw [List.length_map, List.length_map] at lacc; omega
      refine ⟨_, D, ws.map sg, rfl, rfl, .inl (.inl (.of hacc)), ?_, ?_⟩
      · rw [sum_sg]; show ws.length + _ * 0 ≤ _; omega
      rw [join_sg]
      exact q.go (e1.trans e5) ⟨ws, rfl, ok, lw⟩
end
end Tw
/-! Triesgrow: the machines that the law draws -/
namespace Tw
open PySem PySem.Spec PyProof.Rows L2 Tg NdefX LamX
open scoped Classical
theorem nice_sg {c : Nat} (h : 97 ≤ c ∧ c ≤ 122) : nice (.str (sg c)) = true := letOk_nice (w := [c]) fun d hd => by obtain rfl := List.mem_singleton.mp hd; exact h
theorem nice_sD {s : Int × Nat × Int} (h : 97 ≤ s.2.1 ∧ s.2.1 ≤ 122) : nice (sD s) = true := by
  show nice (.tuple [.int s.1, .str (sg s.2.1), .int s.2.2]) = true
  simp [nice, nices]
  simpa [nice] using nice_sg h
theorem depth_sD (s : Int × Nat × Int) : (sD s).depth ≤ 60 := by
  show PyData.depth (.tuple [.int s.1, .str (sg s.2.1), .int s.2.2]) ≤ 60
  simp [PyData.depth, PyData.depthAll]
theorem sD_inj {s t : Int × Nat × Int} (h : sD s = sD t) : s = t := by
  obtain ⟨a, b, c⟩ := s
  obtain ⟨d, e, f⟩ := t
  simp only [sD, PyData.tuple.injEq, List.cons.injEq, PyData.int.injEq, PyData.str.injEq, and_true] at h
  obtain ⟨h1, h2, h3⟩ := h
  rw [h1, sg_inj h2, h3]
theorem any_sD {S : List (Int × Nat × Int)} {s : Int × Nat × Int} (h : ∀ t ∈ S, 97 ≤ t.2.1 ∧ t.2.1 ≤ 122) (hs : 97 ≤ s.2.1 ∧ s.2.1 ≤ 122) : ((S.map sD).any fun z => PyData.eqv z (sD s)) = decide (s ∈ S) := by
  rw [Bool.eq_iff_iff, List.any_eq_true, decide_eq_true_eq]
  constructor
  · rintro ⟨d, hd, e⟩
    obtain ⟨t, ht, rfl⟩ := List.mem_map.mp hd
    rw [eqv_nice (nice_sD (h t ht)) (nice_sD hs), decide_eq_true_eq] at e
    rw [← sD_inj e]; exact ht
  · intro hm
    exact ⟨_, List.mem_map_of_mem hm, by rw [eqv_nice (nice_sD hs) (nice_sD hs)]; simp⟩
theorem RpAll.take {H : Hp} {vs : List V} {ds : List PyData} (h : RpAll H vs ds) : ∀ k, RpAll H (vs.take k) (ds.take k) := by
  induction vs generalizing ds with
  | nil => intro k; cases h; simp; exact .nil
  | cons v vs ih =>
    intro k
    cases h with
    | cons h t =>
      cases k with
      | zero => exact .nil
      | succ k => exact .cons h (ih t k)
theorem RpAll.drop {H : Hp} {vs : List V} {ds : List PyData} (h : RpAll H vs ds) : ∀ k, RpAll H (vs.drop k) (ds.drop k) := by
  induction vs generalizing ds with
  | nil => intro k; cases h; simp; exact .nil
  | cons v vs ih =>
    intro k
    cases h with
    | cons h t =>
      cases k with
      | zero => exact .cons h t
      | succ k => exact ih t k
structure Small (M : Mac) : Prop where
  g : Good M
  n4 : M.n ≤ 4
  s8 : M.S.length ≤ 8
def sp_law_machine (T : List NTab) : Sp := fun vs H Q _ => ∃ (h : Addr) (x : V), vs = [.ref h, .int 4, .int 4, x] ∧ Hnd H h ∧ Lets x ∧ RetH T h H Q fun v H' => ∃ M, Rp H' v (mD M) ∧ Small M
def sp_law_beside (T : List NTab) : Sp := fun vs H Q _ => ∃ (h : Addr) (v1 v2 : V) (M N : Mac), vs = [.ref h, v1, v2] ∧ Hnd H h ∧ Rp (hid h H) v1 (mD M) ∧ Rp (hid h H) v2 (mD N) ∧ Small M ∧ Small N ∧ RetH T h H Q fun v H' => ∃ B, Rp H' v (mD B) ∧ Beside M N B
theorem hid2 {d h : Addr} {H : Hp} : hid d (hid h H) = hid h (hid d H) := by
  funext b
  unfold hid
  by_cases x : b = d <;> by_cases y : b = h <;> simp [x, y]
section
variable {P : Program} {w : World} {K : PySem.W.Frag} {mg : Str → Option Value} {base : Heap}
theorem ok_law_machine (T : Txt K mg) : FnOk P w K mg base CX0 3 T.law_machine.f T.law_machine.fd P_law_machine (sp_law_machine T.Ts) := by
  refine T.law_machine.F.ok sc_law_machine (fun vs H Q E h => ?_) (fun cdv A outer s H vs Q E hr h => ⟨_, (pss_cons (ps_set (i := 4) sc_law_machine.nd rfl (Or.inl rfl) (pe_op op_add pe_int (pe_call (ok_law_draw T) (hr.mono (by decide)) rfl T.law_draw.g T.law_draw.F.kp T.law_draw.b .nil pass0 (pa_cons (pv 0) (pa_cons (pv 1) pa_nil)))))
    (pss_cons (ps_set (i := 5) sc_law_machine.nd rfl (Or.inl rfl) (pe_call (ok_law_rooms T) (hr.mono (by decide)) rfl T.law_rooms.g T.law_rooms.F.kp T.law_rooms.b .nil pass0 (pa_cons (pv 0) (pa_cons (pv 4) pa_nil))))
    (pss_cons (ps_set (i := 6) sc_law_machine.nd rfl (Or.inl rfl) (pe_call (ok_law_rooms T) (hr.mono (by decide)) rfl T.law_rooms.g T.law_rooms.F.kp T.law_rooms.b .nil pass0 (pa_cons (pv 0) (pa_cons (pv 4) pa_nil))))
    (pss_cons (ps_set (i := 7) sc_law_machine.nd rfl (Or.inl rfl) (pe_lst pa_nil))
    (pss_cons (ps_for PassesOwn.never rfl (pi_range1 (by rfl) T.n_range (pa_cons (pe_call (ok_law_draw T) (hr.mono (by decide)) rfl T.law_draw.g T.law_draw.F.kp T.law_draw.b .nil pass0 (pa_cons (pv 0) (pa_cons (pe_op op_add (pv 4) (pv 2)) pa_nil))) pa_nil)) (pg_name (i := 8) sc_law_machine.nd rfl (Or.inl rfl))
     (pss_cons (ps_set (i := 9) sc_law_machine.nd rfl (Or.inl rfl) (pe_tup (pa_cons (pe_call (ok_law_draw T) (hr.mono (by decide)) rfl T.law_draw.g T.law_draw.F.kp T.law_draw.b .nil pass0 (pa_cons (pv 0) (pa_cons (pv 4) pa_nil))) (pa_cons (pe_ix ix_str (pv 3) (pe_call (ok_law_draw T) (hr.mono (by decide)) rfl T.law_draw.g T.law_draw.F.kp T.law_draw.b .nil pass0 (pa_cons (pv 0) (pa_cons (pe_callB call_len_str (by rfl) T.n_len PySem.boot_len (pa_cons (pv 3) pa_nil)) pa_nil))) (fun _ _ => rfl)) (pa_cons (pe_call (ok_law_draw T) (hr.mono (by decide)) rfl T.law_draw.g T.law_draw.F.kp T.law_draw.b .nil pass0 (pa_cons (pv 0) (pa_cons (pv 4) pa_nil))) pa_nil)))))
      (pss_one (ps_if (pt_cmpR (op_notInD (hu65 hr)) (pv 9) (pv 7) (by rfl)) (pss_one (ps_expr (pe_bm PySem.F.plainAttrs_list PySem.F.slot_list_append PySem.F.type_list_append mt_append (pv 7) (pa_cons (pv 9) pa_nil)))) pss_nil))))
    (pss_one (ps_ret (pe_tup (pa_cons (pv 4) (pa_cons (pv 5) (pa_cons (pv 6) (pa_cons (pv 7) pa_nil)))))))))))), ?_⟩)
  · obtain ⟨_, _, rfl, _⟩ := h; rfl
  · obtain ⟨h, x, rfl, hh, ⟨cs, rfl, cn, cl, c10⟩, q⟩ := h
    have lz : (wS cs).length = cs.length := by show cs.toArray.size = _; simp
    have c1 : 1 ≤ cs.length := by cases cs with | nil => exact (cn rfl).elim | cons => simp
    refine ⟨_, rfl, _, rfl, h, 4, rfl, hh, by decide, by decide, fun a b r r0 r1 => ?_⟩
    have e1 : Xh T.Ts h H (upd H h (.lst [.int a, .int b])) := (Xh.refl hh).draw a b
    generalize upd H h (.lst [.int a, .int b]) = H1 at e1
    refine ⟨_, _, rfl, rfl, ?_⟩
    show gName 4 (V.int (1 + r)) (L2.start N_law_machine [V.ref h, V.int 4, V.int 4, V.str (wS cs)]) H1 _
    generalize hn : 1 + r = n
    refine ⟨_, rfl, _, rfl, h, n, rfl, e1.hd, by omega, by omega, fun v2 H2 e2 h2 => ?_⟩
    obtain ⟨fa, fs, rfl, hf, okf⟩ := h2
    refine ⟨_, rfl, _, rfl, h, n, rfl, e2.hd, by omega, by omega, fun v3 H3 e3 h3 => ?_⟩
    obtain ⟨la, ls, rfl, hl, okl⟩ := h3
    have e03 := (e1.trans e2).trans e3
    have hf3 := e3.e.lst hf
    refine ⟨Nat.zero_le _, fun d hd => ?_⟩
    have e4 : Xh T.Ts h H3 (upd H3 d (.lst [])) := .new e3.hd hd
    have dh := e3.hd.ne hd
    refine ⟨_, rfl, _, rfl, _, rfl, _, _, rfl, rfl, h, _, rfl, e4.hd, by omega, by omega, fun a b m m0 m1 => ?_⟩
    have e5 := e4.draw a b
    have hd5 : upd (upd H3 d (.lst [])) h (.lst [.int a, .int b]) d = some (.lst []) := by rw [upd_ne dh]; exact upd_same
    generalize upd (upd H3 d (.lst [])) h (.lst [.int a, .int b]) = H5 at e5 hd5
    refine ⟨m, rfl, by omega, by omega, for_it (walk_range (lo := 0)) (fun i σ H' => ∃ (S : List (Int × Nat × Int)) (ss : List V) (v8 v9 : Option V), σ = [some (.ref h), some (.int 4), some (.int 4), some (.str (wS cs)), some (.int n), some (.ref fa), some (.ref la), some (.ref d), v8, v9] ∧
      Xh T.Ts h H3 H' ∧ H' d = some (.lst ss) ∧ RpAll (hid d (hid h H')) ss (S.map sD) ∧ S.Nodup ∧ S.length ≤ i ∧ ∀ s ∈ S, (0 ≤ s.1 ∧ s.1 < n) ∧ (97 ≤ s.2.1 ∧ s.2.1 ≤ 122) ∧ (0 ≤ s.2.2 ∧ s.2.2 < n))
      ⟨[], [], none, none, rfl, e5, hd5, .nil, List.nodup_nil, Nat.le_refl _, fun _ h => (by cases h)⟩ (fun _ _ _ _ _ => trivial) ?_ ?_⟩
    · rintro i y σ H6 H7 hi ⟨S, ss, v8, v9, rfl, e6, hd6, hS, nd, lS, okS⟩ ⟨rfl, rfl⟩
      refine ⟨_, rfl, _, rfl, h, n, rfl, e6.hd, by omega, by omega, fun a b r1 r10 r11 => ?_⟩
      have e7 := e6.draw a b
      have hd7 : upd H7 h (.lst [.int a, .int b]) d = some (.lst ss) := by rw [upd_ne dh]; exact hd6
      have hS7 : RpAll (hid d (hid h (upd H7 h (.lst [.int a, .int b])))) ss (S.map sD) := by rw [hid_upd]; exact hS
      generalize upd H7 h (.lst [.int a, .int b]) = H8 at e7 hd7 hS7
      refine ⟨_, rfl, _, rfl, _, rfl, _, rfl, by rw [lz]; exact len_le (by omega), h, _, rfl, e7.hd, by rw [lz]; omega, by rw [lz]; omega, fun a b r2 r20 r21 => ?_⟩
      rw [lz] at r21
      have e8 := e7.draw a b
      have hd8 : upd H8 h (.lst [.int a, .int b]) d = some (.lst ss) := by rw [upd_ne dh]; exact hd7
      have hS8 : RpAll (hid d (hid h (upd H8 h (.lst [.int a, .int b])))) ss (S.map sD) := by rw [hid_upd]; exact hS7
      generalize upd H8 h (.lst [.int a, .int b]) = H9 at e8 hd8 hS8
      obtain ⟨k, rfl⟩ : ∃ k : Nat, r2 = (k : Int) := ⟨r2.toNat, by omega⟩
      have hk : k < cs.length := by omega
      refine ⟨wS cs, _, cs[k], rfl, rfl, by rw [lz]; exact len_le (by omega), atI_nat (by show cs.toArray.toList[k]? = _; simp [hk]), ?_⟩
      refine ⟨_, rfl, _, rfl, h, n, rfl, e8.hd, by omega, by omega, fun a b r3 r30 r31 => ?_⟩
      have e9 := e8.draw a b
      have hd9 : upd H9 h (.lst [.int a, .int b]) d = some (.lst ss) := by rw [upd_ne dh]; exact hd8
      have hS9 : RpAll (hid d (hid h (upd H9 h (.lst [.int a, .int b])))) ss (S.map sD) := by rw [hid_upd]; exact hS8
      generalize upd H9 h (.lst [.int a, .int b]) = H10 at e9 hd9 hS9
      refine ⟨(by show 3 ≤ sizeLine; decide), fun p hp => ?_⟩
      have ph := e9.hd.ne hp
      have pd : d ≠ p := ne_of_none hd9 hp
      have e10 := e9.trans (.new (o := .tup [.int r1, .str (sg cs[k]), .int r3]) e9.hd hp)
      have hd10 : upd H10 p (.tup [.int r1, .str (sg cs[k]), .int r3]) d = some (.lst ss) := by rw [upd_ne pd]; exact hd9
      have hp10 : upd H10 p (.tup [.int r1, .str (sg cs[k]), .int r3]) p = some (.tup [.int r1, .str (sg cs[k]), .int r3]) := upd_same
      have hS10 : RpAll (hid d (hid h (upd H10 p (.tup [.int r1, .str (sg cs[k]), .int r3])))) ss (S.map sD) := by
        rw [hid_new ph, hid_new (Ne.symm pd)]
        exact rps_sub (sub_new (hid_none (hid_none hp))) _ hS9
      show gName 9 (V.ref p) _ (upd H10 p (.tup [.int r1, .str (sg cs[k]), .int r3])) _
      generalize upd H10 p (.tup [.int r1, .str (sg cs[k]), .int r3]) = H11 at e10 hd10 hp10 hS10
      have hc := cl _ (List.getElem_mem hk)
      have hS11 : RpAll H11 ss (S.map sD) := rps_sub sub_hid _ (rps_sub sub_hid _ hS10)
      refine ⟨_, rfl, _, rfl, sD (r1, cs[k], r3), S.map sD, rp_dp _ (sD_of hp10), .lst (.of hd10) (rps_dps hS11), shaped_nice (nice_sD hc) (Nat.le_trans (depth_sD _) (by decide)), shaped_list (fun z hz => nice_sD (okS z hz).2.1) (fun z _ => depth_sD z), _, rfl, ?_⟩
      rw [any_sD (fun t ht => (okS t ht).2.1) hc]
      by_cases hin : (r1, cs[k], r3) ∈ S
      · refine ifF (by rw [decide_eq_true hin]; rfl) ⟨S, ss, _, _, rfl, e10, hd10, hS10, nd, by omega, okS⟩
      · refine ifT (by rw [decide_eq_false hin]; rfl) ?_
        have lss := RpAll.len hS10
        rw [List.length_map] at lss
        refine ⟨_, rfl, .inl ⟨rfl, _, .of hd10⟩, _, rfl, d, _, _, rfl, rfl, hd10, len_lt (by omega), ?_⟩
        have hdp : hid d (hid h H11) p = some (.tup [.int r1, .str (sg cs[k]), .int r3]) := by rw [hid_ne (Ne.symm pd), hid_ne ph]; exact hp10
        refine ⟨S ++ [(r1, cs[k], r3)], ss ++ [.ref p], _, _, rfl, e10.put hd hd10 dh plain_lst, upd_same, ?_, ?_, ?_, fun s hs => ?_⟩
        · rw [hid2, hid_upd, ← hid2, List.map_append]
          exact hS10.app (.one (sD_of hdp))
        · exact List.nodup_append.mpr ⟨nd, by simp, fun a ha b hb => by obtain rfl := List.mem_singleton.mp hb; exact fun z => hin (z ▸ ha)⟩
        · rw [List.length_append]; show _ + 1 ≤ _; omega
        · rcases List.mem_append.mp hs with hs | hs
          · exact okS s hs
          · obtain rfl := List.mem_singleton.mp hs
            exact ⟨⟨r10, r11⟩, hc, r30, r31⟩
    · rintro σ H6 ⟨S, ss, v8, v9, rfl, e6, hd6, hS, nd, lS, okS⟩
      refine ⟨_, rfl, _, rfl, _, rfl, _, rfl, (by show 4 ≤ sizeLine; decide), fun p hp => ?_⟩
      have ph := e6.hd.ne hp
      have e7 := e6.trans (.new (o := .tup [.int n, .ref fa, .ref la, .ref d]) e6.hd hp)
      have ez : Xt T.Ts (hid h H6) (hid h (upd H6 p (.tup [.int n, .ref fa, .ref la, .ref d]))) := by rw [hid_new ph]; exact .new (hid_none hp)
      refine q.go (e03.trans e7) ⟨⟨n, fs, ls, S⟩, MAt.rp (a := p) (f := fa) (l := la) (s := d) (ss := ss) ⟨?_, e7.e.lst hf3, e7.e.lst hl, ez.lst ?_, ?_⟩, ⟨?_, by show n ≤ 4; omega, by show S.length ≤ 8; omega⟩⟩
      · rw [hid_ne ph]; exact upd_same
      · rw [hid_ne dh]; exact hd6
      · exact ez.rps (rps_sub sub_hid _ hS)
      · exact ⟨by show 1 ≤ n; omega, by show n ≤ 12; omega, okf.1, okf.2, okl.1, okl.2, nd, by show S.length ≤ 200; omega, okS⟩
end
end Tw
/-! Triesgrow: two machines side by side -/
namespace Tw
open PySem PySem.Spec PyProof.Rows L2 Tg NdefX LamX
open scoped Classical
theorem MAt.unhid {h : Addr} {H : Hp} {M : Mac} {a f l s : Addr} {ss : List V} (m : MAt (hid h H) M a f l s ss) : MAt H M a f l s ss := m.sub sub_hid
theorem perm_ins {α : Type} {S L : List α} (p : S.Perm L) (k : Nat) (x : α) : (S.take k ++ [x] ++ S.drop k).Perm (L ++ [x]) := by
  have h1 : (S.take k ++ [x] ++ S.drop k).Perm (S.take k ++ S.drop k ++ [x]) := by
    rw [List.append_assoc, List.append_assoc]
    exact List.Perm.append_left _ List.perm_append_comm
  rw [List.take_append_drop] at h1
  exact h1.trans (p.append_right _)
theorem small_len {M : Mac} (g : Small M) : M.F.length ≤ 12 ∧ M.L.length ≤ 12 := ⟨le_12 _ g.g.F g.g.Fr g.g.n2, le_12 _ g.g.L g.g.Lr g.g.n2⟩
section
variable {P : Program} {w : World} {K : PySem.W.Frag} {mg : Str → Option Value} {base : Heap}
theorem ok_law_beside (T : Txt K mg) : FnOk P w K mg base CX0 2 T.law_beside.f T.law_beside.fd P_law_beside (sp_law_beside T.Ts) := by
  refine T.law_beside.F.ok sc_law_beside (fun vs H Q E h => ?_) (fun cdv A outer s H vs Q E hr h => ⟨_, (pss_cons (ps_set (i := 3) sc_law_beside.nd rfl (Or.inr rfl) (pe_ix ix_tup (pv 1) pe_int (fun _ _ => rfl)))
    (pss_cons (ps_set (i := 4) sc_law_beside.nd rfl (Or.inl rfl) (pe_callTy call_list_of (by rfl) T.n_list (by decide +kernel) (pa_cons (pe_ix ix_tup (pv 1) pe_int (fun _ _ => rfl)) pa_nil)))
    (pss_cons (ps_for PassesOwn.never rfl (pi_list (pe_ix ix_tup (pv 2) pe_int (fun _ _ => rfl))) (pg_tup rfl (pgs_cons (pg_name (i := 5) sc_law_beside.nd rfl (Or.inl rfl)) (pgs_cons (pg_name (i := 6) sc_law_beside.nd rfl (Or.inl rfl)) (pgs_cons (pg_name (i := 7) sc_law_beside.nd rfl (Or.inl rfl)) pgs_nil))))
     (pss_one (ps_expr (pe_bm PySem.F.plainAttrs_list PySem.F.slot_list_insert PySem.F.type_list_insert mt_insert (pv 4) (pa_cons (pe_call (ok_law_draw T) (hr.mono (by decide)) rfl T.law_draw.g T.law_draw.F.kp T.law_draw.b .nil pass0 (pa_cons (pv 0) (pa_cons (pe_op op_add (pe_callB call_len_seq (by rfl) T.n_len PySem.boot_len (pa_cons (pv 4) pa_nil)) pe_int) pa_nil))) (pa_cons (pe_tup (pa_cons (pe_op op_add (pv 5) (pv 3)) (pa_cons (pv 6) (pa_cons (pe_op op_add (pv 7) (pv 3)) pa_nil)))) pa_nil))))))
    (pss_cons (ps_set (i := 8) sc_law_beside.nd rfl (Or.inl rfl) (pe_op op_cat (pe_ix ix_tup (pv 1) pe_int (fun _ _ => rfl)) (pe_lc (own := [("_law_room", 5)]) (by rfl) sc_law_beside.nd (pi_list (pe_ix ix_tup (pv 2) pe_int (fun _ _ => rfl))) (blkOk_by (own := [("_law_room", 5)]) (N := N_law_beside) (sc := defScope s_law_beside) (by decide +kernel)) (fun _ _ _ _ _ => (pg_name (i := 5) sc_law_beside.nd rfl (Or.inl rfl) (Or.inr rfl))) (fun _ _ _ _ _ => pts_nil) (fun _ _ _ _ _ => (pe_op op_add (pv 5) (pv 3))))))
    (pss_one (ps_ret (pe_tup (pa_cons (pe_op op_add (pv 3) (pe_ix ix_tup (pv 2) pe_int (fun _ _ => rfl))) (pa_cons (pv 8) (pa_cons (pe_op op_cat (pe_ix ix_tup (pv 1) pe_int (fun _ _ => rfl)) (pe_lc (own := [("_law_room", 5)]) (by rfl) sc_law_beside.nd (pi_list (pe_ix ix_tup (pv 2) pe_int (fun _ _ => rfl))) (blkOk_by (own := [("_law_room", 5)]) (N := N_law_beside) (sc := defScope s_law_beside) (by decide +kernel)) (fun _ _ _ _ _ => (pg_name (i := 5) sc_law_beside.nd rfl (Or.inl rfl) (Or.inr rfl))) (fun _ _ _ _ _ => pts_nil) (fun _ _ _ _ _ => (pe_op op_add (pv 5) (pv 3))))) (pa_cons (pv 4) pa_nil))))))))))), ?_⟩)
  · obtain ⟨_, _, _, _, _, rfl, _⟩ := h; rfl
  · obtain ⟨h, v1, v2, M, N, rfl, hh, hv1, hv2, gM, gN, q⟩ := h
    obtain ⟨a1, f1, l1, s1, ss1, rfl, m1⟩ := mD_inv hv1
    obtain ⟨a2, f2, l2, s2, ss2, rfl, m2⟩ := mD_inv hv2
    have n1 := gM.g.n1
    have n2 := gN.g.n1
    have lS1 := RpAll.len m1.ss
    rw [List.length_map] at lS1
    have lS2 := RpAll.len m2.ss
    rw [List.length_map] at lS2
    have s81 := gM.s8
    have s82 := gN.s8
    refine ⟨_, rfl, _, _, _, _, rfl, rfl, .of m1.unhid.t, atI_nat (j := 0) rfl, ?_⟩
    refine ⟨_, rfl, _, _, _, _, rfl, rfl, .of m1.unhid.t, atI_nat (j := 3) rfl, s1, _, rfl, .inl (.inl (.of m1.unhid.s)), fun d hd => ?_⟩
    have dh := hh.ne hd
    have e1 : Xh T.Ts h H (upd H d (.lst ss1)) := .new hh hd
    have hS1 : RpAll (hid d (hid h (upd H d (.lst ss1)))) ss1 (M.S.map sD) := by
      rw [hid2, hid_upd]
      refine rps_sub ⟨fun a xs e => ?_, fun a xs e => ?_⟩ _ m1.ss <;>
      · obtain ⟨z1, z2⟩ := hid_some e
        rw [hid_ne z1, hid_ne fun z => by rw [z, hd] at z2; cases z2]
        exact z2
    have hd1 : upd H d (.lst ss1) d = some (.lst ss1) := upd_same
    generalize upd H d (.lst ss1) = H1 at e1 hS1 hd1
    have m21 := m2.mono e1.e
    refine ⟨_, rfl, _, _, _, _, rfl, rfl, .of m21.unhid.t, atI_nat (j := 3) rfl, s2, rfl, ⟨_, .of m21.unhid.s⟩, for_it (walk_list (xs := ss2)) (fun i σ H' => ∃ (S : List (Int × Nat × Int)) (ss : List V) (v5 v6 v7 : Option V), σ = [some (.ref h), some (.ref a1), some (.ref a2), some (.int M.n), some (.ref d), v5, v6, v7, none] ∧
      Xh T.Ts h H H' ∧ H' d = some (.lst ss) ∧ RpAll (hid d (hid h H')) ss (S.map sD) ∧ S.Perm (M.S ++ (N.S.take i).map (sh M.n)) ∧ S.length ≤ 8 + i)
      ⟨M.S, ss1, none, none, none, rfl, e1, hd1, hS1, by simp, by omega⟩ (fun i σ H' _ q => ?_) ?_ ?_⟩
    · obtain ⟨_, _, _, _, _, _, e, _⟩ := q
      exact .of ((m2.mono e.e).unhid.s)
    · rintro i y σ H6 H7 hi ⟨S, ss, v5, v6, v7, rfl, e6, hd6, hS, pS, lS⟩ ⟨rfl, hy⟩
      have m26 := m2.mono e6.e
      obtain ⟨z, hz, hyz⟩ := RpAll.getM m26.ss hy
      obtain ⟨pa, rfl, hpa⟩ := sD_inv hyz
      have hpa6 := (hid_some hpa).2
      refine ⟨pa, _, rfl, .inl (.of hpa6), rfl, _, _, rfl, _, _, rfl, _, _, rfl, rfl, ?_⟩
      refine ⟨_, rfl, .inl ⟨rfl, _, .of hd6⟩, ?_⟩
      have lss := RpAll.len hS
      rw [List.length_map] at lss
      refine ⟨_, rfl, _, rfl, d, _, rfl, .inl (.inl (.of hd6)), _, _, rfl, rfl, h, _, rfl, e6.hd, by omega, by omega, fun a b r r0 r1 => ?_⟩
      have e7 := e6.draw a b
      have hd7 : upd H7 h (.lst [.int a, .int b]) d = some (.lst ss) := by rw [upd_ne dh]; exact hd6
      have hS7 : RpAll (hid d (hid h (upd H7 h (.lst [.int a, .int b])))) ss (S.map sD) := by rw [hid_upd]; exact hS
      generalize upd H7 h (.lst [.int a, .int b]) = H8 at e7 hd7 hS7
      refine ⟨_, rfl, _, rfl, _, _, rfl, rfl, _, rfl, _, rfl, _, rfl, _, _, rfl, rfl, (by show 3 ≤ sizeLine; decide), fun p hp => ?_⟩
      have ph := e7.hd.ne hp
      have pd : d ≠ p := ne_of_none hd7 hp
      have e10 := e7.trans (.new (o := .tup [.int (z.1 + M.n), .str (sg z.2.1), .int (z.2.2 + M.n)]) e7.hd hp)
      have hd10 : upd H8 p (.tup [.int (z.1 + M.n), .str (sg z.2.1), .int (z.2.2 + M.n)]) d = some (.lst ss) := by rw [upd_ne pd]; exact hd7
      have hp10 : hid d (hid h (upd H8 p (.tup [.int (z.1 + M.n), .str (sg z.2.1), .int (z.2.2 + M.n)]))) p = some (.tup [.int (z.1 + M.n), .str (sg z.2.1), .int (z.2.2 + M.n)]) := by rw [hid_ne (Ne.symm pd), hid_ne ph]; exact upd_same
      have hS10 : RpAll (hid d (hid h (upd H8 p (.tup [.int (z.1 + M.n), .str (sg z.2.1), .int (z.2.2 + M.n)])))) ss (S.map sD) := by
        rw [hid_new ph, hid_new (Ne.symm pd)]
        exact rps_sub (sub_new (hid_none (hid_none hp))) _ hS7
      have rb : r < 2 ^ 63 := Int.lt_trans (show r < 2000 by omega) (by decide)
      refine ⟨d, ss, r, .ref p, rfl, rfl, hd10, len_lt (by omega), r0, rb, ?_⟩
      refine ⟨S.take r.toNat ++ [sh M.n z] ++ S.drop r.toNat, ss.take r.toNat ++ [.ref p] ++ ss.drop r.toNat, _, _, _, rfl, e10.put hd hd10 dh plain_lst, upd_same, ?_, ?_, ?_⟩
      · rw [hid2, hid_upd, ← hid2, List.map_append, List.map_append, List.map_take, List.map_drop]
        exact ((hS10.take _).app (.one (sD_of (s := sh M.n z) hp10))).app (hS10.drop _)
      · rw [take_succ' hz, List.map_append, ← List.append_assoc]
        exact perm_ins pS _ _
      · simp only [List.length_append, List.length_take, List.length_drop, List.length_singleton]
        omega
    · rintro σ H6 ⟨S, ss, v5, v6, v7, rfl, e6, hd6, hS, pS, lS⟩
      rw [lS2, List.take_length] at pS
      have lss := RpAll.len hS
      rw [List.length_map] at lss
      obtain ⟨lF1, lL1⟩ := small_len gM
      obtain ⟨lF2, lL2⟩ := small_len gN
      have m16 := (m1.mono e6.e).unhid
      have m26 := (m2.mono e6.e).unhid
      refine ⟨_, rfl, _, _, _, _, rfl, rfl, .of m16.t, atI_nat (j := 1) rfl, _, rfl, _, _, _, _, rfl, rfl, .of m26.t, atI_nat (j := 1) rfl, f2, rfl, ⟨_, .of m26.f⟩, fun D hD => ?_⟩
      refine lc_sel (T := T.Ts) (walk_list (xs := N.F.map V.int)) hD (fun i acc Hh => acc = ((N.F.take i).map (· + M.n)).map V.int) (fun H5 e5 => .of (e5.lst m26.f)) rfl (fun i x acc H5 H9 hi e5 hacc lacc hR5 hY => ?_) (fun acc H7 e7 hacc lacc hR5 => ?_)
      · obtain ⟨rfl, hx⟩ := hY
        obtain ⟨r, hr', rfl⟩ := int_at hx
        rw [List.length_map] at hi
        refine ⟨rfl, _, rfl, _, rfl, _, _, rfl, rfl, LcP.put hD e5 hacc lacc (by omega) ?_⟩
        rw [hR5, take_succ' hr', List.map_append, List.map_append]
        rfl
      rw [List.length_map, List.take_length] at hR5
      subst hR5
      have m17 := m16.mono e7
      refine ⟨f1, D, _, _, rfl, rfl, m17.f, hacc, len_le (by simp only [List.length_map]; omega), fun F hF => ?_⟩
      have e8 : Xt T.Ts H7 (upd H7 F (.lst (M.F.map V.int ++ (N.F.map (· + M.n)).map V.int))) := .new hF
      have hF8 : upd H7 F (.lst (M.F.map V.int ++ (N.F.map (· + M.n)).map V.int)) F = some (.lst ((M.F ++ N.F.map (· + M.n)).map V.int)) := by rw [upd_same, List.map_append]
      show gName 8 (V.ref F) _ (upd H7 F (.lst (M.F.map V.int ++ (N.F.map (· + M.n)).map V.int))) _
      generalize upd H7 F (.lst (M.F.map V.int ++ (N.F.map (· + M.n)).map V.int)) = H8 at e8 hF8
      have m18 := m17.mono e8
      have m28 := m26.mono (e7.trans e8)
      refine ⟨_, rfl, _, rfl, _, _, _, _, rfl, rfl, .of m28.t, atI_nat (j := 0) rfl, _, _, rfl, rfl, ?_⟩
      refine ⟨_, rfl, _, rfl, _, _, _, _, rfl, rfl, .of m18.t, atI_nat (j := 2) rfl, _, rfl, _, _, _, _, rfl, rfl, .of m28.t, atI_nat (j := 2) rfl, l2, rfl, ⟨_, .of m28.l⟩, fun D2 hD2 => ?_⟩
      refine lc_sel (T := T.Ts) (walk_list (xs := N.L.map V.int)) hD2 (fun i acc Hh => acc = ((N.L.take i).map (· + M.n)).map V.int) (fun H5 e5 => .of (e5.lst m28.l)) rfl (fun i x acc H5 H9 hi e5 hacc lacc hR5 hY => ?_) (fun acc H9 e9 hacc lacc hR5 => ?_)
      · obtain ⟨rfl, hx⟩ := hY
        obtain ⟨r, hr', rfl⟩ := int_at hx
        rw [List.length_map] at hi
        refine ⟨rfl, _, rfl, _, rfl, _, _, rfl, rfl, LcP.put hD2 e5 hacc lacc (by omega) ?_⟩
        rw [hR5, take_succ' hr', List.map_append, List.map_append]
        rfl
      rw [List.length_map, List.take_length] at hR5
      subst hR5
      have m19 := m18.mono e9
      refine ⟨l1, D2, _, _, rfl, rfl, m19.l, hacc, len_le (by simp only [List.length_map]; omega), fun L hL => ?_⟩
      have e10 : Xt T.Ts H9 (upd H9 L (.lst (M.L.map V.int ++ (N.L.map (· + M.n)).map V.int))) := .new hL
      have hL10 : upd H9 L (.lst (M.L.map V.int ++ (N.L.map (· + M.n)).map V.int)) L = some (.lst ((M.L ++ N.L.map (· + M.n)).map V.int)) := by rw [upd_same, List.map_append]
      have hF10 := (e9.trans e10).lst hF8
      have hd10 := (((e7.trans e8).trans e9).trans e10).lst hd6
      have eh : Xt T.Ts H6 (upd H9 L (.lst (M.L.map V.int ++ (N.L.map (· + M.n)).map V.int))) := ((e7.trans e8).trans e9).trans e10
      have hS10 : RpAll (hid h (upd H9 L (.lst (M.L.map V.int ++ (N.L.map (· + M.n)).map V.int)))) ss (S.map sD) := (Xh.of e6.hd eh).e.rps (rps_sub sub_hid _ hS)
      generalize upd H9 L (.lst (M.L.map V.int ++ (N.L.map (· + M.n)).map V.int)) = H10 at e10 hL10 hF10 hd10 eh hS10
      have ehh := e6.trans (.of e6.hd eh)
      refine ⟨_, rfl, (by show 4 ≤ sizeLine; decide), fun p hp => ?_⟩
      have ph := ehh.hd.ne hp
      have e11 := ehh.trans (.new (o := .tup [.int (M.n + N.n), .ref F, .ref L, .ref d]) ehh.hd hp)
      have ez : Xt T.Ts (hid h H10) (hid h (upd H10 p (.tup [.int (M.n + N.n), .ref F, .ref L, .ref d]))) := by rw [hid_new ph]; exact .new (hid_none hp)
      have Fh : F ≠ h := (Xh.of e6.hd e7).hd.ne hF
      have Lh : L ≠ h := (Xh.of e6.hd ((e7.trans e8).trans e9)).hd.ne hL
      refine q.go e11 ⟨⟨M.n + N.n, M.F ++ N.F.map (· + M.n), M.L ++ N.L.map (· + M.n), S⟩, MAt.rp (a := p) (f := F) (l := L) (s := d) (ss := ss) ⟨?_, ez.lst ?_, ez.lst ?_, ez.lst ?_, ez.rps hS10⟩, ⟨rfl, rfl, rfl, pS⟩⟩
      · rw [hid_ne ph]; exact upd_same
      · rw [hid_ne Fh]; exact hF10
      · rw [hid_ne Lh]; exact hL10
      · rw [hid_ne dh]; exact hd10
end
end Tw
/-! Triesgrow: the greatest number of ways -/
namespace Tw
open PySem PySem.Spec PyProof.Rows L2 Tg NdefX LamX
open scoped Classical
theorem tif_fin {b : Bool} {a : TS} {D : Ends} {σ : L2.St} {H : Hp} (R : L2.St → Hp → Prop) (loop : ∀ σ' H', R σ' H' → D.nx σ' H') (h1 : b = true → (∀ σ' H', R σ' H' → D.nx σ' H') → a D σ H) (h0 : b = false → R σ H) :
    if b = true then a D σ H else tNext D σ H := by
  cases b with
  | true => exact h1 rfl loop
  | false => exact loop _ _ (h0 rfl)
/-- where a word leads, over the trimmed machine -/
noncomputable def vw (M : Mac) (u : List Nat) : Vec := mvs (trim M).S (al (trim M).F) u
noncomputable def kw (M : Mac) (u : List Nat) : List Key := (vecL M.n (vw M u)).map .inl
noncomputable def eD (M : Mac) (u : List Nat) : PyData := .tuple [.list ((vecL M.n (vw M u)).map .int), .str (wS u)]
theorem kw_vals (M : Mac) (u : List Nat) : (kw M u).map kV = (vecL M.n (vw M u)).map V.int := by unfold kw; rw [List.map_map]; rfl
theorem kw_inj {M : Mac} {u v : List Nat} (h : kw M u = kw M v) : vecL M.n (vw M u) = vecL M.n (vw M v) := by
  unfold kw at h
  have := congrArg (List.map fun k : Key => k.elim id fun _ => 0) h
  simpa [List.map_map, Function.comp_def] using this
theorem vw_snoc (M : Mac) (u : List Nat) (c : Nat) : mv (trim M).S (vw M u) c = vw M (u ++ [c]) := (mvs_snoc _ _ _ _).symm
theorem nice_eD {M : Mac} {u : List Nat} (h : LetOk u) : nice (eD M u) = true := by
  show nice (.tuple [.list _, .str (wS u)]) = true
  simp only [nice, nices, Bool.and_eq_true, and_true]
  exact ⟨nices_map fun _ _ => rfl, by simpa [nice] using letOk_nice h⟩
theorem depth_eD (M : Mac) (u : List Nat) : (eD M u).depth ≤ 60 := by
  show PyData.depth (.tuple [.list ((vecL M.n (vw M u)).map .int), .str (wS u)]) ≤ 60
  have := depth_map (f := PyData.int) (k := 1) (l := vecL M.n (vw M u)) fun z _ => by simp [PyData.depth]
  simp only [PyData.depth, PyData.depthAll]
  omega
theorem eD_inv {H : Hp} {v : V} {M : Mac} {u : List Nat} (h : Rp H v (eD M u)) : ∃ a l, v = .ref a ∧ H a = some (.tup [.ref l, .str (wS u)]) ∧ H l = some (.lst ((vecL M.n (vw M u)).map V.int)) := by
  obtain ⟨a, xs, rfl, ht, hx⟩ := Rp.tuple_inv h
  cases hx with
  | cons h1 r =>
    cases r with
    | cons h2 r =>
      cases r
      obtain ⟨l, rfl, hl⟩ := Rp.ints_inv h1
      obtain rfl := Rp.str_inv h2
      exact ⟨a, l, rfl, ht, hl⟩
/-- what the search knows: words known, words done, the word in work, words that wait -/
structure GI (T : List NTab) (M : Mac) (H0 H : Hp) (d wq fa : Addr) (W D U Qs : List (List Nat)) (xs : List V) (kvs : List (List Key × V)) (G : Int) (tx : V) : Prop where
  e : Xt T H0 H
  hd : H d = some (.dT kvs)
  hw : H wq = some (.lst xs)
  en : RpAll (hid wq H) xs (Qs.map (eD M))
  hf : H fa = some (.tup [.int G, tx])
  ks : ∀ k, (valV kvs k).isSome = true ↔ ∃ w ∈ W, k = kw M w
  kl : kvs.length ≤ 2000
  lk : ∀ w ∈ Qs, LetOk w ∧ w.length ≤ kvs.length
  ql : Qs.length ≤ kvs.length
  nn : 0 ≤ G
  has : G = 0 ∨ ∃ w, valI M w = G
  cov : ∀ w ∈ W, w ∈ D ∨ w ∈ U ∨ w ∈ Qs
  done : ∀ w ∈ D, sumAt (vw M w) (trim M).L ≤ G ∧ ∀ a, (∃ s ∈ (trim M).S, s.2.1 = a) → (∃ v ∈ W, kw M (w ++ [a]) = kw M v) ∨ ∀ r ∈ rangeI M.n, vw M (w ++ [a]) r = 0
  beg : [] ∈ W
theorem GI.mono {T : List NTab} {M : Mac} {H0 H H' : Hp} {d wq fa : Addr} {W D U Qs : List (List Nat)} {xs : List V} {kvs : List (List Key × V)} {G : Int} {tx : V} (g : GI T M H0 H d wq fa W D U Qs xs kvs G tx) (e : Xt T H H') : GI T M H0 H' d wq fa W D U Qs xs kvs G tx :=
  { g with e := g.e.trans e, hd := e.at g.hd plain_dT, hw := e.lst g.hw, en := rps_sub (hid_sub e.sub) _ g.en, hf := e.tup g.hf }
theorem GI.grt {T : List NTab} {M : Mac} {H0 H : Hp} {d wq fa : Addr} {W D : List (List Nat)} {xs : List V} {kvs : List (List Key × V)} {G : Int} {tx : V} (g : Good M) (i : GI T M H0 H d wq fa W D [] [] xs kvs G tx) : Grt M G := by
  refine grt_of (known := W.map fun w => (rangeI M.n).map (vw M w)) g i.nn i.has (List.mem_map.mpr ⟨[], i.beg, rfl⟩) fun v hv => ?_
  obtain ⟨w, hw, e⟩ := List.mem_map.mp hv
  have ev : ∀ r ∈ rangeI M.n, vw M w r = v r := fun r hr => by
    obtain ⟨k, hk⟩ := List.mem_iff_getElem?.mp hr
    have := congrArg (fun l => l[k]?) e
    simp only [List.getElem?_map, hk, Option.map_some, Option.some.injEq] at this
    exact this
  have hD : w ∈ D := (i.cov w hw).resolve_right fun z => by rcases z with z | z <;> cases z
  obtain ⟨h1, h2⟩ := i.done w hD
  have gt := g.trim
  refine ⟨?_, fun a ha => ?_⟩
  · have : sumAt v (trim M).L = sumAt (vw M w) (trim M).L := by
      unfold sumAt
      congr 1
      exact List.map_congr_left fun r hr => (ev r (mem_rangeI.mpr (gt.Lr r hr))).symm
    rw [this]; exact h1
  · have em : ∀ r, mv (trim M).S v a r = vw M (w ++ [a]) r := fun r => by
      rw [← vw_snoc]
      exact mv_congr (fun s hs => (ev s.1 (mem_rangeI.mpr (gt.Sr s hs).1)).symm) r
    rcases h2 a ha with ⟨x, hx, ex⟩ | h2
    · refine .inl (List.mem_map.mpr ⟨x, hx, ?_⟩)
      show vecL M.n (vw M x) = _
      rw [← kw_inj ex]
      exact List.map_congr_left fun r _ => (em r).symm
    · exact .inr fun r hr => by rw [em r]; exact h2 r hr
def sp_ranks_or_doubling (T : List NTab) : Sp := fun vs H Q _ => ∃ (v : V) (M : Mac) (l : List (Option Int)), vs = [v] ∧ Rp H v (mD M) ∧ Good M ∧ TabsN T H ∧ ranksL M = some l ∧ Ret T H Q fun v H' => ∃ p, v = .ref p ∧ H' p = some (.lst (l.map oV))
def sp_greatest (T : List NTab) (C : Addr) : Sp := fun vs H Q E => ∃ (v : V) (M : Mac) (l : List (Option Int)), vs = [v] ∧ Rp H v (mD M) ∧ Good M ∧ TabsN T H ∧ ranksL M = some l ∧ grk l = 0 ∧ (∀ (H' : Hp) (d : Addr), Xt T H H' → E (.ref C) (some d) H') ∧
  Ret T H Q fun v H' => ∃ p G t, v = .ref p ∧ H' p = some (.tup [.int G, t]) ∧ Grt M G
section
variable {P : Program} {w : World} {K : PySem.W.Frag} {mg : Str → Option Value} {base : Heap}
theorem ok_ranks_or_doubling (T : Txt K mg) (TB : Tbs T base) : FnOk P w K mg base CX0 10 T.ranks_or_doubling.f T.ranks_or_doubling.fd P_ranks_or_doubling (sp_ranks_or_doubling T.Ts) := by
  refine T.ranks_or_doubling.F.ok sc_ranks_or_doubling (fun vs H Q E h => ?_) (fun cdv A outer s H vs Q E hr h => ⟨_, (pss_cons (ps_set (i := 1) sc_ranks_or_doubling.nd rfl (Or.inl rfl) (pe_call (ok_ranks T TB) (hr.mono (by decide)) rfl T.ranks.g T.ranks.F.kp T.ranks.b .nil pass0 (pa_cons (pv 0) pa_nil)))
    (pss_cons (ps_if (pt_cmpR op_isN (pv 1) pe_non (nomark _)) (pss_one ps_never) pss_nil)
    (pss_one (ps_ret (pv 1))))), ?_⟩)
  · obtain ⟨_, _, _, rfl, _⟩ := h; rfl
  · obtain ⟨v, M, l, rfl, hv, g, hT, hl, q⟩ := h
    refine ⟨_, rfl, _, M, rfl, hv, g, hT, fun v1 H1 e1 h1 => ?_⟩
    unfold RkPost at h1
    rw [hl] at h1
    obtain ⟨p, rfl, hp⟩ := h1
    refine ⟨_, rfl, rfl, _, rfl, iteF ?_⟩
    exact ⟨_, rfl, q.go e1 ⟨p, rfl, hp⟩⟩
theorem ok_greatest (T : Txt K mg) (TB : Tbs T base) : FnOk P w K mg base (L2.CX P w) 11 T.greatest.f T.greatest.fd P_greatest (sp_greatest T.Ts T.tm.C) := by
  refine T.greatest.F.okX sc_greatest (fun vs H Q E h => ?_) (fun cdv A outer s H vs Q E hr h => ⟨_, (pss_cons (ps_expr (pe_call (ok_look_at T) (hr.mono (by decide)) rfl T.look_at.g T.look_at.F.kp T.look_at.b .nil pass0 (pa_cons (pv 0) pa_nil)))
    (pss_cons (ps_set (i := 1) sc_greatest.nd rfl (Or.inl rfl) (pe_call (ok_ranks_or_doubling T TB) (hr.mono (by decide)) rfl T.ranks_or_doubling.g T.ranks_or_doubling.F.kp T.ranks_or_doubling.b .nil pass0 (pa_cons (pv 0) pa_nil)))
    (pss_cons (ps_if (pt_cmpR op_gt (pe_call (ok_greatest_rank T) (hr.mono (by decide)) rfl T.greatest_rank.g T.greatest_rank.F.kp T.greatest_rank.b .nil pass0 (pa_cons (pv 1) pa_nil)) pe_int (nomark _)) (pss_one ps_never) pss_nil)
    (pss_cons (ps_set (i := 2) sc_greatest.nd rfl (Or.inl rfl) (pe_call (ok_trimmed T) (hr.mono (by decide)) rfl T.trimmed.g T.trimmed.F.kp T.trimmed.b .nil pass0 (pa_cons (pv 0) pa_nil)))
    (pss_cons (ps_set (i := 3) sc_greatest.nd rfl (Or.inl rfl) (pe_call (ok_alone_at T) (hr.mono (by decide)) rfl T.alone_at.g T.alone_at.F.kp T.alone_at.b .nil pass0 (pa_cons (pv 2) (pa_cons (pe_ix ix_tup (pv 2) pe_int (fun _ _ => rfl)) pa_nil))))
    (pss_cons (ps_set (i := 4) sc_greatest.nd rfl (Or.inl rfl) (pe_dispT1 (hu_of hr) (pe_callTy call_tuple_of (by rfl) T.n_tuple (by decide +kernel) (pa_cons (pv 3) pa_nil)) pe_bl))
    (pss_cons (ps_set (i := 5) sc_greatest.nd rfl (Or.inl rfl) (pe_lst (pa_cons (pe_tup (pa_cons (pv 3) (pa_cons pe_str pa_nil))) pa_nil)))
    (pss_cons (ps_set (i := 6) sc_greatest.nd rfl (Or.inl rfl) (pe_tup (pa_cons pe_int (pa_cons pe_non pa_nil))))
    (pss_cons (ps_while (passes_of rfl) (pt_cmpR (op_neD hr.units) (pv 5) (pe_lst pa_nil) (nomark _))
     (pss_cons (ps_asg (pe_bm PySem.F.plainAttrs_list PySem.F.slot_list_pop PySem.F.type_list_pop mt_popAt (pv 5) (pa_cons pe_int pa_nil)) (pg_tup rfl (pgs_cons (pg_name (i := 7) sc_greatest.nd rfl (Or.inl rfl)) (pgs_cons (pg_name (i := 8) sc_greatest.nd rfl (Or.inl rfl)) pgs_nil))))
      (pss_cons (ps_if (pt_cmpR op_gt (pe_call (ok_sum_at T) (hr.mono (by decide)) rfl T.sum_at.g T.sum_at.F.kp T.sum_at.b .nil pass0 (pa_cons (pv 7) (pa_cons (pe_ix ix_tup (pv 2) pe_int (fun _ _ => rfl)) pa_nil))) (pe_ix ix_tup (pv 6) pe_int (fun _ _ => rfl)) (nomark _)) (pss_one (ps_set (i := 6) sc_greatest.nd rfl (Or.inl rfl) (pe_tup (pa_cons (pe_call (ok_sum_at T) (hr.mono (by decide)) rfl T.sum_at.g T.sum_at.F.kp T.sum_at.b .nil pass0 (pa_cons (pv 7) (pa_cons (pe_ix ix_tup (pv 2) pe_int (fun _ _ => rfl)) pa_nil))) (pa_cons (pv 8) pa_nil))))) pss_nil)
      (pss_one (ps_for (passes_of rfl) rfl (pi_list (pe_call (ok_signs_of T) (hr.mono (by decide)) rfl T.signs_of.g T.signs_of.F.kp T.signs_of.b .nil pass0 (pa_cons (pv 2) pa_nil))) (pg_name (i := 9) sc_greatest.nd rfl (Or.inl rfl))
      (pss_cons (ps_set (i := 10) sc_greatest.nd rfl (Or.inl rfl) (pe_call (ok_moved T) (hr.mono (by decide)) rfl T.moved.g T.moved.F.kp T.moved.b .nil pass0 (pa_cons (pv 2) (pa_cons (pv 7) (pa_cons (pv 9) pa_nil)))))
       (pss_one (ps_if (PW.pt (pw_and (pt_cmpR op_gt (pe_callB (cr_max rfl) (by rfl) T.n_max (by decide +kernel) (pa_cons (pv 10) pa_nil)) pe_int (nomark _)) (pw_and1 (pt_cmp (pc_dnotin (hu_of hr) (pe_callTy call_tuple_of (by rfl) T.n_tuple (by decide +kernel) (pa_cons (pv 10) pa_nil)) (pv 4)))))) (pss_cons (ps_if (pt_cmpR op_eq (pe_callB call_len_dT (by rfl) T.n_len PySem.boot_len (pa_cons (pv 4) pa_nil)) (pe_glob (v := .int 2000) rfl T.g_MOST_MET ⟨_, rfl⟩) (nomark _)) (pss_one (ps_raiseTM rfl T.tm hr (takes_of rfl rfl rfl rfl) (pa_cons (pe_glob (v := .int 2000) rfl T.g_MOST_MET ⟨_, rfl⟩) pa_nil))) pss_nil)
        (pss_cons (ps_dput (hu_of hr) (pv 4) (pe_callTy call_tuple_of (by rfl) T.n_tuple (by decide +kernel) (pa_cons (pv 10) pa_nil)) pe_bl rfl)
        (pss_one (ps_expr (pe_bm PySem.F.plainAttrs_list PySem.F.slot_list_append PySem.F.type_list_append mt_append (pv 5) (pa_cons (pe_tup (pa_cons (pv 10) (pa_cons (pe_op op_add_str (pv 8) (pv 9)) pa_nil))) pa_nil)))))) pss_nil))))))))
    (pss_one (ps_ret (pv 6)))))))))))), ?_⟩)
  · obtain ⟨_, _, _, rfl, _⟩ := h; rfl
  · obtain ⟨v, M, l, rfl, hv, g, hT, hl, hg, qE, q⟩ := h
    have gt := g.trim
    have n1 := g.n1
    have n2 := g.n2
    refine ⟨_, rfl, _, M, rfl, hv, g, fun v1 H1 e1 _ => ?_⟩
    refine ⟨_, rfl, _, M, l, rfl, e1.rp hv, g, e1.tab hT, hl, fun v2 H2 e2 h2 => ?_⟩
    obtain ⟨sa, rfl, hsa⟩ := h2
    have e02 := e1.trans e2
    have ll := ranksL_len g hl
    refine ⟨_, rfl, sa, l, rfl, hsa, by omega, fun x hx => (ranks_mem g hl hx).1, fun v3 H3 e3 h3 => ?_⟩
    subst h3
    refine ⟨_, _, rfl, rfl, _, rfl, ifF (by rw [hg]; rfl) ?_⟩
    have e03 := e02.trans e3
    refine ⟨_, rfl, _, M, rfl, e03.rp hv, g, fun v4 H4 e4 h4 => ?_⟩
    obtain ⟨ta, tf, tl, ts, tss, rfl, mt⟩ := mD_inv h4
    have e04 := e03.trans e4
    refine ⟨_, rfl, _, rfl, _, _, _, _, rfl, rfl, .of mt.t, atI_nat (j := 1) rfl, _, tf, trim M, (trim M).F, rfl, mt.rp, gt, mt.f, fun v5 H5 e5 h5 => ?_⟩
    obtain ⟨ba, rfl, bn, hb⟩ := h5
    have mt5 := mt.mono e5
    have e05 := e04.trans e5
    intro d hd
    have e6 : Xt T.Ts H5 (upd H5 d (.dT [])) := .new hd
    refine ⟨_, rfl, ba, _, rfl, .inl ⟨.inl (.of (e6.lst hb)), fun tp htp => ?_⟩⟩
    have dtp : d ≠ tp := ne_of_none (H := upd H5 d (.dT [])) upd_same htp
    refine ⟨kw M [], tp, by rw [upd_ne dtp]; exact upd_same, rfl, by rw [kw_vals]; exact upd_same, ?_⟩
    have e7 : Xt T.Ts H5 (upd (upd (upd H5 d (.dT [])) tp (.tup ((vecL M.n (vw M [])).map V.int))) d (.dT (putK [] (kw M []) (.bl true)))) := (e6.trans (.new htp)).put hd (by rw [upd_ne dtp]; exact upd_same) plain_dT
    have hd7 : upd (upd (upd H5 d (.dT [])) tp (.tup ((vecL M.n (vw M [])).map V.int))) d (.dT (putK [] (kw M []) (.bl true))) d = some (.dT (putK [] (kw M []) (.bl true))) := upd_same
    show gName 4 (V.ref d) _ (upd (upd (upd H5 d (.dT [])) tp (.tup ((vecL M.n (vw M [])).map V.int))) d (.dT (putK [] (kw M []) (.bl true)))) _
    generalize upd (upd (upd H5 d (.dT [])) tp (.tup ((vecL M.n (vw M [])).map V.int))) d (.dT (putK [] (kw M []) (.bl true))) = H7 at e7 hd7
    have hb7 := e7.lst hb
    refine ⟨_, rfl, (by show 2 ≤ sizeLine; decide), fun p0 hp0 => ⟨(by show 1 ≤ sizeLine; decide), fun wq hwq => ?_⟩⟩
    have e8 : Xt T.Ts H7 (upd (upd H7 p0 (.tup [.ref ba, .str (wS [])])) wq (.lst [.ref p0])) := by exact (Xt.new hp0).trans (.new hwq)
    have pw : p0 ≠ wq := ne_of_none (H := upd H7 p0 (.tup [.ref ba, .str (wS [])])) upd_same hwq
    have hw8 : upd (upd H7 p0 (.tup [.ref ba, .str (wS [])])) wq (.lst [.ref p0]) wq = some (.lst [.ref p0]) := upd_same
    have en8 : RpAll (hid wq (upd (upd H7 p0 (.tup [.ref ba, .str (wS [])])) wq (.lst [.ref p0]))) [.ref p0] ([[]].map (eD M)) := by
      rw [hid_upd, hid_new pw]
      have wq7 : H7 wq = none := (Xt.new (T := T.Ts) hp0).dom _ hwq
      refine .one (.tup upd_same (.cons (.ints ?_) (.cons (.str _) .nil)))
      rw [upd_ne (ne_of_none hb7 hp0), hid_ne (ne_of_none hb7 wq7)]
      exact hb7
    show gName 5 (V.ref wq) _ (upd (upd H7 p0 (.tup [.ref ba, .str (wS [])])) wq (.lst [.ref p0])) _
    have wqH : H4 wq = none := e5.dom _ (e7.dom _ ((Xt.new (T := T.Ts) hp0).dom _ hwq))
    have dH : H4 d = none := e5.dom _ hd
    generalize upd (upd H7 p0 (.tup [.ref ba, .str (wS [])])) wq (.lst [.ref p0]) = H8 at e8 hw8 en8
    refine ⟨(by show 2 ≤ sizeLine; decide), fun fa hfa => ?_⟩
    have e9 : Xt T.Ts H8 (upd H8 fa (.tup [.int 0, .non])) := .new hfa
    have gi0 : GI T.Ts M H4 (upd H8 fa (.tup [.int 0, .non])) d wq fa [[]] [] [] [[]] [.ref p0] (putK [] (kw M []) (.bl true)) 0 .non :=
      { e := e5.trans (e7.trans (e8.trans e9)), hd := (e8.trans e9).at hd7 plain_dT, hw := e9.lst hw8, en := rps_sub (hid_sub e9.sub) _ en8, hf := upd_same
        ks := fun k => by
          rw [valV_put]
          by_cases c : k = kw M []
          · rw [if_pos c]; simp [c]
          · rw [if_neg c]; simp [valV, c]
        kl := by show 1 ≤ 2000; decide
        lk := fun w hw => by obtain rfl := List.mem_singleton.mp hw; exact ⟨fun _ h => (by cases h), Nat.zero_le _⟩
        ql := Nat.le_refl _
        nn := Int.le_refl _
        has := .inl rfl
        cov := fun w hw => .inr (.inr hw)
        done := fun w hw => (by cases hw)
        beg := List.mem_singleton.mpr rfl }
    show gName 6 (V.ref fa) _ (upd H8 fa (.tup [.int 0, .non])) _
    generalize upd H8 fa (.tup [.int 0, .non]) = H9 at gi0
    refine ⟨fun m σ H' => ∃ (fa : Addr) (W D Qs : List (List Nat)) (xs : List V) (kvs : List (List Key × V)) (G : Int) (tx : V) (v7 v8 v9 v10 : Option V), σ = [some v, some (.ref sa), some (.ref ta), some (.ref ba), some (.ref d), some (.ref wq), some (.ref fa), v7, v8, v9, v10] ∧
      GI T.Ts M H4 H' d wq fa W D [] Qs xs kvs G tx ∧ m = (2000 - kvs.length) + Qs.length, ⟨_, fa, [[]], [], [[]], _, _, _, _, none, none, none, none, rfl, gi0, rfl⟩, ?_⟩
    rintro m σ H10 ⟨fa, W, D, Qs, xs, kvs, G, tx, v7, v8, v9, v10, rfl, gi, rfl⟩
    have lx := RpAll.len gi.en
    rw [List.length_map] at lx
    refine ⟨_, rfl, Nat.zero_le _, fun z hz => ?_⟩
    have ez : Xt T.Ts H10 (upd H10 z (.lst [])) := .new hz
    have gz := gi.mono ez
    refine ⟨.list (Qs.map (eD M)), .list [], .lst (.of gz.hw) (rps_dps (rps_sub sub_hid _ gz.en)), .lst (.of upd_same) .nil, shaped_list (fun w hw => nice_eD (gi.lk w hw).1) (fun w _ => depth_eD M w), shaped_nil, _, rfl, ?_⟩
    rw [ne_nil]
    have bnd := gi.kl
    generalize upd H10 z (.lst []) = H11 at gz
    clear gi ez
    cases Qs with
    | nil =>
      refine iteF ?_
      exact ⟨_, rfl, q.go (e04.trans gz.e) ⟨fa, G, tx, rfl, gz.hf, gz.grt g⟩⟩
    | cons u Qs =>
      refine ifT rfl ⟨_, fun σ' H' h => h, ?_⟩
      have enz := gz.en
      obtain ⟨y, ys, rfl⟩ : ∃ y ys, xs = y :: ys := by
        cases xs with
        | nil => simp at lx
        | cons y ys => exact ⟨y, ys, rfl⟩
      refine ⟨_, rfl, .inl ⟨rfl, _, .of gz.hw⟩, wq, _, 0, 0, _, rfl, rfl, gz.hw, by decide, by decide, PySem.seqIndex_of (by decide) (by rw [List.length_cons]; omega), rfl, ?_⟩
      obtain ⟨en1, en2⟩ : Rp (hid wq H11) y (eD M u) ∧ RpAll (hid wq H11) ys (Qs.map (eD M)) := by
        cases enz with
        | cons h t => exact ⟨h, t⟩
      obtain ⟨pa, la, rfl, hpa, hla⟩ := eD_inv en1
      obtain ⟨law, hla⟩ := hid_some hla
      obtain ⟨paw, hpa⟩ := hid_some hpa
      have dw : d ≠ wq := ne_of gz.hd gz.hw fun z => nomatch z
      have fw : fa ≠ wq := ne_of gz.hf gz.hw fun z => nomatch z
      have g12 : GI T.Ts M H4 (upd H11 wq (.lst ys)) d wq fa W D [u] Qs ys kvs G tx :=
        { gz with
          e := gz.e.put wqH gz.hw plain_lst
          hd := by rw [upd_ne dw]; exact gz.hd
          hw := upd_same
          en := by rw [hid_upd]; exact en2
          hf := by rw [upd_ne fw]; exact gz.hf
          lk := fun w hw => gz.lk w (List.mem_cons_of_mem _ hw)
          ql := by have := gz.ql; rw [List.length_cons] at this; omega
          cov := fun w hw => by
            rcases gz.cov w hw with h | h | h
            · exact .inl h
            · cases h
            · rcases List.mem_cons.mp h with rfl | h
              · exact .inr (.inl (List.mem_singleton.mpr rfl))
              · exact .inr (.inr h) }
      have hla12 : upd H11 wq (.lst ys) la = some (.lst ((vecL M.n (vw M u)).map V.int)) := by rw [upd_ne law]; exact hla
      have hpa12 : upd H11 wq (.lst ys) pa = some (.tup [.ref la, .str (wS u)]) := by rw [upd_ne paw]; exact hpa
      have lku := gz.lk u (List.mem_cons_self ..)
      show gTup _ _ _ _ _ (upd H11 wq (.lst ys)) _
      generalize upd H11 wq (.lst ys) = H12 at g12 hla12 hpa12
      refine ⟨pa, _, rfl, .inl (.of hpa12), rfl, _, _, rfl, _, _, rfl, rfl, ?_⟩
      have mt12 := mt.mono g12.e
      have lL : (trim M).L.length ≤ 1000 := by have := le_12 _ gt.L gt.Lr gt.n2; omega
      refine ⟨_, rfl, _, rfl, _, _, _, _, rfl, rfl, .of mt12.t, atI_nat (j := 2) rfl, la, tl, M.n, vw M u, (trim M).L, rfl, hla12, mt12.l, lL, gt.Lr, fun v13 H13 e13 h13 => ?_⟩
      obtain rfl : v13 = .int (sumAt (vw M u) (trim M).L) := h13
      have g13 := g12.mono e13
      have hla13 := e13.lst hla12
      refine ⟨_, rfl, fa, _, _, _, rfl, rfl, .of g13.hf, atI_nat (j := 0) rfl, _, _, rfl, rfl, _, rfl, tif_fin (R := fun σ' H' => ∃ (fa' : Addr) (G' : Int) (tx' : V), σ' = [some v, some (.ref sa), some (.ref ta), some (.ref ba), some (.ref d), some (.ref wq), some (.ref fa'), some (.ref la), some (.str (wS u)), v9, v10] ∧
        GI T.Ts M H4 H' d wq fa' W D [u] Qs ys kvs G' tx' ∧ H' la = some (.lst ((vecL M.n (vw M u)).map V.int)) ∧ sumAt (vw M u) (trim M).L ≤ G') ?_ (fun hb lp => ?_) fun hb => ⟨fa, G, tx, rfl, g13, hla13, by have := of_decide_eq_false hb; omega⟩⟩
      · rintro σ H14 ⟨fa, G, tx, rfl, g14, hla14, hG⟩
        have mt14 := mt.mono g14.e
        clear g12 g13 hla12 hla13 hpa12
        refine ⟨_, rfl, _, trim M, rfl, mt14.rp, gt, fun v15 H15 e15 h15 => ?_⟩
        obtain ⟨sgs, cs, rfl, hsg, so, hm, le⟩ := h15
        refine ⟨sgs, rfl, ⟨_, .of hsg⟩, for_it (walk_list (xs := cs.map fun c => V.str (sg c))) (fun i σ H' => ∃ (W' Qs' : List (List Nat)) (xs' : List V) (kvs' : List (List Key × V)) (v9 v10 : Option V), σ = [some v, some (.ref sa), some (.ref ta), some (.ref ba), some (.ref d), some (.ref wq), some (.ref fa), some (.ref la), some (.str (wS u)), v9, v10] ∧
          GI T.Ts M H4 H' d wq fa W' D [u] Qs' xs' kvs' G tx ∧ H' la = some (.lst ((vecL M.n (vw M u)).map V.int)) ∧ H' sgs = some (.lst (cs.map fun c => V.str (sg c))) ∧ (∀ a ∈ cs.take i, (∃ x ∈ W', kw M (u ++ [a]) = kw M x) ∨ ∀ r ∈ rangeI M.n, vw M (u ++ [a]) r = 0) ∧
          kvs.length ≤ kvs'.length ∧ (2000 - kvs'.length) + Qs'.length = (2000 - kvs.length) + Qs.length)
          ⟨W, Qs, ys, kvs, v9, v10, rfl, g14.mono e15, e15.lst hla14, hsg, fun _ h => (by cases h), Nat.le_refl _, rfl⟩ (fun i σ H' _ h => ?_) ?_ ?_⟩
        · obtain ⟨_, _, _, _, _, _, _, _, _, h, _⟩ := h; exact .of h
        · rintro i x σ H16 H17 hi ⟨W', Qs', xs', kvs', v9, v10, rfl, g16, hla16, hsg16, cl, kk, ms⟩ ⟨rfl, hx⟩
          obtain ⟨c, hcs, rfl⟩ : ∃ c, cs[i]? = some c ∧ x = V.str (sg c) := by
            rw [List.getElem?_map] at hx
            cases e : cs[i]? with
            | none => rw [e] at hx; cases hx
            | some c => rw [e] at hx; exact ⟨c, rfl, (Option.some.inj hx).symm⟩
          have sgw : sgs ≠ wq := fun z => by
            have e := g16.hw
            rw [← z, hsg16] at e
            have e := HO.lst.inj (Option.some.inj e)
            have en := g16.en
            rw [← e] at en
            cases cs with
            | nil => simp at hcs
            | cons c0 cs =>
              cases Qs' with
              | nil => cases en
              | cons w0 Qs' =>
                cases en with
                | cons h _ =>
                  obtain ⟨_, _, h, _⟩ := eD_inv h
                  cases h
          have mt16 := mt.mono g16.e
          have hc := le c (List.mem_of_getElem? hcs)
          have mono_cl : ∀ {W2 : List (List Nat)}, (∀ x ∈ W', x ∈ W2) → ((∃ x ∈ W2, kw M (u ++ [c]) = kw M x) ∨ ∀ r ∈ rangeI M.n, vw M (u ++ [c]) r = 0) → ∀ a ∈ cs.take (i + 1), (∃ x ∈ W2, kw M (u ++ [a]) = kw M x) ∨ ∀ r ∈ rangeI M.n, vw M (u ++ [a]) r = 0 := fun hs hz a ha => by
            rw [take_succ' hcs] at ha
            rcases List.mem_append.mp ha with ha | ha
            · exact (cl a ha).imp (fun ⟨x, hx, e⟩ => ⟨x, hs x hx, e⟩) id
            · obtain rfl := List.mem_singleton.mp ha
              exact hz
          refine ⟨_, rfl, _, rfl, _, rfl, _, la, trim M, vw M u, c, rfl, mt16.rp, gt, hla16, fun v18 H18 e18 h18 => ?_⟩
          obtain ⟨p3, rfl, fr3, hp3⟩ := h18
          have hp3 : H18 p3 = some (.lst ((vecL M.n (vw M (u ++ [c]))).map V.int)) := by rw [← vw_snoc]; exact hp3
          have g18 := g16.mono e18
          have hla18 := e18.lst hla16
          have hsg18 := e18.lst hsg16
          have p3w : p3 ≠ wq := Ne.symm (ne_of_none g16.hw fr3)
          refine ⟨_, rfl, p3, _, rfl, .inl (.of hp3), by rw [vecL_len]; omega, fun m _ hle => ⟨_, _, rfl, rfl, _, rfl, ?_⟩⟩
          by_cases hm0 : 0 < m
          case neg =>
            refine ifF (decide_eq_false hm0) (iteF ⟨W', Qs', xs', kvs', _, _, rfl, g18, hla18, hsg18, mono_cl (fun _ h => h) (.inr fun r hr => ?_), kk, ms⟩)
            have h1 := hle (vw M (u ++ [c]) r) (List.mem_map_of_mem hr)
            have h2 : 0 ≤ vw M (u ++ [c]) r := mvs_nn (al_nn _) r
            omega
          refine ifT (decide_eq_true hm0) ?_
          refine ⟨_, rfl, p3, _, rfl, .inl ⟨.inl (.of hp3), fun tp htp => ?_⟩⟩
          have e19 : Xt T.Ts H18 (upd H18 tp (.tup ((vecL M.n (vw M (u ++ [c]))).map V.int))) := .new htp
          have ht19 : upd H18 tp (.tup ((vecL M.n (vw M (u ++ [c]))).map V.int)) tp = some (.tup ((kw M (u ++ [c])).map kV)) := by rw [kw_vals]; exact upd_same
          have g19 := g18.mono e19
          refine ⟨_, rfl, d, _, rfl, DGet.t (k := kw M (u ++ [c])) g19.hd ht19, _, rfl, ?_⟩
          have hla19 := e19.lst hla18
          have hsg19 := e19.lst hsg18
          have hp19 := e19.lst hp3
          generalize upd H18 tp (.tup ((vecL M.n (vw M (u ++ [c]))).map V.int)) = H19 at e19 g19 hla19 hsg19 hp19
          by_cases hin : (valV kvs' (kw M (u ++ [c]))).isSome = true
          · refine ifF (by rw [hin]; rfl) ⟨W', Qs', xs', kvs', _, _, rfl, g19, hla19, hsg19, mono_cl (fun _ h => h) (.inl ((g19.ks _).mp hin)), kk, ms⟩
          have hno : valV kvs' (kw M (u ++ [c])) = none := by
            cases z : valV kvs' (kw M (u ++ [c])) with
            | none => rfl
            | some => rw [z] at hin; exact (hin rfl).elim
          refine ifT (by rw [hno]; rfl) ?_
          refine ⟨_, rfl, d, kvs', rfl, g19.hd, rfl, _, rfl, ?_⟩
          by_cases h2000 : kvs'.length = 2000
          · refine ifT (by rw [h2000]; rfl) ⟨.int 2000, rfl, fun d' hd' => qE _ d' (e04.trans (g19.e.trans (.new hd')))⟩
          have k2 := g19.kl
          refine ifF (by simp; omega) ?_
          refine ⟨_, rfl, _, rfl, p3, _, rfl, .inl ⟨.inl (.of hp19), fun t2 ht2 => ?_⟩⟩
          have e20 : Xt T.Ts H19 (upd H19 t2 (.tup ((vecL M.n (vw M (u ++ [c]))).map V.int))) := .new ht2
          have ht20 : upd H19 t2 (.tup ((vecL M.n (vw M (u ++ [c]))).map V.int)) t2 = some (.tup ((kw M (u ++ [c])).map kV)) := by rw [kw_vals]; exact upd_same
          have g20 := g19.mono e20
          refine ⟨d, _, rfl, DPut.t (k := kw M (u ++ [c])) g20.hd ht20 (len_lt (by omega)), ?_⟩
          have hla20 := e20.lst hla19
          have hsg20 := e20.lst hsg19
          have hp20 := e20.lst hp19
          generalize upd H19 t2 (.tup ((vecL M.n (vw M (u ++ [c]))).map V.int)) = H20 at g20 hla20 hsg20 hp20
          have lst_d : ∀ {a : Addr} {ys : List V}, H20 a = some (.lst ys) → a ≠ d := fun h => ne_of h g20.hd fun z => nomatch z
          have tup_d : ∀ {a : Addr} {ys : List V}, H20 a = some (.tup ys) → a ≠ d := fun h => ne_of h g20.hd fun z => nomatch z
          have e21 : Xt T.Ts H4 (upd H20 d (.dT (putK kvs' (kw M (u ++ [c])) (.bl true)))) := g20.e.put dH g20.hd plain_dT
          have hw21 : upd H20 d (.dT (putK kvs' (kw M (u ++ [c])) (.bl true))) wq = some (.lst xs') := by rw [upd_ne (lst_d g20.hw)]; exact g20.hw
          have hla21 : upd H20 d (.dT (putK kvs' (kw M (u ++ [c])) (.bl true))) la = some (.lst ((vecL M.n (vw M u)).map V.int)) := by rw [upd_ne (lst_d hla20)]; exact hla20
          have hsg21 : upd H20 d (.dT (putK kvs' (kw M (u ++ [c])) (.bl true))) sgs = some (.lst (cs.map fun c => V.str (sg c))) := by rw [upd_ne (lst_d hsg20)]; exact hsg20
          have hp21 : upd H20 d (.dT (putK kvs' (kw M (u ++ [c])) (.bl true))) p3 = some (.lst ((vecL M.n (vw M (u ++ [c]))).map V.int)) := by rw [upd_ne (lst_d hp20)]; exact hp20
          have hf21 : upd H20 d (.dT (putK kvs' (kw M (u ++ [c])) (.bl true))) fa = some (.tup [.int G, tx]) := by rw [upd_ne (tup_d g20.hf)]; exact g20.hf
          have hd21 : upd H20 d (.dT (putK kvs' (kw M (u ++ [c])) (.bl true))) d = some (.dT (putK kvs' (kw M (u ++ [c])) (.bl true))) := upd_same
          have en21 : RpAll (hid wq (upd H20 d (.dT (putK kvs' (kw M (u ++ [c])) (.bl true))))) xs' (Qs'.map (eD M)) := by
            refine rps_sub ⟨fun a ys e => ?_, fun a ys e => ?_⟩ _ g20.en
            · obtain ⟨z1, z2⟩ := hid_some e
              rw [hid_ne z1, upd_ne (lst_d z2)]; exact z2
            · obtain ⟨z1, z2⟩ := hid_some e
              rw [hid_ne z1, upd_ne (tup_d z2)]; exact z2
          generalize upd H20 d (.dT (putK kvs' (kw M (u ++ [c])) (.bl true))) = H21 at e21 hw21 hla21 hsg21 hp21 hf21 hd21 en21
          have lu : (wS u).length = u.length := by show u.toArray.size = _; simp
          have lul := lku.2
          refine ⟨_, rfl, .inl ⟨rfl, _, .of hw21⟩, ?_⟩
          refine ⟨_, rfl, _, rfl, _, rfl, _, _, rfl, rfl, by rw [lu]; exact len_le (by show u.length + 1 ≤ _; omega), ?_⟩
          rw [add_sg]
          refine ⟨(by show 2 ≤ sizeLine; decide), fun pt hpt => ?_⟩
          have ptw : wq ≠ pt := ne_of_none hw21 hpt
          have e22 := e21.trans (.new (o := .tup [.ref p3, .str (wS (u ++ [c]))]) hpt)
          have nx := Xt.new (T := T.Ts) (o := .tup [.ref p3, .str (wS (u ++ [c]))]) hpt
          have hw22 := nx.lst hw21
          have lx := RpAll.len en21
          rw [List.length_map] at lx
          have qlx := g20.ql
          refine ⟨wq, _, _, rfl, rfl, hw22, len_lt (by omega), ?_⟩
          have kl1 : (putK kvs' (kw M (u ++ [c])) (.bl true)).length = kvs'.length + 1 := by rw [putK_new _ hno, List.length_append]; rfl
          have dw : d ≠ wq := ne_of hd21 hw21 fun z => nomatch z
          have fw : fa ≠ wq := ne_of hf21 hw21 fun z => nomatch z
          refine ⟨W' ++ [u ++ [c]], Qs' ++ [u ++ [c]], xs' ++ [.ref pt], putK kvs' (kw M (u ++ [c])) (.bl true), _, _, rfl, { e := e22.put wqH hw22 plain_lst, hd := ?_, hw := upd_same, en := ?_, hf := ?_, ks := ?_, kl := by omega, lk := ?_, ql := ?_, nn := g20.nn, has := g20.has, cov := ?_, done := ?_, beg := List.mem_append_left _ g20.beg }, ?_, ?_, mono_cl (fun _ h => List.mem_append_left _ h) (.inl ⟨_, List.mem_append_right _ (List.mem_singleton.mpr rfl), rfl⟩), by omega, ?_⟩
          · rw [upd_ne dw]; exact nx.at hd21 plain_dT
          · rw [hid_upd, hid_new (Ne.symm ptw), List.map_append]
            have hpt' : hid wq H21 pt = none := hid_none hpt
            refine (rps_sub (sub_new hpt') _ en21).app (.one (.tup upd_same (.cons (.ints ?_) (.cons (.str _) .nil))))
            rw [upd_ne (ne_of_none hp21 hpt), hid_ne p3w]
            exact hp21
          · rw [upd_ne fw]; exact nx.tup hf21
          · intro k
            rw [valV_put]
            by_cases ck : k = kw M (u ++ [c])
            · rw [if_pos ck]
              exact ⟨fun _ => ⟨_, List.mem_append_right _ (List.mem_singleton.mpr rfl), ck⟩, fun _ => rfl⟩
            · rw [if_neg ck, g20.ks]
              constructor
              · rintro ⟨x, hx, e⟩; exact ⟨x, List.mem_append_left _ hx, e⟩
              · rintro ⟨x, hx, e⟩
                rcases List.mem_append.mp hx with hx | hx
                · exact ⟨x, hx, e⟩
                · obtain rfl := List.mem_singleton.mp hx
                  exact (ck e).elim
          · intro x hx
            rcases List.mem_append.mp hx with hx | hx
            · have := g20.lk x hx; exact ⟨this.1, by omega⟩
            · obtain rfl := List.mem_singleton.mp hx
              refine ⟨fun b hb => ?_, by rw [List.length_append]; show u.length + 1 ≤ _; omega⟩
              rcases List.mem_append.mp hb with hb | hb
              · exact lku.1 b hb
              · obtain rfl := List.mem_singleton.mp hb; exact hc
          · rw [List.length_append]; show Qs'.length + 1 ≤ _; omega
          · intro x hx
            rcases List.mem_append.mp hx with hx | hx
            · rcases g20.cov x hx with h | h | h
              · exact .inl h
              · exact .inr (.inl h)
              · exact .inr (.inr (List.mem_append_left _ h))
            · exact .inr (.inr (List.mem_append_right _ hx))
          · intro x hx
            obtain ⟨z1, z2⟩ := g20.done x hx
            exact ⟨z1, fun a ha => (z2 a ha).imp (fun ⟨y, hy, e⟩ => ⟨y, List.mem_append_left _ hy, e⟩) id⟩
          · rw [upd_ne law]; exact nx.lst hla21
          · rw [upd_ne sgw]; exact nx.lst hsg21
          · rw [kl1, List.length_append]
            show 2000 - (kvs'.length + 1) + (Qs'.length + 1) = _
            omega
        · rintro σ H16 ⟨W', Qs', xs', kvs', v9, v10, rfl, g16, hla16, hsg16, cl, kk, ms⟩
          rw [List.length_map, List.take_length] at cl
          refine ⟨_, ?_, fa, W', D ++ [u], Qs', xs', kvs', G, tx, _, _, v9, v10, rfl, { g16 with cov := fun w hw => ?_, done := fun w hw => ?_ }, rfl⟩
          · rw [List.length_cons]; omega
          · rcases g16.cov w hw with h | h | h
            · exact .inl (List.mem_append_left _ h)
            · exact .inl (List.mem_append_right _ h)
            · exact .inr (.inr h)
          · rcases List.mem_append.mp hw with hw | hw
            · exact g16.done w hw
            · obtain rfl := List.mem_singleton.mp hw
              refine ⟨hG, fun a ha => cl a ?_⟩
              obtain ⟨s', hs, rfl⟩ := ha
              exact (hm _).mpr ⟨s'.1, s'.2.2, hs⟩
      · have hlt := of_decide_eq_true hb
        have mt13 := mt.mono g13.e
        refine ⟨_, rfl, _, rfl, _, _, _, _, rfl, rfl, .of mt13.t, atI_nat (j := 2) rfl, la, tl, M.n, vw M u, (trim M).L, rfl, hla13, mt13.l, lL, gt.Lr, fun v14 H14 e14 h14 => ?_⟩
        obtain rfl : v14 = .int (sumAt (vw M u) (trim M).L) := h14
        refine ⟨_, rfl, (by show 2 ≤ sizeLine; decide), fun f2 hf2 => lp _ _ ⟨f2, sumAt (vw M u) (trim M).L, .str (wS u), rfl, ?_, ?_, Int.le_refl _⟩⟩
        · have g15 := (g13.mono e14).mono (.new (o := .tup [.int (sumAt (vw M u) (trim M).L), .str (wS u)]) hf2)
          exact { g15 with
            hf := upd_same
            nn := by have := g15.nn; omega
            has := .inr ⟨u, rfl⟩
            done := fun w hw => let ⟨z1, z2⟩ := g15.done w hw; ⟨by omega, z2⟩ }
        · exact (e14.trans (.new hf2)).lst hla13
end
end Tw
/-! Triesgrow: sizes of growth, the greatest number or none -/
namespace Tw
open PySem PySem.Spec PyProof.Rows L2 Tg NdefX LamX
open scoped Classical
def szK : List (Key × V) := [(.inr "never", .int 0), (.inr "doubles", .int 100)]
def sp_law_size (T : List NTab) : Sp := fun vs H Q _ => ∃ (v : V) (M : Mac), vs = [v] ∧ Rp H v (grD M) ∧ Ret T H Q fun v _ => v = .int (gsz M)
def sp_law_greatest (T : List NTab) : Sp := fun vs H Q _ => ∃ (v : V) (M : Mac) (l : List (Option Int)), vs = [v] ∧ Rp H v (mD M) ∧ Good M ∧ TabsN T H ∧ ranksL M = some l ∧ grk l = 0 ∧ Ret T H Q fun v _ => v = .non ∨ ∃ G, v = .int G ∧ Grt M G
theorem grD_inv {H : Hp} {v : V} {M : Mac} (h : Rp H v (grD M)) : ∃ (a : Addr) (s0 : Str) (rest : List V) (dv : Int), v = .ref a ∧ H a = some (.tup (.str s0 :: rest)) ∧ rest.length ≤ 1 ∧ (V.str s0 :: rest ++ [.int 0])[1]? = some (.int dv) ∧ (valV (mergeK [] szK) (.inr s0)).getD (.int dv) = .int (gsz M) := by
  unfold grD at h
  cases hr : ranksL M with
  | none =>
    rw [hr] at h
    obtain ⟨a, xs, rfl, ha, hx⟩ := Rp.tuple_inv h
    cases hx with
    | cons h1 r =>
      cases r
      obtain rfl := Rp.str_inv h1
      exact ⟨a, _, [], 0, rfl, ha, by decide, rfl, by rw [gsz_none hr]; rfl⟩
  | some l =>
    rw [hr] at h
    by_cases c : grk l = 0
    · have h : Rp H v (.tuple [.str "never"]) := by simpa [c] using h
      obtain ⟨a, xs, rfl, ha, hx⟩ := Rp.tuple_inv h
      cases hx with
      | cons h1 r =>
        cases r
        obtain rfl := Rp.str_inv h1
        exact ⟨a, _, [], 0, rfl, ha, by decide, rfl, by rw [gsz_some hr, c]; rfl⟩
    · have h : Rp H v (.tuple [.str "power", .int (grk l)]) := by simpa [c] using h
      obtain ⟨a, xs, rfl, ha, hx⟩ := Rp.tuple_inv h
      cases hx with
      | cons h1 r =>
        cases r with
        | cons h2 r =>
          cases r
          obtain rfl := Rp.str_inv h1
          obtain rfl := Rp.int_inv h2
          exact ⟨a, _, [.int (grk l)], grk l, rfl, ha, Nat.le_refl 1, rfl, by rw [gsz_some hr]; rfl⟩
section
variable {P : Program} {w : World} {K : PySem.W.Frag} {mg : Str → Option Value} {base : Heap}
theorem ok_law_size (T : Txt K mg) : FnOk P w K mg base CX0 1 T.law_size.f T.law_size.fd P_law_size (sp_law_size T.Ts) := by
  refine T.law_size.F.ok sc_law_size (fun vs H Q E h => ?_) (fun cdv A outer s H vs Q E hr h => ⟨_, (pss_one (ps_ret (pe_dget2 (hu_of hr) (pe_disp (pps_cons pe_str pe_int (pps_cons pe_str pe_int pps_nil)) (by rfl) (by rfl) (fun z => by cases z) (by decide)) (pe_ix ix_tup (pv 0) pe_int (fun _ _ => rfl)) (pe_ix ix_tup (pe_op op_catT (pv 0) (pe_tup (pa_cons pe_int pa_nil))) pe_int (fun _ _ => rfl)) ⟨by rfl, by rfl, by rfl, by rfl⟩))), ?_⟩)
  · obtain ⟨_, _, rfl, _⟩ := h; rfl
  · obtain ⟨v, M, rfl, hv, q⟩ := h
    obtain ⟨a, s0, rest, dv, rfl, ha, lr, hdv, hres⟩ := grD_inv hv
    refine fun p hp => ⟨upd_same, szK, rfl, by decide, ?_⟩
    rw [upd_upd]
    have e1 : Xt T.Ts H (upd H p (.dK (mergeK [] szK))) := .new hp
    have hp1 : upd H p (.dK (mergeK [] szK)) p = some (.dK (mergeK [] szK)) := upd_same
    have ha1 := e1.tup ha
    generalize upd H p (.dK (mergeK [] szK)) = H1 at e1 hp1 ha1
    refine ⟨p, rfl, .inl ⟨_, .of hp1⟩, _, rfl, _, _, _, _, rfl, rfl, .of ha1, atI_nat (j := 0) rfl, _, rfl, (by show 1 ≤ sizeLine; decide), fun t ht => ?_⟩
    have e2 : Xt T.Ts H1 (upd H1 t (.tup [.int 0])) := .new ht
    have ht2 : upd H1 t (.tup [.int 0]) t = some (.tup [.int 0]) := upd_same
    have ha2 := e2.tup ha1
    have hp2 := e2.at hp1 plain_dK
    have e12 := e1.trans e2
    generalize upd H1 t (.tup [.int 0]) = H2 at e12 ht2 ha2 hp2
    refine ⟨a, t, _, _, rfl, rfl, .of ha2, .of ht2, by simp, len_le (by simp; omega), (fun z => by simp at z), fun _ u hu => ?_⟩
    have e3 : Xt T.Ts H2 (upd H2 u (.tup (.str s0 :: rest ++ [.int 0]))) := .new hu
    refine ⟨u, _, _, _, rfl, rfl, .of upd_same, atI_nat (j := 1) hdv, _, DGet.k (k := .inr s0) (e3.at hp2 plain_dK), ?_⟩
    exact q.go (e12.trans e3) hres
theorem ok_law_greatest (T : Txt K mg) (TB : Tbs T base) : FnOk P w K mg base CX0 12 T.law_greatest.f T.law_greatest.fd P_law_greatest (sp_law_greatest T.Ts) := by
  refine T.law_greatest.F.ok sc_law_greatest (fun vs H Q E h => ?_) (fun cdv A outer s H vs Q E hr h => ⟨_, (pss_cons (ps_set (i := 1) sc_law_greatest.nd rfl (Or.inl rfl) pe_non)
    (pss_cons (ps_try_as (i := 2) (tb := fun W => tAsg (tOp (rIxT K) (tCallS (sp_greatest T.Ts T.tm.C) (WE W) (tCons (tVar 0) tNil)) (tC (.int 0))) (gName 1)) (ts := fun _ _ _ => tAsg (tC .non) (gName 1)) (Wout := fun _ _ _ _ => False) rfl rfl sc_law_greatest.nd rfl rfl ⟨rfl, by decide, .inl T.tm.gC⟩ L2.takes0
      (fun W pn xe tk _ => (pss_one (ps_set (i := 1) sc_law_greatest.nd rfl (Or.inl rfl) (pe_ix (ix_tupC (K := K) rfl) (pe_callS (ok_greatest T TB) (hr.mono (by decide)) rfl T.greatest.g T.greatest.F.kp T.greatest.b (fun σ => passAt tk σ) (pa_cons (pv 0) pa_nil)) pe_int (fun _ _ => rfl)))))
      (fun a oe cls d pn hz hf => (pss_one (ps_set (i := 1) sc_law_greatest.nd rfl (Or.inl rfl) pe_non))))
    (pss_one (ps_ret (pv 1))))), ?_⟩)
  · obtain ⟨_, _, _, rfl, _⟩ := h; rfl
  · obtain ⟨v, M, l, rfl, hv, g, hT, hl, hg, q⟩ := h
    refine ⟨_, rfl, v, M, l, rfl, hv, g, hT, hl, hg, fun H' d e => ?_, fun v1 H1 e1 h1 => ?_⟩
    · refine ⟨true, T.tm.te, fun _ a0 _ => ?_, fun q => Bool.noConfusion q⟩
      exact ⟨_, rfl, q.go e (.inl rfl)⟩
    · obtain ⟨p, G, t, rfl, hp, gr⟩ := h1
      refine ⟨p, _, _, _, rfl, rfl, .of hp, atI_nat (j := 0) rfl, ?_⟩
      exact ⟨_, rfl, q.go e1 (.inr ⟨G, rfl, gr⟩)⟩
end
end Tw
/-! Triesgrow: what the law asks of structure and growth -/
namespace Tw
open PySem PySem.Spec PyProof.Rows L2 Tg NdefX LamX
open scoped Classical
theorem eqv_same {d e : PyData} (h : nice d = true) (he : d = e) : PyData.eqv d e = true := by subst he; exact (nice_eqv d d h h).mpr rfl
theorem nice_list {α : Type} {f : α → PyData} {l : List α} (h : ∀ z ∈ l, nice (f z) = true) : nice (.list (l.map f)) = true := by rw [nice]; exact nices_map h
/-- three machines, the third both -/
structure Tri (T : List NTab) (H : Hp) (v1 v2 v3 : V) (M N B : Mac) : Prop where
  v1 : Rp H v1 (mD M)
  v2 : Rp H v2 (mD N)
  v3 : Rp H v3 (mD B)
  sM : Small M
  sN : Small N
  b : Beside M N B
  tab : TabsN T H
theorem Tri.mono {T : List NTab} {H H' : Hp} {v1 v2 v3 : V} {M N B : Mac} (t : Tri T H v1 v2 v3 M N B) (e : Xt T H H') : Tri T H' v1 v2 v3 M N B := { t with v1 := e.rp t.v1, v2 := e.rp t.v2, v3 := e.rp t.v3, tab := e.tab t.tab }
theorem Tri.good {T : List NTab} {H : Hp} {v1 v2 v3 : V} {M N B : Mac} (t : Tri T H v1 v2 v3 M N B) : Good B :=
  t.b.good t.sM.g t.sN.g (by have := t.sM.n4; have := t.sN.n4; omega) (by have := t.sM.s8; have := t.sN.s8; omega)
def sp_law_structure_right (T : List NTab) : Sp := fun vs H Q _ => ∃ (v1 v2 v3 : V) (M N B : Mac), vs = [v1, v2, v3] ∧ Tri T H v1 v2 v3 M N B ∧ Ret T H Q fun v _ => v = .bl true
def sp_law_growth_right (T : List NTab) : Sp := fun vs H Q _ => ∃ (v1 v2 v3 : V) (M N B : Mac), vs = [v1, v2, v3] ∧ Tri T H v1 v2 v3 M N B ∧ Ret T H Q fun v _ => v = .bl true
noncomputable def rkD (M : Mac) : PyData := match ranksL M with
  | none => .none
  | some l => .list (l.map oP)
theorem oV_rp {H : Hp} (o : Option Int) : Rp H (oV o) (oP o) := by cases o <;> first | exact .non | exact .int _
theorem oVs_rp {H : Hp} : ∀ l : List (Option Int), RpAll H (l.map oV) (l.map oP)
  | [] => .nil
  | o :: l => .cons (oV_rp o) (oVs_rp l)
theorem rk_rp {M : Mac} {v : V} {H : Hp} (h : RkPost M v H) : Rp H v (rkD M) := by
  unfold RkPost at h
  unfold rkD
  cases hr : ranksL M with
  | none => rw [hr] at h; subst h; exact .non
  | some l => rw [hr] at h; obtain ⟨p, rfl, hp⟩ := h; exact .lst hp (oVs_rp l)
theorem nice_oP (o : Option Int) : nice (oP o) = true := by cases o <;> rfl
theorem depth_oP (o : Option Int) : (oP o).depth ≤ 60 := by cases o <;> simp [oP, PyData.depth]
theorem shaped_oP (l : List (Option Int)) : SeqAt.shaped (.list (l.map oP)) = true := shaped_list (fun z _ => nice_oP z) fun z _ => depth_oP z
theorem nice_rkD (M : Mac) : nice (rkD M) = true := by
  unfold rkD
  cases ranksL M with
  | none => rfl
  | some l => exact nice_list fun z _ => nice_oP z
theorem depth_rkD (M : Mac) : (rkD M).depth ≤ 62 := by
  unfold rkD
  cases ranksL M with
  | none => simp [PyData.depth]
  | some l =>
    have := depth_map (l := l) (f := oP) (k := 60) fun z _ => depth_oP z
    simp only [PyData.depth]
    omega
theorem rkD_none {M : Mac} : rkD M = .none ↔ ranksL M = none := by
  unfold rkD
  cases ranksL M <;> simp
section
variable {P : Program} {w : World} {K : PySem.W.Frag} {mg : Str → Option Value} {base : Heap}
theorem ok_law_structure_right (T : Txt K mg) (TB : Tbs T base) : FnOk P w K mg base CX0 10 T.law_structure_right.f T.law_structure_right.fd P_law_structure_right (sp_law_structure_right T.Ts) := by
  refine T.law_structure_right.F.ok sc_law_structure_right (fun vs H Q E h => ?_) (fun cdv A outer s H vs Q E hr h => ⟨_, (pss_cons (ps_set (i := 3) sc_law_structure_right.nd rfl (Or.inr rfl) (pe_ix ix_tup (pv 0) pe_int (fun _ _ => rfl)))
    (pss_cons (ps_if (pt_cmpR (op_neD hr.units) (pe_call (ok_useful T) (hr.mono (by decide)) rfl T.useful.g T.useful.F.kp T.useful.b .nil pass0 (pa_cons (pv 2) pa_nil)) (pe_op op_cat (pe_call (ok_useful T) (hr.mono (by decide)) rfl T.useful.g T.useful.F.kp T.useful.b .nil pass0 (pa_cons (pv 0) pa_nil)) (pe_lc (own := [("_law_room", 4)]) (by rfl) sc_law_structure_right.nd (pi_list (pe_call (ok_useful T) (hr.mono (by decide)) rfl T.useful.g T.useful.F.kp T.useful.b .nil pass0 (pa_cons (pv 1) pa_nil))) (blkOk_by (own := [("_law_room", 4)]) (N := N_law_structure_right) (sc := defScope s_law_structure_right) (by decide +kernel)) (fun _ _ _ _ _ => (pg_name (i := 4) sc_law_structure_right.nd rfl (Or.inl rfl) (Or.inr rfl))) (fun _ _ _ _ _ => pts_nil) (fun _ _ _ _ _ => (pe_op op_add (pv 4) (pv 3))))) (nomark _)) (pss_one (ps_ret pe_bl)) pss_nil)
    (pss_cons (ps_setLc (i := 5) (own := [("_law_room", 4), ("_law_word_here", 6)]) (by rfl) sc_law_structure_right.nd rfl rfl (sw_true rfl rfl rfl (by decide +kernel)) (pi_list (pe_call (ok_double_rounds T TB) (hr.mono (by decide)) rfl T.double_rounds.g T.double_rounds.F.kp T.double_rounds.b .nil pass0 (pa_cons (pv 1) pa_nil))) (blkOk_by (own := [("_law_room", 4), ("_law_word_here", 6)]) (N := N_law_structure_right) (sc := defScope s_law_structure_right) (by decide +kernel)) (fun _ _ _ _ _ => (pg_tupC (K := K) (n := 2) rfl rfl (pgs_cons (pg_name (i := 4) sc_law_structure_right.nd rfl (Or.inl rfl) (Or.inr rfl)) (pgs_cons (pg_name (i := 6) sc_law_structure_right.nd rfl (Or.inl rfl) (Or.inr rfl)) pgs_nil)))) (fun _ _ _ _ _ => pts_nil) (fun _ _ _ _ _ => (pe_tup (pa_cons (pe_op op_add (pv 4) (pv 3)) (pa_cons (pv 6) pa_nil)))))
    (pss_cons (ps_if (pt_cmpR (op_neD hr.units) (pe_call (ok_double_rounds T TB) (hr.mono (by decide)) rfl T.double_rounds.g T.double_rounds.F.kp T.double_rounds.b .nil pass0 (pa_cons (pv 2) pa_nil)) (pe_op op_cat (pe_call (ok_double_rounds T TB) (hr.mono (by decide)) rfl T.double_rounds.g T.double_rounds.F.kp T.double_rounds.b .nil pass0 (pa_cons (pv 0) pa_nil)) (pv 5)) (nomark _)) (pss_one (ps_ret pe_bl)) pss_nil)
    (pss_cons (ps_setLc (i := 7) (own := [("_law_room", 4), ("_law_to", 8), ("_law_word_here", 6)]) (by rfl) sc_law_structure_right.nd rfl rfl (sw_true rfl rfl rfl (by decide +kernel)) (pi_list (pe_call (ok_led_rounds T TB) (hr.mono (by decide)) rfl T.led_rounds.g T.led_rounds.F.kp T.led_rounds.b .nil pass0 (pa_cons (pv 1) pa_nil))) (blkOk_by (own := [("_law_room", 4), ("_law_to", 8), ("_law_word_here", 6)]) (N := N_law_structure_right) (sc := defScope s_law_structure_right) (by decide +kernel)) (fun _ _ _ _ _ => (pg_tupC (K := K) (n := 3) rfl rfl (pgs_cons (pg_name (i := 4) sc_law_structure_right.nd rfl (Or.inl rfl) (Or.inr rfl)) (pgs_cons (pg_name (i := 8) sc_law_structure_right.nd rfl (Or.inl rfl) (Or.inr rfl)) (pgs_cons (pg_name (i := 6) sc_law_structure_right.nd rfl (Or.inl rfl) (Or.inr rfl)) pgs_nil))))) (fun _ _ _ _ _ => pts_nil) (fun _ _ _ _ _ => (pe_tup (pa_cons (pe_op op_add (pv 4) (pv 3)) (pa_cons (pe_op op_add (pv 8) (pv 3)) (pa_cons (pv 6) pa_nil))))))
    (pss_cons (ps_if (pt_cmpR (op_neD hr.units) (pe_call (ok_led_rounds T TB) (hr.mono (by decide)) rfl T.led_rounds.g T.led_rounds.F.kp T.led_rounds.b .nil pass0 (pa_cons (pv 2) pa_nil)) (pe_op op_cat (pe_call (ok_led_rounds T TB) (hr.mono (by decide)) rfl T.led_rounds.g T.led_rounds.F.kp T.led_rounds.b .nil pass0 (pa_cons (pv 0) pa_nil)) (pv 7)) (nomark _)) (pss_one (ps_ret pe_bl)) pss_nil)
    (pss_cons (ps_set (i := 9) sc_law_structure_right.nd rfl (Or.inl rfl) (pe_lst (pa_cons (pe_call (ok_ranks T TB) (hr.mono (by decide)) rfl T.ranks.g T.ranks.F.kp T.ranks.b .nil pass0 (pa_cons (pv 0) pa_nil)) (pa_cons (pe_call (ok_ranks T TB) (hr.mono (by decide)) rfl T.ranks.g T.ranks.F.kp T.ranks.b .nil pass0 (pa_cons (pv 1) pa_nil)) pa_nil))))
    (pss_cons (ps_if (pt_cmpR (op_inD (hu65 hr)) pe_non (pv 9) (by rfl)) (pss_one (ps_ret (pe_cmpR op_isN (pe_call (ok_ranks T TB) (hr.mono (by decide)) rfl T.ranks.g T.ranks.F.kp T.ranks.b .nil pass0 (pa_cons (pv 2) pa_nil)) pe_non (nomark _)))) pss_nil)
    (pss_one (ps_ret (pe_cmpR (op_eqD hr.units) (pe_call (ok_ranks T TB) (hr.mono (by decide)) rfl T.ranks.g T.ranks.F.kp T.ranks.b .nil pass0 (pa_cons (pv 2) pa_nil)) (pe_op op_cat (pe_ix ix_list (pv 9) pe_int (fun _ _ => rfl)) (pe_ix ix_list (pv 9) pe_int (fun _ _ => rfl))) (nomark _)))))))))))), ?_⟩)
  · obtain ⟨_, _, _, _, _, _, rfl, _⟩ := h; rfl
  · obtain ⟨v1, v2, v3, M, N, B, rfl, t, q⟩ := h
    have gB := t.good
    have gM := t.sM.g
    have gN := t.sN.g
    have b := t.b
    obtain ⟨a1, f1, l1, s1, ss1, rfl, m1⟩ := mD_inv t.v1
    have ulM := usefulL_len gM
    have ulN := usefulL_len gN
    refine ⟨_, rfl, _, _, _, _, rfl, rfl, .of m1.t, atI_nat (j := 0) rfl, ?_⟩
    refine ⟨_, rfl, _, B, rfl, t.v3, gB, fun w1 H1 e1 h1 => ?_⟩
    obtain ⟨ub, rfl, hub⟩ := h1
    have t1 := t.mono e1
    refine ⟨_, rfl, _, M, rfl, t1.v1, gM, fun w2 H2 e2 h2 => ?_⟩
    obtain ⟨um, rfl, hum⟩ := h2
    have t2 := t1.mono e2
    refine ⟨_, rfl, _, N, rfl, t2.v2, gN, fun w3 H3 e3 h3 => ?_⟩
    obtain ⟨un, rfl, hun⟩ := h3
    have t3 := t2.mono e3
    refine ⟨un, rfl, ⟨_, .of hun⟩, fun D hD => ?_⟩
    refine lc_sel (T := T.Ts) (walk_list (xs := (usefulL N).map V.int)) hD (fun i acc Hh => acc = (((usefulL N).take i).map (· + M.n)).map V.int) (fun H5 e5 => .of (e5.lst hun)) rfl (fun i x acc H5 H6 hi e5 hacc lacc hR5 hY => ?_) (fun acc H5 e5 hacc lacc hR5 => ?_)
    · obtain ⟨rfl, hx⟩ := hY
      obtain ⟨r, hr', rfl⟩ := int_at hx
      rw [List.length_map] at hi
      refine ⟨rfl, _, rfl, _, rfl, _, _, rfl, rfl, LcP.put hD e5 hacc lacc (by omega) ?_⟩
      rw [hR5, take_succ' hr', List.map_append, List.map_append]
      rfl
    rw [List.length_map, List.take_length] at hR5
    subst hR5
    have e35 := e3.trans e5
    refine ⟨um, D, _, _, rfl, rfl, e35.lst hum, hacc, len_le (by simp only [List.length_map]; omega), fun p hp => ?_⟩
    have e6 : Xt T.Ts H5 (upd H5 p (.lst ((usefulL M).map V.int ++ ((usefulL N).map (· + M.n)).map V.int))) := .new hp
    have hp6 : upd H5 p (.lst ((usefulL M).map V.int ++ ((usefulL N).map (· + M.n)).map V.int)) p = some (.lst ((usefulL B).map V.int)) := by rw [upd_same, b.usefulL gM gN, List.map_append]
    have t6 := (t3.mono e5).mono e6
    have hub6 := ((e2.trans e35).trans e6).lst hub
    have e06 := e1.trans (e2.trans (e35.trans e6))
    generalize upd H5 p (.lst ((usefulL M).map V.int ++ ((usefulL N).map (· + M.n)).map V.int)) = H6 at e06 hp6 t6 hub6
    refine ⟨.list ((usefulL B).map .int), .list ((usefulL B).map .int), rp_dp _ (.ints hub6), rp_dp _ (.ints hp6), PySem.W.shaped_ints _, PySem.W.shaped_ints _, _, rfl, ifF (by rw [eqv_same (nice_list fun _ _ => rfl) rfl]; rfl) ?_⟩
    clear hD lacc hacc
    -- double rounds
    refine ⟨_, rfl, _, N, rfl, t6.v2, gN, t6.tab, fun w7 H7 e7 h7 => ?_⟩
    obtain ⟨dl, xs, rfl, hdl, hxs⟩ := h7.1.list_inv
    have lx := RpAll.len hxs
    rw [List.length_map] at lx
    have dlN := doubleL_len gN
    have dlM := doubleL_len gM
    have t7 := t6.mono e7
    refine ⟨dl, rfl, ⟨_, .of hdl⟩, fun D hD => ?_⟩
    refine lc_sel (T := T.Ts) (walk_list (xs := xs)) hD (fun i acc Hh => RpAll Hh acc (((((doubleL N).map fun p => (p.1 + M.n, p.2))).take i).map dD)) (fun H5 e5 => .of (e5.lst hdl)) .nil (fun i x acc H8 H9 hi e8 hacc lacc hR8 hY => ?_) (fun acc H8 e8 hacc lacc hR8 => ?_)
    · obtain ⟨rfl, hx⟩ := hY
      obtain ⟨z, hz, hxz⟩ := RpAll.getM hxs hx
      obtain ⟨pa, rfl, hpa⟩ := dD_inv hxz
      refine ⟨pa, _, rfl, .inl (.of (e8.tup hpa)), rfl, _, _, rfl, _, _, rfl, rfl, rfl, ?_⟩
      refine ⟨_, rfl, _, rfl, _, _, rfl, rfl, _, rfl, (by show 2 ≤ sizeLine; decide), fun p hp => ?_⟩
      exact LcP.putT (z := (z.1 + M.n, z.2)) hD e8 hacc lacc (by omega) hp (by rw [List.getElem?_map, hz]; rfl) hR8 fun H' _ h => .tup h (.cons (.int _) (.cons (.str _) .nil))
    rw [show ((doubleL N).map fun p => (p.1 + M.n, p.2)).take xs.length = (doubleL N).map fun p => (p.1 + M.n, p.2) by rw [lx, ← List.length_map (as := doubleL N) (fun p => (p.1 + M.n, p.2))]; exact List.take_length] at hR8
    have hR8 := rps_sub sub_hid _ hR8
    have t8 := t7.mono e8
    have e08 := e06.trans (e7.trans e8)
    clear hD
    refine ⟨_, rfl, _, B, rfl, t8.v3, gB, t8.tab, fun w9 H9 e9 h9 => ?_⟩
    have t9 := t8.mono e9
    refine ⟨_, rfl, _, M, rfl, t9.v1, gM, t9.tab, fun w10 H10 e10 h10 => ?_⟩
    have t10 := t9.mono e10
    obtain ⟨dm, ys, rfl, hdm, hys⟩ := h10.1.list_inv
    have ly := RpAll.len hys
    rw [List.length_map] at ly
    have e810 := e9.trans e10
    refine ⟨_, rfl, dm, D, _, _, rfl, rfl, hdm, e810.lst hacc, len_le (by omega), fun p hp => ?_⟩
    have e11 : Xt T.Ts H10 (upd H10 p (.lst (ys ++ acc))) := .new hp
    refine ⟨.list ((doubleL B).map dD), .list ((doubleL M).map dD ++ ((doubleL N).map fun p => (p.1 + M.n, p.2)).map dD), rp_dp _ ((e10.trans e11).rp h9.1), .lst (.of upd_same) (rps_dps ((e11.rps hys).app ((e810.trans e11).rps hR8))), shaped_dD h9.2, ?_, _, rfl, ifF (by rw [eqv_same (nice_list fun z hz => nice_dD (h9.2 z hz)) (by rw [b.doubleL gM gN, List.map_append])]; rfl) ?_⟩
    · rw [← List.map_append, ← b.doubleL gM gN]; exact shaped_dD h9.2
    have t11 := t10.mono e11
    have e011 := e08.trans (e810.trans e11)
    generalize upd H10 p (.lst (ys ++ acc)) = H11 at t11 e011
    clear hacc lacc
    -- led rounds
    refine ⟨_, rfl, _, N, rfl, t11.v2, gN, t11.tab, fun w7 H7 e7 h7 => ?_⟩
    obtain ⟨ll, xs, rfl, hll, hxs⟩ := h7.1.list_inv
    have lx := RpAll.len hxs
    rw [List.length_map] at lx
    have llN := ledL_len gN
    have llM := ledL_len gM
    have t7 := t11.mono e7
    refine ⟨ll, rfl, ⟨_, .of hll⟩, fun D hD => ?_⟩
    refine lc_sel (T := T.Ts) (walk_list (xs := xs)) hD (fun i acc Hh => RpAll Hh acc (((((ledL N).map fun p => (p.1 + M.n, p.2.1 + M.n, p.2.2))).take i).map lD)) (fun H5 e5 => .of (e5.lst hll)) .nil (fun i x acc H8 H9 hi e8 hacc lacc hR8 hY => ?_) (fun acc H8 e8 hacc lacc hR8 => ?_)
    · obtain ⟨rfl, hx⟩ := hY
      obtain ⟨z, hz, hxz⟩ := RpAll.getM hxs hx
      obtain ⟨pa, rfl, hpa⟩ := lD_inv hxz
      refine ⟨pa, _, rfl, .inl (.of (e8.tup hpa)), rfl, _, _, rfl, _, _, rfl, _, _, rfl, rfl, rfl, ?_⟩
      refine ⟨_, rfl, _, rfl, _, _, rfl, rfl, _, rfl, _, rfl, _, _, rfl, rfl, _, rfl, (by show 3 ≤ sizeLine; decide), fun p hp => ?_⟩
      exact LcP.putT (z := (z.1 + M.n, z.2.1 + M.n, z.2.2)) hD e8 hacc lacc (by omega) hp (by rw [List.getElem?_map, hz]; rfl) hR8 fun H' _ h => .tup h (.cons (.int _) (.cons (.int _) (.cons (.str _) .nil)))
    rw [show ((ledL N).map fun p => (p.1 + M.n, p.2.1 + M.n, p.2.2)).take xs.length = (ledL N).map fun p => (p.1 + M.n, p.2.1 + M.n, p.2.2) by rw [lx, ← List.length_map (as := ledL N) (fun p => (p.1 + M.n, p.2.1 + M.n, p.2.2))]; exact List.take_length] at hR8
    have hR8 := rps_sub sub_hid _ hR8
    have t8 := t7.mono e8
    have e08 := e011.trans (e7.trans e8)
    clear hD
    refine ⟨_, rfl, _, B, rfl, t8.v3, gB, t8.tab, fun w9 H9 e9 h9 => ?_⟩
    have t9 := t8.mono e9
    refine ⟨_, rfl, _, M, rfl, t9.v1, gM, t9.tab, fun w10 H10 e10 h10 => ?_⟩
    have t10 := t9.mono e10
    obtain ⟨dm, ys, rfl, hdm, hys⟩ := h10.1.list_inv
    have ly := RpAll.len hys
    rw [List.length_map] at ly
    have e810 := e9.trans e10
    refine ⟨_, rfl, dm, D, _, _, rfl, rfl, hdm, e810.lst hacc, len_le (by omega), fun p hp => ?_⟩
    have e11 : Xt T.Ts H10 (upd H10 p (.lst (ys ++ acc))) := .new hp
    refine ⟨.list ((ledL B).map lD), .list ((ledL M).map lD ++ ((ledL N).map fun p => (p.1 + M.n, p.2.1 + M.n, p.2.2)).map lD), rp_dp _ ((e10.trans e11).rp h9.1), .lst (.of upd_same) (rps_dps ((e11.rps hys).app ((e810.trans e11).rps hR8))), shaped_lD h9.2, ?_, _, rfl, ifF (by rw [eqv_same (nice_list fun z hz => nice_lD (h9.2 z hz)) (by rw [b.ledL gM gN, List.map_append])]; rfl) ?_⟩
    · rw [← List.map_append, ← b.ledL gM gN]; exact shaped_lD h9.2
    have t12 := t10.mono e11
    have e012 := e08.trans (e810.trans e11)
    generalize upd H10 p (.lst (ys ++ acc)) = H12 at t12 e012
    clear hacc lacc
    -- ranks
    refine ⟨_, rfl, _, M, rfl, t12.v1, gM, t12.tab, fun w13 H13 e13 h13 => ?_⟩
    have t13 := t12.mono e13
    refine ⟨_, rfl, _, N, rfl, t13.v2, gN, t13.tab, fun w14 H14 e14 h14 => ?_⟩
    have t14 := t13.mono e14
    refine ⟨(by show 2 ≤ sizeLine; decide), fun pp hpp => ?_⟩
    have e15 : Xt T.Ts H14 (upd H14 pp (.lst [w13, w14])) := .new hpp
    have hp15 : upd H14 pp (.lst [w13, w14]) pp = some (.lst [w13, w14]) := upd_same
    have r13 := (e14.trans e15).rp (rk_rp h13)
    have r14 := e15.rp (rk_rp h14)
    have t15 := t14.mono e15
    have e015 := e012.trans (e13.trans (e14.trans e15))
    generalize upd H14 pp (.lst [w13, w14]) = H15 at e015 hp15 r13 r14 t15
    refine ⟨_, rfl, .none, [rkD M, rkD N], .non, .lst (.of hp15) (rps_dps (.cons r13 (.cons r14 .nil))), shaped_nice rfl (by simp [PyData.depth]), shaped_nice (by simp [nice, nices, nice_rkD]) (by have := depth_rkD M; have := depth_rkD N; simp only [PyData.depth, PyData.depthAll]; omega), _, rfl, ?_⟩
    have any : ([rkD M, rkD N].any fun z => PyData.eqv z .none) = decide (ranksL M = none ∨ ranksL N = none) := by
      rw [Bool.eq_iff_iff, decide_eq_true_eq]
      simp only [List.any_cons, List.any_nil, Bool.or_false, Bool.or_eq_true]
      rw [nice_eqv _ _ (nice_rkD M) rfl, nice_eqv _ _ (nice_rkD N) rfl, rkD_none, rkD_none]
    rw [any]
    by_cases hn : ranksL M = none ∨ ranksL N = none
    · refine ifT (decide_eq_true hn) ?_
      refine ⟨_, rfl, _, B, rfl, t15.v3, gB, t15.tab, fun w16 H16 e16 h16 => ⟨rfl, ?_⟩⟩
      unfold RkPost at h16
      rw [b.ranks_none gM gN hn] at h16
      obtain rfl := h16
      exact q.go (e015.trans e16) rfl
    · refine ifF (decide_eq_false hn) ?_
      obtain ⟨x, hx⟩ : ∃ x, ranksL M = some x := by
        cases z : ranksL M with
        | none => exact (hn (.inl z)).elim
        | some x => exact ⟨x, rfl⟩
      obtain ⟨y, hy⟩ : ∃ y, ranksL N = some y := by
        cases z : ranksL N with
        | none => exact (hn (.inr z)).elim
        | some y => exact ⟨y, rfl⟩
      have hB := b.ranks gM gN hx hy
      have lenx := ranksL_len gM hx
      have leny := ranksL_len gN hy
      refine ⟨_, rfl, _, B, rfl, t15.v3, gB, t15.tab, fun w16 H16 e16 h16 => ?_⟩
      unfold rkD at r13 r14
      rw [hx] at r13
      rw [hy] at r14
      obtain ⟨px, xs, rfl, hpx, hxs⟩ := r13.list_inv
      obtain ⟨py, ys, rfl, hpy, hys⟩ := r14.list_inv
      have lxs := RpAll.len hxs
      have lys := RpAll.len hys
      rw [List.length_map] at lxs lys
      have hp16 := e16.lst hp15
      refine ⟨_, rfl, pp, _, _, _, rfl, rfl, .inl (.of hp16), atI_nat (j := 0) rfl, _, rfl, pp, _, _, _, rfl, rfl, .inl (.of hp16), atI_nat (j := 1) rfl, px, py, _, _, rfl, rfl, e16.lst hpx, e16.lst hpy, len_le (by omega), fun p hp => ?_⟩
      have e17 : Xt T.Ts H16 (upd H16 p (.lst (xs ++ ys))) := .new hp
      have rB := e17.rp (rk_rp h16)
      unfold rkD at rB
      rw [hB] at rB
      refine ⟨.list ((x ++ y).map oP), .list (x.map oP ++ y.map oP), rp_dp _ rB, .lst (.of upd_same) (rps_dps (((e16.trans e17).rps hxs).app ((e16.trans e17).rps hys))), shaped_oP _, ?_, ?_⟩
      · rw [← List.map_append]; exact shaped_oP _
      rw [eqv_same (nice_list fun z _ => nice_oP z) (by rw [List.map_append])]
      exact q.go (e015.trans (e16.trans e17)) rfl
end
end Tw
/-! Triesgrow: growth right -/
namespace Tw
open PySem PySem.Spec PyProof.Rows L2 Tg NdefX LamX
open scoped Classical
theorem gsz_zero {M : Mac} (h : gsz M ≤ 0) : ∃ l, ranksL M = some l ∧ grk l = 0 := by
  cases hr : ranksL M with
  | none => rw [gsz_none hr] at h; exact absurd h (by decide)
  | some l =>
    rw [gsz_some hr] at h
    have := grk_nn l
    exact ⟨l, rfl, by omega⟩
theorem gr_opt {M : Mac} {v : V} (h : v = .non ∨ ∃ G, v = .int G ∧ Grt M G) : ∃ o : Option Int, v = oV o ∧ ∀ G, o = some G → Grt M G := by
  rcases h with rfl | ⟨G, rfl, h⟩
  · exact ⟨none, rfl, fun _ h => by cases h⟩
  · exact ⟨some G, rfl, fun G' e => by cases e; exact h⟩
section
variable {P : Program} {w : World} {K : PySem.W.Frag} {mg : Str → Option Value} {base : Heap}
theorem ok_law_growth_right (T : Txt K mg) (TB : Tbs T base) : FnOk P w K mg base CX0 13 T.law_growth_right.f T.law_growth_right.fd P_law_growth_right (sp_law_growth_right T.Ts) := by
  refine T.law_growth_right.F.ok sc_law_growth_right (fun vs H Q E h => ?_) (fun cdv A outer s H vs Q E hr h => ⟨_, (pss_cons (ps_set (i := 3) sc_law_growth_right.nd rfl (Or.inl rfl) (pe_lst (pa_cons (pe_call (ok_law_size T) (hr.mono (by decide)) rfl T.law_size.g T.law_size.F.kp T.law_size.b .nil pass0 (pa_cons (pe_call (ok_growth T TB) (hr.mono (by decide)) rfl T.growth.g T.growth.F.kp T.growth.b .nil pass0 (pa_cons (pv 0) pa_nil)) pa_nil)) (pa_cons (pe_call (ok_law_size T) (hr.mono (by decide)) rfl T.law_size.g T.law_size.F.kp T.law_size.b .nil pass0 (pa_cons (pe_call (ok_growth T TB) (hr.mono (by decide)) rfl T.growth.g T.growth.F.kp T.growth.b .nil pass0 (pa_cons (pv 1) pa_nil)) pa_nil)) pa_nil))))
    (pss_cons (ps_if (pt_cmpR op_ne (pe_call (ok_law_size T) (hr.mono (by decide)) rfl T.law_size.g T.law_size.F.kp T.law_size.b .nil pass0 (pa_cons (pe_call (ok_growth T TB) (hr.mono (by decide)) rfl T.growth.g T.growth.F.kp T.growth.b .nil pass0 (pa_cons (pv 2) pa_nil)) pa_nil)) (pe_callB (cr_max rfl) (by rfl) T.n_max (by decide +kernel) (pa_cons (pv 3) pa_nil)) (nomark _)) (pss_one (ps_ret pe_bl)) pss_nil)
    (pss_cons (ps_if (pt_cmpR op_gt (pe_callB (cr_max rfl) (by rfl) T.n_max (by decide +kernel) (pa_cons (pv 3) pa_nil)) pe_int (nomark _)) (pss_one (ps_ret pe_bl)) pss_nil)
    (pss_cons (ps_set (i := 4) sc_law_growth_right.nd rfl (Or.inl rfl) (pe_lst (pa_cons (pe_call (ok_law_greatest T TB) (hr.mono (by decide)) rfl T.law_greatest.g T.law_greatest.F.kp T.law_greatest.b .nil pass0 (pa_cons (pv 0) pa_nil)) (pa_cons (pe_call (ok_law_greatest T TB) (hr.mono (by decide)) rfl T.law_greatest.g T.law_greatest.F.kp T.law_greatest.b .nil pass0 (pa_cons (pv 1) pa_nil)) (pa_cons (pe_call (ok_law_greatest T TB) (hr.mono (by decide)) rfl T.law_greatest.g T.law_greatest.F.kp T.law_greatest.b .nil pass0 (pa_cons (pv 2) pa_nil)) pa_nil)))))
    (pss_one (ps_ret (pe_or (pe_cmpR (op_inD (hu65 hr)) pe_non (pv 4) (by rfl)) (pe_one (pe_chain op_le op_le (pe_callB (cr_max rfl) (by rfl) T.n_max (by decide +kernel) (pa_cons (pe_slice sl_list (pv 4) po_none (po_some pe_int)) pa_nil)) (pe_ix ix_list (pv 4) pe_int (fun _ _ => rfl)) (pe_op op_add (pe_ix ix_list (pv 4) pe_int (fun _ _ => rfl)) (pe_ix ix_list (pv 4) pe_int (fun _ _ => rfl)))))))))))), ?_⟩)
  · obtain ⟨_, _, _, _, _, _, rfl, _⟩ := h; rfl
  · obtain ⟨v1, v2, v3, M, N, B, rfl, t, q⟩ := h
    have gB := t.good
    have gM := t.sM.g
    have gN := t.sN.g
    have b := t.b
    have gz := b.gsz gM gN
    refine ⟨_, rfl, _, M, rfl, t.v1, gM, t.tab, fun w1 H1 e1 h1 => ⟨w1, M, rfl, h1, fun w2 H2 e2 h2 => ?_⟩⟩
    subst h2
    have t2 := (t.mono e1).mono e2
    refine ⟨_, rfl, _, N, rfl, t2.v2, gN, t2.tab, fun w3 H3 e3 h3 => ⟨w3, N, rfl, h3, fun w4 H4 e4 h4 => ?_⟩⟩
    subst h4
    have t4 := (t2.mono e3).mono e4
    refine ⟨(by show 2 ≤ sizeLine; decide), fun S hS => ?_⟩
    have e5 : Xt T.Ts H4 (upd H4 S (.lst ([gsz M, gsz N].map V.int))) := .new hS
    have hS5 : upd H4 S (.lst ([gsz M, gsz N].map V.int)) S = some (.lst ([gsz M, gsz N].map V.int)) := upd_same
    have t5 := t4.mono e5
    have e05 := (e1.trans e2).trans ((e3.trans e4).trans e5)
    show gName 3 (V.ref S) _ (upd H4 S (.lst ([gsz M, gsz N].map V.int))) _
    generalize upd H4 S (.lst ([gsz M, gsz N].map V.int)) = H5 at e05 hS5 t5
    refine ⟨_, rfl, _, B, rfl, t5.v3, gB, t5.tab, fun w6 H6 e6 h6 => ⟨w6, B, rfl, h6, fun w7 H7 e7 h7 => ?_⟩⟩
    subst h7
    have t7 := (t5.mono e6).mono e7
    have e57 := e6.trans e7
    have mx : ∀ m : Int, m ∈ [gsz M, gsz N] → (∀ y, y ∈ [gsz M, gsz N] → y ≤ m) → m = gsz B := fun m h1 h2 => by
      have z1 := h2 (gsz M) (by simp)
      have z2 := h2 (gsz N) (by simp)
      simp only [List.mem_cons, List.not_mem_nil, or_false] at h1
      rw [gz]
      omega
    refine ⟨_, rfl, S, [gsz M, gsz N], rfl, .inl (.of (e57.lst hS5)), (by show 0 < 2; decide), fun m hm hle => ?_⟩
    obtain rfl := mx m hm hle
    refine ⟨rfl, _, rfl, ifF (by simp) ?_⟩
    refine ⟨_, rfl, S, [gsz M, gsz N], rfl, .inl (.of (e57.lst hS5)), (by show 0 < 2; decide), fun m hm hle => ⟨_, _, rfl, rfl, _, rfl, ?_⟩⟩
    have em := mx m hm hle
    by_cases hp : 0 < m
    · exact ifT (decide_eq_true hp) (q.go (e05.trans e57) rfl)
    refine ifF (decide_eq_false hp) ?_
    have zM : gsz M ≤ 0 := by have := hle (gsz M) (by simp); omega
    have zN : gsz N ≤ 0 := by have := hle (gsz N) (by simp); omega
    have zB : gsz B ≤ 0 := by omega
    obtain ⟨lM, hlM, gM0⟩ := gsz_zero zM
    obtain ⟨lN, hlN, gN0⟩ := gsz_zero zN
    obtain ⟨lB, hlB, gB0⟩ := gsz_zero zB
    refine ⟨_, rfl, _, M, lM, rfl, t7.v1, gM, t7.tab, hlM, gM0, fun x1 H8 e8 h8 => ?_⟩
    have t8 := t7.mono e8
    refine ⟨_, rfl, _, N, lN, rfl, t8.v2, gN, t8.tab, hlN, gN0, fun x2 H9 e9 h9 => ?_⟩
    have t9 := t8.mono e9
    refine ⟨_, rfl, _, B, lB, rfl, t9.v3, gB, t9.tab, hlB, gB0, fun x3 H10 e10 h10 => ?_⟩
    obtain ⟨o1, rfl, k1⟩ := gr_opt h8
    obtain ⟨o2, rfl, k2⟩ := gr_opt h9
    obtain ⟨o3, rfl, k3⟩ := gr_opt h10
    refine ⟨(by show 3 ≤ sizeLine; decide), fun L hL => ?_⟩
    have e11 : Xt T.Ts H10 (upd H10 L (.lst ([o1, o2, o3].map oV))) := .new hL
    have hL11 : upd H10 L (.lst ([o1, o2, o3].map oV)) L = some (.lst ([o1, o2, o3].map oV)) := upd_same
    have e011 := (e05.trans e57).trans ((e8.trans e9).trans (e10.trans e11))
    show gName 4 (V.ref L) _ (upd H10 L (.lst ([o1, o2, o3].map oV))) _
    generalize upd H10 L (.lst ([o1, o2, o3].map oV)) = H11 at e011 hL11
    refine ⟨_, rfl, .none, [o1, o2, o3].map oP, .non, .lst (.of hL11) (rps_dps (oVs_rp _)), shaped_nice rfl (by simp [PyData.depth]), shaped_oP _, _, rfl, ?_⟩
    have any : (([o1, o2, o3].map oP).any fun z => PyData.eqv z .none) = decide (o1 = none ∨ o2 = none ∨ o3 = none) := by
      cases o1 <;> cases o2 <;> cases o3 <;> simp [oP, PyData.eqv]
    rw [any]
    by_cases hn : o1 = none ∨ o2 = none ∨ o3 = none
    · exact ifT (decide_eq_true hn) (q.go e011 rfl)
    refine ifF (decide_eq_false hn) ?_
    cases o1 with
    | none => exact (hn (.inl rfl)).elim
    | some G1 =>
    cases o2 with
    | none => exact (hn (.inr (.inl rfl))).elim
    | some G2 =>
    cases o3 with
    | none => exact (hn (.inr (.inr rfl))).elim
    | some G3 =>
    have key := b.grt gM gN (k1 G1 rfl) (k2 G2 rfl) (k3 G3 rfl)
    refine ⟨_, rfl, _, rfl, L, _, rfl, .inl (.of hL11), fun p hp => ?_⟩
    have e12 : Xt T.Ts H11 (upd H11 p (.lst ([G1, G2].map V.int))) := .new hp
    have hp12 : upd H11 p (.lst ([G1, G2].map V.int)) p = some (.lst ([G1, G2].map V.int)) := upd_same
    have hL12 := e12.lst hL11
    refine ⟨p, [G1, G2], rfl, .inl (.of hp12), (by show 0 < 2; decide), fun m hm hle => ?_⟩
    simp only [List.mem_cons, List.not_mem_nil, or_false] at hm
    refine ⟨_, rfl, L, _, _, _, rfl, rfl, .inl (.of hL12), atI_nat (j := 2) rfl, _, _, rfl, rfl, _, rfl, ifT (decide_eq_true (by show m ≤ G3; omega)) ?_⟩
    refine ⟨_, rfl, L, _, _, _, rfl, rfl, .inl (.of hL12), atI_nat (j := 0) rfl, _, rfl, L, _, _, _, rfl, rfl, .inl (.of hL12), atI_nat (j := 1) rfl, G1, G2, rfl, rfl, G3, G1 + G2, rfl, rfl, ?_⟩
    exact q.go (e011.trans e12) (congrArg V.bl (decide_eq_true key.2))
end
end Tw
/-! Triesgrow: the law -/
namespace Tw
open PySem PySem.Spec PyProof.Rows L2 Tg NdefX LamX
open scoped Classical
theorem Xh.out {T : List NTab} {h : Addr} {H0 H1 H' : Hp} (e1 : Xt T H0 H1) (hn : H0 h = none) (hd : Hnd H1 h) (x : Xh T h H1 H') : Xt T H0 H' := by
  refine ⟨fun a q => e1.dom a (x.dom q), fun b u q n => ?_, fun t => x.tab hd (e1.tab t)⟩
  have ne : b ≠ h := fun z => by rw [z, hn] at q; cases q
  have q1 := e1.ext b u q n
  exact (hid_some (x.e.ext b u (by rw [hid_ne ne]; exact q1) n)).2
theorem begsI_len (M : Mac) (w : List Nat) : (begsI M w).length = w.length + 1 := begs_len M w _
theorem zip_get {l r : List Int} {i : Nat} {x y : V} (hx : (l.map V.int)[i]? = some x) (hy : (r.map V.int)[i]? = some y) : ∃ a c : Int, x = .int a ∧ y = .int c ∧ (List.zipWith (· + ·) l r)[i]? = some (a + c) := by
  obtain ⟨a, ha, rfl⟩ := int_at hx
  obtain ⟨c, hc, rfl⟩ := int_at hy
  exact ⟨a, c, rfl, rfl, by simp [List.getElem?_zipWith, ha, hc]⟩
def sp_law (K : PySem.W.Frag) (T : List NTab) : Sp := fun vs H Q _ => ∃ (s : Addr) (ns : List Int), vs = [.ref s] ∧ SqL K H s (ns.map V.int) ∧ ns.length ≤ sizeLine - 1 ∧ TabsN T H ∧ ∀ H', Q (.bl true) H'
section
variable {P : Program} {w : World} {K : PySem.W.Frag} {mg : Str → Option Value} {base : Heap}
theorem ok_law (T : Txt K mg) (TB : Tbs T base) : FnOk P w K mg base CX0 14 T.law.f T.law.fd P_law (sp_law K T.Ts) := by
  refine T.law.F.ok sc_law (fun vs H Q E h => ?_) (fun cdv A outer s H vs Q E hr h => ⟨_, (pss_cons (ps_for PassesOwn.never rfl (pi_range1 (by rfl) T.n_range (pa_cons (pe_callB (call_max2 rfl) (by rfl) T.n_max (by decide +kernel) (pa_cons pe_int (pa_cons (pe_callB (call_min2 rfl) (by rfl) T.n_min (by decide +kernel) (pa_cons (pe_callB call_len_seq (by rfl) T.n_len PySem.boot_len (pa_cons (pv 0) pa_nil)) (pa_cons pe_int pa_nil))) pa_nil))) pa_nil)) (pg_name (i := 1) sc_law.nd rfl (Or.inl rfl))
     (pss_cons (ps_set (i := 2) sc_law.nd rfl (Or.inl rfl) (pe_call (ok_law_hand T) (hr.mono (by decide)) rfl T.law_hand.g T.law_hand.F.kp T.law_hand.b .nil pass0 (pa_cons (pv 0) (pa_cons (pv 1) pa_nil))))
      (pss_cons (ps_set (i := 3) sc_law.nd rfl (Or.inl rfl) (pe_call (ok_law_letters T) (hr.mono (by decide)) rfl T.law_letters.g T.law_letters.F.kp T.law_letters.b .nil pass0 (pa_cons (pv 2) pa_nil)))
      (pss_cons (ps_set (i := 4) sc_law.nd rfl (Or.inl rfl) (pe_call (ok_law_machine T) (hr.mono (by decide)) rfl T.law_machine.g T.law_machine.F.kp T.law_machine.b .nil pass0 (pa_cons (pv 2) (pa_cons pe_int (pa_cons pe_int (pa_cons (pv 3) pa_nil))))))
      (pss_cons (ps_set (i := 5) sc_law.nd rfl (Or.inl rfl) (pe_call (ok_law_machine T) (hr.mono (by decide)) rfl T.law_machine.g T.law_machine.F.kp T.law_machine.b .nil pass0 (pa_cons (pv 2) (pa_cons pe_int (pa_cons pe_int (pa_cons (pe_ix ix_list (pe_lst (pa_cons (pv 3) (pa_cons (pe_call (ok_law_letters T) (hr.mono (by decide)) rfl T.law_letters.g T.law_letters.F.kp T.law_letters.b .nil pass0 (pa_cons (pv 2) pa_nil)) pa_nil))) (pe_call (ok_law_draw T) (hr.mono (by decide)) rfl T.law_draw.g T.law_draw.F.kp T.law_draw.b .nil pass0 (pa_cons (pv 2) (pa_cons pe_int pa_nil))) (fun _ _ => rfl)) pa_nil))))))
      (pss_cons (ps_set (i := 6) sc_law.nd rfl (Or.inl rfl) (pe_call (ok_law_beside T) (hr.mono (by decide)) rfl T.law_beside.g T.law_beside.F.kp T.law_beside.b .nil pass0 (pa_cons (pv 2) (pa_cons (pv 4) (pa_cons (pv 5) pa_nil)))))
      (pss_cons (ps_if (PW.pt (pw_or (pt_not (pt_val (pe_call (ok_law_structure_right T TB) (hr.mono (by decide)) rfl T.law_structure_right.g T.law_structure_right.F.kp T.law_structure_right.b .nil pass0 (pa_cons (pv 4) (pa_cons (pv 5) (pa_cons (pv 6) pa_nil)))))) (pw_or1 (pt_not (pt_val (pe_call (ok_law_growth_right T TB) (hr.mono (by decide)) rfl T.law_growth_right.g T.law_growth_right.F.kp T.law_growth_right.b .nil pass0 (pa_cons (pv 4) (pa_cons (pv 5) (pa_cons (pv 6) pa_nil))))))))) (pss_one (ps_ret pe_bl)) pss_nil)
      (pss_one (ps_for PassesOwn.never rfl (pi_range1 (by rfl) T.n_range (pa_cons pe_int pa_nil)) (pg_name (i := 7) sc_law.nd rfl (Or.inl rfl))
      (pss_cons (ps_set (i := 8) sc_law.nd rfl (Or.inl rfl) (pe_call (ok_law_word T) (hr.mono (by decide)) rfl T.law_word.g T.law_word.F.kp T.law_word.b .nil pass0 (pa_cons (pv 2) (pa_cons (pv 3) (pa_cons pe_int pa_nil)))))
       (pss_cons (ps_if (pt_cmpR op_ne (pe_call (ok_ways T) (hr.mono (by decide)) rfl T.ways.g T.ways.F.kp T.ways.b T.ways.dv pass0 (pa_cons (pv 6) (pa_cons (pv 8) pa_nil))) (pe_op op_add (pe_call (ok_ways T) (hr.mono (by decide)) rfl T.ways.g T.ways.F.kp T.ways.b T.ways.dv pass0 (pa_cons (pv 4) (pa_cons (pv 8) pa_nil))) (pe_call (ok_ways T) (hr.mono (by decide)) rfl T.ways.g T.ways.F.kp T.ways.b T.ways.dv pass0 (pa_cons (pv 5) (pa_cons (pv 8) pa_nil)))) (nomark _)) (pss_one (ps_ret pe_bl)) pss_nil)
       (pss_cons (ps_setLc (i := 9) (own := [("_law_a", 10), ("_law_b", 11)]) (by rfl) sc_law.nd rfl rfl (sw_true rfl rfl rfl (by decide +kernel)) (pi_zip (by rfl) T.n_zip (pa_cons (pe_call (ok_beginnings_by T) (hr.mono (by decide)) rfl T.beginnings_by.g T.beginnings_by.F.kp T.beginnings_by.b .nil pass0 (pa_cons (pv 4) (pa_cons (pv 8) pa_nil))) (pa_cons (pe_call (ok_beginnings_by T) (hr.mono (by decide)) rfl T.beginnings_by.g T.beginnings_by.F.kp T.beginnings_by.b .nil pass0 (pa_cons (pv 5) (pa_cons (pv 8) pa_nil))) pa_nil))) (blkOk_by (own := [("_law_a", 10), ("_law_b", 11)]) (N := N_law) (sc := defScope s_law) (by decide +kernel)) (fun _ _ _ _ _ => (pg_tupC (K := K) (n := 2) rfl rfl (pgs_cons (pg_name (i := 10) sc_law.nd rfl (Or.inl rfl) (Or.inr rfl)) (pgs_cons (pg_name (i := 11) sc_law.nd rfl (Or.inl rfl) (Or.inr rfl)) pgs_nil)))) (fun _ _ _ _ _ => pts_nil) (fun _ _ _ _ _ => (pe_op op_add (pv 10) (pv 11))))
       (pss_cons (ps_if (pt_cmpR (op_neD hr.units) (pe_call (ok_beginnings_by T) (hr.mono (by decide)) rfl T.beginnings_by.g T.beginnings_by.F.kp T.beginnings_by.b .nil pass0 (pa_cons (pv 6) (pa_cons (pv 8) pa_nil))) (pv 9) (nomark _)) (pss_one (ps_ret pe_bl)) pss_nil)
       (pss_one (ps_if (pt_cmpR op_ne (pe_call (ok_tries_all T) (hr.mono (by decide)) rfl T.tries_all.g T.tries_all.F.kp T.tries_all.b .nil pass0 (pa_cons (pv 6) (pa_cons (pv 8) pa_nil))) (pe_op op_add (pe_call (ok_tries_all T) (hr.mono (by decide)) rfl T.tries_all.g T.tries_all.F.kp T.tries_all.b .nil pass0 (pa_cons (pv 4) (pa_cons (pv 8) pa_nil))) (pe_call (ok_tries_all T) (hr.mono (by decide)) rfl T.tries_all.g T.tries_all.F.kp T.tries_all.b .nil pass0 (pa_cons (pv 5) (pa_cons (pv 8) pa_nil)))) (nomark _)) (pss_one (ps_ret pe_bl)) pss_nil)))))))))))))))
    (pss_one (ps_ret pe_bl))), ?_⟩)
  · obtain ⟨_, _, rfl, _⟩ := h; rfl
  · obtain ⟨sa, ns, rfl, hs, ln, hT, q⟩ := h
    refine ⟨_, rfl, sa, _, rfl, .inl hs, _, _, rfl, _, _, rfl, _, rfl, ?_, ?_, for_it (walk_range (lo := 0)) (fun i σ H' => ∃ (v1 v2 v3 v4 v5 v6 v7 v8 v9 : Option V), σ = [some (.ref sa), v1, v2, v3, v4, v5, v6, v7, v8, v9, none, none] ∧ Xt T.Ts H H')
      ⟨_, _, _, _, _, _, _, _, _, rfl, .refl H⟩ (fun _ _ _ _ _ => trivial) ?_ ?_⟩
    · generalize (((ns.map V.int).length : Nat) : Int) = n
      repeat' split
      all_goals omega
    · generalize (((ns.map V.int).length : Nat) : Int) = n
      repeat' split
      all_goals omega
    · rintro i x σ H1 H0 hi ⟨v1, v2, v3, v4, v5, v6, v7, v8, v9, rfl, e0⟩ ⟨rfl, rfl⟩
      refine ⟨_, rfl, _, rfl, sa, i, ns, by show [V.ref sa, V.int (0 + (i : Int))] ++ [] = _; rw [Int.zero_add]; rfl, e0.sl hs, ln, fun H1 h e1 hn hd => ?_⟩
      refine ⟨_, rfl, h, rfl, hd, fun v2 H2 x2 lt2 => ?_⟩
      refine ⟨_, rfl, _, rfl, h, v2, rfl, x2.hd, lt2, fun v3 H3 x3 h3 => ?_⟩
      obtain ⟨M, rM, sM⟩ := h3
      have x03 := x2.trans x3
      refine ⟨_, rfl, _, rfl, _, rfl, h, rfl, x3.hd, fun v4 H4 x4 lt4 => ⟨(by show 2 ≤ sizeLine; decide), fun p hp => ?_⟩⟩
      have ph := x4.hd.ne hp
      have x5 : Xh T.Ts h H4 (upd H4 p (.lst [v2, v4])) := .new x4.hd hp
      refine ⟨_, rfl, h, 2, rfl, x5.hd, by decide, by decide, fun a b r r0 r1 => ?_⟩
      have x6 := x5.draw a b
      have hp6 : upd (upd H4 p (.lst [v2, v4])) h (.lst [.int a, .int b]) p = some (.lst [v2, v4]) := by rw [upd_ne ph]; exact upd_same
      generalize upd (upd H4 p (.lst [v2, v4])) h (.lst [.int a, .int b]) = H6 at x6 hp6
      obtain ⟨k, rfl⟩ : ∃ k : Nat, r = (k : Int) := ⟨r.toNat, by omega⟩
      have hk : k < ([v2, v4] : List V).length := by show k < 2; omega
      have ltk : Lets ([v2, v4] : List V)[k] := by
        have := List.getElem_mem hk
        simp only [List.mem_cons, List.not_mem_nil, or_false] at this
        rcases this with e | e <;> rw [e] <;> assumption
      refine ⟨p, _, _, _, rfl, rfl, .inl (.of hp6), atI_nat (List.getElem?_eq_getElem hk), h, _, rfl, x6.hd, ltk, fun v7 H7 x7 h7 => ?_⟩
      obtain ⟨N, rN, sN⟩ := h7
      have x37 := x4.trans (x6.trans x7)
      refine ⟨_, rfl, _, rfl, _, rfl, h, v3, v7, M, N, rfl, x7.hd, x37.rp rM, rN, sM, sN, fun v8 H8 x8 h8 => ?_⟩
      obtain ⟨B, rB, bs⟩ := h8
      have x08 := x03.trans (x37.trans x8)
      have tri8 : Tri T.Ts H8 v3 v7 v8 M N B := ⟨rp_sub sub_hid _ ((x37.trans x8).rp rM), rp_sub sub_hid _ (x8.rp rN), rp_sub sub_hid _ rB, sM, sN, bs, x08.tab hd ((e0.trans e1).tab hT)⟩
      refine ⟨_, rfl, _, rfl, _, rfl, v3, v7, v8, M, N, B, rfl, tri8, fun w9 H9 e9 h9 => ⟨true, h9, ifF rfl ?_⟩⟩
      refine ⟨_, rfl, _, rfl, _, rfl, v3, v7, v8, M, N, B, rfl, tri8.mono e9, fun w10 H10 e10 h10 => ⟨true, h10, ifF rfl ?_⟩⟩
      have x810 : Xh T.Ts h H8 H10 := .of x8.hd (e9.trans e10)
      have gM := sM.g
      have gN := sN.g
      have gB := tri8.good
      refine ⟨6, rfl, by decide, by decide, for_it (walk_range (lo := 0)) (fun j σ H' => ∃ (v9 v10 v11 : Option V), σ = [some (.ref sa), some (.int (0 + (i : Int))), some (.ref h), some v2, some v3, some v7, some v8, v9, v10, v11, none, none] ∧ Xh T.Ts h H8 H')
        ⟨_, _, _, rfl, x810⟩ (fun _ _ _ _ _ => trivial) ?_ ?_⟩
      · rintro j x σ H11 H12 hj ⟨v9, v10, v11, rfl, x12⟩ ⟨rfl, rfl⟩
        refine ⟨_, rfl, _, rfl, h, v2, rfl, x12.hd, lt2, fun v13 H13 x13 h13 => ?_⟩
        obtain ⟨wd, rfl, lw, w12⟩ := h13
        have x813 := x12.trans x13
        have rM13 : Rp H13 v3 (mD M) := rp_sub sub_hid _ ((x37.trans (x8.trans x813)).rp rM)
        have rN13 : Rp H13 v7 (mD N) := rp_sub sub_hid _ ((x8.trans x813).rp rN)
        have rB13 : Rp H13 v8 (mD B) := rp_sub sub_hid _ (x813.rp rB)
        refine ⟨_, rfl, _, rfl, v8, B, wd, rfl, rB13, gB, lw, by omega, fun y1 H14 e14 h14 => ?_⟩
        subst h14
        refine ⟨_, rfl, _, rfl, v3, M, wd, rfl, e14.rp rM13, gM, lw, by omega, fun y2 H15 e15 h15 => ?_⟩
        subst h15
        have e1315 := e14.trans e15
        refine ⟨_, rfl, _, rfl, v7, N, wd, rfl, e1315.rp rN13, gN, lw, by omega, fun y3 H16 e16 h16 => ?_⟩
        subst h16
        have e1316 := e1315.trans e16
        refine ⟨_, _, rfl, rfl, rfl, _, rfl, ifF (by rw [bs.ways gM gN]; simp) ?_⟩
        refine ⟨_, rfl, _, rfl, v3, M, wd, rfl, e1316.rp rM13, gM, lw, by omega, fun y4 H17 e17 h17 => ?_⟩
        obtain ⟨p1, rfl, hp1⟩ := h17
        have e1317 := e1316.trans e17
        refine ⟨_, rfl, _, rfl, v7, N, wd, rfl, e1317.rp rN13, gN, lw, by omega, fun y5 H18 e18 h18 => ?_⟩
        obtain ⟨p2, rfl, hp2⟩ := h18
        have e1318 := e1317.trans e18
        have hp1 := e18.lst hp1
        refine ⟨p1, p2, _, _, rfl, .inl (.of hp1), .inl (.of hp2), fun D hD => ?_⟩
        have lM := begsI_len M wd
        have lN := begsI_len N wd
        refine lc_sel (T := T.Ts) (walk_zip (xs := (begsI M wd).map V.int) (ys := (begsI N wd).map V.int) rfl) hD (fun i acc Hh => acc = ((List.zipWith (· + ·) (begsI M wd) (begsI N wd)).take i).map V.int) (fun H5 e5 => ⟨.inl (.of (e5.lst hp1)), .inl (.of (e5.lst hp2))⟩) rfl (fun i x acc H5 H6 hi e5 hacc lacc hR5 hY => ?_) (fun acc H19 e19 hacc lacc hR5 => ?_)
        · obtain ⟨t, x1, y1, rfl, ht, rfl, hx1, hy1⟩ := hY
          obtain ⟨a, c, rfl, rfl, hz⟩ := zip_get hx1 hy1
          rw [List.length_map, List.length_map, lM, lN] at hi
          refine ⟨t, _, rfl, .inl (.of upd_same), rfl, _, _, rfl, _, _, rfl, rfl, rfl, ?_⟩
          have nD : D ≠ t := ne_of_none hacc ht
          refine ⟨_, rfl, _, rfl, _, _, rfl, rfl, LcP.put hD (e5.trans (.new ht)) (by rw [upd_ne nD]; exact hacc) lacc (by omega) ?_⟩
          rw [hR5, take_succ' hz, List.map_append]
          rfl
        rw [show ((List.zipWith (· + ·) (begsI M wd) (begsI N wd)).take (min ((begsI M wd).map V.int).length ((begsI N wd).map V.int).length)) = begsI B wd by
          rw [bs.begs gM gN, List.length_map, List.length_map, lM, lN]
          refine List.take_of_length_le ?_
          rw [List.length_zipWith, lM, lN]; omega] at hR5
        subst hR5
        have e1319 := e1318.trans e19
        refine ⟨_, rfl, _, rfl, v8, B, wd, rfl, e1319.rp rB13, gB, lw, by omega, fun y6 H20 e20 h20 => ?_⟩
        obtain ⟨p3, rfl, hp3⟩ := h20
        refine ⟨_, rfl, .list ((begsI B wd).map .int), .list ((begsI B wd).map .int), rp_dp _ (.ints hp3), rp_dp _ (.ints (e20.lst hacc)), PySem.W.shaped_ints _, PySem.W.shaped_ints _, _, rfl, ifF (by rw [eqv_same (nice_list fun _ _ => rfl) rfl]; rfl) ?_⟩
        have e1320 := e1319.trans e20
        refine ⟨_, rfl, _, rfl, v8, B, wd, rfl, e1320.rp rB13, gB, lw, by omega, fun y7 H21 e21 h21 => ?_⟩
        subst h21
        have e1321 := e1320.trans e21
        refine ⟨_, rfl, _, rfl, v3, M, wd, rfl, e1321.rp rM13, gM, lw, by omega, fun y8 H22 e22 h22 => ?_⟩
        subst h22
        have e1322 := e1321.trans e22
        refine ⟨_, rfl, _, rfl, v7, N, wd, rfl, e1322.rp rN13, gN, lw, by omega, fun y9 H23 e23 h23 => ?_⟩
        subst h23
        refine ⟨_, _, rfl, rfl, rfl, _, rfl, ifF (by rw [bs.tries gM gN]; simp) ?_⟩
        exact ⟨_, _, _, rfl, x813.trans (.of x13.hd (e1322.trans e23))⟩
      · rintro σ H12 ⟨v9, v10, v11, rfl, x12⟩
        exact ⟨_, _, _, _, _, _, _, _, _, rfl, e0.trans (Xh.out e1 hn hd (x08.trans x12))⟩
    · rintro σ H1 ⟨v1, v2, v3, v4, v5, v6, v7, v8, v9, rfl, e⟩
      exact q _
end
end Tw
/-! Triesgrow: what the top has written, told by names -/
namespace Tw
open PySem PySem.Spec PyProof.Rows L2 Tg NdefX LamX
def d_is_sign : He.DefD := ⟨("is_sign", none), "is_sign", "is_sign", defArgs s_is_sign, defBody s_is_sign, defScope s_is_sign, [], []⟩
def d_is_whole : He.DefD := ⟨("is_whole", none), "is_whole", "is_whole", defArgs s_is_whole, defBody s_is_whole, defScope s_is_whole, [], []⟩
def d_is_within : He.DefD := ⟨("is_within", none), "is_within", "is_within", defArgs s_is_within, defBody s_is_within, defScope s_is_within, [], []⟩
def d_look_at_rooms : He.DefD := ⟨("look_at_rooms", none), "look_at_rooms", "look_at_rooms", defArgs s_look_at_rooms, defBody s_look_at_rooms, defScope s_look_at_rooms, [], []⟩
def d_is_step : He.DefD := ⟨("is_step", none), "is_step", "is_step", defArgs s_is_step, defBody s_is_step, defScope s_is_step, [], []⟩
def d_look_at_steps : He.DefD := ⟨("look_at_steps", none), "look_at_steps", "look_at_steps", defArgs s_look_at_steps, defBody s_look_at_steps, defScope s_look_at_steps, [], []⟩
def d_look_at : He.DefD := ⟨("look_at", none), "look_at", "look_at", defArgs s_look_at, defBody s_look_at, defScope s_look_at, [], []⟩
def d_look_at_room : He.DefD := ⟨("look_at_room", none), "look_at_room", "look_at_room", defArgs s_look_at_room, defBody s_look_at_room, defScope s_look_at_room, [], []⟩
def d_come_to : He.DefD := ⟨("come_to", none), "come_to", "come_to", defArgs s_come_to, defBody s_come_to, defScope s_come_to, [], []⟩
def d_useful : He.DefD := ⟨("useful", none), "useful", "useful", defArgs s_useful, defBody s_useful, defScope s_useful, [], []⟩
def d_trimmed : He.DefD := ⟨("trimmed", none), "trimmed", "trimmed", defArgs s_trimmed, defBody s_trimmed, defScope s_trimmed, [], []⟩
def d_signs_of : He.DefD := ⟨("signs_of", none), "signs_of", "signs_of", defArgs s_signs_of, defBody s_signs_of, defScope s_signs_of, [], []⟩
def d_by_signs : He.DefD := ⟨("by_signs", none), "by_signs", "by_signs", defArgs s_by_signs, defBody s_by_signs, defScope s_by_signs, [], []⟩
def d_first_text : He.DefD := ⟨("first_text", none), "first_text", "first_text", defArgs s_first_text, defBody s_first_text, defScope s_first_text, [], []⟩
def d_double_text : He.DefD := ⟨("double_text", none), "double_text", "double_text", defArgs s_double_text, defBody s_double_text, defScope s_double_text, [], []⟩
def d_led_text : He.DefD := ⟨("led_text", none), "led_text", "led_text", defArgs s_led_text, defBody s_led_text, defScope s_led_text, [], []⟩
def d_double_rounds : He.DefD := ⟨("double_rounds", none), "double_rounds", "double_rounds", defArgs s_double_rounds, defBody s_double_rounds, defScope s_double_rounds, [], []⟩
def d_led_rounds : He.DefD := ⟨("led_rounds", none), "led_rounds", "led_rounds", defArgs s_led_rounds, defBody s_led_rounds, defScope s_led_rounds, [], []⟩
def d_raised : He.DefD := ⟨("raised", none), "raised", "raised", defArgs s_raised, defBody s_raised, defScope s_raised, [], []⟩
def d_ranks : He.DefD := ⟨("ranks", none), "ranks", "ranks", defArgs s_ranks, defBody s_ranks, defScope s_ranks, [], []⟩
def d_greatest_rank : He.DefD := ⟨("greatest_rank", none), "greatest_rank", "greatest_rank", defArgs s_greatest_rank, defBody s_greatest_rank, defScope s_greatest_rank, [], []⟩
def d_growth : He.DefD := ⟨("growth", none), "growth", "growth", defArgs s_growth, defBody s_growth, defScope s_growth, [], []⟩
def d_look_at_word : He.DefD := ⟨("look_at_word", none), "look_at_word", "look_at_word", defArgs s_look_at_word, defBody s_look_at_word, defScope s_look_at_word, [], []⟩
def d_alone_at : He.DefD := ⟨("alone_at", none), "alone_at", "alone_at", defArgs s_alone_at, defBody s_alone_at, defScope s_alone_at, [], []⟩
def d_moved : He.DefD := ⟨("moved", none), "moved", "moved", defArgs s_moved, defBody s_moved, defScope s_moved, [], []⟩
def d_moved_by : He.DefD := ⟨("moved_by", none), "moved_by", "moved_by", defArgs s_moved_by, defBody s_moved_by, defScope s_moved_by, [], []⟩
def d_sum_at : He.DefD := ⟨("sum_at", none), "sum_at", "sum_at", defArgs s_sum_at, defBody s_sum_at, defScope s_sum_at, [], []⟩
def d_ways : He.DefD := ⟨("ways", none), "ways", "ways", defArgs s_ways, defBody s_ways, defScope s_ways, [.non, .non], []⟩
def d_beginnings_by : He.DefD := ⟨("beginnings_by", none), "beginnings_by", "beginnings_by", defArgs s_beginnings_by, defBody s_beginnings_by, defScope s_beginnings_by, [], []⟩
def d_ranks_or_doubling : He.DefD := ⟨("ranks_or_doubling", none), "ranks_or_doubling", "ranks_or_doubling", defArgs s_ranks_or_doubling, defBody s_ranks_or_doubling, defScope s_ranks_or_doubling, [], []⟩
def d_greatest : He.DefD := ⟨("greatest", none), "greatest", "greatest", defArgs s_greatest, defBody s_greatest, defScope s_greatest, [], []⟩
def d_tries_all : He.DefD := ⟨("tries_all", none), "tries_all", "tries_all", defArgs s_tries_all, defBody s_tries_all, defScope s_tries_all, [], []⟩
def d_law_hand : He.DefD := ⟨("_law_hand", none), "_law_hand", "_law_hand", defArgs s_law_hand, defBody s_law_hand, defScope s_law_hand, [], []⟩
def d_law_draw : He.DefD := ⟨("_law_draw", none), "_law_draw", "_law_draw", defArgs s_law_draw, defBody s_law_draw, defScope s_law_draw, [], []⟩
def d_law_rooms : He.DefD := ⟨("_law_rooms", none), "_law_rooms", "_law_rooms", defArgs s_law_rooms, defBody s_law_rooms, defScope s_law_rooms, [], []⟩
def d_law_letters : He.DefD := ⟨("_law_letters", none), "_law_letters", "_law_letters", defArgs s_law_letters, defBody s_law_letters, defScope s_law_letters, [], []⟩
def d_law_machine : He.DefD := ⟨("_law_machine", none), "_law_machine", "_law_machine", defArgs s_law_machine, defBody s_law_machine, defScope s_law_machine, [], []⟩
def d_law_word : He.DefD := ⟨("_law_word", none), "_law_word", "_law_word", defArgs s_law_word, defBody s_law_word, defScope s_law_word, [], []⟩
def d_law_beside : He.DefD := ⟨("_law_beside", none), "_law_beside", "_law_beside", defArgs s_law_beside, defBody s_law_beside, defScope s_law_beside, [], []⟩
def d_law_size : He.DefD := ⟨("_law_size", none), "_law_size", "_law_size", defArgs s_law_size, defBody s_law_size, defScope s_law_size, [], []⟩
def d_law_greatest : He.DefD := ⟨("_law_greatest", none), "_law_greatest", "_law_greatest", defArgs s_law_greatest, defBody s_law_greatest, defScope s_law_greatest, [], []⟩
def d_law_structure_right : He.DefD := ⟨("_law_structure_right", none), "_law_structure_right", "_law_structure_right", defArgs s_law_structure_right, defBody s_law_structure_right, defScope s_law_structure_right, [], []⟩
def d_law_growth_right : He.DefD := ⟨("_law_growth_right", none), "_law_growth_right", "_law_growth_right", defArgs s_law_growth_right, defBody s_law_growth_right, defScope s_law_growth_right, [], []⟩
def d_law : He.DefD := ⟨("law", none), "law", "law", defArgs s_law, defBody s_law, defScope s_law, [], []⟩
def d_tmInit : He.DefD := ⟨("TooMany", some "__init__"), "__init__", "TooMany.__init__", defArgs s_tmInit, defBody s_tmInit, defScope s_tmInit, [], []⟩
def fnL_0 : List He.DefD := [d_is_sign, d_is_whole, d_is_within, d_look_at_rooms, d_is_step, d_look_at_steps, d_look_at, d_look_at_room, d_come_to, d_useful, d_trimmed, d_signs_of, d_by_signs, d_first_text, d_double_text, d_led_text, d_double_rounds, d_led_rounds, d_raised, d_ranks]
def fnL_1 : List He.DefD := [d_greatest_rank, d_growth, d_look_at_word, d_alone_at, d_moved, d_moved_by, d_sum_at, d_ways, d_beginnings_by, d_ranks_or_doubling, d_greatest, d_tries_all, d_law_hand, d_law_draw, d_law_rooms, d_law_letters, d_law_machine, d_law_word, d_law_beside, d_law_size]
def fnL_2 : List He.DefD := [d_law_greatest, d_law_structure_right, d_law_growth_right, d_law, d_tmInit]
def fnL : List He.DefD := fnL_0 ++ fnL_1 ++ fnL_2
def faL_0 : List He.Fa := [.glo "is_sign", .glo "is_whole", .glo "is_within", .glo "look_at_rooms", .glo "is_step", .glo "look_at_steps", .glo "look_at", .glo "look_at_room", .glo "come_to", .glo "useful", .glo "trimmed", .glo "signs_of", .glo "by_signs", .glo "first_text", .glo "double_text", .glo "led_text", .glo "double_rounds", .glo "led_rounds", .glo "raised", .glo "ranks"]
def faL_1 : List He.Fa := [.glo "greatest_rank", .glo "growth", .glo "look_at_word", .glo "alone_at", .glo "moved", .glo "moved_by", .glo "sum_at", .glo "ways", .glo "beginnings_by", .glo "ranks_or_doubling", .glo "greatest", .glo "tries_all", .glo "_law_hand", .glo "_law_draw", .glo "_law_rooms", .glo "_law_letters", .glo "_law_machine", .glo "_law_word", .glo "_law_beside", .glo "_law_size"]
def faL_2 : List He.Fa := [.glo "_law_greatest", .glo "_law_structure_right", .glo "_law_growth_right", .glo "law", .free "isinstance", .free "str", .free "len", .free "int", .free "bool", .free "list", .free "tuple", .free "enumerate", .free "range", .free "sorted", .free "set", .free "max", .free "min", .free "sum", .free "zip", .int "MOST_WORD" 400]
def faL_3 : List He.Fa := [.int "MOST_ROOMS" 12, .int "MOST_STEPS" 200, .int "MOST_MET" 2000, .str "LETTERS" "abcdefghijklmnopqrstuvwxyz", .glo "TooMany", .noat "TooMany" "many", .meth "TooMany" "__init__", .exm "TooMany" "TooMany" true, .keep "TooMany", .free "OverflowError"]
def faL : List He.Fa := faL_0 ++ faL_1 ++ faL_2 ++ faL_3
def tfL : List He.Defn := [("double_text", none), ("led_text", none)]
/-- the class's own line -/
def tmB (K : PySem.W.Frag) (C : Addr) : Bool := match K.lookup C with
  | some ⟨.type t, _, .cls cd, sl⟩ => decide (t = "type") && (decide (cd.mro = .ref C :: ofT) && (cd.hasDict && (!cd.hasDel && (match sl.toList with
    | [_, _, _, _, some (.builtin n), _] => decide (n = "OverflowError.__new__")
    | _ => false))))
  | _ => false
theorem tmB_ok {K : PySem.W.Frag} {C : Addr} (h : tmB K C = true) : ∃ nm q N bs sn sub ab col dd k0 k1 k2 k3 k5, K.lookup C = some (excClassObj nm q C N bs ofT true sn sub ab col dd k0 k1 k2 k3 k5 "OverflowError.__new__") := by
  unfold tmB at h
  cases e : K.lookup C with
  | none => rw [e] at h; cases h
  | some ob =>
    rw [e] at h
    obtain ⟨oc, dd, dt, ⟨sl⟩⟩ := ob
    cases oc with
    | type t =>
      cases dt with
      | cls cd =>
        simp only [Bool.and_eq_true, decide_eq_true_eq, Bool.not_eq_true'] at h
        obtain ⟨h1, h2, h3, h4, h5⟩ := h
        obtain ⟨nm, bs, mro, N, q, hd, sn, sub, ab, col, dl⟩ := cd
        simp only at h2 h3 h4
        subst h1 h2 h3 h4
        match sl, h5 with
        | [k0, k1, k2, k3, some (.builtin n), k5], h5 =>
          have h5 := of_decide_eq_true h5
          subst h5
          exact ⟨nm, q, N, bs, sn, sub, ab, col, dd, k0, k1, k2, k3, k5, rfl⟩
      | _ => simp at h
    | _ => simp at h
def vvB (K : PySem.W.Frag) : Bool := match PySem.W.findCls K (.type "OverflowError") (.type "type") "__init__" with
  | some (.val (.builtin n)) => decide (n = "OverflowError.__init__")
  | _ => false
theorem vvB_ok {K : PySem.W.Frag} (h : vvB K = true) : PySem.W.findCls K (.type "OverflowError") (.type "type") "__init__" = some (.val (.builtin "OverflowError.__init__")) := by
  unfold vvB at h
  split at h
  · rename_i n e
    have h := of_decide_eq_true h
    subst h
    exact e
  · cases h
def exL (K : PySem.W.Frag) : Bool := tmB K (He.ga K "TooMany") && (decide (PySem.W.findIn K (.ref (He.ga K "TooMany")) "__setattr__" = some (some (.builtin "object.__setattr__"))) && (decide (PySem.W.subIn K (.ref (He.ga K "TooMany")) (.type "BaseException") = some true) &&
  (decide (PySem.W.typeIn K (.ref (He.ga K "TooMany")) = some (.type "type")) && (decide (PySem.W.typeIn K (.ref (He.ma K (He.ga K "TooMany") "__init__")) = some (.type "function")) && (vvB K && decide ((He.cT K ("double_text", none)).2 ≠ (He.cT K ("led_text", none)).2))))))
section
variable {K : PySem.W.Frag} {mg : Str → Option Value} {h : Heap}
theorem fun_none {x qual : Str} {st : Stmt} {f : Addr} {fd : FuncData} (F : FunD K x qual (defArgs st) (defBody st) (defScope st) [] [] f fd) : Fun K x qual st f fd := by
  obtain ⟨oc, od, dV, kV, doc, pm, an, cdv, ct, osl, e, l, c, hd, _⟩ := F.ex
  rcases hd with ⟨_, e2⟩ | ⟨e2, _⟩
  · subst e2
    exact ⟨⟨oc, od, kV, doc, pm, an, cdv, ct, osl, e, l, c⟩, F.kp⟩
  · exact absurd rfl e2
theorem funC_of {x qual : Str} {st : Stmt} {p : Str × Option Str} {fd : FuncData} (F : FunD K x qual (defArgs st) (defBody st) (defScope st) [] [] (He.fAd K p) fd) : FunC K x qual st (He.cT K p).1 (He.fAd K p) fd := by
  obtain ⟨oc, od, dV, kV, doc, pm, an, cdv, ct, osl, e, l, c, hd, _⟩ := F.ex
  rcases hd with ⟨_, e2⟩ | ⟨e2, _⟩
  · subst e2
    obtain ⟨c', rfl⟩ := He.codeIn_ref c
    have z : (He.cT K p).1 = c' := He.codeOf_eq l (by rw [e])
    rw [z]
    exact ⟨⟨oc, od, kV, doc, pm, an, ct, osl, e, l, c⟩, F.kp⟩
  · exact absurd rfl e2
noncomputable def dfOf {x : Str} {st : Stmt} {ps : List Str} (F : ∃ fd, FunD K x x (defArgs st) (defBody st) (defScope st) [] [] (He.fAd K (x, none)) fd) (g : mg x = some (.ref (He.ga K x)))
    (hb : ∀ (kV doc pm : Value) (an : Option Addr) (cdv ct : Value) (us : List Value), us.length = ps.length → bindArgs (PySem.W.fnOf x x (defArgs st) (defBody st) (defScope st) .none kV doc pm an cdv ct) ⟨us, []⟩ = pure (ps.zip us)) : Df K mg x st ps :=
  ⟨He.ga K x, F.choose, fun_none F.choose_spec, g, F.choose_spec.bindsN hb⟩
noncomputable def dcOf {x : Str} {st : Stmt} {ps : List Str} (F : ∃ fd, FunD K x x (defArgs st) (defBody st) (defScope st) [] [] (He.fAd K (x, none)) fd) (g : mg x = some (.ref (He.ga K x)))
    (hb : ∀ (kV doc pm : Value) (an : Option Addr) (cdv ct : Value) (us : List Value), us.length = ps.length → bindArgs (PySem.W.fnOf x x (defArgs st) (defBody st) (defScope st) .none kV doc pm an cdv ct) ⟨us, []⟩ = pure (ps.zip us)) : DfC K mg x st ps :=
  ⟨He.ga K x, (He.cT K (x, none)).1, (He.cT K (x, none)).2, F.choose, funC_of F.choose_spec, g, F.choose_spec.bindsN hb⟩
theorem ways_b {fd : FuncData} (F : FunD K "ways" "ways" (defArgs s_ways) (defBody s_ways) (defScope s_ways) [.non, .non] [] (He.ga K "ways") fd) : ∃ ds, Vals [.non, .non] ds ∧ Binds K fd P_ways ds :=
  F.binds1 2 0 (by simp) rfl fun T kV doc pm an cdv ct us its hu hi => match us, its, hu, hi with
    | [_, _], [_, _], _, _ => ⟨_, rfl, rfl⟩
noncomputable def waysOf (F : ∃ fd, FunD K "ways" "ways" (defArgs s_ways) (defBody s_ways) (defScope s_ways) [.non, .non] [] (He.ga K "ways") fd) (g : mg "ways" = some (.ref (He.ga K "ways"))) : DfD K mg "ways" s_ways P_ways [.non, .non] :=
  ⟨He.ga K "ways", F.choose, F.choose_spec, g, (ways_b F.choose_spec).choose, (ways_b F.choose_spec).choose_spec.2, (ways_b F.choose_spec).choose_spec.1⟩
noncomputable def tmOf (X : K.In h) (G : h.Ns mainGlobals mg) (c : He.SaysD faL fnL K) (e : exL K = true) : Tm K mg :=
  have z := He.ba e
  have z2 := He.ba z.2
  have z3 := He.ba z2.2
  have z4 := He.ba z3.2
  have z5 := He.ba z4.2
  have z6 := He.ba z5.2
  have m := He.meth_ok (c.fact 66 (f := .meth "TooMany" "__init__") rfl)
  have F : ∃ fd, FunD K "__init__" "TooMany.__init__" (defArgs s_tmInit) (defBody s_tmInit) (defScope s_tmInit) [] [] (He.ma K (He.ga K "TooMany") "__init__") fd := c.def_ 44 (d := d_tmInit) rfl
  { C := He.ga K "TooMany", f := He.ma K (He.ga K "TooMany") "__init__", fd := F.choose
    T := ⟨tmB_ok z.1, of_decide_eq_true z2.1, of_decide_eq_true z3.1, of_decide_eq_true z4.1, He.keep_ok (c.fact 68 (f := .keep "TooMany") rfl), He.noat_ok (c.fact 65 (f := .noat "TooMany" "many") rfl)⟩
    gC := He.glo_ok X G (c.fact 64 (f := .glo "TooMany") rfl)
    iC := He.eqO_ok (He.ba (c.fact 66 (f := .meth "TooMany" "__init__") rfl)).1
    tI := of_decide_eq_true z5.1
    F := fun_none F.choose_spec
    b := F.choose_spec.bindsN fun _ _ _ _ _ _ us hl => match us, hl with | [_, _], _ => rfl
    te := He.exm_ok (c.fact 67 (f := .exm "TooMany" "TooMany" true) rfl)
    mO := He.free_ok X G (c.fact 69 (f := .free "OverflowError") rfl)
    vV := vvB_ok z6.1 }
noncomputable def txtOf (X : K.In h) (G : h.Ns mainGlobals mg) (c : He.SaysD faL fnL K) (e : exL K = true) : Txt K mg :=
  { Ts := [((He.cT K ("double_text", none)).2, nmD), ((He.cT K ("led_text", none)).2, nmL)]
    is_sign := dfOf (c.def_ 0 (d := d_is_sign) rfl) (He.glo_ok X G (c.fact 0 (f := .glo "is_sign") rfl)) (fun _ _ _ _ _ _ us hl => match us, hl with | [_], _ => rfl)
    is_whole := dfOf (c.def_ 1 (d := d_is_whole) rfl) (He.glo_ok X G (c.fact 1 (f := .glo "is_whole") rfl)) (fun _ _ _ _ _ _ us hl => match us, hl with | [_], _ => rfl)
    is_within := dfOf (c.def_ 2 (d := d_is_within) rfl) (He.glo_ok X G (c.fact 2 (f := .glo "is_within") rfl)) (fun _ _ _ _ _ _ us hl => match us, hl with | [_, _, _], _ => rfl)
    look_at_rooms := dfOf (c.def_ 3 (d := d_look_at_rooms) rfl) (He.glo_ok X G (c.fact 3 (f := .glo "look_at_rooms") rfl)) (fun _ _ _ _ _ _ us hl => match us, hl with | [_, _, _], _ => rfl)
    is_step := dfOf (c.def_ 4 (d := d_is_step) rfl) (He.glo_ok X G (c.fact 4 (f := .glo "is_step") rfl)) (fun _ _ _ _ _ _ us hl => match us, hl with | [_, _], _ => rfl)
    look_at_steps := dfOf (c.def_ 5 (d := d_look_at_steps) rfl) (He.glo_ok X G (c.fact 5 (f := .glo "look_at_steps") rfl)) (fun _ _ _ _ _ _ us hl => match us, hl with | [_, _], _ => rfl)
    look_at := dfOf (c.def_ 6 (d := d_look_at) rfl) (He.glo_ok X G (c.fact 6 (f := .glo "look_at") rfl)) (fun _ _ _ _ _ _ us hl => match us, hl with | [_], _ => rfl)
    look_at_room := dfOf (c.def_ 7 (d := d_look_at_room) rfl) (He.glo_ok X G (c.fact 7 (f := .glo "look_at_room") rfl)) (fun _ _ _ _ _ _ us hl => match us, hl with | [_, _], _ => rfl)
    come_to := dfOf (c.def_ 8 (d := d_come_to) rfl) (He.glo_ok X G (c.fact 8 (f := .glo "come_to") rfl)) (fun _ _ _ _ _ _ us hl => match us, hl with | [_, _], _ => rfl)
    useful := dfOf (c.def_ 9 (d := d_useful) rfl) (He.glo_ok X G (c.fact 9 (f := .glo "useful") rfl)) (fun _ _ _ _ _ _ us hl => match us, hl with | [_], _ => rfl)
    trimmed := dfOf (c.def_ 10 (d := d_trimmed) rfl) (He.glo_ok X G (c.fact 10 (f := .glo "trimmed") rfl)) (fun _ _ _ _ _ _ us hl => match us, hl with | [_], _ => rfl)
    signs_of := dfOf (c.def_ 11 (d := d_signs_of) rfl) (He.glo_ok X G (c.fact 11 (f := .glo "signs_of") rfl)) (fun _ _ _ _ _ _ us hl => match us, hl with | [_], _ => rfl)
    by_signs := dfOf (c.def_ 12 (d := d_by_signs) rfl) (He.glo_ok X G (c.fact 12 (f := .glo "by_signs") rfl)) (fun _ _ _ _ _ _ us hl => match us, hl with | [_], _ => rfl)
    first_text := dfOf (c.def_ 13 (d := d_first_text) rfl) (He.glo_ok X G (c.fact 13 (f := .glo "first_text") rfl)) (fun _ _ _ _ _ _ us hl => match us, hl with | [_, _, _, _], _ => rfl)
    double_text := dcOf (c.def_ 14 (d := d_double_text) rfl) (He.glo_ok X G (c.fact 14 (f := .glo "double_text") rfl)) (fun _ _ _ _ _ _ us hl => match us, hl with | [_, _, _], _ => rfl)
    led_text := dcOf (c.def_ 15 (d := d_led_text) rfl) (He.glo_ok X G (c.fact 15 (f := .glo "led_text") rfl)) (fun _ _ _ _ _ _ us hl => match us, hl with | [_, _, _, _], _ => rfl)
    double_rounds := dfOf (c.def_ 16 (d := d_double_rounds) rfl) (He.glo_ok X G (c.fact 16 (f := .glo "double_rounds") rfl)) (fun _ _ _ _ _ _ us hl => match us, hl with | [_], _ => rfl)
    led_rounds := dfOf (c.def_ 17 (d := d_led_rounds) rfl) (He.glo_ok X G (c.fact 17 (f := .glo "led_rounds") rfl)) (fun _ _ _ _ _ _ us hl => match us, hl with | [_], _ => rfl)
    raised := dfOf (c.def_ 18 (d := d_raised) rfl) (He.glo_ok X G (c.fact 18 (f := .glo "raised") rfl)) (fun _ _ _ _ _ _ us hl => match us, hl with | [_, _, _], _ => rfl)
    ranks := dfOf (c.def_ 19 (d := d_ranks) rfl) (He.glo_ok X G (c.fact 19 (f := .glo "ranks") rfl)) (fun _ _ _ _ _ _ us hl => match us, hl with | [_], _ => rfl)
    greatest_rank := dfOf (c.def_ 20 (d := d_greatest_rank) rfl) (He.glo_ok X G (c.fact 20 (f := .glo "greatest_rank") rfl)) (fun _ _ _ _ _ _ us hl => match us, hl with | [_], _ => rfl)
    growth := dfOf (c.def_ 21 (d := d_growth) rfl) (He.glo_ok X G (c.fact 21 (f := .glo "growth") rfl)) (fun _ _ _ _ _ _ us hl => match us, hl with | [_], _ => rfl)
    look_at_word := dfOf (c.def_ 22 (d := d_look_at_word) rfl) (He.glo_ok X G (c.fact 22 (f := .glo "look_at_word") rfl)) (fun _ _ _ _ _ _ us hl => match us, hl with | [_], _ => rfl)
    alone_at := dfOf (c.def_ 23 (d := d_alone_at) rfl) (He.glo_ok X G (c.fact 23 (f := .glo "alone_at") rfl)) (fun _ _ _ _ _ _ us hl => match us, hl with | [_, _], _ => rfl)
    moved := dfOf (c.def_ 24 (d := d_moved) rfl) (He.glo_ok X G (c.fact 24 (f := .glo "moved") rfl)) (fun _ _ _ _ _ _ us hl => match us, hl with | [_, _, _], _ => rfl)
    moved_by := dfOf (c.def_ 25 (d := d_moved_by) rfl) (He.glo_ok X G (c.fact 25 (f := .glo "moved_by") rfl)) (fun _ _ _ _ _ _ us hl => match us, hl with | [_, _, _], _ => rfl)
    sum_at := dfOf (c.def_ 26 (d := d_sum_at) rfl) (He.glo_ok X G (c.fact 26 (f := .glo "sum_at") rfl)) (fun _ _ _ _ _ _ us hl => match us, hl with | [_, _], _ => rfl)
    ways := waysOf (c.def_ 27 (d := d_ways) rfl) (He.glo_ok X G (c.fact 27 (f := .glo "ways") rfl))
    beginnings_by := dfOf (c.def_ 28 (d := d_beginnings_by) rfl) (He.glo_ok X G (c.fact 28 (f := .glo "beginnings_by") rfl)) (fun _ _ _ _ _ _ us hl => match us, hl with | [_, _], _ => rfl)
    ranks_or_doubling := dfOf (c.def_ 29 (d := d_ranks_or_doubling) rfl) (He.glo_ok X G (c.fact 29 (f := .glo "ranks_or_doubling") rfl)) (fun _ _ _ _ _ _ us hl => match us, hl with | [_], _ => rfl)
    greatest := dfOf (c.def_ 30 (d := d_greatest) rfl) (He.glo_ok X G (c.fact 30 (f := .glo "greatest") rfl)) (fun _ _ _ _ _ _ us hl => match us, hl with | [_], _ => rfl)
    tries_all := dfOf (c.def_ 31 (d := d_tries_all) rfl) (He.glo_ok X G (c.fact 31 (f := .glo "tries_all") rfl)) (fun _ _ _ _ _ _ us hl => match us, hl with | [_, _], _ => rfl)
    law_hand := dfOf (c.def_ 32 (d := d_law_hand) rfl) (He.glo_ok X G (c.fact 32 (f := .glo "_law_hand") rfl)) (fun _ _ _ _ _ _ us hl => match us, hl with | [_, _], _ => rfl)
    law_draw := dfOf (c.def_ 33 (d := d_law_draw) rfl) (He.glo_ok X G (c.fact 33 (f := .glo "_law_draw") rfl)) (fun _ _ _ _ _ _ us hl => match us, hl with | [_, _], _ => rfl)
    law_rooms := dfOf (c.def_ 34 (d := d_law_rooms) rfl) (He.glo_ok X G (c.fact 34 (f := .glo "_law_rooms") rfl)) (fun _ _ _ _ _ _ us hl => match us, hl with | [_, _], _ => rfl)
    law_letters := dfOf (c.def_ 35 (d := d_law_letters) rfl) (He.glo_ok X G (c.fact 35 (f := .glo "_law_letters") rfl)) (fun _ _ _ _ _ _ us hl => match us, hl with | [_], _ => rfl)
    law_machine := dfOf (c.def_ 36 (d := d_law_machine) rfl) (He.glo_ok X G (c.fact 36 (f := .glo "_law_machine") rfl)) (fun _ _ _ _ _ _ us hl => match us, hl with | [_, _, _, _], _ => rfl)
    law_word := dfOf (c.def_ 37 (d := d_law_word) rfl) (He.glo_ok X G (c.fact 37 (f := .glo "_law_word") rfl)) (fun _ _ _ _ _ _ us hl => match us, hl with | [_, _, _], _ => rfl)
    law_beside := dfOf (c.def_ 38 (d := d_law_beside) rfl) (He.glo_ok X G (c.fact 38 (f := .glo "_law_beside") rfl)) (fun _ _ _ _ _ _ us hl => match us, hl with | [_, _, _], _ => rfl)
    law_size := dfOf (c.def_ 39 (d := d_law_size) rfl) (He.glo_ok X G (c.fact 39 (f := .glo "_law_size") rfl)) (fun _ _ _ _ _ _ us hl => match us, hl with | [_], _ => rfl)
    law_greatest := dfOf (c.def_ 40 (d := d_law_greatest) rfl) (He.glo_ok X G (c.fact 40 (f := .glo "_law_greatest") rfl)) (fun _ _ _ _ _ _ us hl => match us, hl with | [_], _ => rfl)
    law_structure_right := dfOf (c.def_ 41 (d := d_law_structure_right) rfl) (He.glo_ok X G (c.fact 41 (f := .glo "_law_structure_right") rfl)) (fun _ _ _ _ _ _ us hl => match us, hl with | [_, _, _], _ => rfl)
    law_growth_right := dfOf (c.def_ 42 (d := d_law_growth_right) rfl) (He.glo_ok X G (c.fact 42 (f := .glo "_law_growth_right") rfl)) (fun _ _ _ _ _ _ us hl => match us, hl with | [_, _, _], _ => rfl)
    law := dfOf (c.def_ 43 (d := d_law) rfl) (He.glo_ok X G (c.fact 43 (f := .glo "law") rfl)) (fun _ _ _ _ _ _ us hl => match us, hl with | [_], _ => rfl)
    t_MOST_WORD := (He.int_ok X G (c.fact 59 (f := .int "MOST_WORD" 400) rfl)).choose
    g_MOST_WORD := (He.int_ok X G (c.fact 59 (f := .int "MOST_WORD" 400) rfl)).choose_spec
    t_MOST_ROOMS := (He.int_ok X G (c.fact 60 (f := .int "MOST_ROOMS" 12) rfl)).choose
    g_MOST_ROOMS := (He.int_ok X G (c.fact 60 (f := .int "MOST_ROOMS" 12) rfl)).choose_spec
    t_MOST_STEPS := (He.int_ok X G (c.fact 61 (f := .int "MOST_STEPS" 200) rfl)).choose
    g_MOST_STEPS := (He.int_ok X G (c.fact 61 (f := .int "MOST_STEPS" 200) rfl)).choose_spec
    t_MOST_MET := (He.int_ok X G (c.fact 62 (f := .int "MOST_MET" 2000) rfl)).choose
    g_MOST_MET := (He.int_ok X G (c.fact 62 (f := .int "MOST_MET" 2000) rfl)).choose_spec
    t_LETTERS := (He.str_ok X G (c.fact 63 (f := .str "LETTERS" "abcdefghijklmnopqrstuvwxyz") rfl)).choose
    g_LETTERS := (He.str_ok X G (c.fact 63 (f := .str "LETTERS" "abcdefghijklmnopqrstuvwxyz") rfl)).choose_spec
    n_isinstance := He.free_ok X G (c.fact 44 (f := .free "isinstance") rfl)
    n_str := He.free_ok X G (c.fact 45 (f := .free "str") rfl)
    n_len := He.free_ok X G (c.fact 46 (f := .free "len") rfl)
    n_int := He.free_ok X G (c.fact 47 (f := .free "int") rfl)
    n_bool := He.free_ok X G (c.fact 48 (f := .free "bool") rfl)
    n_list := He.free_ok X G (c.fact 49 (f := .free "list") rfl)
    n_tuple := He.free_ok X G (c.fact 50 (f := .free "tuple") rfl)
    n_enumerate := He.free_ok X G (c.fact 51 (f := .free "enumerate") rfl)
    n_range := He.free_ok X G (c.fact 52 (f := .free "range") rfl)
    n_sorted := He.free_ok X G (c.fact 53 (f := .free "sorted") rfl)
    n_set := He.free_ok X G (c.fact 54 (f := .free "set") rfl)
    n_max := He.free_ok X G (c.fact 55 (f := .free "max") rfl)
    n_min := He.free_ok X G (c.fact 56 (f := .free "min") rfl)
    n_sum := He.free_ok X G (c.fact 57 (f := .free "sum") rfl)
    n_zip := He.free_ok X G (c.fact 58 (f := .free "zip") rfl)
    tm := tmOf X G c e
    ts := rfl
    ne := of_decide_eq_true (He.ba (He.ba (He.ba (He.ba (He.ba (He.ba e).2).2).2).2).2).2 }
end
end Tw
/-! Triesgrow: the run of the top -/
namespace Tw
open PySem PySem.Spec PyProof.Rows L2 Tg NdefX LamX
abbrev R0 : PySem.W.OpenRow := PySem.W.OpenLaw.row PySem.Challenge.rw_triesgrow_k84_whole_side_by_side
abbrev hkX : PySem.W.Hook := He.hookX 4 faL fnL [] tfL exL
def obX (s : PySem.W.SharedT) : He.AlX := He.obsX 4 faL fnL [] tfL exL (HandSHeadRun.getT s)
theorem obX_eq (s : PySem.W.SharedT) : obX s = hkX.obs s.abs := He.obsX_eq (HandSHeadRun.getT_eq s)
def loose0 : List PySem.Str := ["NoMachine", "NoWord", "NoRoom", "TooMany", "Doubling", "Growing", "LETTERS", "MOST_WORD", "is_sign", "MOST_ROOMS", "MOST_STEPS", "is_whole", "is_within", "look_at_rooms", "is_step"]
def loose1 : List PySem.Str := ["look_at_steps", "look_at", "look_at_room", "come_to", "useful", "trimmed", "signs_of", "by_signs", "first_text", "text_between", "double_text", "led_text", "double_rounds", "led_rounds", "raised"]
def loose2 : List PySem.Str := ["ranks", "greatest_rank", "growth", "look_at_word", "alone_at", "moved", "moved_by", "sum_at", "ways", "beginnings_by", "shortest", "text_to", "text_from", "chain_of", "pump_by"]
def loose3 : List PySem.Str := ["pump_of", "MOST_MET", "ranks_or_doubling", "greatest", "tries_all", "_law_hand", "_law_draw", "_law_rooms", "_law_letters", "_law_machine", "_law_word", "_law_beside", "_law_size", "_law_greatest", "_law_structure_right"]
def loose4 : List PySem.Str := ["_law_growth_right"]
def looseX : List PySem.Str := loose0 ++ loose1 ++ loose2 ++ loose3 ++ loose4
theorem runX (w : World) : HandSHeadRun.RunEq R0 (PySem.W.view R0.prog [72]) hkX obX 4000 looseX w := by
  intro os
  kernel_rfl
end Tw
namespace Tw
open PySem PySem.Spec PyProof.Rows L2 Tg NdefX LamX
theorem law_at {w : World} {mg : Str → Option Value} {fa : Addr} {h : Heap} {K : PySem.W.Frag} {n : Nat} (hn : n ≤ sizeLine - 1) (KX : K.In h) (G : h.Ns mainGlobals mg) (c : He.SaysX faL fnL [] tfL exL w h K) (hmg : mg "law" = some (.ref fa)) :
    LawAtS PySem.Challenge.rw_triesgrow_k84_whole_side_by_side w K L2.CX0 14 n "_law_script" mg fa h := by
  obtain ⟨T, hT⟩ : ∃ T, T = txtOf KX G c.t.d c.more := ⟨_, rfl⟩
  have hf : T.law.f = fa := by
    have e := T.law.g.symm.trans hmg
    injection e with e
    injection e
  have hTs : T.Ts = [((He.cT K ("double_text", none)).2, nmD), ((He.cT K ("led_text", none)).2, nmL)] := by rw [hT]; rfl
  have hd : (T.double_text.c, T.double_text.P) = He.cT K ("double_text", none) := by rw [hT]; rfl
  have hl : (T.led_text.c, T.led_text.P) = He.cT K ("led_text", none) := by rw [hT]; rfl
  have hb : ∀ (s : Shared) (u : Value), BindsTo s T.law.fd ⟨[u], []⟩ [("_law_script", u)] := fun s u => by
    rw [hT]
    exact (c.t.d.def_ 43 (d := d_law) rfl).choose_spec.bindsA (ps := ["_law_script"]) (fun _ _ _ _ _ _ us hl => match us, hl with | [_], _ => rfl) s [u] rfl
  have mem : ∀ p ∈ tfL.map (He.cT K), ∃ q ∈ tfL, p = He.cT K q := fun p hp => by
    obtain ⟨q, hq, e⟩ := List.mem_map.mp hp
    exact ⟨q, hq, e.symm⟩
  have hdm : He.cT K ("double_text", none) ∈ tfL.map (He.cT K) := List.mem_map_of_mem (List.mem_cons_self ..)
  have hlm : He.cT K ("led_text", none) ∈ tfL.map (He.cT K) := List.mem_map_of_mem (List.mem_cons_of_mem _ (List.mem_cons_self ..))
  refine ⟨T.law.fd, tfL.map (He.cT K), sp_law K T.Ts, fun p hp => ?_, fun p hp => ?_, fun p hp => ?_, hb, fun H a ns hln _ hH hS => ?_, fun base KB GB TB => ?_⟩
  · obtain ⟨q, hq, rfl⟩ := mem p hp; exact c.empty q hq
  · obtain ⟨q, hq, rfl⟩ := mem p hp; exact c.out q hq
  · obtain ⟨q, hq, rfl⟩ := mem p hp; exact PySem.W.codeHd_of_K KX (c.hd q hq)
  · refine ⟨a, ns, rfl, hS, Nat.le_trans hln hn, fun p hp => ?_, fun _ => rfl⟩
    have key : H p.1 = some (.tbl #[]) := by
      rw [hTs] at hp
      rcases List.mem_cons.mp hp with rfl | hp
      · exact hH _ hdm
      · obtain rfl := List.mem_singleton.mp hp
        exact hH _ hlm
    exact ⟨#[], key, trivial, fun pos cv hc => by cases hc⟩
  · rw [← hf]
    exact ok_law T ⟨by have := TB _ hdm; rw [← hd] at this; exact this, by have := TB _ hlm; rw [← hl] at this; exact this⟩
end Tw
open PySem PySem.W PySem.Calls PyProof.Rows
theorem PySem.Challenge.cw_triesgrow_k84_whole_side_by_side_holds : PySem.Challenge.rw_triesgrow_k84_whole_side_by_side.Holds := by
  w_on; o_law
  refine HandSHeadRun.head_any (r := OpenLaw.row PySem.Challenge.rw_triesgrow_k84_whole_side_by_side) (q := view (OpenLaw.row PySem.Challenge.rw_triesgrow_k84_whole_side_by_side).prog [72]) (H := Tw.hkX) (ob := Tw.obX) (M := 4000) (loose := Tw.looseX) (d := HandSHeadRun.topDef (OpenLaw.row PySem.Challenge.rw_triesgrow_k84_whole_side_by_side).prog 72) (kwd := []) Tw.obX_eq
    (by kernel_rfl) (fun s => by kernel_rfl) Tw.runX (by kernel_rfl) (by kernel_rfl) (by kernel_rfl) (by rfl) (by first | assumption | decide +kernel) (by decide +kernel) ⟨rfl, rfl, rfl, rfl, rfl, by decide +kernel⟩ ?hw ?hc
  case hw => w_witness2
  case hc =>
    refine LamX.walk_ofTsE (l := PySem.Challenge.rw_triesgrow_k84_whole_side_by_side) (n := 63) (k := 14) (x := "_law_script") (CX := fun _ => L2.CX0) rfl (by decide) (by kernel_rfl) ⟨by decide, by decide, by decide⟩ ?F (fun _ _ _ _ _ z => z)
    intro w mg fa h Y G hmg0
    obtain ⟨K, KX, c⟩ := Y
    have hmg : mg ("law" : PySem.Str) = some (.ref fa) := by
      have e : (HandSHeadRun.topDef (OpenLaw.row PySem.Challenge.rw_triesgrow_k84_whole_side_by_side).prog 72).name = ("law" : PySem.Str) := by kernel_rfl
      rw [← e]
      exact hmg0
    exact ⟨K, KX, Tw.law_at (by decide) KX G c hmg⟩
