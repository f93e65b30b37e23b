import PyProof.Rows.All
import Wide.All
import OpenK.AllK
import Wide.FinOn
import HandS.ForMost
import HandS.More
import HandS.IsInst
import HandS.Rev
import HandS.Walk
import HandS.Codes
import PyProof.StrBlock2
import KE.KDictList
import PySem.Challenge.RW_fleetpath_k18_whole_lengths
set_option Elab.async false
/-! ## FlMath -/
set_option linter.all false
set_option maxRecDepth 100000
set_option maxHeartbeats 4000000
/-! The plain law of ways and heights: no program in sight. -/
namespace Fl
section
variable {α : Type} [DecidableEq α]

abbrev Ht (α : Type) := List (α × Int)
abbrev Way (α : Type) := α × α × Int

def look (l : Ht α) (x : α) : Option Int := (l.find? fun p => decide (p.1 = x)).map (·.2)
def put (l : Ht α) (x : α) (h : Int) : Ht α :=
  if (l.any fun p => decide (p.1 = x)) = true then l.map (fun p => if p.1 = x then (p.1, h) else p) else l ++ [(x, h)]

theorem look_nil (x : α) : look ([] : Ht α) x = none := rfl
theorem look_pos {p : α × Int} {r : Ht α} {x : α} (e : p.1 = x) : look (p :: r) x = some p.2 := by simp [look, List.find?_cons, e]
theorem look_neg {p : α × Int} {r : Ht α} {x : α} (e : ¬ p.1 = x) : look (p :: r) x = look r x := by simp [look, List.find?_cons, e]
theorem look_any (x : α) : ∀ l : Ht α, (l.any fun p => decide (p.1 = x)) = (look l x).isSome
  | [] => rfl
  | p :: r => by
    rw [List.any_cons]
    by_cases e : p.1 = x
    · simp [look_pos e, e]
    · simp [look_neg e, e, look_any x r]
theorem look_mem {x : α} {h : Int} : ∀ {l : Ht α}, look l x = some h → (x, h) ∈ l
  | [], e => by cases e
  | p :: r, e => by
    by_cases q : p.1 = x
    · rw [look_pos q] at e
      have e2 : p.2 = h := Option.some.inj e
      have : p = (x, h) := by rw [← q, ← e2]
      rw [this]; exact List.mem_cons_self
    · rw [look_neg q] at e
      exact List.mem_cons_of_mem _ (look_mem e)
theorem mem_look {x : α} {h : Int} : ∀ {l : Ht α}, (l.map (·.1)).Nodup → (x, h) ∈ l → look l x = some h
  | [], _, m => by cases m
  | p :: r, nd, m => by
    have nd' : (p.1 :: r.map (·.1)).Nodup := nd
    obtain ⟨h1, h2⟩ := List.nodup_cons.mp nd'
    rcases List.mem_cons.mp m with e | m
    · subst e; exact look_pos rfl
    · have : ¬ p.1 = x := fun z => h1 (by rw [z]; exact List.mem_map.mpr ⟨_, m, rfl⟩)
      rw [look_neg this]; exact mem_look h2 m
theorem look_none {x : α} : ∀ {l : Ht α}, look l x = none → ¬ x ∈ l.map (·.1)
  | [], _ => by simp
  | p :: r, e => by
    by_cases q : p.1 = x
    · rw [look_pos q] at e; cases e
    · rw [look_neg q] at e
      intro m
      rcases List.mem_cons.mp m with z | z
      · exact q z.symm
      · exact look_none e z
theorem look_map (x j : α) (y : Int) : ∀ l : Ht α, look (l.map fun p => if p.1 = x then (p.1, y) else p) j = (look l j).map fun z => if j = x then y else z
  | [] => rfl
  | p :: r => by
    have ih := look_map x j y r
    rw [List.map_cons]
    by_cases h : p.1 = x
    · rw [if_pos h]
      by_cases e : p.1 = j
      · rw [look_pos (p := (p.1, y)) e, look_pos e, Option.map_some, if_pos (e.symm.trans h)]
      · rw [look_neg (p := (p.1, y)) e, look_neg e, ih]
    · rw [if_neg h]
      by_cases e : p.1 = j
      · rw [look_pos (p := p) e, look_pos e, Option.map_some, if_neg (fun z => h (e.trans z))]
      · rw [look_neg (p := p) e, look_neg e, ih]
theorem look_snoc (x j : α) (y : Int) : ∀ l : Ht α, look l x = none → look (l ++ [(x, y)]) j = if j = x then some y else look l j
  | [], _ => by
    by_cases e : x = j
    · rw [if_pos e.symm]; exact look_pos (p := (x, y)) e
    · rw [if_neg (fun z => e z.symm)]; exact look_neg (p := (x, y)) e
  | p :: r, hn => by
    rw [List.cons_append]
    have hk : ¬ p.1 = x := fun z => by rw [look_pos z] at hn; cases hn
    rw [look_neg hk] at hn
    have ih := look_snoc x j y r hn
    by_cases e : p.1 = j
    · rw [look_pos e, look_pos e, if_neg (fun z => hk (e.trans z))]
    · rw [look_neg e, look_neg e, ih]
theorem put_old {l : Ht α} {x : α} {b : Int} (h : Int) (e : look l x = some b) : put l x h = l.map fun p => if p.1 = x then (p.1, h) else p := by
  unfold put; rw [look_any, e]; simp
theorem put_new {l : Ht α} {x : α} (h : Int) (e : look l x = none) : put l x h = l ++ [(x, h)] := by
  unfold put; rw [look_any, e]; simp
theorem look_put (l : Ht α) (x j : α) (y : Int) : look (put l x y) j = if j = x then some y else look l j := by
  cases e : look l x with
  | none => rw [put_new y e, look_snoc x j y l e]
  | some b =>
    rw [put_old y e, look_map]
    by_cases q : j = x
    · subst q; simp [e]
    · simp [q]

theorem nodup_le : ∀ {l m : List α}, l.Nodup → (∀ x ∈ l, x ∈ m) → l.length ≤ m.length
  | [], _, _, _ => Nat.zero_le _
  | a :: r, m, nd, s => by
    obtain ⟨h1, h2⟩ := List.nodup_cons.mp nd
    have ha : a ∈ m := s a List.mem_cons_self
    have hr : r.length ≤ (m.erase a).length := nodup_le h2 fun x hx => (List.mem_erase_of_ne (fun z => h1 (by rw [← z]; exact hx))).mpr (s x (List.mem_cons_of_mem _ hx))
    have hl : (m.erase a).length = m.length - 1 := List.length_erase_of_mem ha
    have : 0 < m.length := List.length_pos_of_mem ha
    rw [List.length_cons]; omega

/-! ### one way tried, one pass, passes until nothing falls -/
def low (l : Ht α) (w : Way α) : Option Int :=
  match look l w.1 with
  | none => none
  | some a => match look l w.2.1 with
    | none => some (a + w.2.2)
    | some b => if a + w.2.2 < b then some (a + w.2.2) else none
def step (s : Ht α × Bool) (w : Way α) : Ht α × Bool := match low s.1 w with
  | none => s
  | some h => (put s.1 w.2.1 h, true)
def pass (ws : List (Way α)) (l : Ht α) : Ht α × Bool := ws.foldl step (l, false)
def iter (ws : List (Way α)) : Nat → Ht α → Ht α
  | 0, l => l
  | n + 1, l => iter ws n (pass ws l).1
def Sett (ws : List (Way α)) (l r : Ht α) : Prop := ∃ n, iter ws n l = r ∧ pass ws r = (r, false)

theorem iter_add (ws : List (Way α)) : ∀ (n k : Nat) (l : Ht α), iter ws (n + k) l = iter ws k (iter ws n l)
  | 0, k, l => by rw [Nat.zero_add]; rfl
  | n + 1, k, l => by
    rw [Nat.add_right_comm]
    exact iter_add ws n k (pass ws l).1
theorem iter_fix {ws : List (Way α)} {r : Ht α} (e : pass ws r = (r, false)) : ∀ k, iter ws k r = r
  | 0 => rfl
  | k + 1 => by
    show iter ws k (pass ws r).1 = r
    rw [e]; exact iter_fix e k
theorem Sett.unique {ws : List (Way α)} {l r q : Ht α} (a : Sett ws l r) (b : Sett ws l q) : r = q := by
  obtain ⟨n, en, fn⟩ := a
  obtain ⟨k, ek, fk⟩ := b
  rcases Nat.le_total n k with h | h
  · obtain ⟨d, rfl⟩ := Nat.exists_eq_add_of_le h
    rw [iter_add, en, iter_fix fn] at ek
    exact ek
  · obtain ⟨d, rfl⟩ := Nat.exists_eq_add_of_le h
    rw [iter_add, ek, iter_fix fk] at en
    exact en.symm

def LIM : Int := 1000000000
def WaysOk (N : List α) (ws : List (Way α)) : Prop := ∀ w ∈ ws, w.1 ∈ N ∧ w.2.1 ∈ N ∧ 1 ≤ w.2.2 ∧ w.2.2 ≤ LIM

structure Good (N : List α) (ws : List (Way α)) (o : α) (l : Ht α) : Prop where
  nd : (l.map (·.1)).Nodup
  sub : ∀ p ∈ l, p.1 ∈ N
  lo : ∀ p ∈ l, 0 ≤ p.2
  hi : ∀ p ∈ l, p.2 + LIM ≤ (l.length : Int) * LIM
  org : look l o = some 0
  tight : ∀ x h, look l x = some h → x ≠ o → ∃ w ∈ ws, w.2.1 = x ∧ ∃ a, look l w.1 = some a ∧ a + w.2.2 ≤ h

def tot (l : Ht α) : Nat := (l.map fun p => p.2.toNat).sum
def mu (N : List α) (l : Ht α) : Nat := (N.length - l.length) * (N.length * 1000000000 + 1) + tot l

theorem Good.len {N : List α} {ws : List (Way α)} {o : α} {l : Ht α} (g : Good N ws o l) : l.length ≤ N.length := by
  have h := nodup_le g.nd (m := N) fun x hx => by
    obtain ⟨p, hp, e⟩ := List.mem_map.mp hx
    rw [← e]; exact g.sub p hp
  rw [List.length_map] at h
  exact h
theorem tot_snoc (l : Ht α) (x : α) (h : Int) : tot (l ++ [(x, h)]) = tot l + h.toNat := by
  unfold tot
  rw [List.map_append, List.sum_append]
  simp
theorem tot_cons (p : α × Int) (l : Ht α) : tot (p :: l) = p.2.toNat + tot l := by
  unfold tot
  rw [List.map_cons, List.sum_cons]
theorem map_skip {x : α} {y : Int} : ∀ {l : Ht α}, ¬ x ∈ l.map (·.1) → (l.map fun p => if p.1 = x then (p.1, y) else p) = l
  | [], _ => rfl
  | p :: r, h => by
    have h1 : ¬ p.1 = x := fun z => h (by rw [← z]; exact List.mem_cons_self)
    have h2 : ¬ x ∈ r.map (·.1) := fun z => h (List.mem_cons_of_mem _ z)
    rw [List.map_cons, if_neg h1, map_skip h2]
theorem tot_map {x : α} {b h : Int} : ∀ {l : Ht α}, (l.map (·.1)).Nodup → look l x = some b → tot (l.map fun p => if p.1 = x then (p.1, h) else p) + b.toNat = tot l + h.toNat
  | [], _, e => by cases e
  | p :: r, nd, e => by
    have nd' : (p.1 :: r.map (·.1)).Nodup := nd
    obtain ⟨h1, h2⟩ := List.nodup_cons.mp nd'
    rw [List.map_cons, tot_cons, tot_cons]
    by_cases q : p.1 = x
    · rw [look_pos q] at e
      have e2 : p.2 = b := Option.some.inj e
      have hx : ¬ x ∈ r.map (·.1) := by rw [← q]; exact h1
      rw [if_pos q, map_skip hx, e2]
      show h.toNat + tot r + b.toNat = b.toNat + tot r + h.toNat
      omega
    · rw [look_neg q] at e
      rw [if_neg q]
      have ih := tot_map (h := h) h2 e
      omega

theorem low_some {l : Ht α} {w : Way α} {h : Int} (e : low l w = some h) : ∃ a, look l w.1 = some a ∧ h = a + w.2.2 ∧ (look l w.2.1 = none ∨ ∃ b, look l w.2.1 = some b ∧ h < b) := by
  unfold low at e
  cases q : look l w.1 with
  | none => rw [q] at e; cases e
  | some a =>
    rw [q] at e
    refine ⟨a, rfl, ?_⟩
    cases p : look l w.2.1 with
    | none =>
      rw [p] at e
      exact ⟨(Option.some.inj e).symm, .inl rfl⟩
    | some b =>
      rw [p] at e
      dsimp only at e
      by_cases z : a + w.2.2 < b
      · rw [if_pos z] at e
        have e2 := Option.some.inj e
        exact ⟨e2.symm, .inr ⟨b, rfl, by omega⟩⟩
      · rw [if_neg z] at e; cases e
theorem low_none {l : Ht α} {w : Way α} {a : Int} (e : low l w = none) (h : look l w.1 = some a) : ∃ b, look l w.2.1 = some b ∧ b ≤ a + w.2.2 := by
  unfold low at e
  rw [h] at e
  cases p : look l w.2.1 with
  | none => rw [p] at e; cases e
  | some b =>
    rw [p] at e
    dsimp only at e
    by_cases z : a + w.2.2 < b
    · rw [if_pos z] at e; cases e
    · exact ⟨b, rfl, by omega⟩

theorem Good.step {N : List α} {ws : List (Way α)} {o : α} {l : Ht α} {w : Way α} {h : Int} (ok : WaysOk N ws) (g : Good N ws o l) (hw : w ∈ ws) (e : low l w = some h) :
    Good N ws o (put l w.2.1 h) ∧ mu N (put l w.2.1 h) < mu N l := by
  obtain ⟨a, ha, hh, c⟩ := low_some e
  obtain ⟨_, wg, w1, w2⟩ := ok w hw
  have ma := look_mem ha
  have a0 : 0 ≤ a := g.lo _ ma
  have a1 : a + LIM ≤ (l.length : Int) * LIM := g.hi _ ma
  have hM : LIM = 1000000000 := rfl
  have hyo : w.2.1 ≠ o := by
    intro z
    rcases c with c | ⟨b, c, d⟩
    · rw [z, g.org] at c; cases c
    · rw [z, g.org] at c
      have := Option.some.inj c
      omega
  -- a tight way to each place, the new height within
  have ht : ∀ x k, look (put l w.2.1 h) x = some k → x ≠ o → ∃ v ∈ ws, v.2.1 = x ∧ ∃ a, look (put l w.2.1 h) v.1 = some a ∧ a + v.2.2 ≤ k := by
    intro x k hx hxo
    rw [look_put] at hx
    by_cases q : x = w.2.1
    · rw [if_pos q] at hx
      have hk : h = k := Option.some.inj hx
      refine ⟨w, hw, q.symm, ?_⟩
      rw [look_put]
      by_cases r : w.1 = w.2.1
      · exfalso
        rcases c with c | ⟨b, c, d⟩
        · rw [← r, ha] at c; cases c
        · rw [← r, ha] at c
          have := Option.some.inj c
          omega
      · rw [if_neg r]
        exact ⟨a, ha, by omega⟩
    · rw [if_neg q] at hx
      obtain ⟨v, hv, ev, c', hc', le⟩ := g.tight x k hx hxo
      refine ⟨v, hv, ev, ?_⟩
      rw [look_put]
      by_cases r : v.1 = w.2.1
      · rw [if_pos r]
        refine ⟨h, rfl, ?_⟩
        rcases c with c | ⟨b, c, d⟩
        · rw [← r, hc'] at c; cases c
        · rw [← r, hc'] at c
          have := Option.some.inj c
          omega
      · rw [if_neg r]
        exact ⟨c', hc', le⟩
  have horg : look (put l w.2.1 h) o = some 0 := by
    rw [look_put, if_neg (fun z => hyo z.symm)]
    exact g.org
  rcases c with c | ⟨b, c, d⟩
  · -- a new place
    have ep := put_new h c
    have el : (put l w.2.1 h).length = l.length + 1 := by rw [ep, List.length_append]; rfl
    have hn : ¬ w.2.1 ∈ l.map (·.1) := look_none c
    have nd : ((put l w.2.1 h).map (·.1)).Nodup := by
      rw [ep, List.map_append]
      refine List.nodup_append.mpr ⟨g.nd, by simp, ?_⟩
      intro x hx y hy
      simp only [List.map_cons, List.map_nil, List.mem_singleton] at hy
      rw [hy]
      intro z
      rw [z] at hx
      exact hn hx
    have G : Good N ws o (put l w.2.1 h) := by
      refine ⟨nd, ?_, ?_, ?_, horg, ht⟩
      · intro p hp
        rw [ep] at hp
        rcases List.mem_append.mp hp with q | q
        · exact g.sub p q
        · rw [List.mem_singleton.mp q]; exact wg
      · intro p hp
        rw [ep] at hp
        rcases List.mem_append.mp hp with q | q
        · exact g.lo p q
        · rw [List.mem_singleton.mp q]
          show 0 ≤ h
          omega
      · intro p hp
        rw [el]
        have e1 : ((l.length + 1 : Nat) : Int) * LIM = (l.length : Int) * LIM + LIM := by
          rw [Int.natCast_add, Int.add_mul]; simp
        rw [e1]
        rw [ep] at hp
        rcases List.mem_append.mp hp with q | q
        · have := g.hi p q
          omega
        · rw [List.mem_singleton.mp q]
          show h + LIM ≤ _
          omega
    refine ⟨G, ?_⟩
    have hl := G.len
    rw [el] at hl
    unfold mu
    rw [el, ep, tot_snoc]
    have hb : h.toNat < N.length * 1000000000 + 1 := by
      have h1 : h ≤ (l.length : Int) * 1000000000 := by rw [hM] at a1 w2; omega
      have h3 : l.length * 1000000000 ≤ N.length * 1000000000 := Nat.mul_le_mul_right _ (by omega)
      omega
    have e2 : N.length - l.length = (N.length - (l.length + 1)) + 1 := by omega
    rw [e2, Nat.add_mul, Nat.one_mul]
    omega
  · -- a place falls
    have ep := put_old h c
    have el : (put l w.2.1 h).length = l.length := by rw [ep, List.length_map]
    have ek : (put l w.2.1 h).map (·.1) = l.map (·.1) := by
      rw [ep, List.map_map]
      refine List.map_congr_left fun p _ => ?_
      show (if p.1 = w.2.1 then (p.1, h) else p).1 = p.1
      split <;> rfl
    have hmem : ∀ p ∈ put l w.2.1 h, p ∈ l ∨ p = (w.2.1, h) := by
      intro p hp
      rw [ep] at hp
      obtain ⟨q, hq, e⟩ := List.mem_map.mp hp
      by_cases z : q.1 = w.2.1
      · rw [if_pos z] at e
        right; rw [← e, z]
      · rw [if_neg z] at e
        left; rw [← e]; exact hq
    have mb := look_mem c
    have b1 := g.hi _ mb
    have G : Good N ws o (put l w.2.1 h) := by
      refine ⟨by rw [ek]; exact g.nd, ?_, ?_, ?_, horg, ht⟩
      · intro p hp
        rcases hmem p hp with q | q
        · exact g.sub p q
        · rw [q]; exact wg
      · intro p hp
        rcases hmem p hp with q | q
        · exact g.lo p q
        · rw [q]
          show 0 ≤ h
          omega
      · intro p hp
        rw [el]
        rcases hmem p hp with q | q
        · exact g.hi p q
        · rw [q]
          show h + LIM ≤ _
          have b1' : b + LIM ≤ (l.length : Int) * LIM := b1
          omega
    refine ⟨G, ?_⟩
    unfold mu
    rw [el, ep]
    have t := tot_map (h := h) g.nd c
    have b0 : 0 ≤ b := g.lo _ mb
    omega

theorem step_none {s : Ht α × Bool} {w : Way α} (e : low s.1 w = none) : step s w = s := by
  unfold step; rw [e]
theorem step_some {s : Ht α × Bool} {w : Way α} {h : Int} (e : low s.1 w = some h) : step s w = (put s.1 w.2.1 h, true) := by
  unfold step; rw [e]

/-- what holds behind some of the ways of a pass from l -/
structure Part (N : List α) (ws : List (Way α)) (o : α) (l : Ht α) (vs : List (Way α)) (s : Ht α × Bool) : Prop where
  good : Good N ws o s.1
  fell : s.2 = true → mu N s.1 < mu N l
  kept : s.2 = false → s.1 = l ∧ ∀ w ∈ vs, low l w = none
theorem Part.nil {N : List α} {ws : List (Way α)} {o : α} {l : Ht α} (g : Good N ws o l) : Part N ws o l [] (l, false) :=
  ⟨g, (fun z => by cases z), fun _ => ⟨rfl, (fun w m => by cases m)⟩⟩
theorem Part.snoc {N : List α} {ws vs : List (Way α)} {o : α} {l : Ht α} {s : Ht α × Bool} {w : Way α} (ok : WaysOk N ws) (p : Part N ws o l vs s) (hw : w ∈ ws) : Part N ws o l (vs ++ [w]) (Fl.step s w) := by
  cases e : low s.1 w with
  | none =>
    rw [step_none e]
    refine ⟨p.good, p.fell, fun z => ?_⟩
    obtain ⟨h1, h2⟩ := p.kept z
    refine ⟨h1, fun v hv => ?_⟩
    rcases List.mem_append.mp hv with q | q
    · exact h2 v q
    · rw [List.mem_singleton.mp q, ← h1]; exact e
  | some h =>
    rw [step_some e]
    obtain ⟨g, m⟩ := p.good.step ok hw e
    refine ⟨g, fun _ => ?_, fun z => by cases z⟩
    cases b : s.2 with
    | true =>
      have h1 := p.fell b
      show mu N (put s.1 w.2.1 h) < mu N l
      omega
    | false =>
      rw [← (p.kept b).1]
      exact m
theorem Part.fold {N : List α} {ws : List (Way α)} {o : α} {l : Ht α} (ok : WaysOk N ws) : ∀ (us vs : List (Way α)) (s : Ht α × Bool), Part N ws o l vs s → (∀ w ∈ us, w ∈ ws) → Part N ws o l (vs ++ us) (us.foldl Fl.step s)
  | [], vs, s, p, _ => by rw [List.append_nil]; exact p
  | w :: us, vs, s, p, h => by
    have := Part.fold ok us (vs ++ [w]) (Fl.step s w) (p.snoc ok (h w List.mem_cons_self)) fun v hv => h v (List.mem_cons_of_mem _ hv)
    rw [List.append_assoc] at this
    exact this
theorem Part.whole {N : List α} {ws : List (Way α)} {o : α} {l : Ht α} (ok : WaysOk N ws) (g : Good N ws o l) : Part N ws o l ws (pass ws l) := by
  have := Part.fold ok ws [] (l, false) (Part.nil g) fun _ h => h
  rw [List.nil_append] at this
  exact this
theorem Part.take {N : List α} {ws : List (Way α)} {o : α} {l : Ht α} (ok : WaysOk N ws) (g : Good N ws o l) (i : Nat) : Part N ws o l (ws.take i) ((ws.take i).foldl Fl.step (l, false)) := by
  have := Part.fold ok (ws.take i) [] (l, false) (Part.nil g) fun _ h => List.mem_of_mem_take h
  rw [List.nil_append] at this
  exact this
theorem fold_take {ws : List (Way α)} {s : Ht α × Bool} {i : Nat} {w : Way α} (h : ws[i]? = some w) : (ws.take (i + 1)).foldl Fl.step s = Fl.step ((ws.take i).foldl Fl.step s) w := by
  rw [List.take_add_one, h, List.foldl_append]
  rfl

theorem good_start {N : List α} {ws : List (Way α)} {o : α} (ho : o ∈ N) : Good N ws o [(o, 0)] := by
  refine ⟨by simp, ?_, ?_, ?_, look_pos rfl, ?_⟩
  · intro p hp; rw [List.mem_singleton.mp hp]; exact ho
  · intro p hp; rw [List.mem_singleton.mp hp]; exact Int.le_refl 0
  · intro p hp
    rw [List.mem_singleton.mp hp]
    show (0 : Int) + LIM ≤ ((1 : Nat) : Int) * LIM
    simp
  · intro x h e hx
    exfalso
    by_cases q : o = x
    · exact hx q.symm
    · rw [look_neg (p := (o, 0)) q] at e; cases e
theorem sett_of {N : List α} {ws : List (Way α)} {o : α} (ok : WaysOk N ws) : ∀ (n : Nat) (l : Ht α), mu N l ≤ n → Good N ws o l → ∃ r, Sett ws l r ∧ Good N ws o r
  | n, l, hn, g => by
    have p := Part.whole ok g
    cases b : (pass ws l).2 with
    | false =>
      have e := (p.kept b).1
      exact ⟨l, ⟨0, rfl, by rw [← b]; exact Prod.ext e rfl⟩, g⟩
    | true =>
      have f := p.fell b
      cases n with
      | zero => omega
      | succ n =>
        obtain ⟨r, ⟨k, hk, fk⟩, gr⟩ := sett_of ok n (pass ws l).1 (by omega) p.good
        exact ⟨r, ⟨k + 1, hk, fk⟩, gr⟩

/-- the heights of o by the ways -/
noncomputable def hts (ws : List (Way α)) (o : α) : Ht α := open Classical in if h : ∃ r, Sett ws [(o, 0)] r then Classical.choose h else [(o, 0)]
theorem hts_eq {ws : List (Way α)} {o : α} {r : Ht α} (h : Sett ws [(o, 0)] r) : hts ws o = r := by
  have h' : ∃ r, Sett ws [(o, 0)] r := ⟨r, h⟩
  unfold hts
  rw [dif_pos h']
  exact (Classical.choose_spec h').unique h
structure Done (N : List α) (ws : List (Way α)) (o : α) (l : Ht α) : Prop where
  good : Good N ws o l
  fix : ∀ w ∈ ws, low l w = none
  sett : Sett ws [(o, 0)] l
theorem hts_fin {N : List α} {ws : List (Way α)} {o : α} (ok : WaysOk N ws) (ho : o ∈ N) : Done N ws o (hts ws o) := by
  obtain ⟨r, s, g⟩ := sett_of ok (mu N [(o, 0)]) [(o, 0)] (Nat.le_refl _) (good_start (ws := ws) ho)
  rw [hts_eq s]
  obtain ⟨n, en, f⟩ := id s
  have p := Part.whole ok g
  exact ⟨g, (p.kept (by rw [f])).2, s⟩

/-! ### without a way no length is less -/
def Dom (r l : Ht α) : Prop := ∀ g h, look l g = some h → ∃ h', look r g = some h' ∧ h' ≤ h
theorem Dom.step {r : Ht α} {s : Ht α × Bool} {w : Way α} (d : Dom r s.1) (f : low r w = none) : Dom r (Fl.step s w).1 := by
  cases e : low s.1 w with
  | none => rw [step_none e]; exact d
  | some h =>
    rw [step_some e]
    intro g k hk
    have hk' : look (put s.1 w.2.1 h) g = some k := hk
    rw [look_put] at hk'
    by_cases q : g = w.2.1
    · rw [if_pos q] at hk'
      have e1 : h = k := Option.some.inj hk'
      obtain ⟨a, ha, hh, _⟩ := low_some e
      obtain ⟨a', ha', la⟩ := d _ _ ha
      obtain ⟨b, hb, lb⟩ := low_none f ha'
      exact ⟨b, by rw [q]; exact hb, by omega⟩
    · rw [if_neg q] at hk'
      exact d g k hk'
theorem Dom.fold {r : Ht α} : ∀ (vs : List (Way α)) (s : Ht α × Bool), Dom r s.1 → (∀ w ∈ vs, low r w = none) → Dom r (vs.foldl Fl.step s).1
  | [], _, d, _ => d
  | w :: vs, s, d, f => Dom.fold vs (Fl.step s w) (d.step (f w List.mem_cons_self)) fun v hv => f v (List.mem_cons_of_mem _ hv)
theorem Dom.iter {r : Ht α} {vs : List (Way α)} (f : ∀ w ∈ vs, low r w = none) : ∀ (n : Nat) (l : Ht α), Dom r l → Dom r (iter vs n l)
  | 0, _, d => d
  | n + 1, l, d => Dom.iter f n _ (Dom.fold vs (l, false) d f)
theorem no_less {N : List α} {ws vs : List (Way α)} {o : α} (ok : WaysOk N ws) (sub : ∀ w ∈ vs, w ∈ ws) (ho : o ∈ N) : Dom (hts ws o) (hts vs o) := by
  have F := hts_fin ok ho
  have ok' : WaysOk N vs := fun w hw => ok w (sub w hw)
  have F' := hts_fin ok' ho
  obtain ⟨n, en, _⟩ := F'.sett
  rw [← en]
  refine Dom.iter (fun w hw => F.fix w (sub w hw)) n _ fun g h e => ?_
  by_cases q : o = g
  · subst q
    rw [look_pos (p := (o, 0)) rfl] at e
    have : (0 : Int) = h := Option.some.inj e
    exact ⟨0, F.good.org, by omega⟩
  · rw [look_neg (p := (o, 0)) q] at e; cases e

/-! ### a way back: the place ahead, how many are lower -/
def Tight (l : Ht α) (x : α) (w : Way α) : Prop := w.2.1 = x ∧ ∃ a h, look l w.1 = some a ∧ look l x = some h ∧ a + w.2.2 = h
theorem Done.tight {N : List α} {ws : List (Way α)} {o : α} {l : Ht α} (F : Done N ws o l) {x : α} {h : Int} (e : look l x = some h) (hx : x ≠ o) : ∃ w ∈ ws, Tight l x w := by
  obtain ⟨w, hw, ew, a, ha, le⟩ := F.good.tight x h e hx
  obtain ⟨b, hb, lb⟩ := low_none (F.fix w hw) ha
  rw [ew, e] at hb
  have := Option.some.inj hb
  exact ⟨w, hw, ew, a, h, ha, e, by omega⟩
def rk (l : Ht α) (h : Int) : Nat := (l.filter fun p => decide (p.2 < h)).length
theorem rk_le (l : Ht α) (h : Int) : rk l h ≤ l.length := List.length_filter_le _ _
theorem rk_mono {a h : Int} (le : a ≤ h) : ∀ l : Ht α, rk l a ≤ rk l h
  | [] => Nat.le_refl _
  | p :: r => by
    have ih := rk_mono le r
    unfold rk at *
    rw [List.filter_cons, List.filter_cons]
    by_cases q : p.2 < a
    · rw [if_pos (by simp [q]), if_pos (by simp; omega), List.length_cons, List.length_cons]; omega
    · rw [if_neg (by simp [q])]
      by_cases z : p.2 < h
      · rw [if_pos (by simp [z]), List.length_cons]; omega
      · rw [if_neg (by simp [z])]; exact ih
theorem rk_lt {a h : Int} (lt : a < h) : ∀ {l : Ht α} {q : α}, (q, a) ∈ l → rk l a < rk l h
  | [], _, m => by cases m
  | p :: r, q, m => by
    unfold rk
    rw [List.filter_cons, List.filter_cons]
    rcases List.mem_cons.mp m with e | m
    · have mo : rk r a ≤ rk r h := rk_mono (Int.le_of_lt lt) r
      unfold rk at mo
      subst e
      rw [if_neg (by simp), if_pos (by simp [lt]), List.length_cons]
      omega
    · have ih := rk_lt lt (l := r) m
      unfold rk at ih
      by_cases q : p.2 < a
      · rw [if_pos (by simp [q]), if_pos (by simp; omega), List.length_cons, List.length_cons]; omega
      · rw [if_neg (by simp [q])]
        by_cases z : p.2 < h
        · rw [if_pos (by simp [z]), List.length_cons]; omega
        · rw [if_neg (by simp [z])]; exact ih
end
end Fl

/-! ## FlRules -/
set_option Elab.async false
set_option linter.all false
set_option maxRecDepth 100000
set_option maxHeartbeats 4000000
/-! Two rules of one's own: a text times a number, list(reversed(a list)). -/
namespace Fl
open PySem PySem.Spec PyProof.Rows L2
section
variable {X : Cx}
/-- a text times 0 or 1 -/
theorem op_mul_txt : OpR X (binaryOp .Mult) (fun x y H Q => ∃ (z : Str) (k : Int), x = .str z ∧ y = .int k ∧ (k = 0 ∨ k = 1) ∧ Q (.str (if k = 1 then z else Str.empty)) H) := by
  intro pins s σ H x y v u Q I rx ry h
  obtain ⟨z, k, rfl, rfl, hk, q⟩ := h
  obtain ⟨t, rfl⟩ := rx
  obtain ⟨t', rfl⟩ := ry
  have ok : MulOk z k := by
    refine ⟨?_, ?_, ?_⟩
    · rcases hk with rfl | rfl <;> decide
    · intro h1 h2
      exfalso
      rcases hk with rfl | rfl
      · exact h1 (by decide)
      · simp at h2
    · intro h1 h2
      exfalso
      rcases hk with rfl | rfl
      · exact h1 (by decide)
      · simp at h2
  have e : Txt.mul z k = if k = 1 then z else Str.empty := by
    unfold Txt.mul
    rcases hk with rfl | rfl
    · rw [if_pos (by decide), if_neg (by decide)]
    · rw [if_neg (by decide), if_pos (by simp), if_pos rfl]
  rw [← e] at q
  exact SB.mul ok fun t2 tk => ⟨.str _, H, I.tok tk, ⟨t2, rfl⟩, q⟩
end

section
variable {prog : Program} {w : World} {A : Around} {E : Value → Shared → Prop} {s : Shared}
theorem rev_hint {it : Addr} {P : Bool → Shared → Prop} (ty : s.TypeIs (.ref it) "list_reverseiterator") (k : P false s) : wpAny (model prog w) A (Builtin.List.listLengthHint (.ref it)) P E s := by
  unfold Builtin.List.listLengthHint
  refine wpAny_bind (wpAny_specialOf ty RT.nolen_lri ?_)
  show wpAny _ A (specialOf (Value.ref it) (Str.ofString "__length_hint__") >>= _) _ _ s
  refine wpAny_bind (wpAny_specialOf ty RT.hint_lri ?_)
  generalize hid : ("list_reverseiterator.__length_hint__" : String) = id1
  wp_delta
  rw [show splitId id1 = some ("list_reverseiterator", "__length_hint__") from by subst hid; decide +kernel]
  subst hid
  refine wpAny_bind (wpAny_isInstance (b := true) ty (by rw [isSubtype_type]; kernel_rfl) ?_)

  exact wpAny_pure k
/-- the new list at S is lengthened by a reversed(list)'s iterator -/
theorem rev_extend {R : Result → Shared → Prop} {it l S : Addr} {xs : Array Value} (calm : A.handled = none) (hit : s.heap.IsRevIter it l ((xs.size : Int) - 1)) (hl : s.heap.IsList l xs) (apart : l ≠ it) (S1 : S ≠ it) (S2 : S ≠ l)
    (hn : xs.size ≤ sizeLine) (res : Value) (c0 : Nat) (hS : s.heap.get? S = some { cls := .type "list", data := .seq #[] c0 })
    (hR : ∀ h' tk acc c, (∀ b o, b ≠ S → b ≠ it → s.heap.get? b = some o → h'.get? b = some o) → h'.get? S = some { cls := .type "list", dict := none, data := .seq acc c, slots := #[] } →
      ItemsOf (fun i v => xs[xs.size - 1 - i]? = some v) acc xs.size → R (.ok (.ret res)) { s with heap := h', toks := tk }) :
    wpAny (model prog w) A.in1 (Builtin.List.listExtendWith (.ref S) (.ref it) res)
      (fun f s' => match f with | .done f => R (.ok f) s' | .again c => c.quiet = true ∧ codeAny (model prog w) A c R s') (fun e s' => R (.error e) s') s := by
  have walks := (Walks.listRev (prog := prog) (w := w) (A := A.in1) calm it l apart xs).toS
  have ty : s.TypeIs (.ref it) "list_reverseiterator" := hit.typeIs
  have out : S ∉ [it, l] := by simp only [List.mem_cons, List.not_mem_nil, or_false, not_or]; exact ⟨S1, S2⟩
  have diff : Builtin.List.listSameRef (.ref S) (.ref it) = false := by simp [Builtin.List.listSameRef, S1]
  unfold Builtin.List.listExtendWith
  refine wpAny_bind (wpAny_typeOf ty ?_)
  rw [if_neg (by rw [diff]; decide)]
  refine wpAny_bind (wpAny_pyIter_revIter hit ?_)
  refine wpAny_bind (wpAny_holding (rev_hint ty ?_))
  rw [if_neg (by decide)]
  have e0 : (xs.size : Int) - 1 - ((0 : Nat) : Int) = (xs.size : Int) - 1 := by omega
  refine wpAny_pure ⟨plainId_quiet F.plain_extend_loop _, codeAny_extend_loopS walks hn S out res xs.size 0 _ #[] c0 rfl (Nat.zero_le _) ⟨Nat.zero_le _, by rw [e0]; exact hit, hl⟩ hS (ItemsOf.nil _) fun s2 acc c mv hS2 ha => ?_⟩
  rw [Moved.eq_with mv]
  refine hR s2.heap s2.toks acc c (fun b o b1 b2 e => mv.heap b o (fun m => ?_) e) hS2 ha
  rcases List.mem_cons.mp m with z | m
  · exact b1 z
  · exact b2 (List.mem_singleton.mp m)
/-- list(it), it a reversed(list)'s iterator at its start -/
theorem call_list_rev {it l : Addr} {xs : Array Value} {Q : Value → Shared → Prop} (calm : A.handled = none) (hit : s.heap.IsRevIter it l ((xs.size : Int) - 1)) (hl : s.heap.IsList l xs) (apart : l ≠ it) (hn : xs.size ≤ sizeLine)
    (hQ : ∀ h' tk acc c, (∀ b o, b ≠ it → s.heap.get? b = some o → h'.get? b = some o) → h'.get? s.heap.objs.size = some { cls := .type "list", dict := none, data := .seq acc c, slots := #[] } →
      ItemsOf (fun i v => xs[xs.size - 1 - i]? = some v) acc xs.size → Q (.ref s.heap.objs.size) { s with heap := h', toks := tk }) :
    wpAny (model prog w) A (call (.type "list") [.ref it]) Q E s := by
  obtain ⟨oi, hoi, _⟩ := id hit
  obtain ⟨ol, hol, _⟩ := id hl
  refine callType_codes (Q₁ := fun obj s1 => obj = .ref s.heap.objs.size ∧ s1 = { s with heap := s.heap.push { cls := .type "list", data := .seq #[] } }) PySem.F.called_list (PySem.F.typeCall_list_1 _) PySem.F.entry_list_init
    (code_list_new _ ⟨rfl, rfl⟩) fun obj s1 q1 => ?_
  obtain ⟨rfl, rfl⟩ := q1
  have n1 : s.heap.objs.size ≠ it := Nat.ne_of_gt (Heap.lt_size hoi)
  have n2 : s.heap.objs.size ≠ l := Nat.ne_of_gt (Heap.lt_size hol)
  have hS : (s.heap.push { cls := .type "list", data := .seq #[] }).get? s.heap.objs.size = some { cls := .type "list", data := .seq #[] } := Heap.get?_push_size _ rfl
  have up : ∀ b o, s.heap.get? b = some o → (s.heap.push { cls := .type "list", data := .seq #[] }).get? b = some o := fun b o e => Heap.get?_push_of_some _ e
  refine ⟨⟨_, hS, rfl⟩, PySem.F.args_list_init_2 _ _, ?_⟩
  show wpAny _ _ (do let old ← Builtin.List.listItems (.ref s.heap.objs.size); Builtin.List.listUpdate (.ref s.heap.objs.size) (fun _ => #[]); letGo old.toList.reverse; Builtin.List.listExtendWith (.ref s.heap.objs.size) (.ref it) .none) _ _ _
  refine wpAny_bind ?_
  unfold Builtin.List.listItems
  refine wpAny_bind (wpAny_seqItems hS rfl (wpAny_pure ?_))
  show wpAny _ _ (updateSeq s.heap.objs.size (fun _ => #[]) >>= fun _ => letGo (#[] : Array Value).toList.reverse >>= fun _ => Builtin.List.listExtendWith (.ref s.heap.objs.size) (.ref it) .none) _ _ _
  refine wpAny_bind (wpAny_updateSeq hS rfl ?_)
  have hS2 := Heap.get?_update_self (Obj.mapSeq (fun _ => (#[] : Array Value))) hS rfl
  have up2 : ∀ b o, s.heap.get? b = some o → ((s.heap.push { cls := .type "list", data := .seq #[] }).update s.heap.objs.size (Obj.mapSeq (fun _ => (#[] : Array Value)))).get? b = some o :=
    fun b o e => (Heap.get?_update_other _ _ (Nat.ne_of_gt (Heap.lt_size e))).trans (up b o e)
  refine wpAny_bind (wpAny_letGo ?_)
  have hit2 : ((s.heap.push { cls := .type "list", data := .seq #[] }).update s.heap.objs.size (Obj.mapSeq (fun _ => (#[] : Array Value)))).IsRevIter it l ((xs.size : Int) - 1) := hit.at fun o e => up2 it o e
  have hl2 : ((s.heap.push { cls := .type "list", data := .seq #[] }).update s.heap.objs.size (Obj.mapSeq (fun _ => (#[] : Array Value)))).IsList l xs := by
    obtain ⟨o, e, r⟩ := hl
    exact ⟨o, up2 l o e, r⟩
  refine rev_extend (s := { s with heap := (s.heap.push { cls := .type "list", data := .seq #[] }).update s.heap.objs.size (Obj.mapSeq (fun _ => (#[] : Array Value))) }) (A := A.in1) calm hit2 hl2 apart n1 n2 hn .none _ hS2 fun h' tk acc c k e ha => ?_
  exact ⟨rfl, hQ h' tk acc c (fun b o b1 q => k b o (Nat.ne_of_lt (Heap.lt_size q)) b1 (up2 b o q)) e ha⟩
end

theorem of_pushed {h : Heap} {o q : Obj} {b : Addr} (n : b ≠ h.objs.size) (e : (h.push o).get? b = some q) : h.get? b = some q := by
  obtain ⟨e1, e2⟩ := Heap.get?_some_iff.mp e
  have lt := Heap.lt_size e
  rw [Heap.size_push] at lt
  refine Heap.get?_some_iff.mpr ⟨?_, e2⟩
  have lt2 : b < h.objs.size := Nat.lt_of_le_of_ne (Nat.le_of_lt_succ lt) n
  cases h
  simpa [Heap.push, Array.getElem?_push, n] using e1
section
variable {X : Cx}
/-- list(reversed(x)), x a list: a new list -/
def tListRev (K : PySem.W.Frag) (te : TE) : TE := fun σ H Q => te σ H fun v H1 => ∃ (a : Addr) (xs : List V), v = .ref a ∧ SqL K H1 a xs ∧ ∀ q, H1 q = none → Q (.ref q) (upd H1 q (.lst xs.reverse))
theorem pe_listRev {e : Expr} {te : TE} {p p2 pos pos2 : Pos} (hc : X.calm = true) (hg : Gl X "list") (hm : X.mg "list" = none) (hg2 : Gl X "reversed") (hm2 : X.mg "reversed" = none) (he : PE X e te)
    (st : starEach [e] X.env = (false, eval e X.env) :: starEach [] X.env := by rfl)
    (st2 : starEach [.Call (.Name "reversed" p2) [e] [] pos2] X.env = (false, eval (.Call (.Name "reversed" p2) [e] [] pos2) X.env) :: starEach [] X.env := by rfl) :
    PE X (.Call (.Name "list" p) [.Call (.Name "reversed" p2) [e] [] pos2] [] pos) (tListRev X.K te) := by
  refine ⟨fun pins s σ H Q I h => ?_⟩
  refine Call_ (ld_blt I hg hm boot_list (PyProof.Rows.callWith_type1 (args_cons (Call_ (ld_blt I hg2 hm2 PyProof.Rows.boot_reversed (PyProof.Rows.callWith_type1 (args_cons (thn (he.run pins s σ H _ I h) fun u s1 q0 => args_nil ?_) st) st rfl))) st2) st2 rfl))
  obtain ⟨v, H1, I1, r1, a, xs, ev, hq, q⟩ := q0
  subst ev
  obtain rfl : u = Value.ref a := r1
  obtain ⟨its, rv, p', hz⟩ := I1.list hq
  refine call_reversed_list p'.isList (args_nil ?_)
  have up : ∀ b o, s1.heap.get? b = some o → (s1.heap.push (revObj a ((its.toArray.size : Int) - 1))).get? b = some o := fun b o e => Heap.get?_push_of_some _ e
  have I2 : Inv X pins σ H1 { s1 with heap := s1.heap.push (revObj a ((its.toArray.size : Int) - 1)) } := I1.kept (t' := s1.toks) up
  obtain ⟨f0, f1, f2, f3, f4, f5⟩ := I1.fpOk (H' := H1) (b := s1.heap.objs.size) (Nat.le_refl _) (I1.hok.fresh (Nat.le_refl _))
  have hl := p'.isList
  obtain ⟨ol, hol, _⟩ := id hl
  have apart : a ≠ s1.heap.objs.size := Nat.ne_of_lt (Heap.lt_size hol)
  have room : its.toArray.size ≤ sizeLine := by rw [List.size_toArray, ← rv.length]; exact hz
  refine call_list_rev (s := { s1 with heap := s1.heap.push (revObj a ((its.toArray.size : Int) - 1)) }) (I1.ok.hd hc) ⟨_, Heap.get?_push_size _ rfl, rfl, rfl⟩ (hl.push _) apart room fun h' tk acc c k hL ha => ?_
  generalize hg0 : s1.heap.push (revObj a ((its.toArray.size : Int) - 1)) = g0 at I2 k hL
  have nsz : s1.heap.objs.size ≠ g0.objs.size := by rw [← hg0, Heap.size_push]; exact (Nat.succ_ne_self _).symm
  have r2 : Vals xs.reverse acc.toList := RT.vals_rev rv ha
  -- the new list as it will stand, laid ahead; then the iterator has turned
  have I3 : Inv X pins σ (upd H1 g0.objs.size (.lst xs.reverse)) { s1 with heap := g0.push { cls := .type "list", dict := none, data := .seq acc c, slots := #[] } } := by
    refine I2.laid (t' := s1.toks) (fun b o e => Heap.get?_push_of_some _ e) (Nat.le_refl _) ⟨by rw [List.length_reverse]; exact hz, acc.toList, c, r2, ?_⟩
    rw [Array.toArray_toList]
    exact Heap.get?_push_size _ rfl
  have fr : H1 g0.objs.size = none := I2.hok.fresh (Nat.le_refl _)
  have I4 : Inv X pins σ (upd H1 g0.objs.size (.lst xs.reverse)) { s1 with heap := h', toks := tk } := by
    refine Inv.turned (s := { s1 with heap := g0.push { cls := .type "list", dict := none, data := .seq acc c, slots := #[] } }) (t' := tk) (it := s1.heap.objs.size) I3 (fun b o hb e => ?_) (by rw [upd_ne nsz]; exact f0) f1 f3 f4 f5
    by_cases q : b = g0.objs.size
    · have e1 : (g0.push { cls := .type "list", dict := none, data := .seq acc c, slots := #[] }).get? b = some o := e
      rw [q, Heap.get?_push_size g0 rfl] at e1
      rw [← Option.some.inj e1, q]
      exact hL
    · exact k b o hb (of_pushed q e)
  exact ⟨.ref g0.objs.size, _, I4, rfl, q _ fr⟩
end
end Fl

/-! ## FlBase -/
set_option Elab.async false
set_option linter.all false
set_option maxRecDepth 100000
set_option maxHeartbeats 4000000
/-! The text by places, what stands in the heap, small words. -/
namespace Fl
open PySem PySem.Spec PyProof.Rows L2
def top (i : Nat) : Stmt := PySem.Challenge.pw_fleetpath_k18_whole_lengths.main.body.getD i (.Pass ⟨0, 0, 0, 0⟩)
abbrev sChName : Stmt := top 11
abbrev sChNum : Stmt := top 12
abbrev sChRoads : Stmt := top 16
abbrev sHeights : Stmt := top 17
abbrev sAhead : Stmt := top 18
abbrev sInit : Stmt := inClass (top 19) 0
abbrev sNames : Stmt := inClass (top 19) 1
abbrev sHts : Stmt := inClass (top 19) 2
abbrev sLength : Stmt := inClass (top 19) 3
abbrev sWay : Stmt := inClass (top 19) 4
abbrev sLCell : Stmt := top 21
abbrev sLMix : Stmt := top 22
abbrev sLWhole : Stmt := top 23
abbrev sLNames : Stmt := top 24
abbrev sLLength : Stmt := top 25
abbrev sLWays : Stmt := top 26
abbrev sLOffice : Stmt := top 27
abbrev sLHeights : Stmt := top 28
abbrev sLAlike : Stmt := top 29
abbrev sLLenDue : Stmt := top 30
abbrev sLAsked : Stmt := top 31
abbrev sLNoLess : Stmt := top 32
abbrev sLaw : Stmt := top 33

/-! ### names, ways -/
def SG : Str := "abcdefghijklmnopqrstuvwxyz0123456789"
structure NmOk (n : Str) : Prop where
  lo : 1 ≤ n.length
  hi : n.length ≤ 12
  sg : ∀ c ∈ n.cps.toList, c ∈ SG.cps.toList
structure NamesOk (ns : List Str) : Prop where
  nd : ns.Nodup
  ok : ∀ n ∈ ns, NmOk n
  lo : 1 ≤ ns.length
  hi : ns.length ≤ 12
abbrev TW := List (Addr × Way Str)
def tupOf (w : Way Str) : HO := .tup [.str w.1, .str w.2.1, .int w.2.2]
def sl (ns : List Str) : List V := ns.map V.str
def wl (tw : TW) : List V := tw.map fun p => V.ref p.1
def wy (tw : TW) : List (Way Str) := tw.map (·.2)
def Tups (H : Hp) (tw : TW) : Prop := ∀ p ∈ tw, H p.1 = some (tupOf p.2)
theorem Tups.same {H H' : Hp} {tw : TW} (s : Same H H') (t : Tups H tw) : Tups H' tw := fun p hp => s _ _ (t p hp)
theorem sl_len (ns : List Str) : (sl ns).length = ns.length := List.length_map _
theorem wl_len (tw : TW) : (wl tw).length = tw.length := List.length_map _
theorem wy_len (tw : TW) : (wy tw).length = tw.length := List.length_map _
theorem sl_get {ns : List Str} {i : Nat} {x : V} (h : (sl ns)[i]? = some x) : ∃ n, ns[i]? = some n ∧ x = .str n := by
  unfold sl at h
  rw [List.getElem?_map] at h
  cases e : ns[i]? with
  | none => rw [e] at h; cases h
  | some n => rw [e] at h; exact ⟨n, rfl, (Option.some.inj h).symm⟩
theorem wl_get {tw : TW} {i : Nat} {x : V} (h : (wl tw)[i]? = some x) : ∃ p, tw[i]? = some p ∧ x = .ref p.1 ∧ (wy tw)[i]? = some p.2 ∧ p ∈ tw := by
  unfold wl at h
  rw [List.getElem?_map] at h
  cases e : tw[i]? with
  | none => rw [e] at h; cases h
  | some p =>
    rw [e] at h
    refine ⟨p, rfl, (Option.some.inj h).symm, ?_, List.mem_of_getElem? e⟩
    unfold wy
    rw [List.getElem?_map, e]
    rfl

/-! ### heights as a dict's pairs -/
def hv (l : Ht Str) : List (Key × V) := l.map fun p => (Sum.inr p.1, V.int p.2)
theorem hv_len (l : Ht Str) : (hv l).length = l.length := List.length_map _
theorem inr_eq {a b : Str} : ((Sum.inr a : Key) = Sum.inr b) ↔ a = b := ⟨Sum.inr.inj, fun h => by rw [h]⟩
theorem hv_val (x : Str) : ∀ l : Ht Str, valV (hv l) (Sum.inr x) = (look l x).map V.int
  | [] => rfl
  | p :: r => by
    show valV ((Sum.inr p.1, V.int p.2) :: hv r) (Sum.inr x) = _
    by_cases e : p.1 = x
    · rw [valV_pos (p := ((Sum.inr p.1 : Key), V.int p.2)) (inr_eq.mpr e), look_pos e]
      rfl
    · rw [valV_neg (p := ((Sum.inr p.1 : Key), V.int p.2)) (fun z => e (inr_eq.mp z)), look_neg e]
      exact hv_val x r
theorem hv_put (l : Ht Str) (x : Str) (h : Int) : putK (hv l) (Sum.inr x) (V.int h) = hv (put l x h) := by
  cases e : look l x with
  | none =>
    rw [putK_new _ (by rw [hv_val, e]; rfl), put_new h e]
    unfold hv
    rw [List.map_append]
    rfl
  | some b =>
    rw [put_old h e]
    unfold putK
    rw [valV_any, hv_val, e]
    show (if true = true then _ else _) = _
    rw [if_pos rfl]
    unfold hv
    rw [List.map_map, List.map_map]
    refine List.map_congr_left fun p _ => ?_
    show (if (Sum.inr p.1 : Key) = Sum.inr x then ((Sum.inr p.1 : Key), V.int h) else (Sum.inr p.1, V.int p.2)) = ((Sum.inr (if p.1 = x then (p.1, h) else p).1 : Key), V.int (if p.1 = x then (p.1, h) else p).2)
    by_cases q : p.1 = x
    · rw [if_pos (inr_eq.mpr q), if_pos q]
    · rw [if_neg (fun z => q (inr_eq.mp z)), if_neg q]
theorem hv_keys (l : Ht Str) (h : (l.map (·.1)).Nodup) : ((hv l).map (·.1)).Nodup := by
  have e : (hv l).map (·.1) = (l.map (·.1)).map (Sum.inr : Str → Key) := by
    unfold hv
    rw [List.map_map, List.map_map]
    rfl
  rw [e]
  unfold List.Nodup
  rw [List.pairwise_map]
  exact h.imp fun z q => z (inr_eq.mp q)
/-- d[x] of heights -/
theorem hv_get {H : Hp} {d : Addr} {l : Ht Str} (e : H d = some (.dK (hv l))) (x : Str) : DGet H d (.str x) ((look l x).map V.int) := by
  rw [← hv_val]
  exact DGet.k (k := Sum.inr x) e
theorem hv_set {H : Hp} {d : Addr} {l : Ht Str} (e : H d = some (.dK (hv l))) (x : Str) (h : Int) (hl : l.length < sizeLine) : DPut H d (.str x) (.int h) (upd H d (.dK (hv (put l x h)))) := by
  rw [← hv_put]
  exact DPut.k (k := Sum.inr x) e (by rw [hv_len]; exact hl)

/-! ### heaps -/
theorem sput {H0 H : Hp} {a : Addr} {o : HO} (s : L2.Same H0 H) (n : H0 a = none) : L2.Same H0 (upd H a o) := fun b u e => by
  rw [upd_ne (ne_of_none e n)]
  exact s b u e
theorem snew {H : Hp} {a : Addr} {o : HO} (n : H a = none) : Same H (upd H a o) := sput (L2.Same.refl H) n
theorem line12 {n : Nat} (h : n ≤ 100) : n < sizeLine := Nat.lt_of_le_of_lt h (by decide)

/-- a while by a relation with its measure -/
theorem while_m {c : TT} {tb : TS} {D : Ends} {σ : L2.St} {H : Hp} (W : Nat → L2.St → Hp → Prop) {m0 : Nat} (h0 : W m0 σ H)
    (hs : ∀ m σ H, W m σ H → c σ H fun b H1 => if b = true then tb { D with nx := fun σ' H' => ∃ m', m' < m ∧ W m' σ' H', ct := fun σ' H' => ∃ m', m' < m ∧ W m' σ' H', bk := D.nx } σ H1 else D.nx σ H1)
    (mono : ∀ σ H Q Q', (∀ b H1, Q b H1 → Q' b H1) → c σ H Q → c σ H Q') : tWhile c tb D σ H := by
  refine ⟨W, ⟨m0, h0⟩, fun m σ H w => mono σ H _ _ (fun b H1 q => ?_) (hs m σ H w)⟩
  cases b with
  | true => exact ⟨_, fun σ' H' h => h, q⟩
  | false => exact q
end Fl

/-! ## FlTxt -/
set_option Elab.async false
set_option linter.all false
set_option maxRecDepth 100000
set_option maxHeartbeats 4000000
/-! What the top has left, as the walk asks it. -/
namespace Fl
open PySem PySem.Spec PyProof.Rows L2
structure Txt (K : PySem.W.Frag) (mg : Str → Option Value) (C : Addr) : Prop where
  cl : Cls K C
  nT : NoAttr K C "towns"
  nL : NoAttr K C "lanes"
  nR : NoAttr K C "reached"
  mgC : mg "Roads" = some (.ref C)
  limit : ∃ t, mg "LIMIT" = some (.int 1000000000 t)
  longest : ∃ t, mg "LONGEST" = some (.int 12 t)
  signs : ∃ t, mg "SIGNS" = some (.str SG t)
  mostP : ∃ t, mg "MOST_PLACES" = some (.int 12 t)
  mostW : ∃ t, mg "MOST_WAYS" = some (.int 60 t)
  len : mg "len" = none
  list : mg "list" = none
  dict : mg "dict" = none
  int : mg "int" = none
  bool : mg "bool" = none
  str : mg "str" = none
  range : mg "range" = none
  reversed : mg "reversed" = none
  isinstance : mg "isinstance" = none
/-- a def of the top, called by its name -/
def Cal (K : PySem.W.Frag) (mg : Str → Option Value) (x : Str) (st : Stmt) (ps : List Str) : Prop := ∃ f fd, Fun K x x st f fd ∧ mg x = some (.ref f) ∧ Binds K fd ps []
/-- a method of the class at C -/
def Met (K : PySem.W.Frag) (C : Addr) (x qual : Str) (st : Stmt) (ps : List Str) : Prop := ∃ f fd, Fun K x qual st f fd ∧ Meth K C x f ∧ Binds K fd ps []
theorem int_ne {i j : Int} (h : i ≠ j) : decide (V.int i = V.int j) = false := decide_eq_false fun z => h (by injection z)
theorem str_ne {i j : Str} (h : i ≠ j) : decide (V.str i = V.str j) = false := decide_eq_false fun z => h (by injection z)
end Fl

/-! ## FlHts -/
set_option Elab.async false
set_option linter.all false
set_option maxRecDepth 100000
set_option maxHeartbeats 4000000
/-! heights_from: the program's, and the law's own. -/
namespace Fl
open PySem PySem.Spec PyProof.Rows L2
def spHeights (K : PySem.W.Frag) : Sp := fun vs H Q _ => ∃ (o : Str) (a : Addr) (tw : TW) (N : List Str), vs = [.str o, .ref a] ∧ SqL K H a (wl tw) ∧ Tups H tw ∧ WaysOk N (wy tw) ∧ o ∈ N ∧ N.length ≤ 12 ∧
  ∀ d H', L2.Same H H' → H d = none → H' d = some (.dK (hv (hts (wy tw) o))) → Q (.ref d) H'
section
variable {P : Program} {w : World} {K : PySem.W.Frag} {mg : Str → Option Value} {base : Heap}
theorem scH : FnScope ["origin", "ways", "found", "lowered", "first", "last", "minutes"] ["origin", "ways"] (defScope sHeights) := ⟨rfl, rfl, rfl, by decide +kernel, rfl, by decide +kernel, by decide +kernel⟩
/-- between two passes -/
def HInv (H : Hp) (o : Str) (a d : Addr) (ws : List (Way Str)) (N : List Str) (more : Nat) : Nat → L2.St → Hp → Prop := fun m σ H' => ∃ (l : Ht Str) (b : Bool) (xs : List (Option V)), xs.length = more ∧ σ = some (V.str o) :: some (V.ref a) :: some (V.ref d) :: some (V.bl b) :: xs ∧ L2.Same H H' ∧ H' d = some (.dK (hv l)) ∧
  Good N ws o l ∧ (∃ n, iter ws n [(o, 0)] = l) ∧ (b = false → pass ws l = (l, false)) ∧ m = mu N l + (if b = true then 1 else 0)
theorem len3 {α : Type} {xs : List α} (h : xs.length = 3) : ∃ a b c, xs = [a, b, c] := by
  match xs, h with
  | [a, b, c], _ => exact ⟨a, b, c, rfl⟩
theorem len4 {α : Type} {xs : List α} (h : xs.length = 4) : ∃ a b c d, xs = [a, b, c, d] := by
  match xs, h with
  | [a, b, c, d], _ => exact ⟨a, b, c, d, rfl⟩
/-- the test of a way: is the height behind it to be told or to fall -/
theorem rd_low {σ : L2.St} {H : Hp} {d : Addr} {l : Ht Str} {v : Way Str} {Q : Bool → Hp → Prop} (h2 : σ[2]? = some (some (V.ref d))) (h4 : σ[4]? = some (some (V.str v.1))) (h5 : σ[5]? = some (some (V.str v.2.1))) (h6 : σ[6]? = some (some (V.int v.2.2)))
    (e : H d = some (.dK (hv l))) (q : Q (low l v).isSome H) :
    tAnd (tB (tDIn (tVar 4) (tVar 2))) (tOr (tB (tDNotIn (tVar 5) (tVar 2))) (tTest (tOp (rI0 fun i j => .bl (decide (i < j))) (tOp (rI0 fun i j => .int (i + j)) (tDGet (tVar 2) (tVar 4)) (tVar 6)) (tDGet (tVar 2) (tVar 5))))) σ H Q := by
  refine ⟨_, h4, _, h2, d, _, rfl, hv_get e v.1, _, rfl, ?_⟩
  unfold low at q
  cases e1 : look l v.1 with
  | none =>
    rw [e1] at q
    exact iteF q
  | some a =>
    rw [e1] at q
    refine iteT ⟨_, h5, _, h2, d, _, rfl, hv_get e v.2.1, _, rfl, ?_⟩
    cases e2 : look l v.2.1 with
    | none =>
      rw [e2] at q
      exact iteT q
    | some b =>
      rw [e2] at q
      have g1 := hv_get e v.1
      have g2 := hv_get e v.2.1
      rw [e1] at g1
      rw [e2] at g2
      refine iteF ⟨_, h2, _, h4, d, _, rfl, g1, _, h6, _, _, rfl, rfl, _, h2, _, h5, d, _, rfl, g2, _, _, rfl, rfl, _, rfl, ?_⟩
      dsimp only at q
      by_cases z : a + v.2.2 < b
      · rw [if_pos z] at q
        rw [decide_eq_true z]
        exact q
      · rw [if_neg z] at q
        rw [decide_eq_false z]
        exact q
theorem ok_heights {f : Addr} {fd : FuncData} (F : Fun K "heights_from" "heights_from" sHeights f fd) : FnOk P w K mg base CX0 1 f fd ["origin", "ways"] (spHeights K) := by
  refine F.ok scH (fun vs H Q E h => ?_) (fun cdv A outer s H vs Q E hr h => ?_)
  · obtain ⟨o, a, tw, N, rfl, _⟩ := h
    rfl
  · obtain ⟨o, a, tw, N, rfl, hL, hT, ok, ho, hN, k⟩ := h
    have hu := hu_of hr
    refine ⟨_, pss_cons (ps_set (i := 2) scH.nd rfl (.inl rfl) (pe_disp (pps_cons (pv 0) pe_int pps_nil) (by rfl) (by rfl) (fun z => by cases z) (by decide)))
      (pss_cons (ps_set (i := 3) scH.nd rfl (.inl rfl) pe_bl)
      (pss_cons (ps_while PassesOwn.never (pt_val (pv 3))
        (pss_cons (ps_set (i := 3) scH.nd rfl (.inl rfl) pe_bl)
        (pss_one (ps_for PassesOwn.never rfl (pi_list (pv 1)) (pg_tup rfl (pgs_cons (pg_name (i := 4) scH.nd rfl (.inl rfl)) (pgs_cons (pg_name (i := 5) scH.nd rfl (.inl rfl)) (pgs_cons (pg_name (i := 6) scH.nd rfl (.inl rfl)) pgs_nil))))
          (pss_one (ps_if (PW.pt (pw_and (pt_cmp (pc_din hu (pv 4) (pv 2))) (pw_and1 (PW.pt (pw_or (pt_cmp (pc_dnotin hu (pv 5) (pv 2)))
              (pw_or1 (pt_cmpR op_lt (pe_op op_add (pe_dget hu (pv 2) (pv 4) (fun _ _ => rfl)) (pv 6)) (pe_dget hu (pv 2) (pv 5) (fun _ _ => rfl)) (nomark _))))))))
            (pss_cons (ps_dput hu (pv 2) (pv 5) (pe_op op_add (pe_dget hu (pv 2) (pv 4) (fun _ _ => rfl)) (pv 6)) rfl)
            (pss_one (ps_set (i := 3) scH.nd rfl (.inl rfl) pe_bl)))
            pss_nil))))))
      (pss_one (ps_ret (pv 2))))), ?_⟩
    intro d hd
    refine ⟨_, rfl, upd_same, [(Sum.inr o, .int 0)], rfl, (by show 1 ≤ 15; decide), ?_⟩
    have s0 : L2.Same H (upd (upd H d (.dK [])) d (.dK (hv [(o, 0)]))) := sput (snew hd) hd
    refine while_m (HInv H o a d (wy tw) N 3) (m0 := mu N [(o, 0)] + 1) ⟨[(o, 0)], true, [none, none, none], rfl, rfl, s0, upd_same, good_start ho, ⟨0, rfl⟩, (fun z => by cases z), rfl⟩ ?_ (fun σ H Q Q' k h => by obtain ⟨v, e, c, q, r⟩ := h; exact ⟨v, e, c, q, k _ _ r⟩)
    rintro m σ H1 ⟨l, b, xs, hx, rfl, s1, h1, g, ⟨n, hn⟩, fx, rfl⟩
    obtain ⟨x4, x5, x6, rfl⟩ := len3 hx
    refine ⟨_, rfl, b, rfl, ?_⟩
    cases b with
    | false =>
      refine iteF ⟨_, rfl, ?_⟩
      refine k d H1 s1 hd ?_
      rw [hts_eq ⟨n, hn, fx rfl⟩]
      exact h1
    | true =>
      refine iteT ?_
      refine ⟨_, rfl, a, rfl, ⟨_, s1.seq hL⟩, for_list (K := K) (a := a) (xs := wl tw) (fun i σ H2 => ∃ y4 y5 y6, σ = [some (V.str o), some (V.ref a), some (V.ref d), some (V.bl (((wy tw).take i).foldl step (l, false)).2), y4, y5, y6] ∧
        L2.Same H H2 ∧ H2 d = some (.dK (hv (((wy tw).take i).foldl step (l, false)).1))) ⟨x4, x5, x6, rfl, s1, h1⟩ (fun i σ H2 _ ⟨_, _, _, _, s2, _⟩ => s2.seq hL) ?_ ?_⟩
      · rintro i x σ H2 hi ⟨y4, y5, y6, rfl, s2, h2⟩
        obtain ⟨p, hp, rfl, hw, pm⟩ := wl_get hi
        have pt : H2 p.1 = some (tupOf p.2) := s2 _ _ (hT p pm)
        have wm : p.2 ∈ wy tw := List.mem_of_getElem? hw
        have part := Part.take ok g i
        rw [fold_take hw]
        generalize hs : ((wy tw).take i).foldl step (l, false) = t at part h2
        have small : t.1.length < sizeLine := line12 (by have := part.good.len; omega)
        refine ⟨p.1, _, rfl, SqT.of pt, rfl, _, _, rfl, _, _, rfl, _, _, rfl, rfl, ?_⟩
        refine rd_low (v := p.2) rfl rfl rfl rfl h2 ?_
        cases e : low t.1 p.2 with
        | none =>
          refine iteF ?_
          rw [step_none e]
          exact ⟨_, _, _, rfl, s2, h2⟩
        | some h =>
          obtain ⟨c, hc, rfl, _⟩ := low_some e
          have g1 := hv_get h2 p.2.1
          rw [hc] at g1
          rw [step_some e]
          refine iteT ⟨_, rfl, _, rfl, d, _, rfl, g1, _, rfl, _, _, rfl, rfl, _, rfl, _, rfl, d, _, rfl, hv_set h2 p.2.2.1 (c + p.2.2.2) small, ?_⟩
          exact ⟨_, _, _, rfl, sput s2 hd, upd_same⟩
      · rintro σ H2 ⟨y4, y5, y6, rfl, s2, h2⟩
        have part := Part.whole ok g
        rw [show (wl tw).length = (wy tw).length by rw [wl_len, wy_len], List.take_length] at h2 ⊢
        have e : pass (wy tw) l = (wy tw).foldl step (l, false) := rfl
        rw [← e] at h2 ⊢
        refine ⟨mu N (pass (wy tw) l).1 + (if (pass (wy tw) l).2 = true then 1 else 0), ?_, (pass (wy tw) l).1, (pass (wy tw) l).2, [y4, y5, y6], rfl, rfl, s2, h2, part.good, ⟨n + 1, ?_⟩, fun z => ?_, rfl⟩
        · cases z : (pass (wy tw) l).2 with
          | true =>
            have := part.fell z
            show mu N (pass (wy tw) l).1 + 1 < mu N l + 1
            omega
          | false =>
            rw [(part.kept z).1]
            show mu N l + 0 < mu N l + 1
            omega
        · rw [iter_add, hn]
          rfl
        · have z1 := (part.kept z).1
          rw [z1]
          exact Prod.ext z1 z
end
end Fl

/-! ## FlLHts -/
set_option Elab.async false
set_option linter.all false
set_option maxRecDepth 100000
set_option maxHeartbeats 4000000
namespace Fl
open PySem PySem.Spec PyProof.Rows L2
section
variable {P : Program} {w : World} {K : PySem.W.Frag} {mg : Str → Option Value} {base : Heap}
theorem scLH : FnScope ["_law_origin", "_law_ways_here", "_law_found", "_law_falls", "_law_here", "_law_there", "_law_length_here", "_law_far"] ["_law_origin", "_law_ways_here"] (defScope sLHeights) := ⟨rfl, rfl, rfl, by decide +kernel, rfl, by decide +kernel, by decide +kernel⟩
theorem ok_lheights {f : Addr} {fd : FuncData} (F : Fun K "_law_heights" "_law_heights" sLHeights f fd) : FnOk P w K mg base CX0 1 f fd ["_law_origin", "_law_ways_here"] (spHeights K) := by
  refine F.ok scLH (fun vs H Q E h => ?_) (fun cdv A outer s H vs Q E hr h => ?_)
  · obtain ⟨o, a, tw, N, rfl, _⟩ := h
    rfl
  · obtain ⟨o, a, tw, N, rfl, hL, hT, ok, ho, hN, k⟩ := h
    have hu := hu_of hr
    refine ⟨_, pss_cons (ps_set (i := 2) scLH.nd rfl (.inl rfl) (pe_disp (pps_cons (pv 0) pe_int pps_nil) (by rfl) (by rfl) (fun z => by cases z) (by decide)))
      (pss_cons (ps_set (i := 3) scLH.nd rfl (.inl rfl) pe_bl)
      (pss_cons (ps_while PassesOwn.never (pt_val (pv 3))
        (pss_cons (ps_set (i := 3) scLH.nd rfl (.inl rfl) pe_bl)
        (pss_one (ps_for PassesOwn.never rfl (pi_list (pv 1)) (pg_tup rfl (pgs_cons (pg_name (i := 4) scLH.nd rfl (.inl rfl)) (pgs_cons (pg_name (i := 5) scLH.nd rfl (.inl rfl)) (pgs_cons (pg_name (i := 6) scLH.nd rfl (.inl rfl)) pgs_nil))))
          (pss_one (ps_if (pt_cmp (pc_din hu (pv 4) (pv 2)))
            (pss_cons (ps_set (i := 7) scLH.nd rfl (.inl rfl) (pe_op op_add (pe_dget hu (pv 2) (pv 4) (fun _ _ => rfl)) (pv 6)))
            (pss_one (ps_if (PW.pt (pw_or (pt_cmp (pc_dnotin hu (pv 5) (pv 2))) (pw_or1 (pt_cmpR op_lt (pv 7) (pe_dget hu (pv 2) (pv 5) (fun _ _ => rfl)) (nomark _)))))
              (pss_cons (ps_dput hu (pv 2) (pv 5) (pv 7) rfl)
              (pss_one (ps_set (i := 3) scLH.nd rfl (.inl rfl) pe_bl)))
              pss_nil)))
            pss_nil))))))
      (pss_one (ps_ret (pv 2))))), ?_⟩
    intro d hd
    refine ⟨_, rfl, upd_same, [(Sum.inr o, .int 0)], rfl, (by show 1 ≤ 15; decide), ?_⟩
    have s0 : L2.Same H (upd (upd H d (.dK [])) d (.dK (hv [(o, 0)]))) := sput (snew hd) hd
    refine while_m (HInv H o a d (wy tw) N 4) (m0 := mu N [(o, 0)] + 1) ⟨[(o, 0)], true, [none, none, none, none], rfl, rfl, s0, upd_same, good_start ho, ⟨0, rfl⟩, (fun z => by cases z), rfl⟩ ?_ (fun σ H Q Q' k h => by obtain ⟨v, e, c, q, r⟩ := h; exact ⟨v, e, c, q, k _ _ r⟩)
    rintro m σ H1 ⟨l, b, xs, hx, rfl, s1, h1, g, ⟨n, hn⟩, fx, rfl⟩
    obtain ⟨x4, x5, x6, x7, rfl⟩ := len4 hx
    refine ⟨_, rfl, b, rfl, ?_⟩
    cases b with
    | false =>
      refine iteF ⟨_, rfl, ?_⟩
      refine k d H1 s1 hd ?_
      rw [hts_eq ⟨n, hn, fx rfl⟩]
      exact h1
    | true =>
      refine iteT ?_
      refine ⟨_, rfl, a, rfl, ⟨_, s1.seq hL⟩, for_list (K := K) (a := a) (xs := wl tw) (fun i σ H2 => ∃ y4 y5 y6 y7, σ = [some (V.str o), some (V.ref a), some (V.ref d), some (V.bl (((wy tw).take i).foldl step (l, false)).2), y4, y5, y6, y7] ∧
        L2.Same H H2 ∧ H2 d = some (.dK (hv (((wy tw).take i).foldl step (l, false)).1))) ⟨x4, x5, x6, x7, rfl, s1, h1⟩ (fun i σ H2 _ ⟨_, _, _, _, _, s2, _⟩ => s2.seq hL) ?_ ?_⟩
      · rintro i x σ H2 hi ⟨y4, y5, y6, y7, rfl, s2, h2⟩
        obtain ⟨p, hp, rfl, hw, pm⟩ := wl_get hi
        have pt : H2 p.1 = some (tupOf p.2) := s2 _ _ (hT p pm)
        have wm : p.2 ∈ wy tw := List.mem_of_getElem? hw
        have part := Part.take ok g i
        rw [fold_take hw]
        generalize hs : ((wy tw).take i).foldl step (l, false) = t at part h2
        have small : t.1.length < sizeLine := line12 (by have := part.good.len; omega)
        refine ⟨p.1, _, rfl, SqT.of pt, rfl, _, _, rfl, _, _, rfl, _, _, rfl, rfl, ?_⟩
        refine ⟨_, rfl, _, rfl, d, _, rfl, hv_get h2 p.2.1, _, rfl, ?_⟩
        cases e1 : look t.1 p.2.1 with
        | none =>
          refine iteF ?_
          rw [step_none (by unfold low; rw [e1])]
          exact ⟨_, _, _, _, rfl, s2, h2⟩
        | some c =>
          have g1 := hv_get h2 p.2.1
          rw [e1] at g1
          refine iteT ⟨_, rfl, _, rfl, d, _, rfl, g1, _, rfl, _, _, rfl, rfl, ?_⟩
          refine ⟨_, rfl, _, rfl, d, _, rfl, hv_get h2 p.2.2.1, _, rfl, ?_⟩
          cases e2 : look t.1 p.2.2.1 with
          | none =>
            have el : low t.1 p.2 = some (c + p.2.2.2) := by unfold low; rw [e1, e2]
            rw [step_some el]
            refine iteT (iteT ⟨_, rfl, _, rfl, _, rfl, d, _, rfl, hv_set h2 p.2.2.1 (c + p.2.2.2) small, ?_⟩)
            exact ⟨_, _, _, _, rfl, sput s2 hd, upd_same⟩
          | some b2 =>
            have g2 := hv_get h2 p.2.2.1
            rw [e2] at g2
            refine iteF ⟨_, rfl, _, rfl, _, rfl, d, _, rfl, g2, _, _, rfl, rfl, _, rfl, ?_⟩
            by_cases z : c + p.2.2.2 < b2
            · have el : low t.1 p.2 = some (c + p.2.2.2) := by unfold low; rw [e1, e2]; exact if_pos z
              rw [step_some el, decide_eq_true z]
              refine iteT ⟨_, rfl, _, rfl, _, rfl, d, _, rfl, hv_set h2 p.2.2.1 (c + p.2.2.2) small, ?_⟩
              exact ⟨_, _, _, _, rfl, sput s2 hd, upd_same⟩
            · have el : low t.1 p.2 = none := by unfold low; rw [e1, e2]; exact if_neg z
              rw [step_none el, decide_eq_false z]
              exact iteF ⟨_, _, _, _, rfl, s2, h2⟩
      · rintro σ H2 ⟨y4, y5, y6, y7, rfl, s2, h2⟩
        have part := Part.whole ok g
        rw [show (wl tw).length = (wy tw).length by rw [wl_len, wy_len], List.take_length] at h2 ⊢
        have e : pass (wy tw) l = (wy tw).foldl step (l, false) := rfl
        rw [← e] at h2 ⊢
        refine ⟨mu N (pass (wy tw) l).1 + (if (pass (wy tw) l).2 = true then 1 else 0), ?_, (pass (wy tw) l).1, (pass (wy tw) l).2, [y4, y5, y6, y7], rfl, rfl, s2, h2, part.good, ⟨n + 1, ?_⟩, fun z => ?_, rfl⟩
        · cases z : (pass (wy tw) l).2 with
          | true =>
            have := part.fell z
            show mu N (pass (wy tw) l).1 + 1 < mu N l + 1
            omega
          | false =>
            rw [(part.kept z).1]
            show mu N l + 0 < mu N l + 1
            omega
        · rw [iter_add, hn]
          rfl
        · have z1 := (part.kept z).1
          rw [z1]
          exact Prod.ext z1 z
end
end Fl

/-! ## FlCheck -/
set_option Elab.async false
set_option linter.all false
set_option maxRecDepth 100000
set_option maxHeartbeats 4000000
namespace Fl
open PySem PySem.Spec PyProof.Rows L2
def spChName : Sp := fun vs H Q _ => ∃ n : Str, vs = [.str n] ∧ NmOk n ∧ Q (.str n) H
def spChNum : Sp := fun vs H Q _ => ∃ i j : Int, vs = [.int i, .int j] ∧ j ≤ i ∧ i ≤ 1000000000 ∧ Q (.int i) H
def spChRoads (K : PySem.W.Frag) : Sp := fun vs H Q _ => ∃ (a b : Addr) (ns : List Str) (tw : TW), vs = [.ref a, .ref b] ∧ SqL K H a (sl ns) ∧ NamesOk ns ∧ SqL K H b (wl tw) ∧ Tups H tw ∧ WaysOk ns (wy tw) ∧ tw.length ≤ 60 ∧
  ∀ H', L2.Same H H' → Q .non H'
def sv (ns : List Str) : List (Key × V) := ns.map fun n => (Sum.inr n, V.bl true)
theorem sv_none {x : Str} : ∀ {ns : List Str}, ¬ x ∈ ns → valV (sv ns) (Sum.inr x) = none
  | [], _ => rfl
  | n :: r, h => by
    show valV ((Sum.inr n, V.bl true) :: sv r) (Sum.inr x) = none
    rw [valV_neg (p := ((Sum.inr n : Key), V.bl true)) (fun z => h (by rw [inr_eq.mp z]; exact List.mem_cons_self))]
    exact sv_none fun z => h (List.mem_cons_of_mem _ z)
theorem sv_some {x : Str} : ∀ {ns : List Str}, x ∈ ns → valV (sv ns) (Sum.inr x) = some (V.bl true)
  | [], h => by cases h
  | n :: r, h => by
    show valV ((Sum.inr n, V.bl true) :: sv r) (Sum.inr x) = _
    by_cases e : n = x
    · exact valV_pos (p := ((Sum.inr n : Key), V.bl true)) (inr_eq.mpr e)
    · rw [valV_neg (p := ((Sum.inr n : Key), V.bl true)) (fun z => e (inr_eq.mp z))]
      rcases List.mem_cons.mp h with z | z
      · exact (e z.symm).elim
      · exact sv_some z
section
variable {P : Program} {w : World} {K : PySem.W.Frag} {mg : Str → Option Value} {base : Heap} {C : Addr}
theorem scCN : FnScope ["name", "sign"] ["name"] (defScope sChName) := ⟨rfl, rfl, rfl, by decide +kernel, rfl, by decide +kernel, by decide +kernel⟩
theorem ok_chName {f : Addr} {fd : FuncData} (F : Fun K "checked_name" "checked_name" sChName f fd) (T : Txt K mg C) : FnOk P w K mg base CX0 1 f fd ["name"] spChName := by
  refine F.ok scCN (fun vs H Q E h => ?_) (fun cdv A outer s H vs Q E hr h => ?_)
  · obtain ⟨n, rfl, _⟩ := h
    rfl
  · obtain ⟨n, rfl, ok, k⟩ := h
    obtain ⟨t1, m1⟩ := T.longest
    obtain ⟨t2, m2⟩ := T.signs
    refine ⟨_, pss_cons (ps_if (PW.pt (pw_or (pt_cmpR op_eq (pe_callB call_len_str (by rfl) T.len PySem.boot_len (pa_cons (pv 0) pa_nil)) pe_int (nomark _))
        (pw_or1 (pt_cmpR op_gt (pe_callB call_len_str (by rfl) T.len PySem.boot_len (pa_cons (pv 0) pa_nil)) (pe_glob (v := .int 12) rfl m1 ⟨_, rfl⟩) (nomark _))))) (pss_one ps_never) pss_nil)
      (pss_cons (ps_for PassesOwn.never rfl (pi_str (pv 0)) (pg_name (i := 1) scCN.nd rfl (.inl rfl)) (pss_one (ps_if (pt_cmpR L2.op_notIn_sign (pv 1) (pe_glob (v := .str SG) rfl m2 ⟨_, rfl⟩) rfl) (pss_one ps_never) pss_nil)))
      (pss_one (ps_ret (pv 0)))), ?_⟩
    have l1 := ok.lo
    have l2 := ok.hi
    have z : n.length ≤ sizeLine := Nat.le_of_lt (line12 (by omega))
    refine ⟨_, rfl, n, rfl, z, rfl, _, rfl, ?_⟩
    rw [int_ne (show (n.length : Int) ≠ 0 by omega)]
    refine iteF ⟨_, rfl, n, rfl, z, _, _, rfl, rfl, _, rfl, ?_⟩
    rw [decide_eq_false (show ¬ ((12 : Int) < n.length) by omega)]
    refine iteF ?_
    refine ⟨_, rfl, n, rfl, for_it walk_str (fun i σ H' => ∃ v, σ = [some (V.str n), v] ∧ H' = H) ⟨none, rfl, rfl⟩ (fun _ _ _ _ _ => True.intro) ?_ ?_⟩
    · rintro i x σ H1 H2 hi ⟨v, rfl, rfl⟩ ⟨rfl, c, hc, rfl⟩
      refine ⟨_, rfl, c, SG, rfl, rfl, _, rfl, ?_⟩
      have m : c ∈ SG.cps.toList := ok.sg c (by rw [← Array.getElem?_toList] at hc; exact List.mem_of_getElem? hc)
      rw [decide_eq_true m]
      exact iteF ⟨_, rfl, rfl⟩
    · rintro σ H1 ⟨v, rfl, rfl⟩
      exact ⟨_, rfl, k⟩
theorem scCM : FnScope ["value", "least"] ["value", "least"] (defScope sChNum) := ⟨rfl, rfl, rfl, by decide +kernel, rfl, by decide +kernel, by decide +kernel⟩
theorem ok_chNum {f : Addr} {fd : FuncData} (F : Fun K "checked_number" "checked_number" sChNum f fd) (T : Txt K mg C) : FnOk P w K mg base CX0 1 f fd ["value", "least"] spChNum := by
  refine F.ok scCM (fun vs H Q E h => ?_) (fun cdv A outer s H vs Q E hr h => ?_)
  · obtain ⟨i, j, rfl, _⟩ := h
    rfl
  · obtain ⟨i, j, rfl, h1, h2, k⟩ := h
    obtain ⟨t1, m1⟩ := T.limit
    refine ⟨_, pss_cons (ps_if (PW.pt (pw_or (pt_cmpR op_lt (pv 0) (pv 1) (nomark _)) (pw_or1 (pt_cmpR op_gt (pv 0) (pe_glob (v := .int 1000000000) rfl m1 ⟨_, rfl⟩) (nomark _))))) (pss_one ps_never) pss_nil)
      (pss_one (ps_ret (pv 0))), ?_⟩
    refine ⟨_, rfl, _, rfl, _, _, rfl, rfl, _, rfl, ?_⟩
    rw [decide_eq_false (show ¬ (i < j) by omega)]
    refine iteF ⟨_, rfl, _, _, rfl, rfl, _, rfl, ?_⟩
    rw [decide_eq_false (show ¬ ((1000000000 : Int) < i) by omega)]
    exact iteF ⟨_, rfl, k⟩
theorem scCR : FnScope ["places", "ways", "seen", "place", "origin", "goal", "minutes"] ["places", "ways"] (defScope sChRoads) := ⟨rfl, rfl, rfl, by decide +kernel, rfl, by decide +kernel, by decide +kernel⟩
theorem ok_chRoads {f : Addr} {fd : FuncData} (F : Fun K "check_roads" "check_roads" sChRoads f fd) (T : Txt K mg C) (N1 : Cal K mg "checked_name" sChName ["name"]) (N2 : Cal K mg "checked_number" sChNum ["value", "least"]) :
    FnOk P w K mg base CX0 2 f fd ["places", "ways"] (spChRoads K) := by
  obtain ⟨f1, fd1, F1, g1, b1⟩ := N1
  obtain ⟨f2, fd2, F2, g2, b2⟩ := N2
  have G1 : FnOk P w K mg base CX0 1 f1 fd1 ["name"] spChName := ok_chName F1 T
  have G2 : FnOk P w K mg base CX0 1 f2 fd2 ["value", "least"] spChNum := ok_chNum F2 T
  refine F.ok scCR (fun vs H Q E h => ?_) (fun cdv A outer s H vs Q E hr h => ?_)
  · obtain ⟨a, b, ns, tw, rfl, _⟩ := h
    rfl
  · obtain ⟨a, b, ns, tw, rfl, hA, nk, hB, hT, wk, h60, k⟩ := h
    have hu := hu_of hr
    obtain ⟨t1, m1⟩ := T.mostP
    obtain ⟨t2, m2⟩ := T.mostW
    refine ⟨_, pss_cons (ps_if (pt_cmpR op_gt (pe_callB call_len_seq (by rfl) T.len PySem.boot_len (pa_cons (pv 0) pa_nil)) (pe_glob (v := .int 12) rfl m1 ⟨_, rfl⟩) (nomark _)) (pss_one ps_never) pss_nil)
      (pss_cons (ps_if (pt_cmpR op_gt (pe_callB call_len_seq (by rfl) T.len PySem.boot_len (pa_cons (pv 1) pa_nil)) (pe_glob (v := .int 60) rfl m2 ⟨_, rfl⟩) (nomark _)) (pss_one ps_never) pss_nil)
      (pss_cons (ps_set (i := 2) scCR.nd rfl (.inl rfl) pe_dnewK)
      (pss_cons (ps_for PassesOwn.never rfl (pi_list (pv 0)) (pg_name (i := 3) scCR.nd rfl (.inl rfl))
        (pss_cons (ps_if (pt_cmp (pc_din hu (pe_call G1 hr (by rfl) g1 F1.kp b1 .nil pass0 (pa_cons (pv 3) pa_nil)) (pv 2))) (pss_one ps_never) pss_nil)
        (pss_one (ps_dput hu (pv 2) (pv 3) pe_bl rfl))))
      (pss_one (ps_for PassesOwn.never rfl (pi_list (pv 1)) (pg_tup rfl (pgs_cons (pg_name (i := 4) scCR.nd rfl (.inl rfl)) (pgs_cons (pg_name (i := 5) scCR.nd rfl (.inl rfl)) (pgs_cons (pg_name (i := 6) scCR.nd rfl (.inl rfl)) pgs_nil))))
        (pss_cons (ps_for PassesOwn.never rfl (pi_list (pe_lst (pa_cons (pv 4) (pa_cons (pv 5) pa_nil)))) (pg_name (i := 3) scCR.nd rfl (.inl rfl))
          (pss_one (ps_if (pt_cmp (pc_dnotin hu (pv 3) (pv 2))) (pss_one ps_never) pss_nil)))
        (pss_one (ps_expr (pe_call G2 hr (by rfl) g2 F2.kp b2 .nil pass0 (pa_cons (pv 6) (pa_cons pe_int pa_nil))))))))))), ?_⟩
    refine ⟨_, rfl, a, _, rfl, .inl hA, _, _, rfl, rfl, _, rfl, ?_⟩
    have l1 := nk.hi
    rw [sl_len, decide_eq_false (show ¬ ((12 : Int) < ns.length) by omega)]
    refine iteF ?_
    refine ⟨_, rfl, b, _, rfl, .inl hB, _, _, rfl, rfl, _, rfl, ?_⟩
    rw [wl_len, decide_eq_false (show ¬ ((60 : Int) < tw.length) by omega)]
    refine iteF ?_
    intro d hd
    refine ⟨_, rfl, a, rfl, ⟨_, (snew hd).seq hA⟩, for_list (K := K) (a := a) (xs := sl ns) (fun i σ H' => ∃ v, σ = [some (V.ref a), some (V.ref b), some (V.ref d), v, none, none, none] ∧ L2.Same H H' ∧ H' d = some (.dK (sv (ns.take i))))
      ⟨none, rfl, snew hd, upd_same⟩ (fun i σ H' _ ⟨_, _, s1, _⟩ => s1.seq hA) ?_ ?_⟩
    · rintro i x σ H1 hi ⟨v, rfl, s1, h1⟩
      obtain ⟨n, hn, rfl⟩ := sl_get hi
      have nm : n ∈ ns := List.mem_of_getElem? hn
      have nx : ¬ n ∈ ns.take i := by
        intro m
        obtain ⟨j, hj⟩ := List.getElem?_of_mem m
        have lt : j < i := by
          have := (List.getElem?_eq_some_iff.mp hj).1
          rw [List.length_take] at this
          omega
        rw [List.getElem?_take, if_pos lt] at hj
        have := nd_ix nk.nd hj hn
        omega
      refine ⟨_, rfl, n, rfl, nk.ok n nm, _, rfl, d, _, rfl, DGet.k (k := Sum.inr n) h1, _, rfl, ?_⟩
      rw [sv_none nx]
      refine iteF ⟨_, rfl, _, rfl, d, _, rfl, DPut.k (k := Sum.inr n) h1 ?_, ?_⟩
      · refine line12 ?_
        unfold sv
        rw [List.length_map, List.length_take]
        omega
      · refine ⟨_, rfl, sput s1 hd, ?_⟩
        rw [upd_same, putK_new _ (sv_none nx), List.take_add_one, hn]
        unfold sv
        rw [List.map_append]
        rfl
    · rintro σ H1 ⟨v, rfl, s1, h1⟩
      rw [sl_len, List.take_length] at h1
      refine ⟨_, rfl, b, rfl, ⟨_, s1.seq hB⟩, for_list (K := K) (a := b) (xs := wl tw) (fun i σ H' => ∃ v v4 v5 v6, σ = [some (V.ref a), some (V.ref b), some (V.ref d), v, v4, v5, v6] ∧ L2.Same H1 H')
        ⟨v, none, none, none, rfl, L2.Same.refl _⟩ (fun i σ H' _ ⟨_, _, _, _, _, s2⟩ => s2.seq (s1.seq hB)) ?_ ?_⟩
      · rintro i x σ H2 hi ⟨v, v4, v5, v6, rfl, s2⟩
        obtain ⟨p, hp, rfl, hw, pm⟩ := wl_get hi
        have pt : H2 p.1 = some (tupOf p.2) := s2 _ _ (s1 _ _ (hT p pm))
        obtain ⟨o1, o2, o3, o4⟩ := wk p.2 (List.mem_of_getElem? hw)
        refine ⟨p.1, _, rfl, SqT.of pt, rfl, _, _, rfl, _, _, rfl, _, _, rfl, rfl, ?_⟩
        refine ⟨_, rfl, _, rfl, (by show 2 ≤ sizeLine; decide), fun q hq => ?_⟩
        have h2 : (upd H2 q (.lst [V.str p.2.1, V.str p.2.2.1])) d = some (.dK (sv ns)) := snew hq _ _ (s2 _ _ h1)
        refine ⟨q, rfl, ⟨_, SqL.of upd_same⟩, for_list (K := K) (a := q) (xs := [V.str p.2.1, V.str p.2.2.1]) (fun i σ H' => ∃ v, σ = [some (V.ref a), some (V.ref b), some (V.ref d), v, some (V.str p.2.1), some (V.str p.2.2.1), some (V.int p.2.2.2)] ∧ H' = upd H2 q (.lst [V.str p.2.1, V.str p.2.2.1]))
          ⟨v, rfl, rfl⟩ (fun i σ H' _ ⟨_, _, e⟩ => by rw [e]; exact SqL.of upd_same) ?_ ?_⟩
        · rintro j y σ H3 hj ⟨v, rfl, rfl⟩
          obtain ⟨n, nm, rfl⟩ : ∃ n, n ∈ ns ∧ y = V.str n := by
            match j, hj with
            | 0, hj => exact ⟨p.2.1, o1, (Option.some.inj hj).symm⟩
            | 1, hj => exact ⟨p.2.2.1, o2, (Option.some.inj hj).symm⟩
            | j + 2, hj => cases hj
          refine ⟨_, rfl, _, rfl, d, _, rfl, DGet.k (k := Sum.inr n) h2, _, rfl, ?_⟩
          rw [sv_some nm]
          exact iteF ⟨_, rfl, rfl⟩
        · rintro σ H3 ⟨v, rfl, rfl⟩
          refine ⟨_, rfl, _, _, rfl, o3, o4, ?_⟩
          exact ⟨_, _, _, _, rfl, sput s2 (s2.free hq)⟩
      · rintro σ H2 ⟨v, v4, v5, v6, rfl, s2⟩
        exact k H2 (s1.trans s2)
end
end Fl

/-! ## FlAhead -/
set_option Elab.async false
set_option linter.all false
set_option maxRecDepth 100000
set_option maxHeartbeats 4000000
namespace Fl
open PySem PySem.Spec PyProof.Rows L2
def spAhead (K : PySem.W.Frag) : Sp := fun vs H Q _ => ∃ (x : Str) (h : Int) (d a : Addr) (l : Ht Str) (tw : TW), vs = [.str x, .ref d, .ref a] ∧ H d = some (.dK (hv l)) ∧ SqL K H a (wl tw) ∧ Tups H tw ∧ look l x = some h ∧ (∃ v ∈ wy tw, Tight l x v) ∧
  ∀ v ∈ wy tw, Tight l x v → Q (.str v.1) H
section
variable {P : Program} {w : World} {K : PySem.W.Frag} {mg : Str → Option Value} {base : Heap} {C : Addr}
theorem scPA : FnScope ["place", "heights", "ways", "ahead", "first", "last", "minutes"] ["place", "heights", "ways"] (defScope sAhead) := ⟨rfl, rfl, rfl, by decide +kernel, rfl, by decide +kernel, by decide +kernel⟩
theorem ok_ahead {f : Addr} {fd : FuncData} (F : Fun K "place_ahead" "place_ahead" sAhead f fd) : FnOk P w K mg base CX0 1 f fd ["place", "heights", "ways"] (spAhead K) := by
  refine F.ok scPA (fun vs H Q E h => ?_) (fun cdv A outer s H vs Q E hr h => ?_)
  · obtain ⟨x, h, d, a, l, tw, rfl, _⟩ := h
    rfl
  · obtain ⟨x, h, d, a, l, tw, rfl, hd, hL, hT, hx, ⟨v0, m0, t0⟩, k⟩ := h
    have hu := hu_of hr
    refine ⟨_, pss_cons (ps_set (i := 3) scPA.nd rfl (.inl rfl) pe_non)
      (pss_cons (ps_for PassesOwn.never rfl (pi_list (pv 2)) (pg_tup rfl (pgs_cons (pg_name (i := 4) scPA.nd rfl (.inl rfl)) (pgs_cons (pg_name (i := 5) scPA.nd rfl (.inl rfl)) (pgs_cons (pg_name (i := 6) scPA.nd rfl (.inl rfl)) pgs_nil))))
        (pss_one (ps_if (PW.pt (pw_and (pt_cmpR op_eq (pv 5) (pv 0) (nomark _)) (pw_and (pt_cmp (pc_din hu (pv 4) (pv 1)))
            (pw_and1 (pt_cmpR op_eq (pe_op op_add (pe_dget hu (pv 1) (pv 4) (fun _ _ => rfl)) (pv 6)) (pe_dget hu (pv 1) (pv 0) (fun _ _ => rfl)) (nomark _))))))
          (pss_one (ps_set (i := 3) scPA.nd rfl (.inl rfl) (pv 4))) pss_nil)))
      (pss_one (ps_ret (pv 3)))), ?_⟩
    refine ⟨_, rfl, a, rfl, ⟨_, hL⟩, for_list (K := K) (a := a) (xs := wl tw) (fun i σ H2 => ∃ v y4 y5 y6, σ = [some (V.str x), some (V.ref d), some (V.ref a), some v, y4, y5, y6] ∧ H2 = H ∧
      ((v = .non ∧ ∀ u ∈ (wy tw).take i, ¬ Tight l x u) ∨ ∃ u ∈ wy tw, Tight l x u ∧ v = .str u.1)) ⟨.non, none, none, none, rfl, rfl, .inl ⟨rfl, fun u z => by cases z⟩⟩ (fun i σ H2 _ ⟨_, _, _, _, _, e, _⟩ => by rw [e]; exact hL) ?_ ?_⟩
    · rintro i y σ H2 hi ⟨v, y4, y5, y6, rfl, rfl, old⟩
      obtain ⟨p, hp, rfl, hw, pm⟩ := wl_get hi
      have wm : p.2 ∈ wy tw := List.mem_of_getElem? hw
      have gx := hv_get hd x
      rw [hx] at gx
      -- a way that is not tight leaves all as it was
      have skip : ¬ Tight l x p.2 → ((v = .non ∧ ∀ u ∈ (wy tw).take (i + 1), ¬ Tight l x u) ∨ ∃ u ∈ wy tw, Tight l x u ∧ v = .str u.1) := by
        intro nt
        rcases old with ⟨e, z⟩ | z
        · refine .inl ⟨e, fun u hu => ?_⟩
          rw [List.take_add_one, hw] at hu
          rcases List.mem_append.mp hu with q | q
          · exact z u q
          · rw [List.mem_singleton.mp q]
            exact nt
        · exact .inr z
      refine ⟨p.1, _, rfl, SqT.of (hT p pm), rfl, _, _, rfl, _, _, rfl, _, _, rfl, rfl, ?_⟩
      refine ⟨_, rfl, _, rfl, rfl, _, rfl, ?_⟩
      by_cases e : p.2.2.1 = x
      · rw [decide_eq_true (show V.str p.2.2.1 = V.str x by rw [e])]
        refine iteT ⟨_, rfl, _, rfl, d, _, rfl, hv_get hd p.2.1, _, rfl, ?_⟩
        cases e1 : look l p.2.1 with
        | none =>
          refine iteF (iteF ⟨v, _, _, _, rfl, rfl, skip fun t => ?_⟩)
          obtain ⟨_, c, _, q, _⟩ := t
          rw [e1] at q
          cases q
        | some c =>
          have g1 := hv_get hd p.2.1
          rw [e1] at g1
          refine iteT ⟨_, rfl, _, rfl, d, _, rfl, g1, _, rfl, _, _, rfl, rfl, _, rfl, _, rfl, d, _, rfl, gx, rfl, _, rfl, ?_⟩
          by_cases z : c + p.2.2.2 = h
          · rw [decide_eq_true (show V.int (c + p.2.2.2) = V.int h by rw [z])]
            refine iteT ⟨_, rfl, ?_⟩
            exact ⟨_, _, _, _, rfl, rfl, .inr ⟨p.2, wm, ⟨e, c, h, e1, hx, z⟩, rfl⟩⟩
          · rw [int_ne z]
            refine iteF ⟨v, _, _, _, rfl, rfl, skip fun t => ?_⟩
            obtain ⟨_, c', h', q1, q2, q3⟩ := t
            rw [e1] at q1
            rw [hx] at q2
            have := Option.some.inj q1
            have := Option.some.inj q2
            omega
      · rw [str_ne e]
        exact iteF (iteF ⟨v, _, _, _, rfl, rfl, skip fun t => e t.1⟩)
    · rintro σ H2 ⟨v, y4, y5, y6, rfl, rfl, old⟩
      rw [show (wl tw).length = (wy tw).length by rw [wl_len, wy_len], List.take_length] at old
      rcases old with ⟨_, z⟩ | ⟨u, hu, t, rfl⟩
      · exact (z v0 m0 t0).elim
      · exact ⟨_, rfl, k u hu t⟩
end
end Fl

/-! ## FlRoads -/
set_option Elab.async false
set_option linter.all false
set_option maxRecDepth 100000
set_option maxHeartbeats 4000000
/-! The class Roads: what stands between two calls, its methods. -/
namespace Fl
open PySem PySem.Spec PyProof.Rows L2
theorem kTL : ¬ (("towns" : Str) = "lanes") := by decide +kernel
theorem kTR : ¬ (("towns" : Str) = "reached") := by decide +kernel
theorem kLR : ¬ (("lanes" : Str) = "reached") := by decide +kernel
/-- the attributes as __init__ stores them -/
def fl (tl ll rd : Addr) : List (Str × V) := putF "reached" (.ref rd) (putF "lanes" (.ref ll) (putF "towns" (.ref tl) []))
theorem fl_towns (tl ll rd : Addr) : (fl tl ll rd).lookup ("towns" : Str) = some (.ref tl) := by
  unfold fl
  rw [lookup_putF, if_neg kTR, lookup_putF, if_neg kTL, lookup_putF, if_pos rfl]
theorem fl_lanes (tl ll rd : Addr) : (fl tl ll rd).lookup ("lanes" : Str) = some (.ref ll) := by
  unfold fl
  rw [lookup_putF, if_neg kLR, lookup_putF, if_pos rfl]
theorem fl_reached (tl ll rd : Addr) : (fl tl ll rd).lookup ("reached" : Str) = some (.ref rd) := by
  unfold fl
  rw [lookup_putF, if_pos rfl]
theorem fl_no (tl ll rd : Addr) {m : Str} (h1 : ¬ m = "reached") (h2 : ¬ m = "lanes") (h3 : ¬ m = "towns") : (fl tl ll rd).lookup m = none := by
  unfold fl
  rw [lookup_putF, if_neg h1, lookup_putF, if_neg h2, lookup_putF, if_neg h3]
  all_goals rfl

/-- at rd a dict with, for each of ns, a dict of its heights, these new behind B -/
def Dicts (B H : Hp) (rd : Addr) (ns : List Str) (ws : List (Way Str)) : Prop := ∃ kvs : List (Key × V), H rd = some (.dK kvs) ∧ kvs.length ≤ ns.length ∧
  ∀ n ∈ ns, ∃ d, valV kvs (Sum.inr n) = some (.ref d) ∧ d ≠ rd ∧ B d = none ∧ H d = some (.dK (hv (hts ws n)))
theorem dicts_same {B H H' : Hp} {rd : Addr} {ns : List Str} {ws : List (Way Str)} (s : L2.Same H H') (h : Dicts B H rd ns ws) : Dicts B H' rd ns ws := by
  obtain ⟨kvs, e, l, q⟩ := h
  refine ⟨kvs, s _ _ e, l, fun n hn => ?_⟩
  obtain ⟨d, h1, h2, h3, h4⟩ := q n hn
  exact ⟨d, h1, h2, h3, s _ _ h4⟩
theorem dicts_base {B B' H : Hp} {rd : Addr} {ns : List Str} {ws : List (Way Str)} (s : L2.Same B B') (h : Dicts B' H rd ns ws) : Dicts B H rd ns ws := by
  obtain ⟨kvs, e, l, q⟩ := h
  refine ⟨kvs, e, l, fun n hn => ?_⟩
  obtain ⟨d, h1, h2, h3, h4⟩ := q n hn
  exact ⟨d, h1, h2, s.free h3, h4⟩
/-- all but x is kept, x stood in B -/
theorem dicts_frame {B H H' : Hp} {rd x : Addr} {o : HO} {ns : List Str} {ws : List (Way Str)} (h : Dicts B H rd ns ws) (bx : B x = some o) (nx : rd ≠ x) (k : ∀ b u, H b = some u → b ≠ x → H' b = some u) : Dicts B H' rd ns ws := by
  obtain ⟨kvs, e, l, q⟩ := h
  refine ⟨kvs, k _ _ e nx, l, fun n hn => ?_⟩
  obtain ⟨d, h1, h2, h3, h4⟩ := q n hn
  exact ⟨d, h1, h2, h3, k _ _ h4 (ne_of_none bx h3).symm⟩
theorem dicts_get {B H : Hp} {rd : Addr} {ns : List Str} {ws : List (Way Str)} {n : Str} (h : Dicts B H rd ns ws) (m : n ∈ ns) : ∃ d, DGet H rd (.str n) (some (.ref d)) ∧ d ≠ rd ∧ B d = none ∧ H d = some (.dK (hv (hts ws n))) := by
  obtain ⟨kvs, e, l, q⟩ := h
  obtain ⟨d, h1, h2, h3, h4⟩ := q n m
  refine ⟨d, ?_, h2, h3, h4⟩
  rw [← h1]
  exact DGet.k (k := Sum.inr n) e
/-- one place more -/
theorem dicts_put {B H H2 : Hp} {rd d : Addr} {ns : List Str} {ws : List (Way Str)} {n : Str} (h : Dicts B H rd ns ws) (s : L2.Same H H2) (up : ∀ b, H b = none → B b = none) (hd : H d = none) (e : H2 d = some (.dK (hv (hts ws n)))) (small : ns.length ≤ 100) :
    ∃ H3, DPut H2 rd (.str n) (.ref d) H3 ∧ Dicts B H3 rd (ns ++ [n]) ws ∧ (∀ b o, H2 b = some o → b ≠ rd → H3 b = some o) ∧ ∀ b, H3 b = none → H2 b = none := by
  obtain ⟨kvs, e0, l, q⟩ := h
  have e2 := s _ _ e0
  refine ⟨_, DPut.k (k := Sum.inr n) e2 (line12 (by omega)), ⟨putK kvs (Sum.inr n) (.ref d), upd_same, ?_, fun x hx => ?_⟩, fun b o h1 h2 => by rw [upd_ne h2]; exact h1, fun b hb => ?_⟩
  · have := length_putK kvs (Sum.inr n) (V.ref d)
    rw [List.length_append, List.length_singleton]
    omega
  · rw [valV_put]
    by_cases z : x = n
    · refine ⟨d, by rw [if_pos (inr_eq.mpr z)], (ne_of_none e0 hd).symm, up d hd, ?_⟩
      rw [upd_ne (ne_of_none e0 hd).symm, z]
      exact e
    · rw [if_neg (fun q => z (inr_eq.mp q))]
      have hx' : x ∈ ns := by
        rcases List.mem_append.mp hx with r | r
        · exact r
        · exact (z (List.mem_singleton.mp r)).elim
      obtain ⟨d', h1, h2, h3, h4⟩ := q x hx'
      exact ⟨d', h1, h2, h3, by rw [upd_ne h2]; exact s _ _ h4⟩
  · by_cases z : b = rd
    · rw [z, upd_same] at hb
      cases hb
    · rw [upd_ne z] at hb
      exact hb

/-- behind the heap B roads stand at r: places ns, ways tw; what is theirs is new behind B -/
def RoadsAt (C : Addr) (B H : Hp) (r : Addr) (ns : List Str) (tw : TW) : Prop := ∃ dx tl ll rd, B r = none ∧ B tl = none ∧ (B ll = none ∧ B rd = none) ∧ H r = some (.ins C dx (fl tl ll rd)) ∧ H tl = some (.lst (sl ns)) ∧ H ll = some (.lst (wl tw)) ∧ Dicts B H rd ns (wy tw) ∧ Tups H tw
theorem roads_same {C : Addr} {B H H' : Hp} {r : Addr} {ns : List Str} {tw : TW} (s : L2.Same H H') (h : RoadsAt C B H r ns tw) : RoadsAt C B H' r ns tw := by
  obtain ⟨dx, tl, ll, rd, b1, b2, b3, h1, h2, h3, h4, h5⟩ := h
  exact ⟨dx, tl, ll, rd, b1, b2, b3, s _ _ h1, s _ _ h2, s _ _ h3, dicts_same s h4, h5.same s⟩
theorem roads_base {C : Addr} {B B' H : Hp} {r : Addr} {ns : List Str} {tw : TW} (s : L2.Same B B') (h : RoadsAt C B' H r ns tw) : RoadsAt C B H r ns tw := by
  obtain ⟨dx, tl, ll, rd, b1, b2, ⟨b3, b4⟩, h1, h2, h3, h4, h5⟩ := h
  exact ⟨dx, tl, ll, rd, s.free b1, s.free b2, ⟨s.free b3, s.free b4⟩, h1, h2, h3, dicts_base s h4, h5⟩

/-- what is given at the making of roads, and at their questions -/
structure Given (ns : List Str) (tw : TW) : Prop where
  nk : NamesOk ns
  wk : WaysOk ns (wy tw)
  few : tw.length ≤ 60
def spInit (K : PySem.W.Frag) (C : Addr) : Sp := fun vs H Q _ => ∃ (B : Hp) (p dx a b : Addr) (ns : List Str) (tw : TW), vs = [.ref p, .ref a, .ref b] ∧ L2.Same B H ∧ B p = none ∧ H p = some (.ins C dx []) ∧ SqL K B a (sl ns) ∧ SqL K B b (wl tw) ∧ Tups B tw ∧ Given ns tw ∧
  ∀ H', L2.Same B H' → RoadsAt C B H' p ns tw → Q .non H'
def spNames (C : Addr) : Sp := fun vs H Q _ => ∃ (B : Hp) (r : Addr) (ns : List Str) (tw : TW), vs = [.ref r] ∧ RoadsAt C B H r ns tw ∧ ∀ q, H q = none → Q (.ref q) (upd H q (.lst (sl ns)))
def spHts (C : Addr) : Sp := fun vs H Q _ => ∃ (B : Hp) (r : Addr) (o : Str) (ns : List Str) (tw : TW), vs = [.ref r, .str o] ∧ RoadsAt C B H r ns tw ∧ o ∈ ns ∧ ∀ q, H q = none → Q (.ref q) (upd H q (.dK (hv (hts (wy tw) o))))
def vOf : Option Int → V
  | some h => .int h
  | none => .non
def spLength (C : Addr) : Sp := fun vs H Q _ => ∃ (B : Hp) (r : Addr) (o g : Str) (ns : List Str) (tw : TW), vs = [.ref r, .str o, .str g] ∧ RoadsAt C B H r ns tw ∧ o ∈ ns ∧ g ∈ ns ∧ ∀ H', L2.Same H H' → Q (vOf (look (hts (wy tw) o) g)) H'
def spWay (C : Addr) : Sp := fun vs H Q _ => ∃ (B : Hp) (r : Addr) (o g : Str) (ns : List Str) (tw : TW), vs = [.ref r, .str o, .str g] ∧ RoadsAt C B H r ns tw ∧ Given ns tw ∧ o ∈ ns ∧ g ∈ ns ∧
  (look (hts (wy tw) o) g = none → ∀ H', L2.Same H H' → Q .non H') ∧ ∀ h, look (hts (wy tw) o) g = some h → ∀ q H', L2.Same H H' → Q (.ref q) H'
section
variable {P : Program} {w : World} {K : PySem.W.Frag} {mg : Str → Option Value} {base : Heap} {C : Addr}
theorem scI : FnScope ["self", "places", "ways", "place"] ["self", "places", "ways"] (defScope sInit) := ⟨rfl, rfl, rfl, by decide +kernel, rfl, by decide +kernel, by decide +kernel⟩
theorem ok_init {f : Addr} {fd : FuncData} (F : Fun K "__init__" "Roads.__init__" sInit f fd) (T : Txt K mg C) (N1 : Cal K mg "checked_name" sChName ["name"]) (N2 : Cal K mg "checked_number" sChNum ["value", "least"]) (N3 : Cal K mg "check_roads" sChRoads ["places", "ways"])
    (N4 : Cal K mg "heights_from" sHeights ["origin", "ways"]) : FnOk P w K mg base CX0 3 f fd ["self", "places", "ways"] (spInit K C) := by
  obtain ⟨f3, fd3, F3, g3, b3⟩ := N3
  obtain ⟨f4, fd4, F4, g4, b4⟩ := N4
  have G3 : FnOk P w K mg base CX0 2 f3 fd3 ["places", "ways"] (spChRoads K) := ok_chRoads F3 T N1 N2
  have G4 : FnOk P w K mg base CX0 1 f4 fd4 ["origin", "ways"] (spHeights K) := ok_heights F4
  refine F.ok scI (fun vs H Q E h => ?_) (fun cdv A outer s H vs Q E hr h => ?_)
  · obtain ⟨B, p, dx, a, b, ns, tw, rfl, _⟩ := h
    rfl
  · obtain ⟨B, p, dx, a, b, ns, tw, rfl, sB, bp, hp, hA, hB, hT, gv, k⟩ := h
    have hu := hu_of hr
    have hr1 : Room 1 _ := hr.mono (by decide)
    refine ⟨_, pss_cons (ps_expr (pe_call G3 hr (by rfl) g3 F3.kp b3 .nil pass0 (pa_cons (pv 1) (pa_cons (pv 2) pa_nil))))
      (pss_cons (ps_fld (pv 0) (pe_callTy call_list_of (by rfl) T.list boot_list (pa_cons (pv 1) pa_nil)) rfl)
      (pss_cons (ps_fld (pv 0) (pe_callTy call_list_of (by rfl) T.list boot_list (pa_cons (pv 2) pa_nil)) rfl)
      (pss_cons (ps_fld (pv 0) pe_dnewK rfl)
      (pss_one (ps_for PassesOwn.never rfl (pi_list (pe_fld (pv 0) rfl)) (pg_name (i := 3) scI.nd rfl (.inl rfl))
        (pss_one (ps_dput hu (pe_fld (pv 0) rfl) (pv 3) (pe_call G4 hr1 (by rfl) g4 F4.kp b4 .nil pass0 (pa_cons (pv 3) (pa_cons (pe_fld (pv 0) rfl) pa_nil))) rfl))))))), ?_⟩
    refine ⟨_, rfl, _, rfl, a, b, ns, tw, rfl, sB.seq hA, gv.nk, sB.seq hB, hT.same sB, gv.wk, gv.few, fun H1 s1 => ?_⟩
    have t1 : L2.Same B H1 := sB.trans s1
    have e1 := s1 _ _ hp
    -- self.towns = list(places)
    refine ⟨_, rfl, a, _, rfl, .inl (t1.seq hA), fun tl htl => ?_⟩
    have n1 : p ≠ tl := ne_of_none e1 htl
    refine ⟨_, rfl, p, C, dx, [], rfl, (by rw [upd_ne n1]; exact e1), T.cl, T.nT, (by show 0 < 1000; decide), ?_⟩
    have t2 : L2.Same B (upd (upd H1 tl (.lst (sl ns))) p (.ins C dx (putF "towns" (.ref tl) []))) := sput (sput t1 (t1.free htl)) bp
    generalize hH2 : upd (upd H1 tl (.lst (sl ns))) p (.ins C dx (putF "towns" (.ref tl) [])) = H2 at t2
    have e2 : H2 p = some (.ins C dx (putF "towns" (.ref tl) [])) := by rw [← hH2]; exact upd_same
    have d2 : H2 tl = some (.lst (sl ns)) := by rw [← hH2, upd_ne n1.symm]; exact upd_same
    -- self.lanes = list(ways)
    refine ⟨_, rfl, b, _, rfl, .inl (t2.seq hB), fun ll hll => ?_⟩
    have n2 : p ≠ ll := ne_of_none e2 hll
    have n3 : tl ≠ ll := ne_of_none d2 hll
    refine ⟨_, rfl, p, C, dx, _, rfl, (by rw [upd_ne n2]; exact e2), T.cl, T.nL, (by show 1 < 1000; decide), ?_⟩
    have t3 : L2.Same B (upd (upd H2 ll (.lst (wl tw))) p (.ins C dx (putF "lanes" (.ref ll) (putF "towns" (.ref tl) [])))) := sput (sput t2 (t2.free hll)) bp
    generalize hH3 : upd (upd H2 ll (.lst (wl tw))) p (.ins C dx (putF "lanes" (.ref ll) (putF "towns" (.ref tl) []))) = H3 at t3
    have e3 : H3 p = some (.ins C dx (putF "lanes" (.ref ll) (putF "towns" (.ref tl) []))) := by rw [← hH3]; exact upd_same
    have d3 : H3 tl = some (.lst (sl ns)) := by rw [← hH3, upd_ne n1.symm, upd_ne n3]; exact d2
    have c3 : H3 ll = some (.lst (wl tw)) := by rw [← hH3, upd_ne n2.symm]; exact upd_same
    -- self.reached = {}
    intro rd hrd
    have n4 : p ≠ rd := ne_of_none e3 hrd
    have n5 : tl ≠ rd := ne_of_none d3 hrd
    have n6 : ll ≠ rd := ne_of_none c3 hrd
    have few : (putF "lanes" (.ref ll) (putF "towns" (.ref tl) []) : List (Str × V)).length < 1000 := by
      have h1 := length_putF "towns" (.ref tl) []
      have h2 := length_putF "lanes" (.ref ll) (putF "towns" (.ref tl) [])
      rw [List.length_nil] at h1
      omega
    refine ⟨_, rfl, p, C, dx, _, rfl, (by rw [upd_ne n4]; exact e3), T.cl, T.nR, few, ?_⟩
    have t4 : L2.Same B (upd (upd H3 rd (.dK [])) p (.ins C dx (putF "reached" (.ref rd) (putF "lanes" (.ref ll) (putF "towns" (.ref tl) []))))) := sput (sput t3 (t3.free hrd)) bp
    generalize hH4 : upd (upd H3 rd (.dK [])) p (.ins C dx (putF "reached" (.ref rd) (putF "lanes" (.ref ll) (putF "towns" (.ref tl) [])))) = H4 at t4
    have e4 : H4 p = some (.ins C dx (fl tl ll rd)) := by rw [← hH4]; exact upd_same
    have d4 : H4 tl = some (.lst (sl ns)) := by rw [← hH4, upd_ne n1.symm, upd_ne n5]; exact d3
    have c4 : H4 ll = some (.lst (wl tw)) := by rw [← hH4, upd_ne n2.symm, upd_ne n6]; exact c3
    have r4 : H4 rd = some (.dK []) := by rw [← hH4, upd_ne n4.symm]; exact upd_same
    refine ⟨_, rfl, p, C, dx, _, _, rfl, e4, T.cl, T.nT, fl_towns _ _ _, tl, rfl, ⟨_, SqL.of d4⟩,
      for_list (K := K) (a := tl) (xs := sl ns) (fun i σ H' => ∃ v, σ = [some (V.ref p), some (V.ref a), some (V.ref b), v] ∧ L2.Same B H' ∧ H' p = some (.ins C dx (fl tl ll rd)) ∧ H' tl = some (.lst (sl ns)) ∧ H' ll = some (.lst (wl tw)) ∧ Dicts B H' rd (ns.take i) (wy tw))
      ⟨none, rfl, t4, e4, d4, c4, [], r4, Nat.le_refl _, fun n z => by cases z⟩ (fun i σ H' _ ⟨_, _, _, _, z, _⟩ => SqL.of z) ?_ ?_⟩
    · rintro i x σ H5 hi ⟨v, rfl, t5, e5, d5, c5, D5⟩
      obtain ⟨n, hn, rfl⟩ := sl_get hi
      have nm : n ∈ ns := List.mem_of_getElem? hn
      have l12 := gv.nk.hi
      refine ⟨_, rfl, _, rfl, p, C, dx, _, _, rfl, e5, T.cl, T.nL, fl_lanes _ _ _, n, ll, tw, ns, rfl, SqL.of c5, hT.same t5, gv.wk, nm, gv.nk.hi, fun d H6 s6 hd e6 => ?_⟩
      obtain ⟨H7, put7, D7, k7, _⟩ := dicts_put D5 s6 (fun b => t5.free) hd e6 (by rw [List.length_take]; omega)
      have rdn := t3.free hrd
      refine ⟨_, rfl, p, C, dx, _, _, rfl, s6 _ _ e5, T.cl, T.nR, fl_reached _ _ _, _, rfl, rd, H7, rfl, put7, ?_⟩
      obtain ⟨kv5, q5, _⟩ := D5
      refine ⟨_, rfl, fun c o e => k7 c o (s6 _ _ (t5 _ _ e)) (ne_of_none e rdn), k7 _ _ (s6 _ _ e5) (ne_of e5 q5 (by intro z; cases z)), k7 _ _ (s6 _ _ d5) (ne_of d5 q5 (by intro z; cases z)), k7 _ _ (s6 _ _ c5) (ne_of c5 q5 (by intro z; cases z)), ?_⟩
      rw [List.take_add_one, hn]
      exact D7
    · rintro σ H5 ⟨v, rfl, t5, e5, d5, c5, D5⟩
      rw [sl_len, List.take_length] at D5
      exact k H5 t5 ⟨dx, tl, ll, rd, bp, t1.free htl, ⟨t2.free hll, t3.free hrd⟩, e5, d5, c5, D5, hT.same t5⟩
theorem scN : FnScope ["self"] ["self"] (defScope sNames) := ⟨rfl, rfl, rfl, by decide +kernel, rfl, by decide +kernel, by decide +kernel⟩
theorem ok_names {f : Addr} {fd : FuncData} (F : Fun K "names" "Roads.names" sNames f fd) (T : Txt K mg C) : FnOk P w K mg base CX0 1 f fd ["self"] (spNames C) := by
  refine F.ok scN (fun vs H Q E h => ?_) (fun cdv A outer s H vs Q E hr h => ?_)
  · obtain ⟨B, r, ns, tw, rfl, _⟩ := h
    rfl
  · obtain ⟨B, r, ns, tw, rfl, ⟨dx, tl, ll, rd, _, _, _, h1, h2, _⟩, k⟩ := h
    refine ⟨_, pss_one (ps_ret (pe_callTy call_list_of (by rfl) T.list boot_list (pa_cons (pe_fld (pv 0) rfl) pa_nil))), ?_⟩
    exact ⟨_, rfl, r, C, dx, _, _, rfl, h1, T.cl, T.nT, fl_towns _ _ _, tl, _, rfl, .inl (SqL.of h2), k⟩
theorem scHs : FnScope ["self", "origin"] ["self", "origin"] (defScope sHts) := ⟨rfl, rfl, rfl, by decide +kernel, rfl, by decide +kernel, by decide +kernel⟩
theorem ok_hts {f : Addr} {fd : FuncData} (F : Fun K "heights" "Roads.heights" sHts f fd) (T : Txt K mg C) : FnOk P w K mg base CX0 1 f fd ["self", "origin"] (spHts C) := by
  refine F.ok scHs (fun vs H Q E h => ?_) (fun cdv A outer s H vs Q E hr h => ?_)
  · obtain ⟨B, r, o, ns, tw, rfl, _⟩ := h
    rfl
  · obtain ⟨B, r, o, ns, tw, rfl, ⟨dx, tl, ll, rd, _, _, _, h1, _, _, h4, _⟩, ho, k⟩ := h
    have hu := hu_of hr
    obtain ⟨d, g, _, _, e⟩ := dicts_get h4 ho
    refine ⟨_, pss_cons (ps_if (pt_cmp (pc_dnotin hu (pv 1) (pe_fld (pv 0) rfl))) (pss_one ps_never) pss_nil)
      (pss_one (ps_ret (pe_callTy call_dictD (by rfl) T.dict (by decide +kernel) (pa_cons (pe_dget hu (pe_fld (pv 0) rfl) (pv 1) (fun _ _ => rfl)) pa_nil)))), ?_⟩
    refine ⟨_, rfl, _, rfl, r, C, dx, _, _, rfl, h1, T.cl, T.nR, fl_reached _ _ _, rd, _, rfl, g, _, rfl, iteF ?_⟩
    exact ⟨_, rfl, r, C, dx, _, _, rfl, h1, T.cl, T.nR, fl_reached _ _ _, _, rfl, rd, _, rfl, g, d, _, rfl, .inl e, k⟩
theorem scLn : FnScope ["self", "origin", "goal", "place"] ["self", "origin", "goal"] (defScope sLength) := ⟨rfl, rfl, rfl, by decide +kernel, rfl, by decide +kernel, by decide +kernel⟩
theorem ok_length {f : Addr} {fd : FuncData} (F : Fun K "length" "Roads.length" sLength f fd) (T : Txt K mg C) : FnOk P w K mg base CX0 1 f fd ["self", "origin", "goal"] (spLength C) := by
  refine F.ok scLn (fun vs H Q E h => ?_) (fun cdv A outer s H vs Q E hr h => ?_)
  · obtain ⟨B, r, o, g, ns, tw, rfl, _⟩ := h
    rfl
  · obtain ⟨B, r, o, g, ns, tw, rfl, R, ho, hg, k⟩ := h
    have hu := hu_of hr
    refine ⟨_, pss_cons (ps_for PassesOwn.never rfl (pi_list (pe_lst (pa_cons (pv 1) (pa_cons (pv 2) pa_nil)))) (pg_name (i := 3) scLn.nd rfl (.inl rfl))
        (pss_one (ps_if (pt_cmp (pc_dnotin hu (pv 3) (pe_fld (pv 0) rfl))) (pss_one ps_never) pss_nil)))
      (pss_one (ps_ret (pe_dget1 hu (pe_dget hu (pe_fld (pv 0) rfl) (pv 1) (fun _ _ => rfl)) (pv 2) ⟨rfl, rfl, rfl, rfl⟩))), ?_⟩
    refine ⟨_, rfl, _, rfl, (by show 2 ≤ sizeLine; decide), fun q hq => ?_⟩
    have s1 : L2.Same H (upd H q (.lst [V.str o, V.str g])) := snew hq
    have at_ : (upd H q (.lst [V.str o, V.str g])) q = some (.lst [V.str o, V.str g]) := upd_same
    generalize upd H q (.lst [V.str o, V.str g]) = H1 at s1 at_
    obtain ⟨dx, tl, ll, rd, _, _, _, h1, _, _, h4, _⟩ := roads_same s1 R
    refine ⟨q, rfl, ⟨_, SqL.of at_⟩, for_list (K := K) (a := q) (xs := [V.str o, V.str g]) (fun i σ H' => ∃ v, σ = [some (V.ref r), some (V.str o), some (V.str g), v] ∧ H' = H1) ⟨none, rfl, rfl⟩ (fun i σ H' _ ⟨_, _, e⟩ => by rw [e]; exact SqL.of at_) ?_ ?_⟩
    · rintro j y σ H3 hj ⟨v, rfl, rfl⟩
      obtain ⟨n, nm, rfl⟩ : ∃ n, n ∈ ns ∧ y = V.str n := by
        match j, hj with
        | 0, hj => exact ⟨o, ho, (Option.some.inj hj).symm⟩
        | 1, hj => exact ⟨g, hg, (Option.some.inj hj).symm⟩
        | j + 2, hj => cases hj
      obtain ⟨d, gt, _, _, e⟩ := dicts_get h4 nm
      refine ⟨_, rfl, _, rfl, r, C, dx, _, _, rfl, h1, T.cl, T.nR, fl_reached _ _ _, rd, _, rfl, gt, _, rfl, iteF ⟨_, rfl, rfl⟩⟩
    · rintro σ H3 ⟨v, rfl, rfl⟩
      obtain ⟨d, gt, _, _, e⟩ := dicts_get h4 ho
      refine ⟨_, rfl, r, C, dx, _, _, rfl, h1, T.cl, T.nR, fl_reached _ _ _, _, rfl, rd, _, rfl, gt, d, rfl, .inl ⟨_, .inl e⟩, _, rfl, _, hv_get e g, ?_⟩
      have z := k H3 s1
      cases q : look (hts (wy tw) o) g with
      | none => rw [q] at z; exact z
      | some h => rw [q] at z; exact z
end
end Fl

/-! ## FlWay -/
set_option Elab.async false
set_option linter.all false
set_option maxRecDepth 100000
set_option maxHeartbeats 4000000
namespace Fl
open PySem PySem.Spec PyProof.Rows L2
section
variable {P : Program} {w : World} {K : PySem.W.Frag} {mg : Str → Option Value} {base : Heap} {C : Addr}
theorem scW : FnScope ["self", "origin", "goal", "places"] ["self", "origin", "goal"] (defScope sWay) := ⟨rfl, rfl, rfl, by decide +kernel, rfl, by decide +kernel, by decide +kernel⟩
theorem ok_way {f : Addr} {fd : FuncData} (F : Fun K "way" "Roads.way" sWay f fd) (T : Txt K mg C) (N1 : Cal K mg "place_ahead" sAhead ["place", "heights", "ways"]) (N2 : Met K C "length" "Roads.length" sLength ["self", "origin", "goal"]) :
    FnOk P w K mg base CX0 2 f fd ["self", "origin", "goal"] (spWay C) := by
  obtain ⟨f1, fd1, F1, g1, b1⟩ := N1
  obtain ⟨f2, fd2, F2, m2, b2⟩ := N2
  have G1 : FnOk P w K mg base CX0 1 f1 fd1 ["place", "heights", "ways"] (spAhead K) := ok_ahead F1
  have G2 : FnOk P w K mg base CX0 1 f2 fd2 ["self", "origin", "goal"] (spLength C) := ok_length F2 T
  refine F.ok scW (fun vs H Q E h => ?_) (fun cdv A outer s H vs Q E hr h => ?_)
  · obtain ⟨B, r, o, g, ns, tw, rfl, _⟩ := h
    rfl
  · obtain ⟨B, r, o, g, ns, tw, rfl, R, gv, ho, hg, k0, k1⟩ := h
    have hu := hu_of hr
    refine ⟨_, pss_cons (ps_if (pt_cmp (pc_isN (pe_meth (pv 0) T.cl m2 G2 hr b2 .nil pass0 (pa_cons (pv 1) (pa_cons (pv 2) pa_nil))))) (pss_one (ps_ret pe_non)) pss_nil)
      (pss_cons (ps_set (i := 3) scW.nd rfl (.inl rfl) (pe_lst (pa_cons (pv 2) pa_nil)))
      (pss_cons (ps_while PassesOwn.never (pt_cmpR op_ne (pe_ix ix_list (pv 3) (pe_un un_neg pe_int) (fun _ _ => rfl)) (pv 1) (nomark _))
        (pss_one (ps_expr (pe_bm PySem.F.plainAttrs_list PySem.F.slot_list_append PySem.F.type_list_append mt_append (pv 3)
          (pa_cons (pe_call G1 hr (by rfl) g1 F1.kp b1 .nil pass0 (pa_cons (pe_ix ix_list (pv 3) (pe_un un_neg pe_int) (fun _ _ => rfl)) (pa_cons (pe_dget hu (pe_fld (pv 0) rfl) (pv 1) (fun _ _ => rfl)) (pa_cons (pe_fld (pv 0) rfl) pa_nil)))) pa_nil)))))
      (pss_one (ps_ret (pe_listRev rfl rfl T.list rfl T.reversed (pv 3)))))), ?_⟩
    obtain ⟨dx0, tl0, ll0, rd0, _, _, _, h0, _⟩ := id R
    refine ⟨_, rfl, r, dx0, _, rfl, h0, fl_no _ _ _ (by decide +kernel) (by decide +kernel) (by decide +kernel), _, rfl, _, rfl, B, r, o, g, ns, tw, rfl, R, ho, hg, fun H1 s1 => ?_⟩
    refine ⟨_, rfl, ?_⟩
    have fin := hts_fin gv.wk ho
    cases q : look (hts (wy tw) o) g with
    | none => exact iteT (k0 q H1 s1)
    | some h =>
      refine iteF ⟨_, rfl, (by show 1 ≤ sizeLine; decide), fun p hp => ?_⟩
      have kk := k1 h q
      have R1 := roads_same s1 R
      have len12 := fin.good.len
      have l12 := gv.nk.hi
      refine while_m (fun m σ H' => ∃ (xs : List Str) (x : Str) (hx : Int), σ = [some (V.ref r), some (V.str o), some (V.str g), some (V.ref p)] ∧ L2.Same H1 H' ∧ H' p = some (.lst (sl xs ++ [V.str x])) ∧ look (hts (wy tw) o) x = some hx ∧
        m = rk (hts (wy tw) o) hx ∧ xs.length + m ≤ (hts (wy tw) o).length) (m0 := rk (hts (wy tw) o) h) ⟨[], g, h, rfl, snew hp, upd_same, q, rfl, by have := rk_le (hts (wy tw) o) h; simpa using this⟩ ?_
        (fun σ H Q Q' k h => by
          obtain ⟨v, e, i, e1, a, xs, j, u, e2, e3, h1, h2, v2, e4, e5, c, e6, z⟩ := h
          exact ⟨v, e, i, e1, a, xs, j, u, e2, e3, h1, h2, v2, e4, e5, c, e6, k _ _ z⟩)
      rintro m σ H2 ⟨xs, x, hx, rfl, s2, h2, lx, rfl, bound⟩
      have R2 := roads_same s2 R1
      have T2 : Tups H2 tw := let ⟨_, _, _, _, _, _, _, _, _, _, _, z⟩ := R2; z
      obtain ⟨dx, tl, ll, rd, _, _, _, e1, _, e3, e4, _⟩ := id R2
      obtain ⟨d, gt, _, _, ed⟩ := dicts_get e4 ho
      have last : atI (sl xs ++ [V.str x]) (-1) = some (V.str x) := atI_last _ _
      refine ⟨_, rfl, _, rfl, p, _, _, _, rfl, rfl, SqL.of h2, last, _, rfl, rfl, _, rfl, ?_⟩
      by_cases xo : x = o
      · rw [decide_eq_true (show V.str x = V.str o by rw [xo])]
        refine iteF ⟨_, rfl, p, _, rfl, SqL.of h2, fun l hl => ?_⟩
        exact kk l _ ((s1.trans s2).trans (snew hl))
      · rw [str_ne xo]
        obtain ⟨v, vm, tv⟩ := fin.tight lx xo
        refine iteT ⟨_, rfl, .inl ⟨rfl, _, SqL.of h2⟩, _, rfl, _, rfl, p, _, _, _, rfl, rfl, SqL.of h2, last, _, rfl, r, C, dx, _, _, rfl, e1, T.cl, T.nR, fl_reached _ _ _, _, rfl, rd, _, rfl, gt, _, rfl, r, C, dx, _, _, rfl, e1, T.cl, T.nL, fl_lanes _ _ _,
          x, hx, d, ll, hts (wy tw) o, tw, rfl, ed, SqL.of e3, T2, lx, ⟨v, vm, tv⟩, fun u um tu => ?_⟩
        obtain ⟨_, a', h', q1, q2, q3⟩ := tu
        have eh : hx = h' := Option.some.inj (lx.symm.trans q2)
        obtain ⟨_, _, u1, u2⟩ := gv.wk u um
        have lower : rk (hts (wy tw) o) a' < rk (hts (wy tw) o) hx := rk_lt (by omega) (look_mem q1)
        refine ⟨p, _, _, rfl, rfl, h2, ?_, ?_⟩
        · refine line12 ?_
          rw [List.length_append, sl_len, List.length_singleton]
          omega
        · refine ⟨rk (hts (wy tw) o) a', lower, xs ++ [x], u.1, a', rfl, sput s2 (by
            cases z : H1 p with
            | none => rfl
            | some ob => exact absurd hp (by rw [z]; exact fun y => nomatch y)), ?_, q1, rfl, ?_⟩
          · rw [upd_same]
            unfold sl
            rw [List.map_append]
            rfl
          · rw [List.length_append, List.length_singleton]
            omega
end
end Fl

/-! ## FlLaw1 -/
set_option Elab.async false
set_option linter.all false
set_option maxRecDepth 100000
set_option maxHeartbeats 4000000
/-! The law's small readers. -/
namespace Fl
open PySem PySem.Spec PyProof.Rows L2
def spCell (K : PySem.W.Frag) : Sp := fun vs H Q _ => ∃ (a : Addr) (zs : List Int) (k : Nat), vs = [.ref a, .int (k : Int)] ∧ SqL K H a (zs.map V.int) ∧ k ≤ 100 ∧ ∀ z : Int, Q (.int z) H
def spMix : Sp := fun vs H Q _ => ∃ (c t : Int), vs = [.int c, .int t] ∧ 0 ≤ t ∧ t ≤ 200 ∧ ∀ z : Int, 0 ≤ z → z ≤ 268435456 → Q (.int z) H
def spWhole : Sp := fun vs H Q _ => ∃ i : Int, vs = [.int i] ∧ Q (.bl true) H
def spLLen : Sp := fun vs H Q _ => ∃ c : Int, vs = [.int c] ∧ ∀ z : Int, 1 ≤ z → z ≤ 1000000000 → Q (.int z) H
section
variable {P : Program} {w : World} {K : PySem.W.Frag} {mg : Str → Option Value} {base : Heap} {C : Addr}
theorem scCe : FnScope ["_law_script", "_law_k"] ["_law_script", "_law_k"] (defScope sLCell) := ⟨rfl, rfl, rfl, by decide +kernel, rfl, by decide +kernel, by decide +kernel⟩
theorem ok_cell {f : Addr} {fd : FuncData} (F : Fun K "_law_cell" "_law_cell" sLCell f fd) (T : Txt K mg C) : FnOk P w K mg base CX0 1 f fd ["_law_script", "_law_k"] (spCell K) := by
  refine F.ok scCe (fun vs H Q E h => ?_) (fun cdv A outer s H vs Q E hr h => ?_)
  · obtain ⟨a, zs, n, rfl, _⟩ := h
    rfl
  · obtain ⟨a, zs, n, rfl, hL, hn, k⟩ := h
    refine ⟨_, pss_cons (ps_if (pt_cmpR op_lt (pv 1) (pe_callB call_len_seq (by rfl) T.len PySem.boot_len (pa_cons (pv 0) pa_nil)) (nomark _)) (pss_one (ps_ret (pe_ix ix_list (pv 0) (pv 1) (fun _ _ => rfl)))) pss_nil)
      (pss_one (ps_ret (pe_op op_mul (pv 1) (pv 1)))), ?_⟩
    refine ⟨_, rfl, _, rfl, a, _, rfl, .inl hL, _, _, rfl, rfl, _, rfl, ?_⟩
    refine ite2 (fun c => ?_) (fun _ => ?_)
    · have lt : n < (zs.map V.int).length := by have := of_decide_eq_true c; omega
      have lt2 : n < zs.length := by rw [List.length_map] at lt; exact lt
      refine ⟨_, rfl, _, rfl, a, _, _, V.int zs[n], rfl, rfl, hL, atI_nat ?_, k _⟩
      rw [List.getElem?_map, List.getElem?_eq_getElem lt2]
      rfl
    · exact ⟨_, rfl, _, rfl, _, _, rfl, rfl, .inl ⟨by omega, by omega⟩, k _⟩
theorem scMi : FnScope ["_law_cell_here", "_law_turn", "_law_number"] ["_law_cell_here", "_law_turn"] (defScope sLMix) := ⟨rfl, rfl, rfl, by decide +kernel, rfl, by decide +kernel, by decide +kernel⟩
theorem ok_mix {f : Addr} {fd : FuncData} (F : Fun K "_law_mix" "_law_mix" sLMix f fd) : FnOk P w K mg base CX0 1 f fd ["_law_cell_here", "_law_turn"] spMix := by
  refine F.ok scMi (fun vs H Q E h => ?_) (fun cdv A outer s H vs Q E hr h => ?_)
  · obtain ⟨c, t, rfl, _⟩ := h
    rfl
  · obtain ⟨c, t, rfl, t0, t1, k⟩ := h
    refine ⟨_, pss_cons (ps_set (i := 2) scMi.nd rfl (.inl rfl) (pe_op op_add (pe_op op_mul (pe_op op_mod (pv 0) pe_int) pe_int) (pe_op op_mul (pv 1) pe_int)))
      (pss_one (ps_ret (pe_op op_fdiv (pe_op op_mod (pe_op op_mul (pv 2) (pv 2)) pe_int) pe_int))), ?_⟩
    have c0 := Int.emod_nonneg c (show (2147483647 : Int) ≠ 0 by decide)
    have c1 := Int.emod_lt_of_pos c (show (0 : Int) < 2147483647 by decide)
    refine ⟨_, rfl, _, _, rfl, rfl, (by show (0 : Int) < 2147483647; decide), _, _, rfl, rfl, .inr ⟨by decide, by decide⟩, _, rfl, _, _, rfl, rfl, .inr ⟨by decide, by decide⟩, _, _, rfl, rfl, ?_⟩
    have n0 : -(2 ^ 64) < c % 2147483647 * 48271 + t * 69621 := by omega
    have n1 : c % 2147483647 * 48271 + t * 69621 < 2 ^ 64 := by omega
    refine ⟨_, rfl, _, rfl, _, _, rfl, rfl, .inl ⟨n0, n1⟩, _, _, rfl, rfl, (by show (0 : Int) < 2147483629; decide), _, _, rfl, rfl, ⟨by decide, by decide⟩, ?_⟩
    generalize c % 2147483647 * 48271 + t * 69621 = n at *
    have m0 := Int.emod_nonneg (n * n) (show (2147483629 : Int) ≠ 0 by decide)
    have m1 := Int.emod_lt_of_pos (n * n) (show (0 : Int) < 2147483629 by decide)
    exact k _ (by omega) (by omega)
theorem scWh : FnScope ["_law_found"] ["_law_found"] (defScope sLWhole) := ⟨rfl, rfl, rfl, by decide +kernel, rfl, by decide +kernel, by decide +kernel⟩
theorem ok_whole {f : Addr} {fd : FuncData} (F : Fun K "_law_whole" "_law_whole" sLWhole f fd) (T : Txt K mg C) : FnOk P w K mg base CX0 1 f fd ["_law_found"] spWhole := by
  refine F.ok scWh (fun vs H Q E h => ?_) (fun cdv A outer s H vs Q E hr h => ?_)
  · obtain ⟨i, rfl, _⟩ := h
    rfl
  · obtain ⟨i, rfl, k⟩ := h
    refine ⟨_, pss_one (ps_ret (pe_and (pe_callB call_isi (by rfl) T.isinstance (by decide +kernel) (pa_cons (pv 0) (pa_cons (pe_bltn (v := .ty "int") (by rfl) T.int boot_int rfl) pa_nil)))
      (pe_one (pe_not (pe_callB call_isi (by rfl) T.isinstance (by decide +kernel) (pa_cons (pv 0) (pa_cons (pe_bltn (v := .ty "bool") (by rfl) T.bool boot_bool rfl) pa_nil))))))), ?_⟩
    refine ⟨_, rfl, _, _, _, _, true, rfl, .ty _, .base (.int i), kit_ty (by decide +kernel), true, rfl, iteT ?_⟩
    exact ⟨_, rfl, _, _, _, _, false, rfl, .ty _, .base (.int i), kit_ty (by decide +kernel), false, rfl, k⟩
theorem scLe : FnScope ["_law_cell_here", "_law_some"] ["_law_cell_here"] (defScope sLLength) := ⟨rfl, rfl, rfl, by decide +kernel, rfl, by decide +kernel, by decide +kernel⟩
theorem ok_llen {f : Addr} {fd : FuncData} (F : Fun K "_law_length" "_law_length" sLLength f fd) (N1 : Cal K mg "_law_mix" sLMix ["_law_cell_here", "_law_turn"]) : FnOk P w K mg base CX0 2 f fd ["_law_cell_here"] spLLen := by
  obtain ⟨f1, fd1, F1, g1, b1⟩ := N1
  have G1 : FnOk P w K mg base CX0 1 f1 fd1 ["_law_cell_here", "_law_turn"] spMix := ok_mix F1
  refine F.ok scLe (fun vs H Q E h => ?_) (fun cdv A outer s H vs Q E hr h => ?_)
  · obtain ⟨c, rfl, _⟩ := h
    rfl
  · obtain ⟨c, rfl, k⟩ := h
    refine ⟨_, pss_cons (ps_set (i := 1) scLe.nd rfl (.inl rfl) (pe_call G1 hr (by rfl) g1 F1.kp b1 .nil pass0 (pa_cons (pv 0) (pa_cons pe_int pa_nil))))
      (pss_cons (ps_if (pt_cmpR op_eq (pe_op op_mod (pv 1) pe_int) pe_int (nomark _)) (pss_one (ps_ret (pe_op op_add pe_int (pe_op op_mod (pe_op op_fdiv (pv 1) pe_int) pe_int)))) pss_nil)
      (pss_cons (ps_if (pt_cmpR op_eq (pe_op op_mod (pv 1) pe_int) pe_int (nomark _)) (pss_one (ps_ret (pe_op op_add pe_int (pe_op op_mod (pe_op op_fdiv (pv 1) pe_int) pe_int)))) pss_nil)
      (pss_cons (ps_if (pt_cmpR op_eq (pe_op op_mod (pv 1) pe_int) pe_int (nomark _)) (pss_one (ps_ret (pe_op op_add pe_int (pe_op op_mod (pe_op op_mul (pe_op op_fdiv (pv 1) pe_int) pe_int) pe_int)))) pss_nil)
      (pss_one (ps_ret (pe_op op_sub pe_int (pe_op op_mod (pe_op op_fdiv (pv 1) pe_int) pe_int))))))), ?_⟩
    refine ⟨_, rfl, _, _, rfl, (by decide), (by decide), fun z z0 z1 => ?_⟩
    have d4 : CDiv z 4 := ⟨by decide, by decide⟩
    refine ⟨_, rfl, _, _, rfl, rfl, (by show (0 : Int) < 4; decide), rfl, _, rfl, ?_⟩
    refine ite2 (fun _ => ?_) (fun _ => ?_)
    · exact ⟨_, rfl, _, _, rfl, rfl, d4, _, _, rfl, rfl, (by show (0 : Int) < 3; decide), _, _, rfl, rfl, k _ (by omega) (by omega)⟩
    refine ⟨_, rfl, _, _, rfl, rfl, (by show (0 : Int) < 4; decide), rfl, _, rfl, ?_⟩
    refine ite2 (fun _ => ?_) (fun _ => ?_)
    · exact ⟨_, rfl, _, _, rfl, rfl, d4, _, _, rfl, rfl, (by show (0 : Int) < 60; decide), _, _, rfl, rfl, k _ (by omega) (by omega)⟩
    refine ⟨_, rfl, _, _, rfl, rfl, (by show (0 : Int) < 4; decide), rfl, _, rfl, ?_⟩
    refine ite2 (fun _ => ?_) (fun _ => ?_)
    · exact ⟨_, rfl, _, _, rfl, rfl, d4, _, _, rfl, rfl, .inr ⟨by decide, by decide⟩, _, _, rfl, rfl, (by show (0 : Int) < 1000000000; decide), _, _, rfl, rfl, k _ (by omega) (by omega)⟩
    · exact ⟨_, rfl, _, _, rfl, rfl, d4, _, _, rfl, rfl, (by show (0 : Int) < 3; decide), _, _, rfl, rfl, k _ (by omega) (by omega)⟩
end
end Fl

/-! ## FlNm -/
set_option Elab.async false
set_option linter.all false
set_option maxRecDepth 100000
set_option maxHeartbeats 4000000
/-! The names that the law makes: they are names, and differ. -/
namespace Fl
open PySem PySem.Spec PyProof.Rows L2
def sgL : List Nat := [97, 98, 99, 100, 101, 102, 103, 104, 105, 106, 107, 108, 109, 110, 111, 112, 113, 114, 115, 116, 117, 118, 119, 120, 121, 122, 48, 49, 50, 51, 52, 53, 54, 55, 56, 57]
theorem sg_list : SG.cps.toList = sgL := by decide +kernel
theorem sg_nd : sgL.Nodup := by decide +kernel
theorem sg_len : SG.length = 36 := by decide +kernel
def sgc (z : Int) : Nat := sgL.getD z.toNat 0
theorem sgL_len : sgL.length = 36 := rfl
theorem sgc_get {z : Int} (h0 : 0 ≤ z) (h1 : z < 36) : sgL[z.toNat]? = some (sgc z) := by
  have lt : z.toNat < sgL.length := by rw [sgL_len]; omega
  unfold sgc
  rw [List.getD_eq_getElem?_getD, List.getElem?_eq_getElem lt]
  rfl
theorem sgc_at {z : Int} (h0 : 0 ≤ z) (h1 : z < 36) : atI SG.cps.toList z = some (sgc z) := by
  rw [sg_list]
  have q := atI_nat (sgc_get h0 h1)
  rw [Int.toNat_of_nonneg h0] at q
  exact q
theorem sgc_mem {z : Int} (h0 : 0 ≤ z) (h1 : z < 36) : sgc z ∈ SG.cps.toList := by
  rw [sg_list]
  exact List.mem_of_getElem? (sgc_get h0 h1)
theorem sgc_inj {z y : Int} (h0 : 0 ≤ z) (h1 : z < 36) (k0 : 0 ≤ y) (k1 : y < 36) (e : sgc z = sgc y) : z = y := by
  have a := sgc_get h0 h1
  have b := sgc_get k0 k1
  rw [e] at a
  have := nd_ix sg_nd a b
  omega
/-- a text of signs -/
def Sgs (b : Str) : Prop := ∀ c ∈ b.cps.toList, c ∈ SG.cps.toList
theorem len_toL (b : Str) : b.cps.toList.length = b.length := Array.length_toList
theorem app_toL (a b : Str) : (a ++ b).cps.toList = a.cps.toList ++ b.cps.toList := by
  rw [Str.cps_append, Array.toList_append]
theorem cut_toL (b : Str) (lo hi : Option Int) : (cutS b lo hi).cps.toList = (b.cps.toList.drop (HT.sIx b.length 0 lo)).take (HT.sIx b.length b.length hi - HT.sIx b.length 0 lo) := rfl
theorem sgs_cut {b : Str} (h : Sgs b) (lo hi : Option Int) : Sgs (cutS b lo hi) := fun c hc => by
  rw [cut_toL] at hc
  exact h c (List.mem_of_mem_drop (List.mem_of_mem_take hc))
theorem sgs_app {a b : Str} (h : Sgs a) (k : Sgs b) : Sgs (a ++ b) := fun c hc => by
  rw [app_toL] at hc
  rcases List.mem_append.mp hc with z | z
  · exact h c z
  · exact k c z
theorem sgs_one {c : Nat} (h : c ∈ SG.cps.toList) : Sgs ⟨#[c]⟩ := fun d hd => by
  have : d = c := by simpa using hd
  rw [this]
  exact h
theorem sgs_empty : Sgs Str.empty := fun c hc => by cases hc
/-- texts by their number: all differ -/
theorem nodup_map {β : Type} {f : Nat → β} : ∀ m, (∀ i j, i < m → j < m → f i = f j → i = j) → ((List.range m).map f).Nodup
  | 0, _ => List.nodup_nil
  | m + 1, h => by
    rw [List.range_succ, List.map_append]
    refine List.nodup_append.mpr ⟨nodup_map m fun i j hi hj => h i j (by omega) (by omega), by simp, ?_⟩
    intro x hx y hy e
    obtain ⟨i, hi, rfl⟩ := List.mem_map.mp hx
    have hy' : y = f m := by simpa using hy
    have := h i m (by have := List.mem_range.mp hi; omega) (by omega) (e.trans hy')
    have := List.mem_range.mp hi
    omega
theorem names_of {f : Nat → Str} {m : Nat} (h1 : 1 ≤ m) (h2 : m ≤ 12) (ok : ∀ i, i < m → NmOk (f i)) (inj : ∀ i j, i < m → j < m → f i = f j → i = j) : NamesOk ((List.range m).map f) := by
  refine ⟨nodup_map m inj, fun n hn => ?_, by rw [List.length_map, List.length_range]; exact h1, by rw [List.length_map, List.length_range]; exact h2⟩
  obtain ⟨i, hi, rfl⟩ := List.mem_map.mp hn
  exact ok i (List.mem_range.mp hi)

/-! ### beginnings of one another -/
def nA (b : Str) (m i : Nat) : Str := cutS b none (some ((m : Int) - (0 + (i : Int))))
theorem nA_len {b : Str} {m i : Nat} (hb : b.length = 12) (hm : m ≤ 12) (hi : i < m) : (nA b m i).length = m - i := by
  have e : (m : Int) - (0 + (i : Int)) = ((m - i : Nat) : Int) := by omega
  unfold nA
  rw [← len_toL, cut_toL, e, hb, HT.sIx_none, HT.sIx_nat, List.length_take, List.length_drop, len_toL, hb]
  omega
theorem namesA {b : Str} {m : Nat} (hb : b.length = 12) (hs : Sgs b) (h1 : 1 ≤ m) (h2 : m ≤ 12) : NamesOk ((List.range m).map (nA b m)) := by
  refine names_of h1 h2 (fun i hi => ⟨?_, ?_, sgs_cut hs _ _⟩) fun i j hi hj e => ?_
  · rw [nA_len hb h2 hi]; omega
  · rw [nA_len hb h2 hi]; omega
  · have a := nA_len hb h2 hi
    have c := nA_len hb h2 hj
    rw [e, c] at a
    omega

/-! ### they differ at one place -/
def nS (b : Str) (p s f : Int) (i : Nat) : Str := cutS b none (some p) ++ ⟨#[sgc ((f + (0 + (i : Int))) % 36)]⟩ ++ cutS b (some (p + 1)) (some s)
def nT (b : Str) (i : Nat) : Str := if (0 + (i : Int)) % 2 = 1 then cutS b (some 11) none else Str.empty
def nF (b : Str) (p s f : Int) (i : Nat) : Str := nS b p s f i ++ nT b i
theorem toNat_int {p : Int} (h : 0 ≤ p) : p = ((p.toNat : Nat) : Int) := by omega
section
variable {b : Str} {p s f : Int}
theorem nS_toL (hb : b.length = 12) (p0 : 0 ≤ p) (ps : p < s) (s11 : s ≤ 11) (i : Nat) : (nS b p s f i).cps.toList = b.cps.toList.take p.toNat ++ sgc ((f + (0 + (i : Int))) % 36) :: (b.cps.toList.drop (p.toNat + 1)).take (s.toNat - (p.toNat + 1)) := by
  have e1 : p = ((p.toNat : Nat) : Int) := by omega
  have e2 : p + 1 = ((p.toNat + 1 : Nat) : Int) := by omega
  have e3 : s = ((s.toNat : Nat) : Int) := by omega
  have c1 : (cutS b none (some p)).cps.toList = b.cps.toList.take p.toNat := by
    rw [cut_toL, hb, HT.sIx_none, e1, HT.sIx_nat, ← e1, List.drop_zero]
    congr 1
    omega
  have c2 : (cutS b (some (p + 1)) (some s)).cps.toList = (b.cps.toList.drop (p.toNat + 1)).take (s.toNat - (p.toNat + 1)) := by
    rw [cut_toL, hb, e2, HT.sIx_nat, e3, HT.sIx_nat, ← e3]
    rw [show min (p.toNat + 1) 12 = p.toNat + 1 by omega, show min s.toNat 12 = s.toNat by omega]
  unfold nS
  rw [app_toL, app_toL, c1, c2, List.append_assoc]
  rfl
theorem nS_len (hb : b.length = 12) (p0 : 0 ≤ p) (ps : p < s) (s11 : s ≤ 11) (i : Nat) : (nS b p s f i).length = s.toNat := by
  rw [← len_toL, nS_toL hb p0 ps s11, List.length_append, List.length_cons, List.length_take, List.length_take, List.length_drop, len_toL, hb]
  omega
theorem nS_at (hb : b.length = 12) (p0 : 0 ≤ p) (ps : p < s) (s11 : s ≤ 11) (i : Nat) : (nS b p s f i).cps.toList[p.toNat]? = some (sgc ((f + (0 + (i : Int))) % 36)) := by
  rw [nS_toL hb p0 ps s11]
  have l : (b.cps.toList.take p.toNat).length = p.toNat := by rw [List.length_take, len_toL, hb]; omega
  rw [List.getElem?_append_right (by rw [l]; exact Nat.le_refl _), l, Nat.sub_self]
  rfl
theorem nT_len (hb : b.length = 12) (i : Nat) : (nT b i).length ≤ 1 := by
  unfold nT
  split
  · rw [← len_toL, cut_toL, hb, show ((11 : Int)) = ((11 : Nat) : Int) from rfl, HT.sIx_nat, HT.sIx_none, List.length_take, List.length_drop, len_toL, hb]
    omega
  · exact Nat.zero_le _
theorem nT_sgs (hs : Sgs b) (i : Nat) : Sgs (nT b i) := by
  unfold nT
  split
  · exact sgs_cut hs _ _
  · exact sgs_empty
theorem f36 (i : Nat) : 0 ≤ (f + (0 + (i : Int))) % 36 ∧ (f + (0 + (i : Int))) % 36 < 36 := ⟨Int.emod_nonneg _ (by decide), Int.emod_lt_of_pos _ (by decide)⟩
theorem nS_sgs (hs : Sgs b) (i : Nat) : Sgs (nS b p s f i) := sgs_app (sgs_app (sgs_cut hs _ _) (sgs_one (sgc_mem (f36 i).1 (f36 i).2))) (sgs_cut hs _ _)
theorem namesB {m : Nat} (hb : b.length = 12) (hs : Sgs b) (p0 : 0 ≤ p) (ps : p < s) (s11 : s ≤ 11) (h1 : 1 ≤ m) (h2 : m ≤ 12) : NamesOk ((List.range m).map (nF b p s f)) := by
  refine names_of h1 h2 (fun i hi => ?_) fun i j hi hj e => ?_
  · have a := nS_len (f := f) hb p0 ps s11 i
    have c := nT_len hb i
    have l : (nF b p s f i).length = (nS b p s f i).length + (nT b i).length := Str.length_append _ _
    exact ⟨by omega, by omega, sgs_app (nS_sgs hs i) (nT_sgs hs i)⟩
  · have at_ : ∀ k, (nF b p s f k).cps.toList[p.toNat]? = some (sgc ((f + (0 + (k : Int))) % 36)) := fun k => by
      unfold nF
      rw [app_toL, List.getElem?_append_left (by rw [len_toL, nS_len hb p0 ps s11]; omega)]
      exact nS_at hb p0 ps s11 k
    have a := at_ i
    rw [e, at_ j] at a
    have q := sgc_inj (f36 j).1 (f36 j).2 (f36 i).1 (f36 i).2 (Option.some.inj a)
    omega
end
end Fl

/-! ## FlLNames -/
set_option Elab.async false
set_option linter.all false
set_option maxRecDepth 100000
set_option maxHeartbeats 4000000
namespace Fl
open PySem PySem.Spec PyProof.Rows L2
def spLNames : Sp := fun vs H Q _ => ∃ (c : Int) (m : Nat), vs = [.int c, .int (m : Int)] ∧ 1 ≤ m ∧ m ≤ 12 ∧ ∀ ns q H', NamesOk ns → L2.Same H H' → H q = none → H' q = some (.lst (sl ns)) → Q (.ref q) H'
abbrev nLN : List Str := ["_law_cell_here", "_law_many", "_law_signs", "_law_base", "_law_k", "_law_size", "_law_at", "_law_first", "_law_some"]
section
variable {P : Program} {w : World} {K : PySem.W.Frag} {mg : Str → Option Value} {base : Heap} {C : Addr}
theorem scNm : FnScope nLN ["_law_cell_here", "_law_many"] (defScope sLNames) := ⟨rfl, rfl, rfl, by decide +kernel, rfl, by decide +kernel, by decide +kernel⟩
theorem sl_snoc (f : Nat → Str) (i : Nat) : sl ((List.range i).map f) ++ [V.str (f i)] = sl ((List.range (i + 1)).map f) := by
  unfold sl
  rw [List.range_succ, List.map_append, List.map_append]
  rfl
theorem sl_rlen (f : Nat → Str) (i : Nat) : (sl ((List.range i).map f)).length = i := by
  rw [sl_len, List.length_map, List.length_range]
theorem ok_lnames {f : Addr} {fd : FuncData} (F : Fun K "_law_names" "_law_names" sLNames f fd) (T : Txt K mg C) (N1 : Cal K mg "_law_mix" sLMix ["_law_cell_here", "_law_turn"]) : FnOk P w K mg base CX0 2 f fd ["_law_cell_here", "_law_many"] spLNames := by
  obtain ⟨f1, fd1, F1, g1, b1⟩ := N1
  have G1 : FnOk P w K mg base CX0 1 f1 fd1 ["_law_cell_here", "_law_turn"] spMix := ok_mix F1
  refine F.ok scNm (fun vs H Q E h => ?_) (fun cdv A outer s H vs Q E hr h => ?_)
  · obtain ⟨c, m, rfl, _⟩ := h
    rfl
  · obtain ⟨c, m, rfl, m1, m12, k⟩ := h
    refine ⟨_, pss_cons (ps_set (i := 2) scNm.nd rfl (.inr rfl) pe_str)
      (pss_cons (ps_set (i := 3) scNm.nd rfl (.inr rfl) pe_str)
      (pss_cons (ps_for PassesOwn.never rfl (pi_range1 rfl T.range (pa_cons pe_int pa_nil)) (pg_name (i := 4) scNm.nd rfl (.inl rfl))
        (pss_one (ps_set (i := 3) scNm.nd rfl (.inr rfl) (pe_op op_add_str (pv 3) (pe_ix ix_str (pv 2) (pe_op op_mod (pe_call G1 hr (by rfl) g1 F1.kp b1 .nil pass0 (pa_cons (pv 0) (pa_cons (pe_op op_add pe_int (pv 4)) pa_nil))) pe_int) (fun _ _ => rfl))))))
      (pss_cons (ps_if (pt_cmpR op_eq (pe_op op_mod (pe_call G1 hr (by rfl) g1 F1.kp b1 .nil pass0 (pa_cons (pv 0) (pa_cons pe_int pa_nil))) pe_int) pe_int (nomark _))
        (pss_one (ps_ret (pe_lc (own := [("_law_k", 4)]) (g := gName 4) (tt := tYes) rfl scNm.nd (pi_range1 rfl T.range (pa_cons (pv 1) pa_nil)) (blkOk_by (N := nLN) (sc := defScope sLNames) (by decide +kernel))
          (fun _ _ _ _ _ => pg_name (i := 4) scNm.nd rfl (Or.inl rfl)) (fun _ _ _ _ _ => pts_nil) (fun _ _ _ _ _ => pe_slice sl_str (pv 3) po_none (po_some (pe_op op_sub (pv 1) (pv 4))))))) pss_nil)
      (pss_cons (ps_set (i := 5) scNm.nd rfl (.inr rfl) (pe_op op_add pe_int (pe_op op_mod (pe_call G1 hr (by rfl) g1 F1.kp b1 .nil pass0 (pa_cons (pv 0) (pa_cons pe_int pa_nil))) pe_int)))
      (pss_cons (ps_set (i := 6) scNm.nd rfl (.inr rfl) (pe_op op_mod (pe_call G1 hr (by rfl) g1 F1.kp b1 .nil pass0 (pa_cons (pv 0) (pa_cons pe_int pa_nil))) (pv 5)))
      (pss_cons (ps_set (i := 7) scNm.nd rfl (.inr rfl) (pe_op op_mod (pe_call G1 hr (by rfl) g1 F1.kp b1 .nil pass0 (pa_cons (pv 0) (pa_cons pe_int pa_nil))) pe_int))
      (pss_cons (ps_set (i := 8) scNm.nd rfl (.inr rfl) (pe_lc (own := [("_law_k", 4)]) (g := gName 4) (tt := tYes) rfl scNm.nd (pi_range1 rfl T.range (pa_cons (pv 1) pa_nil)) (blkOk_by (N := nLN) (sc := defScope sLNames) (by decide +kernel))
          (fun _ _ _ _ _ => pg_name (i := 4) scNm.nd rfl (Or.inl rfl)) (fun _ _ _ _ _ => pts_nil) (fun _ _ _ _ _ => pe_op op_add_str (pe_op op_add_str (pe_slice sl_str (pv 3) po_none (po_some (pv 6)))
            (pe_ix ix_str (pv 2) (pe_op op_mod (pe_op op_add (pv 7) (pv 4)) pe_int) (fun _ _ => rfl))) (pe_slice sl_str (pv 3) (po_some (pe_op op_add (pv 6) pe_int)) (po_some (pv 5))))))
      (pss_one (ps_ret (pe_lc (own := [("_law_k", 4)]) (g := gName 4) (tt := tYes) rfl scNm.nd (pi_range1 rfl T.range (pa_cons (pv 1) pa_nil)) (blkOk_by (N := nLN) (sc := defScope sLNames) (by decide +kernel))
          (fun _ _ _ _ _ => pg_name (i := 4) scNm.nd rfl (Or.inl rfl)) (fun _ _ _ _ _ => pts_nil) (fun _ _ _ _ _ => pe_op op_add_str (pe_ix (r := rIxL K) ix_list (pv 8) (pv 4) (fun _ _ => rfl)) (pe_op op_mul_txt (pe_slice sl_str (pv 3) (po_some pe_int) po_none) (pe_op op_mod (pv 4) pe_int))))))))))))), ?_⟩
    refine ⟨12, rfl, by decide, by decide, for_range (n := 12) (fun i σ H' => ∃ (b : Str) (x4 : Option V), σ = [some (V.int c), some (V.int (m : Int)), some (V.str SG), some (V.str b), x4, none, none, none, none] ∧ H' = H ∧ b.length = i ∧ Sgs b)
      ⟨"", none, rfl, rfl, by decide +kernel, fun c hc => by rw [show (("" : Str)).cps.toList = [] by decide +kernel] at hc; cases hc⟩ ?_ ?_⟩
    · rintro i σ H' hi ⟨b, x4, rfl, rfl, bl, bs⟩
      refine ⟨_, rfl, _, rfl, _, rfl, _, rfl, _, _, rfl, rfl, c, 3 + (0 + (i : Int)), rfl, (by omega), (by omega), fun z z0 z1 => ?_⟩
      have r0 := Int.emod_nonneg z (show (36 : Int) ≠ 0 by decide)
      have r1 := Int.emod_lt_of_pos z (show (0 : Int) < 36 by decide)
      refine ⟨_, _, rfl, rfl, (by show (0 : Int) < 36; decide), SG, _, sgc (z % 36), rfl, rfl, (by rw [sg_len]; decide), sgc_at r0 r1, b, _, rfl, rfl, ?_, ?_⟩
      · refine Nat.le_of_lt (line12 ?_)
        show b.length + 1 ≤ 100
        omega
      · refine ⟨_, _, rfl, rfl, ?_, sgs_app bs (sgs_one (sgc_mem r0 r1))⟩
        rw [Str.length_append, bl]
        rfl
    · rintro σ H' ⟨b, x4, rfl, rfl, bl, bs⟩
      have zb : b.length ≤ sizeLine := by rw [bl]; decide
      refine ⟨_, rfl, _, _, rfl, (by decide), (by decide), fun z z0 z1 => ?_⟩
      refine ⟨_, _, rfl, rfl, (by show (0 : Int) < 3; decide), rfl, _, rfl, ?_⟩
      refine ite2 (fun _ => ?_) (fun _ => ?_)
      · refine ⟨_, rfl, m, rfl, by omega, by omega, fun D hD => lc_range (lo := 0) (n := m) (fun i H2 => L2.Same H' H2 ∧ H2 D = some (.lst (sl ((List.range i).map (nA b m))))) ⟨snew hD, upd_same⟩ ?_ ?_⟩
        · rintro i H2 hi ⟨s2, h2⟩
          refine ⟨rfl, ?_⟩
          refine ⟨_, rfl, _, rfl, _, rfl, _, _, rfl, rfl, _, rfl, b, rfl, zb, _, h2, ?_, ?_⟩
          · rw [sl_rlen]; exact line12 (by omega)
          · refine ⟨sput s2 hD, ?_⟩
            rw [upd_same]
            exact congrArg (fun l => some (HO.lst l)) (sl_snoc (nA b m) i)
        · rintro H2 ⟨s2, h2⟩
          exact k _ D H2 (namesA bl bs m1 m12) s2 hD h2
      · refine ⟨_, rfl, _, _, rfl, (by decide), (by decide), fun y y0 y1 => ?_⟩
        refine ⟨_, _, rfl, rfl, (by show (0 : Int) < 11; decide), _, _, rfl, rfl, ?_⟩
        have q0 := Int.emod_nonneg y (show (11 : Int) ≠ 0 by decide)
        have q1 := Int.emod_lt_of_pos y (show (0 : Int) < 11 by decide)
        have S0 : 0 < 1 + y % 11 := by omega
        have S1 : 1 + y % 11 ≤ 11 := by omega
        refine ⟨_, rfl, _, _, rfl, (by decide), (by decide), fun x x0 x1 => ?_⟩
        refine ⟨_, rfl, _, _, rfl, rfl, S0, ?_⟩
        have p0 := Int.emod_nonneg x (show (1 + y % 11 : Int) ≠ 0 by omega)
        have ps := Int.emod_lt_of_pos x S0
        refine ⟨_, rfl, _, _, rfl, (by decide), (by decide), fun v v0 v1 => ?_⟩
        refine ⟨_, _, rfl, rfl, (by show (0 : Int) < 36; decide), ?_⟩
        have cl : ∀ lo hi, (cutS b lo hi).length ≤ 12 := fun lo hi => by have := cutS_length b lo hi; omega
        refine ⟨_, rfl, m, rfl, by omega, by omega, fun D hD => lc_range (lo := 0) (n := m) (fun i H2 => L2.Same H' H2 ∧ H2 D = some (.lst (sl ((List.range i).map (nS b (x % (1 + y % 11)) (1 + y % 11) (v % 36)))))) ⟨snew hD, upd_same⟩ ?_ ?_⟩
        · rintro i H2 hi ⟨s2, h2⟩
          have ff := f36 (f := v % 36) i
          refine ⟨rfl, ?_⟩
          refine ⟨_, rfl, _, rfl, _, rfl, b, rfl, zb, _, rfl, _, rfl, _, rfl, _, _, rfl, rfl, _, _, rfl, rfl, (by show (0 : Int) < 36; decide), SG, _, sgc _, rfl, rfl, (by rw [sg_len]; decide), sgc_at ff.1 ff.2, _, _, rfl, rfl, ?_,
            _, rfl, _, rfl, _, _, rfl, rfl, _, rfl, _, rfl, _, rfl, b, rfl, zb, _, _, rfl, rfl, ?_, _, h2, ?_, ?_⟩
          · refine Nat.le_of_lt (line12 ?_)
            have := cl none (some (x % (1 + y % 11)))
            show _ + 1 ≤ 100
            omega
          · refine Nat.le_of_lt (line12 ?_)
            rw [Str.length_append]
            have h1 := cl none (some (x % (1 + y % 11)))
            have h2 := cl (some (x % (1 + y % 11) + 1)) (some (1 + y % 11))
            show _ + 1 + _ ≤ 100
            omega
          · rw [sl_rlen]; exact line12 (by omega)
          · refine ⟨sput s2 hD, ?_⟩
            rw [upd_same]
            exact congrArg (fun l => some (HO.lst l)) (sl_snoc (nS b (x % (1 + y % 11)) (1 + y % 11) (v % 36)) i)
        · rintro H2 ⟨s2, h2⟩
          refine ⟨_, rfl, m, rfl, by omega, by omega, fun D2 hD2 => lc_range (lo := 0) (n := m) (fun i H3 => L2.Same H2 H3 ∧ H3 D2 = some (.lst (sl ((List.range i).map (nF b (x % (1 + y % 11)) (1 + y % 11) (v % 36)))))) ⟨snew hD2, upd_same⟩ ?_ ?_⟩
          · rintro i H3 hi ⟨s3, h3⟩
            have m0 := Int.emod_nonneg (0 + (i : Int)) (show (2 : Int) ≠ 0 by decide)
            have m2 := Int.emod_lt_of_pos (0 + (i : Int)) (show (0 : Int) < 2 by decide)
            have it : atI (sl ((List.range m).map (nS b (x % (1 + y % 11)) (1 + y % 11) (v % 36)))) (0 + (i : Int)) = some (V.str (nS b (x % (1 + y % 11)) (1 + y % 11) (v % 36) i)) := by
              refine at_of (j := i) (by omega) ?_
              unfold sl
              rw [List.getElem?_map, List.getElem?_map, List.getElem?_range hi]
              rfl
            refine ⟨rfl, ?_⟩
            refine ⟨_, rfl, _, rfl, D, _, _, _, rfl, rfl, SqL.of (s3 _ _ h2), it, _, rfl, _, rfl, b, rfl, zb, _, rfl, _, _, rfl, rfl, (by show (0 : Int) < 2; decide), _, _, rfl, rfl, ?_, _, _, rfl, rfl, ?_, _, h3, ?_, ?_⟩
            · show (0 + (i : Int)) % 2 = 0 ∨ (0 + (i : Int)) % 2 = 1
              omega
            · refine Nat.le_of_lt (line12 ?_)
              have h1 := nS_len (f := v % 36) bl p0 ps S1 i
              have h2 := nT_len bl i
              show _ + (nT b i).length ≤ 100
              omega
            · rw [sl_rlen]; exact line12 (by omega)
            · refine ⟨sput s3 hD2, ?_⟩
              rw [upd_same]
              exact congrArg (fun l => some (HO.lst l)) (sl_snoc (nF b (x % (1 + y % 11)) (1 + y % 11) (v % 36)) i)
          · rintro H3 ⟨s3, h3⟩
            exact k _ D2 H3 (namesB bl bs p0 ps S1 m1 m12) (s2.trans s3) (s2.free hD2) h3
end
end Fl

/-! ## FlData -/
set_option Elab.async false
set_option linter.all false
set_option maxRecDepth 100000
set_option maxHeartbeats 4000000
/-! Lists of names and of ways as plain data, for == and !=. -/
namespace Fl
open PySem PySem.Spec PyProof.Rows L2
def dN (ns : List Str) : PyData := .list (ns.map PyData.str)
def dW (w : Way Str) : PyData := .tuple [.str w.1, .str w.2.1, .int w.2.2]
def dWs (ws : List (Way Str)) : PyData := .list (ws.map dW)
theorem lay_all : ∀ {xs : List PyData}, (∀ x ∈ xs, x.canLay0 = true) → PyData.canLayAll0 xs = true
  | [], _ => rfl
  | x :: r, h => by
    rw [PyData.canLayAll0, h x List.mem_cons_self, lay_all fun y hy => h y (List.mem_cons_of_mem _ hy)]
    rfl
theorem depth_all {k : Nat} : ∀ {xs : List PyData}, (∀ x ∈ xs, x.depth ≤ k) → PyData.depthAll xs ≤ k
  | [], _ => Nat.zero_le _
  | x :: r, h => by
    rw [PyData.depthAll]
    exact Nat.max_le.mpr ⟨h x List.mem_cons_self, depth_all fun y hy => h y (List.mem_cons_of_mem _ hy)⟩
theorem str_lay {n : Str} (h : Sgs n) : (PyData.str n).canLay0 = true := by
  rw [PyData.canLay0]
  unfold PyData.strOk
  rw [Array.all_eq_true']
  intro c hc
  have m := h c (by simpa using hc)
  rw [sg_list] at m
  have all : ∀ x ∈ sgL, x < 1114112 := by decide
  have := all c m
  simpa using this
theorem dN_lay {ns : List Str} (h : ∀ n ∈ ns, Sgs n) : (dN ns).canLay0 = true := by
  unfold dN
  rw [PyData.canLay0]
  refine lay_all fun x hx => ?_
  obtain ⟨n, hn, rfl⟩ := List.mem_map.mp hx
  exact str_lay (h n hn)
theorem dN_depth (ns : List Str) : (dN ns).depth ≤ 1 := by
  unfold dN
  rw [PyData.depth]
  have := depth_all (k := 0) (xs := ns.map PyData.str) fun x hx => by
    obtain ⟨n, hn, rfl⟩ := List.mem_map.mp hx
    exact Nat.le_refl 0
  omega
theorem dW_lay {w : Way Str} (h1 : Sgs w.1) (h2 : Sgs w.2.1) : (dW w).canLay0 = true := by
  unfold dW
  rw [PyData.canLay0, PyData.canLayAll0, PyData.canLayAll0, PyData.canLayAll0, PyData.canLayAll0, str_lay h1, str_lay h2]
  rfl
theorem dW_depth (w : Way Str) : (dW w).depth ≤ 1 := by
  unfold dW
  rw [PyData.depth]
  have := depth_all (k := 0) (xs := [.str w.1, .str w.2.1, .int w.2.2]) fun x hx => by
    simp only [List.mem_cons, List.not_mem_nil, or_false] at hx
    rcases hx with rfl | rfl | rfl <;> exact Nat.le_refl 0
  omega
theorem dWs_lay {N : List Str} {ws : List (Way Str)} (h : ∀ n ∈ N, Sgs n) (ok : WaysOk N ws) : (dWs ws).canLay0 = true := by
  unfold dWs
  rw [PyData.canLay0]
  refine lay_all fun x hx => ?_
  obtain ⟨v, hv, rfl⟩ := List.mem_map.mp hx
  obtain ⟨a, b, _⟩ := ok v hv
  exact dW_lay (h _ a) (h _ b)
theorem dWs_depth (ws : List (Way Str)) : (dWs ws).depth ≤ 2 := by
  unfold dWs
  rw [PyData.depth]
  have := depth_all (k := 1) (xs := ws.map dW) fun x hx => by
    obtain ⟨v, hv, rfl⟩ := List.mem_map.mp hx
    exact dW_depth v
  omega
theorem shaped_of {d : PyData} (h : d.canLay0 = true) (k : d.depth ≤ 64) : SeqAt.shaped d = true := by
  unfold SeqAt.shaped
  rw [h, decide_eq_true k]
  rfl
section
variable {K : PySem.W.Frag} {H : Hp}
theorem dp_all {α : Type} {f : α → V} {g : α → PyData} : ∀ {l : List α}, (∀ x ∈ l, Dp K H (f x) (g x)) → DpAll K H (l.map f) (l.map g)
  | [], _ => .nil
  | x :: r, h => .cons (h x List.mem_cons_self) (dp_all fun y hy => h y (List.mem_cons_of_mem _ hy))
theorem dN_dp {a : Addr} {ns : List Str} (h : SqL K H a (sl ns)) : Dp K H (.ref a) (dN ns) := .lst h (dp_all fun n _ => .str n)
theorem dW_dp {a : Addr} {w : Way Str} (h : H a = some (tupOf w)) : Dp K H (.ref a) (dW w) := .tup (SqT.of h) (.cons (.str _) (.cons (.str _) (.cons (.int _) .nil)))
theorem dWs_dp {a : Addr} {tw : TW} (h : SqL K H a (wl tw)) (t : Tups H tw) : Dp K H (.ref a) (dWs (wy tw)) := by
  refine .lst h ?_
  unfold wl wy
  rw [List.map_map]
  exact dp_all fun p hp => dW_dp (t p hp)
end
theorem sgs_of {ns : List Str} (h : NamesOk ns) : ∀ n ∈ ns, Sgs n := fun n hn => (h.ok n hn).sg
end Fl

/-! ## FlLWays -/
set_option Elab.async false
set_option linter.all false
set_option maxRecDepth 100000
set_option maxHeartbeats 4000000
namespace Fl
open PySem PySem.Spec PyProof.Rows L2
def spLWays (K : PySem.W.Frag) : Sp := fun vs H Q _ => ∃ (pc pn : Addr) (cs : List Int) (ns : List Str), vs = [.ref pc, .ref pn] ∧ SqL K H pc (cs.map V.int) ∧ cs.length ≤ 60 ∧ SqL K H pn (sl ns) ∧ NamesOk ns ∧
  ∀ q tw H', L2.Same H H' → H q = none → H' q = some (.lst (wl tw)) → Tups H' tw → Given ns tw → Q (.ref q) H'
theorem pick {ns : List Str} {z : Int} (h : 1 ≤ ns.length) : 0 < ((sl ns).length : Int) ∧ ∃ n ∈ ns, atI (sl ns) (z % ((sl ns).length : Int)) = some (V.str n) := by
  have l := sl_len ns
  have p : 0 < ((sl ns).length : Int) := by omega
  refine ⟨p, ?_⟩
  have a := Int.emod_nonneg z (show ((sl ns).length : Int) ≠ 0 by omega)
  have b := Int.emod_lt_of_pos z p
  generalize z % ((sl ns).length : Int) = y at a b
  have lt : y.toNat < ns.length := by omega
  refine ⟨ns[y.toNat], List.getElem_mem lt, at_of (j := y.toNat) (by omega) ?_⟩
  unfold sl
  rw [List.getElem?_map, List.getElem?_eq_getElem lt]
  rfl
theorem wl_snoc (tw : TW) (p : Addr × Way Str) : wl tw ++ [V.ref p.1] = wl (tw ++ [p]) := by
  unfold wl
  rw [List.map_append]
  rfl
theorem wy_snoc (tw : TW) (p : Addr × Way Str) : wy (tw ++ [p]) = wy tw ++ [p.2] := by
  unfold wy
  rw [List.map_append]
  rfl
theorem tups_snoc {H : Hp} {tw : TW} {p : Addr × Way Str} (h : Tups H tw) (e : H p.1 = some (tupOf p.2)) : Tups H (tw ++ [p]) := fun x hx => by
  rcases List.mem_append.mp hx with z | z
  · exact h x z
  · rw [List.mem_singleton.mp z]
    exact e
section
variable {P : Program} {w : World} {K : PySem.W.Frag} {mg : Str → Option Value} {base : Heap} {C : Addr}
theorem scLW : FnScope ["_law_cells", "_law_names_here", "_law_ways_here", "_law_cell_here", "_law_origin", "_law_goal"] ["_law_cells", "_law_names_here"] (defScope sLWays) := ⟨rfl, rfl, rfl, by decide +kernel, rfl, by decide +kernel, by decide +kernel⟩
theorem ok_lways {f : Addr} {fd : FuncData} (F : Fun K "_law_ways" "_law_ways" sLWays f fd) (T : Txt K mg C) (N1 : Cal K mg "_law_mix" sLMix ["_law_cell_here", "_law_turn"]) (N2 : Cal K mg "_law_length" sLLength ["_law_cell_here"]) :
    FnOk P w K mg base CX0 3 f fd ["_law_cells", "_law_names_here"] (spLWays K) := by
  have N1' := N1
  obtain ⟨f1, fd1, F1, g1, b1⟩ := N1
  obtain ⟨f2, fd2, F2, g2, b2⟩ := N2
  have G1 : FnOk P w K mg base CX0 1 f1 fd1 ["_law_cell_here", "_law_turn"] spMix := ok_mix F1
  have G2 : FnOk P w K mg base CX0 2 f2 fd2 ["_law_cell_here"] spLLen := ok_llen F2 N1'
  refine F.ok scLW (fun vs H Q E h => ?_) (fun cdv A outer s H vs Q E hr h => ?_)
  · obtain ⟨pc, pn, cs, ns, rfl, _⟩ := h
    rfl
  · obtain ⟨pc, pn, cs, ns, rfl, hC, c60, hN, nk, k⟩ := h
    have hr1 : Room 1 _ := hr.mono (by decide)
    refine ⟨_, pss_cons (ps_if (pt_cmpR (op_eqD hr.units) (pv 1) (pe_lst pa_nil) (nomark _)) (pss_one (ps_ret (pe_lst pa_nil))) pss_nil)
      (pss_cons (ps_set (i := 2) scLW.nd rfl (.inl rfl) (pe_lst pa_nil))
      (pss_cons (ps_for PassesOwn.never rfl (pi_list (pv 0)) (pg_name (i := 3) scLW.nd rfl (.inl rfl))
        (pss_cons (ps_set (i := 4) scLW.nd rfl (.inl rfl) (pe_ix ix_list (pv 1) (pe_op op_mod (pe_call G1 hr1 (by rfl) g1 F1.kp b1 .nil pass0 (pa_cons (pv 3) (pa_cons pe_int pa_nil))) (pe_callB call_len_seq (by rfl) T.len PySem.boot_len (pa_cons (pv 1) pa_nil))) (fun _ _ => rfl)))
        (pss_cons (ps_set (i := 5) scLW.nd rfl (.inl rfl) (pe_ix ix_list (pv 1) (pe_op op_mod (pe_call G1 hr1 (by rfl) g1 F1.kp b1 .nil pass0 (pa_cons (pv 3) (pa_cons pe_int pa_nil))) (pe_callB call_len_seq (by rfl) T.len PySem.boot_len (pa_cons (pv 1) pa_nil))) (fun _ _ => rfl)))
        (pss_one (ps_expr (pe_bm PySem.F.plainAttrs_list PySem.F.slot_list_append PySem.F.type_list_append mt_append (pv 2) (pa_cons (pe_tup (pa_cons (pv 4) (pa_cons (pv 5) (pa_cons (pe_call G2 hr (by rfl) g2 F2.kp b2 .nil pass0 (pa_cons (pv 3) pa_nil)) pa_nil)))) pa_nil)))))))
      (pss_one (ps_ret (pv 2))))), ?_⟩
    have n1 := nk.lo
    have n12 := nk.hi
    refine ⟨_, rfl, Nat.zero_le _, fun l0 hl0 => ?_⟩
    have s1 : L2.Same H (upd H l0 (.lst [])) := snew hl0
    have a1 : (upd H l0 (.lst [])) l0 = some (.lst []) := upd_same
    generalize upd H l0 (.lst []) = H1 at s1 a1
    refine ⟨dN ns, .list [], dN_dp (s1.seq hN), .lst (SqL.of a1) .nil, shaped_of (dN_lay (sgs_of nk)) (by have := dN_depth ns; omega), by decide, _, rfl, ?_⟩
    have ne : PyData.eqv (dN ns) (.list []) = false := by
      cases ns with
      | nil => exact absurd n1 (by decide)
      | cons n r =>
        unfold dN
        rw [List.map_cons, PyData.eqv, PyData.eqvAll]
    rw [ne]
    refine iteF ⟨Nat.zero_le _, fun q hq => ?_⟩
    have hq0 : H q = none := s1.free hq
    refine ⟨_, rfl, pc, rfl, ⟨_, ((snew hq).seq (s1.seq hC))⟩, for_list (K := K) (a := pc) (xs := cs.map V.int) (fun i σ H' => ∃ x3 x4 x5 tw, σ = [some (V.ref pc), some (V.ref pn), some (V.ref q), x3, x4, x5] ∧ L2.Same H H' ∧ H' q = some (.lst (wl tw)) ∧ Tups H' tw ∧ WaysOk ns (wy tw) ∧ tw.length = i)
      ⟨none, none, none, [], rfl, sput s1 hq0, upd_same, (fun p z => by cases z), (fun v z => by cases z), rfl⟩ (fun i σ H' _ ⟨_, _, _, _, _, s2, _⟩ => s2.seq hC) ?_ ?_⟩
    · rintro i x σ H2 hi ⟨x3, x4, x5, tw, rfl, s2, h2, t2, ok2, l2⟩
      have il : i < cs.length := by
        have := (List.getElem?_eq_some_iff.mp hi).1
        rw [List.length_map] at this
        exact this
      obtain ⟨c, rfl⟩ : ∃ c, x = V.int c := by
        rw [List.getElem?_map, List.getElem?_eq_getElem il] at hi
        exact ⟨_, (Option.some.inj hi).symm⟩
      refine ⟨_, rfl, _, rfl, _, _, rfl, (by decide), (by decide), fun z z0 z1 => ?_⟩
      obtain ⟨lp, o, om, oa⟩ := pick (z := z) n1
      refine ⟨_, rfl, pn, _, rfl, .inl (s2.seq hN), _, _, rfl, rfl, lp, pn, _, _, V.str o, rfl, rfl, s2.seq hN, oa, ?_⟩
      refine ⟨_, rfl, _, rfl, _, _, rfl, (by decide), (by decide), fun y y0 y1 => ?_⟩
      obtain ⟨_, g, gm, ga⟩ := pick (z := y) n1
      refine ⟨_, rfl, pn, _, rfl, .inl (s2.seq hN), _, _, rfl, rfl, lp, pn, _, _, V.str g, rfl, rfl, s2.seq hN, ga, ?_⟩
      refine ⟨_, rfl, .inl ⟨rfl, _, SqL.of h2⟩, _, rfl, _, rfl, _, rfl, c, rfl, fun m m0 m1 => ⟨(by show 3 ≤ sizeLine; decide), fun t ht => ?_⟩⟩
      have nqt : q ≠ t := ne_of_none h2 ht
      have sN : L2.Same H2 (upd H2 t (tupOf (o, g, m))) := snew ht
      refine ⟨q, wl tw, _, rfl, rfl, sN _ _ h2, ?_, ?_⟩
      · rw [wl_len]; exact line12 (by omega)
      · refine ⟨_, _, _, tw ++ [(t, (o, g, m))], rfl, sput (s2.trans sN) hq0, ?_, ?_, ?_, ?_⟩
        · rw [upd_same]
          exact congrArg (fun l => some (HO.lst l)) (wl_snoc tw (t, (o, g, m)))
        · have k3 : ∀ a v, upd H2 t (tupOf (o, g, m)) a = some (tupOf v) → upd (upd H2 t (tupOf (o, g, m))) q (.lst (wl tw ++ [V.ref t])) a = some (tupOf v) := fun a v e => by
            rw [upd_ne (ne_of e (sN _ _ h2) (by intro z; cases z))]
            exact e
          refine tups_snoc (fun p hp => k3 _ _ (sN _ _ (t2 p hp))) (k3 _ _ upd_same)
        · rw [wy_snoc]
          intro v hv
          rcases List.mem_append.mp hv with z | z
          · exact ok2 v z
          · rw [List.mem_singleton.mp z]
            exact ⟨om, gm, m0, m1⟩
        · rw [List.length_append, l2]
          rfl
    · rintro σ H2 ⟨x3, x4, x5, tw, rfl, s2, h2, t2, ok2, l2⟩
      rw [List.length_map] at l2
      exact ⟨_, rfl, k q tw H2 s2 hq0 h2 t2 ⟨nk, ok2, by omega⟩⟩
end
end Fl

/-! ## FlOffice -/
set_option Elab.async false
set_option linter.all false
set_option maxRecDepth 100000
set_option maxHeartbeats 4000000
namespace Fl
open PySem PySem.Spec PyProof.Rows L2
def spOffice (K : PySem.W.Frag) : Sp := fun vs H Q _ => ∃ (a : Addr) (zs : List Int), vs = [.ref a] ∧ SqL K H a (zs.map V.int) ∧ zs.length ≤ 63 ∧
  ∀ t pN pW ns tw H', L2.Same H H' → H pN = none → H pW = none → H' t = some (.tup [.ref pN, .ref pW]) → H' pN = some (.lst (sl ns)) → H' pW = some (.lst (wl tw)) → Tups H' tw → Given ns tw → Q (.ref t) H'
abbrev nLO : List Str := ["_law_script", "_law_some", "_law_names_here", "_law_cells", "_law_k"]
def cutI (zs : List Int) (lo hi : Option Int) : List Int := (zs.drop (HT.sIx zs.length 0 lo)).take (HT.sIx zs.length zs.length hi - HT.sIx zs.length 0 lo)
theorem cutV_ints (zs : List Int) (lo hi : Option Int) : cutV (zs.map V.int) lo hi = (cutI zs lo hi).map V.int := by
  unfold cutV cutI
  rw [List.length_map, List.map_take, List.map_drop]
theorem cutI_len (zs : List Int) (lo hi : Option Int) : (cutI zs lo hi).length ≤ zs.length := by
  unfold cutI
  rw [List.length_take, List.length_drop]
  omega
theorem cutI_len3 {zs : List Int} (h : zs.length ≤ 63) (hi : Option Int) : (cutI zs (some 3) hi).length ≤ 60 := by
  unfold cutI
  rw [show (3 : Int) = ((3 : Nat) : Int) from rfl, HT.sIx_nat, List.length_take, List.length_drop]
  omega
theorem menu {r y : Int} (r0 : 0 ≤ r) (r1 : r < 8) (y0 : 0 ≤ y) (y1 : y < 5) : ∃ m : Nat, 1 ≤ m ∧ m ≤ 12 ∧ atI [V.int 1, V.int 2, V.int 3, V.int 4, V.int 5, V.int 6, V.int 7, V.int (8 + y)] r = some (V.int (m : Int)) := by
  have e : r = ((r.toNat : Nat) : Int) := by omega
  have lt : r.toNat < 8 := by omega
  rw [e]
  generalize r.toNat = j at lt
  match j, lt with
  | 0, _ => exact ⟨1, by decide, by decide, atI_nat rfl⟩
  | 1, _ => exact ⟨2, by decide, by decide, atI_nat rfl⟩
  | 2, _ => exact ⟨3, by decide, by decide, atI_nat rfl⟩
  | 3, _ => exact ⟨4, by decide, by decide, atI_nat rfl⟩
  | 4, _ => exact ⟨5, by decide, by decide, atI_nat rfl⟩
  | 5, _ => exact ⟨6, by decide, by decide, atI_nat rfl⟩
  | 6, _ => exact ⟨7, by decide, by decide, atI_nat rfl⟩
  | 7, _ =>
    refine ⟨(8 + y).toNat, by omega, by omega, atI_nat ?_⟩
    have q : ((8 + y).toNat : Int) = 8 + y := by omega
    rw [q]
    rfl
section
variable {P : Program} {w : World} {K : PySem.W.Frag} {mg : Str → Option Value} {base : Heap} {C : Addr}
theorem scLO : FnScope nLO ["_law_script"] (defScope sLOffice) := ⟨rfl, rfl, rfl, by decide +kernel, rfl, by decide +kernel, by decide +kernel⟩
theorem ok_office {f : Addr} {fd : FuncData} (F : Fun K "_law_office" "_law_office" sLOffice f fd) (T : Txt K mg C) (N0 : Cal K mg "_law_cell" sLCell ["_law_script", "_law_k"]) (N1 : Cal K mg "_law_mix" sLMix ["_law_cell_here", "_law_turn"])
    (N2 : Cal K mg "_law_length" sLLength ["_law_cell_here"]) (N3 : Cal K mg "_law_names" sLNames ["_law_cell_here", "_law_many"]) (N4 : Cal K mg "_law_ways" sLWays ["_law_cells", "_law_names_here"]) :
    FnOk P w K mg base CX0 4 f fd ["_law_script"] (spOffice K) := by
  obtain ⟨f3, fd3, F3, g3, b3⟩ := N3
  obtain ⟨f4, fd4, F4, g4, b4⟩ := N4
  have G3 : FnOk P w K mg base CX0 2 f3 fd3 ["_law_cell_here", "_law_many"] spLNames := ok_lnames F3 T N1
  have G4 : FnOk P w K mg base CX0 3 f4 fd4 ["_law_cells", "_law_names_here"] (spLWays K) := ok_lways F4 T N1 N2
  obtain ⟨f0, fd0, F0, g0, b0⟩ := N0
  obtain ⟨f1, fd1, F1, g1, b1⟩ := N1
  have G0 : FnOk P w K mg base CX0 1 f0 fd0 ["_law_script", "_law_k"] (spCell K) := ok_cell F0 T
  have G1 : FnOk P w K mg base CX0 1 f1 fd1 ["_law_cell_here", "_law_turn"] spMix := ok_mix F1
  refine F.ok scLO (fun vs H Q E h => ?_) (fun cdv A outer s H vs Q E hr h => ?_)
  · obtain ⟨a, zs, rfl, _⟩ := h
    rfl
  · obtain ⟨a, zs, rfl, hA, z63, k⟩ := h
    have hr1 : Room 1 _ := hr.mono (by decide)
    have hr2 : Room 2 _ := hr.mono (by decide)
    refine ⟨_, pss_cons (ps_set (i := 1) scLO.nd rfl (.inl rfl) (pe_call G1 hr1 (by rfl) g1 F1.kp b1 .nil pass0 (pa_cons (pe_call G0 hr1 (by rfl) g0 F0.kp b0 .nil pass0 (pa_cons (pv 0) (pa_cons pe_int pa_nil))) (pa_cons pe_int pa_nil))))
      (pss_cons (ps_set (i := 2) scLO.nd rfl (.inl rfl) (pe_call G3 hr2 (by rfl) g3 F3.kp b3 .nil pass0 (pa_cons (pe_call G0 hr1 (by rfl) g0 F0.kp b0 .nil pass0 (pa_cons (pv 0) (pa_cons pe_int pa_nil)))
        (pa_cons (pe_ix ix_list (pe_lst (pa_cons pe_int (pa_cons pe_int (pa_cons pe_int (pa_cons pe_int (pa_cons pe_int (pa_cons pe_int (pa_cons pe_int (pa_cons (pe_op op_add pe_int (pe_op op_mod (pe_op op_fdiv (pv 1) pe_int) pe_int)) pa_nil))))))))) (pe_op op_mod (pv 1) pe_int) (fun _ _ => rfl)) pa_nil))))
      (pss_cons (ps_set (i := 3) scLO.nd rfl (.inl rfl) (pe_slice sl_list (pv 0) (po_some pe_int) (po_some pe_int)))
      (C8.pss_cut (ps_if (pt_cmpR op_eq (pe_op op_mod (pe_op op_fdiv (pv 1) pe_int) pe_int) pe_int (nomark _))
        (pss_one (ps_setLc (i := 3) (own := [("_law_k", 4)]) (g := gName 4) (tt := tYes) rfl scLO.nd rfl rfl (sw_true rfl rfl rfl (by decide +kernel)) (pi_range1 rfl T.range (pa_cons (pe_op op_mod (pe_op op_fdiv (pv 1) pe_int) pe_int) pa_nil)) (blkOk_by (N := nLO) (sc := defScope sLOffice) (by decide +kernel))
          (fun _ _ _ _ _ => pg_name (i := 4) scLO.nd rfl (Or.inl rfl)) (fun _ _ _ _ _ => pts_nil)
          (fun _ _ _ _ _ => pe_call G1 hr1 (by rfl) g1 F1.kp b1 .nil pass0 (pa_cons (pe_call G0 hr1 (by rfl) g0 F0.kp b0 .nil pass0 (pa_cons (pv 0) (pa_cons pe_int pa_nil))) (pa_cons (pe_op op_add pe_int (pv 4)) pa_nil))))) pss_nil)
      (C8.pss_cut (ps_if (pt_cmpR op_gt (pe_callB call_len_seq (by rfl) T.len PySem.boot_len (pa_cons (pv 2) pa_nil)) pe_int (nomark _)) (pss_one (ps_set (i := 3) scLO.nd rfl (.inl rfl) (pe_slice sl_list (pv 3) po_none (po_some pe_int)))) pss_nil)
      (pss_one (ps_ret (pe_tup (pa_cons (pv 2) (pa_cons (pe_call G4 hr (by rfl) g4 F4.kp b4 .nil pass0 (pa_cons (pv 3) (pa_cons (pv 2) pa_nil))) pa_nil))))))))), ?_⟩
    -- some = mix(cell(script, 0), 41)
    refine ⟨_, rfl, a, zs, 0, rfl, hA, by decide, fun u => ⟨u, 41, rfl, by decide, by decide, fun z z0 z1 => ?_⟩⟩
    -- names_here
    refine ⟨_, rfl, a, zs, 1, rfl, hA, by decide, fun u2 => ?_⟩
    refine ⟨_, rfl, _, _, rfl, rfl, ⟨by decide, by decide⟩, _, _, rfl, rfl, (by show (0 : Int) < 5; decide), _, _, rfl, rfl, (by show 8 ≤ sizeLine; decide), fun l hl => ?_⟩
    have r0 := Int.emod_nonneg z (show (8 : Int) ≠ 0 by decide)
    have r1 := Int.emod_lt_of_pos z (show (0 : Int) < 8 by decide)
    have y0 := Int.emod_nonneg (z / 8) (show (5 : Int) ≠ 0 by decide)
    have y1 := Int.emod_lt_of_pos (z / 8) (show (0 : Int) < 5 by decide)
    obtain ⟨m, m1, m12, hm⟩ := menu r0 r1 y0 y1
    refine ⟨_, rfl, _, _, rfl, rfl, (by show (0 : Int) < 8; decide), l, _, _, _, rfl, rfl, SqL.of upd_same, hm, u2, m, rfl, m1, m12, fun ns pN H1 nk s1 hpN e1 => ?_⟩
    have s2 : L2.Same H H1 := (snew hl).trans s1
    have fN : H pN = none := (snew hl).free hpN
    -- cells = script[3:63]
    refine ⟨_, rfl, _, rfl, _, rfl, a, _, rfl, s2.seq hA, fun pc hpc => ?_⟩
    refine ⟨fun σ H' => ∃ (pc : Addr) (cs : List Int), σ = [some (V.ref a), some (V.int z), some (V.ref pN), some (V.ref pc), none] ∧ L2.Same H H' ∧ H' pN = some (.lst (sl ns)) ∧ H' pc = some (.lst (cs.map V.int)) ∧ cs.length ≤ 60, ?_, ?_⟩
    · refine ⟨_, rfl, _, _, rfl, rfl, ⟨by decide, by decide⟩, _, _, rfl, rfl, (by show (0 : Int) < 4; decide), rfl, _, rfl, ?_⟩
      have s3 : L2.Same H1 (upd H1 pc (.lst (cutV (zs.map V.int) (some 3) (some 63)))) := snew hpc
      have c3 : (upd H1 pc (.lst (cutV (zs.map V.int) (some 3) (some 63)))) pc = some (.lst ((cutI zs (some 3) (some 63)).map V.int)) := by rw [upd_same, cutV_ints]
      generalize upd H1 pc (.lst (cutV (zs.map V.int) (some 3) (some 63))) = H2 at s3 c3
      refine ite2 (fun _ => ?_) (fun _ => ?_)
      · have t0 := Int.emod_nonneg (z / 32) (show (61 : Int) ≠ 0 by decide)
        have t1 := Int.emod_lt_of_pos (z / 32) (show (0 : Int) < 61 by decide)
        refine ⟨_, rfl, _, _, rfl, rfl, ⟨by decide, by decide⟩, _, _, rfl, rfl, (by show (0 : Int) < 61; decide), _, rfl, (by show -(2 ^ 62) ≤ z / 32 % 61; omega), (by show z / 32 % 61 < 2 ^ 62; omega), fun D hD => ?_⟩
        refine lc_range (lo := 0) (n := (z / 32 % 61).toNat) (fun i H3 => ∃ cs : List Int, L2.Same H2 H3 ∧ H3 D = some (.lst (cs.map V.int)) ∧ cs.length = i) ⟨[], snew hD, upd_same, rfl⟩ ?_ ?_
        · rintro i H3 hi ⟨cs, s4, c4, l4⟩
          refine ⟨rfl, ?_⟩
          refine ⟨_, rfl, a, zs, 2, rfl, s4.seq (s3.seq (s2.seq hA)), by decide, fun u3 => ?_⟩
          refine ⟨_, rfl, _, _, rfl, rfl, u3, _, rfl, ?_, ?_, fun x x0 x1 => ?_⟩
          · show 0 ≤ 50 + (0 + (i : Int))
            omega
          · show 50 + (0 + (i : Int)) ≤ 200
            omega
          · refine ⟨_, c4, ?_, cs ++ [x], sput s4 hD, ?_, ?_⟩
            · rw [List.length_map]; exact line12 (by omega)
            · rw [upd_same, List.map_append]
              rfl
            · rw [List.length_append, l4]
              rfl
        · rintro H3 ⟨cs, s4, c4, l4⟩
          exact ⟨D, cs, rfl, (s2.trans s3).trans s4, s4 _ _ (s3 _ _ e1), c4, by omega⟩
      · exact ⟨pc, _, rfl, s2.trans s3, s3 _ _ e1, c3, cutI_len3 z63 _⟩
    · rintro σ H2 ⟨pc, cs, rfl, s3, e2, c2, l2⟩
      refine ⟨fun σ H' => ∃ (pc : Addr) (cs : List Int), σ = [some (V.ref a), some (V.int z), some (V.ref pN), some (V.ref pc), none] ∧ L2.Same H H' ∧ H' pN = some (.lst (sl ns)) ∧ H' pc = some (.lst (cs.map V.int)) ∧ cs.length ≤ 60, ?_, ?_⟩
      · refine ⟨_, rfl, pN, _, rfl, .inl (SqL.of e2), _, _, rfl, rfl, _, rfl, ?_⟩
        refine ite2 (fun _ => ?_) (fun _ => ?_)
        · refine ⟨_, rfl, _, rfl, pc, _, rfl, SqL.of c2, fun q hq => ?_⟩
          refine ⟨q, _, rfl, sput s3 (s3.free hq), snew hq _ _ e2, by rw [upd_same, cutV_ints], ?_⟩
          have := cutI_len cs none (some 20)
          omega
        · exact ⟨pc, cs, rfl, s3, e2, c2, l2⟩
      · rintro σ H3 ⟨pc, cs, rfl, s4, e4, c4, l4⟩
        refine ⟨_, rfl, _, rfl, _, rfl, pc, pN, cs, ns, rfl, SqL.of c4, l4, SqL.of e4, nk, fun pW tw H4 s5 hW eW tW gv => ?_⟩
        refine ⟨(by show 2 ≤ sizeLine; decide), fun t ht => ?_⟩
        have s6 : L2.Same H4 (upd H4 t (.tup [.ref pN, .ref pW])) := snew ht
        exact k t pN pW ns tw _ ((s4.trans s5).trans s6) fN (s4.free hW) upd_same (s6 _ _ (s5 _ _ e4)) (s6 _ _ eW) (tW.same s6) gv
end
end Fl

/-! ## FlAsk -/
set_option Elab.async false
set_option linter.all false
set_option maxRecDepth 100000
set_option maxHeartbeats 4000000
namespace Fl
open PySem PySem.Spec PyProof.Rows L2
theorem upd_back {H : Hp} {a : Addr} {x u : HO} (h : H a = some u) : upd (upd H a x) a u = H := by
  rw [upd_upd]
  funext b
  by_cases e : b = a
  · rw [e, upd_same, h]
  · rw [upd_ne e]
/-- a look at a dict while another one, or itself, is locked -/
theorem dget_lock {H : Hp} {a e : Addr} {kvs k2 : List (Key × V)} {od : Obj} (h : H a = some (.dK kvs)) (he : H e = some (.dK k2)) (x : Str) : DGet (upd H e (.frz od (.dK k2))) a (.str x) (valV kvs (Sum.inr x)) := by
  by_cases q : a = e
  · rw [q] at h ⊢
    have z : k2 = kvs := by
      have := he.symm.trans h
      injection this with y
      injection y
    rw [z]
    exact .inl ⟨kvs, Sum.inr x, .inr ⟨od, upd_same⟩, rfl, rfl⟩
  · exact .inl ⟨kvs, Sum.inr x, .inl (by rw [upd_ne q]; exact h), rfl, rfl⟩
theorem hv_at {l : Ht Str} {i : Nat} {k : Key} {v : V} (nd : (l.map (·.1)).Nodup) (h : (hv l)[i]? = some (k, v)) : ∃ n z, k = Sum.inr n ∧ v = V.int z ∧ look l n = some z := by
  unfold hv at h
  rw [List.getElem?_map] at h
  cases e : l[i]? with
  | none => rw [e] at h; cases h
  | some p =>
    rw [e] at h
    have q := Option.some.inj h
    injection q with q1 q2
    exact ⟨p.1, p.2, q1.symm, q2.symm, mem_look nd (List.mem_of_getElem? e)⟩
def spLenDue : Sp := fun vs H Q _ => ∃ v : Option Int, vs = [vOf v, vOf v] ∧ Q (.bl true) H
def spAlike : Sp := fun vs H Q _ => ∃ (a b : Addr) (l : Ht Str), vs = [.ref a, .ref b] ∧ H a = some (.dK (hv l)) ∧ H b = some (.dK (hv l)) ∧ (l.map (·.1)).Nodup ∧ Q (.bl true) H
def spAsked (K : PySem.W.Frag) (C : Addr) : Sp := fun vs H Q _ => ∃ (B B2 : Hp) (r pN dd : Addr) (o : Str) (ns : List Str) (tw : TW), vs = [.ref r, .ref pN, .ref dd, .str o] ∧ RoadsAt C B H r ns tw ∧ Given ns tw ∧ SqL K H pN (sl ns) ∧ Dicts B2 H dd ns (wy tw) ∧ o ∈ ns ∧
  ∀ H', L2.Same H H' → Q (.bl true) H'
def spNoLess (K : PySem.W.Frag) : Sp := fun vs H Q _ => ∃ (B B2 : Hp) (dd df pN : Addr) (ns : List Str) (ws us : List (Way Str)), vs = [.ref dd, .ref df, .ref pN] ∧ SqL K H pN (sl ns) ∧ Dicts B H dd ns ws ∧ Dicts B2 H df ns us ∧
  (∀ o ∈ ns, Dom (hts ws o) (hts us o) ∧ ((hts us o).map (·.1)).Nodup) ∧ Q (.bl true) H
section
variable {P : Program} {w : World} {K : PySem.W.Frag} {mg : Str → Option Value} {base : Heap} {C : Addr}
theorem scLD : FnScope ["_law_found", "_law_due"] ["_law_found", "_law_due"] (defScope sLLenDue) := ⟨rfl, rfl, rfl, by decide +kernel, rfl, by decide +kernel, by decide +kernel⟩
theorem ok_lenDue {f : Addr} {fd : FuncData} (F : Fun K "_law_length_due" "_law_length_due" sLLenDue f fd) (T : Txt K mg C) (N1 : Cal K mg "_law_whole" sLWhole ["_law_found"]) : FnOk P w K mg base CX0 2 f fd ["_law_found", "_law_due"] spLenDue := by
  obtain ⟨f1, fd1, F1, g1, b1⟩ := N1
  have G1 : FnOk P w K mg base CX0 1 f1 fd1 ["_law_found"] spWhole := ok_whole F1 T
  refine F.ok scLD (fun vs H Q E h => ?_) (fun cdv A outer s H vs Q E hr h => ?_)
  · obtain ⟨v, rfl, _⟩ := h
    rfl
  · obtain ⟨v, rfl, k⟩ := h
    refine ⟨_, pss_cons (ps_if (pt_cmp (pc_isN (pv 1))) (pss_one (ps_ret (pe_cmp (pc_isN (pv 0)) rfl))) pss_nil)
      (pss_one (ps_ret (pe_and (pe_call G1 hr (by rfl) g1 F1.kp b1 .nil pass0 (pa_cons (pv 0) pa_nil)) (pe_one (pe_cmpR op_eq (pv 0) (pv 1) (nomark _)))))), ?_⟩
    refine ⟨_, rfl, _, rfl, ?_⟩
    cases v with
    | none =>
      rw [decide_eq_true (show vOf none = V.non from rfl)]
      refine iteT ⟨_, rfl, ?_⟩
      show Q (V.bl (decide (vOf none = V.non))) H
      rw [decide_eq_true (show vOf none = V.non from rfl)]
      exact k
    | some i =>
      rw [decide_eq_false (show ¬ vOf (some i) = V.non from fun z => nomatch z)]
      refine iteF ⟨_, rfl, i, rfl, true, rfl, iteT ⟨_, rfl, _, rfl, rfl, ?_⟩⟩
      show Q (V.bl (decide (vOf (some i) = vOf (some i)))) H
      rw [decide_eq_true (rfl : vOf (some i) = vOf (some i))]
      exact k
theorem scAl : FnScope ["_law_found", "_law_due", "_law_place"] ["_law_found", "_law_due"] (defScope sLAlike) := ⟨rfl, rfl, rfl, by decide +kernel, rfl, by decide +kernel, by decide +kernel⟩
theorem ok_alike {f : Addr} {fd : FuncData} (F : Fun K "_law_alike" "_law_alike" sLAlike f fd) (T : Txt K mg C) (N1 : Cal K mg "_law_whole" sLWhole ["_law_found"]) : FnOk P w K mg base CX0 2 f fd ["_law_found", "_law_due"] spAlike := by
  obtain ⟨f1, fd1, F1, g1, b1⟩ := N1
  have G1 : FnOk P w K mg base CX0 1 f1 fd1 ["_law_found"] spWhole := ok_whole F1 T
  refine F.ok scAl (fun vs H Q E h => ?_) (fun cdv A outer s H vs Q E hr h => ?_)
  · obtain ⟨a, b, l, rfl, _⟩ := h
    rfl
  · obtain ⟨a, b, l, rfl, ha, hb, nd, k⟩ := h
    have hu := hu_of hr
    refine ⟨_, pss_cons (ps_if (pt_not (pt_val (pe_callB call_isi (by rfl) T.isinstance (by decide +kernel) (pa_cons (pv 0) (pa_cons (pe_bltn (v := .ty "dict") (by rfl) T.dict (by decide +kernel) rfl) pa_nil))))) (pss_one (ps_ret pe_bl)) pss_nil)
      (pss_cons (ps_lock (ps_for PassesOwn.never rfl (pi_keys (pv 0)) (pg_name (i := 2) scAl.nd rfl (.inl rfl))
        (pss_one (ps_if (PW.pt (pw_or (pt_not (pt_val (pe_callB call_isi (by rfl) T.isinstance (by decide +kernel) (pa_cons (pv 2) (pa_cons (pe_bltn (v := .ty "str") (by rfl) T.str (by decide +kernel) rfl) pa_nil)))))
          (pw_or1 (pt_not (pt_val (pe_call G1 hr (by rfl) g1 F1.kp b1 .nil pass0 (pa_cons (pe_dget hu (pv 0) (pv 2) (fun _ _ => rfl)) pa_nil))))))) (pss_one (ps_ret pe_bl)) pss_nil))))
      (pss_one (ps_ret (pe_cmpR (op_eq_dict (Nat.lt_of_le_of_lt (Nat.le_succ _) hu)) (pv 0) (pv 1) (nomark _))))), ?_⟩
    refine ⟨_, rfl, _, _, _, _, true, rfl, .ty _, .base (.dK ha), kit_ty (by decide +kernel), true, rfl, iteF ?_⟩
    refine ⟨a, _, ha, True.intro, fun od => ?_⟩
    refine ⟨_, rfl, a, od, rfl, .inl ⟨_, upd_same, for_it walk_keys (fun i σ H' => ∃ v, σ = [some (V.ref a), some (V.ref b), v] ∧ H' = upd H a (.frz od (.dK (hv l)))) ⟨none, rfl, rfl⟩ (fun i σ H' _ ⟨_, _, e⟩ => by rw [e]; exact upd_same) ?_ ?_⟩⟩
    · rintro i x σ H1 H2 hi ⟨v, rfl, rfl⟩ ⟨rfl, ky, vl, hk, rfl⟩
      obtain ⟨n, z, rfl, rfl, lk⟩ := hv_at nd hk
      have g := dget_lock (od := od) ha ha n
      rw [hv_val, lk] at g
      refine ⟨_, rfl, _, _, _, _, true, rfl, .ty _, .base (.str n), kit_ty (by decide +kernel), true, rfl, iteF ?_⟩
      exact ⟨_, rfl, _, rfl, a, _, rfl, g, z, rfl, true, rfl, iteF ⟨_, rfl, rfl⟩⟩
    · rintro σ H1 ⟨v, rfl, rfl⟩
      refine ⟨upd_same, ?_⟩
      rw [upd_back ha]
      refine ⟨_, rfl, _, rfl, a, b, hv l, rfl, rfl, ha, hb, hv_keys l nd, fun p hp => ?_, k⟩
      unfold hv at hp
      obtain ⟨q, _, rfl⟩ := List.mem_map.mp hp
      rfl
theorem scAs : FnScope ["_law_roads", "_law_names_here", "_law_dues", "_law_origin", "_law_goal"] ["_law_roads", "_law_names_here", "_law_dues", "_law_origin"] (defScope sLAsked) := ⟨rfl, rfl, rfl, by decide +kernel, rfl, by decide +kernel, by decide +kernel⟩
theorem ok_asked {f : Addr} {fd : FuncData} (F : Fun K "_law_asked" "_law_asked" sLAsked f fd) (T : Txt K mg C) (N1 : Cal K mg "_law_whole" sLWhole ["_law_found"]) (N2 : Cal K mg "_law_length_due" sLLenDue ["_law_found", "_law_due"]) (N3 : Cal K mg "_law_alike" sLAlike ["_law_found", "_law_due"])
    (N4 : Cal K mg "place_ahead" sAhead ["place", "heights", "ways"]) (M1 : Met K C "length" "Roads.length" sLength ["self", "origin", "goal"]) (M2 : Met K C "way" "Roads.way" sWay ["self", "origin", "goal"]) (M3 : Met K C "heights" "Roads.heights" sHts ["self", "origin"]) :
    FnOk P w K mg base CX0 3 f fd ["_law_roads", "_law_names_here", "_law_dues", "_law_origin"] (spAsked K C) := by
  obtain ⟨f2, fd2, F2, g2, b2⟩ := N2
  obtain ⟨f3, fd3, F3, g3, b3⟩ := N3
  have G2 : FnOk P w K mg base CX0 2 f2 fd2 ["_law_found", "_law_due"] spLenDue := ok_lenDue F2 T N1
  have G3 : FnOk P w K mg base CX0 2 f3 fd3 ["_law_found", "_law_due"] spAlike := ok_alike F3 T N1
  obtain ⟨q2, qd2, Q2, e2, c2⟩ := M2
  have R2 : FnOk P w K mg base CX0 2 q2 qd2 ["self", "origin", "goal"] (spWay C) := ok_way Q2 T N4 M1
  obtain ⟨q1, qd1, Q1, e1, c1⟩ := M1
  obtain ⟨q3, qd3, Q3, e3, c3⟩ := M3
  have R1 : FnOk P w K mg base CX0 1 q1 qd1 ["self", "origin", "goal"] (spLength C) := ok_length Q1 T
  have R3 : FnOk P w K mg base CX0 1 q3 qd3 ["self", "origin"] (spHts C) := ok_hts Q3 T
  refine F.ok scAs (fun vs H Q E h => ?_) (fun cdv A outer s H vs Q E hr h => ?_)
  · obtain ⟨B, B2, r, pN, dd, o, ns, tw, rfl, _⟩ := h
    rfl
  · obtain ⟨B, B2, r, pN, dd, o, ns, tw, rfl, R, gv, hN, D, ho, k⟩ := h
    have hu := hu_of hr
    have hr1 : Room 1 _ := hr.mono (by decide)
    refine ⟨_, pss_cons (ps_for PassesOwn.never rfl (pi_list (pv 1)) (pg_name (i := 4) scAs.nd rfl (.inl rfl))
        (pss_cons (ps_if (pt_not (pt_val (pe_call G2 hr (by rfl) g2 F2.kp b2 .nil pass0 (pa_cons (pe_meth (pv 0) T.cl e1 R1 hr1 c1 .nil pass0 (pa_cons (pv 3) (pa_cons (pv 4) pa_nil)))
            (pa_cons (pe_dget1 hu (pe_dget hu (pv 2) (pv 3) (fun _ _ => rfl)) (pv 4) ⟨rfl, rfl, rfl, rfl⟩) pa_nil))))) (pss_one (ps_ret pe_bl)) pss_nil)
        (pss_one (ps_if (pt_cmpR op_ne (pe_cmp (pc_isN (pe_meth (pv 0) T.cl e2 R2 hr c2 .nil pass0 (pa_cons (pv 3) (pa_cons (pv 4) pa_nil)))) rfl) (pe_cmp (pc_dnotin hu (pv 4) (pe_dget hu (pv 2) (pv 3) (fun _ _ => rfl))) rfl) (nomark _)) (pss_one (ps_ret pe_bl)) pss_nil))))
      (pss_one (ps_ret (pe_call G3 hr (by rfl) g3 F3.kp b3 .nil pass0 (pa_cons (pe_meth (pv 0) T.cl e3 R3 hr1 c3 .nil pass0 (pa_cons (pv 3) pa_nil)) (pa_cons (pe_dget hu (pv 2) (pv 3) (fun _ _ => rfl)) pa_nil))))), ?_⟩
    refine ⟨_, rfl, pN, rfl, ⟨_, hN⟩, for_list (K := K) (a := pN) (xs := sl ns) (fun i σ H' => ∃ v, σ = [some (V.ref r), some (V.ref pN), some (V.ref dd), some (V.str o), v] ∧ L2.Same H H') ⟨none, rfl, L2.Same.refl H⟩ (fun i σ H' _ ⟨_, _, s1⟩ => s1.seq hN) ?_ ?_⟩
    · rintro i x σ H1 hi ⟨v, rfl, s1⟩
      obtain ⟨g, hg, rfl⟩ := sl_get hi
      have gm : g ∈ ns := List.mem_of_getElem? hg
      have Ra := roads_same s1 R
      obtain ⟨dx, tl, ll, rd, _, _, _, h1, _⟩ := id Ra
      refine ⟨_, rfl, r, dx, _, rfl, h1, fl_no _ _ _ (by decide +kernel) (by decide +kernel) (by decide +kernel), _, rfl, _, rfl, B, r, o, g, ns, tw, rfl, Ra, ho, gm, fun H2 s2 => ?_⟩
      have t2 : L2.Same H H2 := s1.trans s2
      have Rb := roads_same t2 R
      have Db := dicts_same t2 D
      obtain ⟨d, gt, _, _, ed⟩ := dicts_get Db ho
      obtain ⟨dx, tl, ll, rd, _, _, _, h2, _⟩ := id Rb
      refine ⟨_, rfl, _, rfl, dd, _, rfl, gt, d, rfl, .inl ⟨_, .inl ed⟩, _, rfl, _, hv_get ed g, look (hts (wy tw) o) g, ?_, true, rfl, iteF ?_⟩
      · cases look (hts (wy tw) o) g <;> rfl
      refine ⟨_, rfl, r, dx, _, rfl, h2, fl_no _ _ _ (by decide +kernel) (by decide +kernel) (by decide +kernel), _, rfl, _, rfl, B, r, o, g, ns, tw, rfl, Rb, gv, ho, gm, fun e H3 s3 => ?_, fun h e q H3 s3 => ?_⟩
      · obtain ⟨d3, gt3, _, _, ed3⟩ := dicts_get (dicts_same s3 Db) ho
        have gg := hv_get ed3 g
        rw [e] at gg
        refine ⟨_, rfl, _, rfl, _, rfl, dd, _, rfl, gt3, d3, _, rfl, gg, rfl, _, rfl, ?_⟩
        rw [decide_eq_true (rfl : V.non = V.non)]
        exact iteF ⟨_, rfl, t2.trans s3⟩
      · obtain ⟨d3, gt3, _, _, ed3⟩ := dicts_get (dicts_same s3 Db) ho
        have gg := hv_get ed3 g
        rw [e] at gg
        refine ⟨_, rfl, _, rfl, _, rfl, dd, _, rfl, gt3, d3, _, rfl, gg, rfl, _, rfl, ?_⟩
        rw [decide_eq_false (show ¬ V.ref q = V.non from fun z => nomatch z)]
        exact iteF ⟨_, rfl, t2.trans s3⟩
    · rintro σ H1 ⟨v, rfl, s1⟩
      have Ra := roads_same s1 R
      obtain ⟨dx, tl, ll, rd, _, _, _, h1, _⟩ := id Ra
      refine ⟨_, rfl, r, dx, _, rfl, h1, fl_no _ _ _ (by decide +kernel) (by decide +kernel) (by decide +kernel), _, rfl, B, r, o, ns, tw, rfl, Ra, ho, fun q hq => ?_⟩
      have s2 : L2.Same H1 (upd H1 q (.dK (hv (hts (wy tw) o)))) := snew hq
      obtain ⟨d, gt, _, _, ed⟩ := dicts_get (dicts_same s2 (dicts_same s1 D)) ho
      exact ⟨_, rfl, _, rfl, dd, _, rfl, gt, q, d, hts (wy tw) o, rfl, upd_same, ed, (hts_fin gv.wk ho).good.nd, k _ (s1.trans s2)⟩
theorem scNL : FnScope ["_law_dues", "_law_fewer", "_law_names_here", "_law_origin", "_law_goal"] ["_law_dues", "_law_fewer", "_law_names_here"] (defScope sLNoLess) := ⟨rfl, rfl, rfl, by decide +kernel, rfl, by decide +kernel, by decide +kernel⟩
theorem ok_noLess {f : Addr} {fd : FuncData} (F : Fun K "_law_no_less" "_law_no_less" sLNoLess f fd) : FnOk P w K mg base CX0 1 f fd ["_law_dues", "_law_fewer", "_law_names_here"] (spNoLess K) := by
  refine F.ok scNL (fun vs H Q E h => ?_) (fun cdv A outer s H vs Q E hr h => ?_)
  · obtain ⟨B, B2, dd, df, pN, ns, ws, us, rfl, _⟩ := h
    rfl
  · obtain ⟨B, B2, dd, df, pN, ns, ws, us, rfl, hN, D1, D2, dom, k⟩ := h
    have hu := hu_of hr
    refine ⟨_, pss_cons (ps_for PassesOwn.never rfl (pi_list (pv 2)) (pg_name (i := 3) scNL.nd rfl (.inl rfl))
        (pss_one (ps_lock (ps_for PassesOwn.never rfl (pi_keys (pe_dget hu (pv 1) (pv 3) (fun _ _ => rfl))) (pg_name (i := 4) scNL.nd rfl (.inl rfl))
          (pss_one (ps_if (PW.pt (pw_or (pt_cmp (pc_dnotin hu (pv 4) (pe_dget hu (pv 0) (pv 3) (fun _ _ => rfl))))
            (pw_or1 (pt_cmpR op_lt (pe_dget hu (pe_dget hu (pv 1) (pv 3) (fun _ _ => rfl)) (pv 4) (fun _ _ => rfl)) (pe_dget hu (pe_dget hu (pv 0) (pv 3) (fun _ _ => rfl)) (pv 4) (fun _ _ => rfl)) (nomark _))))) (pss_one (ps_ret pe_bl)) pss_nil))))))
      (pss_one (ps_ret pe_bl)), ?_⟩
    refine ⟨_, rfl, pN, rfl, ⟨_, hN⟩, for_list (K := K) (a := pN) (xs := sl ns) (fun i σ H' => ∃ v3 v4, σ = [some (V.ref dd), some (V.ref df), some (V.ref pN), v3, v4] ∧ H' = H) ⟨none, none, rfl, rfl⟩ (fun i σ H' _ ⟨_, _, _, e⟩ => by rw [e]; exact hN) ?_ ?_⟩
    · rintro i x σ H1 hi ⟨v3, v4, rfl, rfl⟩
      obtain ⟨o, ho, rfl⟩ := sl_get hi
      have om : o ∈ ns := List.mem_of_getElem? ho
      obtain ⟨dm, nd⟩ := dom o om
      obtain ⟨kv1, a1, _, all1⟩ := D1
      obtain ⟨kv2, a2, _, all2⟩ := D2
      obtain ⟨d, vd, _, _, hd⟩ := all1 o om
      obtain ⟨e, ve, _, _, he⟩ := all2 o om
      refine ⟨e, _, he, True.intro, fun od => ?_⟩
      have x1 := dget_lock (od := od) a1 he o
      have x2 := dget_lock (od := od) a2 he o
      rw [vd] at x1
      rw [ve] at x2
      refine ⟨_, rfl, _, rfl, df, _, rfl, x2, e, od, rfl, .inl ⟨_, upd_same, for_it walk_keys (fun i σ H' => ∃ v4, σ = [some (V.ref dd), some (V.ref df), some (V.ref pN), some (V.str o), v4] ∧ H' = upd H1 e (.frz od (.dK (hv (hts us o))))) ⟨v4, rfl, rfl⟩ (fun i σ H' _ ⟨_, _, q⟩ => by rw [q]; exact upd_same) ?_ ?_⟩⟩
      · rintro j y σ H2 H3 hj ⟨v4, rfl, rfl⟩ ⟨rfl, ky, vl, hk, rfl⟩
        obtain ⟨g, h, rfl, rfl, lk⟩ := hv_at nd hk
        obtain ⟨h', lk', le⟩ := dm g h lk
        have y1 := dget_lock (od := od) hd he g
        have y2 := dget_lock (od := od) he he g
        rw [hv_val, lk'] at y1
        rw [hv_val, lk] at y2
        refine ⟨_, rfl, _, rfl, _, rfl, dd, _, rfl, x1, d, _, rfl, y1, _, rfl, iteF ?_⟩
        refine ⟨_, rfl, _, rfl, df, _, rfl, x2, _, rfl, e, _, rfl, y2, _, rfl, _, rfl, dd, _, rfl, x1, _, rfl, d, _, rfl, y1, _, _, rfl, rfl, _, rfl, ?_⟩
        rw [decide_eq_false (show ¬ h < h' by omega)]
        exact iteF ⟨_, rfl, rfl⟩
      · rintro σ H2 ⟨v4, rfl, rfl⟩
        refine ⟨upd_same, ?_⟩
        rw [upd_back he]
        exact ⟨_, _, rfl, rfl⟩
    · rintro σ H1 ⟨v3, v4, rfl, rfl⟩
      exact k
end
end Fl

/-! ## FlLaw -/
set_option Elab.async false
set_option linter.all false
set_option maxRecDepth 100000
set_option maxHeartbeats 4000000
namespace Fl
open PySem PySem.Spec PyProof.Rows L2
def spLaw (K : PySem.W.Frag) : Sp := fun vs H Q _ => ∃ (a : Addr) (zs : List Int), vs = [.ref a] ∧ SqL K H a (zs.map V.int) ∧ zs.length ≤ 63 ∧ ∀ H', Q (.bl true) H'
theorem map_erase {α β : Type} (f : α → β) : ∀ (l : List α) (k : Nat), (l.map f).eraseIdx k = (l.eraseIdx k).map f
  | [], k => by rfl
  | x :: r, 0 => by rfl
  | x :: r, k + 1 => by
    rw [List.map_cons, List.eraseIdx_cons_succ, List.eraseIdx_cons_succ, List.map_cons, map_erase f r k]
/-! ### the heap without some lists -/
def Cut (H : Hp) (hs : List Addr) : Hp := fun b => if b ∈ hs then none else H b
theorem cut_keep {H : Hp} {hs : List Addr} {b : Addr} {o : HO} (e : H b = some o) (n : b ∉ hs) : Cut H hs b = some o := by
  unfold Cut
  rw [if_neg n]
  exact e
theorem cut_none {H : Hp} {hs : List Addr} {b : Addr} (m : b ∈ hs) : Cut H hs b = none := by
  unfold Cut
  rw [if_pos m]
theorem cut_same (H : Hp) (hs : List Addr) : L2.Same (Cut H hs) H := fun b o e => by
  unfold Cut at e
  by_cases m : b ∈ hs
  · rw [if_pos m] at e; cases e
  · rw [if_neg m] at e; exact e
section
variable {C : Addr} {B H : Hp} {hs : List Addr}
theorem cut_new (st : ∀ h ∈ hs, ∃ xs, B h = some (.lst xs)) {b : Addr} (n : B b = none) : b ∉ hs := fun m => by
  obtain ⟨xs, e⟩ := st b m
  rw [n] at e
  cases e
theorem cut_dicts {B2 : Hp} {rd : Addr} {ns : List Str} {ws : List (Way Str)} (st : ∀ h ∈ hs, ∃ xs, B h = some (.lst xs)) (s : L2.Same B B2) (n : B rd = none) (h : Dicts B2 H rd ns ws) : Dicts B2 (Cut H hs) rd ns ws := by
  obtain ⟨kvs, e, l, q⟩ := h
  refine ⟨kvs, cut_keep e (cut_new st n), l, fun x hx => ?_⟩
  obtain ⟨d, h1, h2, h3, h4⟩ := q x hx
  exact ⟨d, h1, h2, h3, cut_keep h4 (cut_new st (s.free h3))⟩
theorem cut_tups {tw : TW} (st : ∀ h ∈ hs, ∃ xs, H h = some (.lst xs)) (t : Tups H tw) : Tups (Cut H hs) tw := fun p hp => by
  refine cut_keep (t p hp) fun m => ?_
  obtain ⟨xs, e⟩ := st _ m
  rw [t p hp] at e
  cases e
theorem cut_roads {r : Addr} {ns : List Str} {tw : TW} (st : ∀ h ∈ hs, ∃ xs, B h = some (.lst xs)) (st2 : ∀ h ∈ hs, ∃ xs, H h = some (.lst xs)) (R : RoadsAt C B H r ns tw) : RoadsAt C B (Cut H hs) r ns tw := by
  obtain ⟨dx, tl, ll, rd, b1, b2, ⟨b3, b4⟩, h1, h2, h3, h4, h5⟩ := R
  exact ⟨dx, tl, ll, rd, b1, b2, ⟨b3, b4⟩, cut_keep h1 (cut_new st b1), cut_keep h2 (cut_new st b2), cut_keep h3 (cut_new st b3), cut_dicts st (L2.Same.refl B) b4 h4, cut_tups st2 h5⟩
end
/-- all that the law handed in and made of it, behind the making -/
structure All (C : Addr) (K : PySem.W.Frag) (B B8 H : Hp) (pN pW pS r1 r2 d1 d2 : Addr) (ns : List Str) (tw us : TW) : Prop where
  n : H pN = some (.lst (sl ns))
  w : H pW = some (.lst (wl tw))
  s : H pS = some (.lst (wl us))
  tt : Tups H tw
  tu : Tups H us
  gt : Given ns tw
  gu : Given ns us
  sub : ∀ p ∈ us, p ∈ tw
  R1 : RoadsAt C B H r1 ns tw
  R2 : RoadsAt C B H r2 ns us
  D1 : Dicts B8 H d1 ns (wy tw)
  D2 : Dicts B8 H d2 ns (wy us)
theorem All.same {C : Addr} {K : PySem.W.Frag} {B B8 H H' : Hp} {pN pW pS r1 r2 d1 d2 : Addr} {ns : List Str} {tw us : TW} (k : L2.Same H H') (A : All C K B B8 H pN pW pS r1 r2 d1 d2 ns tw us) : All C K B B8 H' pN pW pS r1 r2 d1 d2 ns tw us :=
  ⟨k _ _ A.n, k _ _ A.w, k _ _ A.s, A.tt.same k, A.tu.same k, A.gt, A.gu, A.sub, roads_same k A.R1, roads_same k A.R2, dicts_same k A.D1, dicts_same k A.D2⟩
section
variable {P : Program} {w : World} {K : PySem.W.Frag} {mg : Str → Option Value} {base : Heap} {C : Addr}
abbrev nLaw : List Str := ["_law_script", "_law_names_here", "_law_ways_here", "_law_some", "_law_handed", "_law_roads", "_law_beside", "_law_dues", "_law_fewer", "_law_origin", "_law_row"]
theorem scL : FnScope nLaw ["_law_script"] (defScope sLaw) := ⟨rfl, rfl, rfl, by decide +kernel, rfl, by decide +kernel, by decide +kernel⟩
theorem ok_law {f fI : Addr} {fd fdI : FuncData} (F : Fun K "law" "law" sLaw f fd) (T : Txt K mg C) (MK : Mk K C fI) (FI : Fun K "__init__" "Roads.__init__" sInit fI fdI) (bI : Binds K fdI ["self", "places", "ways"] [])
    (c1 : Cal K mg "checked_name" sChName ["name"]) (c2 : Cal K mg "checked_number" sChNum ["value", "least"]) (c3 : Cal K mg "check_roads" sChRoads ["places", "ways"]) (c4 : Cal K mg "heights_from" sHeights ["origin", "ways"])
    (c5 : Cal K mg "place_ahead" sAhead ["place", "heights", "ways"]) (l0 : Cal K mg "_law_cell" sLCell ["_law_script", "_law_k"]) (l1 : Cal K mg "_law_mix" sLMix ["_law_cell_here", "_law_turn"]) (l2 : Cal K mg "_law_whole" sLWhole ["_law_found"])
    (l3 : Cal K mg "_law_names" sLNames ["_law_cell_here", "_law_many"]) (l4 : Cal K mg "_law_length" sLLength ["_law_cell_here"]) (l5 : Cal K mg "_law_ways" sLWays ["_law_cells", "_law_names_here"]) (l6 : Cal K mg "_law_office" sLOffice ["_law_script"])
    (l7 : Cal K mg "_law_heights" sLHeights ["_law_origin", "_law_ways_here"]) (l8 : Cal K mg "_law_alike" sLAlike ["_law_found", "_law_due"]) (l9 : Cal K mg "_law_length_due" sLLenDue ["_law_found", "_law_due"])
    (l10 : Cal K mg "_law_asked" sLAsked ["_law_roads", "_law_names_here", "_law_dues", "_law_origin"]) (l11 : Cal K mg "_law_no_less" sLNoLess ["_law_dues", "_law_fewer", "_law_names_here"])
    (m1 : Met K C "names" "Roads.names" sNames ["self"]) (m2 : Met K C "heights" "Roads.heights" sHts ["self", "origin"]) (m3 : Met K C "length" "Roads.length" sLength ["self", "origin", "goal"]) (m4 : Met K C "way" "Roads.way" sWay ["self", "origin", "goal"]) :
    FnOk P w K mg base CX0 5 f fd ["_law_script"] (spLaw K) := by
  have GI : FnOk P w K mg base CX0 3 fI fdI ["self", "places", "ways"] (spInit K C) := ok_init FI T c1 c2 c3 c4
  obtain ⟨f6, fd6, F6, g6, b6⟩ := l6
  have G6 : FnOk P w K mg base CX0 4 f6 fd6 ["_law_script"] (spOffice K) := ok_office F6 T l0 l1 l4 l3 l5
  obtain ⟨f7, fd7, F7, g7, b7⟩ := l7
  have G7 : FnOk P w K mg base CX0 1 f7 fd7 ["_law_origin", "_law_ways_here"] (spHeights K) := ok_lheights F7
  obtain ⟨f10, fd10, F10, g10, b10⟩ := l10
  have G10 : FnOk P w K mg base CX0 3 f10 fd10 ["_law_roads", "_law_names_here", "_law_dues", "_law_origin"] (spAsked K C) := ok_asked F10 T l2 l9 l8 c5 m3 m4 m2
  obtain ⟨f11, fd11, F11, g11, b11⟩ := l11
  have G11 : FnOk P w K mg base CX0 1 f11 fd11 ["_law_dues", "_law_fewer", "_law_names_here"] (spNoLess K) := ok_noLess F11
  obtain ⟨q1, qd1, Q1, e1, p1⟩ := m1
  have GN : FnOk P w K mg base CX0 1 q1 qd1 ["self"] (spNames C) := ok_names Q1 T
  obtain ⟨f0, fd0, F0, g0, b0⟩ := l0
  obtain ⟨f1, fd1, F1, g1, b1⟩ := l1
  have G0 : FnOk P w K mg base CX0 1 f0 fd0 ["_law_script", "_law_k"] (spCell K) := ok_cell F0 T
  have G1 : FnOk P w K mg base CX0 1 f1 fd1 ["_law_cell_here", "_law_turn"] spMix := ok_mix F1
  refine F.ok scL (fun vs H Q E h => ?_) (fun cdv A outer s H vs Q E hr h => ?_)
  · obtain ⟨a, zs, rfl, _⟩ := h
    rfl
  · obtain ⟨a, zs, rfl, hA, z63, k⟩ := h
    have hu := hu_of hr
    have hr1 : Room 1 _ := hr.mono (by decide)
    have hr3 : Room 3 _ := hr.mono (by decide)
    refine ⟨_, pss_cons (ps_asg (pe_call G6 hr (by rfl) g6 F6.kp b6 .nil pass0 (pa_cons (pv 0) pa_nil)) (pg_tup rfl (pgs_cons (pg_name (i := 1) scL.nd rfl (.inl rfl)) (pgs_cons (pg_name (i := 2) scL.nd rfl (.inl rfl)) pgs_nil))))
      (pss_cons (ps_set (i := 3) scL.nd rfl (.inl rfl) (pe_callTy call_list_of (by rfl) T.list boot_list (pa_cons (pv 2) pa_nil)))
      (C8.pss_cut (ps_if (pt_cmpR (op_neD hr.units) (pv 3) (pe_lst pa_nil) (nomark _))
        (pss_one (ps_expr (pe_bm PySem.F.plainAttrs_list PySem.F.slot_list_pop PySem.F.type_list_pop mt_popAt (pv 3) (pa_cons (pe_op op_mod (pe_call G1 hr1 (by rfl) g1 F1.kp b1 .nil pass0 (pa_cons (pe_call G0 hr1 (by rfl) g0 F0.kp b0 .nil pass0 (pa_cons (pv 0) (pa_cons pe_int pa_nil))) (pa_cons pe_int pa_nil)))
          (pe_callB call_len_seq (by rfl) T.len PySem.boot_len (pa_cons (pv 3) pa_nil))) pa_nil)))) pss_nil)
      (pss_cons (ps_set (i := 4) scL.nd rfl (.inl rfl) (pe_lst (pa_cons (pe_callTy call_list_of (by rfl) T.list boot_list (pa_cons (pv 1) pa_nil)) (pa_cons (pe_callTy call_list_of (by rfl) T.list boot_list (pa_cons (pv 2) pa_nil))
        (pa_cons (pe_callTy call_list_of (by rfl) T.list boot_list (pa_cons (pv 1) pa_nil)) (pa_cons (pe_callTy call_list_of (by rfl) T.list boot_list (pa_cons (pv 3) pa_nil)) pa_nil))))))
      (pss_cons (ps_set (i := 5) scL.nd rfl (.inl rfl) (pe_make MK GI hr (by rfl) T.mgC bI .nil pass0 (pa_cons (pe_ix ix_list (pv 4) pe_int (fun _ _ => rfl)) (pa_cons (pe_ix ix_list (pv 4) pe_int (fun _ _ => rfl)) pa_nil))))
      (pss_cons (ps_set (i := 6) scL.nd rfl (.inl rfl) (pe_make MK GI hr (by rfl) T.mgC bI .nil pass0 (pa_cons (pe_ix ix_list (pv 4) pe_int (fun _ _ => rfl)) (pa_cons (pe_ix ix_list (pv 4) pe_int (fun _ _ => rfl)) pa_nil))))
      (pss_cons (ps_set (i := 7) scL.nd rfl (.inl rfl) pe_dnewK)
      (pss_cons (ps_set (i := 8) scL.nd rfl (.inl rfl) pe_dnewK)
      (C8.pss_cut (ps_for PassesOwn.never rfl (pi_list (pv 1)) (pg_name (i := 9) scL.nd rfl (.inl rfl))
        (pss_cons (ps_dput hu (pv 7) (pv 9) (pe_call G7 hr1 (by rfl) g7 F7.kp b7 .nil pass0 (pa_cons (pv 9) (pa_cons (pv 2) pa_nil))) rfl)
        (pss_one (ps_dput hu (pv 8) (pv 9) (pe_call G7 hr1 (by rfl) g7 F7.kp b7 .nil pass0 (pa_cons (pv 9) (pa_cons (pv 3) pa_nil))) rfl))))
      (C8.pss_cut (ps_for PassesOwn.never rfl (pi_list (pv 1)) (pg_name (i := 9) scL.nd rfl (.inl rfl))
        (pss_cons (ps_if (pt_not (pt_val (pe_call G10 hr3 (by rfl) g10 F10.kp b10 .nil pass0 (pa_cons (pv 5) (pa_cons (pv 1) (pa_cons (pv 7) (pa_cons (pv 9) pa_nil))))))) (pss_one (ps_ret pe_bl)) pss_nil)
        (pss_one (ps_if (pt_not (pt_val (pe_call G10 hr3 (by rfl) g10 F10.kp b10 .nil pass0 (pa_cons (pv 6) (pa_cons (pv 1) (pa_cons (pv 8) (pa_cons (pv 9) pa_nil))))))) (pss_one (ps_ret pe_bl)) pss_nil))))
      (C8.pss_cut (ps_if (PW.pt (pw_or (pt_cmpR (op_neD hr.units) (pv 4) (pe_lst (pa_cons (pv 1) (pa_cons (pv 2) (pa_cons (pv 1) (pa_cons (pv 3) pa_nil))))) (nomark _))
          (pw_or1 (pt_not (pt_val (pe_call G11 hr1 (by rfl) g11 F11.kp b11 .nil pass0 (pa_cons (pv 7) (pa_cons (pv 8) (pa_cons (pv 1) pa_nil))))))))) (pss_one (ps_ret pe_bl)) pss_nil)
      (C8.pss_cut (ps_for PassesOwn.never rfl (pi_list (pv 4)) (pg_name (i := 10) scL.nd rfl (.inl rfl))
        (pss_one (ps_expr (pe_bm0 PySem.F.plainAttrs_list PySem.F.slot_list_clear PySem.F.type_list_clear mt_clear (pv 10)))))
      (C8.pss_cut (ps_for PassesOwn.never rfl (pi_reversed (by rfl) T.reversed (pa_cons (pv 1) pa_nil)) (pg_name (i := 9) scL.nd rfl (.inl rfl))
        (pss_cons (ps_if (pt_not (pt_val (pe_call G10 hr3 (by rfl) g10 F10.kp b10 .nil pass0 (pa_cons (pv 6) (pa_cons (pv 1) (pa_cons (pv 8) (pa_cons (pv 9) pa_nil))))))) (pss_one (ps_ret pe_bl)) pss_nil)
        (pss_one (ps_if (pt_not (pt_val (pe_call G10 hr3 (by rfl) g10 F10.kp b10 .nil pass0 (pa_cons (pv 5) (pa_cons (pv 1) (pa_cons (pv 7) (pa_cons (pv 9) pa_nil))))))) (pss_one (ps_ret pe_bl)) pss_nil))))
      (pss_one (ps_ret (pe_and (pe_cmpR (op_eqD hr.units) (pe_meth0 (pv 5) T.cl e1 GN hr1 p1 .nil pass0) (pv 1) (nomark _)) (pe_one (pe_cmpR (op_eqD hr.units) (pe_meth0 (pv 6) T.cl e1 GN hr1 p1 .nil pass0) (pv 1) (nomark _)))))))))))))))))), ?_⟩
    -- names, ways = office(script)
    refine ⟨_, rfl, a, zs, rfl, hA, z63, fun t pN pW ns tw H1 s1 nN nW eT eN eW tt gv => ?_⟩
    refine ⟨t, _, rfl, SqT.of eT, rfl, _, _, rfl, _, _, rfl, rfl, ?_⟩
    -- some = list(ways)
    refine ⟨_, rfl, pW, _, rfl, .inl (SqL.of eW), fun pS nS => ?_⟩
    have n1 := gv.nk.lo
    have n12 := gv.nk.hi
    have few := gv.few
    refine ⟨fun σ H' => ∃ us : TW, σ = [some (V.ref a), some (V.ref pN), some (V.ref pW), some (V.ref pS), none, none, none, none, none, none, none] ∧ L2.Same H1 H' ∧ H' pS = some (.lst (wl us)) ∧ (∀ p ∈ us, p ∈ tw) ∧ us.length ≤ tw.length, ?_, ?_⟩
    · have s2 : L2.Same H1 (upd H1 pS (.lst (wl tw))) := snew nS
      have e2 : (upd H1 pS (.lst (wl tw))) pS = some (.lst (wl tw)) := upd_same
      generalize upd H1 pS (.lst (wl tw)) = H2 at s2 e2
      refine ⟨_, rfl, Nat.zero_le _, fun l0 hl0 => ?_⟩
      have s3 : L2.Same H2 (upd H2 l0 (.lst [])) := snew hl0
      have e3 : (upd H2 l0 (.lst [])) l0 = some (.lst []) := upd_same
      generalize upd H2 l0 (.lst []) = H3 at s3 e3
      have eS := s3 _ _ e2
      refine ⟨dWs (wy tw), .list [], dWs_dp (SqL.of eS) ((tt.same s2).same s3), .lst (SqL.of e3) .nil, shaped_of (dWs_lay (sgs_of gv.nk) gv.wk) (by have := dWs_depth (wy tw); omega), by decide, _, rfl, ?_⟩
      by_cases z : tw = []
      · have ev : PyData.eqv (dWs (wy tw)) (.list []) = true := by rw [z]; decide
        rw [ev]
        exact iteF ⟨tw, rfl, s2.trans s3, eS, fun p hp => hp, Nat.le_refl _⟩
      · have ev : PyData.eqv (dWs (wy tw)) (.list []) = false := by
          cases tw with
          | nil => exact (z rfl).elim
          | cons p r =>
            unfold dWs wy
            rw [List.map_cons, List.map_cons, PyData.eqv, PyData.eqvAll]
        have pos : 0 < tw.length := List.length_pos_iff.mpr z
        have pos2 : 0 < ((wl tw).length : Int) := by rw [wl_len]; omega
        rw [ev]
        refine iteT ⟨_, rfl, .inl ⟨rfl, _, SqL.of eS⟩, _, rfl, a, zs, 2, rfl, s3.seq (s2.seq (s1.seq hA)), by decide, fun u => ⟨u, 43, rfl, by decide, by decide, fun y y0 y1 => ?_⟩⟩
        refine ⟨_, rfl, pS, _, rfl, .inl (SqL.of eS), _, _, rfl, rfl, pos2, ?_⟩
        have b0 := Int.emod_nonneg y (show ((wl tw).length : Int) ≠ 0 by omega)
        have b1 := Int.emod_lt_of_pos y pos2
        have b2 : (wl tw).length ≤ 60 := by rw [wl_len]; omega
        have lt : (y % ((wl tw).length : Int)).toNat < (wl tw).length := by omega
        refine ⟨pS, _, _, _, _, rfl, rfl, eS, by omega, by omega, seqIndex_of b0 b1, List.getElem?_eq_getElem lt, ?_⟩
        refine ⟨tw.eraseIdx (y % ((wl tw).length : Int)).toNat, rfl, sput (s2.trans s3) nS, ?_, fun p hp => List.mem_of_mem_eraseIdx hp, List.length_eraseIdx_le _ _⟩
        rw [upd_same]
        exact congrArg (fun l => some (HO.lst l)) (map_erase _ _ _)
    rintro σ H3 ⟨us, rfl, s3, eS, sub, less⟩
    have eN3 := s3 _ _ eN
    have eW3 := s3 _ _ eW
    have t3 := tt.same s3
    have u3 : Tups H3 us := fun p hp => t3 p (sub p hp)
    have gu : Given ns us := ⟨gv.nk, fun v hv => by
      obtain ⟨p, hp, rfl⟩ := List.mem_map.mp hv
      exact gv.wk p.2 (List.mem_map.mpr ⟨p, sub p hp, rfl⟩), by omega⟩
    have suby : ∀ v ∈ wy us, v ∈ wy tw := fun v hv => by
      obtain ⟨p, hp, rfl⟩ := List.mem_map.mp hv
      exact List.mem_map.mpr ⟨p, sub p hp, rfl⟩
    -- handed
    refine ⟨_, rfl, pN, _, rfl, .inl (SqL.of eN3), fun h0 n0 => ?_⟩
    have k0 : L2.Same H3 (upd H3 h0 (.lst (sl ns))) := snew n0
    have x0 : (upd H3 h0 (.lst (sl ns))) h0 = some (.lst (sl ns)) := upd_same
    generalize upd H3 h0 (.lst (sl ns)) = A0 at k0 x0
    refine ⟨_, rfl, pW, _, rfl, .inl (SqL.of (k0 _ _ eW3)), fun h1 n1 => ?_⟩
    have k1 : L2.Same A0 (upd A0 h1 (.lst (wl tw))) := snew n1
    have x1 : (upd A0 h1 (.lst (wl tw))) h1 = some (.lst (wl tw)) := upd_same
    generalize upd A0 h1 (.lst (wl tw)) = A1 at k1 x1
    have j1 := k0.trans k1
    refine ⟨_, rfl, pN, _, rfl, .inl (SqL.of (j1 _ _ eN3)), fun h2 n2 => ?_⟩
    have k2 : L2.Same A1 (upd A1 h2 (.lst (sl ns))) := snew n2
    have x2 : (upd A1 h2 (.lst (sl ns))) h2 = some (.lst (sl ns)) := upd_same
    generalize upd A1 h2 (.lst (sl ns)) = A2 at k2 x2
    have j2 := j1.trans k2
    refine ⟨_, rfl, pS, _, rfl, .inl (SqL.of (j2 _ _ eS)), fun h3 n3 => ?_⟩
    have k3 : L2.Same A2 (upd A2 h3 (.lst (wl us))) := snew n3
    have x3 : (upd A2 h3 (.lst (wl us))) h3 = some (.lst (wl us)) := upd_same
    generalize upd A2 h3 (.lst (wl us)) = A3 at k3 x3
    have j3 := j2.trans k3
    refine ⟨(by show 4 ≤ sizeLine; decide), fun hh nh => ?_⟩
    have k4 : L2.Same A3 (upd A3 hh (.lst [V.ref h0, V.ref h1, V.ref h2, V.ref h3])) := snew nh
    have x4 : (upd A3 hh (.lst [V.ref h0, V.ref h1, V.ref h2, V.ref h3])) hh = some (.lst [V.ref h0, V.ref h1, V.ref h2, V.ref h3]) := upd_same
    generalize upd A3 hh (.lst [V.ref h0, V.ref h1, V.ref h2, V.ref h3]) = B at k4 x4
    have j4 := j3.trans k4
    have y0 : B h0 = some (.lst (sl ns)) := k4 _ _ (k3 _ _ (k2 _ _ (k1 _ _ x0)))
    have y1 : B h1 = some (.lst (wl tw)) := k4 _ _ (k3 _ _ (k2 _ _ x1))
    have y2 : B h2 = some (.lst (sl ns)) := k4 _ _ (k3 _ _ x2)
    have y3 : B h3 = some (.lst (wl us)) := k4 _ _ x3
    -- what was there ahead is not among the handed lists
    have apart : ∀ b o, H3 b = some o → b ∉ [h0, h1, h2, h3] := fun b o e m => by
      simp only [List.mem_cons, List.not_mem_nil, or_false] at m
      rcases m with z | z | z | z
      · exact ne_of_none e n0 z
      · exact ne_of_none (k0 _ _ e) n1 z
      · exact ne_of_none (j1 _ _ e) n2 z
      · exact ne_of_none (j2 _ _ e) n3 z
    have apartH : hh ∉ [h0, h1, h2, h3] := fun m => by
      simp only [List.mem_cons, List.not_mem_nil, or_false] at m
      rcases m with z | z | z | z
      · exact ne_of_none (k3 _ _ (k2 _ _ (k1 _ _ x0))) nh z.symm
      · exact ne_of_none (k3 _ _ (k2 _ _ x1)) nh z.symm
      · exact ne_of_none (k3 _ _ x2) nh z.symm
      · exact ne_of_none x3 nh z.symm
    have stB : ∀ h ∈ [h0, h1, h2, h3], ∃ xs, B h = some (.lst xs) := fun h m => by
      simp only [List.mem_cons, List.not_mem_nil, or_false] at m
      rcases m with z | z | z | z
      · exact ⟨_, by rw [z]; exact y0⟩
      · exact ⟨_, by rw [z]; exact y1⟩
      · exact ⟨_, by rw [z]; exact y2⟩
      · exact ⟨_, by rw [z]; exact y3⟩
    -- roads
    refine ⟨_, rfl, hh, _, _, _, rfl, rfl, SqL.of x4, atI_nat (j := 0) rfl, _, rfl, hh, _, _, _, rfl, rfl, SqL.of x4, atI_nat (j := 1) rfl, fun r1 dx1 hr1' hdx1 ne1 => ?_⟩
    refine ⟨B, r1, dx1, h0, h1, ns, tw, rfl, sput (snew hdx1) hr1', hr1', upd_same, SqL.of y0, SqL.of y1, t3.same j4, gv, fun H5 s5 R1 => ⟨rfl, ?_⟩⟩
    -- beside
    refine ⟨_, rfl, hh, _, _, _, rfl, rfl, SqL.of (s5 _ _ x4), atI_nat (j := 2) rfl, _, rfl, hh, _, _, _, rfl, rfl, SqL.of (s5 _ _ x4), atI_nat (j := 3) rfl, fun r2 dx2 hr2' hdx2 ne2 => ?_⟩
    refine ⟨H5, r2, dx2, h2, h3, ns, us, rfl, sput (snew hdx2) hr2', hr2', upd_same, SqL.of (s5 _ _ y2), SqL.of (s5 _ _ y3), (u3.same j4).same s5, gu, fun H6 s6 R2 => ⟨rfl, ?_⟩⟩
    have sB6 := s5.trans s6
    have R2' := roads_base s5 R2
    -- dues, fewer
    intro d1 nd1
    have k7 : L2.Same H6 (upd H6 d1 (.dK [])) := snew nd1
    have x7 : (upd H6 d1 (.dK [])) d1 = some (.dK []) := upd_same
    generalize upd H6 d1 (.dK []) = H7 at k7 x7
    intro d2 nd2
    have k8 : L2.Same H7 (upd H7 d2 (.dK [])) := snew nd2
    have x8 : (upd H7 d2 (.dK [])) d2 = some (.dK []) := upd_same
    generalize upd H7 d2 (.dK []) = H8 at k8 x8
    have n78 : d1 ≠ d2 := ne_of_none x7 nd2
    have x78 := k8 _ _ x7
    have i1 : H6 d1 = none := nd1
    have i2 : H6 d2 = none := k7.free nd2
    have base8 : L2.Same B H8 := (sB6.trans k7).trans k8
    have eN6 := sB6 _ _ (j4 _ _ eN3)
    have eW6 := sB6 _ _ (j4 _ _ eW3)
    have eS6 := sB6 _ _ (j4 _ _ eS)
    have t6 := (t3.same j4).same sB6
    have u6 := (u3.same j4).same sB6
    -- the heights of the law's own
    refine ⟨fun σ H' => ∃ v9, σ = [some (V.ref a), some (V.ref pN), some (V.ref pW), some (V.ref pS), some (V.ref hh), some (V.ref r1), some (V.ref r2), some (V.ref d1), some (V.ref d2), v9, none] ∧ L2.Same H6 H' ∧ Dicts H8 H' d1 ns (wy tw) ∧ Dicts H8 H' d2 ns (wy us), ?_, ?_⟩
    · refine ⟨_, rfl, pN, rfl, ⟨_, SqL.of (k8 _ _ (k7 _ _ eN6))⟩, for_list (K := K) (a := pN) (xs := sl ns) (fun i σ H' => ∃ v9, σ = [some (V.ref a), some (V.ref pN), some (V.ref pW), some (V.ref pS), some (V.ref hh), some (V.ref r1), some (V.ref r2), some (V.ref d1), some (V.ref d2), v9, none] ∧ L2.Same H6 H' ∧
          (∀ b, H' b = none → H8 b = none) ∧ Dicts H8 H' d1 (ns.take i) (wy tw) ∧ Dicts H8 H' d2 (ns.take i) (wy us))
        ⟨none, rfl, k7.trans k8, fun _ z => z, ⟨[], x78, Nat.le_refl _, fun n z => by cases z⟩, ⟨[], x8, Nat.le_refl _, fun n z => by cases z⟩⟩ (fun i σ H' _ ⟨_, _, s, _⟩ => SqL.of (s _ _ eN6)) ?_ ?_⟩
      · rintro i x σ H9 hi ⟨v9, rfl, s9, up9, D1, D2⟩
        obtain ⟨o, ho, rfl⟩ := sl_get hi
        have om : o ∈ ns := List.mem_of_getElem? ho
        have tk : (ns.take i).length ≤ 100 := by rw [List.length_take]; omega
        refine ⟨_, rfl, _, rfl, o, pW, tw, ns, rfl, SqL.of (s9 _ _ eW6), t6.same s9, gv.wk, om, n12, fun d H10 s10 hd ed => ?_⟩
        obtain ⟨H11, put11, D1', keep11, up11⟩ := dicts_put D1 s10 up9 hd ed tk
        refine ⟨_, rfl, _, rfl, d1, H11, rfl, put11, ?_⟩
        have s11 : L2.Same H6 H11 := fun b u e => keep11 b u (s10 _ _ (s9 _ _ e)) (ne_of_none e i1)
        have D2a : Dicts H8 H11 d2 (ns.take i) (wy us) := dicts_frame (dicts_same s10 D2) x78 n78.symm keep11
        refine ⟨_, rfl, _, rfl, o, pS, us, ns, rfl, SqL.of (s11 _ _ eS6), u6.same s11, gu.wk, om, n12, fun d' H12 s12 hd' ed' => ?_⟩
        obtain ⟨H13, put13, D2', keep13, up13⟩ := dicts_put D2a s12 (fun b z => up9 b (s10.free (up11 b z))) hd' ed' tk
        refine ⟨_, rfl, _, rfl, d2, H13, rfl, put13, ?_⟩
        refine ⟨_, rfl, fun b u e => keep13 b u (s12 _ _ (s11 _ _ e)) (ne_of_none e i2), fun b z => up9 b (s10.free (up11 b (s12.free (up13 b z)))), ?_, ?_⟩
        · rw [List.take_add_one, ho]
          exact dicts_frame (dicts_same s12 D1') x8 n78 keep13
        · rw [List.take_add_one, ho]
          exact D2'
      · rintro σ H9 ⟨v9, rfl, s9, _, D1, D2⟩
        rw [sl_len, List.take_length] at D1 D2
        exact ⟨_, rfl, s9, D1, D2⟩
    rintro σ H9 ⟨v9, rfl, s9, D1, D2⟩
    have A9 : All C K B H8 H9 pN pW pS r1 r2 d1 d2 ns tw us := ⟨s9 _ _ eN6, s9 _ _ eW6, s9 _ _ eS6, t6.same s9, u6.same s9, gv, gu, sub, roads_same (s6.trans s9) R1, roads_same s9 R2', D1, D2⟩
    have sB9 := sB6.trans s9
    have bd1 : B d1 = none := sB6.free i1
    have bd2 : B d2 = none := sB6.free i2
    clear R1 R2 R2' D1 D2
    -- asked the first time
    refine ⟨fun σ H' => ∃ v9, σ = [some (V.ref a), some (V.ref pN), some (V.ref pW), some (V.ref pS), some (V.ref hh), some (V.ref r1), some (V.ref r2), some (V.ref d1), some (V.ref d2), v9, none] ∧ L2.Same H9 H', ?_, ?_⟩
    · refine ⟨_, rfl, pN, rfl, ⟨_, SqL.of A9.n⟩, for_list (K := K) (a := pN) (xs := sl ns) (fun i σ H' => ∃ v9, σ = [some (V.ref a), some (V.ref pN), some (V.ref pW), some (V.ref pS), some (V.ref hh), some (V.ref r1), some (V.ref r2), some (V.ref d1), some (V.ref d2), v9, none] ∧ L2.Same H9 H')
        ⟨_, rfl, L2.Same.refl _⟩ (fun i σ H' _ ⟨_, _, s⟩ => SqL.of (s _ _ A9.n)) ?_ ?_⟩
      · rintro i x σ H10 hi ⟨v, rfl, s10⟩
        obtain ⟨o, ho, rfl⟩ := sl_get hi
        have om : o ∈ ns := List.mem_of_getElem? ho
        have A10 := A9.same s10
        refine ⟨_, rfl, _, rfl, _, rfl, _, rfl, B, H8, r1, pN, d1, o, ns, tw, rfl, A10.R1, gv, SqL.of A10.n, A10.D1, om, fun H11 s11 => ⟨true, rfl, iteF ?_⟩⟩
        have A11 := A10.same s11
        exact ⟨_, rfl, _, rfl, _, rfl, _, rfl, B, H8, r2, pN, d2, o, ns, us, rfl, A11.R2, gu, SqL.of A11.n, A11.D2, om, fun H12 s12 => ⟨true, rfl, iteF ⟨_, rfl, (s10.trans s11).trans s12⟩⟩⟩
      · rintro σ H10 ⟨v, rfl, s10⟩
        exact ⟨_, rfl, s10⟩
    rintro σ H10 ⟨v9, rfl, s10⟩
    have A10 := A9.same s10
    have sB10 := sB9.trans s10
    -- the lists handed in are as they were; no length is less
    refine ⟨fun σ H' => ∃ v9, σ = [some (V.ref a), some (V.ref pN), some (V.ref pW), some (V.ref pS), some (V.ref hh), some (V.ref r1), some (V.ref r2), some (V.ref d1), some (V.ref d2), v9, none] ∧ L2.Same H10 H', ?_, ?_⟩
    · refine ⟨_, rfl, _, rfl, _, rfl, _, rfl, _, rfl, (by show 4 ≤ sizeLine; decide), fun l hl => ?_⟩
      have s11 : L2.Same H10 (upd H10 l (.lst [V.ref pN, V.ref pW, V.ref pN, V.ref pS])) := snew hl
      have e11 : (upd H10 l (.lst [V.ref pN, V.ref pW, V.ref pN, V.ref pS])) l = some (.lst [V.ref pN, V.ref pW, V.ref pN, V.ref pS]) := upd_same
      generalize upd H10 l (.lst [V.ref pN, V.ref pW, V.ref pN, V.ref pS]) = H11 at s11 e11
      have A11 := A10.same s11
      have sB11 := sB10.trans s11
      have lay : (PyData.list [dN ns, dWs (wy tw), dN ns, dWs (wy us)]).canLay0 = true := by
        rw [PyData.canLay0]
        refine lay_all fun x hx => ?_
        simp only [List.mem_cons, List.not_mem_nil, or_false] at hx
        rcases hx with rfl | rfl | rfl | rfl
        · exact dN_lay (sgs_of gv.nk)
        · exact dWs_lay (sgs_of gv.nk) gv.wk
        · exact dN_lay (sgs_of gv.nk)
        · exact dWs_lay (sgs_of gu.nk) gu.wk
      have deep : (PyData.list [dN ns, dWs (wy tw), dN ns, dWs (wy us)]).depth ≤ 64 := by
        rw [PyData.depth]
        have := depth_all (k := 2) (xs := [dN ns, dWs (wy tw), dN ns, dWs (wy us)]) fun x hx => by
          simp only [List.mem_cons, List.not_mem_nil, or_false] at hx
          rcases hx with rfl | rfl | rfl | rfl
          · exact Nat.le_succ_of_le (dN_depth ns)
          · exact dWs_depth _
          · exact Nat.le_succ_of_le (dN_depth ns)
          · exact dWs_depth _
        omega
      have sh := shaped_of lay deep
      refine ⟨_, _, .lst (SqL.of (sB11 _ _ x4)) (.cons (dN_dp (SqL.of (sB11 _ _ y0))) (.cons (dWs_dp (SqL.of (sB11 _ _ y1)) A11.tt) (.cons (dN_dp (SqL.of (sB11 _ _ y2))) (.cons (dWs_dp (SqL.of (sB11 _ _ y3)) A11.tu) .nil)))),
        .lst (SqL.of e11) (.cons (dN_dp (SqL.of A11.n)) (.cons (dWs_dp (SqL.of A11.w) A11.tt) (.cons (dN_dp (SqL.of A11.n)) (.cons (dWs_dp (SqL.of A11.s) A11.tu) .nil)))), sh, sh, _, rfl, ?_⟩
      rw [SeqAt.eqv_refl _ lay]
      refine iteF ⟨_, rfl, _, rfl, _, rfl, H8, H8, d1, d2, pN, ns, wy tw, wy us, rfl, SqL.of A11.n, A11.D1, A11.D2, fun o om => ⟨no_less gv.wk suby om, (hts_fin gu.wk om).good.nd⟩, true, rfl, iteF ⟨_, rfl, s11⟩⟩
    rintro σ H11 ⟨v9, rfl, s11⟩
    have A11 := A10.same s11
    have sB11 := sB10.trans s11
    -- the handed lists are emptied: what the roads hold is not theirs
    have st11 : ∀ h ∈ [h0, h1, h2, h3], ∃ xs, H11 h = some (.lst xs) := fun h m => by
      obtain ⟨xs, e⟩ := stB h m
      exact ⟨xs, sB11 _ _ e⟩
    have base8B : L2.Same B H8 := base8
    have keepN : ∀ {b : Addr} {o : HO}, H3 b = some o → H11 b = some o → Cut H11 [h0, h1, h2, h3] b = some o := fun e e' => cut_keep e' (apart _ _ e)
    have AG : All C K B H8 (Cut H11 [h0, h1, h2, h3]) pN pW pS r1 r2 d1 d2 ns tw us :=
      ⟨keepN eN3 A11.n, keepN eW3 A11.w, keepN eS A11.s, cut_tups st11 A11.tt, cut_tups st11 A11.tu, gv, gu, sub, cut_roads stB st11 A11.R1, cut_roads stB st11 A11.R2, cut_dicts stB base8B bd1 A11.D1, cut_dicts stB base8B bd2 A11.D2⟩
    have gH : Cut H11 [h0, h1, h2, h3] hh = some (.lst [V.ref h0, V.ref h1, V.ref h2, V.ref h3]) := cut_keep (sB11 _ _ x4) apartH
    have gNo : ∀ h ∈ [h0, h1, h2, h3], Cut H11 [h0, h1, h2, h3] h = none := fun h m => cut_none m
    have sG : L2.Same (Cut H11 [h0, h1, h2, h3]) H11 := cut_same _ _
    generalize Cut H11 [h0, h1, h2, h3] = G at AG gH gNo sG
    refine ⟨fun σ H' => ∃ v9 v10, σ = [some (V.ref a), some (V.ref pN), some (V.ref pW), some (V.ref pS), some (V.ref hh), some (V.ref r1), some (V.ref r2), some (V.ref d1), some (V.ref d2), v9, v10] ∧ L2.Same G H', ?_, ?_⟩
    · refine ⟨_, rfl, hh, rfl, ⟨_, SqL.of (sB11 _ _ x4)⟩, for_list (K := K) (a := hh) (xs := [V.ref h0, V.ref h1, V.ref h2, V.ref h3]) (fun i σ H' => ∃ v9 v10, σ = [some (V.ref a), some (V.ref pN), some (V.ref pW), some (V.ref pS), some (V.ref hh), some (V.ref r1), some (V.ref r2), some (V.ref d1), some (V.ref d2), v9, v10] ∧ L2.Same G H' ∧
          ∀ h ∈ [h0, h1, h2, h3], ∃ xs, H' h = some (.lst xs))
        ⟨_, _, rfl, sG, st11⟩ (fun i σ H' _ ⟨_, _, _, s, _⟩ => SqL.of (s _ _ gH)) ?_ ?_⟩
      · rintro i x σ H12 hi ⟨w9, w10, rfl, s12, st12⟩
        obtain ⟨h, hm, rfl⟩ : ∃ h, h ∈ [h0, h1, h2, h3] ∧ x = V.ref h := by
          match i, hi with
          | 0, hi => exact ⟨h0, by simp, (Option.some.inj hi).symm⟩
          | 1, hi => exact ⟨h1, by simp, (Option.some.inj hi).symm⟩
          | 2, hi => exact ⟨h2, by simp, (Option.some.inj hi).symm⟩
          | 3, hi => exact ⟨h3, by simp, (Option.some.inj hi).symm⟩
          | i + 4, hi => cases hi
        obtain ⟨xs, ex⟩ := st12 h hm
        refine ⟨_, rfl, .inl ⟨rfl, _, SqL.of ex⟩, h, xs, rfl, rfl, ex, ?_⟩
        refine ⟨_, _, rfl, sput s12 (gNo h hm), fun h' hm' => ?_⟩
        by_cases z : h' = h
        · exact ⟨[], by rw [z]; exact upd_same⟩
        · obtain ⟨ys, ey⟩ := st12 h' hm'
          exact ⟨ys, by rw [upd_ne z]; exact ey⟩
      · rintro σ H12 ⟨w9, w10, rfl, s12, _⟩
        exact ⟨_, _, rfl, s12⟩
    rintro σ H12 ⟨w9, w10, rfl, s12⟩
    -- asked again, the other roads first
    refine ⟨fun σ H' => ∃ v9 v10, σ = [some (V.ref a), some (V.ref pN), some (V.ref pW), some (V.ref pS), some (V.ref hh), some (V.ref r1), some (V.ref r2), some (V.ref d1), some (V.ref d2), v9, v10] ∧ L2.Same G H', ?_, ?_⟩
    · refine ⟨_, rfl, pN, _, rfl, SqL.of (s12 _ _ AG.n), RT.for_Itv (K := K) (a := pN) (xs := sl ns) (fun i σ H' => ∃ v9 v10, σ = [some (V.ref a), some (V.ref pN), some (V.ref pW), some (V.ref pS), some (V.ref hh), some (V.ref r1), some (V.ref r2), some (V.ref d1), some (V.ref d2), v9, v10] ∧ L2.Same G H')
        ⟨_, _, rfl, s12⟩ (fun i σ H' ⟨_, _, _, s⟩ => SqL.of (s _ _ AG.n)) ?_ ?_⟩
      · rintro i x σ H13 _ hi ⟨u9, u10, rfl, s13⟩
        obtain ⟨o, ho, rfl⟩ := sl_get hi
        have om : o ∈ ns := List.mem_of_getElem? ho
        have A13 := AG.same s13
        refine ⟨_, rfl, _, rfl, _, rfl, _, rfl, B, H8, r2, pN, d2, o, ns, us, rfl, A13.R2, gu, SqL.of A13.n, A13.D2, om, fun H14 s14 => ⟨true, rfl, iteF ?_⟩⟩
        have A14 := A13.same s14
        exact ⟨_, rfl, _, rfl, _, rfl, _, rfl, B, H8, r1, pN, d1, o, ns, tw, rfl, A14.R1, gv, SqL.of A14.n, A14.D1, om, fun H15 s15 => ⟨true, rfl, iteF ⟨_, _, rfl, (s13.trans s14).trans s15⟩⟩⟩
      · rintro σ H13 ⟨u9, u10, rfl, s13⟩
        exact ⟨_, _, rfl, s13⟩
    rintro σ H13 ⟨u9, u10, rfl, s13⟩
    -- the names of both
    have A13 := AG.same s13
    obtain ⟨dy, _, _, _, _, _, _, o1, _⟩ := id A13.R1
    have layN := dN_lay (sgs_of gv.nk)
    have shN := shaped_of layN (by have := dN_depth ns; omega)
    refine ⟨_, rfl, r1, dy, _, rfl, o1, fl_no _ _ _ (by decide +kernel) (by decide +kernel) (by decide +kernel), B, r1, ns, tw, rfl, A13.R1, fun q hq => ?_⟩
    have s14 : L2.Same H13 (upd H13 q (.lst (sl ns))) := snew hq
    have e14 : (upd H13 q (.lst (sl ns))) q = some (.lst (sl ns)) := upd_same
    generalize upd H13 q (.lst (sl ns)) = H14 at s14 e14
    have A14 := A13.same s14
    obtain ⟨dz, _, _, _, _, _, _, o2, _⟩ := id A14.R2
    refine ⟨_, rfl, dN ns, dN ns, dN_dp (SqL.of e14), dN_dp (SqL.of A14.n), shN, shN, true, by rw [SeqAt.eqv_refl _ layN], iteT ?_⟩
    refine ⟨_, rfl, r2, dz, _, rfl, o2, fl_no _ _ _ (by decide +kernel) (by decide +kernel) (by decide +kernel), B, r2, ns, us, rfl, A14.R2, fun q' hq' => ?_⟩
    have s15 : L2.Same H14 (upd H14 q' (.lst (sl ns))) := snew hq'
    refine ⟨_, rfl, dN ns, dN ns, dN_dp (SqL.of upd_same), dN_dp (SqL.of (s15 _ _ A14.n)), shN, shN, ?_⟩
    rw [SeqAt.eqv_refl _ layN]
    exact k _
end
end Fl

/-! ## FlEnd -/
set_option Elab.async false
set_option linter.all false
set_option maxRecDepth 100000
set_option maxHeartbeats 4000000
namespace Fl
open PySem PySem.Spec PyProof.Rows L2
section
variable {K : PySem.W.Frag} {h : Heap} {mg : Str → Option Value} {C f : Addr} {st : Stmt} {x qual : Str} {ps : List Str} {od an : Option Addr} {sl : Array (Option Value)} {oc kV dc pm cd ct : Value}
theorem cal_mk (X : K.In h) (G : h.Ns mainGlobals mg) (a : PySem.W.nsIn K mainGlobals x = some (some (.ref f))) (l : K.lookup f = some ⟨oc, od, .func (PySem.W.fnOf x x (defArgs st) (defBody st) (defScope st) .none kV dc pm an cd ct), sl⟩)
    (c : PySem.W.codeIn K cd x = true) (k : PySem.W.keepIn K (.ref f) = true)
    (b : ∀ (kV doc pm : Value) (an : Option Addr) (cdv ct : Value) (us : List Value), us.length = ps.length → bindArgs (PySem.W.fnOf x x (defArgs st) (defBody st) (defScope st) .none kV doc pm an cdv ct) ⟨us, []⟩ = pure (ps.zip us)) : Cal K mg x st ps :=
  have F := fun_mk (st := st) l c k
  ⟨f, _, F, PySem.W.mg_of X G a, F.binds b⟩
theorem met_mk (a : PySem.W.findIn K (.ref C) x = some (some (.ref f))) (i : PySem.W.isFn K (.ref f) = true) (l : K.lookup f = some ⟨oc, od, .func (PySem.W.fnOf x qual (defArgs st) (defBody st) (defScope st) .none kV dc pm an cd ct), sl⟩)
    (c : PySem.W.codeIn K cd qual = true) (k : PySem.W.keepIn K (.ref f) = true)
    (b : ∀ (kV doc pm : Value) (an : Option Addr) (cdv ct : Value) (us : List Value), us.length = ps.length → bindArgs (PySem.W.fnOf x qual (defArgs st) (defBody st) (defScope st) .none kV doc pm an cdv ct) ⟨us, []⟩ = pure (ps.zip us)) : Met K C x qual st ps :=
  have F := fun_mk (st := st) l c k
  ⟨f, _, F, ⟨a, i, k⟩, F.binds b⟩
end
theorem txt_mk {K : PySem.W.Frag} {h : Heap} {mg : Str → Option Value} {C : Addr} {t1 t2 t3 t4 t5 : Tok} (X : K.In h) (G : h.Ns mainGlobals mg) (aC : PySem.W.nsIn K mainGlobals "Roads" = some (some (.ref C)))
    (pg : PySem.W.plainGet K C Str.empty = true) (hd : PySem.W.hasDictIn K C = true) (po : PySem.W.plainOver K C = true) (sa : PySem.W.findIn K (.ref C) "__setattr__" = some (some (.builtin "object.__setattr__")))
    (nT : PySem.W.findIn K (.ref C) "towns" = some none) (nL : PySem.W.findIn K (.ref C) "lanes" = some none) (nR : PySem.W.findIn K (.ref C) "reached" = some none)
    (g1 : PySem.W.nsIn K mainGlobals "LIMIT" = some (some (.int 1000000000 t1))) (g2 : PySem.W.nsIn K mainGlobals "LONGEST" = some (some (.int 12 t2))) (g3 : PySem.W.nsIn K mainGlobals "SIGNS" = some (some (.str SG t3)))
    (g4 : PySem.W.nsIn K mainGlobals "MOST_PLACES" = some (some (.int 12 t4))) (g5 : PySem.W.nsIn K mainGlobals "MOST_WAYS" = some (some (.int 60 t5)))
    (z0 : PySem.W.nsIn K mainGlobals "len" = some none) (z1 : PySem.W.nsIn K mainGlobals "list" = some none) (z2 : PySem.W.nsIn K mainGlobals "dict" = some none) (z3 : PySem.W.nsIn K mainGlobals "int" = some none) (z4 : PySem.W.nsIn K mainGlobals "bool" = some none) (z5 : PySem.W.nsIn K mainGlobals "str" = some none) (z6 : PySem.W.nsIn K mainGlobals "range" = some none) (z7 : PySem.W.nsIn K mainGlobals "reversed" = some none) (z8 : PySem.W.nsIn K mainGlobals "isinstance" = some none) : Txt K mg C :=
  ⟨⟨pg, hd, po, sa⟩, nT, nL, nR, PySem.W.mg_of X G aC, ⟨t1, PySem.W.mg_of X G g1⟩, ⟨t2, PySem.W.mg_of X G g2⟩, ⟨t3, PySem.W.mg_of X G g3⟩, ⟨t4, PySem.W.mg_of X G g4⟩, ⟨t5, PySem.W.mg_of X G g5⟩,
    PySem.W.mg_none_of X G z0, PySem.W.mg_none_of X G z1, PySem.W.mg_none_of X G z2, PySem.W.mg_none_of X G z3, PySem.W.mg_none_of X G z4, PySem.W.mg_none_of X G z5, PySem.W.mg_none_of X G z6, PySem.W.mg_none_of X G z7, PySem.W.mg_none_of X G z8⟩
theorem bind_init {K : PySem.W.Frag} {f : Addr} {fd : FuncData} (F : Fun K "__init__" "Roads.__init__" sInit f fd) : Binds K fd ["self", "places", "ways"] [] :=
  F.binds (ps := ["self", "places", "ways"]) fun _ _ _ _ _ _ us hl => match us, hl with | [_, _, _], _ => rfl
/-- what is asked of the head -/
def Ready (K : PySem.W.Frag) (mg : Str → Option Value) (P : Program) (w : World) (fa : Addr) : Prop := ∃ fd : FuncData, (∀ (s : Shared) (v : Value), BindsTo s fd ⟨[v], []⟩ [("_law_script", v)]) ∧
  ∀ base : Heap, K.In base → base.Ns mainGlobals mg → FnOk P w K mg base CX0 5 fa fd ["_law_script"] (spLaw K)
theorem ready {P : Program} {w : World} {K : PySem.W.Frag} {h : Heap} {mg : Str → Option Value} {fa fL C fI : Addr} {fdI : FuncData} {od an : Option Addr} {sl : Array (Option Value)} {oc kV dc pm cd ct : Value} (X : K.In h) (G : h.Ns mainGlobals mg) (hfa : mg "law" = some (.ref fa))
    (aL : PySem.W.nsIn K mainGlobals "law" = some (some (.ref fL))) (lL : K.lookup fL = some ⟨oc, od, .func (PySem.W.fnOf "law" "law" (defArgs sLaw) (defBody sLaw) (defScope sLaw) .none kV dc pm an cd ct), sl⟩) (cL : PySem.W.codeIn K cd "law" = true) (kL : PySem.W.keepIn K (.ref fL) = true)
    (T : Txt K mg C) (MK : Mk K C fI) (FI : Fun K "__init__" "Roads.__init__" sInit fI fdI) (bI : Binds K fdI ["self", "places", "ways"] [])
    (c1 : Cal K mg "checked_name" sChName ["name"]) (c2 : Cal K mg "checked_number" sChNum ["value", "least"]) (c3 : Cal K mg "check_roads" sChRoads ["places", "ways"]) (c4 : Cal K mg "heights_from" sHeights ["origin", "ways"])
    (c5 : Cal K mg "place_ahead" sAhead ["place", "heights", "ways"]) (l0 : Cal K mg "_law_cell" sLCell ["_law_script", "_law_k"]) (l1 : Cal K mg "_law_mix" sLMix ["_law_cell_here", "_law_turn"]) (l2 : Cal K mg "_law_whole" sLWhole ["_law_found"])
    (l3 : Cal K mg "_law_names" sLNames ["_law_cell_here", "_law_many"]) (l4 : Cal K mg "_law_length" sLLength ["_law_cell_here"]) (l5 : Cal K mg "_law_ways" sLWays ["_law_cells", "_law_names_here"]) (l6 : Cal K mg "_law_office" sLOffice ["_law_script"])
    (l7 : Cal K mg "_law_heights" sLHeights ["_law_origin", "_law_ways_here"]) (l8 : Cal K mg "_law_alike" sLAlike ["_law_found", "_law_due"]) (l9 : Cal K mg "_law_length_due" sLLenDue ["_law_found", "_law_due"])
    (l10 : Cal K mg "_law_asked" sLAsked ["_law_roads", "_law_names_here", "_law_dues", "_law_origin"]) (l11 : Cal K mg "_law_no_less" sLNoLess ["_law_dues", "_law_fewer", "_law_names_here"])
    (m1 : Met K C "names" "Roads.names" sNames ["self"]) (m2 : Met K C "heights" "Roads.heights" sHts ["self", "origin"]) (m3 : Met K C "length" "Roads.length" sLength ["self", "origin", "goal"]) (m4 : Met K C "way" "Roads.way" sWay ["self", "origin", "goal"]) : Ready K mg P w fa := by
  have e := hfa.symm.trans (PySem.W.mg_of X G aL)
  cases e
  have F := fun_mk (st := sLaw) lL cL kL
  exact ⟨_, fun s v => .of_eq rfl, fun base _ _ => ok_law F T MK FI bI c1 c2 c3 c4 c5 l0 l1 l2 l3 l4 l5 l6 l7 l8 l9 l10 l11 m1 m2 m3 m4⟩
theorem walk {l : PySem.W.OpenLaw} {q : Program} {loose : List Str} {XP : (Str → Option Value) → Heap → Prop} {YP : World → Heap → Prop} {d : DefRec} {K : Params → PySem.W.Frag} (hn : l.most = some 63) (hdf : d.params.defaults = [])
    (hY : ∀ (w : World) (h : Heap), YP w h → (K w.params).In h)
    (F : ∀ (w : World) (mg : Str → Option Value) (fa : Addr) (h : Heap), (K w.params).In h → h.Ns mainGlobals mg → mg d.name = some (.ref fa) → Ready (K w.params) mg l.prog w fa) :
    PySem.W.WalkO q loose XP YP l.row.toRowW d [] (fun f vs => PySem.call f vs) :=
  L2.walk_of (n := 63) (k := 5) (x := "_law_script") (CX := fun _ => CX0) (sp := fun w => spLaw (K w.params)) hn (by decide) hdf ⟨rfl, by decide, by decide⟩ hY F (fun _ _ a ns hl _ hS => ⟨a, ns, rfl, hS, hl, fun _ => rfl⟩) fun _ _ _ _ _ z => z
end Fl

/-! ## FlTop -/
set_option Elab.async false
open PySem PySem.W PyProof.Rows in
set_option maxRecDepth 100000 in
set_option maxHeartbeats 0 in
theorem PySem.Challenge.cw_fleetpath_k18_whole_lengths_holds : PySem.Challenge.rw_fleetpath_k18_whole_lengths.Holds := by
  w_on; o_law; k_head; (case hw => w_witness2)
  k_fill
  refine Fl.walk (l := PySem.Challenge.rw_fleetpath_k18_whole_lengths) rfl rfl (fun w h Y => PySem.W.kIn_of Y) ?F
  case F =>
    intro w mg fa h KX G hmg
    refine' Fl.ready KX G hmg ?aL ?lL ?cL ?kL
      (Fl.txt_mk KX G ?aC ?pg ?hd ?po ?sa ?nT ?nL ?nR ?gLimit ?gLongest ?gSigns ?gMostP ?gMostW ?z_len ?z_list ?z_dict ?z_int ?z_bool ?z_str ?z_range ?z_reversed ?z_isinstance)
      ⟨?mk, ?ia, ?ii, ?kc⟩ (L2.fun_mk ?il ?ic ?ik) (Fl.bind_init (L2.fun_mk ?il ?ic ?ik))
      (Fl.cal_mk KX G ?ac1 ?lc1 ?cc1 ?kc1 (fun _ _ _ _ _ _ us hl => match us, hl with | [_], _ => rfl))
      (Fl.cal_mk KX G ?ac2 ?lc2 ?cc2 ?kc2 (fun _ _ _ _ _ _ us hl => match us, hl with | [_, _], _ => rfl))
      (Fl.cal_mk KX G ?ac3 ?lc3 ?cc3 ?kc3 (fun _ _ _ _ _ _ us hl => match us, hl with | [_, _], _ => rfl))
      (Fl.cal_mk KX G ?ac4 ?lc4 ?cc4 ?kc4 (fun _ _ _ _ _ _ us hl => match us, hl with | [_, _], _ => rfl))
      (Fl.cal_mk KX G ?ac5 ?lc5 ?cc5 ?kc5 (fun _ _ _ _ _ _ us hl => match us, hl with | [_, _, _], _ => rfl))
      (Fl.cal_mk KX G ?al0 ?ll0 ?cl0 ?kl0 (fun _ _ _ _ _ _ us hl => match us, hl with | [_, _], _ => rfl))
      (Fl.cal_mk KX G ?al1 ?ll1 ?cl1 ?kl1 (fun _ _ _ _ _ _ us hl => match us, hl with | [_, _], _ => rfl))
      (Fl.cal_mk KX G ?al2 ?ll2 ?cl2 ?kl2 (fun _ _ _ _ _ _ us hl => match us, hl with | [_], _ => rfl))
      (Fl.cal_mk KX G ?al3 ?ll3 ?cl3 ?kl3 (fun _ _ _ _ _ _ us hl => match us, hl with | [_, _], _ => rfl))
      (Fl.cal_mk KX G ?al4 ?ll4 ?cl4 ?kl4 (fun _ _ _ _ _ _ us hl => match us, hl with | [_], _ => rfl))
      (Fl.cal_mk KX G ?al5 ?ll5 ?cl5 ?kl5 (fun _ _ _ _ _ _ us hl => match us, hl with | [_, _], _ => rfl))
      (Fl.cal_mk KX G ?al6 ?ll6 ?cl6 ?kl6 (fun _ _ _ _ _ _ us hl => match us, hl with | [_], _ => rfl))
      (Fl.cal_mk KX G ?al7 ?ll7 ?cl7 ?kl7 (fun _ _ _ _ _ _ us hl => match us, hl with | [_, _], _ => rfl))
      (Fl.cal_mk KX G ?al8 ?ll8 ?cl8 ?kl8 (fun _ _ _ _ _ _ us hl => match us, hl with | [_, _], _ => rfl))
      (Fl.cal_mk KX G ?al9 ?ll9 ?cl9 ?kl9 (fun _ _ _ _ _ _ us hl => match us, hl with | [_, _], _ => rfl))
      (Fl.cal_mk KX G ?al10 ?ll10 ?cl10 ?kl10 (fun _ _ _ _ _ _ us hl => match us, hl with | [_, _, _, _], _ => rfl))
      (Fl.cal_mk KX G ?al11 ?ll11 ?cl11 ?kl11 (fun _ _ _ _ _ _ us hl => match us, hl with | [_, _, _], _ => rfl))
      (Fl.met_mk ?am1 ?im1 ?lm1 ?cm1 ?km1 (fun _ _ _ _ _ _ us hl => match us, hl with | [_], _ => rfl))
      (Fl.met_mk ?am2 ?im2 ?lm2 ?cm2 ?km2 (fun _ _ _ _ _ _ us hl => match us, hl with | [_, _], _ => rfl))
      (Fl.met_mk ?am3 ?im3 ?lm3 ?cm3 ?km3 (fun _ _ _ _ _ _ us hl => match us, hl with | [_, _, _], _ => rfl))
      (Fl.met_mk ?am4 ?im4 ?lm4 ?cm4 ?km4 (fun _ _ _ _ _ _ us hl => match us, hl with | [_, _, _], _ => rfl))
    (case aC => k_is)
    (case aL => k_is)
    (case lL => k_is)
    (case cL => k_is)
    (case kL => k_is)
    (case ia => k_is)
    (case ii => k_is)
    (case il => k_is)
    (case ic => k_is)
    (case ik => k_is)
    (case mk => k_is)
    (case kc => k_is)
    (case pg => k_is)
    (case hd => k_is)
    (case po => k_is)
    (case sa => k_is)
    (case nT => k_is)
    (case nL => k_is)
    (case nR => k_is)
    (case gLimit => k_is)
    (case gLongest => k_is)
    (case gSigns => k_is)
    (case gMostP => k_is)
    (case gMostW => k_is)
    (case z_len => k_is)
    (case z_list => k_is)
    (case z_dict => k_is)
    (case z_int => k_is)
    (case z_bool => k_is)
    (case z_str => k_is)
    (case z_range => k_is)
    (case z_reversed => k_is)
    (case z_isinstance => k_is)
    (case ac1 => k_is)
    (case lc1 => k_is)
    (case cc1 => k_is)
    (case kc1 => k_is)
    (case ac2 => k_is)
    (case lc2 => k_is)
    (case cc2 => k_is)
    (case kc2 => k_is)
    (case ac3 => k_is)
    (case lc3 => k_is)
    (case cc3 => k_is)
    (case kc3 => k_is)
    (case ac4 => k_is)
    (case lc4 => k_is)
    (case cc4 => k_is)
    (case kc4 => k_is)
    (case ac5 => k_is)
    (case lc5 => k_is)
    (case cc5 => k_is)
    (case kc5 => k_is)
    (case al0 => k_is)
    (case ll0 => k_is)
    (case cl0 => k_is)
    (case kl0 => k_is)
    (case al1 => k_is)
    (case ll1 => k_is)
    (case cl1 => k_is)
    (case kl1 => k_is)
    (case al2 => k_is)
    (case ll2 => k_is)
    (case cl2 => k_is)
    (case kl2 => k_is)
    (case al3 => k_is)
    (case ll3 => k_is)
    (case cl3 => k_is)
    (case kl3 => k_is)
    (case al4 => k_is)
    (case ll4 => k_is)
    (case cl4 => k_is)
    (case kl4 => k_is)
    (case al5 => k_is)
    (case ll5 => k_is)
    (case cl5 => k_is)
    (case kl5 => k_is)
    (case al6 => k_is)
    (case ll6 => k_is)
    (case cl6 => k_is)
    (case kl6 => k_is)
    (case al7 => k_is)
    (case ll7 => k_is)
    (case cl7 => k_is)
    (case kl7 => k_is)
    (case al8 => k_is)
    (case ll8 => k_is)
    (case cl8 => k_is)
    (case kl8 => k_is)
    (case al9 => k_is)
    (case ll9 => k_is)
    (case cl9 => k_is)
    (case kl9 => k_is)
    (case al10 => k_is)
    (case ll10 => k_is)
    (case cl10 => k_is)
    (case kl10 => k_is)
    (case al11 => k_is)
    (case ll11 => k_is)
    (case cl11 => k_is)
    (case kl11 => k_is)
    (case am1 => k_is)
    (case im1 => k_is)
    (case lm1 => k_is)
    (case cm1 => k_is)
    (case km1 => k_is)
    (case am2 => k_is)
    (case im2 => k_is)
    (case lm2 => k_is)
    (case cm2 => k_is)
    (case km2 => k_is)
    (case am3 => k_is)
    (case im3 => k_is)
    (case lm3 => k_is)
    (case cm3 => k_is)
    (case km3 => k_is)
    (case am4 => k_is)
    (case im4 => k_is)
    (case lm4 => k_is)
    (case cm4 => k_is)
    (case km4 => k_is)
