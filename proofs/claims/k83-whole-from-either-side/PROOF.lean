import PyProof.Rows.All
import Wide.All
import OpenK.AllK
import Wide.FinOn
import HandS.ForMost
import HandS.Walk
import KE.KDictWalk
import KE.KDictCopyH
import PyProof.StrBlock2
import HandS.TupSets
import KE.SortCalls
import KE.KDictSum
import HandS.IsInst
import KE.DataEq
import PySem.Challenge.RW_saywell_k83_whole_from_either_side
set_option Elab.async false
set_option linter.all false
set_option maxRecDepth 100000
/-! The plain law: books of writings that are joined, in core Lean; no program in sight. -/
namespace SW

/-! ### tables -/
section
variable {P α : Type} [DecidableEq P]
def look (kvs : List (P × α)) (k : P) : Option α := (kvs.find? fun p => decide (p.1 = k)).map (·.2)
def put (kvs : List (P × α)) (k : P) (v : α) : List (P × α) :=
  if (kvs.any fun p => decide (p.1 = k)) = true then kvs.map (fun p => if p.1 = k then (p.1, v) else p) else kvs ++ [(k, v)]

theorem look_nil (k : P) : look ([] : List (P × α)) k = none := rfl
theorem look_cons (p : P × α) (r : List (P × α)) (k : P) : look (p :: r) k = if p.1 = k then some p.2 else look r k := by
  unfold look
  rw [List.find?_cons]
  by_cases e : p.1 = k
  · simp [e]
  · simp [e]
theorem look_some_iff (kvs : List (P × α)) (k : P) : (look kvs k).isSome = true ↔ k ∈ kvs.map (·.1) := by
  induction kvs with
  | nil => simp [look_nil]
  | cons p r ih =>
    rw [look_cons, List.map_cons, List.mem_cons]
    by_cases e : p.1 = k
    · simp [e]
    · rw [if_neg e, ih]
      constructor
      · exact fun h => .inr h
      · rintro (h | h)
        · exact absurd h.symm e
        · exact h
theorem any_iff (kvs : List (P × α)) (k : P) : (kvs.any fun p => decide (p.1 = k)) = true ↔ k ∈ kvs.map (·.1) := by
  rw [List.any_eq_true, List.mem_map]
  constructor
  · rintro ⟨p, hp, e⟩
    exact ⟨p, hp, of_decide_eq_true e⟩
  · rintro ⟨p, hp, e⟩
    exact ⟨p, hp, decide_eq_true e⟩
theorem look_map (kvs : List (P × α)) (k j : P) (v : α) :
    look (kvs.map (fun p => if p.1 = k then (p.1, v) else p)) j = if j = k then (look kvs j).map (fun _ => v) else look kvs j := by
  induction kvs with
  | nil => by_cases e : j = k <;> simp [look_nil, e]
  | cons p r ih =>
    rw [List.map_cons, look_cons, ih, look_cons]
    by_cases e : p.1 = k
    · by_cases f : j = k
      · simp [e, f]
      · have : ¬ k = j := fun z => f z.symm
        simp [e, f, this]
    · by_cases f : j = k
      · simp [e, f]
      · by_cases g : p.1 = j
        · simp [g, f]
        · simp [e, f, g]
theorem look_snoc (kvs : List (P × α)) (k j : P) (v : α) : look (kvs ++ [(k, v)]) j = (look kvs j).or (if k = j then some v else none) := by
  induction kvs with
  | nil => rw [List.nil_append, look_cons]; simp [look_nil]
  | cons p r ih =>
    rw [List.cons_append, look_cons, look_cons, ih]
    by_cases e : p.1 = j
    · simp [e]
    · simp [e]
theorem look_none_of {kvs : List (P × α)} {k : P} (h : k ∉ kvs.map (·.1)) : look kvs k = none := by
  cases e : look kvs k with
  | none => rfl
  | some v => exact absurd ((look_some_iff kvs k).mp (by rw [e]; rfl)) h
theorem look_put (kvs : List (P × α)) (k j : P) (v : α) : look (put kvs k v) j = if j = k then some v else look kvs j := by
  unfold put
  by_cases a : (kvs.any fun p => decide (p.1 = k)) = true
  · rw [if_pos a, look_map]
    by_cases e : j = k
    · rw [if_pos e, if_pos e]
      have h := (look_some_iff kvs k).mpr ((any_iff kvs k).mp a)
      rw [e]
      cases q : look kvs k with
      | none => rw [q] at h; exact absurd h (by simp)
      | some _ => rfl
    · rw [if_neg e, if_neg e]
  · rw [if_neg a, look_snoc]
    by_cases e : j = k
    · subst e
      rw [look_none_of (fun h => a ((any_iff kvs j).mpr h))]
      simp
    · have : ¬ k = j := fun z => e z.symm
      simp [e, this]
theorem keys_put (kvs : List (P × α)) (k : P) (v : α) : (put kvs k v).map (·.1) = if k ∈ kvs.map (·.1) then kvs.map (·.1) else kvs.map (·.1) ++ [k] := by
  unfold put
  by_cases a : (kvs.any fun p => decide (p.1 = k)) = true
  · rw [if_pos a, if_pos ((any_iff kvs k).mp a), List.map_map]
    refine List.map_congr_left fun p _ => ?_
    by_cases e : p.1 = k <;> simp [e]
  · rw [if_neg a, if_neg (fun h => a ((any_iff kvs k).mpr h)), List.map_append]
    rfl
theorem mem_keys_put (kvs : List (P × α)) (k j : P) (v : α) : j ∈ (put kvs k v).map (·.1) ↔ j = k ∨ j ∈ kvs.map (·.1) := by
  rw [keys_put]
  by_cases e : k ∈ kvs.map (·.1)
  · rw [if_pos e]
    exact ⟨.inr, fun h => h.elim (fun z => z ▸ e) id⟩
  · rw [if_neg e, List.mem_append, List.mem_singleton]
    exact ⟨fun h => h.elim .inr .inl, fun h => h.elim .inr .inl⟩
theorem nodup_put {kvs : List (P × α)} (k : P) (v : α) (h : (kvs.map (·.1)).Nodup) : ((put kvs k v).map (·.1)).Nodup := by
  rw [keys_put]
  by_cases e : k ∈ kvs.map (·.1)
  · rw [if_pos e]; exact h
  · rw [if_neg e]
    refine List.nodup_append.mpr ⟨h, by simp, ?_⟩
    intro a ha b hb
    rw [List.mem_singleton] at hb
    rw [hb]
    exact fun z => e (z ▸ ha)
theorem mem_put {kvs : List (P × α)} {k : P} {v : α} {p : P × α} (h : p ∈ put kvs k v) : p = (k, v) ∨ p ∈ kvs := by
  unfold put at h
  by_cases a : (kvs.any fun p => decide (p.1 = k)) = true
  · rw [if_pos a] at h
    obtain ⟨q, hq, e⟩ := List.mem_map.mp h
    by_cases c : q.1 = k
    · rw [if_pos c] at e
      left; rw [← e, c]
    · rw [if_neg c] at e
      right; rw [← e]; exact hq
  · rw [if_neg a] at h
    rcases List.mem_append.mp h with h | h
    · exact .inr h
    · exact .inl (List.mem_singleton.mp h)
theorem look_of_mem {kvs : List (P × α)} (hn : (kvs.map (·.1)).Nodup) {k : P} {v : α} (h : (k, v) ∈ kvs) : look kvs k = some v := by
  induction kvs with
  | nil => cases h
  | cons p r ih =>
    rw [look_cons]
    rw [List.map_cons, List.nodup_cons] at hn
    rcases List.mem_cons.mp h with e | h
    · rw [← e]; simp
    · have ne : p.1 ≠ k := fun z => hn.1 (by rw [z]; exact List.mem_map.mpr ⟨(k, v), h, rfl⟩)
      rw [if_neg ne]
      exact ih hn.2 h
theorem mem_of_look {kvs : List (P × α)} {k : P} {v : α} (h : look kvs k = some v) : (k, v) ∈ kvs := by
  induction kvs with
  | nil => cases h
  | cons p r ih =>
    rw [look_cons] at h
    by_cases e : p.1 = k
    · rw [if_pos e] at h
      cases h
      rw [← e]
      exact List.mem_cons_self
    · rw [if_neg e] at h
      exact List.mem_cons_of_mem _ (ih h)
theorem put_length (kvs : List (P × α)) (k : P) (v : α) : (put kvs k v).length ≤ kvs.length + 1 := by
  unfold put
  split
  · rw [List.length_map]; omega
  · rw [List.length_append]; simp
end

/-! ### writings -/
structure Wr (M T : Type) where
  mark : M
  text : T
  seen : List M
section
variable {M T : Type} [DecidableEq M]
def ins (l : List M) (m : M) : List M := if m ∈ l then l else l ++ [m]
theorem mem_ins {l : List M} {m x : M} : x ∈ ins l m ↔ x = m ∨ x ∈ l := by
  unfold ins
  by_cases e : m ∈ l
  · rw [if_pos e]
    exact ⟨.inr, fun h => h.elim (fun z => z ▸ e) id⟩
  · rw [if_neg e, List.mem_append, List.mem_singleton]
    exact ⟨fun h => h.elim .inr .inl, fun h => h.elim .inr .inl⟩
theorem nodup_ins {l : List M} {m : M} (h : l.Nodup) : (ins l m).Nodup := by
  unfold ins
  by_cases e : m ∈ l
  · rw [if_pos e]; exact h
  · rw [if_neg e]
    refine List.nodup_append.mpr ⟨h, by simp, ?_⟩
    intro a ha b hb
    rw [List.mem_singleton] at hb
    rw [hb]
    exact fun z => e (z ▸ ha)
theorem mem_insAll : ∀ (ms l : List M) {x : M}, x ∈ ms.foldl ins l ↔ x ∈ ms ∨ x ∈ l
  | [], l, x => by simp
  | m :: ms, l, x => by
    rw [List.foldl_cons, mem_insAll ms, mem_ins, List.mem_cons]
    constructor
    · rintro (h | h | h)
      · exact .inl (.inr h)
      · exact .inl (.inl h)
      · exact .inr h
    · rintro ((h | h) | h)
      · exact .inr (.inl h)
      · exact .inl h
      · exact .inr (.inr h)
theorem nodup_insAll : ∀ (ms l : List M), l.Nodup → (ms.foldl ins l).Nodup
  | [], _, h => h
  | _ :: ms, _, h => nodup_insAll ms _ (nodup_ins h)
/-- the marks that a writing sees which is written where these are held -/
def seenBy (ws : List (Wr M T)) : List M := ws.foldl (fun acc w => w.seen.foldl ins (ins acc w.mark)) []
theorem mem_seenBy_go : ∀ (ws : List (Wr M T)) (l : List M) {x : M}, x ∈ ws.foldl (fun acc w => w.seen.foldl ins (ins acc w.mark)) l ↔ (∃ w ∈ ws, x = w.mark ∨ x ∈ w.seen) ∨ x ∈ l
  | [], l, x => by simp
  | w :: ws, l, x => by
    rw [List.foldl_cons, mem_seenBy_go ws, mem_insAll, mem_ins]
    constructor
    · rintro (⟨v, hv, h⟩ | h | h | h)
      · exact .inl ⟨v, List.mem_cons_of_mem _ hv, h⟩
      · exact .inl ⟨w, List.mem_cons_self, .inr h⟩
      · exact .inl ⟨w, List.mem_cons_self, .inl h⟩
      · exact .inr h
    · rintro (⟨v, hv, h⟩ | h)
      · rcases List.mem_cons.mp hv with e | hv
        · rw [e] at h
          rcases h with h | h
          · exact .inr (.inr (.inl h))
          · exact .inr (.inl h)
        · exact .inl ⟨v, hv, h⟩
      · exact .inr (.inr (.inr h))
theorem mem_seenBy {ws : List (Wr M T)} {x : M} : x ∈ seenBy ws ↔ ∃ w ∈ ws, x = w.mark ∨ x ∈ w.seen := by
  unfold seenBy
  rw [mem_seenBy_go]
  simp
theorem nodup_seenBy_go : ∀ (ws : List (Wr M T)) (l : List M), l.Nodup → (ws.foldl (fun acc w => w.seen.foldl ins (ins acc w.mark)) l).Nodup
  | [], _, h => h
  | _ :: ws, _, h => nodup_seenBy_go ws _ (nodup_insAll _ _ (nodup_ins h))
theorem nodup_seenBy (ws : List (Wr M T)) : (seenBy ws).Nodup := nodup_seenBy_go ws [] List.nodup_nil

def every (ws : List (Wr M T)) : List (M × Wr M T) := ws.foldl (fun ev w => put ev w.mark w) []
def sees (m : M) (o : M × Wr M T) : Bool := decide (m ∈ o.2.seen)
def fresh (ws : List (Wr M T)) (p : M × Wr M T) : Bool := !((every ws).any (sees p.1))
/-- those that no other one has seen -/
def unseen (ws : List (Wr M T)) : List (Wr M T) := ((every ws).filter (fresh ws)).map (·.2)

theorem every_go : ∀ (ws : List (Wr M T)) (ev : List (M × Wr M T)),
    (∀ p ∈ ws.foldl (fun ev w => put ev w.mark w) ev, p ∈ ev ∨ (p.2 ∈ ws ∧ p.1 = p.2.mark)) ∧
    (∀ m, m ∈ (ws.foldl (fun ev w => put ev w.mark w) ev).map (·.1) ↔ m ∈ ws.map (·.mark) ∨ m ∈ ev.map (·.1)) ∧
    ((ev.map (·.1)).Nodup → ((ws.foldl (fun ev w => put ev w.mark w) ev).map (·.1)).Nodup)
  | [], ev => ⟨fun p h => .inl h, fun m => by simp, fun h => h⟩
  | w :: ws, ev => by
    obtain ⟨h1, h2, h3⟩ := every_go ws (put ev w.mark w)
    refine ⟨fun p hp => ?_, fun m => ?_, fun h => h3 (nodup_put _ _ h)⟩
    · rcases h1 p hp with h | ⟨h, e⟩
      · rcases mem_put h with e | h
        · right
          rw [e]
          exact ⟨List.mem_cons_self, rfl⟩
        · exact .inl h
      · exact .inr ⟨List.mem_cons_of_mem _ h, e⟩
    · rw [List.foldl_cons, h2 m, mem_keys_put, List.map_cons, List.mem_cons]
      constructor
      · rintro (h | h | h)
        · exact .inl (.inr h)
        · exact .inl (.inl h)
        · exact .inr h
      · rintro ((h | h) | h)
        · exact .inr (.inl h)
        · exact .inl h
        · exact .inr (.inr h)
theorem every_sound {ws : List (Wr M T)} {p : M × Wr M T} (h : p ∈ every ws) : p.2 ∈ ws ∧ p.1 = p.2.mark := by
  rcases (every_go ws []).1 p h with h | h
  · cases h
  · exact h
theorem every_keys (ws : List (Wr M T)) (m : M) : m ∈ (every ws).map (·.1) ↔ m ∈ ws.map (·.mark) := by
  have h := (every_go ws []).2.1 m
  unfold every
  simpa using h
theorem every_nodup (ws : List (Wr M T)) : ((every ws).map (·.1)).Nodup := (every_go ws []).2.2 List.nodup_nil
theorem every_all {ws : List (Wr M T)} (u : ∀ a ∈ ws, ∀ b ∈ ws, a.mark = b.mark → a = b) {w : Wr M T} (h : w ∈ ws) : (w.mark, w) ∈ every ws := by
  obtain ⟨p, hp, e⟩ := List.mem_map.mp ((every_keys ws w.mark).mpr (List.mem_map.mpr ⟨w, h, rfl⟩))
  obtain ⟨h1, h2⟩ := every_sound hp
  have e2 : p.2 = w := u _ h1 _ h (h2.symm.trans e)
  have e3 : p = (w.mark, w) := Prod.ext e e2
  rw [← e3]
  exact hp
theorem every_length (ws : List (Wr M T)) : (every ws).length ≤ ws.length := by
  have h : ∀ (ws : List (Wr M T)) (ev : List (M × Wr M T)), (ws.foldl (fun ev w => put ev w.mark w) ev).length ≤ ev.length + ws.length := by
    intro ws
    induction ws with
    | nil => intro ev; simp
    | cons w ws ih =>
      intro ev
      rw [List.foldl_cons, List.length_cons]
      have a := ih (put ev w.mark w)
      have b := put_length ev w.mark w
      omega
  have := h ws []
  unfold every
  simpa using this
theorem mem_unseen {ws : List (Wr M T)} (u : ∀ a ∈ ws, ∀ b ∈ ws, a.mark = b.mark → a = b) {w : Wr M T} :
    w ∈ unseen ws ↔ w ∈ ws ∧ ∀ o ∈ ws, w.mark ∉ o.seen := by
  unfold unseen
  rw [List.mem_map]
  constructor
  · rintro ⟨p, hp, rfl⟩
    obtain ⟨h1, h2⟩ := List.mem_filter.mp hp
    obtain ⟨h3, h4⟩ := every_sound h1
    refine ⟨h3, fun o ho hm => ?_⟩
    have : ((every ws).any (sees p.1)) = true := List.any_eq_true.mpr ⟨(o.mark, o), every_all u ho, by rw [h4]; exact decide_eq_true hm⟩
    unfold fresh at h2
    rw [this] at h2
    cases h2
  · rintro ⟨h, hn⟩
    refine ⟨(w.mark, w), List.mem_filter.mpr ⟨every_all u h, ?_⟩, rfl⟩
    unfold fresh
    rw [Bool.not_eq_true']
    cases q : ((every ws).any (sees w.mark)) with
    | false => rfl
    | true =>
      obtain ⟨o, ho, e⟩ := List.any_eq_true.mp q
      exact absurd (of_decide_eq_true e) (hn _ (every_sound ho).1)
theorem unseen_marks (ws : List (Wr M T)) : ((unseen ws).map (·.mark)).Nodup := by
  unfold unseen
  rw [List.map_map]
  have e : ((every ws).filter (fresh ws)).map ((·.mark) ∘ (·.2)) = ((every ws).filter (fresh ws)).map (·.1) := by
    refine List.map_congr_left fun p hp => ?_
    exact (every_sound (List.mem_filter.mp hp).1).2.symm
  rw [e]
  exact (every_nodup ws).sublist (List.filter_sublist.map _)
theorem unseen_length (ws : List (Wr M T)) : (unseen ws).length ≤ ws.length := by
  unfold unseen
  rw [List.length_map]
  exact Nat.le_trans (List.length_filter_le _ _) (every_length ws)
end
end SW
/-! Books that are joined: what each holds is what no known one has seen. -/
namespace SW
section
variable {M T P H : Type} [DecidableEq M] [DecidableEq P]

structure Bk (M T P H : Type) where
  hand : H
  many : Nat
  held : List (P × List (Wr M T))

def heldOf (b : Bk M T P H) (p : P) : List (Wr M T) := (look b.held p).getD []
def writeM (mk : H → Nat → M) (b : Bk M T P H) (p : P) (t : T) : Bk M T P H :=
  { b with many := b.many + 1, held := put b.held p [⟨mk b.hand (b.many + 1), t, seenBy (heldOf b p)⟩] }
def takeH (h c : List (P × List (Wr M T))) : List (P × List (Wr M T)) := c.foldl (fun h pw => put h pw.1 (unseen ((look h pw.1).getD [] ++ pw.2))) h
def takeM (b c : Bk M T P H) : Bk M T P H := { b with held := takeH b.held c.held }

theorem heldOf_write (mk : H → Nat → M) (b : Bk M T P H) (p : P) (t : T) (q : P) :
    heldOf (writeM mk b p t) q = if q = p then [⟨mk b.hand (b.many + 1), t, seenBy (heldOf b p)⟩] else heldOf b q := by
  unfold heldOf writeM
  rw [look_put]
  by_cases e : q = p
  · rw [if_pos e, if_pos e]; rfl
  · rw [if_neg e, if_neg e]

theorem take_go : ∀ (c h : List (P × List (Wr M T))), (c.map (·.1)).Nodup → (h.map (·.1)).Nodup →
    ((takeH h c).map (·.1)).Nodup ∧ (∀ p, p ∈ (takeH h c).map (·.1) ↔ p ∈ c.map (·.1) ∨ p ∈ h.map (·.1)) ∧
    ∀ p, (look (takeH h c) p).getD [] = if p ∈ c.map (·.1) then unseen ((look h p).getD [] ++ (look c p).getD []) else (look h p).getD []
  | [], h, _, hn => ⟨hn, fun p => by show p ∈ h.map (·.1) ↔ _; simp, fun p => by show (look h p).getD [] = _; simp⟩
  | x :: c, h, hc, hn => by
    rw [List.map_cons, List.nodup_cons] at hc
    obtain ⟨a1, a2, a3⟩ := take_go c (put h x.1 (unseen ((look h x.1).getD [] ++ x.2))) hc.2 (nodup_put _ _ hn)
    refine ⟨a1, fun p => ?_, fun p => ?_⟩
    · show p ∈ (takeH (put h x.1 (unseen ((look h x.1).getD [] ++ x.2))) c).map (·.1) ↔ _
      rw [a2 p, mem_keys_put, List.map_cons, List.mem_cons]
      constructor
      · rintro (z | z | z)
        · exact .inl (.inr z)
        · exact .inl (.inl z)
        · exact .inr z
      · rintro ((z | z) | z)
        · exact .inr (.inl z)
        · exact .inl z
        · exact .inr (.inr z)
    · show (look (takeH (put h x.1 (unseen ((look h x.1).getD [] ++ x.2))) c) p).getD [] = _
      rw [a3 p, look_put, List.map_cons, look_cons]
      by_cases e : p = x.1
      · subst e
        rw [if_neg hc.1, if_pos rfl, if_pos List.mem_cons_self, if_pos rfl]
        rfl
      · have e' : ¬ x.1 = p := fun z => e z.symm
        rw [if_neg e, if_neg e']
        by_cases m : p ∈ c.map (·.1)
        · rw [if_pos m, if_pos (List.mem_cons_of_mem _ m)]
        · have m' : p ∉ x.1 :: c.map (·.1) := fun z => (List.mem_cons.mp z).elim e m
          rw [if_neg m, if_neg m']

/-- the state is told: G all writings of each piece as they came, K what each book has met -/
structure Good (mk : H → Nat → M) (n : Nat) (bs : List (Bk M T P H)) (G : P → List (Wr M T)) (K : Nat → P → M → Prop) : Prop where
  hands : (bs.map (·.hand)).Nodup
  fresh : ∀ p, ∀ w ∈ G p, ∃ b ∈ bs, ∃ k, k ≤ b.many ∧ w.mark = mk b.hand k
  uniq : ∀ p, ((G p).map (·.mark)).Nodup
  seenIn : ∀ p, ∀ w ∈ G p, ∀ x ∈ w.seen, x ∈ (G p).map (·.mark)
  order : ∀ p (i j : Nat) (w v : Wr M T), (G p)[i]? = some w → (G p)[j]? = some v → w.mark ∈ v.seen → i < j
  trans : ∀ p, ∀ w ∈ G p, ∀ v ∈ G p, v.mark ∈ w.seen → ∀ x ∈ v.seen, x ∈ w.seen
  seenN : ∀ p, ∀ w ∈ G p, w.seen.Nodup
  known : ∀ i p m, K i p m → m ∈ (G p).map (·.mark)
  closed : ∀ i p, ∀ w ∈ G p, K i p w.mark → ∀ x ∈ w.seen, K i p x
  keys : ∀ b ∈ bs, (b.held.map (·.1)).Nodup
  held : ∀ (i : Nat) (b : Bk M T P H), bs[i]? = some b → ∀ p w, w ∈ heldOf b p ↔ (w ∈ G p ∧ K i p w.mark ∧ ∀ v ∈ G p, K i p v.mark → w.mark ∉ v.seen)
  full : ∀ b ∈ bs, ∀ p ∈ b.held.map (·.1), heldOf b p ≠ []
  one : ∀ b ∈ bs, ∀ p, ((heldOf b p).map (·.mark)).Nodup
  all : ∀ p, ∀ w ∈ G p, ∃ i, i < bs.length ∧ K i p w.mark
  few : ∃ D : List P, D.length ≤ n ∧ ∀ p, G p ≠ [] → p ∈ D
  short : ∀ p, (G p).length ≤ n

variable {mk : H → Nat → M} {n : Nat} {bs : List (Bk M T P H)} {G : P → List (Wr M T)} {K : Nat → P → M → Prop}

theorem mark_one {l : List (Wr M T)} (h : (l.map (·.mark)).Nodup) : ∀ a ∈ l, ∀ b ∈ l, a.mark = b.mark → a = b := by
  induction l with
  | nil => intro a ha; cases ha
  | cons x l ih =>
    rw [List.map_cons, List.nodup_cons] at h
    intro a ha b hb e
    rcases List.mem_cons.mp ha with ea | ha1
    · rcases List.mem_cons.mp hb with eb | hb1
      · rw [ea, eb]
      · exact (h.1 (List.mem_map.mpr ⟨b, hb1, by rw [← e, ea]⟩)).elim
    · rcases List.mem_cons.mp hb with eb | hb1
      · exact (h.1 (List.mem_map.mpr ⟨a, ha1, by rw [e, eb]⟩)).elim
      · exact ih h.2 a ha1 b hb1 e

/-- below one that no known one has seen -/
theorem Good.top (g : Good mk n bs G K) {p : P} {Q : M → Prop} : ∀ (k i : Nat) (w : Wr M T), (G p)[i]? = some w → (G p).length - i ≤ k → Q w.mark →
    ∃ v ∈ G p, Q v.mark ∧ (v = w ∨ w.mark ∈ v.seen) ∧ ∀ u ∈ G p, Q u.mark → v.mark ∉ u.seen := by
  intro k
  induction k with
  | zero =>
    intro i w hi hk _
    have := (List.getElem?_eq_some_iff.mp hi).1
    omega
  | succ k ih =>
    intro i w hi hk hq
    rcases Classical.em (∃ u ∈ G p, Q u.mark ∧ w.mark ∈ u.seen) with ⟨u, hu, hqu, hs⟩ | hno
    · obtain ⟨j, hj⟩ := List.mem_iff_getElem?.mp hu
      have hlt := g.order p i j w u hi hj hs
      obtain ⟨v, hv, h1, h2, h3⟩ := ih j u hj (by omega) hqu
      refine ⟨v, hv, h1, .inr ?_, h3⟩
      rcases h2 with rfl | h2
      · exact hs
      · exact g.trans p v hv u hu h2 _ hs
    · exact ⟨w, List.mem_of_getElem? hi, hq, .inl rfl, fun u hu hqu hs => hno ⟨u, hu, hqu, hs⟩⟩
theorem Good.topOf (g : Good mk n bs G K) {p : P} {Q : M → Prop} {w : Wr M T} (hw : w ∈ G p) (hq : Q w.mark) :
    ∃ v ∈ G p, Q v.mark ∧ (v = w ∨ w.mark ∈ v.seen) ∧ ∀ u ∈ G p, Q u.mark → v.mark ∉ u.seen := by
  obtain ⟨i, hi⟩ := List.mem_iff_getElem?.mp hw
  exact g.top _ i w hi (Nat.le_refl _) hq

theorem Good.heldLen (g : Good mk n bs G K) {b : Bk M T P H} (hb : b ∈ bs) (p : P) : (heldOf b p).length ≤ n := by
  obtain ⟨i, hi⟩ := List.mem_iff_getElem?.mp hb
  have h := List.Nodup.length_le_of_subset (g.one b hb p) (l₂ := (G p).map (·.mark)) (fun m hm => by
    obtain ⟨w, hw, rfl⟩ := List.mem_map.mp hm
    exact List.mem_map.mpr ⟨w, ((g.held i b hi p w).mp hw).1, rfl⟩)
  rw [List.length_map, List.length_map] at h
  exact Nat.le_trans h (g.short p)
theorem Good.seenLen (g : Good mk n bs G K) {p : P} {w : Wr M T} (hw : w ∈ G p) : w.seen.length ≤ n := by
  have h := List.Nodup.length_le_of_subset (g.seenN p w hw) (l₂ := (G p).map (·.mark)) (fun m hm => g.seenIn p w hw m hm)
  rw [List.length_map] at h
  exact Nat.le_trans h (g.short p)
theorem Good.keysLen (g : Good mk n bs G K) {b : Bk M T P H} (hb : b ∈ bs) : b.held.length ≤ n := by
  obtain ⟨i, hi⟩ := List.mem_iff_getElem?.mp hb
  obtain ⟨D, hD, hin⟩ := g.few
  have h := List.Nodup.length_le_of_subset (g.keys b hb) (l₂ := D) (fun p hp => by
    refine hin p fun e => ?_
    have h := g.full b hb p hp
    cases q : heldOf b p with
    | nil => exact h q
    | cons w r =>
      have h1 := ((g.held i b hi p w).mp (by rw [q]; exact List.mem_cons_self)).1
      rw [e] at h1
      cases h1)
  rw [List.length_map] at h
  exact Nat.le_trans h hD
theorem Good.look (g : Good mk n bs G K) {b : Bk M T P H} (hb : b ∈ bs) {p : P} {ws : List (Wr M T)} (h : (p, ws) ∈ b.held) : heldOf b p = ws := by
  unfold heldOf
  rw [look_of_mem (g.keys b hb) h]
  rfl
theorem Good.inG (g : Good mk n bs G K) {b : Bk M T P H} (hb : b ∈ bs) {p : P} {w : Wr M T} (h : w ∈ heldOf b p) : w ∈ G p := by
  obtain ⟨i, hi⟩ := List.mem_iff_getElem?.mp hb
  exact ((g.held i b hi p w).mp h).1

/-! ### the start -/
theorem Good.start {hs : List H} (hn : hs.Nodup) : Good (M := M) (T := T) (P := P) mk 0 (hs.map fun h => ⟨h, 0, []⟩) (fun _ => []) (fun _ _ _ => False) where
  hands := by rw [List.map_map]; simpa [Function.comp_def] using hn
  fresh := fun p w hw => by cases hw
  uniq := fun p => List.nodup_nil
  seenIn := fun p w hw => by cases hw
  order := fun p i j w v h => by simp at h
  trans := fun p w hw => by cases hw
  seenN := fun p w hw => by cases hw
  known := fun i p m h => h.elim
  closed := fun i p w hw => by cases hw
  keys := fun b hb => by
    obtain ⟨h, _, rfl⟩ := List.mem_map.mp hb
    exact List.nodup_nil
  held := fun i b hb p w => by
    obtain ⟨h, _, rfl⟩ := List.mem_map.mp (List.mem_of_getElem? hb)
    constructor
    · intro z; cases z
    · rintro ⟨z, _⟩; cases z
  full := fun b hb p hp => by
    obtain ⟨h, _, rfl⟩ := List.mem_map.mp hb
    cases hp
  one := fun b hb p => by
    obtain ⟨h, _, rfl⟩ := List.mem_map.mp hb
    exact List.nodup_nil
  all := fun p w hw => by cases hw
  few := ⟨[], Nat.le_refl _, fun p h => absurd rfl h⟩
  short := fun p => Nat.le_refl _

theorem Good.more (g : Good mk n bs G K) {n' : Nat} (h : n ≤ n') : Good mk n' bs G K :=
  { g with few := let ⟨D, a, b⟩ := g.few; ⟨D, Nat.le_trans a h, b⟩, short := fun p => Nat.le_trans (g.short p) h }

/-! ### joining -/
theorem get_set {α : Type} {l : List α} {i j : Nat} {x y : α} (h : (l.set i x)[j]? = some y) : (j = i ∧ y = x) ∨ (j ≠ i ∧ l[j]? = some y) := by
  by_cases e : i = j
  · subst e
    have hl : i < l.length := by
      have := (List.getElem?_eq_some_iff.mp h).1
      rwa [List.length_set] at this
    rw [List.getElem?_set_self hl] at h
    exact .inl ⟨rfl, (Option.some.inj h).symm⟩
  · rw [List.getElem?_set_ne e] at h
    exact .inr ⟨fun z => e z.symm, h⟩
theorem mem_set_of {α : Type} {l : List α} {i : Nat} {x y : α} (h : y ∈ l.set i x) : y = x ∨ y ∈ l := by
  obtain ⟨j, hj⟩ := List.mem_iff_getElem?.mp h
  rcases get_set hj with ⟨_, e⟩ | ⟨_, e⟩
  · exact .inl e
  · exact .inr (List.mem_of_getElem? e)
theorem map_set_same {α β : Type} (f : α → β) {l : List α} {i : Nat} {x y : α} (hi : l[i]? = some y) (e : f x = f y) : (l.set i x).map f = l.map f := by
  apply List.ext_getElem?
  intro j
  rw [List.getElem?_map, List.getElem?_map]
  by_cases q : i = j
  · subst q
    rw [List.getElem?_set_self (List.getElem?_eq_some_iff.mp hi).1, hi]
    exact congrArg some e
  · rw [List.getElem?_set_ne q]

def joinK (K : Nat → P → M → Prop) (i j : Nat) : Nat → P → M → Prop := fun k q m => K k q m ∨ (k = i ∧ K j q m)

theorem Good.take (g : Good mk n bs G K) {i j : Nat} {b c : Bk M T P H} (hb : bs[i]? = some b) (hc : bs[j]? = some c) :
    Good mk n (bs.set i (takeM b c)) G (joinK K i j) := by
  have hbm := List.mem_of_getElem? hb
  have hcm := List.mem_of_getElem? hc
  have hlt : i < bs.length := (List.getElem?_eq_some_iff.mp hb).1
  obtain ⟨t1, t2, t3⟩ := take_go c.held b.held (g.keys c hcm) (g.keys b hbm)
  have hof : ∀ p, heldOf (takeM b c) p = if p ∈ c.held.map (·.1) then unseen (heldOf b p ++ heldOf c p) else heldOf b p := fun p => t3 p
  have hand : (takeM b c).hand = b.hand := rfl
  have many : (takeM b c).many = b.many := rfl
  have inb : ∀ p w, w ∈ heldOf b p ++ heldOf c p → w ∈ G p := fun p w hw => by
    rcases List.mem_append.mp hw with h | h
    · exact g.inG hbm h
    · exact g.inG hcm h
  have u : ∀ p, ∀ a ∈ heldOf b p ++ heldOf c p, ∀ d ∈ heldOf b p ++ heldOf c p, a.mark = d.mark → a = d := fun p a ha d hd e =>
    mark_one (g.uniq p) a (inb p a ha) d (inb p d hd) e
  have nocr : ∀ p, p ∉ c.held.map (·.1) → heldOf c p = [] := fun p h => by
    unfold heldOf
    rw [look_none_of h]
    rfl
  -- what is held behind it
  have key : ∀ p w, w ∈ heldOf (takeM b c) p ↔ (w ∈ G p ∧ joinK K i j i p w.mark ∧ ∀ v ∈ G p, joinK K i j i p v.mark → w.mark ∉ v.seen) := by
    intro p w
    have jk : ∀ m, joinK K i j i p m ↔ K i p m ∨ K j p m := fun m => ⟨fun h => h.elim .inl (fun z => .inr z.2), fun h => h.elim .inl (fun z => .inr ⟨rfl, z⟩)⟩
    -- the list from both, by what is met
    have both : w ∈ heldOf b p ++ heldOf c p ∧ (∀ o ∈ heldOf b p ++ heldOf c p, w.mark ∉ o.seen) ↔ (w ∈ G p ∧ joinK K i j i p w.mark ∧ ∀ v ∈ G p, joinK K i j i p v.mark → w.mark ∉ v.seen) := by
      constructor
      · rintro ⟨hw, hn⟩
        refine ⟨inb p w hw, ?_, fun v hv hk hs => ?_⟩
        · rw [jk]
          rcases List.mem_append.mp hw with h | h
          · exact .inl ((g.held i b hb p w).mp h).2.1
          · exact .inr ((g.held j c hc p w).mp h).2.1
        · rw [jk] at hk
          rcases hk with hk | hk
          · obtain ⟨o, ho, h1, h2, h3⟩ := g.topOf (Q := K i p) hv hk
            refine hn o (List.mem_append_left _ ((g.held i b hb p o).mpr ⟨ho, h1, h3⟩)) ?_
            rcases h2 with rfl | h2
            · exact hs
            · exact g.trans p o ho v hv h2 _ hs
          · obtain ⟨o, ho, h1, h2, h3⟩ := g.topOf (Q := K j p) hv hk
            refine hn o (List.mem_append_right _ ((g.held j c hc p o).mpr ⟨ho, h1, h3⟩)) ?_
            rcases h2 with rfl | h2
            · exact hs
            · exact g.trans p o ho v hv h2 _ hs
      · rintro ⟨hw, hk, hn⟩
        refine ⟨?_, fun o ho => ?_⟩
        · rw [jk] at hk
          rcases hk with hk | hk
          · exact List.mem_append_left _ ((g.held i b hb p w).mpr ⟨hw, hk, fun v hv h => hn v hv ((jk _).mpr (.inl h))⟩)
          · exact List.mem_append_right _ ((g.held j c hc p w).mpr ⟨hw, hk, fun v hv h => hn v hv ((jk _).mpr (.inr h))⟩)
        · rcases List.mem_append.mp ho with h | h
          · have q := (g.held i b hb p o).mp h
            exact hn o q.1 ((jk _).mpr (.inl q.2.1))
          · have q := (g.held j c hc p o).mp h
            exact hn o q.1 ((jk _).mpr (.inr q.2.1))
    rw [← both, hof]
    by_cases e : p ∈ c.held.map (·.1)
    · rw [if_pos e, mem_unseen (u p)]
    · rw [if_neg e, nocr p e, List.append_nil]
      refine ⟨fun h => ⟨h, fun o ho => ?_⟩, fun h => h.1⟩
      have q := (g.held i b hb p o).mp ho
      exact ((g.held i b hb p w).mp h).2.2 o q.1 q.2.1
  have jne : ∀ k p m, k ≠ i → (joinK K i j k p m ↔ K k p m) := fun k p m hk => ⟨fun h => h.elim id (fun z => absurd z.1 hk), .inl⟩
  refine ⟨?_, ?_, g.uniq, g.seenIn, g.order, g.trans, g.seenN, ?_, ?_, ?_, ?_, ?_, ?_, ?_, g.few, g.short⟩
  · rw [map_set_same (·.hand) hb hand]
    exact g.hands
  · intro p w hw
    obtain ⟨d, hd, k, hk, e⟩ := g.fresh p w hw
    obtain ⟨q, hq⟩ := List.mem_iff_getElem?.mp hd
    by_cases z : q = i
    · subst z
      rw [hb] at hq
      cases hq
      exact ⟨takeM b c, List.mem_of_getElem? (List.getElem?_set_self hlt), k, hk, e⟩
    · exact ⟨d, List.mem_of_getElem? ((List.getElem?_set_ne (fun y => z y.symm)).trans hq), k, hk, e⟩
  · rintro k p m (h | ⟨_, h⟩)
    · exact g.known k p m h
    · exact g.known j p m h
  · rintro k p w hw (h | ⟨e, h⟩) x hx
    · exact .inl (g.closed k p w hw h x hx)
    · exact .inr ⟨e, g.closed j p w hw h x hx⟩
  · intro d hd
    rcases mem_set_of hd with rfl | hd
    · exact t1
    · exact g.keys d hd
  · intro k d hd p w
    rcases get_set hd with ⟨rfl, rfl⟩ | ⟨hk, hd⟩
    · exact key p w
    · rw [g.held k d hd p w, jne k p _ hk]
      refine ⟨fun h => ⟨h.1, h.2.1, fun v hv z => h.2.2 v hv ((jne k p _ hk).mp z)⟩, fun h => ⟨h.1, h.2.1, fun v hv z => h.2.2 v hv ((jne k p _ hk).mpr z)⟩⟩
  · intro d hd p hp
    rcases mem_set_of hd with rfl | hd
    · -- something is held
      have h := (t2 p).mp hp
      have ex : ∃ v ∈ G p, joinK K i j i p v.mark := by
        rcases h with h | h
        · have q := g.full c hcm p h
          cases r : heldOf c p with
          | nil => exact absurd r q
          | cons v l =>
            have z := (g.held j c hc p v).mp (by rw [r]; exact List.mem_cons_self)
            exact ⟨v, z.1, .inr ⟨rfl, z.2.1⟩⟩
        · have q := g.full b hbm p h
          cases r : heldOf b p with
          | nil => exact absurd r q
          | cons v l =>
            have z := (g.held i b hb p v).mp (by rw [r]; exact List.mem_cons_self)
            exact ⟨v, z.1, .inl z.2.1⟩
      obtain ⟨v, hv, hk⟩ := ex
      obtain ⟨o, ho, h1, _, h3⟩ := g.topOf (Q := joinK K i j i p) hv hk
      intro z
      have := (key p o).mpr ⟨ho, h1, h3⟩
      rw [z] at this
      cases this
    · exact g.full d hd p hp
  · intro d hd p
    rcases mem_set_of hd with rfl | hd
    · rw [hof]
      by_cases e : p ∈ c.held.map (·.1)
      · rw [if_pos e]; exact unseen_marks _
      · rw [if_neg e]; exact g.one b hbm p
    · exact g.one d hd p
  · intro p w hw
    obtain ⟨k, hk, h⟩ := g.all p w hw
    exact ⟨k, by rw [List.length_set]; exact hk, .inl h⟩

/-! ### writing -/
theorem Good.write (g : Good mk n bs G K) (inj : ∀ h k h' k', mk h k = mk h' k' → h = h' ∧ k = k') {i : Nat} {b : Bk M T P H} (hb : bs[i]? = some b) (p : P) (t : T) :
    ∃ G' K', Good mk (n + 1) (bs.set i (writeM mk b p t)) G' K' := by
  have hbm := List.mem_of_getElem? hb
  have hlt : i < bs.length := (List.getElem?_eq_some_iff.mp hb).1
  -- the new writing
  obtain ⟨w, ew⟩ : ∃ w : Wr M T, w = ⟨mk b.hand (b.many + 1), t, seenBy (heldOf b p)⟩ := ⟨_, rfl⟩
  have wm : w.mark = mk b.hand (b.many + 1) := by rw [ew]
  have ws : w.seen = seenBy (heldOf b p) := by rw [ew]
  have nomark : ∀ q, w.mark ∉ (G q).map (·.mark) := by
    intro q h
    obtain ⟨v, hv, e⟩ := List.mem_map.mp h
    obtain ⟨d, hd, k, hk, e2⟩ := g.fresh q v hv
    rw [e2, wm] at e
    obtain ⟨e3, e4⟩ := inj _ _ _ _ e
    have : d = b := by
      obtain ⟨x, hx⟩ := List.mem_iff_getElem?.mp hd
      have h1 : (bs.map (·.hand))[x]? = some d.hand := by rw [List.getElem?_map, hx]; rfl
      have h2 : (bs.map (·.hand))[i]? = some b.hand := by rw [List.getElem?_map, hb]; rfl
      rw [e3] at h1
      have ex : x = i := (List.getElem?_inj (List.getElem?_eq_some_iff.mp h1).1 g.hands).mp (h1.trans h2.symm)
      rw [ex, hb] at hx
      exact (Option.some.inj hx).symm
    rw [this] at hk
    omega
  have wseen : ∀ x, x ∈ w.seen ↔ K i p x := by
    intro x
    rw [ws, mem_seenBy]
    constructor
    · rintro ⟨v, hv, h⟩
      have q := (g.held i b hb p v).mp hv
      rcases h with rfl | h
      · exact q.2.1
      · exact g.closed i p v q.1 q.2.1 x h
    · intro h
      obtain ⟨v, hv, rfl⟩ := List.mem_map.mp (g.known i p x h)
      obtain ⟨o, ho, h1, h2, h3⟩ := g.topOf (Q := K i p) hv h
      refine ⟨o, (g.held i b hb p o).mpr ⟨ho, h1, h3⟩, ?_⟩
      rcases h2 with rfl | h2
      · exact .inl rfl
      · exact .inr h2
  have wself : w.mark ∉ w.seen := fun h => nomark p (g.known i p _ ((wseen _).mp h))
  obtain ⟨G', eG⟩ : ∃ G' : P → List (Wr M T), G' = fun q => if q = p then G q ++ [w] else G q := ⟨_, rfl⟩
  obtain ⟨K', eK⟩ : ∃ K' : Nat → P → M → Prop, K' = fun k q m => K k q m ∨ (k = i ∧ q = p ∧ m = w.mark) := ⟨_, rfl⟩
  have Gp : G' p = G p ++ [w] := by rw [eG]; exact if_pos rfl
  have Gn : ∀ q, q ≠ p → G' q = G q := fun q h => by rw [eG]; exact if_neg h
  have memG : ∀ q v, v ∈ G' q ↔ v ∈ G q ∨ (q = p ∧ v = w) := by
    intro q v
    by_cases e : q = p
    · subst e
      rw [Gp, List.mem_append, List.mem_singleton]
      exact ⟨fun h => h.elim .inl (fun z => .inr ⟨rfl, z⟩), fun h => h.elim .inl (fun z => .inr z.2)⟩
    · rw [Gn q e]
      exact ⟨.inl, fun h => h.elim id (fun z => absurd z.1 e)⟩
  have oldSee : ∀ q, ∀ v ∈ G q, w.mark ∉ v.seen := fun q v hv h => nomark q (g.seenIn q v hv _ h)
  have marksUp : ∀ q m, m ∈ (G q).map (·.mark) → m ∈ (G' q).map (·.mark) := fun q m h => by
    obtain ⟨v, hv, e⟩ := List.mem_map.mp h
    exact List.mem_map.mpr ⟨v, (memG q v).mpr (.inl hv), e⟩
  have Kold : ∀ k q v, v ∈ G q → (K' k q v.mark ↔ K k q v.mark) := by
    intro k q v hv
    rw [eK]
    exact ⟨fun h => h.elim id (fun z => absurd (List.mem_map.mpr ⟨v, hv, z.2.2⟩) (nomark q)), .inl⟩
  have Knew : ∀ k q, K' k q w.mark ↔ k = i ∧ q = p := by
    intro k q
    rw [eK]
    exact ⟨fun h => h.elim (fun z => absurd (g.known k q _ z) (nomark q)) (fun z => ⟨z.1, z.2.1⟩), fun h => .inr ⟨h.1, h.2, rfl⟩⟩
  have hof := heldOf_write mk b p t
  rw [← ew] at hof
  refine ⟨G', K', ?_, ?_, ?_, ?_, ?_, ?_, ?_, ?_, ?_, ?_, ?_, ?_, ?_, ?_, ?_, ?_⟩
  · rw [map_set_same (x := writeM mk b p t) (·.hand) hb rfl]
    exact g.hands
  · intro q v hv
    rcases (memG q v).mp hv with hv | ⟨_, rfl⟩
    · obtain ⟨d, hd, k, hk, e⟩ := g.fresh q v hv
      obtain ⟨x, hx⟩ := List.mem_iff_getElem?.mp hd
      by_cases z : x = i
      · subst z
        rw [hb] at hx
        cases hx
        exact ⟨writeM mk b p t, List.mem_of_getElem? (List.getElem?_set_self hlt), k, Nat.le_succ_of_le hk, e⟩
      · exact ⟨d, List.mem_of_getElem? ((List.getElem?_set_ne (fun y => z y.symm)).trans hx), k, hk, e⟩
    · exact ⟨writeM mk b p t, List.mem_of_getElem? (List.getElem?_set_self hlt), b.many + 1, Nat.le_refl _, wm⟩
  · intro q
    by_cases e : q = p
    · subst e
      rw [Gp, List.map_append]
      refine List.nodup_append.mpr ⟨g.uniq q, by simp, ?_⟩
      intro a ha x hx
      rw [List.map_singleton, List.mem_singleton] at hx
      rw [hx]
      exact fun z => nomark q (z ▸ ha)
    · rw [Gn q e]; exact g.uniq q
  · intro q v hv x hx
    rcases (memG q v).mp hv with hv | ⟨rfl, rfl⟩
    · exact marksUp q x (g.seenIn q v hv x hx)
    · exact marksUp _ x (g.known i _ x ((wseen x).mp hx))
  · intro q x y v u hx hy hs
    by_cases e : q = p
    · subst e
      rw [Gp] at hx hy
      have sz : ∀ {z : Nat} {r : Wr M T}, (G q ++ [w])[z]? = some r → ((G q)[z]? = some r) ∨ (z = (G q).length ∧ r = w) := by
        intro z r h
        by_cases l : z < (G q).length
        · rw [List.getElem?_append_left l] at h
          exact .inl h
        · rw [List.getElem?_append_right (by omega)] at h
          have l2 := (List.getElem?_eq_some_iff.mp h).1
          rw [List.length_singleton] at l2
          have z0 : z - (G q).length = 0 := by omega
          rw [z0] at h
          exact .inr ⟨by omega, (Option.some.inj h).symm⟩
      rcases sz hx with hx | ⟨ex, rfl⟩
      · rcases sz hy with hy | ⟨ey, _⟩
        · exact g.order q x y v u hx hy hs
        · rw [ey]; exact (List.getElem?_eq_some_iff.mp hx).1
      · exfalso
        rcases sz hy with hy | ⟨_, rfl⟩
        · exact oldSee q u (List.mem_of_getElem? hy) hs
        · exact wself hs
    · rw [Gn q e] at hx hy
      exact g.order q x y v u hx hy hs
  · intro q v hv u hu hs x hx
    rcases (memG q v).mp hv with hv | ⟨rfl, rfl⟩
    · rcases (memG q u).mp hu with hu | ⟨_, rfl⟩
      · exact g.trans q v hv u hu hs x hx
      · exact absurd hs (oldSee q v hv)
    · rcases (memG _ u).mp hu with hu | ⟨_, rfl⟩
      · exact (wseen x).mpr (g.closed i _ u hu ((wseen _).mp hs) x hx)
      · exact absurd hs wself
  · intro q v hv
    rcases (memG q v).mp hv with hv | ⟨_, rfl⟩
    · exact g.seenN q v hv
    · rw [ws]; exact nodup_seenBy _
  · intro k q m h
    rw [eK] at h
    rcases h with h | ⟨_, rfl, rfl⟩
    · exact marksUp q m (g.known k q m h)
    · exact List.mem_map.mpr ⟨w, (memG _ w).mpr (.inr ⟨rfl, rfl⟩), rfl⟩
  · intro k q v hv h x hx
    rcases (memG q v).mp hv with hv | ⟨rfl, rfl⟩
    · rw [eK]
      exact .inl (g.closed k q v hv ((Kold k q v hv).mp h) x hx)
    · obtain ⟨rfl, _⟩ := (Knew k _).mp h
      rw [eK]
      exact .inl ((wseen x).mp hx)
  · intro d hd
    rcases mem_set_of hd with rfl | hd
    · exact nodup_put _ _ (g.keys b hbm)
    · exact g.keys d hd
  · intro k d hd q v
    rcases get_set hd with ⟨rfl, rfl⟩ | ⟨hk, hd⟩
    · rw [hof]
      by_cases e : q = p
      · subst e
        rw [if_pos rfl, List.mem_singleton]
        constructor
        · rintro rfl
          refine ⟨(memG _ _).mpr (.inr ⟨rfl, rfl⟩), (Knew _ _).mpr ⟨rfl, rfl⟩, fun u hu _ hs => ?_⟩
          rcases (memG _ u).mp hu with hu | ⟨_, rfl⟩
          · exact oldSee _ u hu hs
          · exact wself hs
        · rintro ⟨hv, hk, hn⟩
          rcases (memG _ v).mp hv with hv | ⟨_, e⟩
          · exact absurd ((wseen _).mpr ((Kold _ _ v hv).mp hk)) (hn w ((memG _ w).mpr (.inr ⟨rfl, rfl⟩)) ((Knew _ _).mpr ⟨rfl, rfl⟩))
          · exact e
      · rw [if_neg e, g.held k b hb q v, Gn q e]
        refine ⟨fun h => ⟨h.1, (Kold k q v h.1).mpr h.2.1, fun u hu z => h.2.2 u hu ((Kold k q u hu).mp z)⟩, fun h => ⟨h.1, (Kold k q v h.1).mp h.2.1, fun u hu z => h.2.2 u hu ((Kold k q u hu).mpr z)⟩⟩
    · rw [g.held k d hd q v]
      constructor
      · rintro ⟨h1, h2, h3⟩
        refine ⟨(memG q v).mpr (.inl h1), (Kold k q v h1).mpr h2, fun u hu z => ?_⟩
        rcases (memG q u).mp hu with hu | ⟨_, rfl⟩
        · exact h3 u hu ((Kold k q u hu).mp z)
        · exact absurd ((Knew k q).mp z).1 hk
      · rintro ⟨h1, h2, h3⟩
        rcases (memG q v).mp h1 with h1 | ⟨_, rfl⟩
        · exact ⟨h1, (Kold k q v h1).mp h2, fun u hu z => h3 u ((memG q u).mpr (.inl hu)) ((Kold k q u hu).mpr z)⟩
        · exact absurd ((Knew k q).mp h2).1 hk
  · intro d hd q hq
    rcases mem_set_of hd with rfl | hd
    · rw [hof]
      by_cases e : q = p
      · rw [if_pos e]; exact List.cons_ne_nil _ _
      · rw [if_neg e]
        refine g.full b hbm q ?_
        rcases (mem_keys_put b.held p q _).mp hq with z | z
        · exact absurd z e
        · exact z
    · exact g.full d hd q hq
  · intro d hd q
    rcases mem_set_of hd with rfl | hd
    · rw [hof]
      by_cases e : q = p
      · rw [if_pos e]; simp
      · rw [if_neg e]; exact g.one b hbm q
    · exact g.one d hd q
  · intro q v hv
    rw [List.length_set]
    rcases (memG q v).mp hv with hv | ⟨rfl, rfl⟩
    · obtain ⟨k, hk, h⟩ := g.all q v hv
      exact ⟨k, hk, (Kold k q v hv).mpr h⟩
    · exact ⟨i, hlt, (Knew i _).mpr ⟨rfl, rfl⟩⟩
  · obtain ⟨D, hD, hin⟩ := g.few
    refine ⟨p :: D, by rw [List.length_cons]; omega, fun q hq => ?_⟩
    by_cases e : q = p
    · rw [e]; exact List.mem_cons_self
    · rw [Gn q e] at hq
      exact List.mem_cons_of_mem _ (hin q hq)
  · intro q
    by_cases e : q = p
    · subst e
      rw [Gp, List.length_append, List.length_singleton]
      have := g.short q
      omega
    · rw [Gn q e]
      have := g.short q
      omega
end
end SW
/-! Dicts whose keys are tuples: walked by values and by items; update; a text times a number. -/
namespace L2.SR
open PySem PySem.Spec PyProof.Rows

section
variable {X : Cx} {pins : List (Addr × Obj)} {σ : St} {H : Hp} {s : Shared} {d : Addr} {o : Obj}
/-- what stands in a locked dict of tuple keys, entry by entry -/
theorem lockedT {kvs : List (List Key × V)} (I : Inv X pins σ H s) (h : H d = some (.frz o (.dT kvs))) :
    (d == sysModules) = false ∧ ∃ (es : Array DictEntry) (ep : Nat), o.data = .dict es ep ∧ s.heap.DictRaw d es ep ∧ es.size = kvs.length ∧
      ∀ (i : Nat) (hi : i < es.size), ∃ (k : List Key) (v : V) (q : Addr), kvs[i]? = some (k, v) ∧ es[i].key = .ref q ∧ H q = some (.tup (k.map kV)) ∧ RelV v es[i].val := by
  have ok := I.hok d _ h
  obtain ⟨hd, z, hs, xs, pr, o', es, ep, ho, hx, hdt, he, hn⟩ := ok
  have eo : o' = o := Option.some.inj (ho.symm.trans hd)
  rw [eo] at hx hdt
  have l1 : es.size = xs.length := size_of_entries he
  have l2 : kvs.length = xs.length := Paired.length pr
  refine ⟨hs, es, ep, hdt, ⟨o, hd, hx, hdt⟩, by omega, fun i hi => ?_⟩
  have hk : i < kvs.length := by omega
  obtain ⟨y, hy, e1, e2, e3⟩ := paired_get pr (List.getElem?_eq_getElem hk)
  have q := entry_at he i
  rw [hy, Array.getElem?_eq_getElem hi, Option.map_some] at q
  have q' := Option.some.inj q
  exact ⟨_, _, y.2.1, List.getElem?_eq_getElem hk, by rw [q']; rfl, e2, by rw [q']; exact e3⟩
end

/-- the values of the locked dict at d -/
def ItVT (d : Addr) (o : Obj) (kvs : List (List Key × V)) : It where
  go i H := i < kvs.length ∧ H d = some (.frz o (.dT kvs))
  yld i H x H' := H' = H ∧ ∃ k, kvs[i]? = some (k, x)
  stop i H := kvs.length ≤ i ∧ H d = some (.frz o (.dT kvs))
/-- its items: each a new pair of the key's own tuple and the value -/
def ItIT (d : Addr) (o : Obj) (kvs : List (List Key × V)) : It where
  go i H := i < kvs.length ∧ H d = some (.frz o (.dT kvs))
  yld i H x H' := ∃ T k v q, kvs[i]? = some (k, v) ∧ H q = some (.tup (k.map kV)) ∧ x = .ref T ∧ H T = none ∧ H' = upd H T (.tup [.ref q, v])
  stop i H := kvs.length ≤ i ∧ H d = some (.frz o (.dT kvs))

section
variable {P : Program} {w : World} {K : PySem.W.Frag} {tg : Expr} {d : Addr} {o : Obj}
theorem one_of {b it : Addr} (h : b ∈ [it]) : b = it := List.mem_singleton.mp h
theorem turn_VT {kvs : List (List Key × V)} {es : Array DictEntry} {ep : Nat} (it : Addr) (hod : o.data = .dict es ep) :
    Turn P w K tg (ItVT d o kvs) [it] it (fun i h => h.IsValIter it d i kvs.length ep) where
  mem := List.mem_singleton.mpr rfl
  obj := fun i h st b hb => by
    obtain ⟨oi, e, _, dd⟩ := st
    exact ⟨oi, by rw [one_of hb]; exact e, fun v z => by rw [dd] at z; cases z⟩
  keep := fun i h h' st k => st.at fun oi e => k it (List.mem_singleton.mpr rfl) oi e
  item := by
    rintro X rfl rfl rfl hc i pins s σ H E I hf st ⟨hi, hd⟩
    obtain ⟨f0, f1, f2, f3, f4, f5⟩ := hf it (List.mem_singleton.mpr rfl)
    obtain ⟨hs, es', ep', hdt, hm, hsz, ent⟩ := lockedT I hd
    obtain ⟨rfl, rfl⟩ := dict_ep hod hdt
    obtain ⟨k, v, q, hk, _, _, rv⟩ := ent i (by omega)
    rw [← hsz] at st
    refine wpAny_pyNext_values_item_raw st hm (by omega) fun h' st' sb => ?_
    have I1 : Inv X pins σ H { s with heap := h' } := I.turned (t' := s.toks) (fun b ob hb e => (sb.2 b hb).trans e) f0 f1 f3 f4 f5
    obtain ⟨oi, e, c, dd⟩ := id st'
    refine ⟨_, rfl, go_of (s := { s with heap := h' }) e c dd (by decide) ⟨v, H, I1, rv, ⟨rfl, k, hk⟩, ?_, fun b hb => (hf b hb).1⟩⟩
    rw [← hsz]
    exact st'
  done := by
    rintro X rfl rfl rfl hc i pins s σ H E I hf st ⟨hi, hd⟩
    obtain ⟨f0, f1, f2, f3, f4, f5⟩ := hf it (List.mem_singleton.mpr rfl)
    obtain ⟨hs, es', ep', hdt, hm, hsz, _⟩ := lockedT I hd
    obtain ⟨rfl, rfl⟩ := dict_ep hod hdt
    rw [← hsz] at st
    exact wpAny_pyNext_values_end_raw (I.ok.hd hc) st hm (by omega) fun h' eb => ⟨rfl, I.turned (t' := s.toks) (fun b ob hb e => eb b ob hb e) f0 f1 f3 f4 f5⟩
  self := fun A i s Q E st h => wpAny_pyIter_valiter st h
theorem turn_IT {kvs : List (List Key × V)} {elts : List Expr} {kk : Nat} {tpos : Pos} {es : Array DictEntry} {ep : Nat} (it : Addr) (hod : o.data = .dict es ep) :
    Turn P w K (.Tuple elts kk tpos) (ItIT d o kvs) [it] it (fun i h => ∃ ok ov, IsItemIter h it d i kvs.length ep ok ov) where
  mem := List.mem_singleton.mpr rfl
  obj := fun i h st b hb => by
    obtain ⟨ok, ov, e⟩ := st
    rw [one_of hb]
    exact ⟨_, e, fun v z => nomatch z⟩
  keep := fun i h h' st k => by
    obtain ⟨ok, ov, e⟩ := st
    exact ⟨ok, ov, k it (List.mem_singleton.mpr rfl) _ e⟩
  item := by
    rintro X rfl rfl rfl hc i pins s σ H E I hf st ⟨hi, hd⟩
    obtain ⟨ok, ov, st⟩ := st
    obtain ⟨hs, es', ep', hdt, hm, hsz, ent⟩ := lockedT I hd
    obtain ⟨rfl, rfl⟩ := dict_ep hod hdt
    obtain ⟨k, v, q, hk, ek, hq, rv⟩ := ent i (by omega)
    rw [← hsz] at st
    have hlt : it < s.heap.objs.size := Heap.lt_size st
    refine wpAny_pyNext_items_item_raw st hm (by omega) fun h' ho hT hz kp => ?_
    refine ⟨_, rfl, wpAny_letOwnedTupleGo_items (s := { s with heap := h' }) ho fun h2 st2 sb => ?_⟩
    have hT2 : h2.get? s.heap.objs.size = some { cls := .type "tuple", data := .seq #[es'[i].key, es'[i].val] } := (sb.2 _ (Nat.ne_of_gt hlt)).trans hT
    have new : ObjOk X.prog X.w (upd H s.heap.objs.size (.tup [.ref q, v])) h2 s.heap.objs.size (.tup [.ref q, v]) :=
      ⟨by show 2 ≤ sizeLine; decide, [es'[i].key, es'[i].val], .cons ek (.cons rv .nil), ⟨_, hT2, rfl, _, rfl⟩⟩
    have I1 : Inv X pins σ (upd H s.heap.objs.size (.tup [.ref q, v])) { s with heap := h2 } :=
      I.turnedNew (t' := s.toks) (ch := [it]) (fun b ob hb e => by
        have nb : b ≠ it := fun z => hb (List.mem_singleton.mpr z)
        exact (sb.2 b nb).trans (kp b ob nb e)) hf (Nat.le_refl _) new
    refine ⟨.ref s.heap.objs.size, _, I1, rfl, ⟨_, k, v, q, hk, hq, rfl, I.hok.fresh (Nat.le_refl _), rfl⟩, ⟨_, _, by rw [← hsz]; exact st2⟩, fun b hb => ?_⟩
    rw [one_of hb, upd_ne (Nat.ne_of_lt hlt)]
    exact (hf it (List.mem_singleton.mpr rfl)).1
  done := by
    rintro X rfl rfl rfl hc i pins s σ H E I hf st ⟨hi, hd⟩
    obtain ⟨ok, ov, st⟩ := st
    obtain ⟨f0, f1, f2, f3, f4, f5⟩ := hf it (List.mem_singleton.mpr rfl)
    obtain ⟨hs, es', ep', hdt, hm, hsz, _⟩ := lockedT I hd
    obtain ⟨rfl, rfl⟩ := dict_ep hod hdt
    rw [← hsz] at st
    exact wpAny_pyNext_items_end_raw (I.ok.hd hc) st hm (by omega) fun h' eb => ⟨rfl, I.turned (t' := s.toks) (fun b ob hb e => eb b ob hb e) f0 f1 f3 f4 f5⟩
  self := fun A i s Q E st h => by
    obtain ⟨ok, ov, e⟩ := st
    exact PySem.W.kcp_self e h
end

/-- d.values(), d.items() of a locked dict of tuple keys -/
def iValsT (td : TE) : TI := fun σ H R => td σ H fun x H1 => ∃ d o kvs, x = .ref d ∧ H1 d = some (.frz o (.dT kvs)) ∧ R (ItVT d o kvs) H1
def iItemsT (td : TE) : TI := fun σ H R => td σ H fun x H1 => ∃ d o kvs, x = .ref d ∧ H1 d = some (.frz o (.dT kvs)) ∧ R (ItIT d o kvs) H1
section
variable {X : Cx} {tg e : Expr} {td : TE} {apos cpos : Pos}
theorem raw_noDict {s : Shared} {d : Addr} {es : Array DictEntry} {ep : Nat} (hm : s.heap.DictRaw d es ep) : ∀ a, Value.ref d = .ref a → ∃ ob, s.heap.get? a = some ob ∧ ob.dict = none := by
  obtain ⟨o, ho, hc, _⟩ := hm
  intro a ea
  cases ea
  exact ⟨o, ho, hc.2.1⟩
theorem pi_valsT (he : PE X e td) (hbase : attributeBase e "values" X.env (eval e X.env) = eval e X.env := by rfl) (hline : (apos.endLine == cpos.line) = true := by rfl) :
    PI X tg (.Call (.Attribute e "values" apos) [] [] cpos) (iValsT td) := by
  refine ⟨fun pins s σ H R I h => ?_⟩
  refine wpAny_Call_method (T := "dict") (id := "dict.values") hbase rfl hline F.plainAttrs_dict F.slot_dict_values F.type_dict_values
    (thn (he.run pins s σ H _ I h) fun u s1 ⟨x, H1, I1, rx, d, o, kvs, ex, hd, q⟩ => ?_)
  subst ex
  obtain rfl : u = Value.ref d := rx
  obtain ⟨hs, es, ep, hdt, hm, hsz, _⟩ := lockedT I1 hd
  refine ⟨hm.typeIs, raw_noDict hm, ?_⟩
  have I2 : Inv X pins σ H1 { s1 with heap := s1.heap.push { cls := .type "dict_values", data := .fields #[.ref d] } } := I1.kept (t' := s1.toks) fun b ob q => Heap.get?_push_of_some _ q
  have fin : wpAny (model X.prog X.w) X.A (pyIter (.ref s1.heap.objs.size)) (PIE X pins σ tg R) X.xe { s1 with heap := s1.heap.push { cls := .type "dict_values", data := .fields #[.ref d] } } := by
    refine wpAny_pyIter_values_raw (d := d) ⟨_, Heap.get?_push_size _ rfl, rfl, rfl⟩ (hm.push _) (pi_one (tk := s1.toks) I2 _ (turn_VT _ hdt) ⟨_, Heap.get?_push_size _ rfl, rfl, ?_⟩ q)
    rw [hsz] <;> rfl
  show wpAny _ _ (callWith cpos (.builtin "dict.values") [.ref d] [] []) _ X.xe s1
  exact method_meetsIn F.slot_dict_values F.entry_dict_values rfl (PySem.evalArgs_none ⟨rfl, hm.typeIs, F.args_dict_values_1 _, _, meets_dict_values_raw d hs, ⟨es, ep, hm⟩, fin⟩)
theorem pi_itemsT {elts : List Expr} {kk : Nat} {tpos : Pos} (he : PE X e td) (hbase : attributeBase e "items" X.env (eval e X.env) = eval e X.env := by rfl) (hline : (apos.endLine == cpos.line) = true := by rfl) :
    PI X (.Tuple elts kk tpos) (.Call (.Attribute e "items" apos) [] [] cpos) (iItemsT td) := by
  refine ⟨fun pins s σ H R I h => ?_⟩
  refine wpAny_Call_method (T := "dict") (id := "dict.items") hbase rfl hline F.plainAttrs_dict F.slot_dict_items F.type_dict_items
    (thn (he.run pins s σ H _ I h) fun u s1 ⟨x, H1, I1, rx, d, o, kvs, ex, hd, q⟩ => ?_)
  subst ex
  obtain rfl : u = Value.ref d := rx
  obtain ⟨hs, es, ep, hdt, hm, hsz, _⟩ := lockedT I1 hd
  refine ⟨hm.typeIs, raw_noDict hm, ?_⟩
  have I2 : Inv X pins σ H1 { s1 with heap := s1.heap.push { cls := .type "dict_items", data := .fields #[.ref d] } } := I1.kept (t' := s1.toks) fun b ob q => Heap.get?_push_of_some _ q
  have fin : wpAny (model X.prog X.w) X.A (pyIter (.ref s1.heap.objs.size)) (PIE X pins σ (.Tuple elts kk tpos) R) X.xe { s1 with heap := s1.heap.push { cls := .type "dict_items", data := .fields #[.ref d] } } := by
    refine wpAny_pyIter_items_raw (d := d) ⟨_, Heap.get?_push_size _ rfl, rfl, rfl⟩ (hm.push _) (pi_one (tk := s1.toks) I2 _ (turn_IT _ hdt) ⟨.none, .none, ?_⟩ q)
    rw [← hsz]
    exact Heap.get?_push_size _ rfl
  show wpAny _ _ (callWith cpos (.builtin "dict.items") [.ref d] [] []) _ X.xe s1
  exact method_meetsIn F.slot_dict_items F.entry_dict_items rfl (PySem.evalArgs_none ⟨rfl, hm.typeIs, F.args_dict_items_1 _, _, meets_dict_items_raw d hs, ⟨es, ep, hm⟩, fin⟩)
end

/-! ### d.update(e), both of tuple keys, d not empty -/
def mergeT (kvs more : List (List Key × V)) : List (List Key × V) := more.foldl (fun acc kv => putK acc kv.1 kv.2) kvs
theorem mergeT_length : ∀ more kvs : List (List Key × V), (mergeT kvs more).length ≤ kvs.length + more.length
  | [], _ => Nat.le_refl _
  | p :: more, kvs => by
    have a := mergeT_length more (putK kvs p.1 p.2)
    have b := length_putK kvs p.1 p.2
    show (mergeT (putK kvs p.1 p.2) more).length ≤ _
    rw [List.length_cons]
    omega
theorem KT_merge {H : Hp} {more : List (List Key × V)} {ys : List (List Key × Addr × Value)} (r : KT H more ys) : ∀ {kvs : List (List Key × V)} {xs : List (List Key × Addr × Value)}, KT H kvs xs → KT H (mergeT kvs more) (storedAllH xs ys) := by
  induction r with
  | nil => intro kvs xs q; exact q
  | @cons p y ps ys h _ ih =>
    intro kvs xs q
    obtain ⟨h1, h2, h3⟩ := h
    have z := q.put p.1 (b := y.2.1) h2 h3
    have z2 := ih z
    show KT H (mergeT (putK kvs p.1 p.2) ps) (storedAllH (storedH xs y.1 y.2.1 y.2.2) ys)
    rw [← h1]
    exact z2
theorem KT_len {H : Hp} {kvs : List (List Key × V)} {xs : List (List Key × Addr × Value)} (r : KT H kvs xs) : kvs.length = xs.length := Paired.length r
section
variable {X : Cx}
theorem dt_laid {P : Program} {w : World} {H : Hp} {h : Heap} {a : Addr} {kvs : List (List Key × V)} {xs : List (List Key × Addr × Value)} (hl : kvs.length ≤ sizeLine) (hs : (a == sysModules) = false) (r : KT H kvs xs)
    (dd : h.DictOfH (tupleKind (mixKind P w)) a xs) : ObjOk P w H h a (.dT kvs) := by
  obtain ⟨o, es, ep, h1, h2, h3, h4, _, h5⟩ := dd
  exact ⟨hl, hs, xs, r, o, es, ep, h1, h2, h3, h4, h5⟩
def rUpdT : V → List V → Hp → VK → Prop := fun x ys H Q => ∃ (a b : Addr) (kvs more : List (List Key × V)), x = .ref a ∧ ys = [.ref b] ∧ a ≠ b ∧ H a = some (.dT kvs) ∧ H b = some (.dT more) ∧ kvs ≠ [] ∧
  kvs.length + more.length ≤ sizeLine ∧ Q .non (upd H a (.dT (mergeT kvs more)))
theorem mt_updT (hu : X.A.units + 1 < cLine) : MtR X "dict.update" rUpdT := by
  rintro pins s σ H x ys v us Q I rx ry ⟨a, b, kvs, more, rfl, rfl, hab, ha, hb, hne, hlen, q⟩
  obtain rfl : v = Value.ref a := rx
  cases ry with
  | cons r1 r2 =>
    cases r2
    cases r1
    obtain ⟨z1, hs1, xs, k1, d1⟩ := dt_of I.hok ha
    obtain ⟨z2, hs2, zs, k2, d2⟩ := dt_of I.hok hb
    have xne : xs ≠ [] := fun e => by
      rw [e] at k1
      cases k1
      exact hne rfl
    refine call_update_dictH (tupleKind_room_in1 hu) hab hs2 d1 d2 (.inl xne) (by rw [← KT_len k1, ← KT_len k2]; exact hlen) fun h' dd _ sb => ?_
    have keep : ∀ c zs, H c = some (.tup zs) → upd H a (.dT (mergeT kvs more)) c = some (.tup zs) := fun c zs e => by
      rw [upd_ne (ne_of e ha (by intro z; cases z))]
      exact e
    have km : KT (upd H a (.dT (mergeT kvs more))) (mergeT kvs more) (storedAllH xs zs) := (KT_merge k2 k1).keeps keep
    have ho : ∃ q, h'.get? a = some q := by
      obtain ⟨o, _, _, e, _⟩ := dd
      exact ⟨o, e⟩
    exact ⟨.non, _, I.write (e := a) (t' := s.toks) (by rw [ha]; trivial) (.inl rfl) (fun c u hc e => (sb.2 c hc).trans e) ho (dt_laid (Nat.le_trans (mergeT_length _ _) hlen) hs1 km dd), rfl, q⟩
end

/-! ### a text times a small number -/
theorem mulOk_small {x : Str} {n : Int} (h0 : 0 ≤ n) (h1 : n ≤ 1000) (hx : x.length ≤ 1000) : MulOk x n := by
  refine ⟨?_, fun h2 _ => ?_, fun _ _ => ?_⟩
  · rw [decide_eq_false (by omega), decide_eq_false (by omega)]
    rfl
  · have : (2 ^ 63 - 1) / n ≥ (2 ^ 63 - 1) / 1000 := by
      apply Int.le_ediv_of_mul_le (by omega)
      have : (2 ^ 63 - 1) / 1000 * n ≤ (2 ^ 63 - 1) / 1000 * 1000 := Int.mul_le_mul_of_nonneg_left h1 (by decide)
      omega
    omega
  · unfold Builtin.Str.tooLong
    have : x.length * n.toNat ≤ 1000 * 1000 := Nat.mul_le_mul hx (by omega)
    rw [decide_eq_false_iff_not]
    rw [sizeLine_eq]
    omega
section
variable {X : Cx}
theorem op_mulS : OpR X (binaryOp .Mult) (fun x y H Q => ∃ z n, x = .str z ∧ y = .int n ∧ 0 ≤ n ∧ n ≤ 1000 ∧ z.length ≤ 1000 ∧ Q (.str (Txt.mul z n)) H) := by
  rintro pins s σ H x y v u Q I rx ry ⟨z, n, rfl, rfl, h0, h1, h2, q⟩
  obtain ⟨t, rfl⟩ := rx
  obtain ⟨t', rfl⟩ := ry
  exact SB.mul (mulOk_small h0 h1 h2) fun t2 k => ⟨.str _, H, I.tok k, ⟨t2, rfl⟩, q⟩
end

/-! ### the walks as Walk -/
theorem walk_VT {d : Addr} {o : Obj} {kvs : List (List Key × V)} : Walk (ItVT d o kvs) kvs.length (fun H => H d = some (.frz o (.dT kvs))) (fun i H x H' => H' = H ∧ ∃ k, kvs[i]? = some (k, x)) :=
  ⟨fun _ _ hi q => ⟨hi, q⟩, fun _ q => ⟨Nat.le_refl _, q⟩, fun _ _ _ _ _ _ y => y⟩
theorem walk_IT {d : Addr} {o : Obj} {kvs : List (List Key × V)} : Walk (ItIT d o kvs) kvs.length (fun H => H d = some (.frz o (.dT kvs)))
    (fun i H x H' => ∃ T k v q, kvs[i]? = some (k, v) ∧ H q = some (.tup (k.map kV)) ∧ x = .ref T ∧ H T = none ∧ H' = upd H T (.tup [.ref q, v])) :=
  ⟨fun _ _ hi q => ⟨hi, q⟩, fun _ q => ⟨Nat.le_refl _, q⟩, fun _ _ _ _ _ _ y => y⟩
end L2.SR
/-! Sets of tuples of ints and texts (fewer than 64): making one of a list. -/
namespace L2.SR
open PySem PySem.Spec PyProof.Rows

/-- the hash of a key, the key at an address -/
abbrev kh (P : Program) (w : World) (k : List Key) : Int := tupleKeyHash (mixKind P w) k
abbrev IsK (P : Program) (w : World) (h : Heap) (k : List Key) (a : Addr) : Prop := IsTupleKey (mixKind P w) h k a
def Atom (v : Value) : Prop := (∃ i t, v = Value.int i t) ∨ ∃ x t, v = Value.str x t
theorem atoms {P : Program} {w : World} {k : List Key} {vs : List Value} (h : ItemsAre (mixKind P w) k vs) : ∀ v ∈ vs, Atom v := by
  induction h with
  | nil => exact fun v hv => nomatch hv
  | cons h1 _ ih =>
    intro v hv
    rcases List.mem_cons.mp hv with rfl | hv
    · rcases keyIs_shape h1 with ⟨i, t, _, e⟩ | ⟨x, t, _, e⟩
      · exact .inl ⟨i, t, e⟩
      · exact .inr ⟨x, t, e⟩
    · exact ih v hv
theorem atom_class (n : Nat) {v : Value} (h : Atom v) : ofAClassStatement n v = pure false := by
  rcases h with ⟨i, t, rfl⟩ | ⟨x, t, rfl⟩ <;> cases n <;> rfl
theorem atom_hash (n : Nat) {v : Value} (h : Atom v) : ∃ b, hashByValue n v = pure b := by
  rcases h with ⟨i, t, rfl⟩ | ⟨x, t, rfl⟩
  · exact ⟨true, by cases n <;> rfl⟩
  · exact ⟨false, by cases n <;> rfl⟩

section
variable {P : Program} {w : World} {A : Around} {E : Value → Shared → Prop} {s : Shared}
/-- no item of the key is of a class statement -/
theorem key_class {k : List Key} {b : Addr} {Q : Bool → Shared → Prop} (hk : IsK P w s.heap k b) (h : Q false s) : wpAny (model P w) A (ofAClassStatement 8 (.ref b)) Q E s := by
  have hT := hk.typeIs
  obtain ⟨o, items, n, ho, _, hd, hi⟩ := hk
  unfold ofAClassStatement
  refine wpAny_bind (wpAny_typeOf hT ?_)
  dsimp only
  simp only [show (("tuple" : String) == "tuple") = true by decide, if_true, Bool.not_true, Bool.false_eq_true, if_false]
  try refine wpAny_bind (wpAny_pure ?_)
  try simp only [Bool.not_true, Bool.false_eq_true, if_false]
  show wpAny _ _ (seqItems? (.ref b) >>= _) _ _ s
  refine wpAny_bind (wpAny_seqItems ho hd ?_)
  dsimp only
  refine wpAny_bind ?_
  show wpAny _ _ (forIn items _ _) _ _ s
  rw [← Array.forIn_toList]
  refine wpAny_forIn_list _ (fun rest r s' => s' = s ∧ r.1 = none ∧ ∀ v ∈ rest, Atom v) _ ?turn ?fin _ _ ⟨rfl, rfl, atoms hi⟩
  case turn =>
    rintro v rest r s' ⟨rfl, hr, all⟩
    rw [atom_class _ (all v List.mem_cons_self)]
    refine wpAny_bind (wpAny_pure ?_)
    simp only [Bool.false_eq_true, if_false]
    exact wpAny_pure ⟨rfl, rfl, fun u hu => all u (List.mem_cons_of_mem _ hu)⟩
  case fin =>
    rintro ⟨r1, r2⟩ s' ⟨rfl, hr, _⟩
    have e : r1 = none := hr
    rw [e]
    exact wpAny_pure h
/-- whether its hash goes by value: yes or no -/
theorem key_byValue {k : List Key} {b : Addr} {Q : Bool → Shared → Prop} (hk : IsK P w s.heap k b) (h : ∀ c, Q c s) : wpAny (model P w) A (hashByValue 8 (.ref b)) Q E s := by
  have hT := hk.typeIs
  obtain ⟨o, items, n, ho, _, hd, hi⟩ := hk
  unfold hashByValue
  refine wpAny_bind (wpAny_specialOf hT F.slot_tuple_hash.lookup ?_)
  show wpAny _ _ (seqItems? (.ref b) >>= _) _ _ s
  refine wpAny_bind (wpAny_seqItems ho hd ?_)
  refine wpAny_bind ?_
  show wpAny _ _ (forIn items _ _) _ _ s
  rw [← Array.forIn_toList]
  refine wpAny_forIn_list _ (fun rest r s' => s' = s ∧ r.1 = none ∧ ∀ v ∈ rest, Atom v) _ ?turn ?fin _ _ ⟨rfl, rfl, atoms hi⟩
  case turn =>
    rintro v rest r s' ⟨rfl, hr, all⟩
    obtain ⟨c, ec⟩ := atom_hash 7 (all v List.mem_cons_self)
    rw [ec]
    refine wpAny_bind (wpAny_pure ?_)
    cases c with
    | true =>
      simp only [Bool.not_true, Bool.false_eq_true, if_false]
      exact wpAny_pure ⟨rfl, rfl, fun u hu => all u (List.mem_cons_of_mem _ hu)⟩
    | false =>
      simp only [Bool.not_false, if_true]
      exact wpAny_pure (wpAny_pure (h false))
  case fin =>
    rintro ⟨r1, r2⟩ s' ⟨rfl, hr, _⟩
    have e : r1 = none := hr
    rw [e]
    exact wpAny_pure (h true)
/-- a search among keys shows nothing -/
theorem key_quiet {k : List Key} {b : Addr} {Q : Bool → Shared → Prop} (hk : IsK P w s.heap k b) {ys : List Value} (hy : ∀ y ∈ ys, ∃ k' c, y = Value.ref c ∧ IsK P w s.heap k' c) (h : Q false s) :
    wpAny (model P w) A (searchCouldBeSeen (.ref b) ys) Q E s := by
  unfold searchCouldBeSeen
  refine wpAny_bind ?_
  refine wpAny_forIn_list _ (fun rest r s' => s' = s ∧ r.1 = none ∧ ∀ y ∈ rest, ∃ k' c, y = Value.ref c ∧ IsK P w s.heap k' c) _ ?turn ?fin _ _ ⟨rfl, rfl, hy⟩
  case turn =>
    rintro v rest r s' ⟨rfl, hr, all⟩
    obtain ⟨k', c, rfl, hc⟩ := all v List.mem_cons_self
    have more : ∀ y ∈ rest, ∃ k' c, y = Value.ref c ∧ IsK P w s'.heap k' c := fun u hu => all u (List.mem_cons_of_mem _ hu)
    dsimp only
    by_cases hv : (b == c || (carriedByValue (.ref b) && carriedByValue (.ref c))) = true
    · exact wp_if_pos hv (wpAny_pure ⟨rfl, rfl, more⟩)
    · refine wp_if_neg hv (wpAny_bind (wpAny_eqIsQuiet_tuple hk ?_))
      simp only [Bool.not_true, Bool.false_eq_true, if_false]
      refine wpAny_bind (wpAny_eqIsQuiet_tuple hc ?_)
      simp only [Bool.not_true, Bool.false_eq_true, if_false]
      refine wpAny_bind (key_class hk ?_)
      simp only [Bool.false_eq_true, if_false]
      refine wpAny_bind (key_class hc ?_)
      simp only [Bool.false_eq_true, if_false]
      exact wpAny_pure ⟨rfl, rfl, more⟩
  case fin =>
    rintro ⟨r1, r2⟩ s' ⟨rfl, hr, _⟩
    have e : r1 = none := hr
    rw [e]
    exact wpAny_pure h

/-! ### the set -/
abbrev ent (P : Program) (w : World) (p : Addr × List Key) : Int × Value := (kh P w p.2, Value.ref p.1)
structure SetS (P : Program) (w : World) (h : Heap) (a : Addr) (L : List (Addr × List Key)) (es : Array (Int × Value)) (ep : Nat) (t : SetTable) : Prop where
  obj : ∃ o, h.get? a = some o ∧ o.ExactSet ∧ o.data = .set es ep t
  ents : es.toList = L.map (ent P w)
  tab : TabOk t (L.map fun p => kh P w p.2)
  nodup : (L.map (·.2)).Nodup
  keys : ∀ p ∈ L, IsK P w h p.2 p.1
  led : w.params.followText "set-order" = true ∨ t.led = true
  room : L.length * 5 < t.mask * 3
  few : L.length < 64
variable {a : Addr} {L : List (Addr × List Key)} {es : Array (Int × Value)} {ep : Nat} {t : SetTable}
theorem ents_size (h : es.toList = L.map (ent P w)) : es.size = L.length := by
  rw [← Array.length_toList, h, List.length_map]
theorem fits_of (hp : t.place.size = es.size) (hd : t.dummies = #[]) (hm : es.size ≤ t.mask) : t.fits es.size = true := by
  unfold SetTable.fits SetTable.fill
  rw [hd, Bool.and_eq_true, beq_iff_eq, decide_eq_true_eq]
  show t.place.size = es.size ∧ t.place.size + 0 ≤ t.mask
  omega
theorem SetS.place (R : SetS P w s.heap a L es ep t) : t.place.size = es.size := by
  have h := R.tab.sz
  rw [List.length_map] at h
  rw [ents_size R.ents]
  exact h
theorem SetS.fits (R : SetS P w s.heap a L es ep t) : t.fits es.size = true :=
  fits_of R.place R.tab.dm (by have := R.room; rw [ents_size R.ents]; omega)
theorem ents_at (h : es.toList = L.map (ent P w)) {i : Nat} {p : Addr × List Key} (e : L[i]? = some p) : es[i]? = some (ent P w p) := by
  rw [← Array.getElem?_toList, h, List.getElem?_map, e]
  rfl
theorem not_gaveWay (hm : MaskOk t.mask) : ¬ t.gaveWay = true := by
  unfold SetTable.gaveWay
  rw [mask_odd hm]
  decide

/-- the c-th state of the way -/
abbrev stt (m : Nat) (h : Int) (c : Nat) : SetTable.Probe := nth m (runAt m (SetTable.bits h % (m + 1)) (SetTable.bits h)) c
theorem stt_add (m : Nat) (h : Int) (c q : Nat) : nth m (stt m h c) q = stt m h (c + q) := (nth_add m c _ q).symm
theorem stt_dummy (m : Nat) (h : Int) (c : Nat) : (stt m h c).dummy = none := by
  have key : ∀ (n : Nat) (p : SetTable.Probe), p.dummy = none → (nth m p n).dummy = none := by
    intro n
    induction n with
    | zero => intro p e; exact e
    | succ n ih =>
      intro p e
      refine ih (adv m p) ?_
      unfold adv
      split <;> exact e
  exact key c _ rfl
/-- what a probe from the c-th state says, K being the first empty slot -/
theorem probe_from (r : Ris t.place.toList) (dm : t.dummies = #[]) (hashAt : Nat → Int) (h : Int) {c K : Nat} (hf : K < 10 * SetTable.turns t.mask) (hK : way t.mask h K ∉ t.place.toList) (hb : ∀ q, q < K → way t.mask h q ∈ t.place.toList) (hc : c ≤ K) :
    (∃ q i, c ≤ q ∧ q < K ∧ t.place.toList[i]? = some (way t.mask h q) ∧ hashAt i = h ∧ (∀ q' i', c ≤ q' → q' < q → t.place.toList[i']? = some (way t.mask h q') → hashAt i' ≠ h) ∧
      t.probe hashAt h (stt t.mask h c) = some (.candidate (way t.mask h q) i (stt t.mask h (q + 1)))) ∨
    ((∀ q' i', c ≤ q' → q' < K → t.place.toList[i']? = some (way t.mask h q') → hashAt i' ≠ h) ∧ t.probe hashAt h (stt t.mask h c) = some (.empty (way t.mask h K) none)) := by
  have at_ : ∀ q, (nth t.mask (stt t.mask h c) q).j = way t.mask h (c + q) := fun q => congrArg SetTable.Probe.j (stt_add t.mask h c q)
  have spec := go_spec t r dm hashAt h (10 * SetTable.turns t.mask) (K - c) (stt t.mask h c) (stt_dummy ..) (by omega)
    (fun q hq => by rw [at_]; exact hb (c + q) (by omega)) (by rw [at_, show c + (K - c) = K by omega]; exact hK)
  rcases spec with ⟨q, i, h1, h2, h3, h4, h5⟩ | ⟨h4, h5⟩
  · refine .inl ⟨c + q, i, by omega, by omega, by rw [← at_]; exact h2, h3, fun q' i' l1 l2 e => ?_, ?_⟩
    · exact h4 (q' - c) i' (by omega) (by rw [at_, show c + (q' - c) = q' by omega]; exact e)
    · have e : t.probe hashAt h (stt t.mask h c) = some (.candidate (nth t.mask (stt t.mask h c) q).j i (nth t.mask (stt t.mask h c) (q + 1))) := h5
      rw [e, at_, stt_add]
      rfl
  · refine .inr ⟨fun q' i' l1 l2 e => ?_, ?_⟩
    · exact h4 (q' - c) i' (by omega) (by rw [at_, show c + (q' - c) = q' by omega]; exact e)
    · have e : t.probe hashAt h (stt t.mask h c) = some (.empty (nth t.mask (stt t.mask h c) (K - c)).j none) := h5
      rw [e, at_, show c + (K - c) = K by omega]

/-- the search for a key, adding -/
theorem SetS.search (R : SetS P w s.heap a L es ep t) {x : Addr} {k : List Key} (hx : IsK P w s.heap k x) (hu : A.units < cLine) {K : Nat} (hf : K < 10 * SetTable.turns t.mask)
    (hK : way t.mask (kh P w k) K ∉ t.place.toList) (hb : ∀ q, q < K → way t.mask (kh P w k) q ∈ t.place.toList) {Q : SetFound → Shared → Prop}
    (hin : k ∈ L.map (·.2) → Q (.there none) s) (hout : k ∉ L.map (·.2) → Q (.free (way t.mask (kh P w k) K) false) s) :
    ∀ (n c f : Nat) (stand : Option SetTable.Probe), K - c ≤ n → n < f → c ≤ K → stand.getD (t.probeStart (kh P w k)) = stt t.mask (kh P w k) c →
      (∀ (i : Nat) p, L[i]? = some p → p.2 = k → ∃ q, c ≤ q ∧ q < K ∧ t.place.toList[i]? = some (way t.mask (kh P w k) q)) →
      wpAny (model P w) A (setSearchFrom a (.ref x) (kh P w k) true f stand) Q E s := by
  intro n
  induction n with
  | zero =>
    intro c f stand hn hf' hc hst hre
    have ec : c = K := by omega
    subst ec
    obtain ⟨o, ho, hex, hd⟩ := R.obj
    obtain ⟨f, rfl⟩ : ∃ g, f = g + 1 := ⟨f - 1, by omega⟩
    rw [setSearchFrom_succ]
    refine wpAny_bind (wpAny_setState_of ho hd R.fits ?_)
    dsimp only
    refine wp_if_neg (not_gaveWay R.tab.mok) ?_
    try refine wpAny_bind (wpAny_pure ?_)
    rcases probe_from R.tab.ris R.tab.dm (fun i => (es[i]?.map (·.1)).getD 0) (kh P w k) hf hK hb (Nat.le_refl c) with ⟨q, i, h1, h2, _⟩ | ⟨_, h5⟩
    · omega
    · rw [hst, h5]
      dsimp only
      refine wpAny_pure (hout fun hm => ?_)
      obtain ⟨p, hp, ek⟩ := List.mem_map.mp hm
      obtain ⟨i, hi⟩ := List.mem_iff_getElem?.mp hp
      obtain ⟨q, q1, q2, _⟩ := hre i p hi ek
      omega
  | succ n ih =>
    intro c f stand hn hf' hc hst hre
    obtain ⟨o, ho, hex, hd⟩ := R.obj
    obtain ⟨f, rfl⟩ : ∃ g, f = g + 1 := ⟨f - 1, by omega⟩
    rw [setSearchFrom_succ]
    refine wpAny_bind (wpAny_setState_of ho hd R.fits ?_)
    dsimp only
    refine wp_if_neg (not_gaveWay R.tab.mok) ?_
    try refine wpAny_bind (wpAny_pure ?_)
    have hashAt : ∀ (i : Nat) p, L[i]? = some p → (fun i => (es[i]?.map (·.1)).getD 0) i = kh P w p.2 := fun i p hp => by
      show (es[i]?.map (·.1)).getD 0 = _
      rw [ents_at R.ents hp]
      rfl
    rcases probe_from R.tab.ris R.tab.dm (fun i => (es[i]?.map (·.1)).getD 0) (kh P w k) hf hK hb hc with ⟨q, i, h1, h2, h3, h4, h5, h6⟩ | ⟨h5, h6⟩
    · rw [hst, h6]
      dsimp only
      have hil : i < L.length := by
        have l := (List.getElem?_eq_some_iff.mp h3).1
        rw [Array.length_toList, R.place, ents_size R.ents] at l
        exact l
      obtain ⟨p, hp⟩ : ∃ p, L[i]? = some p := ⟨_, List.getElem?_eq_getElem hil⟩
      have hpm := List.mem_of_getElem? hp
      have hpk := R.keys p hpm
      have rest : wpAny (model P w) A (searchRest a (.ref x) (kh P w k) true f es t (way t.mask (kh P w k) q) i (stt t.mask (kh P w k) (q + 1))) Q E s := by
        unfold searchRest
        rw [ents_at R.ents hp]
        dsimp only
        refine wpAny_bind (wpAny_holding (wpAny_eqBool_tuple hu hpk hx ?_))
        refine wpAny_bind (wpAny_setState_of ho hd R.fits ?_)
        dsimp only
        by_cases ek : p.2 = k
        · exact wp_if_pos (by simp [ek]) (wpAny_pure (hin (List.mem_map.mpr ⟨p, hpm, ek⟩)))
        · refine wp_if_neg (by simp [ek]) ?_
          try refine wpAny_bind (wpAny_pure ?_)
          rw [sameMem]
          dsimp only
          simp only [if_true, slot_live R.tab.ris h3, ents_at R.ents hp]
          refine wpAny_bind (wpAny_isSame_ref_self (wpAny_bind (wpAny_pure ?_)))
          simp only [if_true]
          refine wp_if_neg (by simp [ek]) ?_
          refine ih (q + 1) f _ (by omega) (by omega) (by omega) rfl fun j p' hp' ek' => ?_
          obtain ⟨c', a1, a2, a3⟩ := hre j p' hp' ek'
          refine ⟨c', ?_, a2, a3⟩
          rcases Nat.lt_trichotomy c' q with z | z | z
          · exact absurd ((hashAt j p' hp').trans (congrArg (kh P w) ek')) (h5 c' j a1 z a3)
          · exfalso
            subst z
            have e1 := slot_live R.tab.ris a3
            rw [slot_live R.tab.ris h3] at e1
            injection e1 with e1
            rw [← e1, hp] at hp'
            cases hp'
            exact ek ek'
          · exact z
      by_cases hl : t.led = true
      · refine wp_if_neg (by simp [hl]) ?_
        try refine wpAny_bind (wpAny_pure ?_)
        exact rest
      · refine wp_if_pos (by simp [hl]) ?_
        refine wpAny_bind (key_quiet hx (fun y hy => ?_) ?_)
        · obtain ⟨e, he, ee⟩ := List.mem_map.mp hy
          have he1 : e ∈ es ∧ e.1 = kh P w k := by simpa using he
          have he2 : e ∈ es.toList := by simpa using he1.1
          rw [R.ents] at he2
          obtain ⟨p2, hp2, e2⟩ := List.mem_map.mp he2
          exact ⟨p2.2, p2.1, by rw [← ee, ← e2], R.keys p2 hp2⟩
        · refine wp_if_neg (by decide) ?_
          try refine wpAny_bind (wpAny_pure ?_)
          exact rest
    · rw [hst, h6]
      dsimp only
      refine wpAny_pure (hout fun hm => ?_)
      obtain ⟨p, hp, ek⟩ := List.mem_map.mp hm
      obtain ⟨i, hi⟩ := List.mem_iff_getElem?.mp hp
      obtain ⟨q, q1, q2, q3⟩ := hre i p hi ek
      exact h5 q i q1 q2 q3 ((hashAt i p hi).trans (congrArg (kh P w) ek))
theorem SetS.searchAll (R : SetS P w s.heap a L es ep t) {x : Addr} {k : List Key} (hx : IsK P w s.heap k x) (hu : A.units < cLine) {Q : SetFound → Shared → Prop}
    (hin : k ∈ L.map (·.2) → Q (.there none) s)
    (hout : ∀ K, k ∉ L.map (·.2) → way t.mask (kh P w k) K ∉ t.place.toList → (∀ q, q < K → way t.mask (kh P w k) q ∈ t.place.toList) → Q (.free (way t.mask (kh P w k) K) false) s) :
    wpAny (model P w) A (setSearch a (.ref x) (kh P w k) true) Q E s := by
  obtain ⟨K, hf, hK, hb⟩ := R.tab.first (by rw [List.length_map]; have := R.room; omega) (kh P w k)
  have big : 10 * SetTable.turns t.mask ≤ 1420 := by
    unfold SetTable.turns
    rcases R.tab.mok with e | e | e <;> omega
  unfold setSearch
  refine R.search hx hu hf hK hb hin (fun hn => hout K hn hK hb) K 0 100000 none (by omega) (by omega) (Nat.zero_le _) rfl fun i p hp ek => ?_
  have hi : (L.map fun p => kh P w p.2)[i]? = some (kh P w k) := by rw [List.getElem?_map, hp, ← ek]; rfl
  have hil : i < t.place.toList.length := by
    rw [Array.length_toList, R.place, ents_size R.ents]
    exact (List.getElem?_eq_some_iff.mp hp).1
  have hj := List.getElem?_eq_getElem hil
  obtain ⟨c, hc, e⟩ := R.tab.before hK hi hj
  exact ⟨c, Nat.zero_le _, hc, by rw [hj, e]⟩

/-! ### adding -/
theorem isK_set {h h' : Heap} {k : List Key} {a b : Addr} {o : Obj} (hb : IsK P w h k b) (ho : h.get? a = some o) (hd : o.data = .set es ep t) (hs : Heap.SameBut a h h') : IsK P w h' k b := by
  obtain ⟨o', items, n, ho', r, hd', hi⟩ := hb
  refine ⟨o', items, n, (hs.2 b ?_).trans ho', r, hd', hi⟩
  intro e
  rw [e, ho] at ho'
  cases ho'
  rw [hd] at hd'
  cases hd'
theorem isK_keep {h h' : Heap} {k : List Key} {b : Addr} (x : IsK P w h k b) (hk : ∀ c o, h.get? c = some o → h'.get? c = some o) : IsK P w h' k b := by
  obtain ⟨o, items, n, ho, r⟩ := x
  exact ⟨o, items, n, hk b o ho, r⟩
/-- the entries in another order -/
theorem order_ents (he : es.toList = L.map (ent P w)) (order : Array Nat) (hp : order.toList.Perm (List.range L.length)) :
    ∃ Lb : List (Addr × List Key), (order.filterMap (es[·]?)).toList = Lb.map (ent P w) ∧ Lb.Perm L ∧ (Lb.map fun p => kh P w p.2) = order.toList.map fun i => (es.map (·.1)).getD i 0 := by
  have hsz := ents_size he
  have pick : ∀ l : List Nat, (∀ i ∈ l, i < L.length) → l.filterMap (fun i => es[i]?) = (l.filterMap fun i => L[i]?).map (ent P w) ∧
      ((l.filterMap fun i => L[i]?).map fun p => kh P w p.2) = l.map fun i => (es.map (·.1)).getD i 0 := by
    intro l
    induction l with
    | nil => intro _; exact ⟨rfl, rfl⟩
    | cons i l ih =>
      intro hl
      have hi := hl i List.mem_cons_self
      obtain ⟨e1, e2⟩ := ih fun j hj => hl j (List.mem_cons_of_mem _ hj)
      have g : L[i]? = some L[i] := List.getElem?_eq_getElem hi
      have g2 := ents_at he g
      have g3 : (es.map (·.1)).getD i 0 = kh P w (L[i]).2 := by
        have e5 : (es.map (·.1))[i]? = some (kh P w (L[i]).2) := by rw [Array.getElem?_map, g2]; rfl
        rw [Array.getD_eq_getD_getElem?, e5]
        rfl
      refine ⟨?_, ?_⟩
      · rw [List.filterMap_cons_some g2, List.filterMap_cons_some g, List.map_cons, e1]
      · rw [List.filterMap_cons_some g, List.map_cons, List.map_cons, e2, g3]
  obtain ⟨e1, e2⟩ := pick order.toList fun i hi => List.mem_range.mp (hp.mem_iff.mp hi)
  refine ⟨order.toList.filterMap fun i => L[i]?, by rw [← e1]; exact Array.toList_filterMap, ?_, e2⟩
  have h1 := hp.filterMap (fun i => L[i]?)
  have h2 : (List.range L.length).filterMap (fun i => L[i]?) = L := by
    have : ∀ n, n ≤ L.length → (List.range n).filterMap (fun i => L[i]?) = L.take n := by
      intro n
      induction n with
      | zero => intro _; rfl
      | succ n ih =>
        intro hn
        have hlt : n < L.length := hn
        rw [List.range_succ, List.filterMap_append, ih (Nat.le_of_lt hlt), List.take_succ, List.getElem?_eq_getElem hlt, List.filterMap_cons_some (List.getElem?_eq_getElem hlt)]
        rfl
    rw [this L.length (Nat.le_refl _), List.take_length]
  rw [h2] at h1
  exact h1

/-- the table laid anew -/
theorem relay_ok {o : Obj} (ho : s.heap.get? a = some o) (hex : o.ExactSet) (hd : o.data = .set es ep t) (he : es.toList = L.map (ent P w)) (hsz : t.place.size = es.size) (hdm : t.dummies = #[]) (hfl : es.size ≤ t.mask)
    (nd : (L.map (·.2)).Nodup) (ks : ∀ p ∈ L, IsK P w s.heap p.2 p.1) (ld : w.params.followText "set-order" = true ∨ t.led = true) (few : L.length < 64) {wanted M : Nat}
    (hw : SetTable.sizeAbove wanted - 1 = M) (hM : MaskOk M) (hw2 : SetTable.sizeAbove wanted ≤ 128) (hn : L.length * 5 < M * 3) {Q : Unit → Shared → Prop}
    (hQ : ∀ h' L' es' ep' t', Heap.SameBut a s.heap h' → SetS P w h' a L' es' ep' t' → L'.Perm L → Q () { s with heap := h' }) : wpAny (model P w) A (setRelay a wanted) Q E s := by
  have hsl := ents_size he
  obtain ⟨t', order, e, hp, T, em, el, _, _⟩ := relaid_ok t (hs := es.map (·.1)) (wanted := wanted) hw hM (by rw [Array.size_map, hsl]; omega)
  rw [Array.size_map, hsl] at hp
  obtain ⟨Lb, r1, r2, r3⟩ := order_ents he order hp
  rw [← r3] at T
  have hs2 : (order.filterMap (es[·]?)).size = es.size := by rw [ents_size r1, r2.length_eq, hsl]
  rw [setRelay_eq]
  refine wpAny_bind (wpAny_setState_of ho hd (fits_of hsz hdm hfl) ?_)
  dsimp only
  refine wp_if_neg (by rw [sizeLine_eq]; omega) ?_
  try refine wpAny_bind (wpAny_pure ?_)
  rw [e]
  dsimp only
  refine wpAny_bind ?_
  refine wp_if_neg (by rw [hs2]; simp) ?_
  try refine wpAny_bind (wpAny_pure ?_)
  refine wpAny_pure ?_
  dsimp only
  refine wpAny_storeSet_of ho hd ?_ (by rw [hs2, hsl, sizeLine_eq]; omega)
  have sb : Heap.SameBut a s.heap (s.heap.update a (Obj.putSet (order.filterMap (es[·]?)) t')) := Heap.SameBut.update ..
  refine hQ _ Lb (order.filterMap (es[·]?)) (ep + 1) t' sb ⟨⟨_, store_at ho hd, ⟨hex.1, hex.2.1, hex.2.2⟩, rfl⟩, r1, T, (r2.map (·.2)).nodup_iff.mpr nd,
    fun p hpm => isK_set (ks p (r2.mem_iff.mp hpm)) ho hd sb, by rw [el]; exact ld, by rw [r2.length_eq, em]; exact hn, by rw [r2.length_eq]; exact few⟩ r2
end
end L2.SR
/-! Sets of tuples of ints and texts: adding, set(list). -/
namespace L2.SR
open PySem PySem.Spec PyProof.Rows
section
variable {P : Program} {w : World} {A : Around} {E : Value → Shared → Prop} {s : Shared}
variable {a : Addr} {L : List (Addr × List Key)} {es : Array (Int × Value)} {ep : Nat} {t : SetTable}

theorem tab_plain {hs : List Int} (T : TabOk t hs) (c : Bool) : TabOk (if c = true then t else { t with plain := false }) hs := by
  cases c
  · exact ⟨T.ris, T.dm, T.sz, T.mok, T.bd, T.reach⟩
  · exact T

/-- the table behind an addition: stored, or laid anew -/
theorem added_ok {o : Obj} {x : Addr} {k : List Key} (ho : s.heap.get? a = some o) (hex : o.ExactSet) (hd : o.data = .set es ep t) {L1 : List (Addr × List Key)} {es1 : Array (Int × Value)} {t1 : SetTable}
    (he : es1.toList = L1.map (ent P w)) (T : TabOk t1 (L1.map fun p => kh P w p.2)) (nd : (L1.map (·.2)).Nodup) (ks : ∀ p ∈ L1, IsK P w s.heap p.2 p.1) (ld : w.params.followText "set-order" = true ∨ t1.led = true)
    (few : L1.length < 64) (room : L1.length * 5 < t1.mask * 3 ∨ (t1.mask = 7 ∧ L1.length = 5) ∨ (t1.mask = 31 ∧ L1.length = 19)) {Q : Bool → Shared → Prop}
    (hQ : ∀ h' L' es' ep' t', Heap.SameBut a s.heap h' → SetS P w h' a L' es' ep' t' → L'.Perm L1 → Q true { s with heap := h' }) :
    wpAny (model P w) A (storeSet a es1 t1) (fun _ s' => wpAny (model P w) A (if (!false && t1.tooFull) = true then (do setRelay a (SetTable.grown es1.size); pure true) else pure true) Q E s') E s := by
  have hsz := ents_size he
  refine wpAny_storeSet_of ho hd ?_ (by rw [hsz, sizeLine_eq]; omega)
  have sb : Heap.SameBut a s.heap (s.heap.update a (Obj.putSet es1 t1)) := Heap.SameBut.update ..
  have ho1 := store_at (es' := es1) (t' := t1) ho hd
  generalize s.heap.update a (Obj.putSet es1 t1) = h1 at sb ho1 ⊢
  have ks1 : ∀ p ∈ L1, IsK P w h1 p.2 p.1 := fun p hp => isK_set (ks p hp) ho hd sb
  have psz : t1.place.size = es1.size := by
    have h := T.sz
    rw [List.length_map] at h
    rw [hsz]
    exact h
  have fill : t1.fill = L1.length := by
    show t1.place.size + t1.dummies.size = _
    rw [psz, hsz, T.dm]
    rfl
  have full_iff : t1.tooFull = true ↔ L1.length * 5 ≥ t1.mask * 3 := by
    unfold SetTable.tooFull
    rw [decide_eq_true_eq, fill]
  by_cases hf : t1.tooFull = true
  · refine wp_if_pos (by simp [hf]) ?_
    refine wpAny_bind ?_
    have hfull := full_iff.mp hf
    have go : ∀ M, SetTable.sizeAbove (SetTable.grown L1.length) - 1 = M → MaskOk M → SetTable.sizeAbove (SetTable.grown L1.length) ≤ 128 → L1.length * 5 < M * 3 → es1.size ≤ t1.mask →
        wpAny (model P w) A (setRelay a (SetTable.grown es1.size)) (fun _ s' => wpAny (model P w) A (pure true) Q E s') E { s with heap := h1 } := fun M h1' h2' h3' h4' h5' => by
      rw [hsz]
      refine relay_ok (s := { s with heap := h1 }) ho1 ⟨hex.1, hex.2.1, hex.2.2⟩ rfl he psz T.dm h5' nd ks1 ld few h1' h2' h3' h4' ?_
      intro h2 Lb es2 ep2 t2 sb2 R2 pm2
      exact wpAny_pure (hQ h2 Lb es2 ep2 t2 (sb.trans sb2) R2 pm2)
    rcases room with r | ⟨e1, e2⟩ | ⟨e1, e2⟩
    · omega
    · exact go 31 (by rw [e2, size_20]) (.inr (.inl rfl)) (by rw [e2, size_20]; decide) (by omega) (by omega)
    · exact go 127 (by rw [e2, size_76]) (.inr (.inr rfl)) (by rw [e2, size_76]; decide) (by omega) (by omega)
  · have r : L1.length * 5 < t1.mask * 3 := by
      rcases Nat.lt_or_ge (L1.length * 5) (t1.mask * 3) with h | h
      · exact h
      · exact absurd (full_iff.mpr h) hf
    refine wp_if_neg (by simp [hf]) ?_
    exact wpAny_pure (hQ h1 L1 es1 (ep + 1) t1 sb ⟨⟨_, ho1, ⟨hex.1, hex.2.1, hex.2.2⟩, rfl⟩, he, T, nd, ks1, ld, r, few⟩ (List.Perm.refl _))

/-- adding a key -/
theorem SetS.add (R : SetS P w s.heap a L es ep t) {x : Addr} {k : List Key} (hx : IsK P w s.heap k x) (hu : A.units < cLine) (hfew : L.length + 1 < 64) {Q : Bool → Shared → Prop}
    (hQ : ∀ b h' L' es' ep' t', Heap.SameBut a s.heap h' → SetS P w h' a L' es' ep' t' → (k ∈ L.map (·.2) → L' = L) → (k ∉ L.map (·.2) → L'.Perm ((x, k) :: L)) → Q b { s with heap := h' }) :
    wpAny (model P w) A (setAddHashed a (.ref x) (kh P w k)) Q E s := by
  obtain ⟨o, ho, hex, hd⟩ := R.obj
  have hroom := R.room
  unfold setAddHashed
  refine wpAny_holding ?_
  rw [show (100000 : Nat) = 99999 + 1 from rfl, setAddHashedIn_succ]
  refine wpAny_bind (wpAny_setState_of ho hd R.fits ?_)
  dsimp only
  refine wp_if_neg (by simp [byScan, Value.scannable]) ?_
  try refine wpAny_bind (wpAny_pure ?_)
  refine wpAny_bind (R.searchAll hx hu (fun hm => ?there) fun K hm hK hb => ?free)
  case there =>
    dsimp only
    exact wpAny_pure (hQ false s.heap L es ep t (Heap.SameBut.refl a s.heap) R (fun _ => rfl) fun z => absurd hm z)
  case free =>
    dsimp only
    refine wpAny_bind (wpAny_setState_of ho hd R.fits ?_)
    dsimp only
    obtain ⟨q1, q2, q3, q4, q5, _, _, _, _⟩ := R.tab.put hK hb
    generalize hpt : t.put (way t.mask (kh P w k) K) = pt at q1 q3 q4 q5 ⊢
    obtain ⟨t1, p⟩ := pt
    dsimp only at q1 q3 q4 q5 ⊢
    rw [← q1] at q2 q3
    -- what is stored
    have pm : (L.take p ++ (x, k) :: L.drop p).Perm ((x, k) :: L) := by
      have h : (L.take p ++ (x, k) :: L.drop p).Perm ((x, k) :: (L.take p ++ L.drop p)) := List.perm_middle
      rw [List.take_append_drop] at h
      exact h
    have he : (SetTable.insertAt es p (kh P w k, Value.ref x)).toList = (L.take p ++ (x, k) :: L.drop p).map (ent P w) := by
      rw [SetTable.toList_insertAt, R.ents, List.map_append, List.map_cons, List.map_take, List.map_drop]
    have hT : (L.take p ++ (x, k) :: L.drop p).map (fun p => kh P w p.2) = (L.map fun p => kh P w p.2).take p ++ kh P w k :: (L.map fun p => kh P w p.2).drop p := by
      rw [List.map_append, List.map_cons, List.map_take, List.map_drop]
    rw [← hT] at q3
    have nd1 : ((L.take p ++ (x, k) :: L.drop p).map (·.2)).Nodup := by
      refine (pm.map (·.2)).nodup_iff.mpr ?_
      rw [List.map_cons]
      exact List.nodup_cons.mpr ⟨hm, R.nodup⟩
    have hlen : (L.take p ++ (x, k) :: L.drop p).length = L.length + 1 := pm.length_eq
    have ks1 : ∀ q ∈ L.take p ++ (x, k) :: L.drop p, IsK P w s.heap q.2 q.1 := fun q hq => by
      rcases List.mem_cons.mp (pm.mem_iff.mp hq) with e | hq
      · rw [e]; exact hx
      · exact R.keys q hq
    have esz : es.size + 1 = (SetTable.insertAt es p (kh P w k, Value.ref x)).size := by
      rw [ents_size he, hlen, ents_size R.ents]
    generalize SetTable.insertAt es p (kh P w k, Value.ref x) = es1 at he esz ⊢
    generalize L.take p ++ (x, k) :: L.drop p = L1 at pm hlen q3 nd1 he ks1
    have fin : ∀ c : Bool, wpAny (model P w) A (storeSet a es1 (if c = true then t1 else { t1 with plain := false })) (fun _ s' => wpAny (model P w) A (if (!false && (if c = true then t1 else { t1 with plain := false }).tooFull) = true then (do setRelay a (SetTable.grown es1.size); pure true) else pure true) Q E s') E s := by
      intro c
      have em : (if c = true then t1 else { t1 with plain := false }).mask = t.mask := by cases c <;> exact q4
      have el : (if c = true then t1 else { t1 with plain := false }).led = t.led := by cases c <;> exact q5
      refine added_ok (x := x) (k := k) ho hex hd he (tab_plain q3 c) nd1 ks1 (by rw [el]; exact R.led) (by omega) ?_ fun h' L' es' ep' t' sb R' pm' => hQ true h' L' es' ep' t' sb R' (fun z => absurd z hm) fun _ => pm'.trans pm
      rw [em, hlen]
      rcases R.tab.mok with e | e | e
      · rw [e] at hroom ⊢; omega
      · rw [e] at hroom ⊢; omega
      · rw [e] at hroom ⊢; omega
    rw [esz]
    by_cases hp : t1.plain = true
    · exact wp_if_pos hp (wpAny_bind (key_byValue hx fun c => wpAny_bind (fin c)))
    · exact wp_if_neg hp (wpAny_bind (wpAny_pure (wpAny_bind (fin true))))

/-! ### set(list) -/
/-- what has come of the first i items -/
structure Come (ks : List (Addr × List Key)) (i : Nat) (L : List (Addr × List Key)) : Prop where
  sub : ∀ p ∈ L, p ∈ ks.take i
  all : ∀ p ∈ ks.take i, p.2 ∈ L.map (·.2)
  len : L.length ≤ i
theorem Come.next {ks : List (Addr × List Key)} {i : Nat} {L L' : List (Addr × List Key)} {x : Addr × List Key} (g : Come ks i L) (hx : ks[i]? = some x)
    (c1 : x.2 ∈ L.map (·.2) → L' = L) (c2 : x.2 ∉ L.map (·.2) → L'.Perm (x :: L)) : Come ks (i + 1) L' := by
  have tk : ks.take (i + 1) = ks.take i ++ [x] := by rw [List.take_succ, hx]; rfl
  by_cases m : x.2 ∈ L.map (·.2)
  · rw [c1 m]
    refine ⟨fun p hp => by rw [tk]; exact List.mem_append_left _ (g.sub p hp), fun p hp => ?_, Nat.le_succ_of_le g.len⟩
    rw [tk] at hp
    rcases List.mem_append.mp hp with h | h
    · exact g.all p h
    · rw [List.mem_singleton.mp h]; exact m
  · have pm := c2 m
    refine ⟨fun p hp => ?_, fun p hp => ?_, by rw [pm.length_eq, List.length_cons]; exact Nat.succ_le_succ g.len⟩
    · rw [tk]
      rcases List.mem_cons.mp (pm.mem_iff.mp hp) with e | h
      · rw [e]; exact List.mem_append_right _ (List.mem_singleton.mpr rfl)
      · exact List.mem_append_left _ (g.sub p h)
    · rw [(pm.map (·.2)).mem_iff, List.map_cons]
      rw [tk] at hp
      rcases List.mem_append.mp hp with h | h
      · exact List.mem_cons_of_mem _ (g.all p h)
      · rw [List.mem_singleton.mp h]; exact List.mem_cons_self
theorem SetS.keep {h h' : Heap} (R : SetS P w h a L es ep t) (ha : ∀ o, h.get? a = some o → h'.get? a = some o) (hk : ∀ p ∈ L, IsK P w h' p.2 p.1) : SetS P w h' a L es ep t := by
  obtain ⟨o, ho, r⟩ := R.obj
  exact ⟨⟨o, ha o ho, r⟩, R.ents, R.tab, R.nodup, hk, R.led, R.room, R.few⟩
theorem set_new {h : Heap} {a : Addr} (ho : h.get? a = some { cls := .type "set", dict := none, data := .set #[] 0 (.fresh 0 0 (!w.params.followText "set-order")) }) :
    SetS P w h a [] #[] 0 (.fresh 0 0 (!w.params.followText "set-order")) := by
  refine ⟨⟨_, ho, ⟨rfl, rfl, rfl⟩, rfl⟩, rfl, ⟨List.Pairwise.nil, rfl, rfl, .inl rfl, (fun x hx => by cases hx), (fun i h j hi => by simp at hi)⟩, List.nodup_nil, (fun p hp => by cases hp), ?_, ?_, ?_⟩
  · show _ ∨ (!w.params.followText "set-order") = true
    cases w.params.followText "set-order"
    · exact .inr rfl
    · exact .inl rfl
  · show 0 * 5 < 7 * 3
    decide
  · show 0 < 64
    decide

/-- the loop of set.update -/
theorem update_go {I : Addr} {fp wr : List Addr} {G : Array GenState → Array GenState → Prop} {n : Nat} {Pv : Nat → Value → Prop} {St : Nat → Shared → Prop} {R : Result → Shared → Prop}
    (W : WalksS P w A.in1 I fp wr G n Pv St) (S : Addr) (hSf : S ∉ fp) (ks : List (Addr × List Key)) (hn : n = ks.length) (hfew : ks.length < 64) (hval : ∀ i v, Pv i v → ∃ p, ks[i]? = some p ∧ v = .ref p.1)
    (h0 : Heap) (hk : ∀ p ∈ ks, IsK P w h0 p.2 p.1) (hS0 : h0.get? S = none) (hw0 : ∀ b ∈ wr, h0.get? b = none) (hu : A.in1.units < cLine) :
    ∀ (k i : Nat) (s : Shared), n - i = k → i ≤ n → St i s → (∀ b o, h0.get? b = some o → s.heap.get? b = some o) → (∃ L es ep t, SetS P w s.heap S L es ep t ∧ Come ks i L) →
      (∀ s' L es ep t, Moved (S :: wr) G s s' → SetS P w s'.heap S L es ep t → Come ks n L → (∀ b o, h0.get? b = some o → s'.heap.get? b = some o) → R (.ok (.ret .none)) s') →
      codeAny (model P w) A (.builtin "set.update.loop" ⟨[.ref S, .ref I], []⟩) R s := by
  have hSw : S ∉ wr := fun h => hSf (W.sub _ h)
  have up : ∀ b ∈ wr, b ∈ S :: wr := fun b hb => List.mem_cons_of_mem _ hb
  have over : ∀ {s s' : Shared}, Moved wr G s s' → (∀ b o, h0.get? b = some o → s.heap.get? b = some o) → ∀ b o, h0.get? b = some o → s'.heap.get? b = some o := fun hm hkp b o e =>
    hm.heap b o (fun hb => by rw [hw0 b hb] at e; cases e) (hkp b o e)
  have inks : ∀ {i : Nat} {L : List (Addr × List Key)}, Come ks i L → ∀ p ∈ L, p ∈ ks := fun g p hp => List.mem_of_mem_take (g.sub p hp)
  intro k
  induction k with
  | zero =>
    rintro i s hk' hi hst hkp ⟨L, es, ep, t, hS, g⟩ hR
    have hin : i = n := by omega
    subst hin
    refine codeAny_builtin F.entry_set_update_loop ?_
    rw [Around.under_plainId F.plain_set_update_loop _]
    show wpAny _ A.in1 (pyNext (.ref I) >>= _) _ _ s
    refine wpAny_bind (W.done s _ _ hst fun s' hm => ?_)
    show wpAny _ A.in1 (ret Value.none) _ _ s'
    have hkp' := over hm hkp
    exact wpAny_pure (hR s' L es ep t (hm.mono up) (hS.keep (fun o e => hm.heap S o hSw e) fun p hp => isK_keep (hk p (inks g p hp)) hkp') g hkp')
  | succ k ih =>
    rintro i s hk' hi hst hkp ⟨L, es, ep, t, hS, g⟩ hR
    have hlt : i < n := by omega
    refine codeAny_builtin F.entry_set_update_loop ?_
    rw [Around.under_plainId F.plain_set_update_loop _]
    show wpAny _ A.in1 (pyNext (.ref I) >>= _) _ _ s
    refine wpAny_bind (W.item i s _ _ hlt hst fun v s' hP hst' hm => ?_)
    obtain ⟨p, hp, rfl⟩ := hval i v hP
    have hkp' := over hm hkp
    have hS' : SetS P w s'.heap S L es ep t := hS.keep (fun o e => hm.heap S o hSw e) fun q hq => isK_keep (hk q (inks g q hq)) hkp'
    have hx : IsK P w s'.heap p.2 p.1 := isK_keep (hk p (List.mem_of_getElem? hp)) hkp'
    show wpAny _ A.in1 (holding [Value.ref p.1] (setAdd S (.ref p.1)) >>= _) _ _ s'
    refine wpAny_bind (wpAny_holding ?_)
    unfold setAdd
    refine wpAny_holding ?_
    refine wpAny_bind (wpAny_pyHash_tuple hu hx ?_)
    refine SetS.add (s := { s' with toks := s'.toks + (p.2.length + 1) }) hS' hx hu (by have := g.len; omega) fun b h' L' es' ep' t' sb R2 c1 c2 => ?_
    have g' := g.next hp c1 c2
    have hkp2 : ∀ b o, h0.get? b = some o → h'.get? b = some o := fun b o e => (sb.2 b (fun z => by rw [z, hS0] at e; cases e)).trans (hkp' b o e)
    refine wpAny_pure ⟨plainId_quiet F.plain_set_update_loop _, ih (i + 1) _ (by omega) hlt (W.frame _ s' _ _ hst' (Nat.le_add_right _ _) fun b hb o e => ?_) hkp2 ⟨L', es', ep', t', R2, g'⟩ fun s2 La esa epa ta hm2 R3 g3 hkp3 => ?_⟩
    · exact (sb.2 b (fun z => hSf (z ▸ hb))).trans e
    · refine hR s2 La esa epa ta (Moved.trans W.gtrans ((hm.mono up).then_heap (Nat.le_add_right _ _) fun b o hb e => ?_) hm2) R3 g3 hkp3
      exact (sb.2 b (fun z => hb (by rw [z]; exact List.mem_cons_self))).trans e
end
end L2.SR
/-! Pairs of texts in Python's order; sorting them. -/
namespace L2.SR
open PySem PySem.Spec PyProof.Rows

abbrev Pr := Str × Str
def prKey (p : Pr) : List Key := [.inr p.1, .inr p.2]
theorem prKey_inj {p q : Pr} (h : prKey p = prKey q) : p = q := by
  unfold prKey at h
  injection h with h1 h2
  injection h2 with h2 _
  injection h1 with h1
  injection h2 with h2
  exact Prod.ext h1 h2
def prDat (p : Pr) : PyData := .tuple [.str p.1, .str p.2]
def prToks (p : Pr) : List (Int ⊕ List Nat) := PySem.W.keyToks (prDat p)
theorem prToks_eq (p : Pr) : prToks p = [.inl 1, .inr p.1.cps.toList, .inl 1, .inr p.2.cps.toList, .inl 0] := by
  unfold prToks prDat
  simp [PySem.W.keyToks, PySem.W.keyToksAll]
theorem prToks_inj {p q : Pr} (h : prToks p = prToks q) : p = q := by
  rw [prToks_eq, prToks_eq] at h
  simp only [List.cons.injEq, Sum.inr.injEq, true_and, and_true] at h
  exact Prod.ext (PySem.W.str_of_cps h.1) (PySem.W.str_of_cps h.2)
def prLe (p q : Pr) : Bool := PySem.W.sortLe (listOrd itemOrd) false prToks p q
theorem prLe_total : PySem.W.TotalLe prLe := PySem.W.sortLe_total (listOrd itemOrd) false prToks
theorem prLe_anti {p q : Pr} (h1 : prLe p q = true) (h2 : prLe q p = true) : p = q := by
  have e1 : lexLt itemOrd (prToks q) (prToks p) = false := by
    have : (!lexLt itemOrd (prToks q) (prToks p)) = true := h1
    simpa using this
  have e2 : lexLt itemOrd (prToks p) (prToks q) = false := by
    have : (!lexLt itemOrd (prToks p) (prToks q)) = true := h2
    simpa using this
  exact prToks_inj (lex_total _ _ e2 e1)
def srtP (l : List Pr) : List Pr := l.mergeSort prLe
theorem srtP_perm (l : List Pr) : (srtP l).Perm l := List.mergeSort_perm l prLe
theorem srtP_sorted (l : List Pr) : (srtP l).Pairwise (fun a b => prLe a b = true) := PySem.W.sort_pairwise prLe_total l
theorem sorted_unique : ∀ {l m : List Pr}, l.Pairwise (fun a b => prLe a b = true) → m.Pairwise (fun a b => prLe a b = true) → l.Perm m → l = m
  | [], m, _, _, h => (List.Perm.nil_eq h)
  | x :: l, [], _, _, h => by
    have := h.length_eq
    simp at this
  | x :: l, y :: m, hl, hm, h => by
    have exy : x = y := by
      have a1 : x ∈ y :: m := h.mem_iff.mp List.mem_cons_self
      have a2 : y ∈ x :: l := h.mem_iff.mpr List.mem_cons_self
      rcases List.mem_cons.mp a1 with e | a1
      · exact e
      · rcases List.mem_cons.mp a2 with e | a2
        · exact e.symm
        · exact prLe_anti ((List.pairwise_cons.mp hl).1 y a2) ((List.pairwise_cons.mp hm).1 x a1)
    subst exy
    rw [sorted_unique (List.pairwise_cons.mp hl).2 (List.pairwise_cons.mp hm).2 (List.Perm.cons_inv h)]
theorem srtP_congr {l m : List Pr} (h : l.Perm m) : srtP l = srtP m := sorted_unique (srtP_sorted l) (srtP_sorted m) ((srtP_perm l).trans (h.trans (srtP_perm m).symm))
theorem srtP_of {l m : List Pr} (h : l.Pairwise (fun a b => prLe a b = true)) (p : l.Perm m) : srtP m = l := sorted_unique (srtP_sorted m) h ((srtP_perm m).trans p.symm)
theorem srtP_again (l : List Pr) : srtP (srtP l) = srtP l := srtP_congr (srtP_perm l)
/-- each once -/
def once : List Pr → List Pr
  | [] => []
  | x :: l => if x ∈ l then once l else x :: once l
theorem mem_once : ∀ {l : List Pr} {x : Pr}, x ∈ once l ↔ x ∈ l
  | [], _ => Iff.rfl
  | y :: l, x => by
    unfold once
    by_cases h : y ∈ l
    · rw [if_pos h, mem_once, List.mem_cons]
      exact ⟨.inr, fun z => z.elim (fun e => e ▸ h) id⟩
    · rw [if_neg h, List.mem_cons, List.mem_cons, mem_once]
theorem nodup_once : ∀ l : List Pr, (once l).Nodup
  | [] => List.nodup_nil
  | y :: l => by
    unfold once
    by_cases h : y ∈ l
    · rw [if_pos h]; exact nodup_once l
    · rw [if_neg h]
      exact List.nodup_cons.mpr ⟨fun z => h (mem_once.mp z), nodup_once l⟩
theorem once_of {l m : List Pr} (hl : l.Nodup) (h : ∀ x, x ∈ l ↔ x ∈ m) : l.Perm (once m) :=
  (List.perm_ext_iff_of_nodup hl (nodup_once m)).mpr fun x => (h x).trans mem_once.symm
/-- sorted(set(..)) -/
def setP (l : List Pr) : List Pr := srtP (once l)
theorem setP_congr {l m : List Pr} (h : ∀ x, x ∈ l ↔ x ∈ m) : setP l = setP m :=
  srtP_congr (once_of (nodup_once l) fun x => mem_once.trans (h x))
theorem setP_nodup (l : List Pr) : (setP l).Nodup := (srtP_perm _).nodup_iff.mpr (nodup_once l)
theorem mem_setP {l : List Pr} {x : Pr} : x ∈ setP l ↔ x ∈ l := (srtP_perm _).mem_iff.trans mem_once
theorem setP_again (l : List Pr) : setP (setP l) = setP l := setP_congr fun _ => mem_setP
theorem setP_srt {l : List Pr} (h : l.Nodup) : setP (srtP l) = srtP l := by
  have : (once (srtP l)).Perm l := (once_of ((srtP_perm l).nodup_iff.mpr h) fun x => Iff.rfl).symm.trans (srtP_perm l)
  exact srtP_congr this

/-! ### read off the heap -/
section
variable {prog : Program} {w : World} {A : Around} {s : Shared}
theorem reads_pr {h : Heap} {b : Addr} {p : Pr} {its : List Value} (hT : IsTup h b its.toArray) (r : Vals [V.str p.1, V.str p.2] its) : PySem.Reads h (.ref b) (prDat p) [] := by
  cases r with
  | cons r1 r2 =>
    cases r2 with
    | cons r2 r3 =>
      cases r3
      obtain ⟨t1, rfl⟩ := r1
      obtain ⟨t2, rfl⟩ := r2
      obtain ⟨o, ho, hc, n, hd⟩ := hT
      exact .tuple ho hc hd (.cons (.str _ _) (.cons (.str _ _) .nil))
theorem pr_alike (ps : List Pr) : PySem.W.AllAlike (ps.map prDat) := by
  intro d hd d' hd'
  obtain ⟨p, _, rfl⟩ := List.mem_map.mp hd
  obtain ⟨q, _, rfl⟩ := List.mem_map.mp hd'
  simp [prDat, PySem.W.alike, PySem.W.alikeAll]
theorem pr_sortable (ps : List Pr) : PySem.W.Sortable (ps.map prDat) := by
  refine .inl fun d hd => ?_
  obtain ⟨p, _, rfl⟩ := List.mem_map.mp hd
  exact ⟨_, _, rfl⟩
theorem pr_depth (ps : List Pr) : ∀ d ∈ ps.map prDat, d.depth ≤ 3 := by
  intro d hd
  obtain ⟨p, _, rfl⟩ := List.mem_map.mp hd
  simp [prDat, PyData.depth, PyData.depthAll]
theorem each_map {α β γ : Type} {R : α → γ → Prop} {f : β → γ} : ∀ {as : List α} {bs : List β}, PySem.W.EachIs (fun a b => R a (f b)) as bs → PySem.W.EachIs R as (bs.map f)
  | _, _, .nil => .nil
  | _, _, .cons h t => .cons h (each_map t)
/-- values that read as pairs of texts can be sorted; what comes -/
theorem sortsAt_pr {vs : List Value} {ps : List Pr} (e : PySem.W.EachIs (fun v p => PySem.Reads s.heap v (prDat p) []) vs ps) (hu : A.units + 3 < cLine) :
    PySem.W.SortsAt prog w A s (PySem.W.dataKind s.heap (ps.map prDat)) vs :=
  PySem.W.SortsAt.data (each_map (e.mono fun v p h => ⟨[], h⟩)) (pr_alike ps) (pr_sortable ps) fun d hd => by
    have := pr_depth ps d hd
    omega
theorem sortVals_pr {R : Value → Pr → Prop} {h : Heap} {vs : List Value} {ps : List Pr} (e : PySem.W.EachIs (fun v p => PySem.Reads h v (prDat p) []) vs ps) (eR : PySem.W.EachIs R vs ps) :
    PySem.W.EachIs R (PySem.W.sortVals (PySem.W.dataKind h (ps.map prDat)) false vs vs) (srtP ps) := by
  have key : PySem.W.EachIs (fun v p => (PySem.W.dataKind h (ps.map prDat)).keyOf v = some (prToks p)) vs ps := by
    refine (PySem.W.each_mem e).mono fun v p q => ?_
    exact PySem.W.dataKind_some (pr_alike ps) (List.mem_map.mpr ⟨p, q.2, rfl⟩) q.1
  exact PySem.W.sortVals_each (κ := PySem.W.dataKind h (ps.map prDat)) (rev := false) prToks eR key
end
end L2.SR
/-! set(list of tuples), sorted(set(..)), sorted(dict of tuple keys). -/
namespace L2.SR
open PySem PySem.Spec PyProof.Rows
section
variable {P : Program} {w : World} {A : Around} {E : Value → Shared → Prop} {s : Shared}

/-- the set that set() makes first -/
abbrev bareSet (w : World) : Obj := { cls := .type "set", dict := none, data := .set #[] 0 (.fresh 0 0 (!w.params.followText "set-order")) }
set_option maxHeartbeats 3200000 in
theorem call_set_keys {l : Addr} {items : Array Value} (ks : List (Addr × List Key)) {Q : Value → Shared → Prop} (hh : A.handled = none) (hl : s.heap.IsList l items) (hit : items.toList = ks.map fun p => Value.ref p.1)
    (hk : ∀ p ∈ ks, IsK P w s.heap p.2 p.1) (hfew : ks.length < 64) (hu : A.units + 3 < cLine)
    (h : ∀ (h' : Heap) (tk : Nat) L es ep t, SetS P w h' s.heap.objs.size L es ep t → Come ks ks.length L → (∀ b o, s.heap.get? b = some o → h'.get? b = some o) → Q (.ref s.heap.objs.size) { s with heap := h', toks := tk }) :
    wpAny (model P w) A (call (.type "set") [.ref l]) Q E s := by
  have isz : items.size = ks.length := by
    rw [← Array.length_toList, hit, List.length_map]
  obtain ⟨c, tl, hmro⟩ := F.called_set.mro
  have hmade := F.called_set.made
  have hsub := F.called_set.sub
  refine wpAny_call (codeAny_of_tree ?_)
  show wpAny _ _ (callAny (.type "set") _) _ _ _
  refine wpAny_pure ⟨Code.quiet_builtin _ (by decide +kernel), codeAny_builtin F.entry_type_call ?_⟩
  rw [Around.under_plain (weight_type_call_type "set" [.ref l] []) rfl]
  have h1 := F.called_set.notType
  have h2 := F.called_set.canCreate
  have hct := F.typeCall_set_1 (.ref l)
  repeat (any_goals (first | assumption | wp_step))
  refine codeAny_mono (code_set_led1 (.ref l) (E := E) (Q₁ := fun obj s₁ => obj = .ref s.heap.objs.size ∧ s₁ = { s with heap := s.heap.push (bareSet w) }) ⟨rfl, rfl⟩) fun r s₁ hr => ?_
  cases r with
  | error e => exact hr
  | ok fl =>
    cases fl with
    | ret obj =>
      obtain ⟨rfl, rfl⟩ := hr
      have hS : (s.heap.push (bareSet w)).get? s.heap.objs.size = some (bareSet w) := Heap.get?_push_size _ rfl
      have hT : Shared.TypeIs { s with heap := s.heap.push (bareSet w) } (.ref s.heap.objs.size) "set" := ⟨_, hS, rfl⟩
      have hli := F.called_set.init.lookup
      have hbi := F.called_set.init.bind (.ref s.heap.objs.size)
      repeat (any_goals (first | assumption | wp_step))
      refine codeAny_mono (codeAny_call_builtin (R := wants (fun r s₂ => r = .none ∧ ∃ h' tk L es ep t, s₂ = { s with heap := h', toks := tk } ∧ SetS P w h' s.heap.objs.size L es ep t ∧ Come ks ks.length L ∧
          (∀ b o, s.heap.get? b = some o → h'.get? b = some o)) E) F.called_set.init.plain F.entry_set_init (check_set_init_1 hT ?_)) fun r₂ s₂ hr₂ => ?_
      · obtain ⟨ol, hol, hcl, nl, hdl⟩ := hl
        obtain ⟨ocls, odict, odata, oslots⟩ := ol
        simp only at hcl hdl
        subst hcl; subst hdl
        have hol' : (s.heap.push (bareSet w)).get? l = some { cls := .type "list", dict := odict, data := .seq items nl, slots := oslots } := Heap.get?_push_of_some _ hol
        have hsls := F.sub_list_set
        have hslf := F.sub_list_frozenset
        have hne : (Value.type "list" == Value.type "dict") = false := by decide
        have hl1 : (s.heap.push (bareSet w)).IsList l items := ⟨_, hol', rfl, nl, rfl⟩
        unfold Builtin.«set.__init__» noKeywords Builtin.Frozenset.updateFrom
        generalize hPI : pyIter = PI
        wp_walk
        subst hPI
        refine wpAny_pyIter_list hl1 ?_
        refine wpAny_bind (wpAny_runValue ?_)
        have hlS : l < s.heap.objs.size := Heap.lt_size hol
        have hh3 : A.in1.in1.in1.handled = none := by simp [hh]
        have sz : (s.heap.push (bareSet w)).objs.size = s.heap.objs.size + 1 := Heap.size_push ..
        have hneI : l ≠ (s.heap.push (bareSet w)).objs.size := by rw [sz]; exact Nat.ne_of_lt (Nat.lt_succ_of_lt hlS)
        have hSf : s.heap.objs.size ∉ [(s.heap.push (bareSet w)).objs.size, l] := by
          rw [sz]
          simp only [List.mem_cons, List.not_mem_nil, or_false, not_or]
          exact ⟨Nat.ne_of_lt (Nat.lt_succ_self _), Nat.ne_of_gt hlS⟩
        have hval : ∀ (i : Nat) (v : Value), items[i]? = some v → ∃ p, ks[i]? = some p ∧ v = .ref p.1 := fun i v hv => by
          have q : items.toList[i]? = some v := by rw [Array.getElem?_toList]; exact hv
          rw [hit, List.getElem?_map] at q
          obtain ⟨p, hp, e⟩ := Option.map_eq_some_iff.mp q
          exact ⟨p, hp, e.symm⟩
        have none_of : ∀ b, s.heap.objs.size ≤ b → s.heap.get? b = none := fun b hb => Heap.get?_none_of_le hb
        refine update_go ((Walks.list hh3 _ l hneI items).toS) s.heap.objs.size
          hSf ks isz hfew hval s.heap hk (none_of _ (Nat.le_refl _)) (fun b hb => none_of b (by rw [List.mem_singleton.mp hb, sz]; exact Nat.le_succ _)) hu (items.size - 0) 0 _ (by omega) (Nat.zero_le _)
          ⟨⟨_, Heap.get?_push_size _ rfl, rfl, rfl⟩, (hl1.push _)⟩ (fun b o e => Heap.get?_push_of_some _ (Heap.get?_push_of_some _ e)) ?hS0 ?hR
        case hS0 =>
          have hget : ((s.heap.push (bareSet w)).push { cls := .type "list_iterator", data := .fields #[.ref l, .int 0 0] }).get? s.heap.objs.size = some (bareSet w) := Heap.get?_push_of_some _ hS
          exact ⟨[], #[], 0, _, set_new hget, ⟨(fun p hp => by cases hp), (fun p hp => by simp at hp), Nat.le_refl _⟩⟩
        case hR =>
          intro s' L es ep t hm hS' g' hkp
          obtain ⟨h', g2, d', tk', os'⟩ := s'
          have eg : g2 = s.gens := hm.gens
          have ed : d' = s.drawn := hm.drawn
          have eo : os' = s.os := hm.os
          subst eg; subst ed; subst eo
          show wpAny _ _ _ _ _ _
          refine wpAny_pure ?_
          show wpAny _ _ (ret Value.none) _ _ _
          rw [isz] at g'
          exact wpAny_pure ⟨rfl, h', tk', L, es, ep, t, rfl, hS', g', hkp⟩
      · cases r₂ with
        | error e => exact hr₂
        | ok fl₂ =>
          cases fl₂ with
          | ret r =>
            obtain ⟨rfl, h', tk, L, es, ep, t, rfl, hS', g', hk'⟩ := hr₂
            repeat (any_goals (first | assumption | wp_step))
            exact h _ _ _ _ _ _ hS' g' hk'
          | _ => exact hr₂.elim
    | _ => exact hr.elim

end
end L2.SR
/-! sorted(set(..)), sorted(dict of tuple keys). -/
namespace L2.SR
open PySem PySem.Spec PyProof.Rows
section
variable {P : Program} {w : World} {A : Around} {E : Value → Shared → Prop} {s : Shared}
/-- what reads as a pair of texts -/
theorem reads_inv {h : Heap} {v : Value} {p : Pr} {as : List Addr} (r : PySem.Reads h v (prDat p) as) :
    ∃ b o vs n t u, v = Value.ref b ∧ h.get? b = some o ∧ o.cls = .type "tuple" ∧ o.data = .seq vs n ∧ vs.toList = [Value.str p.1 t, Value.str p.2 u] := by
  unfold prDat at r
  cases r with
  | @tuple b o vs n xs as h1 h2 h3 h4 =>
    generalize hl : vs.toList = l at h4
    cases h4 with
    | cons r1 h4 =>
      cases h4 with
      | cons r2 h4 =>
        cases h4
        cases r1 with
        | str _ t =>
          cases r2 with
          | str _ u => exact ⟨b, o, vs, n, t, u, rfl, h1, h2, h3, hl⟩
theorem reads_keep {h h' : Heap} {v : Value} {p : Pr} {as : List Addr} (r : PySem.Reads h v (prDat p) as) (k : ∀ b o, v = Value.ref b → h.get? b = some o → h'.get? b = some o) : PySem.Reads h' v (prDat p) [] := by
  obtain ⟨b, o, vs, n, t, u, rfl, h1, h2, h3, h4⟩ := reads_inv r
  unfold prDat
  exact .tuple (k b o rfl h1) h2 h3 (by rw [h4]; exact .cons (.str _ _) (.cons (.str _ _) .nil))
/-- list.sort of a new list of values that read as pairs of texts -/
theorem sort_pr {a : Addr} {vs : List Value} {ps : List Pr} {n : Nat} {R : Value → Pr → Prop} {Q : Value → Shared → Prop} (ho : s.heap.get? a = some (seqObj "list" vs.toArray n)) (e : PySem.W.EachIs (fun v p => PySem.Reads s.heap v (prDat p) [] ∧ R v p) vs ps)
    (hu : A.in1.units + 3 < cLine) (hL : vs.length ≤ sizeLine) (h : ∀ (out : List Value), PySem.W.EachIs R out (srtP ps) → Q .none { s with heap := sortedHeap s.heap a vs out.toArray }) :
    wpAny (model P w) A (call (.builtin "list.sort") [.ref a]) Q E s := by
  have e2 : PySem.W.EachIs (fun v p => PySem.Reads (PySem.W.sortingHeap s.heap a vs) v (prDat p) []) vs ps := e.mono fun v p q => reads_keep q.1 fun b o ev eb => by
    refine PySem.W.sortingHeap_old ?_ eb
    rintro rfl
    obtain ⟨b', o', _, _, _, _, rfl, h1, h2, _⟩ := reads_inv q.1
    cases ev
    rw [h1] at eb
    cases eb
    rw [ho] at h1
    cases h1
    have z : Value.type "list" = Value.type "tuple" := h2
    injection z with z
    exact absurd z (by decide)
  refine wpAny_call_entry slot_list_sort ⟨_, ho, rfl⟩ entry_list_sort (PySem.W.list_sort_vals ho (sortsAt_pr (s := { s with heap := PySem.W.sortingHeap s.heap a vs }) e2 hu) hL ?_) (args_list_sort _)
  exact ⟨_, rfl, h _ (sortVals_pr e2 (e.mono fun _ _ q => q.2))⟩
end
end L2.SR
/-! sorted(set(list of pairs)), sorted(dict of pairs): the rules. -/
namespace L2.SR
open PySem PySem.Spec PyProof.Rows
/-- at b stands the pair p -/
def AtP (H : Hp) (b : Addr) (p : Pr) : Prop := H b = some (.tup [.str p.1, .str p.2])

theorem perm_map_inv {α β : Type} (f : α → β) : ∀ {l : List α} {vs : List β}, vs.Perm (l.map f) → ∃ l' : List α, l'.Perm l ∧ vs = l'.map f
  | [], vs, h => ⟨[], List.Perm.refl _, List.Perm.eq_nil (by simpa using h)⟩
  | x :: l, vs, h => by
    rw [List.map_cons] at h
    have hm : f x ∈ vs := h.mem_iff.mpr List.mem_cons_self
    obtain ⟨A, B, rfl⟩ := List.append_of_mem hm
    have h2 : (A ++ B).Perm (l.map f) := List.Perm.cons_inv (List.perm_middle.symm.trans h)
    obtain ⟨l', hp, e⟩ := perm_map_inv f h2
    obtain ⟨l1, l2, rfl, rfl, rfl⟩ := List.append_eq_map_iff.mp e
    exact ⟨l1 ++ x :: l2, List.perm_middle.trans (hp.cons x), by rw [List.map_append, List.map_cons]⟩
theorem each_of_map {α β γ : Type} {R : β → γ → Prop} {f : α → β} {g : α → γ} : ∀ {l : List α}, (∀ x ∈ l, R (f x) (g x)) → PySem.W.EachIs R (l.map f) (l.map g)
  | [], _ => .nil
  | x :: l, h => .cons (h x List.mem_cons_self) (each_of_map fun y hy => h y (List.mem_cons_of_mem _ hy))
theorem each_refs {H : Hp} : ∀ {vs : List Value} {ps : List Pr}, PySem.W.EachIs (fun v p => ∃ b, v = Value.ref b ∧ AtP H b p) vs ps → ∃ bs : List Addr, vs = bs.map Value.ref ∧ PySem.W.EachIs (AtP H) bs ps
  | _, _, .nil => ⟨[], rfl, .nil⟩
  | _, _, .cons h t => by
    obtain ⟨b, e, hb⟩ := h
    obtain ⟨bs, e2, h2⟩ := each_refs t
    exact ⟨b :: bs, by rw [e, e2]; rfl, .cons hb h2⟩
theorem vals_refs : ∀ bs : List Addr, Vals (bs.map V.ref) (bs.map Value.ref)
  | [] => .nil
  | _ :: bs => .cons rfl (vals_refs bs)
theorem vals_refs_inv : ∀ {as : List Addr} {us : List Value}, Vals (as.map V.ref) us → us = as.map Value.ref
  | [], _, .nil => rfl
  | a :: as, _, .cons r t => by
    cases r
    rw [vals_refs_inv t]
    rfl

section
variable {X : Cx} {pins : List (Addr × Obj)} {σ : St} {H : Hp} {s : Shared}
theorem atP_reads {h' : Heap} {b : Addr} {p : Pr} (I : Inv X pins σ H s) (h : AtP H b p) (k : ∀ c o, s.heap.get? c = some o → h'.get? c = some o) : PySem.Reads h' (.ref b) (prDat p) [] := by
  obtain ⟨its, r, ⟨o, ho, hc, n, hd⟩, _⟩ := I.tuple (SqT.of h)
  exact reads_pr (its := its) ⟨o, k _ _ ho, hc, n, hd⟩ r
theorem atP_isK {b : Addr} {p : Pr} (I : Inv X pins σ H s) (h : AtP H b p) : IsK X.prog X.w s.heap (prKey p) b := by
  obtain ⟨its, r, ⟨o, ho, hc, n, hd⟩, _⟩ := I.tuple (SqT.of h)
  refine ⟨o, its.toArray, n, ho, hc, hd, ?_⟩
  have r' : Vals ((prKey p).map kV) its := r
  simpa using items_are r'
/-- a new sorted list has come -/
theorem sorted_end {X : Cx} {pins : List (Addr × Obj)} {σ : St} {H : Hp} {s1 : Shared} {vs : List Value} {ps : List Pr} {E : Value → Shared → Prop} {Q : Value → Shared → Prop} {A : Around} (I : Inv X pins σ H s1)
    (hu : A.in1.units + 3 < cLine) (hL : vs.length ≤ sizeLine)
    (e : PySem.W.EachIs (fun v p => ∃ b, v = Value.ref b ∧ AtP H b p) vs ps)
    (h : ∀ (D : Addr) (bs : List Addr) (s' : Shared), H D = none → PySem.W.EachIs (AtP H) bs (srtP ps) → Inv X pins σ (upd H D (.lst (bs.map V.ref))) s' → Q (.ref D) s') :
    wpAny (model X.prog X.w) A (newList vs) (fun l s2 => wpAny (model X.prog X.w) A (holding [l] (call (.builtin "list.sort") [l])) (fun _ s3 => Q l s3) E s2) E s1 := by
  refine wpAny_newList ?_ hL
  have hoL : (s1.heap.push (seqObj "list" vs.toArray 0)).get? s1.heap.objs.size = some (seqObj "list" vs.toArray 0) := Heap.get?_push_size _ rfl
  show wpAny _ _ _ _ _ { s1 with heap := s1.heap.push (seqObj "list" vs.toArray 0) }
  have k2 : ∀ b o, s1.heap.get? b = some o → (s1.heap.push (seqObj "list" vs.toArray 0)).get? b = some o := fun b o q => Heap.get?_push_of_some _ q
  have e2 : PySem.W.EachIs (fun v p => PySem.Reads (s1.heap.push (seqObj "list" vs.toArray 0)) v (prDat p) [] ∧ ∃ b, v = Value.ref b ∧ AtP H b p) vs ps := e.mono fun v p q => by
    obtain ⟨b, rfl, hb⟩ := q
    exact ⟨atP_reads I hb k2, b, rfl, hb⟩
  refine wpAny_holding (sort_pr (P := X.prog) (w := X.w) (s := { s1 with heap := s1.heap.push (seqObj "list" vs.toArray 0) }) (R := fun v p => ∃ b, v = Value.ref b ∧ AtP H b p) hoL e2 hu hL ?_)
  · intro out ho2
    obtain ⟨bs, rfl, hbs⟩ := each_refs ho2
    obtain ⟨c, hc⟩ := sortedHeap_at (vs := vs) (out := (bs.map Value.ref).toArray) hoL
    have hn : H s1.heap.objs.size = none := I.hok.fresh (Nat.le_refl _)
    have k3 : ∀ b o, s1.heap.get? b = some o → (sortedHeap (s1.heap.push (seqObj "list" vs.toArray 0)) s1.heap.objs.size vs (bs.map Value.ref).toArray).get? b = some o := fun b o q1 => by
      have hlt := Heap.lt_size q1
      rw [sortedHeap_old (Nat.ne_of_lt hlt) (by rw [size_push']; exact Nat.lt_succ_of_lt hlt)]
      exact Heap.get?_push_of_some _ q1
    have hlen : (bs.map V.ref).length ≤ sizeLine := by
      rw [List.length_map, hbs.length, (srtP_perm ps).length_eq, ← e.length]
      exact hL
    exact h s1.heap.objs.size bs _ hn hbs (I.laid (t' := s1.toks) k3 (Nat.le_refl _) ⟨hlen, bs.map Value.ref, c, vals_refs bs, hc⟩)

/-! ### sorted(d) -/
theorem pairs_of_keys {kvs : List (List Key × V)} {xs : List (List Key × Addr × Value)} {ps : List Pr} (r : KT H kvs xs) (hk : kvs.map (·.1) = ps.map prKey) :
    PySem.W.EachIs (fun (x : List Key × Addr × Value) p => AtP H x.2.1 p) xs ps := by
  induction r generalizing ps with
  | nil =>
    cases ps with
    | nil => exact .nil
    | cons p ps => simp at hk
  | @cons kv x kvs xs h _ ih =>
    cases ps with
    | nil => simp at hk
    | cons p ps =>
      rw [List.map_cons, List.map_cons] at hk
      injection hk with h1 h2
      obtain ⟨e1, e2, _⟩ := h
      refine .cons ?_ (ih h2)
      show H x.2.1 = _
      rw [e2, h1]
      rfl
def rSortDT : List V → Hp → VK → Prop := fun xs H Q => ∃ (d : Addr) (kvs : List (List Key × V)) (ps : List Pr), xs = [.ref d] ∧ H d = some (.dT kvs) ∧ kvs.map (·.1) = ps.map prKey ∧
  ∀ (D : Addr) (bs : List Addr), H D = none → PySem.W.EachIs (AtP H) bs (srtP ps) → Q (.ref D) (upd H D (.lst (bs.map V.ref)))
theorem cr_sortDT (hc : X.calm = true) (hu : X.A.units + 64 < cLine) : CallR X (.builtin "sorted") rSortDT := by
  rintro pins s σ H xs us Q I r ⟨d, kvs, ps, rfl, hd, hk, q⟩
  obtain rfl := vals_refs_inv (as := [d]) r
  obtain ⟨z, lo, ys, rel, dd⟩ := dt_of I.hok hd
  obtain ⟨es, ep, hm, hsz, ent⟩ := dd.raw
  have hyl : ys.length ≤ sizeLine := by rw [← KT_len rel]; exact z
  refine Calls.call_function_entry kind_sorted plain_sorted entry_sorted (args_sorted1 _) ?_
  unfold Builtin.«sorted»
  refine wpAny_bind (m := checkCount "sorted" 1 1 _) (wpAny_pure ?_)
  refine wpAny_bind (PySem.W.kdu_collect (A := X.A.in1) (PySem.KdlSrc.rawDict lo) (I.ok.hd hc) hm (by omega) fun h' tk acc keep hacc => ?_)
  have each : PySem.W.EachIs (fun v p => ∃ b, v = Value.ref b ∧ AtP H b p) acc.toList ps := by
    have hpk := pairs_of_keys (H := H) rel hk
    have e1 : acc.toList = ys.map fun y => Value.ref y.2.1 := by
      apply List.ext_getElem?
      intro j
      rw [List.getElem?_map, Array.getElem?_toList]
      by_cases hj : j < es.size
      · have hj2 : j < acc.size := by rw [hacc.1]; exact hj
        obtain ⟨hi, ev⟩ := hacc.2 j _ (Array.getElem?_eq_getElem hj2)
        obtain ⟨y, hy, ek, _⟩ := ent j hj
        rw [Array.getElem?_eq_getElem hj2, ev, hy, ek]
        rfl
      · rw [Array.getElem?_eq_none (by rw [hacc.1]; omega), List.getElem?_eq_none (by omega)]
        rfl
    rw [e1]
    have go : ∀ {ys : List (List Key × Addr × Value)} {ps : List Pr}, PySem.W.EachIs (fun (x : List Key × Addr × Value) p => AtP H x.2.1 p) ys ps → PySem.W.EachIs (fun v p => ∃ b, v = Value.ref b ∧ AtP H b p) (ys.map fun y => Value.ref y.2.1) ps := by
      intro ys ps h
      induction h with
      | nil => exact .nil
      | cons h _ ih => exact .cons ⟨_, rfl, h⟩ ih
    exact go hpk
  have hal : acc.toList.length ≤ sizeLine := by rw [Array.length_toList, hacc.1]; omega
  refine wpAny_bind (wpAny_mono (sorted_end (A := X.A.in1) (E := X.xe) (s1 := { s with heap := h', toks := tk }) (Q := EP X pins σ Q) (I.kept (t' := tk) keep) (by show X.A.in1.in1.units + 3 < cLine; simp only [Around.in1]; omega) hal each fun D bs s' hD hb J => ⟨.ref D, _, J, rfl, q D bs hD hb⟩) (fun l s2 h2 => wpAny_bind (wpAny_mono h2 (fun _ s3 h3 => wpAny_pure ⟨_, rfl, h3⟩) fun _ _ e => e)) fun _ _ e => e)
end
end L2.SR
/-! sorted(set(list of pairs)) as one expression. -/
namespace L2.SR
open PySem PySem.Spec PyProof.Rows
def tSortSet (K : PySem.W.Frag) (ta : TE) : TE := fun σ H Q => ta σ H fun x H1 => ∃ (l : Addr) (as : List Addr) (ps : List Pr), x = .ref l ∧ SqL K H1 l (as.map V.ref) ∧ PySem.W.EachIs (AtP H1) as ps ∧ ps.length < 64 ∧
  ∀ (D : Addr) (bs : List Addr), H1 D = none → PySem.W.EachIs (AtP H1) bs (setP ps) → Q (.ref D) (upd H1 D (.lst (bs.map V.ref)))
theorem each_zip {α β γ : Type} {R : α → β → Prop} (f : β → γ) : ∀ {as : List α} {bs : List β}, PySem.W.EachIs R as bs → ∃ ks : List (α × γ), ks.map (·.1) = as ∧ ks.map (·.2) = bs.map f ∧ ∀ k ∈ ks, ∃ b ∈ bs, k.2 = f b ∧ R k.1 b
  | _, _, .nil => ⟨[], rfl, rfl, fun _ h => nomatch h⟩
  | a :: as, b :: bs, .cons h t => by
    obtain ⟨ks, h1, h2, h3⟩ := each_zip f t
    refine ⟨(a, f b) :: ks, by rw [List.map_cons, h1], by rw [List.map_cons, List.map_cons, h2], fun k hk => ?_⟩
    rcases List.mem_cons.mp hk with rfl | hk
    · exact ⟨b, List.mem_cons_self, rfl, h⟩
    · obtain ⟨b', hb, e⟩ := h3 k hk
      exact ⟨b', List.mem_cons_of_mem _ hb, e⟩
/-- the pairs of keys that are pairs -/
theorem pairs_in : ∀ {L : List (Addr × List Key)}, (∀ k ∈ L, ∃ p : Pr, k.2 = prKey p) → ∃ ps : List Pr, L.map (·.2) = ps.map prKey
  | [], _ => ⟨[], rfl⟩
  | k :: L, h => by
    obtain ⟨p, e⟩ := h k List.mem_cons_self
    obtain ⟨ps, e2⟩ := pairs_in fun q hq => h q (List.mem_cons_of_mem _ hq)
    exact ⟨p :: ps, by rw [List.map_cons, List.map_cons, e, e2]⟩
theorem map_prKey_inj : ∀ {l m : List Pr}, l.map prKey = m.map prKey → l = m
  | [], [], _ => rfl
  | [], _ :: _, h => by simp at h
  | _ :: _, [], h => by simp at h
  | x :: l, y :: m, h => by
    rw [List.map_cons, List.map_cons] at h
    injection h with h1 h2
    rw [prKey_inj h1, map_prKey_inj h2]
section
variable {X : Cx}
theorem pe_sortSet {a : Expr} {ta : TE} {p p2 q pos : Pos} (hc : X.calm = true) (hu : X.A.units + 64 < cLine) (hg : Gl X "sorted") (hm : X.mg "sorted" = none) (hg2 : Gl X "set") (hm2 : X.mg "set" = none) (ha : PE X a ta)
    (na : starEach [a] X.env = (false, eval a X.env) :: starEach [] X.env := by rfl) : PE X (.Call (.Name "sorted" p) [.Call (.Name "set" p2) [a] [] q] [] pos) (tSortSet X.K ta) := by
  refine ⟨fun pins s σ H Q I h => ?_⟩
  refine Call_ (ld_blt I hg hm boot_sorted ?_)
  refine PyProof.Rows.callWith_builtin1 (PyProof.Rows.args_cons ?_ rfl) rfl rfl
  refine Call_ (ld_blt I hg2 hm2 PyProof.Rows.boot_set ?_)
  refine PyProof.Rows.callWith_type1 (PyProof.Rows.args_cons (thn (ha.run pins s σ H _ I h) fun v s1 ⟨x, H1, I1, r1, q1⟩ => PyProof.Rows.args_nil ?_) na) na rfl
  obtain ⟨l, as, ps, rfl, hq, he, hlen, q1⟩ := q1
  cases r1
  obtain ⟨its, r, pl, hz⟩ := I1.list hq
  obtain ⟨ks, k1, k2, k3⟩ := each_zip prKey he
  have hit : its = ks.map fun p => Value.ref p.1 := by
    rw [vals_refs_inv r, ← k1, List.map_map]
    rfl
  have klen : ks.length = ps.length := by
    have e := congrArg List.length k2
    rw [List.length_map, List.length_map] at e
    exact e
  refine call_set_keys (P := X.prog) (w := X.w) ks (I1.ok.hd hc) pl.isList (by simpa using hit) (fun k hk => ?_) (by rw [klen]; exact hlen) (by omega) fun h' tk L es ep t R g keep => ?_
  · obtain ⟨b, _, e, hb⟩ := k3 k hk
    rw [e]
    exact atP_isK I1 hb
  refine PyProof.Rows.args_nil ?_
  have I2 : Inv X pins σ H1 { s1 with heap := h', toks := tk } := I1.kept keep
  have Lks : ∀ k ∈ L, k ∈ ks := fun k hk => List.mem_of_mem_take (g.sub k hk)
  have Lat : ∀ k ∈ L, ∃ b ∈ ps, k.2 = prKey b ∧ AtP H1 k.1 b := fun k hk => k3 k (Lks k hk)
  obtain ⟨o, ho, hex, hd⟩ := R.obj
  refine Calls.call_function_entry kind_sorted plain_sorted entry_sorted (args_sorted1 _) ?_
  unfold Builtin.«sorted»
  refine wpAny_bind (m := checkCount "sorted" 1 1 _) (wpAny_pure ?_)
  refine wpAny_bind (collect_set (A := X.A.in1) (s := { s1 with heap := h', toks := tk }) (I1.ok.hd hc) ⟨o, ho, hex.1, hd⟩ (SetS.fits (s := { s1 with heap := h', toks := tk }) R) (by rw [ents_size R.ents]; have := R.few; unfold scanBound; omega) R.tab.ris R.led fun s3 vs kp3 hz3 g3 o3 pm => ?_)
  have hes : es.toList.map (·.2) = L.map fun k => Value.ref k.1 := by
    rw [R.ents, List.map_map]
    rfl
  rw [hes] at pm
  obtain ⟨L', pL, rfl⟩ := perm_map_inv (fun k : Addr × List Key => Value.ref k.1) pm
  have L'at : ∀ k ∈ L', ∃ b ∈ ps, k.2 = prKey b ∧ AtP H1 k.1 b := fun k hk => Lat k (pL.mem_iff.mp hk)
  obtain ⟨qs, hqs⟩ := pairs_in (L := L') fun k hk => let ⟨b, _, e, _⟩ := L'at k hk; ⟨b, e⟩
  have each : PySem.W.EachIs (fun v p => ∃ b, v = Value.ref b ∧ AtP H1 b p) (L'.map fun k => Value.ref k.1) qs := by
    clear pL pm
    induction L' generalizing qs with
    | nil =>
      cases qs with
      | nil => exact .nil
      | cons _ _ => simp at hqs
    | cons k L' ih =>
      cases qs with
      | nil => simp at hqs
      | cons p qs =>
        rw [List.map_cons, List.map_cons] at hqs
        injection hqs with e1 e2
        obtain ⟨b, _, e3, hb⟩ := L'at k List.mem_cons_self
        have : b = p := prKey_inj (e3.symm.trans e1)
        subst this
        exact .cons ⟨_, rfl, hb⟩ (ih (fun k hk => L'at k (List.mem_cons_of_mem _ hk)) qs e2)
  -- the pairs of the set are the list's, each once
  have hset : srtP qs = setP ps := by
    have nq : qs.Nodup := by
      have n1 : (L'.map (·.2)).Nodup := (pL.map (·.2)).nodup_iff.mpr R.nodup
      rw [hqs] at n1
      exact List.Pairwise.of_map prKey (fun _ _ hne e => hne (congrArg prKey e)) n1
    refine srtP_congr (once_of nq fun x => ?_)
    have m1 : x ∈ qs ↔ prKey x ∈ L.map (·.2) := by
      rw [← (pL.map (·.2)).mem_iff, hqs, List.mem_map]
      exact ⟨fun h => ⟨x, h, rfl⟩, fun ⟨y, hy, e⟩ => prKey_inj e ▸ hy⟩
    rw [m1]
    constructor
    · intro hm
      obtain ⟨k, hk, e⟩ := List.mem_map.mp hm
      obtain ⟨b, hb, e2, _⟩ := Lat k hk
      rw [← prKey_inj (e2.symm.trans e)]
      exact hb
    · intro hx
      have : prKey x ∈ ks.map (·.2) := by
        rw [k2]
        exact List.mem_map.mpr ⟨x, hx, rfl⟩
      obtain ⟨k, hk, e⟩ := List.mem_map.mp this
      rw [← e]
      exact g.all k (by rw [List.take_length]; exact hk)
  have I3 : Inv X pins σ H1 s3 := I2.call' (ch := []) o3 (Un.kept kp3) (I2.hok.kept kp3) (by rw [g3]; exact I2.bare) (fun _ z => nomatch z)
  have hal : (L'.map fun k => Value.ref k.1).length ≤ sizeLine := by
    rw [List.length_map, pL.length_eq, sizeLine_eq]
    have := R.few
    omega
  refine wpAny_bind (wpAny_mono (sorted_end (A := X.A.in1) (E := X.xe) (s1 := s3) (Q := EP X pins σ Q) I3 (by show X.A.in1.in1.units + 3 < cLine; simp only [Around.in1]; omega) hal each fun D bs s' hD hb J => ⟨.ref D, _, J, rfl, q1 D bs hD (by rw [← hset]; exact hb)⟩)
    (fun l s2 h2 => wpAny_bind (wpAny_mono h2 (fun _ s3 h3 => wpAny_pure ⟨_, rfl, h3⟩) fun _ _ e => e)) fun _ _ e => e)
end
end L2.SR
/-! What stands in the heap: writings, books. -/
namespace L2.SR
open PySem PySem.Spec PyProof.Rows
abbrev Mk := List Key
abbrev Wri := _root_.SW.Wr Mk Pr
abbrev Boo := _root_.SW.Bk Mk Pr Pr Str
abbrev Held := List (Pr × List Wri)
def mkM (h : Str) (n : Nat) : Mk := [.inr h, .inl (n : Int)]
theorem mkM_inj (h : Str) (k : Nat) (h' : Str) (k' : Nat) (e : mkM h k = mkM h' k') : h = h' ∧ k = k' := by
  unfold mkM at e
  injection e with e1 e2
  injection e2 with e2 _
  injection e1 with e1
  injection e2 with e2
  exact ⟨e1, by omega⟩
abbrev Each {α β : Type} (R : α → β → Prop) : List α → List β → Prop := PySem.W.EachIs R

section
variable {α β : Type} {R R' : α → β → Prop}
theorem each_get : ∀ {as : List α} {bs : List β} {i : Nat} {a : α}, Each R as bs → as[i]? = some a → ∃ b, bs[i]? = some b ∧ R a b
  | _, _, _, _, .nil, h => by simp at h
  | _, _, 0, _, .cons r _, h => by
    simp only [List.getElem?_cons_zero, Option.some.injEq] at h
    exact ⟨_, rfl, h ▸ r⟩
  | _, _, i + 1, _, .cons _ t, h => by
    simp only [List.getElem?_cons_succ] at h ⊢
    exact each_get t h
theorem each_get2 : ∀ {as : List α} {bs : List β} {i : Nat} {b : β}, Each R as bs → bs[i]? = some b → ∃ a, as[i]? = some a ∧ R a b
  | _, _, _, _, .nil, h => by simp at h
  | _, _, 0, _, .cons r _, h => by
    simp only [List.getElem?_cons_zero, Option.some.injEq] at h
    exact ⟨_, rfl, h ▸ r⟩
  | _, _, i + 1, _, .cons _ t, h => by
    simp only [List.getElem?_cons_succ] at h ⊢
    exact each_get2 t h
theorem each_append : ∀ {as cs : List α} {bs ds : List β}, Each R as bs → Each R cs ds → Each R (as ++ cs) (bs ++ ds)
  | _, _, _, _, .nil, h => h
  | _, _, _, _, .cons r t, h => .cons r (each_append t h)
theorem each_snoc {as : List α} {bs : List β} {a : α} {b : β} (h : Each R as bs) (r : R a b) : Each R (as ++ [a]) (bs ++ [b]) := each_append h (.cons r .nil)
end
theorem take_next' {α : Type} {l : List α} {i : Nat} {x : α} (h : l[i]? = some x) : l.take (i + 1) = l.take i ++ [x] := by
  rw [List.take_succ, h]
  rfl

/-! ### fields -/
def wf (m : Addr) (p : Pr) (d : Addr) : List (Str × V) := putF "seen" (.ref d) (putF "made_from" (.str p.2) (putF "words" (.str p.1) (putF "mark" (.ref m) [])))
def bf (h : Str) (n : Int) (d : Addr) : List (Str × V) := putF "held" (.ref d) (putF "many" (.int n) (putF "hand" (.str h) []))
theorem nMW : ¬ (("mark" : Str) = "words") := by decide +kernel
theorem nMF : ¬ (("mark" : Str) = "made_from") := by decide +kernel
theorem nMS : ¬ (("mark" : Str) = "seen") := by decide +kernel
theorem nWF : ¬ (("words" : Str) = "made_from") := by decide +kernel
theorem nWS : ¬ (("words" : Str) = "seen") := by decide +kernel
theorem nFS : ¬ (("made_from" : Str) = "seen") := by decide +kernel
theorem nHM : ¬ (("hand" : Str) = "many") := by decide +kernel
theorem nHH : ¬ (("hand" : Str) = "held") := by decide +kernel
theorem nMH : ¬ (("many" : Str) = "held") := by decide +kernel
theorem wf_eq (m : Addr) (p : Pr) (d : Addr) : wf m p d = [(("mark" : Str), V.ref m), ("words", .str p.1), ("made_from", .str p.2), ("seen", .ref d)] := by
  unfold wf
  simp only [putF, if_neg nMW, if_neg nMF, if_neg nMS, if_neg nWF, if_neg nWS, if_neg nFS]
theorem bf_eq (h : Str) (n : Int) (d : Addr) : bf h n d = [(("hand" : Str), V.str h), ("many", .int n), ("held", .ref d)] := by
  unfold bf
  simp only [putF, if_neg nHM, if_neg nHH, if_neg nMH]
theorem wf_mark (m : Addr) (p : Pr) (d : Addr) : (wf m p d).lookup ("mark" : Str) = some (.ref m) := by
  unfold wf
  rw [lookup_putF, if_neg nMS, lookup_putF, if_neg nMF, lookup_putF, if_neg nMW, lookup_putF, if_pos rfl]
theorem wf_words (m : Addr) (p : Pr) (d : Addr) : (wf m p d).lookup ("words" : Str) = some (.str p.1) := by
  unfold wf
  rw [lookup_putF, if_neg nWS, lookup_putF, if_neg nWF, lookup_putF, if_pos rfl]
theorem wf_made (m : Addr) (p : Pr) (d : Addr) : (wf m p d).lookup ("made_from" : Str) = some (.str p.2) := by
  unfold wf
  rw [lookup_putF, if_neg nFS, lookup_putF, if_pos rfl]
theorem wf_seen (m : Addr) (p : Pr) (d : Addr) : (wf m p d).lookup ("seen" : Str) = some (.ref d) := by
  unfold wf
  rw [lookup_putF, if_pos rfl]
theorem bf_hand (h : Str) (n : Int) (d : Addr) : (bf h n d).lookup ("hand" : Str) = some (.str h) := by
  unfold bf
  rw [lookup_putF, if_neg nHH, lookup_putF, if_neg nHM, lookup_putF, if_pos rfl]
theorem bf_many (h : Str) (n : Int) (d : Addr) : (bf h n d).lookup ("many" : Str) = some (.int n) := by
  unfold bf
  rw [lookup_putF, if_neg nMH, lookup_putF, if_pos rfl]
theorem bf_held (h : Str) (n : Int) (d : Addr) : (bf h n d).lookup ("held" : Str) = some (.ref d) := by
  unfold bf
  rw [lookup_putF, if_pos rfl]
theorem bf_no (h : Str) (n : Int) (d : Addr) {m : Str} (h1 : ¬ m = "hand") (h2 : ¬ m = "many") (h3 : ¬ m = "held") : (bf h n d).lookup m = none := by
  unfold bf
  rw [lookup_putF, if_neg h3, lookup_putF, if_neg h2, lookup_putF, if_neg h1]
  rfl
theorem bf_put (h : Str) (n k : Int) (d : Addr) : putF "many" (.int k) (bf h n d) = bf h k d := by
  rw [bf_eq, bf_eq]
  simp only [putF, if_neg nHM, if_true]

/-! ### writings in the heap -/
def WAt (C : Addr) (Z : Hp) (p : Addr) (w : Wri) : Prop :=
  ∃ dx m d kvs, Z p = some (.ins C dx (wf m w.text d)) ∧ Z m = some (.tup (w.mark.map kV)) ∧ Z d = some (.dT kvs) ∧ kvs.map (·.1) = w.seen
theorem WAt.mono {C : Addr} {Z Z' : Hp} {p : Addr} {w : Wri} (s : Same Z Z') (h : WAt C Z p w) : WAt C Z' p w := by
  obtain ⟨dx, m, d, kvs, h1, h2, h3, h4⟩ := h
  exact ⟨dx, m, d, kvs, s _ _ h1, s _ _ h2, s _ _ h3, h4⟩
def ListAt (C : Addr) (Z : Hp) (l : Addr) (ws : List Wri) : Prop := ∃ as : List Addr, Z l = some (.lst (as.map V.ref)) ∧ Each (WAt C Z) as ws
theorem ListAt.mono {C : Addr} {Z Z' : Hp} {l : Addr} {ws : List Wri} (s : Same Z Z') (h : ListAt C Z l ws) : ListAt C Z' l ws := by
  obtain ⟨as, h1, h2⟩ := h
  exact ⟨as, s _ _ h1, h2.mono fun _ _ q => q.mono s⟩
def HeldV (C : Addr) (Z : Hp) (v : V) (ws : List Wri) : Prop := ∃ l, v = .ref l ∧ ListAt C Z l ws
theorem HeldV.mono {C : Addr} {Z Z' : Hp} {v : V} {ws : List Wri} (s : Same Z Z') (h : HeldV C Z v ws) : HeldV C Z' v ws := by
  obtain ⟨l, h1, h2⟩ := h
  exact ⟨l, h1, h2.mono s⟩

/-! ### tables that go together -/
section
variable {κ ρ α : Type} [DecidableEq κ] [DecidableEq ρ] {f : ρ → κ} {R : V → α → Prop}
abbrev Tab (f : ρ → κ) (R : V → α → Prop) (kvs : List (κ × V)) (ts : List (ρ × α)) : Prop := Each (fun (kv : κ × V) (t : ρ × α) => kv.1 = f t.1 ∧ R kv.2 t.2) kvs ts
theorem Tab.any (inj : ∀ a b, f a = f b → a = b) {kvs : List (κ × V)} {ts : List (ρ × α)} (h : Tab f R kvs ts) (k : ρ) : (kvs.any fun kv => decide (kv.1 = f k)) = ts.any fun t => decide (t.1 = k) := by
  induction h with
  | nil => rfl
  | @cons a b as bs r _ ih =>
    rw [List.any_cons, List.any_cons, ih]
    congr 1
    rw [r.1, decide_eq_decide]
    exact ⟨fun e => inj _ _ e, fun e => e ▸ rfl⟩
theorem Tab.put (inj : ∀ a b, f a = f b → a = b) {kvs : List (κ × V)} {ts : List (ρ × α)} (h : Tab f R kvs ts) (k : ρ) {v : V} {x : α} (r : R v x) : Tab f R (putK kvs (f k) v) (_root_.SW.put ts k x) := by
  unfold putK _root_.SW.put
  rw [h.any inj k]
  by_cases e : (ts.any fun t => decide (t.1 = k)) = true
  · rw [if_pos e, if_pos e]
    induction h with
    | nil => exact .nil
    | @cons a b as bs q t ih =>
      clear e
      have go : ∀ {as : List (κ × V)} {bs : List (ρ × α)}, Tab f R as bs → Tab f R (as.map fun kv => if kv.1 = f k then (kv.1, v) else kv) (bs.map fun p => if p.1 = k then (p.1, x) else p) := by
        intro as bs h
        induction h with
        | nil => exact .nil
        | @cons a b as bs q _ ih =>
          rw [List.map_cons, List.map_cons]
          refine .cons ?_ ih
          by_cases z : b.1 = k
          · rw [if_pos z, if_pos (by rw [q.1, z])]
            exact ⟨q.1, r⟩
          · rw [if_neg z, if_neg (fun y => z (inj _ _ (q.1 ▸ y)))]
            exact q
      exact go (.cons q t)
  · rw [if_neg e, if_neg e]
    exact each_snoc h ⟨rfl, r⟩
theorem Tab.look (inj : ∀ a b, f a = f b → a = b) {kvs : List (κ × V)} {ts : List (ρ × α)} (h : Tab f R kvs ts) (k : ρ) :
    (∃ v x, valV kvs (f k) = some v ∧ _root_.SW.look ts k = some x ∧ R v x) ∨ (valV kvs (f k) = none ∧ _root_.SW.look ts k = none) := by
  induction h with
  | nil => exact .inr ⟨rfl, rfl⟩
  | @cons a b as bs q _ ih =>
    by_cases z : b.1 = k
    · left
      refine ⟨a.2, b.2, valV_pos (by rw [q.1, z]), ?_, q.2⟩
      rw [_root_.SW.look_cons, if_pos z]
    · rw [valV_neg (fun y => z (inj _ _ (q.1 ▸ y))), _root_.SW.look_cons, if_neg z]
      exact ih
theorem Tab.keys {kvs : List (κ × V)} {ts : List (ρ × α)} (h : Tab f R kvs ts) : kvs.map (·.1) = (ts.map (·.1)).map f := by
  induction h with
  | nil => rfl
  | @cons a b as bs q _ ih => rw [List.map_cons, List.map_cons, List.map_cons, ih, q.1]
end
/-! the keys alone -/
theorem putK_keys {κ : Type} [DecidableEq κ] (kvs : List (κ × V)) (k : κ) (v : V) : (putK kvs k v).map (·.1) = _root_.SW.ins (kvs.map (·.1)) k := by
  unfold putK _root_.SW.ins
  by_cases e : (kvs.any fun kv => decide (kv.1 = k)) = true
  · have m : k ∈ kvs.map (·.1) := by
      obtain ⟨p, hp, q⟩ := List.any_eq_true.mp e
      exact List.mem_map.mpr ⟨p, hp, of_decide_eq_true q⟩
    rw [if_pos e, if_pos m, List.map_map]
    refine List.map_congr_left fun p _ => ?_
    by_cases z : p.1 = k <;> simp [z]
  · have m : k ∉ kvs.map (·.1) := fun m => by
      obtain ⟨p, hp, q⟩ := List.mem_map.mp m
      exact e (List.any_eq_true.mpr ⟨p, hp, decide_eq_true q⟩)
    rw [if_neg e, if_neg m, List.map_append]
    rfl
theorem mergeT_keys : ∀ (more kvs : List (List Key × V)), (mergeT kvs more).map (·.1) = (more.map (·.1)).foldl _root_.SW.ins (kvs.map (·.1))
  | [], _ => rfl
  | p :: more, kvs => by
    show (mergeT (putK kvs p.1 p.2) more).map (·.1) = _
    rw [mergeT_keys more, putK_keys]
    rfl
theorem valV_some_iff {κ : Type} [DecidableEq κ] (kvs : List (κ × V)) (k : κ) : (valV kvs k).isSome = decide (k ∈ kvs.map (·.1)) := by
  rw [← valV_any, Bool.eq_iff_iff, decide_eq_true_eq, List.any_eq_true, List.mem_map]
  exact ⟨fun ⟨p, hp, e⟩ => ⟨p, hp, of_decide_eq_true e⟩, fun ⟨p, hp, e⟩ => ⟨p, hp, decide_eq_true e⟩⟩

/-! ### a book -/
def DictR (C : Addr) (Z : Hp) (kvs : List (List Key × V)) (held : Held) : Prop := Tab prKey (HeldV C Z) kvs held
theorem DictR.mono {C : Addr} {Z Z' : Hp} {kvs : List (List Key × V)} {held : Held} (s : Same Z Z') (h : DictR C Z kvs held) : DictR C Z' kvs held := PySem.W.EachIs.mono (fun _ _ q => ⟨q.1, q.2.mono s⟩) h
structure BookAt (C CB : Addr) (Z H : Hp) (p d : Addr) (b : Boo) : Prop where
  ob : ∃ dx, H p = some (.ins CB dx (bf b.hand (b.many : Int) d))
  dc : ∃ kvs, H d = some (.dT kvs) ∧ DictR C Z kvs b.held
  zp : Z p = none
  zd : Z d = none
/-- Z has grown, by new things alone -/
structure Ext (Z H Z' : Hp) : Prop where
  same : Same Z Z'
  new : ∀ a o, Z' a = some o → Z a = some o ∨ H a = none
theorem Ext.refl (Z H : Hp) : Ext Z H Z := ⟨Same.refl _, fun _ _ h => .inl h⟩
theorem Ext.gone {Z H Z' : Hp} (e : Ext Z H Z') {a : Addr} (hz : Z a = none) (hh : H a ≠ none) : Z' a = none := by
  cases q : Z' a with
  | none => rfl
  | some o =>
    rcases e.new a o q with h | h
    · rw [hz] at h; cases h
    · exact absurd h hh
theorem BookAt.next {C CB : Addr} {Z H Z' H' : Hp} {p d : Addr} {b : Boo} (B : BookAt C CB Z H p d b) (e : Ext Z H Z') (h1 : ∀ o, H p = some o → H' p = some o) (h2 : ∀ o, H d = some o → H' d = some o) : BookAt C CB Z' H' p d b := by
  obtain ⟨⟨dx, ob⟩, ⟨kvs, dc, r⟩, zp, zd⟩ := B
  exact ⟨⟨dx, h1 _ ob⟩, ⟨kvs, h2 _ dc, r.mono e.same⟩, e.gone zp (by rw [ob]; exact fun h => nomatch h), e.gone zd (by rw [dc]; exact fun h => nomatch h)⟩

theorem seenBy_take {ws : List Wri} {i : Nat} {w : Wri} (h : ws[i]? = some w) : _root_.SW.seenBy (ws.take (i + 1)) = w.seen.foldl _root_.SW.ins (_root_.SW.ins (_root_.SW.seenBy (ws.take i)) w.mark) := by
  unfold _root_.SW.seenBy
  rw [take_next' h, List.foldl_append]
  rfl
theorem every_take {ws : List Wri} {i : Nat} {w : Wri} (h : ws[i]? = some w) : _root_.SW.every (ws.take (i + 1)) = _root_.SW.put (_root_.SW.every (ws.take i)) w.mark w := by
  unfold _root_.SW.every
  rw [take_next' h, List.foldl_append]
  rfl
theorem ins_len {M : Type} [DecidableEq M] (l : List M) (m : M) : (_root_.SW.ins l m).length ≤ l.length + 1 := by
  unfold _root_.SW.ins
  split
  · omega
  · rw [List.length_append]; simp
theorem insAll_len {M : Type} [DecidableEq M] : ∀ (ms l : List M), (ms.foldl _root_.SW.ins l).length ≤ l.length + ms.length
  | [], l => Nat.le_refl _
  | m :: ms, l => by
    have a := insAll_len ms (_root_.SW.ins l m)
    have b := ins_len l m
    rw [List.foldl_cons, List.length_cons]
    omega
theorem seenBy_len {ws : List Wri} {B : Nat} (h : ∀ w ∈ ws, w.seen.length ≤ B) : ∀ i, (_root_.SW.seenBy (ws.take i)).length ≤ i * (B + 1)
  | 0 => by simp [_root_.SW.seenBy]
  | i + 1 => by
    have ih := seenBy_len h i
    cases e : ws[i]? with
    | none =>
      have : ws.take (i + 1) = ws.take i := by rw [List.take_succ, e]; simp
      rw [this, Nat.add_mul]
      omega
    | some w =>
      rw [seenBy_take e, Nat.add_mul]
      have a := insAll_len w.seen (_root_.SW.ins (_root_.SW.seenBy (ws.take i)) w.mark)
      have b := ins_len (_root_.SW.seenBy (ws.take i)) w.mark
      have c := h w (List.mem_of_getElem? e)
      omega
end L2.SR
/-! The program's text by places. -/
namespace L2.SR
open PySem PySem.Spec PyProof.Rows
def top (i : Nat) : Stmt := PySem.Challenge.pw_saywell_k83_whole_from_either_side.main.body.getD i (.Pass ⟨0, 0, 0, 0⟩)
abbrev sWInit : Stmt := inClass (top 4) 0
abbrev sSeen : Stmt := top 5
abbrev sUnseen : Stmt := top 6
abbrev sUnlike : Stmt := top 7
abbrev sBInit : Stmt := inClass (top 9) 0
abbrev sWrite : Stmt := inClass (top 9) 1
abbrev sTake : Stmt := inClass (top 9) 2
abbrev sTold : Stmt := inClass (top 9) 3
abbrev sClash : Stmt := inClass (top 9) 4
abbrev sCell : Stmt := top 11
abbrev sWords : Stmt := top 12
abbrev sRow : Stmt := top 13
abbrev sPair : Stmt := top 14
abbrev sDrawn : Stmt := top 15
abbrev sDone : Stmt := top 16
abbrev sOrder : Stmt := top 17
abbrev sLaw : Stmt := top 18
/-- what the walk asks of the top -/
structure Txt (K : PySem.W.Frag) (mg : Str → Option Value) (C CB : Addr) : Prop where
  clW : Cls K C
  clB : Cls K CB
  nMark : NoAttr K C "mark"
  nWords : NoAttr K C "words"
  nMade : NoAttr K C "made_from"
  nSeen : NoAttr K C "seen"
  nHand : NoAttr K CB "hand"
  nMany : NoAttr K CB "many"
  nHeld : NoAttr K CB "held"
  mgW : mg "Writing" = some (.ref C)
  mgB : mg "Book" = some (.ref CB)
  any : mg "any" = none
  sorted : mg "sorted" = none
  set : mg "set" = none
  len : mg "len" = none
  range : mg "range" = none
  isinst : mg "isinstance" = none
  list : mg "list" = none
  tuple : mg "tuple" = none
theorem scWI : FnScope ["self", "mark", "words", "made_from", "seen"] ["self", "mark", "words", "made_from", "seen"] (defScope sWInit) := ⟨rfl, rfl, rfl, by decide +kernel, rfl, by decide +kernel, by decide +kernel⟩
theorem scSeen : FnScope ["writings", "found", "one"] ["writings"] (defScope sSeen) := ⟨rfl, rfl, rfl, by decide +kernel, rfl, by decide +kernel, by decide +kernel⟩
theorem scUnseen : FnScope ["writings", "every", "one", "found", "mark", "other"] ["writings"] (defScope sUnseen) := ⟨rfl, rfl, rfl, by decide +kernel, rfl, by decide +kernel, by decide +kernel⟩
theorem scUnlike : FnScope ["writings", "one"] ["writings"] (defScope sUnlike) := ⟨rfl, rfl, rfl, by decide +kernel, rfl, by decide +kernel, by decide +kernel⟩
end L2.SR
/-! Writing.__init__, seen_by_next. -/
namespace L2.SR
open PySem PySem.Spec PyProof.Rows
def spWInit (C : Addr) : Sp := fun vs H Q _ => ∃ (p m d dx : Addr) (t : Pr), vs = [.ref p, .ref m, .str t.1, .str t.2, .ref d] ∧ H p = some (.ins C dx []) ∧
  ∀ H' : Hp, H' p = some (.ins C dx (wf m t d)) → (∀ b, b ≠ p → H' b = H b) → Q .non H'
def spSeen (C : Addr) : Sp := fun vs H Q _ => ∃ (l : Addr) (ws : List Wri), vs = [.ref l] ∧ ListAt C H l ws ∧ ws.length ≤ 100 ∧ (∀ w ∈ ws, w.seen.length ≤ 100) ∧
  ∀ (H' : Hp) (d : Addr) (kvs : List (List Key × V)), Same H H' → H d = none → H' d = some (.dT kvs) → kvs.map (·.1) = _root_.SW.seenBy ws → Q (.ref d) H'
section
variable {P : Program} {w : World} {K : PySem.W.Frag} {mg : Str → Option Value} {base : Heap}
theorem ok_winit {f C CB : Addr} {fd : FuncData} (F : Fun K "__init__" "Writing.__init__" sWInit f fd) (T : Txt K mg C CB) : FnOk P w K mg base CX0 1 f fd ["self", "mark", "words", "made_from", "seen"] (spWInit C) := by
  refine F.ok scWI (fun vs H Q E h => ?_) (fun cdv A outer s H vs Q E hr h => ?_)
  · obtain ⟨p, m, d, dx, t, rfl, _⟩ := h
    rfl
  · obtain ⟨p, m, d, dx, t, rfl, hp, k⟩ := h
    refine ⟨_, pss_cons (ps_fld (pv 0) (pv 1) rfl) (pss_cons (ps_fld (pv 0) (pv 2) rfl) (pss_cons (ps_fld (pv 0) (pv 3) rfl) (pss_one (ps_fld (pv 0) (pv 4) rfl)))), ?_⟩
    refine ⟨_, rfl, _, rfl, p, C, dx, [], rfl, hp, T.clW, T.nMark, (by show 0 < 1000; decide), ?_⟩
    refine ⟨_, rfl, _, rfl, p, C, dx, _, rfl, upd_same, T.clW, T.nWords, (by show 1 < 1000; decide), ?_⟩
    refine ⟨_, rfl, _, rfl, p, C, dx, _, rfl, upd_same, T.clW, T.nMade, (by simp only [putF, if_neg nMW]; show 2 < 1000; decide), ?_⟩
    refine ⟨_, rfl, _, rfl, p, C, dx, _, rfl, upd_same, T.clW, T.nSeen, (by simp only [putF, if_neg nMW, if_neg nMF, if_neg nWF]; show 3 < 1000; decide), ?_⟩
    refine k _ upd_same fun b hb => ?_
    rw [upd_ne hb, upd_ne hb, upd_ne hb, upd_ne hb]
theorem ok_seen {f C CB : Addr} {fd : FuncData} (F : Fun K "seen_by_next" "seen_by_next" sSeen f fd) (T : Txt K mg C CB) : FnOk P w K mg base CX0 1 f fd ["writings"] (spSeen C) := by
  refine F.ok scSeen (fun vs H Q E h => ?_) (fun cdv A outer s H vs Q E hr h => ?_)
  · obtain ⟨l, ws, rfl, _⟩ := h
    rfl
  · obtain ⟨l, ws, rfl, ⟨as, hl, hw⟩, hlen, hsl, k⟩ := h
    have hu := hu_of hr
    refine ⟨_, pss_cons (ps_set (i := 1) scSeen.nd rfl (Or.inl rfl) pe_dnewT)
      (pss_cons (ps_for PassesOwn.never rfl (pi_list (pv 0)) (pg_name (i := 2) scSeen.nd rfl (Or.inl rfl))
        (pss_cons (ps_dput hu (pv 1) (pe_fld (pv 2) rfl) pe_bl rfl)
        (pss_one (ps_expr (pe_bm PySem.F.plainAttrs_dict PySem.F.slot_dict_update PySem.F.type_dict_update (mt_updT hu) (pv 1) (pa_cons (pe_fld (pv 2) rfl) pa_nil))))))
      (pss_one (ps_ret (pv 1)))), ?_⟩
    intro d hd
    have s0 : Same H (upd H d (.dT [])) := fun b o e => by rw [upd_ne (ne_of_none e hd)]; exact e
    refine ⟨_, rfl, l, rfl, ⟨_, SqL.of (s0 _ _ hl)⟩, for_list (K := K) (a := l) (xs := as.map V.ref)
      (fun i σ H2 => ∃ (v : Option V) (kvs : List (List Key × V)), σ = [some (.ref l), some (.ref d), v] ∧ Same H H2 ∧ H2 d = some (.dT kvs) ∧ kvs.map (·.1) = _root_.SW.seenBy (ws.take i))
      ⟨none, [], rfl, s0, upd_same, rfl⟩ (fun i σ H2 _ ⟨_, _, _, s2, _⟩ => SqL.of (s2 _ _ hl)) ?_ ?_⟩
    · rintro i x σ H2 hi ⟨v, kvs, rfl, s2, hd2, hk⟩
      rw [List.getElem?_map] at hi
      obtain ⟨a, ha, rfl⟩ := Option.map_eq_some_iff.mp hi
      obtain ⟨wr, hwi, dx, m, e, kws, g1, g2, g3, g4⟩ := each_get hw ha
      have hil : i < ws.length := (List.getElem?_eq_some_iff.mp hwi).1
      have klen : kvs.length ≤ i * 101 := by
        have := congrArg List.length hk
        rw [List.length_map] at this
        rw [this]
        exact seenBy_len hsl i
      have elen : kws.length ≤ 100 := by
        have := congrArg List.length g4
        rw [List.length_map] at this
        rw [this]
        exact hsl wr (List.mem_of_getElem? hwi)
      have hi100 : i * 101 ≤ 10100 := by omega
      have nad : a ≠ d := ne_of_none g1 hd
      have nmd : m ≠ d := ne_of_none g2 hd
      have ned : e ≠ d := ne_of_none g3 hd
      have l1 := length_putK kvs wr.mark (V.bl true)
      refine ⟨_, rfl, _, rfl, a, C, dx, _, _, rfl, s2 _ _ g1, T.clW, T.nMark, wf_mark _ _ _, d, _, rfl, DPut.t (k := wr.mark) hd2 (s2 _ _ g2) (Nat.lt_of_le_of_lt (Nat.le_trans klen hi100) (by decide)), ?_⟩
      have u1 : ∀ {b : Addr} {o : HO}, b ≠ d → H b = some o → upd H2 d (.dT (putK kvs wr.mark (.bl true))) b = some o := fun hb ho => by
        rw [upd_ne hb]
        exact s2 _ _ ho
      refine ⟨_, rfl, .inr (.inr (.inl ⟨rfl, .inr ⟨_, upd_same⟩⟩)), _, rfl, a, C, dx, _, _, rfl, u1 nad g1, T.clW, T.nSeen, wf_seen _ _ _, d, e, _, kws, rfl, rfl, ned.symm, upd_same, u1 ned g3, ?_, ?_, ?_⟩
      · intro z
        have := congrArg (fun l => l.map (·.1)) z
        rw [putK_keys] at this
        have m1 : wr.mark ∈ _root_.SW.ins (kvs.map (·.1)) wr.mark := _root_.SW.mem_ins.mpr (.inl rfl)
        rw [this] at m1
        cases m1
      · exact Nat.le_trans (show _ ≤ 20000 by omega) (by decide)
      · refine ⟨_, _, rfl, fun b o ho => ?_, upd_same, ?_⟩
        · have hb : b ≠ d := ne_of_none ho hd
          rw [upd_ne hb]
          exact u1 hb ho
        · rw [mergeT_keys, putK_keys, g4, hk, seenBy_take hwi]
    · rintro σ H2 ⟨v, kvs, rfl, s2, hd2, hk⟩
      refine ⟨_, rfl, k H2 d kvs s2 hd hd2 ?_⟩
      have e : as.length = ws.length := hw.length
      rw [hk, List.length_map, e, List.take_length]
end
end L2.SR
/-! unseen, unlike. -/
namespace L2.SR
open PySem PySem.Spec PyProof.Rows
def spUnseen (C : Addr) : Sp := fun vs H Q _ => ∃ (Z : Hp) (l : Addr) (as : List Addr) (ws : List Wri), vs = [.ref l] ∧ Same Z H ∧ H l = some (.lst (as.map V.ref)) ∧ Each (WAt C Z) as ws ∧ ws.length ≤ 1000 ∧
  ∀ (H' : Hp) (l' : Addr) (as' : List Addr), Same H H' → H l' = none → H' l' = some (.lst (as'.map V.ref)) → Each (WAt C Z) as' (_root_.SW.unseen ws) → Q (.ref l') H'
def RefW (C : Addr) (Z : Hp) (v : V) (w : Wri) : Prop := ∃ a, v = .ref a ∧ WAt C Z a w
theorem tab_get {κ ρ α : Type} [DecidableEq κ] [DecidableEq ρ] {f : ρ → κ} {R : V → α → Prop} {kvs : List (κ × V)} {ts : List (ρ × α)} (h : Tab f R kvs ts) {i : Nat} {k : κ} {v : V} (e : kvs[i]? = some (k, v)) :
    ∃ r x, ts[i]? = some (r, x) ∧ k = f r ∧ R v x := by
  obtain ⟨b, hb, h1, h2⟩ := each_get h e
  exact ⟨b.1, b.2, hb, h1, h2⟩
section
variable {P : Program} {w : World} {K : PySem.W.Frag} {mg : Str → Option Value} {base : Heap}
theorem ok_unseen {f C CB : Addr} {fd : FuncData} (F : Fun K "unseen" "unseen" sUnseen f fd) (T : Txt K mg C CB) : FnOk P w K mg base CX0 1 f fd ["writings"] (spUnseen C) := by
  refine F.ok scUnseen (fun vs H Q E h => ?_) (fun cdv A outer s H vs Q E hr h => ?_)
  · obtain ⟨Z, l, as, ws, rfl, _⟩ := h
    rfl
  · obtain ⟨Z, l, as, ws, rfl, sZ, hl, hw, hlen, k⟩ := h
    have hu := hu_of hr
    refine ⟨_, pss_cons (ps_set (i := 1) scUnseen.nd rfl (Or.inl rfl) pe_dnewT)
      (pss_cons (ps_for PassesOwn.never rfl (pi_list (pv 0)) (pg_name (i := 2) scUnseen.nd rfl (Or.inl rfl))
        (pss_one (ps_dput hu (pv 1) (pe_fld (pv 2) rfl) (pv 2) rfl)))
      (pss_cons (ps_set (i := 3) scUnseen.nd rfl (Or.inl rfl) (pe_lst pa_nil))
      (pss_cons (ps_lock (ps_for PassesOwn.never rfl (pi_itemsT (pv 1)) (pg_tup rfl (pgs_cons (pg_name (i := 4) scUnseen.nd rfl (Or.inr rfl)) (pgs_cons (pg_name (i := 2) scUnseen.nd rfl (Or.inl rfl)) pgs_nil)))
        (pss_one (ps_if (pt_not (pt_val (pe_callB (cr_any rfl) (by rfl) T.any boot_any (pa_cons
            (pe_lc (own := [("other", 5)]) (g := gName 5) (tt := tYes) (te := tDIn (tVar 4) (tFld K (tVar 5) "seen")) rfl scUnseen.nd (pi_valsT (pv 1)) (blkOk_by (N := ["writings", "every", "one", "found", "mark", "other"]) (sc := defScope sUnseen) (by decide +kernel))
              (fun _ _ _ _ _ => pg_name (i := 5) scUnseen.nd rfl (Or.inl rfl)) (fun _ _ _ _ _ => pts_nil) (fun _ _ _ _ _ => pe_cmp (pc_din hu (pv 4) (pe_fld (pv 5) rfl)))) pa_nil))))
          (pss_one (ps_expr (pe_bm PySem.F.plainAttrs_list PySem.F.slot_list_append PySem.F.type_list_append mt_append (pv 3) (pa_cons (pv 2) pa_nil)))) pss_nil))))
      (pss_one (ps_ret (pv 3)))))), ?_⟩
    intro e he
    have s0 : Same H (upd H e (.dT [])) := fun b o z => by rw [upd_ne (ne_of_none z he)]; exact z
    refine ⟨_, rfl, l, rfl, ⟨_, SqL.of (s0 _ _ hl)⟩, for_list (K := K) (a := l) (xs := as.map V.ref)
      (fun i σ H2 => ∃ (v : Option V) (kvs : List (List Key × V)), σ = [some (.ref l), some (.ref e), v, none, none, none] ∧ Same H H2 ∧ H2 e = some (.dT kvs) ∧ Tab (fun m : Mk => m) (RefW C Z) kvs (_root_.SW.every (ws.take i)))
      ⟨none, [], rfl, s0, upd_same, .nil⟩ (fun i σ H2 _ ⟨_, _, _, s2, _⟩ => SqL.of (s2 _ _ hl)) ?_ ?_⟩
    · rintro i x σ H2 hi ⟨v, kvs, rfl, s2, he2, tb⟩
      rw [List.getElem?_map] at hi
      obtain ⟨a, ha, rfl⟩ := Option.map_eq_some_iff.mp hi
      obtain ⟨wr, hwi, WA⟩ := each_get hw ha
      obtain ⟨dx, m, d, kws, g1, g2, g3, g4⟩ := WA.mono sZ
      have hil : i < ws.length := (List.getElem?_eq_some_iff.mp hwi).1
      have klen : kvs.length ≤ 1000 := by
        have e1 : kvs.length = (_root_.SW.every (ws.take i)).length := tb.length
        have e2 := _root_.SW.every_length (ws.take i)
        rw [List.length_take] at e2
        omega
      refine ⟨_, rfl, _, rfl, _, rfl, a, C, dx, _, _, rfl, s2 _ _ g1, T.clW, T.nMark, wf_mark _ _ _, e, _, rfl, DPut.t (k := wr.mark) he2 (s2 _ _ g2) (small1000 klen), ?_⟩
      refine ⟨_, _, rfl, fun b o ho => ?_, upd_same, ?_⟩
      · rw [upd_ne (ne_of_none ho he)]
        exact s2 _ _ ho
      · rw [every_take hwi]
        exact Tab.put (f := fun m : Mk => m) (fun _ _ z => z) tb wr.mark ⟨a, rfl, WA⟩
    · rintro σ H2 ⟨v, kvs, rfl, s2, he2, tb⟩
      have tke : ws.take (as.map V.ref).length = ws := by
        have e1 : as.length = ws.length := hw.length
        rw [List.length_map, e1, List.take_length]
      rw [tke] at tb
      have klen : kvs.length ≤ 1000 := by
        have e1 : kvs.length = (_root_.SW.every ws).length := tb.length
        have e2 := _root_.SW.every_length ws
        omega
      -- found = []
      refine ⟨Nat.zero_le _, fun fn hfn => ?_⟩
      have nfe : fn ≠ e := fun z => by rw [z, he2] at hfn; cases hfn
      have hfn0 : H fn = none := s2.free hfn
      have he3 : upd H2 fn (.lst []) e = some (.dT kvs) := by rw [upd_ne nfe.symm]; exact he2
      -- the locked walk
      refine ⟨e, _, he3, trivial, fun od => ?_⟩
      refine ⟨_, rfl, e, od, kvs, rfl, upd_same, for_it walk_IT
        (fun i σ H3 => ∃ (v1 v2 : Option V) (as' : List Addr), σ = [some (.ref l), some (.ref e), v1, some (.ref fn), v2, none] ∧ Same H H3 ∧ H3 e = some (.frz od (.dT kvs)) ∧ H3 fn = some (.lst (as'.map V.ref)) ∧
          Each (WAt C Z) as' ((((_root_.SW.every ws).take i).filter (_root_.SW.fresh ws)).map (·.2)))
        ⟨_, _, [], rfl, fun b o ho => ?_, upd_same, ?_, .nil⟩ (fun i σ H3 _ ⟨_, _, _, _, _, q, _⟩ => q) ?_ ?_⟩
      · rw [upd_ne (ne_of_none ho he), upd_ne (ne_of_none ho hfn0)]
        exact s2 _ _ ho
      · rw [upd_ne nfe, upd_same]
        rfl
      · rintro i x σ H3 H3' hi ⟨v1, v2, as', rfl, s3, he4, hf3, ea⟩ ⟨tp, mk, v, q, hkv, hq, rfl, htp, rfl⟩
        obtain ⟨m', wr, hev, em0, a, rfl, WA⟩ := tab_get tb hkv
        have em0 : mk = m' := em0
        subst em0
        obtain ⟨em1, em2⟩ := _root_.SW.every_sound (List.mem_of_getElem? hev)
        have s3' : Same H (upd H3 tp (.tup [.ref q, .ref a])) := fun b o ho => by rw [upd_ne (ne_of_none (s3 _ _ ho) htp)]; exact s3 _ _ ho
        have net : e ≠ tp := fun z => by rw [z, htp] at he4; cases he4
        have nft : fn ≠ tp := fun z => by rw [z, htp] at hf3; cases hf3
        have nqt : q ≠ tp := ne_of_none hq htp
        refine ⟨_, _, rfl, SqT.of upd_same, rfl, _, _, rfl, _, _, rfl, rfl, ?_⟩
        -- any([..])
        have hlk : upd H3 tp (.tup [.ref q, .ref a]) e = some (.frz od (.dT kvs)) := by rw [upd_ne net]; exact he4
        refine ⟨_, rfl, e, od, kvs, rfl, hlk, fun D hD => lc_it walk_VT
          (fun j H4 => Same (upd H3 tp (.tup [.ref q, .ref a])) H4 ∧ H4 D = some (.lst (((_root_.SW.every ws).take j).map fun o => V.bl (_root_.SW.sees mk o))))
          ⟨fun b o ho => ?_, upd_same⟩ (fun j H4 _ ⟨s4, _⟩ => s4 _ _ hlk) ?_ ?_⟩
        · rw [upd_ne (ne_of_none ho hD)]
          exact ho
        · rintro j y H4 H4' hj ⟨s4, hD4⟩ ⟨rfl, mj, hjv⟩
          obtain ⟨m2, wr2, hev2, rfl, a2, rfl, WA2⟩ := tab_get tb hjv
          obtain ⟨dx, m3, d, kws, g1, g2, g3, g4⟩ := WA2.mono sZ
          have q4 : H4' q = some (.tup (mk.map kV)) := s4 _ _ (by rw [upd_ne nqt]; exact hq)
          have s5 : Same H H4' := s3'.trans s4
          refine ⟨rfl, ?_⟩
          refine ⟨_, rfl, _, rfl, a2, C, dx, _, _, rfl, s5 _ _ g1, T.clW, T.nSeen, wf_seen _ _ _, d, _, rfl, DGet.t (k := mk) (s5 _ _ g3) q4, ?_⟩
          refine ⟨_, hD4, ?_, fun b o ho => ?_, ?_⟩
          · rw [List.length_map, List.length_take]
            have e2 := _root_.SW.every_length ws
            exact small1000 (by omega)
          · rw [upd_ne (ne_of_none ho hD)]
            exact s4 _ _ ho
          · rw [upd_same, take_next' hev2, List.map_append, valV_some_iff, g4]
            rfl
        · rintro H4 ⟨s4, hD4⟩
          have evl : kvs.length = (_root_.SW.every ws).length := tb.length
          rw [evl, List.take_length] at hD4
          refine ⟨D, (_root_.SW.every ws).map (_root_.SW.sees mk), rfl, SqL.of (by rw [hD4, List.map_map]; rfl), _, rfl, ?_⟩
          have ea2 : ((_root_.SW.every ws).map (_root_.SW.sees mk)).any id = (_root_.SW.every ws).any (_root_.SW.sees mk) := by
            rw [List.any_map]
            rfl
          rw [ea2]
          have s5 : Same H H4 := s3'.trans s4
          have he5 : H4 e = some (.frz od (.dT kvs)) := s4 _ _ hlk
          have hf5 : H4 fn = some (.lst (as'.map V.ref)) := s4 _ _ (by rw [upd_ne nft]; exact hf3)
          have step : ((_root_.SW.every ws).take (i + 1)) = (_root_.SW.every ws).take i ++ [(mk, wr)] := take_next' hev
          refine ite2 (fun hc => ?_) (fun hc => ?_)
          · refine ⟨_, rfl, .inl ⟨rfl, _, SqL.of hf5⟩, _, rfl, fn, _, _, rfl, rfl, hf5, ?_, ?_⟩
            · rw [List.length_map, ea.length, List.length_map]
              have e3 := List.length_filter_le (_root_.SW.fresh ws) ((_root_.SW.every ws).take i)
              rw [List.length_take] at e3
              exact small1000 (by omega)
            · refine ⟨_, _, as' ++ [a], rfl, fun b o ho => ?_, ?_, ?_, ?_⟩
              · rw [upd_ne (ne_of_none ho hfn0)]
                exact s5 _ _ ho
              · rw [upd_ne nfe.symm]
                exact he5
              · rw [upd_same, List.map_append]
                rfl
              · rw [step, List.filter_append, List.map_append]
                have : [(mk, wr)].filter (_root_.SW.fresh ws) = [(mk, wr)] := by
                  have hc' : _root_.SW.fresh ws (mk, wr) = true := hc
                  rw [List.filter_cons_of_pos hc']
                  rfl
                rw [this]
                exact each_snoc ea WA
          · refine ⟨_, _, as', rfl, s5, he5, hf5, ?_⟩
            rw [step, List.filter_append, List.map_append]
            have : [(mk, wr)].filter (_root_.SW.fresh ws) = [] := by
              have hc' : ¬ _root_.SW.fresh ws (mk, wr) = true := hc
              rw [List.filter_cons_of_neg hc']
              rfl
            rw [this]
            simpa using ea
      · rintro σ H3 ⟨v1, v2, as', rfl, s3, he4, hf3, ea⟩
        have evl : kvs.length = (_root_.SW.every ws).length := tb.length
        rw [evl, List.take_length] at ea
        refine ⟨he4, _, rfl, ?_⟩
        have s6 : Same H (upd H3 e (.dT kvs)) := fun b o ho => by rw [upd_ne (ne_of_none ho he)]; exact s3 _ _ ho
        exact k _ fn as' s6 hfn0 (by rw [upd_ne nfe]; exact hf3) ea

/-! ### unlike -/
theorem AtP.mono {H H' : Hp} {b : Addr} {p : Pr} (s : Same H H') (h : AtP H b p) : AtP H' b p := s _ _ h
def spUnlike (C : Addr) : Sp := fun vs H Q _ => ∃ (l : Addr) (ws : List Wri), vs = [.ref l] ∧ ListAt C H l ws ∧ ws.length < 64 ∧
  ∀ (H' : Hp) (D : Addr) (bs : List Addr), Same H H' → H D = none → H' D = some (.lst (bs.map V.ref)) → Each (AtP H') bs (setP (ws.map (·.text))) → Q (.ref D) H'
theorem ok_unlike {f C CB : Addr} {fd : FuncData} (F : Fun K "unlike" "unlike" sUnlike f fd) (T : Txt K mg C CB) : FnOk P w K mg base CX0 1 f fd ["writings"] (spUnlike C) := by
  refine F.ok scUnlike (fun vs H Q E h => ?_) (fun cdv A outer s H vs Q E hr h => ?_)
  · obtain ⟨l, ws, rfl, _⟩ := h
    rfl
  · obtain ⟨l, ws, rfl, ⟨as, hl, hw⟩, hlen, k⟩ := h
    have hu := hr.un
    refine ⟨_, pss_one (ps_ret (pe_sortSet rfl (by show A.units + 3 + 64 < cLine; have : A.units + 3 + 16 * 0 + 200 < cLine := hu; omega) (by rfl) T.sorted (by rfl) T.set
      (pe_lc (own := [("one", 1)]) (g := gName 1) (tt := tYes) (te := tTup (tCons (tFld K (tVar 1) "words") (tCons (tFld K (tVar 1) "made_from") tNil))) rfl scUnlike.nd (pi_list (pv 0))
        (blkOk_by (N := ["writings", "one"]) (sc := defScope sUnlike) (by decide +kernel)) (fun _ _ _ _ _ => pg_name (i := 1) scUnlike.nd rfl (Or.inl rfl)) (fun _ _ _ _ _ => pts_nil)
        (fun _ _ _ _ _ => pe_tup (pa_cons (pe_fld (pv 1) rfl) (pa_cons (pe_fld (pv 1) rfl) pa_nil)))))), ?_⟩
    refine ⟨_, rfl, l, rfl, ⟨_, SqL.of hl⟩, fun D hD => lc_list (K := K) (a := l) (xs := as.map V.ref)
      (fun j H4 => ∃ bs : List Addr, Same H H4 ∧ H4 D = some (.lst (bs.map V.ref)) ∧ Each (AtP H4) bs ((ws.take j).map (·.text)))
      ⟨[], fun b o ho => ?_, upd_same, .nil⟩ (fun j H4 _ ⟨_, s4, _⟩ => SqL.of (s4 _ _ hl)) ?_ ?_⟩
    · rw [upd_ne (ne_of_none ho hD)]
      exact ho
    · rintro j x H4 hj ⟨bs, s4, hD4, ea⟩
      rw [List.getElem?_map] at hj
      obtain ⟨a, ha, rfl⟩ := Option.map_eq_some_iff.mp hj
      obtain ⟨wr, hwj, dx, m, d, kws, g1, g2, g3, g4⟩ := each_get hw ha
      refine ⟨rfl, ?_⟩
      refine ⟨_, rfl, a, C, dx, _, _, rfl, s4 _ _ g1, T.clW, T.nWords, wf_words _ _ _, _, rfl, a, C, dx, _, _, rfl, s4 _ _ g1, T.clW, T.nMade, wf_made _ _ _, (by show 2 ≤ sizeLine; decide), fun t ht => ?_⟩
      have ntD : D ≠ t := fun z => by rw [z, ht] at hD4; cases hD4
      refine ⟨_, (upd_ne ntD).trans hD4, ?_, bs ++ [t], fun b o ho => ?_, ?_, ?_⟩
      · rw [List.length_map, ea.length, List.length_map, List.length_take]
        exact small1000 (by omega)
      · rw [upd_ne (ne_of_none ho hD), upd_ne (ne_of_none (s4 _ _ ho) ht)]
        exact s4 _ _ ho
      · rw [upd_same, List.map_append]
        rfl
      · rw [take_next' hwj, List.map_append]
        refine each_snoc (PySem.W.EachIs.mono (fun b p q => ?_) ea) ?_
        · have nb : b ≠ D := fun z => by rw [z] at q; have q' : H4 D = _ := q; rw [hD4] at q'; cases q'
          show upd (upd H4 t _) D _ b = _
          rw [upd_ne nb, upd_ne (ne_of_none q ht)]
          exact q
        · show upd (upd H4 t _) D _ t = _
          rw [upd_ne ntD.symm, upd_same]
    · rintro H4 ⟨bs, s4, hD4, ea⟩
      have e1 : as.length = ws.length := hw.length
      rw [List.length_map, e1, List.take_length] at ea
      refine ⟨D, bs, ws.map (·.text), rfl, SqL.of hD4, ea, (by rw [List.length_map]; exact hlen), fun D2 bs2 h2 e2 => ?_⟩
      have s5 : Same H4 (upd H4 D2 (.lst (bs2.map V.ref))) := fun b o ho => by rw [upd_ne (ne_of_none ho h2)]; exact ho
      exact k _ D2 bs2 (s4.trans s5) (s4.free h2) upd_same (PySem.W.EachIs.mono (fun b p q => AtP.mono s5 q) e2)
end
end L2.SR
/-! Book: __init__, write, take_in. -/
namespace L2.SR
open PySem PySem.Spec PyProof.Rows
theorem scBI : FnScope ["self", "hand"] ["self", "hand"] (defScope sBInit) := ⟨rfl, rfl, rfl, by decide +kernel, rfl, by decide +kernel, by decide +kernel⟩
theorem scWrite : FnScope ["self", "tongue", "key", "text", "first", "piece", "seen"] ["self", "tongue", "key", "text", "first"] (defScope sWrite) := ⟨rfl, rfl, rfl, by decide +kernel, rfl, by decide +kernel, by decide +kernel⟩
theorem scTake : FnScope ["self", "other", "piece", "writings", "mine"] ["self", "other"] (defScope sTake) := ⟨rfl, rfl, rfl, by decide +kernel, rfl, by decide +kernel, by decide +kernel⟩
def spBInit (CB : Addr) : Sp := fun vs H Q _ => ∃ (p dx : Addr) (h : Str), vs = [.ref p, .str h] ∧ H p = some (.ins CB dx []) ∧
  ∀ (H' : Hp) (d : Addr), H d = none → H' p = some (.ins CB dx (bf h 0 d)) → H' d = some (.dT []) → (∀ b, b ≠ p → b ≠ d → H' b = H b) → Q .non H'
def spWrite (C CB : Addr) : Sp := fun vs H Q _ => ∃ (Z : Hp) (p d : Addr) (b : Boo) (pc t : Pr), vs = [.ref p, .str pc.1, .str pc.2, .str t.1, .str t.2] ∧ Same Z H ∧ BookAt C CB Z H p d b ∧
  b.held.length ≤ 100 ∧ (_root_.SW.heldOf b pc).length ≤ 100 ∧ (∀ w ∈ _root_.SW.heldOf b pc, w.seen.length ≤ 100) ∧
  ∀ Z' H' : Hp, Ext Z H Z' → Same Z' H' → BookAt C CB Z' H' p d (_root_.SW.writeM mkM b pc t) → (∀ a o, H a = some o → a ≠ p → a ≠ d → H' a = some o) → Q .non H'
theorem Ext.add {Z H Z' : Hp} {a : Addr} {o : HO} (e : Ext Z H Z') (ha : H a = none) (hz : Z' a = none) : Ext Z H (upd Z' a o) where
  same := fun b u h => by
    have h' := e.same b u h
    rw [upd_ne (ne_of_none h' hz)]
    exact h'
  new := fun b u h => by
    by_cases q : b = a
    · rw [q]; exact .inr ha
    · rw [upd_ne q] at h
      exact e.new b u h
theorem Same.upd_new {Z H : Hp} {a : Addr} {o : HO} (s : Same Z H) (h : H a = some o) : Same (upd Z a o) H := fun b u e => by
  by_cases q : b = a
  · rw [q, upd_same] at e
    rw [q, ← e]
    exact h
  · rw [upd_ne q] at e
    exact s b u e
section
variable {P : Program} {w : World} {K : PySem.W.Frag} {mg : Str → Option Value} {base : Heap}
theorem ok_binit {f C CB : Addr} {fd : FuncData} (F : Fun K "__init__" "Book.__init__" sBInit f fd) (T : Txt K mg C CB) : FnOk P w K mg base CX0 1 f fd ["self", "hand"] (spBInit CB) := by
  refine F.ok scBI (fun vs H Q E h => ?_) (fun cdv A outer s H vs Q E hr h => ?_)
  · obtain ⟨p, dx, h, rfl, _⟩ := h
    rfl
  · obtain ⟨p, dx, h, rfl, hp, k⟩ := h
    refine ⟨_, pss_cons (ps_fld (pv 0) (pv 1) rfl) (pss_cons (ps_fld (pv 0) pe_int rfl) (pss_one (ps_fld (pv 0) pe_dnewT rfl))), ?_⟩
    refine ⟨_, rfl, _, rfl, p, CB, dx, [], rfl, hp, T.clB, T.nHand, (by show 0 < 1000; decide), ?_⟩
    refine ⟨_, rfl, p, CB, dx, _, rfl, upd_same, T.clB, T.nMany, (by show 1 < 1000; decide), ?_⟩
    intro d hd
    have ndp : d ≠ p := fun z => by rw [z, upd_same] at hd; cases hd
    have hd0 : H d = none := by rw [upd_ne ndp, upd_ne ndp] at hd; exact hd
    refine ⟨_, rfl, p, CB, dx, _, rfl, Eq.trans (upd_ne ndp.symm) upd_same, T.clB, T.nHeld, (by simp only [putF, if_neg nHM]; show 2 < 1000; decide), ?_⟩
    refine k _ d hd0 upd_same (Eq.trans (upd_ne ndp) upd_same) fun b h1 h2 => ?_
    rw [upd_ne h1, upd_ne h2, upd_ne h1, upd_ne h1]
theorem ok_write {f C CB fS fI : Addr} {fd fdS fdI : FuncData} (F : Fun K "write" "Book.write" sWrite f fd) (T : Txt K mg C CB) (FS : Fun K "seen_by_next" "seen_by_next" sSeen fS fdS) (bS : Binds K fdS ["writings"] []) (mgS : mg "seen_by_next" = some (.ref fS))
    (M : _root_.L2.Mk K C fI) (FI : Fun K "__init__" "Writing.__init__" sWInit fI fdI) (bI : Binds K fdI ["self", "mark", "words", "made_from", "seen"] []) : FnOk P w K mg base CX0 3 f fd ["self", "tongue", "key", "text", "first"] (spWrite C CB) := by
  have GS : FnOk P w K mg base CX0 1 fS fdS ["writings"] (spSeen C) := ok_seen FS T
  have GI : FnOk P w K mg base CX0 1 fI fdI ["self", "mark", "words", "made_from", "seen"] (spWInit C) := ok_winit FI T
  refine F.ok scWrite (fun vs H Q E h => ?_) (fun cdv A outer s H vs Q E hr h => ?_)
  · obtain ⟨Z, p, d, b, pc, t, rfl, _⟩ := h
    rfl
  · obtain ⟨Z, p, d, b, pc, t, rfl, sZ, B, hbl, hhl, hsl, k⟩ := h
    obtain ⟨⟨dx, hp⟩, ⟨kvs, hd, R⟩, zp, zd⟩ := id B
    have hu := hu_of hr
    have npd : p ≠ d := ne_of hp hd (by intro z; cases z)
    refine ⟨_, pss_cons (ps_set (i := 5) scWrite.nd rfl (Or.inl rfl) (pe_tup (pa_cons (pv 1) (pa_cons (pv 2) pa_nil))))
      (pss_cons (ps_set (i := 6) scWrite.nd rfl (Or.inl rfl) (pe_call GS (hr.mono (by decide)) rfl mgS FS.kp bS .nil pass0 (pa_cons (pe_dget2 hu (pe_fld (pv 0) rfl) (pv 5) (pe_lst pa_nil) ⟨rfl, rfl, rfl, rfl⟩) pa_nil)))
      (pss_cons (ps_fldaug (pv 0) pe_int in_add)
      (pss_one (ps_dput hu (pe_fld (pv 0) rfl) (pv 5) (pe_lst (pa_cons (pe_make M GI hr rfl T.mgW bI .nil pass0
        (pa_cons (pe_tup (pa_cons (pe_fld (pv 0) rfl) (pa_cons (pe_fld (pv 0) rfl) pa_nil))) (pa_cons (pv 3) (pa_cons (pv 4) (pa_cons (pv 6) pa_nil))))) pa_nil)) rfl)))), ?_⟩
    -- piece = (tongue, key)
    refine ⟨_, rfl, _, rfl, (by show 2 ≤ sizeLine; decide), fun q hq => ?_⟩
    have npq : p ≠ q := ne_of_none hp hq
    have ndq : d ≠ q := ne_of_none hd hq
    -- self.held.get(piece, [])
    refine ⟨_, rfl, p, CB, dx, _, _, rfl, (upd_ne npq).trans hp, T.clB, T.nHeld, bf_held _ _ _, d, rfl, .inr ⟨kvs, .inl ((upd_ne ndq).trans hd)⟩, _, rfl, Nat.zero_le _, fun l0 hl0 => ?_⟩
    have nql0 : q ≠ l0 := fun z => by rw [← z, upd_same] at hl0; cases hl0
    have hl00 : H l0 = none := by rw [upd_ne nql0.symm] at hl0; exact hl0
    have s2 : Same H (upd (upd H q (.tup [.str pc.1, .str pc.2])) l0 (.lst [])) := fun a o e => by
      rw [upd_ne (ne_of_none e hl00), upd_ne (ne_of_none e hq)]
      exact e
    have hq2 : upd (upd H q (.tup [.str pc.1, .str pc.2])) l0 (.lst []) q = some (.tup ((prKey pc).map kV)) := by
      rw [upd_ne nql0, upd_same]
      rfl
    refine ⟨valV kvs (prKey pc), DGet.t (k := prKey pc) (s2 _ _ hd) hq2, ?_⟩
    obtain ⟨la, hla, LA⟩ : ∃ la, (valV kvs (prKey pc)).getD (.ref l0) = .ref la ∧ ListAt C (upd (upd H q (.tup [.str pc.1, .str pc.2])) l0 (.lst [])) la (_root_.SW.heldOf b pc) := by
      rcases Tab.look (f := prKey) (fun _ _ z => prKey_inj z) R pc with ⟨v, ws, e1, e2, la, rfl, LA⟩ | ⟨e1, e2⟩
      · refine ⟨la, by rw [e1]; rfl, ?_⟩
        unfold _root_.SW.heldOf
        rw [e2]
        exact (LA.mono sZ).mono s2
      · refine ⟨l0, by rw [e1]; rfl, ?_⟩
        unfold _root_.SW.heldOf
        rw [e2]
        exact ⟨[], upd_same, .nil⟩
    rw [hla]
    refine ⟨la, _, rfl, LA, hhl, hsl, fun H3 ds kds s3 hds3 hds kk => ?_⟩
    have s03 : Same H H3 := s2.trans s3
    have hds0 : H ds = none := s2.free hds3
    -- self.many += 1
    refine ⟨_, rfl, p, CB, dx, _, _, rfl, s03 _ _ hp, T.clB, T.nMany, bf_many _ _ _, _, _, rfl, rfl, dx, _, s03 _ _ hp, (by rw [bf_eq]; show 3 < 1000; decide), ?_⟩
    rw [bf_put]
    -- (self.hand, self.many)
    refine ⟨_, rfl, p, CB, dx, _, _, rfl, upd_same, T.clB, T.nHand, bf_hand _ _ _, _, rfl, p, CB, dx, _, _, rfl, upd_same, T.clB, T.nMany, bf_many _ _ _, (by show 2 ≤ sizeLine; decide), fun tm htm => ?_⟩
    have ntmp : tm ≠ p := fun z => by rw [z, upd_same] at htm; cases htm
    have htm3 : H3 tm = none := by rw [upd_ne ntmp] at htm; exact htm
    have htm0 : H tm = none := s03.free htm3
    refine ⟨_, rfl, _, rfl, _, rfl, ?_⟩
    intro x dxw hx hdxw ndx
    have nxtm : x ≠ tm := fun z => by rw [z, upd_same] at hx; cases hx
    have nxp : x ≠ p := fun z => by rw [z, upd_ne ntmp.symm, upd_same] at hx; cases hx
    have hx3 : H3 x = none := by rw [upd_ne nxtm, upd_ne nxp] at hx; exact hx
    have hx0 : H x = none := s03.free hx3
    have ndtm : dxw ≠ tm := fun z => by rw [z, upd_same] at hdxw; cases hdxw
    have ndp2 : dxw ≠ p := fun z => by rw [z, upd_ne ntmp.symm, upd_same] at hdxw; cases hdxw
    have hdx3 : H3 dxw = none := by rw [upd_ne ndtm, upd_ne ndp2] at hdxw; exact hdxw
    refine ⟨x, tm, ds, dxw, t, rfl, upd_same, fun H6 h6x h6 => ⟨rfl, ?_⟩⟩
    have old6 : ∀ {a : Addr} {o : HO}, H3 a = some o → a ≠ p → H6 a = some o := fun {a o} e hap => by
      have n1 : a ≠ x := ne_of_none e hx3
      have n2 : a ≠ dxw := ne_of_none e hdx3
      have n3 : a ≠ tm := ne_of_none e htm3
      rw [h6 a n1, upd_ne n1, upd_ne n2, upd_ne n3, upd_ne hap]
      exact e
    have h6p : H6 p = some (.ins CB dx (bf b.hand ((b.many : Int) + 1) d)) := by
      rw [h6 p nxp.symm, upd_ne nxp.symm, upd_ne ndp2.symm, upd_ne ntmp.symm, upd_same]
    have h6tm : H6 tm = some (.tup [.str b.hand, .int ((b.many : Int) + 1)]) := by
      rw [h6 tm nxtm.symm, upd_ne nxtm.symm, upd_ne ndtm.symm, upd_same]
    have ndsp : ds ≠ p := fun z => by rw [z, hp] at hds0; cases hds0
    have h6ds : H6 ds = some (.dT kds) := old6 hds ndsp
    have h6d : H6 d = some (.dT kvs) := old6 (s03 _ _ hd) npd.symm
    have h6q : H6 q = some (.tup ((prKey pc).map kV)) := old6 (s3 _ _ hq2) (fun z => by rw [z] at hq; rw [hp] at hq; cases hq)
    -- [..]
    refine ⟨(by show 1 ≤ sizeLine; decide), fun l1 hl1 => ?_⟩
    have n1 : ∀ {a : Addr} {o : HO}, H6 a = some o → a ≠ l1 := fun e => ne_of_none e hl1
    have hl10 : H l1 = none := by
      cases e : H l1 with
      | none => rfl
      | some o =>
        by_cases hap : l1 = p
        · rw [hap, h6p] at hl1; cases hl1
        · rw [old6 (s03 _ _ e) hap] at hl1; cases hl1
    -- self.held[piece] = ..
    have klen : kvs.length < sizeLine := by
      have e1 : kvs.length = b.held.length := PySem.W.EachIs.length R
      exact small1000 (by omega)
    refine ⟨_, rfl, p, CB, dx, _, _, rfl, (upd_ne (n1 h6p)).trans h6p, T.clB, T.nHeld, bf_held _ _ _, _, rfl, d, _, rfl, DPut.t (k := prKey pc) ((upd_ne (n1 h6d)).trans h6d) ((upd_ne (n1 h6q)).trans h6q) klen, ?_⟩
    -- the new immutable part
    have nl1d : l1 ≠ d := (n1 h6d).symm
    have fin : ∀ {a : Addr} {o : HO}, H6 a = some o → a ≠ d → upd (upd H6 l1 (.lst [.ref x])) d (.dT (putK kvs (prKey pc) (.ref l1))) a = some o := fun e hd' => by
      rw [upd_ne hd', upd_ne (n1 e)]
      exact e
    have z0 : ∀ {a : Addr}, H a = none → Z a = none := fun h => sZ.free h
    obtain ⟨Z', eZ⟩ : ∃ Z' : Hp, Z' = upd (upd (upd (upd Z tm (.tup [.str b.hand, .int ((b.many : Int) + 1)])) ds (.dT kds)) x (.ins C dxw (wf tm t ds))) l1 (.lst [.ref x]) := ⟨_, rfl⟩
    have ntd : tm ≠ ds := (ne_of_none hds htm3).symm
    have nxds : x ≠ ds := (ne_of_none hds hx3).symm
    have nl1tm : l1 ≠ tm := (n1 h6tm).symm
    have nl1ds : l1 ≠ ds := (n1 h6ds).symm
    have nl1x : l1 ≠ x := (n1 h6x).symm
    have X1 : Ext Z H (upd Z tm (.tup [.str b.hand, .int ((b.many : Int) + 1)])) := (Ext.refl Z H).add htm0 (z0 htm0)
    have X2 := X1.add (o := .dT kds) hds0 (by rw [upd_ne ntd.symm]; exact z0 hds0)
    have X3 := X2.add (o := .ins C dxw (wf tm t ds)) hx0 (by rw [upd_ne nxds, upd_ne nxtm]; exact z0 hx0)
    have X4 := X3.add (o := .lst [.ref x]) hl10 (by rw [upd_ne nl1x, upd_ne nl1ds, upd_ne nl1tm]; exact z0 hl10)
    rw [← eZ] at X4
    have sZ3 : ∀ a o, Z a = some o → a ≠ p → a ≠ d → upd (upd H6 l1 (.lst [.ref x])) d (.dT (putK kvs (prKey pc) (.ref l1))) a = some o := fun a o e h1 h2 => fin (old6 (s03 _ _ (sZ a o e)) h1) h2
    have SZ : Same Z' (upd (upd H6 l1 (.lst [.ref x])) d (.dT (putK kvs (prKey pc) (.ref l1)))) := by
      rw [eZ]
      refine Same.upd_new (Same.upd_new (Same.upd_new (Same.upd_new (fun a o e => sZ3 a o e (fun z => by rw [z, zp] at e; cases e) (fun z => by rw [z, zd] at e; cases e)) ?_) ?_) ?_) ?_
      · exact fin h6tm (fun z => by rw [z, hd] at htm0; cases htm0)
      · exact fin h6ds (fun z => by rw [z, hd] at hds0; cases hds0)
      · exact fin h6x (fun z => by rw [z, hd] at hx0; cases hx0)
      · rw [upd_ne nl1d, upd_same]
    have LZ : ListAt C Z' l1 [⟨mkM b.hand (b.many + 1), t, _root_.SW.seenBy (_root_.SW.heldOf b pc)⟩] := by
      refine ⟨[x], by rw [eZ, upd_same]; rfl, .cons ⟨dxw, tm, ds, kds, ?_, ?_, ?_, kk⟩ .nil⟩
      · rw [eZ, upd_ne nl1x.symm, upd_same]
      · rw [eZ, upd_ne nl1tm.symm, upd_ne nxtm.symm, upd_ne ntd, upd_same]
        rfl
      · rw [eZ, upd_ne nl1ds.symm, upd_ne nxds.symm, upd_same]
    refine k Z' _ X4 SZ ⟨⟨dx, fin h6p npd⟩, ⟨_, upd_same, ?_⟩, X4.gone zp (by rw [hp]; exact fun h => nomatch h), X4.gone zd (by rw [hd]; exact fun h => nomatch h)⟩ fun a o e h1 h2 => fin (old6 (s03 _ _ e) h1) h2
    exact Tab.put (f := prKey) (fun _ _ z => prKey_inj z) (DictR.mono X4.same R) pc ⟨l1, rfl, LZ⟩
end
end L2.SR
/-! Book.take_in. -/
namespace L2.SR
open PySem PySem.Spec PyProof.Rows
theorem takeH_next {h c : Held} {i : Nat} {pw : Pr × List Wri} (e : c[i]? = some pw) :
    _root_.SW.takeH h (c.take (i + 1)) = _root_.SW.put (_root_.SW.takeH h (c.take i)) pw.1 (_root_.SW.unseen ((_root_.SW.look (_root_.SW.takeH h (c.take i)) pw.1).getD [] ++ pw.2)) := by
  unfold _root_.SW.takeH
  rw [take_next' e, List.foldl_append]
  rfl
theorem takeH_length : ∀ (c h : Held), (_root_.SW.takeH h c).length ≤ h.length + c.length
  | [], h => Nat.le_refl _
  | x :: c, h => by
    have a := takeH_length c (_root_.SW.put h x.1 (_root_.SW.unseen ((_root_.SW.look h x.1).getD [] ++ x.2)))
    have b := _root_.SW.put_length h x.1 (_root_.SW.unseen ((_root_.SW.look h x.1).getD [] ++ x.2))
    show (_root_.SW.takeH (_root_.SW.put h x.1 (_root_.SW.unseen ((_root_.SW.look h x.1).getD [] ++ x.2))) c).length ≤ _
    rw [List.length_cons]
    omega
/-- a piece not yet joined is as it was -/
theorem takeH_old {h c : Held} (hc : (c.map (·.1)).Nodup) (hh : (h.map (·.1)).Nodup) {i : Nat} {pw : Pr × List Wri} (e : c[i]? = some pw) :
    (_root_.SW.look (_root_.SW.takeH h (c.take i)) pw.1).getD [] = (_root_.SW.look h pw.1).getD [] := by
  have hn : ((c.take i).map (·.1)).Nodup := by
    rw [List.map_take]
    exact hc.sublist (List.take_sublist _ _)
  obtain ⟨_, _, t3⟩ := _root_.SW.take_go (c.take i) h hn hh
  rw [t3, if_neg]
  intro hm
  rw [List.map_take] at hm
  obtain ⟨j, hj⟩ := List.mem_iff_getElem?.mp hm
  have hji : j < i := by
    have := (List.getElem?_eq_some_iff.mp hj).1
    rw [List.length_take] at this
    omega
  rw [List.getElem?_take, if_pos hji] at hj
  have hi : (c.map (·.1))[i]? = some pw.1 := by rw [List.getElem?_map, e]; rfl
  have : j = i := (List.getElem?_inj (List.getElem?_eq_some_iff.mp hj).1 hc).mp (hj.trans hi.symm)
  omega
def spTake (C CB : Addr) : Sp := fun vs H Q _ => ∃ (Z : Hp) (p d p2 d2 : Addr) (b c : Boo), vs = [.ref p, .ref p2] ∧ Same Z H ∧ BookAt C CB Z H p d b ∧ BookAt C CB Z H p2 d2 c ∧ d ≠ d2 ∧
  (c.held.map (·.1)).Nodup ∧ (b.held.map (·.1)).Nodup ∧ b.held.length ≤ 100 ∧ c.held.length ≤ 100 ∧ (∀ pc, (_root_.SW.heldOf b pc).length ≤ 100) ∧ (∀ pc, (_root_.SW.heldOf c pc).length ≤ 100) ∧
  ∀ Z' H' : Hp, Ext Z H Z' → Same Z' H' → BookAt C CB Z' H' p d (_root_.SW.takeM b c) → (∀ a o, H a = some o → a ≠ d → H' a = some o) → Q .non H'
section
variable {P : Program} {w : World} {K : PySem.W.Frag} {mg : Str → Option Value} {base : Heap}
theorem ok_take {f C CB fU : Addr} {fd fdU : FuncData} (F : Fun K "take_in" "Book.take_in" sTake f fd) (T : Txt K mg C CB) (FU : Fun K "unseen" "unseen" sUnseen fU fdU) (bU : Binds K fdU ["writings"] []) (mgU : mg "unseen" = some (.ref fU)) :
    FnOk P w K mg base CX0 2 f fd ["self", "other"] (spTake C CB) := by
  have GU : FnOk P w K mg base CX0 1 fU fdU ["writings"] (spUnseen C) := ok_unseen FU T
  refine F.ok scTake (fun vs H Q E h => ?_) (fun cdv A outer s H vs Q E hr h => ?_)
  · obtain ⟨Z, p, d, p2, d2, b, c, rfl, _⟩ := h
    rfl
  · obtain ⟨Z, p, d, p2, d2, b, c, rfl, sZ, B, B2, hdd, ncd, nbd, lb, lc, lbp, lcp, k⟩ := h
    obtain ⟨⟨dx, hp⟩, ⟨kvs, hd, R⟩, zp, zd⟩ := id B
    obtain ⟨⟨dx2, hp2⟩, ⟨kvs2, hd2, R2⟩, zp2, zd2⟩ := id B2
    have hu := hu_of hr
    have npd : p ≠ d := ne_of hp hd (by intro z; cases z)
    have npd2 : p ≠ d2 := ne_of hp hd2 (by intro z; cases z)
    refine ⟨_, pss_one (ps_lock (ps_for PassesOwn.never rfl (pi_itemsT (pe_fld (pv 1) rfl)) (pg_tup rfl (pgs_cons (pg_name (i := 2) scTake.nd rfl (Or.inl rfl)) (pgs_cons (pg_name (i := 3) scTake.nd rfl (Or.inl rfl)) pgs_nil)))
      (pss_cons (ps_set (i := 4) scTake.nd rfl (Or.inl rfl) (pe_dget2 hu (pe_fld (pv 0) rfl) (pv 2) (pe_lst pa_nil) ⟨rfl, rfl, rfl, rfl⟩))
      (pss_one (ps_dput hu (pe_fld (pv 0) rfl) (pv 2) (pe_call GU hr rfl mgU FU.kp bU .nil pass0 (pa_cons (pe_op op_cat (pv 4) (pv 3)) pa_nil)) rfl))))), ?_⟩
    refine ⟨d2, _, hd2, trivial, fun od => ?_⟩
    have np2d2 : p2 ≠ d2 := ne_of hp2 hd2 (by intro z; cases z)
    refine ⟨_, rfl, p2, CB, dx2, _, _, rfl, (upd_ne np2d2).trans hp2, T.clB, T.nHeld, bf_held _ _ _, d2, od, kvs2, rfl, upd_same, for_it walk_IT
      (fun i σ H3 => ∃ (v2 v3 v4 : Option V) (Z' : Hp) (kvs' : List (List Key × V)), σ = [some (.ref p), some (.ref p2), v2, v3, v4] ∧ Ext Z H Z' ∧ Same Z' H3 ∧ H3 d2 = some (.frz od (.dT kvs2)) ∧
        (∀ a o, H a = some o → a ≠ d → a ≠ d2 → H3 a = some o) ∧ H3 d = some (.dT kvs') ∧ DictR C Z' kvs' (_root_.SW.takeH b.held (c.held.take i)))
      ⟨none, none, none, Z, kvs, rfl, Ext.refl Z H, fun a o e => ?_, upd_same, fun a o e _ h2 => (upd_ne h2).trans e, (upd_ne hdd).trans hd, R⟩ (fun i σ H3 _ ⟨_, _, _, _, _, _, _, _, q, _⟩ => q) ?_ ?_⟩
    · rw [upd_ne (fun z => by rw [z, zd2] at e; cases e)]
      exact sZ _ _ e
    · rintro i x σ H3 H3' hi ⟨v2, v3, v4, Z', kvs', rfl, X, sZ3, h2f, old, hd3, R3⟩ ⟨tp, mk, v, q, hkv, hq, rfl, htp, rfl⟩
      obtain ⟨pc, ws, hci, rfl, lw, rfl, LW⟩ := tab_get R2 hkv
      obtain ⟨as2, hlw, ew⟩ := LW
      have hwl : ws.length ≤ 100 := by
        have e1 : _root_.SW.heldOf c pc = ws := by
          unfold _root_.SW.heldOf
          rw [_root_.SW.look_of_mem ncd (List.mem_of_getElem? hci)]
          rfl
        rw [← e1]
        exact lcp pc
      have up1 : ∀ {a : Addr} {o : HO}, H3 a = some o → upd H3 tp (.tup [.ref q, .ref lw]) a = some o := fun e => (upd_ne (ne_of_none e htp)).trans e
      refine ⟨_, _, rfl, SqT.of upd_same, rfl, _, _, rfl, _, _, rfl, rfl, ?_⟩
      -- mine
      have hp3 : H3 p = _ := old _ _ hp npd npd2
      refine ⟨_, rfl, p, CB, dx, _, _, rfl, up1 hp3, T.clB, T.nHeld, bf_held _ _ _, d, rfl, .inr ⟨kvs', .inl (up1 hd3)⟩, _, rfl, Nat.zero_le _, fun l0 hl0 => ?_⟩
      have up2 : ∀ {a : Addr} {o : HO}, H3 a = some o → upd (upd H3 tp (.tup [.ref q, .ref lw])) l0 (.lst []) a = some o := fun e => (upd_ne (ne_of_none (up1 e) hl0)).trans (up1 e)
      refine ⟨valV kvs' (prKey pc), DGet.t (k := prKey pc) (up2 hd3) (up2 hq), ?_⟩
      obtain ⟨lm, as1, hlm, h1, e1⟩ : ∃ lm as1, (valV kvs' (prKey pc)).getD (.ref l0) = .ref lm ∧ upd (upd H3 tp (.tup [.ref q, .ref lw])) l0 (.lst []) lm = some (.lst (as1.map V.ref)) ∧
          Each (WAt C Z') as1 ((_root_.SW.look (_root_.SW.takeH b.held (c.held.take i)) pc).getD []) := by
        rcases Tab.look (f := prKey) (fun _ _ z => prKey_inj z) R3 pc with ⟨v, wm, e1, e2, la, rfl, as1, g1, g2⟩ | ⟨e1, e2⟩
        · exact ⟨la, as1, by rw [e1]; rfl, up2 (sZ3 _ _ g1), by rw [e2]; exact g2⟩
        · exact ⟨l0, [], by rw [e1]; rfl, upd_same, by rw [e2]; exact .nil⟩
      rw [hlm]
      have hml : ((_root_.SW.look (_root_.SW.takeH b.held (c.held.take i)) pc).getD []).length ≤ 100 := by
        rw [takeH_old ncd nbd hci]
        exact lbp pc
      have l1 : as1.length = _ := e1.length
      have l2 : as2.length = _ := ew.length
      -- mine + writings
      have hlw3 : H3 lw = some (.lst (as2.map V.ref)) := sZ3 _ _ (X.same _ _ hlw)
      refine ⟨_, rfl, _, rfl, lm, lw, _, _, rfl, rfl, h1, up2 hlw3, ?_, fun lk hlk => ?_⟩
      · rw [List.length_map, List.length_map]
        exact Nat.le_of_lt (small1000 (by omega))
      have up3 : ∀ {a : Addr} {o : HO}, H3 a = some o → upd (upd (upd H3 tp (.tup [.ref q, .ref lw])) l0 (.lst [])) lk (.lst (as1.map V.ref ++ as2.map V.ref)) a = some o := fun e => (upd_ne (ne_of_none (up2 e) hlk)).trans (up2 e)
      refine ⟨Z', lk, as1 ++ as2, (_root_.SW.look (_root_.SW.takeH b.held (c.held.take i)) pc).getD [] ++ ws, rfl, fun a o e => up3 (sZ3 _ _ e), (by rw [upd_same, List.map_append]), each_append e1 (ew.mono fun _ _ g => g.mono X.same), ?_, fun H6 l' as' s6 hl' h6 e6 => ?_⟩
      · rw [List.length_append]
        omega
      have old6 : ∀ {a : Addr} {o : HO}, H3 a = some o → H6 a = some o := fun e => s6 _ _ (up3 e)
      have hl30 : H3 l' = none := by
        cases e : H3 l' with
        | none => rfl
        | some o => rw [up3 e] at hl'; cases hl'
      have hl00 : H l' = none := by
        cases e : H l' with
        | none => rfl
        | some o =>
          by_cases z1 : l' = d
          · rw [z1, hd3] at hl30; cases hl30
          · by_cases z2 : l' = d2
            · rw [z2, h2f] at hl30; cases hl30
            · rw [old _ _ e z1 z2] at hl30; cases hl30
      have klen : kvs'.length < sizeLine := by
        have a1 : kvs'.length = _ := PySem.W.EachIs.length R3
        have a2 := takeH_length (c.held.take i) b.held
        have a3 : (c.held.take i).length ≤ c.held.length := by rw [List.length_take]; omega
        exact small1000 (by omega)
      refine ⟨_, rfl, p, CB, dx, _, _, rfl, old6 hp3, T.clB, T.nHeld, bf_held _ _ _, _, rfl, d, _, rfl, DPut.t (k := prKey pc) (old6 hd3) (old6 hq) klen, ?_⟩
      have zl : Z' l' = none := by
        cases e : Z' l' with
        | none => rfl
        | some o => rw [sZ3 _ _ e] at hl30; cases hl30
      have zd' : Z' d = none := X.gone zd (by rw [hd]; exact fun h => nomatch h)
      have nl'd : l' ≠ d := fun z => by rw [z, hd3] at hl30; cases hl30
      have X' := X.add (o := .lst (as'.map V.ref)) hl00 zl
      refine ⟨_, _, _, upd Z' l' (.lst (as'.map V.ref)), _, rfl, X', Same.upd_new (fun a o e => ?_) ?_, ?_, fun a o e z1 z2 => ?_, upd_same, ?_⟩
      · rw [upd_ne (fun z => by rw [z, zd'] at e; cases e)]
        exact old6 (sZ3 _ _ e)
      · rw [upd_ne nl'd]
        exact h6
      · rw [upd_ne hdd.symm]
        exact old6 h2f
      · rw [upd_ne z1]
        exact old6 (old _ _ e z1 z2)
      · rw [takeH_next hci]
        have sZZ : Same Z' (upd Z' l' (.lst (as'.map V.ref))) := fun a o e => (upd_ne (ne_of_none e zl)).trans e
        exact Tab.put (f := prKey) (fun _ _ z => prKey_inj z) (DictR.mono sZZ R3) pc ⟨l', rfl, as', upd_same, e6.mono fun _ _ g => g.mono sZZ⟩
    · rintro σ H3 ⟨v2, v3, v4, Z', kvs', rfl, X, sZ3, h2f, old, hd3, R3⟩
      have el : kvs2.length = c.held.length := PySem.W.EachIs.length R2
      rw [el, List.take_length] at R3
      have zd2' : Z' d2 = none := X.gone zd2 (by rw [hd2]; exact fun h => nomatch h)
      refine ⟨h2f, k Z' _ X (fun a o e => ?_) ⟨⟨dx, ?_⟩, ⟨kvs', ?_, R3⟩, X.gone zp (by rw [hp]; exact fun h => nomatch h), X.gone zd (by rw [hd]; exact fun h => nomatch h)⟩ fun a o e h1 => ?_⟩
      · rw [upd_ne (fun z => by rw [z, zd2'] at e; cases e)]
        exact sZ3 _ _ e
      · rw [upd_ne npd2]
        exact old _ _ hp npd npd2
      · rw [upd_ne hdd]
        exact hd3
      · by_cases z : a = d2
        · rw [z, hd2] at e
          rw [z, upd_same]
          exact e
        · rw [upd_ne z]
          exact old _ _ e h1 z
end
end L2.SR
/-! Book.told, Book.clashes. -/
namespace L2.SR
open PySem PySem.Spec PyProof.Rows
theorem scTold : FnScope ["self", "found", "piece"] ["self"] (defScope sTold) := ⟨rfl, rfl, rfl, by decide +kernel, rfl, by decide +kernel, by decide +kernel⟩
theorem scClash : FnScope ["self", "piece"] ["self"] (defScope sClash) := ⟨rfl, rfl, rfl, by decide +kernel, rfl, by decide +kernel, by decide +kernel⟩
/-- the unlike pairs held of a piece -/
def pairsOf (b : Boo) (p : Pr) : List Pr := setP ((_root_.SW.heldOf b p).map (·.text))
def keysOf (b : Boo) : List Pr := srtP (b.held.map (·.1))
def toldM (b : Boo) : List (Pr × List Pr) := (keysOf b).map fun p => (p, pairsOf b p)
def clashM (b : Boo) : List Pr := (keysOf b).filter fun p => decide (1 < (pairsOf b p).length)
def RowAt (H : Hp) (t : Addr) (r : Pr × List Pr) : Prop := ∃ (l : Addr) (bs : List Addr), H t = some (.tup [.str r.1.1, .str r.1.2, .ref l]) ∧ H l = some (.lst (bs.map V.ref)) ∧ Each (AtP H) bs r.2
theorem RowAt.mono {H H' : Hp} {t : Addr} {r : Pr × List Pr} (s : Same H H') (h : RowAt H t r) : RowAt H' t r := by
  obtain ⟨l, bs, h1, h2, h3⟩ := h
  exact ⟨l, bs, s _ _ h1, s _ _ h2, h3.mono fun _ _ q => AtP.mono s q⟩
def ToldAt (H : Hp) (D : Addr) (rows : List (Pr × List Pr)) : Prop := ∃ ts : List Addr, H D = some (.lst (ts.map V.ref)) ∧ Each (RowAt H) ts rows
def PairsAt (H : Hp) (D : Addr) (ps : List Pr) : Prop := ∃ bs : List Addr, H D = some (.lst (bs.map V.ref)) ∧ Each (AtP H) bs ps
theorem ToldAt.mono {H H' : Hp} {D : Addr} {rows : List (Pr × List Pr)} (s : Same H H') (h : ToldAt H D rows) : ToldAt H' D rows := by
  obtain ⟨ts, h1, h2⟩ := h
  exact ⟨ts, s _ _ h1, h2.mono fun _ _ q => q.mono s⟩
theorem PairsAt.mono {H H' : Hp} {D : Addr} {ps : List Pr} (s : Same H H') (h : PairsAt H D ps) : PairsAt H' D ps := by
  obtain ⟨ts, h1, h2⟩ := h
  exact ⟨ts, s _ _ h1, h2.mono fun _ _ q => AtP.mono s q⟩
/-- H without what stands at a -/
def del (H : Hp) (a : Addr) : Hp := fun b => if b = a then none else H b
theorem del_ne {H : Hp} {a b : Addr} (h : b ≠ a) : del H a b = H b := if_neg h
theorem del_same (H : Hp) (a : Addr) : Same (del H a) H := fun b o e => by
  unfold del at e
  split at e
  · cases e
  · exact e
theorem same_del {H H' : Hp} {a : Addr} (s : Same H H') (h : H a = none) : Same H (del H' a) := fun b o e => by
  rw [del_ne (ne_of_none e h)]
  exact s _ _ e
theorem del_upd {H : Hp} {a : Addr} {o : HO} : Same (del H a) (del (upd H a o) a) := fun b u e => by
  by_cases h : b = a
  · rw [h] at e
    unfold del at e
    rw [if_pos rfl] at e
    cases e
  · rw [del_ne h, upd_ne h]
    rw [del_ne h] at e
    exact e
theorem del_mono {H H' : Hp} {a : Addr} (s : ∀ b o, b ≠ a → H b = some o → H' b = some o) : Same (del H a) (del H' a) := fun b u e => by
  by_cases h : b = a
  · rw [h] at e
    unfold del at e
    rw [if_pos rfl] at e
    cases e
  · rw [del_ne h]
    rw [del_ne h] at e
    exact s _ _ h e
def spTold (C CB : Addr) : Sp := fun vs H Q _ => ∃ (Z : Hp) (p d : Addr) (b : Boo), vs = [.ref p] ∧ Same Z H ∧ BookAt C CB Z H p d b ∧ (b.held.map (·.1)).Nodup ∧ b.held.length ≤ 100 ∧ (∀ pc, (_root_.SW.heldOf b pc).length < 64) ∧
  ∀ (H' : Hp) (D : Addr), Same H H' → H D = none → ToldAt H' D (toldM b) → Q (.ref D) H'
def spClash (C CB : Addr) : Sp := fun vs H Q _ => ∃ (Z : Hp) (p d : Addr) (b : Boo), vs = [.ref p] ∧ Same Z H ∧ BookAt C CB Z H p d b ∧ (b.held.map (·.1)).Nodup ∧ b.held.length ≤ 100 ∧ (∀ pc, (_root_.SW.heldOf b pc).length < 64) ∧
  ∀ (H' : Hp) (D : Addr), Same H H' → H D = none → PairsAt H' D (clashM b) → Q (.ref D) H'
abbrev rLenS (K : PySem.W.Frag) : List V → Hp → VK → Prop := fun xs H Q => ∃ p ys, xs = [.ref p] ∧ (SqL K H p ys ∨ SqT K H p ys) ∧ Q (.int ys.length) H
/-- a piece's writings, as the dict gives them -/
theorem get_piece {C : Addr} {Z H : Hp} {kvs : List (List Key × V)} {b : Boo} {d q : Addr} {p : Pr} (R : DictR C Z kvs b.held) (hd : H d = some (.dT kvs)) (hq : AtP H q p) (hm : p ∈ b.held.map (·.1)) :
    ∃ la, DGet H d (.ref q) (some (.ref la)) ∧ ListAt C Z la (_root_.SW.heldOf b p) := by
  have hq' : H q = some (.tup ((prKey p).map kV)) := hq
  have g := DGet.t (k := prKey p) hd hq'
  rcases Tab.look (f := prKey) (fun _ _ z => prKey_inj z) R p with ⟨v, ws, e1, e2, la, rfl, LA⟩ | ⟨e1, e2⟩
  · refine ⟨la, by rw [← e1]; exact g, ?_⟩
    unfold _root_.SW.heldOf
    rw [e2]
    exact LA
  · have := (_root_.SW.look_some_iff b.held p).mpr hm
    rw [e2] at this
    cases this
section
variable {P : Program} {w : World} {K : PySem.W.Frag} {mg : Str → Option Value} {base : Heap}
theorem ok_told {f C CB fK : Addr} {fd fdK : FuncData} (F : Fun K "told" "Book.told" sTold f fd) (T : Txt K mg C CB) (FK : Fun K "unlike" "unlike" sUnlike fK fdK) (bK : Binds K fdK ["writings"] []) (mgK : mg "unlike" = some (.ref fK)) :
    FnOk P w K mg base CX0 2 f fd ["self"] (spTold C CB) := by
  have GK : FnOk P w K mg base CX0 1 fK fdK ["writings"] (spUnlike C) := ok_unlike FK T
  refine F.ok scTold (fun vs H Q E h => ?_) (fun cdv A outer s H vs Q E hr h => ?_)
  · obtain ⟨Z, p, d, b, rfl, _⟩ := h
    rfl
  · obtain ⟨Z, p, d, b, rfl, sZ, B, nb, lb, lp, k⟩ := h
    obtain ⟨⟨dx, hp⟩, ⟨kvs, hd, R⟩, zp, zd⟩ := id B
    have hu := hu_of hr
    have hu64 : A.units + 3 + 64 < cLine := by have : A.units + 3 + 16 * 1 + 200 < cLine := hr.un; omega
    refine ⟨_, pss_cons (ps_set (i := 1) scTold.nd rfl (Or.inl rfl) (pe_lst pa_nil))
      (pss_cons (ps_for PassesOwn.never rfl (pi_list (pe_callB (cr_sortDT rfl hu64) (by rfl) T.sorted boot_sorted (pa_cons (pe_fld (pv 0) rfl) pa_nil))) (pg_name (i := 2) scTold.nd rfl (Or.inl rfl))
        (pss_one (ps_expr (pe_bm PySem.F.plainAttrs_list PySem.F.slot_list_append PySem.F.type_list_append mt_append (pv 1) (pa_cons
          (pe_tup (pa_cons (pe_ix ix_tup (pv 2) pe_int (fun _ _ => rfl)) (pa_cons (pe_ix ix_tup (pv 2) pe_int (fun _ _ => rfl))
            (pa_cons (pe_call GK hr rfl mgK FK.kp bK .nil pass0 (pa_cons (pe_dget hu (pe_fld (pv 0) rfl) (pv 2) (fun _ _ => rfl)) pa_nil)) pa_nil)))) pa_nil)))))
      (pss_one (ps_ret (pv 1)))), ?_⟩
    refine ⟨Nat.zero_le _, fun fn hfn => ?_⟩
    have u0 : ∀ {a : Addr} {o : HO}, H a = some o → upd H fn (.lst []) a = some o := fun e => (upd_ne (ne_of_none e hfn)).trans e
    refine ⟨_, rfl, p, CB, dx, _, _, rfl, u0 hp, T.clB, T.nHeld, bf_held _ _ _, d, kvs, b.held.map (·.1), rfl, u0 hd, Tab.keys R, fun D qs hD hqs => ?_⟩
    have hD0 : H D = none := by
      cases e : H D with
      | none => rfl
      | some o => rw [u0 e] at hD; cases hD
    have nDf : D ≠ fn := fun z => by rw [z, upd_same] at hD; cases hD
    have hqs' : Each (AtP H) qs (keysOf b) := hqs.mono fun q p h => by
      have nq : q ≠ fn := fun z => by have h' : upd H fn _ q = _ := h; rw [z, upd_same] at h'; cases h'
      have h' : upd H fn (.lst []) q = _ := h
      rw [upd_ne nq] at h'
      exact h'
    refine ⟨D, rfl, ⟨_, SqL.of upd_same⟩, for_list (K := K) (a := D) (xs := qs.map V.ref)
      (fun i σ H3 => ∃ (v : Option V) (ts : List Addr), σ = [some (.ref p), some (.ref fn), v] ∧ Same H (del H3 fn) ∧ H3 D = some (.lst (qs.map V.ref)) ∧ H3 fn = some (.lst (ts.map V.ref)) ∧ Each (RowAt (del H3 fn)) ts ((toldM b).take i))
      ⟨none, [], rfl, same_del (fun a o e => (upd_ne (ne_of_none e hD0)).trans (u0 e)) hfn, upd_same, (upd_ne nDf.symm).trans upd_same, .nil⟩ (fun i σ H3 _ ⟨_, _, _, _, q, _⟩ => SqL.of q) ?_ ?_⟩
    · rintro i x σ H3 hi ⟨v, ts, rfl, s3, hD3, hf3, et⟩
      rw [List.getElem?_map] at hi
      obtain ⟨q, hq, rfl⟩ := Option.map_eq_some_iff.mp hi
      obtain ⟨pc, hpc, aq⟩ := each_get hqs' hq
      have up : ∀ {a : Addr} {o : HO}, H a = some o → H3 a = some o := fun e => del_same _ _ _ _ (s3 _ _ e)
      have aq3 : AtP H3 q pc := up aq
      have hm : pc ∈ b.held.map (·.1) := (srtP_perm _).mem_iff.mp (List.mem_of_getElem? hpc)
      obtain ⟨la, hg, LA⟩ := get_piece R (up hd) aq3 hm
      refine ⟨_, rfl, .inl ⟨rfl, _, SqL.of hf3⟩, _, rfl, q, _, _, _, rfl, rfl, SqT.of aq3, at_of (j := 0) rfl rfl, _, rfl, q, _, _, _, rfl, rfl, SqT.of aq3, at_of (j := 1) rfl rfl, ?_⟩
      refine ⟨_, rfl, p, CB, dx, _, _, rfl, up hp, T.clB, T.nHeld, bf_held _ _ _, _, rfl, d, _, rfl, hg, la, _, rfl, (LA.mono sZ).mono (fun a o e => up e), lp pc, fun H4 D4 bs4 s4 hD4 h4 e4 => ?_⟩
      refine ⟨(by show 3 ≤ sizeLine; decide), fun t ht => ?_⟩
      have hf4 : H4 fn = some (.lst (ts.map V.ref)) := s4 _ _ hf3
      have ntf : fn ≠ t := fun z => by rw [z, ht] at hf4; cases hf4
      refine ⟨fn, _, _, rfl, rfl, (upd_ne ntf).trans hf4, ?_, ?_⟩
      · rw [List.length_map, et.length, List.length_take]
        unfold toldM keysOf
        rw [List.length_map, (srtP_perm _).length_eq, List.length_map]
        exact small1000 (by omega)
      have nDf4 : D4 ≠ fn := fun z => by rw [z, hf3] at hD4; cases hD4
      have up4 : ∀ {a : Addr} {o : HO}, H4 a = some o → a ≠ fn → upd (upd H4 t (.tup [.str pc.1, .str pc.2, .ref D4])) fn (.lst (ts.map V.ref ++ [.ref t])) a = some o := fun e h => by
        rw [upd_ne h, upd_ne (ne_of_none e ht)]
        exact e
      have sd : Same (del H3 fn) (del (upd (upd H4 t (.tup [.str pc.1, .str pc.2, .ref D4])) fn (.lst (ts.map V.ref ++ [.ref t]))) fn) := del_mono fun a o h e => up4 (s4 _ _ e) h
      refine ⟨_, ts ++ [t], rfl, s3.trans sd, up4 (s4 _ _ hD3) nDf, ?_, ?_⟩
      · rw [upd_same, List.map_append]
        rfl
      · have hnext : (toldM b)[i]? = some (pc, pairsOf b pc) := by
          unfold toldM
          rw [List.getElem?_map, hpc]
          rfl
        rw [take_next' hnext]
        refine each_snoc (et.mono fun _ _ r => r.mono sd) ⟨D4, bs4, ?_, ?_, ?_⟩
        · rw [del_ne ntf.symm, upd_ne ntf.symm, upd_same]
        · rw [del_ne nDf4]
          exact up4 h4 nDf4
        · refine e4.mono fun b4 p4 h => ?_
          have nb4 : b4 ≠ fn := fun z => by have h' : H4 b4 = _ := h; rw [z, hf4] at h'; cases h'
          show del _ fn b4 = _
          rw [del_ne nb4]
          exact up4 h nb4
    · rintro σ H3 ⟨v, ts, rfl, s3, hD3, hf3, et⟩
      have el : (qs.map V.ref).length = (toldM b).length := by
        rw [List.length_map, hqs'.length]
        unfold toldM
        rw [List.length_map]
      rw [el, List.take_length] at et
      exact ⟨_, rfl, k H3 fn (s3.trans (del_same _ _)) hfn ⟨ts, hf3, et.mono fun _ _ r => r.mono (del_same _ _)⟩⟩
theorem ok_clash {f C CB fK : Addr} {fd fdK : FuncData} (F : Fun K "clashes" "Book.clashes" sClash f fd) (T : Txt K mg C CB) (FK : Fun K "unlike" "unlike" sUnlike fK fdK) (bK : Binds K fdK ["writings"] []) (mgK : mg "unlike" = some (.ref fK)) :
    FnOk P w K mg base CX0 2 f fd ["self"] (spClash C CB) := by
  have GK : FnOk P w K mg base CX0 1 fK fdK ["writings"] (spUnlike C) := ok_unlike FK T
  refine F.ok scClash (fun vs H Q E h => ?_) (fun cdv A outer s H vs Q E hr h => ?_)
  · obtain ⟨Z, p, d, b, rfl, _⟩ := h
    rfl
  · obtain ⟨Z, p, d, b, rfl, sZ, B, nb, lb, lp, k⟩ := h
    obtain ⟨⟨dx, hp⟩, ⟨kvs, hd, R⟩, zp, zd⟩ := id B
    have hu := hu_of hr
    have hu64 : A.units + 3 + 64 < cLine := by have : A.units + 3 + 16 * 1 + 200 < cLine := hr.un; omega
    refine ⟨_, pss_one (ps_ret (pe_lc (own := [("piece", 1)]) (g := gName 1)
      (tt := tTest (tOp (rI0 fun i j => .bl (decide (j < i))) (tCB (rLenS K) (tCons (tCall (spUnlike C) [] E0 (tCons (tDGet (tFld K (tVar 0) "held") (tVar 1)) tNil)) tNil)) (tC (.int 1)))) (te := tVar 1) rfl scClash.nd
      (pi_list (pe_callB (cr_sortDT rfl hu64) (by rfl) T.sorted boot_sorted (pa_cons (pe_fld (pv 0) rfl) pa_nil))) (blkOk_by (N := ["self", "piece"]) (sc := defScope sClash) (by decide +kernel))
      (fun _ _ _ _ _ => pg_name (i := 1) scClash.nd rfl (Or.inl rfl))
      (fun _ _ _ _ _ => pts_one (pt_cmpR op_gt (pe_callB call_len_seq (by rfl) T.len PySem.boot_len (pa_cons (pe_call GK hr rfl mgK FK.kp bK .nil pass0 (pa_cons (pe_dget hu (pe_fld (pv 0) rfl) (pv 1) (fun _ _ => rfl)) pa_nil)) pa_nil)) pe_int (nomark _)))
      (fun _ _ _ _ _ => pv 1))), ?_⟩
    refine ⟨_, rfl, p, CB, dx, _, _, rfl, hp, T.clB, T.nHeld, bf_held _ _ _, d, kvs, b.held.map (·.1), rfl, hd, Tab.keys R, fun D qs hD hqs => ?_⟩
    have u0 : ∀ {a : Addr} {o : HO}, H a = some o → upd H D (.lst (qs.map V.ref)) a = some o := fun e => (upd_ne (ne_of_none e hD)).trans e
    refine ⟨D, rfl, ⟨_, SqL.of upd_same⟩, fun fn hfn => ?_⟩
    have hfn0 : H fn = none := by
      cases e : H fn with
      | none => rfl
      | some o => rw [u0 e] at hfn; cases hfn
    have nDf : D ≠ fn := fun z => by rw [← z, upd_same] at hfn; cases hfn
    refine lc_list (K := K) (a := D) (xs := qs.map V.ref)
      (fun i H3 => ∃ ts : List Addr, Same H (del H3 fn) ∧ H3 D = some (.lst (qs.map V.ref)) ∧ H3 fn = some (.lst (ts.map V.ref)) ∧ Each (AtP (del H3 fn)) ts (((keysOf b).take i).filter fun p => decide (1 < (pairsOf b p).length)))
      ⟨[], same_del (fun a o e => (upd_ne (ne_of_none e hfn0)).trans (u0 e)) hfn0, (upd_ne nDf).trans upd_same, upd_same, .nil⟩ (fun i H3 _ ⟨_, _, q, _⟩ => SqL.of q) ?_ ?_
    · rintro i x H3 hi ⟨ts, s3, hD3, hf3, et⟩
      rw [List.getElem?_map] at hi
      obtain ⟨q, hq, rfl⟩ := Option.map_eq_some_iff.mp hi
      obtain ⟨pc, hpc, aq⟩ := each_get hqs hq
      have up : ∀ {a : Addr} {o : HO}, H a = some o → H3 a = some o := fun e => del_same _ _ _ _ (s3 _ _ e)
      have aq3 : AtP H3 q pc := up aq
      have hm : pc ∈ b.held.map (·.1) := (srtP_perm _).mem_iff.mp (List.mem_of_getElem? hpc)
      obtain ⟨la, hg, LA⟩ := get_piece R (up hd) aq3 hm
      refine ⟨rfl, ?_⟩
      refine ⟨_, rfl, p, CB, dx, _, _, rfl, up hp, T.clB, T.nHeld, bf_held _ _ _, _, rfl, d, _, rfl, hg, la, _, rfl, (LA.mono sZ).mono (fun a o e => up e), lp pc, fun H4 D4 bs4 s4 hD4 h4 e4 => ?_⟩
      have hlen : (bs4.map V.ref).length = (pairsOf b pc).length := by
        rw [List.length_map]
        exact e4.length
      refine ⟨D4, _, rfl, .inl (SqL.of h4), _, _, rfl, rfl, _, rfl, ?_⟩
      have step : (keysOf b).take (i + 1) = (keysOf b).take i ++ [pc] := take_next' hpc
      have ntf : ∀ {a : Addr} {o : HO}, H4 a = some o → a ≠ fn → upd H4 fn (.lst (ts.map V.ref ++ [.ref q])) a = some o := fun e h => (upd_ne h).trans e
      have cond : decide ((1 : Int) < (((bs4.map V.ref).length : Nat) : Int)) = decide (1 < (pairsOf b pc).length) := by
        rw [hlen, decide_eq_decide]
        omega
      refine ite2 (fun hc => ?_) (fun hc => ?_)
      · rw [cond] at hc
        refine ⟨_, rfl, _, s4 _ _ hf3, ?_, ts ++ [q], s3.trans (del_mono fun a o h e => ntf (s4 _ _ e) h), ntf (s4 _ _ hD3) nDf, ?_, ?_⟩
        · rw [List.length_map, et.length]
          have := List.length_filter_le (fun p => decide (1 < (pairsOf b p).length)) ((keysOf b).take i)
          rw [List.length_take] at this
          have e5 : (keysOf b).length = b.held.length := by
            unfold keysOf
            rw [(srtP_perm _).length_eq, List.length_map]
          exact small1000 (by omega)
        · rw [upd_same, List.map_append]
          rfl
        · have nqf : q ≠ fn := fun z => by have h' : H q = _ := aq; rw [z, hfn0] at h'; cases h'
          rw [step, List.filter_append, List.filter_cons_of_pos (by exact hc)]
          refine each_snoc (et.mono fun _ _ r => AtP.mono (del_mono fun a o h e => ntf (s4 _ _ e) h) r) ?_
          show del _ fn q = _
          rw [del_ne nqf]
          exact ntf (s4 _ _ aq3) nqf
      · rw [cond] at hc
        refine ⟨ts, s3.trans (del_mono fun a o h e => s4 _ _ e), s4 _ _ hD3, s4 _ _ hf3, ?_⟩
        rw [step, List.filter_append, List.filter_cons_of_neg (by exact hc)]
        have e6 : ∀ l : List Pr, l ++ List.filter (fun p => decide (1 < (pairsOf b p).length)) [] = l := fun l => List.append_nil l
        rw [e6]
        exact et.mono fun _ _ r => AtP.mono (del_mono fun a o h e => s4 _ _ e) r
    · rintro H3 ⟨ts, s3, hD3, hf3, et⟩
      have el : (qs.map V.ref).length = (keysOf b).length := by
        rw [List.length_map]
        exact hqs.length
      rw [el, List.take_length] at et
      exact k H3 fn (s3.trans (del_same _ _)) hfn0 ⟨ts, hf3, et.mono fun _ _ r => AtP.mono (del_same _ _) r⟩
end
end L2.SR
/-! The law's helpers: cell, words, rows of signs, pairs. -/
namespace L2.SR
open PySem PySem.Spec PyProof.Rows

/-! ### texts -/
def sgn (z : Str) (i : Int) : Str := ⟨#[z.cps.toList.getD i.toNat 0]⟩
theorem sgn_len (z : Str) (i : Int) : (sgn z i).length = 1 := rfl
theorem at_sgn {z : Str} {i : Int} (h0 : 0 ≤ i) (h1 : i < (z.length : Int)) : atI z.cps.toList i = some (z.cps.toList.getD i.toNat 0) := by
  have hl : z.cps.toList.length = z.length := Array.length_toList
  have e : i = ((i.toNat : Nat) : Int) := by omega
  have hlt : i.toNat < z.cps.toList.length := by omega
  have hg : z.cps.toList[i.toNat]? = some (z.cps.toList.getD i.toNat 0) := by
    rw [List.getD_eq_getElem?_getD, List.getElem?_eq_getElem hlt]
    rfl
  rw [e, atI_nat (j := i.toNat) hg]
  rfl
theorem app_len (a b : Str) : (a ++ b).length = a.length + b.length := by
  show (a.cps ++ b.cps).size = _
  rw [Array.size_append]
  rfl
theorem app_right_inj {a b c : Str} (h : a ++ c = b ++ c) : a = b := by
  have h' : a.cps ++ c.cps = b.cps ++ c.cps := congrArg Str.cps h
  have h2 : a.cps.toList ++ c.cps.toList = b.cps.toList ++ c.cps.toList := by
    have := congrArg Array.toList h'
    rwa [Array.toList_append, Array.toList_append] at this
  have h3 := List.append_cancel_right h2
  cases a; cases b
  congr 1
  exact Array.toList_inj.mp h3
theorem app_left_inj {a b c : Str} (h : c ++ a = c ++ b) : a = b := by
  have h' : c.cps ++ a.cps = c.cps ++ b.cps := congrArg Str.cps h
  have h2 : c.cps.toList ++ a.cps.toList = c.cps.toList ++ b.cps.toList := by
    have := congrArg Array.toList h'
    rwa [Array.toList_append, Array.toList_append] at this
  have h3 := List.append_cancel_left h2
  cases a; cases b
  congr 1
  exact Array.toList_inj.mp h3
theorem sgn_inj {z : Str} (hn : z.cps.toList.Nodup) {i j : Int} (i0 : 0 ≤ i) (i1 : i < (z.length : Int)) (j0 : 0 ≤ j) (j1 : j < (z.length : Int)) (h : sgn z i = sgn z j) : i = j := by
  have hl : z.cps.toList.length = z.length := Array.length_toList
  have e : z.cps.toList.getD i.toNat 0 = z.cps.toList.getD j.toNat 0 := by
    have h' : (#[z.cps.toList.getD i.toNat 0] : Array Nat) = #[z.cps.toList.getD j.toNat 0] := congrArg Str.cps h
    have h2 := congrArg Array.toList h'
    injection h2
  have hi : i.toNat < z.cps.toList.length := by omega
  have hj : j.toNat < z.cps.toList.length := by omega
  rw [List.getD_eq_getElem?_getD, List.getD_eq_getElem?_getD, List.getElem?_eq_getElem hi, List.getElem?_eq_getElem hj] at e
  have := (List.getElem_inj hn).mp e
  omega
theorem foldl_size (x : Array Nat) : ∀ (n : Nat) (acc : Array Nat), ((List.replicate n x).foldl (· ++ ·) acc).size = acc.size + n * x.size
  | 0, acc => by simp
  | n + 1, acc => by
    rw [List.replicate_succ, List.foldl_cons, foldl_size x n, Array.size_append, Nat.add_mul]
    omega
theorem mul_len {x : Str} (hx : x.length = 1) {n : Int} (h : 1 ≤ n) : (Txt.mul x n).length = n.toNat := by
  unfold Txt.mul
  rw [if_neg (by omega)]
  by_cases e : (n == 1 || x.length == 0) = true
  · rw [if_pos e]
    have : n = 1 := by
      rw [hx] at e
      simpa using e
    rw [hx, this]
    rfl
  · rw [if_neg e]
    show ((List.replicate n.toNat x.cps).foldl (· ++ ·) #[]).size = _
    rw [foldl_size]
    have : x.cps.size = 1 := hx
    rw [this]
    simp
theorem modIn (x : Int) {j : Int} (h : 0 < j) : 0 ≤ x % j ∧ x % j < j := ⟨Int.emod_nonneg x (by omega), Int.emod_lt_of_pos x h⟩
theorem divOk {j : Int} (h : 0 < j) (h2 : j < 1073741824) : CDiv 0 j := ⟨h, h2⟩
/-- the rules' forms -/
abbrev tAd (a b : TE) : TE := tOp (rI0 fun i j => .int (i + j)) a b
abbrev tMu (a b : TE) : TE := tOp (rI CMul fun i j => .int (i * j)) a b
abbrev tDi (a b : TE) : TE := tOp (rI CDiv fun i j => .int (i / j)) a b
abbrev tMo (a b : TE) : TE := tOp (rI (fun _ j => 0 < j) fun i j => .int (i % j)) a b
abbrev tI (i : Int) : TE := tC (.int i)
abbrev rAddS : R2 := fun x y H Q => ∃ i j, x = V.str i ∧ y = V.str j ∧ i.length + j.length ≤ sizeLine ∧ Q (V.str (i ++ j)) H
abbrev rMulS : R2 := fun x y H Q => ∃ z n, x = .str z ∧ y = .int n ∧ 0 ≤ n ∧ n ≤ 1000 ∧ z.length ≤ 1000 ∧ Q (.str (Txt.mul z n)) H

theorem scCell : FnScope ["_law_script", "_law_k"] ["_law_script", "_law_k"] (defScope sCell) := ⟨rfl, rfl, rfl, by decide +kernel, rfl, by decide +kernel, by decide +kernel⟩
theorem scWords : FnScope ["_law_cell", "_law_many", "_law_letters", "_law_wide", "_law_at", "_law_base", "_law_k", "_law_j"] ["_law_cell", "_law_many"] (defScope sWords) := ⟨rfl, rfl, rfl, by decide +kernel, rfl, by decide +kernel, by decide +kernel⟩
theorem scRow : FnScope ["_law_cell", "_law_signs", "_law_step", "_law_j"] ["_law_cell"] (defScope sRow) := ⟨rfl, rfl, rfl, by decide +kernel, rfl, by decide +kernel, by decide +kernel⟩
theorem scPair : FnScope ["_law_cell", "_law_plain"] ["_law_cell", "_law_plain"] (defScope sPair) := ⟨rfl, rfl, rfl, by decide +kernel, rfl, by decide +kernel, by decide +kernel⟩
def spCell (K : PySem.W.Frag) : Sp := fun vs H Q _ => ∃ (l : Addr) (ns : List Int) (k : Nat), vs = [.ref l, .int k] ∧ SqL K H l (ns.map V.int) ∧ Q (.int (ns.getD k 0)) H
def letters : Str := "abcdefghijkmnopqrstuvwxyz"
def signs : Str := (" !\"#$&'()*+,-./0123456789:;<=>?@ABCDEFGHIJKLMNOPQRSTUVWXYZ[\\]^_`" : Str) ++ ("abcdefghijklmnopqrstuvwxyz{|}~" : Str)
theorem letters_len : letters.length = 25 := by decide +kernel
theorem letters_nd : letters.cps.toList.Nodup := by decide +kernel
theorem signs_len : signs.length = 94 := by decide +kernel
def spWords : Sp := fun vs H Q _ => ∃ (c : Int) (m : Nat), vs = [.int c, .int m] ∧ m ≤ 5 ∧
  ∀ (H' : Hp) (D : Addr) (ss : List Str), Same H H' → H D = none → H' D = some (.lst (ss.map V.str)) → ss.length = m → ss.Nodup → Q (.ref D) H'
def rowM (c : Int) : Str := if c % 9 = 4 then Txt.mul (sgn signs (c / 9 % 94)) 1000
  else Txt.join "" ((List.range (c % 41).toNat).map fun (j : Nat) => sgn signs ((c / 41 + (1 + c / 3690 % 93) * (j : Int)) % 94))
def spRow : Sp := fun vs H Q _ => ∃ c : Int, vs = [.int c] ∧ ∀ H', Same H H' → Q (.str (rowM c)) H'
def pairM (c : Int) (pl : Bool) : Pr := if pl = true then (if c % 2 = 0 then "a" else "b", if c / 2 % 3 = 1 then "b" else "a") else (rowM c, rowM (c * 7919 % 2147483647))
def spPair : Sp := fun vs H Q _ => ∃ (c : Int) (pl : Bool), vs = [.int c, .bl pl] ∧ ∀ (H' : Hp) (t : Addr), Same H H' → H t = none → AtP H' t (pairM c pl) → Q (.ref t) H'
section
variable {P : Program} {w : World} {K : PySem.W.Frag} {mg : Str → Option Value} {base : Heap}
theorem ok_cell {f C CB : Addr} {fd : FuncData} (F : Fun K "_law_cell_at" "_law_cell_at" sCell f fd) (T : Txt K mg C CB) : FnOk P w K mg base CX0 1 f fd ["_law_script", "_law_k"] (spCell K) := by
  refine F.ok scCell (fun vs H Q E h => ?_) (fun cdv A outer s H vs Q E hr h => ?_)
  · obtain ⟨l, ns, k, rfl, _⟩ := h
    rfl
  · obtain ⟨l, ns, k, rfl, hl, q⟩ := h
    refine ⟨_, pss_cons (ps_if (pt_cmpR op_lt (pv 1) (pe_callB call_len_seq (by rfl) T.len PySem.boot_len (pa_cons (pv 0) pa_nil)) (nomark _)) (pss_one (ps_ret (pe_ix ix_list (pv 0) (pv 1) (fun _ _ => rfl)))) pss_nil)
      (pss_one (ps_ret pe_int)), ?_⟩
    refine ⟨_, rfl, _, rfl, l, _, rfl, .inl hl, _, _, rfl, rfl, _, rfl, ?_⟩
    rw [List.length_map]
    refine ite2 (fun hc => ?_) (fun hc => ?_)
    · have hk : k < ns.length := by have := of_decide_eq_true hc; omega
      refine ⟨_, rfl, _, rfl, l, _, _, _, rfl, rfl, hl, atI_cell hk, ?_⟩
      exact q
    · have hk : ¬ k < ns.length := by have := of_decide_eq_false (Bool.eq_false_iff.mpr hc); omega
      have e : ns.getD k 0 = 0 := by
        rw [List.getD_eq_getElem?_getD, List.getElem?_eq_none (by omega)]
        rfl
      rw [e] at q
      exact q
theorem ok_row {f C CB : Addr} {fd : FuncData} (F : Fun K "_law_sign_row" "_law_sign_row" sRow f fd) (T : Txt K mg C CB) : FnOk P w K mg base CX0 1 f fd ["_law_cell"] spRow := by
  refine F.ok scRow (fun vs H Q E h => ?_) (fun cdv A outer s H vs Q E hr h => ?_)
  · obtain ⟨c, rfl, _⟩ := h
    rfl
  · obtain ⟨c, rfl, k⟩ := h
    refine ⟨_, pss_cons (ps_set (i := 1) scRow.nd rfl (Or.inr rfl) pe_str) (pss_cons (ps_set (i := 1) scRow.nd rfl (Or.inr rfl) (pe_op op_add_str (pv 1) pe_str))
      (pss_cons (ps_if (pt_cmpR op_eq (pe_op op_mod (pv 0) pe_int) pe_int (nomark _)) (pss_one (ps_ret (pe_op op_mulS (pe_ix ix_str (pv 1) (pe_op op_mod (pe_op op_fdiv (pv 0) pe_int) pe_int) (fun _ _ => rfl)) pe_int))) pss_nil)
      (pss_cons (ps_set (i := 2) scRow.nd rfl (Or.inr rfl) (pe_op op_add pe_int (pe_op op_mod (pe_op op_fdiv (pv 0) pe_int) pe_int)))
      (pss_one (ps_ret (pe_join pe_str (pe_lc (own := [("_law_j", 3)]) (g := gName 3) (tt := tYes) (te := tOp rIxS (tVar 1) (tMo (tAd (tDi (tVar 0) (tI 41)) (tMu (tVar 2) (tVar 3))) (tI 94))) rfl scRow.nd
        (pi_range1 rfl T.range (pa_cons (pe_op op_mod (pv 0) pe_int) pa_nil)) (blkOk_by (N := ["_law_cell", "_law_signs", "_law_step", "_law_j"]) (sc := defScope sRow) (by decide +kernel))
        (fun _ _ _ _ _ => pg_name (i := 3) scRow.nd rfl (Or.inl rfl)) (fun _ _ _ _ _ => pts_nil)
        (fun _ _ _ _ _ => pe_ix ix_str (pv 1) (pe_op op_mod (pe_op op_add (pe_op op_fdiv (pv 0) pe_int) (pe_op op_mul (pv 2) (pv 3))) pe_int) (fun _ _ => rfl))))))))), ?_⟩
    refine ⟨_, rfl, _, _, rfl, rfl, (by decide +kernel), ?_⟩
    refine ⟨_, rfl, _, _, rfl, rfl, (show (0 : Int) < 9 by decide), ?_⟩
    refine ⟨rfl, _, rfl, ?_⟩
    refine ite2 (fun hc => ?_) (fun hc => ?_)
    · have hc9 : c % 9 = 4 := by
        have := of_decide_eq_true hc
        injection this
      have hm := modIn (c / 9) (j := 94) (by decide)
      refine ⟨_, rfl, _, rfl, _, _, rfl, rfl, ⟨by decide, by decide⟩, _, _, rfl, rfl, (show (0 : Int) < 94 by decide), _, _, _, rfl, rfl, (by decide +kernel), at_sgn (z := signs) hm.1 (by rw [signs_len]; exact hm.2), ?_⟩
      refine ⟨_, _, rfl, rfl, (by decide), (by decide), (by show 1 ≤ 1000; decide), ?_⟩
      have e : rowM c = Txt.mul (sgn signs (c / 9 % 94)) 1000 := if_pos hc9
      rw [show (⟨#[signs.cps.toList.getD (c / 9 % 94).toNat 0]⟩ : Str) = sgn signs (c / 9 % 94) from rfl, ← e]
      exact k H (Same.refl _)
    · have hc9 : ¬ c % 9 = 4 := fun z => hc (decide_eq_true (by show V.int (c % 9) = _; rw [z]))
      have h41 := modIn c (j := 41) (by decide)
      have h93 := modIn (c / 3690) (j := 93) (by decide)
      refine ⟨_, rfl, _, _, rfl, rfl, ⟨by decide, by decide⟩, _, _, rfl, rfl, (show (0 : Int) < 93 by decide), _, _, rfl, rfl, ?_⟩
      refine ⟨⟨_, rfl⟩, _, rfl, _, _, rfl, rfl, (show (0 : Int) < 41 by decide), _, rfl, (by omega), (by omega), fun D hD => ?_⟩
      have pj : ∀ {i : Nat}, i < (c % 41).toNat → (i : Int) < 41 := fun h => by omega
      refine lc_range (lo := 0) (n := (c % 41).toNat)
        (fun i H3 => Same H H3 ∧ H3 D = some (.lst (((List.range i).map fun (j : Nat) => sgn signs ((c / 41 + (1 + c / 3690 % 93) * (j : Int)) % 94)).map V.str)))
        ⟨fun a o e => (upd_ne (ne_of_none e hD)).trans e, upd_same⟩ ?_ ?_
      · rintro i H3 hi ⟨s3, hD3⟩
        have hm := modIn (c / 41 + (1 + c / 3690 % 93) * (0 + (i : Int))) (j := 94) (by decide)
        refine ⟨rfl, ?_⟩
        refine ⟨_, rfl, _, rfl, _, _, rfl, rfl, ⟨by decide, by decide⟩, _, rfl, _, rfl, _, _, rfl, rfl, .inl ⟨by omega, by omega⟩, _, _, rfl, rfl, _, _, rfl, rfl, (show (0 : Int) < 94 by decide), ?_⟩
        refine ⟨_, _, _, rfl, rfl, (by decide +kernel), at_sgn (z := signs) hm.1 (by rw [signs_len]; exact hm.2), _, hD3, ?_, fun a o e => ?_, ?_⟩
        · rw [List.length_map, List.length_map, List.length_range]
          exact small1000 (by omega)
        · rw [upd_ne (ne_of_none e hD)]
          exact s3 _ _ e
        · rw [upd_same, List.range_succ, List.map_append, List.map_append, Int.zero_add]
          rfl
      · rintro H3 ⟨s3, hD3⟩
        refine ⟨_, D, _, rfl, rfl, .inl (SqL.of hD3), ?_, ?_⟩
        · have hs : ∀ n : Nat, (((List.range n).map fun (j : Nat) => sgn signs ((c / 41 + (1 + c / 3690 % 93) * (j : Int)) % 94)).map fun x => x.length).sum = n := fun n => by
            rw [List.map_map]
            induction n with
            | zero => rfl
            | succ n ih =>
              rw [List.range_succ, List.map_append, List.sum_append, ih]
              rfl
          rw [hs, List.length_map, List.length_range]
          show _ + _ * 0 ≤ 16777216
          omega
        · have e : rowM c = _ := if_neg hc9
          rw [← e]
          exact k H3 s3
theorem ok_pair {f fR C CB : Addr} {fd fdR : FuncData} (F : Fun K "_law_pair" "_law_pair" sPair f fd) (T : Txt K mg C CB) (FR : Fun K "_law_sign_row" "_law_sign_row" sRow fR fdR) (bR : Binds K fdR ["_law_cell"] []) (mgR : mg "_law_sign_row" = some (.ref fR)) :
    FnOk P w K mg base CX0 2 f fd ["_law_cell", "_law_plain"] spPair := by
  have GR : FnOk P w K mg base CX0 1 fR fdR ["_law_cell"] spRow := ok_row FR T
  refine F.ok scPair (fun vs H Q E h => ?_) (fun cdv A outer s H vs Q E hr h => ?_)
  · obtain ⟨c, pl, rfl, _⟩ := h
    rfl
  · obtain ⟨c, pl, rfl, k⟩ := h
    refine ⟨_, pss_cons (ps_if (pt_val (pv 1)) (pss_one (ps_ret (pe_tup (pa_cons (pe_ix ix_list (pe_lst (pa_cons pe_str (pa_cons pe_str pa_nil))) (pe_op op_mod (pv 0) pe_int) (fun _ _ => rfl))
        (pa_cons (pe_ix ix_list (pe_lst (pa_cons pe_str (pa_cons pe_str (pa_cons pe_str pa_nil)))) (pe_op op_mod (pe_op op_fdiv (pv 0) pe_int) pe_int) (fun _ _ => rfl)) pa_nil))))) pss_nil)
      (pss_one (ps_ret (pe_tup (pa_cons (pe_call GR hr rfl mgR FR.kp bR .nil pass0 (pa_cons (pv 0) pa_nil))
        (pa_cons (pe_call GR hr rfl mgR FR.kp bR .nil pass0 (pa_cons (pe_op op_mod (pe_op op_mul (pv 0) pe_int) pe_int) pa_nil)) pa_nil))))), ?_⟩
    refine ⟨_, rfl, _, rfl, ?_⟩
    refine ite2 (fun hc => ?_) (fun hc => ?_)
    · have h2 := modIn c (j := 2) (by decide)
      have h3 := modIn (c / 2) (j := 3) (by decide)
      have a2 : atI [V.str "a", V.str "b"] (c % 2) = some (.str (if c % 2 = 0 then "a" else "b")) := by
        rcases (show c % 2 = 0 ∨ c % 2 = 1 by omega) with e | e <;> rw [e] <;> rfl
      have a3 : atI [V.str "a", V.str "b", V.str "a"] (c / 2 % 3) = some (.str (if c / 2 % 3 = 1 then "b" else "a")) := by
        rcases (show c / 2 % 3 = 0 ∨ c / 2 % 3 = 1 ∨ c / 2 % 3 = 2 by omega) with e | e | e <;> rw [e] <;> rfl
      refine ⟨(by show 2 ≤ sizeLine; decide), fun l1 hl1 => ⟨_, rfl, _, _, rfl, rfl, (show (0 : Int) < 2 by decide), l1, _, _, _, rfl, rfl, SqL.of upd_same, a2, ?_⟩⟩
      refine ⟨(by show 3 ≤ sizeLine; decide), fun l2 hl2 => ⟨_, rfl, _, _, rfl, rfl, ⟨by decide, by decide⟩, _, _, rfl, rfl, (show (0 : Int) < 3 by decide), l2, _, _, _, rfl, rfl, SqL.of upd_same, a3, ?_⟩⟩
      refine ⟨(by show 2 ≤ sizeLine; decide), fun t ht => ?_⟩
      have u0 : ∀ {a : Addr} {o : HO}, H a = some o → upd (upd H l1 (.lst [V.str "a", V.str "b"])) l2 (.lst [V.str "a", V.str "b", V.str "a"]) a = some o := fun {a} {o} e => by
        have e1 : upd H l1 (.lst [V.str "a", V.str "b"]) a = some o := (upd_ne (ne_of_none e hl1)).trans e
        exact (upd_ne (ne_of_none e1 hl2)).trans e1
      refine k _ t (fun a o e => (upd_ne (ne_of_none (u0 e) ht)).trans (u0 e)) ?_ ?_
      · cases e : H t with
        | none => rfl
        | some o => rw [u0 e] at ht; cases ht
      · have e : pairM c pl = ((if c % 2 = 0 then "a" else "b", if c / 2 % 3 = 1 then "b" else "a") : Pr) := if_pos hc
        rw [e]
        exact upd_same
    · refine ⟨_, rfl, c, rfl, fun H1 s1 => ?_⟩
      refine ⟨_, rfl, _, _, rfl, rfl, .inr ⟨by decide, by decide⟩, _, _, rfl, rfl, (show (0 : Int) < 2147483647 by decide), _, rfl, fun H2 s2 => ?_⟩
      refine ⟨(by show 2 ≤ sizeLine; decide), fun t ht => ?_⟩
      have u0 := s1.trans s2
      refine k _ t (fun a o e => (upd_ne (ne_of_none (u0 _ _ e) ht)).trans (u0 _ _ e)) (u0.free ht) ?_
      have e : pairM c pl = (rowM c, rowM (c * 7919 % 2147483647)) := if_neg hc
      rw [e]
      exact upd_same
end
end L2.SR
/-! The law's helpers: words unlike one another. -/
namespace L2.SR
open PySem PySem.Spec PyProof.Rows
theorem join_len (sep : Str) (ys : List Str) : (Txt.join sep ys).length ≤ (ys.map (·.length)).sum + ys.length * sep.length := by
  show (PySem.Builtin.Str.glued sep ys).length ≤ _
  rw [StrLaws.glued_eq_join]
  exact StrLaws.join_length_le sep ys
theorem nodup_range {α : Type} (f : Nat → α) (n : Nat) (h : ∀ i j, i < n → j < n → f i = f j → i = j) : ((List.range n).map f).Nodup := by
  induction n with
  | zero => exact List.nodup_nil
  | succ n ih =>
    rw [List.range_succ, List.map_append]
    refine List.nodup_append.mpr ⟨ih fun i j hi hj => h i j (by omega) (by omega), by simp, ?_⟩
    intro a ha b hb e
    obtain ⟨i, hi, rfl⟩ := List.mem_map.mp ha
    rw [List.map_cons, List.map_nil, List.mem_singleton] at hb
    have := h i n (by have := List.mem_range.mp hi; omega) (by omega) (e.trans hb)
    have := List.mem_range.mp hi
    omega
section
variable {P : Program} {w : World} {K : PySem.W.Frag} {mg : Str → Option Value} {base : Heap}
theorem ok_words {f C CB : Addr} {fd : FuncData} (F : Fun K "_law_some_words" "_law_some_words" sWords f fd) (T : Txt K mg C CB) : FnOk P w K mg base CX0 1 f fd ["_law_cell", "_law_many"] spWords := by
  refine F.ok scWords (fun vs H Q E h => ?_) (fun cdv A outer s H vs Q E hr h => ?_)
  · obtain ⟨c, m, rfl, _⟩ := h
    rfl
  · obtain ⟨c, m, rfl, hm, k⟩ := h
    refine ⟨_, pss_cons (ps_set (i := 2) scWords.nd rfl (Or.inr rfl) pe_str)
      (pss_cons (ps_if (pt_cmpR op_eq (pe_op op_mod (pe_op op_fdiv (pv 0) pe_int) pe_int) pe_int (nomark _))
        (pss_one (ps_ret (pe_lc (own := [("_law_k", 6)]) (g := gName 6) (tt := tYes) (te := tOp rMulS (tOp rIxS (tVar 2) (tMo (tDi (tVar 0) (tI 21)) (tI 25))) (tAd (tVar 6) (tI 1))) rfl scWords.nd
          (pi_range1 rfl T.range (pa_cons (pv 1) pa_nil)) (blkOk_by (N := ["_law_cell", "_law_many", "_law_letters", "_law_wide", "_law_at", "_law_base", "_law_k", "_law_j"]) (sc := defScope sWords) (by decide +kernel))
          (fun _ _ _ _ _ => pg_name (i := 6) scWords.nd rfl (Or.inl rfl)) (fun _ _ _ _ _ => pts_nil)
          (fun _ _ _ _ _ => pe_op op_mulS (pe_ix ix_str (pv 2) (pe_op op_mod (pe_op op_fdiv (pv 0) pe_int) pe_int) (fun _ _ => rfl)) (pe_op op_add (pv 6) pe_int))))) pss_nil)
      (pss_cons (ps_set (i := 3) scWords.nd rfl (Or.inr rfl) (pe_op op_add pe_int (pe_op op_mod (pv 0) pe_int)))
      (pss_cons (ps_set (i := 4) scWords.nd rfl (Or.inr rfl) (pe_op op_mod (pe_op op_fdiv (pv 0) pe_int) (pv 3)))
      (pss_cons (ps_set (i := 5) scWords.nd rfl (Or.inr rfl) (pe_join pe_str (pe_lc (own := [("_law_j", 7)]) (g := gName 7) (tt := tYes)
          (te := tOp rIxS (tVar 2) (tMo (tAd (tAd (tDi (tVar 0) (tI 64)) (tMu (tI 7) (tVar 7))) (tMu (tMu (tMo (tDi (tVar 0) (tI 5)) (tI 11)) (tVar 7)) (tVar 7))) (tI 25))) rfl scWords.nd
          (pi_range1 rfl T.range (pa_cons pe_int pa_nil)) (blkOk_by (N := ["_law_cell", "_law_many", "_law_letters", "_law_wide", "_law_at", "_law_base", "_law_k", "_law_j"]) (sc := defScope sWords) (by decide +kernel))
          (fun _ _ _ _ _ => pg_name (i := 7) scWords.nd rfl (Or.inl rfl)) (fun _ _ _ _ _ => pts_nil)
          (fun _ _ _ _ _ => pe_ix ix_str (pv 2) (pe_op op_mod (pe_op op_add (pe_op op_add (pe_op op_fdiv (pv 0) pe_int) (pe_op op_mul pe_int (pv 7)))
            (pe_op op_mul (pe_op op_mul (pe_op op_mod (pe_op op_fdiv (pv 0) pe_int) pe_int) (pv 7)) (pv 7))) pe_int) (fun _ _ => rfl)))))
      (pss_one (ps_ret (pe_lc (own := [("_law_k", 6)]) (g := gName 6) (tt := tYes)
          (te := tOp rAddS (tOp rAddS (tSl rSlS (tVar 5) tNoPart (tPart (tVar 4))) (tOp rIxS (tVar 2) (tMo (tAd (tDi (tVar 0) (tI 3)) (tVar 6)) (tI 25)))) (tSl rSlS (tVar 5) (tPart (tAd (tVar 4) (tI 1))) (tPart (tVar 3)))) rfl scWords.nd
          (pi_range1 rfl T.range (pa_cons (pv 1) pa_nil)) (blkOk_by (N := ["_law_cell", "_law_many", "_law_letters", "_law_wide", "_law_at", "_law_base", "_law_k", "_law_j"]) (sc := defScope sWords) (by decide +kernel))
          (fun _ _ _ _ _ => pg_name (i := 6) scWords.nd rfl (Or.inl rfl)) (fun _ _ _ _ _ => pts_nil)
          (fun _ _ _ _ _ => pe_op op_add_str (pe_op op_add_str (pe_slice sl_str (pv 5) po_none (po_some (pv 4))) (pe_ix ix_str (pv 2) (pe_op op_mod (pe_op op_add (pe_op op_fdiv (pv 0) pe_int) (pv 6)) pe_int) (fun _ _ => rfl)))
            (pe_slice sl_str (pv 5) (po_some (pe_op op_add (pv 4) pe_int)) (po_some (pv 3))))))))))), ?_⟩
    refine ⟨_, rfl, _, _, rfl, rfl, ⟨by decide, by decide⟩, _, _, rfl, rfl, (show (0 : Int) < 3 by decide), ?_⟩
    refine ⟨rfl, _, rfl, ?_⟩
    refine ite2 (fun hc => ?_) (fun hc => ?_)
    · have hq := modIn (c / 21) (j := 25) (by decide)
      refine ⟨_, rfl, _, rfl, (by omega), (by omega), fun D hD => ?_⟩
      refine lc_range (lo := 0) (n := m)
        (fun i H3 => Same H H3 ∧ H3 D = some (.lst (((List.range i).map fun (j : Nat) => Txt.mul (sgn letters (c / 21 % 25)) ((j : Int) + 1)).map V.str)))
        ⟨fun a o e => (upd_ne (ne_of_none e hD)).trans e, upd_same⟩ ?_ ?_
      · rintro i H3 hi ⟨s3, hD3⟩
        refine ⟨rfl, ?_⟩
        refine ⟨_, rfl, _, rfl, _, _, rfl, rfl, ⟨by decide, by decide⟩, _, _, rfl, rfl, (show (0 : Int) < 25 by decide), _, _, _, rfl, rfl, (by decide +kernel), at_sgn (z := letters) hq.1 (by rw [letters_len]; exact hq.2), ?_⟩
        refine ⟨_, rfl, _, _, rfl, rfl, _, _, rfl, rfl, (by omega), (by omega), (by show 1 ≤ 1000; decide), ?_⟩
        refine ⟨_, hD3, ?_, fun a o e => ?_, ?_⟩
        · rw [List.length_map, List.length_map, List.length_range]
          exact small1000 (by omega)
        · rw [upd_ne (ne_of_none e hD)]
          exact s3 _ _ e
        · rw [upd_same, List.range_succ, List.map_append, List.map_append, Int.zero_add]
          rfl
      · rintro H3 ⟨s3, hD3⟩
        refine k H3 D _ s3 hD hD3 (by rw [List.length_map, List.length_range]) (nodup_range _ _ fun i j hi hj e => ?_)
        have e2 := congrArg Str.length e
        rw [mul_len (sgn_len _ _) (by omega), mul_len (sgn_len _ _) (by omega)] at e2
        omega
    · have h8 := modIn c (j := 8) (by decide)
      have hw0 : (0 : Int) < 1 + c % 8 := by omega
      refine ⟨_, rfl, _, _, rfl, rfl, (show (0 : Int) < 8 by decide), _, _, rfl, rfl, ?_⟩
      refine ⟨_, rfl, _, _, rfl, rfl, ⟨by decide, by decide⟩, _, rfl, _, _, rfl, rfl, hw0, ?_⟩
      refine ⟨⟨_, rfl⟩, 8, rfl, (by decide), (by decide), fun D0 hD0 => ?_⟩
      refine lc_range (lo := 0) (n := 8)
        (fun i H3 => ∃ ys : List Str, Same H H3 ∧ H3 D0 = some (.lst (ys.map V.str)) ∧ ys.length = i ∧ (ys.map (·.length)).sum = i)
        ⟨[], fun a o e => (upd_ne (ne_of_none e hD0)).trans e, upd_same, rfl, rfl⟩ ?_ ?_
      · rintro i H3 hi ⟨ys, s3, hD3, hl, hs⟩
        have h11 := modIn (c / 5) (j := 11) (by decide)
        have hi2 : c / 5 % 11 * (0 + (i : Int)) < 2 ^ 64 ∧ -2 ^ 64 < c / 5 % 11 * (0 + (i : Int)) := by
          have a1 : 0 ≤ c / 5 % 11 * (0 + (i : Int)) := Int.mul_nonneg h11.1 (by omega)
          have a2 : c / 5 % 11 * (0 + (i : Int)) ≤ 11 * 8 := Int.mul_le_mul (by omega) (by omega) (by omega) (by decide)
          omega
        have hq := modIn (c / 64 + 7 * (0 + (i : Int)) + c / 5 % 11 * (0 + (i : Int)) * (0 + (i : Int))) (j := 25) (by decide)
        refine ⟨rfl, ?_⟩
        refine ⟨_, rfl, _, rfl, _, _, rfl, rfl, ⟨by decide, by decide⟩, _, rfl, _, _, rfl, rfl, .inl ⟨by decide, by decide⟩, _, _, rfl, rfl, ?_⟩
        refine ⟨_, rfl, _, _, rfl, rfl, ⟨by decide, by decide⟩, _, _, rfl, rfl, (show (0 : Int) < 11 by decide), _, rfl, _, _, rfl, rfl, .inr ⟨by omega, by omega⟩, _, rfl, _, _, rfl, rfl, .inl ⟨hi2.2, hi2.1⟩, _, _, rfl, rfl, ?_⟩
        refine ⟨_, _, rfl, rfl, (show (0 : Int) < 25 by decide), _, _, _, rfl, rfl, (by decide +kernel), at_sgn (z := letters) hq.1 (by rw [letters_len]; exact hq.2), ?_⟩
        refine ⟨_, hD3, ?_, ys ++ [sgn letters ((c / 64 + 7 * (0 + (i : Int)) + c / 5 % 11 * (0 + (i : Int)) * (0 + (i : Int))) % 25)], fun a o e => ?_, ?_, ?_, ?_⟩
        · rw [List.length_map, hl]
          exact small1000 (by omega)
        · rw [upd_ne (ne_of_none e hD0)]
          exact s3 _ _ e
        · rw [upd_same, List.map_append]
          rfl
        · rw [List.length_append, hl]
          rfl
        · rw [List.map_append, List.sum_append, hs]
          rfl
      · rintro H3 ⟨ys, s3, hD3, hl, hs⟩
        have hbl : (Txt.join "" ys).length ≤ 8 := by
          have := join_len "" ys
          rw [hs, hl] at this
          exact this
        refine ⟨_, D0, ys, rfl, rfl, .inl (SqL.of hD3), ?_, ?_⟩
        · rw [hs, hl]
          decide
        generalize Txt.join "" ys = b at hbl
        have big : ∀ {n : Nat}, n ≤ 100 → n ≤ sizeLine := fun h => Nat.le_of_lt (small1000 (by omega))
        refine ⟨_, rfl, _, rfl, (by omega), (by omega), fun D hD => ?_⟩
        refine lc_range (lo := 0) (n := m)
          (fun i H4 => Same H3 H4 ∧ H4 D = some (.lst (((List.range i).map fun (j : Nat) => cutS b none (some (c / 8 % (1 + c % 8))) ++ sgn letters ((c / 3 + (j : Int)) % 25) ++ cutS b (some (c / 8 % (1 + c % 8) + 1)) (some (1 + c % 8))).map V.str)))
          ⟨fun a o e => (upd_ne (ne_of_none e hD)).trans e, upd_same⟩ ?_ ?_
        · rintro i H4 hi ⟨s4, hD4⟩
          have hq := modIn (c / 3 + (0 + (i : Int))) (j := 25) (by decide)
          have c1 := cutS_length b none (some (c / 8 % (1 + c % 8)))
          have c2 := cutS_length b (some (c / 8 % (1 + c % 8) + 1)) (some (1 + c % 8))
          refine ⟨rfl, ?_⟩
          refine ⟨_, rfl, _, rfl, _, rfl, _, rfl, big (by omega), ?_⟩
          refine ⟨_, rfl, _, rfl, _, _, rfl, rfl, ⟨by decide, by decide⟩, _, rfl, _, _, rfl, rfl, _, _, rfl, rfl, (show (0 : Int) < 25 by decide), _, _, _, rfl, rfl, (by decide +kernel), at_sgn (z := letters) hq.1 (by rw [letters_len]; exact hq.2), ?_⟩
          refine ⟨_, _, rfl, rfl, ?_, ?_⟩
          · show _ + 1 ≤ sizeLine
            exact big (by omega)
          refine ⟨_, rfl, _, rfl, _, _, rfl, rfl, _, rfl, _, rfl, _, rfl, _, rfl, big (by omega), _, _, rfl, rfl, ?_, ?_⟩
          · rw [app_len]
            show _ + 1 + _ ≤ sizeLine
            exact big (by omega)
          refine ⟨_, hD4, ?_, fun a o e => ?_, ?_⟩
          · rw [List.length_map, List.length_map, List.length_range]
            exact small1000 (by omega)
          · rw [upd_ne (ne_of_none e hD)]
            exact s4 _ _ e
          · rw [upd_same, List.range_succ, List.map_append, List.map_append, Int.zero_add]
            rfl
        · rintro H4 ⟨s4, hD4⟩
          refine k H4 D _ (s3.trans s4) (s3.free hD) hD4 (by rw [List.length_map, List.length_range]) (nodup_range _ _ fun i j hi hj e => ?_)
          have e2 := app_left_inj (app_right_inj e)
          have q1 := modIn (c / 3 + (i : Int)) (j := 25) (by decide)
          have q2 := modIn (c / 3 + (j : Int)) (j := 25) (by decide)
          have e3 := sgn_inj letters_nd q1.1 (by rw [letters_len]; exact q1.2) q2.1 (by rw [letters_len]; exact q2.2) e2
          omega
end
end L2.SR
/-! The law's helpers: what is drawn. -/
namespace L2.SR
open PySem PySem.Spec PyProof.Rows
theorem scDrawn : FnScope ["_law_cell", "_law_many", "_law_spots", "_law_plain", "_law_one", "_law_other", "_law_signs", "_law_number", "_law_piece", "_law_way", "_law_texts", "_law_k", "_law_wide", "_law_text", "_law_j"] ["_law_cell", "_law_many", "_law_spots", "_law_plain"] (defScope sDrawn) := ⟨rfl, rfl, rfl, by decide +kernel, rfl, by decide +kernel, by decide +kernel⟩
/-- a text grown sign by sign, and the number left -/
def grow : Nat → Int → Str × Int
  | 0, n => ("", n)
  | i + 1, n => ((grow i n).1 ++ sgn signs ((grow i n).2 % 94), (grow i n).2 / 94)
theorem grow_len : ∀ (i : Nat) (n : Int), (grow i n).1.length = i
  | 0, n => by show ("" : Str).length = 0; decide
  | i + 1, n => by
    show ((grow i n).1 ++ sgn signs _).length = i + 1
    rw [app_len, grow_len i n, sgn_len]
def texts : Nat → Int → List Str × Int
  | 0, n => ([], n)
  | i + 1, n => ((texts i n).1 ++ [(grow ((texts i n).2 % 41).toNat ((texts i n).2 / 41)).1], (grow ((texts i n).2 % 41).toNat ((texts i n).2 / 41)).2)
theorem texts_len : ∀ (i : Nat) (n : Int), (texts i n).1.length = i
  | 0, _ => rfl
  | i + 1, n => by
    show ((texts i n).1 ++ [_]).length = i + 1
    rw [List.length_append, texts_len i n]
    rfl
def bigC : Int := 10 ^ 18
def numF (c : Int) : Int := if c < bigC then c else c - bigC
def oneF (c m : Int) : Int := numF c / 3 % m
def otherF (c m : Int) : Int := (oneF c m + 1 + numF c / 15 % (m - 1)) % m
def spotF (c n : Int) : Int := numF c / 15 % n
def wayF (c : Int) : Int := numF c % 3
def pairF (c : Int) (pl : Bool) : Pr := if c < bigC then pairM (c / 60) pl else ((texts 2 ((c - bigC) / 60)).1.getD 0 "", (texts 2 ((c - bigC) / 60)).1.getD 1 "")
def spDrawn : Sp := fun vs H Q _ => ∃ (c : Int) (m : Nat) (l : Addr) (pl : Bool) (sas : List Addr), vs = [.int c, .int m, .ref l, .bl pl] ∧ 2 ≤ m ∧ m ≤ 5 ∧ H l = some (.lst (sas.map V.ref)) ∧ 1 ≤ sas.length ∧ sas.length ≤ 4 ∧
  ∀ (H' : Hp) (t tp sp : Addr), Same H H' → H t = none → sas[(spotF c sas.length).toNat]? = some sp → H' t = some (.tup [.int (wayF c), .int (oneF c m), .int (otherF c m), .ref sp, .ref tp]) → AtP H' tp (pairF c pl) → Q (.ref t) H'
theorem at_ref {as : List Addr} {i : Int} (h0 : 0 ≤ i) (h1 : i < (as.length : Int)) : ∃ p, as[i.toNat]? = some p ∧ atI (as.map V.ref) i = some (.ref p) := by
  obtain ⟨n, rfl⟩ := Int.eq_ofNat_of_zero_le h0
  rw [Int.toNat_natCast]
  have hlt : n < as.length := by omega
  refine ⟨_, List.getElem?_eq_getElem hlt, atI_nat ?_⟩
  rw [List.getElem?_map, List.getElem?_eq_getElem hlt]
  rfl
section
variable {P : Program} {w : World} {K : PySem.W.Frag} {mg : Str → Option Value} {base : Heap}
theorem ok_drawn {f fP fR C CB : Addr} {fd fdP fdR : FuncData} (F : Fun K "_law_drawn" "_law_drawn" sDrawn f fd) (T : Txt K mg C CB) (FP : Fun K "_law_pair" "_law_pair" sPair fP fdP) (bP : Binds K fdP ["_law_cell", "_law_plain"] []) (mgP : mg "_law_pair" = some (.ref fP))
    (FR : Fun K "_law_sign_row" "_law_sign_row" sRow fR fdR) (bR : Binds K fdR ["_law_cell"] []) (mgR : mg "_law_sign_row" = some (.ref fR)) :
    FnOk P w K mg base CX0 3 f fd ["_law_cell", "_law_many", "_law_spots", "_law_plain"] spDrawn := by
  have GP : FnOk P w K mg base CX0 2 fP fdP ["_law_cell", "_law_plain"] spPair := ok_pair FP T FR bR mgR
  refine F.ok scDrawn (fun vs H Q E h => ?_) (fun cdv A outer s H vs Q E hr h => ?_)
  · obtain ⟨c, m, l, pl, sas, rfl, _⟩ := h
    rfl
  · obtain ⟨c, m, l, pl, sas, rfl, hm2, hm5, hl, hs1, hs4, k⟩ := h
    refine ⟨_, (pss_cons (ps_set (i := 4) scDrawn.nd rfl (Or.inl rfl) (pe_op op_mod (pe_op op_fdiv (pv 0) pe_int) (pv 1)))
      (pss_cons (ps_if (pt_cmpR op_lt (pv 0) (pe_op op_pow pe_int pe_int) (nomark _)) (pss_cons (ps_set (i := 5) scDrawn.nd rfl (Or.inl rfl) (pe_op op_mod (pe_op op_add (pe_op op_add (pv 4) pe_int) (pe_op op_mod (pe_op op_fdiv (pv 0) pe_int) (pe_op op_sub (pv 1) pe_int))) (pv 1)))
      (pss_one (ps_ret (pe_tup (pa_cons (pe_op op_mod (pv 0) pe_int) (pa_cons (pv 4) (pa_cons (pv 5) (pa_cons (pe_ix ix_list (pv 2) (pe_op op_mod (pe_op op_fdiv (pv 0) pe_int) (pe_callB call_len_seq (by rfl) T.len PySem.boot_len (pa_cons (pv 2) pa_nil))) (fun _ _ => rfl)) (pa_cons (pe_call GP hr rfl mgP FP.kp bP .nil pass0 (pa_cons (pe_op op_fdiv (pv 0) pe_int) (pa_cons (pv 3) pa_nil))) pa_nil))))))))) pss_nil)
      (pss_cons (ps_set (i := 6) scDrawn.nd rfl (Or.inl rfl) pe_str)
      (pss_cons (ps_set (i := 6) scDrawn.nd rfl (Or.inl rfl) (pe_op op_add_str (pv 6) pe_str))
      (pss_cons (ps_set (i := 7) scDrawn.nd rfl (Or.inl rfl) (pe_op op_sub (pv 0) (pe_op op_pow pe_int pe_int)))
      (pss_cons (ps_set (i := 4) scDrawn.nd rfl (Or.inl rfl) (pe_op op_mod (pe_op op_fdiv (pv 7) pe_int) (pv 1)))
      (pss_cons (ps_set (i := 5) scDrawn.nd rfl (Or.inl rfl) (pe_op op_mod (pe_op op_add (pe_op op_add (pv 4) pe_int) (pe_op op_mod (pe_op op_fdiv (pv 7) pe_int) (pe_op op_sub (pv 1) pe_int))) (pv 1)))
      (pss_cons (ps_set (i := 8) scDrawn.nd rfl (Or.inl rfl) (pe_ix ix_list (pv 2) (pe_op op_mod (pe_op op_fdiv (pv 7) pe_int) (pe_callB call_len_seq (by rfl) T.len PySem.boot_len (pa_cons (pv 2) pa_nil))) (fun _ _ => rfl)))
      (pss_cons (ps_set (i := 9) scDrawn.nd rfl (Or.inl rfl) (pe_op op_mod (pv 7) pe_int))
      (pss_cons (ps_set (i := 7) scDrawn.nd rfl (Or.inl rfl) (pe_op op_fdiv (pv 7) pe_int))
      (pss_cons (ps_set (i := 10) scDrawn.nd rfl (Or.inl rfl) (pe_lst pa_nil))
      (pss_cons (ps_for PassesOwn.never rfl (pi_range1 rfl T.range (pa_cons pe_int pa_nil)) (pg_name (i := 11) scDrawn.nd rfl (Or.inl rfl))
        (pss_cons (ps_set (i := 12) scDrawn.nd rfl (Or.inl rfl) (pe_op op_mod (pv 7) pe_int))
      (pss_cons (ps_set (i := 7) scDrawn.nd rfl (Or.inl rfl) (pe_op op_fdiv (pv 7) pe_int))
      (pss_cons (ps_set (i := 13) scDrawn.nd rfl (Or.inl rfl) pe_str)
      (pss_cons (ps_for PassesOwn.never rfl (pi_range1 rfl T.range (pa_cons (pv 12) pa_nil)) (pg_name (i := 14) scDrawn.nd rfl (Or.inl rfl))
        (pss_cons (ps_set (i := 13) scDrawn.nd rfl (Or.inl rfl) (pe_op op_add_str (pv 13) (pe_ix ix_str (pv 6) (pe_op op_mod (pv 7) pe_int) (fun _ _ => rfl))))
      (pss_one (ps_set (i := 7) scDrawn.nd rfl (Or.inl rfl) (pe_op op_fdiv (pv 7) pe_int)))))
      (pss_one (ps_expr (pe_bm PySem.F.plainAttrs_list PySem.F.slot_list_append PySem.F.type_list_append mt_append (pv 10) (pa_cons (pv 13) pa_nil)))))))))
      (pss_one (ps_ret (pe_tup (pa_cons (pv 9) (pa_cons (pv 4) (pa_cons (pv 5) (pa_cons (pv 8) (pa_cons (pe_tup (pa_cons (pe_ix ix_list (pv 10) pe_int (fun _ _ => rfl)) (pa_cons (pe_ix ix_list (pv 10) pe_int (fun _ _ => rfl)) pa_nil))) pa_nil)))))))))))))))))))), ?_⟩
    have hm : (0 : Int) < (m : Int) := by omega
    have hm1 : (0 : Int) < (m : Int) - 1 := by omega
    have hsl : (0 : Int) < (sas.length : Int) := by omega
    have hS : SqL K H l (sas.map V.ref) := SqL.of hl
    refine ⟨_, rfl, _, _, rfl, rfl, ⟨by decide, by decide⟩, _, rfl, _, _, rfl, rfl, hm, ?_⟩
    refine ⟨_, rfl, _, _, rfl, rfl, ⟨by decide, by decide, by decide⟩, _, _, rfl, rfl, _, rfl, ?_⟩
    refine ite2 (fun hc => ?_) (fun hc => ?_)
    · have hcb : c < bigC := of_decide_eq_true hc
      have hn : numF c = c := if_pos hcb
      refine ⟨_, rfl, _, _, rfl, rfl, _, rfl, _, _, rfl, rfl, ⟨by decide, by decide⟩, _, rfl, _, _, rfl, rfl, _, _, rfl, rfl, hm1, _, _, rfl, rfl, _, rfl, _, _, rfl, rfl, hm, ?_⟩
      have hq := modIn (c / 15) hsl
      obtain ⟨sp, hsp, hat⟩ := at_ref (as := sas) hq.1 hq.2
      refine ⟨_, rfl, _, _, rfl, rfl, (show (0 : Int) < 3 by decide), _, rfl, _, rfl, ?_⟩
      refine ⟨_, rfl, _, rfl, _, _, rfl, rfl, ⟨by decide, by decide⟩, _, rfl, l, _, rfl, .inl hS, _, _, rfl, rfl, (by rw [List.length_map]; exact hsl), l, _, _, _, rfl, rfl, hS, (by rw [List.length_map]; exact hat), ?_⟩
      refine ⟨_, rfl, _, _, rfl, rfl, ⟨by decide, by decide⟩, _, rfl, c / 60, pl, rfl, fun H1 tp s1 h1 a1 => ?_⟩
      refine ⟨(by show 5 ≤ sizeLine; decide), fun t ht => ?_⟩
      refine k _ t tp sp (fun a o e => (upd_ne (ne_of_none (s1 _ _ e) ht)).trans (s1 _ _ e)) (s1.free ht) ?_ ?_ ?_
      · unfold spotF
        rw [hn]
        exact hsp
      · unfold wayF otherF oneF
        rw [hn]
        exact upd_same
      · have e : pairF c pl = pairM (c / 60) pl := if_pos hcb
        rw [e]
        exact (upd_ne (ne_of_none a1 ht)).trans a1
    · have hcb : ¬ c < bigC := of_decide_eq_false (Bool.eq_false_iff.mpr hc)
      have hn : numF c = c - bigC := if_neg hcb
      refine ⟨_, rfl, _, _, rfl, rfl, (by decide +kernel), ?_⟩
      refine ⟨_, rfl, _, _, rfl, rfl, ⟨by decide, by decide, by decide⟩, _, _, rfl, rfl, ?_⟩
      refine ⟨_, rfl, _, _, rfl, rfl, ⟨by decide, by decide⟩, _, rfl, _, _, rfl, rfl, hm, ?_⟩
      refine ⟨_, rfl, _, _, rfl, rfl, _, rfl, _, _, rfl, rfl, ⟨by decide, by decide⟩, _, rfl, _, _, rfl, rfl, _, _, rfl, rfl, hm1, _, _, rfl, rfl, _, rfl, _, _, rfl, rfl, hm, ?_⟩
      have hq := modIn ((c - bigC) / 15) hsl
      obtain ⟨sp, hsp, hat⟩ := at_ref (as := sas) hq.1 hq.2
      refine ⟨_, rfl, _, rfl, _, _, rfl, rfl, ⟨by decide, by decide⟩, _, rfl, l, _, rfl, .inl hS, _, _, rfl, rfl, (by rw [List.length_map]; exact hsl), l, _, _, _, rfl, rfl, hS, (by rw [List.length_map]; exact hat), ?_⟩
      refine ⟨_, rfl, _, _, rfl, rfl, (show (0 : Int) < 3 by decide), ?_⟩
      refine ⟨_, rfl, _, _, rfl, rfl, ⟨by decide, by decide⟩, Nat.zero_le _, fun tx htx => ?_⟩
      refine ⟨2, rfl, (by decide), (by decide), for_range (lo := 0) (n := 2)
        (fun i σ H3 => ∃ v11 v12 v13 v14 : Option V, σ = [some (.int c), some (.int m), some (.ref l), some (.bl pl), some (.int ((c - bigC) / 3 % m)), some (.int (((c - bigC) / 3 % m + 1 + (c - bigC) / 15 % ((m : Int) - 1)) % m)), some (.str signs),
            some (.int (texts i ((c - bigC) / 60)).2), some (.ref sp), some (.int ((c - bigC) % 3)), some (.ref tx), v11, v12, v13, v14] ∧ Same H H3 ∧ H3 tx = some (.lst ((texts i ((c - bigC) / 60)).1.map V.str)))
        ⟨none, none, none, none, rfl, fun a o e => (upd_ne (ne_of_none e htx)).trans e, upd_same⟩ ?_ ?_⟩
      · rintro i σ H3 hi ⟨v11, v12, v13, v14, rfl, s3, h3⟩
        have h41 := modIn (texts i ((c - bigC) / 60)).2 (j := 41) (by decide)
        refine ⟨_, rfl, _, _, rfl, rfl, (show (0 : Int) < 41 by decide), _, rfl, _, _, rfl, rfl, ⟨by decide, by decide⟩, ?_⟩
        refine ⟨_, rfl, _, rfl, (by omega), (by omega), for_range (lo := 0) (n := ((texts i ((c - bigC) / 60)).2 % 41).toNat)
          (fun j σ H4 => ∃ v14 : Option V, H4 = H3 ∧ σ = [some (.int c), some (.int m), some (.ref l), some (.bl pl), some (.int ((c - bigC) / 3 % m)), some (.int (((c - bigC) / 3 % m + 1 + (c - bigC) / 15 % ((m : Int) - 1)) % m)), some (.str signs),
            some (.int (grow j ((texts i ((c - bigC) / 60)).2 / 41)).2), some (.ref sp), some (.int ((c - bigC) % 3)), some (.ref tx), some (.int (0 + (i : Int))), some (.int ((texts i ((c - bigC) / 60)).2 % 41)), some (.str (grow j ((texts i ((c - bigC) / 60)).2 / 41)).1), v14])
          ⟨v14, rfl, rfl⟩ ?_ ?_⟩
        · rintro j σ H4 hj ⟨v14, rfl, rfl⟩
          have hq := modIn (grow j ((texts i ((c - bigC) / 60)).2 / 41)).2 (j := 94) (by decide)
          refine ⟨_, rfl, _, rfl, _, rfl, _, _, rfl, rfl, (show (0 : Int) < 94 by decide), _, _, _, rfl, rfl, (by decide +kernel), at_sgn (z := signs) hq.1 (by rw [signs_len]; exact hq.2), _, _, rfl, rfl, ?_, ?_⟩
          · rw [grow_len]
            show j + 1 ≤ sizeLine
            exact Nat.le_of_lt (small1000 (by omega))
          refine ⟨_, rfl, _, _, rfl, rfl, ⟨by decide, by decide⟩, _, rfl, rfl⟩
        · rintro σ H4 ⟨v14, rfl, rfl⟩
          refine ⟨_, rfl, .inl ⟨rfl, _, SqL.of h3⟩, _, rfl, tx, _, _, rfl, rfl, h3, ?_, ?_⟩
          · rw [List.length_map, texts_len]
            exact small1000 (by omega)
          refine ⟨_, _, _, _, rfl, fun a o e => ?_, ?_⟩
          · rw [upd_ne (ne_of_none e htx)]
            exact s3 _ _ e
          · rw [upd_same]
            show _ = some (HO.lst (List.map V.str ((texts i ((c - bigC) / 60)).1 ++ [_])))
            rw [List.map_append]
            rfl
      · rintro σ H3 ⟨v11, v12, v13, v14, rfl, s3, h3⟩
        have hl2 := texts_len 2 ((c - bigC) / 60)
        have e : pairF c pl = ((texts 2 ((c - bigC) / 60)).1.getD 0 "", (texts 2 ((c - bigC) / 60)).1.getD 1 "") := if_neg hcb
        generalize (texts 2 ((c - bigC) / 60)).1 = tt at hl2 e h3
        match tt, hl2 with
        | [t1, t2], _ =>
          refine ⟨_, rfl, _, rfl, _, rfl, _, rfl, _, rfl, tx, _, _, _, rfl, rfl, SqL.of h3, at_of (j := 0) rfl rfl, _, rfl, tx, _, _, _, rfl, rfl, SqL.of h3, at_of (j := 1) rfl rfl, (by show 2 ≤ sizeLine; decide), fun tp htp => ?_⟩
          refine ⟨(by show 5 ≤ sizeLine; decide), fun t ht => ?_⟩
          have u1 : Same H (upd H3 tp (.tup [.str t1, .str t2])) := fun a o e => (upd_ne (ne_of_none (s3 _ _ e) htp)).trans (s3 _ _ e)
          refine k _ t tp sp (fun a o e => (upd_ne (ne_of_none (u1 _ _ e) ht)).trans (u1 _ _ e)) (u1.free ht) ?_ ?_ ?_
          · unfold spotF
            rw [hn]
            exact hsp
          · unfold wayF otherF oneF
            rw [hn]
            exact upd_same
          · rw [e]
            have ntp : tp ≠ t := fun z => by rw [z, upd_same] at ht; cases ht
            exact (upd_ne ntp).trans upd_same
end
end L2.SR
/-! Rows of books: in the heap, and what is done to them. -/
namespace L2.SR
open PySem PySem.Spec PyProof.Rows
theorem each_set {α β : Type} {R R' : α → β → Prop} : ∀ {as : List α} {bs : List β} {i : Nat} {a : α} {b : β}, Each R as bs → as[i]? = some a → R' a b → (∀ (j : Nat) (x : α) (y : β), j ≠ i → as[j]? = some x → bs[j]? = some y → R x y → R' x y) → Each R' as (bs.set i b)
  | _, _, _, _, _, .nil, h, _, _ => by simp at h
  | _, _, 0, _, _, .cons r t, h, q, k => by
    simp only [List.getElem?_cons_zero, Option.some.injEq] at h
    rw [List.set_cons_zero]
    refine .cons (h ▸ q) ?_
    have go : ∀ {as : List _} {bs : List _}, Each R as bs → (∀ (j : Nat) x y, as[j]? = some x → bs[j]? = some y → R x y → R' x y) → Each R' as bs := by
      intro as bs h
      induction h with
      | nil => exact fun _ => .nil
      | cons r t ih => exact fun k => .cons (k 0 _ _ rfl rfl r) (ih fun j x y h1 h2 => k (j + 1) x y h1 h2)
    exact go t fun j x y h1 h2 => k (j + 1) x y (by omega) h1 h2
  | _, _, i + 1, _, _, .cons r t, h, q, k => by
    rw [List.set_cons_succ]
    refine .cons (k 0 _ _ (by omega) rfl rfl r) (each_set t h q fun j x y hj h1 h2 => k (j + 1) x y (by omega) h1 h2)
structure Shelf (C CB : Addr) (Z H : Hp) (ads : List (Addr × Addr)) (bs : List Boo) : Prop where
  same : Same Z H
  books : Each (fun (pd : Addr × Addr) b => BookAt C CB Z H pd.1 pd.2 b) ads bs
  np : (ads.map (·.1)).Nodup
  nd : (ads.map (·.2)).Nodup
theorem Shelf.frame {C CB : Addr} {Z H Z' H' : Hp} {ads : List (Addr × Addr)} {bs : List Boo} (S : Shelf C CB Z H ads bs) (X : Ext Z H Z') (sh : Same H H') (sz : Same Z' H') : Shelf C CB Z' H' ads bs :=
  ⟨sz, S.books.mono fun pd b B => B.next X (fun o e => sh _ _ e) (fun o e => sh _ _ e), S.np, S.nd⟩
theorem Shelf.keep {C CB : Addr} {Z H H' : Hp} {ads : List (Addr × Addr)} {bs : List Boo} (S : Shelf C CB Z H ads bs) (sh : Same H H') : Shelf C CB Z H' ads bs := S.frame (Ext.refl _ _) sh (S.same.trans sh)
theorem Shelf.step {C CB : Addr} {Z H Z' H' : Hp} {ads : List (Addr × Addr)} {bs : List Boo} (S : Shelf C CB Z H ads bs) {i : Nat} {p d : Addr} {b' : Boo} (hi : ads[i]? = some (p, d)) (X : Ext Z H Z') (sz : Same Z' H') (B : BookAt C CB Z' H' p d b')
    (fr : ∀ a o, H a = some o → a ≠ p → a ≠ d → H' a = some o) : Shelf C CB Z' H' ads (bs.set i b') := by
  obtain ⟨bi, hbi, Bi⟩ := each_get S.books hi
  obtain ⟨⟨dxi, hpi⟩, ⟨kvi, hdi, _⟩, _, _⟩ := Bi
  refine ⟨sz, each_set S.books hi B fun j pd y hj h1 h2 By => ?_, S.np, S.nd⟩
  have n1 : pd.1 ≠ p := fun e => hj (by
    have a1 : (ads.map (·.1))[j]? = some pd.1 := by rw [List.getElem?_map, h1]; rfl
    have a2 : (ads.map (·.1))[i]? = some p := by rw [List.getElem?_map, hi]; rfl
    exact (List.getElem?_inj (List.getElem?_eq_some_iff.mp a1).1 S.np).mp (a1.trans ((congrArg some e).trans a2.symm)))
  have n2 : pd.2 ≠ d := fun e => hj (by
    have a1 : (ads.map (·.2))[j]? = some pd.2 := by rw [List.getElem?_map, h1]; rfl
    have a2 : (ads.map (·.2))[i]? = some d := by rw [List.getElem?_map, hi]; rfl
    exact (List.getElem?_inj (List.getElem?_eq_some_iff.mp a1).1 S.nd).mp (a1.trans ((congrArg some e).trans a2.symm)))
  obtain ⟨⟨dxy, hpy⟩, ⟨kvy, hdy, _⟩, _, _⟩ := id By
  have n3 : pd.1 ≠ d := ne_of hpy hdi (by intro z; cases z)
  have n4 : pd.2 ≠ p := ne_of hdy hpi (by intro z; cases z)
  exact By.next X (fun o e => fr _ _ e n1 n3) (fun o e => fr _ _ e n4 n2)
theorem Shelf.get {C CB : Addr} {Z H : Hp} {ads : List (Addr × Addr)} {bs : List Boo} (S : Shelf C CB Z H ads bs) {i : Nat} {b : Boo} (h : bs[i]? = some b) : ∃ p d, ads[i]? = some (p, d) ∧ BookAt C CB Z H p d b := by
  obtain ⟨pd, h1, h2⟩ := each_get2 S.books h
  exact ⟨pd.1, pd.2, h1, h2⟩
theorem Shelf.dne {C CB : Addr} {Z H : Hp} {ads : List (Addr × Addr)} {bs : List Boo} (S : Shelf C CB Z H ads bs) {i j : Nat} {p d p2 d2 : Addr} (h1 : ads[i]? = some (p, d)) (h2 : ads[j]? = some (p2, d2)) (hij : i ≠ j) : d ≠ d2 := fun e => hij (by
  have a1 : (ads.map (·.2))[i]? = some d := by rw [List.getElem?_map, h1]; rfl
  have a2 : (ads.map (·.2))[j]? = some d2 := by rw [List.getElem?_map, h2]; rfl
  exact (List.getElem?_inj (List.getElem?_eq_some_iff.mp a1).1 S.nd).mp (a1.trans ((congrArg some e).trans a2.symm)))

/-! ### what is done -/
def stepM (sps : List Pr) (pl : Bool) (bs : List Boo) (c : Int) : List Boo :=
  match bs[(oneF c bs.length).toNat]?, bs[(otherF c bs.length).toNat]?, sps[(spotF c sps.length).toNat]? with
  | some b, some o, some sp => bs.set (oneF c bs.length).toNat (if wayF c = 0 then _root_.SW.takeM b o else _root_.SW.writeM mkM b sp (pairF c pl))
  | _, _, _ => bs
def startM (hands : List Str) : List Boo := hands.map fun h => ⟨h, 0, []⟩
def doneM (hands : List Str) (sps : List Pr) (pl : Bool) (cells : List Int) : List Boo := cells.foldl (stepM sps pl) (startM hands)
theorem stepM_length (sps : List Pr) (pl : Bool) (bs : List Boo) (c : Int) : (stepM sps pl bs c).length = bs.length := by
  unfold stepM
  split
  · rw [List.length_set]
  · rfl
theorem doneM_next {hands : List Str} {sps : List Pr} {pl : Bool} {cells : List Int} {i : Nat} {c : Int} (h : cells[i]? = some c) : doneM hands sps pl (cells.take (i + 1)) = stepM sps pl (doneM hands sps pl (cells.take i)) c := by
  unfold doneM
  rw [take_next' h, List.foldl_append]
  rfl
theorem doneM_length (hands : List Str) (sps : List Pr) (pl : Bool) : ∀ (cells : List Int), (doneM hands sps pl cells).length = hands.length := by
  intro cells
  unfold doneM
  have go : ∀ (cells : List Int) (bs : List Boo), (cells.foldl (stepM sps pl) bs).length = bs.length := by
    intro cells
    induction cells with
    | nil => exact fun bs => rfl
    | cons c cells ih => exact fun bs => by rw [List.foldl_cons, ih, stepM_length]
  rw [go]
  unfold startM
  rw [List.length_map]
abbrev GoodB (n : Nat) (bs : List Boo) (G : Pr → List Wri) (Kn : Nat → Pr → Mk → Prop) : Prop := _root_.SW.Good mkM n bs G Kn
theorem good_step {n : Nat} {bs : List Boo} {G : Pr → List Wri} {Kn : Nat → Pr → Mk → Prop} (g : GoodB n bs G Kn) (sps : List Pr) (pl : Bool) (c : Int) : ∃ G' K', GoodB (n + 1) (stepM sps pl bs c) G' K' := by
  unfold stepM
  split
  · rename_i b o sp hb ho hs
    by_cases e : wayF c = 0
    · rw [if_pos e]
      exact ⟨_, _, (g.take hb ho).more (Nat.le_succ n)⟩
    · rw [if_neg e]
      obtain ⟨G', K', h⟩ := g.write mkM_inj hb sp (pairF c pl)
      exact ⟨G', K', h⟩
  · exact ⟨_, _, g.more (Nat.le_succ n)⟩
theorem good_done {hands : List Str} (hn : hands.Nodup) (sps : List Pr) (pl : Bool) (cells : List Int) : ∃ G K', GoodB cells.length (doneM hands sps pl cells) G K' := by
  have go : ∀ (cells : List Int) (n : Nat) (bs : List Boo) (G : Pr → List Wri) (Kn : Nat → Pr → Mk → Prop), GoodB n bs G Kn → ∃ G' K', GoodB (n + cells.length) (cells.foldl (stepM sps pl) bs) G' K' := by
    intro cells
    induction cells with
    | nil => exact fun n bs G Kn g => ⟨G, Kn, g⟩
    | cons c cells ih =>
      intro n bs G Kn g
      obtain ⟨G', K', g'⟩ := good_step g sps pl c
      obtain ⟨G2, K2, g2⟩ := ih _ _ _ _ g'
      refine ⟨G2, K2, ?_⟩
      rw [List.length_cons, show n + (cells.length + 1) = n + 1 + cells.length by omega]
      exact g2
  obtain ⟨G, K', g⟩ := go cells 0 (startM hands) _ _ (_root_.SW.Good.start hn)
  rw [Nat.zero_add] at g
  exact ⟨G, K', g⟩
end L2.SR
/-! The law's helpers: a row of books, and what is done to it. -/
namespace L2.SR
open PySem PySem.Spec PyProof.Rows
theorem scDone : FnScope ["_law_hands", "_law_spots", "_law_cells", "_law_plain", "_law_books", "_law_cell", "_law_way", "_law_one", "_law_other", "_law_piece", "_law_pair_here", "_law_hand"] ["_law_hands", "_law_spots", "_law_cells", "_law_plain"] (defScope sDone) := ⟨rfl, rfl, rfl, by decide +kernel, rfl, by decide +kernel, by decide +kernel⟩
theorem Ext.trans {Z H Z' H' Z'' : Hp} (e1 : Ext Z H Z') (e2 : Ext Z' H' Z'') (s : ∀ a, H' a = none → H a = none) : Ext Z H Z'' :=
  ⟨e1.same.trans e2.same, fun a o h => (e2.new a o h).elim (fun q => e1.new a o q) (fun q => .inr (s a q))⟩
theorem BookAt.grow {C CB : Addr} {Z H : Hp} {p d : Addr} {b : Boo} (B : BookAt C CB Z H p d b) {D : Addr} {xs : List V} (hz : Z D = none) (hd : H D = some (.lst xs)) (o : HO) : BookAt C CB (upd Z D o) H p d b := by
  obtain ⟨⟨dx, ob⟩, ⟨kvs, dc, r⟩, zp, zd⟩ := B
  have s : Same Z (upd Z D o) := fun a u e => (upd_ne (ne_of_none e hz)).trans e
  have n1 : p ≠ D := ne_of ob hd (by intro z; cases z)
  have n2 : d ≠ D := ne_of dc hd (by intro z; cases z)
  exact ⟨⟨dx, ob⟩, ⟨kvs, dc, r.mono s⟩, (upd_ne n1).trans zp, (upd_ne n2).trans zd⟩
theorem bounds {n : Nat} {bs : List Boo} {G : Pr → List Wri} {Kn : Nat → Pr → Mk → Prop} (g : GoodB n bs G Kn) (hn : n ≤ 24) {i : Nat} {b : Boo} (hb : bs[i]? = some b) :
    (b.held.map (·.1)).Nodup ∧ b.held.length ≤ 24 ∧ (∀ pc, (_root_.SW.heldOf b pc).length ≤ 24) ∧ ∀ pc, ∀ w ∈ _root_.SW.heldOf b pc, w.seen.length ≤ 24 := by
  have hm := List.mem_of_getElem? hb
  exact ⟨g.keys b hm, Nat.le_trans (g.keysLen hm) hn, fun pc => Nat.le_trans (g.heldLen hm pc) hn, fun pc w hw => Nat.le_trans (g.seenLen (g.inG hm hw)) hn⟩
theorem other_ne (m : Nat) (h2 : 2 ≤ m) (h5 : m ≤ 5) (a x : Int) (h0 : 0 ≤ a) (h1 : a < (m : Int)) : (a + 1 + x % ((m : Int) - 1)) % (m : Int) ≠ a := by
  rcases (show m = 2 ∨ m = 3 ∨ m = 4 ∨ m = 5 by omega) with rfl | rfl | rfl | rfl
  · change (a + 1 + x % 1) % 2 ≠ a
    change a < 2 at h1
    omega
  · change (a + 1 + x % 2) % 3 ≠ a
    change a < 3 at h1
    omega
  · change (a + 1 + x % 3) % 4 ≠ a
    change a < 4 at h1
    omega
  · change (a + 1 + x % 4) % 5 ≠ a
    change a < 5 at h1
    omega
theorem stepM_eq {sps : List Pr} {pl : Bool} {bs : List Boo} {c : Int} {b o : Boo} {sp : Pr} (hb : bs[(oneF c bs.length).toNat]? = some b) (ho : bs[(otherF c bs.length).toNat]? = some o) (hs : sps[(spotF c sps.length).toNat]? = some sp) :
    stepM sps pl bs c = bs.set (oneF c bs.length).toNat (if wayF c = 0 then _root_.SW.takeM b o else _root_.SW.writeM mkM b sp (pairF c pl)) := by
  unfold stepM
  rw [hb, ho, hs]
abbrev refs (ads : List (Addr × Addr)) : List V := ads.map fun a => V.ref a.1
theorem at_refs {ads : List (Addr × Addr)} {i : Int} {p d : Addr} (h0 : 0 ≤ i) (h : ads[i.toNat]? = some (p, d)) : atI (refs ads) i = some (.ref p) := by
  refine at_of (j := i.toNat) (by omega) ?_
  rw [List.getElem?_map, h]
  rfl
def spDone (C CB : Addr) : Sp := fun vs H Q _ => ∃ (Z : Hp) (lh ls lc : Addr) (pl : Bool) (hands : List Str) (sas : List Addr) (sps : List Pr) (cells : List Int), vs = [.ref lh, .ref ls, .ref lc, .bl pl] ∧ Same Z H ∧
  H lh = some (.lst (hands.map V.str)) ∧ 2 ≤ hands.length ∧ hands.length ≤ 5 ∧ hands.Nodup ∧ H ls = some (.lst (sas.map V.ref)) ∧ Each (AtP H) sas sps ∧ 1 ≤ sas.length ∧ sas.length ≤ 4 ∧ H lc = some (.lst (cells.map V.int)) ∧ cells.length ≤ 24 ∧
  ∀ (Z' H' : Hp) (D : Addr) (ads : List (Addr × Addr)), Ext Z H Z' → Same H H' → Z' D = some (.lst (refs ads)) → (∀ a ∈ ads, H a.1 = none ∧ H a.2 = none) → Shelf C CB Z' H' ads (doneM hands sps pl cells) → Q (.ref D) H'
section
variable {P : Program} {w : World} {K : PySem.W.Frag} {mg : Str → Option Value} {base : Heap}
theorem ok_done {f fD fI fT fW C CB : Addr} {fd fdD fdI fdT fdW : FuncData} (F : Fun K "_law_done" "_law_done" sDone f fd) (T : Txt K mg C CB)
    (GD : FnOk P w K mg base CX0 3 fD fdD ["_law_cell", "_law_many", "_law_spots", "_law_plain"] spDrawn) (FD : Fun K "_law_drawn" "_law_drawn" sDrawn fD fdD) (bD : Binds K fdD ["_law_cell", "_law_many", "_law_spots", "_law_plain"] []) (mgD : mg "_law_drawn" = some (.ref fD))
    (M : _root_.L2.Mk K CB fI) (GI : FnOk P w K mg base CX0 1 fI fdI ["self", "hand"] (spBInit CB)) (bI : Binds K fdI ["self", "hand"] [])
    (mT : Meth K CB "take_in" fT) (GT : FnOk P w K mg base CX0 2 fT fdT ["self", "other"] (spTake C CB)) (bT : Binds K fdT ["self", "other"] [])
    (mW : Meth K CB "write" fW) (GW : FnOk P w K mg base CX0 3 fW fdW ["self", "tongue", "key", "text", "first"] (spWrite C CB)) (bW : Binds K fdW ["self", "tongue", "key", "text", "first"] []) :
    FnOk P w K mg base CX0 4 f fd ["_law_hands", "_law_spots", "_law_cells", "_law_plain"] (spDone C CB) := by
  refine F.ok scDone (fun vs H Q E h => ?_) (fun cdv A outer s H vs Q E hr h => ?_)
  · obtain ⟨Z, lh, ls, lc, pl, hands, sas, sps, cells, rfl, _⟩ := h
    rfl
  · obtain ⟨Z, lh, ls, lc, pl, hands, sas, sps, cells, rfl, sZ, hlh, h2, h5, hnd, hls, eS, hs1, hs4, hlc, hc24, k⟩ := h
    refine ⟨_, (pss_cons (ps_setLc (i := 4) (own := [("_law_hand", 11)]) (g := gName 11) (tt := tYes) (te := tMake CB (spBInit CB) [] E0 (tCons (tVar 11) tNil)) rfl scDone.nd rfl rfl (sw_true rfl rfl rfl (by decide +kernel)) (pi_list (pv 0))
        (blkOk_by (N := ["_law_hands", "_law_spots", "_law_cells", "_law_plain", "_law_books", "_law_cell", "_law_way", "_law_one", "_law_other", "_law_piece", "_law_pair_here", "_law_hand"]) (sc := defScope sDone) (by decide +kernel)) (fun _ _ _ _ _ => (pg_name (i := 11) scDone.nd rfl (Or.inl rfl))) (fun _ _ _ _ _ => pts_nil) (fun _ _ _ _ _ => pe_make M GI (hr.mono (by decide)) rfl T.mgB bI .nil pass0 (pa_cons (pv 11) pa_nil)))
      (pss_cons (ps_for PassesOwn.never rfl (pi_list (pv 2)) (pg_name (i := 5) scDone.nd rfl (Or.inl rfl))
        (pss_cons (ps_asg (pe_call GD hr rfl mgD FD.kp bD .nil pass0 (pa_cons (pv 5) (pa_cons (pe_callB call_len_seq (by rfl) T.len PySem.boot_len (pa_cons (pv 4) pa_nil)) (pa_cons (pv 1) (pa_cons (pv 3) pa_nil))))) (pg_tup rfl (pgs_cons (pg_name (i := 6) scDone.nd rfl (Or.inl rfl)) (pgs_cons (pg_name (i := 7) scDone.nd rfl (Or.inl rfl)) (pgs_cons (pg_name (i := 8) scDone.nd rfl (Or.inl rfl)) (pgs_cons (pg_name (i := 9) scDone.nd rfl (Or.inl rfl)) (pgs_cons (pg_name (i := 10) scDone.nd rfl (Or.inl rfl)) pgs_nil)))))))
      (pss_one (ps_if (pt_cmpR op_eq (pv 6) pe_int (nomark _)) (pss_one (ps_expr (pe_meth (pe_ix ix_list (pv 4) (pv 7) (fun _ _ => rfl)) T.clB mT GT (hr.mono (by decide)) bT .nil pass0 (pa_cons (pe_ix ix_list (pv 4) (pv 8) (fun _ _ => rfl)) pa_nil)))) (pss_one (ps_expr (pe_meth (pe_ix ix_list (pv 4) (pv 7) (fun _ _ => rfl)) T.clB mW GW (hr.mono (by decide)) bW .nil pass0 (pa_cons (pe_ix ix_tup (pv 9) pe_int (fun _ _ => rfl)) (pa_cons (pe_ix ix_tup (pv 9) pe_int (fun _ _ => rfl)) (pa_cons (pe_ix ix_tup (pv 10) pe_int (fun _ _ => rfl)) (pa_cons (pe_ix ix_tup (pv 10) pe_int (fun _ _ => rfl)) pa_nil)))))))))))
      (pss_one (ps_ret (pv 4))))), ?_⟩
    refine ⟨_, rfl, lh, rfl, ⟨_, SqL.of hlh⟩, fun D hD => lc_list (K := K) (a := lh) (xs := hands.map V.str)
      (fun i H3 => ∃ ads : List (Addr × Addr), Same H H3 ∧ H3 D = some (.lst (refs ads)) ∧ (∀ a ∈ ads, H a.1 = none ∧ H a.2 = none) ∧ Shelf C CB Z H3 ads ((startM hands).take i))
      ⟨[], fun a o e => (upd_ne (ne_of_none e hD)).trans e, upd_same, (fun a h => nomatch h), ⟨fun a o e => (upd_ne (ne_of_none (sZ _ _ e) hD)).trans (sZ _ _ e), .nil, List.nodup_nil, List.nodup_nil⟩⟩ (fun i H3 _ ⟨_, s3, _⟩ => SqL.of (s3 _ _ hlh)) ?_ ?_⟩
    · rintro i x H3 hi ⟨ads, s3, hD3, fr, S⟩
      rw [List.getElem?_map] at hi
      obtain ⟨hd, hhd, rfl⟩ := Option.map_eq_some_iff.mp hi
      have hst : (startM hands)[i]? = some ⟨hd, 0, []⟩ := by
        unfold startM
        rw [List.getElem?_map, hhd]
        rfl
      refine ⟨rfl, ?_⟩
      refine ⟨_, rfl, fun x dx hx hdx ndx => ?_⟩
      refine ⟨x, dx, hd, rfl, upd_same, fun H' d hd0 h1 h2' h3 => ⟨rfl, ?_⟩⟩
      have ndx2 : d ≠ x := fun z => by rw [z, upd_same] at hd0; cases hd0
      have ndx3 : d ≠ dx := fun z => by rw [z, upd_ne ndx, upd_same] at hd0; cases hd0
      have hd3 : H3 d = none := by rw [upd_ne ndx2, upd_ne ndx3] at hd0; exact hd0
      have old : ∀ {a : Addr} {o : HO}, H3 a = some o → H' a = some o := fun e => by
        rw [h3 _ (ne_of_none e hx) (ne_of_none e hd3), upd_ne (ne_of_none e hx), upd_ne (ne_of_none e hdx)]
        exact e
      have nxD : x ≠ D := fun z => by rw [z, hD3] at hx; cases hx
      have ndD : d ≠ D := fun z => by rw [z, hD3] at hd3; cases hd3
      have le : ads.length = ((startM hands).take i).length := S.books.length
      have sZ3 : Same Z H3 := S.same
      refine ⟨_, old hD3, ?_, ads ++ [(x, d)], fun a o e => ?_, ?_, ?_, ?_⟩
      · rw [List.length_map, le, List.length_take]
        unfold startM
        rw [List.length_map]
        exact small1000 (by omega)
      · rw [upd_ne (ne_of_none e hD)]
        exact old (s3 _ _ e)
      · rw [upd_same]
        show _ = some (HO.lst (List.map _ (ads ++ [(x, d)])))
        rw [List.map_append]
        rfl
      · intro a ha
        rcases List.mem_append.mp ha with ha | ha
        · exact fr a ha
        · rw [List.mem_singleton.mp ha]
          exact ⟨s3.free hx, s3.free hd3⟩
      · rw [take_next' hst]
        refine ⟨fun a o e => ?_, each_snoc (S.books.mono fun pd b B => ?_) ?_, ?_, ?_⟩
        · rw [upd_ne (ne_of_none (sZ _ _ e) hD)]
          exact old (sZ3 _ _ e)
        · obtain ⟨⟨dy, hp⟩, ⟨kvs, hdk, _⟩, _, _⟩ := id B
          have n1 : pd.1 ≠ D := ne_of hp hD3 (by intro z; cases z)
          have n2 : pd.2 ≠ D := ne_of hdk hD3 (by intro z; cases z)
          exact B.next (Ext.refl _ _) (fun o e => (upd_ne n1).trans (old e)) (fun o e => (upd_ne n2).trans (old e))
        · refine ⟨⟨dx, (upd_ne nxD).trans h1⟩, ⟨[], (upd_ne ndD).trans h2', .nil⟩, sZ3.free hx, sZ3.free hd3⟩
        · rw [List.map_append]
          refine List.nodup_append.mpr ⟨S.np, by simp, ?_⟩
          intro a ha b hb e
          rw [List.map_cons, List.map_nil, List.mem_singleton] at hb
          obtain ⟨pd, hpd, rfl⟩ := List.mem_map.mp ha
          obtain ⟨j, hj⟩ := List.mem_iff_getElem?.mp hpd
          obtain ⟨bj, _, B⟩ := each_get S.books hj
          obtain ⟨⟨dy, hp⟩, _, _, _⟩ := B
          rw [e, hb, hx] at hp
          cases hp
        · rw [List.map_append]
          refine List.nodup_append.mpr ⟨S.nd, by simp, ?_⟩
          intro a ha b hb e
          rw [List.map_cons, List.map_nil, List.mem_singleton] at hb
          obtain ⟨pd, hpd, rfl⟩ := List.mem_map.mp ha
          obtain ⟨j, hj⟩ := List.mem_iff_getElem?.mp hpd
          obtain ⟨bj, _, B⟩ := each_get S.books hj
          obtain ⟨_, ⟨kvs, hdk, _⟩, _, _⟩ := B
          rw [e, hb, hd3] at hdk
          cases hdk
    · rintro H1 ⟨ads, s1, hD1, fr, S⟩
      have es : (startM hands).take (hands.map V.str).length = doneM hands sps pl (cells.take 0) := by
        have : (startM hands).length = (hands.map V.str).length := by
          unfold startM
          rw [List.length_map, List.length_map]
        rw [← this, List.take_length]
        rfl
      rw [es] at S
      have zD : Z D = none := sZ.free hD
      obtain ⟨Z1, eZ1⟩ : ∃ Z1 : Hp, Z1 = upd Z D (.lst (refs ads)) := ⟨_, rfl⟩
      have X1 : Ext Z H Z1 := by rw [eZ1]; exact (Ext.refl Z H).add hD zD
      have S1 : Shelf C CB Z1 H1 ads (doneM hands sps pl (cells.take 0)) := by
        rw [eZ1]
        exact ⟨Same.upd_new S.same hD1, S.books.mono fun pd b B => B.grow zD hD1 _, S.np, S.nd⟩
      have Z1D : Z1 D = some (.lst (refs ads)) := by rw [eZ1]; exact upd_same
      have hal : ads.length = hands.length := by
        rw [S.books.length, doneM_length]
      have hsl : sas.length = sps.length := eS.length
      clear es S eZ1 hD1
      refine ⟨_, rfl, lc, rfl, ⟨_, SqL.of (s1 _ _ hlc)⟩, for_list (K := K) (a := lc) (xs := cells.map V.int)
        (fun i σ H3 => ∃ (v5 v6 v7 v8 v9 v10 : Option V) (Z' : Hp), σ = [some (.ref lh), some (.ref ls), some (.ref lc), some (.bl pl), some (.ref D), v5, v6, v7, v8, v9, v10, none] ∧ Ext Z H Z' ∧ Same H H3 ∧ Z' D = some (.lst (refs ads)) ∧
          Shelf C CB Z' H3 ads (doneM hands sps pl (cells.take i)))
        ⟨none, none, none, none, none, none, Z1, rfl, X1, s1, Z1D, S1⟩ (fun i σ H3 _ ⟨_, _, _, _, _, _, _, _, _, s3, _⟩ => SqL.of (s3 _ _ hlc)) ?_ ?_⟩
      · rintro i x σ H3 hi ⟨v5, v6, v7, v8, v9, v10, Z', rfl, X, s3, zD', S⟩
        rw [List.getElem?_map] at hi
        obtain ⟨c, hc, rfl⟩ := Option.map_eq_some_iff.mp hi
        have hD3 : H3 D = some (.lst (refs ads)) := S.same _ _ zD'
        have hbl : (doneM hands sps pl (cells.take i)).length = hands.length := doneM_length _ _ _ _
        have hrl : (refs ads).length = hands.length := by rw [List.length_map, hal]
        refine ⟨_, rfl, _, rfl, D, _, rfl, .inl (SqL.of hD3), _, rfl, _, rfl, ?_⟩
        refine ⟨c, (refs ads).length, ls, pl, sas, rfl, by omega, by omega, s3 _ _ hls, hs1, hs4, fun H4 t tp sp s4 ht0 hsp ht htp => ?_⟩
        rw [hrl] at ht
        have hmo := modIn (numF c / 3) (j := (hands.length : Int)) (by omega)
        have hmx := modIn (oneF c hands.length + 1 + numF c / 15 % ((hands.length : Int) - 1)) (j := (hands.length : Int)) (by omega)
        have ho0 : 0 ≤ oneF c hands.length := hmo.1
        have ho1 : oneF c hands.length < (hands.length : Int) := hmo.2
        have hx0 : 0 ≤ otherF c hands.length := hmx.1
        have hx1 : otherF c hands.length < (hands.length : Int) := hmx.2
        have hne : otherF c hands.length ≠ oneF c hands.length := other_ne hands.length h2 h5 _ _ ho0 ho1
        have hnn : (oneF c hands.length).toNat ≠ (otherF c hands.length).toNat := by omega
        obtain ⟨b, hb⟩ : ∃ b, (doneM hands sps pl (cells.take i))[(oneF c hands.length).toNat]? = some b := ⟨_, List.getElem?_eq_getElem (by rw [hbl]; omega)⟩
        obtain ⟨o, ho⟩ : ∃ o, (doneM hands sps pl (cells.take i))[(otherF c hands.length).toNat]? = some o := ⟨_, List.getElem?_eq_getElem (by rw [hbl]; omega)⟩
        obtain ⟨pr, hpr, asp⟩ := each_get eS hsp
        rw [hsl] at hpr
        obtain ⟨p, d, hpd, B⟩ := S.get hb
        obtain ⟨p2, d2, hpd2, B2⟩ := S.get ho
        have hdd : d ≠ d2 := S.dne hpd hpd2 hnn
        have at1 := at_refs ho0 hpd
        have at2 := at_refs hx0 hpd2
        obtain ⟨G, Kn, g⟩ := good_done hnd sps pl (cells.take i)
        have hn24 : (cells.take i).length ≤ 24 := by rw [List.length_take]; omega
        obtain ⟨b1, b2, b3, b4⟩ := bounds g hn24 hb
        obtain ⟨o1, o2, o3, o4⟩ := bounds g hn24 ho
        have step : doneM hands sps pl (cells.take (i + 1)) = (doneM hands sps pl (cells.take i)).set (oneF c hands.length).toNat (if wayF c = 0 then _root_.SW.takeM b o else _root_.SW.writeM mkM b pr (pairF c pl)) := by
          rw [doneM_next hc]
          have e := stepM_eq (sps := sps) (pl := pl) (bs := doneM hands sps pl (cells.take i)) (c := c) (b := b) (o := o) (sp := pr)
          rw [hbl] at e
          exact e hb ho hpr
        have S4 := S.keep s4
        have B4 : BookAt C CB Z' H4 p d b := B.next (Ext.refl _ _) (fun o e => s4 _ _ e) (fun o e => s4 _ _ e)
        have B24 : BookAt C CB Z' H4 p2 d2 o := B2.next (Ext.refl _ _) (fun o e => s4 _ _ e) (fun o e => s4 _ _ e)
        have hD4 := s4 _ _ hD3
        have s04 := s3.trans s4
        obtain ⟨fp, fd'⟩ := fr _ (List.mem_of_getElem? hpd)
        refine ⟨t, _, rfl, SqT.of ht, rfl, _, _, rfl, _, _, rfl, _, _, rfl, _, _, rfl, _, _, rfl, rfl, ?_⟩
        refine ⟨_, rfl, rfl, _, rfl, ?_⟩
        have asp4 : H4 sp = some (.tup [.str pr.1, .str pr.2]) := s04 _ _ asp
        have hal4 : ∀ {H5 : Hp}, (∀ a o, H4 a = some o → a ≠ p → a ≠ d → H5 a = some o) → Same H H5 := fun q a u e =>
          q a u (s04 _ _ e) (fun z => by rw [z, fp] at e; cases e) (fun z => by rw [z, fd'] at e; cases e)
        obtain ⟨dx, hp4⟩ := B4.ob
        refine ite2 (fun hc0 => ?_) (fun hc0 => ?_)
        · have hw : wayF c = 0 := by
            have := of_decide_eq_true hc0
            injection this
          rw [if_pos hw] at step
          refine ⟨_, rfl, _, rfl, D, _, _, _, rfl, rfl, SqL.of hD4, at1, p, dx, _, rfl, hp4, bf_no _ _ _ (by decide +kernel) (by decide +kernel) (by decide +kernel), ?_⟩
          refine ⟨_, rfl, _, rfl, D, _, _, _, rfl, rfl, SqL.of hD4, at2, ?_⟩
          refine ⟨Z', p, d, p2, d2, b, o, rfl, S4.same, B4, B24, hdd, o1, b1, by omega, by omega, fun pc => by have := b3 pc; omega, fun pc => by have := o3 pc; omega, fun Z2 H5 X5 s5 B5 fr5 => ?_⟩
          refine ⟨_, _, _, _, _, _, Z2, rfl, X.trans X5 (fun a e => s04.free e), hal4 (fun a o e _ h => fr5 a o e h), X5.same _ _ zD', ?_⟩
          rw [step]
          exact S4.step hpd X5 s5 B5 (fun a o e _ h => fr5 a o e h)
        · have hw : ¬ wayF c = 0 := fun z => hc0 (decide_eq_true (by rw [z]))
          rw [if_neg hw] at step
          refine ⟨_, rfl, _, rfl, D, _, _, _, rfl, rfl, SqL.of hD4, at1, p, dx, _, rfl, hp4, bf_no _ _ _ (by decide +kernel) (by decide +kernel) (by decide +kernel), ?_⟩
          refine ⟨_, rfl, sp, _, _, _, rfl, rfl, SqT.of asp4, at_of (j := 0) rfl rfl, _, rfl, sp, _, _, _, rfl, rfl, SqT.of asp4, at_of (j := 1) rfl rfl, ?_⟩
          have htp4 : H4 tp = some (.tup [.str (pairF c pl).1, .str (pairF c pl).2]) := htp
          refine ⟨_, rfl, tp, _, _, _, rfl, rfl, SqT.of htp4, at_of (j := 0) rfl rfl, _, rfl, tp, _, _, _, rfl, rfl, SqT.of htp4, at_of (j := 1) rfl rfl, ?_⟩
          refine ⟨Z', p, d, b, pr, pairF c pl, rfl, S4.same, B4, by omega, by have := b3 pr; omega, fun w hw => by have := b4 pr w hw; omega, fun Z2 H5 X5 s5 B5 fr5 => ?_⟩
          refine ⟨_, _, _, _, _, _, Z2, rfl, X.trans X5 (fun a e => s04.free e), hal4 fr5, X5.same _ _ zD', ?_⟩
          rw [step]
          exact S4.step hpd X5 s5 B5 fr5
      · rintro σ H3 ⟨v5, v6, v7, v8, v9, v10, Z', rfl, X, s3, zD', S⟩
        rw [List.length_map, List.take_length] at S
        exact ⟨_, rfl, k Z' H3 D ads X s3 zD' fr S⟩
end
end L2.SR
/-! The law's helpers: what is told stands in order. -/
namespace L2.SR
open PySem PySem.Spec PyProof.Rows
theorem scOrder : FnScope ["_law_told", "_law_clashes", "_law_heads", "_law_row"] ["_law_told", "_law_clashes"] (defScope sOrder) := ⟨rfl, rfl, rfl, by decide +kernel, rfl, by decide +kernel, by decide +kernel⟩
theorem boot_isi : bootBuiltins "isinstance" = some (.builtin "isinstance") := by decide +kernel
theorem boot_list : bootBuiltins "list" = some (.type "list") := by decide +kernel
theorem boot_tuple : bootBuiltins "tuple" = some (.type "tuple") := by decide +kernel
theorem rel_list : RelV (.ty "list") (.type "list") := rfl
theorem rel_tuple : RelV (.ty "tuple") (.type "tuple") := rfl
theorem kit_list {K : PySem.W.Frag} : PySem.W.kitOne K (.type "list") (.type "list") = some true := kit_ty (by decide +kernel)
theorem kit_tuple {K : PySem.W.Frag} : PySem.W.kitOne K (.type "tuple") (.type "tuple") = some true := kit_ty (by decide +kernel)

/-! ### data of texts -/
def rEqP (K : PySem.W.Frag) : R2 := fun x y H Q => ∃ d e, Dp K H x d ∧ Dp K H y e ∧ d.plain = true ∧ e.plain = true ∧ d.depth ≤ 8 ∧ Q (.bl (PyData.eqv d e)) H
def rNeP (K : PySem.W.Frag) : R2 := fun x y H Q => ∃ d e, Dp K H x d ∧ Dp K H y e ∧ d.plain = true ∧ e.plain = true ∧ d.depth ≤ 8 ∧ Q (.bl (!PyData.eqv d e)) H
section
variable {X : Cx}
theorem op_eqP (hu : X.A.units + 64 < cLine) : OpR X (compareOp .Eq) (rEqP X.K) := by
  intro pins s σ H x y v u Q I rx ry h
  obtain ⟨d, e, hd, he, pd, pe, dd, q⟩ := h
  obtain ⟨as, r1⟩ := Dp.reads I d x v hd rx
  obtain ⟨bs, r2⟩ := Dp.reads I e y u he ry
  have hm : min d.depth e.depth ≤ d.depth := Nat.min_le_left _ _
  exact SeqAt.eq_plain r1 r2 pd pe (by omega) ⟨.bl _, H, I, rfl, q⟩
theorem op_neP (hu : X.A.units + 64 < cLine) : OpR X (compareOp .NotEq) (rNeP X.K) := by
  intro pins s σ H x y v u Q I rx ry h
  obtain ⟨d, e, hd, he, pd, pe, dd, q⟩ := h
  obtain ⟨as, r1⟩ := Dp.reads I d x v hd rx
  obtain ⟨bs, r2⟩ := Dp.reads I e y u he ry
  have hm : min d.depth e.depth ≤ d.depth := Nat.min_le_left _ _
  exact SeqAt.ne_plain r1 r2 pd pe (by omega) ⟨.bl _, H, I, rfl, q⟩
end
def prsDat (ps : List Pr) : PyData := .list (ps.map prDat)
def rowDat (r : Pr × List Pr) : PyData := .tuple [.str r.1.1, .str r.1.2, prsDat r.2]
def toldDat (rows : List (Pr × List Pr)) : PyData := .list (rows.map rowDat)
theorem plainAll_map {α : Type} (f : α → PyData) : ∀ l : List α, (∀ x ∈ l, (f x).plain = true) → PyData.plainAll (l.map f) = true
  | [], _ => rfl
  | x :: l, h => by
    rw [List.map_cons, PyData.plainAll, h x List.mem_cons_self, plainAll_map f l fun y hy => h y (List.mem_cons_of_mem _ hy)]
    rfl
theorem depthAll_map {α : Type} (f : α → PyData) (n : Nat) : ∀ l : List α, (∀ x ∈ l, (f x).depth ≤ n) → PyData.depthAll (l.map f) ≤ n
  | [], _ => Nat.zero_le _
  | x :: l, h => by
    have h1 := h x List.mem_cons_self
    have h2 := depthAll_map f n l fun y hy => h y (List.mem_cons_of_mem _ hy)
    rw [List.map_cons, PyData.depthAll]
    omega
theorem prDat_plain (p : Pr) : (prDat p).plain = true := rfl
theorem prsDat_plain (ps : List Pr) : (prsDat ps).plain = true := plainAll_map _ _ fun p _ => prDat_plain p
theorem prDat_depth (p : Pr) : (prDat p).depth ≤ 3 := pr_depth [p] _ (List.mem_map.mpr ⟨p, List.mem_cons_self, rfl⟩)
theorem prsDat_depth (ps : List Pr) : (prsDat ps).depth ≤ 4 := by
  have h := depthAll_map prDat 3 ps fun p _ => prDat_depth p
  unfold prsDat
  rw [PyData.depth]
  omega
theorem rowDat_plain (r : Pr × List Pr) : (rowDat r).plain = true := by
  unfold rowDat
  simp only [PyData.plain, PyData.plainAll, prsDat_plain, Bool.and_self]
theorem rowDat_depth (r : Pr × List Pr) : (rowDat r).depth ≤ 5 := by
  have h := prsDat_depth r.2
  unfold rowDat
  simp only [PyData.depth, PyData.depthAll]
  omega
theorem toldDat_plain (rows : List (Pr × List Pr)) : (toldDat rows).plain = true := plainAll_map _ _ fun r _ => rowDat_plain r
theorem toldDat_depth (rows : List (Pr × List Pr)) : (toldDat rows).depth ≤ 8 := by
  have h := depthAll_map rowDat 5 rows fun r _ => rowDat_depth r
  unfold toldDat
  rw [PyData.depth]
  omega
section
variable {K : PySem.W.Frag} {H : Hp}
theorem dp_pr {b : Addr} {p : Pr} (h : AtP H b p) : Dp K H (.ref b) (prDat p) := .tup (SqT.of h) (.cons (.str _) (.cons (.str _) .nil))
theorem dpAll_each {α : Type} {R : Addr → α → Prop} {f : α → PyData} (k : ∀ a x, R a x → Dp K H (.ref a) (f x)) : ∀ {as : List Addr} {xs : List α}, Each R as xs → DpAll K H (as.map V.ref) (xs.map f)
  | _, _, .nil => .nil
  | _, _, .cons r t => .cons (k _ _ r) (dpAll_each k t)
theorem dp_prs {l : Addr} {bs : List Addr} {ps : List Pr} (h : H l = some (.lst (bs.map V.ref))) (e : Each (AtP H) bs ps) : Dp K H (.ref l) (prsDat ps) := .lst (SqL.of h) (dpAll_each (fun _ _ r => dp_pr r) e)
theorem dp_row {t : Addr} {r : Pr × List Pr} (h : RowAt H t r) : Dp K H (.ref t) (rowDat r) := by
  obtain ⟨l, bs, h1, h2, h3⟩ := h
  exact .tup (SqT.of h1) (.cons (.str _) (.cons (.str _) (.cons (dp_prs h2 h3) .nil)))
theorem dp_told {D : Addr} {rows : List (Pr × List Pr)} (h : ToldAt H D rows) : Dp K H (.ref D) (toldDat rows) := by
  obtain ⟨ts, h1, h2⟩ := h
  exact .lst (SqL.of h1) (dpAll_each (fun _ _ r => dp_row r) h2)
theorem dp_pairs {D : Addr} {ps : List Pr} (h : PairsAt H D ps) : Dp K H (.ref D) (prsDat ps) := by
  obtain ⟨bs, h1, h2⟩ := h
  exact dp_prs h1 h2
end
theorem eqv_told (rows : List (Pr × List Pr)) : PyData.eqv (toldDat rows) (toldDat rows) = true := SeqAt.eqv_refl_plain _ (toldDat_plain rows)
theorem eqv_prs (ps : List Pr) : PyData.eqv (prsDat ps) (prsDat ps) = true := SeqAt.eqv_refl_plain _ (prsDat_plain ps)
abbrev hds (rows : List (Pr × List Pr)) : List Pr := rows.map fun r => r.1
abbrev cls (rows : List (Pr × List Pr)) : List Pr := (rows.filter fun r => decide (1 < r.2.length)).map fun r => r.1
/-- what is asked of rows and clashes -/
structure InOrder (rows : List (Pr × List Pr)) (ps : List Pr) : Prop where
  short : rows.length < 64
  heads : setP (hds rows) = hds rows
  some_ : ∀ r ∈ rows, r.2 ≠ []
  each : ∀ r ∈ rows, setP r.2 = r.2
  few : ∀ r ∈ rows, r.2.length < 64
  clash : ps = cls rows
def spOrder : Sp := fun vs H Q _ => ∃ (a b : Addr) (rows : List (Pr × List Pr)) (ps : List Pr), vs = [.ref a, .ref b] ∧ ToldAt H a rows ∧ PairsAt H b ps ∧ InOrder rows ps ∧ ∀ H', Same H H' → Q (.bl true) H'
section
variable {P : Program} {w : World} {K : PySem.W.Frag} {mg : Str → Option Value} {base : Heap}
theorem ok_order {f C CB : Addr} {fd : FuncData} (F : Fun K "_law_in_order" "_law_in_order" sOrder f fd) (T : Txt K mg C CB) : FnOk P w K mg base CX0 1 f fd ["_law_told", "_law_clashes"] spOrder := by
  refine F.ok scOrder (fun vs H Q E h => ?_) (fun cdv A outer s H vs Q E hr h => ?_)
  · obtain ⟨a, b, rows, ps, rfl, _⟩ := h
    rfl
  · obtain ⟨a, b, rows, ps, rfl, ⟨ts, ha, et⟩, hb, o, k⟩ := h
    have hu64 : A.units + 3 + 64 < cLine := by have : A.units + 3 + 16 * 0 + 200 < cLine := hr.un; omega
    obtain ⟨bs, hbl, eb⟩ := id hb
    refine ⟨_, (pss_cons (ps_if (PW.pt (pw_or (pt_not (pt_val (pe_callB call_isi (by rfl) T.isinst boot_isi (pa_cons (pv 0) (pa_cons (pe_bltn (by rfl) T.list boot_list rel_list) pa_nil))))) (pw_or1 (pt_not (pt_val (pe_callB call_isi (by rfl) T.isinst boot_isi (pa_cons (pv 1) (pa_cons (pe_bltn (by rfl) T.list boot_list rel_list) pa_nil)))))))) (pss_one (ps_ret pe_bl)) pss_nil)
      (pss_cons (ps_set (i := 2) scOrder.nd rfl (Or.inl rfl) (pe_lst pa_nil))
      (pss_cons (ps_for PassesOwn.never rfl (pi_list (pv 0)) (pg_name (i := 3) scOrder.nd rfl (Or.inl rfl))
        (pss_cons (ps_if (PW.pt (pw_or (pt_not (pt_val (pe_callB call_isi (by rfl) T.isinst boot_isi (pa_cons (pv 3) (pa_cons (pe_bltn (by rfl) T.tuple boot_tuple rel_tuple) pa_nil))))) (pw_or (pt_cmpR op_ne (pe_callB call_len_seq (by rfl) T.len PySem.boot_len (pa_cons (pv 3) pa_nil)) pe_int (nomark _)) (pw_or (pt_not (pt_val (pe_callB call_isi (by rfl) T.isinst boot_isi (pa_cons (pe_ix ix_tup (pv 3) pe_int (fun _ _ => rfl)) (pa_cons (pe_bltn (by rfl) T.list boot_list rel_list) pa_nil))))) (pw_or1 (pt_cmpR (op_eqP hu64) (pe_ix ix_tup (pv 3) pe_int (fun _ _ => rfl)) (pe_lst pa_nil) (nomark _))))))) (pss_one (ps_ret pe_bl)) pss_nil)
      (pss_cons (ps_if (pt_cmpR (op_neP hu64) (pe_ix ix_tup (pv 3) pe_int (fun _ _ => rfl)) (pe_sortSet rfl hu64 (by rfl) T.sorted (by rfl) T.set (pe_ix ix_tup (pv 3) pe_int (fun _ _ => rfl))) (nomark _)) (pss_one (ps_ret pe_bl)) pss_nil)
      (pss_one (ps_expr (pe_bm PySem.F.plainAttrs_list PySem.F.slot_list_append PySem.F.type_list_append mt_append (pv 2) (pa_cons (pe_tup (pa_cons (pe_ix ix_tup (pv 3) pe_int (fun _ _ => rfl)) (pa_cons (pe_ix ix_tup (pv 3) pe_int (fun _ _ => rfl)) pa_nil))) pa_nil)))))))
      (pss_cons (ps_if (pt_cmpR (op_neP hu64) (pv 2) (pe_sortSet rfl hu64 (by rfl) T.sorted (by rfl) T.set (pv 2)) (nomark _)) (pss_one (ps_ret pe_bl)) pss_nil)
      (pss_one (ps_ret (pe_cmpR (op_eqP hu64) (pv 1) (pe_lc (own := [("_law_row", 3)]) (g := gName 3) (tt := tTest (tOp (rI0 fun i j => .bl (decide (j < i))) (tCB (rLenS K) (tCons (tOp (rIxT K) (tVar 3) (tI 2)) tNil)) (tI 1))) (te := tTup (tCons (tOp (rIxT K) (tVar 3) (tI 0)) (tCons (tOp (rIxT K) (tVar 3) (tI 1)) tNil))) rfl scOrder.nd (pi_list (pv 0))
        (blkOk_by (N := ["_law_told", "_law_clashes", "_law_heads", "_law_row"]) (sc := defScope sOrder) (by decide +kernel)) (fun _ _ _ _ _ => (pg_name (i := 3) scOrder.nd rfl (Or.inl rfl))) (fun _ _ _ _ _ => pts_one (pt_cmpR op_gt (pe_callB call_len_seq (by rfl) T.len PySem.boot_len (pa_cons (pe_ix ix_tup (pv 3) pe_int (fun _ _ => rfl)) pa_nil)) pe_int (nomark _))) (fun _ _ _ _ _ => (pe_tup (pa_cons (pe_ix ix_tup (pv 3) pe_int (fun _ _ => rfl)) (pa_cons (pe_ix ix_tup (pv 3) pe_int (fun _ _ => rfl)) pa_nil))))) (nomark _)))))))), ?_⟩
    refine ⟨_, rfl, _, .ty "list", _, _, true, rfl, .ty _, .base (.lst ha), kit_list, _, rfl, ?_⟩
    refine ite2 (fun z => nomatch z) (fun _ => ?_)
    refine ⟨_, rfl, _, .ty "list", _, _, true, rfl, .ty _, .base (.lst hbl), kit_list, _, rfl, ?_⟩
    refine ite2 (fun z => nomatch z) (fun _ => ?_)
    refine ⟨Nat.zero_le _, fun hd hhd => ?_⟩
    have u0 : ∀ {c : Addr} {o : HO}, H c = some o → upd H hd (.lst []) c = some o := fun e => (upd_ne (ne_of_none e hhd)).trans e
    have lts : ts.length = rows.length := et.length
    refine ⟨_, rfl, a, rfl, ⟨_, SqL.of (u0 ha)⟩, for_list (K := K) (a := a) (xs := ts.map V.ref)
      (fun i σ H3 => ∃ (v3 : Option V) (hs : List Addr), σ = [some (.ref a), some (.ref b), some (.ref hd), v3] ∧ Same H (del H3 hd) ∧ H3 hd = some (.lst (hs.map V.ref)) ∧ Each (AtP (del H3 hd)) hs (hds (rows.take i)))
      ⟨none, [], rfl, same_del (fun c o e => u0 e) hhd, upd_same, .nil⟩ (fun i σ H3 _ ⟨_, _, _, s3, _⟩ => SqL.of (del_same _ _ _ _ (s3 _ _ ha))) ?_ ?_⟩
    · rintro i x σ H3 hi ⟨v3, hs, rfl, s3, h3, e3⟩
      rw [List.getElem?_map] at hi
      obtain ⟨t, ht, rfl⟩ := Option.map_eq_some_iff.mp hi
      obtain ⟨r, hr', l, cs, g1, g2, g3⟩ := each_get et ht
      have hrm := List.mem_of_getElem? hr'
      have up : ∀ {c : Addr} {o : HO}, H c = some o → H3 c = some o := fun e => del_same _ _ _ _ (s3 _ _ e)
      have hl : cs.length = r.2.length := g3.length
      refine ⟨_, rfl, _, .ty "tuple", _, _, true, rfl, .ty _, .base (.tup (up g1)), kit_tuple, _, rfl, ?_⟩
      refine ite2 (fun z => nomatch z) (fun _ => ?_)
      refine ⟨_, rfl, t, _, rfl, .inr (SqT.of (up g1)), rfl, _, rfl, ?_⟩
      refine ite2 (fun z => nomatch z) (fun _ => ?_)
      refine ⟨_, rfl, t, _, _, _, rfl, rfl, SqT.of (up g1), at_of (j := 2) rfl rfl, _, .ty "list", _, _, true, rfl, .ty _, .base (.lst (up g2)), kit_list, _, rfl, ?_⟩
      refine ite2 (fun z => nomatch z) (fun _ => ?_)
      refine ⟨_, rfl, t, _, _, _, rfl, rfl, SqT.of (up g1), at_of (j := 2) rfl rfl, Nat.zero_le _, fun le hle => ?_⟩
      have up1 : ∀ {c : Addr} {o : HO}, H3 c = some o → upd H3 le (.lst []) c = some o := fun e => (upd_ne (ne_of_none e hle)).trans e
      have hrn : r.2 ≠ [] := o.some_ r hrm
      have hne : PyData.eqv (prsDat r.2) (.list []) = false := by
        cases q : r.2 with
        | nil => exact absurd q hrn
        | cons x l => rfl
      have g31 : Each (AtP (upd H3 le (.lst []))) cs r.2 := g3.mono fun c p q => up1 (up q)
      refine ⟨prsDat r.2, .list [], dp_prs (up1 (up g2)) g31, .lst (SqL.of upd_same) .nil, prsDat_plain _, rfl, Nat.le_trans (prsDat_depth _) (by decide), _, rfl, ?_⟩
      rw [hne]
      refine ite2 (fun z => nomatch z) (fun _ => ?_)
      refine ⟨_, rfl, t, _, _, _, rfl, rfl, SqT.of (up1 (up g1)), at_of (j := 2) rfl rfl, ?_⟩
      refine ⟨_, rfl, t, _, _, _, rfl, rfl, SqT.of (up1 (up g1)), at_of (j := 2) rfl rfl, l, cs, r.2, rfl, SqL.of (up1 (up g2)), g31, o.few r hrm, fun D bs2 hD e2 => ?_⟩
      have up2 : ∀ {c : Addr} {o : HO}, H3 c = some o → upd (upd H3 le (.lst [])) D (.lst (bs2.map V.ref)) c = some o := fun e => (upd_ne (ne_of_none (up1 e) hD)).trans (up1 e)
      have e22 : Each (AtP (upd (upd H3 le (.lst [])) D (.lst (bs2.map V.ref)))) bs2 (setP r.2) := e2.mono fun c p q => (upd_ne (ne_of_none q hD)).trans q
      refine ⟨prsDat r.2, prsDat (setP r.2), dp_prs (up2 (up g2)) (g3.mono fun c p q => up2 (up q)), dp_prs upd_same e22, prsDat_plain _, prsDat_plain _, Nat.le_trans (prsDat_depth _) (by decide), _, rfl, ?_⟩
      rw [o.each r hrm, eqv_prs]
      refine ite2 (fun z => nomatch z) (fun _ => ?_)
      refine ⟨_, rfl, .inl ⟨rfl, _, SqL.of (up2 h3)⟩, _, rfl, t, _, _, _, rfl, rfl, SqT.of (up2 (up g1)), at_of (j := 0) rfl rfl, _, rfl, t, _, _, _, rfl, rfl, SqT.of (up2 (up g1)), at_of (j := 1) rfl rfl, (by show 2 ≤ sizeLine; decide), fun th hth => ?_⟩
      have nth : hd ≠ th := fun z => by rw [← z, up2 h3] at hth; cases hth
      refine ⟨hd, _, _, rfl, rfl, (upd_ne nth).trans (up2 h3), ?_, ?_⟩
      · have hsh := o.short
        rw [List.length_map, e3.length, List.length_map, List.length_take]
        exact small1000 (by omega)
      have up3 : ∀ {c : Addr} {o : HO}, H3 c = some o → c ≠ hd → upd (upd (upd (upd H3 le (.lst [])) D (.lst (bs2.map V.ref))) th (.tup [.str r.1.1, .str r.1.2])) hd (.lst (hs.map V.ref ++ [.ref th])) c = some o := fun e h =>
        (upd_ne h).trans ((upd_ne (ne_of_none (up2 e) hth)).trans (up2 e))
      have sd : Same (del H3 hd) (del (upd (upd (upd (upd H3 le (.lst [])) D (.lst (bs2.map V.ref))) th (.tup [.str r.1.1, .str r.1.2])) hd (.lst (hs.map V.ref ++ [.ref th]))) hd) := del_mono fun c o h e => up3 e h
      refine ⟨_, hs ++ [th], rfl, s3.trans sd, ?_, ?_⟩
      · rw [upd_same, List.map_append]
        rfl
      · show Each _ _ ((rows.take (i + 1)).map fun r => r.1)
        rw [take_next' hr', List.map_append]
        refine each_snoc (e3.mono fun c p q => AtP.mono sd q) ?_
        show del _ hd th = _
        rw [del_ne nth.symm, upd_ne nth.symm, upd_same]
    · rintro σ H3 ⟨v3, hs, rfl, s3, h3, e3⟩
      rw [List.length_map, lts, List.take_length] at e3
      have up : ∀ {c : Addr} {o : HO}, H c = some o → H3 c = some o := fun e => del_same _ _ _ _ (s3 _ _ e)
      have e30 : Each (AtP H3) hs (hds rows) := e3.mono fun c p q => AtP.mono (del_same _ _) q
      refine ⟨_, rfl, _, rfl, hd, hs, hds rows, rfl, SqL.of h3, e30, (by rw [List.length_map]; exact o.short), fun D bs2 hD e2 => ?_⟩
      have up1 : ∀ {c : Addr} {o : HO}, H3 c = some o → upd H3 D (.lst (bs2.map V.ref)) c = some o := fun e => (upd_ne (ne_of_none e hD)).trans e
      refine ⟨prsDat (hds rows), prsDat (setP (hds rows)), dp_prs (up1 h3) (e30.mono fun c p q => up1 q), dp_prs upd_same (e2.mono fun c p q => up1 q), prsDat_plain _, prsDat_plain _, Nat.le_trans (prsDat_depth _) (by decide), _, rfl, ?_⟩
      rw [o.heads, eqv_prs]
      refine ite2 (fun z => nomatch z) (fun _ => ?_)
      -- clashes == [..]
      refine ⟨_, rfl, _, rfl, a, rfl, ⟨_, SqL.of (up1 (up ha))⟩, fun D2 hD2 => ?_⟩
      have s1 : Same H (upd H3 D (.lst (bs2.map V.ref))) := fun c o e => up1 (up e)
      refine lc_list (K := K) (a := a) (xs := ts.map V.ref)
        (fun i H4 => ∃ qs : List Addr, Same H (del H4 D2) ∧ H4 D2 = some (.lst (qs.map V.ref)) ∧ Each (AtP (del H4 D2)) qs (cls (rows.take i)))
        ⟨[], same_del (fun c o e => (upd_ne (ne_of_none (s1 _ _ e) hD2)).trans (s1 _ _ e)) (s1.free hD2), upd_same, .nil⟩ (fun i H4 _ ⟨_, s4, _⟩ => SqL.of (del_same _ _ _ _ (s4 _ _ ha))) ?_ ?_
      · rintro i x H4 hi ⟨qs, s4, h4, e4⟩
        rw [List.getElem?_map] at hi
        obtain ⟨t, ht, rfl⟩ := Option.map_eq_some_iff.mp hi
        obtain ⟨r, hr', l, cs, g1, g2, g3⟩ := each_get et ht
        have up4 : ∀ {c : Addr} {o : HO}, H c = some o → H4 c = some o := fun e => del_same _ _ _ _ (s4 _ _ e)
        have hl : (cs.map V.ref).length = r.2.length := by rw [List.length_map]; exact g3.length
        refine ⟨rfl, ?_⟩
        refine ⟨_, rfl, t, _, _, _, rfl, rfl, SqT.of (up4 g1), at_of (j := 2) rfl rfl, l, _, rfl, .inl (SqL.of (up4 g2)), _, _, rfl, rfl, _, rfl, ?_⟩
        have cond : decide ((1 : Int) < (((cs.map V.ref).length : Nat) : Int)) = decide (1 < r.2.length) := by
          rw [hl, decide_eq_decide]
          omega
        have step : rows.take (i + 1) = rows.take i ++ [r] := take_next' hr'
        refine ite2 (fun hc => ?_) (fun hc => ?_)
        · rw [cond] at hc
          refine ⟨_, rfl, t, _, _, _, rfl, rfl, SqT.of (up4 g1), at_of (j := 0) rfl rfl, _, rfl, t, _, _, _, rfl, rfl, SqT.of (up4 g1), at_of (j := 1) rfl rfl, (by show 2 ≤ sizeLine; decide), fun th hth => ?_⟩
          have nth : D2 ≠ th := fun z => by rw [← z, h4] at hth; cases hth
          refine ⟨_, (upd_ne nth).trans h4, ?_, ?_⟩
          · have hsh := o.short
            have := List.length_filter_le (fun r : Pr × List Pr => decide (1 < r.2.length)) (rows.take i)
            rw [List.length_take] at this
            rw [List.length_map, e4.length, List.length_map]
            exact small1000 (by omega)
          have sd : Same (del H4 D2) (del (upd (upd H4 th (.tup [.str r.1.1, .str r.1.2])) D2 (.lst (qs.map V.ref ++ [.ref th]))) D2) := del_mono fun c o h e => (upd_ne h).trans ((upd_ne (ne_of_none e hth)).trans e)
          refine ⟨qs ++ [th], s4.trans sd, ?_, ?_⟩
          · rw [upd_same, List.map_append]
            rfl
          · show Each _ _ (((rows.take (i + 1)).filter fun r => decide (1 < r.2.length)).map fun r => r.1)
            rw [step, List.filter_append, List.filter_cons_of_pos (by exact hc), List.map_append]
            refine each_snoc (e4.mono fun c p q => AtP.mono sd q) ?_
            show del _ D2 th = _
            rw [del_ne nth.symm, upd_ne nth.symm, upd_same]
        · rw [cond] at hc
          refine ⟨qs, s4, h4, ?_⟩
          show Each _ _ (((rows.take (i + 1)).filter fun r => decide (1 < r.2.length)).map fun r => r.1)
          rw [step, List.filter_append, List.filter_cons_of_neg (by exact hc)]
          have e6 : ∀ l : List (Pr × List Pr), l ++ List.filter (fun r => decide (1 < r.2.length)) [] = l := fun l => List.append_nil l
          rw [e6]
          exact e4
      · rintro H4 ⟨qs, s4, h4, e4⟩
        rw [List.length_map, lts, List.take_length] at e4
        have sH : Same H H4 := s4.trans (del_same _ _)
        refine ⟨prsDat ps, prsDat (cls rows), dp_pairs (hb.mono sH), dp_prs h4 (e4.mono fun c p q => AtP.mono (del_same _ _) q), prsDat_plain _, prsDat_plain _, Nat.le_trans (prsDat_depth _) (by decide), ?_⟩
        rw [← o.clash, eqv_prs]
        exact k H4 sH
end
end L2.SR
/-! Books that have met all tell the same; two rows of books. -/
namespace L2.SR
open PySem PySem.Spec PyProof.Rows
abbrev KnT := Nat → Pr → Mk → Prop
def FullK (G : Pr → List Wri) (Kn : KnT) (i : Nat) : Prop := ∀ p, ∀ w ∈ G p, Kn i p w.mark
section
variable {n n' : Nat} {bs bs' : List Boo} {G : Pr → List Wri} {Kn Kn' : KnT} {i j : Nat} {b b' : Boo}
theorem key_iff (g : GoodB n bs G Kn) (hb : b ∈ bs) (p : Pr) : p ∈ b.held.map (·.1) ↔ _root_.SW.heldOf b p ≠ [] := by
  constructor
  · exact fun h => g.full b hb p h
  · intro h
    by_cases e : p ∈ b.held.map (·.1)
    · exact e
    · exfalso
      apply h
      unfold _root_.SW.heldOf
      rw [_root_.SW.look_none_of e]
      rfl
theorem held_full (g : GoodB n bs G Kn) (hb : bs[i]? = some b) (f : FullK G Kn i) (p : Pr) (w : Wri) : w ∈ _root_.SW.heldOf b p ↔ w ∈ G p ∧ ∀ v ∈ G p, w.mark ∉ v.seen := by
  rw [g.held i b hb p w]
  exact ⟨fun h => ⟨h.1, fun v hv => h.2.2 v hv (f p v hv)⟩, fun h => ⟨h.1, f p w h.1, fun v hv _ => h.2 v hv⟩⟩
theorem full_same (g : GoodB n bs G Kn) (g' : GoodB n' bs' G Kn') (hb : bs[i]? = some b) (hb' : bs'[j]? = some b') (f : FullK G Kn i) (f' : FullK G Kn' j) : toldM b = toldM b' ∧ clashM b = clashM b' := by
  have hm := List.mem_of_getElem? hb
  have hm' := List.mem_of_getElem? hb'
  have e1 : ∀ p w, w ∈ _root_.SW.heldOf b p ↔ w ∈ _root_.SW.heldOf b' p := fun p w => (held_full g hb f p w).trans (held_full g' hb' f' p w).symm
  have e2 : ∀ p, pairsOf b p = pairsOf b' p := fun p => setP_congr fun x => by
    rw [List.mem_map, List.mem_map]
    exact ⟨fun ⟨w, hw, q⟩ => ⟨w, (e1 p w).mp hw, q⟩, fun ⟨w, hw, q⟩ => ⟨w, (e1 p w).mpr hw, q⟩⟩
  have e3 : keysOf b = keysOf b' := srtP_congr ((List.perm_ext_iff_of_nodup (g.keys b hm) (g'.keys b' hm')).mpr fun p => by
    rw [key_iff g hm, key_iff g' hm', ne_eq, ne_eq, List.eq_nil_iff_forall_not_mem, List.eq_nil_iff_forall_not_mem]
    exact ⟨fun h z => h fun w hw => z w ((e1 p w).mp hw), fun h z => h fun w hw => z w ((e1 p w).mpr hw)⟩)
  constructor
  · unfold toldM
    rw [e3]
    exact List.map_congr_left fun p _ => by rw [e2]
  · unfold clashM
    rw [e3]
    exact List.filter_congr fun p _ => by rw [e2]
theorem mem_keysOf {p : Pr} : p ∈ keysOf b ↔ p ∈ b.held.map (·.1) := (srtP_perm _).mem_iff
theorem keysOf_len : (keysOf b).length = b.held.length := by
  unfold keysOf
  rw [(srtP_perm _).length_eq, List.length_map]
theorem pairs_len (p : Pr) : (pairsOf b p).length ≤ (_root_.SW.heldOf b p).length := by
  have h := List.Nodup.length_le_of_subset (setP_nodup ((_root_.SW.heldOf b p).map (·.text))) (l₂ := (_root_.SW.heldOf b p).map (·.text)) (fun x hx => mem_setP.mp hx)
  rw [List.length_map] at h
  exact h
theorem in_order (g : GoodB n bs G Kn) (hn : n ≤ 24) (hb : bs[i]? = some b) : InOrder (toldM b) (clashM b) := by
  have hm := List.mem_of_getElem? hb
  obtain ⟨b1, b2, b3, b4⟩ := bounds g hn hb
  have hh : hds (toldM b) = keysOf b := by
    show (toldM b).map (fun r => r.1) = _
    unfold toldM
    rw [List.map_map]
    exact (List.map_congr_left fun p _ => rfl).trans (List.map_id _)
  refine ⟨?_, ?_, fun r hr => ?_, fun r hr => ?_, fun r hr => ?_, ?_⟩
  · unfold toldM
    rw [List.length_map, keysOf_len]
    omega
  · rw [hh]
    exact setP_srt b1
  · obtain ⟨p, hp, rfl⟩ := List.mem_map.mp hr
    have hk := (key_iff g hm p).mp (mem_keysOf.mp hp)
    intro e
    cases q : _root_.SW.heldOf b p with
    | nil => exact hk q
    | cons w l =>
      have : w.text ∈ pairsOf b p := mem_setP.mpr (List.mem_map.mpr ⟨w, by rw [q]; exact List.mem_cons_self, rfl⟩)
      have e' : pairsOf b p = [] := e
      rw [e'] at this
      cases this
  · obtain ⟨p, hp, rfl⟩ := List.mem_map.mp hr
    exact setP_again _
  · obtain ⟨p, hp, rfl⟩ := List.mem_map.mp hr
    show (pairsOf b p).length < 64
    have := pairs_len (b := b) p
    have := b3 p
    omega
  · show _ = ((toldM b).filter fun r => decide (1 < r.2.length)).map fun r => r.1
    unfold toldM clashM
    rw [List.filter_map, List.map_map]
    exact ((List.map_congr_left fun p _ => rfl).trans (List.map_id _)).symm
/-- all that one has met is met -/
def Cov (K0 K1 : KnT) : Prop := ∀ i p m, K0 i p m → K1 i p m
def Got (K0 K1 : KnT) (t : Nat) (f : Nat → Nat) (k : Nat) : Prop := ∀ k', k' < k → ∀ p m, K0 (f k') p m → K1 t p m
theorem Cov.join {K0 K1 : KnT} (h : Cov K0 K1) (i j : Nat) : Cov K0 (_root_.SW.joinK K1 i j) := fun a p m q => .inl (h a p m q)
theorem Got.skip {K0 K1 : KnT} {t : Nat} {f : Nat → Nat} {k : Nat} (c : Cov K0 K1) (h : Got K0 K1 t f k) (e : f k = t) : Got K0 K1 t f (k + 1) := fun k' hk p m q => by
  by_cases z : k' = k
  · rw [z, e] at q
    exact c _ _ _ q
  · exact h k' (by omega) p m q
theorem Got.join {K0 K1 : KnT} {t : Nat} {f : Nat → Nat} {k : Nat} (c : Cov K0 K1) (h : Got K0 K1 t f k) : Got K0 (_root_.SW.joinK K1 t (f k)) t f (k + 1) := fun k' hk p m q => by
  by_cases z : k' = k
  · rw [z] at q
    exact .inr ⟨rfl, c _ _ _ q⟩
  · exact .inl (h k' (by omega) p m q)
theorem Got.full {K0 K1 : KnT} (g : GoodB n bs G K0) {t : Nat} {f : Nat → Nat} {k : Nat} (h : Got K0 K1 t f k) (hf : ∀ i, i < bs.length → ∃ k', k' < k ∧ f k' = i) : FullK G K1 t := fun p w hw => by
  obtain ⟨i, hi, q⟩ := g.all p w hw
  obtain ⟨k', hk, rfl⟩ := hf i hi
  exact h k' hk p _ q
end

/-! ### two rows -/
structure Two (C CB : Addr) (ads1 ads2 : List (Addr × Addr)) (D1 D2 : Addr) (m : Nat) (Z H : Hp) (bs1 bs2 : List Boo) : Prop where
  sh : Shelf C CB Z H (ads1 ++ ads2) (bs1 ++ bs2)
  d1 : Z D1 = some (.lst (refs ads1))
  d2 : Z D2 = some (.lst (refs ads2))
  la1 : ads1.length = m
  la2 : ads2.length = m
  lb1 : bs1.length = m
  lb2 : bs2.length = m
section
variable {C CB D1 D2 : Addr} {ads1 ads2 : List (Addr × Addr)} {m : Nat} {Z H : Hp} {bs1 bs2 : List Boo}
theorem Two.keep {H' : Hp} (S : Two C CB ads1 ads2 D1 D2 m Z H bs1 bs2) (s : Same H H') : Two C CB ads1 ads2 D1 D2 m Z H' bs1 bs2 := ⟨S.sh.keep s, S.d1, S.d2, S.la1, S.la2, S.lb1, S.lb2⟩
theorem Two.h1 (S : Two C CB ads1 ads2 D1 D2 m Z H bs1 bs2) : H D1 = some (.lst (refs ads1)) := S.sh.same _ _ S.d1
theorem Two.h2 (S : Two C CB ads1 ads2 D1 D2 m Z H bs1 bs2) : H D2 = some (.lst (refs ads2)) := S.sh.same _ _ S.d2
structure TakeOk (C CB : Addr) (Z H : Hp) (p d p2 d2 : Addr) (b c : Boo) : Prop where
  B : BookAt C CB Z H p d b
  Bc : BookAt C CB Z H p2 d2 c
  ne : d ≠ d2
  nc : (c.held.map (·.1)).Nodup
  nb : (b.held.map (·.1)).Nodup
  lb : b.held.length ≤ 100
  lc : c.held.length ≤ 100
  hb : ∀ pc, (_root_.SW.heldOf b pc).length ≤ 100
  hc : ∀ pc, (_root_.SW.heldOf c pc).length ≤ 100
theorem Shelf.take {ads : List (Addr × Addr)} {bs : List Boo} (S : Shelf C CB Z H ads bs) {i j : Nat} {p d p2 d2 : Addr} {b c : Boo} (hi : ads[i]? = some (p, d)) (hj : ads[j]? = some (p2, d2)) (hb : bs[i]? = some b) (hc : bs[j]? = some c) (hij : i ≠ j)
    (B1 : (b.held.map (·.1)).Nodup ∧ b.held.length ≤ 24 ∧ (∀ pc, (_root_.SW.heldOf b pc).length ≤ 24)) (B2 : (c.held.map (·.1)).Nodup ∧ c.held.length ≤ 24 ∧ (∀ pc, (_root_.SW.heldOf c pc).length ≤ 24)) : TakeOk C CB Z H p d p2 d2 b c := by
  obtain ⟨p', d', h1, Bb⟩ := S.get hb
  rw [hi] at h1
  cases h1
  obtain ⟨p', d', h2, Bc⟩ := S.get hc
  rw [hj] at h2
  cases h2
  exact ⟨Bb, Bc, S.dne hi hj hij, B2.1, B1.1, by omega, by omega, fun pc => by have := B1.2.2 pc; omega, fun pc => by have := B2.2.2 pc; omega⟩
theorem three {n : Nat} {bs : List Boo} {G : Pr → List Wri} {Kn : KnT} (g : GoodB n bs G Kn) (hn : n ≤ 24) {i : Nat} {b : Boo} (hb : bs[i]? = some b) :
    (b.held.map (·.1)).Nodup ∧ b.held.length ≤ 24 ∧ (∀ pc, (_root_.SW.heldOf b pc).length ≤ 24) := by
  obtain ⟨b1, b2, b3, _⟩ := bounds g hn hb
  exact ⟨b1, b2, b3⟩
theorem set_left {α : Type} {l l' : List α} {i : Nat} {x : α} (h : i < l.length) : (l ++ l').set i x = l.set i x ++ l' := List.set_append_left i x h
theorem get_left {α : Type} {l l' : List α} {i : Nat} {x : α} (h : l[i]? = some x) : (l ++ l')[i]? = some x := by
  rw [List.getElem?_append_left (List.getElem?_eq_some_iff.mp h).1]
  exact h
theorem get_right {α : Type} {l l' : List α} {i : Nat} {x : α} (h : l'[i]? = some x) : (l ++ l')[l.length + i]? = some x := by
  rw [List.getElem?_append_right (by omega), Nat.add_sub_cancel_left]
  exact h
theorem set_right {α : Type} {l l' : List α} {i : Nat} {x : α} : (l ++ l').set (l.length + i) x = l ++ l'.set i x := by
  rw [List.set_append_right _ _ (by omega), Nat.add_sub_cancel_left]
theorem Two.take1 (S : Two C CB ads1 ads2 D1 D2 m Z H bs1 bs2) {n : Nat} {G : Pr → List Wri} {Kn : KnT} (g : GoodB n bs1 G Kn) (hn : n ≤ 24) {i j : Nat} (hi : i < m) (hj : j < m) (hij : i ≠ j) :
    ∃ p d p2 d2 b c, ads1[i]? = some (p, d) ∧ ads1[j]? = some (p2, d2) ∧ bs1[i]? = some b ∧ bs1[j]? = some c ∧ TakeOk C CB Z H p d p2 d2 b c ∧
      ∀ Z2 H5 : Hp, Ext Z H Z2 → Same Z2 H5 → BookAt C CB Z2 H5 p d (_root_.SW.takeM b c) → (∀ a o, H a = some o → a ≠ d → H5 a = some o) → Two C CB ads1 ads2 D1 D2 m Z2 H5 (bs1.set i (_root_.SW.takeM b c)) bs2 := by
  obtain ⟨b, hb⟩ : ∃ b, bs1[i]? = some b := ⟨_, List.getElem?_eq_getElem (by rw [S.lb1]; exact hi)⟩
  obtain ⟨c, hc⟩ : ∃ c, bs1[j]? = some c := ⟨_, List.getElem?_eq_getElem (by rw [S.lb1]; exact hj)⟩
  obtain ⟨⟨p, d⟩, hp⟩ : ∃ b, ads1[i]? = some b := ⟨_, List.getElem?_eq_getElem (by rw [S.la1]; exact hi)⟩
  obtain ⟨⟨p2, d2⟩, hp2⟩ : ∃ b, ads1[j]? = some b := ⟨_, List.getElem?_eq_getElem (by rw [S.la1]; exact hj)⟩
  refine ⟨p, d, p2, d2, b, c, hp, hp2, hb, hc, S.sh.take (get_left hp) (get_left hp2) (get_left hb) (get_left hc) hij (three g hn hb) (three g hn hc), fun Z2 H5 X5 s5 B5 fr5 => ?_⟩
  have S5 := S.sh.step (get_left hp) X5 s5 B5 fun a o e _ h => fr5 a o e h
  rw [set_left (by rw [S.lb1]; exact hi)] at S5
  exact ⟨S5, X5.same _ _ S.d1, X5.same _ _ S.d2, S.la1, S.la2, by rw [List.length_set]; exact S.lb1, S.lb2⟩
theorem Two.take2 (S : Two C CB ads1 ads2 D1 D2 m Z H bs1 bs2) {n : Nat} {G : Pr → List Wri} {Kn : KnT} (g : GoodB n bs2 G Kn) (hn : n ≤ 24) {i j : Nat} (hi : i < m) (hj : j < m) (hij : i ≠ j) :
    ∃ p d p2 d2 b c, ads2[i]? = some (p, d) ∧ ads2[j]? = some (p2, d2) ∧ bs2[i]? = some b ∧ bs2[j]? = some c ∧ TakeOk C CB Z H p d p2 d2 b c ∧
      ∀ Z2 H5 : Hp, Ext Z H Z2 → Same Z2 H5 → BookAt C CB Z2 H5 p d (_root_.SW.takeM b c) → (∀ a o, H a = some o → a ≠ d → H5 a = some o) → Two C CB ads1 ads2 D1 D2 m Z2 H5 bs1 (bs2.set i (_root_.SW.takeM b c)) := by
  obtain ⟨b, hb⟩ : ∃ b, bs2[i]? = some b := ⟨_, List.getElem?_eq_getElem (by rw [S.lb2]; exact hi)⟩
  obtain ⟨c, hc⟩ : ∃ c, bs2[j]? = some c := ⟨_, List.getElem?_eq_getElem (by rw [S.lb2]; exact hj)⟩
  obtain ⟨⟨p, d⟩, hp⟩ : ∃ b, ads2[i]? = some b := ⟨_, List.getElem?_eq_getElem (by rw [S.la2]; exact hi)⟩
  obtain ⟨⟨p2, d2⟩, hp2⟩ : ∃ b, ads2[j]? = some b := ⟨_, List.getElem?_eq_getElem (by rw [S.la2]; exact hj)⟩
  have ll : ads1.length = bs1.length := by rw [S.la1, S.lb1]
  have ha : (ads1 ++ ads2)[bs1.length + i]? = some (p, d) := by rw [← ll]; exact get_right hp
  have ha2 : (ads1 ++ ads2)[bs1.length + j]? = some (p2, d2) := by rw [← ll]; exact get_right hp2
  refine ⟨p, d, p2, d2, b, c, hp, hp2, hb, hc, S.sh.take ha ha2 (get_right hb) (get_right hc) (by omega) (three g hn hb) (three g hn hc), fun Z2 H5 X5 s5 B5 fr5 => ?_⟩
  have S5 := S.sh.step ha X5 s5 B5 fun a o e _ h => fr5 a o e h
  rw [set_right] at S5
  exact ⟨S5, X5.same _ _ S.d1, X5.same _ _ S.d2, S.la1, S.la2, S.lb1, by rw [List.length_set]; exact S.lb2⟩
structure ToldOk (C CB : Addr) (Z H : Hp) (p d : Addr) (b : Boo) : Prop where
  B : BookAt C CB Z H p d b
  nb : (b.held.map (·.1)).Nodup
  lb : b.held.length ≤ 100
  lp : ∀ pc, (_root_.SW.heldOf b pc).length < 64
theorem Shelf.told {ads : List (Addr × Addr)} {bs : List Boo} (S : Shelf C CB Z H ads bs) {i : Nat} {p d : Addr} {b : Boo} (hi : ads[i]? = some (p, d)) (hb : bs[i]? = some b)
    (B1 : (b.held.map (·.1)).Nodup ∧ b.held.length ≤ 24 ∧ (∀ pc, (_root_.SW.heldOf b pc).length ≤ 24)) : ToldOk C CB Z H p d b := by
  obtain ⟨p', d', h1, Bb⟩ := S.get hb
  rw [hi] at h1
  cases h1
  exact ⟨Bb, B1.1, by omega, fun pc => by have := B1.2.2 pc; omega⟩
theorem Two.told1 (S : Two C CB ads1 ads2 D1 D2 m Z H bs1 bs2) {n : Nat} {G : Pr → List Wri} {Kn : KnT} (g : GoodB n bs1 G Kn) (hn : n ≤ 24) {i : Nat} {b : Boo} {p d : Addr} (hb : bs1[i]? = some b) (hp : ads1[i]? = some (p, d)) : ToldOk C CB Z H p d b :=
  S.sh.told (get_left hp) (get_left hb) (three g hn hb)
theorem Two.told2 (S : Two C CB ads1 ads2 D1 D2 m Z H bs1 bs2) {n : Nat} {G : Pr → List Wri} {Kn : KnT} (g : GoodB n bs2 G Kn) (hn : n ≤ 24) {i : Nat} {b : Boo} {p d : Addr} (hb : bs2[i]? = some b) (hp : ads2[i]? = some (p, d)) : ToldOk C CB Z H p d b := by
  have ll : ads1.length = bs1.length := by rw [S.la1, S.lb1]
  have ha : (ads1 ++ ads2)[bs1.length + i]? = some (p, d) := by rw [← ll]; exact get_right hp
  exact S.sh.told ha (get_right hb) (three g hn hb)
theorem Two.ad1 (S : Two C CB ads1 ads2 D1 D2 m Z H bs1 bs2) {i : Nat} (h : i < m) : ∃ p d b, ads1[i]? = some (p, d) ∧ bs1[i]? = some b :=
  ⟨_, _, _, List.getElem?_eq_getElem (by rw [S.la1]; exact h), List.getElem?_eq_getElem (by rw [S.lb1]; exact h)⟩
theorem Two.ad2 (S : Two C CB ads1 ads2 D1 D2 m Z H bs1 bs2) {i : Nat} (h : i < m) : ∃ p d b, ads2[i]? = some (p, d) ∧ bs2[i]? = some b :=
  ⟨_, _, _, List.getElem?_eq_getElem (by rw [S.la2]; exact h), List.getElem?_eq_getElem (by rw [S.lb2]; exact h)⟩
theorem ToldAt.keep {H H' : Hp} {D d : Addr} {rows : List (Pr × List Pr)} {kvs : List (List Key × V)} (hd : H d = some (.dT kvs)) (fr : ∀ a o, H a = some o → a ≠ d → H' a = some o) (h : ToldAt H D rows) : ToldAt H' D rows := by
  obtain ⟨ts, h1, h2⟩ := h
  refine ⟨ts, fr _ _ h1 (ne_of h1 hd (by intro z; cases z)), h2.mono fun t r q => ?_⟩
  obtain ⟨l, bs, q1, q2, q3⟩ := q
  refine ⟨l, bs, fr _ _ q1 (ne_of q1 hd (by intro z; cases z)), fr _ _ q2 (ne_of q2 hd (by intro z; cases z)), q3.mono fun c p e => fr _ _ e (ne_of e hd (by intro z; cases z))⟩
theorem PairsAt.keep {H H' : Hp} {D d : Addr} {ps : List Pr} {kvs : List (List Key × V)} (hd : H d = some (.dT kvs)) (fr : ∀ a o, H a = some o → a ≠ d → H' a = some o) (h : PairsAt H D ps) : PairsAt H' D ps := by
  obtain ⟨ts, h1, h2⟩ := h
  exact ⟨ts, fr _ _ h1 (ne_of h1 hd (by intro z; cases z)), h2.mono fun c p e => fr _ _ e (ne_of e hd (by intro z; cases z))⟩
/-- a second row is laid beside the first -/
theorem Two.mk' {Z0 H0 : Hp} (S1 : Shelf C CB Z0 H0 ads1 bs1) (d1 : Z0 D1 = some (.lst (refs ads1))) (X : Ext Z0 H0 Z) (s : Same H0 H) (S2 : Shelf C CB Z H ads2 bs2) (fr : ∀ a ∈ ads2, H0 a.1 = none ∧ H0 a.2 = none) (d2 : Z D2 = some (.lst (refs ads2)))
    (lb1 : bs1.length = m) (lb2 : bs2.length = m) : Two C CB ads1 ads2 D1 D2 m Z H bs1 bs2 := by
  have F := S1.frame X s S2.same
  refine ⟨⟨S2.same, each_append F.books S2.books, ?_, ?_⟩, X.same _ _ d1, d2, by rw [← lb1]; exact S1.books.length, by rw [← lb2]; exact S2.books.length, lb1, lb2⟩
  · rw [List.map_append]
    refine List.nodup_append.mpr ⟨S1.np, S2.np, ?_⟩
    intro a ha b hb e
    obtain ⟨x, hx, rfl⟩ := List.mem_map.mp ha
    obtain ⟨y, hy, rfl⟩ := List.mem_map.mp hb
    obtain ⟨j, hj⟩ := List.mem_iff_getElem?.mp hx
    obtain ⟨bj, _, B⟩ := each_get S1.books hj
    obtain ⟨dy, hp⟩ := B.ob
    have := (fr y hy).1
    rw [← e, hp] at this
    cases this
  · rw [List.map_append]
    refine List.nodup_append.mpr ⟨S1.nd, S2.nd, ?_⟩
    intro a ha b hb e
    obtain ⟨x, hx, rfl⟩ := List.mem_map.mp ha
    obtain ⟨y, hy, rfl⟩ := List.mem_map.mp hb
    obtain ⟨j, hj⟩ := List.mem_iff_getElem?.mp hx
    obtain ⟨bj, _, B⟩ := each_get S1.books hj
    obtain ⟨kv, hp, _⟩ := B.dc
    have := (fr y hy).2
    rw [← e, hp] at this
    cases this
end
end L2.SR
/-! The law. -/
namespace L2.SR
open PySem PySem.Spec PyProof.Rows
theorem scLaw : FnScope ["_law_script", "_law_shape", "_law_hands", "_law_names", "_law_spots", "_law_many", "_law_ones", "_law_others", "_law_turn", "_law_one", "_law_k", "_law_at", "_law_other", "_law_told", "_law_clashes", "_law_third"] ["_law_script"] (defScope sLaw) := ⟨rfl, rfl, rfl, by decide +kernel, rfl, by decide +kernel, by decide +kernel⟩
theorem cut_head {as : List Addr} {z : Int} (h : 0 ≤ z) : cutV (as.map V.ref) none (some z) = (as.take z.toNat).map V.ref := by
  obtain ⟨n, rfl⟩ := Int.eq_ofNat_of_zero_le h
  unfold cutV
  rw [HT.sIx_none, HT.sIx_nat, Int.toNat_natCast, List.map_take]
  rw [Nat.sub_zero, List.drop_zero]
  by_cases q : n ≤ (as.map V.ref).length
  · rw [Nat.min_eq_left q]
  · rw [Nat.min_eq_right (by omega), List.take_length, List.take_of_length_le (by omega)]
def cellsOf (ns : List Int) : List Int := (ns.drop (min 4 ns.length)).take (min 28 ns.length - min 4 ns.length)
theorem cells_len (ns : List Int) : (cellsOf ns).length ≤ 24 := by
  unfold cellsOf
  rw [List.length_take, List.length_drop]
  omega
theorem cut_cells (ns : List Int) : cutV (ns.map V.int) (some 4) (some 28) = (cellsOf ns).map V.int := by
  unfold cutV cellsOf
  rw [show (4 : Int) = ((4 : Nat) : Int) from rfl, show (28 : Int) = ((28 : Nat) : Int) from rfl, HT.sIx_nat, HT.sIx_nat, List.map_take, List.map_drop, List.length_map]
theorem each_take {α β : Type} {R : α → β → Prop} : ∀ {as : List α} {bs : List β} (n : Nat), Each R as bs → Each R (as.take n) (bs.take n)
  | _, _, 0, _ => by rw [List.take_zero, List.take_zero]; exact .nil
  | _, _, n + 1, .nil => .nil
  | _, _, n + 1, .cons r t => .cons r (each_take n t)
def spLaw (K : PySem.W.Frag) : Sp := fun vs H Q _ => ∃ (a : Addr) (ns : List Int), vs = [.ref a] ∧ SqL K H a (ns.map V.int) ∧ ∀ H', Q (.bl true) H'
theorem cov_up (m : Nat) (h2 : 2 ≤ m) (h5 : m ≤ 5) (a : Int) (i : Nat) (hi : i < m) : ∃ k', k' < m ∧ ((a + (k' : Int)) % (m : Int)).toNat = i := by
  rcases (show m = 2 ∨ m = 3 ∨ m = 4 ∨ m = 5 by omega) with rfl | rfl | rfl | rfl
  · refine ⟨(((i : Int) - a) % 2).toNat, by omega, ?_⟩
    show ((a + _) % 2).toNat = i
    omega
  · refine ⟨(((i : Int) - a) % 3).toNat, by omega, ?_⟩
    show ((a + _) % 3).toNat = i
    omega
  · refine ⟨(((i : Int) - a) % 4).toNat, by omega, ?_⟩
    show ((a + _) % 4).toNat = i
    omega
  · refine ⟨(((i : Int) - a) % 5).toNat, by omega, ?_⟩
    show ((a + _) % 5).toNat = i
    omega
theorem cov_down (m : Nat) (h2 : 2 ≤ m) (h5 : m ≤ 5) (a : Int) (i : Nat) (hi : i < m) : ∃ k', k' < m ∧ ((a - (k' : Int)) % (m : Int)).toNat = i := by
  rcases (show m = 2 ∨ m = 3 ∨ m = 4 ∨ m = 5 by omega) with rfl | rfl | rfl | rfl
  · refine ⟨((a - (i : Int)) % 2).toNat, by omega, ?_⟩
    show ((a - _) % 2).toNat = i
    omega
  · refine ⟨((a - (i : Int)) % 3).toNat, by omega, ?_⟩
    show ((a - _) % 3).toNat = i
    omega
  · refine ⟨((a - (i : Int)) % 4).toNat, by omega, ?_⟩
    show ((a - _) % 4).toNat = i
    omega
  · refine ⟨((a - (i : Int)) % 5).toNat, by omega, ?_⟩
    show ((a - _) % 5).toNat = i
    omega
theorem next_ne (m : Nat) (h2 : 2 ≤ m) (h5 : m ≤ 5) (a : Int) (h0 : 0 ≤ a) (h1 : a < (m : Int)) : (a + 1) % (m : Int) ≠ a := by
  rcases (show m = 2 ∨ m = 3 ∨ m = 4 ∨ m = 5 by omega) with rfl | rfl | rfl | rfl
  · change (a + 1) % 2 ≠ a
    change a < 2 at h1
    omega
  · change (a + 1) % 3 ≠ a
    change a < 3 at h1
    omega
  · change (a + 1) % 4 ≠ a
    change a < 4 at h1
    omega
  · change (a + 1) % 5 ≠ a
    change a < 5 at h1
    omega
section
variable {P : Program} {w : World} {K : PySem.W.Frag} {mg : Str → Option Value} {base : Heap}
theorem ok_law {f fC fN fD fI fT fO fL C CB : Addr} {fd fdC fdN fdD fdI fdT fdO fdL : FuncData} (F : Fun K "law" "law" sLaw f fd) (T : Txt K mg C CB)
    (GC : FnOk P w K mg base CX0 1 fC fdC ["_law_script", "_law_k"] (spCell K)) (FC : Fun K "_law_cell_at" "_law_cell_at" sCell fC fdC) (bC : Binds K fdC ["_law_script", "_law_k"] []) (mgC : mg "_law_cell_at" = some (.ref fC))
    (GN : FnOk P w K mg base CX0 1 fN fdN ["_law_cell", "_law_many"] spWords) (FN : Fun K "_law_some_words" "_law_some_words" sWords fN fdN) (bN : Binds K fdN ["_law_cell", "_law_many"] []) (mgN : mg "_law_some_words" = some (.ref fN))
    (GD : FnOk P w K mg base CX0 4 fD fdD ["_law_hands", "_law_spots", "_law_cells", "_law_plain"] (spDone C CB)) (FD : Fun K "_law_done" "_law_done" sDone fD fdD) (bD : Binds K fdD ["_law_hands", "_law_spots", "_law_cells", "_law_plain"] []) (mgD : mg "_law_done" = some (.ref fD))
    (GI : FnOk P w K mg base CX0 1 fI fdI ["_law_told", "_law_clashes"] spOrder) (FI : Fun K "_law_in_order" "_law_in_order" sOrder fI fdI) (bI : Binds K fdI ["_law_told", "_law_clashes"] []) (mgI : mg "_law_in_order" = some (.ref fI))
    (mT : Meth K CB "take_in" fT) (GT : FnOk P w K mg base CX0 2 fT fdT ["self", "other"] (spTake C CB)) (bT : Binds K fdT ["self", "other"] [])
    (mO : Meth K CB "told" fO) (GO : FnOk P w K mg base CX0 2 fO fdO ["self"] (spTold C CB)) (bO : Binds K fdO ["self"] [])
    (mL : Meth K CB "clashes" fL) (GL : FnOk P w K mg base CX0 2 fL fdL ["self"] (spClash C CB)) (bL : Binds K fdL ["self"] []) :
    FnOk P w K mg base CX0 5 f fd ["_law_script"] (spLaw K) := by
  refine F.ok scLaw (fun vs H Q E h => ?_) (fun cdv A outer s H vs Q E hr h => ?_)
  · obtain ⟨a, ns, rfl, _⟩ := h
    rfl
  · obtain ⟨a, ns, rfl, hS, k⟩ := h
    have hu64 : A.units + 3 + 64 < cLine := by have : A.units + 3 + 16 * 4 + 200 < cLine := hr.un; omega
    refine ⟨_, (pss_cons (ps_set (i := 1) scLaw.nd rfl (Or.inl rfl) (pe_call GC (hr.mono (by decide)) rfl mgC FC.kp bC .nil pass0 (pa_cons (pv 0) (pa_cons pe_int pa_nil))))
      (pss_cons (ps_set (i := 2) scLaw.nd rfl (Or.inl rfl) (pe_call GN (hr.mono (by decide)) rfl mgN FN.kp bN .nil pass0 (pa_cons (pe_call GC (hr.mono (by decide)) rfl mgC FC.kp bC .nil pass0 (pa_cons (pv 0) (pa_cons pe_int pa_nil))) (pa_cons (pe_op op_add pe_int (pe_op op_mod (pv 1) pe_int)) pa_nil))))
      (pss_cons (ps_set (i := 3) scLaw.nd rfl (Or.inl rfl) (pe_call GN (hr.mono (by decide)) rfl mgN FN.kp bN .nil pass0 (pa_cons (pe_call GC (hr.mono (by decide)) rfl mgC FC.kp bC .nil pass0 (pa_cons (pv 0) (pa_cons pe_int pa_nil))) (pa_cons pe_int pa_nil))))
      (pss_cons (ps_set (i := 4) scLaw.nd rfl (Or.inl rfl) (pe_lst (pa_cons (pe_tup (pa_cons (pe_ix ix_list (pv 3) pe_int (fun _ _ => rfl)) (pa_cons (pe_ix ix_list (pv 3) pe_int (fun _ _ => rfl)) pa_nil))) (pa_cons (pe_tup (pa_cons (pe_ix ix_list (pv 3) pe_int (fun _ _ => rfl)) (pa_cons (pe_ix ix_list (pv 3) pe_int (fun _ _ => rfl)) pa_nil))) (pa_cons (pe_tup (pa_cons (pe_ix ix_list (pv 3) pe_int (fun _ _ => rfl)) (pa_cons (pe_ix ix_list (pv 3) pe_int (fun _ _ => rfl)) pa_nil))) (pa_cons (pe_tup (pa_cons (pe_ix ix_list (pv 3) pe_int (fun _ _ => rfl)) (pa_cons (pe_ix ix_list (pv 3) pe_int (fun _ _ => rfl)) pa_nil))) pa_nil))))))
      (pss_cons (ps_set (i := 4) scLaw.nd rfl (Or.inl rfl) (pe_slice sl_list (pv 4) po_none (po_some (pe_op op_add pe_int (pe_op op_mod (pe_op op_fdiv (pv 1) pe_int) pe_int)))))
      (pss_cons (ps_set (i := 5) scLaw.nd rfl (Or.inl rfl) (pe_callB call_len_seq (by rfl) T.len PySem.boot_len (pa_cons (pv 2) pa_nil)))
      (pss_cons (ps_set (i := 6) scLaw.nd rfl (Or.inl rfl) (pe_call GD hr rfl mgD FD.kp bD .nil pass0 (pa_cons (pv 2) (pa_cons (pv 4) (pa_cons (pe_slice sl_list (pv 0) (po_some pe_int) (po_some pe_int)) (pa_cons (pe_cmpR op_eq (pe_op op_mod (pe_op op_fdiv (pv 1) pe_int) pe_int) pe_int (nomark _)) pa_nil))))))
      (pss_cons (ps_set (i := 7) scLaw.nd rfl (Or.inl rfl) (pe_call GD hr rfl mgD FD.kp bD .nil pass0 (pa_cons (pv 2) (pa_cons (pv 4) (pa_cons (pe_slice sl_list (pv 0) (po_some pe_int) (po_some pe_int)) (pa_cons (pe_cmpR op_eq (pe_op op_mod (pe_op op_fdiv (pv 1) pe_int) pe_int) pe_int (nomark _)) pa_nil))))))
      (pss_cons (ps_set (i := 8) scLaw.nd rfl (Or.inl rfl) (pe_call GC (hr.mono (by decide)) rfl mgC FC.kp bC .nil pass0 (pa_cons (pv 0) (pa_cons pe_int pa_nil))))
      (pss_cons (ps_set (i := 9) scLaw.nd rfl (Or.inl rfl) (pe_op op_mod (pv 8) (pv 5)))
      (pss_cons (ps_for PassesOwn.never rfl (pi_range1 rfl T.range (pa_cons (pv 5) pa_nil)) (pg_name (i := 10) scLaw.nd rfl (Or.inl rfl))
        (pss_cons (ps_set (i := 11) scLaw.nd rfl (Or.inl rfl) (pe_op op_mod (pe_op op_add (pe_op op_fdiv (pv 8) pe_int) (pv 10)) (pv 5)))
      (pss_one (ps_if (pt_cmpR op_ne (pv 11) (pv 9) (nomark _)) (pss_one (ps_expr (pe_meth (pe_ix ix_list (pv 6) (pv 9) (fun _ _ => rfl)) T.clB mT GT (hr.mono (by decide)) bT .nil pass0 (pa_cons (pe_ix ix_list (pv 6) (pv 11) (fun _ _ => rfl)) pa_nil)))) pss_nil))))
      (pss_cons (ps_for PassesOwn.never rfl (pi_range1 rfl T.range (pa_cons (pv 5) pa_nil)) (pg_name (i := 10) scLaw.nd rfl (Or.inl rfl))
        (pss_one (ps_expr (pe_meth (pe_ix ix_list (pv 7) (pv 10) (fun _ _ => rfl)) T.clB mT GT (hr.mono (by decide)) bT .nil pass0 (pa_cons (pe_ix ix_list (pv 7) (pe_op op_mod (pe_op op_add (pv 10) pe_int) (pv 5)) (fun _ _ => rfl)) pa_nil)))))
      (pss_cons (ps_set (i := 12) scLaw.nd rfl (Or.inl rfl) (pe_op op_mod (pe_op op_fdiv (pv 8) pe_int) (pv 5)))
      (pss_cons (ps_for PassesOwn.never rfl (pi_range1 rfl T.range (pa_cons (pe_op op_add (pv 5) (pe_op op_mul (pv 5) (pe_op op_mod (pe_op op_fdiv (pv 8) pe_int) pe_int))) pa_nil)) (pg_name (i := 10) scLaw.nd rfl (Or.inl rfl))
        (pss_cons (ps_set (i := 11) scLaw.nd rfl (Or.inl rfl) (pe_op op_mod (pe_op op_sub (pe_op op_fdiv (pv 8) pe_int) (pv 10)) (pv 5)))
      (pss_one (ps_if (pt_cmpR op_ne (pv 11) (pv 12) (nomark _)) (pss_one (ps_expr (pe_meth (pe_ix ix_list (pv 7) (pv 12) (fun _ _ => rfl)) T.clB mT GT (hr.mono (by decide)) bT .nil pass0 (pa_cons (pe_ix ix_list (pv 7) (pv 11) (fun _ _ => rfl)) pa_nil)))) pss_nil))))
      (pss_cons (ps_set (i := 13) scLaw.nd rfl (Or.inl rfl) (pe_meth0 (pe_ix ix_list (pv 6) (pv 9) (fun _ _ => rfl)) T.clB mO GO (hr.mono (by decide)) bO .nil pass0))
      (pss_cons (ps_set (i := 14) scLaw.nd rfl (Or.inl rfl) (pe_meth0 (pe_ix ix_list (pv 6) (pv 9) (fun _ _ => rfl)) T.clB mL GL (hr.mono (by decide)) bL .nil pass0))
      (pss_cons (ps_if (pt_not (pt_val (pe_call GI (hr.mono (by decide)) rfl mgI FI.kp bI .nil pass0 (pa_cons (pv 13) (pa_cons (pv 14) pa_nil))))) (pss_one (ps_ret pe_bl)) pss_nil)
      (pss_cons (ps_if (PW.pt (pw_or (pt_cmpR (op_neP hu64) (pe_meth0 (pe_ix ix_list (pv 7) (pv 12) (fun _ _ => rfl)) T.clB mO GO (hr.mono (by decide)) bO .nil pass0) (pv 13) (nomark _)) (pw_or1 (pt_cmpR (op_neP hu64) (pe_meth0 (pe_ix ix_list (pv 7) (pv 12) (fun _ _ => rfl)) T.clB mL GL (hr.mono (by decide)) bL .nil pass0) (pv 14) (nomark _))))) (pss_one (ps_ret pe_bl)) pss_nil)
      (pss_cons (ps_set (i := 15) scLaw.nd rfl (Or.inl rfl) (pe_op op_mod (pe_op op_add (pv 9) pe_int) (pv 5)))
      (pss_cons (ps_expr (pe_meth (pe_ix ix_list (pv 6) (pv 15) (fun _ _ => rfl)) T.clB mT GT (hr.mono (by decide)) bT .nil pass0 (pa_cons (pe_ix ix_list (pv 6) (pv 9) (fun _ _ => rfl)) pa_nil)))
      (pss_one (ps_ret (pe_and (pe_cmpR (op_eqP hu64) (pe_meth0 (pe_ix ix_list (pv 6) (pv 15) (fun _ _ => rfl)) T.clB mO GO (hr.mono (by decide)) bO .nil pass0) (pv 13) (nomark _)) (pe_and (pe_cmpR (op_eqP hu64) (pe_meth0 (pe_ix ix_list (pv 6) (pv 15) (fun _ _ => rfl)) T.clB mL GL (hr.mono (by decide)) bL .nil pass0) (pv 14) (nomark _)) (pe_one (pe_cmpR (op_eqP hu64) (pe_meth0 (pe_ix ix_list (pv 6) (pv 9) (fun _ _ => rfl)) T.clB mO GO (hr.mono (by decide)) bO .nil pass0) (pv 13) (nomark _))))))))))))))))))))))))))), ?_⟩
    refine ⟨_, rfl, a, ns, 0, rfl, hS, ?_⟩
    generalize ns.getD 0 0 = sh
    have h4 := modIn sh (j := 4) (by decide)
    obtain ⟨m, hm⟩ : ∃ m : Nat, (2 + sh % 4 : Int) = (m : Int) := Int.eq_ofNat_of_zero_le (by omega)
    have hm2 : 2 ≤ m := by omega
    have hm5 : m ≤ 5 := by omega
    refine ⟨_, rfl, a, ns, 1, rfl, hS, _, rfl, _, _, rfl, rfl, (show (0 : Int) < 4 by decide), _, _, rfl, rfl, ?_⟩
    refine ⟨ns.getD 1 0, m, congrArg (fun z => [V.int (ns.getD 1 0), V.int z]) hm, hm5, fun H1 lh hands s1 hlh0 hlh hhl hhn => ?_⟩
    refine ⟨_, rfl, a, ns, 2, rfl, s1.seq hS, ns.getD 2 0, 4, rfl, by omega, fun H2 lw nms s2 hlw0 hlw hnl _ => ?_⟩
    match nms, hnl with
    | [n0, n1, n2, n3], _ =>
    refine ⟨_, rfl, lw, _, _, _, rfl, rfl, SqL.of hlw, at_of (j := 0) rfl rfl, _, rfl, lw, _, _, _, rfl, rfl, SqL.of hlw, at_of (j := 1) rfl rfl, (by show 2 ≤ sizeLine; decide), fun t1 ht1 => ?_⟩
    have s3 : Same H2 (upd H2 t1 (.tup [.str n0, .str n1])) := fun b o e => (upd_ne (ne_of_none e ht1)).trans e
    have a1 : AtP (upd H2 t1 (.tup [.str n0, .str n1])) t1 (n0, n1) := upd_same
    generalize upd H2 t1 (.tup [.str n0, .str n1]) = H3 at s3 a1
    have hlw3 := s3 _ _ hlw
    refine ⟨_, rfl, lw, _, _, _, rfl, rfl, SqL.of hlw3, at_of (j := 0) rfl rfl, _, rfl, lw, _, _, _, rfl, rfl, SqL.of hlw3, at_of (j := 2) rfl rfl, (by show 2 ≤ sizeLine; decide), fun t2 ht2 => ?_⟩
    have s4 : Same H3 (upd H3 t2 (.tup [.str n0, .str n2])) := fun b o e => (upd_ne (ne_of_none e ht2)).trans e
    have a2 : AtP (upd H3 t2 (.tup [.str n0, .str n2])) t2 (n0, n2) := upd_same
    generalize upd H3 t2 (.tup [.str n0, .str n2]) = H4 at s4 a2
    have hlw4 := s4 _ _ hlw3
    refine ⟨_, rfl, lw, _, _, _, rfl, rfl, SqL.of hlw4, at_of (j := 3) rfl rfl, _, rfl, lw, _, _, _, rfl, rfl, SqL.of hlw4, at_of (j := 1) rfl rfl, (by show 2 ≤ sizeLine; decide), fun t3 ht3 => ?_⟩
    have s5 : Same H4 (upd H4 t3 (.tup [.str n3, .str n1])) := fun b o e => (upd_ne (ne_of_none e ht3)).trans e
    have a3 : AtP (upd H4 t3 (.tup [.str n3, .str n1])) t3 (n3, n1) := upd_same
    generalize upd H4 t3 (.tup [.str n3, .str n1]) = H5 at s5 a3
    have hlw5 := s5 _ _ hlw4
    refine ⟨_, rfl, lw, _, _, _, rfl, rfl, SqL.of hlw5, at_of (j := 1) rfl rfl, _, rfl, lw, _, _, _, rfl, rfl, SqL.of hlw5, at_of (j := 0) rfl rfl, (by show 2 ≤ sizeLine; decide), fun t4 ht4 => ?_⟩
    have s6 : Same H5 (upd H5 t4 (.tup [.str n1, .str n0])) := fun b o e => (upd_ne (ne_of_none e ht4)).trans e
    have a4 : AtP (upd H5 t4 (.tup [.str n1, .str n0])) t4 (n1, n0) := upd_same
    generalize upd H5 t4 (.tup [.str n1, .str n0]) = H6 at s6 a4
    refine ⟨(by show 4 ≤ sizeLine; decide), fun l4 hl4 => ?_⟩
    have s7 : Same H6 (upd H6 l4 (.lst [.ref t1, .ref t2, .ref t3, .ref t4])) := fun b o e => (upd_ne (ne_of_none e hl4)).trans e
    have hl4' : upd H6 l4 (.lst [.ref t1, .ref t2, .ref t3, .ref t4]) l4 = some (.lst ([t1, t2, t3, t4].map V.ref)) := upd_same
    generalize upd H6 l4 (.lst [.ref t1, .ref t2, .ref t3, .ref t4]) = H7 at s7 hl4'
    have hq := modIn (sh / 4) (j := 4) (by decide)
    refine ⟨_, rfl, _, rfl, _, _, rfl, rfl, ⟨by decide, by decide⟩, _, _, rfl, rfl, (show (0 : Int) < 4 by decide), _, _, rfl, rfl, _, rfl, l4, _, rfl, SqL.of hl4', fun ls hls => ?_⟩
    have hz0 : (0 : Int) ≤ 1 + sh / 4 % 4 := by omega
    have hls' : upd H7 ls (.lst (cutV ([t1, t2, t3, t4].map V.ref) none (some (1 + sh / 4 % 4)))) ls = some (.lst (([t1, t2, t3, t4].take (1 + sh / 4 % 4).toNat).map V.ref)) := by
      rw [upd_same, cut_head hz0]
    have s8 : Same H7 (upd H7 ls (.lst (cutV ([t1, t2, t3, t4].map V.ref) none (some (1 + sh / 4 % 4))))) := fun b o e => (upd_ne (ne_of_none e hls)).trans e
    have eS6 : Each (AtP H6) [t1, t2, t3, t4] [(n0, n1), (n0, n2), (n3, n1), (n1, n0)] :=
      .cons (s6 _ _ (s5 _ _ (s4 _ _ a1))) (.cons (s6 _ _ (s5 _ _ a2)) (.cons (s6 _ _ a3) (.cons a4 .nil)))
    generalize upd H7 ls (.lst (cutV ([t1, t2, t3, t4].map V.ref) none (some (1 + sh / 4 % 4)))) = H8 at hls' s8
    have s18 : Same H1 H8 := fun b o e => s8 _ _ (s7 _ _ (s6 _ _ (s5 _ _ (s4 _ _ (s3 _ _ (s2 _ _ e))))))
    have hlh8 := s18 _ _ hlh
    have hS8 : SqL K H8 a (ns.map V.int) := s18.seq (s1.seq hS)
    have eS8 : Each (AtP H8) ([t1, t2, t3, t4].take (1 + sh / 4 % 4).toNat) ([(n0, n1), (n0, n2), (n3, n1), (n1, n0)].take (1 + sh / 4 % 4).toNat) := each_take _ (eS6.mono fun c p q => s8 _ _ (s7 _ _ q))
    have hsa : 1 ≤ ([t1, t2, t3, t4].take (1 + sh / 4 % 4).toNat).length ∧ ([t1, t2, t3, t4].take (1 + sh / 4 % 4).toNat).length ≤ 4 := by
      rw [List.length_take]
      show 1 ≤ min _ 4 ∧ min _ 4 ≤ 4
      omega
    generalize [t1, t2, t3, t4].take (1 + sh / 4 % 4).toNat = sas at hls' eS8 hsa
    generalize ([(n0, n1), (n0, n2), (n3, n1), (n1, n0)] : List Pr).take (1 + sh / 4 % 4).toNat = sps at eS8
    have hmh : (hands.map V.str).length = m := by rw [List.length_map, hhl]
    refine ⟨_, rfl, lh, _, rfl, .inl (SqL.of hlh8), ?_⟩
    rw [hmh]
    obtain ⟨pl, hpl⟩ : ∃ pl : Bool, decide (V.int (sh / 16 % 2) = V.int 0) = pl := ⟨_, rfl⟩
    -- the first row
    refine ⟨_, rfl, _, rfl, _, rfl, _, rfl, _, rfl, a, _, rfl, hS8, fun lc hlc => ?_⟩
    refine ⟨_, rfl, _, _, rfl, rfl, ⟨by decide, by decide⟩, _, _, rfl, rfl, (show (0 : Int) < 2 by decide), rfl, ?_⟩
    have s9 : Same H8 (upd H8 lc (.lst (cutV (ns.map V.int) (some 4) (some 28)))) := fun b o e => (upd_ne (ne_of_none e hlc)).trans e
    have hlc' : upd H8 lc (.lst (cutV (ns.map V.int) (some 4) (some 28))) lc = some (.lst ((cellsOf ns).map V.int)) := by rw [upd_same, cut_cells]
    generalize upd H8 lc (.lst (cutV (ns.map V.int) (some 4) (some 28))) = H9 at s9 hlc'
    refine ⟨fun _ => none, lh, ls, lc, pl, hands, sas, sps, cellsOf ns, congrArg (fun z => [V.ref lh, V.ref ls, V.ref lc, V.bl z]) hpl, (fun _ _ e => nomatch e), s9 _ _ hlh8, by omega, by omega, hhn, s9 _ _ hls', eS8.mono fun c p q => s9 _ _ q, hsa.1, hsa.2, hlc', cells_len ns, fun Z1 HA D1 ads1 X1 sA dD1 fr1 Sh1 => ?_⟩
    have s8A : Same H8 HA := s9.trans sA
    -- the second row
    refine ⟨_, rfl, _, rfl, _, rfl, _, rfl, _, rfl, a, _, rfl, s8A.seq hS8, fun ld hld => ?_⟩
    refine ⟨_, rfl, _, _, rfl, rfl, ⟨by decide, by decide⟩, _, _, rfl, rfl, (show (0 : Int) < 2 by decide), rfl, ?_⟩
    have sB : Same HA (upd HA ld (.lst (cutV (ns.map V.int) (some 4) (some 28)))) := fun b o e => (upd_ne (ne_of_none e hld)).trans e
    have hld' : upd HA ld (.lst (cutV (ns.map V.int) (some 4) (some 28))) ld = some (.lst ((cellsOf ns).map V.int)) := by rw [upd_same, cut_cells]
    generalize upd HA ld (.lst (cutV (ns.map V.int) (some 4) (some 28))) = HB at sB hld'
    have s8B : Same H8 HB := s8A.trans sB
    have ShB := Sh1.keep sB
    refine ⟨Z1, lh, ls, ld, pl, hands, sas, sps, cellsOf ns, congrArg (fun z => [V.ref lh, V.ref ls, V.ref ld, V.bl z]) hpl, ShB.same, s8B _ _ hlh8, by omega, by omega, hhn, s8B _ _ hls', eS8.mono fun c p q => s8B _ _ q, hsa.1, hsa.2, hld', cells_len ns, fun Z2 HC D2 ads2 X2 sC dD2 fr2 Sh2 => ?_⟩
    have lb : (doneM hands sps pl (cellsOf ns)).length = m := by rw [doneM_length, hhl]
    have TW : Two C CB ads1 ads2 D1 D2 m Z2 HC (doneM hands sps pl (cellsOf ns)) (doneM hands sps pl (cellsOf ns)) := Two.mk' ShB dD1 X2 sC Sh2 fr2 dD2 lb lb
    obtain ⟨G, K0, g0'⟩ := good_done hhn sps pl (cellsOf ns)
    have g0 : GoodB 24 (doneM hands sps pl (cellsOf ns)) G K0 := g0'.more (cells_len ns)
    have hSC : SqL K HC a (ns.map V.int) := (s8B.trans sC).seq hS8
    generalize doneM hands sps pl (cellsOf ns) = bs0 at lb TW g0
    clear Sh1 Sh2 ShB g0' fr1 fr2 X1 X2
    -- turn, one
    refine ⟨_, rfl, a, ns, 3, rfl, hSC, ?_⟩
    generalize ns.getD 3 0 = tu
    have hm0 : (0 : Int) < (m : Int) := by omega
    have hone := modIn tu hm0
    obtain ⟨one, hon⟩ : ∃ one : Nat, tu % (m : Int) = (one : Int) := Int.eq_ofNat_of_zero_le hone.1
    have hone1 : one < m := by omega
    refine ⟨_, rfl, _, rfl, _, _, rfl, rfl, hm0, ?_⟩
    -- the first loop
    refine ⟨_, rfl, _, rfl, (by omega), (by omega), for_range (lo := 0) (n := m)
      (fun k σ H3 => ∃ (v10 v11 : Option V) (Z' : Hp) (bs1 : List Boo) (K1 : KnT), σ = [some (.ref a), some (.int sh), some (.ref lh), some (.ref lw), some (.ref ls), some (.int m), some (.ref D1), some (.ref D2), some (.int tu), some (.int (tu % (m : Int))), v10, v11, none, none, none, none] ∧
        Two C CB ads1 ads2 D1 D2 m Z' H3 bs1 bs0 ∧ GoodB 24 bs1 G K1 ∧ Cov K0 K1 ∧ Got K0 K1 one (fun k => ((tu / 5 + (k : Int)) % (m : Int)).toNat) k)
      ⟨none, none, Z2, bs0, K0, rfl, TW, g0, fun _ _ _ h => h, fun k' hk => absurd hk (Nat.not_lt_zero _)⟩ ?_ ?_⟩
    · rintro i σ H3 hi ⟨v10, v11, Z', bs1, K1, rfl, S, g, cov, got⟩
      rw [Int.zero_add]
      have hz := modIn (tu / 5 + (i : Int)) hm0
      refine ⟨_, rfl, _, _, rfl, rfl, ⟨by decide, by decide⟩, _, rfl, _, _, rfl, rfl, _, rfl, _, _, rfl, rfl, hm0, ?_⟩
      refine ⟨_, rfl, _, rfl, rfl, _, rfl, ?_⟩
      refine ite2 (fun hc => ?_) (fun hc => ?_)
      · have hne : (tu / 5 + (i : Int)) % (m : Int) ≠ tu % (m : Int) := fun z => by
          have e : decide (V.int ((tu / 5 + (i : Int)) % (m : Int)) = V.int (tu % (m : Int))) = true := decide_eq_true (by rw [z])
          have hc' : (!decide (V.int ((tu / 5 + (i : Int)) % (m : Int)) = V.int (tu % (m : Int)))) = true := hc
          rw [e] at hc'
          cases hc'
        obtain ⟨p, d, p2, d2, b, c, hp, hp2, hb, hc2, ok, kk⟩ := S.take1 g (Nat.le_refl _) (i := one) (j := ((tu / 5 + (i : Int)) % (m : Int)).toNat) hone1 (by omega) (by omega)
        have eo : (tu % (m : Int)).toNat = one := by omega
        obtain ⟨dx, ob⟩ := ok.B.ob
        refine ⟨_, rfl, _, rfl, D1, _, _, _, rfl, rfl, SqL.of S.h1, at_refs hone.1 (by rw [eo]; exact hp), p, dx, _, rfl, ob, bf_no _ _ _ (by decide +kernel) (by decide +kernel) (by decide +kernel), ?_⟩
        refine ⟨_, rfl, _, rfl, D1, _, _, _, rfl, rfl, SqL.of S.h1, at_refs hz.1 hp2, ?_⟩
        refine ⟨Z', p, d, p2, d2, b, c, rfl, S.sh.same, ok.B, ok.Bc, ok.ne, ok.nc, ok.nb, ok.lb, ok.lc, ok.hb, ok.hc, fun Z3 H5 X5 s5 B5 fr5 => ?_⟩
        exact ⟨_, _, Z3, _, _, rfl, kk Z3 H5 X5 s5 B5 fr5, g.take hb hc2, cov.join _ _, got.join cov⟩
      · have heq : (tu / 5 + (i : Int)) % (m : Int) = tu % (m : Int) := by
          have hc' : ¬ (!decide (V.int ((tu / 5 + (i : Int)) % (m : Int)) = V.int (tu % (m : Int)))) = true := hc
          by_cases z : V.int ((tu / 5 + (i : Int)) % (m : Int)) = V.int (tu % (m : Int))
          · injection z
          · exact absurd (by rw [decide_eq_false z]; rfl) hc'
        exact ⟨_, _, Z', bs1, K1, rfl, S, g, cov, got.skip cov (by show ((tu / 5 + (i : Int)) % (m : Int)).toNat = one; omega)⟩
    rintro σ H3 ⟨v10, v11, Z3, bs1, K1, rfl, S3, g1, cov1, got1⟩
    have f1 : FullK G K1 one := got1.full g0 fun i hi => cov_up m hm2 hm5 (tu / 5) i (by omega)
    clear cov1 got1 TW
    -- the second loop
    refine ⟨_, rfl, _, rfl, (by omega), (by omega), for_range (lo := 0) (n := m)
      (fun k σ H4 => ∃ (v10 v11 : Option V) (Z' : Hp) (bs2 : List Boo) (K2 : KnT), σ = [some (.ref a), some (.int sh), some (.ref lh), some (.ref lw), some (.ref ls), some (.int m), some (.ref D1), some (.ref D2), some (.int tu), some (.int (tu % (m : Int))), v10, v11, none, none, none, none] ∧
        Two C CB ads1 ads2 D1 D2 m Z' H4 bs1 bs2 ∧ GoodB 24 bs2 G K2 ∧ Cov K0 K2)
      ⟨v10, v11, Z3, bs0, K0, rfl, S3, g0, fun _ _ _ h => h⟩ ?_ ?_⟩
    · rintro i σ H4 hi ⟨v10, v11, Z', bs2, K2, rfl, S, g, cov⟩
      rw [Int.zero_add]
      have hz := modIn ((i : Int) + 1) hm0
      have hne := next_ne m hm2 hm5 (i : Int) (by omega) (by omega)
      obtain ⟨p, d, p2, d2, b, c, hp, hp2, hb, hc2, ok, kk⟩ := S.take2 g (Nat.le_refl _) (i := i) (j := (((i : Int) + 1) % (m : Int)).toNat) hi (by omega) (by omega)
      obtain ⟨dx, ob⟩ := ok.B.ob
      refine ⟨_, rfl, _, rfl, D2, _, _, _, rfl, rfl, SqL.of S.h2, at_refs (i := (i : Int)) (by omega) (by rw [Int.toNat_natCast]; exact hp), p, dx, _, rfl, ob, bf_no _ _ _ (by decide +kernel) (by decide +kernel) (by decide +kernel), ?_⟩
      refine ⟨_, rfl, _, rfl, _, _, rfl, rfl, _, rfl, _, _, rfl, rfl, hm0, D2, _, _, _, rfl, rfl, SqL.of S.h2, at_refs hz.1 hp2, ?_⟩
      refine ⟨Z', p, d, p2, d2, b, c, rfl, S.sh.same, ok.B, ok.Bc, ok.ne, ok.nc, ok.nb, ok.lb, ok.lc, ok.hb, ok.hc, fun Z4 H5 X5 s5 B5 fr5 => ?_⟩
      exact ⟨_, _, Z4, _, _, rfl, kk Z4 H5 X5 s5 B5 fr5, g.take hb hc2, cov.join _ _⟩
    rintro σ H4 ⟨v10, v11, Z4, bs2, K2, rfl, S4, g2, cov2⟩
    clear S3
    -- the third loop
    have hoth := modIn (tu / 25) hm0
    obtain ⟨oth, hot⟩ : ∃ oth : Nat, tu / 25 % (m : Int) = (oth : Int) := Int.eq_ofNat_of_zero_le hoth.1
    have hoth1 : oth < m := by omega
    refine ⟨_, rfl, _, _, rfl, rfl, ⟨by decide, by decide⟩, _, rfl, _, _, rfl, rfl, hm0, ?_⟩
    have hy := modIn (tu / 125) (j := 2) (by decide)
    have hmy : (m : Int) * (tu / 125 % 2) = 0 ∨ (m : Int) * (tu / 125 % 2) = (m : Int) := by
      rcases (show tu / 125 % 2 = 0 ∨ tu / 125 % 2 = 1 by omega) with e | e <;> rw [e] <;> omega
    refine ⟨_, rfl, _, rfl, _, rfl, _, _, rfl, rfl, ⟨by decide, by decide⟩, _, _, rfl, rfl, (show (0 : Int) < 2 by decide), _, _, rfl, rfl, .inl ⟨by omega, by omega⟩, _, _, rfl, rfl, _, rfl, (by omega), (by omega), for_range (lo := 0) (n := ((m : Int) + (m : Int) * (tu / 125 % 2)).toNat)
      (fun k σ H5 => ∃ (v10 v11 : Option V) (Z' : Hp) (bs2 : List Boo) (K2 : KnT), σ = [some (.ref a), some (.int sh), some (.ref lh), some (.ref lw), some (.ref ls), some (.int m), some (.ref D1), some (.ref D2), some (.int tu), some (.int (tu % (m : Int))), v10, v11, some (.int (tu / 25 % (m : Int))), none, none, none] ∧
        Two C CB ads1 ads2 D1 D2 m Z' H5 bs1 bs2 ∧ GoodB 24 bs2 G K2 ∧ Cov K0 K2 ∧ Got K0 K2 oth (fun k => ((tu / 250 - (k : Int)) % (m : Int)).toNat) k)
      ⟨v10, v11, Z4, bs2, K2, rfl, S4, g2, cov2, fun k' hk => absurd hk (Nat.not_lt_zero _)⟩ ?_ ?_⟩
    · rintro i σ H5 hi ⟨v10, v11, Z', bs2, K2, rfl, S, g, cov, got⟩
      rw [Int.zero_add]
      have hz := modIn (tu / 250 - (i : Int)) hm0
      refine ⟨_, rfl, _, _, rfl, rfl, ⟨by decide, by decide⟩, _, rfl, _, _, rfl, rfl, _, rfl, _, _, rfl, rfl, hm0, ?_⟩
      refine ⟨_, rfl, _, rfl, rfl, _, rfl, ?_⟩
      refine ite2 (fun hc => ?_) (fun hc => ?_)
      · have hne : (tu / 250 - (i : Int)) % (m : Int) ≠ tu / 25 % (m : Int) := fun z => by
          have e : decide (V.int ((tu / 250 - (i : Int)) % (m : Int)) = V.int (tu / 25 % (m : Int))) = true := decide_eq_true (by rw [z])
          have hc' : (!decide (V.int ((tu / 250 - (i : Int)) % (m : Int)) = V.int (tu / 25 % (m : Int)))) = true := hc
          rw [e] at hc'
          cases hc'
        obtain ⟨p, d, p2, d2, b, c, hp, hp2, hb, hc2, ok, kk⟩ := S.take2 g (Nat.le_refl _) (i := oth) (j := ((tu / 250 - (i : Int)) % (m : Int)).toNat) hoth1 (by omega) (by omega)
        have eo : (tu / 25 % (m : Int)).toNat = oth := by omega
        obtain ⟨dx, ob⟩ := ok.B.ob
        refine ⟨_, rfl, _, rfl, D2, _, _, _, rfl, rfl, SqL.of S.h2, at_refs hoth.1 (by rw [eo]; exact hp), p, dx, _, rfl, ob, bf_no _ _ _ (by decide +kernel) (by decide +kernel) (by decide +kernel), ?_⟩
        refine ⟨_, rfl, _, rfl, D2, _, _, _, rfl, rfl, SqL.of S.h2, at_refs hz.1 hp2, ?_⟩
        refine ⟨Z', p, d, p2, d2, b, c, rfl, S.sh.same, ok.B, ok.Bc, ok.ne, ok.nc, ok.nb, ok.lb, ok.lc, ok.hb, ok.hc, fun Z3 H5 X5 s5 B5 fr5 => ?_⟩
        exact ⟨_, _, Z3, _, _, rfl, kk Z3 H5 X5 s5 B5 fr5, g.take hb hc2, cov.join _ _, got.join cov⟩
      · have heq : (tu / 250 - (i : Int)) % (m : Int) = tu / 25 % (m : Int) := by
          have hc' : ¬ (!decide (V.int ((tu / 250 - (i : Int)) % (m : Int)) = V.int (tu / 25 % (m : Int)))) = true := hc
          by_cases z : V.int ((tu / 250 - (i : Int)) % (m : Int)) = V.int (tu / 25 % (m : Int))
          · injection z
          · exact absurd (by rw [decide_eq_false z]; rfl) hc'
        exact ⟨_, _, Z', bs2, K2, rfl, S, g, cov, got.skip cov (by show ((tu / 250 - (i : Int)) % (m : Int)).toNat = oth; omega)⟩
    rintro σ H5 ⟨v10, v11, Z5, bs2, K2, rfl, S5, g2, cov2, got2⟩
    have f2 : FullK G K2 oth := got2.full g0 fun i hi => by
      obtain ⟨k', h1, h2⟩ := cov_down m hm2 hm5 (tu / 250) i (by omega)
      exact ⟨k', by omega, h2⟩
    clear S4 cov2 got2
    have eo : (tu % (m : Int)).toNat = one := by omega
    have eot : (tu / 25 % (m : Int)).toNat = oth := by omega
    obtain ⟨p1, d1, b1, hp1, hb1⟩ := S5.ad1 hone1
    obtain ⟨p2, d2, b2, hp2, hb2⟩ := S5.ad2 hoth1
    obtain ⟨et, ec⟩ := full_same g2 g1 hb2 hb1 f2 f1
    -- what the one tells
    have oka := S5.told1 g1 (Nat.le_refl _) hb1 hp1
    obtain ⟨dxoka, oboka⟩ := oka.B.ob
    refine ⟨_, rfl, _, rfl, D1, _, _, _, rfl, rfl, SqL.of S5.h1, at_refs hone.1 (by rw [eo]; exact hp1), p1, dxoka, _, rfl, oboka, bf_no _ _ _ (by decide +kernel) (by decide +kernel) (by decide +kernel), ?_⟩
    refine ⟨Z5, p1, d1, b1, rfl, S5.sh.same, oka.B, oka.nb, oka.lb, oka.lp, fun H6 LT sH6 _ hLT6 => ?_⟩
    have S6 := S5.keep sH6
    have okb := S6.told1 g1 (Nat.le_refl _) hb1 hp1
    obtain ⟨dxokb, obokb⟩ := okb.B.ob
    refine ⟨_, rfl, _, rfl, D1, _, _, _, rfl, rfl, SqL.of S6.h1, at_refs hone.1 (by rw [eo]; exact hp1), p1, dxokb, _, rfl, obokb, bf_no _ _ _ (by decide +kernel) (by decide +kernel) (by decide +kernel), ?_⟩
    refine ⟨Z5, p1, d1, b1, rfl, S6.sh.same, okb.B, okb.nb, okb.lb, okb.lp, fun H7 LC sH7 _ hLC7 => ?_⟩
    have S7 := S6.keep sH7
    have hLT7 := hLT6.mono sH7
    refine ⟨_, rfl, _, rfl, LT, LC, toldM b1, clashM b1, rfl, hLT7, hLC7, in_order g1 (Nat.le_refl _) hb1, fun H8 s8 => ⟨_, rfl, ?_⟩⟩
    refine ite2 (fun z => nomatch z) (fun _ => ?_)
    have S8 := S7.keep s8
    have hLT8 := hLT7.mono s8
    have hLC8 := hLC7.mono s8
    -- what the other tells
    have okc := S8.told2 g2 (Nat.le_refl _) hb2 hp2
    obtain ⟨dxokc, obokc⟩ := okc.B.ob
    refine ⟨_, rfl, _, rfl, D2, _, _, _, rfl, rfl, SqL.of S8.h2, at_refs hoth.1 (by rw [eot]; exact hp2), p2, dxokc, _, rfl, obokc, bf_no _ _ _ (by decide +kernel) (by decide +kernel) (by decide +kernel), ?_⟩
    refine ⟨Z5, p2, d2, b2, rfl, S8.sh.same, okc.B, okc.nb, okc.lb, okc.lp, fun H9 LU sH9 _ hLU => ?_⟩
    have S9 := S8.keep sH9
    have hLT9 := hLT8.mono sH9
    have hLC9 := hLC8.mono sH9
    refine ⟨_, rfl, toldDat (toldM b2), toldDat (toldM b1), dp_told hLU, dp_told hLT9, toldDat_plain _, toldDat_plain _, toldDat_depth _, _, rfl, ?_⟩
    rw [et, eqv_told]
    refine ite2 (fun z => nomatch z) (fun _ => ?_)
    have okd := S9.told2 g2 (Nat.le_refl _) hb2 hp2
    obtain ⟨dxokd, obokd⟩ := okd.B.ob
    refine ⟨_, rfl, _, rfl, D2, _, _, _, rfl, rfl, SqL.of S9.h2, at_refs hoth.1 (by rw [eot]; exact hp2), p2, dxokd, _, rfl, obokd, bf_no _ _ _ (by decide +kernel) (by decide +kernel) (by decide +kernel), ?_⟩
    refine ⟨Z5, p2, d2, b2, rfl, S9.sh.same, okd.B, okd.nb, okd.lb, okd.lp, fun H10 LV sH10 _ hLV => ?_⟩
    have S10 := S9.keep sH10
    have hLT10 := hLT9.mono sH10
    have hLC10 := hLC9.mono sH10
    refine ⟨_, rfl, prsDat (clashM b2), prsDat (clashM b1), dp_pairs hLV, dp_pairs hLC10, prsDat_plain _, prsDat_plain _, Nat.le_trans (prsDat_depth _) (by decide), _, rfl, ?_⟩
    rw [ec, eqv_prs]
    refine ite2 (fun z => nomatch z) (fun _ => ?_)
    -- the third
    have hth := modIn (tu % (m : Int) + 1) hm0
    have hne3 := next_ne m hm2 hm5 (tu % (m : Int)) hone.1 hone.2
    refine ⟨_, rfl, _, _, rfl, rfl, _, rfl, _, _, rfl, rfl, hm0, ?_⟩
    obtain ⟨tn, etn⟩ : ∃ tn : Nat, (tu % (m : Int) + 1) % (m : Int) = (tn : Int) := Int.eq_ofNat_of_zero_le hth.1
    have ett : ((tu % (m : Int) + 1) % (m : Int)).toNat = tn := by omega
    have htn : tn < m := by omega
    obtain ⟨p, d, p9, d9, b, c, hp, hp9, hb, hc2, ok, kk⟩ := S10.take1 g1 (Nat.le_refl _) (i := tn) (j := one) htn hone1 (by omega)
    obtain ⟨dx, ob⟩ := ok.B.ob
    obtain ⟨kvs, hdd, _⟩ := ok.B.dc
    refine ⟨_, rfl, _, rfl, D1, _, _, _, rfl, rfl, SqL.of S10.h1, at_refs hth.1 (by rw [ett]; exact hp), p, dx, _, rfl, ob, bf_no _ _ _ (by decide +kernel) (by decide +kernel) (by decide +kernel), ?_⟩
    refine ⟨_, rfl, _, rfl, D1, _, _, _, rfl, rfl, SqL.of S10.h1, at_refs hone.1 (by rw [eo]; exact hp9), ?_⟩
    refine ⟨Z5, p, d, p9, d9, b, c, rfl, S10.sh.same, ok.B, ok.Bc, ok.ne, ok.nc, ok.nb, ok.lb, ok.lc, ok.hb, ok.hc, fun Z11 H11 X11 s11 B11 fr11 => ?_⟩
    have S11 := kk Z11 H11 X11 s11 B11 fr11
    have hLT11 := hLT10.keep hdd fr11
    have hLC11 := hLC10.keep hdd fr11
    have g11 : GoodB 24 (bs1.set tn (_root_.SW.takeM b c)) G (_root_.SW.joinK K1 tn one) := g1.take hb hc2
    have f3 : FullK G (_root_.SW.joinK K1 tn one) tn := fun p w hw => .inr ⟨rfl, f1 p w hw⟩
    have f4 : FullK G (_root_.SW.joinK K1 tn one) one := fun p w hw => .inl (f1 p w hw)
    obtain ⟨p3, d3, b3, hp3, hb3⟩ := S11.ad1 htn
    obtain ⟨p4, d4, b4, hp4, hb4⟩ := S11.ad1 hone1
    obtain ⟨et3, ec3⟩ := full_same g11 g1 hb3 hb1 f3 f1
    obtain ⟨et4, ec4⟩ := full_same g11 g1 hb4 hb1 f4 f1
    have oke := S11.told1 g11 (Nat.le_refl _) hb3 hp3
    obtain ⟨dxoke, oboke⟩ := oke.B.ob
    refine ⟨_, rfl, _, rfl, D1, _, _, _, rfl, rfl, SqL.of S11.h1, at_refs hth.1 (by rw [ett]; exact hp3), p3, dxoke, _, rfl, oboke, bf_no _ _ _ (by decide +kernel) (by decide +kernel) (by decide +kernel), ?_⟩
    refine ⟨Z11, p3, d3, b3, rfl, S11.sh.same, oke.B, oke.nb, oke.lb, oke.lp, fun H12 LX sH12 _ hLX => ?_⟩
    have S12 := S11.keep sH12
    have hLT12 := hLT11.mono sH12
    have hLC12 := hLC11.mono sH12
    refine ⟨_, rfl, toldDat (toldM b3), toldDat (toldM b1), dp_told hLX, dp_told hLT12, toldDat_plain _, toldDat_plain _, toldDat_depth _, _, rfl, ?_⟩
    rw [et3, eqv_told]
    refine ite2 (fun _ => ?_) (fun z => absurd rfl z)
    have okf := S12.told1 g11 (Nat.le_refl _) hb3 hp3
    obtain ⟨dxokf, obokf⟩ := okf.B.ob
    refine ⟨_, rfl, _, rfl, D1, _, _, _, rfl, rfl, SqL.of S12.h1, at_refs hth.1 (by rw [ett]; exact hp3), p3, dxokf, _, rfl, obokf, bf_no _ _ _ (by decide +kernel) (by decide +kernel) (by decide +kernel), ?_⟩
    refine ⟨Z11, p3, d3, b3, rfl, S12.sh.same, okf.B, okf.nb, okf.lb, okf.lp, fun H13 LY sH13 _ hLY => ?_⟩
    have S13 := S12.keep sH13
    have hLT13 := hLT12.mono sH13
    have hLC13 := hLC12.mono sH13
    refine ⟨_, rfl, prsDat (clashM b3), prsDat (clashM b1), dp_pairs hLY, dp_pairs hLC13, prsDat_plain _, prsDat_plain _, Nat.le_trans (prsDat_depth _) (by decide), _, rfl, ?_⟩
    rw [ec3, eqv_prs]
    refine ite2 (fun _ => ?_) (fun z => absurd rfl z)
    have okg := S13.told1 g11 (Nat.le_refl _) hb4 hp4
    obtain ⟨dxokg, obokg⟩ := okg.B.ob
    refine ⟨_, rfl, _, rfl, D1, _, _, _, rfl, rfl, SqL.of S13.h1, at_refs hone.1 (by rw [eo]; exact hp4), p4, dxokg, _, rfl, obokg, bf_no _ _ _ (by decide +kernel) (by decide +kernel) (by decide +kernel), ?_⟩
    refine ⟨Z11, p4, d4, b4, rfl, S13.sh.same, okg.B, okg.nb, okg.lb, okg.lp, fun H14 LZ sH14 _ hLZ => ?_⟩
    have S14 := S13.keep sH14
    have hLT14 := hLT13.mono sH14
    refine ⟨_, rfl, toldDat (toldM b4), toldDat (toldM b1), dp_told hLZ, dp_told hLT14, toldDat_plain _, toldDat_plain _, toldDat_depth _, ?_⟩
    rw [et4, eqv_told]
    exact k _
end
end L2.SR
namespace L2.SR
open PySem PySem.Spec PyProof.Rows
/-! What the top has written. -/
theorem all_here {l : PySem.W.OpenLaw} {w : World} {K : PySem.W.Frag} {h : Heap} {mg : Str → Option Value} {fa C CB f1 f2 f3 f4 f5 f6 f7 f8 f9 f10 f11 f12 f13 f14 f15 f16 f17 : Addr} (X : K.In h) (G : h.Ns mainGlobals mg) (hfa : mg "law" = some (.ref fa))
    {od1 an1 od2 an2 od3 an3 od4 an4 od5 an5 od6 an6 od7 an7 od8 an8 od9 an9 od10 an10 od11 an11 od12 an12 od13 an13 od14 an14 od15 an15 od16 an16 od17 an17 : Option Addr} {sl1 sl2 sl3 sl4 sl5 sl6 sl7 sl8 sl9 sl10 sl11 sl12 sl13 sl14 sl15 sl16 sl17 : Array (Option Value)} {oc1 kV1 dc1 pm1 cd1 ct1 oc2 kV2 dc2 pm2 cd2 ct2 oc3 kV3 dc3 pm3 cd3 ct3 oc4 kV4 dc4 pm4 cd4 ct4 oc5 kV5 dc5 pm5 cd5 ct5 oc6 kV6 dc6 pm6 cd6 ct6 oc7 kV7 dc7 pm7 cd7 ct7 oc8 kV8 dc8 pm8 cd8 ct8 oc9 kV9 dc9 pm9 cd9 ct9 oc10 kV10 dc10 pm10 cd10 ct10 oc11 kV11 dc11 pm11 cd11 ct11 oc12 kV12 dc12 pm12 cd12 ct12 oc13 kV13 dc13 pm13 cd13 ct13 oc14 kV14 dc14 pm14 cd14 ct14 oc15 kV15 dc15 pm15 cd15 ct15 oc16 kV16 dc16 pm16 cd16 ct16 oc17 kV17 dc17 pm17 cd17 ct17 : Value}
    (atC : PySem.W.nsIn K mainGlobals "Writing" = some (some (.ref C)))
    (atCB : PySem.W.nsIn K mainGlobals "Book" = some (some (.ref CB)))
    (a1 : PySem.W.findIn K (.ref C) "__init__" = some (some (.ref f1))) (i1 : PySem.W.isFn K (.ref f1) = true)
    (l1 : K.lookup f1 = some ⟨oc1, od1, .func (PySem.W.fnOf "__init__" "Writing.__init__" (defArgs sWInit) (defBody sWInit) (defScope sWInit) .none kV1 dc1 pm1 an1 cd1 ct1), sl1⟩) (c1 : PySem.W.codeIn K cd1 "Writing.__init__" = true) (k1 : PySem.W.keepIn K (.ref f1) = true)
    (a2 : PySem.W.findIn K (.ref CB) "__init__" = some (some (.ref f2))) (i2 : PySem.W.isFn K (.ref f2) = true)
    (l2 : K.lookup f2 = some ⟨oc2, od2, .func (PySem.W.fnOf "__init__" "Book.__init__" (defArgs sBInit) (defBody sBInit) (defScope sBInit) .none kV2 dc2 pm2 an2 cd2 ct2), sl2⟩) (c2 : PySem.W.codeIn K cd2 "Book.__init__" = true) (k2 : PySem.W.keepIn K (.ref f2) = true)
    (a3 : PySem.W.findIn K (.ref CB) "write" = some (some (.ref f3))) (i3 : PySem.W.isFn K (.ref f3) = true)
    (l3 : K.lookup f3 = some ⟨oc3, od3, .func (PySem.W.fnOf "write" "Book.write" (defArgs sWrite) (defBody sWrite) (defScope sWrite) .none kV3 dc3 pm3 an3 cd3 ct3), sl3⟩) (c3 : PySem.W.codeIn K cd3 "Book.write" = true) (k3 : PySem.W.keepIn K (.ref f3) = true)
    (a4 : PySem.W.findIn K (.ref CB) "take_in" = some (some (.ref f4))) (i4 : PySem.W.isFn K (.ref f4) = true)
    (l4 : K.lookup f4 = some ⟨oc4, od4, .func (PySem.W.fnOf "take_in" "Book.take_in" (defArgs sTake) (defBody sTake) (defScope sTake) .none kV4 dc4 pm4 an4 cd4 ct4), sl4⟩) (c4 : PySem.W.codeIn K cd4 "Book.take_in" = true) (k4 : PySem.W.keepIn K (.ref f4) = true)
    (a5 : PySem.W.findIn K (.ref CB) "told" = some (some (.ref f5))) (i5 : PySem.W.isFn K (.ref f5) = true)
    (l5 : K.lookup f5 = some ⟨oc5, od5, .func (PySem.W.fnOf "told" "Book.told" (defArgs sTold) (defBody sTold) (defScope sTold) .none kV5 dc5 pm5 an5 cd5 ct5), sl5⟩) (c5 : PySem.W.codeIn K cd5 "Book.told" = true) (k5 : PySem.W.keepIn K (.ref f5) = true)
    (a6 : PySem.W.findIn K (.ref CB) "clashes" = some (some (.ref f6))) (i6 : PySem.W.isFn K (.ref f6) = true)
    (l6 : K.lookup f6 = some ⟨oc6, od6, .func (PySem.W.fnOf "clashes" "Book.clashes" (defArgs sClash) (defBody sClash) (defScope sClash) .none kV6 dc6 pm6 an6 cd6 ct6), sl6⟩) (c6 : PySem.W.codeIn K cd6 "Book.clashes" = true) (k6 : PySem.W.keepIn K (.ref f6) = true)
    (a7 : PySem.W.nsIn K mainGlobals "seen_by_next" = some (some (.ref f7)))
    (l7 : K.lookup f7 = some ⟨oc7, od7, .func (PySem.W.fnOf "seen_by_next" "seen_by_next" (defArgs sSeen) (defBody sSeen) (defScope sSeen) .none kV7 dc7 pm7 an7 cd7 ct7), sl7⟩) (c7 : PySem.W.codeIn K cd7 "seen_by_next" = true) (k7 : PySem.W.keepIn K (.ref f7) = true)
    (a8 : PySem.W.nsIn K mainGlobals "unseen" = some (some (.ref f8)))
    (l8 : K.lookup f8 = some ⟨oc8, od8, .func (PySem.W.fnOf "unseen" "unseen" (defArgs sUnseen) (defBody sUnseen) (defScope sUnseen) .none kV8 dc8 pm8 an8 cd8 ct8), sl8⟩) (c8 : PySem.W.codeIn K cd8 "unseen" = true) (k8 : PySem.W.keepIn K (.ref f8) = true)
    (a9 : PySem.W.nsIn K mainGlobals "unlike" = some (some (.ref f9)))
    (l9 : K.lookup f9 = some ⟨oc9, od9, .func (PySem.W.fnOf "unlike" "unlike" (defArgs sUnlike) (defBody sUnlike) (defScope sUnlike) .none kV9 dc9 pm9 an9 cd9 ct9), sl9⟩) (c9 : PySem.W.codeIn K cd9 "unlike" = true) (k9 : PySem.W.keepIn K (.ref f9) = true)
    (a10 : PySem.W.nsIn K mainGlobals "_law_cell_at" = some (some (.ref f10)))
    (l10 : K.lookup f10 = some ⟨oc10, od10, .func (PySem.W.fnOf "_law_cell_at" "_law_cell_at" (defArgs sCell) (defBody sCell) (defScope sCell) .none kV10 dc10 pm10 an10 cd10 ct10), sl10⟩) (c10 : PySem.W.codeIn K cd10 "_law_cell_at" = true) (k10 : PySem.W.keepIn K (.ref f10) = true)
    (a11 : PySem.W.nsIn K mainGlobals "_law_some_words" = some (some (.ref f11)))
    (l11 : K.lookup f11 = some ⟨oc11, od11, .func (PySem.W.fnOf "_law_some_words" "_law_some_words" (defArgs sWords) (defBody sWords) (defScope sWords) .none kV11 dc11 pm11 an11 cd11 ct11), sl11⟩) (c11 : PySem.W.codeIn K cd11 "_law_some_words" = true) (k11 : PySem.W.keepIn K (.ref f11) = true)
    (a12 : PySem.W.nsIn K mainGlobals "_law_sign_row" = some (some (.ref f12)))
    (l12 : K.lookup f12 = some ⟨oc12, od12, .func (PySem.W.fnOf "_law_sign_row" "_law_sign_row" (defArgs sRow) (defBody sRow) (defScope sRow) .none kV12 dc12 pm12 an12 cd12 ct12), sl12⟩) (c12 : PySem.W.codeIn K cd12 "_law_sign_row" = true) (k12 : PySem.W.keepIn K (.ref f12) = true)
    (a13 : PySem.W.nsIn K mainGlobals "_law_pair" = some (some (.ref f13)))
    (l13 : K.lookup f13 = some ⟨oc13, od13, .func (PySem.W.fnOf "_law_pair" "_law_pair" (defArgs sPair) (defBody sPair) (defScope sPair) .none kV13 dc13 pm13 an13 cd13 ct13), sl13⟩) (c13 : PySem.W.codeIn K cd13 "_law_pair" = true) (k13 : PySem.W.keepIn K (.ref f13) = true)
    (a14 : PySem.W.nsIn K mainGlobals "_law_drawn" = some (some (.ref f14)))
    (l14 : K.lookup f14 = some ⟨oc14, od14, .func (PySem.W.fnOf "_law_drawn" "_law_drawn" (defArgs sDrawn) (defBody sDrawn) (defScope sDrawn) .none kV14 dc14 pm14 an14 cd14 ct14), sl14⟩) (c14 : PySem.W.codeIn K cd14 "_law_drawn" = true) (k14 : PySem.W.keepIn K (.ref f14) = true)
    (a15 : PySem.W.nsIn K mainGlobals "_law_done" = some (some (.ref f15)))
    (l15 : K.lookup f15 = some ⟨oc15, od15, .func (PySem.W.fnOf "_law_done" "_law_done" (defArgs sDone) (defBody sDone) (defScope sDone) .none kV15 dc15 pm15 an15 cd15 ct15), sl15⟩) (c15 : PySem.W.codeIn K cd15 "_law_done" = true) (k15 : PySem.W.keepIn K (.ref f15) = true)
    (a16 : PySem.W.nsIn K mainGlobals "_law_in_order" = some (some (.ref f16)))
    (l16 : K.lookup f16 = some ⟨oc16, od16, .func (PySem.W.fnOf "_law_in_order" "_law_in_order" (defArgs sOrder) (defBody sOrder) (defScope sOrder) .none kV16 dc16 pm16 an16 cd16 ct16), sl16⟩) (c16 : PySem.W.codeIn K cd16 "_law_in_order" = true) (k16 : PySem.W.keepIn K (.ref f16) = true)
    (a17 : PySem.W.nsIn K mainGlobals "law" = some (some (.ref f17)))
    (l17 : K.lookup f17 = some ⟨oc17, od17, .func (PySem.W.fnOf "law" "law" (defArgs sLaw) (defBody sLaw) (defScope sLaw) .none kV17 dc17 pm17 an17 cd17 ct17), sl17⟩) (c17 : PySem.W.codeIn K cd17 "law" = true) (k17 : PySem.W.keepIn K (.ref f17) = true)
    (pgC : PySem.W.plainGet K C Str.empty = true) (hdC : PySem.W.hasDictIn K C = true) (poC : PySem.W.plainOver K C = true) (saC : PySem.W.findIn K (.ref C) "__setattr__" = some (some (.builtin "object.__setattr__"))) (mkC : PySem.W.makesIn K C = true) (kcC : PySem.W.keepIn K (.ref C) = true)
    (pgCB : PySem.W.plainGet K CB Str.empty = true) (hdCB : PySem.W.hasDictIn K CB = true) (poCB : PySem.W.plainOver K CB = true) (saCB : PySem.W.findIn K (.ref CB) "__setattr__" = some (some (.builtin "object.__setattr__"))) (mkCB : PySem.W.makesIn K CB = true) (kcCB : PySem.W.keepIn K (.ref CB) = true)
    (nC_mark : PySem.W.findIn K (.ref C) "mark" = some none)
    (nC_words : PySem.W.findIn K (.ref C) "words" = some none)
    (nC_made_from : PySem.W.findIn K (.ref C) "made_from" = some none)
    (nC_seen : PySem.W.findIn K (.ref C) "seen" = some none)
    (nCB_hand : PySem.W.findIn K (.ref CB) "hand" = some none)
    (nCB_many : PySem.W.findIn K (.ref CB) "many" = some none)
    (nCB_held : PySem.W.findIn K (.ref CB) "held" = some none)
    (z_any : PySem.W.nsIn K mainGlobals "any" = some none)
    (z_sorted : PySem.W.nsIn K mainGlobals "sorted" = some none)
    (z_set : PySem.W.nsIn K mainGlobals "set" = some none)
    (z_len : PySem.W.nsIn K mainGlobals "len" = some none)
    (z_range : PySem.W.nsIn K mainGlobals "range" = some none)
    (z_isinstance : PySem.W.nsIn K mainGlobals "isinstance" = some none)
    (z_list : PySem.W.nsIn K mainGlobals "list" = some none)
    (z_tuple : PySem.W.nsIn K mainGlobals "tuple" = some none) :
    ∃ fd : FuncData, (∀ (s : Shared) (v : Value), BindsTo s fd ⟨[v], []⟩ [("_law_script", v)]) ∧ ∀ base : Heap, K.In base → base.Ns mainGlobals mg → FnOk l.prog w K mg base CX0 5 fa fd ["_law_script"] (spLaw K) := by
  have e := hfa.symm.trans (PySem.W.mg_of X G a17)
  cases e
  have T : Txt K mg C CB := ⟨⟨pgC, hdC, poC, saC⟩, ⟨pgCB, hdCB, poCB, saCB⟩, nC_mark, nC_words, nC_made_from, nC_seen, nCB_hand, nCB_many, nCB_held, PySem.W.mg_of X G atC, PySem.W.mg_of X G atCB, PySem.W.mg_none_of X G z_any, PySem.W.mg_none_of X G z_sorted, PySem.W.mg_none_of X G z_set, PySem.W.mg_none_of X G z_len, PySem.W.mg_none_of X G z_range, PySem.W.mg_none_of X G z_isinstance, PySem.W.mg_none_of X G z_list, PySem.W.mg_none_of X G z_tuple⟩
  have F1 := fun_mk (st := sWInit) l1 c1 k1
  have b1 := F1.binds (ps := ["self", "mark", "words", "made_from", "seen"]) fun _ _ _ _ _ _ us hl => match us, hl with | [_, _, _, _, _], _ => rfl
  have F2 := fun_mk (st := sBInit) l2 c2 k2
  have b2 := F2.binds (ps := ["self", "hand"]) fun _ _ _ _ _ _ us hl => match us, hl with | [_, _], _ => rfl
  have F3 := fun_mk (st := sWrite) l3 c3 k3
  have b3 := F3.binds (ps := ["self", "tongue", "key", "text", "first"]) fun _ _ _ _ _ _ us hl => match us, hl with | [_, _, _, _, _], _ => rfl
  have F4 := fun_mk (st := sTake) l4 c4 k4
  have b4 := F4.binds (ps := ["self", "other"]) fun _ _ _ _ _ _ us hl => match us, hl with | [_, _], _ => rfl
  have F5 := fun_mk (st := sTold) l5 c5 k5
  have b5 := F5.binds (ps := ["self"]) fun _ _ _ _ _ _ us hl => match us, hl with | [_], _ => rfl
  have F6 := fun_mk (st := sClash) l6 c6 k6
  have b6 := F6.binds (ps := ["self"]) fun _ _ _ _ _ _ us hl => match us, hl with | [_], _ => rfl
  have F7 := fun_mk (st := sSeen) l7 c7 k7
  have b7 := F7.binds (ps := ["writings"]) fun _ _ _ _ _ _ us hl => match us, hl with | [_], _ => rfl
  have F8 := fun_mk (st := sUnseen) l8 c8 k8
  have b8 := F8.binds (ps := ["writings"]) fun _ _ _ _ _ _ us hl => match us, hl with | [_], _ => rfl
  have F9 := fun_mk (st := sUnlike) l9 c9 k9
  have b9 := F9.binds (ps := ["writings"]) fun _ _ _ _ _ _ us hl => match us, hl with | [_], _ => rfl
  have F10 := fun_mk (st := sCell) l10 c10 k10
  have b10 := F10.binds (ps := ["_law_script", "_law_k"]) fun _ _ _ _ _ _ us hl => match us, hl with | [_, _], _ => rfl
  have F11 := fun_mk (st := sWords) l11 c11 k11
  have b11 := F11.binds (ps := ["_law_cell", "_law_many"]) fun _ _ _ _ _ _ us hl => match us, hl with | [_, _], _ => rfl
  have F12 := fun_mk (st := sRow) l12 c12 k12
  have b12 := F12.binds (ps := ["_law_cell"]) fun _ _ _ _ _ _ us hl => match us, hl with | [_], _ => rfl
  have F13 := fun_mk (st := sPair) l13 c13 k13
  have b13 := F13.binds (ps := ["_law_cell", "_law_plain"]) fun _ _ _ _ _ _ us hl => match us, hl with | [_, _], _ => rfl
  have F14 := fun_mk (st := sDrawn) l14 c14 k14
  have b14 := F14.binds (ps := ["_law_cell", "_law_many", "_law_spots", "_law_plain"]) fun _ _ _ _ _ _ us hl => match us, hl with | [_, _, _, _], _ => rfl
  have F15 := fun_mk (st := sDone) l15 c15 k15
  have b15 := F15.binds (ps := ["_law_hands", "_law_spots", "_law_cells", "_law_plain"]) fun _ _ _ _ _ _ us hl => match us, hl with | [_, _, _, _], _ => rfl
  have F16 := fun_mk (st := sOrder) l16 c16 k16
  have b16 := F16.binds (ps := ["_law_told", "_law_clashes"]) fun _ _ _ _ _ _ us hl => match us, hl with | [_, _], _ => rfl
  have F17 := fun_mk (st := sLaw) l17 c17 k17
  have m7 := PySem.W.mg_of X G a7
  have m8 := PySem.W.mg_of X G a8
  have m9 := PySem.W.mg_of X G a9
  have m10 := PySem.W.mg_of X G a10
  have m11 := PySem.W.mg_of X G a11
  have m12 := PySem.W.mg_of X G a12
  have m13 := PySem.W.mg_of X G a13
  have m14 := PySem.W.mg_of X G a14
  have m15 := PySem.W.mg_of X G a15
  have m16 := PySem.W.mg_of X G a16
  refine ⟨PySem.W.fnOf "law" "law" (defArgs sLaw) (defBody sLaw) (defScope sLaw) .none kV17 dc17 pm17 an17 cd17 ct17, fun s v => .of_eq rfl, fun base _ _ => ?_⟩
  have GBI : FnOk l.prog w K mg base CX0 1 f2 _ ["self", "hand"] (spBInit CB) := ok_binit F2 T
  have GW : FnOk l.prog w K mg base CX0 3 f3 _ ["self", "tongue", "key", "text", "first"] (spWrite C CB) := ok_write F3 T F7 b7 m7 ⟨mkC, a1, i1, kcC⟩ F1 b1
  have GT : FnOk l.prog w K mg base CX0 2 f4 _ ["self", "other"] (spTake C CB) := ok_take F4 T F8 b8 m8
  have GO : FnOk l.prog w K mg base CX0 2 f5 _ ["self"] (spTold C CB) := ok_told F5 T F9 b9 m9
  have GL : FnOk l.prog w K mg base CX0 2 f6 _ ["self"] (spClash C CB) := ok_clash F6 T F9 b9 m9
  have GC : FnOk l.prog w K mg base CX0 1 f10 _ ["_law_script", "_law_k"] (spCell K) := ok_cell F10 T
  have GN : FnOk l.prog w K mg base CX0 1 f11 _ ["_law_cell", "_law_many"] spWords := ok_words F11 T
  have GR : FnOk l.prog w K mg base CX0 3 f14 _ ["_law_cell", "_law_many", "_law_spots", "_law_plain"] spDrawn := ok_drawn F14 T F13 b13 m13 F12 b12 m12
  have GD : FnOk l.prog w K mg base CX0 4 f15 _ ["_law_hands", "_law_spots", "_law_cells", "_law_plain"] (spDone C CB) := ok_done F15 T GR F14 b14 m14 ⟨mkCB, a2, i2, kcCB⟩ GBI b2 ⟨a4, i4, k4⟩ GT b4 ⟨a3, i3, k3⟩ GW b3
  have GI : FnOk l.prog w K mg base CX0 1 f16 _ ["_law_told", "_law_clashes"] spOrder := ok_order F16 T
  exact ok_law F17 T GC F10 b10 m10 GN F11 b11 m11 GD F15 b15 m15 GI F16 b16 m16 ⟨a4, i4, k4⟩ GT b4 ⟨a5, i5, k5⟩ GO b5 ⟨a6, i6, k6⟩ GL b6
theorem walk_k83 {l : PySem.W.OpenLaw} {q : Program} {loose : List Str} {XP : (Str → Option Value) → Heap → Prop} {YP : World → Heap → Prop} {d : DefRec} {K : Params → PySem.W.Frag} (hn : l.most = some 63) (hdf : d.params.defaults = [])
    (hY : ∀ (w : World) (h : Heap), YP w h → (K w.params).In h)
    (F : ∀ (w : World) (mg : Str → Option Value) (fa : Addr) (h : Heap), (K w.params).In h → h.Ns mainGlobals mg → mg d.name = some (.ref fa) →
      ∃ fd : FuncData, (∀ (s : Shared) (u : Value), BindsTo s fd ⟨[u], []⟩ [("_law_script", u)]) ∧ ∀ base : Heap, (K w.params).In base → base.Ns mainGlobals mg → FnOk l.prog w (K w.params) mg base CX0 5 fa fd ["_law_script"] (spLaw (K w.params))) :
    PySem.W.WalkO q loose XP YP l.row.toRowW d [] (fun f vs => PySem.call f vs) :=
  walk_of (n := 63) (k := 5) (x := "_law_script") (CX := fun _ => CX0) (sp := fun w => spLaw (K w.params)) hn (by decide) hdf ⟨rfl, by decide, by decide⟩ hY F (fun _ _ a ns hl _ hS => ⟨a, ns, rfl, hS, fun _ => rfl⟩) fun _ _ _ _ _ z => z
end L2.SR

open PySem PySem.W PyProof.Rows in
set_option maxHeartbeats 0 in
theorem PySem.Challenge.cw_saywell_k83_whole_from_either_side_holds : PySem.Challenge.rw_saywell_k83_whole_from_either_side.Holds := by
  w_on; o_law; k_head; (case hw => w_witness2)
  k_fill
  refine L2.SR.walk_k83 (l := PySem.Challenge.rw_saywell_k83_whole_from_either_side) rfl rfl (fun w h Y => PySem.W.kIn_of Y) ?F
  case F =>
    intro w mg fa h KX G hmg
    refine' L2.SR.all_here KX G hmg ?atC ?atCB ?a1 ?i1 ?l1 ?c1 ?k1 ?a2 ?i2 ?l2 ?c2 ?k2 ?a3 ?i3 ?l3 ?c3 ?k3 ?a4 ?i4 ?l4 ?c4 ?k4 ?a5 ?i5 ?l5 ?c5 ?k5 ?a6 ?i6 ?l6 ?c6 ?k6 ?a7 ?l7 ?c7 ?k7 ?a8 ?l8 ?c8 ?k8 ?a9 ?l9 ?c9 ?k9 ?a10 ?l10 ?c10 ?k10 ?a11 ?l11 ?c11 ?k11 ?a12 ?l12 ?c12 ?k12 ?a13 ?l13 ?c13 ?k13 ?a14 ?l14 ?c14 ?k14 ?a15 ?l15 ?c15 ?k15 ?a16 ?l16 ?c16 ?k16 ?a17 ?l17 ?c17 ?k17 ?pgC ?hdC ?poC ?saC ?mkC ?kcC ?pgCB ?hdCB ?poCB ?saCB ?mkCB ?kcCB ?nC_mark ?nC_words ?nC_made_from ?nC_seen ?nCB_hand ?nCB_many ?nCB_held ?z_any ?z_sorted ?z_set ?z_len ?z_range ?z_isinstance ?z_list ?z_tuple
    (case atC => k_is)
    (case atCB => k_is)
    (case a1 => k_is)
    (case i1 => k_is)
    (case l1 => k_is)
    (case c1 => k_is)
    (case k1 => k_is)
    (case a2 => k_is)
    (case i2 => k_is)
    (case l2 => k_is)
    (case c2 => k_is)
    (case k2 => k_is)
    (case a3 => k_is)
    (case i3 => k_is)
    (case l3 => k_is)
    (case c3 => k_is)
    (case k3 => k_is)
    (case a4 => k_is)
    (case i4 => k_is)
    (case l4 => k_is)
    (case c4 => k_is)
    (case k4 => k_is)
    (case a5 => k_is)
    (case i5 => k_is)
    (case l5 => k_is)
    (case c5 => k_is)
    (case k5 => k_is)
    (case a6 => k_is)
    (case i6 => k_is)
    (case l6 => k_is)
    (case c6 => k_is)
    (case k6 => k_is)
    (case a7 => k_is)
    (case l7 => k_is)
    (case c7 => k_is)
    (case k7 => k_is)
    (case a8 => k_is)
    (case l8 => k_is)
    (case c8 => k_is)
    (case k8 => k_is)
    (case a9 => k_is)
    (case l9 => k_is)
    (case c9 => k_is)
    (case k9 => k_is)
    (case a10 => k_is)
    (case l10 => k_is)
    (case c10 => k_is)
    (case k10 => k_is)
    (case a11 => k_is)
    (case l11 => k_is)
    (case c11 => k_is)
    (case k11 => k_is)
    (case a12 => k_is)
    (case l12 => k_is)
    (case c12 => k_is)
    (case k12 => k_is)
    (case a13 => k_is)
    (case l13 => k_is)
    (case c13 => k_is)
    (case k13 => k_is)
    (case a14 => k_is)
    (case l14 => k_is)
    (case c14 => k_is)
    (case k14 => k_is)
    (case a15 => k_is)
    (case l15 => k_is)
    (case c15 => k_is)
    (case k15 => k_is)
    (case a16 => k_is)
    (case l16 => k_is)
    (case c16 => k_is)
    (case k16 => k_is)
    (case a17 => k_is)
    (case l17 => k_is)
    (case c17 => k_is)
    (case k17 => k_is)
    (case pgC => k_is)
    (case hdC => k_is)
    (case poC => k_is)
    (case saC => k_is)
    (case mkC => k_is)
    (case kcC => k_is)
    (case pgCB => k_is)
    (case hdCB => k_is)
    (case poCB => k_is)
    (case saCB => k_is)
    (case mkCB => k_is)
    (case kcCB => k_is)
    (case nC_mark => k_is)
    (case nC_words => k_is)
    (case nC_made_from => k_is)
    (case nC_seen => k_is)
    (case nCB_hand => k_is)
    (case nCB_many => k_is)
    (case nCB_held => k_is)
    (case z_any => k_is)
    (case z_sorted => k_is)
    (case z_set => k_is)
    (case z_len => k_is)
    (case z_range => k_is)
    (case z_isinstance => k_is)
    (case z_list => k_is)
    (case z_tuple => k_is)
