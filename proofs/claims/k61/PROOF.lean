import PyProof.Rows.All
import Wide.All
import OpenK.AllK
import Wide.FinOn
import HandS.ForMost
import HandS.Wide
import HandS.TupAny
import HandS.Deep
import HandS.IsInst
import HandS.Style
import HandS.Walk
import KE.LtData
import KE.KDictKeyed
import KE.KDictDisplayH
import PyProof.TupleOfSeq
import KE.GoesEnum
import PySem.Challenge.RW_buildroom_k61_whole_stuck
set_option linter.all false
set_option Elab.async false
set_option maxRecDepth 100000
/-! The mathematics of jobs that keep slots: moves, layers of states by weight, least rows. -/
namespace K61

abbrev St := List Nat × List Nat
abbrev Mv := Bool × Nat
abbrev Row := List Mv

/-! ### sorted lists of naturals -/
def srt (l : List Nat) : List Nat := l.mergeSort (fun a b => decide (a ≤ b))
theorem srt_perm (l : List Nat) : (srt l).Perm l := List.mergeSort_perm _ _
theorem srt_le (l : List Nat) : (srt l).Pairwise (· ≤ ·) := by
  have h := List.pairwise_mergeSort (le := fun a b : Nat => decide (a ≤ b)) (fun a b c h1 h2 => by
    simp only [decide_eq_true_eq] at *; omega) (fun a b => by
    simp only [Bool.or_eq_true, decide_eq_true_eq]; omega) l
  exact h.imp fun {a b} h => by simpa using h
theorem srt_mem {l : List Nat} {x : Nat} : x ∈ srt l ↔ x ∈ l := (srt_perm l).mem_iff
theorem srt_length (l : List Nat) : (srt l).length = l.length := (srt_perm l).length_eq
theorem srt_unique {l m : List Nat} (hp : m.Perm l) (hs : m.Pairwise (· ≤ ·)) : m = srt l :=
  List.Perm.eq_of_pairwise (fun a b _ _ h1 h2 => Nat.le_antisymm h1 h2) hs (srt_le l) (hp.trans (srt_perm l).symm)
theorem lt_of_le_nodup {l : List Nat} (h : l.Pairwise (· ≤ ·)) (n : l.Nodup) : l.Pairwise (· < ·) :=
  List.Pairwise.imp₂ (fun a b h1 h2 => Nat.lt_of_le_of_ne h1 h2) h n
theorem nodup_of_lt {l : List Nat} (h : l.Pairwise (· < ·)) : l.Nodup := h.imp fun {a b} h => Nat.ne_of_lt h

/-! ### moves -/
def endable (nd : List (List Nat)) (s : St) (j : Nat) : Bool := (nd.getD j []).all fun x => decide (x ∈ s.1)
def startable (slots : Nat) (s : St) (j : Nat) : Bool := decide (s.2.length < slots) && decide (j ∉ s.1) && decide (j ∉ s.2)
def endTo (s : St) (j : Nat) : Mv × St := ((false, j), (srt (s.1 ++ [j]), s.2.filter fun x => decide (x ≠ j)))
def startTo (s : St) (j : Nat) : Mv × St := ((true, j), (s.1, srt (s.2 ++ [j])))
def moves (nd : List (List Nat)) (slots : Nat) (s : St) : List (Mv × St) :=
  (s.2.filter (endable nd s)).map (endTo s) ++ ((List.range nd.length).filter (startable slots s)).map (startTo s)

structure Ok (n : Nat) (s : St) : Prop where
  d : s.1.Pairwise (· < ·)
  h : s.2.Pairwise (· < ·)
  dn : ∀ j ∈ s.1, j < n
  hn : ∀ j ∈ s.2, j < n
  dj : ∀ j ∈ s.1, j ∉ s.2
theorem ok0 (n : Nat) : Ok n ([], []) := ⟨.nil, .nil, by simp, by simp, by simp⟩
def wt (s : St) : Nat := 2 * s.1.length + s.2.length

theorem srt_add {l : List Nat} {j : Nat} (h : l.Pairwise (· < ·)) (hj : j ∉ l) : (srt (l ++ [j])).Pairwise (· < ·) := by
  refine lt_of_le_nodup (srt_le _) ?_
  rw [(srt_perm _).nodup_iff, List.nodup_append]
  refine ⟨nodup_of_lt h, List.nodup_cons.mpr ⟨by simp, List.nodup_nil⟩, ?_⟩
  intro a ha b hb e
  rw [List.mem_singleton] at hb
  subst hb; subst e
  exact hj ha
theorem filter_ne_length : ∀ {l : List Nat} {j : Nat}, l.Nodup → j ∈ l → (l.filter fun x => decide (x ≠ j)).length + 1 = l.length
  | [], _, _, h => nomatch h
  | a :: l, j, hn, h => by
    obtain ⟨h1, h2⟩ := List.nodup_cons.mp hn
    by_cases e : a = j
    · subst e
      have : (l.filter fun x => decide (x ≠ a)) = l := List.filter_eq_self.mpr fun x hx => by
        have : x ≠ a := fun q => h1 (q ▸ hx)
        simpa using this
      rw [List.filter_cons_of_neg (by simp), this, List.length_cons]
    · have hj : j ∈ l := by
        rcases List.mem_cons.mp h with q | q
        · exact absurd q.symm e
        · exact q
      rw [List.filter_cons_of_pos (by simpa using e), List.length_cons, List.length_cons, filter_ne_length h2 hj]

theorem mem_moves {nd : List (List Nat)} {slots : Nat} {s : St} {p : Mv × St} : p ∈ moves nd slots s ↔
    (∃ j, j ∈ s.2 ∧ endable nd s j = true ∧ p = endTo s j) ∨ (∃ j, j < nd.length ∧ startable slots s j = true ∧ p = startTo s j) := by
  unfold moves
  rw [List.mem_append, List.mem_map, List.mem_map]
  constructor
  · rintro (⟨j, hj, rfl⟩ | ⟨j, hj, rfl⟩)
    · obtain ⟨h1, h2⟩ := List.mem_filter.mp hj
      exact .inl ⟨j, h1, h2, rfl⟩
    · obtain ⟨h1, h2⟩ := List.mem_filter.mp hj
      exact .inr ⟨j, List.mem_range.mp h1, h2, rfl⟩
  · rintro (⟨j, h1, h2, rfl⟩ | ⟨j, h1, h2, rfl⟩)
    · exact .inl ⟨j, List.mem_filter.mpr ⟨h1, h2⟩, rfl⟩
    · exact .inr ⟨j, List.mem_filter.mpr ⟨List.mem_range.mpr h1, h2⟩, rfl⟩

theorem moves_ok {nd : List (List Nat)} {slots : Nat} {s : St} {p : Mv × St} (ok : Ok nd.length s) (h : p ∈ moves nd slots s) : Ok nd.length p.2 ∧ wt p.2 = wt s + 1 := by
  rcases mem_moves.mp h with ⟨j, hj, _, rfl⟩ | ⟨j, hj, hs, rfl⟩
  · have hjd : j ∉ s.1 := fun q => ok.dj j q hj
    refine ⟨⟨srt_add ok.d hjd, ok.h.filter _, fun x hx => ?_, fun x hx => ok.hn x (List.mem_filter.mp hx).1, fun x hx hx2 => ?_⟩, ?_⟩
    · rcases List.mem_append.mp (srt_mem.mp hx) with q | q
      · exact ok.dn x q
      · rw [List.mem_singleton.mp q]; exact ok.hn j hj
    · obtain ⟨h1, h2⟩ := List.mem_filter.mp hx2
      rcases List.mem_append.mp (srt_mem.mp hx) with q | q
      · exact ok.dj x q h1
      · simp at h2
        exact h2 (List.mem_singleton.mp q)
    · have := filter_ne_length (nodup_of_lt ok.h) hj
      show 2 * (srt (s.1 ++ [j])).length + (s.2.filter fun x => decide (x ≠ j)).length = _
      rw [srt_length, List.length_append, List.length_singleton]
      unfold wt
      omega
  · unfold startable at hs
    simp only [Bool.and_eq_true, decide_eq_true_eq] at hs
    obtain ⟨⟨h1, h2⟩, h3⟩ := hs
    refine ⟨⟨ok.d, srt_add ok.h h3, ok.dn, fun x hx => ?_, fun x hx hx2 => ?_⟩, ?_⟩
    · rcases List.mem_append.mp (srt_mem.mp hx) with q | q
      · exact ok.hn x q
      · rw [List.mem_singleton.mp q]; exact hj
    · rcases List.mem_append.mp (srt_mem.mp hx2) with q | q
      · exact ok.dj x hx q
      · rw [List.mem_singleton.mp q] at hx; exact h2 hx
    · show 2 * s.1.length + (srt (s.2 ++ [j])).length = _
      rw [srt_length, List.length_append, List.length_singleton]
      unfold wt
      omega

/-! ### the orders of moves and rows, as tuples are compared -/
def mlt (a b : Mv) : Bool := if a.1 = b.1 then decide (a.2 < b.2) else b.1
def rlt : Row → Row → Bool
  | [], [] => false
  | [], _ :: _ => true
  | _ :: _, [] => false
  | a :: r, b :: q => if a = b then rlt r q else mlt a b
theorem mlt_irrefl (a : Mv) : mlt a a = false := by unfold mlt; simp
theorem mlt_trans {a b c : Mv} (h1 : mlt a b = true) (h2 : mlt b c = true) : mlt a c = true := by
  obtain ⟨a1, a2⟩ := a
  obtain ⟨b1, b2⟩ := b
  obtain ⟨c1, c2⟩ := c
  unfold mlt at *
  cases a1 <;> cases b1 <;> cases c1 <;> simp at * <;> omega
theorem mlt_ne {a b : Mv} (h : mlt a b = true) : a ≠ b := fun e => by
  subst e; rw [mlt_irrefl] at h; cases h
theorem rlt_irrefl : ∀ r : Row, rlt r r = false
  | [] => rfl
  | a :: r => by unfold rlt; rw [if_pos rfl]; exact rlt_irrefl r
theorem rlt_trans : ∀ {a b c : Row}, rlt a b = true → rlt b c = true → rlt a c = true
  | [], [], _, h, _ => by simp [rlt] at h
  | [], _ :: _, [], _, h => by simp [rlt] at h
  | [], _ :: _, _ :: _, _, _ => rfl
  | _ :: _, [], _, h, _ => by simp [rlt] at h
  | _ :: _, _ :: _, [], _, h => by simp [rlt] at h
  | x :: a, y :: b, z :: c, h1, h2 => by
    unfold rlt at h1 h2 ⊢
    by_cases e1 : x = y
    · subst e1
      rw [if_pos rfl] at h1
      by_cases e2 : x = z
      · subst e2
        rw [if_pos rfl] at h2 ⊢
        exact rlt_trans h1 h2
      · rw [if_neg e2] at h2 ⊢
        exact h2
    · rw [if_neg e1] at h1
      by_cases e2 : y = z
      · subst e2
        rw [if_neg e1]
        exact h1
      · rw [if_neg e2] at h2
        have h3 := mlt_trans h1 h2
        rw [if_neg (mlt_ne h3)]
        exact h3
theorem rlt_pre : ∀ (p a b : Row), rlt (p ++ a) (p ++ b) = rlt a b
  | [], _, _ => rfl
  | x :: p, a, b => by
    show rlt (x :: (p ++ a)) (x :: (p ++ b)) = _
    rw [rlt, if_pos rfl, rlt_pre p a b]
theorem rlt_app : ∀ {a b : Row} (x y : Row), a.length = b.length → rlt a b = true → rlt (a ++ x) (b ++ y) = true
  | [], [], _, _, _, h => by simp [rlt] at h
  | [], _ :: _, _, _, h, _ => by simp at h
  | _ :: _, [], _, _, h, _ => by simp at h
  | p :: a, q :: b, x, y, hl, h => by
    show rlt (p :: (a ++ x)) (q :: (b ++ y)) = true
    unfold rlt at h ⊢
    by_cases e : p = q
    · rw [if_pos e] at h ⊢
      exact rlt_app x y (by simpa using hl) h
    · rw [if_neg e] at h ⊢
      exact h

theorem pairwise_range_lt (n : Nat) : (List.range n).Pairwise (· < ·) := List.pairwise_lt_range
theorem moves_asc {nd : List (List Nat)} {slots : Nat} {s : St} (ok : Ok nd.length s) : (moves nd slots s).Pairwise fun p q => mlt p.1 q.1 = true := by
  unfold moves
  rw [List.pairwise_append]
  refine ⟨?_, ?_, ?_⟩
  · rw [List.pairwise_map]
    refine (ok.h.filter _).imp fun {a b} h => ?_
    show mlt (false, a) (false, b) = true
    unfold mlt
    simpa using h
  · rw [List.pairwise_map]
    refine ((pairwise_range_lt _).filter _).imp fun {a b} h => ?_
    show mlt (true, a) (true, b) = true
    unfold mlt
    simpa using h
  · intro p hp q hq
    obtain ⟨a, _, rfl⟩ := List.mem_map.mp hp
    obtain ⟨b, _, rfl⟩ := List.mem_map.mp hq
    rfl
theorem moves_inj {nd : List (List Nat)} {slots : Nat} {s : St} (ok : Ok nd.length s) {p q : Mv × St} (hp : p ∈ moves nd slots s) (hq : q ∈ moves nd slots s) (e : p.1 = q.1) : p = q := by
  rcases mem_moves.mp hp with ⟨j, _, _, rfl⟩ | ⟨j, _, _, rfl⟩ <;> rcases mem_moves.mp hq with ⟨k, _, _, rfl⟩ | ⟨k, _, _, rfl⟩
  · have : j = k := congrArg Prod.snd e
    rw [this]
  · have : false = true := congrArg Prod.fst e
    cases this
  · have : true = false := congrArg Prod.fst e
    cases this
  · have : j = k := congrArg Prod.snd e
    rw [this]
theorem moves_length (nd : List (List Nat)) (slots : Nat) {s : St} (ok : Ok nd.length s) : (moves nd slots s).length ≤ 2 * nd.length := by
  unfold moves
  rw [List.length_append, List.length_map, List.length_map]
  have h1 := List.length_filter_le (endable nd s) s.2
  have h2 := List.length_filter_le (startable slots s) (List.range nd.length)
  rw [List.length_range] at h2
  have h3 : s.2.length ≤ (List.range nd.length).length := List.Nodup.length_le_of_subset (nodup_of_lt ok.h) fun x hx => List.mem_range.mpr (ok.hn x hx)
  rw [List.length_range] at h3
  omega

/-! ### walking a row -/
def step (nd : List (List Nat)) (slots : Nat) (s : St) (m : Mv) : Option St := ((moves nd slots s).find? fun p => decide (p.1 = m)).map Prod.snd
def walk (nd : List (List Nat)) (slots : Nat) : St → Row → Option St
  | s, [] => some s
  | s, m :: r => (step nd slots s m).bind fun t => walk nd slots t r
theorem walk_app (nd : List (List Nat)) (slots : Nat) : ∀ (r q : Row) (s : St), walk nd slots s (r ++ q) = (walk nd slots s r).bind fun t => walk nd slots t q
  | [], _, _ => rfl
  | m :: r, q, s => by
    show (step nd slots s m).bind (fun t => walk nd slots t (r ++ q)) = ((step nd slots s m).bind fun t => walk nd slots t r).bind _
    cases step nd slots s m with
    | none => rfl
    | some t => exact walk_app nd slots r q t
theorem step_mem {nd : List (List Nat)} {slots : Nat} {s t : St} {m : Mv} (h : step nd slots s m = some t) : (m, t) ∈ moves nd slots s := by
  unfold step at h
  obtain ⟨p, hp, rfl⟩ := Option.map_eq_some_iff.mp h
  have h1 := List.find?_some hp
  have h2 := List.mem_of_find?_eq_some hp
  simp only [decide_eq_true_eq] at h1
  rw [← h1]
  exact h2
theorem step_of {nd : List (List Nat)} {slots : Nat} {s t : St} {m : Mv} (ok : Ok nd.length s) (h : (m, t) ∈ moves nd slots s) : step nd slots s m = some t := by
  unfold step
  cases e : (moves nd slots s).find? fun p => decide (p.1 = m) with
  | none =>
    have := List.find?_eq_none.mp e _ h
    simp at this
  | some p =>
    have h1 := List.find?_some e
    have h2 := List.mem_of_find?_eq_some e
    simp only [decide_eq_true_eq] at h1
    have := moves_inj ok h2 h h1
    rw [this]
    rfl
theorem walk_ok {nd : List (List Nat)} {slots : Nat} : ∀ {r : Row} {s t : St}, Ok nd.length s → walk nd slots s r = some t → Ok nd.length t ∧ wt t = wt s + r.length
  | [], s, t, ok, h => by
    have : s = t := Option.some.inj h
    subst this
    exact ⟨ok, rfl⟩
  | m :: r, s, t, ok, h => by
    obtain ⟨u, h1, h2⟩ := Option.bind_eq_some_iff.mp (show (step nd slots s m).bind (fun t => walk nd slots t r) = some t from h)
    obtain ⟨o1, o2⟩ := moves_ok ok (step_mem h1)
    obtain ⟨o3, o4⟩ := walk_ok o1 h2
    refine ⟨o3, ?_⟩
    rw [o4, List.length_cons]
    have : wt u = wt s + 1 := o2
    omega

/-! ### layers -/
abbrev Ent := St × Row
def cand (nd : List (List Nat)) (slots : Nat) (c : Ent) : List Ent := (moves nd slots c.1).map fun p => (p.2, c.2 ++ [p.1])
def put1 (acc : List Ent) (c : Ent) : List Ent := if c.1 ∈ acc.map Prod.fst then acc else acc ++ [c]
def firsts (l : List Ent) : List Ent := l.foldl put1 []
theorem firsts_nil : firsts [] = [] := rfl
theorem firsts_snoc (l : List Ent) (c : Ent) : firsts (l ++ [c]) = put1 (firsts l) c := by
  unfold firsts
  rw [List.foldl_append]
  rfl
theorem snoc_ind {α : Type} {P : List α → Prop} (h0 : P []) (hs : ∀ l a, P l → P (l ++ [a])) (l : List α) : P l := by
  have : ∀ (n : Nat) (l : List α), l.length = n → P l := by
    intro n
    induction n with
    | zero => intro l h; rw [List.length_eq_zero_iff.mp h]; exact h0
    | succ n ih =>
      intro l h
      have hne : l ≠ [] := fun e => by rw [e] at h; cases h
      rw [← List.dropLast_concat_getLast hne]
      refine hs _ _ (ih _ ?_)
      rw [List.length_dropLast, h]
      rfl
  exact this _ l rfl
theorem firsts_sub (l : List Ent) : (firsts l).Sublist l := by
  refine snoc_ind (P := fun l => (firsts l).Sublist l) (List.Sublist.refl _) (fun l a ih => ?_) l
  rw [firsts_snoc]
  unfold put1
  split
  · exact ih.trans (List.sublist_append_left _ _)
  · exact List.Sublist.append ih (List.Sublist.refl _)
theorem firsts_nodup (l : List Ent) : ((firsts l).map Prod.fst).Nodup := by
  refine snoc_ind (P := fun l => ((firsts l).map Prod.fst).Nodup) List.nodup_nil (fun l a ih => ?_) l
  rw [firsts_snoc]
  unfold put1
  split
  · exact ih
  · rename_i h
    rw [List.map_append, List.nodup_append]
    refine ⟨ih, by simp, ?_⟩
    intro x hx y hy e
    simp only [List.map_cons, List.map_nil, List.mem_singleton] at hy
    subst hy; subst e
    exact h hx
theorem firsts_key (l : List Ent) (s : St) : s ∈ (firsts l).map Prod.fst ↔ s ∈ l.map Prod.fst := by
  refine snoc_ind (P := fun l => s ∈ (firsts l).map Prod.fst ↔ s ∈ l.map Prod.fst) Iff.rfl (fun l a ih => ?_) l
  rw [firsts_snoc, List.map_append, List.mem_append, ← ih]
  unfold put1
  split
  · rename_i h
    constructor
    · exact .inl
    · rintro (q | q)
      · exact q
      · simp only [List.map_cons, List.map_nil, List.mem_singleton] at q
        rw [q]; exact h
  · rw [List.map_append, List.mem_append]
theorem firsts_least (l : List Ent) : (l.Pairwise fun a b => rlt a.2 b.2 = true) → ∀ c ∈ l, ∃ e ∈ firsts l, e.1 = c.1 ∧ (e.2 = c.2 ∨ rlt e.2 c.2 = true) := by
  refine snoc_ind (P := fun l => (l.Pairwise fun a b => rlt a.2 b.2 = true) → ∀ c ∈ l, ∃ e ∈ firsts l, e.1 = c.1 ∧ (e.2 = c.2 ∨ rlt e.2 c.2 = true)) (fun _ c h => (by simp at h)) (fun l a ih hp c hc => ?_) l
  obtain ⟨hp1, _, hp2⟩ := List.pairwise_append.mp hp
  rw [firsts_snoc]
  unfold put1
  rcases List.mem_append.mp hc with hc | hc
  · obtain ⟨e, he, q⟩ := ih hp1 c hc
    refine ⟨e, ?_, q⟩
    split
    · exact he
    · exact List.mem_append_left _ he
  · rw [List.mem_singleton] at hc
    subst hc
    split
    · rename_i h
      obtain ⟨e, he, q⟩ := List.mem_map.mp h
      exact ⟨e, he, q, .inr (hp2 e ((firsts_sub l).subset he) _ (List.mem_singleton.mpr rfl))⟩
    · exact ⟨_, List.mem_append_right _ (List.mem_singleton.mpr rfl), rfl, .inl rfl⟩

def ent0 : Ent := (([], []), [])
def lay (nd : List (List Nat)) (slots : Nat) : Nat → List Ent
  | 0 => [ent0]
  | k + 1 => firsts ((lay nd slots k).flatMap (cand nd slots))

structure EntOk (nd : List (List Nat)) (slots k : Nat) (c : Ent) : Prop where
  ok : Ok nd.length c.1
  w : wt c.1 = k
  len : c.2.length = k
  walk : walk nd slots ([], []) c.2 = some c.1
theorem cand_ok {nd : List (List Nat)} {slots k : Nat} {c e : Ent} (h : EntOk nd slots k c) (he : e ∈ cand nd slots c) : EntOk nd slots (k + 1) e := by
  obtain ⟨p, hp, rfl⟩ := List.mem_map.mp he
  obtain ⟨o1, o2⟩ := moves_ok h.ok hp
  refine ⟨o1, by show wt p.2 = _; rw [o2, h.w], by show (c.2 ++ [p.1]).length = _; rw [List.length_append, h.len]; rfl, ?_⟩
  show K61.walk nd slots ([], []) (c.2 ++ [p.1]) = some p.2
  rw [walk_app, h.walk]
  show (step nd slots c.1 p.1).bind (fun t => some t) = some p.2
  rw [step_of h.ok (show (p.1, p.2) ∈ _ from hp)]
  rfl
theorem lay_ok (nd : List (List Nat)) (slots : Nat) : ∀ (k : Nat), ∀ c ∈ lay nd slots k, EntOk nd slots k c
  | 0, c, h => by
    have : c = ent0 := List.mem_singleton.mp h
    subst this
    exact ⟨ok0 _, rfl, rfl, rfl⟩
  | k + 1, c, h => by
    have h1 := (firsts_sub _).subset h
    obtain ⟨e, he, q⟩ := List.mem_flatMap.mp h1
    exact cand_ok (lay_ok nd slots k e he) q
theorem cands_asc {nd : List (List Nat)} {slots k : Nat} {l : List Ent} (h1 : ∀ c ∈ l, EntOk nd slots k c) (h2 : l.Pairwise fun a b => rlt a.2 b.2 = true) : (l.flatMap (cand nd slots)).Pairwise fun a b => rlt a.2 b.2 = true := by
  rw [List.pairwise_flatMap]
  refine ⟨fun c hc => ?_, ?_⟩
  · unfold cand
    rw [List.pairwise_map]
    refine (moves_asc (slots := slots) (h1 c hc).ok).imp fun {p q} h => ?_
    show rlt (c.2 ++ [p.1]) (c.2 ++ [q.1]) = true
    rw [rlt_pre, rlt, if_neg (mlt_ne h)]
    exact h
  · refine List.Pairwise.imp_of_mem (fun {a b} ha hb h x hx y hy => ?_) h2
    obtain ⟨p, _, rfl⟩ := List.mem_map.mp hx
    obtain ⟨q, _, rfl⟩ := List.mem_map.mp hy
    exact rlt_app _ _ (by rw [(h1 a ha).len, (h1 b hb).len]) h
theorem lay_asc (nd : List (List Nat)) (slots : Nat) : ∀ k, (lay nd slots k).Pairwise fun a b => rlt a.2 b.2 = true
  | 0 => List.pairwise_singleton _ _
  | k + 1 => (cands_asc (lay_ok nd slots k) (lay_asc nd slots k)).sublist (firsts_sub _)
theorem lay_nodup (nd : List (List Nat)) (slots : Nat) : ∀ k, ((lay nd slots k).map Prod.fst).Nodup
  | 0 => by simp [lay]
  | k + 1 => firsts_nodup _
theorem lay_least (nd : List (List Nat)) (slots : Nat) : ∀ (k : Nat) (r : Row) (s : St), r.length = k → walk nd slots ([], []) r = some s → ∃ c ∈ lay nd slots k, c.1 = s ∧ (c.2 = r ∨ rlt c.2 r = true)
  | 0, r, s, hl, hw => by
    have : r = [] := List.length_eq_zero_iff.mp hl
    subst this
    exact ⟨ent0, List.mem_singleton.mpr rfl, Option.some.inj hw, .inl rfl⟩
  | k + 1, r, s, hl, hw => by
    have hne : r ≠ [] := fun e => by rw [e] at hl; cases hl
    obtain ⟨q, m, rfl⟩ : ∃ q m, r = q ++ [m] := ⟨r.dropLast, r.getLast hne, (List.dropLast_concat_getLast hne).symm⟩
    rw [walk_app] at hw
    obtain ⟨t, h1, h2⟩ := Option.bind_eq_some_iff.mp hw
    have hq : q.length = k := by
      rw [List.length_append, List.length_singleton] at hl
      omega
    obtain ⟨u, h3, h4⟩ := Option.bind_eq_some_iff.mp (show (step nd slots t m).bind (fun t => some t) = some s from h2)
    have : u = s := Option.some.inj h4
    subst this
    obtain ⟨c, hc, e1, e2⟩ := lay_least nd slots k q t hq h1
    have hcand : (u, c.2 ++ [m]) ∈ (lay nd slots k).flatMap (cand nd slots) := by
      refine List.mem_flatMap.mpr ⟨c, hc, List.mem_map.mpr ⟨(m, u), ?_, rfl⟩⟩
      rw [e1]
      exact step_mem h3
    obtain ⟨e, he, f1, f2⟩ := firsts_least _ (cands_asc (lay_ok nd slots k) (lay_asc nd slots k)) _ hcand
    refine ⟨e, he, f1, ?_⟩
    have f2 : e.2 = c.2 ++ [m] ∨ rlt e.2 (c.2 ++ [m]) = true := f2
    rcases e2 with e2 | e2
    · rw [e2] at f2; exact f2
    · have h5 : rlt (c.2 ++ [m]) (q ++ [m]) = true := rlt_app _ _ (by rw [(lay_ok nd slots k c hc).len, hq]) e2
      rcases f2 with f2 | f2
      · rw [f2]; exact .inr h5
      · exact .inr (rlt_trans f2 h5)

/-! ### bounds -/
theorem ok_counts {n : Nat} {s : St} (ok : Ok n s) : s.1.length + s.2.length ≤ n := by
  have h : (s.1 ++ s.2).length ≤ (List.range n).length := by
    refine List.Nodup.length_le_of_subset ?_ fun x hx => ?_
    · rw [List.nodup_append]
      refine ⟨nodup_of_lt ok.d, nodup_of_lt ok.h, fun a ha b hb e => ?_⟩
      subst e
      exact ok.dj a ha hb
    · rcases List.mem_append.mp hx with q | q
      · exact List.mem_range.mpr (ok.dn x q)
      · exact List.mem_range.mpr (ok.hn x q)
  rw [List.length_append, List.length_range] at h
  exact h
theorem ok_wt {n : Nat} {s : St} (ok : Ok n s) : wt s ≤ 2 * n := by
  have := ok_counts ok
  unfold wt
  omega
theorem lay_end {nd : List (List Nat)} {slots k : Nat} (h : 2 * nd.length < k) : lay nd slots k = [] := by
  refine List.eq_nil_iff_forall_not_mem.mpr fun c hc => ?_
  have := lay_ok nd slots k c hc
  have h2 := ok_wt this.ok
  rw [this.w] at h2
  omega
theorem lay_stop {nd : List (List Nat)} {slots k : Nat} (h : lay nd slots k = []) : ∀ j, k ≤ j → lay nd slots j = [] := by
  intro j hj
  induction j with
  | zero =>
    have : k = 0 := by omega
    subst this
    exact h
  | succ j ih =>
    by_cases e : k = j + 1
    · subst e; exact h
    · show firsts ((lay nd slots j).flatMap (cand nd slots)) = []
      rw [ih (by omega)]
      rfl
/-- the layers below k, one behind another -/
def below (nd : List (List Nat)) (slots k : Nat) : List Ent := (List.range k).flatMap (lay nd slots)
theorem below_succ (nd : List (List Nat)) (slots k : Nat) : below nd slots (k + 1) = below nd slots k ++ lay nd slots k := by
  unfold below
  rw [List.range_succ, List.flatMap_append]
  simp
theorem mem_below {nd : List (List Nat)} {slots k : Nat} {c : Ent} : c ∈ below nd slots k ↔ ∃ i, i < k ∧ c ∈ lay nd slots i := by
  unfold below
  rw [List.mem_flatMap]
  constructor
  · rintro ⟨i, h1, h2⟩; exact ⟨i, List.mem_range.mp h1, h2⟩
  · rintro ⟨i, h1, h2⟩; exact ⟨i, List.mem_range.mpr h1, h2⟩
/-- all states that can be come to -/
def all (nd : List (List Nat)) (slots : Nat) : List Ent := below nd slots (2 * nd.length + 1)
theorem below_all {nd : List (List Nat)} {slots k : Nat} (h : lay nd slots k = []) (hk : k ≤ 2 * nd.length + 1) : below nd slots k = all nd slots := by
  unfold all
  have : ∀ j, below nd slots (k + j) = below nd slots k := by
    intro j
    induction j with
    | zero => rfl
    | succ j ih =>
      rw [← Nat.add_assoc, below_succ, ih, lay_stop h (k + j) (by omega), List.append_nil]
  have e : 2 * nd.length + 1 = k + (2 * nd.length + 1 - k) := by omega
  rw [e, this]
theorem mem_all {nd : List (List Nat)} {slots : Nat} {c : Ent} : c ∈ all nd slots ↔ ∃ i, c ∈ lay nd slots i := by
  unfold all
  rw [mem_below]
  constructor
  · rintro ⟨i, _, h⟩; exact ⟨i, h⟩
  · rintro ⟨i, h⟩
    refine ⟨i, ?_, h⟩
    by_cases hi : i < 2 * nd.length + 1
    · exact hi
    · rw [lay_end (by omega)] at h
      cases h
theorem below_nodup (nd : List (List Nat)) (slots : Nat) : ∀ k, ((below nd slots k).map Prod.fst).Nodup
  | 0 => List.nodup_nil
  | k + 1 => by
    rw [below_succ, List.map_append, List.nodup_append]
    refine ⟨below_nodup nd slots k, lay_nodup nd slots k, fun a ha b hb e => ?_⟩
    subst e
    obtain ⟨c, hc, e1⟩ := List.mem_map.mp ha
    obtain ⟨d, hd, e2⟩ := List.mem_map.mp hb
    obtain ⟨i, hi, hc⟩ := mem_below.mp hc
    have h1 := (lay_ok nd slots i c hc).w
    have h2 := (lay_ok nd slots k d hd).w
    rw [e1] at h1
    rw [e2] at h2
    omega

/-! ### counting states -/
def mask : List Nat → Nat
  | [] => 0
  | j :: l => 2 ^ j ||| mask l
theorem mask_bit : ∀ (l : List Nat) (i : Nat), (mask l).testBit i = decide (i ∈ l)
  | [], i => by simp [mask]
  | j :: l, i => by
    rw [mask, Nat.testBit_or, mask_bit l i, Nat.testBit_two_pow]
    by_cases h : j = i
    · subst h; simp
    · have h' : ¬ i = j := fun e => h e.symm
      simp [h, h']
theorem mask_lt {n : Nat} {l : List Nat} (h : ∀ j ∈ l, j < n) : mask l < 2 ^ n :=
  Nat.lt_pow_two_of_testBit _ fun i hi => by
    rw [mask_bit]
    exact decide_eq_false fun q => absurd (h i q) (by omega)
theorem mask_inj {l m : List Nat} (hl : l.Pairwise (· < ·)) (hm : m.Pairwise (· < ·)) (e : mask l = mask m) : l = m := by
  refine List.Perm.eq_of_pairwise (le := (· < ·)) (fun a b _ _ h1 h2 => absurd h1 (Nat.lt_asymm h2)) hl hm ((List.perm_ext_iff_of_nodup (nodup_of_lt hl) (nodup_of_lt hm)).mpr fun a => ?_)
  have h1 := mask_bit l a
  have h2 := mask_bit m a
  rw [e, h2] at h1
  exact (decide_eq_decide.mp h1).symm
def code (s : St) : Nat := mask s.1 * 256 + mask s.2
theorem code_lt {n : Nat} {s : St} (ok : Ok n s) (hn : n ≤ 8) : code s < 65536 := by
  have h1 := mask_lt (n := 8) fun j hj => Nat.lt_of_lt_of_le (ok.dn j hj) hn
  have h2 := mask_lt (n := 8) fun j hj => Nat.lt_of_lt_of_le (ok.hn j hj) hn
  unfold code
  omega
theorem code_inj {n : Nat} {s t : St} (os : Ok n s) (ot : Ok n t) (hn : n ≤ 8) (e : code s = code t) : s = t := by
  have h2 := mask_lt (n := 8) fun j hj => Nat.lt_of_lt_of_le (os.hn j hj) hn
  have h4 := mask_lt (n := 8) fun j hj => Nat.lt_of_lt_of_le (ot.hn j hj) hn
  unfold code at e
  have e1 : mask s.1 = mask t.1 := by omega
  have e2 : mask s.2 = mask t.2 := by omega
  exact Prod.ext (mask_inj os.d ot.d e1) (mask_inj os.h ot.h e2)
theorem states_few {n : Nat} (hn : n ≤ 8) {l : List St} (hl : l.Nodup) (ho : ∀ s ∈ l, Ok n s) : l.length ≤ 65536 := by
  have h : (l.map code).length ≤ (List.range 65536).length := by
    refine List.Nodup.length_le_of_subset ?_ fun x hx => ?_
    · refine List.pairwise_map.mpr (List.Pairwise.imp_of_mem (fun {a b} ha hb hab e => ?_) hl)
      exact hab (code_inj (ho a ha) (ho b hb) hn e)
    · obtain ⟨s, hs, rfl⟩ := List.mem_map.mp hx
      exact List.mem_range.mpr (code_lt (ho s hs) hn)
  rw [List.length_map, List.length_range] at h
  exact h
theorem ents_few {nd : List (List Nat)} {slots : Nat} (hn : nd.length ≤ 8) {l : List Ent} (hl : (l.map Prod.fst).Nodup) (ho : ∀ c ∈ l, ∃ k, EntOk nd slots k c) : l.length ≤ 65536 := by
  have := states_few hn hl fun s hs => by
    obtain ⟨c, hc, rfl⟩ := List.mem_map.mp hs
    obtain ⟨k, h⟩ := ho c hc
    exact h.ok
  rw [List.length_map] at this
  exact this
theorem below_ok {nd : List (List Nat)} {slots k : Nat} : ∀ c ∈ below nd slots k, ∃ i, i < k ∧ EntOk nd slots i c := fun c hc => by
  obtain ⟨i, hi, h⟩ := mem_below.mp hc
  exact ⟨i, hi, lay_ok nd slots i c h⟩
theorem all_ok {nd : List (List Nat)} {slots : Nat} {c : Ent} (hc : c ∈ all nd slots) : ∃ k, EntOk nd slots k c ∧ c ∈ lay nd slots k := by
  obtain ⟨i, h⟩ := mem_all.mp hc
  exact ⟨i, lay_ok nd slots i c h, h⟩
theorem all_few {nd : List (List Nat)} (slots : Nat) (hn : nd.length ≤ 8) : (all nd slots).length ≤ 65536 :=
  ents_few hn (below_nodup nd slots _) fun c hc => let ⟨k, h, _⟩ := all_ok hc; ⟨k, h⟩

/-! ### stuck states -/
def stuckp (nd : List (List Nat)) (slots : Nat) (s : St) : Bool := !decide (s.1.length = nd.length) && (moves nd slots s).isEmpty
def stuck (nd : List (List Nat)) (slots : Nat) : List Ent := (all nd slots).filter fun c => stuckp nd slots c.1
theorem stuck_least {nd : List (List Nat)} {slots : Nat} {r : Row} {s : St} (hw : walk nd slots ([], []) r = some s) (hs : stuckp nd slots s = true) : ∃ c ∈ stuck nd slots, c.1 = s ∧ c.2.length = r.length ∧ (c.2 = r ∨ rlt c.2 r = true) := by
  obtain ⟨c, hc, e1, e2⟩ := lay_least nd slots r.length r s rfl hw
  refine ⟨c, List.mem_filter.mpr ⟨mem_all.mpr ⟨_, hc⟩, by rw [e1]; exact hs⟩, e1, (lay_ok _ _ _ c hc).len, e2⟩

/-- as many slots as jobs never get stuck -/
theorem never_full {nd : List (List Nat)} (hnd : ∀ j, j < nd.length → ∀ x ∈ nd.getD j [], x < j) {s : St} (ok : Ok nd.length s) (h : ¬ s.1.length = nd.length) : moves nd nd.length s ≠ [] := by
  have hex : ∃ j, j < nd.length ∧ j ∉ s.1 := by
    apply Classical.byContradiction
    intro hno
    have hsub : (List.range nd.length).length ≤ s.1.length := by
      refine List.Nodup.length_le_of_subset List.nodup_range fun x hx => ?_
      apply Classical.byContradiction
      intro hx2
      exact hno ⟨x, List.mem_range.mp hx, hx2⟩
    rw [List.length_range] at hsub
    have := ok_counts ok
    omega
  obtain ⟨j, hj, hl⟩ : ∃ j, (j < nd.length ∧ j ∉ s.1) ∧ ∀ i, i < j → ¬ (i < nd.length ∧ i ∉ s.1) := by
    obtain ⟨j0, h0⟩ := hex
    have key : ∀ m, ∀ i, i < m → (i < nd.length ∧ i ∉ s.1) → ∃ j, (j < nd.length ∧ j ∉ s.1) ∧ ∀ i, i < j → ¬ (i < nd.length ∧ i ∉ s.1) := by
      intro m
      induction m with
      | zero => intro i hi; omega
      | succ m ih =>
        intro i hi hp
        by_cases hh : ∃ i', i' < i ∧ (i' < nd.length ∧ i' ∉ s.1)
        · obtain ⟨i', a, b⟩ := hh
          exact ih i' (by omega) b
        · exact ⟨i, hp, fun i' a b => hh ⟨i', a, b⟩⟩
    exact key (j0 + 1) j0 (by omega) h0
  have hall : endable nd s j = true := by
    unfold endable
    rw [List.all_eq_true]
    intro x hx
    have hxj := hnd j hj.1 x hx
    have := hl x hxj
    apply decide_eq_true
    apply Classical.byContradiction
    intro q
    exact this ⟨by omega, q⟩
  by_cases hh : j ∈ s.2
  · intro e
    have : endTo s j ∈ moves nd nd.length s := mem_moves.mpr (.inl ⟨j, hh, hall, rfl⟩)
    rw [e] at this
    cases this
  · have hlen : s.2.length < nd.length := by
      have h2 : (j :: s.2).length ≤ (List.range nd.length).length := by
        refine List.Nodup.length_le_of_subset (List.nodup_cons.mpr ⟨hh, nodup_of_lt ok.h⟩) fun x hx => ?_
        rcases List.mem_cons.mp hx with q | q
        · rw [q]; exact List.mem_range.mpr hj.1
        · exact List.mem_range.mpr (ok.hn x q)
      rw [List.length_cons, List.length_range] at h2
      omega
    intro e
    have : startTo s j ∈ moves nd nd.length s := mem_moves.mpr (.inr ⟨j, hj.1, by unfold startable; simp [hlen, hj.2, hh], rfl⟩)
    rw [e] at this
    cases this
theorem stuck_full {nd : List (List Nat)} (hnd : ∀ j, j < nd.length → ∀ x ∈ nd.getD j [], x < j) : stuck nd nd.length = [] := by
  unfold stuck
  rw [List.filter_eq_nil_iff]
  intro c hc
  obtain ⟨k, h, _⟩ := all_ok hc
  unfold stuckp
  by_cases e : c.1.1.length = nd.length
  · simp [e]
  · have := never_full hnd h.ok e
    cases q : moves nd nd.length c.1 with
    | nil => exact absurd q this
    | cons a b => simp
end K61

/-! Rules that the layer lacks: data made of tuples, dicts keyed by states, sorted of a tuple, order of data, min of data, enumerate of a tuple. -/
namespace K61
open PySem PySem.Spec PyProof.Rows L2

/-! ### data made of tuples -/
mutual
inductive Td (H : Hp) : V → PyData → Prop
  | non : Td H .non .none
  | bl (b : Bool) : Td H (.bl b) (.bool b)
  | int (i : Int) : Td H (.int i) (.int i)
  | str (x : Str) : Td H (.str x) (.str x)
  | tup {a : Addr} {vs : List V} {ds : List PyData} : H a = some (.tup vs) → TdAll H vs ds → Td H (.ref a) (.tuple ds)
inductive TdAll (H : Hp) : List V → List PyData → Prop
  | nil : TdAll H [] []
  | cons {v : V} {vs : List V} {d : PyData} {ds : List PyData} : Td H v d → TdAll H vs ds → TdAll H (v :: vs) (d :: ds)
end
/-- the tuples stay -/
def Kt (H H' : Hp) : Prop := ∀ a vs, H a = some (.tup vs) → H' a = some (.tup vs)
theorem Kt.refl (H : Hp) : Kt H H := fun _ _ e => e
theorem Kt.trans {H H1 H2 : Hp} (a : Kt H H1) (b : Kt H1 H2) : Kt H H2 := fun c vs e => b c vs (a c vs e)
theorem Kt.of {H H' : Hp} (s : Same H H') : Kt H H' := fun _ _ e => s _ _ e
theorem Kt.put {H : Hp} {p : Addr} {o : HO} (h : ∀ vs, H p ≠ some (.tup vs)) : Kt H (upd H p o) := fun a vs e => by
  rw [upd_ne (fun q => h vs (by rw [← q]; exact e))]
  exact e
theorem Kt.new {H : Hp} {p : Addr} {o : HO} (h : H p = none) : Kt H (upd H p o) := Kt.put fun vs e => by rw [h] at e; cases e
mutual
theorem Td.keep {H H' : Hp} (k : Kt H H') : ∀ (d : PyData) (v : V), Td H v d → Td H' v d
  | .none, _, h => by cases h; exact .non
  | .bool b, _, h => by cases h; exact .bl b
  | .int i, _, h => by cases h; exact .int i
  | .str x, _, h => by cases h; exact .str x
  | .tuple ds, _, h => by
    cases h with
    | tup e q => exact .tup (k _ _ e) (TdAll.keep k ds _ q)
  | .list _, _, h => by cases h
  | .dict _, _, h => by cases h
theorem TdAll.keep {H H' : Hp} (k : Kt H H') : ∀ (ds : List PyData) (vs : List V), TdAll H vs ds → TdAll H' vs ds
  | [], _, h => by cases h; exact .nil
  | d :: ds, _, h => by
    cases h with
    | cons a b => exact .cons (Td.keep k d _ a) (TdAll.keep k ds _ b)
end
theorem Td.k {H H' : Hp} {v : V} {d : PyData} (h : Td H v d) (k : Kt H H') : Td H' v d := Td.keep k d v h
theorem TdAll.k {H H' : Hp} {vs : List V} {ds : List PyData} (h : TdAll H vs ds) (k : Kt H H') : TdAll H' vs ds := TdAll.keep k ds vs h
mutual
theorem Td.dp {K : PySem.W.Frag} {H : Hp} : ∀ (d : PyData) (v : V), Td H v d → Dp K H v d
  | .none, _, h => by cases h; exact .non
  | .bool b, _, h => by cases h; exact .bl b
  | .int i, _, h => by cases h; exact .int i
  | .str x, _, h => by cases h; exact .str x
  | .tuple ds, _, h => by
    cases h with
    | tup e q => exact .tup (SqT.of e) (TdAll.dp ds _ q)
  | .list _, _, h => by cases h
  | .dict _, _, h => by cases h
theorem TdAll.dp {K : PySem.W.Frag} {H : Hp} : ∀ (ds : List PyData) (vs : List V), TdAll H vs ds → DpAll K H vs ds
  | [], _, h => by cases h; exact .nil
  | d :: ds, _, h => by
    cases h with
    | cons a b => exact .cons (Td.dp d _ a) (TdAll.dp ds _ b)
end
theorem TdAll.length {H : Hp} : ∀ {vs : List V} {ds : List PyData}, TdAll H vs ds → vs.length = ds.length
  | _, _, .nil => rfl
  | _, _, .cons _ t => by rw [List.length_cons, List.length_cons, TdAll.length t]
theorem TdAll.get {H : Hp} : ∀ {vs : List V} {ds : List PyData} {i : Nat} {v : V}, TdAll H vs ds → vs[i]? = some v → ∃ d, ds[i]? = some d ∧ Td H v d
  | _, _, _, _, .nil, e => by simp at e
  | _, _, 0, _, .cons a _, e => by simp at e; subst e; exact ⟨_, rfl, a⟩
  | _, _, i + 1, _, .cons _ t, e => by
    obtain ⟨d, h1, h2⟩ := TdAll.get (i := i) t (by simpa using e)
    exact ⟨d, by simpa using h1, h2⟩
theorem TdAll.app {H : Hp} : ∀ {vs ws : List V} {ds es : List PyData}, TdAll H vs ds → TdAll H ws es → TdAll H (vs ++ ws) (ds ++ es)
  | _, _, _, _, .nil, b => b
  | _, _, _, _, .cons a t, b => .cons a (TdAll.app t b)
theorem TdAll.snoc {H : Hp} {vs : List V} {v : V} {ds : List PyData} {d : PyData} (h : TdAll H vs ds) (q : Td H v d) : TdAll H (vs ++ [v]) (ds ++ [d]) := h.app (.cons q .nil)
/-- the value at a place of mapped data -/
theorem TdAll.at {α : Type} {H : Hp} {f : α → PyData} {l : List α} {vs : List V} {i : Nat} {v : V} (h : TdAll H vs (l.map f)) (e : vs[i]? = some v) : ∃ x, l[i]? = some x ∧ Td H v (f x) := by
  obtain ⟨d, h1, h2⟩ := h.get e
  rw [List.getElem?_map] at h1
  obtain ⟨x, hx, rfl⟩ := Option.map_eq_some_iff.mp h1
  exact ⟨x, hx, h2⟩
theorem TdAll.mem {α : Type} {H : Hp} {f : α → PyData} {l : List α} {vs : List V} {i : Nat} {x : α} (h : TdAll H vs (l.map f)) (e : l[i]? = some x) : ∃ v, vs[i]? = some v ∧ Td H v (f x) := by
  have hl := h.length
  rw [List.length_map] at hl
  have hi : i < vs.length := by rw [hl]; exact (List.getElem?_eq_some_iff.mp e).1
  obtain ⟨y, h1, h2⟩ := h.at (List.getElem?_eq_getElem hi)
  rw [e] at h1
  cases h1
  exact ⟨_, List.getElem?_eq_getElem hi, h2⟩
theorem Td.tup_inv {H : Hp} {v : V} {ds : List PyData} (h : Td H v (.tuple ds)) : ∃ a vs, v = .ref a ∧ H a = some (.tup vs) ∧ TdAll H vs ds := by
  cases h with
  | tup e q => exact ⟨_, _, rfl, e, q⟩
theorem Td.int_inv {H : Hp} {v : V} {i : Int} (h : Td H v (.int i)) : v = .int i := by cases h; rfl
theorem Td.str_inv {H : Hp} {v : V} {x : Str} (h : Td H v (.str x)) : v = .str x := by cases h; rfl
theorem TdAll.nil_inv {H : Hp} {vs : List V} (h : TdAll H vs []) : vs = [] := by cases h; rfl
theorem TdAll.two {H : Hp} {vs : List V} {d e : PyData} (h : TdAll H vs [d, e]) : ∃ v w, vs = [v, w] ∧ Td H v d ∧ Td H w e := by
  cases h with
  | cons a t =>
    cases t with
    | cons b t => cases t; exact ⟨_, _, rfl, a, b⟩
theorem TdAll.three {H : Hp} {vs : List V} {d e f : PyData} (h : TdAll H vs [d, e, f]) : ∃ v w z, vs = [v, w, z] ∧ Td H v d ∧ Td H w e ∧ Td H z f := by
  cases h with
  | cons a t =>
    cases t with
    | cons b t =>
      cases t with
      | cons c t => cases t; exact ⟨_, _, _, rfl, a, b, c⟩
/-- a tuple of numbers -/
def tupN (l : List Nat) : PyData := .tuple (l.map fun j : Nat => PyData.int (j : Int))
def vN (l : List Nat) : List V := l.map fun j : Nat => V.int (j : Int)
theorem vN_ints (l : List Nat) : vN l = (l.map fun j : Nat => (j : Int)).map V.int := by
  unfold vN
  rw [List.map_map]
  rfl
theorem ints_inv {H : Hp} : ∀ {l : List Nat} {vs : List V}, TdAll H vs (l.map fun j : Nat => PyData.int (j : Int)) → vs = vN l
  | [], _, h => by cases h; rfl
  | j :: l, _, h => by
    cases h with
    | cons a t => rw [a.int_inv, ints_inv t]; rfl
theorem ints_td (H : Hp) : ∀ l : List Nat, TdAll H (vN l) (l.map fun j : Nat => PyData.int (j : Int))
  | [] => .nil
  | j :: l => .cons (.int _) (ints_td H l)
theorem tupN_inv {H : Hp} {v : V} {l : List Nat} (h : Td H v (tupN l)) : ∃ a, v = .ref a ∧ H a = some (.tup (vN l)) := by
  obtain ⟨a, vs, rfl, e, q⟩ := h.tup_inv
  rw [ints_inv q] at e
  exact ⟨a, rfl, e⟩
theorem tupN_td {H : Hp} {a : Addr} {l : List Nat} (e : H a = some (.tup (vN l))) : Td H (.ref a) (tupN l) := .tup e (ints_td H l)

/-! ### states, moves, rows as data -/
def stD (s : St) : PyData := .tuple [tupN s.1, tupN s.2]
def mvS (b : Bool) : Str := if b then "start" else "end"
def mvD (m : Mv) : PyData := .tuple [.str (mvS m.1), .int (m.2 : Int)]
def mgD (p : Mv × St) : PyData := .tuple [mvD p.1, stD p.2]
def rowD (r : Row) : PyData := .tuple (r.map mvD)
def stKey (s : St) : NestedKey := .tup [.tup (s.1.map fun j : Nat => NestedKey.num (j : Int)), .tup (s.2.map fun j : Nat => NestedKey.num (j : Int))]
theorem nums_inj : ∀ {l m : List Nat}, (l.map fun j : Nat => NestedKey.num (j : Int)) = (m.map fun j : Nat => NestedKey.num (j : Int)) → l = m
  | [], [], _ => rfl
  | [], _ :: _, h => by simp at h
  | _ :: _, [], h => by simp at h
  | a :: l, b :: m, h => by
    simp only [List.map_cons, List.cons.injEq, NestedKey.num.injEq] at h
    obtain ⟨h1, h2⟩ := h
    rw [nums_inj h2, show a = b by omega]
theorem stKey_inj {s t : St} (h : stKey s = stKey t) : s = t := by
  unfold stKey at h
  simp only [NestedKey.tup.injEq, List.cons.injEq, and_true] at h
  exact Prod.ext (nums_inj h.1) (nums_inj h.2)
theorem stD_inv {H : Hp} {v : V} {s : St} (h : Td H v (stD s)) : ∃ a p q, v = .ref a ∧ H a = some (.tup [.ref p, .ref q]) ∧ H p = some (.tup (vN s.1)) ∧ H q = some (.tup (vN s.2)) := by
  obtain ⟨a, vs, rfl, e, t⟩ := h.tup_inv
  obtain ⟨x, y, rfl, h1, h2⟩ := t.two
  obtain ⟨p, rfl, hp⟩ := tupN_inv h1
  obtain ⟨q, rfl, hq⟩ := tupN_inv h2
  exact ⟨a, p, q, rfl, e, hp, hq⟩
theorem stD_td {H : Hp} {a p q : Addr} {s : St} (e : H a = some (.tup [.ref p, .ref q])) (hp : H p = some (.tup (vN s.1))) (hq : H q = some (.tup (vN s.2))) : Td H (.ref a) (stD s) :=
  .tup e (.cons (tupN_td hp) (.cons (tupN_td hq) .nil))
section
variable {X : Cx} {pins : List (Addr × Obj)} {σ : L2.St} {H : Hp} {s : Shared}
theorem nested_ints {h : Heap} : ∀ {l : List Nat} {us : List Value}, Vals (vN l) us → NestedAll h (l.map fun j : Nat => NestedKey.num (j : Int)) us
  | [], _, .nil => .nil
  | j :: l, _, .cons r t => by
    obtain ⟨tk, rfl⟩ := r
    exact .cons (.int _ _) (nested_ints t)
theorem nested_tup (I : Inv X pins σ H s) {a : Addr} {l : List Nat} (e : H a = some (.tup (vN l))) : NestedIs s.heap (.tup (l.map fun j : Nat => NestedKey.num (j : Int))) (.ref a) := by
  obtain ⟨its, rv, ⟨o, ho, hc, n, hd⟩, _⟩ := I.tuple (SqT.of e)
  exact .tup ho hc hd (by simpa using nested_ints rv)
theorem numsDepth : ∀ l : List Nat, NestedKey.depthAll (l.map fun j : Nat => NestedKey.num (j : Int)) = 0
  | [] => by simp [NestedKey.depthAll]
  | j :: l => by simp [NestedKey.depthAll, NestedKey.depth, numsDepth l]
theorem state_key (I : Inv X pins σ H s) {a : Addr} {z : St} (e : Td H (.ref a) (stD z)) : (nestedKind X.prog X.w).is s.heap (stKey z) a := by
  obtain ⟨a', p, q, ea, ha, hp, hq⟩ := stD_inv e
  cases ea
  refine ⟨?_, ?_⟩
  · obtain ⟨its, rv, ⟨o, ho, hc, n, hd⟩, _⟩ := I.tuple (SqT.of ha)
    refine .tup ho hc hd ?_
    have h2 : NestedAll s.heap [.tup (z.1.map fun j : Nat => NestedKey.num (j : Int)), .tup (z.2.map fun j : Nat => NestedKey.num (j : Int))] its := by
      cases rv with
      | cons r t =>
        cases t with
        | cons r2 t =>
          cases t
          cases r
          cases r2
          exact .cons (nested_tup I hp) (.cons (nested_tup I hq) .nil)
    simpa using h2
  · unfold stKey
    simp only [NestedKey.depth, NestedKey.depthAll, numsDepth]
    decide

/-! ### a dict keyed by states -/
abbrev Dn := St × Addr × V
def DnRel (p : Dn) (q : NestedKey × Addr × Value) : Prop := q.1 = stKey p.1 ∧ q.2.1 = p.2.1 ∧ RelV p.2.2 q.2.2
structure Dn0 (P : Program) (w : World) (d : Addr) (xs : List Dn) (h : Heap) : Prop where
  ex : ∃ vs : List (NestedKey × Addr × Value), Paired DnRel xs vs ∧ (vs.map (·.1)).Nodup ∧ ∃ o es ep, h.get? d = some o ∧ o.ExactDict ∧ o.data = .dict es ep ∧ es.toList = vs.map (entryOfKey (nestedKind P w))
  sys : (d == sysModules) = false
  few : xs.length ≤ sizeLine
def dN (P : Program) (w : World) (d : Addr) (xs : List Dn) : HO := .ext (Dn0 P w d xs)
theorem dN_ok {P : Program} {w : World} {H : Hp} {h : Heap} {d : Addr} {xs : List Dn} (D : Dn0 P w d xs h) : ObjOk P w H h d (dN P w d xs) := by
  obtain ⟨vs, _, _, o, es, ep, ho, _⟩ := D.ex
  refine ⟨D, ⟨o, ho⟩, fun h1 h2 p k => ?_⟩
  obtain ⟨vs', r', n', o', es', ep', ho', q'⟩ := p.ex
  exact ⟨⟨vs', r', n', o', es', ep', k o' ho', q'⟩, p.sys, p.few⟩
/-- what stands at d: its keys and values, the keys' tuples in H -/
def IsDn (P : Program) (w : World) (H : Hp) (d : Addr) (xs : List Dn) : Prop := H d = some (dN P w d xs) ∧ ∀ p ∈ xs, Td H (.ref p.2.1) (stD p.1)
theorem rd_dn (I : Inv X pins σ H s) {d : Addr} {xs : List Dn} (h : Rd H d (dN X.prog X.w d xs)) (ht : ∀ p ∈ xs, Td H (.ref p.2.1) (stD p.1)) :
    ∃ vs : List (NestedKey × Addr × Value), Paired DnRel xs vs ∧ s.heap.DictOfH (nestedKind X.prog X.w) d vs ∧ (d == sysModules) = false ∧ xs.length ≤ sizeLine := by
  obtain ⟨D, _, _⟩ := (show ObjOk X.prog X.w H s.heap d (dN X.prog X.w d xs) from h.ok I.hok)
  obtain ⟨vs, r, n, o, es, ep, ho, hx, hd, he⟩ := D.ex
  refine ⟨vs, r, ⟨o, es, ep, ho, hx, hd, he, ?_, n⟩, D.sys, D.few⟩
  have all : ∀ {l : List Dn} {m : List (NestedKey × Addr × Value)}, Paired DnRel l m → (∀ p ∈ l, Td H (.ref p.2.1) (stD p.1)) → ∀ x ∈ m, (nestedKind X.prog X.w).is s.heap x.1 x.2.1 := by
    intro l m q
    induction q with
    | nil => intro _ x hx; cases hx
    | @cons p q ps qs hq t ih =>
      intro hl x hx
      rcases List.mem_cons.mp hx with e | hx
      · subst e
        rw [hq.1, hq.2.1]
        exact state_key I (hl p List.mem_cons_self)
      · exact ih (fun p hp => hl p (List.mem_cons_of_mem _ hp)) x hx
  exact all r ht
theorem at_none : ∀ {xs : List Dn} {vs : List (NestedKey × Addr × Value)} {z : St}, Paired DnRel xs vs → ((atKey vs (stKey z)).isSome = decide (z ∈ xs.map (·.1)))
  | _, _, z, .nil => by simp [atKey]
  | _, _, z, @Paired.cons _ _ _ p q ps qs hq t => by
    have ih := at_none (z := z) t
    unfold atKey at ih ⊢
    by_cases e : z = p.1
    · have e2 : q.1 = stKey z := by rw [hq.1, e]
      simp [List.find?_cons, e2, e]
    · have e2 : ¬ q.1 = stKey z := fun h => e (stKey_inj (by rw [← h, hq.1]))
      have e3 : ¬ p.1 = z := fun h => e h.symm
      simp only [List.find?_cons, e2, decide_false, List.map_cons, List.mem_cons, e, false_or]
      exact ih
theorem at_some : ∀ {xs : List Dn} {vs : List (NestedKey × Addr × Value)} {z : St} {a : Addr} {v : V}, Paired DnRel xs vs → (xs.map (·.1)).Nodup → (z, a, v) ∈ xs → ∃ u, atKey vs (stKey z) = some u ∧ RelV v u.2
  | _, _, z, a, v, .nil, _, h => by cases h
  | _, _, z, a, v, @Paired.cons _ _ _ p q ps qs hq t, hn, h => by
    rw [List.map_cons, List.nodup_cons] at hn
    unfold atKey
    rcases List.mem_cons.mp h with e | h
    · subst e
      have e2 : q.1 = stKey z := hq.1
      exact ⟨q.2, by simp [List.find?_cons, e2], hq.2.2⟩
    · have ne : ¬ q.1 = stKey z := fun e => by
        have e3 : p.1 = z := stKey_inj (by rw [← e, hq.1])
        exact hn.1 (List.mem_map.mpr ⟨_, h, e3.symm⟩)
      obtain ⟨u, h1, h2⟩ := at_some t hn.2 h
      unfold atKey at h1
      exact ⟨u, by simp only [List.find?_cons, ne, decide_false]; exact h1, h2⟩
theorem keys_nodup : ∀ {xs : List Dn} {vs : List (NestedKey × Addr × Value)}, Paired DnRel xs vs → (vs.map (·.1)).Nodup → (xs.map (·.1)).Nodup := by
  intro xs vs r hn
  have e : ∀ {xs : List Dn} {vs : List (NestedKey × Addr × Value)}, Paired DnRel xs vs → vs.map (·.1) = (xs.map (·.1)).map stKey := by
    intro xs vs r
    induction r with
    | nil => rfl
    | cons h t ih => simp only [List.map_cons, ih, h.1]
  rw [e r] at hn
  exact List.Pairwise.of_map stKey (fun a b hne q => hne (by rw [q])) hn
theorem room1 {A : Around} (hu : A.units + 64 < cLine) : (nestedKind X.prog X.w).room A.in1 := by
  show A.units + 1 + 8 < cLine
  omega
def rNotInN (P : Program) (w : World) : R2 := fun x y H Q => ∃ d a z xs, x = .ref a ∧ y = .ref d ∧ Td H (.ref a) (stD z) ∧ IsDn P w H d xs ∧ Q (.bl (!decide (z ∈ xs.map (·.1)))) H
theorem op_notInN (hu : X.A.units + 64 < cLine) : OpR X (compareOp .NotIn) (rNotInN X.prog X.w) := by
  intro pins s σ H x y v u Q I rx ry h
  obtain ⟨d, a, z, xs, rfl, rfl, ha, hd, q⟩ := h
  cases rx
  cases ry
  obtain ⟨vs, r, dd, hs, _⟩ := rd_dn I (.inl hd.1) hd.2
  refine wpAny_notIn_heap (room1 hu) (state_key I ha) hs dd ?_
  rw [at_none r]
  exact ⟨.bl _, H, I.tok _, rfl, q⟩
def tGetN (P : Program) (w : World) (td ty : TE) : TE := fun σ H Q => td σ H fun x H1 => ty σ H1 fun y H2 => ∃ d a z xs b v, x = .ref d ∧ y = .ref a ∧ Td H2 (.ref a) (stD z) ∧ (Rd H2 d (dN P w d xs) ∧ ∀ p ∈ xs, Td H2 (.ref p.2.1) (stD p.1)) ∧ (z, b, v) ∈ xs ∧ Q v H2
theorem pe_getN {o i : Expr} {td ty : TE} {pos : Pos} (hu : X.A.units + 64 < cLine) (ho : PE X o td) (hi : PE X i ty) (hs : NoSl i) : PE X (.Subscript o i pos) (tGetN X.prog X.w td ty) := by
  refine ⟨fun pins s σ H Q I h => ?_⟩
  refine subD_of PySem.F.slot_dict_getitem.lookup hs (thn (ho.run pins s σ H _ I h) fun u s1 ⟨x, H1, I1, rx, q1⟩ => thn (hi.run pins s1 σ H1 _ I1 q1) fun iv s2 ⟨y, H2, I2, ry, d, a, z, xs, b, w1, ex, ey, ha, hd, hm, q⟩ => ?_)
  subst ex
  subst ey
  obtain rfl : u = Value.ref d := rx
  obtain rfl : iv = Value.ref a := ry
  obtain ⟨vs, r, dd, hsys, _⟩ := rd_dn I2 hd.1 hd.2
  obtain ⟨_, _, _, _, _, _, _, _, nd⟩ := id dd
  obtain ⟨p, hp, hr⟩ := at_some r (keys_nodup r nd) hm
  exact ⟨dd.typeIs, wpAny_getItem_heap (room1 hu) (state_key I2 ha) dd hp ⟨w1, H2, I2.tok _, hr, q⟩⟩
end
end K61

/-! More rules: storing into a dict keyed by states, its display, the walk of its keys; sorted of a tuple; order and min of data. -/
namespace K61
open PySem PySem.Spec PyProof.Rows L2
section
variable {X : Cx} {pins : List (Addr × Obj)} {σ : L2.St} {H : Hp} {s : Shared}
theorem dN_mut {P : Program} {w : World} {d : Addr} {xs : List Dn} : Mut (some (dN P w d xs)) := True.intro
theorem dN_ne {P : Program} {w : World} {d : Addr} {xs : List Dn} {vs : List V} : dN P w d xs ≠ .tup vs := fun e => by cases e
theorem IsDn.nt {P : Program} {w : World} {d : Addr} {xs : List Dn} (h : IsDn P w H d xs) : ∀ vs, H d ≠ some (.tup vs) := fun vs e => by
  rw [h.1] at e
  exact dN_ne (Option.some.inj e)
theorem IsDn.keep {P : Program} {w : World} {H H' : Hp} {d : Addr} {xs : List Dn} (h : IsDn P w H d xs) (e : H' d = H d) (k : Kt H H') : IsDn P w H' d xs := ⟨e.trans h.1, fun p hp => (h.2 p hp).k k⟩
theorem IsDn.same {P : Program} {w : World} {H H' : Hp} {d : Addr} {xs : List Dn} (h : IsDn P w H d xs) (k : Same H H') : IsDn P w H' d xs := ⟨k _ _ h.1, fun p hp => (h.2 p hp).k (Kt.of k)⟩
theorem IsDn.put {P : Program} {w : World} {d a : Addr} {z : St} {v : V} {xs : List Dn} (h : IsDn P w H d xs) (ha : Td H (.ref a) (stD z)) : IsDn P w (upd H d (dN P w d (xs ++ [(z, a, v)]))) d (xs ++ [(z, a, v)]) := by
  have k : Kt H (upd H d (dN P w d (xs ++ [(z, a, v)]))) := Kt.put h.nt
  refine ⟨upd_same, fun p hp => ?_⟩
  rcases List.mem_append.mp hp with q | q
  · exact (h.2 p q).k k
  · rw [List.mem_singleton.mp q]
    exact ha.k k
theorem pair_snoc {α β : Type} {F : α → β → Prop} {a : α} {b : β} (h : F a b) : ∀ {l : List α} {m : List β}, Paired F l m → Paired F (l ++ [a]) (m ++ [b])
  | _, _, .nil => .cons h .nil
  | _, _, .cons x t => .cons x (pair_snoc h t)
def rSetN (P : Program) (w : World) : V → V → V → Hp → (Hp → Prop) → Prop := fun o i v H Q => ∃ d a z xs, o = .ref d ∧ i = .ref a ∧ Td H (.ref a) (stD z) ∧ IsDn P w H d xs ∧ z ∉ xs.map (·.1) ∧ xs.length < sizeLine ∧
  Q (upd H d (dN P w d (xs ++ [(z, a, v)])))
theorem set_dN (hu : X.A.units + 64 < cLine) : PSet X (rSetN X.prog X.w) := by
  intro pins s σ H o i v ov iv u Q I ro ri rv h
  obtain ⟨d, a, z, xs, rfl, rfl, ha, hd, hz, hl, q⟩ := h
  cases ro
  cases ri
  obtain ⟨vs, r, dd, hs, hf⟩ := rd_dn I (.inl hd.1) hd.2
  have hlen : vs.length ≤ sizeLine := by rw [← Paired.length r]; exact hf
  refine wpAny_setItem_heap (hsz := hlen) (room1 hu) (state_key I ha) dd fun h' dd' hb => ?_
  have habs : (atKey vs (stKey z)).isSome = false := by rw [at_none r]; exact decide_eq_false hz
  have est : storedH vs (stKey z) a u = vs ++ [(stKey z, a, u)] := by
    unfold storedH
    rw [habs]
    rfl
  rw [est] at dd'
  obtain ⟨ob, es, ep, h1, h2, h3, h4, _, h5⟩ := dd'
  have D : Dn0 X.prog X.w d (xs ++ [(z, a, v)]) h' :=
    ⟨⟨vs ++ [(stKey z, a, u)], pair_snoc ⟨rfl, rfl, rv⟩ r, h5, ob, es, ep, h1, h2, h3, h4⟩, hs, by rw [List.length_append, List.length_singleton]; exact hl⟩
  exact ⟨_, d_write I (by rw [hd.1]; exact dN_mut) hb ⟨ob, h1⟩ (dN_ok D), q⟩

/-! {state: value} -/
def tDispN (P : Program) (w : World) (tk tv : TE) : TE := fun σ H Q => ∀ p, H p = none → tPairs [(tk, tv)] σ (upd H p (.dK [])) fun ps H2 => H2 p = some (.dK []) ∧ ∃ a z v, ps = [(.ref a, v)] ∧ Td H2 (.ref a) (stD z) ∧ Q (.ref p) (upd H2 p (dN P w p [(z, a, v)]))
theorem pe_dispN {pos : Pos} {ek ev : Expr} {tk tv : TE} (hu : X.A.units + 64 < cLine) (hk : PE X ek tk) (hv : PE X ev tv) : PE X (.Dict [some ek] [ev] pos) (tDispN X.prog X.w tk tv) := by
  refine ⟨fun pins s σ H Q I q => ?_⟩
  have hn := I.hok.fresh (Nat.le_refl s.heap.objs.size)
  have J := I.laid (a := s.heap.objs.size) (o := .dK []) (h' := s.heap.push { cls := .type "dict", data := .dict #[] }) (t' := s.toks) (fun _ _ e => Heap.get?_push_of_some _ e) (Nat.le_refl _) (dk_empty s.heap I.big)
  have PP : PPs X pos [some ek] [ev] [(tk, tv)] := pps_cons hk hv pps_nil
  have hsh : (evalEachOpt [some ek] X.env).zip ((evalEach [ev] X.env).map fun v => do let x ← v; standAt pos; pure x) = (pairTrees [some ek] [ev] X.env pos).map fun p => (some p.1, p.2) := by rfl
  rw [arm_eval_Dict, hsh, dictDisplay_pairs _ (by intro e; cases e) (by show 1 < 17; decide)]
  refine wpAny_bind (wpAny_standAt (wpAny_bind (wpAny_subDictH (knd := nestedKind X.prog X.w) (by show X.A.units + 8 < cLine; omega) (by show 1 ≤ 15; decide) (thn (PP.run pins _ σ _ _ J (q _ hn)) fun ws s2 ⟨ps, H2, I2, rel, e2, a, z, v, eps, ha, q2⟩ => ?_))))
  subst eps
  cases rel with
  | @cons _ b _ bs hb t =>
    cases t
    obtain ⟨b1, b2⟩ := b
    obtain ⟨hb1, hb2⟩ := hb
    obtain rfl : b1 = Value.ref a := hb1
    obtain ⟨_, hsys, vs0, r0, dd⟩ := dk_of I2.hok e2
    cases r0
    obtain ⟨od, es, ep, g1, g2, g3, _, g5, _⟩ := dd
    have hes : es.toList = [] := by
      generalize es.toList = l at g5
      cases l with
      | nil => rfl
      | cons _ _ => cases g5
    refine ⟨[(stKey z, a, b2)], ⟨rfl, rfl, state_key I2 ha, True.intro⟩, ⟨od, es, ep, g1, g2, g3, by rw [hes]; rfl, (fun x hx => by cases hx), List.nodup_nil⟩, fun h' tk' hm hb => ?_⟩
    obtain ⟨ob, es', ep', h1, h2, h3, h4, _, h5⟩ := hm
    have D : Dn0 X.prog X.w s.heap.objs.size [(z, a, v)] h' :=
      ⟨⟨[(stKey z, a, b2)], .cons ⟨rfl, rfl, hb2⟩ .nil, h5, ob, es', ep', h1, h2, h3, h4⟩, hsys, by show 1 ≤ sizeLine; decide⟩
    exact wpAny_pure ⟨.ref s.heap.objs.size, _, d_write (t' := tk') I2 (by rw [e2]; exact True.intro) hb ⟨ob, h1⟩ (dN_ok D), rfl, q2⟩

/-! the keys of a locked dict, one by one -/
def Itn (P : Program) (w : World) (d : Addr) (o : Obj) (xs : List Dn) : It :=
  ⟨fun i H => (H d = some (.frz o (dN P w d xs)) ∧ ∀ p ∈ xs, Td H (.ref p.2.1) (stD p.1)) ∧ i < xs.length,
   fun i H x H' => H' = H ∧ ∃ p, xs[i]? = some p ∧ x = .ref p.2.1,
   fun i H => (H d = some (.frz o (dN P w d xs)) ∧ ∀ p ∈ xs, Td H (.ref p.2.1) (stD p.1)) ∧ xs.length ≤ i⟩
theorem frz_dn (I : Inv X pins σ H s) {d : Addr} {o : Obj} {xs : List Dn} (h : H d = some (.frz o (dN X.prog X.w d xs))) (ht : ∀ p ∈ xs, Td H (.ref p.2.1) (stD p.1)) :
    (d == sysModules) = false ∧ s.heap.get? d = some o ∧ o.ExactDict ∧ ∃ (es : Array DictEntry) (ep : Nat), o.data = .dict es ep ∧ es.size = xs.length ∧
      ∀ (i : Nat) (p : Dn), xs[i]? = some p → ∃ en : DictEntry, es[i]? = some en ∧ en.key = .ref p.2.1 := by
  obtain ⟨vs, r, ⟨o', es, ep, ho, hx, hd, he, _, _⟩, hs, _⟩ := rd_dn I (.inr ⟨o, h⟩) ht
  have hg : s.heap.get? d = some o := (show ObjOk X.prog X.w H s.heap d (.frz o (dN X.prog X.w d xs)) from I.hok d _ h).1
  rw [hg] at ho
  cases ho
  refine ⟨hs, hg, hx, es, ep, hd, ?_, fun i p e => ?_⟩
  · rw [size_of_entries he]
    exact (Paired.length r).symm
  · obtain ⟨b, hb, _, e2, _⟩ := paired_get r e
    have q := entry_at he i
    rw [hb] at q
    exact ⟨_, q, by show Value.ref b.2.1 = _; rw [e2]⟩
theorem turn_keysN {P : Program} {w : World} {K : PySem.W.Frag} {tg : Expr} {d : Addr} {o : Obj} {es : Array DictEntry} {ep : Nat} {xs : List Dn} (it : Addr) (hod : o.data = .dict es ep) :
    Turn P w K tg (Itn P w d o xs) [it] it (fun i h => h.IsKeyIter it d i xs.length ep) where
  mem := List.mem_singleton.mpr rfl
  obj := fun i h st b hb => by
    obtain rfl : b = it := List.mem_singleton.mp hb
    obtain ⟨oi, e, c, dd⟩ := st
    refine ⟨oi, e, fun v z => ?_⟩
    rw [dd] at z
    cases z
  keep := fun i h h' st k => st.at fun oi e => k it (List.mem_singleton.mpr rfl) oi e
  item := by
    intro X hP hw hK hc i pins s σ H E I hf st hg
    subst hP hw hK
    obtain ⟨⟨hd, ht⟩, hi⟩ := hg
    obtain ⟨f0, f1, f2, f3, f4, f5⟩ := hf it (List.mem_singleton.mpr rfl)
    obtain ⟨hs, hgd, hx, es', ep', hdt, hsz, ent⟩ := frz_dn I hd ht
    obtain ⟨rfl, rfl⟩ := dict_ep hod hdt
    have hkv : xs[i]? = some xs[i] := List.getElem?_eq_getElem hi
    obtain ⟨en, hen, hkey⟩ := ent i _ hkv
    refine next_key_item st hgd hdt hsz hen fun h' st' sb => ?_
    have J : Inv X pins σ H { s with heap := h' } := I.turned (t' := s.toks) (fun b ob hb e => (sb.2 b hb).trans e) f0 f1 f3 f4 f5
    obtain ⟨oi, e, c, dd⟩ := id st'
    refine ⟨en.key, rfl, go_of (s := { s with heap := h' }) e c dd (by decide) ⟨.ref xs[i].2.1, H, J, hkey, ⟨rfl, xs[i], hkv, rfl⟩, st', fun b hb => (hf b hb).1⟩⟩
  done := by
    intro X hP hw hK hc i pins s σ H E I hf st hg
    subst hP hw hK
    obtain ⟨⟨hd, ht⟩, hi⟩ := hg
    obtain ⟨f0, f1, f2, f3, f4, f5⟩ := hf it (List.mem_singleton.mpr rfl)
    obtain ⟨hs, hgd, hx, es', ep', hdt, hsz, ent⟩ := frz_dn I hd ht
    obtain ⟨rfl, rfl⟩ := dict_ep hod hdt
    exact next_key_end (I.ok.hd hc) st hgd hdt hsz hi fun h' eb => ⟨rfl, I.turned (t' := s.toks) (fun b ob hb e => eb b ob hb e) f0 f1 f3 f4 f5⟩
  self := fun A i s Q E st h => by
    have hT := st.typeIs
    refine wpAny_pyIter_slot hT F.slot_dict_keyiterator_iter (wpAny_call_entry F.slot_dict_keyiterator_iter hT F.entry_dict_keyiterator_iter (wpAny_pure ?_) (F.args_dict_keyiterator_iter_1 _))
    exact ⟨_, rfl, "dict_keyiterator", _, hT, F.slot_dict_keyiterator_next.lookup, h⟩
def iKeysN (P : Program) (w : World) (td : TE) : TI := fun σ H R => td σ H fun x H1 => ∃ d o xs, x = .ref d ∧ H1 d = some (.frz o (dN P w d xs)) ∧ (∀ p ∈ xs, Td H1 (.ref p.2.1) (stD p.1)) ∧ R (Itn P w d o xs) H1
theorem pi_keysN {tg e : Expr} {td : TE} (he : PE X e td) : PI X tg e (iKeysN X.prog X.w td) := by
  refine ⟨fun pins s σ H R I h => ?_⟩
  refine thn (he.run pins s σ H _ I h) fun u s1 ⟨x, H1, I1, rx, d, o, xs, ex, hd, ht, q⟩ => ?_
  subst ex
  obtain rfl : u = Value.ref d := rx
  obtain ⟨hs, hgd, hx, es, ep, hdt, hsz, ent⟩ := frz_dn I1 hd ht
  refine iter_keys hs hgd hx hdt (pi_one (tk := s1.toks) I1 _ (turn_keysN _ hdt) ⟨_, Heap.get?_push_size _ rfl, rfl, ?_⟩ q)
  rw [hsz]
  rfl
theorem walk_keysN {P : Program} {w : World} {d : Addr} {o : Obj} {xs : List Dn} : Walk (Itn P w d o xs) xs.length (fun H => H d = some (.frz o (dN P w d xs)) ∧ ∀ p ∈ xs, Td H (.ref p.2.1) (stD p.1)) (fun i H x H' => H' = H ∧ ∃ p, xs[i]? = some p ∧ x = .ref p.2.1) :=
  ⟨fun _ _ hi q => ⟨q, hi⟩, fun _ q => ⟨q, Nat.le_refl _⟩, fun _ _ _ _ _ _ y => y⟩

/-! sorted(t), t a tuple of numbers -/
def rSortedTup (K : PySem.W.Frag) : List V → Hp → VK → Prop := fun vs H Q => ∃ (a : Addr) (l : List Nat), vs = [V.ref a] ∧ SqT K H a (vN l) ∧ l.length < 64 ∧
  ∀ p, H p = none → Q (.ref p) (upd H p (.lst (vN (srt l))))
theorem int_list_nat : ∀ {ns : List Int}, (∀ n ∈ ns, ∃ j : Nat, n = (j : Int)) → ∃ l : List Nat, ns = l.map fun j : Nat => (j : Int)
  | [], _ => ⟨[], rfl⟩
  | n :: ns, h => by
    obtain ⟨j, hj⟩ := h n List.mem_cons_self
    obtain ⟨l, hl⟩ := int_list_nat fun m hm => h m (List.mem_cons_of_mem _ hm)
    exact ⟨j :: l, by rw [hj, hl]; rfl⟩
theorem sorted_nat {l : List Nat} {ns : List Int} (hp : ns.Perm (l.map fun j : Nat => (j : Int))) (hs : ns.Pairwise (· ≤ ·)) : ns = (srt l).map fun j : Nat => (j : Int) := by
  refine List.Perm.eq_of_pairwise (le := (· ≤ ·)) (fun a b _ _ h1 h2 => Int.le_antisymm h1 h2) hs ?_ (hp.trans ((srt_perm l).map _).symm)
  rw [List.pairwise_map]
  exact (srt_le l).imp fun {a b} h => by omega
theorem cr_sortedTup : CallR X (.builtin "sorted") (rSortedTup X.K) := by
  intro pins s σ H vs us Q I r h
  obtain ⟨a, l, rfl, ht, h64, q⟩ := h
  obtain ⟨its, rv, ⟨ot, hot, hct, nt, hdt⟩, hz⟩ := I.tuple ht
  rw [Vals.ref1 r]
  rw [vN_ints] at rv
  have hi := rv.ints
  have hlen : its.length < 64 := by
    rw [hi.length, List.length_map]
    exact h64
  refine Calls.call_function_entry kind_sorted plain_sorted entry_sorted (args_sorted1 _) ?_
  unfold Builtin.«sorted»
  refine wpAny_bind (m := checkCount "sorted" 1 1 _) (wpAny_pure (wpAny_bind ?_))
  refine wpAny_collect_seq a (.inr rfl) hot hct hdt (fun h1 k1 => wpAny_bind (wpAny_newList ?_)) (by rw [List.size_toArray]; exact small64 hlen)
  have hob : (h1.push (seqObj "list" its.toArray 0)).get? h1.objs.size = some (seqObj "list" its.toArray 0) := Heap.get?_push_size _ rfl
  have J : Inv X pins σ H { s with heap := h1 } := I.kept (t' := s.toks) k1
  refine wpAny_bind (wpAny_holding (wpAny_call_entry slot_list_sort ⟨_, hob, rfl⟩ entry_list_sort (list_sort_tree hob hi hlen fun out ns' a1 a2 a3 => ⟨_, rfl, ?_⟩) (args_list_sort _)))
  have ens := sorted_nat a2 a3
  subst ens
  obtain ⟨ep, he'⟩ := sortedHeap_at (out := out) hob
  refine wpAny_pure ⟨_, rfl, ?_⟩
  refine ⟨.ref h1.objs.size, upd H h1.objs.size (.lst (vN (srt l))), J.laid (t' := s.toks) (fun b o e => ?_) (Nat.le_refl _) ⟨?_, out.toList, ep, ?_, he'⟩, rfl, q _ (J.hok.fresh (Nat.le_refl _))⟩
  · have hb : b < h1.objs.size := Heap.lt_size e
    rw [sortedHeap_old (Nat.ne_of_lt hb) (by rw [Heap.size_push]; exact Nat.lt_succ_of_lt hb)]
    exact Heap.get?_push_of_some _ e
  · rw [vN_ints, List.length_map, List.length_map, srt_length]
    exact small64 h64
  · rw [vN_ints]
    exact vals_of_ints a1
end
end K61

/-! Order and equality of the data; < by the model; min of a list of data. -/
namespace K61
open PySem PySem.Spec PyProof.Rows L2

/-! ### == -/
theorem eqvAll_nil : PyData.eqvAll [] [] = true := by rw [PyData.eqvAll]
theorem eqvAll_cons (x y : PyData) (xs ys : List PyData) : PyData.eqvAll (x :: xs) (y :: ys) = (PyData.eqv x y && PyData.eqvAll xs ys) := by rw [PyData.eqvAll]
theorem eqvAll_nc (y : PyData) (ys : List PyData) : PyData.eqvAll [] (y :: ys) = false := by rw [PyData.eqvAll]
theorem eqvAll_cn (y : PyData) (ys : List PyData) : PyData.eqvAll (y :: ys) [] = false := by rw [PyData.eqvAll]
theorem eqv_tuple (xs ys : List PyData) : PyData.eqv (.tuple xs) (.tuple ys) = PyData.eqvAll xs ys := by rw [PyData.eqv]
theorem eqv_list (xs ys : List PyData) : PyData.eqv (.list xs) (.list ys) = PyData.eqvAll xs ys := by rw [PyData.eqv]
theorem eqv_int (i j : Int) : PyData.eqv (.int i) (.int j) = decide (i = j) := by
  rw [PyData.eqv]
  rfl
theorem eqv_str (x y : Str) : PyData.eqv (.str x) (.str y) = decide (x = y) := by
  rw [PyData.eqv]
  by_cases h : x = y
  · subst h; simp
  · simp [h]
theorem eqv_map {α : Type} [DecidableEq α] {f : α → PyData} (hf : ∀ a b, PyData.eqv (f a) (f b) = decide (a = b)) : ∀ l m : List α, PyData.eqvAll (l.map f) (m.map f) = decide (l = m)
  | [], [] => by simp [eqvAll_nil]
  | [], _ :: _ => by simp [eqvAll_nc]
  | _ :: _, [] => by simp [eqvAll_cn]
  | a :: l, b :: m => by
    rw [List.map_cons, List.map_cons, eqvAll_cons, hf, eqv_map hf l m]
    by_cases h1 : a = b <;> by_cases h2 : l = m <;> simp [h1, h2]
theorem eqv_nat (a b : Nat) : PyData.eqv (.int (a : Int)) (.int (b : Int)) = decide (a = b) := by
  rw [eqv_int]
  by_cases h : a = b
  · subst h; simp
  · have : ¬ (a : Int) = (b : Int) := by omega
    simp [h, this]
theorem eqv_tupN (l m : List Nat) : PyData.eqv (tupN l) (tupN m) = decide (l = m) := by
  unfold tupN
  rw [eqv_tuple]
  exact eqv_map (f := fun j : Nat => PyData.int (j : Int)) eqv_nat l m
theorem eqv_st (s t : St) : PyData.eqv (stD s) (stD t) = decide (s = t) := by
  unfold stD
  rw [eqv_tuple, eqvAll_cons, eqvAll_cons, eqvAll_nil, eqv_tupN, eqv_tupN]
  obtain ⟨a, b⟩ := s
  obtain ⟨c, d⟩ := t
  by_cases h1 : a = c <;> by_cases h2 : b = d <;> simp [h1, h2]
theorem mvS_eq (a b : Bool) : decide (mvS a = mvS b) = decide (a = b) := by cases a <;> cases b <;> decide +kernel
theorem eqv_mv (a b : Mv) : PyData.eqv (mvD a) (mvD b) = decide (a = b) := by
  unfold mvD
  rw [eqv_tuple, eqvAll_cons, eqvAll_cons, eqvAll_nil, eqv_str, eqv_nat, mvS_eq]
  obtain ⟨a, i⟩ := a
  obtain ⟨b, j⟩ := b
  by_cases h1 : a = b <;> by_cases h2 : i = j <;> simp [h1, h2]
theorem eqv_row (r q : Row) : PyData.eqv (rowD r) (rowD q) = decide (r = q) := by
  unfold rowD
  rw [eqv_tuple]
  exact eqv_map eqv_mv r q

/-! ### shapes -/
def shp (n : Nat) (d : PyData) : Prop := d.canLay0 = true ∧ d.depth ≤ n
theorem shp.mono {n m : Nat} {d : PyData} (h : shp n d) (k : n ≤ m) : shp m d := ⟨h.1, Nat.le_trans h.2 k⟩
theorem shp.ok {n : Nat} {d : PyData} (h : shp n d) (k : n ≤ 64) : SeqAt.shaped d = true := by
  unfold SeqAt.shaped
  rw [h.1, decide_eq_true (Nat.le_trans h.2 k)]
  rfl
theorem shp_all {n : Nat} : ∀ {ds : List PyData}, (∀ d ∈ ds, shp n d) → PyData.canLayAll0 ds = true ∧ PyData.depthAll ds ≤ n
  | [], _ => ⟨by simp [PyData.canLayAll0], by simp [PyData.depthAll]⟩
  | d :: ds, h => by
    obtain ⟨h1, h2⟩ := shp_all fun e he => h e (List.mem_cons_of_mem _ he)
    obtain ⟨h3, h4⟩ := h d List.mem_cons_self
    refine ⟨by simp [PyData.canLayAll0, h1, h3], ?_⟩
    rw [PyData.depthAll]
    omega
theorem shp_tuple {n : Nat} {ds : List PyData} (h : ∀ d ∈ ds, shp n d) : shp (n + 1) (.tuple ds) := by
  obtain ⟨h1, h2⟩ := shp_all h
  refine ⟨by simpa [PyData.canLay0] using h1, ?_⟩
  rw [PyData.depth]
  omega
theorem shp_list {n : Nat} {ds : List PyData} (h : ∀ d ∈ ds, shp n d) : shp (n + 1) (.list ds) := by
  obtain ⟨h1, h2⟩ := shp_all h
  refine ⟨by simpa [PyData.canLay0] using h1, ?_⟩
  rw [PyData.depth]
  omega
theorem shp_int (i : Int) : shp 0 (.int i) := ⟨by simp [PyData.canLay0], by simp [PyData.depth]⟩
theorem shp_str (b : Bool) : shp 0 (.str (mvS b)) := ⟨by cases b <;> decide +kernel, by simp [PyData.depth]⟩
theorem shp_map {α : Type} {n : Nat} {f : α → PyData} (h : ∀ a, shp n (f a)) (l : List α) : ∀ d ∈ l.map f, shp n d := fun d hd => by
  obtain ⟨a, _, rfl⟩ := List.mem_map.mp hd
  exact h a
theorem shp_two {n : Nat} {a b : PyData} (h1 : shp n a) (h2 : shp n b) : ∀ d ∈ [a, b], shp n d := fun d hd => by
  rcases List.mem_cons.mp hd with rfl | hd
  · exact h1
  · rw [List.mem_singleton.mp hd]; exact h2
theorem shp_tupN (l : List Nat) : shp 1 (tupN l) := shp_tuple (shp_map (fun j : Nat => shp_int (j : Int)) l)
theorem shp_st (s : St) : shp 2 (stD s) := shp_tuple (shp_two (shp_tupN _) (shp_tupN _))
theorem shp_mv (m : Mv) : shp 1 (mvD m) := shp_tuple (shp_two (shp_str _) (shp_int _))
theorem shp_row (r : Row) : shp 2 (rowD r) := shp_tuple (shp_map shp_mv r)
theorem shp_mg (p : Mv × St) : shp 3 (mgD p) := shp_tuple (shp_two ((shp_mv _).mono (by decide)) (shp_st _))

/-! ### < -/
open PySem.W in
theorem alike_st (s t : St) : alike (stD s) (stD t) = true := by
  have h : ∀ l m : List Nat, alikeAll (l.map fun j : Nat => PyData.int (j : Int)) (m.map fun j : Nat => PyData.int (j : Int)) = true := by
    intro l
    induction l with
    | nil => intro m; cases m <;> simp [alikeAll]
    | cons a l ih => intro m; cases m <;> simp [alikeAll, alike, ih]
  simp [stD, tupN, alike, alikeAll, h]
open PySem.W in
theorem alike_mv (a b : Mv) : alike (mvD a) (mvD b) = true := by simp [mvD, alike, alikeAll]
open PySem.W in
theorem alike_rows : ∀ r q : Row, alikeAll (r.map mvD) (q.map mvD) = true
  | [], q => by cases q <;> simp [alikeAll]
  | a :: r, [] => by simp [alikeAll]
  | a :: r, b :: q => by simp [alikeAll, alike_mv, alike_rows r q]
open PySem.W in
theorem alike_row (r q : Row) : alike (rowD r) (rowD q) = true := by simp [rowD, alike, alike_rows]
open PySem.W in
theorem dlt_cons {x y : PyData} (xs ys : List PyData) (h : alike x y = true) : dataLt (.tuple (x :: xs)) (.tuple (y :: ys)) = if PyData.eqv x y = true then dataLt (.tuple xs) (.tuple ys) else dataLt x y := by
  rw [dataLt_tuple]
  split
  · rename_i e
    rw [dataLt_all_yes h e, dataLt_tuple]
  · rename_i e
    rw [dataLt_all_no h (by simpa using e)]
open PySem.W in
theorem dlt_nil : dataLt (.tuple []) (.tuple []) = false := by decide +kernel
open PySem.W in
theorem dlt_nc (y : PyData) (ys : List PyData) : dataLt (.tuple []) (.tuple (y :: ys)) = true := by
  rw [dataLt_tuple, keyToksAll, keyToksAll, lex_atom (by decide), lex_one]
  decide
open PySem.W in
theorem dlt_cn (y : PyData) (ys : List PyData) : dataLt (.tuple (y :: ys)) (.tuple []) = false := by
  rw [dataLt_tuple, keyToksAll, keyToksAll, lex_atom (by decide), lex_one]
  decide
open PySem.W in
theorem dlt_mv (a b : Mv) : dataLt (mvD a) (mvD b) = mlt a b := by
  obtain ⟨a, i⟩ := a
  obtain ⟨b, j⟩ := b
  unfold mvD mlt
  rw [dlt_cons _ _ (by simp [alike]), eqv_str, mvS_eq, dlt_cons _ _ (by simp [alike]), eqv_nat, dlt_nil, dataLt_int, dataLt_str]
  by_cases h : a = b
  · subst h
    by_cases h2 : i = j
    · subst h2; simp
    · simp [h2]
  · have hs : decide ((mvS a).cps.toList < (mvS b).cps.toList) = b := by
      cases a <;> cases b <;> first | exact absurd rfl h | decide +kernel
    simp only [h, decide_false, Bool.false_eq_true, if_false]
    exact hs
open PySem.W in
theorem dlt_row : ∀ r q : Row, dataLt (rowD r) (rowD q) = rlt r q
  | [], [] => dlt_nil
  | [], b :: q => dlt_nc _ _
  | a :: r, [] => dlt_cn _ _
  | a :: r, b :: q => by
    have ih := dlt_row r q
    unfold rowD at ih ⊢
    rw [List.map_cons, List.map_cons, dlt_cons _ _ (alike_mv a b), eqv_mv, dlt_mv, rlt, ih]
    by_cases h : a = b <;> simp [h]
/-- (length, row) -/
def lrD (r : Row) : PyData := .tuple [.int (r.length : Int), rowD r]
/-- (moves, state) -/
def ksD (p : Nat × St) : PyData := .tuple [.int (p.1 : Int), stD p.2]
theorem shp_lr (r : Row) : shp 3 (lrD r) := shp_tuple (shp_two ((shp_int _).mono (by decide)) (shp_row r))
theorem shp_ks (p : Nat × St) : shp 3 (ksD p) := shp_tuple (shp_two ((shp_int _).mono (by decide)) (shp_st _))
open PySem.W in
theorem alike_lr (r q : Row) : alike (lrD r) (lrD q) = true := by simp [lrD, alike, alikeAll, alike_row]
open PySem.W in
theorem alike_ks (p q : Nat × St) : alike (ksD p) (ksD q) = true := by simp [ksD, alike, alikeAll, alike_st]
open PySem.W in
theorem dlt_lr (r q : Row) : dataLt (lrD r) (lrD q) = if r.length = q.length then rlt r q else decide (r.length < q.length) := by
  unfold lrD
  rw [dlt_cons _ _ (by simp [alike]), eqv_nat, dataLt_int, dlt_cons _ _ (alike_row r q), eqv_row, dlt_nil, dlt_row]
  by_cases h : r.length = q.length
  · rw [decide_eq_true h, if_pos rfl, if_pos h]
    by_cases h2 : r = q
    · subst h2; simp [rlt_irrefl]
    · simp [h2]
  · rw [decide_eq_false h, if_neg Bool.false_ne_true, if_neg h]
    by_cases h2 : r.length < q.length
    · rw [decide_eq_true h2, decide_eq_true (by omega)]
    · rw [decide_eq_false h2, decide_eq_false (by omega)]
open PySem.W in
theorem dlt_ks (p q : Nat × St) : (dataLt (ksD p) (ksD q) = true → p.1 ≤ q.1) ∧ (dataLt (ksD p) (ksD q) = false → q.1 ≤ p.1) := by
  unfold ksD
  rw [dlt_cons _ _ (by simp [alike]), eqv_nat, dataLt_int]
  by_cases h : p.1 = q.1
  · exact ⟨fun _ => Nat.le_of_eq h, fun _ => Nat.le_of_eq h.symm⟩
  · rw [decide_eq_false h, if_neg Bool.false_ne_true]
    exact ⟨fun e => by have := of_decide_eq_true e; omega, fun e => by have := of_decide_eq_false e; omega⟩
section
variable {X : Cx}
open PySem.W in
def rLtD : R2 := fun x y H Q => ∃ d e, Td H x d ∧ Td H y e ∧ alike d e = true ∧ d ≠ .none ∧ d.depth ≤ 60 ∧ Q (.bl (dataLt d e)) H
theorem op_ltD (hu : X.A.units + 64 < cLine) : OpR X (compareOp .Lt) rLtD := by
  intro pins s σ H x y v u Q I rx ry h
  obtain ⟨d, e, hd, he, ha, hn, hdep, q⟩ := h
  obtain ⟨as, r1⟩ := Dp.reads I d x v (Td.dp d x hd) rx
  obtain ⟨bs, r2⟩ := Dp.reads I e y u (Td.dp e y he) ry
  exact PySem.W.rcLt_alike d e X.A s v u as bs r1 r2 ha hn (by omega) X.prog X.w X.xe _ ⟨.bl _, H, I, rfl, q⟩
end

/-! ### min of a list, the items told by the heap -/
section
variable {prog : Program} {w : World} {A : Around} {R : Result → Shared → Prop}
def Kp (h0 h : Heap) : Prop := ∀ b o, h0.get? b = some o → h.get? b = some o
theorem min_turns {h0 : Heap} {it st ax : Addr} {items : Array Value} {bt : Nat → Nat → Bool} (hh : A.in1.handled = none) (hl : h0.IsList ax items) (n1 : h0.get? it = none) (n2 : h0.get? st = none) (n3 : it ≠ st)
    (cmp : ∀ (i j : Nat) (a b : Value) (z : Shared) (Q : Value → Shared → Prop) (E : Value → Shared → Prop), items[i]? = some a → items[j]? = some b → Kp h0 z.heap → Q (.bool (bt i j)) z → wpAny (model prog w) A.in1 (richCompare .Lt a b) Q E z) :
    ∀ (k j : Nat) (z : Shared) (vb : Value) (c : Nat), items.size - (j + 1) = k → j + 1 ≤ items.size → Kp h0 z.heap → z.heap.IsListIter it ax (j + 1) → items[argBest bt j]? = some vb →
      z.heap.get? st = some { cls := .type "list", dict := none, data := .seq #[vb, vb] c, slots := #[] } →
      (∀ v h', items[argBest bt (items.size - 1)]? = some v → Kp h0 h' → R (.ok (.ret v)) { z with heap := h' }) → codeAny (model prog w) A (.builtin "min.loop" ⟨[.ref it, .none, .ref st], []⟩) R z := by
  have nm : (toString "min" ++ toString ".loop" : String) = "min.loop" := by decide
  have ne1 : ∀ {b : Addr} {o : Obj}, h0.get? b = some o → b ≠ it := fun e q => by rw [q, n1] at e; cases e
  have ne2 : ∀ {b : Addr} {o : Obj}, h0.get? b = some o → b ≠ st := fun e q => by rw [q, n2] at e; cases e
  intro k
  induction k with
  | zero =>
    intro j z vb c hk hj kz hit hb hs hR
    refine codeAny_builtin F.entry_min_loop ?_
    rw [Around.under_plainId F.plain_min_loop _]
    show wpAny _ A.in1 (seqItems? (.ref st) >>= _) _ _ z
    refine wpAny_bind (wpAny_seqItems hs rfl ?_)
    show wpAny _ A.in1 (tryCatch (pyNext (.ref it)) _ >>= _) _ _ z
    refine wpAny_bind (wpAny_tryCatch (wpAny_pyNext_list_end hh hit (hl.at fun o e => kz _ o e) (by rw [Array.getElem?_eq_none_iff]; omega) fun h' eb => ?_))
    have hs' : h'.get? st = _ := eb st _ (Ne.symm n3) hs
    show wpAny _ A.in1 (updateSeq st (fun _ => #[]) >>= _) _ _ _
    refine wpAny_bind ?_
    refine wpAny_updateSeq hs' rfl (wpAny_bind (wpAny_letGo (wpAny_pure ?_)))
    have e : items.size - 1 = j := by omega
    refine hR vb _ (by rw [e]; exact hb) fun b o q => ?_
    exact (Heap.get?_update_other _ _ (Ne.symm (ne2 q))).trans (eb b o (ne1 q) (kz b o q))
  | succ k ih =>
    intro j z vb c hk hj kz hit hb hs hR
    have hlt : j + 1 < items.size := by omega
    refine codeAny_builtin F.entry_min_loop ?_
    rw [Around.under_plainId F.plain_min_loop _]
    show wpAny _ A.in1 (seqItems? (.ref st) >>= _) _ _ z
    refine wpAny_bind (wpAny_seqItems hs rfl ?_)
    show wpAny _ A.in1 (tryCatch (pyNext (.ref it)) _ >>= _) _ _ z
    have hv : items[j + 1]? = some items[j + 1] := Array.getElem?_eq_getElem hlt
    refine wpAny_bind (wpAny_tryCatch (wpAny_pyNext_list_item hit (hl.at fun o e => kz _ o e) hv fun h' hit' sb => ?_))
    have hs' : h'.get? st = _ := (sb.2 st (Ne.symm n3)).trans hs
    have kz' : Kp h0 h' := fun b o q => (sb.2 b (ne1 q)).trans (kz b o q)
    show wpAny _ A.in1 (tryCatch (holding [items[j + 1], items[j + 1]] (richCompare .Lt items[j + 1] vb >>= _)) _ >>= _) _ _ _
    refine wpAny_bind (wpAny_tryCatch (wpAny_holding (wpAny_bind (cmp (j + 1) (argBest bt j) _ vb _ _ _ hv hb kz' ?_))))
    refine wpAny_bind (wpAny_holding (wpAny_truthy_bool ?_))
    refine wpAny_bind (wpAny_letGo (wpAny_pure ?_))
    cases hc : bt (j + 1) (argBest bt j) with
    | true =>
      simp only [if_true]
      refine wpAny_bind ?_
      refine wpAny_updateSeq hs' rfl (wpAny_bind (wpAny_letGo ?_))
      rw [nm]
      obtain ⟨oi, e1, e2, e3⟩ := id hit'
      refine wpAny_pure ⟨plainId_quiet F.plain_min_loop _, ih (j + 1) _ items[j + 1] _ (by omega) hlt (fun b o q => (Heap.get?_update_other _ _ (Ne.symm (ne2 q))).trans (kz' b o q)) ⟨oi, (Heap.get?_update_other _ _ (Ne.symm n3)).trans e1, e2, e3⟩ (by simp only [argBest, hc, if_true]; exact hv) (Heap.get?_update_self _ hs' rfl) hR⟩
    | false =>
      simp only [Bool.false_eq_true, if_false]
      refine wpAny_bind (wpAny_letGo ?_)
      rw [nm]
      exact wpAny_pure ⟨plainId_quiet F.plain_min_loop _, ih (j + 1) _ vb c (by omega) hlt kz' hit' (by simp only [argBest, hc, Bool.false_eq_true, if_false]; exact hb) hs' hR⟩
theorem call_min_heap {E : Value → Shared → Prop} {s : Shared} {ax : Addr} {items : Array Value} {bt : Nat → Nat → Bool} {Q : Value → Shared → Prop} (hh : A.in1.handled = none) (hl : s.heap.IsList ax items) (h0 : 0 < items.size)
    (cmp : ∀ (i j : Nat) (a b : Value) (z : Shared) (Q : Value → Shared → Prop) (E : Value → Shared → Prop), items[i]? = some a → items[j]? = some b → Kp s.heap z.heap → Q (.bool (bt i j)) z → wpAny (model prog w) A.in1 (richCompare .Lt a b) Q E z)
    (hQ : ∀ v h', items[argBest bt (items.size - 1)]? = some v → Kp s.heap h' → Q v { s with heap := h' }) : wpAny (model prog w) A (call (.builtin "min") [.ref ax]) Q E s := by
  have nm : (toString "min" ++ toString ".loop" : String) = "min.loop" := by decide
  refine call_function_tree F.kind_min F.plain_min F.entry_min (F.args_min1 _) ?_
  show wpAny _ A.in1 (Builtin.Builtins.bindParams "min" ["key", "default"] 0 ⟨[], []⟩ >>= _) _ _ s
  refine wpAny_bind (wpAny_of_eq (show Builtin.Builtins.bindParams "min" ["key", "default"] 0 ⟨[], []⟩ = pure [none, none] from rfl) (wpAny_bind (wpAny_pure ?_)))
  refine wpAny_bind (wpAny_pyIter_list hl ?_)
  refine wpAny_bind (wpAny_newObj_type ?_)
  rw [nm]
  refine wpAny_pure ⟨plainId_quiet F.plain_min_loop _, ?_⟩
  let h1 := s.heap.push { cls := .type "list_iterator", data := .fields #[.ref ax, .int 0 0] }
  have hs : h1.objs.size = s.heap.objs.size + 1 := Heap.size_push ..
  have g1 : (h1.push { cls := .type "list", data := .seq ([] : List Value).toArray }).get? s.heap.objs.size = some { cls := .type "list_iterator", data := .fields #[.ref ax, .int 0 0] } := Heap.get?_push_of_some _ (Heap.get?_push_size _ rfl)
  have g2 : (h1.push { cls := .type "list", data := .seq ([] : List Value).toArray }).get? h1.objs.size = some { cls := .type "list", dict := none, data := .seq #[] 0, slots := #[] } := Heap.get?_push_size _ rfl
  have k1 : Kp s.heap (h1.push { cls := .type "list", data := .seq ([] : List Value).toArray }) := fun b o q => Heap.get?_push_of_some _ (Heap.get?_push_of_some _ q)
  have n1 : s.heap.get? s.heap.objs.size = none := Heap.get?_none_of_le (Nat.le_refl _)
  have n2 : s.heap.get? h1.objs.size = none := Heap.get?_none_of_le (by rw [hs]; exact Nat.le_succ _)
  have n3 : s.heap.objs.size ≠ h1.objs.size := by rw [hs]; exact Nat.ne_of_lt (Nat.lt_succ_self _)
  have ne1 : ∀ {b : Addr} {o : Obj}, s.heap.get? b = some o → b ≠ s.heap.objs.size := fun e q => by rw [q, n1] at e; cases e
  have ne2 : ∀ {b : Addr} {o : Obj}, s.heap.get? b = some o → b ≠ h1.objs.size := fun e q => by rw [q, n2] at e; cases e
  refine codeAny_builtin F.entry_min_loop ?_
  rw [Around.under_plainId F.plain_min_loop _]
  show wpAny _ A.in1 (seqItems? (.ref h1.objs.size) >>= _) _ _ _
  refine wpAny_bind (wpAny_seqItems g2 rfl ?_)
  show wpAny _ A.in1 (tryCatch (pyNext (.ref s.heap.objs.size)) _ >>= _) _ _ _
  have hv : items[0]? = some items[0] := Array.getElem?_eq_getElem h0
  refine wpAny_bind (wpAny_tryCatch (wpAny_pyNext_list_item (i := 0) ⟨_, g1, rfl, rfl⟩ (hl.at fun o e => k1 _ o e) hv fun h' hit' sb => ?_))
  have hs' : h'.get? h1.objs.size = _ := (sb.2 _ (Ne.symm n3)).trans g2
  show wpAny _ A.in1 (updateSeq h1.objs.size (fun _ => #[items[0], items[0]]) >>= _) _ _ _
  refine wpAny_bind ?_
  refine wpAny_updateSeq hs' rfl ?_
  rw [nm]
  obtain ⟨oi, e1, e2, e3⟩ := id hit'
  exact wpAny_pure ⟨plainId_quiet F.plain_min_loop _, min_turns (it := s.heap.objs.size) hh hl n1 n2 n3 cmp _ 0 _ items[0] _ rfl h0 (fun b o q => (Heap.get?_update_other _ _ (Ne.symm (ne2 q))).trans ((sb.2 b (ne1 q)).trans (k1 b o q)))
    ⟨oi, (Heap.get?_update_other _ _ (Ne.symm n3)).trans e1, e2, e3⟩ hv (Heap.get?_update_self _ hs' rfl) fun v h2 hv2 k2 => hQ v h2 hv2 k2⟩
end
theorem best_least {bt : Nat → Nat → Bool} {le : Nat → Nat → Prop} (N : Nat) (h1 : ∀ i j, i < N → j < N → bt i j = true → le i j) (h2 : ∀ i j, i < N → j < N → bt i j = false → le j i) (hr : ∀ i, le i i) (ht : ∀ i j k, le i j → le j k → le i k) :
    ∀ k, k < N → argBest bt k ≤ k ∧ ∀ i, i ≤ k → le (argBest bt k) i := by
  intro k
  induction k with
  | zero =>
    intro _
    refine ⟨Nat.le_refl _, fun i hi => ?_⟩
    obtain rfl : i = 0 := by omega
    exact hr _
  | succ k ih =>
    intro hk
    obtain ⟨ha, hb⟩ := ih (by omega)
    unfold argBest
    cases hc : bt (k + 1) (argBest bt k) with
    | true =>
      simp only [if_true]
      refine ⟨Nat.le_refl _, fun i hi => ?_⟩
      by_cases e : i = k + 1
      · rw [e]; exact hr _
      · exact ht _ _ _ (h1 _ _ hk (by omega) hc) (hb i (by omega))
    | false =>
      simp only [Bool.false_eq_true, if_false]
      refine ⟨by omega, fun i hi => ?_⟩
      by_cases e : i = k + 1
      · rw [e]; exact h2 _ _ hk (by omega) hc
      · exact hb i (by omega)
section
variable {X : Cx}
open PySem.W in
def rMinD (K : PySem.W.Frag) : List V → Hp → VK → Prop := fun vs H Q => ∃ (a : Addr) (xs : List V) (ds : List PyData) (le : PyData → PyData → Prop), vs = [V.ref a] ∧ SqL K H a xs ∧ TdAll H xs ds ∧ ds ≠ [] ∧
  (∀ d ∈ ds, ∀ e ∈ ds, alike d e = true ∧ d ≠ .none ∧ d.depth ≤ 60) ∧ (∀ d, le d d) ∧ (∀ d e f, le d e → le e f → le d f) ∧ (∀ d ∈ ds, ∀ e ∈ ds, dataLt d e = true → le d e) ∧ (∀ d ∈ ds, ∀ e ∈ ds, dataLt d e = false → le e d) ∧
  ∀ x d, d ∈ ds → Td H x d → (∀ e ∈ ds, le d e) → Q x H
theorem cr_minD (hc : X.calm = true) (hu : X.A.units + 64 < cLine) : CallR X (.builtin "min") (rMinD X.K) := by
  intro pins s σ H vs us Q I r h
  obtain ⟨a, xs, ds, le, rfl, hs, hd, hne, hal, hr, ht, l1, l2, q⟩ := h
  obtain ⟨its, rv, hl, hz⟩ := I.list hs
  rw [Vals.ref1 r]
  have len1 : its.length = ds.length := rv.length.symm.trans hd.length
  have h0 : 0 < ds.length := List.length_pos_iff.mpr hne
  have read : ∀ (i : Nat) (u : Value), its.toArray[i]? = some u → ∃ x d, xs[i]? = some x ∧ ds[i]? = some d ∧ d ∈ ds ∧ Td H x d ∧ RelV x u := fun i u e => by
    have e' : its[i]? = some u := by simpa using e
    have hi : i < xs.length := by rw [rv.length]; exact (List.getElem?_eq_some_iff.mp e').1
    have ex : xs[i]? = some xs[i] := List.getElem?_eq_getElem hi
    obtain ⟨d, hd1, hd2⟩ := hd.get ex
    obtain ⟨u2, hu2, r2⟩ := rv.get ex
    rw [e'] at hu2
    cases hu2
    exact ⟨_, d, ex, hd1, List.mem_of_getElem? hd1, hd2, r2⟩
  let bt : Nat → Nat → Bool := fun i j => PySem.W.dataLt (ds.getD i .none) (ds.getD j .none)
  have hbt : ∀ i d, ds[i]? = some d → ds.getD i .none = d := fun i d e => by rw [List.getD_eq_getElem?_getD, e]; rfl
  refine call_min_heap (bt := bt) (I.ok.hd hc) hl.isList (by rw [List.size_toArray, len1]; exact h0) (fun i j u v z Q' E' e1 e2 kz hq => ?_) fun v h' hv k' => ?_
  · obtain ⟨x, d, _, hd1, hm1, td1, r1⟩ := read i u e1
    obtain ⟨y, e, _, hd2, hm2, td2, r2⟩ := read j v e2
    obtain ⟨as, q1⟩ := Dp.reads I d x u (Td.dp d x td1) r1
    obtain ⟨bs, q2⟩ := Dp.reads I e y v (Td.dp e y td2) r2
    obtain ⟨h1, h2, h3⟩ := hal d hm1 e hm2
    have hq' : Q' (.bool (PySem.W.dataLt d e)) z := by
      have : bt i j = PySem.W.dataLt d e := by show PySem.W.dataLt _ _ = _; rw [hbt i d hd1, hbt j e hd2]
      rw [← this]
      exact hq
    refine PySem.W.rcLt_alike d e X.A.in1 z u v as bs (Reads.keeps kz q1) (Reads.keeps kz q2) h1 h2 ?_ X.prog X.w E' Q' hq'
    show X.A.units + 1 + min d.depth e.depth < cLine
    omega
  · have hsz : its.toArray.size - 1 < ds.length := by rw [List.size_toArray, len1]; omega
    obtain ⟨b1, b2⟩ := best_least (bt := bt) (le := fun i j => le (ds.getD i .none) (ds.getD j .none)) ds.length
      (fun i j hi hj hc => by
        have a1 := List.getElem?_eq_getElem hi
        have a2 := List.getElem?_eq_getElem hj
        have hc' : PySem.W.dataLt (ds.getD i .none) (ds.getD j .none) = true := hc
        rw [hbt i _ a1, hbt j _ a2] at hc' ⊢
        exact l1 _ (List.getElem_mem hi) _ (List.getElem_mem hj) hc')
      (fun i j hi hj hc => by
        have a1 := List.getElem?_eq_getElem hi
        have a2 := List.getElem?_eq_getElem hj
        have hc' : PySem.W.dataLt (ds.getD i .none) (ds.getD j .none) = false := hc
        rw [hbt i _ a1, hbt j _ a2] at hc' ⊢
        exact l2 _ (List.getElem_mem hi) _ (List.getElem_mem hj) hc')
      (fun i => hr _) (fun i j k => ht _ _ _) (its.toArray.size - 1) hsz
    obtain ⟨x, d, _, hd1, hm1, td1, r1⟩ := read _ v hv
    refine ⟨x, H, I.kept (t' := s.toks) k', r1, q x d hm1 td1 fun e he => ?_⟩
    obtain ⟨i, hi, rfl⟩ := List.mem_iff_getElem.mp he
    have := b2 i (by rw [List.size_toArray, len1]; omega)
    rw [hbt _ d hd1, hbt i _ (List.getElem?_eq_getElem hi)] at this
    exact this
end
end K61

/-! enumerate of a tuple, walked; the shorter forms of the rules that the defs use. -/
namespace PySem
open Sem (wp)
open AutoSeq1 (wpAny_loadPart')
theorem k61_enum_new (tp : Addr) (ob : Obj) (its : Array Value) (hit : ob.cls = .type "tuple") (hda : ∃ m, ob.data = .seq its m) :
    Meets (Builtin.«enumerate.__new__» ⟨[.type "enumerate", .ref tp], []⟩) (fun _ R s => s.heap.get? tp = some ob ∧
      R (.ok (.ret (.ref (s.heap.push { cls := .type "tuple_iterator", data := .fields #[.ref tp, .int 0 0] }).objs.size)))
        { s with heap := (s.heap.push { cls := .type "tuple_iterator", data := .fields #[.ref tp, .int 0 0] }).push { cls := .type "enumerate", data := .fields #[.none, .bool false, .ref s.heap.objs.size, rawInt 0, .none, .none] } }) :=
  .of_wp fun prog w A R s h => by
    obtain ⟨hp, g, d, tk, os⟩ := s
    obtain ⟨hl, h⟩ := h
    have hsub := sub_enumerate
    obtain ⟨m, hda⟩ := hda
    have hT : Heap.IsTuple (Shared.heap ⟨hp, g, d, tk, os⟩) tp its := ⟨_, hl, hit, m, hda⟩
    wp_walk using wpAny_loadPart' hl
    refine wpAny_stack_any fun st => wpAny_pure ?_
    split
    · rename_i c _ _ _ _ _
      cases (c == Value.type "enumerate") <;>
      · wp_walk using wpAny_loadPart' hl, wpAny_pyIter_tuple hT
        exact ⟨_, rfl, h⟩
    · wp_walk using wpAny_loadPart' hl, wpAny_pyIter_tuple hT
      exact ⟨_, rfl, h⟩
end PySem
namespace K61
open PySem PySem.Spec PyProof.Rows L2
section
variable {prog : Program} {w : World} {A : Around} {E : Value → Shared → Prop} {s : Shared}
theorem enum_tup {tp : Addr} {its : Array Value} {Q : Value → Shared → Prop} (hT : s.heap.IsTuple tp its)
    (h : ∀ h', IsEnum h' (s.heap.objs.size + 1) s.heap.objs.size 0 .none → h'.IsTupleIter s.heap.objs.size tp 0 → Kp s.heap h' → Q (.ref (s.heap.objs.size + 1)) { s with heap := h' }) :
    wpAny (model prog w) A (call (.type "enumerate") [.ref tp]) Q E s := by
  obtain ⟨ob, ho, hc, m, hd⟩ := hT
  have key := k61_enum_new tp ob its hc ⟨m, hd⟩
  let g1 := s.heap.push { cls := .type "tuple_iterator", data := .fields #[.ref tp, .int 0 0] }
  have z1 : g1.objs.size = s.heap.objs.size + 1 := Heap.size_push ..
  let eo : Obj := { cls := .type "enumerate", data := .fields #[.none, .bool false, .ref s.heap.objs.size, rawInt 0, .none, .none] }
  have he : IsEnum (g1.push eo) (s.heap.objs.size + 1) s.heap.objs.size 0 .none := by
    have q := Heap.get?_push_size g1 (o := eo) rfl
    rw [z1] at q
    exact q
  refine callType_new F.called_enumerate (by decide) (F.typeCall_enumerate_1 _) (F.newCall_enumerate_1 _) (fun obj => F.args_object_init_2 obj _) F.entry_enumerate_new key ⟨ho, ?_⟩
  show _ ∧ _
  rw [z1]
  exact ⟨⟨_, he, rfl⟩, h _ he ⟨_, Heap.get?_push_of_some _ (Heap.get?_push_size _ rfl), rfl, rfl⟩ fun b o x => Heap.get?_push_of_some _ (Heap.get?_push_of_some _ x)⟩
end
/-- the tuple at a, each item in a new pair with its number -/
def Itet (K : PySem.W.Frag) (a : Addr) (xs : List V) : It :=
  ⟨fun i H => SqT K H a xs ∧ i < xs.length, fun i H v H' => ∃ T x, v = .ref T ∧ H T = none ∧ H' = upd H T (.tup [.int (i : Nat), x]) ∧ xs[i]? = some x, fun i H => SqT K H a xs ∧ i = xs.length⟩
theorem turn_enumT {P : Program} {w : World} {K : PySem.W.Frag} {elts : List Expr} {kk : Nat} {tpos : Pos} (a e it : Addr) (xs : List V) (hae : a ≠ e) (hai : a ≠ it) :
    Turn P w K (.Tuple elts kk tpos) (Itet K a xs) [e, it] e (fun i h => ((∃ old, IsEnum h e it ((i : Nat) : Int) old) ∧ h.IsTupleIter it a i) ∧ e ≠ it) where
  mem := List.mem_cons_self
  obj := fun i h st b hb => by
    obtain ⟨⟨⟨old, he⟩, ⟨o, ho, hc, hd⟩⟩, _⟩ := st
    rcases List.mem_cons.mp hb with z | z
    · rw [z]
      exact ⟨_, he, fun v q => nomatch q⟩
    · rw [List.mem_singleton.mp z]
      exact ⟨o, ho, fun v q => by rw [hd] at q; cases q⟩
  keep := fun i h h' st k => let ⟨⟨⟨old, he⟩, hi⟩, hne⟩ := st; ⟨⟨⟨old, k e List.mem_cons_self _ he⟩, hi.at fun o q => k it (List.mem_cons_of_mem _ List.mem_cons_self) o q⟩, hne⟩
  item := by
    intro X hP hw hK hc i pins s σ H E I hf st hg
    subst hP hw hK
    obtain ⟨⟨⟨old, he⟩, hit⟩, hne⟩ := st
    obtain ⟨hq, hi⟩ := hg
    obtain ⟨its, rv, p, hz⟩ := I.tuple hq
    have hx : xs[i]? = some xs[i] := List.getElem?_eq_getElem hi
    obtain ⟨u, hu, ru⟩ := rv.get hx
    have hel : e < s.heap.objs.size := Heap.lt_size he
    have hil : it < s.heap.objs.size := by obtain ⟨_, q, _⟩ := hit; exact Heap.lt_size q
    have hlen : i < its.toArray.size := by rw [List.size_toArray, ← rv.length]; exact hi
    have D := Draws.tuple (prog := X.prog) (w := X.w) (A := X.A.in1) (show X.A.in1.handled = none from I.ok.hd hc) it a hai its.toArray
    refine wpAny_pyNext_enum_itemC D he ⟨hit, show s.heap.IsTuple a its.toArray from p⟩ hlen hne (by
      intro hm
      rcases List.mem_cons.mp hm with z | z
      · exact hne z
      · exact hae (List.mem_singleton.mp z).symm) fun x h' tk hx' ho hst' hT hsz hk => ?_
    have hxu : x = u := by
      have e1 : its.toArray[i]? = some x := hx'
      have e2 : its[i]? = some x := by simpa using e1
      rw [hu] at e2
      exact (Option.some.inj e2).symm
    subst hxu
    refine ⟨_, rfl, wpAny_letOwnedTupleGo_enum (s := { s with heap := h', toks := tk + 1 }) ho fun h'' he' sb => ?_⟩
    have hT2 : h''.get? s.heap.objs.size = some { cls := .type "tuple", data := .seq #[.int i tk, x] } := (sb.2 _ (Nat.ne_of_gt hel)).trans hT
    have new : ObjOk X.prog X.w (upd H s.heap.objs.size (.tup [.int (i : Nat), xs[i]])) h'' s.heap.objs.size (.tup [.int (i : Nat), xs[i]]) :=
      ⟨by show 2 ≤ sizeLine; decide, [.int i tk, x], .cons ⟨_, rfl⟩ (.cons ru .nil), ⟨_, hT2, rfl, _, rfl⟩⟩
    have J : Inv X pins σ (upd H s.heap.objs.size (.tup [.int (i : Nat), xs[i]])) { s with heap := h'', toks := tk + 1 } :=
      I.turnedNew (ch := [e, it]) (fun b ob hb q => by
        have b1 : b ≠ e := fun z => hb (by rw [z]; exact List.mem_cons_self)
        have b2 : b ≠ it := fun z => hb (by rw [z]; exact List.mem_cons_of_mem _ List.mem_cons_self)
        exact (sb.2 b b1).trans (hk b ob b1 b2 q)) hf (Nat.le_refl _) new
    refine ⟨.ref s.heap.objs.size, _, J, rfl, ⟨_, xs[i], rfl, I.hok.fresh (Nat.le_refl _), rfl, hx⟩, ⟨⟨⟨x, ?_⟩, hst'.1.at fun o q => (sb.2 it (Ne.symm hne)).trans q⟩, hne⟩, fun b hb => ?_⟩
    · have e1 : ((i + 1 : Nat) : Int) = (i : Int) + 1 := by omega
      rw [e1]
      exact he'
    · have hb' : b < s.heap.objs.size := by
        rcases List.mem_cons.mp hb with z | z
        · rw [z]; exact hel
        · rw [List.mem_singleton.mp z]; exact hil
      rw [upd_ne (Nat.ne_of_lt hb')]
      exact (hf b hb).1
  done := by
    intro X hP hw hK hc i pins s σ H E I hf st hg
    subst hP hw hK
    obtain ⟨⟨⟨old, he⟩, hit⟩, hne⟩ := st
    obtain ⟨hq, hx⟩ := hg
    obtain ⟨its, rv, p, hz⟩ := I.tuple hq
    obtain ⟨f0, f1, f2, f3, f4, f5⟩ := hf it (List.mem_cons_of_mem _ List.mem_cons_self)
    have D := Draws.tuple (prog := X.prog) (w := X.w) (A := X.A.in1) (show X.A.in1.handled = none from I.ok.hd hc) it a hai its.toArray
    have hn : its.toArray.size = i := by rw [List.size_toArray, ← rv.length]; exact hx.symm
    rw [hn] at D
    exact wpAny_pyNext_enum_endD D he ⟨hit, show s.heap.IsTuple a its.toArray from p⟩ fun h' eb => ⟨rfl, I.turned (t' := s.toks) (fun b o hb q => eb b o hb q) f0 f1 f3 f4 f5⟩
  self := fun A i s Q E st h => let ⟨⟨⟨_, he⟩, _⟩, _⟩ := st; wpAny_pyIter_enum he h
def iEnumT (K : PySem.W.Frag) (ta : TA) : TI := fun σ H R => ta σ H fun vs H1 => ∃ a xs, vs = [.ref a] ∧ SqT K H1 a xs ∧ R (Itet K a xs) H1
theorem pi_enumT {X : Cx} {e : Expr} {ta : TA} {p pos tpos : Pos} {elts : List Expr} {kk : Nat} (hg : Gl X "enumerate") (hm : X.mg "enumerate" = none) (ha : PA X [e] ta) (hs : starEach [e] X.env = [(false, eval e X.env)] := by rfl) :
    PI X (.Tuple elts kk tpos) (.Call (.Name "enumerate" p) [e] [] pos) (iEnumT X.K ta) := by
  refine ⟨fun pins s σ H R I h => ?_⟩
  refine Call_ (ld_blt I hg hm boot_enumerate (PyProof.Rows.callWith_type1 (thn (ha.run pos pins s σ H _ I h) fun us s1 ⟨vs, H1, I1, r1, q1⟩ => ?_) hs rfl))
  obtain ⟨a, xs, ex, hq, q⟩ := q1
  subst ex
  rw [Vals.ref1 r1]
  obtain ⟨its, rv, pt, hz⟩ := I1.tuple hq
  have hlt : a < s1.heap.objs.size := pt.lt
  refine enum_tup (show s1.heap.IsTuple a its.toArray from pt) fun h' he hit hk => wpAny_pyIter_enum he ?_
  have J : Inv X pins σ H1 { s1 with heap := h' } := I1.kept (t' := s1.toks) hk
  refine ⟨s1.heap.objs.size + 1, [s1.heap.objs.size + 1, s1.heap.objs.size], _, _, H1, rfl, J, turn_enumT a (s1.heap.objs.size + 1) s1.heap.objs.size xs (Nat.ne_of_lt (Nat.lt_succ_of_lt hlt)) (Nat.ne_of_lt hlt), ⟨⟨⟨.none, he⟩, hit⟩, Nat.succ_ne_self _⟩, fun b hb => ?_, q⟩
  have hle : s1.heap.objs.size ≤ b := by
    rcases List.mem_cons.mp hb with z | z
    · rw [z]; exact Nat.le_succ _
    · rw [List.mem_singleton.mp z]; exact Nat.le_refl _
  exact I1.fpOk hle (I1.hok.fresh hle)
theorem walk_enumT {K : PySem.W.Frag} {a : Addr} {xs : List V} : Walk (Itet K a xs) xs.length (fun H => SqT K H a xs) (fun i H v H' => ∃ T x, v = .ref T ∧ H T = none ∧ H' = upd H T (.tup [.int (i : Nat), x]) ∧ xs[i]? = some x) :=
  ⟨fun _ _ hi q => ⟨q, hi⟩, fun _ q => ⟨q, rfl⟩, fun _ _ _ _ _ _ y => y⟩
end K61

/-! The rules with the written part named: for the blocks of comprehensions. -/
namespace K61
open PySem PySem.Spec PyProof.Rows L2
section
variable {X : Cx}
theorem ix_tupK (K : PySem.W.Frag) (h : X.K = K := by rfl) : IxR X (rIxT K) := h ▸ ix_tup
theorem ix_listK (K : PySem.W.Frag) (h : X.K = K := by rfl) : IxR X (rIxL K) := h ▸ ix_list
theorem op_in_seqK (K : PySem.W.Frag) (h : X.K = K := by rfl) : OpR X (compareOp .In) (rIn K false) := h ▸ op_in_seq
theorem op_notIn_seqK (K : PySem.W.Frag) (h : X.K = K := by rfl) : OpR X (compareOp .NotIn) (rIn K true) := h ▸ op_notIn_seq
theorem op_eqDK (K : PySem.W.Frag) (hu : X.A.units + 64 < cLine) (h : X.K = K := by rfl) : OpR X (compareOp .Eq) (rEqD K) := h ▸ op_eqD hu
theorem op_neDK (K : PySem.W.Frag) (hu : X.A.units + 64 < cLine) (h : X.K = K := by rfl) : OpR X (compareOp .NotEq) (rNeD K) := h ▸ op_neD hu
theorem op_inDK (K : PySem.W.Frag) (hu : X.A.units + 65 < cLine) (h : X.K = K := by rfl) : OpR X (compareOp .In) (rInD K) := h ▸ op_inD hu
theorem op_catAK (K : PySem.W.Frag) (h : X.K = K := by rfl) : OpR X (binaryOp .Add) (rCatA K) := h ▸ op_catA
def rLenS (K : PySem.W.Frag) : List V → Hp → VK → Prop := fun xs H Q => ∃ p ys, xs = [.ref p] ∧ (SqL K H p ys ∨ SqT K H p ys) ∧ Q (.int ys.length) H
theorem call_lenK (K : PySem.W.Frag) (h : X.K = K := by rfl) : CallR X (.builtin "len") (rLenS K) := h ▸ call_len_seq
theorem pg_tupK (K : PySem.W.Frag) {pos : Pos} {es : List Expr} {k : Nat} {t : TGs} {n : Nat} (hc : X.calm = true) (h : PGs X es t) (hK : X.K = K := by rfl)
    (hn : (assignEach es X.env).length = n := by rfl) (hst : (assignEach es X.env).findIdx? (·.1) = none := by rfl) : PG X (.Tuple es k pos) (gTup K n t) := hK ▸ pg_tup hc h hn hst
theorem pe_getNK (P : Program) (w : World) {o i : Expr} {td ty : TE} {pos : Pos} (hu : X.A.units + 64 < cLine) (ho : PE X o td) (hi : PE X i ty) (hs : NoSl i) (hP : X.prog = P := by rfl) (hw : X.w = w := by rfl) : PE X (.Subscript o i pos) (tGetN P w td ty) := by
  subst hP hw
  exact pe_getN hu ho hi hs
end
end K61

/-! The small defs of the program: counts, plans, slots. -/
namespace K61
open PySem PySem.Spec PyProof.Rows L2
def top (i : Nat) : Stmt := PySem.Challenge.pw_buildroom_k61_whole_stuck.main.body.getD i (.Pass ⟨0, 0, 0, 0⟩)
/-- what the module has not bound -/
structure Gb (mg : Str → Option Value) : Prop where
  isi : mg "isinstance" = none
  int : mg "int" = none
  bool : mg "bool" = none
  str : mg "str" = none
  tuple : mg "tuple" = none
  list : mg "list" = none
  all : mg "all" = none
  range : mg "range" = none
  len : mg "len" = none
  enum : mg "enumerate" = none
  sorted : mg "sorted" = none
  min : mg "min" = none
  max : mg "max" = none
/-- the module's constants -/
structure Cn (mg : Str → Option Value) : Prop where
  jobs : ∃ u, mg "PLAN_MOST_JOBS" = some u ∧ RelV (.int 8) u
  length : ∃ u, mg "PLAN_MOST_LENGTH" = some u ∧ RelV (.int 99) u
  room : ∃ u, mg "PLAN_MOST_JOB_ROOM" = some u ∧ RelV (.int 9) u
  job : ∃ u, mg "PLAN_JOB" = some u ∧ RelV (.int 3) u
  slots : ∃ u, mg "SLOT_MOST" = some u ∧ RelV (.int 8) u
  start : ∃ u, mg "SLOT_START" = some u ∧ RelV (.str (mvS true)) u
  stop : ∃ u, mg "SLOT_END" = some u ∧ RelV (.str (mvS false)) u
theorem pe_cn {X : Cx} {x : Str} {v : V} {pos : Pos} (hg : Gl X x) (h : ∃ u, X.mg x = some u ∧ RelV v u) (hd : (x == ("__debug__" : Str)) = false := by decide) : PE X (.Name x pos) (tC v) := by
  obtain ⟨u, h1, h2⟩ := h
  exact pe_glob hg h1 h2 hd
/-- plans -/
abbrev Job := Nat × List Nat × Nat
def jobD (j : Job) : PyData := .tuple [.int (j.1 : Int), tupN j.2.1, .int (j.2.2 : Int)]
def planD (p : List Job) : PyData := .tuple (p.map jobD)
def needs (p : List Job) : List (List Nat) := p.map fun j => j.2.1
structure JobOk (i : Nat) (j : Job) : Prop where
  len : 1 ≤ j.1 ∧ j.1 ≤ 99
  room : j.2.2 ≤ 9
  asc : j.2.1.Pairwise (· < ·)
  below : ∀ x ∈ j.2.1, x < i
structure PlanOk (p : List Job) : Prop where
  few : 1 ≤ p.length ∧ p.length ≤ 8
  job : ∀ (i : Nat) (j : Job), p[i]? = some j → JobOk i j
theorem needs_length (p : List Job) : (needs p).length = p.length := List.length_map _
theorem needs_at {p : List Job} {i : Nat} {j : Job} (h : p[i]? = some j) : (needs p).getD i [] = j.2.1 := by
  unfold needs
  rw [List.getD_eq_getElem?_getD, List.getElem?_map, h]
  rfl
theorem PlanOk.below {p : List Job} (h : PlanOk p) : ∀ j, j < (needs p).length → ∀ x ∈ (needs p).getD j [], x < j := fun j hj x hx => by
  rw [needs_length] at hj
  have e : p[j]? = some p[j] := List.getElem?_eq_getElem hj
  rw [needs_at e] at hx
  exact (h.job j _ e).below x hx
theorem job_inv {H : Hp} {v : V} {j : Job} (h : Td H v (jobD j)) : ∃ a b, v = .ref a ∧ H a = some (.tup [.int (j.1 : Int), .ref b, .int (j.2.2 : Int)]) ∧ H b = some (.tup (vN j.2.1)) := by
  obtain ⟨a, vs, rfl, e, t⟩ := h.tup_inv
  obtain ⟨x, y, z, rfl, h1, h2, h3⟩ := t.three
  obtain ⟨b, rfl, hb⟩ := tupN_inv h2
  rw [h1.int_inv, h3.int_inv] at e
  exact ⟨a, b, rfl, e, hb⟩
theorem plan_inv {H : Hp} {v : V} {p : List Job} (h : Td H v (planD p)) : ∃ a vs, v = .ref a ∧ H a = some (.tup vs) ∧ TdAll H vs (p.map jobD) ∧ vs.length = p.length := by
  obtain ⟨a, vs, rfl, e, t⟩ := h.tup_inv
  exact ⟨a, vs, rfl, e, t, by rw [t.length, List.length_map]⟩
theorem small {n m : Nat} (h : n ≤ m) (k : m ≤ 16777216 := by decide) : n ≤ sizeLine := by rw [sizeLine_eq]; omega
theorem smaller {n m : Nat} (h : n ≤ m) (k : m < 16777216 := by decide) : n < sizeLine := by rw [sizeLine_eq]; omega
theorem same_new {H : Hp} {p : Addr} {o : HO} (h : H p = none) : Same H (upd H p o) := fun b x e => by
  rw [upd_ne (ne_of_none e h)]
  exact e
section
variable {P : Program} {w : World} {K : PySem.W.Frag} {mg : Str → Option Value} {base : Heap}
/-! is_count(thing, low, high) of a number -/
abbrev sCount : Stmt := top 5
theorem scCount : FnScope ["thing", "low", "high"] ["thing", "low", "high"] (defScope sCount) := ⟨rfl, rfl, rfl, by decide +kernel, rfl, by decide +kernel, by decide +kernel⟩
def spCount : Sp := fun vs H Q _ => ∃ i lo hi : Int, vs = [.int i, .int lo, .int hi] ∧ Q (.bl (decide (lo ≤ i) && decide (i ≤ hi))) H
theorem ok_count {f : Addr} {fd : FuncData} (F : Fun K "is_count" "is_count" sCount f fd) (G : Gb mg) : FnOk P w K mg base CX0 1 f fd ["thing", "low", "high"] spCount := by
  refine F.ok scCount (fun vs H Q E h => ?_) (fun cdv A outer s H vs Q E hr h => ?_)
  · obtain ⟨i, lo, hi, rfl, _⟩ := h
    rfl
  · obtain ⟨i, lo, hi, rfl, q⟩ := h
    refine ⟨_, pss_one (ps_ret (pe_and (pe_callB call_isi (by rfl) G.isi PyProof.Rows.boot_isinstance (pa_cons (pv 0) (pa_cons (pe_bltn (by rfl) G.int PyProof.Rows.boot_int (v := .ty "int") rfl) pa_nil)))
      (pe_and (pe_not (pe_callB call_isi (by rfl) G.isi PyProof.Rows.boot_isinstance (pa_cons (pv 0) (pa_cons (pe_bltn (by rfl) G.bool PyProof.Rows.boot_bool (v := .ty "bool") rfl) pa_nil))))
        (pe_one (pe_chain op_le op_le (pv 1) (pv 0) (pv 2)))))), ?_⟩
    refine ⟨_, rfl, _, _, _, _, true, rfl, .ty _, .base (.int i), kit_ty (by decide +kernel), true, rfl, iteT ?_⟩
    refine ⟨_, rfl, _, _, _, _, false, rfl, .ty _, .base (.int i), kit_ty (by decide +kernel), false, rfl, true, rfl, iteT ?_⟩
    refine ⟨_, rfl, _, rfl, lo, i, rfl, rfl, _, rfl, ite2 (fun e => ?_) (fun e => ?_)⟩
    · refine ⟨_, rfl, i, hi, rfl, rfl, ?_⟩
      rw [e] at q
      exact q
    · have e' : decide (lo ≤ i) = false := by simpa using e
      rw [e'] at q
      exact q
/-! plan_is_rising(thing, many) of an ascending tuple -/
abbrev sRise : Stmt := top 11
theorem scRise : FnScope ["thing", "many", "one", "at"] ["thing", "many"] (defScope sRise) := ⟨rfl, rfl, rfl, by decide +kernel, rfl, by decide +kernel, by decide +kernel⟩
theorem same_put {H H' : Hp} {D : Addr} {o : HO} (s : Same H H') (h : H D = none) : Same H (upd H' D o) := fun b x e => by
  rw [upd_ne (ne_of_none e h)]
  exact s _ _ e
theorem trues (n : Nat) : (List.replicate n true).all id = true := by
  rw [List.all_eq_true]
  intro b hb
  exact (List.mem_replicate.mp hb).2
def spRise : Sp := fun vs H Q _ => ∃ (t : V) (l : List Nat) (m : Nat), vs = [t, .int (m : Int)] ∧ Td H t (tupN l) ∧ l.length ≤ 8 ∧ l.Pairwise (· < ·) ∧ (∀ x ∈ l, x < m) ∧ ∀ H', Same H H' → Q (.bl true) H'
theorem ok_rise {f fC : Addr} {fd fdC : FuncData} (F : Fun K "plan_is_rising" "plan_is_rising" sRise f fd) (G : Gb mg) (FC : Fun K "is_count" "is_count" sCount fC fdC) (bC : Binds K fdC ["thing", "low", "high"] []) (gC : mg "is_count" = some (.ref fC)) :
    FnOk P w K mg base CX0 2 f fd ["thing", "many"] spRise := by
  have GC : FnOk P w K mg base CX0 1 fC fdC ["thing", "low", "high"] spCount := ok_count FC G
  refine F.ok scRise (fun vs H Q E h => ?_) (fun cdv A outer s H vs Q E hr h => ?_)
  · obtain ⟨t, l, m, rfl, _⟩ := h
    rfl
  · obtain ⟨t, l, m, rfl, ht, hl, hasc, hbel, q⟩ := h
    obtain ⟨a, rfl, ha⟩ := tupN_inv ht
    refine ⟨_, pss_cons (ps_if (PW.pt (pw_or (pt_not (pt_val (pe_callB call_isi (by rfl) G.isi PyProof.Rows.boot_isinstance (pa_cons (pv 0) (pa_cons (pe_bltn (by rfl) G.tuple PyProof.Rows.boot_tuple (v := .ty "tuple") rfl) pa_nil)))))
        (pw_or1 (pt_not (pt_val (pe_callB (cr_all rfl) (by rfl) G.all PyProof.Rows.boot_all (pa_cons (pe_lc (own := [("one", 2)]) (g := gName 2) (tt := tYes) rfl scRise.nd (pi_tup (pv 0)) (blkOk_by (own := [("one", 2)]) (N := ["thing", "many", "one", "at"]) (sc := defScope sRise) (by decide +kernel))
            (fun _ _ _ _ _ => pg_name (i := 2) scRise.nd rfl (Or.inl rfl)) (fun _ _ _ _ _ => pts_nil) (fun _ _ _ _ _ => pe_call GC hr (by rfl) gC FC.kp bC .nil pass0 (pa_cons (pv 2) (pa_cons pe_int (pa_cons (pe_op op_sub (pv 1) pe_int) pa_nil))))) pa_nil)))))))
        (pss_one (ps_ret pe_bl)) pss_nil)
      (pss_one (ps_ret (pe_callB (cr_all rfl) (by rfl) G.all PyProof.Rows.boot_all (pa_cons (pe_lc (own := [("at", 3)]) (g := gName 3) (tt := tYes) rfl scRise.nd (pi_range2 (by rfl) G.range (pa_cons pe_int (pa_cons (pe_callB call_len_seq (by rfl) G.len PySem.boot_len (pa_cons (pv 0) pa_nil)) pa_nil)))
          (blkOk_by (own := [("at", 3)]) (N := ["thing", "many", "one", "at"]) (sc := defScope sRise) (by decide +kernel))
          (fun _ _ _ _ _ => pg_name (i := 3) scRise.nd rfl (Or.inl rfl)) (fun _ _ _ _ _ => pts_nil) (fun _ _ _ _ _ => pe_cmpR op_lt (pe_ix (ix_tupK K) (pv 0) (pe_op op_sub (pv 3) pe_int) (fun _ _ => rfl)) (pe_ix (ix_tupK K) (pv 0) (pv 3) (fun _ _ => rfl)) (nomark _))) pa_nil)))), ?_⟩
    have lenV : (vN l).length = l.length := List.length_map _
    refine ⟨_, rfl, _, _, _, _, true, rfl, .ty _, .base (.tup ha), kit_ty (by decide +kernel), true, rfl, iteF ?_⟩
    refine ⟨_, rfl, a, rfl, ⟨_, SqT.of ha⟩, fun D hD => lc_tup (K := K) (a := a) (xs := vN l) (fun i H' => Same H H' ∧ H' D = some (.lst ((List.replicate i true).map V.bl))) ⟨same_new hD, upd_same⟩ (fun i H' _ p => SqT.of (p.1 _ _ ha)) ?_ ?_⟩
    · rintro i x H' hx ⟨sm, hL⟩
      have hi : i < l.length := by rw [← lenV]; exact (List.getElem?_eq_some_iff.mp hx).1
      have ex : x = V.int (l[i] : Int) := by
        unfold vN at hx
        rw [List.getElem?_map, List.getElem?_eq_getElem hi] at hx
        exact (Option.some.inj hx).symm
      subst ex
      refine ⟨rfl, ?_⟩
      refine ⟨_, rfl, _, rfl, _, _, rfl, rfl, _, _, _, rfl, ?_⟩
      have h1 : l[i] < m := hbel _ (List.getElem_mem hi)
      have e1 : (decide ((0 : Int) ≤ (l[i] : Int)) && decide ((l[i] : Int) ≤ (m : Int) - 1)) = true := by
        rw [decide_eq_true (by omega), decide_eq_true (by omega)]
        rfl
      rw [e1]
      refine ⟨_, hL, by rw [List.length_map, List.length_replicate]; exact smaller (m := 8) (by omega), same_put sm hD, ?_⟩
      rw [upd_same, List.replicate_succ', List.map_append]
      rfl
    · rintro H1 ⟨sm, hL⟩
      rw [lenV] at hL
      refine ⟨D, _, rfl, SqL.of hL, true, ?_, iteF ?_⟩
      · rw [trues]
      · have ha1 : H1 a = some (.tup (vN l)) := sm _ _ ha
        refine ⟨_, rfl, a, _, rfl, .inr (SqT.of ha1), 1, _, rfl, ⟨by decide, by decide, by rw [lenV]; omega, by rw [lenV]; omega⟩, fun D2 hD2 => lc_range (lo := 1) (n := ((vN l).length - 1 : Int).toNat) (fun i H' => Same H1 H' ∧ H' D2 = some (.lst ((List.replicate i true).map V.bl))) ⟨same_new hD2, upd_same⟩ ?_ ?_⟩
        · rintro i H' hi ⟨sm2, hL2⟩
          have hi2 : i + 1 < l.length := by rw [lenV] at hi; omega
          have ha2 : H' a = some (.tup (vN l)) := sm2 _ _ ha1
          have g0 : (vN l)[i]? = some (V.int (l[i] : Int)) := by unfold vN; rw [List.getElem?_map, List.getElem?_eq_getElem (by omega)]; rfl
          have g1 : (vN l)[i + 1]? = some (V.int (l[i + 1] : Int)) := by unfold vN; rw [List.getElem?_map, List.getElem?_eq_getElem hi2]; rfl
          refine ⟨rfl, ?_⟩
          refine ⟨_, rfl, _, rfl, 1 + (i : Int), 1, rfl, rfl, a, _, _, _, rfl, rfl, SqT.of ha2, at_of (j := i) (by omega) g0, ?_⟩
          refine ⟨_, rfl, _, rfl, a, _, _, _, rfl, rfl, SqT.of ha2, at_of (j := i + 1) (by omega) g1, _, _, rfl, rfl, ?_⟩
          have hlt : l[i] < l[i + 1] := List.pairwise_iff_getElem.mp hasc i (i + 1) (by omega) hi2 (Nat.lt_succ_self i)
          dsimp only
          rw [decide_eq_true (show (l[i] : Int) < (l[i + 1] : Int) by omega)]
          refine ⟨_, hL2, by rw [List.length_map, List.length_replicate]; exact smaller (m := 8) (by omega), same_put sm2 hD2, ?_⟩
          rw [upd_same, List.replicate_succ', List.map_append]
          rfl
        · rintro H2 ⟨sm2, hL2⟩
          refine ⟨D2, _, rfl, SqL.of hL2, ?_⟩
          rw [trues]
          exact q _ (sm.trans sm2)
/-! need_plan(thing) of a plan -/
abbrev sNeed : Stmt := top 12
theorem scNeed : FnScope ["thing", "index", "job"] ["thing"] (defScope sNeed) := ⟨rfl, rfl, rfl, by decide +kernel, rfl, by decide +kernel, by decide +kernel⟩
def spNeed : Sp := fun vs H Q _ => ∃ (t : V) (p : List Job), vs = [t] ∧ Td H t (planD p) ∧ PlanOk p ∧ ∀ H', Same H H' → Q .non H'
theorem ok_need {f fC fR : Addr} {fd fdC fdR : FuncData} (F : Fun K "need_plan" "need_plan" sNeed f fd) (G : Gb mg) (C : Cn mg) (FC : Fun K "is_count" "is_count" sCount fC fdC) (bC : Binds K fdC ["thing", "low", "high"] []) (gC : mg "is_count" = some (.ref fC))
    (FR : Fun K "plan_is_rising" "plan_is_rising" sRise fR fdR) (bR : Binds K fdR ["thing", "many"] []) (gR : mg "plan_is_rising" = some (.ref fR)) : FnOk P w K mg base CX0 3 f fd ["thing"] spNeed := by
  have GC : FnOk P w K mg base CX0 1 fC fdC ["thing", "low", "high"] spCount := ok_count FC G
  have GR : FnOk P w K mg base CX0 2 fR fdR ["thing", "many"] spRise := ok_rise FR G FC bC gC
  refine F.ok scNeed (fun vs H Q E h => ?_) (fun cdv A outer s H vs Q E hr h => ?_)
  · obtain ⟨t, p, rfl, _⟩ := h
    rfl
  · obtain ⟨t, p, rfl, ht, ok, q⟩ := h
    obtain ⟨a, jv, rfl, ha, hj, hl⟩ := plan_inv ht
    have hr1 : Room 1 _ := hr.mono (by decide)
    refine ⟨_, pss_cons (ps_if (PW.pt (pw_or (pt_not (pt_val (pe_callB call_isi (by rfl) G.isi PyProof.Rows.boot_isinstance (pa_cons (pv 0) (pa_cons (pe_bltn (by rfl) G.tuple PyProof.Rows.boot_tuple (v := .ty "tuple") rfl) pa_nil)))))
        (pw_or1 (pt_not (pt_chain op_le op_le pe_int (pe_callB call_len_seq (by rfl) G.len PySem.boot_len (pa_cons (pv 0) pa_nil)) (pe_cn (by rfl) C.jobs)))))) pss_never pss_nil)
      (pss_one (ps_for PassesOwn.never rfl (pi_enumT (by rfl) G.enum (pa_cons (pv 0) pa_nil)) (pg_tup rfl (pgs_cons (pg_name (i := 1) scNeed.nd rfl (Or.inl rfl)) (pgs_cons (pg_name (i := 2) scNeed.nd rfl (Or.inl rfl)) pgs_nil)))
        (pss_cons (ps_if (PW.pt (pw_or (pt_not (pt_val (pe_callB call_isi (by rfl) G.isi PyProof.Rows.boot_isinstance (pa_cons (pv 2) (pa_cons (pe_bltn (by rfl) G.tuple PyProof.Rows.boot_tuple (v := .ty "tuple") rfl) pa_nil)))))
            (pw_or (pt_cmpR op_ne (pe_callB call_len_seq (by rfl) G.len PySem.boot_len (pa_cons (pv 2) pa_nil)) (pe_cn (by rfl) C.job) (nomark _))
              (pw_or1 (pt_not (pt_val (pe_call GC hr1 (by rfl) gC FC.kp bC .nil pass0 (pa_cons (pe_ix ix_tup (pv 2) pe_int (fun _ _ => rfl)) (pa_cons pe_int (pa_cons (pe_cn (by rfl) C.length) pa_nil)))))))))) pss_never pss_nil)
          (pss_one (ps_if (PW.pt (pw_or (pt_not (pt_val (pe_call GR hr (by rfl) gR FR.kp bR .nil pass0 (pa_cons (pe_ix ix_tup (pv 2) pe_int (fun _ _ => rfl)) (pa_cons (pv 1) pa_nil)))))
            (pw_or1 (pt_not (pt_val (pe_call GC hr1 (by rfl) gC FC.kp bC .nil pass0 (pa_cons (pe_ix ix_tup (pv 2) pe_int (fun _ _ => rfl)) (pa_cons pe_int (pa_cons (pe_cn (by rfl) C.room) pa_nil))))))))) pss_never pss_nil))))), ?_⟩
    refine ⟨_, rfl, _, _, _, _, true, rfl, .ty _, .base (.tup ha), kit_ty (by decide +kernel), true, rfl, ?_⟩
    refine ⟨_, rfl, a, jv, rfl, .inr (SqT.of ha), 1, _, rfl, rfl, _, rfl, ?_⟩
    have hb := ok.few
    rw [hl]
    rw [decide_eq_true (show (1 : Int) ≤ (p.length : Int) by omega)]
    refine ⟨_, _, rfl, rfl, _, rfl, ?_⟩
    rw [decide_eq_true (show (p.length : Int) ≤ (8 : Int) by omega)]
    refine ⟨_, rfl, a, jv, rfl, SqT.of ha, for_it walk_enumT (fun i σ H' => ∃ y z, σ = [some (.ref a), y, z] ∧ Same H H') ⟨none, none, rfl, Same.refl H⟩ (fun i σ H' _ ⟨_, _, _, sm⟩ => SqT.of (sm _ _ ha)) ?_ ?_⟩
    · rintro i x σ H1 H2 hi ⟨y, z, rfl, sm⟩ ⟨T, v, rfl, hT, rfl, hv⟩
      have sm2 : Same H (upd H1 T (.tup [.int (i : Nat), v])) := sm.trans (same_new hT)
      obtain ⟨j, hpj, td⟩ := hj.at hv
      obtain ⟨b, c, rfl, hb1, hc1⟩ := job_inv td
      have hb2 := sm2 _ _ hb1
      have hc2 := sm2 _ _ hc1
      have jo := ok.job i j hpj
      refine ⟨T, _, rfl, SqT.of upd_same, rfl, _, _, rfl, _, _, rfl, rfl, ?_⟩
      refine ⟨_, rfl, _, _, _, _, true, rfl, .ty _, .base (.tup hb2), kit_ty (by decide +kernel), true, rfl, ?_⟩
      refine ⟨_, rfl, b, _, rfl, .inr (SqT.of hb2), rfl, _, rfl, ?_⟩
      refine ⟨_, rfl, b, _, 0, _, rfl, rfl, SqT.of hb2, atI_nat (j := 0) rfl, _, _, _, rfl, true, ?_, ?_⟩
      · have h1 := jo.len
        rw [decide_eq_true (show (1 : Int) ≤ (j.1 : Int) by omega), decide_eq_true (show (j.1 : Int) ≤ 99 by omega)]
        rfl
      · refine ⟨_, rfl, b, _, 1, _, rfl, rfl, SqT.of hb2, atI_nat (j := 1) rfl, _, rfl, .ref c, j.2.1, i, rfl, tupN_td hc2, ?_, jo.asc, jo.below, fun H3 sm3 => ⟨true, rfl, ?_⟩⟩
        · have hi8 : i < p.length := by rw [← hl]; exact hi
          have h4 : j.2.1.length ≤ (List.range i).length := List.Nodup.length_le_of_subset (nodup_of_lt jo.asc) fun x hx => List.mem_range.mpr (jo.below x hx)
          rw [List.length_range] at h4
          omega
        · refine ⟨_, rfl, b, _, 2, _, rfl, rfl, SqT.of (sm3 _ _ hb2), atI_nat (j := 2) rfl, _, _, _, rfl, true, ?_, ?_⟩
          · have h1 := jo.room
            rw [decide_eq_true (show (0 : Int) ≤ (j.2.2 : Int) by omega), decide_eq_true (show (j.2.2 : Int) ≤ 9 by omega)]
            rfl
          · exact ⟨_, _, rfl, sm2.trans sm3⟩
    · rintro σ H1 ⟨y, z, rfl, sm⟩
      exact q _ sm
/-! need_slots(thing) -/
abbrev sNSlots : Stmt := top 17
theorem scNSlots : FnScope ["thing"] ["thing"] (defScope sNSlots) := ⟨rfl, rfl, rfl, by decide +kernel, rfl, by decide +kernel, by decide +kernel⟩
def spNSlots : Sp := fun vs H Q _ => ∃ (n : Nat), vs = [.int (n : Int)] ∧ 1 ≤ n ∧ n ≤ 8 ∧ ∀ H', Same H H' → Q .non H'
theorem ok_nslots {f fC : Addr} {fd fdC : FuncData} (F : Fun K "need_slots" "need_slots" sNSlots f fd) (G : Gb mg) (C : Cn mg) (FC : Fun K "is_count" "is_count" sCount fC fdC) (bC : Binds K fdC ["thing", "low", "high"] []) (gC : mg "is_count" = some (.ref fC)) :
    FnOk P w K mg base CX0 2 f fd ["thing"] spNSlots := by
  have GC : FnOk P w K mg base CX0 1 fC fdC ["thing", "low", "high"] spCount := ok_count FC G
  refine F.ok scNSlots (fun vs H Q E h => ?_) (fun cdv A outer s H vs Q E hr h => ?_)
  · obtain ⟨n, rfl, _⟩ := h
    rfl
  · obtain ⟨n, rfl, h1, h2, q⟩ := h
    refine ⟨_, pss_one (ps_if (pt_not (pt_val (pe_call GC hr (by rfl) gC FC.kp bC .nil pass0 (pa_cons (pv 0) (pa_cons pe_int (pa_cons (pe_cn (by rfl) C.slots) pa_nil)))))) pss_never pss_nil), ?_⟩
    refine ⟨_, rfl, _, _, _, rfl, true, ?_, q _ (Same.refl H)⟩
    rw [decide_eq_true (show (1 : Int) ≤ (n : Int) by omega), decide_eq_true (show (n : Int) ≤ 8 by omega)]
    rfl
/-! need_slots_asked(plan, slots) -/
abbrev sAsked : Stmt := top 22
theorem scAsked : FnScope ["plan", "slots"] ["plan", "slots"] (defScope sAsked) := ⟨rfl, rfl, rfl, by decide +kernel, rfl, by decide +kernel, by decide +kernel⟩
def spAsked : Sp := fun vs H Q _ => ∃ (t : V) (p : List Job) (n : Nat), vs = [t, .int (n : Int)] ∧ Td H t (planD p) ∧ PlanOk p ∧ 1 ≤ n ∧ n ≤ 8 ∧ ∀ H', Same H H' → Q .non H'
theorem ok_asked {f fN fS : Addr} {fd fdN fdS : FuncData} (F : Fun K "need_slots_asked" "need_slots_asked" sAsked f fd) (GN : FnOk P w K mg base CX0 3 fN fdN ["thing"] spNeed) (bN : Binds K fdN ["thing"] []) (gN : mg "need_plan" = some (.ref fN)) (kN : PySem.W.keepIn K (.ref fN) = true)
    (GS : FnOk P w K mg base CX0 2 fS fdS ["thing"] spNSlots) (bS : Binds K fdS ["thing"] []) (gS : mg "need_slots" = some (.ref fS)) (kS : PySem.W.keepIn K (.ref fS) = true) : FnOk P w K mg base CX0 4 f fd ["plan", "slots"] spAsked := by
  refine F.ok scAsked (fun vs H Q E h => ?_) (fun cdv A outer s H vs Q E hr h => ?_)
  · obtain ⟨t, p, n, rfl, _⟩ := h
    rfl
  · obtain ⟨t, p, n, rfl, ht, ok, h1, h2, q⟩ := h
    refine ⟨_, pss_cons (ps_expr (pe_call GN hr (by rfl) gN kN bN .nil pass0 (pa_cons (pv 0) pa_nil))) (pss_one (ps_expr (pe_call GS (hr.mono (by decide)) (by rfl) gS kS bS .nil pass0 (pa_cons (pv 1) pa_nil)))), ?_⟩
    refine ⟨_, rfl, t, p, rfl, ht, ok, fun H1 s1 => ?_⟩
    exact ⟨_, rfl, n, rfl, h1, h2, fun H2 s2 => q _ (s1.trans s2)⟩
end
end K61

/-! Readings that leave what stood: what they give, said once; comprehensions over anything walked. -/
namespace K61
open PySem PySem.Spec PyProof.Rows L2
/-- an expression gives data, leaving what stood -/
def Gv (t : TE) (σ : L2.St) (H : Hp) (d : PyData) : Prop := ∀ (H1 : Hp) (Q : VK), Same H H1 → (∀ v H2, Same H1 H2 → Td H2 v d → Q v H2) → t σ H1 Q
def GvA (t : TA) (σ : L2.St) (H : Hp) (ds : List PyData) : Prop := ∀ (H1 : Hp) (Q : List V → Hp → Prop), Same H H1 → (∀ vs H2, Same H1 H2 → TdAll H2 vs ds → Q vs H2) → t σ H1 Q
/-- a test answers b -/
def GvT (t : TT) (σ : L2.St) (H : Hp) (b : Bool) : Prop := ∀ (H1 : Hp) (Q : Bool → Hp → Prop), Same H H1 → (∀ H2, Same H1 H2 → Q b H2) → t σ H1 Q
/-- a list (new or not) that holds data -/
def GvL (t : TE) (σ : L2.St) (H : Hp) (ds : List PyData) : Prop := ∀ (H1 : Hp) (Q : VK), Same H H1 → (∀ a vs H2, Same H1 H2 → H2 a = some (.lst vs) → TdAll H2 vs ds → Q (.ref a) H2) → t σ H1 Q
/-- a new list -/
def GvN (t : TE) (σ : L2.St) (H : Hp) (ds : List PyData) : Prop := ∀ (H1 : Hp) (Q : VK), Same H H1 → (∀ a vs H2, Same H1 H2 → H1 a = none → H2 a = some (.lst vs) → TdAll H2 vs ds → Q (.ref a) H2) → t σ H1 Q
section
variable {t : TE} {ta tb : TE} {tr : TA} {tt : TT} {σ : L2.St} {H H' : Hp} {d e : PyData} {ds es : List PyData} {b : Bool} {K : PySem.W.Frag}
theorem Gv.st (h : Gv t σ H d) (s : Same H H') : Gv t σ H' d := fun H1 Q s1 k => h H1 Q (s.trans s1) k
theorem GvA.st (h : GvA tr σ H ds) (s : Same H H') : GvA tr σ H' ds := fun H1 Q s1 k => h H1 Q (s.trans s1) k
theorem GvT.st (h : GvT tt σ H b) (s : Same H H') : GvT tt σ H' b := fun H1 Q s1 k => h H1 Q (s.trans s1) k
theorem GvL.st (h : GvL t σ H ds) (s : Same H H') : GvL t σ H' ds := fun H1 Q s1 k => h H1 Q (s.trans s1) k
theorem GvN.st (h : GvN t σ H ds) (s : Same H H') : GvN t σ H' ds := fun H1 Q s1 k => h H1 Q (s.trans s1) k
theorem GvN.l (h : GvN t σ H ds) : GvL t σ H ds := fun H1 Q s1 k => h H1 Q s1 fun a vs H2 s2 _ e td => k a vs H2 s2 e td
theorem Gv.var {i : Nat} {v : V} (h : σ[i]? = some (some v)) (td : Td H v d) : Gv (tVar i) σ H d := fun H1 Q s k => ⟨v, h, k v H1 (Same.refl H1) (td.k (Kt.of s))⟩
theorem Gv.int (i : Int) : Gv (tC (.int i)) σ H (.int i) := fun H1 Q s k => k _ H1 (Same.refl H1) (.int i)
theorem Gv.str (x : Str) : Gv (tC (.str x)) σ H (.str x) := fun H1 Q s k => k _ H1 (Same.refl H1) (.str x)
theorem Gv.bl (x : Bool) : Gv (tC (.bl x)) σ H (.bool x) := fun H1 Q s k => k _ H1 (Same.refl H1) (.bl x)
theorem GvA.nil : GvA tNil σ H [] := fun H1 Q s k => k [] H1 (Same.refl H1) .nil
theorem GvA.cons (h1 : Gv ta σ H d) (h2 : GvA tr σ H ds) : GvA (tCons ta tr) σ H (d :: ds) := fun H1 Q s k =>
  h1 H1 _ s fun v H2 s2 td => h2 H2 _ (s.trans s2) fun vs H3 s3 tds => k (v :: vs) H3 (s2.trans s3) (.cons (td.k (Kt.of s3)) tds)
theorem Gv.tup (h : GvA tr σ H ds) (hz : ds.length ≤ 16777216 := by simp) : Gv (tTup tr) σ H (.tuple ds) := fun H1 Q s k =>
  h H1 _ s fun vs H2 s2 tds => ⟨by rw [tds.length]; exact small hz (by decide), fun p hp => k _ _ (s2.trans (same_new hp)) (.tup upd_same (tds.k (Kt.new hp)))⟩
theorem Gv.cat (h1 : Gv ta σ H (.tuple ds)) (h2 : Gv tb σ H (.tuple es)) (hz : ds.length + es.length ≤ 16777216) : Gv (tOp (rCatA K) ta tb) σ H (.tuple (ds ++ es)) := fun H1 Q s k =>
  h1 H1 _ s fun v H2 s2 td => h2 H2 _ (s.trans s2) fun u H3 s3 te => by
    obtain ⟨a, vs, rfl, ea, qa⟩ := (td.k (Kt.of s3)).tup_inv
    obtain ⟨c, ws, rfl, ec, qc⟩ := te.tup_inv
    have l1 := qa.length
    have l2 := qc.length
    refine ⟨a, c, vs, ws, rfl, rfl, SqT.of ea, SqT.of ec, by rw [l1, l2]; exact small hz (by decide), fun e0 => ?_, fun n0 e0 => ?_, fun n0 n1 p hp => ?_⟩
    · subst e0
      have : ds = [] := List.length_eq_zero_iff.mp l1.symm
      subst this
      exact k _ _ (s2.trans s3) (.tup ec qc)
    · subst e0
      have : es = [] := List.length_eq_zero_iff.mp l2.symm
      subst this
      rw [List.append_nil] at k
      exact k _ _ (s2.trans s3) (.tup ea qa)
    · exact k _ _ ((s2.trans s3).trans (same_new hp)) (.tup upd_same ((qa.app qc).k (Kt.new hp)))
theorem Gv.addOne {l : List Nat} {j : Nat} (h1 : Gv ta σ H (tupN l)) (h2 : Gv tb σ H (.int (j : Int))) (hz : l.length ≤ 1000) : Gv (tOp (rCatA K) ta (tTup (tCons tb tNil))) σ H (tupN (l ++ [j])) := by
  have := Gv.cat (K := K) h1 (Gv.tup (GvA.cons h2 GvA.nil)) (by
    rw [List.length_map]
    show l.length + 1 ≤ _
    omega)
  unfold tupN
  rw [List.map_append]
  exact this
theorem Gv.ixT {i : Nat} {z : Int} (h1 : Gv ta σ H (.tuple ds)) (h2 : Gv tb σ H (.int z)) (hz : z = (i : Int)) (hd : ds[i]? = some d) : Gv (tOp (rIxT K) ta tb) σ H d := fun H1 Q s k =>
  h1 H1 _ s fun v H2 s2 td => h2 H2 _ (s.trans s2) fun u H3 s3 te => by
    obtain ⟨a, vs, rfl, ea, qa⟩ := (td.k (Kt.of s3)).tup_inv
    rw [te.int_inv]
    have hi : i < vs.length := by rw [qa.length]; exact (List.getElem?_eq_some_iff.mp hd).1
    obtain ⟨d', e1, e2⟩ := qa.get (List.getElem?_eq_getElem hi)
    rw [hd] at e1
    cases e1
    exact ⟨a, vs, z, vs[i], rfl, rfl, SqT.of ea, at_of hz (List.getElem?_eq_getElem hi), k _ _ (s2.trans s3) e2⟩
/-- tuple(xs) of a new list -/
def rTupOf (K : PySem.W.Frag) : List V → Hp → VK → Prop := fun xs H Q => ∃ p ys, xs = [.ref p] ∧ ((SqL K H p ys ∧ ∀ l, H l = none → Q (.ref l) (upd H l (.tup ys))) ∨ (SqT K H p ys ∧ Q (.ref p) H))
theorem Gv.tupleOf (h : GvL t σ H ds) : Gv (tCB (rTupOf K) (tCons t tNil)) σ H (.tuple ds) := fun H1 Q s k =>
  h H1 _ s fun a vs H2 s2 e tds => ⟨a, vs, rfl, .inl ⟨SqL.of e, fun l hl => k _ _ (s2.trans (same_new hl)) (.tup upd_same (tds.k (Kt.new hl)))⟩⟩
theorem GvL.sorted {l : List Nat} (h : Gv ta σ H (tupN l)) (hl : l.length < 64) : GvN (tCB (rSortedTup K) (tCons ta tNil)) σ H ((srt l).map fun j : Nat => PyData.int (j : Int)) := fun H1 Q s k =>
  h H1 _ s fun v H2 s2 td => by
    obtain ⟨a, rfl, ea⟩ := tupN_inv td
    refine ⟨a, l, rfl, SqT.of ea, hl, fun p hp => k p _ _ (s2.trans (same_new hp)) (s2.free hp) upd_same (ints_td _ _)⟩
end
/-! ### comprehensions -/
theorem wipe1 {σ : L2.St} {i : Nat} {v : V} : wipe ((wipe σ [i]).set i (some v)) [i] = wipe σ [i] := by
  show ((σ.set i none).set i (some v)).set i none = σ.set i none
  rw [List.set_set, List.set_set]
theorem wipe2 {σ : L2.St} {i j : Nat} {v u : V} (h : i ≠ j) : wipe (((wipe σ [i, j]).set i (some v)).set j (some u)) [i, j] = wipe σ [i, j] := by
  show (((((σ.set j none).set i none).set i (some v)).set j (some u)).set j none).set i none = (σ.set j none).set i none
  rw [List.set_set, List.set_set, List.set_comm _ _ h, List.set_set, List.set_set, List.set_comm _ _ (Ne.symm h)]
theorem comp_walk {α : Type} {J : It} {n : Nat} {G : Hp → Prop} {Y : Nat → Hp → V → Hp → Prop} (w : Walk J n G Y) (l : List α) (hn : n = l.length) (f e : α → PyData) (keep : α → Bool) {H1 : Hp} {D : Addr} {σ : L2.St} {vs : List Nat} {g : TG} {tt : TT} {te : TE} {Qd : Hp → Prop}
    (R : α → L2.St → Hp → Prop) (hD : H1 D = none) (hG : ∀ H', Same H1 H' → G H')
    (hY : ∀ i v H2 H3, i < n → Same H1 H2 → Y i H2 v H3 → Same H2 H3 ∧ ∃ x, l[i]? = some x ∧ Td H3 v (f x))
    (hg : ∀ x ∈ l, ∀ v H2 Q, Same H1 H2 → Td H2 v (f x) → (∀ σ2, R x σ2 H2 → wipe σ2 vs = wipe σ vs → Q σ2 H2) → g v (wipe σ vs) H2 Q)
    (ht : ∀ x ∈ l, ∀ σ2 H2, Same H1 H2 → R x σ2 H2 → GvT tt σ2 H2 (keep x))
    (he : ∀ x ∈ l, keep x = true → ∀ σ2 H2, Same H1 H2 → R x σ2 H2 → Gv te σ2 H2 (e x)) (hz : l.length < 16777216)
    (hq : ∀ ys H2, Same H1 H2 → H2 D = some (.lst ys) → TdAll H2 ys ((l.filter keep).map e) → Qd H2) :
    ∃ W : Nat → Nat → Hp → Prop, (∃ m, W 0 m (upd H1 D (.lst []))) ∧ ∀ i m H, W i m H →
      (J.stop i H ∧ Qd H) ∨ (J.go i H ∧ ∃ Nx : Hp → Prop, (∀ H', Nx H' → ∃ m', m' < m ∧ W (i + 1) m' H') ∧ ∀ x H', J.yld i H x H' → g x (wipe σ vs) H' fun σ2 H2 => wipe σ2 vs = wipe σ vs ∧ tt σ2 H2 fun b H3 =>
        if b = true then te σ2 H3 fun y H4 => ∃ acc, H4 D = some (.lst acc) ∧ acc.length < sizeLine ∧ Nx (upd H4 D (.lst (acc ++ [y]))) else Nx H3) := by
  refine lc_it w (fun i H' => Same H1 H' ∧ ∃ ys, H' D = some (.lst ys) ∧ TdAll H' ys (((l.take i).filter keep).map e)) ⟨same_new hD, [], upd_same, .nil⟩ (fun i H' _ p => hG H' p.1) ?_ ?_
  · rintro i v H2 H3 hi ⟨sm, ys, hys, td⟩ hy
    obtain ⟨sm3, x, hx, tx⟩ := hY i v H2 H3 hi sm hy
    have hm : x ∈ l := List.mem_of_getElem? hx
    have s3 : Same H1 H3 := sm.trans sm3
    have tk : l.take (i + 1) = l.take i ++ [x] := by rw [List.take_add_one, hx]; rfl
    refine hg x hm v H3 _ s3 tx fun σ2 r2 hw => ⟨hw, ht x hm σ2 H3 s3 r2 H3 _ (Same.refl H3) fun H4 s4 => ?_⟩
    have d4 : H4 D = some (.lst ys) := s4 _ _ (sm3 _ _ hys)
    have sm4 : Same H1 H4 := (sm.trans sm3).trans s4
    cases hk : keep x with
    | false =>
      refine iteF ⟨sm4, ys, d4, ?_⟩
      rw [tk, List.filter_append, List.filter_cons_of_neg (by rw [hk]; exact Bool.false_ne_true), List.filter_nil, List.append_nil]
      exact td.k (Kt.of (sm3.trans s4))
    | true =>
      refine iteT (he x hm hk σ2 H3 s3 r2 H4 _ s4 fun y H5 s5 ty => ?_)
      have d5 : H5 D = some (.lst ys) := s5 _ _ d4
      have kD : Kt H5 (upd H5 D (.lst (ys ++ [y]))) := Kt.put fun vs e0 => by rw [d5] at e0; cases e0
      refine ⟨ys, d5, ?_, same_put (sm4.trans s5) hD, ys ++ [y], upd_same, ?_⟩
      · have l1 := td.length
        rw [List.length_map] at l1
        have l2 := List.length_filter_le keep (l.take i)
        have l3 : (l.take i).length ≤ l.length := List.length_take_le' _ _
        exact smaller (m := 16777215) (by omega) (by decide)
      · rw [tk, List.filter_append, List.filter_cons_of_pos (by rw [hk]), List.filter_nil, List.map_append, List.map_cons, List.map_nil]
        exact ((td.k (Kt.of ((sm3.trans s4).trans s5))).k kD).snoc (ty.k kD)
  · rintro H2 ⟨sm, ys, hys, td⟩
    rw [hn, List.take_length] at td
    exact hq ys H2 sm hys td
section
variable {K : PySem.W.Frag} {α : Type} {H : Hp} {σ : L2.St} {tt : TT} {te tl : TE}
/-- over a tuple, one name -/
theorem GvN.compT (l : List α) (f e : α → PyData) (keep : α → Bool) (i : Nat) (hl : Gv tl σ H (.tuple (l.map f)))
    (ht : ∀ x ∈ l, ∀ v H1, Same H H1 → Td H1 v (f x) → GvT tt ((wipe σ [i]).set i (some v)) H1 (keep x))
    (he : ∀ x ∈ l, keep x = true → ∀ v H1, Same H H1 → Td H1 v (f x) → Gv te ((wipe σ [i]).set i (some v)) H1 (e x)) (hz : l.length < 16777216) :
    GvN (tLc (iTup K tl) (gName i) tt te [i]) σ H ((l.filter keep).map e) := fun H1 Q s k =>
  hl H1 _ s fun v H2 s2 td => by
    obtain ⟨a, xs, rfl, ea, qa⟩ := td.tup_inv
    refine ⟨a, rfl, ⟨_, SqT.of ea⟩, fun D hD => ?_⟩
    have hln : xs.length = l.length := by rw [qa.length, List.length_map]
    refine comp_walk (walk_tup (K := K) (a := a) (xs := xs)) l hln f e keep (fun x σ2 H3 => ∃ v, σ2 = (wipe σ [i]).set i (some v) ∧ Td H3 v (f x)) hD (fun H' s' => SqT.of (s' _ _ ea)) (fun j v H3 H4 _ s3 hy => ?_)
      (fun x hx v H3 Q' s3 tv k' => k' _ ⟨v, rfl, tv⟩ wipe1) (fun x hx σ2 H3 s3 ⟨v, e1, tv⟩ => e1 ▸ ht x hx v H3 ((s.trans s2).trans s3) tv) (fun x hx hk σ2 H3 s3 ⟨v, e1, tv⟩ => e1 ▸ he x hx hk v H3 ((s.trans s2).trans s3) tv) hz
      (fun ys H3 s3 hys tys => k D ys H3 (s2.trans s3) (s2.free hD) hys tys)
    obtain ⟨rfl, hv⟩ := hy
    obtain ⟨x, hx, tx⟩ := qa.at hv
    exact ⟨Same.refl _, x, hx, tx.k (Kt.of s3)⟩
/-- over a list, one name -/
theorem GvN.compL (l : List α) (f e : α → PyData) (keep : α → Bool) (i : Nat) (hl : GvL tl σ H (l.map f))
    (ht : ∀ x ∈ l, ∀ v H1, Same H H1 → Td H1 v (f x) → GvT tt ((wipe σ [i]).set i (some v)) H1 (keep x))
    (he : ∀ x ∈ l, keep x = true → ∀ v H1, Same H H1 → Td H1 v (f x) → Gv te ((wipe σ [i]).set i (some v)) H1 (e x)) (hz : l.length < 16777216) :
    GvN (tLc (iList K tl) (gName i) tt te [i]) σ H ((l.filter keep).map e) := fun H1 Q s k =>
  hl H1 _ s fun a xs H2 s2 ea qa => by
    refine ⟨a, rfl, ⟨_, SqL.of ea⟩, fun D hD => ?_⟩
    have hln : xs.length = l.length := by rw [qa.length, List.length_map]
    refine comp_walk (walk_list (K := K) (a := a) (xs := xs)) l hln f e keep (fun x σ2 H3 => ∃ v, σ2 = (wipe σ [i]).set i (some v) ∧ Td H3 v (f x)) hD (fun H' s' => SqL.of (s' _ _ ea)) (fun j v H3 H4 _ s3 hy => ?_)
      (fun x hx v H3 Q' s3 tv k' => k' _ ⟨v, rfl, tv⟩ wipe1) (fun x hx σ2 H3 s3 ⟨v, e1, tv⟩ => e1 ▸ ht x hx v H3 ((s.trans s2).trans s3) tv) (fun x hx hk σ2 H3 s3 ⟨v, e1, tv⟩ => e1 ▸ he x hx hk v H3 ((s.trans s2).trans s3) tv) hz
      (fun ys H3 s3 hys tys => k D ys H3 (s2.trans s3) (s2.free hD) hys tys)
    obtain ⟨rfl, hv⟩ := hy
    obtain ⟨x, hx, tx⟩ := qa.at hv
    exact ⟨Same.refl _, x, hx, tx.k (Kt.of s3)⟩
/-- over a list of pairs, two names -/
theorem GvN.compL2 (l : List α) (f1 f2 e : α → PyData) (keep : α → Bool) (i j : Nat) (hij : i ≠ j) (hl : GvL tl σ H (l.map fun x => .tuple [f1 x, f2 x]))
    (ht : ∀ x ∈ l, ∀ v u H1, Same H H1 → Td H1 v (f1 x) → Td H1 u (f2 x) → GvT tt (((wipe σ [i, j]).set i (some v)).set j (some u)) H1 (keep x))
    (he : ∀ x ∈ l, keep x = true → ∀ v u H1, Same H H1 → Td H1 v (f1 x) → Td H1 u (f2 x) → Gv te (((wipe σ [i, j]).set i (some v)).set j (some u)) H1 (e x)) (hz : l.length < 16777216) :
    GvN (tLc (iList K tl) (gTup K 2 (gCons (gName i) (gCons (gName j) gNil))) tt te [i, j]) σ H ((l.filter keep).map e) := fun H1 Q s k =>
  hl H1 _ s fun a xs H2 s2 ea qa => by
    refine ⟨a, rfl, ⟨_, SqL.of ea⟩, fun D hD => ?_⟩
    have hln : xs.length = l.length := by rw [qa.length, List.length_map]
    refine comp_walk (walk_list (K := K) (a := a) (xs := xs)) l hln (fun x => .tuple [f1 x, f2 x]) e keep (fun x σ2 H3 => ∃ v u, σ2 = ((wipe σ [i, j]).set i (some v)).set j (some u) ∧ Td H3 v (f1 x) ∧ Td H3 u (f2 x)) hD (fun H' s' => SqL.of (s' _ _ ea)) (fun j v H3 H4 _ s3 hy => ?_)
      (fun x hx v H3 Q' s3 tv k' => ?_) (fun x hx σ2 H3 s3 ⟨v, u, e1, tv, tu⟩ => e1 ▸ ht x hx v u H3 ((s.trans s2).trans s3) tv tu) (fun x hx hk σ2 H3 s3 ⟨v, u, e1, tv, tu⟩ => e1 ▸ he x hx hk v u H3 ((s.trans s2).trans s3) tv tu) hz
      (fun ys H3 s3 hys tys => k D ys H3 (s2.trans s3) (s2.free hD) hys tys)
    · obtain ⟨rfl, hv⟩ := hy
      obtain ⟨x, hx, tx⟩ := qa.at hv
      exact ⟨Same.refl _, x, hx, tx.k (Kt.of s3)⟩
    · obtain ⟨c, ws, rfl, ec, qc⟩ := tv.tup_inv
      obtain ⟨v1, v2, rfl, t1, t2⟩ := qc.two
      exact ⟨c, _, rfl, SqT.of ec, rfl, _, _, rfl, _, _, rfl, rfl, k' _ ⟨v1, v2, rfl, t1, t2⟩ (wipe2 hij)⟩
end
end K61

/-! More readings that leave what stood: tests, lengths, comparisons. -/
namespace K61
open PySem PySem.Spec PyProof.Rows L2
section
variable {t : TE} {ta tb tc : TE} {tr : TA} {tt tu : TT} {σ : L2.St} {H H' : Hp} {d e : PyData} {ds es : List PyData} {b c : Bool} {K : PySem.W.Frag}
theorem Td.bl_inv {v : V} (h : Td H v (.bool b)) : v = .bl b := by cases h; rfl
theorem bls_inv : ∀ {l : List Bool} {vs : List V}, TdAll H vs (l.map PyData.bool) → vs = l.map V.bl
  | [], _, h => by cases h; rfl
  | x :: l, _, h => by
    cases h with
    | cons a t => rw [a.bl_inv, bls_inv t]; rfl
theorem inV_nat (x : Nat) (l : List Nat) : inV (.int (x : Int)) (vN l) = decide (x ∈ l) := by
  unfold inV vN
  rw [List.any_map, Bool.eq_iff_iff, List.any_eq_true, decide_eq_true_eq]
  constructor
  · rintro ⟨y, hy, h⟩
    have h' : decide ((y : Int) = (x : Int)) = true := by simpa [eqV] using h
    have : y = x := by have := of_decide_eq_true h'; omega
    exact this ▸ hy
  · intro h
    exact ⟨x, h, by simp [eqV]⟩
theorem flat_vN (l : List Nat) : (vN l).all flatV = true := by
  rw [List.all_eq_true]
  intro v hv
  obtain ⟨j, _, rfl⟩ := List.mem_map.mp hv
  rfl
theorem Gv.inN {neg : Bool} {x : Nat} {l : List Nat} (h1 : Gv ta σ H (.int (x : Int))) (h2 : Gv tb σ H (tupN l)) : Gv (tOp (rIn K neg) ta tb) σ H (.bool (if neg then !decide (x ∈ l) else decide (x ∈ l))) := fun H1 Q s k =>
  h1 H1 _ s fun v H2 s2 td => h2 H2 _ (s.trans s2) fun u H3 s3 te => by
    obtain ⟨a, rfl, ea⟩ := tupN_inv te
    rw [td.int_inv]
    refine ⟨a, vN l, rfl, .inr (SqT.of ea), rfl, flat_vN l, ?_⟩
    rw [inV_nat]
    exact k _ _ (s2.trans s3) (by cases neg <;> exact .bl _)
theorem Gv.all {bs : List Bool} (h : GvL t σ H (bs.map PyData.bool)) : Gv (tCB (rAll K) (tCons t tNil)) σ H (.bool (bs.all id)) := fun H1 Q s k =>
  h H1 _ s fun a vs H2 s2 e tds => by
    rw [bls_inv tds] at e
    exact ⟨a, bs, rfl, SqL.of e, k _ _ s2 (.bl _)⟩
theorem GvT.val (h : Gv t σ H (.bool b)) : GvT (tB t) σ H b := fun H1 Q s k => h H1 _ s fun v H2 s2 td => ⟨b, td.bl_inv, k H2 s2⟩
theorem GvT.test (h : Gv t σ H (.bool b)) : GvT (tTest t) σ H b := fun H1 Q s k => h H1 _ s fun v H2 s2 td => ⟨b, td.bl_inv, k H2 s2⟩
theorem GvT.not (h : GvT tt σ H b) : GvT (tNot tt) σ H (!b) := fun H1 Q s k => h H1 _ s fun H2 s2 => k H2 s2
theorem GvT.and (h1 : GvT tt σ H b) (h2 : b = true → GvT tu σ H c) : GvT (tAnd tt tu) σ H (b && c) := fun H1 Q s k => h1 H1 _ s fun H2 s2 => by
  cases b with
  | true => exact iteT (h2 rfl H2 _ (s.trans s2) fun H3 s3 => k H3 (s2.trans s3))
  | false => exact iteF (k H2 s2)
theorem GvT.or (h1 : GvT tt σ H b) (h2 : b = false → GvT tu σ H c) : GvT (tOr tt tu) σ H (b || c) := fun H1 Q s k => h1 H1 _ s fun H2 s2 => by
  cases b with
  | true => exact iteT (k H2 s2)
  | false => exact iteF (h2 rfl H2 _ (s.trans s2) fun H3 s3 => k H3 (s2.trans s3))
theorem GvT.yes : GvT tYes σ H true := fun H1 Q s k => k H1 (Same.refl H1)
theorem Gv.lenT (h : Gv t σ H (.tuple ds)) : Gv (tCB (rLenS K) (tCons t tNil)) σ H (.int (ds.length : Int)) := fun H1 Q s k => h H1 _ s fun v H2 s2 td => by
  obtain ⟨a, vs, rfl, ea, qa⟩ := td.tup_inv
  refine ⟨a, vs, rfl, .inr (SqT.of ea), k _ _ s2 ?_⟩
  rw [qa.length]
  exact .int _
theorem Gv.lenL (h : GvL t σ H ds) : Gv (tCB (rLenS K) (tCons t tNil)) σ H (.int (ds.length : Int)) := fun H1 Q s k => h H1 _ s fun a vs H2 s2 e tds => by
  refine ⟨a, vs, rfl, .inl (SqL.of e), k _ _ s2 ?_⟩
  rw [tds.length]
  exact .int _
theorem Gv.op0 {g : Int → Int → V} {f : Int → Int → PyData} (hg : ∀ i j H, Td H (g i j) (f i j)) {i j : Int} (h1 : Gv ta σ H (.int i)) (h2 : Gv tb σ H (.int j)) : Gv (tOp (rI0 g) ta tb) σ H (f i j) := fun H1 Q s k =>
  h1 H1 _ s fun v H2 s2 td => h2 H2 _ (s.trans s2) fun u H3 s3 te => ⟨i, j, td.int_inv, te.int_inv, k _ _ (s2.trans s3) (hg _ _ _)⟩
theorem Gv.lt {i j : Int} (h1 : Gv ta σ H (.int i)) (h2 : Gv tb σ H (.int j)) : Gv (tOp (rI0 fun i j => .bl (decide (i < j))) ta tb) σ H (.bool (decide (i < j))) := Gv.op0 (f := fun i j => .bool (decide (i < j))) (fun _ _ _ => .bl _) h1 h2
theorem Gv.gt {i j : Int} (h1 : Gv ta σ H (.int i)) (h2 : Gv tb σ H (.int j)) : Gv (tOp (rI0 fun i j => .bl (decide (j < i))) ta tb) σ H (.bool (decide (j < i))) := Gv.op0 (f := fun i j => .bool (decide (j < i))) (fun _ _ _ => .bl _) h1 h2
theorem Gv.add {i j : Int} (h1 : Gv ta σ H (.int i)) (h2 : Gv tb σ H (.int j)) : Gv (tOp (rI0 fun i j => .int (i + j)) ta tb) σ H (.int (i + j)) := Gv.op0 (f := fun i j => .int (i + j)) (fun _ _ _ => .int _) h1 h2
theorem Gv.sub {i j : Int} (h1 : Gv ta σ H (.int i)) (h2 : Gv tb σ H (.int j)) : Gv (tOp (rI0 fun i j => .int (i - j)) ta tb) σ H (.int (i - j)) := Gv.op0 (f := fun i j => .int (i - j)) (fun _ _ _ => .int _) h1 h2
theorem Gv.eqI {i j : Int} (h1 : Gv ta σ H (.int i)) (h2 : Gv tb σ H (.int j)) : Gv (tOp rEq ta tb) σ H (.bool (decide (i = j))) := fun H1 Q s k =>
  h1 H1 _ s fun v H2 s2 td => h2 H2 _ (s.trans s2) fun u H3 s3 te => by
    rw [td.int_inv, te.int_inv]
    refine ⟨rfl, k _ _ (s2.trans s3) ?_⟩
    have : decide (V.int i = V.int j) = decide (i = j) := by by_cases h : i = j <;> simp [h]
    rw [this]
    exact .bl _
theorem Gv.neI {i j : Int} (h1 : Gv ta σ H (.int i)) (h2 : Gv tb σ H (.int j)) : Gv (tOp rNe ta tb) σ H (.bool (!decide (i = j))) := fun H1 Q s k =>
  h1 H1 _ s fun v H2 s2 td => h2 H2 _ (s.trans s2) fun u H3 s3 te => by
    rw [td.int_inv, te.int_inv]
    refine ⟨rfl, k _ _ (s2.trans s3) ?_⟩
    have : decide (V.int i = V.int j) = decide (i = j) := by by_cases h : i = j <;> simp [h]
    rw [this]
    exact .bl _
theorem GvN.lst (h : GvA tr σ H ds) (hz : ds.length ≤ 16777216) : GvN (tLst tr) σ H ds := fun H1 Q s k =>
  h H1 _ s fun vs H2 s2 tds => ⟨by rw [tds.length]; exact small hz (by decide), fun p hp => k p _ _ (s2.trans (same_new hp)) (s2.free hp) upd_same (tds.k (Kt.new hp))⟩
/-- xs == [] and xs != [] -/
theorem Gv.isNil {n : Nat} (h : GvL ta σ H ds) (hs : ∀ d ∈ ds, shp n d) (hn : n ≤ 60) : Gv (tOp (rEqD K) ta (tLst tNil)) σ H (.bool ds.isEmpty) := fun H1 Q s k =>
  h H1 _ s fun a vs H2 s2 e tds => ⟨Nat.zero_le _, fun p hp => by
    refine ⟨.list ds, .list [], .lst (SqL.of ((same_new hp) _ _ e)) (TdAll.dp ds vs (tds.k (Kt.new hp))), .lst (SqL.of upd_same) .nil, (shp_list hs).ok (by omega), by decide +kernel, ?_⟩
    have : PyData.eqv (.list ds) (.list []) = ds.isEmpty := by
      rw [eqv_list]
      cases ds with
      | nil => exact eqvAll_nil
      | cons x y => exact eqvAll_cn x y
    rw [this]
    exact k _ _ (s2.trans (same_new hp)) (.bl _)⟩
theorem Gv.notNil {n : Nat} (h : GvL ta σ H ds) (hs : ∀ d ∈ ds, shp n d) (hn : n ≤ 60) : Gv (tOp (rNeD K) ta (tLst tNil)) σ H (.bool (!ds.isEmpty)) := fun H1 Q s k =>
  h H1 _ s fun a vs H2 s2 e tds => ⟨Nat.zero_le _, fun p hp => by
    refine ⟨.list ds, .list [], .lst (SqL.of ((same_new hp) _ _ e)) (TdAll.dp ds vs (tds.k (Kt.new hp))), .lst (SqL.of upd_same) .nil, (shp_list hs).ok (by omega), by decide +kernel, ?_⟩
    have : PyData.eqv (.list ds) (.list []) = ds.isEmpty := by
      rw [eqv_list]
      cases ds with
      | nil => exact eqvAll_nil
      | cons x y => exact eqvAll_cn x y
    rw [this]
    exact k _ _ (s2.trans (same_new hp)) (.bl _)⟩
/-- d == e -/
theorem Gv.eqD {n : Nat} (h1 : Gv ta σ H d) (h2 : Gv tb σ H e) (s1 : shp n d) (s2 : shp n e) (hn : n ≤ 60) : Gv (tOp (rEqD K) ta tb) σ H (.bool (PyData.eqv d e)) := fun H1 Q s k =>
  h1 H1 _ s fun v H2 s3 td => h2 H2 _ (s.trans s3) fun u H3 s4 te => ⟨d, e, Td.dp d v (td.k (Kt.of s4)), Td.dp e u te, s1.ok (by omega), s2.ok (by omega), k _ _ (s3.trans s4) (.bl _)⟩
theorem GvL.var {i : Nat} {a : Addr} {vs : List V} (h : σ[i]? = some (some (.ref a))) (e : H a = some (.lst vs)) (td : TdAll H vs ds) : GvL (tVar i) σ H ds := fun H1 Q s k => ⟨_, h, k a vs H1 (Same.refl H1) (s _ _ e) (td.k (Kt.of s))⟩
end
end K61

/-! slot_moves, slot_is_done, _law_slot_moves. -/
namespace K61
open PySem PySem.Spec PyProof.Rows L2
theorem call_tupK {X : Cx} (K : PySem.W.Frag) (h : X.K = K := by rfl) : CallR X (.type "tuple") (rTupOf K) := h ▸ call_tuple_of
theorem filter_yes {α : Type} (l : List α) : (l.filter fun _ => true) = l := List.filter_eq_self.mpr fun _ _ => rfl
section
variable {t : TE} {σ : L2.St} {H : Hp} {K : PySem.W.Frag} {α : Type}
theorem Gv.allOf {l : List α} {g : α → Bool} (h : GvL t σ H ((l.filter fun _ => true).map fun x => PyData.bool (g x))) : Gv (tCB (rAll K) (tCons t tNil)) σ H (.bool (l.all g)) := by
  rw [filter_yes] at h
  have e : (l.map fun x => PyData.bool (g x)) = (l.map g).map PyData.bool := by rw [List.map_map]; rfl
  rw [e] at h
  have := Gv.all (K := K) h
  rw [List.all_map] at this
  exact this
end
def spMoves : Sp := fun vs H Q _ => ∃ (pl sv : V) (p : List Job) (n : Nat) (s : St), vs = [pl, .int (n : Int), sv] ∧ Td H pl (planD p) ∧ PlanOk p ∧ Td H sv (stD s) ∧ Ok p.length s ∧
  ∀ H' a xs, Same H H' → H a = none → H' a = some (.lst xs) → TdAll H' xs ((moves (needs p) n s).map mgD) → Q (.ref a) H'
theorem job_data (j : Job) : jobD j = .tuple [.int (j.1 : Int), tupN j.2.1, .int (j.2.2 : Int)] := rfl
section
variable {P : Program} {w : World} {K : PySem.W.Frag} {mg : Str → Option Value} {base : Heap}
abbrev sMoves : Stmt := top 18
abbrev nMoves : List Str := ["plan", "slots", "state", "done", "held", "found", "job", "rest", "one"]
theorem scMoves : FnScope nMoves ["plan", "slots", "state"] (defScope sMoves) := ⟨rfl, rfl, rfl, by decide +kernel, rfl, by decide +kernel, by decide +kernel⟩
theorem few_held {n : Nat} {s : St} (ok : Ok n s) (h : n ≤ 8) : s.2.length ≤ 8 ∧ s.1.length ≤ 8 := by
  have := ok_counts ok
  omega
theorem vN_at {l : List Nat} {i : Nat} {v : V} (h : (vN l)[i]? = some v) : ∃ j, l[i]? = some j ∧ v = .int (j : Int) := by
  unfold vN at h
  rw [List.getElem?_map] at h
  obtain ⟨j, hj, rfl⟩ := Option.map_eq_some_iff.mp h
  exact ⟨j, hj, rfl⟩
theorem ok_moves {f : Addr} {fd : FuncData} (F : Fun K "slot_moves" "slot_moves" sMoves f fd) (G : Gb mg) (C : Cn mg) : FnOk P w K mg base CX0 1 f fd ["plan", "slots", "state"] spMoves := by
  refine F.ok scMoves (fun vs H Q E h => ?_) (fun cdv A outer s0 H vs Q E hr h => ?_)
  · obtain ⟨pl, sv, p, n, s, rfl, _⟩ := h
    rfl
  · obtain ⟨pl, sv, p, n, s, rfl, hp, pok, hs, ok, q⟩ := h
    obtain ⟨sa, da, ha, rfl, es, ed, eh⟩ := stD_inv hs
    refine ⟨_, pss_cons (ps_asg (pv 2) (pg_tup rfl (pgs_cons (pg_name (i := 3) scMoves.nd rfl (Or.inr rfl)) (pgs_cons (pg_name (i := 4) scMoves.nd rfl (Or.inl rfl)) pgs_nil))))
      (pss_cons (ps_set (i := 5) scMoves.nd rfl (Or.inl rfl) (pe_lst pa_nil))
      (pss_cons (ps_for PassesOwn.never rfl (pi_tup (pv 4)) (pg_name (i := 6) scMoves.nd rfl (Or.inr rfl))
        (pss_one (ps_if (pt_val (pe_callB (cr_all rfl) (by rfl) G.all PyProof.Rows.boot_all (pa_cons (pe_lc (own := [("one", 8)]) (g := gName 8) (tt := tYes) rfl scMoves.nd
            (pi_tup (pe_ix (ix_tupK K) (pe_ix (ix_tupK K) (pv 0) (pv 6) (fun _ _ => rfl)) pe_int (fun _ _ => rfl))) (blkOk_by (own := [("one", 8)]) (N := nMoves) (sc := defScope sMoves) (by decide +kernel))
            (fun _ _ _ _ _ => pg_name (i := 8) scMoves.nd rfl (Or.inl rfl)) (fun _ _ _ _ _ => pts_nil) (fun _ _ _ _ _ => pe_cmpR (op_in_seqK K) (pv 8) (pv 3) (by rfl))) pa_nil)))
          (pss_cons (ps_set (i := 7) scMoves.nd rfl (Or.inl rfl) (pe_callTy (call_tupK K) (by rfl) G.tuple PyProof.Rows.boot_tuple (pa_cons (pe_lc (own := [("one", 8)]) (g := gName 8) rfl scMoves.nd (pi_tup (pv 4))
              (blkOk_by (own := [("one", 8)]) (N := nMoves) (sc := defScope sMoves) (by decide +kernel)) (fun _ _ _ _ _ => pg_name (i := 8) scMoves.nd rfl (Or.inl rfl)) (fun _ _ _ _ _ => pts_one (pt_cmpR op_ne (pv 8) (pv 6) (nomark _))) (fun _ _ _ _ _ => pv 8)) pa_nil)))
            (pss_one (ps_expr (pe_bm PySem.F.plainAttrs_list PySem.F.slot_list_append PySem.F.type_list_append mt_append (pv 5) (pa_cons (pe_tup (pa_cons (pe_tup (pa_cons (pe_cn (by rfl) C.stop) (pa_cons (pv 6) pa_nil)))
              (pa_cons (pe_tup (pa_cons (pe_callTy (call_tupK K) (by rfl) G.tuple PyProof.Rows.boot_tuple (pa_cons (pe_callB cr_sortedTup (by rfl) G.sorted PyProof.Rows.boot_sorted (pa_cons (pe_op (op_catAK K) (pv 3) (pe_tup (pa_cons (pv 6) pa_nil))) pa_nil)) pa_nil)) (pa_cons (pv 7) pa_nil))) pa_nil))) pa_nil)))))
          pss_nil)))
      (pss_cons (ps_for PassesOwn.never rfl (pi_range1 (by rfl) G.range (pa_cons (pe_callB (call_lenK K) (by rfl) G.len PySem.boot_len (pa_cons (pv 0) pa_nil)) pa_nil)) (pg_name (i := 6) scMoves.nd rfl (Or.inr rfl))
        (pss_one (ps_if (PW.pt (pw_and (pt_cmpR op_lt (pe_callB (call_lenK K) (by rfl) G.len PySem.boot_len (pa_cons (pv 4) pa_nil)) (pv 1) (nomark _)) (pw_and (pt_cmpR (op_notIn_seqK K) (pv 6) (pv 3) (by rfl)) (pw_and1 (pt_cmpR (op_notIn_seqK K) (pv 6) (pv 4) (by rfl))))))
          (pss_one (ps_expr (pe_bm PySem.F.plainAttrs_list PySem.F.slot_list_append PySem.F.type_list_append mt_append (pv 5) (pa_cons (pe_tup (pa_cons (pe_tup (pa_cons (pe_cn (by rfl) C.start) (pa_cons (pv 6) pa_nil)))
              (pa_cons (pe_tup (pa_cons (pv 3) (pa_cons (pe_callTy (call_tupK K) (by rfl) G.tuple PyProof.Rows.boot_tuple (pa_cons (pe_callB cr_sortedTup (by rfl) G.sorted PyProof.Rows.boot_sorted (pa_cons (pe_op (op_catAK K) (pv 4) (pe_tup (pa_cons (pv 6) pa_nil))) pa_nil)) pa_nil)) pa_nil))) pa_nil))) pa_nil))))
          pss_nil)))
      (pss_one (ps_ret (pv 5)))))), ?_⟩
    have fh := few_held ok pok.few.2
    refine ⟨_, rfl, sa, _, rfl, SqT.of es, rfl, _, _, rfl, _, _, rfl, rfl, ?_⟩
    refine ⟨Nat.zero_le _, fun fa hf => ?_⟩
    have lenH : (vN s.2).length = s.2.length := List.length_map _
    refine ⟨_, rfl, ha, rfl, ⟨_, SqT.of ((same_new hf) _ _ eh)⟩, for_it (walk_tup (K := K) (a := ha) (xs := vN s.2)) (fun i σ H' => ∃ y6 y7 y8 xs, σ = [some pl, some (.int (n : Int)), some (.ref sa), some (.ref da), some (.ref ha), some (.ref fa), y6, y7, y8] ∧ Same H H' ∧ H' fa = some (.lst xs) ∧
      TdAll H' xs ((((s.2.take i).filter (endable (needs p) s)).map (endTo s)).map mgD)) ⟨none, none, none, [], rfl, same_new hf, upd_same, .nil⟩ (fun i σ H' _ ⟨_, _, _, _, _, sm, _⟩ => SqT.of (sm _ _ eh)) ?_ ?_⟩
    · rintro i x σ H1 H2 hi ⟨y6, y7, y8, xs, rfl, sm, hfa, tds⟩ ⟨rfl, hx⟩
      obtain ⟨j, hj, rfl⟩ := vN_at hx
      have hjm : j ∈ s.2 := List.mem_of_getElem? hj
      have hjn : j < p.length := ok.hn j hjm
      have hpj : p[j]? = some p[j] := List.getElem?_eq_getElem hjn
      have tk : s.2.take (i + 1) = s.2.take i ++ [j] := by rw [List.take_add_one, hj]; rfl
      have nj := needs_at hpj
      have tp : Td H2 pl (planD p) := hp.k (Kt.of sm)
      have td : Td H2 (.ref da) (tupN s.1) := tupN_td (sm _ _ ed)
      have th : Td H2 (.ref ha) (tupN s.2) := tupN_td (sm _ _ eh)
      refine (GvT.val (Gv.allOf (GvN.l (GvN.compT (tl := tOp (rIxT K) (tOp (rIxT K) (tVar 0) (tVar 6)) (tC (.int 1))) p[j].2.1 (fun x : Nat => PyData.int (x : Int)) (fun x => .bool (decide (x ∈ s.1))) (fun _ => true) 8
        (Gv.ixT (i := 1) (Gv.ixT (i := j) (Gv.var rfl tp) (Gv.var rfl (.int (j : Int))) rfl (by rw [List.getElem?_map, hpj]; rfl)) (Gv.int 1) rfl rfl)
        (fun x hx v H3 s3 tv => GvT.yes) (fun x hx _ v H3 s3 tv => Gv.inN (neg := false) (Gv.var rfl tv) (Gv.var rfl (td.k (Kt.of s3)))) ?_)))) _ _ (Same.refl _) fun H3 s3 => ?_
      · have h4 : p[j].2.1.length ≤ (List.range j).length := List.Nodup.length_le_of_subset (nodup_of_lt (pok.job j _ hpj).asc) fun x hx => List.mem_range.mpr ((pok.job j _ hpj).below x hx)
        rw [List.length_range] at h4
        have := pok.few
        omega
      · have hend : (p[j].2.1.all fun x => decide (x ∈ s.1)) = endable (needs p) s j := by unfold endable; rw [nj]
        have hfa3 : H3 fa = some (.lst xs) := s3 _ _ hfa
        rw [hend]
        cases he : endable (needs p) s j with
        | false =>
          refine iteF ⟨_, _, _, xs, rfl, sm.trans s3, hfa3, ?_⟩
          rw [tk, List.filter_append, List.filter_cons_of_neg (by rw [he]; exact Bool.false_ne_true), List.filter_nil, List.append_nil]
          exact tds.k (Kt.of s3)
        | true =>
          refine iteT ?_
          refine (Gv.tupleOf (GvN.l (GvN.compT (tl := tVar 4) s.2 (fun x : Nat => PyData.int (x : Int)) (fun x : Nat => PyData.int (x : Int)) (fun x => !decide ((x : Int) = (j : Int))) 8 (Gv.var rfl (th.k (Kt.of s3)))
            (fun x hx v H4 s4 tv => GvT.test (Gv.neI (Gv.var rfl tv) (Gv.var rfl (.int (j : Int))))) (fun x hx _ v H4 s4 tv => Gv.var rfl tv) (by omega)))) _ _ (Same.refl _) fun v H4 s4 tv => ?_
          have tv : Td H4 v (tupN (s.2.filter fun x => decide (x ≠ j))) := by
            have e : (s.2.filter fun x : Nat => !decide ((x : Int) = (j : Int))) = s.2.filter fun x => decide (x ≠ j) := List.filter_congr fun x _ => by
              by_cases h : x = j
              · subst h; simp
              · have : ¬ (x : Int) = (j : Int) := by omega
                simp [h, this]
            rw [e] at tv
            exact tv
          have hfa4 : H4 fa = some (.lst xs) := s4 _ _ hfa3
          have td4 : Td H4 (.ref da) (tupN s.1) := td.k (Kt.of (s3.trans s4))
          refine ⟨_, rfl, .inl ⟨rfl, _, SqL.of hfa4⟩, ?_⟩
          refine (Gv.tup (GvA.cons (Gv.tup (GvA.cons (Gv.str (mvS false)) (GvA.cons (Gv.var rfl (.int (j : Int))) GvA.nil)))
            (GvA.cons (Gv.tup (GvA.cons (Gv.tupleOf (GvN.l (GvL.sorted (l := s.1 ++ [j]) (Gv.addOne (Gv.var rfl td4) (Gv.var rfl (.int (j : Int))) (by omega)) (by rw [List.length_append, List.length_singleton]; omega)))) (GvA.cons (Gv.var rfl tv) GvA.nil))) GvA.nil))) _ _ (Same.refl _) fun u H5 s5 tu => ?_
          have hfa5 : H5 fa = some (.lst xs) := s5 _ _ hfa4
          have kF : Kt H5 (upd H5 fa (.lst (xs ++ [u]))) := Kt.put fun vs e0 => by rw [hfa5] at e0; cases e0
          have tu : Td H5 u (mgD (endTo s j)) := tu
          refine ⟨fa, xs, u, rfl, rfl, hfa5, ?_, _, _, _, xs ++ [u], rfl, same_put ((sm.trans s3).trans (s4.trans s5)) hf, upd_same, ?_⟩
          · have l1 := tds.length
            rw [List.length_map, List.length_map] at l1
            have l2 := List.length_filter_le (endable (needs p) s) (s.2.take i)
            have l3 : (s.2.take i).length ≤ s.2.length := List.length_take_le' _ _
            exact smaller (m := 8) (by omega)
          · rw [tk, List.filter_append, List.filter_cons_of_pos he, List.filter_nil, List.map_append, List.map_append]
            exact ((tds.k (Kt.of ((s3.trans s4).trans s5))).k kF).snoc (tu.k kF)
    · rintro σ H1 ⟨y6, y7, y8, xs, rfl, sm, hfa, tds⟩
      have lenN : (moves (needs p) n s).length ≤ 16 := by
        have := moves_length (needs p) n (s := s) (by rw [needs_length]; exact ok)
        rw [needs_length] at this
        have := pok.few
        omega
      rw [lenH, List.take_length] at tds
      refine (Gv.lenT (Gv.var rfl (hp.k (Kt.of sm)))) _ _ (Same.refl _) fun v H2 s2 tv => ⟨_, congrArg (fun z => [z]) tv.int_inv, ?_, ?_, ?_⟩
      · have := pok.few
        rw [List.length_map]
        omega
      · have := pok.few
        rw [List.length_map]
        omega
      · rw [List.length_map, Int.toNat_natCast]
        refine for_range (lo := 0) (n := p.length) (fun i σ H' => ∃ y6 y7 y8 ys, σ = [some pl, some (.int (n : Int)), some (.ref sa), some (.ref da), some (.ref ha), some (.ref fa), y6, y7, y8] ∧ Same H H' ∧ H' fa = some (.lst ys) ∧
          TdAll H' ys (((s.2.filter (endable (needs p) s)).map (endTo s) ++ ((List.range i).filter (startable n s)).map (startTo s)).map mgD)) ⟨y6, y7, y8, xs, rfl, sm.trans s2, s2 _ _ hfa, by simpa using tds.k (Kt.of s2)⟩ ?_ ?_
        · rintro i σ H3 hi ⟨z6, z7, z8, ys, rfl, sm3, hfa3, tds3⟩
          have td : Td H3 (.ref da) (tupN s.1) := tupN_td (sm3 _ _ ed)
          have th : Td H3 (.ref ha) (tupN s.2) := tupN_td (sm3 _ _ eh)
          have e0 : (0 : Int) + (i : Int) = (i : Int) := by omega
          rw [e0]
          have lenY : ys.length ≤ 16 := by
            have l1 := tds3.length
            have l2 : (((s.2.filter (endable (needs p) s)).map (endTo s) ++ ((List.range i).filter (startable n s)).map (startTo s)).map mgD).length ≤ 16 := by
              rw [List.length_map, List.length_append, List.length_map, List.length_map]
              have := List.length_filter_le (endable (needs p) s) s.2
              have := List.length_filter_le (startable n s) (List.range i)
              rw [List.length_range] at this
              have := pok.few
              omega
            omega
          refine (GvT.and (GvT.test (Gv.lt (Gv.lenT (Gv.var rfl th)) (Gv.var rfl (.int (n : Int))))) (fun _ => GvT.and (GvT.test (Gv.inN (neg := true) (x := i) (Gv.var rfl (.int (i : Int))) (Gv.var rfl td)))
            (fun _ => GvT.test (Gv.inN (neg := true) (x := i) (Gv.var rfl (.int (i : Int))) (Gv.var rfl th))))) _ _ (Same.refl _) fun H4 s4 => ?_
          have hst : (decide ((((s.2.map fun j : Nat => PyData.int (j : Int)).length : Nat) : Int) < (n : Int)) && ((if true = true then !decide (i ∈ s.1) else decide (i ∈ s.1)) && (if true = true then !decide (i ∈ s.2) else decide (i ∈ s.2)))) = startable n s i := by
            unfold startable
            rw [List.length_map, if_pos rfl, if_pos rfl]
            have e1 : decide (((s.2.length : Nat) : Int) < (n : Int)) = decide (s.2.length < n) := by
              by_cases h : s.2.length < n
              · rw [decide_eq_true h, decide_eq_true (by omega)]
              · rw [decide_eq_false h, decide_eq_false (by omega)]
            rw [e1, decide_not, decide_not, Bool.and_assoc]
          have hfa4 : H4 fa = some (.lst ys) := s4 _ _ hfa3
          rw [hst]
          have rg : List.range (i + 1) = List.range i ++ [i] := List.range_succ
          cases he : startable n s i with
          | false =>
            refine iteF ⟨_, _, _, ys, rfl, sm3.trans s4, hfa4, ?_⟩
            rw [rg, List.filter_append, List.filter_cons_of_neg (by rw [he]; exact Bool.false_ne_true), List.filter_nil, List.append_nil]
            exact tds3.k (Kt.of s4)
          | true =>
            refine iteT ⟨_, rfl, .inl ⟨rfl, _, SqL.of hfa4⟩, ?_⟩
            refine (Gv.tup (GvA.cons (Gv.tup (GvA.cons (Gv.str (mvS true)) (GvA.cons (Gv.var rfl (.int (i : Int))) GvA.nil)))
              (GvA.cons (Gv.tup (GvA.cons (Gv.var rfl (td.k (Kt.of s4))) (GvA.cons (Gv.tupleOf (GvN.l (GvL.sorted (l := s.2 ++ [i]) (Gv.addOne (Gv.var rfl (th.k (Kt.of s4))) (Gv.var rfl (.int (i : Int))) (by omega)) (by rw [List.length_append, List.length_singleton]; omega)))) GvA.nil))) GvA.nil))) _ _ (Same.refl _) fun u H5 s5 tu => ?_
            have hfa5 : H5 fa = some (.lst ys) := s5 _ _ hfa4
            have kF : Kt H5 (upd H5 fa (.lst (ys ++ [u]))) := Kt.put fun vs e0 => by rw [hfa5] at e0; cases e0
            have tu : Td H5 u (mgD (startTo s i)) := tu
            refine ⟨fa, ys, u, rfl, rfl, hfa5, smaller (m := 16) lenY, _, _, _, ys ++ [u], rfl, same_put ((sm3.trans s4).trans s5) hf, upd_same, ?_⟩
            rw [rg, List.filter_append, List.filter_cons_of_pos he, List.filter_nil, List.map_append (f := startTo s), ← List.append_assoc, List.map_append (f := mgD)]
            exact ((tds3.k (Kt.of (s4.trans s5))).k kF).snoc (tu.k kF)
        · rintro σ H3 ⟨z6, z7, z8, ys, rfl, sm3, hfa3, tds3⟩
          refine ⟨_, rfl, q H3 fa ys sm3 hf hfa3 ?_⟩
          unfold moves
          rw [needs_length]
          exact tds3
end
end K61

/-! The law's own moves. -/
namespace K61
open PySem PySem.Spec PyProof.Rows L2
section
variable {P : Program} {w : World} {K : PySem.W.Frag} {mg : Str → Option Value} {base : Heap}
abbrev sLMoves : Stmt := top 33
abbrev nLMoves : List Str := ["_law_plan_here", "_law_slots", "_law_state", "_law_done", "_law_held", "_law_found", "_law_job", "_law_one"]
theorem scLMoves : FnScope nLMoves ["_law_plan_here", "_law_slots", "_law_state"] (defScope sLMoves) := ⟨rfl, rfl, rfl, by decide +kernel, rfl, by decide +kernel, by decide +kernel⟩
theorem none_left (l d : List Nat) : (l.filter fun x => if true = true then !decide (x ∈ d) else decide (x ∈ d)).isEmpty = l.all fun x => decide (x ∈ d) := by
  show (l.filter fun x => !decide (x ∈ d)).isEmpty = _
  induction l with
  | nil => rfl
  | cons x l ih =>
    rw [List.filter_cons, List.all_cons]
    by_cases h : x ∈ d
    · simp [h, ih]
    · simp [h]
theorem ok_lmoves {f : Addr} {fd : FuncData} (F : Fun K "_law_slot_moves" "_law_slot_moves" sLMoves f fd) (G : Gb mg) : FnOk P w K mg base CX0 1 f fd ["_law_plan_here", "_law_slots", "_law_state"] spMoves := by
  refine F.ok scLMoves (fun vs H Q E h => ?_) (fun cdv A outer s0 H vs Q E hr h => ?_)
  · obtain ⟨pl, sv, p, n, s, rfl, _⟩ := h
    rfl
  · obtain ⟨pl, sv, p, n, s, rfl, hp, pok, hs, ok, q⟩ := h
    obtain ⟨sa, da, ha, rfl, es, ed, eh⟩ := stD_inv hs
    refine ⟨_, pss_cons (ps_asg (pv 2) (pg_tup rfl (pgs_cons (pg_name (i := 3) scLMoves.nd rfl (Or.inr rfl)) (pgs_cons (pg_name (i := 4) scLMoves.nd rfl (Or.inl rfl)) pgs_nil))))
      (pss_cons (ps_set (i := 5) scLMoves.nd rfl (Or.inl rfl) (pe_lst pa_nil))
      (pss_cons (ps_for PassesOwn.never rfl (pi_tup (pv 4)) (pg_name (i := 6) scLMoves.nd rfl (Or.inr rfl))
        (pss_one (ps_if (pt_cmpR (op_eqDK K hr.units) (pe_lc (own := [("_law_one", 7)]) (g := gName 7) rfl scLMoves.nd
            (pi_tup (pe_ix (ix_tupK K) (pe_ix (ix_tupK K) (pv 0) (pv 6) (fun _ _ => rfl)) pe_int (fun _ _ => rfl))) (blkOk_by (own := [("_law_one", 7)]) (N := nLMoves) (sc := defScope sLMoves) (by decide +kernel))
            (fun _ _ _ _ _ => pg_name (i := 7) scLMoves.nd rfl (Or.inl rfl)) (fun _ _ _ _ _ => pts_one (pt_cmpR (op_notIn_seqK K) (pv 7) (pv 3) (by rfl))) (fun _ _ _ _ _ => pv 7)) (pe_lst pa_nil) (nomark _))
            (pss_one (ps_expr (pe_bm PySem.F.plainAttrs_list PySem.F.slot_list_append PySem.F.type_list_append mt_append (pv 5) (pa_cons (pe_tup (pa_cons (pe_tup (pa_cons pe_str (pa_cons (pv 6) pa_nil)))
              (pa_cons (pe_tup (pa_cons (pe_callTy (call_tupK K) (by rfl) G.tuple PyProof.Rows.boot_tuple (pa_cons (pe_callB cr_sortedTup (by rfl) G.sorted PyProof.Rows.boot_sorted (pa_cons (pe_op (op_catAK K) (pv 3) (pe_tup (pa_cons (pv 6) pa_nil))) pa_nil)) pa_nil))
                (pa_cons (pe_callTy (call_tupK K) (by rfl) G.tuple PyProof.Rows.boot_tuple (pa_cons (pe_lc (own := [("_law_one", 7)]) (g := gName 7) rfl scLMoves.nd (pi_tup (pv 4))
              (blkOk_by (own := [("_law_one", 7)]) (N := nLMoves) (sc := defScope sLMoves) (by decide +kernel)) (fun _ _ _ _ _ => pg_name (i := 7) scLMoves.nd rfl (Or.inl rfl)) (fun _ _ _ _ _ => pts_one (pt_cmpR op_ne (pv 7) (pv 6) (nomark _))) (fun _ _ _ _ _ => pv 7)) pa_nil)) pa_nil))) pa_nil))) pa_nil))))
          pss_nil)))
      (pss_cons (ps_for PassesOwn.never rfl (pi_range1 (by rfl) G.range (pa_cons (pe_callB (call_lenK K) (by rfl) G.len PySem.boot_len (pa_cons (pv 0) pa_nil)) pa_nil)) (pg_name (i := 6) scLMoves.nd rfl (Or.inr rfl))
        (pss_one (ps_if (PW.pt (pw_and (pt_cmpR (op_notIn_seqK K) (pv 6) (pe_op (op_catAK K) (pv 3) (pv 4)) (by rfl)) (pw_and1 (pt_cmpR op_lt (pe_callB (call_lenK K) (by rfl) G.len PySem.boot_len (pa_cons (pv 4) pa_nil)) (pv 1) (nomark _)))))
          (pss_one (ps_expr (pe_bm PySem.F.plainAttrs_list PySem.F.slot_list_append PySem.F.type_list_append mt_append (pv 5) (pa_cons (pe_tup (pa_cons (pe_tup (pa_cons pe_str (pa_cons (pv 6) pa_nil)))
              (pa_cons (pe_tup (pa_cons (pv 3) (pa_cons (pe_callTy (call_tupK K) (by rfl) G.tuple PyProof.Rows.boot_tuple (pa_cons (pe_callB cr_sortedTup (by rfl) G.sorted PyProof.Rows.boot_sorted (pa_cons (pe_op (op_catAK K) (pv 4) (pe_tup (pa_cons (pv 6) pa_nil))) pa_nil)) pa_nil)) pa_nil))) pa_nil))) pa_nil))))
          pss_nil)))
      (pss_one (ps_ret (pv 5)))))), ?_⟩
    have fh := few_held ok pok.few.2
    refine ⟨_, rfl, sa, _, rfl, SqT.of es, rfl, _, _, rfl, _, _, rfl, rfl, ?_⟩
    refine ⟨Nat.zero_le _, fun fa hf => ?_⟩
    have lenH : (vN s.2).length = s.2.length := List.length_map _
    refine ⟨_, rfl, ha, rfl, ⟨_, SqT.of ((same_new hf) _ _ eh)⟩, for_it (walk_tup (K := K) (a := ha) (xs := vN s.2)) (fun i σ H' => ∃ y6 y8 xs, σ = [some pl, some (.int (n : Int)), some (.ref sa), some (.ref da), some (.ref ha), some (.ref fa), y6, y8] ∧ Same H H' ∧ H' fa = some (.lst xs) ∧
      TdAll H' xs ((((s.2.take i).filter (endable (needs p) s)).map (endTo s)).map mgD)) ⟨none, none, [], rfl, same_new hf, upd_same, .nil⟩ (fun i σ H' _ ⟨_, _, _, _, sm, _⟩ => SqT.of (sm _ _ eh)) ?_ ?_⟩
    · rintro i x σ H1 H2 hi ⟨y6, y8, xs, rfl, sm, hfa, tds⟩ ⟨rfl, hx⟩
      obtain ⟨j, hj, rfl⟩ := vN_at hx
      have hjm : j ∈ s.2 := List.mem_of_getElem? hj
      have hjn : j < p.length := ok.hn j hjm
      have hpj : p[j]? = some p[j] := List.getElem?_eq_getElem hjn
      have tk : s.2.take (i + 1) = s.2.take i ++ [j] := by rw [List.take_add_one, hj]; rfl
      have nj := needs_at hpj
      have tp : Td H2 pl (planD p) := hp.k (Kt.of sm)
      have td : Td H2 (.ref da) (tupN s.1) := tupN_td (sm _ _ ed)
      have th : Td H2 (.ref ha) (tupN s.2) := tupN_td (sm _ _ eh)
      refine (GvT.test (Gv.isNil (n := 0) (GvN.l (GvN.compT (tl := tOp (rIxT K) (tOp (rIxT K) (tVar 0) (tVar 6)) (tC (.int 1))) p[j].2.1 (fun x : Nat => PyData.int (x : Int)) (fun x : Nat => PyData.int (x : Int)) (fun x => if true = true then !decide (x ∈ s.1) else decide (x ∈ s.1)) 7
        (Gv.ixT (i := 1) (Gv.ixT (i := j) (Gv.var rfl tp) (Gv.var rfl (.int (j : Int))) rfl (by rw [List.getElem?_map, hpj]; rfl)) (Gv.int 1) rfl rfl)
        (fun x hx v H3 s3 tv => GvT.test (Gv.inN (neg := true) (Gv.var rfl tv) (Gv.var rfl (td.k (Kt.of s3))))) (fun x hx _ v H3 s3 tv => Gv.var rfl tv) ?_)) (shp_map (fun x : Nat => shp_int (x : Int)) _) (by decide))) _ _ (Same.refl _) fun H3 s3 => ?_
      · have h4 : p[j].2.1.length ≤ (List.range j).length := List.Nodup.length_le_of_subset (nodup_of_lt (pok.job j _ hpj).asc) fun x hx => List.mem_range.mpr ((pok.job j _ hpj).below x hx)
        rw [List.length_range] at h4
        have := pok.few
        omega
      · have hend : ((p[j].2.1.filter fun x => if true = true then !decide (x ∈ s.1) else decide (x ∈ s.1)).map fun x : Nat => PyData.int (x : Int)).isEmpty = endable (needs p) s j := by
          unfold endable
          rw [nj, List.isEmpty_map]
          exact none_left _ _
        have hfa3 : H3 fa = some (.lst xs) := s3 _ _ hfa
        rw [hend]
        cases he : endable (needs p) s j with
        | false =>
          refine iteF ⟨_, _, xs, rfl, sm.trans s3, hfa3, ?_⟩
          rw [tk, List.filter_append, List.filter_cons_of_neg (by rw [he]; exact Bool.false_ne_true), List.filter_nil, List.append_nil]
          exact tds.k (Kt.of s3)
        | true =>
          have td4 : Td H3 (.ref da) (tupN s.1) := td.k (Kt.of s3)
          have th4 : Td H3 (.ref ha) (tupN s.2) := th.k (Kt.of s3)
          have eflt : (s.2.filter fun x : Nat => !decide ((x : Int) = (j : Int))) = s.2.filter fun x => decide (x ≠ j) := List.filter_congr fun x _ => by
            by_cases h : x = j
            · subst h; simp
            · have : ¬ (x : Int) = (j : Int) := by omega
              simp [h, this]
          refine iteT ⟨_, rfl, .inl ⟨rfl, _, SqL.of hfa3⟩, ?_⟩
          refine (Gv.tup (GvA.cons (Gv.tup (GvA.cons (Gv.str (mvS false)) (GvA.cons (Gv.var rfl (.int (j : Int))) GvA.nil)))
            (GvA.cons (Gv.tup (GvA.cons (Gv.tupleOf (GvN.l (GvL.sorted (l := s.1 ++ [j]) (Gv.addOne (Gv.var rfl td4) (Gv.var rfl (.int (j : Int))) (by omega)) (by rw [List.length_append, List.length_singleton]; omega))))
              (GvA.cons (Gv.tupleOf (GvN.l (GvN.compT (tl := tVar 4) s.2 (fun x : Nat => PyData.int (x : Int)) (fun x : Nat => PyData.int (x : Int)) (fun x => !decide ((x : Int) = (j : Int))) 7 (Gv.var rfl th4)
            (fun x hx v H4 s4 tv => GvT.test (Gv.neI (Gv.var rfl tv) (Gv.var rfl (.int (j : Int))))) (fun x hx _ v H4 s4 tv => Gv.var rfl tv) (by omega)))) GvA.nil))) GvA.nil))) _ _ (Same.refl _) fun u H5 s5 tu => ?_
          have hfa5 : H5 fa = some (.lst xs) := s5 _ _ hfa3
          have kF : Kt H5 (upd H5 fa (.lst (xs ++ [u]))) := Kt.put fun vs e0 => by rw [hfa5] at e0; cases e0
          have tu : Td H5 u (mgD (endTo s j)) := by
            rw [eflt] at tu
            exact tu
          refine ⟨fa, xs, u, rfl, rfl, hfa5, ?_, _, _, xs ++ [u], rfl, same_put ((sm.trans s3).trans s5) hf, upd_same, ?_⟩
          · have l1 := tds.length
            rw [List.length_map, List.length_map] at l1
            have l2 := List.length_filter_le (endable (needs p) s) (s.2.take i)
            have l3 : (s.2.take i).length ≤ s.2.length := List.length_take_le' _ _
            exact smaller (m := 8) (by omega)
          · rw [tk, List.filter_append, List.filter_cons_of_pos he, List.filter_nil, List.map_append, List.map_append]
            exact ((tds.k (Kt.of (s3.trans s5))).k kF).snoc (tu.k kF)
    · rintro σ H1 ⟨y6, y8, xs, rfl, sm, hfa, tds⟩
      have lenN : (moves (needs p) n s).length ≤ 16 := by
        have := moves_length (needs p) n (s := s) (by rw [needs_length]; exact ok)
        rw [needs_length] at this
        have := pok.few
        omega
      rw [lenH, List.take_length] at tds
      refine (Gv.lenT (Gv.var rfl (hp.k (Kt.of sm)))) _ _ (Same.refl _) fun v H2 s2 tv => ⟨_, congrArg (fun z => [z]) tv.int_inv, ?_, ?_, ?_⟩
      · have := pok.few
        rw [List.length_map]
        omega
      · have := pok.few
        rw [List.length_map]
        omega
      · rw [List.length_map, Int.toNat_natCast]
        refine for_range (lo := 0) (n := p.length) (fun i σ H' => ∃ y6 y8 ys, σ = [some pl, some (.int (n : Int)), some (.ref sa), some (.ref da), some (.ref ha), some (.ref fa), y6, y8] ∧ Same H H' ∧ H' fa = some (.lst ys) ∧
          TdAll H' ys (((s.2.filter (endable (needs p) s)).map (endTo s) ++ ((List.range i).filter (startable n s)).map (startTo s)).map mgD)) ⟨y6, y8, xs, rfl, sm.trans s2, s2 _ _ hfa, by simpa using tds.k (Kt.of s2)⟩ ?_ ?_
        · rintro i σ H3 hi ⟨z6, z8, ys, rfl, sm3, hfa3, tds3⟩
          have td : Td H3 (.ref da) (tupN s.1) := tupN_td (sm3 _ _ ed)
          have th : Td H3 (.ref ha) (tupN s.2) := tupN_td (sm3 _ _ eh)
          have e0 : (0 : Int) + (i : Int) = (i : Int) := by omega
          rw [e0]
          have lenY : ys.length ≤ 16 := by
            have l1 := tds3.length
            have l2 : (((s.2.filter (endable (needs p) s)).map (endTo s) ++ ((List.range i).filter (startable n s)).map (startTo s)).map mgD).length ≤ 16 := by
              rw [List.length_map, List.length_append, List.length_map, List.length_map]
              have := List.length_filter_le (endable (needs p) s) s.2
              have := List.length_filter_le (startable n s) (List.range i)
              rw [List.length_range] at this
              have := pok.few
              omega
            omega
          have tcat : ∀ σ, σ[3]? = some (some (.ref da)) → σ[4]? = some (some (.ref ha)) → Gv (tOp (rCatA K) (tVar 3) (tVar 4)) σ H3 (tupN (s.1 ++ s.2)) := fun σ e3 e4 => by
            have := Gv.cat (K := K) (Gv.var e3 td) (Gv.var e4 th) (by rw [List.length_map, List.length_map]; omega)
            unfold tupN
            rw [List.map_append]
            exact this
          refine (GvT.and (GvT.test (Gv.inN (neg := true) (x := i) (Gv.var rfl (.int (i : Int))) (tcat _ rfl rfl))) (fun _ => GvT.test (Gv.lt (Gv.lenT (Gv.var rfl th)) (Gv.var rfl (.int (n : Int)))))) _ _ (Same.refl _) fun H4 s4 => ?_
          have hst : ((if true = true then !decide (i ∈ s.1 ++ s.2) else decide (i ∈ s.1 ++ s.2)) && decide ((((s.2.map fun j : Nat => PyData.int (j : Int)).length : Nat) : Int) < (n : Int))) = startable n s i := by
            unfold startable
            rw [List.length_map, if_pos rfl]
            have e1 : decide (((s.2.length : Nat) : Int) < (n : Int)) = decide (s.2.length < n) := by
              by_cases h : s.2.length < n
              · rw [decide_eq_true h, decide_eq_true (by omega)]
              · rw [decide_eq_false h, decide_eq_false (by omega)]
            rw [e1]
            by_cases h1 : i ∈ s.1 <;> by_cases h2 : i ∈ s.2 <;> by_cases h3 : s.2.length < n <;> simp [h1, h2, h3]
          have hfa4 : H4 fa = some (.lst ys) := s4 _ _ hfa3
          rw [hst]
          have rg : List.range (i + 1) = List.range i ++ [i] := List.range_succ
          cases he : startable n s i with
          | false =>
            refine iteF ⟨_, _, ys, rfl, sm3.trans s4, hfa4, ?_⟩
            rw [rg, List.filter_append, List.filter_cons_of_neg (by rw [he]; exact Bool.false_ne_true), List.filter_nil, List.append_nil]
            exact tds3.k (Kt.of s4)
          | true =>
            refine iteT ⟨_, rfl, .inl ⟨rfl, _, SqL.of hfa4⟩, ?_⟩
            refine (Gv.tup (GvA.cons (Gv.tup (GvA.cons (Gv.str (mvS true)) (GvA.cons (Gv.var rfl (.int (i : Int))) GvA.nil)))
              (GvA.cons (Gv.tup (GvA.cons (Gv.var rfl (td.k (Kt.of s4))) (GvA.cons (Gv.tupleOf (GvN.l (GvL.sorted (l := s.2 ++ [i]) (Gv.addOne (Gv.var rfl (th.k (Kt.of s4))) (Gv.var rfl (.int (i : Int))) (by omega)) (by rw [List.length_append, List.length_singleton]; omega)))) GvA.nil))) GvA.nil))) _ _ (Same.refl _) fun u H5 s5 tu => ?_
            have hfa5 : H5 fa = some (.lst ys) := s5 _ _ hfa4
            have kF : Kt H5 (upd H5 fa (.lst (ys ++ [u]))) := Kt.put fun vs e0 => by rw [hfa5] at e0; cases e0
            have tu : Td H5 u (mgD (startTo s i)) := tu
            refine ⟨fa, ys, u, rfl, rfl, hfa5, smaller (m := 16) lenY, _, _, ys ++ [u], rfl, same_put ((sm3.trans s4).trans s5) hf, upd_same, ?_⟩
            rw [rg, List.filter_append, List.filter_cons_of_pos he, List.filter_nil, List.map_append (f := startTo s), ← List.append_assoc, List.map_append (f := mgD)]
            exact ((tds3.k (Kt.of (s4.trans s5))).k kF).snoc (tu.k kF)
        · rintro σ H3 ⟨z6, z8, ys, rfl, sm3, hfa3, tds3⟩
          refine ⟨_, rfl, q H3 fa ys sm3 hf hfa3 ?_⟩
          unfold moves
          rw [needs_length]
          exact tds3
end
end K61

/-! slot_is_done, slot_all, _law_slot_all: the layers, walked. -/
namespace K61
open PySem PySem.Spec PyProof.Rows L2
/-! ### what grows -/
theorem grown_few {nd : List (List Nat)} {n k : Nat} {C : List Ent} (hn : nd.length ≤ 8) (h : ∀ c ∈ C, EntOk nd n (k + 1) c) : (below nd n (k + 1) ++ firsts C).length ≤ 65536 := by
  refine ents_few (slots := n) hn ?_ fun c hc => ?_
  · rw [List.map_append, List.nodup_append]
    refine ⟨below_nodup nd n _, firsts_nodup _, fun a ha b hb e => ?_⟩
    subst e
    obtain ⟨c, hc, e1⟩ := List.mem_map.mp ha
    obtain ⟨d, hd, e2⟩ := List.mem_map.mp hb
    obtain ⟨i, hi, h1⟩ := below_ok c hc
    have h2 := h d ((firsts_sub _).subset hd)
    have w1 := h1.w
    have w2 := h2.w
    rw [e1] at w1
    rw [e2] at w2
    omega
  · rcases List.mem_append.mp hc with q | q
    · obtain ⟨i, _, h1⟩ := below_ok c q
      exact ⟨i, h1⟩
    · exact ⟨k + 1, h c ((firsts_sub _).subset q)⟩
theorem grown_mem {nd : List (List Nat)} {n k : Nat} {C : List Ent} {e : Ent} (he : EntOk nd n (k + 1) e) : e.1 ∈ (below nd n (k + 1) ++ firsts C).map Prod.fst ↔ e.1 ∈ (firsts C).map Prod.fst := by
  rw [List.map_append, List.mem_append]
  refine ⟨fun h => h.elim (fun q => ?_) id, .inr⟩
  obtain ⟨c, hc, e1⟩ := List.mem_map.mp q
  obtain ⟨i, hi, h1⟩ := below_ok c hc
  have w1 := h1.w
  have w2 := he.w
  rw [e1] at w1
  omega
/-- at d a dict of the entries, their rows told by val -/
def EntRel (val : Row → PyData) (H : Hp) (p : Dn) (c : Ent) : Prop := p.1 = c.1 ∧ Td H p.2.2 (val c.2)
def Hs (P : Program) (w : World) (val : Row → PyData) (H : Hp) (d : Addr) (es : List Ent) : Prop := ∃ xs : List Dn, IsDn P w H d xs ∧ Paired (EntRel val H) xs es
section
variable {P : Program} {w : World} {val : Row → PyData} {H H' : Hp} {d : Addr} {es : List Ent}
theorem rel_keys : ∀ {xs : List Dn} {es : List Ent}, Paired (EntRel val H) xs es → xs.map (·.1) = es.map Prod.fst
  | _, _, .nil => rfl
  | _, _, .cons h t => by rw [List.map_cons, List.map_cons, h.1, rel_keys t]
theorem rel_get : ∀ {xs : List Dn} {es : List Ent} {c : Ent}, Paired (EntRel val H) xs es → c ∈ es → ∃ b v, (c.1, b, v) ∈ xs ∧ Td H v (val c.2)
  | _, _, _, .nil, h => by cases h
  | _, _, c, @Paired.cons _ _ _ p q ps qs h t, hc => by
    rcases List.mem_cons.mp hc with e | hc
    · subst e
      exact ⟨p.2.1, p.2.2, by rw [← h.1]; exact List.mem_cons_self, h.2⟩
    · obtain ⟨b, v, h1, h2⟩ := rel_get t hc
      exact ⟨b, v, List.mem_cons_of_mem _ h1, h2⟩
theorem rel_keep (k : Kt H H') {xs : List Dn} {es : List Ent} (r : Paired (EntRel val H) xs es) : Paired (EntRel val H') xs es := Paired.mapP r fun _ _ h => ⟨h.1, h.2.k k⟩
theorem Hs.same (h : Hs P w val H d es) (s : Same H H') : Hs P w val H' d es := by
  obtain ⟨xs, h1, h2⟩ := h
  exact ⟨xs, h1.same s, rel_keep (Kt.of s) h2⟩
theorem Hs.nt (h : Hs P w val H d es) : ∀ vs, H d ≠ some (.tup vs) := by
  obtain ⟨xs, h1, _⟩ := h
  exact h1.nt
/-- another object is changed -/
theorem Hs.other (h : Hs P w val H d es) {a : Addr} {o : HO} (hne : d ≠ a) (ht : ∀ vs, H a ≠ some (.tup vs)) : Hs P w val (upd H a o) d es := by
  obtain ⟨xs, h1, h2⟩ := h
  exact ⟨xs, h1.keep (upd_ne hne) (Kt.put ht), rel_keep (Kt.put ht) h2⟩
theorem Hs.put {xs : List Dn} {a : Addr} {v : V} {c : Ent} (h1 : IsDn P w H d xs) (h2 : Paired (EntRel val H) xs es) (ha : Td H (.ref a) (stD c.1)) (hv : Td H v (val c.2)) : Hs P w val (upd H d (dN P w d (xs ++ [(c.1, a, v)]))) d (es ++ [c]) := by
  have k : Kt H (upd H d (dN P w d (xs ++ [(c.1, a, v)]))) := Kt.put h1.nt
  exact ⟨_, h1.put ha, pair_snoc ⟨rfl, hv.k k⟩ (rel_keep k h2)⟩
end
theorem Gv.setS {te : TE} {u : TS} {D : Ends} {σ : L2.St} {H : Hp} {d : PyData} {i : Nat} (h : Gv te σ H d) (k : ∀ v H2, Same H H2 → Td H2 v d → u D (σ.set i (some v)) H2) : tSeq (tAsg te (gName i)) u D σ H := h H _ (Same.refl H) fun v H2 s td => k v H2 s td
theorem Gv.getN {P : Program} {w : World} {val : Row → PyData} {σ : L2.St} {H : Hp} {d a : Addr} {es : List Ent} {c : Ent} {i j : Nat} (hi : σ[i]? = some (some (.ref d))) (hj : σ[j]? = some (some (.ref a))) (h : Hs P w val H d es) (hc : c ∈ es) (ha : Td H (.ref a) (stD c.1)) :
    Gv (tGetN P w (tVar i) (tVar j)) σ H (val c.2) := fun H1 Q s k => by
  obtain ⟨xs, h1, h2⟩ := h.same s
  obtain ⟨b, v, hm, tv⟩ := rel_get h2 hc
  exact ⟨_, hi, _, hj, d, a, c.1, xs, b, v, rfl, rfl, ha.k (Kt.of s), ⟨.inl h1.1, h1.2⟩, hm, k v H1 (Same.refl _) tv⟩
/-- while a layer grows: the dict, the later states, this layer's states -/
structure Grow (P : Program) (w : World) (val : Row → PyData) (nd : List (List Nat)) (n k : Nat) (H : Hp) (d la ra : Addr) (rv : List V) (C : List Ent) (H' : Hp) : Prop where
  same : Same H H'
  dict : Hs P w val H' d (below nd n (k + 1) ++ firsts C)
  later : ∃ lv, H' la = some (.lst lv) ∧ TdAll H' lv ((firsts C).map fun c => stD c.1)
  row : H' ra = some (.lst rv)
  data : TdAll H' rv ((lay nd n k).map fun c => stD c.1)
section
variable {P : Program} {w : World} {val : Row → PyData} {nd : List (List Nat)} {n k : Nat} {H H' H2 : Hp} {d la ra : Addr} {rv : List V} {C : List Ent}
theorem Grow.to (g : Grow P w val nd n k H d la ra rv C H') (s : Same H' H2) : Grow P w val nd n k H d la ra rv C H2 := by
  obtain ⟨lv, h1, h2⟩ := g.later
  exact ⟨g.same.trans s, g.dict.same s, ⟨lv, s _ _ h1, h2.k (Kt.of s)⟩, s _ _ g.row, g.data.k (Kt.of s)⟩
theorem Grow.skip (g : Grow P w val nd n k H d la ra rv C H') {e : Ent} (h : e.1 ∈ (firsts C).map Prod.fst) : Grow P w val nd n k H d la ra rv (C ++ [e]) H' := by
  have eq : firsts (C ++ [e]) = firsts C := by
    rw [firsts_snoc]
    exact if_pos h
  exact ⟨g.same, by rw [eq]; exact g.dict, by rw [eq]; exact g.later, g.row, g.data⟩
/-- a new state is put and appended -/
theorem Grow.put (g : Grow P w val nd n k H d la ra rv C H') {e : Ent} {xs : List Dn} {lv : List V} {a : Addr} {v : V} (hd : H d = none) (hl : H la = none) (hr : la ≠ ra) (h : e.1 ∉ (firsts C).map Prod.fst) (h1 : IsDn P w H' d xs) (h2 : Paired (EntRel val H') xs (below nd n (k + 1) ++ firsts C))
    (h3 : H' la = some (.lst lv)) (h4 : TdAll H' lv ((firsts C).map fun c => stD c.1)) (ha : Td H' (.ref a) (stD e.1)) (hv : Td H' v (val e.2)) :
    Grow P w val nd n k H d la ra rv (C ++ [e]) (upd (upd H' d (dN P w d (xs ++ [(e.1, a, v)]))) la (.lst (lv ++ [.ref a]))) := by
  have eq : firsts (C ++ [e]) = firsts C ++ [e] := by
    rw [firsts_snoc]
    exact if_neg h
  have hp := Hs.put h1 h2 ha hv
  have ndl : d ≠ la := fun q => by
    rw [q] at h1
    have e1 := h1.1
    rw [h3] at e1
    cases e1
  have ndr : d ≠ ra := fun q => by
    rw [q] at h1
    have e1 := h1.1
    rw [g.row] at e1
    cases e1
  have hl2 : (upd H' d (dN P w d (xs ++ [(e.1, a, v)]))) la = some (.lst lv) := by rw [upd_ne ndl.symm]; exact h3
  have nt2 : ∀ vs, (upd H' d (dN P w d (xs ++ [(e.1, a, v)]))) la ≠ some (.tup vs) := fun vs q => by rw [hl2] at q; cases q
  have k1 : Kt H' (upd H' d (dN P w d (xs ++ [(e.1, a, v)]))) := Kt.put h1.nt
  have k2 : Kt H' (upd (upd H' d (dN P w d (xs ++ [(e.1, a, v)]))) la (.lst (lv ++ [.ref a]))) := k1.trans (Kt.put nt2)
  refine ⟨same_put (same_put g.same hd) hl, ?_, ⟨_, upd_same, ?_⟩, ?_, g.data.k k2⟩
  · rw [eq, ← List.append_assoc]
    exact hp.other ndl nt2
  · rw [eq, List.map_append]
    exact (h4.k k2).snoc (ha.k k2)
  · rw [upd_ne hr.symm, upd_ne ndr.symm]
    exact g.row
end
def spAll (P : Program) (w : World) : Sp := fun vs H Q _ => ∃ (pl : V) (p : List Job) (n : Nat), vs = [pl, .int (n : Int)] ∧ Td H pl (planD p) ∧ PlanOk p ∧
  ∀ H' d, Same H H' → H d = none → Hs P w rowD H' d (all (needs p) n) → Q (.ref d) H'
theorem lay_states {nd : List (List Nat)} {n k : Nat} : ∀ x ∈ (lay nd n k).map fun c => stD c.1, shp 2 x := fun x hx => by
  obtain ⟨c, _, rfl⟩ := List.mem_map.mp hx
  exact shp_st _
section
variable {P : Program} {w : World} {K : PySem.W.Frag} {mg : Str → Option Value} {base : Heap}
/-! slot_is_done -/
abbrev sDone : Stmt := top 19
theorem scDone : FnScope ["plan", "state"] ["plan", "state"] (defScope sDone) := ⟨rfl, rfl, rfl, by decide +kernel, rfl, by decide +kernel, by decide +kernel⟩
def spDone : Sp := fun vs H Q _ => ∃ (pl sv : V) (p : List Job) (s : St), vs = [pl, sv] ∧ Td H pl (planD p) ∧ Td H sv (stD s) ∧ ∀ H', Same H H' → Q (.bl (decide (s.1.length = p.length))) H'
theorem ok_done {f : Addr} {fd : FuncData} (F : Fun K "slot_is_done" "slot_is_done" sDone f fd) (G : Gb mg) : FnOk P w K mg base CX0 1 f fd ["plan", "state"] spDone := by
  refine F.ok scDone (fun vs H Q E h => ?_) (fun cdv A outer s0 H vs Q E hr h => ?_)
  · obtain ⟨pl, sv, p, s, rfl, _⟩ := h
    rfl
  · obtain ⟨pl, sv, p, s, rfl, hp, hs, q⟩ := h
    refine ⟨_, pss_one (ps_ret (pe_cmpR op_eq (pe_callB (call_lenK K) (by rfl) G.len PySem.boot_len (pa_cons (pe_ix (ix_tupK K) (pv 1) pe_int (fun _ _ => rfl)) pa_nil)) (pe_callB (call_lenK K) (by rfl) G.len PySem.boot_len (pa_cons (pv 0) pa_nil)) (nomark _))), ?_⟩
    refine (Gv.eqI (Gv.lenT (Gv.ixT (i := 0) (Gv.var rfl hs) (Gv.int 0) rfl rfl)) (Gv.lenT (Gv.var rfl hp))) _ _ (Same.refl _) fun v H2 s2 td => ?_
    rw [td.bl_inv, List.length_map, List.length_map]
    have e : decide (((s.1.length : Nat) : Int) = ((p.length : Nat) : Int)) = decide (s.1.length = p.length) := by
      by_cases h : s.1.length = p.length
      · simp [h]
      · have : ¬ ((s.1.length : Nat) : Int) = ((p.length : Nat) : Int) := by omega
        simp [h, this]
    rw [e]
    exact q H2 s2
/-! slot_all -/
abbrev sAll : Stmt := top 20
abbrev nAll : List Str := ["plan", "slots", "begin", "found", "row", "later", "state", "move", "goal"]
theorem scAll : FnScope nAll ["plan", "slots"] (defScope sAll) := ⟨rfl, rfl, rfl, by decide +kernel, rfl, by decide +kernel, by decide +kernel⟩
theorem ok_all {f fM : Addr} {fd fdM : FuncData} (F : Fun K "slot_all" "slot_all" sAll f fd) (GM : FnOk P w K mg base CX0 1 fM fdM ["plan", "slots", "state"] spMoves) (bM : Binds K fdM ["plan", "slots", "state"] []) (gM : mg "slot_moves" = some (.ref fM)) (kM : PySem.W.keepIn K (.ref fM) = true) :
    FnOk P w K mg base CX0 2 f fd ["plan", "slots"] (spAll P w) := by
  refine F.ok scAll (fun vs H Q E h => ?_) (fun cdv A outer s0 H vs Q E hr h => ?_)
  · obtain ⟨pl, p, n, rfl, _⟩ := h
    rfl
  · obtain ⟨pl, p, n, rfl, hp, pok, q⟩ := h
    have hu := hr.units
    refine ⟨_, pss_cons (ps_set (i := 2) scAll.nd rfl (Or.inl rfl) (pe_tup (pa_cons (pe_tup pa_nil) (pa_cons (pe_tup pa_nil) pa_nil))))
      (pss_cons (ps_par (i := 3) (j := 4) rfl scAll.nd rfl rfl (by decide) rfl rfl (pa_cons (pe_dispN hu (pv 2) (pe_tup pa_nil)) (pa_cons (pe_lst (pa_cons (pv 2) pa_nil)) pa_nil)) (by rfl))
      (pss_cons (ps_while PassesOwn.never (pt_cmpR (op_neDK K hu) (pv 4) (pe_lst pa_nil) (nomark _))
        (pss_cons (ps_set (i := 5) scAll.nd rfl (Or.inl rfl) (pe_lst pa_nil))
        (pss_cons (ps_for PassesOwn.never rfl (pi_list (pv 4)) (pg_name (i := 6) scAll.nd rfl (Or.inl rfl))
          (pss_one (ps_for PassesOwn.never rfl (pi_list (pe_call GM hr (by rfl) gM kM bM .nil pass0 (pa_cons (pv 0) (pa_cons (pv 1) (pa_cons (pv 6) pa_nil)))))
            (pg_tup rfl (pgs_cons (pg_name (i := 7) scAll.nd rfl (Or.inl rfl)) (pgs_cons (pg_name (i := 8) scAll.nd rfl (Or.inl rfl)) pgs_nil)))
            (pss_one (ps_if (pt_cmpR (op_notInN hu) (pv 8) (pv 3) (by rfl))
              (pss_cons (ps_asg (pe_op (op_catAK K) (pe_getN hu (pv 3) (pv 6) (fun _ _ => rfl)) (pe_tup (pa_cons (pv 7) pa_nil))) (pg_sub (pv 3) (pv 8) (set_dN hu)))
                (pss_one (ps_expr (pe_bm PySem.F.plainAttrs_list PySem.F.slot_list_append PySem.F.type_list_append mt_append (pv 5) (pa_cons (pv 8) pa_nil)))))
              pss_nil)))))
        (pss_one (ps_set (i := 4) scAll.nd rfl (Or.inl rfl) (pv 5))))))
      (pss_one (ps_ret (pv 3))))), ?_⟩
    have few := pok.few
    have nl : (needs p).length = p.length := needs_length p
    refine Gv.setS (Gv.tup (GvA.cons (Gv.tup GvA.nil) (GvA.cons (Gv.tup GvA.nil) GvA.nil))) fun bv H1 s1 tb => ?_
    have tb : Td H1 bv (stD ([], [])) := tb
    obtain ⟨ba, b1, b2, rfl, _⟩ := stD_inv tb
    intro dd hdd
    refine ⟨.ref ba, rfl, Nat.zero_le _, fun ea hea => ?_⟩
    have s2 : Same H1 (upd (upd H1 dd (.dK [])) ea (.tup [])) := (same_new hdd).trans (same_new hea)
    have nde : dd ≠ ea := fun q => by rw [← q, upd_same] at hea; cases hea
    refine ⟨by rw [upd_ne nde, upd_same], ba, ([], []), .ref ea, rfl, tb.k (Kt.of s2), ?_⟩
    have s3 : Same H1 (upd (upd (upd H1 dd (.dK [])) ea (.tup [])) dd (dN P w dd [(([], []), ba, .ref ea)])) := same_put s2 hdd
    refine ⟨_, rfl, small (m := 1) (Nat.le_refl 1), fun ra hra => ⟨_, _, rfl, ?_⟩⟩
    have s4 := s3.trans (same_new (o := .lst [.ref ba]) hra)
    have ndr : dd ≠ ra := fun q => by rw [← q, upd_same] at hra; cases hra
    have ner : ea ≠ ra := fun q => by rw [← q, upd_ne nde.symm, upd_same] at hra; cases hra
    have hd0 : H dd = none := s1.free hdd
    have hdict : Hs P w rowD (upd (upd (upd (upd H1 dd (.dK [])) ea (.tup [])) dd (dN P w dd [(([], []), ba, .ref ea)])) ra (.lst [.ref ba])) dd (below (needs p) n (0 + 1)) := by
      refine ⟨[(([], []), ba, .ref ea)], ⟨by rw [upd_ne ndr, upd_same], fun q hq => ?_⟩, ?_⟩
      · rw [List.mem_singleton.mp hq]
        exact tb.k (Kt.of s4)
      · rw [below_succ]
        exact .cons ⟨rfl, .tup (by rw [upd_ne ner, upd_ne nde.symm, upd_same]) .nil⟩ .nil
    refine ⟨fun m σ H' => ∃ k ra y5 y6 y7 y8 rv, m + k = 2 * p.length + 1 ∧ σ = [some pl, some (.int (n : Int)), some (.ref ba), some (.ref dd), some (.ref ra), y5, y6, y7, y8] ∧ Same H H' ∧ Hs P w rowD H' dd (below (needs p) n (k + 1)) ∧ H' ra = some (.lst rv) ∧
      TdAll H' rv ((lay (needs p) n k).map fun c => stD c.1), ⟨2 * p.length + 1, 0, ra, none, none, none, none, [.ref ba], rfl, rfl, s1.trans s4, hdict, upd_same, .cons (tb.k (Kt.of s4)) .nil⟩, ?_⟩
    rintro m σ H5 ⟨k, ra, y5, y6, y7, y8, rv, hm, rfl, sm, hD, hra, trv⟩
    refine (GvT.test (Gv.notNil (GvL.var rfl hra trv) lay_states (by decide))) _ _ (Same.refl _) fun H6 s6 => ?_
    cases hlay : lay (needs p) n k with
    | nil =>
      rw [hlay] at trv
      refine iteF ⟨_, rfl, q H6 dd (sm.trans s6) hd0 ?_⟩
      have e1 : below (needs p) n (k + 1) = all (needs p) n := by
        rw [below_succ, hlay, List.append_nil]
        exact below_all hlay (by rw [nl]; omega)
      rw [← e1]
      exact hD.same s6
    | cons c0 rest =>
      have hk : k ≤ 2 * p.length := Nat.le_of_not_lt fun hlt => by
        rw [lay_end (by rw [nl]; exact hlt)] at hlay
        cases hlay
      refine iteT ⟨fun σ' H' => ∃ ra y5 y6 y7 y8 rv, σ' = [some pl, some (.int (n : Int)), some (.ref ba), some (.ref dd), some (.ref ra), y5, y6, y7, y8] ∧ Same H H' ∧ Hs P w rowD H' dd (below (needs p) n (k + 1 + 1)) ∧ H' ra = some (.lst rv) ∧
        TdAll H' rv ((lay (needs p) n (k + 1)).map fun c => stD c.1), fun σ' H' ⟨ra', z5, z6, z7, z8, rv', e1, e2, e3, e4, e5⟩ => ⟨m - 1, by omega, k + 1, ra', z5, z6, z7, z8, rv', by omega, e1, e2, e3, e4, e5⟩, ?_⟩
      refine ⟨Nat.zero_le _, fun la hla => ?_⟩
      have hra6 : H6 ra = some (.lst rv) := s6 _ _ hra
      have nlr : la ≠ ra := fun q => by rw [q, hra6] at hla; cases hla
      have hl0 : H la = none := (sm.trans s6).free hla
      have g0 : Grow P w rowD (needs p) n k H dd la ra rv [] (upd H6 la (.lst [])) := by
        have sN : Same H6 (upd H6 la (.lst [])) := same_new hla
        refine ⟨(sm.trans s6).trans sN, ?_, ⟨[], upd_same, .nil⟩, sN _ _ hra6, trv.k (Kt.of (s6.trans sN))⟩
        rw [firsts_nil, List.append_nil]
        exact hD.same (s6.trans sN)
      have lenR : rv.length = (lay (needs p) n k).length := by rw [trv.length, List.length_map]
      refine ⟨_, rfl, ra, rfl, ⟨_, SqL.of g0.row⟩, for_it (walk_list (K := K) (a := ra) (xs := rv)) (fun i σ H' => ∃ y6 y7 y8, σ = [some pl, some (.int (n : Int)), some (.ref ba), some (.ref dd), some (.ref ra), some (.ref la), y6, y7, y8] ∧
        Grow P w rowD (needs p) n k H dd la ra rv (((lay (needs p) n k).take i).flatMap (cand (needs p) n)) H') ⟨y6, y7, y8, rfl, g0⟩ (fun i σ H' _ ⟨_, _, _, _, g⟩ => SqL.of g.row) ?_ ?_⟩
      · rintro i x σ H7 H8 hi ⟨z6, z7, z8, rfl, g⟩ ⟨rfl, hx⟩
        obtain ⟨c, hc, tc⟩ := g.data.at hx
        have hcm : c ∈ lay (needs p) n k := List.mem_of_getElem? hc
        have cok := lay_ok (needs p) n k c hcm
        obtain ⟨sa, _, _, rfl, _⟩ := stD_inv tc
        refine ⟨_, rfl, _, rfl, _, rfl, pl, .ref sa, p, n, c.1, rfl, hp.k (Kt.of g.same), pok, tc, by rw [← nl]; exact cok.ok, fun H9 ma mv s9 hma0 hma tmv => ⟨ma, rfl, ⟨_, SqL.of hma⟩, ?_⟩⟩
        have g9 := g.to s9
        have lenM : mv.length = (moves (needs p) n c.1).length := by rw [tmv.length, List.length_map]
        have tk : (lay (needs p) n k).take (i + 1) = (lay (needs p) n k).take i ++ [c] := by rw [List.take_add_one, hc]; rfl
        have hCok : ∀ j, ∀ e ∈ ((lay (needs p) n k).take i).flatMap (cand (needs p) n) ++ (cand (needs p) n c).take j, EntOk (needs p) n (k + 1) e := fun j e he => by
          rcases List.mem_append.mp he with h | h
          · obtain ⟨c', hc', he'⟩ := List.mem_flatMap.mp h
            exact cand_ok (lay_ok _ _ _ c' (List.mem_of_mem_take hc')) he'
          · exact cand_ok cok (List.mem_of_mem_take h)
        refine for_it (walk_list (K := K) (a := ma) (xs := mv)) (fun j σ H' => ∃ y7 y8, σ = [some pl, some (.int (n : Int)), some (.ref ba), some (.ref dd), some (.ref ra), some (.ref la), some (.ref sa), y7, y8] ∧
          Grow P w rowD (needs p) n k H dd la ra rv (((lay (needs p) n k).take i).flatMap (cand (needs p) n) ++ (cand (needs p) n c).take j) H' ∧ H' ma = some (.lst mv) ∧ TdAll H' mv ((moves (needs p) n c.1).map mgD)) ⟨z7, z8, rfl, by simpa using g9, hma, tmv⟩
          (fun j σ H' _ ⟨_, _, _, _, h, _⟩ => SqL.of h) ?_ ?_
        · rintro j y σ Hb Ha hj ⟨u7, u8, rfl, ga, hmaA, tma⟩ ⟨rfl, hy⟩
          obtain ⟨⟨mvm, gl⟩, hmg, tmg⟩ := tma.at hy
          obtain ⟨pa, vs, rfl, epa, qpa⟩ := tmg.tup_inv
          obtain ⟨mv1, gv1, rfl, tm1, tg1⟩ := qpa.two
          obtain ⟨gaddr, _, _, rfl, _⟩ := stD_inv tg1
          refine ⟨pa, _, rfl, SqT.of epa, rfl, _, _, rfl, _, _, rfl, rfl, ?_⟩
          have hce : (cand (needs p) n c)[j]? = some (gl, c.2 ++ [mvm]) := by
            unfold cand
            rw [List.getElem?_map, hmg]
            rfl
          have tkc : (cand (needs p) n c).take (j + 1) = (cand (needs p) n c).take j ++ [(gl, c.2 ++ [mvm])] := by rw [List.take_add_one, hce]; rfl
          have eok : EntOk (needs p) n (k + 1) (gl, c.2 ++ [mvm]) := cand_ok cok (List.mem_of_getElem? hce)
          obtain ⟨xs, isd, rel⟩ := ga.dict
          have keys := rel_keys rel
          refine ⟨_, rfl, _, rfl, dd, gaddr, gl, xs, rfl, rfl, tg1, isd, _, rfl, ?_⟩
          have hmem : gl ∈ xs.map (·.1) ↔ gl ∈ (firsts (((lay (needs p) n k).take i).flatMap (cand (needs p) n) ++ (cand (needs p) n c).take j)).map Prod.fst := by
            rw [keys]
            exact grown_mem eok
          by_cases hin : gl ∈ xs.map (·.1)
          · rw [decide_eq_true hin]
            refine iteF ⟨_, _, rfl, ?_, hmaA, tma⟩
            rw [tkc, ← List.append_assoc]
            exact ga.skip (hmem.mp hin)
          · rw [decide_eq_false hin]
            have hrow : Gv (tOp (rCatA K) (tGetN P w (tVar 3) (tVar 6)) (tTup (tCons (tVar 7) tNil))) [some pl, some (.int (n : Int)), some (.ref ba), some (.ref dd), some (.ref ra), some (.ref la), some (.ref sa), some mv1, some (.ref gaddr)] Ha (rowD (c.2 ++ [mvm])) := by
              have tca : Td Ha (.ref sa) (stD c.1) := by
                obtain ⟨c', hc', tc'⟩ := ga.data.at hx
                rw [hc] at hc'
                cases hc'
                exact tc'
              have g1 := Gv.getN (P := P) (w := w) (val := rowD) (σ := [some pl, some (.int (n : Int)), some (.ref ba), some (.ref dd), some (.ref ra), some (.ref la), some (.ref sa), some mv1, some (.ref gaddr)]) (i := 3) (j := 6) rfl rfl ga.dict (c := c)
                (List.mem_append_left _ (by rw [below_succ]; exact List.mem_append_right _ hcm)) tca
              have := Gv.cat (K := K) g1 (Gv.tup (GvA.cons (Gv.var (i := 7) rfl tm1) GvA.nil)) (by
                rw [List.length_map, cok.len]
                show k + 1 ≤ _
                omega)
              unfold rowD
              rw [List.map_append]
              exact this
            refine iteT (hrow _ _ (Same.refl _) fun rowv Hc sc trow => ?_)
            have gc := ga.to sc
            obtain ⟨xs2, isd2, rel2⟩ := gc.dict
            have keys2 := rel_keys rel2
            have hnot : gl ∉ xs2.map (·.1) := by
              rw [keys2, ← keys]
              exact hin
            have hfew := grown_few (by rw [nl]; exact few.2) (hCok j)
            have hlen2 : xs2.length ≤ 65536 := by
              rw [Paired.length rel2]
              exact hfew
            refine ⟨_, rfl, _, rfl, dd, gaddr, gl, xs2, rfl, rfl, tg1.k (Kt.of sc), isd2, hnot, smaller (m := 65536) hlen2, ?_⟩
            obtain ⟨lv, hlv, tlv⟩ := gc.later
            have ndl : dd ≠ la := fun q => by
              have e1 := isd2.1
              rw [q, hlv] at e1
              cases e1
            have hlv2 : (upd Hc dd (dN P w dd (xs2 ++ [(gl, gaddr, rowv)]))) la = some (.lst lv) := by rw [upd_ne ndl.symm]; exact hlv
            refine ⟨_, rfl, .inl ⟨rfl, _, SqL.of hlv2⟩, _, rfl, la, lv, _, rfl, rfl, hlv2, ?_, ?_⟩
            · have l1 := tlv.length
              rw [List.length_map] at l1
              rw [List.length_append] at hfew
              exact smaller (m := 65536) (by omega)
            · have gput := gc.put (e := (gl, c.2 ++ [mvm])) hd0 hl0 nlr (fun h => hin (hmem.mpr h)) isd2 rel2 hlv tlv (tg1.k (Kt.of sc)) trow
              have ndm : ma ≠ dd := fun q => by
                have e1 := isd.1
                rw [← q, hmaA] at e1
                cases e1
              have nml : ma ≠ la := fun q => by
                rw [q] at hma0
                obtain ⟨lv0, h0, _⟩ := g.later
                rw [h0] at hma0
                cases hma0
              have nt1 : ∀ vs, (upd Hc dd (dN P w dd (xs2 ++ [(gl, gaddr, rowv)]))) la ≠ some (.tup vs) := fun vs e0 => by rw [hlv2] at e0; cases e0
              refine ⟨_, _, rfl, ?_, ?_, tma.k ((Kt.of sc).trans ((Kt.put isd2.nt).trans (Kt.put nt1)))⟩
              · rw [tkc, ← List.append_assoc]
                exact gput
              · rw [upd_ne nml, upd_ne ndm]
                exact sc _ _ hmaA
        · rintro σ Ha ⟨u7, u8, rfl, ga, hmaA, tma⟩
          refine ⟨_, _, _, rfl, ?_⟩
          rw [tk, List.flatMap_append]
          have e1 : (cand (needs p) n c).take mv.length = cand (needs p) n c := List.take_of_length_le (by rw [lenM]; unfold cand; rw [List.length_map]; exact Nat.le_refl _)
          rw [e1] at ga
          simpa using ga
      · rintro σ H7 ⟨z6, z7, z8, rfl, g⟩
        rw [lenR, List.take_length] at g
        obtain ⟨lv, hlv, tlv⟩ := g.later
        refine ⟨_, rfl, la, _, _, _, _, lv, rfl, g.same, ?_, hlv, tlv⟩
        rw [below_succ _ _ (k + 1)]
        exact g.dict
end
end K61

/-! The law's own walk through the layers. -/
namespace K61
open PySem PySem.Spec PyProof.Rows L2
/-- a row told by its length -/
def valK (r : Row) : PyData := .int (r.length : Int)
def spLAll (P : Program) (w : World) : Sp := fun vs H Q _ => ∃ (pl b : V) (p : List Job) (n : Nat), vs = [pl, .int (n : Int), b] ∧ Td H pl (planD p) ∧ Td H b (stD ([], [])) ∧ PlanOk p ∧
  ∀ H' d, Same H H' → H d = none → Hs P w valK H' d (all (needs p) n) → Q (.ref d) H'
section
variable {P : Program} {w : World} {K : PySem.W.Frag} {mg : Str → Option Value} {base : Heap}
abbrev sLAll : Stmt := top 34
abbrev nLAll : List Str := ["_law_plan_here", "_law_slots", "_law_begin", "_law_known", "_law_row", "_law_many", "_law_later", "_law_state", "_law_move", "_law_goal"]
theorem scLAll : FnScope nLAll ["_law_plan_here", "_law_slots", "_law_begin"] (defScope sLAll) := ⟨rfl, rfl, rfl, by decide +kernel, rfl, by decide +kernel, by decide +kernel⟩
theorem ok_lall {f fM : Addr} {fd fdM : FuncData} (F : Fun K "_law_slot_all" "_law_slot_all" sLAll f fd) (GM : FnOk P w K mg base CX0 1 fM fdM ["_law_plan_here", "_law_slots", "_law_state"] spMoves) (bM : Binds K fdM ["_law_plan_here", "_law_slots", "_law_state"] []) (gM : mg "_law_slot_moves" = some (.ref fM)) (kM : PySem.W.keepIn K (.ref fM) = true) :
    FnOk P w K mg base CX0 2 f fd ["_law_plan_here", "_law_slots", "_law_begin"] (spLAll P w) := by
  refine F.ok scLAll (fun vs H Q E h => ?_) (fun cdv A outer s0 H vs Q E hr h => ?_)
  · obtain ⟨pl, b, p, n, rfl, _⟩ := h
    rfl
  · obtain ⟨pl, bv, p, n, rfl, hp, tb, pok, q⟩ := h
    have hu := hr.units
    refine ⟨_, pss_cons (ps_par3 (i := 3) (j := 4) (l := 5) rfl scLAll.nd rfl rfl rfl (by decide) (by decide) (by decide) rfl rfl rfl (pa_cons (pe_dispN hu (pv 2) pe_int) (pa_cons (pe_lst (pa_cons (pv 2) pa_nil)) (pa_cons pe_int pa_nil))) (by rfl))
      (pss_cons (ps_while PassesOwn.never (pt_cmpR (op_neDK K hu) (pv 4) (pe_lst pa_nil) (nomark _))
        (pss_cons (ps_par (i := 6) (j := 5) rfl scLAll.nd rfl rfl (by decide) rfl rfl (pa_cons (pe_lst pa_nil) (pa_cons (pe_op op_add (pv 5) pe_int) pa_nil)) (by rfl))
        (pss_cons (ps_for PassesOwn.never rfl (pi_list (pv 4)) (pg_name (i := 7) scLAll.nd rfl (Or.inl rfl))
          (pss_one (ps_for PassesOwn.never rfl (pi_list (pe_call GM hr (by rfl) gM kM bM .nil pass0 (pa_cons (pv 0) (pa_cons (pv 1) (pa_cons (pv 7) pa_nil)))))
            (pg_tup rfl (pgs_cons (pg_name (i := 8) scLAll.nd rfl (Or.inl rfl)) (pgs_cons (pg_name (i := 9) scLAll.nd rfl (Or.inl rfl)) pgs_nil)))
            (pss_one (ps_if (pt_cmpR (op_notInN hu) (pv 9) (pv 3) (by rfl))
              (pss_cons (ps_asg (pv 5) (pg_sub (pv 3) (pv 9) (set_dN hu)))
                (pss_one (ps_expr (pe_bm PySem.F.plainAttrs_list PySem.F.slot_list_append PySem.F.type_list_append mt_append (pv 6) (pa_cons (pv 9) pa_nil)))))
              pss_nil)))))
        (pss_one (ps_set (i := 4) scLAll.nd rfl (Or.inl rfl) (pv 6))))))
      (pss_one (ps_ret (pv 3)))), ?_⟩
    have few := pok.few
    have nl : (needs p).length = p.length := needs_length p
    obtain ⟨ba, b1, b2, rfl, _⟩ := stD_inv tb
    intro dd hdd
    have s2 : Same H (upd H dd (.dK [])) := same_new hdd
    refine ⟨.ref ba, rfl, upd_same, ba, ([], []), .int 0, rfl, tb.k (Kt.of s2), ?_⟩
    have s3 : Same H (upd (upd H dd (.dK [])) dd (dN P w dd [(([], []), ba, .int 0)])) := same_put s2 hdd
    refine ⟨_, rfl, small (m := 1) (Nat.le_refl 1), fun ra hra => ⟨_, _, _, rfl, ?_⟩⟩
    have s4 := s3.trans (same_new (o := .lst [.ref ba]) hra)
    have ndr : dd ≠ ra := fun q => by rw [← q, upd_same] at hra; cases hra
    have hd0 : H dd = none := hdd
    have hdict : Hs P w valK (upd (upd (upd H dd (.dK [])) dd (dN P w dd [(([], []), ba, .int 0)])) ra (.lst [.ref ba])) dd (below (needs p) n (0 + 1)) := by
      refine ⟨[(([], []), ba, .int 0)], ⟨by rw [upd_ne ndr, upd_same], fun q hq => ?_⟩, ?_⟩
      · rw [List.mem_singleton.mp hq]
        exact tb.k (Kt.of s4)
      · rw [below_succ]
        exact .cons ⟨rfl, .int 0⟩ .nil
    refine ⟨fun m σ H' => ∃ k ra y6 y7 y8 y9 rv, m + k = 2 * p.length + 1 ∧ σ = [some pl, some (.int (n : Int)), some (.ref ba), some (.ref dd), some (.ref ra), some (.int (k : Int)), y6, y7, y8, y9] ∧ Same H H' ∧ Hs P w valK H' dd (below (needs p) n (k + 1)) ∧ H' ra = some (.lst rv) ∧
      TdAll H' rv ((lay (needs p) n k).map fun c => stD c.1), ⟨2 * p.length + 1, 0, ra, none, none, none, none, [.ref ba], rfl, rfl, s4, hdict, upd_same, .cons (tb.k (Kt.of s4)) .nil⟩, ?_⟩
    rintro m σ H5 ⟨k, ra, y6, y7, y8, y9, rv, hm, rfl, sm, hD, hra, trv⟩
    refine (GvT.test (Gv.notNil (GvL.var rfl hra trv) lay_states (by decide))) _ _ (Same.refl _) fun H6 s6 => ?_
    cases hlay : lay (needs p) n k with
    | nil =>
      rw [hlay] at trv
      refine iteF ⟨_, rfl, q H6 dd (sm.trans s6) hd0 ?_⟩
      have e1 : below (needs p) n (k + 1) = all (needs p) n := by
        rw [below_succ, hlay, List.append_nil]
        exact below_all hlay (by rw [nl]; omega)
      rw [← e1]
      exact hD.same s6
    | cons c0 rest =>
      have hk : k ≤ 2 * p.length := Nat.le_of_not_lt fun hlt => by
        rw [lay_end (by rw [nl]; exact hlt)] at hlay
        cases hlay
      refine iteT ⟨fun σ' H' => ∃ ra y6 y7 y8 y9 rv, σ' = [some pl, some (.int (n : Int)), some (.ref ba), some (.ref dd), some (.ref ra), some (.int ((k + 1 : Nat) : Int)), y6, y7, y8, y9] ∧ Same H H' ∧ Hs P w valK H' dd (below (needs p) n (k + 1 + 1)) ∧ H' ra = some (.lst rv) ∧
        TdAll H' rv ((lay (needs p) n (k + 1)).map fun c => stD c.1), fun σ' H' ⟨ra', z6, z7, z8, z9, rv', e1, e2, e3, e4, e5⟩ => ⟨m - 1, by omega, k + 1, ra', z6, z7, z8, z9, rv', by omega, e1, e2, e3, e4, e5⟩, ?_⟩
      refine ⟨Nat.zero_le _, fun la hla => ?_⟩
      refine ⟨_, rfl, (k : Int), 1, rfl, rfl, _, _, rfl, ?_⟩
      have hra6 : H6 ra = some (.lst rv) := s6 _ _ hra
      have nlr : la ≠ ra := fun q => by rw [q, hra6] at hla; cases hla
      have hl0 : H la = none := (sm.trans s6).free hla
      have g0 : Grow P w valK (needs p) n k H dd la ra rv [] (upd H6 la (.lst [])) := by
        have sN : Same H6 (upd H6 la (.lst [])) := same_new hla
        refine ⟨(sm.trans s6).trans sN, ?_, ⟨[], upd_same, .nil⟩, sN _ _ hra6, trv.k (Kt.of (s6.trans sN))⟩
        rw [firsts_nil, List.append_nil]
        exact hD.same (s6.trans sN)
      have lenR : rv.length = (lay (needs p) n k).length := by rw [trv.length, List.length_map]
      refine ⟨_, rfl, ra, rfl, ⟨_, SqL.of g0.row⟩, for_it (walk_list (K := K) (a := ra) (xs := rv)) (fun i σ H' => ∃ y7 y8 y9, σ = [some pl, some (.int (n : Int)), some (.ref ba), some (.ref dd), some (.ref ra), some (.int ((k + 1 : Nat) : Int)), some (.ref la), y7, y8, y9] ∧
        Grow P w valK (needs p) n k H dd la ra rv (((lay (needs p) n k).take i).flatMap (cand (needs p) n)) H') ⟨y7, y8, y9, rfl, g0⟩ (fun i σ H' _ ⟨_, _, _, _, g⟩ => SqL.of g.row) ?_ ?_⟩
      · rintro i x σ H7 H8 hi ⟨z7, z8, z9, rfl, g⟩ ⟨rfl, hx⟩
        obtain ⟨c, hc, tc⟩ := g.data.at hx
        have hcm : c ∈ lay (needs p) n k := List.mem_of_getElem? hc
        have cok := lay_ok (needs p) n k c hcm
        obtain ⟨sa, _, _, rfl, _⟩ := stD_inv tc
        refine ⟨_, rfl, _, rfl, _, rfl, pl, .ref sa, p, n, c.1, rfl, hp.k (Kt.of g.same), pok, tc, by rw [← nl]; exact cok.ok, fun H9 ma mv s9 hma0 hma tmv => ⟨ma, rfl, ⟨_, SqL.of hma⟩, ?_⟩⟩
        have g9 := g.to s9
        have lenM : mv.length = (moves (needs p) n c.1).length := by rw [tmv.length, List.length_map]
        have tk : (lay (needs p) n k).take (i + 1) = (lay (needs p) n k).take i ++ [c] := by rw [List.take_add_one, hc]; rfl
        have hCok : ∀ j, ∀ e ∈ ((lay (needs p) n k).take i).flatMap (cand (needs p) n) ++ (cand (needs p) n c).take j, EntOk (needs p) n (k + 1) e := fun j e he => by
          rcases List.mem_append.mp he with h | h
          · obtain ⟨c', hc', he'⟩ := List.mem_flatMap.mp h
            exact cand_ok (lay_ok _ _ _ c' (List.mem_of_mem_take hc')) he'
          · exact cand_ok cok (List.mem_of_mem_take h)
        refine for_it (walk_list (K := K) (a := ma) (xs := mv)) (fun j σ H' => ∃ y8 y9, σ = [some pl, some (.int (n : Int)), some (.ref ba), some (.ref dd), some (.ref ra), some (.int ((k + 1 : Nat) : Int)), some (.ref la), some (.ref sa), y8, y9] ∧
          Grow P w valK (needs p) n k H dd la ra rv (((lay (needs p) n k).take i).flatMap (cand (needs p) n) ++ (cand (needs p) n c).take j) H' ∧ H' ma = some (.lst mv) ∧ TdAll H' mv ((moves (needs p) n c.1).map mgD)) ⟨z8, z9, rfl, by simpa using g9, hma, tmv⟩
          (fun j σ H' _ ⟨_, _, _, _, h, _⟩ => SqL.of h) ?_ ?_
        · rintro j y σ Hb Ha hj ⟨u7, u8, rfl, ga, hmaA, tma⟩ ⟨rfl, hy⟩
          obtain ⟨⟨mvm, gl⟩, hmg, tmg⟩ := tma.at hy
          obtain ⟨pa, vs, rfl, epa, qpa⟩ := tmg.tup_inv
          obtain ⟨mv1, gv1, rfl, tm1, tg1⟩ := qpa.two
          obtain ⟨gaddr, _, _, rfl, _⟩ := stD_inv tg1
          refine ⟨pa, _, rfl, SqT.of epa, rfl, _, _, rfl, _, _, rfl, rfl, ?_⟩
          have hce : (cand (needs p) n c)[j]? = some (gl, c.2 ++ [mvm]) := by
            unfold cand
            rw [List.getElem?_map, hmg]
            rfl
          have tkc : (cand (needs p) n c).take (j + 1) = (cand (needs p) n c).take j ++ [(gl, c.2 ++ [mvm])] := by rw [List.take_add_one, hce]; rfl
          have eok : EntOk (needs p) n (k + 1) (gl, c.2 ++ [mvm]) := cand_ok cok (List.mem_of_getElem? hce)
          obtain ⟨xs, isd, rel⟩ := ga.dict
          have keys := rel_keys rel
          refine ⟨_, rfl, _, rfl, dd, gaddr, gl, xs, rfl, rfl, tg1, isd, _, rfl, ?_⟩
          have hmem : gl ∈ xs.map (·.1) ↔ gl ∈ (firsts (((lay (needs p) n k).take i).flatMap (cand (needs p) n) ++ (cand (needs p) n c).take j)).map Prod.fst := by
            rw [keys]
            exact grown_mem eok
          by_cases hin : gl ∈ xs.map (·.1)
          · rw [decide_eq_true hin]
            refine iteF ⟨_, _, rfl, ?_, hmaA, tma⟩
            rw [tkc, ← List.append_assoc]
            exact ga.skip (hmem.mp hin)
          · rw [decide_eq_false hin]
            have sc := Same.refl Ha
            have trow : Td Ha (.int ((k + 1 : Nat) : Int)) (valK (c.2 ++ [mvm])) := by
              unfold valK
              rw [List.length_append, cok.len]
              exact .int _
            refine iteT ⟨_, rfl, ?_⟩
            have gc := ga.to sc
            obtain ⟨xs2, isd2, rel2⟩ := gc.dict
            have keys2 := rel_keys rel2
            have hnot : gl ∉ xs2.map (·.1) := by
              rw [keys2, ← keys]
              exact hin
            have hfew := grown_few (by rw [nl]; exact few.2) (hCok j)
            have hlen2 : xs2.length ≤ 65536 := by
              rw [Paired.length rel2]
              exact hfew
            refine ⟨_, rfl, _, rfl, dd, gaddr, gl, xs2, rfl, rfl, tg1.k (Kt.of sc), isd2, hnot, smaller (m := 65536) hlen2, ?_⟩
            obtain ⟨lv, hlv, tlv⟩ := gc.later
            have ndl : dd ≠ la := fun q => by
              have e1 := isd2.1
              rw [q, hlv] at e1
              cases e1
            have hlv2 : (upd Ha dd (dN P w dd (xs2 ++ [(gl, gaddr, (V.int ((k + 1 : Nat) : Int)))]))) la = some (.lst lv) := by rw [upd_ne ndl.symm]; exact hlv
            refine ⟨_, rfl, .inl ⟨rfl, _, SqL.of hlv2⟩, _, rfl, la, lv, _, rfl, rfl, hlv2, ?_, ?_⟩
            · have l1 := tlv.length
              rw [List.length_map] at l1
              rw [List.length_append] at hfew
              exact smaller (m := 65536) (by omega)
            · have gput := gc.put (e := (gl, c.2 ++ [mvm])) hd0 hl0 nlr (fun h => hin (hmem.mpr h)) isd2 rel2 hlv tlv (tg1.k (Kt.of sc)) trow
              have ndm : ma ≠ dd := fun q => by
                have e1 := isd.1
                rw [← q, hmaA] at e1
                cases e1
              have nml : ma ≠ la := fun q => by
                rw [q] at hma0
                obtain ⟨lv0, h0, _⟩ := g.later
                rw [h0] at hma0
                cases hma0
              have nt1 : ∀ vs, (upd Ha dd (dN P w dd (xs2 ++ [(gl, gaddr, (V.int ((k + 1 : Nat) : Int)))]))) la ≠ some (.tup vs) := fun vs e0 => by rw [hlv2] at e0; cases e0
              refine ⟨_, _, rfl, ?_, ?_, tma.k ((Kt.of sc).trans ((Kt.put isd2.nt).trans (Kt.put nt1)))⟩
              · rw [tkc, ← List.append_assoc]
                exact gput
              · rw [upd_ne nml, upd_ne ndm]
                exact sc _ _ hmaA
        · rintro σ Ha ⟨u7, u8, rfl, ga, hmaA, tma⟩
          refine ⟨_, _, _, rfl, ?_⟩
          rw [tk, List.flatMap_append]
          have e1 : (cand (needs p) n c).take mv.length = cand (needs p) n c := List.take_of_length_le (by rw [lenM]; unfold cand; rw [List.length_map]; exact Nat.le_refl _)
          rw [e1] at ga
          simpa using ga
      · rintro σ H7 ⟨z7, z8, z9, rfl, g⟩
        rw [lenR, List.take_length] at g
        obtain ⟨lv, hlv, tlv⟩ := g.later
        refine ⟨_, rfl, la, _, _, _, _, lv, rfl, g.same, ?_, hlv, tlv⟩
        rw [below_succ _ _ (k + 1)]
        exact g.dict
end
end K61

/-! slot_stuck, stuck_row, never_stuck, count_stuck, fewest_slots. -/
namespace K61
open PySem PySem.Spec PyProof.Rows L2
/-! ### calls that leave what stood -/
section
variable {ta tb tn : TE} {σ : L2.St} {H : Hp} {p : List Job} {s : St} {n : Nat}
theorem Gv.done (h1 : Gv ta σ H (planD p)) (h2 : Gv tb σ H (stD s)) : Gv (tCall spDone [] E0 (tCons ta (tCons tb tNil))) σ H (.bool (decide (s.1.length = p.length))) := fun H1 Q s0 k =>
  h1 H1 _ s0 fun v H2 s2 td => h2 H2 _ (s0.trans s2) fun u H3 s3 te => ⟨v, u, p, s, rfl, td.k (Kt.of s3), te, fun H4 s4 => k _ H4 ((s2.trans s3).trans s4) (.bl _)⟩
theorem GvN.moves (h1 : Gv ta σ H (planD p)) (h2 : Gv tn σ H (.int (n : Int))) (h3 : Gv tb σ H (stD s)) (pok : PlanOk p) (ok : Ok p.length s) : GvN (tCall spMoves [] E0 (tCons ta (tCons tn (tCons tb tNil)))) σ H ((moves (needs p) n s).map mgD) := fun H1 Q s0 k =>
  h1 H1 _ s0 fun v H2 s2 td => h2 H2 _ (s0.trans s2) fun u H3 s3 te => h3 H3 _ ((s0.trans s2).trans s3) fun z H4 s4 tz => by
    rw [te.int_inv]
    exact ⟨v, z, p, n, s, rfl, td.k (Kt.of (s3.trans s4)), pok, tz, ok, fun H5 a xs s5 ha e tds => k a xs H5 (((s2.trans s3).trans s4).trans s5) ((((s2.trans s3).trans s4)).free ha) e tds⟩
end
/-! ### a dict locked for a walk -/
section
variable {P : Program} {w : World} {val : Row → PyData} {H H' H2 : Hp} {d : Addr} {es : List Ent} {xs : List Dn} {od : Obj}
theorem lock_kt (h : IsDn P w H d xs) : Kt H (upd H d (.frz od (dN P w d xs))) := Kt.put h.nt
theorem unlock_same (h : IsDn P w H d xs) (s : Same (upd H d (.frz od (dN P w d xs))) H2) : Same H (upd H2 d (dN P w d xs)) := fun b o e => by
  by_cases q : b = d
  · subst q
    rw [upd_same]
    rw [h.1] at e
    exact e
  · rw [upd_ne q]
    exact s b o (by rw [upd_ne q]; exact e)
theorem unlock_kt (s : Same (upd H d (.frz od (dN P w d xs))) H2) : Kt H2 (upd H2 d (dN P w d xs)) := Kt.put fun vs e => by
  have := s d _ upd_same
  rw [e] at this
  cases this
theorem rel_at : ∀ {xs : List Dn} {es : List Ent} {i : Nat} {p : Dn}, Paired (EntRel val H) xs es → xs[i]? = some p → ∃ c, es[i]? = some c ∧ p.1 = c.1
  | _, _, _, _, .nil, e => by simp at e
  | _, _, 0, _, .cons h t, e => by simp at e; subst e; exact ⟨_, rfl, h.1⟩
  | _, _, i + 1, _, .cons h t, e => by
    obtain ⟨c, h1, h2⟩ := rel_at (i := i) t (by simpa using e)
    exact ⟨c, by simpa using h1, h2⟩
end
theorem stuckp_eq (p : List Job) (n : Nat) (s : St) : ((!decide (s.1.length = p.length)) && ((moves (needs p) n s).map mgD).isEmpty) = stuckp (needs p) n s := by
  unfold stuckp
  rw [needs_length, List.isEmpty_map]
def spStuck : Sp := fun vs H Q _ => ∃ (pl : V) (p : List Job) (n : Nat), vs = [pl, .int (n : Int)] ∧ Td H pl (planD p) ∧ PlanOk p ∧
  ∀ H' a xs, Same H H' → H a = none → H' a = some (.lst xs) → TdAll H' xs ((stuck (needs p) n).map fun c => rowD c.2) → Q (.ref a) H'
section
variable {P : Program} {w : World} {K : PySem.W.Frag} {mg : Str → Option Value} {base : Heap}
abbrev sStuck : Stmt := top 21
abbrev nStuck : List Str := ["plan", "slots", "found", "some", "state"]
theorem scStuck : FnScope nStuck ["plan", "slots"] (defScope sStuck) := ⟨rfl, rfl, rfl, by decide +kernel, rfl, by decide +kernel, by decide +kernel⟩
theorem ok_stuck {f fA fD fM : Addr} {fd fdA fdD fdM : FuncData} (F : Fun K "slot_stuck" "slot_stuck" sStuck f fd) (GA : FnOk P w K mg base CX0 2 fA fdA ["plan", "slots"] (spAll P w)) (bA : Binds K fdA ["plan", "slots"] []) (gA : mg "slot_all" = some (.ref fA)) (kA : PySem.W.keepIn K (.ref fA) = true)
    (GD : FnOk P w K mg base CX0 1 fD fdD ["plan", "state"] spDone) (bD : Binds K fdD ["plan", "state"] []) (gD : mg "slot_is_done" = some (.ref fD)) (kD : PySem.W.keepIn K (.ref fD) = true)
    (GM : FnOk P w K mg base CX0 1 fM fdM ["plan", "slots", "state"] spMoves) (bM : Binds K fdM ["plan", "slots", "state"] []) (gM : mg "slot_moves" = some (.ref fM)) (kM : PySem.W.keepIn K (.ref fM) = true) :
    FnOk P w K mg base CX0 3 f fd ["plan", "slots"] spStuck := by
  refine F.ok scStuck (fun vs H Q E h => ?_) (fun cdv A outer s0 H vs Q E hr h => ?_)
  · obtain ⟨pl, p, n, rfl, _⟩ := h
    rfl
  · obtain ⟨pl, p, n, rfl, hp, pok, q⟩ := h
    have hu := hr.units
    have hr1 : Room 1 _ := hr.mono (by decide)
    refine ⟨_, pss_cons (ps_set (i := 2) scStuck.nd rfl (Or.inr rfl) (pe_call GA hr (by rfl) gA kA bA .nil pass0 (pa_cons (pv 0) (pa_cons (pv 1) pa_nil))))
      (pss_cons (ps_lock (ps_setLc (i := 3) (own := [("state", 4)]) (g := gName 4) rfl scStuck.nd rfl rfl (sw_true rfl rfl rfl (by decide +kernel)) (pi_keysN (pv 2)) (blkOk_by (own := [("state", 4)]) (N := nStuck) (sc := defScope sStuck) (by decide +kernel))
          (fun _ _ _ _ _ => pg_name (i := 4) scStuck.nd rfl (Or.inl rfl))
          (fun _ _ _ _ _ => pts_one (PW.pt (pw_and (pt_not (pt_val (pe_call GD hr1 (by rfl) gD kD bD .nil pass0 (pa_cons (pv 0) (pa_cons (pv 4) pa_nil)))))
            (pw_and1 (pt_cmpR (op_eqDK K hu) (pe_call GM hr1 (by rfl) gM kM bM .nil pass0 (pa_cons (pv 0) (pa_cons (pv 1) (pa_cons (pv 4) pa_nil)))) (pe_lst pa_nil) (nomark _))))))
          (fun _ _ _ _ _ => pv 4)))
      (pss_one (ps_ret (pe_lc (own := [("state", 4)]) (g := gName 4) (tt := tYes) rfl scStuck.nd (pi_list (pv 3)) (blkOk_by (own := [("state", 4)]) (N := nStuck) (sc := defScope sStuck) (by decide +kernel))
          (fun _ _ _ _ _ => pg_name (i := 4) scStuck.nd rfl (Or.inl rfl)) (fun _ _ _ _ _ => pts_nil) (fun _ _ _ _ _ => pe_getNK P w hu (pv 2) (pv 4) (fun _ _ => rfl)))))), ?_⟩
    refine ⟨_, rfl, _, rfl, pl, p, n, rfl, hp, pok, fun H1 d s1 hd hD => ?_⟩
    obtain ⟨xs, isd, rel⟩ := id hD
    have few := pok.few
    have nl := needs_length p
    have hfew : (all (needs p) n).length ≤ 65536 := all_few n (by rw [nl]; exact few.2)
    refine ⟨d, dN P w d xs, isd.1, dN_mut, fun od => ?_⟩
    have kL : Kt H1 (upd H1 d (.frz od (dN P w d xs))) := lock_kt isd
    have tpL : Td (upd H1 d (.frz od (dN P w d xs))) pl (planD p) := hp.k ((Kt.of s1).trans kL)
    refine ⟨_, rfl, d, od, xs, rfl, upd_same, fun p hp => (isd.2 p hp).k kL, fun D hDn => ?_⟩
    have lenX : xs.length = (all (needs p) n).length := Paired.length rel
    refine comp_walk (walk_keysN (P := P) (w := w) (d := d) (o := od) (xs := xs)) (all (needs p) n) lenX (fun c => stD c.1) (fun c => stD c.1) (fun c => stuckp (needs p) n c.1)
      (fun c σ2 H3 => ∃ v, σ2 = (wipe [some pl, some (.int (n : Int)), some (.ref d), none, none] [4]).set 4 (some v) ∧ Td H3 v (stD c.1)) hDn (fun H' s' => ⟨s' _ _ upd_same, fun p hp => ((isd.2 p hp).k kL).k (Kt.of s')⟩) (fun i v H3 H4 hi s3 hy => ?_)
      (fun c hc v H3 Q' s3 tv k' => k' _ ⟨v, rfl, tv⟩ wipe1) (fun c hc σ2 H3 s3 ⟨v, e1, tv⟩ => ?_) (fun c hc hk σ2 H3 s3 ⟨v, e1, tv⟩ => ?_) (by omega) (fun ys H3 s3 hys tys => ?_)
    · obtain ⟨rfl, pp, hpp, rfl⟩ := hy
      obtain ⟨c, hc, ec⟩ := rel_at rel hpp
      refine ⟨Same.refl _, c, hc, ?_⟩
      rw [← ec]
      exact ((isd.2 pp (List.mem_of_getElem? hpp)).k kL).k (Kt.of s3)
    · subst e1
      obtain ⟨k, eok, _⟩ := all_ok hc
      rw [← stuckp_eq]
      exact GvT.and (GvT.not (GvT.val (Gv.done (Gv.var rfl (tpL.k (Kt.of s3))) (Gv.var rfl tv)))) fun _ => GvT.test (Gv.isNil (GvN.l (GvN.moves (Gv.var rfl (tpL.k (Kt.of s3))) (Gv.var rfl (.int (n : Int))) (Gv.var rfl tv) pok (by rw [← nl]; exact eok.ok))) (shp_map shp_mg _) (by decide))
    · subst e1
      exact Gv.var rfl tv
    · have sU : Same H1 (upd H3 d (dN P w d xs)) := unlock_same isd s3
      have kU : Kt H3 (upd H3 d (dN P w d xs)) := unlock_kt s3
      have nDd : D ≠ d := fun e0 => by rw [e0, upd_same] at hDn; cases hDn
      refine ⟨s3 _ _ upd_same, ?_⟩
      have hys' : (upd H3 d (dN P w d xs)) D = some (.lst ys) := by rw [upd_ne nDd]; exact hys
      refine (GvN.compL (K := K) (tl := tVar 3) (te := tGetN P w (tVar 2) (tVar 4)) (tt := tYes) (stuck (needs p) n) (fun c => stD c.1) (fun c => rowD c.2) (fun _ => true) 4 (GvL.var rfl hys' (tys.k kU)) (fun c hc v H4 s4 tv => GvT.yes) (fun c hc _ v H4 s4 tv => ?_) ?_) _ _ (Same.refl _) fun a zs H4 s4 ha hzs tzs => q H4 a zs (s1.trans (sU.trans s4)) ((s1.trans sU).free ha) hzs ?_
      · obtain ⟨va, _, _, rfl, _⟩ := stD_inv tv
        exact Gv.getN (val := rowD) rfl rfl (hD.same (sU.trans s4)) (List.mem_filter.mp hc).1 tv
      · have := List.length_filter_le (fun c : Ent => stuckp (needs p) n c.1) (all (needs p) n)
        unfold stuck
        omega
      · rw [filter_yes] at tzs
        exact tzs
end
section
variable {ta tn : TE} {σ : L2.St} {H : Hp} {p : List Job} {n : Nat}
theorem GvN.stuck (h1 : Gv ta σ H (planD p)) (h2 : Gv tn σ H (.int (n : Int))) (pok : PlanOk p) : GvN (tCall spStuck [] E0 (tCons ta (tCons tn tNil))) σ H ((stuck (needs p) n).map fun c => rowD c.2) := fun H1 Q s0 k =>
  h1 H1 _ s0 fun v H2 s2 td => h2 H2 _ (s0.trans s2) fun u H3 s3 te => by
    rw [te.int_inv]
    exact ⟨v, p, n, rfl, td.k (Kt.of s3), pok, fun H5 a xs s5 ha e tds => k a xs H5 ((s2.trans s3).trans s5) ((s2.trans s3).free ha) e tds⟩
end
/-! ### the least row -/
theorem mlt_total : ∀ {a b : Mv}, mlt a b = false → a = b ∨ mlt b a = true
  | (a, i), (b, j), h => by
    unfold mlt at h ⊢
    cases a <;> cases b <;> simp at h ⊢ <;> omega
theorem rlt_total : ∀ {r q : Row}, rlt r q = false → r = q ∨ rlt q r = true
  | [], [], _ => .inl rfl
  | [], _ :: _, h => by simp [rlt] at h
  | _ :: _, [], _ => .inr rfl
  | a :: r, b :: q, h => by
    unfold rlt at h ⊢
    by_cases e : a = b
    · subst e
      rw [if_pos rfl] at h ⊢
      rcases rlt_total h with h1 | h1
      · exact .inl (by rw [h1])
      · exact .inr h1
    · rw [if_neg e] at h
      rw [if_neg (Ne.symm e)]
      rcases mlt_total h with h1 | h1
      · exact absurd h1 e
      · exact .inr h1
/-- the first row is not behind the second -/
def LeRow (r q : Row) : Prop := r.length ≤ q.length ∧ (r.length = q.length → rlt q r = false)
theorem rlt_asymm {r q : Row} (h : rlt r q = true) : rlt q r = false := by
  cases e : rlt q r with
  | false => rfl
  | true =>
    have := rlt_trans h e
    rw [rlt_irrefl] at this
    cases this
theorem rowD_inj {r q : Row} (h : rowD r = rowD q) : r = q := by
  have h1 := eqv_row r q
  rw [h, eqv_row] at h1
  have : decide (r = q) = true := by rw [← h1]; exact decide_eq_true rfl
  exact of_decide_eq_true this
def leD (d e : PyData) : Prop := d = e ∨ PySem.W.dataLt d e = true
theorem leD_trans (d e f : PyData) (h1 : leD d e) (h2 : leD e f) : leD d f := by
  rcases h1 with rfl | h1
  · exact h2
  · rcases h2 with rfl | h2
    · exact .inr h1
    · exact .inr (lex_trans (O := itemOrd) _ _ _ h1 h2)
theorem leD_rows {r q : Row} (h : leD (lrD r) (lrD q)) : LeRow r q := by
  rcases h with h | h
  · have h2 : rowD r = rowD q := by
      unfold lrD at h
      simp only [PyData.tuple.injEq, List.cons.injEq, and_true] at h
      exact h.2
    have := rowD_inj h2
    subst this
    exact ⟨Nat.le_refl _, fun _ => rlt_irrefl _⟩
  · rw [dlt_lr] at h
    by_cases e : r.length = q.length
    · rw [if_pos e] at h
      exact ⟨Nat.le_of_eq e, fun _ => rlt_asymm h⟩
    · rw [if_neg e] at h
      have := of_decide_eq_true h
      exact ⟨Nat.le_of_lt this, fun q0 => absurd q0 e⟩
theorem leD_total {r q : Row} (h : PySem.W.dataLt (lrD r) (lrD q) = false) : leD (lrD q) (lrD r) := by
  rw [dlt_lr] at h
  unfold leD
  rw [dlt_lr]
  by_cases e : r.length = q.length
  · rw [if_pos e] at h
    rw [if_pos e.symm]
    rcases rlt_total h with h1 | h1
    · exact .inl (by rw [h1])
    · exact .inr h1
  · rw [if_neg e] at h
    rw [if_neg (Ne.symm e)]
    have := of_decide_eq_false h
    exact .inr (decide_eq_true (by omega))
def spRow : Sp := fun vs H Q _ => ∃ (pl : V) (p : List Job) (n : Nat), vs = [pl, .int (n : Int)] ∧ Td H pl (planD p) ∧ PlanOk p ∧ 1 ≤ n ∧ n ≤ 8 ∧
  (stuck (needs p) n = [] → ∀ H', Same H H' → Q .non H') ∧ (∀ c ∈ stuck (needs p) n, (∀ e ∈ stuck (needs p) n, LeRow c.2 e.2) → ∀ H' v, Same H H' → Td H' v (rowD c.2) → Q v H')
def spNever : Sp := fun vs H Q _ => ∃ (pl : V) (p : List Job) (n : Nat), vs = [pl, .int (n : Int)] ∧ Td H pl (planD p) ∧ PlanOk p ∧ 1 ≤ n ∧ n ≤ 8 ∧ ∀ H', Same H H' → Q (.bl (stuck (needs p) n).isEmpty) H'
def spMany : Sp := fun vs H Q _ => ∃ (pl : V) (p : List Job) (n : Nat), vs = [pl, .int (n : Int)] ∧ Td H pl (planD p) ∧ PlanOk p ∧ 1 ≤ n ∧ n ≤ 8 ∧ ∀ H', Same H H' → Q (.int ((stuck (needs p) n).length : Int)) H'
theorem stuck_few (p : List Job) (n : Nat) (pok : PlanOk p) : (stuck (needs p) n).length ≤ 65536 := by
  have h1 := List.length_filter_le (fun c : Ent => stuckp (needs p) n c.1) (all (needs p) n)
  have h2 : (all (needs p) n).length ≤ 65536 := all_few n (by rw [needs_length]; exact pok.few.2)
  unfold stuck
  omega
section
variable {P : Program} {w : World} {K : PySem.W.Frag} {mg : Str → Option Value} {base : Heap}
abbrev sRow : Stmt := top 23
abbrev nRow : List Str := ["plan", "slots", "found", "row"]
theorem scRow : FnScope nRow ["plan", "slots"] (defScope sRow) := ⟨rfl, rfl, rfl, by decide +kernel, rfl, by decide +kernel, by decide +kernel⟩
theorem ok_row {f fK fS : Addr} {fd fdK fdS : FuncData} (F : Fun K "stuck_row" "stuck_row" sRow f fd) (G : Gb mg) (GK : FnOk P w K mg base CX0 4 fK fdK ["plan", "slots"] spAsked) (bK : Binds K fdK ["plan", "slots"] []) (gK : mg "need_slots_asked" = some (.ref fK)) (kK : PySem.W.keepIn K (.ref fK) = true)
    (GS : FnOk P w K mg base CX0 3 fS fdS ["plan", "slots"] spStuck) (bS : Binds K fdS ["plan", "slots"] []) (gS : mg "slot_stuck" = some (.ref fS)) (kS : PySem.W.keepIn K (.ref fS) = true) : FnOk P w K mg base CX0 5 f fd ["plan", "slots"] spRow := by
  refine F.ok scRow (fun vs H Q E h => ?_) (fun cdv A outer s0 H vs Q E hr h => ?_)
  · obtain ⟨pl, p, n, rfl, _⟩ := h
    rfl
  · obtain ⟨pl, p, n, rfl, hp, pok, n1, n8, q0, q1⟩ := h
    have hu := hr.units
    have hr3 : Room 3 _ := hr.mono (by decide)
    refine ⟨_, pss_cons (ps_expr (pe_call GK hr (by rfl) gK kK bK .nil pass0 (pa_cons (pv 0) (pa_cons (pv 1) pa_nil))))
      (pss_cons (ps_set (i := 2) scRow.nd rfl (Or.inl rfl) (pe_call GS hr3 (by rfl) gS kS bS .nil pass0 (pa_cons (pv 0) (pa_cons (pv 1) pa_nil))))
      (pss_one (ps_ret (pe_ifExp (pt_cmpR (op_neDK K hu) (pv 2) (pe_lst pa_nil) (nomark _)) (pe_ix (ix_tupK K) (pe_callB (cr_minD rfl hu) (by rfl) G.min PyProof.Rows.boot_min (pa_cons
          (pe_lc (own := [("row", 3)]) (g := gName 3) (tt := tYes) rfl scRow.nd (pi_list (pv 2)) (blkOk_by (own := [("row", 3)]) (N := nRow) (sc := defScope sRow) (by decide +kernel)) (fun _ _ _ _ _ => pg_name (i := 3) scRow.nd rfl (Or.inl rfl)) (fun _ _ _ _ _ => pts_nil)
            (fun _ _ _ _ _ => pe_tup (pa_cons (pe_callB (call_lenK K) (by rfl) G.len PySem.boot_len (pa_cons (pv 3) pa_nil)) (pa_cons (pv 3) pa_nil)))) pa_nil)) pe_int (fun _ _ => rfl)) pe_non)))), ?_⟩
    refine ⟨_, rfl, _, rfl, pl, p, n, rfl, hp, pok, n1, n8, fun H1 s1 => ?_⟩
    refine ⟨_, rfl, _, rfl, pl, p, n, rfl, hp.k (Kt.of s1), pok, fun H2 a xs s2 _ hxs txs => ?_⟩
    have few := stuck_few p n pok
    have gt : GvT (tTest (tOp (rNeD K) (tVar 2) (tLst tNil))) [some pl, some (.int (n : Int)), some (.ref a), none] H2 _ := GvT.test (Gv.notNil (GvL.var (σ := [some pl, some (.int (n : Int)), some (.ref a), none]) (i := 2) rfl hxs txs) (shp_map (fun c : Ent => shp_row c.2) _) (by decide))
    refine gt _ _ (Same.refl _) fun H3 s3 => ?_
    rw [List.isEmpty_map]
    cases hst : stuck (needs p) n with
    | nil => exact iteF (q0 hst H3 ((s1.trans s2).trans s3))
    | cons c0 rest =>
      refine iteT ?_
      have hne : stuck (needs p) n ≠ [] := by rw [hst]; exact List.cons_ne_nil _ _
      dsimp only [tOp, tCB, tCons, tNil]
      refine (GvN.compL (K := K) (tl := tVar 2) (tt := tYes) (te := tTup (tCons (tCB (rLenS K) (tCons (tVar 3) tNil)) (tCons (tVar 3) tNil))) (stuck (needs p) n) (fun c => rowD c.2) (fun c => lrD c.2) (fun _ => true) 3 (GvL.var (σ := [some pl, some (.int (n : Int)), some (.ref a), none]) (i := 2) rfl (s3 _ _ hxs) (txs.k (Kt.of s3))) (fun c hc v H4 s4 tv => GvT.yes) (fun c hc _ v H4 s4 tv => ?_) (by omega)) _ _ (Same.refl _) fun D ys H4 s4 _ hys tys => ?_
      · have := Gv.lenT (K := K) (σ := (wipe [some pl, some (.int (n : Int)), some (.ref a), none] [3]).set 3 (some v)) (t := tVar 3) (H := H4) (ds := c.2.map mvD) (Gv.var rfl tv)
        rw [List.length_map] at this
        exact Gv.tup (GvA.cons this (GvA.cons (Gv.var rfl tv) GvA.nil))
      · rw [filter_yes] at tys
        have mem : ∀ {d : PyData}, d ∈ (stuck (needs p) n).map (fun c => lrD c.2) → ∃ c ∈ stuck (needs p) n, lrD c.2 = d := fun h => List.mem_map.mp h
        refine ⟨D, ys, (stuck (needs p) n).map (fun c => lrD c.2), leD, rfl, SqL.of hys, tys, ?_, ?_, fun d => .inl rfl, leD_trans, fun d _ e _ h => .inr h, ?_, fun x d hd tx hle => ?_⟩
        · intro h0
          exact hne (List.map_eq_nil_iff.mp h0)
        · intro d hd e he
          obtain ⟨c, _, rfl⟩ := mem hd
          obtain ⟨c', _, rfl⟩ := mem he
          have := (shp_lr c.2).2
          exact ⟨alike_lr _ _, (fun h0 => by cases h0), by omega⟩
        · intro d hd e he h0
          obtain ⟨c, _, rfl⟩ := mem hd
          obtain ⟨c', _, rfl⟩ := mem he
          exact leD_total h0
        · obtain ⟨c, hc, rfl⟩ := mem hd
          obtain ⟨t, ts, rfl, et, qt⟩ := tx.tup_inv
          obtain ⟨x1, x2, rfl, t1, t2⟩ := qt.two
          refine ⟨t, _, 1, _, rfl, rfl, SqT.of et, atI_nat (j := 1) rfl, q1 c hc (fun e he => leD_rows (hle _ (List.mem_map.mpr ⟨e, he, rfl⟩))) H4 x2 (((s1.trans s2).trans s3).trans s4) t2⟩
abbrev sNever : Stmt := top 24
theorem scNever : FnScope ["plan", "slots"] ["plan", "slots"] (defScope sNever) := ⟨rfl, rfl, rfl, by decide +kernel, rfl, by decide +kernel, by decide +kernel⟩
theorem ok_never {f fK fS : Addr} {fd fdK fdS : FuncData} (F : Fun K "never_stuck" "never_stuck" sNever f fd) (GK : FnOk P w K mg base CX0 4 fK fdK ["plan", "slots"] spAsked) (bK : Binds K fdK ["plan", "slots"] []) (gK : mg "need_slots_asked" = some (.ref fK)) (kK : PySem.W.keepIn K (.ref fK) = true)
    (GS : FnOk P w K mg base CX0 3 fS fdS ["plan", "slots"] spStuck) (bS : Binds K fdS ["plan", "slots"] []) (gS : mg "slot_stuck" = some (.ref fS)) (kS : PySem.W.keepIn K (.ref fS) = true) : FnOk P w K mg base CX0 5 f fd ["plan", "slots"] spNever := by
  refine F.ok scNever (fun vs H Q E h => ?_) (fun cdv A outer s0 H vs Q E hr h => ?_)
  · obtain ⟨pl, p, n, rfl, _⟩ := h
    rfl
  · obtain ⟨pl, p, n, rfl, hp, pok, n1, n8, q⟩ := h
    have hr3 : Room 3 _ := hr.mono (by decide)
    refine ⟨_, pss_cons (ps_expr (pe_call GK hr (by rfl) gK kK bK .nil pass0 (pa_cons (pv 0) (pa_cons (pv 1) pa_nil))))
      (pss_one (ps_ret (pe_cmpR (op_eqDK K hr.units) (pe_call GS hr3 (by rfl) gS kS bS .nil pass0 (pa_cons (pv 0) (pa_cons (pv 1) pa_nil))) (pe_lst pa_nil) (nomark _)))), ?_⟩
    refine ⟨_, rfl, _, rfl, pl, p, n, rfl, hp, pok, n1, n8, fun H1 s1 => ?_⟩
    refine (Gv.isNil (GvN.l (GvN.stuck (ta := tVar 0) (tn := tVar 1) (Gv.var rfl (hp.k (Kt.of s1))) (Gv.var rfl (.int (n : Int))) pok)) (shp_map (fun c : Ent => shp_row c.2) _) (by decide)) _ _ (Same.refl _) fun v H2 s2 tv => ?_
    rw [tv.bl_inv, List.isEmpty_map]
    exact q H2 (s1.trans s2)
abbrev sMany : Stmt := top 25
theorem scMany : FnScope ["plan", "slots"] ["plan", "slots"] (defScope sMany) := ⟨rfl, rfl, rfl, by decide +kernel, rfl, by decide +kernel, by decide +kernel⟩
theorem ok_many {f fK fS : Addr} {fd fdK fdS : FuncData} (F : Fun K "count_stuck" "count_stuck" sMany f fd) (G : Gb mg) (GK : FnOk P w K mg base CX0 4 fK fdK ["plan", "slots"] spAsked) (bK : Binds K fdK ["plan", "slots"] []) (gK : mg "need_slots_asked" = some (.ref fK)) (kK : PySem.W.keepIn K (.ref fK) = true)
    (GS : FnOk P w K mg base CX0 3 fS fdS ["plan", "slots"] spStuck) (bS : Binds K fdS ["plan", "slots"] []) (gS : mg "slot_stuck" = some (.ref fS)) (kS : PySem.W.keepIn K (.ref fS) = true) : FnOk P w K mg base CX0 5 f fd ["plan", "slots"] spMany := by
  refine F.ok scMany (fun vs H Q E h => ?_) (fun cdv A outer s0 H vs Q E hr h => ?_)
  · obtain ⟨pl, p, n, rfl, _⟩ := h
    rfl
  · obtain ⟨pl, p, n, rfl, hp, pok, n1, n8, q⟩ := h
    have hr3 : Room 3 _ := hr.mono (by decide)
    refine ⟨_, pss_cons (ps_expr (pe_call GK hr (by rfl) gK kK bK .nil pass0 (pa_cons (pv 0) (pa_cons (pv 1) pa_nil))))
      (pss_one (ps_ret (pe_callB (call_lenK K) (by rfl) G.len PySem.boot_len (pa_cons (pe_call GS hr3 (by rfl) gS kS bS .nil pass0 (pa_cons (pv 0) (pa_cons (pv 1) pa_nil))) pa_nil)))), ?_⟩
    refine ⟨_, rfl, _, rfl, pl, p, n, rfl, hp, pok, n1, n8, fun H1 s1 => ?_⟩
    refine (Gv.lenL (GvN.l (GvN.stuck (ta := tVar 0) (tn := tVar 1) (Gv.var rfl (hp.k (Kt.of s1))) (Gv.var rfl (.int (n : Int))) pok))) _ _ (Same.refl _) fun v H2 s2 tv => ?_
    rw [tv.int_inv, List.length_map]
    exact q H2 (s1.trans s2)
end
/-! fewest_slots -/
theorem first_of {q : Nat → Bool} {n k : Nat} {rest : List Nat} (h : ((List.range n).map (· + 1)).filter q = k :: rest) : q k = true ∧ 1 ≤ k ∧ k ≤ n ∧ (1 < k → q (k - 1) = false) := by
  have hm : k ∈ ((List.range n).map (· + 1)).filter q := by rw [h]; exact List.mem_cons_self
  obtain ⟨h1, h2⟩ := List.mem_filter.mp hm
  obtain ⟨j, hj, rfl⟩ := List.mem_map.mp h1
  have hjn := List.mem_range.mp hj
  refine ⟨h2, Nat.succ_le_succ (Nat.zero_le _), hjn, fun hlt => ?_⟩
  show q j = false
  cases e : q j with
  | false => rfl
  | true =>
    have hasc : (((List.range n).map (· + 1)).filter q).Pairwise (· < ·) := by
      refine List.Pairwise.filter _ ?_
      rw [List.pairwise_map]
      exact (pairwise_range_lt n).imp fun {a b} h => by omega
    rw [h, List.pairwise_cons] at hasc
    have hin : j ∈ ((List.range n).map (· + 1)).filter q := List.mem_filter.mpr ⟨List.mem_map.mpr ⟨j - 1, List.mem_range.mpr (by omega), by omega⟩, e⟩
    rw [h] at hin
    rcases List.mem_cons.mp hin with e0 | e0
    · omega
    · have := hasc.1 j e0
      omega
def spFew : Sp := fun vs H Q _ => ∃ (pl : V) (p : List Job), vs = [pl] ∧ Td H pl (planD p) ∧ PlanOk p ∧
  ∀ H' (k : Nat), Same H H' → 1 ≤ k → k ≤ p.length → stuck (needs p) k = [] → (1 < k → stuck (needs p) (k - 1) ≠ []) → Q (.int (k : Int)) H'
section
variable {P : Program} {w : World} {K : PySem.W.Frag} {mg : Str → Option Value} {base : Heap}
abbrev sFew : Stmt := top 26
theorem scFew : FnScope ["plan", "slots"] ["plan"] (defScope sFew) := ⟨rfl, rfl, rfl, by decide +kernel, rfl, by decide +kernel, by decide +kernel⟩
theorem ok_few {f fN fS : Addr} {fd fdN fdS : FuncData} (F : Fun K "fewest_slots" "fewest_slots" sFew f fd) (G : Gb mg) (GN : FnOk P w K mg base CX0 3 fN fdN ["thing"] spNeed) (bN : Binds K fdN ["thing"] []) (gN : mg "need_plan" = some (.ref fN)) (kN : PySem.W.keepIn K (.ref fN) = true)
    (GS : FnOk P w K mg base CX0 3 fS fdS ["plan", "slots"] spStuck) (bS : Binds K fdS ["plan", "slots"] []) (gS : mg "slot_stuck" = some (.ref fS)) (kS : PySem.W.keepIn K (.ref fS) = true) : FnOk P w K mg base CX0 4 f fd ["plan"] spFew := by
  refine F.ok scFew (fun vs H Q E h => ?_) (fun cdv A outer s0 H vs Q E hr h => ?_)
  · obtain ⟨pl, p, rfl, _⟩ := h
    rfl
  · obtain ⟨pl, p, rfl, hp, pok, q⟩ := h
    have hu := hr.units
    refine ⟨_, pss_cons (ps_expr (pe_call GN hr (by rfl) gN kN bN .nil pass0 (pa_cons (pv 0) pa_nil)))
      (pss_one (ps_ret (pe_ix (ix_listK K) (pe_lc (own := [("slots", 1)]) (g := gName 1) rfl scFew.nd (pi_range2 (by rfl) G.range (pa_cons pe_int (pa_cons (pe_op op_add (pe_callB (call_lenK K) (by rfl) G.len PySem.boot_len (pa_cons (pv 0) pa_nil)) pe_int) pa_nil)))
          (blkOk_by (own := [("slots", 1)]) (N := ["plan", "slots"]) (sc := defScope sFew) (by decide +kernel)) (fun _ _ _ _ _ => pg_name (i := 1) scFew.nd rfl (Or.inl rfl))
          (fun _ _ _ _ _ => pts_one (pt_cmpR (op_eqDK K hu) (pe_call GS hr (by rfl) gS kS bS .nil pass0 (pa_cons (pv 0) (pa_cons (pv 1) pa_nil))) (pe_lst pa_nil) (nomark _))) (fun _ _ _ _ _ => pv 1)) pe_int (fun _ _ => rfl)))), ?_⟩
    refine ⟨_, rfl, pl, p, rfl, hp, pok, fun H1 s1 => ?_⟩
    have hp1 := hp.k (Kt.of s1)
    have few := pok.few
    refine (Gv.lenT (K := K) (t := tVar 0) (Gv.var rfl hp1)) _ _ (Same.refl _) fun v H2 s2 tv => ?_
    have hp2 := hp1.k (Kt.of s2)
    have nl := needs_length p
    refine ⟨_, _, tv.int_inv, rfl, 1, _, rfl, ⟨by decide, by decide, ?_, ?_⟩, fun D hD => ?_⟩
    · rw [List.length_map]; omega
    · rw [List.length_map]; omega
    · have en : (((p.map jobD).length : Int) + 1 - 1).toNat = ((List.range p.length).map (· + 1)).length := by
        rw [List.length_map, List.length_map, List.length_range]
        omega
      refine comp_walk (walk_range (lo := 1) (n := (((p.map jobD).length : Int) + 1 - 1).toNat)) ((List.range p.length).map (· + 1)) en (fun k : Nat => .int (k : Int)) (fun k : Nat => .int (k : Int)) (fun k => (stuck (needs p) k).isEmpty)
        (fun k σ2 H3 => σ2 = (wipe [some pl, none] [1]).set 1 (some (.int (k : Int)))) hD (fun _ _ => True.intro) (fun i v H3 H4 hi s3 hy => ?_) (fun k hk v H3 Q' s3 tk k' => ?_) (fun k hk σ2 H3 s3 e1 => ?_) (fun k hk _ σ2 H3 s3 e1 => ?_) ?_ (fun ys H3 s3 hys tys => ?_)
      · obtain ⟨rfl, rfl⟩ := hy
        rw [List.length_map] at hi
        refine ⟨Same.refl _, i + 1, ?_, ?_⟩
        · rw [List.getElem?_map, List.getElem?_range (by omega)]
          rfl
        · have e : (1 : Int) + (i : Int) = ((i + 1 : Nat) : Int) := by omega
          show Td H4 (.int (1 + (i : Int))) (.int ((i + 1 : Nat) : Int))
          rw [e]
          exact .int _
      · rw [tk.int_inv]
        exact k' _ rfl wipe1
      · subst e1
        have := GvT.test (Gv.isNil (K := K) (σ := (wipe [some pl, none] [1]).set 1 (some (.int (k : Int)))) (H := H3) (GvN.l (GvN.stuck (ta := tVar 0) (tn := tVar 1) (p := p) (n := k) (Gv.var rfl (hp2.k (Kt.of s3))) (Gv.var rfl (.int (k : Int))) pok)) (shp_map (fun c : Ent => shp_row c.2) _) (by decide))
        rw [List.isEmpty_map] at this
        exact this
      · subst e1
        exact Gv.var rfl (.int (k : Int))
      · rw [List.length_map, List.length_range]; omega
      · cases hf : ((List.range p.length).map (· + 1)).filter (fun k => (stuck (needs p) k).isEmpty) with
        | nil =>
          exfalso
          have hin : p.length ∈ ((List.range p.length).map (· + 1)).filter (fun k => (stuck (needs p) k).isEmpty) := by
            refine List.mem_filter.mpr ⟨List.mem_map.mpr ⟨p.length - 1, List.mem_range.mpr (by omega), by omega⟩, ?_⟩
            have := stuck_full pok.below
            rw [nl] at this
            rw [this]
            rfl
          rw [hf] at hin
          cases hin
        | cons k rest =>
          obtain ⟨f1, f2, f3, f4⟩ := first_of hf
          rw [hf] at tys
          obtain ⟨v0, hv0, tv0⟩ := TdAll.mem (i := 0) (x := k) tys rfl
          rw [tv0.int_inv] at hv0
          refine ⟨D, ys, 0, _, rfl, rfl, SqL.of hys, atI_nat (j := 0) hv0, q H3 k ((s1.trans s2).trans ?_) f2 f3 (List.isEmpty_iff.mp f1) fun h1 h0 => ?_⟩
          · exact s3
          · have := f4 h1
            rw [h0] at this
            cases this
end
end K61

/-! _law_stuck, _law_walked. -/
namespace K61
open PySem PySem.Spec PyProof.Rows L2
theorem GvN.setS {te : TE} {u : TS} {D : Ends} {σ : L2.St} {H : Hp} {ds : List PyData} {i : Nat} (h : GvN te σ H ds) (k : ∀ a vs H2, Same H H2 → H a = none → H2 a = some (.lst vs) → TdAll H2 vs ds → u D (σ.set i (some (.ref a))) H2) : tSeq (tAsg te (gName i)) u D σ H := h H _ (Same.refl H) fun a vs H2 s e0 e1 td => k a vs H2 s e0 e1 td
def ksOf (c : Ent) : PyData := ksD (c.2.length, c.1)
def spLStuck : Sp := fun vs H Q _ => ∃ (pl : V) (p : List Job) (n : Nat), vs = [pl, .int (n : Int)] ∧ Td H pl (planD p) ∧ PlanOk p ∧
  ∀ H' a xs, Same H H' → H a = none → H' a = some (.lst xs) → TdAll H' xs ((stuck (needs p) n).map ksOf) → Q (.ref a) H'
section
variable {P : Program} {w : World} {K : PySem.W.Frag} {mg : Str → Option Value} {base : Heap}
abbrev sLStuck : Stmt := top 35
abbrev nLStuck : List Str := ["_law_plan_here", "_law_slots", "_law_known", "_law_found", "_law_state"]
theorem scLStuck : FnScope nLStuck ["_law_plan_here", "_law_slots"] (defScope sLStuck) := ⟨rfl, rfl, rfl, by decide +kernel, rfl, by decide +kernel, by decide +kernel⟩
theorem ok_lstuck {f fA fM : Addr} {fd fdA fdM : FuncData} (F : Fun K "_law_stuck" "_law_stuck" sLStuck f fd) (G : Gb mg) (GA : FnOk P w K mg base CX0 2 fA fdA ["_law_plan_here", "_law_slots", "_law_begin"] (spLAll P w)) (bA : Binds K fdA ["_law_plan_here", "_law_slots", "_law_begin"] []) (gA : mg "_law_slot_all" = some (.ref fA)) (kA : PySem.W.keepIn K (.ref fA) = true)
    (GM : FnOk P w K mg base CX0 1 fM fdM ["_law_plan_here", "_law_slots", "_law_state"] spMoves) (bM : Binds K fdM ["_law_plan_here", "_law_slots", "_law_state"] []) (gM : mg "_law_slot_moves" = some (.ref fM)) (kM : PySem.W.keepIn K (.ref fM) = true) :
    FnOk P w K mg base CX0 3 f fd ["_law_plan_here", "_law_slots"] spLStuck := by
  refine F.ok scLStuck (fun vs H Q E h => ?_) (fun cdv A outer s0 H vs Q E hr h => ?_)
  · obtain ⟨pl, p, n, rfl, _⟩ := h
    rfl
  · obtain ⟨pl, p, n, rfl, hp, pok, q⟩ := h
    have hu := hr.units
    have hr1 : Room 1 _ := hr.mono (by decide)
    refine ⟨_, pss_cons (ps_set (i := 2) scLStuck.nd rfl (Or.inl rfl) (pe_call GA hr (by rfl) gA kA bA .nil pass0 (pa_cons (pv 0) (pa_cons (pv 1) (pa_cons (pe_tup (pa_cons (pe_tup pa_nil) (pa_cons (pe_tup pa_nil) pa_nil))) pa_nil)))))
      (pss_cons (ps_set (i := 3) scLStuck.nd rfl (Or.inl rfl) (pe_lst pa_nil))
      (pss_cons (ps_lock (ps_for PassesOwn.never rfl (pi_keysN (pv 2)) (pg_name (i := 4) scLStuck.nd rfl (Or.inl rfl))
        (pss_one (ps_if (PW.pt (pw_and (pt_cmpR op_lt (pe_callB (call_lenK K) (by rfl) G.len PySem.boot_len (pa_cons (pe_ix (ix_tupK K) (pv 4) pe_int (fun _ _ => rfl)) pa_nil)) (pe_callB (call_lenK K) (by rfl) G.len PySem.boot_len (pa_cons (pv 0) pa_nil)) (nomark _))
            (pw_and1 (pt_cmpR (op_eqDK K hu) (pe_call GM hr1 (by rfl) gM kM bM .nil pass0 (pa_cons (pv 0) (pa_cons (pv 1) (pa_cons (pv 4) pa_nil)))) (pe_lst pa_nil) (nomark _)))))
          (pss_one (ps_expr (pe_bm PySem.F.plainAttrs_list PySem.F.slot_list_append PySem.F.type_list_append mt_append (pv 3) (pa_cons (pe_tup (pa_cons (pe_getN hu (pv 2) (pv 4) (fun _ _ => rfl)) (pa_cons (pv 4) pa_nil))) pa_nil)))) pss_nil))))
      (pss_one (ps_ret (pv 3))))), ?_⟩
    have few := pok.few
    have nl := needs_length p
    refine ⟨_, rfl, _, rfl, ?_⟩
    have gb : Gv (tTup (tCons (tTup tNil) (tCons (tTup tNil) tNil))) (L2.start nLStuck [pl, V.int (n : Int)]) H (stD ([], [])) := Gv.tup (GvA.cons (Gv.tup GvA.nil) (GvA.cons (Gv.tup GvA.nil) GvA.nil))
    refine gb _ _ (Same.refl _) fun bv H1 s1 tb => ?_
    refine ⟨pl, bv, p, n, rfl, hp.k (Kt.of s1), tb, pok, fun H2 d s2 hd hD => ⟨Nat.zero_le _, fun fa hfa => ?_⟩⟩
    obtain ⟨xs, isd0, rel0⟩ := id hD
    have hfew : (all (needs p) n).length ≤ 65536 := all_few n (by rw [nl]; exact few.2)
    have sf : Same H2 (upd H2 fa (.lst [])) := same_new hfa
    have isd := isd0.same sf
    have ndf : d ≠ fa := fun e => by
      have e1 := isd0.1
      rw [e, hfa] at e1
      cases e1
    have lenX : xs.length = (all (needs p) n).length := Paired.length rel0
    refine ⟨d, dN P w d xs, isd.1, dN_mut, fun od => ?_⟩
    -- what stands still: the dict locked, without the list
    have kB : Kt H2 (upd H2 d (.frz od (dN P w d xs))) := lock_kt isd0
    have keysB : ∀ q ∈ xs, Td (upd H2 d (.frz od (dN P w d xs))) (.ref q.2.1) (stD q.1) := fun q hq => (isd0.2 q hq).k kB
    have hfaB : (upd H2 d (.frz od (dN P w d xs))) fa = none := by rw [upd_ne ndf.symm]; exact hfa
    have hpB : Td (upd H2 d (.frz od (dN P w d xs))) pl (planD p) := hp.k ((Kt.of (s1.trans s2)).trans kB)
    have relB : Paired (EntRel valK (upd H2 d (.frz od (dN P w d xs)))) xs (all (needs p) n) := rel_keep kB rel0
    have eL : upd (upd H2 fa (.lst [])) d (.frz od (dN P w d xs)) = upd (upd H2 d (.frz od (dN P w d xs))) fa (.lst []) := by
      funext b
      unfold upd
      by_cases h1 : b = d
      · by_cases h2 : b = fa
        · exact absurd (h1.symm.trans h2) ndf
        · simp [h1, ndf]
      · simp [h1]
    rw [eL]
    have kF : Kt (upd H2 d (.frz od (dN P w d xs))) (upd (upd H2 d (.frz od (dN P w d xs))) fa (.lst [])) := Kt.new hfaB
    refine ⟨_, rfl, d, od, xs, rfl, (by rw [upd_ne ndf, upd_same]; rfl), fun q hq => (keysB q hq).k kF, for_it (walk_keysN (P := P) (w := w) (d := d) (o := od) (xs := xs)) (fun i σ H' => ∃ y4 ys, σ = [some pl, some (.int (n : Int)), some (.ref d), some (.ref fa), y4] ∧
      Same (upd H2 d (.frz od (dN P w d xs))) H' ∧ H' fa = some (.lst ys) ∧ TdAll H' ys ((((all (needs p) n).take i).filter fun c => stuckp (needs p) n c.1).map ksOf)) ⟨none, [], rfl, same_new hfaB, upd_same, .nil⟩
      (fun i σ H' _ ⟨_, _, _, sm, _, _⟩ => ⟨sm _ _ upd_same, fun q hq => (keysB q hq).k (Kt.of sm)⟩) ?_ ?_⟩
    · rintro i x σ H3 H4 hi ⟨y4, ys, rfl, sm, hys, tys⟩ ⟨rfl, pp, hpp, rfl⟩
      obtain ⟨c, hc, ec⟩ := rel_at relB hpp
      have hcm : c ∈ all (needs p) n := List.mem_of_getElem? hc
      obtain ⟨k, eok, _⟩ := all_ok hcm
      have okc : Ok p.length c.1 := by rw [← nl]; exact eok.ok
      have tsa : Td H4 (.ref pp.2.1) (stD c.1) := by
        rw [← ec]
        exact (keysB pp (List.mem_of_getElem? hpp)).k (Kt.of sm)
      have tk : (all (needs p) n).take (i + 1) = (all (needs p) n).take i ++ [c] := by rw [List.take_add_one, hc]; rfl
      have gt : GvT (tAnd (tTest (tOp (rI0 fun i j => .bl (decide (i < j))) (tCB (rLenS K) (tCons (tOp (rIxT K) (tVar 4) (tC (.int 0))) tNil)) (tCB (rLenS K) (tCons (tVar 0) tNil)))) (tTest (tOp (rEqD K) (tCall spMoves [] E0 (tCons (tVar 0) (tCons (tVar 1) (tCons (tVar 4) tNil)))) (tLst tNil))))
          [some pl, some (.int (n : Int)), some (.ref d), some (.ref fa), some (.ref pp.2.1)] H4 (stuckp (needs p) n c.1) := by
        have hpl := hpB.k (Kt.of sm)
        have g1 := GvT.and (GvT.test (Gv.lt (Gv.lenT (K := K) (Gv.ixT (K := K) (i := 0) (ta := tVar 4) (tb := tC (.int 0)) (z := 0) (σ := [some pl, some (.int (n : Int)), some (.ref d), some (.ref fa), some (.ref pp.2.1)]) (H := H4) (Gv.var rfl tsa) (Gv.int 0) rfl rfl)) (Gv.lenT (K := K) (t := tVar 0) (Gv.var rfl hpl))))
          (fun _ => GvT.test (Gv.isNil (K := K) (GvN.l (GvN.moves (ta := tVar 0) (tn := tVar 1) (tb := tVar 4) (n := n) (Gv.var rfl hpl) (Gv.var rfl (.int (n : Int))) (Gv.var rfl tsa) pok okc)) (shp_map shp_mg _) (by decide)))
        have e1 : decide ((((c.1.1.map fun j : Nat => PyData.int (j : Int)).length : Nat) : Int) < (((p.map jobD).length : Nat) : Int)) = !decide (c.1.1.length = p.length) := by
          have := ok_counts okc
          rw [List.length_map, List.length_map]
          by_cases h : c.1.1.length = p.length
          · rw [decide_eq_true h, decide_eq_false (by omega)]
            rfl
          · rw [decide_eq_false h, decide_eq_true (by omega)]
            rfl
        rw [e1, stuckp_eq] at g1
        exact g1
      refine gt _ _ (Same.refl _) fun H5 s5 => ?_
      have hys5 : H5 fa = some (.lst ys) := s5 _ _ hys
      cases hst : stuckp (needs p) n c.1 with
      | false =>
        refine iteF ⟨_, ys, rfl, sm.trans s5, hys5, ?_⟩
        rw [tk, List.filter_append, List.filter_cons_of_neg (by rw [hst]; exact Bool.false_ne_true), List.filter_nil, List.append_nil]
        exact tys.k (Kt.of s5)
      | true =>
        refine iteT ⟨_, rfl, .inl ⟨rfl, _, SqL.of hys5⟩, ?_⟩
        have sm5 := sm.trans s5
        obtain ⟨b, v, hm, tv⟩ := rel_get (rel_keep (Kt.of sm5) relB) hcm
        refine ⟨_, rfl, _, rfl, d, pp.2.1, c.1, xs, b, v, rfl, rfl, tsa.k (Kt.of s5), ⟨.inr ⟨od, sm5 _ _ upd_same⟩, fun q hq => (keysB q hq).k (Kt.of sm5)⟩, hm, ?_⟩
        refine ⟨_, rfl, small (m := 2) (Nat.le_refl 2), fun t ht => ?_⟩
        have st : Same H5 (upd H5 t (.tup [v, .ref pp.2.1])) := same_new ht
        have tt : Td (upd H5 t (.tup [v, .ref pp.2.1])) (.ref t) (ksOf c) := .tup upd_same (.cons (tv.k (Kt.of st)) (.cons (tsa.k (Kt.of (s5.trans st))) .nil))
        have hys6 := st _ _ hys5
        have kF6 : Kt (upd H5 t (.tup [v, .ref pp.2.1])) (upd (upd H5 t (.tup [v, .ref pp.2.1])) fa (.lst (ys ++ [.ref t]))) := Kt.put fun vs e0 => by rw [hys6] at e0; cases e0
        refine ⟨fa, ys, _, rfl, rfl, hys6, ?_, _, ys ++ [.ref t], rfl, same_put (sm5.trans st) hfaB, upd_same, ?_⟩
        · have l1 := tys.length
          rw [List.length_map] at l1
          have l2 := List.length_filter_le (fun c : Ent => stuckp (needs p) n c.1) ((all (needs p) n).take i)
          have l3 : ((all (needs p) n).take i).length ≤ (all (needs p) n).length := List.length_take_le' _ _
          exact smaller (m := 65536) (by omega)
        · rw [tk, List.filter_append, List.filter_cons_of_pos (p := fun c : Ent => stuckp (needs p) n c.1) hst, List.filter_nil, List.map_append]
          exact ((tys.k (Kt.of (s5.trans st))).k kF6).snoc (tt.k kF6)
    · rintro σ H3 ⟨y4, ys, rfl, sm, hys, tys⟩
      have sU : Same H2 (upd H3 d (dN P w d xs)) := unlock_same isd0 sm
      have kU : Kt H3 (upd H3 d (dN P w d xs)) := unlock_kt sm
      refine ⟨sm _ _ upd_same, _, rfl, q _ fa ys ((s1.trans s2).trans sU) ((s1.trans s2).free hfa) (by rw [upd_ne ndf.symm]; exact hys) ?_⟩
      rw [lenX, List.take_length] at tys
      exact tys.k kU
/-! _law_walked -/
abbrev sWalked : Stmt := top 36
abbrev nWalked : List Str := ["_law_plan_here", "_law_slots", "_law_row", "_law_state", "_law_move", "_law_goals", "_law_told", "_law_goal"]
theorem scWalked : FnScope nWalked ["_law_plan_here", "_law_slots", "_law_row"] (defScope sWalked) := ⟨rfl, rfl, rfl, by decide +kernel, rfl, by decide +kernel, by decide +kernel⟩
def spWalked : Sp := fun vs H Q _ => ∃ (pl rv : V) (p : List Job) (n : Nat) (r : Row) (s : St), vs = [pl, .int (n : Int), rv] ∧ Td H pl (planD p) ∧ PlanOk p ∧ Td H rv (rowD r) ∧ walk (needs p) n ([], []) r = some s ∧
  ∀ H' v, Same H H' → Td H' v (stD s) → Q v H'
theorem ok_walked {f fM : Addr} {fd fdM : FuncData} (F : Fun K "_law_walked" "_law_walked" sWalked f fd)
    (GM : FnOk P w K mg base CX0 1 fM fdM ["_law_plan_here", "_law_slots", "_law_state"] spMoves) (bM : Binds K fdM ["_law_plan_here", "_law_slots", "_law_state"] []) (gM : mg "_law_slot_moves" = some (.ref fM)) (kM : PySem.W.keepIn K (.ref fM) = true) :
    FnOk P w K mg base CX0 2 f fd ["_law_plan_here", "_law_slots", "_law_row"] spWalked := by
  refine F.ok scWalked (fun vs H Q E h => ?_) (fun cdv A outer s0 H vs Q E hr h => ?_)
  · obtain ⟨pl, rv, p, n, r, s, rfl, _⟩ := h
    rfl
  · obtain ⟨pl, rv, p, n, r, s, rfl, hp, pok, hrow, hw, q⟩ := h
    have hu := hr.units
    refine ⟨_, pss_cons (ps_set (i := 3) scWalked.nd rfl (Or.inl rfl) (pe_tup (pa_cons (pe_tup pa_nil) (pa_cons (pe_tup pa_nil) pa_nil))))
      (pss_cons (ps_for PassesOwn.never rfl (pi_tup (pv 2)) (pg_name (i := 4) scWalked.nd rfl (Or.inr rfl))
        (pss_cons (ps_setLc (i := 5) (own := [("_law_told", 6), ("_law_goal", 7)]) rfl scWalked.nd rfl rfl (sw_true rfl rfl rfl (by decide +kernel)) (pi_list (pe_call GM hr (by rfl) gM kM bM .nil pass0 (pa_cons (pv 0) (pa_cons (pv 1) (pa_cons (pv 3) pa_nil)))))
            (blkOk_by (own := [("_law_told", 6), ("_law_goal", 7)]) (N := nWalked) (sc := defScope sWalked) (by decide +kernel))
            (fun _ _ _ _ _ => pg_tupK K (n := 2) rfl (pgs_cons (pg_name (i := 6) scWalked.nd rfl (Or.inl rfl)) (pgs_cons (pg_name (i := 7) scWalked.nd rfl (Or.inl rfl)) pgs_nil)))
            (fun _ _ _ _ _ => pts_one (pt_cmpR (op_eqDK K hu) (pv 6) (pv 4) (nomark _))) (fun _ _ _ _ _ => pv 7))
        (pss_cons (ps_if (pt_cmpR (op_eqDK K hu) (pv 5) (pe_lst pa_nil) (nomark _)) pss_never pss_nil)
        (pss_one (ps_set (i := 3) scWalked.nd rfl (Or.inl rfl) (pe_ix (ix_listK K) (pv 5) pe_int (fun _ _ => rfl)))))))
      (pss_one (ps_ret (pv 3)))), ?_⟩
    have few := pok.few
    have nl := needs_length p
    obtain ⟨ra, mvs, rfl, era, tmv⟩ := hrow.tup_inv
    have lenR : mvs.length = r.length := by rw [tmv.length, List.length_map]
    refine Gv.setS (d := stD ([], [])) (Gv.tup (GvA.cons (Gv.tup GvA.nil) (GvA.cons (Gv.tup GvA.nil) GvA.nil))) fun bv H1 s1 tb => ?_
    refine ⟨_, rfl, ra, rfl, ⟨_, SqT.of (s1 _ _ era)⟩, for_it (walk_tup (K := K) (a := ra) (xs := mvs)) (fun i σ H' => ∃ sv z y4 y5 y6 y7, σ = [some pl, some (.int (n : Int)), some (.ref ra), some sv, y4, y5, y6, y7] ∧ Same H H' ∧ walk (needs p) n ([], []) (r.take i) = some z ∧ Td H' sv (stD z))
      ⟨bv, ([], []), none, none, none, none, rfl, s1, rfl, tb⟩ (fun i σ H' _ ⟨_, _, _, _, _, _, _, sm, _⟩ => SqT.of (sm _ _ era)) ?_ ?_⟩
    · rintro i x σ H2 H3 hi ⟨sv, z, y4, y5, y6, y7, rfl, sm, hz, tz⟩ ⟨rfl, hx⟩
      obtain ⟨m, hm, tm0⟩ := tmv.at hx
      have tm : Td H3 x (mvD m) := tm0.k (Kt.of sm)
      have tk : r.take (i + 1) = r.take i ++ [m] := by rw [List.take_add_one, hm]; rfl
      have okz : Ok p.length z := by
        rw [← nl]
        exact (walk_ok (ok0 _) hz).1
      obtain ⟨t, ht⟩ : ∃ t, walk (needs p) n ([], []) (r.take (i + 1)) = some t := by
        have e1 := walk_app (needs p) n (r.take (i + 1)) (r.drop (i + 1)) ([], [])
        rw [List.take_append_drop, hw] at e1
        obtain ⟨t, h1, _⟩ := Option.bind_eq_some_iff.mp e1.symm
        exact ⟨t, h1⟩
      have hst : step (needs p) n z m = some t := by
        have e1 := ht
        rw [tk, walk_app, hz] at e1
        obtain ⟨u, h1, h2⟩ := Option.bind_eq_some_iff.mp (show (step (needs p) n z m).bind (fun t => some t) = some t from e1)
        rw [h1]
        exact h2
      have hmem := step_mem hst
      have hpl : Td H3 pl (planD p) := hp.k (Kt.of sm)
      have lenM : (moves (needs p) n z).length ≤ 16 := by
        have := moves_length (needs p) n (s := z) (by rw [nl]; exact okz)
        omega
      have gl : GvN (tLc (iList K (tCall spMoves [] E0 (tCons (tVar 0) (tCons (tVar 1) (tCons (tVar 3) tNil))))) (gTup K 2 (gCons (gName 6) (gCons (gName 7) gNil))) (tTest (tOp (rEqD K) (tVar 6) (tVar 4))) (tVar 7) [6, 7])
          [some pl, some (.int (n : Int)), some (.ref ra), some sv, some x, y5, y6, y7] H3 (((moves (needs p) n z).filter fun q => decide (q.1 = m)).map fun q => stD q.2) := by
        refine GvN.compL2 (K := K) (moves (needs p) n z) (fun q => mvD q.1) (fun q => stD q.2) (fun q => stD q.2) (fun q => decide (q.1 = m)) 6 7 (by decide)
          (GvN.l (GvN.moves (n := n) (Gv.var rfl hpl) (Gv.var rfl (.int (n : Int))) (Gv.var rfl tz) pok okz)) (fun q hq v u H4 s4 tv tu => ?_) (fun q hq _ v u H4 s4 tv tu => Gv.var rfl tu) (by omega)
        have := GvT.test (Gv.eqD (K := K) (n := 1) (ta := tVar 6) (tb := tVar 4) (σ := ((wipe [some pl, some (.int (n : Int)), some (.ref ra), some sv, some x, y5, y6, y7] [6, 7]).set 6 (some v)).set 7 (some u)) (Gv.var rfl tv) (Gv.var rfl (tm.k (Kt.of s4))) (shp_mv _) (shp_mv _) (by decide))
        rw [eqv_mv] at this
        exact this
      show tSeq (tAsg _ (gName 5)) _ _ _ H3
      refine GvN.setS gl fun D ys H4 s4 hD0 hys tys => ?_
      cases hf : (moves (needs p) n z).filter (fun q => decide (q.1 = m)) with
      | nil =>
        exfalso
        have hin : (m, t) ∈ (moves (needs p) n z).filter (fun q => decide (q.1 = m)) := List.mem_filter.mpr ⟨hmem, decide_eq_true rfl⟩
        rw [hf] at hin
        cases hin
      | cons q0 rest =>
        have hq0 : q0 ∈ (moves (needs p) n z).filter (fun q => decide (q.1 = m)) := by rw [hf]; exact List.mem_cons_self
        obtain ⟨h1, h2⟩ := List.mem_filter.mp hq0
        have eq0 : q0 = (m, t) := moves_inj (by rw [nl]; exact okz) h1 hmem (of_decide_eq_true h2)
        rw [hf] at tys
        have gt : GvT (tTest (tOp (rEqD K) (tVar 5) (tLst tNil))) [some pl, some (.int (n : Int)), some (.ref ra), some sv, some x, some (.ref D), y6, y7] H4 false :=
          GvT.test (Gv.isNil (ds := (q0 :: rest).map fun q => stD q.2) (GvL.var (i := 5) (σ := [some pl, some (.int (n : Int)), some (.ref ra), some sv, some x, some (.ref D), y6, y7]) rfl hys tys) (shp_map (fun q : Mv × St => shp_st q.2) _) (by decide))
        refine gt _ _ (Same.refl _) fun H5 s5 => iteF ?_
        obtain ⟨v0, hv0, tv0⟩ := TdAll.mem (i := 0) (x := q0) (tys.k (Kt.of s5)) rfl
        rw [eq0] at tv0
        refine ⟨_, rfl, D, ys, 0, v0, rfl, rfl, SqL.of (s5 _ _ hys), atI_nat (j := 0) hv0, v0, t, _, _, _, _, rfl, (sm.trans s4).trans s5, ht, tv0⟩
    · rintro σ H2 ⟨sv, z, y4, y5, y6, y7, rfl, sm, hz, tz⟩
      rw [lenR, List.take_length, hw] at hz
      cases hz
      exact ⟨_, rfl, q H2 sv sm tz⟩
end
end K61

/-! The law's draws: _law_mix, _law_next, _law_pick, _law_plan. -/
namespace K61
open PySem PySem.Spec PyProof.Rows L2
/-- all but two objects stay -/
def But (a b : Addr) (H H' : Hp) : Prop := ∀ x o, x ≠ a → x ≠ b → H x = some o → H' x = some o
theorem But.refl {a b : Addr} {H : Hp} : But a b H H := fun _ _ _ _ e => e
theorem But.trans {a b : Addr} {H H1 H2 : Hp} (h : But a b H H1) (k : But a b H1 H2) : But a b H H2 := fun x o h1 h2 e => k x o h1 h2 (h x o h1 h2 e)
theorem But.of {a b : Addr} {H H1 : Hp} (s : Same H H1) : But a b H H1 := fun x o _ _ e => s x o e
theorem but_put1 {a b : Addr} {H : Hp} {o : HO} : But a b H (upd H a o) := fun x u h1 _ e => by rw [upd_ne h1]; exact e
theorem but_put2 {a b : Addr} {H : Hp} {o : HO} : But a b H (upd H b o) := fun x u _ h2 e => by rw [upd_ne h2]; exact e
theorem but_new {a b D : Addr} {H H' : Hp} {o : HO} (h : But a b H H') (hD : H D = none) : But a b H (upd H' D o) := fun x u h1 h2 e => by
  rw [upd_ne (ne_of_none e hD)]
  exact h x u h1 h2 e
/-- a source of draws at ha, its cells at la -/
structure Src (H : Hp) (ha la : Addr) : Prop where
  ne : ha ≠ la
  ex : ∃ (st ix : Int) (cs : List Int), H ha = some (.lst [.int st, .ref la, .int ix]) ∧ H la = some (.lst (cs.map V.int)) ∧ cs.length ≤ 63
theorem Src.kt {ha la : Addr} {H H' : Hp} (s : Src H ha la) (b : But ha la H H') : Kt H H' := fun x vs e => by
  obtain ⟨st, ix, cs, h1, h2, _⟩ := s.ex
  refine b x _ (fun q => ?_) (fun q => ?_) e
  · rw [q, h1] at e; cases e
  · rw [q, h2] at e; cases e
theorem Src.same {ha la : Addr} {H H' : Hp} (s : Src H ha la) (k : Same H H') : Src H' ha la := by
  obtain ⟨st, ix, cs, h1, h2, h3⟩ := s.ex
  exact ⟨s.ne, st, ix, cs, k _ _ h1, k _ _ h2, h3⟩
theorem Src.put {ha la D : Addr} {H : Hp} {o : HO} (s : Src H ha la) (h1 : D ≠ ha) (h2 : D ≠ la) : Src (upd H D o) ha la := by
  obtain ⟨st, ix, cs, e1, e2, e3⟩ := s.ex
  exact ⟨s.ne, st, ix, cs, by rw [upd_ne h1.symm]; exact e1, by rw [upd_ne h2.symm]; exact e2, e3⟩
theorem Src.ne1 {ha la D : Addr} {H : Hp} (s : Src H ha la) (h : H D = none) : D ≠ ha ∧ D ≠ la := by
  obtain ⟨st, ix, cs, e1, e2, e3⟩ := s.ex
  exact ⟨fun q => (by rw [q, e1] at h; cases h), fun q => (by rw [q, e2] at h; cases h)⟩
section
variable {P : Program} {w : World} {K : PySem.W.Frag} {mg : Str → Option Value} {base : Heap}
abbrev sMix : Stmt := top 28
theorem scMix : FnScope ["_law_script", "_law_seed", "_law_state", "_law_cell"] ["_law_script", "_law_seed"] (defScope sMix) := ⟨rfl, rfl, rfl, by decide +kernel, rfl, by decide +kernel, by decide +kernel⟩
def spMix (K : PySem.W.Frag) : Sp := fun vs H Q _ => ∃ (a : Addr) (ns : List Int) (z : Int), vs = [.ref a, .int z] ∧ SqL K H a (ns.map V.int) ∧ ns.length ≤ 63 ∧
  ∀ H' ha la, Same H H' → Src H' ha la → Q (.ref ha) H'
theorem int_at {ns : List Int} {i : Nat} {x : V} (h : (ns.map V.int)[i]? = some x) : ∃ c, ns[i]? = some c ∧ x = .int c := by
  rw [List.getElem?_map] at h
  obtain ⟨c, hc, rfl⟩ := Option.map_eq_some_iff.mp h
  exact ⟨c, hc, rfl⟩
theorem ok_mix {f : Addr} {fd : FuncData} (F : Fun K "_law_mix" "_law_mix" sMix f fd) (G : Gb mg) : FnOk P w K mg base CX0 1 f fd ["_law_script", "_law_seed"] (spMix K) := by
  refine F.ok scMix (fun vs H Q E h => ?_) (fun cdv A outer s0 H vs Q E hr h => ?_)
  · obtain ⟨a, ns, z, rfl, _⟩ := h
    rfl
  · obtain ⟨a, ns, z, rfl, hS, hlen, q⟩ := h
    refine ⟨_, pss_cons (ps_set (i := 2) scMix.nd rfl (Or.inl rfl) (pv 1))
      (pss_cons (ps_for PassesOwn.never rfl (pi_list (pv 0)) (pg_name (i := 3) scMix.nd rfl (Or.inl rfl))
        (pss_one (ps_set (i := 2) scMix.nd rfl (Or.inl rfl) (pe_op op_mod (pe_callTy call_int1 (by rfl) G.int PyProof.Rows.boot_int (pa_cons (pe_op op_add (pe_op op_add (pe_op op_mul (pv 2) pe_int)
          (pe_op op_mod (pe_callTy call_int1 (by rfl) G.int PyProof.Rows.boot_int (pa_cons (pv 3) pa_nil)) pe_int)) pe_int) pa_nil)) pe_int))))
      (pss_one (ps_ret (pe_lst (pa_cons (pv 2) (pa_cons (pe_callTy call_list_of (by rfl) G.list PyProof.Rows.boot_list (pa_cons (pv 0) pa_nil)) (pa_cons pe_int pa_nil))))))), ?_⟩
    refine ⟨_, rfl, ?_⟩
    refine ⟨_, rfl, a, rfl, ⟨_, hS⟩, for_list (K := K) (a := a) (xs := ns.map V.int) (fun i σ H' => ∃ y y3, σ = [some (.ref a), some (.int z), some (.int y), y3] ∧ H' = H) ⟨z, none, rfl, rfl⟩ (fun i σ H' _ ⟨_, _, _, e⟩ => by rw [e]; exact hS) ?_ ?_⟩
    · rintro i x σ H' hx ⟨y, y3, rfl, rfl⟩
      obtain ⟨c, _, rfl⟩ := int_at hx
      refine ⟨_, rfl, _, _, rfl, rfl, .inr ⟨by decide, by decide⟩, ?_⟩
      refine ⟨_, rfl, .inl ⟨c, rfl, _, _, rfl, rfl, (by show (0 : Int) < 2147483629; decide), _, _, rfl, rfl, _, _, rfl, rfl, .inl ⟨_, rfl, _, _, rfl, rfl, (by show (0 : Int) < 2147483647; decide), _, _, rfl, rfl⟩⟩⟩
    · rintro σ H' ⟨y, y3, rfl, rfl⟩
      refine ⟨_, rfl, _, rfl, a, _, rfl, .inl hS, fun la hla => ⟨small (m := 3) (Nat.le_refl 3), fun ha hha => ?_⟩⟩
      have ne : ha ≠ la := fun e => by rw [e, upd_same] at hha; cases hha
      exact q _ ha la ((same_new hla).trans (same_new hha)) ⟨ne, y, 0, ns, upd_same, by rw [upd_ne ne.symm, upd_same], hlen⟩
/-! _law_next -/
abbrev sNext : Stmt := top 29
theorem scNext : FnScope ["_law_h", "_law_cap", "_law_cell"] ["_law_h", "_law_cap"] (defScope sNext) := ⟨rfl, rfl, rfl, by decide +kernel, rfl, by decide +kernel, by decide +kernel⟩
def spNext : Sp := fun vs H Q _ => ∃ (ha la : Addr) (cap : Nat), vs = [.ref ha, .int (cap : Int)] ∧ Src H ha la ∧ 0 < cap ∧ cap ≤ 1000 ∧
  ∀ H' (r : Nat), But ha la H H' → Src H' ha la → r < cap → Q (.int (r : Int)) H'
theorem emod_nat (a : Int) {c : Nat} (h : 0 < c) : ∃ r : Nat, r < c ∧ a % (c : Int) = (r : Int) := by
  have h1 := Int.emod_nonneg a (show (c : Int) ≠ 0 by omega)
  have h2 := Int.emod_lt_of_pos a (show (0 : Int) < (c : Int) by omega)
  exact ⟨(a % (c : Int)).toNat, by omega, by omega⟩
theorem ok_next {f : Addr} {fd : FuncData} (F : Fun K "_law_next" "_law_next" sNext f fd) (G : Gb mg) : FnOk P w K mg base CX0 1 f fd ["_law_h", "_law_cap"] spNext := by
  refine F.ok scNext (fun vs H Q E h => ?_) (fun cdv A outer s0 H vs Q E hr h => ?_)
  · obtain ⟨ha, la, cap, rfl, _⟩ := h
    rfl
  · obtain ⟨ha, la, cap, rfl, hs, c0, c1, q⟩ := h
    obtain ⟨st, ix, cs, e1, e2, e3⟩ := hs.ex
    have ne := hs.ne
    refine ⟨_, pss_cons (ps_set (i := 2) scNext.nd rfl (Or.inl rfl) (pe_ix (ix_listK K) (pe_op op_cat (pe_ix (ix_listK K) (pv 0) pe_int (fun _ _ => rfl)) (pe_lst (pa_cons pe_int pa_nil)))
        (pe_op op_mod (pe_callTy call_int1 (by rfl) G.int PyProof.Rows.boot_int (pa_cons (pe_ix (ix_listK K) (pv 0) pe_int (fun _ _ => rfl)) pa_nil))
          (pe_callB (call_max2 rfl) (by rfl) G.max PyProof.Rows.boot_max (pa_cons pe_int (pa_cons (pe_callB (call_lenK K) (by rfl) G.len PySem.boot_len (pa_cons (pe_ix (ix_listK K) (pv 0) pe_int (fun _ _ => rfl)) pa_nil)) pa_nil)))) (fun _ _ => rfl)))
      (pss_cons (ps_if (pt_cmpR op_ge (pv 2) (pe_op op_pow pe_int pe_int) (nomark _))
        (pss_cons (ps_asg (pe_op op_fdiv (pv 2) (pv 1)) (pg_sub (pe_ix (ix_listK K) (pv 0) pe_int (fun _ _ => rfl)) (pe_op op_mod (pe_callTy call_int1 (by rfl) G.int PyProof.Rows.boot_int (pa_cons (pe_ix (ix_listK K) (pv 0) pe_int (fun _ _ => rfl)) pa_nil))
            (pe_callB (call_lenK K) (by rfl) G.len PySem.boot_len (pa_cons (pe_ix (ix_listK K) (pv 0) pe_int (fun _ _ => rfl)) pa_nil))) set_list))
          (pss_one (ps_ret (pe_op op_mod (pe_callTy call_int1 (by rfl) G.int PyProof.Rows.boot_int (pa_cons (pv 2) pa_nil)) (pv 1))))) pss_nil)
      (pss_cons (ps_asg (pe_op op_mod (pe_callTy call_int1 (by rfl) G.int PyProof.Rows.boot_int (pa_cons (pe_op op_add (pe_op op_add (pe_op op_mul (pe_ix (ix_listK K) (pv 0) pe_int (fun _ _ => rfl)) pe_int) (pe_op op_mul (pv 2) pe_int)) pe_int) pa_nil)) pe_int)
          (pg_sub (pv 0) pe_int set_list))
      (pss_cons (ps_asg (pe_op op_add (pe_ix (ix_listK K) (pv 0) pe_int (fun _ _ => rfl)) pe_int) (pg_sub (pv 0) pe_int set_list))
      (pss_one (ps_ret (pe_op op_mod (pe_callTy call_int1 (by rfl) G.int PyProof.Rows.boot_int (pa_cons (pe_op op_fdiv (pe_ix (ix_listK K) (pv 0) pe_int (fun _ _ => rfl)) pe_int) pa_nil)) (pv 1))))))), ?_⟩
    have lenC : (cs.map V.int).length = cs.length := List.length_map _
    -- the cell
    refine ⟨_, rfl, ha, _, 1, _, rfl, rfl, SqL.of e1, atI_nat (j := 1) rfl, small (m := 1) (Nat.le_refl 1), fun z hz => ?_⟩
    have n1 : z ≠ ha := fun e => by rw [e, e1] at hz; cases hz
    have n2 : z ≠ la := fun e => by rw [e, e2] at hz; cases hz
    refine ⟨la, z, _, _, rfl, rfl, by rw [upd_ne n2.symm]; exact e2, upd_same, ?_, fun y hy => ?_⟩
    · rw [lenC]; exact small (m := 64) (by show cs.length + 1 ≤ 64; omega)
    have s2 : Same H (upd (upd H z (.lst [.int 0])) y (.lst (cs.map V.int ++ [.int 0]))) := (same_new hz).trans (same_new hy)
    refine ⟨_, rfl, ha, _, 2, _, rfl, rfl, SqL.of (s2 _ _ e1), atI_nat (j := 2) rfl, .inl ⟨ix, rfl, ?_⟩⟩
    refine ⟨_, rfl, ha, _, 1, _, rfl, rfl, SqL.of (s2 _ _ e1), atI_nat (j := 1) rfl, la, _, rfl, .inl (SqL.of (s2 _ _ e2)), _, _, rfl, ?_⟩
    obtain ⟨m, hm0, hm1, em⟩ : ∃ m : Nat, 0 < m ∧ m ≤ cs.length + 1 ∧ (if ((cs.map V.int).length : Int) > 1 then ((cs.map V.int).length : Int) else 1) = (m : Int) := by
      rw [lenC]
      by_cases h : (cs.length : Int) > 1
      · exact ⟨cs.length, by omega, by omega, by rw [if_pos h]⟩
      · exact ⟨1, by omega, by omega, by rw [if_neg h]; rfl⟩
    rw [em]
    obtain ⟨r, hr1, er⟩ := emod_nat ix hm0
    refine ⟨_, _, rfl, rfl, (by show (0 : Int) < (m : Int); omega), ?_⟩
    have eapp : cs.map V.int ++ [V.int 0] = (cs ++ [0]).map V.int := by rw [List.map_append]; rfl
    have hget : (cs.map V.int ++ [V.int 0])[r]? = some (.int ((cs ++ [0]).getD r 0)) := by
      have hlt : r < (cs ++ [0]).length := by rw [List.length_append, List.length_singleton]; omega
      rw [eapp, List.getElem?_map, List.getD_eq_getElem?_getD, List.getElem?_eq_getElem hlt]
      rfl
    refine ⟨y, _, _, _, rfl, rfl, SqL.of upd_same, at_of er hget, ?_⟩
    generalize hc : (cs ++ [0]).getD r 0 = c
    -- the test
    refine ⟨_, rfl, 10, 18, rfl, rfl, ⟨by decide, by decide, by decide⟩, _, _, rfl, rfl, _, rfl, ite2 (fun hge => ?_) (fun hlt => ?_)⟩
    · have hlen : 0 < cs.length := by
        rcases Nat.eq_zero_or_pos cs.length with h0 | h0
        · exfalso
          have h1 : cs = [] := List.length_eq_zero_iff.mp h0
          subst h1
          have : c = 0 := by
            rw [← hc]
            cases r with
            | zero => rfl
            | succ r => rfl
          rw [this] at hge
          exact absurd (of_decide_eq_true hge) (by decide)
        · exact h0
      have e1' := s2 _ _ e1
      have e2' := s2 _ _ e2
      obtain ⟨r2, hr2, er2⟩ := emod_nat ix hlen
      refine ⟨_, rfl, _, rfl, _, _, rfl, rfl, ⟨by omega, by omega⟩, ?_⟩
      refine ⟨_, rfl, ha, _, 1, _, rfl, rfl, SqL.of e1', atI_nat (j := 1) rfl, ?_⟩
      refine ⟨_, rfl, ha, _, 2, _, rfl, rfl, SqL.of e1', atI_nat (j := 2) rfl, .inl ⟨ix, rfl, ?_⟩⟩
      refine ⟨_, rfl, ha, _, 1, _, rfl, rfl, SqL.of e1', atI_nat (j := 1) rfl, la, _, rfl, .inl (SqL.of e2'), _, _, rfl, rfl, (by rw [lenC]; omega), ?_⟩
      refine ⟨la, _, _, r2, rfl, rfl, e2', ?_, ?_⟩
      · rw [lenC, er2]
        unfold ixN
        rw [if_pos (by omega), if_pos (by omega)]
        rfl
      · obtain ⟨r3, hr3, er3⟩ := emod_nat c c0
        refine ⟨_, rfl, .inl ⟨c, rfl, _, rfl, _, _, rfl, rfl, (by show (0 : Int) < (cap : Int); omega), ?_⟩⟩
        have b1 : But ha la H (upd (upd (upd H z (.lst [.int 0])) y (.lst (cs.map V.int ++ [.int 0]))) la (.lst ((cs.map V.int).set r2 (.int (c / (cap : Int)))))) := (But.of s2).trans but_put2
        have hs1 : Src (upd (upd (upd H z (.lst [.int 0])) y (.lst (cs.map V.int ++ [.int 0]))) la (.lst ((cs.map V.int).set r2 (.int (c / (cap : Int)))))) ha la := by
          refine ⟨ne, st, ix, cs.set r2 (c / (cap : Int)), by rw [upd_ne ne]; exact e1', ?_, by rw [List.length_set]; exact e3⟩
          rw [upd_same, List.map_set]
        have := q _ r3 b1 hs1 hr3
        rw [← er3] at this
        exact this
    · have e1' := s2 _ _ e1
      have e2' := s2 _ _ e2
      refine ⟨_, rfl, ha, _, 0, _, rfl, rfl, SqL.of e1', atI_nat (j := 0) rfl, st, 48271, rfl, rfl, .inr ⟨by decide, by decide⟩, _, rfl, c, 69621, rfl, rfl, .inr ⟨by decide, by decide⟩, _, _, rfl, rfl, _, _, rfl, rfl, .inl ⟨_, rfl, _, _, rfl, rfl, (by show (0 : Int) < 2147483647; decide), ?_⟩⟩
      refine ⟨_, rfl, ha, _, 0, 0, rfl, rfl, e1', by rfl, ?_⟩
      refine ⟨_, rfl, ha, _, 2, _, rfl, rfl, SqL.of upd_same, atI_nat (j := 2) rfl, _, _, rfl, rfl, ?_⟩
      refine ⟨_, rfl, ha, _, 2, 2, rfl, rfl, upd_same, by rfl, ?_⟩
      refine ⟨_, rfl, ha, _, 0, _, rfl, rfl, SqL.of upd_same, atI_nat (j := 0) rfl, _, 7, rfl, rfl, ⟨by decide, by decide⟩, .inl ⟨_, rfl, _, rfl, _, _, rfl, rfl, (by show (0 : Int) < (cap : Int); omega), ?_⟩⟩
      rw [upd_upd]
      obtain ⟨r3, hr3, er3⟩ := emod_nat ((st * 48271 + c * 69621 + 11) % 2147483647 / 7) c0
      have b1 : ∀ o, But ha la H (upd (upd (upd H z (.lst [.int 0])) y (.lst (cs.map V.int ++ [.int 0]))) ha o) := fun o => (But.of s2).trans but_put1
      have key := q _ r3 (b1 (.lst [.int ((st * 48271 + c * 69621 + 11) % 2147483647), .ref la, .int (ix + 1)])) ⟨ne, _, _, cs, upd_same, by rw [upd_ne ne.symm]; exact e2', e3⟩ hr3
      rw [← er3] at key
      exact key
/-! _law_pick -/
abbrev sPick : Stmt := top 31
theorem scPick : FnScope ["_law_h", "_law_things"] ["_law_h", "_law_things"] (defScope sPick) := ⟨rfl, rfl, rfl, by decide +kernel, rfl, by decide +kernel, by decide +kernel⟩
def spPick : Sp := fun vs H Q _ => ∃ (ha la ta : Addr) (ks : List Nat), vs = [.ref ha, .ref ta] ∧ Src H ha la ∧ H ta = some (.lst (vN ks)) ∧ ta ≠ ha ∧ ta ≠ la ∧ 0 < ks.length ∧ ks.length ≤ 1000 ∧
  ∀ H' (k : Nat), But ha la H H' → Src H' ha la → k ∈ ks → Q (.int (k : Int)) H'
theorem ok_pick {f fN : Addr} {fd fdN : FuncData} (F : Fun K "_law_pick" "_law_pick" sPick f fd) (G : Gb mg) (GN : FnOk P w K mg base CX0 1 fN fdN ["_law_h", "_law_cap"] spNext) (bN : Binds K fdN ["_law_h", "_law_cap"] []) (gN : mg "_law_next" = some (.ref fN)) (kN : PySem.W.keepIn K (.ref fN) = true) :
    FnOk P w K mg base CX0 2 f fd ["_law_h", "_law_things"] spPick := by
  refine F.ok scPick (fun vs H Q E h => ?_) (fun cdv A outer s0 H vs Q E hr h => ?_)
  · obtain ⟨ha, la, ta, ks, rfl, _⟩ := h
    rfl
  · obtain ⟨ha, la, ta, ks, rfl, hs, ht, n1, n2, k0, k1, q⟩ := h
    refine ⟨_, pss_one (ps_ret (pe_ix (ix_listK K) (pv 1) (pe_call GN hr (by rfl) gN kN bN .nil pass0 (pa_cons (pv 0) (pa_cons (pe_callB (call_lenK K) (by rfl) G.len PySem.boot_len (pa_cons (pv 1) pa_nil)) pa_nil))) (fun _ _ => rfl))), ?_⟩
    have lenV : (vN ks).length = ks.length := List.length_map _
    refine ⟨_, rfl, _, rfl, _, rfl, ta, vN ks, rfl, .inl (SqL.of ht), ha, la, ks.length, (by rw [lenV]; rfl), hs, k0, k1, fun H1 r b1 s1 hr1 => ?_⟩
    refine ⟨ta, vN ks, _, _, rfl, rfl, SqL.of (b1 _ _ n1 n2 ht), atI_nat (j := r) (v := .int ((ks[r] : Nat) : Int)) (by unfold vN; rw [List.getElem?_map, List.getElem?_eq_getElem hr1]; rfl), q H1 _ b1 s1 (List.getElem_mem hr1)⟩
/-! _law_plan -/
abbrev sPlan : Stmt := top 32
abbrev nPlan : List Str := ["_law_h", "_law_most", "_law_found", "_law_cap", "_law_roomy", "_law_share", "_law_job", "_law_needs", "_law_one"]
theorem scPlan : FnScope nPlan ["_law_h", "_law_most"] (defScope sPlan) := ⟨rfl, rfl, rfl, by decide +kernel, rfl, by decide +kernel, by decide +kernel⟩
def spPlan : Sp := fun vs H Q _ => ∃ (ha la : Addr) (most : Nat), vs = [.ref ha, .int (most : Int)] ∧ Src H ha la ∧ 1 ≤ most ∧ most ≤ 6 ∧
  ∀ H' v p, But ha la H H' → Src H' ha la → PlanOk p → p.length ≤ 6 → Td H' v (planD p) → Q v H'
theorem roomy_reads {σ : L2.St} {H : Hp} {ha la : Addr} {z : Int} {Q : VK} (h0 : σ[0]? = some (some (.ref ha))) (h4 : σ[4]? = some (some (.int z))) (hs : Src H ha la) (h : ∀ H' (r : Nat), But ha la H H' → Src H' ha la → r ≤ 3 → Q (.int (r : Int)) H') :
    tIf (tTest (tOp (rI0 fun i j => .bl (decide (j < i))) (tVar 4) (tC (.int 0)))) (tCall spNext [] E0 (tCons (tVar 0) (tCons (tC (.int 4)) tNil))) (tC (.int 0)) σ H Q := by
  refine ⟨_, h4, _, _, rfl, rfl, _, rfl, ite2 (fun _ => ?_) (fun _ => h H 0 But.refl hs (Nat.zero_le _))⟩
  exact ⟨_, h0, ha, la, 4, rfl, hs, by decide, by decide, fun H2 r b s hr => h H2 r b s (by omega)⟩
theorem ok_plan {f fN fP : Addr} {fd fdN fdP : FuncData} (F : Fun K "_law_plan" "_law_plan" sPlan f fd) (G : Gb mg) (GN : FnOk P w K mg base CX0 1 fN fdN ["_law_h", "_law_cap"] spNext) (bN : Binds K fdN ["_law_h", "_law_cap"] []) (gN : mg "_law_next" = some (.ref fN)) (kN : PySem.W.keepIn K (.ref fN) = true)
    (GP : FnOk P w K mg base CX0 2 fP fdP ["_law_h", "_law_things"] spPick) (bP : Binds K fdP ["_law_h", "_law_things"] []) (gP : mg "_law_pick" = some (.ref fP)) (kP : PySem.W.keepIn K (.ref fP) = true) :
    FnOk P w K mg base CX0 3 f fd ["_law_h", "_law_most"] spPlan := by
  refine F.ok scPlan (fun vs H Q E h => ?_) (fun cdv A outer s0 H vs Q E hr h => ?_)
  · obtain ⟨ha, la, most, rfl, _⟩ := h
    rfl
  · obtain ⟨ha, la, most, rfl, hs, m1, m6, q⟩ := h
    have hr1 : Room 1 _ := hr.mono (by decide)
    refine ⟨_, pss_cons (ps_par3 (i := 2) (j := 3) (l := 4) rfl scPlan.nd rfl rfl rfl (by decide) (by decide) (by decide) rfl rfl rfl (pa_cons (pe_lst pa_nil) (pa_cons (pe_call GP hr (by rfl) gP kP bP .nil pass0 (pa_cons (pv 0) (pa_cons (pe_lst (pa_cons pe_int (pa_cons pe_int (pa_cons pe_int pa_nil)))) pa_nil)))
        (pa_cons (pe_call GN hr1 (by rfl) gN kN bN .nil pass0 (pa_cons (pv 0) (pa_cons pe_int pa_nil))) pa_nil))) (by rfl))
      (pss_cons (ps_set (i := 5) scPlan.nd rfl (Or.inr rfl) (pe_op op_add pe_int (pe_call GN hr1 (by rfl) gN kN bN .nil pass0 (pa_cons (pv 0) (pa_cons pe_int pa_nil)))))
      (pss_cons (ps_for PassesOwn.never rfl (pi_range1 (by rfl) G.range (pa_cons (pe_op op_add pe_int (pe_call GN hr1 (by rfl) gN kN bN .nil pass0 (pa_cons (pv 0) (pa_cons (pv 1) pa_nil)))) pa_nil)) (pg_name (i := 6) scPlan.nd rfl (Or.inl rfl))
        (pss_cons (ps_set (i := 7) scPlan.nd rfl (Or.inl rfl) (pe_callTy (call_tupK K) (by rfl) G.tuple PyProof.Rows.boot_tuple (pa_cons (pe_lc (own := [("_law_one", 8)]) (g := gName 8) rfl scPlan.nd (pi_range1 (by rfl) G.range (pa_cons (pv 6) pa_nil))
            (blkOk_by (own := [("_law_one", 8)]) (N := nPlan) (sc := defScope sPlan) (by decide +kernel)) (fun _ _ _ _ _ => pg_name (i := 8) scPlan.nd rfl (Or.inl rfl))
            (fun _ _ _ _ _ => pts_one (pt_cmpR op_eq (pe_call GN hr1 (by rfl) gN kN bN .nil pass0 (pa_cons (pv 0) (pa_cons (pv 5) pa_nil))) pe_int (nomark _))) (fun _ _ _ _ _ => pv 8)) pa_nil)))
          (pss_one (ps_expr (pe_bm PySem.F.plainAttrs_list PySem.F.slot_list_append PySem.F.type_list_append mt_append (pv 2) (pa_cons (pe_tup (pa_cons (pe_op op_add pe_int (pe_call GN hr1 (by rfl) gN kN bN .nil pass0 (pa_cons (pv 0) (pa_cons (pv 3) pa_nil)))) (pa_cons (pv 7)
            (pa_cons (pe_ifExp (pt_cmpR op_gt (pv 4) pe_int (nomark _)) (pe_call GN hr1 (by rfl) gN kN bN .nil pass0 (pa_cons (pv 0) (pa_cons pe_int pa_nil))) pe_int) pa_nil)))) pa_nil))))))
      (pss_one (ps_ret (pe_callTy (call_tupK K) (by rfl) G.tuple PyProof.Rows.boot_tuple (pa_cons (pv 2) pa_nil)))))), ?_⟩
    refine ⟨Nat.zero_le _, fun fa hfa => ?_⟩
    have nf := hs.ne1 hfa
    have hs0 : Src (upd H fa (.lst [])) ha la := hs.put nf.1 nf.2
    refine ⟨_, rfl, small (m := 3) (Nat.le_refl 3), fun ta hta => ?_⟩
    have nt := hs0.ne1 hta
    have nft : fa ≠ ta := fun e => by rw [← e, upd_same] at hta; cases hta
    have hs1 : Src (upd (upd H fa (.lst [])) ta (.lst [.int 2, .int 5, .int 9])) ha la := hs0.put nt.1 nt.2
    refine ⟨ha, la, ta, [2, 5, 9], rfl, hs1, upd_same, nt.1, nt.2, by decide, by decide, fun H1 cap b1 s1 hcap => ?_⟩
    have f1 : H1 fa = some (.lst []) := b1 _ _ nf.1 nf.2 (by rw [upd_ne nft, upd_same])
    have bb1 : But ha la H H1 := ((But.of (same_new hfa)).trans (But.of (same_new hta))).trans b1
    have hcap1 : 0 < cap ∧ cap ≤ 9 := by
      simp only [List.mem_cons, List.not_mem_nil, or_false] at hcap
      omega
    refine ⟨_, rfl, ha, la, 3, rfl, s1, by decide, by decide, fun H2 roomy b2 s2 _ => ?_⟩
    refine ⟨_, _, _, rfl, ?_⟩
    refine ⟨_, rfl, ha, la, 3, rfl, s2, by decide, by decide, fun H3 sh b3 s3 hsh => ⟨_, _, rfl, rfl, ?_⟩⟩
    refine ⟨_, rfl, _, rfl, ha, la, most, rfl, s3, by omega, by omega, fun H4 many b4 s4 hmany => ⟨_, _, rfl, rfl, _, rfl, by omega, by omega, ?_⟩⟩
    have f4 : H4 fa = some (.lst []) := b4 _ _ nf.1 nf.2 (b3 _ _ nf.1 nf.2 (b2 _ _ nf.1 nf.2 f1))
    have bb4 : But ha la H H4 := ((bb1.trans b2).trans b3).trans b4
    have en : ((1 : Int) + (many : Int)).toNat = 1 + many := by omega
    rw [en]
    refine for_range (lo := 0) (n := 1 + many) (fun i σ H' => ∃ y6 y7 vs p, σ = [some (.ref ha), some (.int (most : Int)), some (.ref fa), some (.int (cap : Int)), some (.int (roomy : Int)), some (.int ((2 : Int) + (sh : Int))), y6, y7, none] ∧
      But ha la H H' ∧ Src H' ha la ∧ H' fa = some (.lst vs) ∧ TdAll H' vs (p.map jobD) ∧ p.length = i ∧ ∀ (k : Nat) (j : Job), p[k]? = some j → JobOk k j)
      ⟨none, none, [], [], rfl, bb4, s4, f4, .nil, rfl, fun k j e => by simp at e⟩ ?_ ?_
    · rintro i σ H5 hi ⟨y6, y7, vs, p, rfl, b5, s5, f5, td5, hp, jok⟩
      have e0 : (0 : Int) + (i : Int) = (i : Int) := by omega
      rw [e0]
      refine ⟨_, rfl, _, rfl, by omega, by omega, fun D hD => ?_⟩
      have nD := s5.ne1 hD
      rw [Int.toNat_natCast]
      refine lc_range (lo := 0) (n := i) (fun k H' => ∃ l : List Nat, But ha la H5 H' ∧ Src H' ha la ∧ H' D = some (.lst (vN l)) ∧ l.Pairwise (· < ·) ∧ l.length ≤ k ∧ ∀ x ∈ l, x < k)
        ⟨[], But.of (same_new hD), s5.put nD.1 nD.2, upd_same, .nil, Nat.le_refl _, fun x hx => by cases hx⟩ ?_ ?_
      · rintro k H6 hk ⟨l, b6, s6, d6, asc, ln, bel⟩
        have e1 : (0 : Int) + (k : Int) = (k : Int) := by omega
        rw [e1]
        refine ⟨rfl, _, rfl, _, rfl, ha, la, 2 + sh, by rfl, s6, by omega, by omega, fun H7 r7 b7 s7 _ => ⟨rfl, _, rfl, ?_⟩⟩
        have d7 : H7 D = some (.lst (vN l)) := b7 _ _ nD.1 nD.2 d6
        refine ite2 (fun _ => ⟨_, rfl, _, d7, ?_, l ++ [k], ?_, s7.put nD.1 nD.2, ?_, ?_, ?_, ?_⟩) (fun _ => ⟨l, b6.trans b7, s7, d7, asc, by omega, fun x hx => Nat.lt_succ_of_lt (bel x hx)⟩)
        · unfold vN
          rw [List.length_map]
          exact smaller (m := 8) (by omega)
        · exact but_new (b6.trans b7) hD
        · rw [upd_same]
          unfold vN
          rw [List.map_append]
          rfl
        · refine List.pairwise_append.mpr ⟨asc, List.pairwise_singleton _ _, fun x hx y hy => ?_⟩
          rw [List.mem_singleton.mp hy]
          exact bel x hx
        · rw [List.length_append, List.length_singleton]
          omega
        · intro x hx
          rcases List.mem_append.mp hx with h | h
          · exact Nat.lt_succ_of_lt (bel x h)
          · rw [List.mem_singleton.mp h]
            exact Nat.lt_succ_self k
      · rintro H6 ⟨l, b6, s6, d6, asc, ln, bel⟩
        refine ⟨D, _, rfl, .inl ⟨SqL.of d6, fun t ht => ?_⟩⟩
        have nT := s6.ne1 ht
        have f6 : H6 fa = some (.lst vs) := b6 _ _ nf.1 nf.2 f5
        have nft2 : fa ≠ t := ne_of_none f6 ht
        have s6' := s6.put (o := .tup (vN l)) nT.1 nT.2
        have f6' : (upd H6 t (.tup (vN l))) fa = some (.lst vs) := by rw [upd_ne nft2]; exact f6
        have bb6 : But ha la H5 (upd H6 t (.tup (vN l))) := b6.trans (But.of (same_new ht))
        refine ⟨_, rfl, .inl ⟨rfl, _, SqL.of f6'⟩, ?_⟩
        refine ⟨_, rfl, _, rfl, ha, la, cap, rfl, s6', by omega, by omega, fun H7 r7 b7 s7 hr7 => ⟨_, _, rfl, rfl, _, rfl, ?_⟩⟩
        refine roomy_reads rfl rfl s7 fun H8 r8 b8 s8 hr8 => ?_
        have bb8 := (bb6.trans b7).trans b8
        have f8 : H8 fa = some (.lst vs) := b8 _ _ nf.1 nf.2 (b7 _ _ nf.1 nf.2 f6')
        have t8 : H8 t = some (.tup (vN l)) := b8 _ _ nT.1 nT.2 (b7 _ _ nT.1 nT.2 upd_same)
        have k8 : Kt H5 H8 := s5.kt bb8
        refine ⟨small (m := 3) (Nat.le_refl 3), fun u hu => ?_⟩
        have nU := s8.ne1 hu
        have nfu : fa ≠ u := ne_of_none f8 hu
        have lenV : vs.length ≤ 8 := by
          rw [td5.length, List.length_map, hp]
          omega
        have hfa' : H fa = none := hfa
        refine ⟨fa, vs, _, rfl, rfl, (by rw [upd_ne nfu]; exact f8), smaller (m := 8) lenV, ?_⟩
        have kt1 : Kt H8 (upd H8 u (.tup [.int ((1 : Int) + (r7 : Int)), .ref t, .int (r8 : Int)])) := Kt.new hu
        have fu : (upd H8 u (.tup [.int ((1 : Int) + (r7 : Int)), .ref t, .int (r8 : Int)])) fa = some (.lst vs) := by rw [upd_ne nfu]; exact f8
        have kt2 : Kt (upd H8 u (.tup [.int ((1 : Int) + (r7 : Int)), .ref t, .int (r8 : Int)])) (upd (upd H8 u (.tup [.int ((1 : Int) + (r7 : Int)), .ref t, .int (r8 : Int)])) fa (.lst (vs ++ [.ref u]))) := Kt.put fun z e => by rw [fu] at e; cases e
        have tj : Td (upd H8 u (.tup [.int ((1 : Int) + (r7 : Int)), .ref t, .int (r8 : Int)])) (.ref u) (jobD (1 + r7, l, r8)) := by
          refine .tup upd_same (.cons ?_ (.cons (tupN_td (kt1 _ _ t8)) (.cons (.int _) .nil)))
          have : (1 : Int) + (r7 : Int) = ((1 + r7 : Nat) : Int) := by omega
          rw [this]
          exact .int _
        refine ⟨_, _, vs ++ [.ref u], p ++ [(1 + r7, l, r8)], rfl, ?_, ((s8.put nU.1 nU.2).put (Ne.symm nf.1.symm) (Ne.symm nf.2.symm)), upd_same, ?_, ?_, ?_⟩
        · exact but_new ((b5.trans bb8).trans (But.of (same_new hu))) hfa
        · rw [List.map_append]
          exact (((td5.k k8).k kt1).k kt2).snoc (tj.k kt2)
        · rw [List.length_append, List.length_singleton, hp]
        · intro k j e
          rcases Nat.lt_or_ge k p.length with h | h
          · rw [List.getElem?_append_left h] at e
            exact jok k j e
          · rw [List.getElem?_append_right h] at e
            have hk : k - p.length = 0 := by
              rcases Nat.eq_zero_or_pos (k - p.length) with z | z
              · exact z
              · rw [List.getElem?_eq_none (by rw [List.length_singleton]; omega)] at e
                cases e
            rw [hk] at e
            cases e
            have ek : k = i := by omega
            subst ek
            exact ⟨⟨by show 1 ≤ 1 + r7; omega, by show 1 + r7 ≤ 99; omega⟩, by show r8 ≤ 9; omega, asc, bel⟩
    · rintro σ H5 ⟨y6, y7, vs, p, rfl, b5, s5, f5, td5, hp, jok⟩
      refine ⟨_, rfl, fa, vs, rfl, .inl ⟨SqL.of f5, fun t ht => ?_⟩⟩
      have nT := s5.ne1 ht
      refine q _ (.ref t) p (b5.trans (But.of (same_new ht))) (s5.put nT.1 nT.2) ⟨by omega, jok⟩ (by omega) (.tup upd_same (td5.k (Kt.new ht)))
end
end K61

/-! _law_alike: a leaf, and a list of two leaves. -/
namespace K61
open PySem PySem.Spec PyProof.Rows L2
/-- a truth value or a whole number -/
def Leaf (x : V) : Prop := (∃ b, x = .bl b) ∨ ∃ i, x = .int i
structure LeafT (K : PySem.W.Frag) (x : V) (t : String) (c : Bool) : Prop where
  ty : ∀ H, TyX K H x (.type t)
  tup : kitB t "tuple" = some false
  lst : kitB t "list" = some false
  str : kitB t "str" = some false
  int : kitB t "int" = some true
  bl : kitB t "bool" = some c
  sc : scal x x = true
  non : x ≠ .non
theorem Leaf.t {K : PySem.W.Frag} {x : V} (h : Leaf x) : ∃ t c, LeafT K x t c := by
  rcases h with ⟨b, rfl⟩ | ⟨i, rfl⟩
  · exact ⟨"bool", true, fun H => .base (.bl b), by decide +kernel, by decide +kernel, by decide +kernel, by decide +kernel, by decide +kernel, rfl, fun e => by cases e⟩
  · exact ⟨"int", false, fun H => .base (.int i), by decide +kernel, by decide +kernel, by decide +kernel, by decide +kernel, by decide +kernel, rfl, fun e => by cases e⟩
def spLeaf : Sp := fun vs H Q _ => ∃ x, vs = [x, x] ∧ Leaf x ∧ ∀ H', Same H H' → Q (.bl true) H'
def spAlike : Sp := fun vs H Q _ => ∃ (fa da : Addr) (x y : V), vs = [.ref fa, .ref da] ∧ Leaf x ∧ Leaf y ∧ H fa = some (.lst [x, y]) ∧ H da = some (.lst [x, y]) ∧ ∀ H', Same H H' → Q (.bl true) H'
abbrev tpTL : TE := tTup (tCons (tC (.ty "tuple")) (tCons (tC (.ty "list")) tNil))
section
variable {K : PySem.W.Frag}
theorem tl_of {σ : L2.St} {H : Hp} {i : Nat} {x : V} {t : String} {b : Bool} {Q : VK} (h : σ[i]? = some (some x)) (ht : ∀ H', Same H H' → TyX K H' x (.type t)) (hk : PySem.W.kitAny K (.type t) [.type "tuple", .type "list"] = some b)
    (q : ∀ H', Same H H' → Q (.bl b) H') : tCB (rIsiT K) (tCons (tVar i) (tCons tpTL tNil)) σ H Q := by
  refine ⟨x, h, small (m := 2) (Nat.le_refl 2), fun p hp => ?_⟩
  exact ⟨x, p, _, _, _, b, rfl, upd_same, .cons (.ty _) (.cons (.ty _) .nil), ht _ (same_new hp), hk, q _ (same_new hp)⟩
theorem kit_list : PySem.W.kitAny K (.type "list") [.type "tuple", .type "list"] = some true := kitAny_cons (b := false) (kit_ty (by decide +kernel)) (fun _ => kitAny_cons (b := true) (kit_ty (by decide +kernel)) (fun h => nomatch h) (fun _ => rfl)) (fun h => nomatch h)
theorem kit_leaf {x : V} {t : String} {c : Bool} (h : LeafT K x t c) : PySem.W.kitAny K (.type t) [.type "tuple", .type "list"] = some false := kitAny_cons (b := false) (kit_ty h.tup) (fun _ => kitAny_cons (b := false) (kit_ty h.lst) (fun _ => rfl) (fun h => nomatch h)) (fun h => nomatch h)
end
section
variable {P : Program} {w : World} {K : PySem.W.Frag} {mg : Str → Option Value} {base : Heap}
abbrev sAlike : Stmt := top 30
abbrev nAlike : List Str := ["_law_found", "_law_due", "_law_k"]
theorem scAlike : FnScope nAlike ["_law_found", "_law_due"] (defScope sAlike) := ⟨rfl, rfl, rfl, by decide +kernel, rfl, by decide +kernel, by decide +kernel⟩
theorem ok_leaf {f : Addr} {fd : FuncData} (F : Fun K "_law_alike" "_law_alike" sAlike f fd) (G : Gb mg) : FnOk P w K mg base CX0 1 f fd ["_law_found", "_law_due"] spLeaf := by
  refine F.ok scAlike (fun vs H Q E h => ?_) (fun cdv A outer s0 H vs Q E hr h => ?_)
  · obtain ⟨x, rfl, _⟩ := h
    rfl
  · obtain ⟨x, rfl, hx, q⟩ := h
    obtain ⟨t, c, L⟩ := hx.t (K := K)
    refine ⟨_, pss_cons (ps_if (pt_val (pe_callB call_isiT (by rfl) G.isi PyProof.Rows.boot_isinstance (pa_cons (pv 1) (pa_cons (pe_tup (pa_cons (pe_bltn (by rfl) G.tuple PyProof.Rows.boot_tuple (v := .ty "tuple") rfl) (pa_cons (pe_bltn (by rfl) G.list PyProof.Rows.boot_list (v := .ty "list") rfl) pa_nil))) pa_nil)))) pss_never pss_nil)
      (pss_cons (ps_if (PW.pt (pw_or (pt_cmpR op_isN (pv 1) pe_non (nomark _)) (pw_or1 (pt_val (pe_callB call_isi (by rfl) G.isi PyProof.Rows.boot_isinstance (pa_cons (pv 1) (pa_cons (pe_bltn (by rfl) G.str PyProof.Rows.boot_str (v := .ty "str") rfl) pa_nil))))))) pss_never pss_nil)
      (pss_one (ps_ret (pe_and (pe_callB call_isi (by rfl) G.isi PyProof.Rows.boot_isinstance (pa_cons (pv 0) (pa_cons (pe_bltn (by rfl) G.int PyProof.Rows.boot_int (v := .ty "int") rfl) pa_nil)))
        (pe_and (pe_cmpR op_eq (pe_callB call_isi (by rfl) G.isi PyProof.Rows.boot_isinstance (pa_cons (pv 0) (pa_cons (pe_bltn (by rfl) G.bool PyProof.Rows.boot_bool (v := .ty "bool") rfl) pa_nil))) (pe_callB call_isi (by rfl) G.isi PyProof.Rows.boot_isinstance (pa_cons (pv 1) (pa_cons (pe_bltn (by rfl) G.bool PyProof.Rows.boot_bool (v := .ty "bool") rfl) pa_nil))) (nomark _))
          (pe_one (pe_cmpR op_eq (pv 0) (pv 1) (nomark _)))))))), ?_⟩
    refine tl_of (K := K) (i := 1) rfl (fun H' _ => L.ty H') (kit_leaf L) fun H1 s1 => ⟨_, rfl, iteF ?_⟩
    refine ⟨_, rfl, rfl, _, rfl, ?_⟩
    rw [decide_eq_false L.non]
    refine iteF ⟨_, rfl, _, _, _, _, _, rfl, .ty _, L.ty H1, kit_ty L.str, _, rfl, iteF ?_⟩
    refine ⟨_, rfl, _, _, _, _, _, rfl, .ty _, L.ty H1, kit_ty L.int, _, rfl, iteT ?_⟩
    refine ⟨_, rfl, _, _, _, _, _, rfl, .ty _, L.ty H1, kit_ty L.bl, _, rfl, _, _, _, _, _, rfl, .ty _, L.ty H1, kit_ty L.bl, by rfl, ?_⟩
    rw [decide_eq_true rfl]
    refine ⟨_, rfl, iteT ⟨_, rfl, _, rfl, L.sc, ?_⟩⟩
    rw [decide_eq_true rfl]
    exact q H1 s1
theorem ok_alike {f : Addr} {fd : FuncData} (F : Fun K "_law_alike" "_law_alike" sAlike f fd) (G : Gb mg) (b : Binds K fd ["_law_found", "_law_due"] []) (g : mg "_law_alike" = some (.ref f)) (kp : PySem.W.keepIn K (.ref f) = true) : FnOk P w K mg base CX0 2 f fd ["_law_found", "_law_due"] spAlike := by
  have GL : FnOk P w K mg base CX0 1 f fd ["_law_found", "_law_due"] spLeaf := ok_leaf F G
  refine F.ok scAlike (fun vs H Q E h => ?_) (fun cdv A outer s0 H vs Q E hr h => ?_)
  · obtain ⟨fa, da, x, y, rfl, _⟩ := h
    rfl
  · obtain ⟨fa, da, x, y, rfl, hx, hy, ef, ed, q⟩ := h
    have hu := hr.units
    refine ⟨_, pss_cons (ps_if (pt_val (pe_callB call_isiT (by rfl) G.isi PyProof.Rows.boot_isinstance (pa_cons (pv 1) (pa_cons (pe_tup (pa_cons (pe_bltn (by rfl) G.tuple PyProof.Rows.boot_tuple (v := .ty "tuple") rfl) (pa_cons (pe_bltn (by rfl) G.list PyProof.Rows.boot_list (v := .ty "list") rfl) pa_nil))) pa_nil))))
        (pss_cons (ps_if (PW.pt (pw_or (pt_not (pt_val (pe_callB call_isiT (by rfl) G.isi PyProof.Rows.boot_isinstance (pa_cons (pv 0) (pa_cons (pe_tup (pa_cons (pe_bltn (by rfl) G.tuple PyProof.Rows.boot_tuple (v := .ty "tuple") rfl) (pa_cons (pe_bltn (by rfl) G.list PyProof.Rows.boot_list (v := .ty "list") rfl) pa_nil))) pa_nil)))))
            (pw_or1 (pt_cmpR op_ne (pe_callB call_isi (by rfl) G.isi PyProof.Rows.boot_isinstance (pa_cons (pv 0) (pa_cons (pe_bltn (by rfl) G.list PyProof.Rows.boot_list (v := .ty "list") rfl) pa_nil))) (pe_callB call_isi (by rfl) G.isi PyProof.Rows.boot_isinstance (pa_cons (pv 1) (pa_cons (pe_bltn (by rfl) G.list PyProof.Rows.boot_list (v := .ty "list") rfl) pa_nil))) (nomark _))))) pss_never pss_nil)
        (pss_cons (ps_if (pt_cmpR op_ne (pe_callB (call_lenK K) (by rfl) G.len PySem.boot_len (pa_cons (pv 0) pa_nil)) (pe_callB (call_lenK K) (by rfl) G.len PySem.boot_len (pa_cons (pv 1) pa_nil)) (nomark _)) pss_never pss_nil)
        (pss_one (ps_ret (pe_cmpR (op_eqDK K hu) (pe_lc (own := [("_law_k", 2)]) (g := gName 2) rfl scAlike.nd (pi_range1 (by rfl) G.range (pa_cons (pe_callB (call_lenK K) (by rfl) G.len PySem.boot_len (pa_cons (pv 1) pa_nil)) pa_nil))
            (blkOk_by (own := [("_law_k", 2)]) (N := nAlike) (sc := defScope sAlike) (by decide +kernel)) (fun _ _ _ _ _ => pg_name (i := 2) scAlike.nd rfl (Or.inl rfl))
            (fun _ _ _ _ _ => pts_one (pt_not (pt_val (pe_call GL hr (by rfl) g kp b .nil pass0 (pa_cons (pe_ix (ix_listK K) (pv 0) (pv 2) (fun _ _ => rfl)) (pa_cons (pe_ix (ix_listK K) (pv 1) (pv 2) (fun _ _ => rfl)) pa_nil)))))) (fun _ _ _ _ _ => pv 2)) (pe_lst pa_nil) (nomark _))))))
        pss_nil)
      (pss_cons (ps_if (PW.pt (pw_or (pt_cmpR op_isN (pv 1) pe_non (nomark _)) (pw_or1 (pt_val (pe_callB call_isi (by rfl) G.isi PyProof.Rows.boot_isinstance (pa_cons (pv 1) (pa_cons (pe_bltn (by rfl) G.str PyProof.Rows.boot_str (v := .ty "str") rfl) pa_nil))))))) pss_never pss_nil)
      (pss_one ps_never)), ?_⟩
    refine tl_of (K := K) (i := 1) rfl (fun H' s' => .base (.lst (s' _ _ ed))) kit_list fun H1 s1 => ⟨_, rfl, iteT ?_⟩
    have ef1 := s1 _ _ ef
    have ed1 := s1 _ _ ed
    refine tl_of (K := K) (i := 0) rfl (fun H' s' => .base (.lst (s' _ _ ef1))) kit_list fun H2 s2 => ⟨_, rfl, iteF ?_⟩
    have ef2 := s2 _ _ ef1
    have ed2 := s2 _ _ ed1
    refine ⟨_, rfl, _, _, _, _, true, rfl, .ty _, .base (.lst ef2), kit_ty (by decide +kernel), _, rfl, _, _, _, _, true, rfl, .ty _, .base (.lst ed2), kit_ty (by decide +kernel), by rfl, _, rfl, iteF ?_⟩
    refine ⟨_, rfl, fa, _, rfl, .inl (SqL.of ef2), _, rfl, da, _, rfl, .inl (SqL.of ed2), by rfl, _, rfl, iteF ?_⟩
    refine ⟨_, rfl, da, _, rfl, .inl (SqL.of ed2), 2, rfl, by decide, by decide, fun D hD => ?_⟩
    refine lc_range (lo := 0) (n := 2) (fun k H' => Same H2 H' ∧ H' D = some (.lst [])) ⟨same_new hD, upd_same⟩ ?_ ?_
    · rintro k H3 hk ⟨sm, hd⟩
      obtain ⟨z, hz, lz⟩ : ∃ z, ([x, y] : List V)[k]? = some z ∧ Leaf z := by
        match k, hk with
        | 0, _ => exact ⟨x, rfl, hx⟩
        | 1, _ => exact ⟨y, rfl, hy⟩
      have e0 : (0 : Int) + (k : Int) = (k : Int) := by omega
      rw [e0]
      refine ⟨rfl, _, rfl, _, rfl, fa, _, _, z, rfl, rfl, SqL.of (sm _ _ ef2), atI_nat (j := k) hz, ?_⟩
      refine ⟨_, rfl, _, rfl, da, _, _, z, rfl, rfl, SqL.of (sm _ _ ed2), atI_nat (j := k) hz, ?_⟩
      exact ⟨z, rfl, lz, fun H4 s4 => ⟨_, rfl, iteF ⟨sm.trans s4, s4 _ _ hd⟩⟩⟩
    · rintro H3 ⟨sm, hd⟩
      refine ⟨Nat.zero_le _, fun p hp => ⟨.list [], .list [], .lst (SqL.of ((same_new hp) _ _ hd)) .nil, .lst (SqL.of upd_same) .nil, by decide +kernel, by decide +kernel, ?_⟩⟩
      have : PyData.eqv (.list []) (.list []) = true := by rw [eqv_list, eqvAll_nil]
      rw [this]
      exact q _ (((s1.trans s2).trans sm).trans (same_new hp))
end
end K61

/-! Readings for the law: its calls, tests, least of pairs, membership. -/
namespace K61
open PySem PySem.Spec PyProof.Rows L2
theorem set_at {σ : L2.St} {i : Nat} {v : V} (h : i < σ.length) : (σ.set i (some v))[i]? = some (some v) := List.getElem?_set_self h
/-- a row and where it leads, as data -/
def rsD (q : Row × St) : PyData := .tuple [rowD q.1, stD q.2]
/-- what the program's stuck_row gives -/
def RowOf (p : List Job) (n : Nat) (H : Hp) (v : V) : Prop := (stuck (needs p) n = [] ∧ v = .non) ∨ ∃ c ∈ stuck (needs p) n, (∀ e ∈ stuck (needs p) n, LeRow c.2 e.2) ∧ Td H v (rowD c.2)
section
variable {t : TE} {ta tb tn tc : TE} {σ : L2.St} {H : Hp} {p : List Job} {n : Nat} {b : Bool} {z : Int} {K : PySem.W.Frag}
theorem GvN.lstuck (h1 : Gv ta σ H (planD p)) (h2 : Gv tn σ H (.int (n : Int))) (pok : PlanOk p) : GvN (tCall spLStuck [] E0 (tCons ta (tCons tn tNil))) σ H ((K61.stuck (needs p) n).map ksOf) := fun H1 Q s0 k =>
  h1 H1 _ s0 fun v H2 s2 td => h2 H2 _ (s0.trans s2) fun u H3 s3 te => by
    rw [te.int_inv]
    exact ⟨v, p, n, rfl, td.k (Kt.of s3), pok, fun H5 a xs s5 ha e tds => k a xs H5 ((s2.trans s3).trans s5) ((s2.trans s3).free ha) e tds⟩
theorem row_reads {Q : VK} (h1 : Gv ta σ H (planD p)) (h2 : Gv tn σ H (.int (n : Int))) (pok : PlanOk p) (n1 : 1 ≤ n) (n8 : n ≤ 8) (k : ∀ H' v, Same H H' → RowOf p n H' v → Q v H') : tCall spRow [] E0 (tCons ta (tCons tn tNil)) σ H Q :=
  h1 H _ (Same.refl _) fun v H2 s2 td => h2 H2 _ s2 fun u H3 s3 te => by
    rw [te.int_inv]
    exact ⟨v, p, n, rfl, td.k (Kt.of s3), pok, n1, n8, fun e H' s => k H' _ ((s2.trans s3).trans s) (.inl ⟨e, rfl⟩), fun c hc hle H' v s tv => k H' v ((s2.trans s3).trans s) (.inr ⟨c, hc, hle, tv⟩)⟩
theorem Gv.never (h1 : Gv ta σ H (planD p)) (h2 : Gv tn σ H (.int (n : Int))) (pok : PlanOk p) (n1 : 1 ≤ n) (n8 : n ≤ 8) : Gv (tCall spNever [] E0 (tCons ta (tCons tn tNil))) σ H (.bool (stuck (needs p) n).isEmpty) := fun H1 Q s0 k =>
  h1 H1 _ s0 fun v H2 s2 td => h2 H2 _ (s0.trans s2) fun u H3 s3 te => by
    rw [te.int_inv]
    exact ⟨v, p, n, rfl, td.k (Kt.of s3), pok, n1, n8, fun H' s => k _ H' ((s2.trans s3).trans s) (.bl _)⟩
theorem Gv.many (h1 : Gv ta σ H (planD p)) (h2 : Gv tn σ H (.int (n : Int))) (pok : PlanOk p) (n1 : 1 ≤ n) (n8 : n ≤ 8) : Gv (tCall spMany [] E0 (tCons ta (tCons tn tNil))) σ H (.int ((stuck (needs p) n).length : Int)) := fun H1 Q s0 k =>
  h1 H1 _ s0 fun v H2 s2 td => h2 H2 _ (s0.trans s2) fun u H3 s3 te => by
    rw [te.int_inv]
    exact ⟨v, p, n, rfl, td.k (Kt.of s3), pok, n1, n8, fun H' s => k _ H' ((s2.trans s3).trans s) (.int _)⟩
theorem Gv.alike (h1 : GvN ta σ H [.bool b, .int z]) (h2 : GvN tb σ H [.bool b, .int z]) : Gv (tCall spAlike [] E0 (tCons ta (tCons tb tNil))) σ H (.bool true) := fun H1 Q s0 k =>
  h1 H1 _ s0 fun fa xs H2 s2 _ ef tf => h2 H2 _ (s0.trans s2) fun da ys H3 s3 _ ed te => by
    obtain ⟨x, y, rfl, hx, hy⟩ := tf.two
    obtain ⟨x2, y2, rfl, hx2, hy2⟩ := te.two
    have e1 := hx.bl_inv
    have e2 := hy.int_inv
    have e3 := hx2.bl_inv
    have e4 := hy2.int_inv
    subst e1 e2 e3 e4
    exact ⟨fa, da, _, _, rfl, .inl ⟨_, rfl⟩, .inr ⟨_, rfl⟩, s3 _ _ ef, ed, fun H' s => k _ H' ((s2.trans s3).trans s) (.bl _)⟩
theorem Gv.isN {i : Nat} {v : V} (h : σ[i]? = some (some v)) (e : decide (v = .non) = b) : Gv (tOp (fun x y H Q => y = .non ∧ Q (.bl (decide (x = .non))) H) (tVar i) (tC .non)) σ H (.bool b) := fun H1 Q s k =>
  ⟨v, h, rfl, by rw [e]; exact k _ _ (Same.refl _) (.bl _)⟩
theorem Gv.notN {i : Nat} {v : V} (h : σ[i]? = some (some v)) (e : decide (v = .non) = b) : Gv (tOp (fun x y H Q => y = .non ∧ Q (.bl (!decide (x = .non))) H) (tVar i) (tC .non)) σ H (.bool (!b)) := fun H1 Q s k =>
  ⟨v, h, rfl, by rw [e]; exact k _ _ (Same.refl _) (.bl _)⟩
theorem Gv.neB (h1 : Gv ta σ H (.bool b)) (h2 : Gv tb σ H (.bool b)) : Gv (tOp rNe ta tb) σ H (.bool false) := fun H1 Q s k =>
  h1 H1 _ s fun v H2 s2 td => h2 H2 _ (s.trans s2) fun u H3 s3 te => by
    rw [td.bl_inv, te.bl_inv]
    refine ⟨rfl, ?_⟩
    rw [decide_eq_true rfl]
    exact k _ _ (s2.trans s3) (.bl _)
theorem Gv.isTup {i : Nat} {v : V} {ds : List PyData} (h : σ[i]? = some (some v)) (td : Td H v (.tuple ds)) : Gv (tCB (rIsi K) (tCons (tVar i) (tCons (tC (.ty "tuple")) tNil))) σ H (.bool true) := fun H1 Q s k => by
  obtain ⟨a, vs, rfl, e, _⟩ := td.tup_inv
  exact ⟨_, h, _, _, _, _, true, rfl, .ty _, .base (.tup (s _ _ e)), kit_ty (by decide +kernel), k _ _ (Same.refl _) (.bl _)⟩
def leK (d e : PyData) : Prop := d = e ∨ ∃ p q, d = ksD p ∧ e = ksD q ∧ p.1 ≤ q.1
theorem ksD_fst {p q : Nat × St} (h : ksD p = ksD q) : p.1 = q.1 := by
  unfold ksD at h
  simp only [PyData.tuple.injEq, List.cons.injEq, PyData.int.injEq] at h
  omega
theorem leK_trans (d e f : PyData) (h : leK d e) (k : leK e f) : leK d f := by
  rcases h with rfl | ⟨p, q, rfl, rfl, h⟩
  · exact k
  · rcases k with rfl | ⟨p', q', e1, rfl, k⟩
    · exact .inr ⟨p, q, rfl, rfl, h⟩
    · have := ksD_fst e1
      exact .inr ⟨p, q', rfl, rfl, by omega⟩
theorem leK_fst {p q : Nat × St} (h : leK (ksD p) (ksD q)) : p.1 ≤ q.1 := by
  rcases h with h | ⟨p', q', e1, e2, h⟩
  · rw [ksD_fst h]
    exact Nat.le_refl _
  · have := ksD_fst e1
    have := ksD_fst e2
    omega
/-- min(some)[0] -/
theorem Gv.least {l : List Ent} {c : Ent} (h : GvL t σ H (l.map ksOf)) (hc : c ∈ l) (hle : ∀ e ∈ l, c.2.length ≤ e.2.length) : Gv (tOp (rIxT K) (tCB (rMinD K) (tCons t tNil)) (tC (.int 0))) σ H (.int (c.2.length : Int)) := fun H1 Q s k =>
  h H1 _ s fun a xs H2 s2 ea ta => by
    have mem : ∀ {d : PyData}, d ∈ l.map ksOf → ∃ e ∈ l, ksOf e = d := fun h => List.mem_map.mp h
    refine ⟨a, xs, l.map ksOf, leK, rfl, SqL.of ea, ta, ?_, ?_, fun d => .inl rfl, leK_trans, ?_, ?_, fun x d hd tx hl => ?_⟩
    · intro h0
      rw [List.map_eq_nil_iff.mp h0] at hc
      cases hc
    · intro d hd e he
      obtain ⟨c1, _, rfl⟩ := mem hd
      obtain ⟨c2, _, rfl⟩ := mem he
      have := (shp_ks (c1.2.length, c1.1)).2
      exact ⟨alike_ks _ _, (fun h0 => by cases h0), by show PyData.depth (ksD _) ≤ 60; omega⟩
    · intro d hd e he h0
      obtain ⟨c1, _, rfl⟩ := mem hd
      obtain ⟨c2, _, rfl⟩ := mem he
      exact .inr ⟨_, _, rfl, rfl, (dlt_ks _ _).1 h0⟩
    · intro d hd e he h0
      obtain ⟨c1, _, rfl⟩ := mem hd
      obtain ⟨c2, _, rfl⟩ := mem he
      exact .inr ⟨_, _, rfl, rfl, (dlt_ks _ _).2 h0⟩
    · obtain ⟨c1, hc1, rfl⟩ := mem hd
      have e1 : c1.2.length ≤ c.2.length := leK_fst (p := (c1.2.length, c1.1)) (q := (c.2.length, c.1)) (hl _ (List.mem_map.mpr ⟨c, hc, rfl⟩))
      have e2 := hle c1 hc1
      have e3 : c1.2.length = c.2.length := by omega
      obtain ⟨y, ys, rfl, ey, ty⟩ := Td.tup_inv (show Td H2 x (.tuple [.int (c1.2.length : Int), stD c1.1]) from tx)
      obtain ⟨v1, v2, rfl, t1, t2⟩ := ty.two
      rw [t1.int_inv, e3] at ey
      exact ⟨y, _, 0, _, rfl, rfl, SqT.of ey, atI_nat (j := 0) rfl, k _ _ s2 (.int _)⟩
theorem Gv.notInD {d : PyData} {ds : List PyData} {m : Nat} {r : Bool} (h1 : Gv ta σ H d) (h2 : GvL tb σ H ds) (sd : shp m d) (ss : ∀ e ∈ ds, shp m e) (hm : m ≤ 60) (he : (ds.any fun z => PyData.eqv z d) = r) : Gv (tOp (rNotInD K) ta tb) σ H (.bool (!r)) := fun H1 Q s k =>
  h1 H1 _ s fun v H2 s2 td => h2 H2 _ (s.trans s2) fun a xs H3 s3 ea tds => ⟨d, ds, Td.dp d v (td.k (Kt.of s3)), .lst (SqL.of ea) (TdAll.dp ds xs tds), sd.ok (by omega), (shp_list ss).ok (by omega), by rw [he]; exact k _ _ (s2.trans s3) (.bl _)⟩
theorem Gv.inD {d : PyData} {ds : List PyData} {m : Nat} {r : Bool} (h1 : Gv ta σ H d) (h2 : GvL tb σ H ds) (sd : shp m d) (ss : ∀ e ∈ ds, shp m e) (hm : m ≤ 60) (he : (ds.any fun z => PyData.eqv z d) = r) : Gv (tOp (rInD K) ta tb) σ H (.bool r) := fun H1 Q s k =>
  h1 H1 _ s fun v H2 s2 td => h2 H2 _ (s.trans s2) fun a xs H3 s3 ea tds => ⟨d, ds, Td.dp d v (td.k (Kt.of s3)), .lst (SqL.of ea) (TdAll.dp ds xs tds), sd.ok (by omega), (shp_list ss).ok (by omega), by rw [he]; exact k _ _ (s2.trans s3) (.bl _)⟩
theorem Gv.ltRow {r q : Row} (h1 : Gv ta σ H (rowD r)) (h2 : Gv tb σ H (rowD q)) : Gv (tOp rLtD ta tb) σ H (.bool (rlt r q)) := fun H1 Q s k =>
  h1 H1 _ s fun v H2 s2 td => h2 H2 _ (s.trans s2) fun u H3 s3 te => ⟨_, _, td.k (Kt.of s3), te, alike_row r q, (fun h0 => by cases h0), Nat.le_trans (shp_row r).2 (by decide), by rw [dlt_row]; exact k _ _ (s2.trans s3) (.bl _)⟩
theorem any_st (l : List Ent) (s : St) : ((l.map fun c => stD c.1).any fun z => PyData.eqv z (stD s)) = decide (∃ c ∈ l, c.1 = s) := by
  rw [List.any_map, Bool.eq_iff_iff, List.any_eq_true, decide_eq_true_eq]
  constructor
  · rintro ⟨c, hc, h⟩
    have h' : PyData.eqv (stD c.1) (stD s) = true := h
    rw [eqv_st] at h'
    exact ⟨c, hc, of_decide_eq_true h'⟩
  · rintro ⟨c, hc, h⟩
    refine ⟨c, hc, ?_⟩
    show PyData.eqv (stD c.1) (stD s) = true
    rw [eqv_st]
    exact decide_eq_true h
/-- [state for many, state in some] -/
theorem GvN.ends {l : List Ent} {i j : Nat} (hij : i ≠ j) (hj : j < σ.length) (h : GvL t σ H (l.map ksOf)) (hz : l.length < 16777216) : GvN (tLc (iList K t) (gTup K 2 (gCons (gName i) (gCons (gName j) gNil))) tYes (tVar j) [i, j]) σ H (l.map fun c => stD c.1) := by
  have := GvN.compL2 (K := K) (tt := tYes) (te := tVar j) l (fun c => .int (c.2.length : Int)) (fun c => stD c.1) (fun c => stD c.1) (fun _ => true) i j hij h (fun c _ v u H1 _ _ _ => GvT.yes)
    (fun c _ _ v u H1 _ _ tu => Gv.var (set_at (by rw [List.length_set, wipe_length]; exact hj)) tu) hz
  rw [filter_yes] at this
  exact this
theorem Gv.walked {r : Row} {s : St} (h1 : Gv ta σ H (planD p)) (h2 : Gv tn σ H (.int (n : Int))) (h3 : Gv tb σ H (rowD r)) (pok : PlanOk p) (hw : walk (needs p) n ([], []) r = some s) : Gv (tCall spWalked [] E0 (tCons ta (tCons tn (tCons tb tNil)))) σ H (stD s) := fun H1 Q s0 k =>
  h1 H1 _ s0 fun v H2 s2 td => h2 H2 _ (s0.trans s2) fun u H3 s3 te => h3 H3 _ ((s0.trans s2).trans s3) fun x H4 s4 tr => by
    rw [te.int_inv]
    exact ⟨v, x, p, n, r, s, rfl, td.k (Kt.of (s3.trans s4)), pok, tr, hw, fun H' y s' ty => k y H' (((s2.trans s3).trans s4).trans s') ty⟩
end
theorem RowOf.k {p : List Job} {n : Nat} {H H' : Hp} {v : V} (h : RowOf p n H v) (s : Same H H') : RowOf p n H' v := by
  rcases h with h | ⟨c, hc, hle, td⟩
  · exact .inl h
  · exact .inr ⟨c, hc, hle, td.k (Kt.of s)⟩
section
variable {t : TT} {a b : TS} {u : TS} {D : Ends} {σ : L2.St} {H H0 : Hp}
theorem if_never (g : GvT t σ H0 false) (s : Same H0 H) (k : ∀ H1, Same H H1 → u D σ H1) : tSeq (tIfS t tNever tNext) u D σ H := g H _ s fun H1 s1 => iteF (k H1 s1)
theorem if_never1 (g : GvT t σ H0 false) (s : Same H0 H) (k : ∀ H1, Same H H1 → D.nx σ H1) : tIfS t tNever tNext D σ H := g H _ s fun H1 s1 => iteF (k H1 s1)
theorem if_no (g : GvT t σ H0 false) (s : Same H0 H) (k : ∀ H1, Same H H1 → u D σ H1) : tSeq (tIfS t a tNext) u D σ H := g H _ s fun H1 s1 => iteF (k H1 s1)
theorem if_yes (g : GvT t σ H0 true) (s : Same H0 H) (k : ∀ H1, Same H H1 → a { D with nx := u D } σ H1) : tSeq (tIfS t a b) u D σ H := g H _ s fun H1 s1 => iteT (k H1 s1)
theorem if_yes1 (g : GvT t σ H0 true) (s : Same H0 H) (k : ∀ H1, Same H H1 → a D σ H1) : tIfS t a b D σ H := g H _ s fun H1 s1 => iteT (k H1 s1)
theorem if_no1 (g : GvT t σ H0 false) (s : Same H0 H) (k : ∀ H1, Same H H1 → D.nx σ H1) : tIfS t a tNext D σ H := g H _ s fun H1 s1 => iteF (k H1 s1)
end
end K61

/-! law: its text. -/
namespace K61
open PySem PySem.Spec PyProof.Rows L2
theorem units65 {k : Nat} {A : Around} (r : Room k A) : A.units + 65 < cLine := by have := r.un; omega
/-- a def of the module, with what it promises -/
def Has (P : Program) (w : World) (K : PySem.W.Frag) (mg : Str → Option Value) (base : Heap) (k : Nat) (x : Str) (ps : List Str) (sp : Sp) : Prop :=
  ∃ f fd, FnOk P w K mg base CX0 k f fd ps sp ∧ Binds K fd ps [] ∧ mg x = some (.ref f) ∧ PySem.W.keepIn K (.ref f) = true
section
variable {P : Program} {w : World} {K : PySem.W.Frag} {mg : Str → Option Value} {base : Heap}
abbrev sLaw : Stmt := top 37
abbrev nLaw : List Str := ["_law_script", "_law_h", "_law_turn", "_law_plan_here", "_law_slots", "_law_some", "_law_found", "_law_rows", "_law_k", "_law_longer", "_law_row", "_law_state", "_law_ends", "_law_few", "_law_many", "_law_move", "_law_goal"]
theorem scLaw : FnScope nLaw ["_law_script"] (defScope sLaw) := ⟨rfl, rfl, rfl, by decide +kernel, rfl, by decide +kernel, by decide +kernel⟩
def spLaw (K : PySem.W.Frag) : Sp := fun vs H Q _ => ∃ (a : Addr) (ns : List Int), vs = [.ref a] ∧ SqL K H a (ns.map V.int) ∧ ns.length ≤ 63 ∧ ∀ H', Q (.bl true) H'
abbrev sg (a ha : Addr) (y2 y3 y4 y5 y6 y7 y8 y9 y10 y11 y12 y13 : Option V) : L2.St := [some (.ref a), some (.ref ha), y2, y3, y4, y5, y6, y7, y8, y9, y10, y11, y12, y13, none, none, none]
theorem tail_reads {D : Ends} {H : Hp} {a ha : Addr} {pl : V} {p : List Job} {y2 y4 y5 y6 y7 y8 y9 y10 y11 y12 y13 : Option V} (tp : Td H pl (planD p)) (pok : PlanOk p) (h : ∀ H' k, Same H H' → D.nx (sg a ha y2 (some pl) y4 y5 y6 y7 y8 y9 y10 y11 y12 k) H') :
    tSeq (tAsg (tCall spFew [] E0 (tCons (tVar 3) tNil)) (gName 13)) (tIfS (tOr (tTest (tOp (rNeD K) (tCall spLStuck [] E0 (tCons (tVar 3) (tCons (tVar 13) tNil))) (tLst tNil)))
      (tAnd (tTest (tOp (rI0 fun i j => .bl (decide (j < i))) (tVar 13) (tC (.int 1)))) (tTest (tOp (rEqD K) (tCall spLStuck [] E0 (tCons (tVar 3) (tCons (tOp (rI0 fun i j => .int (i - j)) (tVar 13) (tC (.int 1))) tNil))) (tLst tNil))))) tNever tNext) D (sg a ha y2 (some pl) y4 y5 y6 y7 y8 y9 y10 y11 y12 y13) H := by
  refine ⟨_, rfl, pl, p, rfl, tp, pok, fun H1 k s1 k1 k2 hk hk1 => ?_⟩
  have tp1 := tp.k (Kt.of s1)
  have g1 := Gv.notNil (K := K) (σ := sg a ha y2 (some pl) y4 y5 y6 y7 y8 y9 y10 y11 y12 (some (.int (k : Int)))) (GvN.lstuck (ta := tVar 3) (tn := tVar 13) (n := k) (Gv.var rfl tp1) (Gv.var rfl (.int (k : Int))) pok).l (shp_map (fun c : Ent => shp_ks (c.2.length, c.1)) _) (by decide)
  rw [hk] at g1
  have g2 : GvT (tAnd (tTest (tOp (rI0 fun i j => .bl (decide (j < i))) (tVar 13) (tC (.int 1)))) (tTest (tOp (rEqD K) (tCall spLStuck [] E0 (tCons (tVar 3) (tCons (tOp (rI0 fun i j => .int (i - j)) (tVar 13) (tC (.int 1))) tNil))) (tLst tNil)))) (sg a ha y2 (some pl) y4 y5 y6 y7 y8 y9 y10 y11 y12 (some (.int (k : Int)))) H1 false := by
    have e1 : ((k : Int) - 1) = ((k - 1 : Nat) : Int) := by omega
    have gs : Gv (tOp (rI0 fun i j => .int (i - j)) (tVar 13) (tC (.int 1))) (sg a ha y2 (some pl) y4 y5 y6 y7 y8 y9 y10 y11 y12 (some (.int (k : Int)))) H1 (.int ((k - 1 : Nat) : Int)) := by
      rw [← e1]
      exact Gv.sub (Gv.var rfl (.int (k : Int))) (Gv.int 1)
    have := GvT.and (GvT.test (Gv.gt (σ := sg a ha y2 (some pl) y4 y5 y6 y7 y8 y9 y10 y11 y12 (some (.int (k : Int)))) (H := H1) (ta := tVar 13) (Gv.var rfl (.int (k : Int))) (Gv.int 1)))
      (fun _ => GvT.test (Gv.isNil (K := K) (GvN.lstuck (ta := tVar 3) (n := k - 1) (Gv.var rfl tp1) gs pok).l (shp_map (fun c : Ent => shp_ks (c.2.length, c.1)) _) (by decide)))
    rw [List.isEmpty_map] at this
    have e2 : (decide ((1 : Int) < (k : Int)) && (stuck (needs p) (k - 1)).isEmpty) = false := by
      by_cases h1 : 1 < k
      · have := hk1 h1
        cases hs : stuck (needs p) (k - 1) with
        | nil => exact absurd hs this
        | cons _ _ => exact Bool.and_false _
      · rw [decide_eq_false (by omega)]
        rfl
    rw [e2] at this
    exact this
  exact (GvT.or (GvT.test g1) fun _ => g2) _ _ (Same.refl _) fun H2 s2 => iteF (h H2 _ (s1.trans s2))
theorem ok_law {f : Addr} {fd : FuncData} (F : Fun K "law" "law" sLaw f fd) (G : Gb mg)
    (hMix : Has P w K mg base 1 "_law_mix" ["_law_script", "_law_seed"] (spMix K)) (hNext : Has P w K mg base 1 "_law_next" ["_law_h", "_law_cap"] spNext)
    (hPick : Has P w K mg base 2 "_law_pick" ["_law_h", "_law_things"] spPick) (hPlan : Has P w K mg base 3 "_law_plan" ["_law_h", "_law_most"] spPlan)
    (hMoves : Has P w K mg base 1 "_law_slot_moves" ["_law_plan_here", "_law_slots", "_law_state"] spMoves) (hStuck : Has P w K mg base 3 "_law_stuck" ["_law_plan_here", "_law_slots"] spLStuck)
    (hWalked : Has P w K mg base 2 "_law_walked" ["_law_plan_here", "_law_slots", "_law_row"] spWalked) (hAlike : Has P w K mg base 2 "_law_alike" ["_law_found", "_law_due"] spAlike)
    (hRow : Has P w K mg base 5 "stuck_row" ["plan", "slots"] spRow) (hNever : Has P w K mg base 5 "never_stuck" ["plan", "slots"] spNever) (hMany : Has P w K mg base 5 "count_stuck" ["plan", "slots"] spMany)
    (hFew : Has P w K mg base 4 "fewest_slots" ["plan"] spFew) : FnOk P w K mg base CX0 6 f fd ["_law_script"] (spLaw K) := by
  obtain ⟨_, _, gMix, bMix, mMix, kMix⟩ := hMix
  obtain ⟨_, _, gNext, bNext, mNext, kNext⟩ := hNext
  obtain ⟨_, _, gPick, bPick, mPick, kPick⟩ := hPick
  obtain ⟨_, _, gPlan, bPlan, mPlan, kPlan⟩ := hPlan
  obtain ⟨_, _, gMoves, bMoves, mMoves, kMoves⟩ := hMoves
  obtain ⟨_, _, gStuck, bStuck, mStuck, kStuck⟩ := hStuck
  obtain ⟨_, _, gWalked, bWalked, mWalked, kWalked⟩ := hWalked
  obtain ⟨_, _, gAlike, bAlike, mAlike, kAlike⟩ := hAlike
  obtain ⟨_, _, gRow, bRow, mRow, kRow⟩ := hRow
  obtain ⟨_, _, gNever, bNever, mNever, kNever⟩ := hNever
  obtain ⟨_, _, gMany, bMany, mMany, kMany⟩ := hMany
  obtain ⟨_, _, gFew, bFew, mFew, kFew⟩ := hFew
  refine F.ok scLaw (fun vs H Q E h => ?_) (fun cdv A outer s0 H vs Q E hr h => ?_)
  · obtain ⟨a, ns, rfl, _⟩ := h
    rfl
  · obtain ⟨a, ns, rfl, hS, hlen, q⟩ := h
    have hu := hr.units
    have hu5 := units65 hr
    have hr4 : Room 4 _ := hr.mono (by decide)
    have hr3 : Room 3 _ := hr.mono (by decide)
    have hr2 : Room 2 _ := hr.mono (by decide)
    have hr1 : Room 1 _ := hr.mono (by decide)
    refine ⟨_, pss_cons (ps_set (i := 1) scLaw.nd rfl (Or.inl rfl) (pe_call gMix hr1 (by rfl) mMix kMix bMix .nil pass0 (pa_cons (pv 0) (pa_cons pe_int pa_nil))))
      (pss_cons (ps_for PassesOwn.never rfl (pi_range1 (by rfl) G.range (pa_cons pe_int pa_nil)) (pg_name (i := 2) scLaw.nd rfl (Or.inl rfl))
        (pss_cons (ps_set (i := 3) scLaw.nd rfl (Or.inl rfl) (pe_call gPlan hr3 (by rfl) mPlan kPlan bPlan .nil pass0 (pa_cons (pv 1) (pa_cons (pe_call gPick hr2 (by rfl) mPick kPick bPick .nil pass0 (pa_cons (pv 1) (pa_cons (pe_lst (pa_cons pe_int (pa_cons pe_int (pa_cons pe_int (pa_cons pe_int pa_nil))))) pa_nil))) pa_nil))))
        (pss_cons (ps_set (i := 4) scLaw.nd rfl (Or.inl rfl) (pe_op op_add pe_int (pe_call gNext hr1 (by rfl) mNext kNext bNext .nil pass0 (pa_cons (pv 1) (pa_cons pe_int pa_nil)))))
        (pss_cons (ps_asg (pe_tup (pa_cons (pe_call gStuck hr3 (by rfl) mStuck kStuck bStuck .nil pass0 (pa_cons (pv 3) (pa_cons (pv 4) pa_nil))) (pa_cons (pe_call gRow hr (by rfl) mRow kRow bRow .nil pass0 (pa_cons (pv 3) (pa_cons (pv 4) pa_nil))) pa_nil)))
            (pg_tupK K (n := 2) rfl (pgs_cons (pg_name (i := 5) scLaw.nd rfl (Or.inl rfl)) (pgs_cons (pg_name (i := 6) scLaw.nd rfl (Or.inr rfl)) pgs_nil))))
        (pss_cons (ps_if (pt_not (pt_val (pe_call gAlike hr2 (by rfl) mAlike kAlike bAlike .nil pass0 (pa_cons (pe_lst (pa_cons (pe_call gNever hr (by rfl) mNever kNever bNever .nil pass0 (pa_cons (pv 3) (pa_cons (pv 4) pa_nil))) (pa_cons (pe_call gMany hr (by rfl) mMany kMany bMany .nil pass0 (pa_cons (pv 3) (pa_cons (pv 4) pa_nil))) pa_nil)))
            (pa_cons (pe_lst (pa_cons (pe_cmpR (op_eqDK K hu) (pv 5) (pe_lst pa_nil) (nomark _)) (pa_cons (pe_callB (call_lenK K) (by rfl) G.len PySem.boot_len (pa_cons (pv 5) pa_nil)) pa_nil))) pa_nil))))) pss_never pss_nil)
        (pss_cons (ps_if (pt_cmpR op_ne (pe_cmpR op_isN (pv 6) pe_non (nomark _)) (pe_cmpR (op_eqDK K hu) (pv 5) (pe_lst pa_nil) (nomark _)) (nomark _)) pss_never pss_nil)
        (pss_cons (ps_if (pt_cmpR op_notN (pv 6) pe_non (nomark _))
          (pss_cons (ps_if (PW.pt (pw_or (pt_not (pt_val (pe_callB call_isi (by rfl) G.isi PyProof.Rows.boot_isinstance (pa_cons (pv 6) (pa_cons (pe_bltn (by rfl) G.tuple PyProof.Rows.boot_tuple (v := .ty "tuple") rfl) pa_nil)))))
              (pw_or1 (pt_cmpR op_ne (pe_callB (call_lenK K) (by rfl) G.len PySem.boot_len (pa_cons (pv 6) pa_nil)) (pe_ix (ix_tupK K) (pe_callB (cr_minD rfl hu) (by rfl) G.min PyProof.Rows.boot_min (pa_cons (pv 5) pa_nil)) pe_int (fun _ _ => rfl)) (nomark _))))) pss_never pss_nil)
          (pss_cons (ps_if (pt_cmpR (op_notInD hu5) (pe_call gWalked hr2 (by rfl) mWalked kWalked bWalked .nil pass0 (pa_cons (pv 3) (pa_cons (pv 4) (pa_cons (pv 6) pa_nil))))
              (pe_lc (own := [("_law_many", 14), ("_law_state", 11)]) (tt := tYes) rfl scLaw.nd (pi_list (pv 5)) (blkOk_by (own := [("_law_many", 14), ("_law_state", 11)]) (N := nLaw) (sc := defScope sLaw) (by decide +kernel))
                (fun _ _ _ _ _ => pg_tupK K (n := 2) rfl (pgs_cons (pg_name (i := 14) scLaw.nd rfl (Or.inl rfl)) (pgs_cons (pg_name (i := 11) scLaw.nd rfl (Or.inl rfl)) pgs_nil))) (fun _ _ _ _ _ => pts_nil) (fun _ _ _ _ _ => pv 11)) (by rfl)) pss_never pss_nil)
          (pss_one (ps_if (pt_cmpR op_lt (pe_callB (call_lenK K) (by rfl) G.len PySem.boot_len (pa_cons (pv 6) pa_nil)) pe_int (nomark _))
            (pss_cons (ps_set (i := 7) scLaw.nd rfl (Or.inl rfl) (pe_lst (pa_cons (pe_tup (pa_cons (pe_tup pa_nil) (pa_cons (pe_tup (pa_cons (pe_tup pa_nil) (pa_cons (pe_tup pa_nil) pa_nil))) pa_nil))) pa_nil)))
            (pss_cons (ps_for PassesOwn.never rfl (pi_range1 (by rfl) G.range (pa_cons (pe_callB (call_lenK K) (by rfl) G.len PySem.boot_len (pa_cons (pv 6) pa_nil)) pa_nil)) (pg_name (i := 8) scLaw.nd rfl (Or.inl rfl))
              (pss_cons (ps_set (i := 9) scLaw.nd rfl (Or.inl rfl) (pe_lst pa_nil))
              (pss_cons (ps_for PassesOwn.never rfl (pi_list (pv 7)) (pg_tupK K (n := 2) rfl (pgs_cons (pg_name (i := 10) scLaw.nd rfl (Or.inr rfl)) (pgs_cons (pg_name (i := 11) scLaw.nd rfl (Or.inl rfl)) pgs_nil)))
                (pss_one (ps_set (i := 9) scLaw.nd rfl (Or.inl rfl) (pe_op op_cat (pv 9) (pe_lc (own := [("_law_move", 15), ("_law_goal", 16)]) (tt := tYes) rfl scLaw.nd (pi_list (pe_call gMoves hr1 (by rfl) mMoves kMoves bMoves .nil pass0 (pa_cons (pv 3) (pa_cons (pv 4) (pa_cons (pv 11) pa_nil)))))
                    (blkOk_by (own := [("_law_move", 15), ("_law_goal", 16)]) (N := nLaw) (sc := defScope sLaw) (by decide +kernel))
                    (fun _ _ _ _ _ => pg_tupK K (n := 2) rfl (pgs_cons (pg_name (i := 15) scLaw.nd rfl (Or.inl rfl)) (pgs_cons (pg_name (i := 16) scLaw.nd rfl (Or.inl rfl)) pgs_nil))) (fun _ _ _ _ _ => pts_nil)
                    (fun _ _ _ _ _ => pe_tup (pa_cons (pe_op (op_catAK K) (pv 10) (pe_tup (pa_cons (pv 15) pa_nil))) (pa_cons (pv 16) pa_nil))))))))
              (pss_one (ps_set (i := 7) scLaw.nd rfl (Or.inl rfl) (pv 9))))))
            (pss_cons (ps_set (i := 12) scLaw.nd rfl (Or.inr rfl) (pe_lc (own := [("_law_many", 14), ("_law_state", 11)]) (tt := tYes) rfl scLaw.nd (pi_list (pv 5)) (blkOk_by (own := [("_law_many", 14), ("_law_state", 11)]) (N := nLaw) (sc := defScope sLaw) (by decide +kernel))
                (fun _ _ _ _ _ => pg_tupK K (n := 2) rfl (pgs_cons (pg_name (i := 14) scLaw.nd rfl (Or.inl rfl)) (pgs_cons (pg_name (i := 11) scLaw.nd rfl (Or.inl rfl)) pgs_nil))) (fun _ _ _ _ _ => pts_nil) (fun _ _ _ _ _ => pv 11)))
            (pss_one (ps_if (pt_cmpR (op_neDK K hu) (pe_lc (own := [("_law_row", 10), ("_law_state", 11)]) rfl scLaw.nd (pi_list (pv 7)) (blkOk_by (own := [("_law_row", 10), ("_law_state", 11)]) (N := nLaw) (sc := defScope sLaw) (by decide +kernel))
                (fun _ _ _ _ _ => pg_tupK K (n := 2) rfl (pgs_cons (pg_name (i := 10) scLaw.nd rfl (Or.inl rfl)) (pgs_cons (pg_name (i := 11) scLaw.nd rfl (Or.inl rfl)) pgs_nil)))
                (fun _ _ _ _ _ => pts_one (PW.pt (pw_and (pt_cmpR (op_ltD hu) (pv 10) (pv 6) (nomark _)) (pw_and1 (pt_cmpR (op_inDK K hu5) (pv 11) (pv 12) (by rfl)))))) (fun _ _ _ _ _ => pv 10)) (pe_lst pa_nil) (nomark _)) pss_never pss_nil)))))
            pss_nil)))) pss_nil)
        (pss_cons (ps_set (i := 13) scLaw.nd rfl (Or.inl rfl) (pe_call gFew hr4 (by rfl) mFew kFew bFew .nil pass0 (pa_cons (pv 3) pa_nil)))
        (pss_one (ps_if (PW.pt (pw_or (pt_cmpR (op_neDK K hu) (pe_call gStuck hr3 (by rfl) mStuck kStuck bStuck .nil pass0 (pa_cons (pv 3) (pa_cons (pv 13) pa_nil))) (pe_lst pa_nil) (nomark _))
            (pw_or1 (PW.pt (pw_and (pt_cmpR op_gt (pv 13) pe_int (nomark _)) (pw_and1 (pt_cmpR (op_eqDK K hu) (pe_call gStuck hr3 (by rfl) mStuck kStuck bStuck .nil pass0 (pa_cons (pv 3) (pa_cons (pe_op op_sub (pv 13) pe_int) pa_nil))) (pe_lst pa_nil) (nomark _)))))))) pss_never pss_nil))))))))))
      (pss_one (ps_ret pe_bl))), ?_⟩
    refine ⟨_, rfl, a, ns, 61, rfl, hS, hlen, fun H1 ha la sm1 s1 => ?_⟩
    refine ⟨2, rfl, by decide, by decide, for_range (lo := 0) (n := 2) (fun i σ H' => ∃ y2 y3 y4 y5 y6 y7 y8 y9 y10 y11 y12 y13, σ = sg a ha y2 y3 y4 y5 y6 y7 y8 y9 y10 y11 y12 y13 ∧ Src H' ha la)
      ⟨none, none, none, none, none, none, none, none, none, none, none, none, rfl, s1⟩ ?_ (fun σ H' _ => q H')⟩
    rintro i σ H2 hi ⟨y2, y3, y4, y5, y6, y7, y8, y9, y10, y11, y12, y13, rfl, s2⟩
    refine ⟨_, rfl, _, rfl, small (m := 4) (Nat.le_refl 4), fun ta hta => ?_⟩
    have nt := s2.ne1 hta
    refine ⟨ha, la, ta, [3, 4, 5, 6], rfl, s2.put nt.1 nt.2, upd_same, nt.1, nt.2, by decide, by decide, fun H3 most b3 s3 hm => ?_⟩
    have hm' : 1 ≤ most ∧ most ≤ 6 := by
      simp only [List.mem_cons, List.not_mem_nil, or_false] at hm
      omega
    refine ⟨ha, la, most, rfl, s3, hm'.1, hm'.2, fun H4 pl p b4 s4 pok p6 tp4 => ?_⟩
    refine ⟨_, rfl, ha, la, 4, rfl, s4, by decide, by decide, fun H5 r5 b5 s5 hr5 => ⟨_, _, rfl, rfl, ?_⟩⟩
    have tp5 := tp4.k (s4.kt b5)
    obtain ⟨n, hn, en⟩ : ∃ n : Nat, n = 1 + r5 ∧ V.int ((1 : Int) + (r5 : Int)) = V.int (n : Int) := ⟨1 + r5, rfl, rfl⟩
    have n1 : 1 ≤ n := by omega
    have n8 : n ≤ 8 := by omega
    have few := stuck_few p n pok
    have few8 := pok.few
    -- the two lists
    show tSeq _ _ _ (sg a ha (some (.int ((0 : Int) + (i : Int)))) (some pl) (some (.int ((1 : Int) + (r5 : Int)))) y5 y6 y7 y8 y9 y10 y11 y12 y13) H5
    rw [en]
    generalize some (V.int ((0 : Int) + (i : Int))) = yt
    refine GvN.lstuck (ta := tVar 3) (tn := tVar 4) (σ := sg a ha yt (some pl) (some (.int (n : Int))) y5 y6 y7 y8 y9 y10 y11 y12 y13) (Gv.var rfl tp5) (Gv.var rfl (.int (n : Int))) pok _ _ (Same.refl _) fun sa xs H6 s6 _ ex tx => ?_
    have tp6 := tp5.k (Kt.of s6)
    refine row_reads (ta := tVar 3) (tn := tVar 4) (σ := sg a ha yt (some pl) (some (.int (n : Int))) y5 y6 y7 y8 y9 y10 y11 y12 y13) (Gv.var rfl tp6) (Gv.var rfl (.int (n : Int))) pok n1 n8 fun H7 fv s7 hf => ?_
    refine ⟨small (m := 2) (Nat.le_refl 2), fun tt htt => ?_⟩
    have s8 : Same H7 (upd H7 tt (.tup [.ref sa, fv])) := same_new htt
    refine ⟨tt, _, rfl, SqT.of upd_same, rfl, _, _, rfl, _, _, rfl, rfl, ?_⟩
    have ex8 := s8 _ _ (s7 _ _ ex)
    have tx8 := tx.k (Kt.of (s7.trans s8))
    have tp8 := tp6.k (Kt.of (s7.trans s8))
    have ss8 := s5.same ((s6.trans s7).trans s8)
    have hf8 : RowOf p n (upd H7 tt (.tup [.ref sa, fv])) fv := hf.k s8
    generalize upd H7 tt (.tup [.ref sa, fv]) = H8 at s8 ex8 tx8 tp8 ss8 hf8
    show tSeq _ _ _ (sg a ha yt (some pl) (some (.int (n : Int))) (some (.ref sa)) (some fv) y7 y8 y9 y10 y11 y12 y13) H8
    -- the readings that stand through the turn
    have gplan : ∀ z7 z8 z9 z10 z11 z12 z13, Gv (tVar 3) (sg a ha yt (some pl) (some (.int (n : Int))) (some (.ref sa)) (some fv) z7 z8 z9 z10 z11 z12 z13) H8 (planD p) := fun _ _ _ _ _ _ _ => Gv.var rfl tp8
    have gslots : ∀ z7 z8 z9 z10 z11 z12 z13, Gv (tVar 4) (sg a ha yt (some pl) (some (.int (n : Int))) (some (.ref sa)) (some fv) z7 z8 z9 z10 z11 z12 z13) H8 (.int (n : Int)) := fun _ _ _ _ _ _ _ => Gv.var rfl (.int (n : Int))
    have gsome : ∀ z7 z8 z9 z10 z11 z12 z13, GvL (tVar 5) (sg a ha yt (some pl) (some (.int (n : Int))) (some (.ref sa)) (some fv) z7 z8 z9 z10 z11 z12 z13) H8 ((stuck (needs p) n).map ksOf) := fun _ _ _ _ _ _ _ => GvL.var rfl ex8 tx8
    have gnil : ∀ z7 z8 z9 z10 z11 z12 z13, Gv (tOp (rEqD K) (tVar 5) (tLst tNil)) (sg a ha yt (some pl) (some (.int (n : Int))) (some (.ref sa)) (some fv) z7 z8 z9 z10 z11 z12 z13) H8 (.bool (stuck (needs p) n).isEmpty) := fun z7 z8 z9 z10 z11 z12 z13 => by
      have := Gv.isNil (K := K) (gsome z7 z8 z9 z10 z11 z12 z13) (shp_map (fun c : Ent => shp_ks (c.2.length, c.1)) _) (by decide)
      rw [List.isEmpty_map] at this
      exact this
    have glen : ∀ z7 z8 z9 z10 z11 z12 z13, Gv (tCB (rLenS K) (tCons (tVar 5) tNil)) (sg a ha yt (some pl) (some (.int (n : Int))) (some (.ref sa)) (some fv) z7 z8 z9 z10 z11 z12 z13) H8 (.int ((stuck (needs p) n).length : Int)) := fun z7 z8 z9 z10 z11 z12 z13 => by
      have := Gv.lenL (K := K) (gsome z7 z8 z9 z10 z11 z12 z13)
      rw [List.length_map] at this
      exact this
    have hnon : decide (fv = V.non) = (stuck (needs p) n).isEmpty := by
      rcases hf8 with ⟨e0, ev⟩ | ⟨c, hc, _, tv⟩
      · rw [e0, ev]
        rfl
      · obtain ⟨x, xs2, rfl, _⟩ := Td.tup_inv (show Td H8 fv (.tuple (c.2.map mvD)) from tv)
        rw [decide_eq_false (fun h => by cases h)]
        cases hst : stuck (needs p) n with
        | nil => rw [hst] at hc; cases hc
        | cons _ _ => rfl
    have ga1 : GvN (tLst (tCons (tCall spNever [] E0 (tCons (tVar 3) (tCons (tVar 4) tNil))) (tCons (tCall spMany [] E0 (tCons (tVar 3) (tCons (tVar 4) tNil))) tNil))) (sg a ha yt (some pl) (some (.int (n : Int))) (some (.ref sa)) (some fv) y7 y8 y9 y10 y11 y12 y13) H8 [.bool (stuck (needs p) n).isEmpty, .int ((stuck (needs p) n).length : Int)] :=
      GvN.lst (GvA.cons (Gv.never (gplan y7 y8 y9 y10 y11 y12 y13) (gslots y7 y8 y9 y10 y11 y12 y13) pok n1 n8) (GvA.cons (Gv.many (gplan y7 y8 y9 y10 y11 y12 y13) (gslots y7 y8 y9 y10 y11 y12 y13) pok n1 n8) GvA.nil)) (by simp)
    have ga2 : GvN (tLst (tCons (tOp (rEqD K) (tVar 5) (tLst tNil)) (tCons (tCB (rLenS K) (tCons (tVar 5) tNil)) tNil))) (sg a ha yt (some pl) (some (.int (n : Int))) (some (.ref sa)) (some fv) y7 y8 y9 y10 y11 y12 y13) H8 [.bool (stuck (needs p) n).isEmpty, .int ((stuck (needs p) n).length : Int)] :=
      GvN.lst (GvA.cons (gnil y7 y8 y9 y10 y11 y12 y13) (GvA.cons (glen y7 y8 y9 y10 y11 y12 y13) GvA.nil)) (by simp)
    have ga : GvT (tNot (tB (tCall spAlike [] E0 (tCons (tLst (tCons (tCall spNever [] E0 (tCons (tVar 3) (tCons (tVar 4) tNil))) (tCons (tCall spMany [] E0 (tCons (tVar 3) (tCons (tVar 4) tNil))) tNil))) (tCons (tLst (tCons (tOp (rEqD K) (tVar 5) (tLst tNil)) (tCons (tCB (rLenS K) (tCons (tVar 5) tNil)) tNil))) tNil))))) (sg a ha yt (some pl) (some (.int (n : Int))) (some (.ref sa)) (some fv) y7 y8 y9 y10 y11 y12 y13) H8 false :=
      GvT.not (GvT.val (Gv.alike ga1 ga2))
    refine if_never ga (Same.refl _) fun H9 s9 => ?_
    have gb : GvT (tTest (tOp rNe (tOp (fun x y H Q => y = .non ∧ Q (.bl (decide (x = .non))) H) (tVar 6) (tC .non)) (tOp (rEqD K) (tVar 5) (tLst tNil)))) (sg a ha yt (some pl) (some (.int (n : Int))) (some (.ref sa)) (some fv) y7 y8 y9 y10 y11 y12 y13) H8 false :=
      GvT.test (Gv.neB (Gv.isN (i := 6) rfl hnon) (gnil y7 y8 y9 y10 y11 y12 y13))
    refine if_never gb s9 fun H10 s10 => ?_
    have k10 := s9.trans s10
    have gc : GvT (tTest (tOp (fun x y H Q => y = .non ∧ Q (.bl (!decide (x = .non))) H) (tVar 6) (tC .non))) (sg a ha yt (some pl) (some (.int (n : Int))) (some (.ref sa)) (some fv) y7 y8 y9 y10 y11 y12 y13) H8 (!(stuck (needs p) n).isEmpty) :=
      GvT.test (Gv.notN (i := 6) rfl hnon)
    have fin : ∀ (H' : Hp) (z7 z8 z9 z10 z11 z12 z13 : Option V), Same H8 H' → ∃ y2 y3 y4 y5 y6 y7 y8 y9 y10 y11 y12 y13, sg a ha yt (some pl) (some (.int (n : Int))) (some (.ref sa)) (some fv) z7 z8 z9 z10 z11 z12 z13 = sg a ha y2 y3 y4 y5 y6 y7 y8 y9 y10 y11 y12 y13 ∧ Src H' ha la := fun H' z7 z8 z9 z10 z11 z12 z13 s => ⟨_, _, _, _, _, _, _, _, _, _, _, _, rfl, ss8.same s⟩
    rcases hf8 with ⟨e0, ev⟩ | ⟨c, hc, hle, tv⟩
    · rw [show (stuck (needs p) n).isEmpty = true by rw [e0]; rfl] at gc
      exact if_no gc k10 fun H11 s11 => tail_reads (K := K) (tp8.k (Kt.of (k10.trans s11))) pok fun H' k s => fin H' _ _ _ _ _ _ _ ((k10.trans s11).trans s)
    rw [show (stuck (needs p) n).isEmpty = false by
      cases hst : stuck (needs p) n with
      | nil => rw [hst] at hc; cases hc
      | cons _ _ => rfl] at gc
    refine if_yes gc k10 fun H11 s11 => ?_
    have k11 := k10.trans s11
    obtain ⟨kc, eok, _⟩ := all_ok (List.mem_filter.mp hc).1
    have gfound : ∀ z7 z8 z9 z10 z11 z12 z13, Gv (tVar 6) (sg a ha yt (some pl) (some (.int (n : Int))) (some (.ref sa)) (some fv) z7 z8 z9 z10 z11 z12 z13) H8 (rowD c.2) := fun _ _ _ _ _ _ _ => Gv.var rfl tv
    have glenF : ∀ z7 z8 z9 z10 z11 z12 z13, Gv (tCB (rLenS K) (tCons (tVar 6) tNil)) (sg a ha yt (some pl) (some (.int (n : Int))) (some (.ref sa)) (some fv) z7 z8 z9 z10 z11 z12 z13) H8 (.int (c.2.length : Int)) := fun z7 z8 z9 z10 z11 z12 z13 => by
      have := Gv.lenT (K := K) (ds := c.2.map mvD) (gfound z7 z8 z9 z10 z11 z12 z13)
      rw [List.length_map] at this
      exact this
    have g1 : GvT (tOr (tNot (tB (tCB (rIsi K) (tCons (tVar 6) (tCons (tC (.ty "tuple")) tNil))))) (tTest (tOp rNe (tCB (rLenS K) (tCons (tVar 6) tNil)) (tOp (rIxT K) (tCB (rMinD K) (tCons (tVar 5) tNil)) (tC (.int 0))))))
        (sg a ha yt (some pl) (some (.int (n : Int))) (some (.ref sa)) (some fv) y7 y8 y9 y10 y11 y12 y13) H8 false := by
      have := GvT.or (GvT.not (GvT.val (Gv.isTup (K := K) (i := 6) (σ := sg a ha yt (some pl) (some (.int (n : Int))) (some (.ref sa)) (some fv) y7 y8 y9 y10 y11 y12 y13) rfl tv))) (fun _ => GvT.test (Gv.neI (glenF y7 y8 y9 y10 y11 y12 y13) (Gv.least (K := K) (gsome y7 y8 y9 y10 y11 y12 y13) hc fun e he => (hle e he).1)))
      rw [decide_eq_true rfl] at this
      exact this
    refine if_never g1 k11 fun H12 s12 => ?_
    have k12 := k11.trans s12
    have g2 : GvT (tTest (tOp (rNotInD K) (tCall spWalked [] E0 (tCons (tVar 3) (tCons (tVar 4) (tCons (tVar 6) tNil)))) (tLc (iList K (tVar 5)) (gTup K 2 (gCons (gName 14) (gCons (gName 11) gNil))) tYes (tVar 11) [14, 11])))
        (sg a ha yt (some pl) (some (.int (n : Int))) (some (.ref sa)) (some fv) y7 y8 y9 y10 y11 y12 y13) H8 false :=
      GvT.test (Gv.notInD (K := K) (m := 2) (r := true) (Gv.walked (gplan y7 y8 y9 y10 y11 y12 y13) (gslots y7 y8 y9 y10 y11 y12 y13) (gfound y7 y8 y9 y10 y11 y12 y13) pok eok.walk)
        (GvN.ends (K := K) (i := 14) (j := 11) (by decide) (by show 11 < 17; decide) (gsome y7 y8 y9 y10 y11 y12 y13) (by omega)).l (shp_st _) (shp_map (fun c : Ent => shp_st c.1) _) (by decide) (by rw [any_st]; exact decide_eq_true ⟨c, hc, rfl⟩))
    refine if_never g2 k12 fun H13 s13 => ?_
    have k13 := k12.trans s13
    have g3 : GvT (tTest (tOp (rI0 fun i j => .bl (decide (i < j))) (tCB (rLenS K) (tCons (tVar 6) tNil)) (tC (.int 4)))) (sg a ha yt (some pl) (some (.int (n : Int))) (some (.ref sa)) (some fv) y7 y8 y9 y10 y11 y12 y13) H8 (decide ((c.2.length : Int) < 4)) := GvT.test (Gv.lt (glenF y7 y8 y9 y10 y11 y12 y13) (Gv.int 4))
    cases h4 : decide ((c.2.length : Int) < 4) with
    | false =>
      rw [h4] at g3
      exact if_no1 g3 k13 fun H14 s14 => tail_reads (K := K) (tp8.k (Kt.of (k13.trans s14))) pok fun H' k s => fin H' _ _ _ _ _ _ _ ((k13.trans s14).trans s)
    | true =>
      rw [h4] at g3
      refine if_yes1 g3 k13 fun H14 s14 => ?_
      have k14 := k13.trans s14
      have hk4 : c.2.length < 4 := by
        have := of_decide_eq_true h4
        omega
      have tp14 := tp8.k (Kt.of k14)
      have tv14 := tv.k (Kt.of k14)
      -- the rows at first
      have gr : GvN (tLst (tCons (tTup (tCons (tTup tNil) (tCons (tTup (tCons (tTup tNil) (tCons (tTup tNil) tNil))) tNil))) tNil)) (sg a ha yt (some pl) (some (.int (n : Int))) (some (.ref sa)) (some fv) y7 y8 y9 y10 y11 y12 y13) H14 ([([], ([], []))].map rsD) :=
        GvN.lst (GvA.cons (Gv.tup (GvA.cons (Gv.tup GvA.nil) (GvA.cons (Gv.tup (GvA.cons (Gv.tup GvA.nil) (GvA.cons (Gv.tup GvA.nil) GvA.nil))) GvA.nil))) GvA.nil) (by simp)
      show tSeq (tAsg _ (gName 7)) _ _ _ H14
      refine GvN.setS gr fun ra rs0 H15 s15 _ er0 tr0 => ?_
      show tSeq (tFor _ _ _) _ _ (sg a ha yt (some pl) (some (.int (n : Int))) (some (.ref sa)) (some fv) (some (.ref ra)) y8 y9 y10 y11 y12 y13) H15
      have k15 := k14.trans s15
      refine (glenF (some (.ref ra)) y8 y9 y10 y11 y12 y13) _ _ k15 fun lv H16 s16 tlv => ⟨_, congrArg (fun z => [z]) tlv.int_inv, by omega, by omega, ?_⟩
      rw [Int.toNat_natCast]
      refine for_range (lo := 0) (n := c.2.length) (fun k σ H' => ∃ z8 z9 z10 z11 ra rs R, σ = (sg a ha yt (some pl) (some (.int (n : Int))) (some (.ref sa)) (some fv) (some (V.ref ra)) z8 z9 z10 z11 y12 y13) ∧ Same H14 H' ∧ H' ra = some (.lst rs) ∧ TdAll H' rs (R.map rsD) ∧ R.length ≤ 16 ^ k ∧ ∀ q ∈ R, q.1.length = k ∧ walk (needs p) n ([], []) q.1 = some q.2)
        ⟨y8, y9, y10, y11, ra, rs0, [([], ([], []))], rfl, s15.trans s16, s16 _ _ er0, tr0.k (Kt.of s16), Nat.le_refl 1, fun q hq => by rw [List.mem_singleton.mp hq]; exact ⟨rfl, rfl⟩⟩ ?_ ?_
      · rintro k σ H17 hk ⟨z8, z9, z10, z11, ra, rs, R, rfl, s17, er, tr, hR, hw⟩
        have lenR : rs.length = R.length := by rw [tr.length, List.length_map]
        have h256 : 16 ^ k ≤ 16 ^ 2 := Nat.pow_le_pow_right (by decide) (by omega)
        have h256' : (16 : Nat) ^ 2 = 256 := by decide
        refine ⟨Nat.zero_le _, fun lo0 hlo0 => ?_⟩
        have s18 : Same H17 (upd H17 lo0 (.lst [])) := same_new hlo0
        refine ⟨_, rfl, ra, rfl, ⟨_, SqL.of (s18 _ _ er)⟩, for_it (walk_list (K := K) (a := ra) (xs := rs)) (fun j σ H' => ∃ z10 z11 lo ls L, σ = (sg a ha yt (some pl) (some (.int (n : Int))) (some (.ref sa)) (some fv) (some (V.ref ra)) (some (V.int ((0 : Int) + (k : Int)))) (some (V.ref lo)) z10 z11 y12 y13) ∧ Same H17 H' ∧ H' lo = some (.lst ls) ∧ TdAll H' ls (L.map rsD) ∧ L.length ≤ 16 * j ∧ ∀ q ∈ L, q.1.length = k + 1 ∧ walk (needs p) n ([], []) q.1 = some q.2)
          ⟨z10, z11, lo0, [], [], rfl, s18, upd_same, .nil, Nat.le_refl _, fun q hq => by cases hq⟩ (fun j σ H' _ ⟨_, _, _, _, _, _, sm, _⟩ => SqL.of (sm _ _ er)) ?_ ?_⟩
        · rintro j x σ H18 H19 hj ⟨z10, z11, lo, ls, L, rfl, sm, els, tls, hL, hLw⟩ ⟨rfl, hx⟩
          obtain ⟨q0, hq0, tq0⟩ := tr.at hx
          have tq := tq0.k (Kt.of sm)
          obtain ⟨c1, vs1, rfl, ec1, tc1⟩ := Td.tup_inv (show Td H19 x (.tuple [rowD q0.1, stD q0.2]) from tq)
          obtain ⟨v1, v2, rfl, tv1, tv2⟩ := tc1.two
          obtain ⟨hq1, hq2⟩ := hw q0 (List.mem_of_getElem? hq0)
          have okq : Ok p.length q0.2 := by
            have := (walk_ok (ok0 _) hq2).1
            rw [needs_length] at this
            exact this
          have lenM : (moves (needs p) n q0.2).length ≤ 16 := by
            have := moves_length (needs p) n (s := q0.2) (by rw [needs_length]; exact okq)
            rw [needs_length] at this
            omega
          refine ⟨c1, _, rfl, SqT.of ec1, rfl, _, _, rfl, _, _, rfl, rfl, ?_⟩
          have k19 : Same H8 H19 := (k14.trans s17).trans sm
          have gl : GvN (tLc (iList K (tCall spMoves [] E0 (tCons (tVar 3) (tCons (tVar 4) (tCons (tVar 11) tNil))))) (gTup K 2 (gCons (gName 15) (gCons (gName 16) gNil))) tYes (tTup (tCons (tOp (rCatA K) (tVar 10) (tTup (tCons (tVar 15) tNil))) (tCons (tVar 16) tNil))) [15, 16])
              (sg a ha yt (some pl) (some (.int (n : Int))) (some (.ref sa)) (some fv) (some (V.ref ra)) (some (V.int ((0 : Int) + (k : Int)))) (some (V.ref lo)) (some v1) (some v2) y12 y13) H19 ((moves (needs p) n q0.2).map fun m => rsD (q0.1 ++ [m.1], m.2)) := by
            have := GvN.compL2 (K := K) (tl := tCall spMoves [] E0 (tCons (tVar 3) (tCons (tVar 4) (tCons (tVar 11) tNil)))) (tt := tYes) (te := tTup (tCons (tOp (rCatA K) (tVar 10) (tTup (tCons (tVar 15) tNil))) (tCons (tVar 16) tNil)))
              (σ := (sg a ha yt (some pl) (some (.int (n : Int))) (some (.ref sa)) (some fv) (some (V.ref ra)) (some (V.int ((0 : Int) + (k : Int)))) (some (V.ref lo)) (some v1) (some v2) y12 y13)) (H := H19)
              (moves (needs p) n q0.2) (fun m => mvD m.1) (fun m => stD m.2) (fun m => rsD (q0.1 ++ [m.1], m.2)) (fun _ => true) 15 16 (by decide)
              (GvN.moves (ta := tVar 3) (tn := tVar 4) (tb := tVar 11) (p := p) (n := n) ((gplan _ _ _ _ _ _ _).st k19) ((gslots _ _ _ _ _ _ _).st k19) (Gv.var rfl tv2) pok okq).l (fun m _ v u H20 _ _ _ => GvT.yes)
              (fun m hm _ v u H20 s20 tv tu => ?_) (by omega)
            · rw [filter_yes] at this
              exact this
            · have g10 := Gv.cat (K := K) (ta := tVar 10) (tb := tTup (tCons (tVar 15) tNil)) (σ := ((wipe (sg a ha yt (some pl) (some (.int (n : Int))) (some (.ref sa)) (some fv) (some (V.ref ra)) (some (V.int ((0 : Int) + (k : Int)))) (some (V.ref lo)) (some v1) (some v2) y12 y13) [15, 16]).set 15 (some v)).set 16 (some u)) (H := H20) (ds := q0.1.map mvD) (es := [mvD m.1])
                (Gv.var rfl (tv1.k (Kt.of s20))) (Gv.tup (GvA.cons (Gv.var rfl tv) GvA.nil)) (by rw [List.length_map, List.length_singleton]; omega)
              have e10 : q0.1.map mvD ++ [mvD m.1] = (q0.1 ++ [m.1]).map mvD := by rw [List.map_append]; rfl
              rw [e10] at g10
              exact Gv.tup (GvA.cons g10 (GvA.cons (Gv.var rfl tu) GvA.nil))
          refine ⟨_, rfl, ?_⟩
          refine gl _ _ (Same.refl _) fun D2 ys H20 s20 _ hys tys => ?_
          have lenY : ys.length = (moves (needs p) n q0.2).length := by rw [tys.length, List.length_map]
          have lenL : ls.length = L.length := by rw [tls.length, List.length_map]
          refine ⟨lo, D2, ls, ys, rfl, rfl, s20 _ _ els, hys, small (m := 16384) (by omega), fun pp hpp => ?_⟩
          have s21 : Same H20 (upd H20 pp (.lst (ls ++ ys))) := same_new hpp
          refine ⟨_, _, pp, ls ++ ys, L ++ (moves (needs p) n q0.2).map (fun m => (q0.1 ++ [m.1], m.2)), rfl, (sm.trans s20).trans s21, upd_same, ?_, ?_, ?_⟩
          · rw [List.map_append, List.map_map]
            exact (tls.k (Kt.of (s20.trans s21))).app (tys.k (Kt.of s21))
          · rw [List.length_append, List.length_map]
            omega
          · intro q hq
            rcases List.mem_append.mp hq with h | h
            · exact hLw q h
            · obtain ⟨m, hm, rfl⟩ := List.mem_map.mp h
              refine ⟨by rw [List.length_append, List.length_singleton, hq1], ?_⟩
              show walk (needs p) n ([], []) (q0.1 ++ [m.1]) = some m.2
              rw [walk_app, hq2]
              show (step (needs p) n q0.2 m.1).bind _ = _
              rw [step_of (t := m.2) (by rw [needs_length]; exact okq) hm]
              rfl
        · rintro σ H18 ⟨z10, z11, lo, ls, L, rfl, sm, els, tls, hL, hLw⟩
          refine ⟨_, rfl, _, _, _, _, lo, ls, L, rfl, s17.trans sm, els, tls, ?_, hLw⟩
          rw [Nat.pow_succ]
          omega
      · rintro σ H17 ⟨z8, z9, z10, z11, ra, rs, R, rfl, s17, er, tr, hR, hw⟩
        have k17 := k14.trans s17
        have ge : GvN (tLc (iList K (tVar 5)) (gTup K 2 (gCons (gName 14) (gCons (gName 11) gNil))) tYes (tVar 11) [14, 11]) (sg a ha yt (some pl) (some (.int (n : Int))) (some (.ref sa)) (some fv) (some (V.ref ra)) z8 z9 z10 z11 y12 y13) H17 ((stuck (needs p) n).map fun c => stD c.1) :=
          (GvN.ends (K := K) (i := 14) (j := 11) (by decide) (by show 11 < 17; decide) (gsome _ _ _ _ _ _ _) (by omega)).st k17
        dsimp only
        show tSeq (tAsg _ (gName 12)) _ _ (sg a ha yt (some pl) (some (.int (n : Int))) (some (.ref sa)) (some fv) (some (V.ref ra)) z8 z9 z10 z11 y12 y13) H17
        refine GvN.setS ge fun ea es H18 s18 _ ee te => ?_
        have k18 := k17.trans s18
        have hempty : R.filter (fun q => rlt q.1 c.2 && decide (∃ e ∈ stuck (needs p) n, e.1 = q.2)) = [] := by
          rw [List.filter_eq_nil_iff]
          intro q0 hq0 h
          rw [Bool.and_eq_true, decide_eq_true_eq] at h
          obtain ⟨h1, e, he, h2⟩ := h
          obtain ⟨hl, hq⟩ := hw q0 hq0
          have hst : stuckp (needs p) n q0.2 = true := by
            rw [← h2]
            exact (List.mem_filter.mp he).2
          obtain ⟨c2, hc2, e1, e2, e3⟩ := stuck_least hq hst
          have le := (hle c2 hc2).2 (by omega)
          rcases e3 with e3 | e3
          · rw [e3, h1] at le
            cases le
          · rw [rlt_trans e3 h1] at le
            cases le
        have gR : GvL (tVar 7) (sg a ha yt (some pl) (some (.int (n : Int))) (some (.ref sa)) (some fv) (some (V.ref ra)) z8 z9 z10 z11 (some (V.ref ea)) y13) H18 (R.map fun q => .tuple [rowD q.1, stD q.2]) := GvL.var rfl (s18 _ _ er) (tr.k (Kt.of s18))
        have h4096 : 16 ^ c.2.length ≤ 16 ^ 3 := Nat.pow_le_pow_right (by decide) (by omega)
        have h4096' : (16 : Nat) ^ 3 = 4096 := by decide
        have gl : GvN (tLc (iList K (tVar 7)) (gTup K 2 (gCons (gName 10) (gCons (gName 11) gNil))) (tAnd (tTest (tOp rLtD (tVar 10) (tVar 6))) (tTest (tOp (rInD K) (tVar 11) (tVar 12)))) (tVar 10) [10, 11])
            (sg a ha yt (some pl) (some (.int (n : Int))) (some (.ref sa)) (some fv) (some (V.ref ra)) z8 z9 z10 z11 (some (V.ref ea)) y13) H18 [] := by
          have := GvN.compL2 (K := K) (tl := tVar 7) (tt := tAnd (tTest (tOp rLtD (tVar 10) (tVar 6))) (tTest (tOp (rInD K) (tVar 11) (tVar 12)))) (te := tVar 10) (σ := (sg a ha yt (some pl) (some (.int (n : Int))) (some (.ref sa)) (some fv) (some (V.ref ra)) z8 z9 z10 z11 (some (V.ref ea)) y13)) (H := H18)
            R (fun q => rowD q.1) (fun q => stD q.2) (fun q => rowD q.1) (fun q => rlt q.1 c.2 && decide (∃ e ∈ stuck (needs p) n, e.1 = q.2)) 10 11 (by decide) gR (fun q hq v u H19 s19 tv1 tv2 => ?_) (fun q hq _ v u H19 s19 tv1 tv2 => Gv.var rfl tv1) (by omega)
          · rw [hempty] at this
            exact this
          · exact GvT.and (GvT.test (Gv.ltRow (Gv.var rfl tv1) (Gv.var rfl (tv.k (Kt.of (k18.trans s19)))))) (fun _ => GvT.test (Gv.inD (K := K) (m := 2) (Gv.var rfl tv2) (GvL.var rfl (s19 _ _ ee) (te.k (Kt.of s19))) (shp_st _) (shp_map (fun c : Ent => shp_st c.1) _) (by decide) (any_st _ _)))
        have g4 := GvT.test (Gv.notNil (K := K) (n := 0) gl.l (fun d hd => by cases hd) (by decide))
        exact if_never1 g4 (Same.refl _) fun H19 s19 => tail_reads (K := K) (tp8.k (Kt.of (k18.trans s19))) pok fun H' k s => fin H' _ _ _ _ _ _ _ ((k18.trans s19).trans s)
end
end K61

/-! What the module has written, gathered; the end. -/
namespace K61
open PySem PySem.Spec PyProof.Rows L2
/-- a def that the written part holds under its name -/
def FnIn (K : PySem.W.Frag) (x : Str) (st : Stmt) : Prop := ∃ (f : Addr) (fd : FuncData), Fun K x x st f fd ∧ PySem.W.nsIn K mainGlobals x = some (some (.ref f))
theorem fn_in {K : PySem.W.Frag} {x : Str} {st : Stmt} {f : Addr} {oc : Value} {od an : Option Addr} {sl : Array (Option Value)} {kV dc pm cd ct : Value} (a : PySem.W.nsIn K mainGlobals x = some (some (.ref f)))
    (l : K.lookup f = some ⟨oc, od, .func (PySem.W.fnOf x x (defArgs st) (defBody st) (defScope st) .none kV dc pm an cd ct), sl⟩) (c : PySem.W.codeIn K cd x = true) (k : PySem.W.keepIn K (.ref f) = true) : FnIn K x st := ⟨f, _, fun_mk l c k, a⟩
theorem all_mk {l : PySem.W.OpenLaw} {w : World} {K : PySem.W.Frag} {h : Heap} {mg : Str → Option Value} {fa : Addr} (X : K.In h) (G : h.Ns mainGlobals mg) (hfa : mg "law" = some (.ref fa))
    (hCount : FnIn K "is_count" sCount) (hRise : FnIn K "plan_is_rising" sRise) (hNeed : FnIn K "need_plan" sNeed) (hNSlots : FnIn K "need_slots" sNSlots) (hMoves : FnIn K "slot_moves" sMoves) (hDone : FnIn K "slot_is_done" sDone) (hAll : FnIn K "slot_all" sAll) (hStuck : FnIn K "slot_stuck" sStuck) (hAsked : FnIn K "need_slots_asked" sAsked) (hRow : FnIn K "stuck_row" sRow) (hNever : FnIn K "never_stuck" sNever) (hMany : FnIn K "count_stuck" sMany) (hFew : FnIn K "fewest_slots" sFew) (hMix : FnIn K "_law_mix" sMix) (hNext : FnIn K "_law_next" sNext) (hAlike : FnIn K "_law_alike" sAlike) (hPick : FnIn K "_law_pick" sPick) (hPlan : FnIn K "_law_plan" sPlan) (hLMoves : FnIn K "_law_slot_moves" sLMoves) (hLAll : FnIn K "_law_slot_all" sLAll) (hLStuck : FnIn K "_law_stuck" sLStuck) (hWalked : FnIn K "_law_walked" sWalked) (hLaw : FnIn K "law" sLaw)
    (z0 : PySem.W.nsIn K mainGlobals "isinstance" = some none) (z1 : PySem.W.nsIn K mainGlobals "int" = some none) (z2 : PySem.W.nsIn K mainGlobals "bool" = some none) (z3 : PySem.W.nsIn K mainGlobals "str" = some none) (z4 : PySem.W.nsIn K mainGlobals "tuple" = some none) (z5 : PySem.W.nsIn K mainGlobals "list" = some none) (z6 : PySem.W.nsIn K mainGlobals "all" = some none) (z7 : PySem.W.nsIn K mainGlobals "range" = some none) (z8 : PySem.W.nsIn K mainGlobals "len" = some none) (z9 : PySem.W.nsIn K mainGlobals "enumerate" = some none) (z10 : PySem.W.nsIn K mainGlobals "sorted" = some none) (z11 : PySem.W.nsIn K mainGlobals "min" = some none) (z12 : PySem.W.nsIn K mainGlobals "max" = some none)
    {t0 : _} (c0 : PySem.W.nsIn K mainGlobals "PLAN_MOST_JOBS" = some (some (.int 8 t0))) {t1 : _} (c1 : PySem.W.nsIn K mainGlobals "PLAN_MOST_LENGTH" = some (some (.int 99 t1))) {t2 : _} (c2 : PySem.W.nsIn K mainGlobals "PLAN_MOST_JOB_ROOM" = some (some (.int 9 t2))) {t3 : _} (c3 : PySem.W.nsIn K mainGlobals "PLAN_JOB" = some (some (.int 3 t3))) {t4 : _} (c4 : PySem.W.nsIn K mainGlobals "SLOT_MOST" = some (some (.int 8 t4))) {t5 : _} (c5 : PySem.W.nsIn K mainGlobals "SLOT_START" = some (some (.str "start" t5))) {t6 : _} (c6 : PySem.W.nsIn K mainGlobals "SLOT_END" = some (some (.str "end" t6))) :
    ∃ fd : FuncData, (∀ (s : Shared) (v : Value), BindsTo s fd ⟨[v], []⟩ [("_law_script", v)]) ∧ ∀ base : Heap, K.In base → base.Ns mainGlobals mg → FnOk l.prog w K mg base CX0 6 fa fd ["_law_script"] (spLaw K) := by
  obtain ⟨fCount, dCount, FCount, aCount⟩ := hCount
  have mCount := PySem.W.mg_of X G aCount
  have bCount := FCount.binds (ps := ["thing", "low", "high"]) fun _ _ _ _ _ _ us hl => match us, hl with | [_, _, _], _ => rfl
  obtain ⟨fRise, dRise, FRise, aRise⟩ := hRise
  have mRise := PySem.W.mg_of X G aRise
  have bRise := FRise.binds (ps := ["thing", "many"]) fun _ _ _ _ _ _ us hl => match us, hl with | [_, _], _ => rfl
  obtain ⟨fNeed, dNeed, FNeed, aNeed⟩ := hNeed
  have mNeed := PySem.W.mg_of X G aNeed
  have bNeed := FNeed.binds (ps := ["thing"]) fun _ _ _ _ _ _ us hl => match us, hl with | [_], _ => rfl
  obtain ⟨fNSlots, dNSlots, FNSlots, aNSlots⟩ := hNSlots
  have mNSlots := PySem.W.mg_of X G aNSlots
  have bNSlots := FNSlots.binds (ps := ["thing"]) fun _ _ _ _ _ _ us hl => match us, hl with | [_], _ => rfl
  obtain ⟨fMoves, dMoves, FMoves, aMoves⟩ := hMoves
  have mMoves := PySem.W.mg_of X G aMoves
  have bMoves := FMoves.binds (ps := ["plan", "slots", "state"]) fun _ _ _ _ _ _ us hl => match us, hl with | [_, _, _], _ => rfl
  obtain ⟨fDone, dDone, FDone, aDone⟩ := hDone
  have mDone := PySem.W.mg_of X G aDone
  have bDone := FDone.binds (ps := ["plan", "state"]) fun _ _ _ _ _ _ us hl => match us, hl with | [_, _], _ => rfl
  obtain ⟨fAll, dAll, FAll, aAll⟩ := hAll
  have mAll := PySem.W.mg_of X G aAll
  have bAll := FAll.binds (ps := ["plan", "slots"]) fun _ _ _ _ _ _ us hl => match us, hl with | [_, _], _ => rfl
  obtain ⟨fStuck, dStuck, FStuck, aStuck⟩ := hStuck
  have mStuck := PySem.W.mg_of X G aStuck
  have bStuck := FStuck.binds (ps := ["plan", "slots"]) fun _ _ _ _ _ _ us hl => match us, hl with | [_, _], _ => rfl
  obtain ⟨fAsked, dAsked, FAsked, aAsked⟩ := hAsked
  have mAsked := PySem.W.mg_of X G aAsked
  have bAsked := FAsked.binds (ps := ["plan", "slots"]) fun _ _ _ _ _ _ us hl => match us, hl with | [_, _], _ => rfl
  obtain ⟨fRow, dRow, FRow, aRow⟩ := hRow
  have mRow := PySem.W.mg_of X G aRow
  have bRow := FRow.binds (ps := ["plan", "slots"]) fun _ _ _ _ _ _ us hl => match us, hl with | [_, _], _ => rfl
  obtain ⟨fNever, dNever, FNever, aNever⟩ := hNever
  have mNever := PySem.W.mg_of X G aNever
  have bNever := FNever.binds (ps := ["plan", "slots"]) fun _ _ _ _ _ _ us hl => match us, hl with | [_, _], _ => rfl
  obtain ⟨fMany, dMany, FMany, aMany⟩ := hMany
  have mMany := PySem.W.mg_of X G aMany
  have bMany := FMany.binds (ps := ["plan", "slots"]) fun _ _ _ _ _ _ us hl => match us, hl with | [_, _], _ => rfl
  obtain ⟨fFew, dFew, FFew, aFew⟩ := hFew
  have mFew := PySem.W.mg_of X G aFew
  have bFew := FFew.binds (ps := ["plan"]) fun _ _ _ _ _ _ us hl => match us, hl with | [_], _ => rfl
  obtain ⟨fMix, dMix, FMix, aMix⟩ := hMix
  have mMix := PySem.W.mg_of X G aMix
  have bMix := FMix.binds (ps := ["_law_script", "_law_seed"]) fun _ _ _ _ _ _ us hl => match us, hl with | [_, _], _ => rfl
  obtain ⟨fNext, dNext, FNext, aNext⟩ := hNext
  have mNext := PySem.W.mg_of X G aNext
  have bNext := FNext.binds (ps := ["_law_h", "_law_cap"]) fun _ _ _ _ _ _ us hl => match us, hl with | [_, _], _ => rfl
  obtain ⟨fAlike, dAlike, FAlike, aAlike⟩ := hAlike
  have mAlike := PySem.W.mg_of X G aAlike
  have bAlike := FAlike.binds (ps := ["_law_found", "_law_due"]) fun _ _ _ _ _ _ us hl => match us, hl with | [_, _], _ => rfl
  obtain ⟨fPick, dPick, FPick, aPick⟩ := hPick
  have mPick := PySem.W.mg_of X G aPick
  have bPick := FPick.binds (ps := ["_law_h", "_law_things"]) fun _ _ _ _ _ _ us hl => match us, hl with | [_, _], _ => rfl
  obtain ⟨fPlan, dPlan, FPlan, aPlan⟩ := hPlan
  have mPlan := PySem.W.mg_of X G aPlan
  have bPlan := FPlan.binds (ps := ["_law_h", "_law_most"]) fun _ _ _ _ _ _ us hl => match us, hl with | [_, _], _ => rfl
  obtain ⟨fLMoves, dLMoves, FLMoves, aLMoves⟩ := hLMoves
  have mLMoves := PySem.W.mg_of X G aLMoves
  have bLMoves := FLMoves.binds (ps := ["_law_plan_here", "_law_slots", "_law_state"]) fun _ _ _ _ _ _ us hl => match us, hl with | [_, _, _], _ => rfl
  obtain ⟨fLAll, dLAll, FLAll, aLAll⟩ := hLAll
  have mLAll := PySem.W.mg_of X G aLAll
  have bLAll := FLAll.binds (ps := ["_law_plan_here", "_law_slots", "_law_begin"]) fun _ _ _ _ _ _ us hl => match us, hl with | [_, _, _], _ => rfl
  obtain ⟨fLStuck, dLStuck, FLStuck, aLStuck⟩ := hLStuck
  have mLStuck := PySem.W.mg_of X G aLStuck
  have bLStuck := FLStuck.binds (ps := ["_law_plan_here", "_law_slots"]) fun _ _ _ _ _ _ us hl => match us, hl with | [_, _], _ => rfl
  obtain ⟨fWalked, dWalked, FWalked, aWalked⟩ := hWalked
  have mWalked := PySem.W.mg_of X G aWalked
  have bWalked := FWalked.binds (ps := ["_law_plan_here", "_law_slots", "_law_row"]) fun _ _ _ _ _ _ us hl => match us, hl with | [_, _, _], _ => rfl
  obtain ⟨fLaw, dLaw, FLaw, aLaw⟩ := hLaw
  have mLaw := PySem.W.mg_of X G aLaw
  have GB : Gb mg := ⟨PySem.W.mg_none_of X G z0, PySem.W.mg_none_of X G z1, PySem.W.mg_none_of X G z2, PySem.W.mg_none_of X G z3, PySem.W.mg_none_of X G z4, PySem.W.mg_none_of X G z5, PySem.W.mg_none_of X G z6, PySem.W.mg_none_of X G z7, PySem.W.mg_none_of X G z8, PySem.W.mg_none_of X G z9, PySem.W.mg_none_of X G z10, PySem.W.mg_none_of X G z11, PySem.W.mg_none_of X G z12⟩
  have CN : Cn mg := ⟨⟨_, PySem.W.mg_of X G c0, ⟨_, rfl⟩⟩, ⟨_, PySem.W.mg_of X G c1, ⟨_, rfl⟩⟩, ⟨_, PySem.W.mg_of X G c2, ⟨_, rfl⟩⟩, ⟨_, PySem.W.mg_of X G c3, ⟨_, rfl⟩⟩, ⟨_, PySem.W.mg_of X G c4, ⟨_, rfl⟩⟩, ⟨_, PySem.W.mg_of X G c5, ⟨_, rfl⟩⟩, ⟨_, PySem.W.mg_of X G c6, ⟨_, rfl⟩⟩⟩
  have e := hfa.symm.trans mLaw
  cases e
  refine ⟨dLaw, fun s v => ?_, fun base _ _ => ?_⟩
  · obtain ⟨oc, od, kV, doc, pm, an, cdv, ct, osl, rfl, lk, hcd⟩ := FLaw.ex
    exact .of_eq rfl
  · have GCount : FnOk l.prog w K mg base CX0 1 fCount dCount ["thing", "low", "high"] spCount := ok_count FCount GB
    have GNeed : FnOk l.prog w K mg base CX0 3 fNeed dNeed ["thing"] spNeed := ok_need FNeed GB CN FCount bCount mCount FRise bRise mRise
    have GNSlots : FnOk l.prog w K mg base CX0 2 fNSlots dNSlots ["thing"] spNSlots := ok_nslots FNSlots GB CN FCount bCount mCount
    have GAsked : FnOk l.prog w K mg base CX0 4 fAsked dAsked ["plan", "slots"] spAsked := ok_asked FAsked GNeed bNeed mNeed FNeed.kp GNSlots bNSlots mNSlots FNSlots.kp
    have GMoves : FnOk l.prog w K mg base CX0 1 fMoves dMoves ["plan", "slots", "state"] spMoves := ok_moves FMoves GB CN
    have GDone : FnOk l.prog w K mg base CX0 1 fDone dDone ["plan", "state"] spDone := ok_done FDone GB
    have GAll : FnOk l.prog w K mg base CX0 2 fAll dAll ["plan", "slots"] (spAll l.prog w) := ok_all FAll GMoves bMoves mMoves FMoves.kp
    have GStuck : FnOk l.prog w K mg base CX0 3 fStuck dStuck ["plan", "slots"] spStuck := ok_stuck FStuck GAll bAll mAll FAll.kp GDone bDone mDone FDone.kp GMoves bMoves mMoves FMoves.kp
    have GRow : FnOk l.prog w K mg base CX0 5 fRow dRow ["plan", "slots"] spRow := ok_row FRow GB GAsked bAsked mAsked FAsked.kp GStuck bStuck mStuck FStuck.kp
    have GNever : FnOk l.prog w K mg base CX0 5 fNever dNever ["plan", "slots"] spNever := ok_never FNever GAsked bAsked mAsked FAsked.kp GStuck bStuck mStuck FStuck.kp
    have GMany : FnOk l.prog w K mg base CX0 5 fMany dMany ["plan", "slots"] spMany := ok_many FMany GB GAsked bAsked mAsked FAsked.kp GStuck bStuck mStuck FStuck.kp
    have GFew : FnOk l.prog w K mg base CX0 4 fFew dFew ["plan"] spFew := ok_few FFew GB GNeed bNeed mNeed FNeed.kp GStuck bStuck mStuck FStuck.kp
    have GMix : FnOk l.prog w K mg base CX0 1 fMix dMix ["_law_script", "_law_seed"] (spMix K) := ok_mix FMix GB
    have GNext : FnOk l.prog w K mg base CX0 1 fNext dNext ["_law_h", "_law_cap"] spNext := ok_next FNext GB
    have GPick : FnOk l.prog w K mg base CX0 2 fPick dPick ["_law_h", "_law_things"] spPick := ok_pick FPick GB GNext bNext mNext FNext.kp
    have GPlan : FnOk l.prog w K mg base CX0 3 fPlan dPlan ["_law_h", "_law_most"] spPlan := ok_plan FPlan GB GNext bNext mNext FNext.kp GPick bPick mPick FPick.kp
    have GLMoves : FnOk l.prog w K mg base CX0 1 fLMoves dLMoves ["_law_plan_here", "_law_slots", "_law_state"] spMoves := ok_lmoves FLMoves GB
    have GLAll : FnOk l.prog w K mg base CX0 2 fLAll dLAll ["_law_plan_here", "_law_slots", "_law_begin"] (spLAll l.prog w) := ok_lall FLAll GLMoves bLMoves mLMoves FLMoves.kp
    have GLStuck : FnOk l.prog w K mg base CX0 3 fLStuck dLStuck ["_law_plan_here", "_law_slots"] spLStuck := ok_lstuck FLStuck GB GLAll bLAll mLAll FLAll.kp GLMoves bLMoves mLMoves FLMoves.kp
    have GWalked : FnOk l.prog w K mg base CX0 2 fWalked dWalked ["_law_plan_here", "_law_slots", "_law_row"] spWalked := ok_walked FWalked GLMoves bLMoves mLMoves FLMoves.kp
    have GAlike : FnOk l.prog w K mg base CX0 2 fAlike dAlike ["_law_found", "_law_due"] spAlike := ok_alike FAlike GB bAlike mAlike FAlike.kp
    exact ok_law FLaw GB ⟨fMix, dMix, GMix, bMix, mMix, FMix.kp⟩ ⟨fNext, dNext, GNext, bNext, mNext, FNext.kp⟩ ⟨fPick, dPick, GPick, bPick, mPick, FPick.kp⟩ ⟨fPlan, dPlan, GPlan, bPlan, mPlan, FPlan.kp⟩ ⟨fLMoves, dLMoves, GLMoves, bLMoves, mLMoves, FLMoves.kp⟩ ⟨fLStuck, dLStuck, GLStuck, bLStuck, mLStuck, FLStuck.kp⟩ ⟨fWalked, dWalked, GWalked, bWalked, mWalked, FWalked.kp⟩ ⟨fAlike, dAlike, GAlike, bAlike, mAlike, FAlike.kp⟩ ⟨fRow, dRow, GRow, bRow, mRow, FRow.kp⟩ ⟨fNever, dNever, GNever, bNever, mNever, FNever.kp⟩ ⟨fMany, dMany, GMany, bMany, mMany, FMany.kp⟩ ⟨fFew, dFew, GFew, bFew, mFew, FFew.kp⟩
theorem walk_all {l : PySem.W.OpenLaw} {q : Program} {loose : List Str} {XP : (Str → Option Value) → Heap → Prop} {YP : World → Heap → Prop} {d : DefRec} {K : Params → PySem.W.Frag} (hn : l.most = some 63) (hdf : d.params.defaults = [])
    (hY : ∀ (w : World) (h : Heap), YP w h → (K w.params).In h)
    (F : ∀ (w : World) (mg : Str → Option Value) (fa : Addr) (h : Heap), (K w.params).In h → h.Ns mainGlobals mg → mg d.name = some (.ref fa) →
      ∃ fd : FuncData, (∀ (s : Shared) (u : Value), BindsTo s fd ⟨[u], []⟩ [("_law_script", u)]) ∧ ∀ base : Heap, (K w.params).In base → base.Ns mainGlobals mg → FnOk l.prog w (K w.params) mg base CX0 6 fa fd ["_law_script"] (spLaw (K w.params))) :
    PySem.W.WalkO q loose XP YP l.row.toRowW d [] (fun f vs => PySem.call f vs) :=
  L2.walk_of (n := 63) (k := 6) (x := "_law_script") (CX := fun _ => CX0) (sp := fun w => spLaw (K w.params)) hn (by decide) hdf ⟨rfl, by decide, by decide⟩ hY F (fun _ _ a ns hl _ hS => ⟨a, ns, rfl, hS, hl, fun _ => rfl⟩) fun _ _ _ _ _ z => z
end K61

open PySem PySem.W PyProof.Rows in
set_option maxRecDepth 100000 in
set_option maxHeartbeats 0 in
theorem PySem.Challenge.cw_buildroom_k61_whole_stuck_holds : PySem.Challenge.rw_buildroom_k61_whole_stuck.Holds := by
  w_on; o_law; k_head; (case hw => w_witness2)
  k_fill
  refine K61.walk_all (l := PySem.Challenge.rw_buildroom_k61_whole_stuck) rfl rfl (fun w h Y => PySem.W.kIn_of Y) ?F
  case F =>
    intro w mg fa h KX G hmg
    refine' K61.all_mk KX G hmg ?gCount ?gRise ?gNeed ?gNSlots ?gMoves ?gDone ?gAll ?gStuck ?gAsked ?gRow ?gNever ?gMany ?gFew ?gMix ?gNext ?gAlike ?gPick ?gPlan ?gLMoves ?gLAll ?gLStuck ?gWalked ?gLaw ?z0 ?z1 ?z2 ?z3 ?z4 ?z5 ?z6 ?z7 ?z8 ?z9 ?z10 ?z11 ?z12 ?c0 ?c1 ?c2 ?c3 ?c4 ?c5 ?c6
    (case gCount => refine' K61.fn_in ?a ?l ?c ?k; (case a => k_is); (case l => k_is); (case c => k_is); (case k => k_is))
    (case gRise => refine' K61.fn_in ?a ?l ?c ?k; (case a => k_is); (case l => k_is); (case c => k_is); (case k => k_is))
    (case gNeed => refine' K61.fn_in ?a ?l ?c ?k; (case a => k_is); (case l => k_is); (case c => k_is); (case k => k_is))
    (case gNSlots => refine' K61.fn_in ?a ?l ?c ?k; (case a => k_is); (case l => k_is); (case c => k_is); (case k => k_is))
    (case gMoves => refine' K61.fn_in ?a ?l ?c ?k; (case a => k_is); (case l => k_is); (case c => k_is); (case k => k_is))
    (case gDone => refine' K61.fn_in ?a ?l ?c ?k; (case a => k_is); (case l => k_is); (case c => k_is); (case k => k_is))
    (case gAll => refine' K61.fn_in ?a ?l ?c ?k; (case a => k_is); (case l => k_is); (case c => k_is); (case k => k_is))
    (case gStuck => refine' K61.fn_in ?a ?l ?c ?k; (case a => k_is); (case l => k_is); (case c => k_is); (case k => k_is))
    (case gAsked => refine' K61.fn_in ?a ?l ?c ?k; (case a => k_is); (case l => k_is); (case c => k_is); (case k => k_is))
    (case gRow => refine' K61.fn_in ?a ?l ?c ?k; (case a => k_is); (case l => k_is); (case c => k_is); (case k => k_is))
    (case gNever => refine' K61.fn_in ?a ?l ?c ?k; (case a => k_is); (case l => k_is); (case c => k_is); (case k => k_is))
    (case gMany => refine' K61.fn_in ?a ?l ?c ?k; (case a => k_is); (case l => k_is); (case c => k_is); (case k => k_is))
    (case gFew => refine' K61.fn_in ?a ?l ?c ?k; (case a => k_is); (case l => k_is); (case c => k_is); (case k => k_is))
    (case gMix => refine' K61.fn_in ?a ?l ?c ?k; (case a => k_is); (case l => k_is); (case c => k_is); (case k => k_is))
    (case gNext => refine' K61.fn_in ?a ?l ?c ?k; (case a => k_is); (case l => k_is); (case c => k_is); (case k => k_is))
    (case gAlike => refine' K61.fn_in ?a ?l ?c ?k; (case a => k_is); (case l => k_is); (case c => k_is); (case k => k_is))
    (case gPick => refine' K61.fn_in ?a ?l ?c ?k; (case a => k_is); (case l => k_is); (case c => k_is); (case k => k_is))
    (case gPlan => refine' K61.fn_in ?a ?l ?c ?k; (case a => k_is); (case l => k_is); (case c => k_is); (case k => k_is))
    (case gLMoves => refine' K61.fn_in ?a ?l ?c ?k; (case a => k_is); (case l => k_is); (case c => k_is); (case k => k_is))
    (case gLAll => refine' K61.fn_in ?a ?l ?c ?k; (case a => k_is); (case l => k_is); (case c => k_is); (case k => k_is))
    (case gLStuck => refine' K61.fn_in ?a ?l ?c ?k; (case a => k_is); (case l => k_is); (case c => k_is); (case k => k_is))
    (case gWalked => refine' K61.fn_in ?a ?l ?c ?k; (case a => k_is); (case l => k_is); (case c => k_is); (case k => k_is))
    (case gLaw => refine' K61.fn_in ?a ?l ?c ?k; (case a => k_is); (case l => k_is); (case c => k_is); (case k => k_is))
    (case z0 => k_is)
    (case z1 => k_is)
    (case z2 => k_is)
    (case z3 => k_is)
    (case z4 => k_is)
    (case z5 => k_is)
    (case z6 => k_is)
    (case z7 => k_is)
    (case z8 => k_is)
    (case z9 => k_is)
    (case z10 => k_is)
    (case z11 => k_is)
    (case z12 => k_is)
    (case c0 => k_is)
    (case c1 => k_is)
    (case c2 => k_is)
    (case c3 => k_is)
    (case c4 => k_is)
    (case c5 => k_is)
    (case c6 => k_is)
