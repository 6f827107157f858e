import PyProof.Rows.All
import Wide.All
import OpenK.AllK
import Wide.FinOn
import HandS.ForMost
import HandS.IsInst
import HandS.TupAny
import HandS.Zip
import HandS.DictComp
import HandS.Style
import HandS.Conv
import HandS.EndBits
import KE.SortData
import KE.GoesEnum
import KE.KDictPairs
import PySem.Challenge.RW_willinglift_k12_whole_plans_judged
set_option Elab.async false
set_option maxRecDepth 100000
set_option maxHeartbeats 4000000
/-! P1: the mirror of both walks, plain Lean. -/
namespace Wl
/-- a group: stand, want, many -/
abbrev G := Int × Int × Int
def le3 (p q : G) : Bool := decide (p.1 < q.1 ∨ (p.1 = q.1 ∧ (p.2.1 < q.2.1 ∨ (p.2.1 = q.2.1 ∧ p.2.2 ≤ q.2.2))))
def sort3 (l : List G) : List G := l.mergeSort le3
/-- a dict from pairs to numbers, in the order of its keys -/
abbrev KD := List ((Int × Int) × Int)
def kput (d : KD) (k : Int × Int) (v : Int) : KD :=
  if (d.any fun e => decide (e.1 = k)) = true then d.map (fun e => if e.1 = k then (e.1, v) else e) else d ++ [(k, v)]
def klook (d : KD) (k : Int × Int) : Option Int := (d.find? fun e => decide (e.1 = k)).map (·.2)
def kd0 (gs : List G) : KD := gs.foldl (fun d g => kput d (g.1, g.2.1) g.2.2) []
def kstep (l t : Int) (d : KD) (p : Int × Int) : KD :=
  kput (kput d (l, p.1) ((klook d (l, p.1)).getD 0 - p.2)) (t, p.1) ((klook (kput d (l, p.1) ((klook d (l, p.1)).getD 0 - p.2)) (t, p.1)).getD 0 + p.2)
def rowsOf (d : KD) : List G := (d.filter fun e => decide (0 < e.2)).map fun e => (e.1.1, e.1.2, e.2)
def rowsAll (d : KD) : List G := d.map fun e => (e.1.1, e.1.2, e.2)
def made (l w : Int) (gs : List G) (ab : List (Int × Int)) : List G := sort3 (rowsOf (ab.foldl (kstep l (l + w)) (kd0 gs)))
def hereL (gs : List G) (l : Int) : List (Int × Int) := (gs.filter fun g => decide (g.1 = l)).map (·.2)
def lastOf : List (Int × Int) → Int → Option Int
  | [], _ => none
  | p :: ps, w => match lastOf ps w with
    | some v => some v
    | none => if p.1 = w then some p.2 else none
def canMove (f r l : Int) (gs : List G) (w : Int) (ab : List (Int × Int)) : Bool :=
  decide (0 ≤ l + w ∧ l + w < f) && decide ((ab.map (·.2)).sum ≤ r) && ab.all fun p => decide (p.2 ≤ (lastOf (hereL gs l) p.1).getD 0)
def homeAll (gs : List G) : Bool := gs.all fun g => decide (g.1 = g.2.1)
/-- what a thing is to both: an int, a tuple, or neither -/
inductive D where
  | int (i : Int)
  | bad
  | tup (ds : List D)
def pairOf : D → Option (Int × Int)
  | .tup [.int a, .int b] => if 0 ≤ a ∧ 1 ≤ b then some (a, b) else none
  | _ => none
def pairsOf : List D → Option (List (Int × Int))
  | [] => some []
  | d :: ds => match pairOf d, pairsOf ds with
    | some p, some ps => some (p :: ps)
    | _, _ => none
def ascB : List (Int × Int) → Bool
  | p :: q :: r => decide (p.1 < q.1) && ascB (q :: r)
  | _ => true
def abOf : D → Option (List (Int × Int))
  | .tup ds => match pairsOf ds with
    | some ps => if ascB ps = true then some ps else none
    | none => none
  | _ => none
def mvOf : D → Option (Int × List (Int × Int))
  | .tup [.int w, a] => if w = 1 ∨ w = -1 then (abOf a).map fun ps => (w, ps) else none
  | _ => none
def due (f r : Int) : Int → List G → List D → Bool
  | l, gs, [] => decide (l = 0) && homeAll gs
  | l, gs, d :: ds => match mvOf d with
    | some (w, ab) => if canMove f r l gs w ab = true then due f r (l + w) (made l w gs ab) ds else false
    | none => false
def dueD (f r l : Int) (gs : List G) : D → Bool
  | .tup ds => due f r l gs ds
  | _ => false
abbrev Mv := Int × List (Int × Int)
def pD (p : Int × Int) : D := .tup [.int p.1, .int p.2]
def mvD (m : Mv) : D := .tup [.int m.1, .tup (m.2.map pD)]

/-! ### sort3 -/
theorem le3_trans (a b c : G) (h1 : le3 a b = true) (h2 : le3 b c = true) : le3 a c = true := by
  unfold le3 at *
  have h1 := of_decide_eq_true h1
  have h2 := of_decide_eq_true h2
  exact decide_eq_true (by omega)
theorem le3_total (a b : G) : (le3 a b || le3 b a) = true := by
  unfold le3
  by_cases h : a.1 < b.1 ∨ (a.1 = b.1 ∧ (a.2.1 < b.2.1 ∨ (a.2.1 = b.2.1 ∧ a.2.2 ≤ b.2.2)))
  · rw [decide_eq_true h]; rfl
  · have h' : b.1 < a.1 ∨ (b.1 = a.1 ∧ (b.2.1 < a.2.1 ∨ (b.2.1 = a.2.1 ∧ b.2.2 ≤ a.2.2))) := by omega
    rw [decide_eq_true h']; simp
theorem sort3_perm (l : List G) : (sort3 l).Perm l := List.mergeSort_perm l le3
theorem sort3_mem {l : List G} {g : G} : g ∈ sort3 l ↔ g ∈ l := (sort3_perm l).mem_iff
theorem sort3_sorted (l : List G) : (sort3 l).Pairwise fun a b => le3 a b = true := List.pairwise_mergeSort le3_trans le3_total l
theorem sort3_len (l : List G) : (sort3 l).length = l.length := (sort3_perm l).length_eq
theorem sort3_id {l : List G} (h : l.Pairwise fun a b => le3 a b = true) : sort3 l = l := List.mergeSort_of_pairwise h
def lt2 (p q : G) : Prop := p.1 < q.1 ∨ (p.1 = q.1 ∧ p.2.1 < q.2.1)
theorem lt2_le3 {p q : G} (h : lt2 p q) : le3 p q = true := by
  unfold lt2 at h
  unfold le3
  exact decide_eq_true (by omega)
/-- sorted and unlike pairs: strictly ascending -/
theorem strict_of : ∀ {l : List G}, (l.Pairwise fun a b => le3 a b = true) → (l.map fun g => (g.1, g.2.1)).Nodup → l.Pairwise lt2
  | [], _, _ => .nil
  | g :: l, h, n => by
    obtain ⟨h1, h2⟩ := List.pairwise_cons.mp h
    rw [List.map_cons] at n
    obtain ⟨n1, n2⟩ := List.nodup_cons.mp n
    refine List.pairwise_cons.mpr ⟨fun b hb => ?_, strict_of h2 n2⟩
    have e := of_decide_eq_true (h1 b hb)
    have ne : ¬ (g.1 = b.1 ∧ g.2.1 = b.2.1) := fun q => n1 (List.mem_map.mpr ⟨b, hb, by rw [q.1, q.2]⟩)
    unfold lt2
    omega

/-! ### the dict -/
theorem klook_cons (e : (Int × Int) × Int) (d : KD) (k : Int × Int) : klook (e :: d) k = if e.1 = k then some e.2 else klook d k := by
  unfold klook
  rw [List.find?_cons]
  by_cases h : e.1 = k
  · simp [h]
  · simp [h]
theorem klook_any : ∀ (d : KD) (k : Int × Int), (d.any fun e => decide (e.1 = k)) = (klook d k).isSome
  | [], _ => rfl
  | e :: d, k => by
    rw [klook_cons, List.any_cons, klook_any d k]
    by_cases h : e.1 = k <;> simp [h]
theorem klook_map : ∀ (d : KD) (k j : Int × Int) (v : Int), klook (d.map fun e => if e.1 = k then (e.1, v) else e) j = (klook d j).map fun x => if j = k then v else x
  | [], _, _, _ => rfl
  | e :: d, k, j, v => by
    rw [List.map_cons, klook_cons, klook_cons, klook_map d k j v]
    by_cases h1 : e.1 = k
    · rw [if_pos h1]
      by_cases h2 : e.1 = j
      · have : j = k := h2.symm.trans h1
        simp [h2, this]
      · simp [h2]
    · rw [if_neg h1]
      by_cases h2 : e.1 = j
      · have : ¬ j = k := fun q => h1 (h2.trans q)
        simp [h2, this]
      · simp [h2]
theorem klook_snoc : ∀ (d : KD) (k j : Int × Int) (v : Int), klook d k = none → klook (d ++ [(k, v)]) j = if j = k then some v else klook d j
  | [], k, j, v, _ => by
    rw [List.nil_append, klook_cons]
    by_cases h : k = j
    · simp [h]
    · have : ¬ j = k := fun q => h q.symm
      simp [h, this]
  | e :: d, k, j, v, hn => by
    rw [klook_cons] at hn
    by_cases h1 : e.1 = k
    · simp [h1] at hn
    · rw [if_neg h1] at hn
      rw [List.cons_append, klook_cons, klook_cons, klook_snoc d k j v hn]
      by_cases h2 : e.1 = j
      · have : ¬ j = k := fun q => h1 (h2.trans q)
        simp [h2, this]
      · simp [h2]
theorem klook_put (d : KD) (k j : Int × Int) (v : Int) : klook (kput d k v) j = if j = k then some v else klook d j := by
  unfold kput
  rw [klook_any]
  cases e : klook d k with
  | some x =>
    simp only [Option.isSome_some, if_true]
    rw [klook_map]
    by_cases h : j = k
    · subst h; simp [e]
    · simp [h]
  | none =>
    simp only [Option.isSome_none, Bool.false_eq_true, if_false]
    exact klook_snoc d k j v e
theorem klook_mem : ∀ {d : KD} {k : Int × Int} {v : Int}, klook d k = some v → (k, v) ∈ d
  | [], _, _, h => by cases h
  | e :: d, k, v, h => by
    rw [klook_cons] at h
    by_cases h1 : e.1 = k
    · rw [if_pos h1] at h
      have : e = (k, v) := by rw [← h1, ← Option.some.inj h]
      rw [this]; exact List.mem_cons_self
    · rw [if_neg h1] at h
      exact List.mem_cons_of_mem _ (klook_mem h)
theorem klook_of_mem : ∀ {d : KD} {k : Int × Int} {v : Int}, (d.map (·.1)).Nodup → (k, v) ∈ d → klook d k = some v
  | e :: d, k, v, n, h => by
    rw [List.map_cons] at n
    obtain ⟨n1, n2⟩ := List.nodup_cons.mp n
    rw [klook_cons]
    rcases List.mem_cons.mp h with q | q
    · rw [← q, if_pos rfl]
    · by_cases h1 : e.1 = k
      · exact absurd (List.mem_map.mpr ⟨(k, v), q, h1.symm⟩) n1
      · rw [if_neg h1]; exact klook_of_mem n2 q
theorem klook_none {d : KD} {k : Int × Int} (h : klook d k = none) : ¬ k ∈ d.map (·.1) := fun m => by
  obtain ⟨e, he, ek⟩ := List.mem_map.mp m
  have q : (d.any fun e => decide (e.1 = k)) = true := List.any_eq_true.mpr ⟨e, he, decide_eq_true ek⟩
  rw [klook_any, h] at q
  cases q
theorem kput_keys (d : KD) (k : Int × Int) (v : Int) : (kput d k v).map (·.1) = if (klook d k).isSome = true then d.map (·.1) else d.map (·.1) ++ [k] := by
  unfold kput
  rw [klook_any]
  by_cases h : (klook d k).isSome = true
  · rw [if_pos h, if_pos h, List.map_map]
    refine List.map_congr_left fun e _ => ?_
    show (if e.1 = k then (e.1, v) else e).1 = e.1
    split <;> rfl
  · rw [if_neg h, if_neg h, List.map_append]; rfl
theorem kput_nodup {d : KD} (k : Int × Int) (v : Int) (n : (d.map (·.1)).Nodup) : ((kput d k v).map (·.1)).Nodup := by
  rw [kput_keys]
  by_cases h : (klook d k).isSome = true
  · rw [if_pos h]; exact n
  · rw [if_neg h]
    have hn : klook d k = none := by
      cases e : klook d k with
      | none => rfl
      | some x => rw [e] at h; exact absurd rfl h
    refine List.nodup_append.mpr ⟨n, by simp, fun a ha b hb => ?_⟩
    rw [List.mem_singleton.mp hb]
    intro e
    exact klook_none hn (e ▸ ha)
theorem kput_len (d : KD) (k : Int × Int) (v : Int) : (kput d k v).length ≤ d.length + 1 := by
  unfold kput
  split
  · rw [List.length_map]; omega
  · rw [List.length_append]; exact Nat.le_refl _

/-! ### what is kept: floors, unlike pairs -/
def InF (f : Int) (k : Int × Int) : Prop := 0 ≤ k.1 ∧ k.1 < f ∧ 0 ≤ k.2 ∧ k.2 < f
structure KOk (f : Int) (d : KD) : Prop where
  nd : (d.map (·.1)).Nodup
  rg : ∀ k ∈ d.map (·.1), InF f k
theorem KOk.nil (f : Int) : KOk f [] := ⟨.nil, fun _ h => by cases h⟩
theorem KOk.put {f : Int} {d : KD} (h : KOk f d) {k : Int × Int} (v : Int) (hk : InF f k) : KOk f (kput d k v) := by
  refine ⟨kput_nodup k v h.nd, fun j hj => ?_⟩
  rw [kput_keys] at hj
  split at hj
  · exact h.rg j hj
  · rcases List.mem_append.mp hj with q | q
    · exact h.rg j q
    · rw [List.mem_singleton.mp q]; exact hk
structure GOk (f : Int) (gs : List G) : Prop where
  rg : ∀ g ∈ gs, InF f (g.1, g.2.1) ∧ 1 ≤ g.2.2
  asc : gs.Pairwise lt2
theorem kd0_snoc (gs : List G) (g : G) : kd0 (gs ++ [g]) = kput (kd0 gs) (g.1, g.2.1) g.2.2 := by
  unfold kd0
  rw [List.foldl_append]; rfl
theorem kd0_ok {f : Int} {gs : List G} (h : ∀ g ∈ gs, InF f (g.1, g.2.1)) : KOk f (kd0 gs) := by
  have key : ∀ (gs : List G) (d : KD), (∀ g ∈ gs, InF f (g.1, g.2.1)) → KOk f d → KOk f (gs.foldl (fun d g => kput d (g.1, g.2.1) g.2.2) d) := by
    intro gs
    induction gs with
    | nil => intro d _ hd; exact hd
    | cons g gs ih =>
      intro d h hd
      exact ih _ (fun x hx => h x (List.mem_cons_of_mem _ hx)) (hd.put _ (h g List.mem_cons_self))
  exact key gs [] h (KOk.nil f)
theorem lt2_ne {p q : G} (h : lt2 p q) : (p.1, p.2.1) ≠ (q.1, q.2.1) := by
  intro e
  have e1 : p.1 = q.1 := (Prod.mk.inj e).1
  have e2 : p.2.1 = q.2.1 := (Prod.mk.inj e).2
  unfold lt2 at h
  omega
theorem kput_new {d : KD} {k : Int × Int} (v : Int) (h : ¬ k ∈ d.map (·.1)) : kput d k v = d ++ [(k, v)] := by
  unfold kput
  rw [if_neg]
  intro q
  obtain ⟨e, he, ek⟩ := List.any_eq_true.mp q
  exact h (List.mem_map.mpr ⟨e, he, of_decide_eq_true ek⟩)
/-- unlike pairs: the dict holds the groups as they stand -/
theorem kd0_map {gs : List G} (h : gs.Pairwise lt2) : kd0 gs = gs.map fun g => ((g.1, g.2.1), g.2.2) := by
  have key : ∀ (gs pre : List G), (pre ++ gs).Pairwise lt2 → gs.foldl (fun d g => kput d (g.1, g.2.1) g.2.2) (pre.map fun g => ((g.1, g.2.1), g.2.2)) = (pre ++ gs).map fun g => ((g.1, g.2.1), g.2.2) := by
    intro gs
    induction gs with
    | nil => intro pre _; rw [List.append_nil]; rfl
    | cons g gs ih =>
      intro pre h
      have e : pre ++ g :: gs = (pre ++ [g]) ++ gs := by simp
      rw [e] at h ⊢
      rw [List.foldl_cons, kput_new, ← ih (pre ++ [g]) h, List.map_append]
      · rfl
      · intro m
        rw [List.map_map] at m
        obtain ⟨q, hq, eq⟩ := List.mem_map.mp m
        have h1 := (List.pairwise_append.mp (List.pairwise_append.mp h).1).2.2 q hq g (by simp)
        exact lt2_ne h1 eq
  exact key gs [] h
theorem kd0_look {gs : List G} (h : gs.Pairwise lt2) {g : G} (hg : g ∈ gs) : klook (kd0 gs) (g.1, g.2.1) = some g.2.2 := by
  rw [kd0_map h]
  refine klook_of_mem ?_ (List.mem_map.mpr ⟨g, hg, rfl⟩)
  rw [List.map_map]
  refine (List.pairwise_map.mpr ?_ : List.Nodup _)
  exact h.imp fun {a b} r => lt2_ne r

/-! ### a move -/
/-- of those who want so, there are some on the floor of the lift -/
def Has (l : Int) (gs : List G) (ab : List (Int × Int)) : Prop := ∀ p ∈ ab, ∃ g ∈ gs, g.1 = l ∧ g.2.1 = p.1
def HasK (l : Int) (d : KD) (ab : List (Int × Int)) : Prop := ∀ p ∈ ab, (klook d (l, p.1)).isSome = true
theorem kd0_isSome : ∀ (gs : List G) {g : G}, g ∈ gs → (klook (kd0 gs) (g.1, g.2.1)).isSome = true := by
  have key : ∀ (gs : List G) (d : KD) (k : Int × Int), ((klook d k).isSome = true ∨ ∃ g ∈ gs, (g.1, g.2.1) = k) → (klook (gs.foldl (fun d g => kput d (g.1, g.2.1) g.2.2) d) k).isSome = true := by
    intro gs
    induction gs with
    | nil =>
      intro d k h
      rcases h with h | ⟨g, hg, _⟩
      · exact h
      · cases hg
    | cons g gs ih =>
      intro d k h
      refine ih _ k ?_
      by_cases e : k = (g.1, g.2.1)
      · left
        rw [klook_put, if_pos e]; rfl
      · rcases h with h | ⟨g', hg', e'⟩
        · left
          rw [klook_put, if_neg e]; exact h
        · rcases List.mem_cons.mp hg' with q | q
          · subst q; exact absurd e'.symm e
          · exact .inr ⟨g', q, e'⟩
  intro gs g hg
  exact key gs [] _ (.inr ⟨g, hg, rfl⟩)
theorem Has.k {l : Int} {gs : List G} {ab : List (Int × Int)} (h : Has l gs ab) : HasK l (kd0 gs) ab := fun p hp => by
  obtain ⟨g, hg, e1, e2⟩ := h p hp
  rw [← e1, ← e2]
  exact kd0_isSome gs hg
theorem kstep_isSome (l t : Int) (d : KD) (p : Int × Int) (k : Int × Int) (h : (klook d k).isSome = true) : (klook (kstep l t d p) k).isSome = true := by
  unfold kstep
  rw [klook_put]
  split
  · rfl
  · rw [klook_put]
    split
    · rfl
    · exact h
theorem HasK.step {l t : Int} {d : KD} {ab : List (Int × Int)} (p : Int × Int) (h : HasK l d ab) : HasK l (kstep l t d p) ab := fun q hq => kstep_isSome l t d p _ (h q hq)
theorem KOk.step {f l t : Int} {d : KD} (h : KOk f d) {p : Int × Int} (hs : (klook d (l, p.1)).isSome = true) (ht : 0 ≤ t ∧ t < f) : KOk f (kstep l t d p) := by
  have hk : InF f (l, p.1) := by
    cases e : klook d (l, p.1) with
    | none => rw [e] at hs; cases hs
    | some v => exact h.rg _ (List.mem_map.mpr ⟨((l, p.1), v), klook_mem e, rfl⟩)
  unfold kstep
  exact (h.put _ hk).put _ ⟨ht.1, ht.2, hk.2.2.1, hk.2.2.2⟩
theorem ksteps_ok {f l t : Int} (ht : 0 ≤ t ∧ t < f) : ∀ (ab : List (Int × Int)) (d : KD), KOk f d → HasK l d ab → KOk f (ab.foldl (kstep l t) d)
  | [], _, h, _ => h
  | p :: ab, d, h, hs => ksteps_ok ht ab _ (h.step (hs p List.mem_cons_self) ht) fun q hq => kstep_isSome l t d p _ (hs q (List.mem_cons_of_mem _ hq))
theorem rowsOf_pairs (d : KD) : (rowsOf d).map (fun g => (g.1, g.2.1)) = (d.filter fun e => decide (0 < e.2)).map (·.1) := by
  unfold rowsOf
  rw [List.map_map]; rfl
theorem rowsAll_pairs (d : KD) : (rowsAll d).map (fun g => (g.1, g.2.1)) = d.map (·.1) := by
  unfold rowsAll
  rw [List.map_map]; rfl
theorem nodup_sub {α β : Type} {f : α → β} {l m : List α} (h : l.Sublist m) (n : (m.map f).Nodup) : (l.map f).Nodup := n.sublist (h.map f)
theorem gok_rows {f : Int} {d : KD} (h : KOk f d) : GOk f (sort3 (rowsOf d)) := by
  refine ⟨fun g hg => ?_, ?_⟩
  · have hg := sort3_mem.mp hg
    unfold rowsOf at hg
    obtain ⟨e, he, eq⟩ := List.mem_map.mp hg
    obtain ⟨he1, he2⟩ := List.mem_filter.mp he
    have he2 := of_decide_eq_true he2
    subst eq
    exact ⟨h.rg _ (List.mem_map.mpr ⟨e, he1, rfl⟩), by show 1 ≤ e.2; omega⟩
  · refine strict_of (sort3_sorted _) ?_
    refine ((sort3_perm _).map _).nodup_iff.mpr ?_
    rw [rowsOf_pairs]
    exact nodup_sub List.filter_sublist h.nd
theorem gok_rowsAll {f : Int} {d : KD} (h : KOk f d) (hp : ∀ e ∈ d, 1 ≤ e.2) : GOk f (sort3 (rowsAll d)) := by
  refine ⟨fun g hg => ?_, ?_⟩
  · have hg := sort3_mem.mp hg
    unfold rowsAll at hg
    obtain ⟨e, he, eq⟩ := List.mem_map.mp hg
    subst eq
    exact ⟨h.rg _ (List.mem_map.mpr ⟨e, he, rfl⟩), hp e he⟩
  · refine strict_of (sort3_sorted _) ?_
    refine ((sort3_perm _).map _).nodup_iff.mpr ?_
    rw [rowsAll_pairs]
    exact h.nd
theorem made_ok {f l w : Int} {gs : List G} {ab : List (Int × Int)} (h : GOk f gs) (hs : Has l gs ab) (ht : 0 ≤ l + w ∧ l + w < f) : GOk f (made l w gs ab) :=
  gok_rows (ksteps_ok ht ab _ (kd0_ok fun g hg => (h.rg g hg).1) hs.k)
theorem made_nil {f l w : Int} {gs : List G} (h : GOk f gs) : made l w gs [] = gs := by
  unfold made
  have e : rowsOf (kd0 gs) = gs := by
    rw [kd0_map h.asc]
    unfold rowsOf
    rw [List.filter_eq_self.mpr, List.map_map]
    · have : ((fun (e : (Int × Int) × Int) => (e.1.1, e.1.2, e.2)) ∘ fun (g : G) => ((g.1, g.2.1), g.2.2)) = id := by funext g; rfl
      rw [this, List.map_id]
    · intro a ha
      obtain ⟨g, hg, eq⟩ := List.mem_map.mp ha
      subst eq
      have := (h.rg g hg).2
      exact decide_eq_true (by show 0 < g.2.2; omega)
  show sort3 (rowsOf (kd0 gs)) = gs
  rw [e]
  exact sort3_id (h.asc.imp fun r => lt2_le3 r)
theorem rowsOf_mem {d : KD} {g : G} (h : klook d (g.1, g.2.1) = some g.2.2) (hp : 0 < g.2.2) : g ∈ rowsOf d := by
  unfold rowsOf
  exact List.mem_map.mpr ⟨((g.1, g.2.1), g.2.2), List.mem_filter.mpr ⟨klook_mem h, decide_eq_true hp⟩, rfl⟩
/-- whoever is carried is there behind the move -/
theorem made_one {f l w want k : Int} {gs : List G} (h : GOk f gs) (hw : w ≠ 0) (hk : 1 ≤ k) : ∃ v, k ≤ v ∧ (l + w, want, v) ∈ made l w gs [(want, k)] := by
  have nn : 0 ≤ (klook (kd0 gs) (l + w, want)).getD 0 := by
    cases e : klook (kd0 gs) (l + w, want) with
    | none => exact Int.le_refl _
    | some v =>
      have m := klook_mem e
      rw [kd0_map h.asc] at m
      obtain ⟨g, hg, eq⟩ := List.mem_map.mp m
      have h1 := (h.rg g hg).2
      have : g.2.2 = v := congrArg Prod.snd eq
      show 0 ≤ v
      omega
  refine ⟨(klook (kd0 gs) (l + w, want)).getD 0 + k, by omega, ?_⟩
  unfold made
  refine sort3_mem.mpr (rowsOf_mem ?_ (by show 0 < (klook (kd0 gs) (l + w, want)).getD 0 + k; omega))
  show klook (kstep l (l + w) (kd0 gs) (want, k)) (l + w, want) = _
  unfold kstep
  rw [klook_put, if_pos rfl, klook_put, if_neg]
  intro e
  have : l + w = l := congrArg Prod.fst e
  omega

/-! ### who stands here -/
theorem lastOf_snoc : ∀ (ps : List (Int × Int)) (p : Int × Int) (w : Int), lastOf (ps ++ [p]) w = if p.1 = w then some p.2 else lastOf ps w
  | [], p, w => by
    show (match lastOf [] w with | some v => some v | none => if p.1 = w then some p.2 else none) = _
    rfl
  | q :: ps, p, w => by
    show (match lastOf (ps ++ [p]) w with | some v => some v | none => if q.1 = w then some q.2 else none) = if p.1 = w then some p.2 else (match lastOf ps w with | some v => some v | none => if q.1 = w then some q.2 else none)
    rw [lastOf_snoc ps p w]
    by_cases h : p.1 = w
    · rw [if_pos h, if_pos h]
    · rw [if_neg h, if_neg h]
theorem lastOf_mem : ∀ {ps : List (Int × Int)} {w v : Int}, lastOf ps w = some v → (w, v) ∈ ps
  | [], _, _, h => by cases h
  | p :: ps, w, v, h => by
    have h : (match lastOf ps w with | some v => some v | none => if p.1 = w then some p.2 else none) = some v := h
    cases e : lastOf ps w with
    | some u =>
      rw [e] at h
      have : u = v := Option.some.inj h
      subst this
      exact List.mem_cons_of_mem _ (lastOf_mem e)
    | none =>
      rw [e] at h
      by_cases h1 : p.1 = w
      · have h : (if p.1 = w then some p.2 else none) = some v := h
        rw [if_pos h1] at h
        have : p = (w, v) := by rw [← h1, ← Option.some.inj h]
        rw [this]; exact List.mem_cons_self
      · have h : (if p.1 = w then some p.2 else none) = some v := h
        rw [if_neg h1] at h; cases h
theorem lastOf_of {ps : List (Int × Int)} {p : Int × Int} (h : ps.Pairwise fun a b => a.1 < b.1) (hp : p ∈ ps) : lastOf ps p.1 = some p.2 := by
  cases e : lastOf ps p.1 with
  | some v =>
    have m := lastOf_mem e
    have uniq : ∀ {ps : List (Int × Int)}, (ps.Pairwise fun a b => a.1 < b.1) → ∀ {a b : Int × Int}, a ∈ ps → b ∈ ps → a.1 = b.1 → a = b := by
      intro ps
      induction ps with
      | nil => intro _ a b ha; cases ha
      | cons c ps ih =>
        intro h a b ha hb hab
        obtain ⟨h1, h2⟩ := List.pairwise_cons.mp h
        rcases List.mem_cons.mp ha with qa | qa <;> rcases List.mem_cons.mp hb with qb | qb
        · rw [qa, qb]
        · have := h1 b qb; rw [← qa] at this; omega
        · have := h1 a qa; rw [← qb] at this; omega
        · exact ih h2 qa qb hab
    have e2 : (p.1, v) = p := uniq h m hp rfl
    exact congrArg some (congrArg Prod.snd e2)
  | none =>
    exfalso
    have key : ∀ {ps : List (Int × Int)} {w : Int}, lastOf ps w = none → ∀ q ∈ ps, q.1 ≠ w := by
      intro ps
      induction ps with
      | nil => intro w _ q hq; cases hq
      | cons c ps ih =>
        intro w h q hq
        have h : (match lastOf ps w with | some v => some v | none => if c.1 = w then some c.2 else none) = none := h
        cases e : lastOf ps w with
        | some u => rw [e] at h; cases h
        | none =>
          rw [e] at h
          have h : (if c.1 = w then some c.2 else none) = none := h
          rcases List.mem_cons.mp hq with z | z
          · intro q1
            rw [z] at q1
            rw [if_pos q1] at h; cases h
          · exact ih e q z
    exact key e p hp rfl
theorem hereL_asc {gs : List G} (h : gs.Pairwise lt2) (l : Int) : (hereL gs l).Pairwise fun a b => a.1 < b.1 := by
  unfold hereL
  refine List.pairwise_map.mpr ?_
  refine (List.Pairwise.sublist (List.filter_sublist (p := fun g => decide (g.1 = l))) h).imp_of_mem ?_
  intro a b ha hb r
  have h1 := of_decide_eq_true (List.mem_filter.mp ha).2
  have h2 := of_decide_eq_true (List.mem_filter.mp hb).2
  unfold lt2 at r
  omega
theorem hereL_mem {gs : List G} {l : Int} {p : Int × Int} : p ∈ hereL gs l ↔ (l, p) ∈ gs := by
  unfold hereL
  constructor
  · intro h
    obtain ⟨g, hg, e⟩ := List.mem_map.mp h
    obtain ⟨h1, h2⟩ := List.mem_filter.mp hg
    have h2 := of_decide_eq_true h2
    have : g = (l, p) := by rw [← h2, ← e]
    rw [← this]; exact h1
  · intro h
    exact List.mem_map.mpr ⟨(l, p), List.mem_filter.mpr ⟨h, decide_eq_true rfl⟩, rfl⟩
theorem canMove_has {f r l w : Int} {gs : List G} {ab : List (Int × Int)} (h : canMove f r l gs w ab = true) (hp : ∀ p ∈ ab, 1 ≤ p.2) : Has l gs ab ∧ (0 ≤ l + w ∧ l + w < f) := by
  unfold canMove at h
  simp only [Bool.and_eq_true, decide_eq_true_eq, List.all_eq_true] at h
  refine ⟨fun p hm => ?_, h.1.1⟩
  have h1 := h.2 p hm
  have h2 := hp p hm
  cases e : lastOf (hereL gs l) p.1 with
  | none => rw [e] at h1; have : p.2 ≤ 0 := h1; omega
  | some v =>
    have m := hereL_mem.mp (lastOf_mem e)
    exact ⟨_, m, rfl, rfl⟩

/-! ### built moves -/
def Built (ab : List (Int × Int)) : Prop := (∀ p ∈ ab, 0 ≤ p.1 ∧ 1 ≤ p.2) ∧ ascB ab = true
theorem pairOf_some {d : D} {p : Int × Int} (h : pairOf d = some p) : d = pD p ∧ 0 ≤ p.1 ∧ 1 ≤ p.2 := by
  unfold pairOf at h
  split at h
  · rename_i a b
    by_cases q : 0 ≤ a ∧ 1 ≤ b
    · rw [if_pos q] at h
      have e := Option.some.inj h
      subst e
      exact ⟨rfl, q⟩
    · rw [if_neg q] at h; cases h
  · cases h
theorem pairsOf_some : ∀ {ds : List D} {ps : List (Int × Int)}, pairsOf ds = some ps → ds = ps.map pD ∧ ∀ p ∈ ps, 0 ≤ p.1 ∧ 1 ≤ p.2
  | [], ps, h => by
    have e : [] = ps := Option.some.inj h
    subst e
    exact ⟨rfl, fun p hp => by cases hp⟩
  | d :: ds, ps, h => by
    unfold pairsOf at h
    split at h
    · rename_i p ps' e1 e2
      have e := Option.some.inj h
      subst e
      obtain ⟨h1, h2⟩ := pairOf_some e1
      obtain ⟨h3, h4⟩ := pairsOf_some e2
      refine ⟨by rw [h1, h3]; rfl, fun q hq => ?_⟩
      rcases List.mem_cons.mp hq with z | z
      · rw [z]; exact h2
      · exact h4 q z
    · cases h
theorem abOf_some {d : D} {ab : List (Int × Int)} (h : abOf d = some ab) : d = .tup (ab.map pD) ∧ Built ab := by
  unfold abOf at h
  split at h
  · rename_i ds
    split at h
    · rename_i ps e
      by_cases q : ascB ps = true
      · rw [if_pos q] at h
        have e2 := Option.some.inj h
        subst e2
        obtain ⟨h1, h2⟩ := pairsOf_some e
        exact ⟨by rw [h1], h2, q⟩
      · rw [if_neg q] at h; cases h
    · cases h
  · cases h
theorem mvOf_some {d : D} {m : Mv} (h : mvOf d = some m) : d = mvD m ∧ (m.1 = 1 ∨ m.1 = -1) ∧ Built m.2 := by
  unfold mvOf at h
  split at h
  · rename_i w a
    by_cases q : w = 1 ∨ w = -1
    · rw [if_pos q] at h
      cases e : abOf a with
      | none => rw [e] at h; cases h
      | some ps =>
        rw [e] at h
        have e2 : (w, ps) = m := Option.some.inj h
        subst e2
        obtain ⟨h1, h2⟩ := abOf_some e
        exact ⟨by rw [h1]; rfl, q, h2⟩
    · rw [if_neg q] at h; cases h
  · cases h
theorem pairsOf_map : ∀ {ps : List (Int × Int)}, (∀ p ∈ ps, 0 ≤ p.1 ∧ 1 ≤ p.2) → pairsOf (ps.map pD) = some ps
  | [], _ => rfl
  | p :: ps, h => by
    have h1 := h p List.mem_cons_self
    have e1 : pairOf (pD p) = some p := by
      show (if 0 ≤ p.1 ∧ 1 ≤ p.2 then some (p.1, p.2) else none) = _
      rw [if_pos h1]
    rw [List.map_cons]
    unfold pairsOf
    rw [e1, pairsOf_map fun q hq => h q (List.mem_cons_of_mem _ hq)]
theorem mvOf_mvD {m : Mv} (hw : m.1 = 1 ∨ m.1 = -1) (hb : Built m.2) : mvOf (mvD m) = some m := by
  show (if m.1 = 1 ∨ m.1 = -1 then (abOf (.tup (m.2.map pD))).map fun ps => (m.1, ps) else none) = _
  rw [if_pos hw]
  have e : abOf (.tup (m.2.map pD)) = some m.2 := by
    show (match pairsOf (m.2.map pD) with | some ps => if ascB ps = true then some ps else none | none => none) = _
    rw [pairsOf_map hb.1]
    show (if ascB m.2 = true then some m.2 else none) = _
    rw [if_pos hb.2]
  rw [e]; rfl

/-! ### a run of good moves -/
structure Good (f r l : Int) (gs : List G) (m : Mv) : Prop where
  way : m.1 = 1 ∨ m.1 = -1
  built : Built m.2
  can : canMove f r l gs m.1 m.2 = true
theorem Good.has {f r l : Int} {gs : List G} {m : Mv} (h : Good f r l gs m) : Has l gs m.2 ∧ (0 ≤ l + m.1 ∧ l + m.1 < f) := canMove_has h.can fun p hp => (h.built.1 p hp).2
inductive Run (f r : Int) : Int → List G → List Mv → Int → List G → Prop
  | nil (l : Int) (gs : List G) : Run f r l gs [] l gs
  | cons {l : Int} {gs : List G} {m : Mv} {ms : List Mv} {l' : Int} {gs' : List G} (h : Good f r l gs m) (t : Run f r (l + m.1) (made l m.1 gs m.2) ms l' gs') : Run f r l gs (m :: ms) l' gs'
theorem Run.append {f r : Int} : ∀ {ms : List Mv} {l : Int} {gs : List G} {l1 : Int} {gs1 : List G} {ns : List Mv} {l2 : Int} {gs2 : List G}, Run f r l gs ms l1 gs1 → Run f r l1 gs1 ns l2 gs2 → Run f r l gs (ms ++ ns) l2 gs2
  | _, _, _, _, _, _, _, _, .nil _ _, h => h
  | _, _, _, _, _, _, _, _, .cons g t, h => .cons g (t.append h)
theorem Run.snoc {f r l : Int} {gs : List G} {ms : List Mv} {l1 : Int} {gs1 : List G} {m : Mv} (h : Run f r l gs ms l1 gs1) (g : Good f r l1 gs1 m) : Run f r l gs (ms ++ [m]) (l1 + m.1) (made l1 m.1 gs1 m.2) :=
  h.append (.cons g (.nil _ _))
theorem Run.due {f r : Int} : ∀ {ms : List Mv} {l : Int} {gs : List G} {l' : Int} {gs' : List G}, Run f r l gs ms l' gs' → due f r l gs (ms.map mvD) = (decide (l' = 0) && homeAll gs')
  | _, _, _, _, _, .nil _ _ => rfl
  | m :: ms, l, gs, l', gs', .cons g t => by
    rw [List.map_cons]
    show (match mvOf (mvD m) with | some (w, ab) => if canMove f r l gs w ab = true then Wl.due f r (l + w) (made l w gs ab) (ms.map mvD) else false | none => false) = _
    rw [mvOf_mvD g.way g.built]
    show (if canMove f r l gs m.1 m.2 = true then Wl.due f r (l + m.1) (made l m.1 gs m.2) (ms.map mvD) else false) = _
    rw [if_pos g.can]
    exact t.due
theorem Run.ok {f r : Int} : ∀ {ms : List Mv} {l : Int} {gs : List G} {l' : Int} {gs' : List G}, Run f r l gs ms l' gs' → GOk f gs → (0 ≤ l ∧ l < f) → GOk f gs' ∧ (0 ≤ l' ∧ l' < f)
  | _, _, _, _, _, .nil _ _, h, hl => ⟨h, hl⟩
  | _, _, _, _, _, .cons g t, h, _ => t.ok (made_ok h g.has.1 g.has.2) g.has.2
/-- what moves may be numbers of: floors and people -/
def Small (b : Int) (m : Mv) : Prop := (m.1 = 1 ∨ m.1 = -1) ∧ ∀ p ∈ m.2, 0 ≤ p.1 ∧ p.1 < b ∧ 1 ≤ p.2 ∧ p.2 ≤ b
theorem sum_one : ∀ {ab : List (Int × Int)} {p : Int × Int}, (∀ q ∈ ab, 1 ≤ q.2) → p ∈ ab → p.2 ≤ (ab.map (·.2)).sum
  | q :: ab, p, h, hp => by
    rw [List.map_cons, List.sum_cons]
    have h0 : ∀ {ab : List (Int × Int)}, (∀ q ∈ ab, 1 ≤ q.2) → 0 ≤ (ab.map (·.2)).sum := by
      intro ab
      induction ab with
      | nil => intro _; exact Int.le_refl _
      | cons c ab ih =>
        intro h
        rw [List.map_cons, List.sum_cons]
        have h1 := h c List.mem_cons_self
        have h2 := ih fun q hq => h q (List.mem_cons_of_mem _ hq)
        omega
    rcases List.mem_cons.mp hp with e | e
    · rw [e]
      have := h0 fun q hq => h q (List.mem_cons_of_mem _ hq)
      omega
    · have h1 := h q List.mem_cons_self
      have h2 := sum_one (fun q hq => h q (List.mem_cons_of_mem _ hq)) e
      omega
theorem Good.small {f r l b : Int} {gs : List G} {m : Mv} (h : Good f r l gs m) (hg : GOk f gs) (hf : f ≤ b) (hr : r ≤ b) : Small b m := by
  refine ⟨h.way, fun p hp => ?_⟩
  obtain ⟨g, hgm, e1, e2⟩ := h.has.1 p hp
  have h1 := (hg.rg g hgm).1
  have h2 := h.built.1 p hp
  have h3 := h.can
  unfold canMove at h3
  simp only [Bool.and_eq_true, decide_eq_true_eq] at h3
  have h4 := sum_one (fun q hq => (h.built.1 q hq).2) hp
  have h5 : g.2.1 < f := h1.2.2.2
  refine ⟨h2.1, by omega, h2.2, by omega⟩
theorem Run.small {f r b : Int} (hf : f ≤ b) (hr : r ≤ b) : ∀ {ms : List Mv} {l : Int} {gs : List G} {l' : Int} {gs' : List G}, Run f r l gs ms l' gs' → GOk f gs → ∀ m ∈ ms, Small b m
  | _, _, _, _, _, .nil _ _, _, m, hm => by cases hm
  | _, _, _, _, _, .cons g t, h, m, hm => by
    rcases List.mem_cons.mp hm with e | e
    · rw [e]; exact g.small h hf hr
    · exact t.small hf hr (made_ok h g.has.1 g.has.2) m e

/-! ### how many there can be -/
theorem nodup_nat : ∀ (n : Nat) (l : List Nat), l.Nodup → (∀ x ∈ l, x < n) → l.length ≤ n
  | 0, l, _, h => by
    cases l with
    | nil => exact Nat.le_refl _
    | cons a l => exact absurd (h a List.mem_cons_self) (Nat.not_lt_zero _)
  | n + 1, l, hn, h => by
    have h1 : (l.erase n).Nodup := hn.erase n
    have h2 : ∀ x ∈ l.erase n, x < n := fun x hx => by
      have q := (hn.mem_erase_iff).mp hx
      have := h x q.2
      have := q.1
      omega
    have h3 := nodup_nat n _ h1 h2
    have h4 : l.length ≤ (l.erase n).length + 1 := by
      rw [List.length_erase]
      split <;> omega
    omega
theorem KOk.len {f : Int} {d : KD} (h : KOk f d) (hf : f ≤ 40) : d.length ≤ 1600 := by
  have e : ((d.map (·.1)).map fun k : Int × Int => (k.1 * 40 + k.2).toNat).length ≤ 1600 := by
    refine nodup_nat 1600 _ ?_ ?_
    · refine List.pairwise_map.mpr (h.nd.imp_of_mem ?_)
      intro a b ha hb hab hne
      have h1 := h.rg a ha
      have h2 := h.rg b hb
      unfold InF at h1 h2
      have e : a.1 * 40 + a.2 = b.1 * 40 + b.2 := by omega
      have e1 : a.1 = b.1 := by omega
      have e2 : a.2 = b.2 := by omega
      exact hab (Prod.ext e1 e2)
    · intro x hx
      obtain ⟨k, hk, eq⟩ := List.mem_map.mp hx
      have h1 := h.rg k hk
      unfold InF at h1
      omega
  simpa using e
theorem GOk.k {f : Int} {gs : List G} (h : GOk f gs) : KOk f (kd0 gs) := kd0_ok fun g hg => (h.rg g hg).1
theorem GOk.len {f : Int} {gs : List G} (h : GOk f gs) (hf : f ≤ 40) : gs.length ≤ 1600 := by
  have e := h.k.len hf
  rw [kd0_map h.asc, List.length_map] at e
  exact e

/-! ### things of bounded size -/
mutual
def dOk : D → Prop
  | .int i => i ≤ 10000000000000000000000000000000000000000
  | .bad => True
  | .tup ds => ds.length ≤ 10000 ∧ dsOk ds
def dsOk : List D → Prop
  | [] => True
  | d :: ds => dOk d ∧ dsOk ds
end
theorem dOk_tup {ds : List D} : dOk (.tup ds) ↔ ds.length ≤ 10000 ∧ dsOk ds := Iff.rfl
theorem dsOk_mem : ∀ {ds : List D}, dsOk ds ↔ ∀ d ∈ ds, dOk d
  | [] => ⟨fun _ d h => absurd h (by simp), fun _ => trivial⟩
  | d :: ds => by
    show dOk d ∧ dsOk ds ↔ _
    rw [dsOk_mem]
    constructor
    · rintro ⟨h1, h2⟩ e he
      rcases List.mem_cons.mp he with q | q
      · rw [q]; exact h1
      · exact h2 e q
    · intro h
      exact ⟨h d List.mem_cons_self, fun e he => h e (List.mem_cons_of_mem _ he)⟩
theorem asc_pair : ∀ {ab : List (Int × Int)}, ascB ab = true → ab.Pairwise fun a b => a.1 < b.1
  | [], _ => .nil
  | [p], _ => by simp
  | p :: q :: r, h => by
    have h : (decide (p.1 < q.1) && ascB (q :: r)) = true := h
    rw [Bool.and_eq_true] at h
    have h1 := of_decide_eq_true h.1
    have ih := asc_pair h.2
    refine List.pairwise_cons.mpr ⟨fun b hb => ?_, ih⟩
    rcases List.mem_cons.mp hb with e | e
    · rw [e]; exact h1
    · have := (List.pairwise_cons.mp ih).1 b e
      omega
theorem asc_of : ∀ {ab : List (Int × Int)}, (ab.Pairwise fun a b => a.1 < b.1) → ascB ab = true
  | [], _ => rfl
  | [p], _ => rfl
  | p :: q :: r, h => by
    obtain ⟨h1, h2⟩ := List.pairwise_cons.mp h
    show (decide (p.1 < q.1) && ascB (q :: r)) = true
    rw [Bool.and_eq_true]
    exact ⟨decide_eq_true (h1 q List.mem_cons_self), asc_of h2⟩
theorem few_of {ab : List (Int × Int)} (h : ascB ab = true) (hb : ∀ p ∈ ab, 0 ≤ p.1 ∧ p.1 < 40) : ab.length ≤ 40 := by
  have e : (ab.map fun p => p.1.toNat).length ≤ 40 := by
    refine nodup_nat 40 _ (List.pairwise_map.mpr ((asc_pair h).imp_of_mem fun {a b} ha hb' r q => ?_)) fun x hx => ?_
    · have h1 := hb a ha
      have h2 := hb b hb'
      omega
    · obtain ⟨p, hp, e⟩ := List.mem_map.mp hx
      have := hb p hp
      omega
  simpa using e
theorem Good.few {f r l : Int} {gs : List G} {m : Mv} (h : Good f r l gs m) (hg : GOk f gs) (hf : f ≤ 40) : m.2.length ≤ 40 :=
  few_of h.built.2 fun p hp => by
    obtain ⟨g, hgm, e1, e2⟩ := h.has.1 p hp
    have h1 := (hg.rg g hgm).1
    unfold InF at h1
    have h2 := h.built.1 p hp
    simp only at h1
    omega
theorem dOk_mvD {m : Mv} (h : m.2.length ≤ 10000) (hw : m.1 ≤ 1) (hp : ∀ p ∈ m.2, p.1 ≤ 10000000000000000000000000000000000000000 ∧ p.2 ≤ 10000000000000000000000000000000000000000) : dOk (mvD m) := by
  refine ⟨by show 2 ≤ 10000; decide, ⟨?_, ⟨by rw [List.length_map]; exact h, dsOk_mem.mpr fun d hd => ?_⟩, trivial⟩⟩
  · show m.1 ≤ _
    omega
  · obtain ⟨p, hm, e⟩ := List.mem_map.mp hd
    rw [← e]
    exact ⟨by show 2 ≤ 10000; decide, (hp p hm).1, (hp p hm).2, trivial⟩
theorem Good.dok {f r l : Int} {gs : List G} {m : Mv} (h : Good f r l gs m) (hg : GOk f gs) (hf : f ≤ 40) (hr : r ≤ 1000000000000) : dOk (mvD m) := by
  have hs := h.small hg (b := 1000000000000) (by omega) hr
  refine dOk_mvD (Nat.le_trans (h.few hg hf) (by decide)) ?_ fun p hp => ?_
  · rcases h.way with e | e <;> omega
  · have := hs.2 p hp
    omega

/-! ### the state behind things, if all are moves -/
def runD (f r : Int) : Int → List G → List D → Option (Int × List G)
  | l, gs, [] => some (l, gs)
  | l, gs, d :: ds => match mvOf d with
    | some (w, ab) => if canMove f r l gs w ab = true then runD f r (l + w) (made l w gs ab) ds else none
    | none => none
theorem due_runD (f r : Int) : ∀ (ds : List D) (l : Int) (gs : List G), due f r l gs ds = match runD f r l gs ds with
    | some x => decide (x.1 = 0) && homeAll x.2
    | none => false
  | [], l, gs => rfl
  | d :: ds, l, gs => by
    unfold due runD
    cases e : mvOf d with
    | none => rfl
    | some m =>
      obtain ⟨w, ab⟩ := m
      show (if canMove f r l gs w ab = true then _ else _) = _
      by_cases h : canMove f r l gs w ab = true
      · simp only [h, if_true]
        exact due_runD f r ds _ _
      · simp only [h, if_false]
        rfl
def isMv (f r l : Int) (gs : List G) (d : D) : Bool := match mvOf d with
  | some m => canMove f r l gs m.1 m.2
  | none => false
theorem isMv_good {f r l : Int} {gs : List G} {d : D} (h : isMv f r l gs d = true) : ∃ m, mvOf d = some m ∧ d = mvD m ∧ Good f r l gs m := by
  unfold isMv at h
  cases e : mvOf d with
  | none => rw [e] at h; cases h
  | some m =>
    rw [e] at h
    obtain ⟨h1, h2, h3⟩ := mvOf_some e
    exact ⟨m, rfl, h1, h2, h3, h⟩
theorem Good.isMv {f r l : Int} {gs : List G} {m : Mv} (h : Good f r l gs m) : isMv f r l gs (mvD m) = true := by
  unfold Wl.isMv
  rw [mvOf_mvD h.way h.built]
  exact h.can
theorem runD_cons {f r l : Int} {gs : List G} {d : D} {ds : List D} {m : Mv} (e : mvOf d = some m) (h : canMove f r l gs m.1 m.2 = true) : runD f r l gs (d :: ds) = runD f r (l + m.1) (made l m.1 gs m.2) ds := by
  obtain ⟨w, ab⟩ := m
  rw [runD, e]
  show (if canMove f r l gs w ab = true then _ else _) = _
  rw [if_pos h]
theorem runD_bad {f r l : Int} {gs : List G} {d : D} {ds : List D} (h : isMv f r l gs d = false) : runD f r l gs (d :: ds) = none := by
  unfold isMv at h
  rw [runD]
  cases e : mvOf d with
  | none => rfl
  | some m =>
    rw [e] at h
    obtain ⟨w, ab⟩ := m
    show (if canMove f r l gs w ab = true then _ else _) = none
    have h : canMove f r l gs w ab = false := h
    rw [h]; rfl
/-- the state behind the first i things -/
theorem runD_snoc {f r : Int} : ∀ (ds : List D) {l l1 : Int} {gs gs1 : List G} {d : D} (es : List D), runD f r l gs ds = some (l1, gs1) → runD f r l gs (ds ++ d :: es) = runD f r l1 gs1 (d :: es)
  | [], l, l1, gs, gs1, d, es, h => by
    have e := Option.some.inj h
    cases e
    rfl
  | c :: ds, l, l1, gs, gs1, d, es, h => by
    rw [List.cons_append]
    rw [runD] at h ⊢
    cases e : mvOf c with
    | none => rw [e] at h; cases h
    | some m =>
      rw [e] at h
      obtain ⟨w, ab⟩ := m
      have h : (if canMove f r l gs w ab = true then runD f r (l + w) (made l w gs ab) ds else none) = some (l1, gs1) := h
      show (if canMove f r l gs w ab = true then runD f r (l + w) (made l w gs ab) (ds ++ d :: es) else none) = _
      by_cases q : canMove f r l gs w ab = true
      · rw [if_pos q] at h ⊢
        exact runD_snoc ds es h
      · rw [if_neg q] at h; cases h
theorem runD_ok {f r : Int} : ∀ (ds : List D) {l l1 : Int} {gs gs1 : List G}, runD f r l gs ds = some (l1, gs1) → GOk f gs → (0 ≤ l ∧ l < f) → GOk f gs1 ∧ (0 ≤ l1 ∧ l1 < f)
  | [], l, l1, gs, gs1, h, hg, hl => by
    have e := Option.some.inj h
    cases e
    exact ⟨hg, hl⟩
  | c :: ds, l, l1, gs, gs1, h, hg, hl => by
    rw [runD] at h
    cases e : mvOf c with
    | none => rw [e] at h; cases h
    | some m =>
      rw [e] at h
      obtain ⟨w, ab⟩ := m
      have h : (if canMove f r l gs w ab = true then runD f r (l + w) (made l w gs ab) ds else none) = some (l1, gs1) := h
      by_cases q : canMove f r l gs w ab = true
      · rw [if_pos q] at h
        obtain ⟨h1, h2, h3⟩ := mvOf_some e
        have hh := canMove_has q fun p hp => (h3.1 p hp).2
        exact runD_ok ds h (made_ok hg hh.1 hh.2) hh.2
      · rw [if_neg q] at h; cases h
def within (lo hi : Int) : D → Bool
  | .int i => decide (lo ≤ i ∧ i ≤ hi)
  | _ => false
def wayB : D → Bool
  | .int i => decide (i = 1 ∨ i = -1)
  | _ => false
end Wl

/-! W1: rules of our own over the layer: each with the written part K told, and the constructs that it lacks. -/
namespace Wl
open PySem PySem.Spec PyProof.Rows L2
section
variable {X : Cx} {K : PySem.W.Frag}
theorem ix_tupK (h : X.K = K) : IxR X (rIxT K) := by subst h; exact ix_tup
theorem ix_listK (h : X.K = K) : IxR X (rIxL K) := by subst h; exact ix_list
theorem sl_listK (h : X.K = K) : SlR X (rSlL K) := by subst h; exact sl_list
theorem sl_tupK (h : X.K = K) : SlR X (rSlA K) := by subst h; exact sl_tupA
theorem op_catK (h : X.K = K) : OpR X (binaryOp .Add) (rCatA K) := by subst h; exact op_catA
theorem op_ltTK (h : X.K = K) (hu : X.A.units < cLine) : OpR X (compareOp .Lt) (rLtT K) := by subst h; exact op_ltT hu
theorem op_inK (h : X.K = K) : OpR X (compareOp .In) (rIn K false) := by subst h; exact op_in_seq
theorem call_isiK1 (h : X.K = K) : CallR X (.builtin "isinstance") (rIsi K) := by subst h; exact call_isi
def rLen (K : PySem.W.Frag) : List V → Hp → VK → Prop := fun xs H Q => ∃ p ys, xs = [.ref p] ∧ (SqL K H p ys ∨ SqT K H p ys) ∧ Q (.int ys.length) H
theorem call_lenK (h : X.K = K) : CallR X (.builtin "len") (rLen K) := by subst h; exact call_len_seq
theorem cr_allK (h : X.K = K) (hc : X.calm = true) : CallR X (.builtin "all") (rAll K) := by subst h; exact cr_all hc
theorem cr_sumK (h : X.K = K) (hc : X.calm = true) : CallR X (.builtin "sum") (rSum K) := by subst h; exact cr_sum hc
def rListOf (K : PySem.W.Frag) : List V → Hp → VK → Prop := fun xs H Q => ∃ p ys, xs = [.ref p] ∧ (SqL K H p ys ∨ SqT K H p ys) ∧ ∀ l, H l = none → Q (.ref l) (upd H l (.lst ys))
theorem call_listK (h : X.K = K) : CallR X (.type "list") (rListOf K) := by subst h; exact call_list_of
def rTupOf (K : PySem.W.Frag) : List V → Hp → VK → Prop := fun xs H Q => ∃ p ys, xs = [.ref p] ∧ ((SqL K H p ys ∧ ∀ l, H l = none → Q (.ref l) (upd H l (.tup ys))) ∨ (SqT K H p ys ∧ Q (.ref p) H))
theorem call_tupleK (h : X.K = K) : CallR X (.type "tuple") (rTupOf K) := by subst h; exact call_tuple_of
def rDictP (K : PySem.W.Frag) : List V → Hp → VK → Prop := fun xs H Q => ∃ (a : Addr) (ps : List Addr) (kvs : List (L2.Key × V)), xs = [.ref a] ∧ SqL K H a (ps.map V.ref) ∧ Paired (fun p kv => SqT K H p [kV kv.1, kv.2]) ps kvs ∧
    ∀ p, H p = none → Q (.ref p) (upd H p (.dK (mergeK [] kvs)))
theorem call_dictPK (h : X.K = K) (hc : X.calm = true) : CallR X (.type "dict") (rDictP K) := by subst h; exact call_dictP hc
theorem pe_fldK {e : Expr} {f : Str} {pos : Pos} {ta : TE} (h : X.K = K) (he : PE X e ta) (hb : attributeBase e f X.env (eval e X.env) = eval e X.env) : PE X (.Attribute e f pos) (tFld K ta f) := by
  subst h; exact pe_fld he hb
theorem ps_fldK {o value : Expr} {f : Str} {pos pos' : Pos} {ta tv : TE} (h : X.K = K) (ha : PE X o ta) (hv : PE X value tv) (hs : swapsWith value (some (.Attribute o f pos')) pos.line X.env = pure false) : PS X (.Assign [.Attribute o f pos'] value pos) (sFld K ta tv f) := by
  subst h; exact ps_fld ha hv hs
theorem pi_listK {tg l : Expr} {tl : TE} (h : X.K = K) (hl : PE X l tl) : PI X tg l (iList K tl) := by subst h; exact pi_list hl
theorem pi_tupK {tg l : Expr} {tl : TE} (h : X.K = K) (hl : PE X l tl) : PI X tg l (iTup K tl) := by subst h; exact pi_tup hl
theorem pi_zipK {e e2 : Expr} {ta : TA} {p pos tpos : Pos} {elts : List Expr} {kk : Nat} (h : X.K = K) (hg : Gl X "zip") (hm : X.mg "zip" = none) (ha : PA X [e, e2] ta)
    (hs : starEach [e, e2] X.env = (false, eval e X.env) :: starEach [e2] X.env := by rfl) (hpl : (backTo pos (starEach [e2] X.env)).any (·.1) = false := by rfl) :
    PI X (.Tuple elts kk tpos) (.Call (.Name "zip" p) [e, e2] [] pos) (RZ.iZipA K ta) := by subst h; exact RZ.pi_zipA hg hm ha hs hpl
theorem pg_tupK {es : List Expr} {k : Nat} {t : TGs} {n : Nat} {pos : Pos} (hK : X.K = K) (hc : X.calm = true) (h : PGs X es t)
    (hn : (assignEach es X.env).length = n := by rfl) (hst : (assignEach es X.env).findIdx? (·.1) = none := by rfl) : PG X (.Tuple es k pos) (gTup K n t) := by subst hK; exact pg_tup hc h hn hst
end

/-! ### a sequence against an empty one -/
section
variable {X : Cx} {K : PySem.W.Frag}
def rEqE (K : PySem.W.Frag) : R2 := fun x y H Q => ∃ (a b : Addr) (xs : List V), x = .ref a ∧ y = .ref b ∧ ((SqT K H a xs ∧ SqT K H b []) ∨ (SqL K H a xs ∧ SqL K H b [])) ∧ Q (.bl xs.isEmpty) H
theorem op_eqEK (hK : X.K = K) (hu : X.A.units + 64 < cLine) : OpR X (compareOp .Eq) (rEqE K) := by
  subst hK
  intro pins s σ H x y v u Q I rx ry h
  obtain ⟨a, b, xs, rfl, rfl, hs, q⟩ := h
  cases rx
  cases ry
  have hu' : X.A.units < cLine := by omega
  rcases hs with ⟨h1, h2⟩ | ⟨h1, h2⟩
  · obtain ⟨its, rv, ht, _⟩ := I.tuple h1
    obtain ⟨its2, rv2, ht2, _⟩ := I.tuple h2
    cases rv2
    refine SeqAt.eq_tupleAt (e := fun _ => true) ht ht2 hu' (fun j h1 h2 => absurd h2 (by simp)) ?_
    have e : ((List.range (min its.toArray.size ([] : List Value).toArray.size)).all (fun _ => true) && its.toArray.size == ([] : List Value).toArray.size) = xs.isEmpty := by
      have l := rv.length
      cases xs with
      | nil =>
        have : its = [] := List.eq_nil_of_length_eq_zero (by simpa using l.symm)
        subst this; rfl
      | cons z zs =>
        cases its with
        | nil => simp at l
        | cons y ys => simp
    rw [e]
    exact ⟨.bl _, H, I, rfl, q⟩
  · obtain ⟨its, rv, ht, _⟩ := I.list h1
    obtain ⟨its2, rv2, ht2, _⟩ := I.list h2
    cases rv2
    have l := rv.length
    cases xs with
    | nil =>
      have e : its = [] := List.eq_nil_of_length_eq_zero (by simpa using l.symm)
      subst e
      exact SeqAt.eq_listAt (e := fun _ => true) ht.isList ht2.isList rfl hu' (fun j h1 h2 => absurd h2 (by simp)) ⟨.bl true, H, I, rfl, q⟩
    | cons z zs =>
      cases its with
      | nil => simp at l
      | cons y ys => exact SeqAt.eq_list_lengthsAt ht.isList ht2.isList (by simp) hu' ⟨.bl false, H, I, rfl, q⟩
end

/-! ### t[::-1] of a tuple -/
section
variable {X : Cx} {K : PySem.W.Frag}
theorem places_back (n : Nat) : Builtin.Slice.slicePlaces ((n : Int) - 1) (-1) (-1) = n := by
  unfold Builtin.Slice.slicePlaces
  by_cases h : n = 0
  · subst h; decide
  · have h1 : ¬ ((-1 : Int) > 0) := by decide
    simp only [h1, if_false]
    first
      | (split <;> omega)
      | omega
      | (simp; omega)
end
section
variable {prog : Program} {w : World} {A : Around} {E : Value → Shared → Prop} {s : Shared}
theorem applied_back {sl : Addr} {vs : Value} {n : Nat} {Q : Int × Int × Nat → Shared → Prop} (hs : s.heap.IsSliceOf sl .none .none vs) (ps : IsPart vs (some (-1)))
    (h : Q ((n : Int) - 1, -1, n) s) : wpAny (model prog w) A (Builtin.Slice.sliceApplied (.ref sl) (pure (n : Int))) Q E s := by
  obtain ⟨os, hos, hcs, hds⟩ := id hs
  unfold Builtin.Slice.sliceApplied Builtin.Slice.sliceFields
  refine wpAny_bind (wpAny_bind (wpAny_field hos hds (x := .none) rfl (wpAny_bind (wpAny_field hos hds (x := .none) rfl (wpAny_bind (wpAny_field hos hds (x := vs) rfl (wpAny_pure ?_)))))))
  refine wpAny_bind (HT.slicePart_ ps ?_)
  show wpAny _ _ (if ((-1 : Int) == 0) = true then _ else _) _ _ s
  rw [if_neg (by decide)]
  refine wpAny_bind (slicePart_none (wpAny_bind (slicePart_none (wpAny_bind (wpAny_pure ?_)))))
  show wpAny _ _ (pure ((n : Int) - 1, (-1 : Int), Builtin.Slice.slicePlaces ((n : Int) - 1) (-1) (-1))) _ _ s
  rw [places_back]
  exact wpAny_pure h
theorem fm_congr {α β : Type} {f g : α → Option β} : ∀ {l : List α}, (∀ a ∈ l, f a = g a) → l.filterMap f = l.filterMap g
  | [], _ => rfl
  | a :: l, h => by
    rw [List.filterMap_cons, List.filterMap_cons, h a List.mem_cons_self, fm_congr fun b hb => h b (List.mem_cons_of_mem _ hb)]
theorem pick_back (xs : Array Value) : ((List.range xs.size).filterMap fun (m : Nat) => xs[(((xs.size : Int) - 1) + (m : Int) * (-1)).toNat]?).toArray = xs.toList.reverse.toArray := by
  have e : (List.range xs.size).filterMap (fun (m : Nat) => xs[(((xs.size : Int) - 1) + (m : Int) * (-1)).toNat]?) = (List.range xs.size).filterMap fun m => xs[xs.size - 1 - m]? := by
    refine fm_congr fun m hm => ?_
    have hm' := List.mem_range.mp hm
    have e2 : (((xs.size : Int) - 1) + (m : Int) * (-1)).toNat = xs.size - 1 - m := by omega
    rw [e2]
  rw [e]
  have h2 : (List.range xs.size).filterMap (fun m => xs[xs.size - 1 - m]?) = ((List.range xs.size).map (fun k => xs.size - 1 - k)).filterMap (xs[·]?) := by
    rw [List.filterMap_map]
    rfl
  rw [h2, PySem.W.krv_range, List.filterMap_reverse, PySem.W.krv_all]
theorem getItem_tuple_back {t sl : Addr} {items : Array Value} {vs : Value} {Q : Value → Shared → Prop} (ht : IsTup s.heap t items) (hs : s.heap.IsSliceOf sl .none .none vs) (ps : IsPart vs (some (-1)))
    (h : Q (.ref s.heap.objs.size) { s with heap := s.heap.push { cls := .type "tuple", data := .seq items.toList.reverse.toArray } })
    (hsz : items.size ≤ sizeLine) : wpAny (model prog w) A (getItem (.ref t) (.ref sl)) Q E s := by
  have htake : sizeOk (.seq items.toList.reverse.toArray) := by
    show items.toList.reverse.toArray.size ≤ sizeLine
    rw [List.size_toArray, List.length_reverse, Array.length_toList]
    exact hsz
  obtain ⟨os, hos, hcs, hds⟩ := id hs
  have hTs : s.TypeIs (.ref sl) "slice" := ⟨os, hos, hcs⟩
  unfold getItem
  try with_reducible refine wpAny_holding ?_
  first | refine wpAny_bind (wpAny_pure ?_) | skip
  refine wpAny_bind (wpAny_sequenceKey ht.typeIs (by decide) ?_)
  refine wpAny_bind (wpAny_callSpecial?_slot (name := Str.ofString "__getitem__") ht.typeIs PyProof.Rows.slot_tuple_getitem
    (wpAny_call_entry PyProof.Rows.slot_tuple_getitem ht.typeIs entry_tuple_getitem ?_ (args_tuple_getitem _ _)))
  show wpAny _ _ (Builtin.Tuple.tupleItemsOf (.ref t) >>= _) _ _ s
  refine wpAny_bind (tupleItemsOf_ ht ?_)
  refine wpAny_bind (wpAny_typeOf hTs ?_)
  rw [if_pos (by decide)]
  refine wpAny_bind (applied_back hs ps ?_)
  have hno : ¬ ((((items.size : Int) - 1) == 0 && (-1 : Int) == 1 && items.size == items.size) = true) := by
    intro q
    rw [Bool.and_eq_true, Bool.and_eq_true] at q
    exact absurd q.1.2 (by decide)
  show wpAny _ _ (if (((items.size : Int) - 1) == 0 && (-1 : Int) == 1 && items.size == items.size) = true then _ else _) _ _ s
  rw [if_neg hno, pick_back]
  first
    | exact wpAny_bind (m := Builtin.Tuple.tupleExact _) (wpAny_newObj_type (wpAny_pure ⟨_, rfl, wpAny_pure h⟩) htake)
    | exact wpAny_bind (m := Builtin.Tuple.tupleExact _) (wpAny_newObj_type (wpAny_bind (wpAny_pure (wpAny_pure ⟨_, rfl, wpAny_pure h⟩))) htake)
    | exact wpAny_bind (wpAny_bind (m := Builtin.Tuple.tupleExact _) (wpAny_newObj_type (wpAny_pure (wpAny_pure ⟨_, rfl, wpAny_pure h⟩)) htake))
    | exact wpAny_bind (wpAny_bind (m := Builtin.Tuple.tupleExact _) (wpAny_newObj_type (wpAny_pure ⟨_, rfl, wpAny_pure h⟩) htake))
end
def tRevT (K : PySem.W.Frag) (te : TE) : TE := fun σ H Q => te σ H fun x H1 => ∃ a xs, x = .ref a ∧ SqT K H1 a xs ∧ ∀ p, H1 p = none → Q (.ref p) (upd H1 p (.tup xs.reverse))
section
variable {X : Cx} {K : PySem.W.Frag}
theorem pe_revT {e : Expr} {te : TE} {k : Nat} {p1 p2 p3 pos : Pos} (hK : X.K = K) (he : PE X e te) : PE X (.Subscript e (.Slice none none (some (.UnaryOp .USub (.Constant (.int 1) k p1) p2)) p3) pos) (tRevT K te) := by
  subst hK
  refine ⟨fun pins s σ H Q I h => ?_⟩
  refine Subscript_ (thn (he.run pins s σ H _ I h) fun v s1 ⟨x, H1, I1, r1, q1⟩ => ?_)
  obtain ⟨a, xs, ex, hx, q⟩ := q1
  subst ex
  cases r1
  have hst : PO X (some (.UnaryOp .USub (.Constant (.int 1) k p1) p2)) (tPart (tUn (rU fun i => .int (-i)) (tC (.int 1)))) := po_some (pe_un un_neg pe_int)
  refine wpAny_Slice ?_
  rw [evalPart_none]
  refine wpAny_pure ?_
  refine wpAny_pure ?_
  refine thn (hst.run pins s1 σ H1 (fun o H4 => o = some (-1) ∧ H4 = H1) I1 ⟨1, rfl, -1, rfl, rfl, rfl⟩) fun vs s4 ⟨o, H4, I4, ps, eo, e4⟩ => ?_
  subst eo e4
  have I5 : Inv X pins σ H4 { s4 with heap := s4.heap.push { cls := .type "slice", data := .fields #[.none, .none, vs] } } := I4.kept (t' := s4.toks) fun b ob q => Heap.get?_push_of_some _ q
  obtain ⟨its, r, ht, hz⟩ := I5.tuple hx
  have hlen := r.length
  show wpAny (model X.prog X.w) X.A (subscriptTail e (.Slice none none (some (.UnaryOp .USub (.Constant (.int 1) k p1) p2)) p3) (.ref a) (.ref s4.heap.objs.size)) (EP X pins σ Q) X.xe { s4 with heap := s4.heap.push { cls := .type "slice", data := .fields #[.none, .none, vs] } }
  refine tail_any (ops := [.ref a, .ref s4.heap.objs.size]) ht.typeIs PyProof.Rows.slot_tuple_getitem.lookup ?_ (by with_unfolding_all rfl)
  refine getItem_tuple_back ht (Heap.IsSliceOf.new _ .none .none vs) ps ?_ (by rw [List.size_toArray]; omega)
  refine ⟨.ref _, _, I5.laid (t' := s4.toks) (o := .tup xs.reverse) (fun b ob q => Heap.get?_push_of_some _ q) (Nat.le_refl _) ?_, rfl, q _ (I5.hok.fresh (Nat.le_refl _))⟩
  exact ⟨by rw [List.length_reverse]; exact hz, its.reverse, r.reverse, ⟨_, Heap.get?_push_size _ rfl, rfl, 0, by simp⟩⟩
end
end Wl

/-! W2: dicts with tuple keys by a comprehension and by dict(pairs); enumerate of a tuple; sorted triples. -/
namespace Wl
open PySem PySem.Spec PyProof.Rows L2
/-! ### a dict comprehension whose keys are tuples -/
section
variable {X : Cx}
theorem d_dictSetT {pins : List (Addr × Obj)} {σ : L2.St} {H : Hp} {s : Shared} {E : Value → Shared → Prop} {D b : Addr} {kvs : List (List L2.Key × V)} {k : List L2.Key} {v : V} {u r : Value} {Q : Unit → Shared → Prop} (hu : X.A.units + 1 < cLine) (I : L2.Inv X pins σ H s) (hD : H D = some (.dT kvs)) (hz : kvs.length < sizeLine)
    (ry : RelV (.ref b) u) (eb : H b = some (.tup (k.map kV))) (rv : RelV v r) (h : ∀ s', L2.Inv X pins σ (upd H D (.dT (putK kvs k v))) s' → Q () s') : wpAny (model X.prog X.w) X.A (dictSet D u r) Q E s := by
  cases (show u = Value.ref b from ry)
  obtain ⟨z, hd, xs, rel, dd⟩ := dt_of I.hok hD
  have hzx : xs.length ≤ sizeLine := by rw [← Paired.length rel]; exact z
  have hl : (putK kvs k v).length ≤ sizeLine := by have := length_putK kvs k v; omega
  refine wpAny_dictSet_heap (hsz := hzx) (show X.A.units < cLine by omega) (key_of I.hok eb) dd fun h' dd' hs => h _ ?_
  obtain ⟨q, es, ep, hq, h2, h3, h4, _, h5⟩ := dd'
  refine d_write I (by rw [hD]; exact True.intro) hs ⟨q, hq⟩ ⟨hl, hd, _, (rel.put k eb rv).keeps fun c ys ec => ?_, q, es, ep, hq, h2, h3, h4, h5⟩
  rw [upd_ne (ne_of ec hD (fun z => nomatch z))]
  exact ec
def tDcT (wi : TI) (g : TG) (tt : TT) (tk tv : TE) (vs : List Nat) : TE := fun σ H Q => wi σ H fun J H1 => ∀ D, H1 D = none → ∃ W : Nat → Nat → Hp → Prop, (∃ m, W 0 m (upd H1 D (.dT []))) ∧ ∀ i m H, W i m H →
  (J.stop i H ∧ Q (.ref D) H) ∨ (J.go i H ∧ ∃ Nx : Hp → Prop, (∀ H', Nx H' → ∃ m', m' < m ∧ W (i + 1) m' H') ∧ ∀ x H', J.yld i H x H' → g x (wipe σ vs) H' fun σ2 H2 => wipe σ2 vs = wipe σ vs ∧ tt σ2 H2 fun b H3 =>
    if b = true then tk σ2 H3 fun y H4 => tv σ2 H4 fun z H5 => ∃ kvs k q, y = V.ref q ∧ H5 q = some (.tup (List.map kV k)) ∧ H5 D = some (.dT kvs) ∧ kvs.length < sizeLine ∧ Nx (upd H5 D (.dT (putK kvs k z))) else Nx H3)
theorem dcT_core {pins : List (Addr × Obj)} {s : Shared} {σ : L2.St} {H : Hp} {Q : VK} {kx vx tg iter : Expr} {ifs : List Expr} {scope : Scope} {own : List (Str × Nat)} {pos pos' : Pos} {wi : TI} {g : TG} {tt : TT} {tk tv : TE} {use : Option (Value → Sem Unit)} {Qf : Value → Shared → Prop}
    (hu : X.A.units + 1 < cLine) (hc : X.calm = true) (hN : X.N.Nodup) (I : L2.Inv X pins σ H s) (hi : PI X tg iter wi) (ok : BlkOk X.N X.env.scope scope own)
    (hg : ∀ (s : Shared) (H : Hp) (C : Addr) (cl : List (Str × Addr)) (fp : List Addr), PG (X.blk s H scope (compEnvC scope cl C X.env) fp) tg g) (ht : ∀ (s : Shared) (H : Hp) (C : Addr) (cl : List (Str × Addr)) (fp : List Addr), PTs (X.blk s H scope (compEnvC scope cl C X.env) fp) ifs tt)
    (hk : ∀ (s : Shared) (H : Hp) (C : Addr) (cl : List (Str × Addr)) (fp : List Addr), PE (X.blk s H scope (compEnvC scope cl C X.env) fp) kx tk)
    (he : ∀ (s : Shared) (H : Hp) (C : Addr) (cl : List (Str × Addr)) (fp : List Addr), PE (X.blk s H scope (compEnvC scope cl C X.env) fp) vx tv) (hs : ∀ x, foldedSetIterable iter X.env x = pure x)
    (h : tDcT wi g tt tk tv (own.map (·.2)) σ H Q)
    (hRR : ∀ D C s' m H', L2.Inv X pins σ H' s' → Q (.ref D) H' → s'.heap.Ns C m → FpOk X pins H' C → compPost (model X.prog X.w) X.A X.xe use Qf (.ref D) C (.ok .next) s') :
    wpAny (model X.prog X.w) X.A (comprehension (.DictComp kx vx [⟨tg, iter, ifs, 0⟩] scope pos) scope X.env pos' newDict false (eval iter X.env) use) Qf X.xe s := by
  have hfree : ∀ y ∈ scope.names, y.2 = .free → ∃ c, X.env.cells.lookup y.1 = some c := fun y hy e => by
    rcases ok.free y hy e with k | k
    · exact I.ok.has _ (.inl k)
    · exact I.ok.has _ (.inr k)
  refine wpAny_comprehension_free (use := use) rfl hs (closure_ok hfree) ok.kind (fun y hy e => by rw [ok.uniq y hy, e])
    (thn (hi.run pins s σ H _ I h) fun xv s1 hx => thn hx fun itv s2 h2 => ?_)
  obtain ⟨it, fp, tn, J, H2, e, I2, T, st2, f2, q⟩ := h2
  subst e
  refine wpAny_newObj_type (newEnv_comp ?_)
  generalize hD : s2.heap.objs.size = D
  have hDn : H2 D = none := I2.hok.fresh (Nat.le_of_eq hD)
  obtain ⟨W, ⟨m0, w0⟩, turn⟩ := q D hDn
  generalize hs3 : ({ s2 with heap := s2.heap.push { cls := .type "dict", data := .dict #[] } } : Shared) = s3
  have I3 : L2.Inv X pins σ (upd H2 D (.dT [])) s3 := by
    rw [← hs3]
    refine I2.laid (t' := s2.toks) (fun b o e => Heap.get?_push_of_some _ e) (Nat.le_of_eq hD) ?_
    rw [← hD]
    exact dt_empty s2.heap I2.big
  have h3 : s3.heap = s2.heap.push { cls := .type "dict", data := .dict #[] } := by rw [← hs3]
  have sz : ∀ b ∈ fp, b < s2.heap.objs.size := fun b hb => by
    obtain ⟨o, e, _⟩ := T.obj _ _ st2 b hb
    exact Heap.lt_size e
  have f3 : ∀ b ∈ fp, FpOk X pins (upd H2 D (.dT [])) b ∧ b < s3.heap.objs.size := fun b hb => by
    have hlt := sz b hb
    refine ⟨⟨?_, (f2 b hb).2⟩, by rw [h3, Heap.size_push]; exact Nat.lt_succ_of_lt hlt⟩
    rw [upd_ne (by rw [← hD]; exact Nat.ne_of_lt hlt)]
    exact (f2 b hb).1
  have st3 : tn 0 s3.heap := T.keep _ _ _ st2 fun b _ o e => by rw [h3]; exact Heap.get?_push_of_some _ e
  have I4 := block_start I3 ok hN f3
  have pg := hg s3 (upd H2 D (.dT [])) s3.heap.objs.size (cellsFrom (s3.heap.objs.size + 1) scope.names (cloFrom X.env.cells scope.names [])) fp
  have pt := ht s3 (upd H2 D (.dT [])) s3.heap.objs.size (cellsFrom (s3.heap.objs.size + 1) scope.names (cloFrom X.env.cells scope.names [])) fp
  have pk := hk s3 (upd H2 D (.dT [])) s3.heap.objs.size (cellsFrom (s3.heap.objs.size + 1) scope.names (cloFrom X.env.cells scope.names [])) fp
  have pe := he s3 (upd H2 D (.dT [])) s3.heap.objs.size (cellsFrom (s3.heap.objs.size + 1) scope.names (cloFrom X.env.cells scope.names [])) fp
  show codeAny _ _ (.compStart (.DictComp kx vx [⟨tg, iter, ifs, 0⟩] scope pos) 0 (.ref it) (.ref D) (compEnvC scope (cellsFrom (s3.heap.objs.size + 1) scope.names (cloFrom X.env.cells scope.names [])) s3.heap.objs.size X.env)) (compPost (model X.prog X.w) X.A X.xe use Qf (.ref D) s3.heap.objs.size) { s3 with heap := pushCells (s3.heap.push { cls := .type "dict", data := .dict #[] }) scope.names }
  have nfp : ∀ b ∈ fp, (upd H2 D (.dT [])) b = none := fun b hb => (f3 b hb).1.1
  generalize hce : compEnvC scope (cellsFrom (s3.heap.objs.size + 1) scope.names (cloFrom X.env.cells scope.names [])) s3.heap.objs.size X.env = ce at I4 pg pt pk pe ⊢
  have cL : ce.locals = s3.heap.objs.size := by subst hce; rfl
  generalize hH3 : upd H2 D (.dT []) = H3 at I3 I4 pg pt pk pe w0 nfp f3
  generalize hs4 : ({ s3 with heap := pushCells (s3.heap.push { cls := .type "dict", data := .dict #[] }) scope.names } : Shared) = s4 at I4 ⊢
  have st4 : tn 0 s4.heap := T.keep _ _ _ st3 fun b _ o e => by rw [← hs4]; exact pushCells_keeps _ _ _ _ (Heap.get?_push_of_some _ e)
  have stat : ∀ {σ' : L2.St} {H' : Hp} {s' : Shared}, L2.Inv (X.blk s3 H3 scope ce fp) [] σ' H' s' → (∀ b ∈ fp, H' b = none) → ∀ b ∈ fp, FpOk (X.blk s3 H3 scope ce fp) [] H' b := fun {σ' H' s'} I' hn b hb =>
    ⟨hn b hb, (I'.ok.exf b hb).1, I'.ok.exfs b hb, .inl hb, fun x c e => (I'.ok.exf b hb).2 x c e, fun p hp => absurd (show p ∈ ([] : List (Addr × Obj)) ++ [] from hp) (by simp)⟩
  have loop : codeAny (model X.prog X.w) X.A (.compLoop (.DictComp kx vx [⟨tg, iter, ifs, 0⟩] scope pos) 0 (.ref it) (.ref D) ce) (compPost (model X.prog X.w) X.A X.xe use Qf (.ref D) s3.heap.objs.size) s4 := by
    refine compLoop_anyD (fun n s' => ∃ i H', L2.Inv (X.blk s3 H3 scope ce fp) [] (wipe σ (own.map (·.2))) H' s' ∧ tn i s'.heap ∧ (∀ b ∈ fp, H' b = none) ∧ W i n H') ?_ m0 ⟨0, H3, I4, st4, nfp, w0⟩
    rintro n s5 ⟨i, H5, I5, st5, n5, w5⟩
    rcases turn i n H5 w5 with ⟨stop, qq⟩ | ⟨go, Nx, hNx, step⟩
    · have td := T.done (X.blk s3 H3 scope ce fp) rfl rfl rfl hc i [] s5 _ H5 (fun _ _ => False) I5 (stat I5 n5) st5 stop
      refine thnF td fun r s6 ⟨hr, I6⟩ => ?_
      subst hr
      have I7 : L2.Inv X pins σ H5 s6 := I3.call' (ch := fp) I6.os I6.base I6.hok I6.bare fun b hb => ⟨(f3 b hb).1.2.2.2.1, (f3 b hb).1.2.1, (f3 b hb).1.2.2.2.2.1, (f3 b hb).1.2.2.2.2.2⟩
      have nC : H5 s3.heap.objs.size = none := by
        have z : H5 ce.locals = none := I6.free
        rw [cL] at z
        exact z
      obtain ⟨m, hn, _⟩ := I6.loc
      have hn : s6.heap.Ns ce.locals m := hn
      rw [cL] at hn
      exact hRR D s3.heap.objs.size s6 m H5 I7 qq hn (I3.fpOk (Nat.le_refl _) nC)
    · have ti := T.item (X.blk s3 H3 scope ce fp) rfl rfl rfl hc i [] s5 _ H5 (fun _ _ => False) I5 (stat I5 n5) st5 go
      refine thnF ti fun r s6 ⟨u, hr, h6⟩ => ?_
      subst hr
      refine thnF h6 fun _ s7 ⟨x, H7, I7, r7, y7, st7, n7⟩ => ?_
      have I7' := I7.pinned (stat I7 n7) (T.obj _ _ st7)
      refine thnF (pg.run _ s7 _ H7 x u _ I7' r7 (step x H7 y7)) fun _ s8 ⟨σ8, H8, I8, hw8, q8⟩ => ?_
      refine thnF (pt.run _ s8 σ8 H8 _ I8 q8) fun b s9 ⟨H9, I9, q9⟩ => ?_
      have fin : ∀ {s' : Shared} {H' : Hp}, L2.Inv (X.blk s3 H3 scope ce fp) ([] ++ pinsAt fp s7.heap) σ8 H' s' → Nx H' → ∃ m, m < n ∧ ∃ i H', L2.Inv (X.blk s3 H3 scope ce fp) [] (wipe σ (own.map (·.2))) H' s' ∧ tn i s'.heap ∧ (∀ b ∈ fp, H' b = none) ∧ W i m H' := fun {s' H'} I' nx => by
        obtain ⟨m', hm, w'⟩ := hNx H' nx
        have pin' : ∀ b ∈ fp, ∀ o, s7.heap.get? b = some o → s'.heap.get? b = some o ∧ H' b = none := fun b hb o e =>
          let z := I'.pin (b, o) (List.mem_append_right _ (List.mem_append_right _ (mem_pinsAt hb e)))
          ⟨z.1, z.2.1⟩
        have hl : (wipe σ (own.map (·.2))).length = σ8.length := by rw [← hw8, wipe_length]
        refine ⟨m', hm, i + 1, H', (I'.unpinned (pins := [])).weak hl (fun j v e => ?_), T.keep _ _ _ st7 fun b hb o e => (pin' b hb o e).1, fun b hb => ?_, w'⟩
        · rw [← hw8] at e
          exact (wipe_some e).1
        · obtain ⟨o, e, _⟩ := T.obj _ _ st7 b hb
          exact (pin' b hb o e).2
      cases b with
      | false =>
        simp only [Bool.false_eq_true, if_false] at q9 ⊢
        exact fin I9 q9
      | true =>
        simp only [if_true] at q9 ⊢
        refine thnF (pk.run _ s9 σ8 H9 _ I9 q9) fun z s10 ⟨yk, H10, I10, r10, q10⟩ => ?_
        refine thnF (pe.run _ s10 σ8 H10 _ I10 q10) fun z2 s11 ⟨yv, H11, I11, r11, kvs, k, qa, ek, hq11, hD11, hz11, nx⟩ => ?_
        subst ek
        exact d_dictSetT (X := X.blk s3 H3 scope ce fp) hu I11 hD11 hz11 r10 hq11 r11 fun s12 I12 => fin I12 nx
  exact codeAny_compStart_dict loop (T.self X.A 0 _ _ _ st4 loop)
theorem pe_dcT {kx vx tg iter : Expr} {ifs : List Expr} {scope : Scope} {own : List (Str × Nat)} {pos : Pos} {wi : TI} {g : TG} {tt : TT} {tk tv : TE} (hu : X.A.units + 1 < cLine) (hc : X.calm = true) (hN : X.N.Nodup) (hi : PI X tg iter wi) (ok : BlkOk X.N X.env.scope scope own)
    (hg : ∀ (s : Shared) (H : Hp) (C : Addr) (cl : List (Str × Addr)) (fp : List Addr), PG (X.blk s H scope (compEnvC scope cl C X.env) fp) tg g) (ht : ∀ (s : Shared) (H : Hp) (C : Addr) (cl : List (Str × Addr)) (fp : List Addr), PTs (X.blk s H scope (compEnvC scope cl C X.env) fp) ifs tt)
    (hk : ∀ (s : Shared) (H : Hp) (C : Addr) (cl : List (Str × Addr)) (fp : List Addr), PE (X.blk s H scope (compEnvC scope cl C X.env) fp) kx tk)
    (he : ∀ (s : Shared) (H : Hp) (C : Addr) (cl : List (Str × Addr)) (fp : List Addr), PE (X.blk s H scope (compEnvC scope cl C X.env) fp) vx tv) (hs : ∀ x, foldedSetIterable iter X.env x = pure x := by intro _; rfl) :
    PE X (.DictComp kx vx [⟨tg, iter, ifs, 0⟩] scope pos) (tDcT wi g tt tk tv (own.map (·.2))) := by
  refine ⟨fun pins s σ H Q I h => ?_⟩
  rw [arm_eval_DictComp]
  refine dcT_core hu hc hN I hi ok hg ht hk he hs h fun D C s' m H' I' q hn f => ⟨m, hn, fun h'' sb => ?_⟩
  obtain ⟨f0, f1, f2, f3, f4, f5⟩ := f
  exact ⟨.ref D, H', I'.turned (t' := s'.toks) (fun b o hb e => (sb.2 b hb).trans e) f0 f1 f3 f4 f5, rfl, q⟩
theorem dcT_tup {K : PySem.W.Frag} {a : Addr} {xs : List V} {g : TG} {tt : TT} {tk tv : TE} {vs : List Nat} {σ : L2.St} {H1 : Hp} {D : Addr} {Qd : Hp → Prop} (Pv : Nat → Hp → Prop) (h0 : Pv 0 (upd H1 D (.dT []))) (hl : ∀ i H, i ≤ xs.length → Pv i H → SqT K H a xs)
    (hs : ∀ i x H, xs[i]? = some x → Pv i H → g x (wipe σ vs) H fun σ2 H2 => wipe σ2 vs = wipe σ vs ∧ tt σ2 H2 fun b H3 =>
      if b = true then tk σ2 H3 fun y H4 => tv σ2 H4 fun z H5 => ∃ kvs k q, y = V.ref q ∧ H5 q = some (.tup (List.map kV k)) ∧ H5 D = some (.dT kvs) ∧ kvs.length < sizeLine ∧ Pv (i + 1) (upd H5 D (.dT (putK kvs k z))) else Pv (i + 1) H3) (hd : ∀ H, Pv xs.length H → Qd H) :
    ∃ W : Nat → Nat → Hp → Prop, (∃ m, W 0 m (upd H1 D (.dT []))) ∧ ∀ i m H, W i m H →
      ((Itt K a).stop i H ∧ Qd H) ∨ ((Itt K a).go i H ∧ ∃ Nx : Hp → Prop, (∀ H', Nx H' → ∃ m', m' < m ∧ W (i + 1) m' H') ∧ ∀ x H', (Itt K a).yld i H x H' → g x (wipe σ vs) H' fun σ2 H2 => wipe σ2 vs = wipe σ vs ∧ tt σ2 H2 fun b H3 =>
        if b = true then tk σ2 H3 fun y H4 => tv σ2 H4 fun z H5 => ∃ kvs k q, y = V.ref q ∧ H5 q = some (.tup (List.map kV k)) ∧ H5 D = some (.dT kvs) ∧ kvs.length < sizeLine ∧ Nx (upd H5 D (.dT (putK kvs k z))) else Nx H3) := by
  refine ⟨fun i m H => m = xs.length - i ∧ i ≤ xs.length ∧ Pv i H, ⟨xs.length, by simp, Nat.zero_le _, h0⟩, ?_⟩
  rintro i m H ⟨rfl, hi, p⟩
  have q := hl i H hi p
  by_cases hlt : i < xs.length
  · refine .inr ⟨⟨xs, xs[i], q, by simp [hlt]⟩, Pv (i + 1), fun H' p' => ⟨xs.length - (i + 1), by omega, rfl, hlt, p'⟩, fun x H' y => ?_⟩
    obtain ⟨e, y⟩ := y
    subst e
    exact hs i x _ (y xs q) p
  · have e : i = xs.length := by omega
    subst e
    exact .inl ⟨⟨xs, q, Nat.le_refl _⟩, hd H p⟩
end

/-! ### dict(list of pairs), the keys tuples -/
def mergeT (kvs more : List (List L2.Key × V)) : List (List L2.Key × V) := more.foldl (fun acc kv => putK acc kv.1 kv.2) kvs
theorem length_mergeT : ∀ (more kvs : List (List L2.Key × V)), (mergeT kvs more).length ≤ kvs.length + more.length
  | [], kvs => Nat.le_refl _
  | p :: more, kvs => by
    have h1 := length_mergeT more (putK kvs p.1 p.2)
    have h2 := length_putK kvs p.1 p.2
    show (mergeT (putK kvs p.1 p.2) more).length ≤ _
    rw [List.length_cons]
    omega
theorem merge_KT {H : Hp} : ∀ {es : List (List L2.Key × Addr × V)} {ps : List (List L2.Key × Addr × Value)} {kvs : List (List L2.Key × V)} {xs : List (List L2.Key × Addr × Value)},
    Paired (fun (e : List L2.Key × Addr × V) (p : List L2.Key × Addr × Value) => e.1 = p.1 ∧ e.2.1 = p.2.1 ∧ H e.2.1 = some (.tup (e.1.map kV)) ∧ RelV e.2.2 p.2.2) es ps → KT H kvs xs →
    KT H (mergeT kvs (es.map fun e => (e.1, e.2.2))) (storedAllH xs ps)
  | _, _, _, _, .nil, h => h
  | _, _, kvs, xs, .cons (a := e) (b := p) r t, h => by
    obtain ⟨e1, e2, e3, e4⟩ := r
    have h2 := h.put e.1 e3 e4
    rw [List.map_cons]
    show KT H (mergeT (putK kvs e.1 e.2.2) _) (storedAllH (storedH xs p.1 p.2.1 p.2.2) _)
    rw [← e1, ← e2]
    exact merge_KT t h2
section
variable {X : Cx} {K : PySem.W.Frag}
def rDictT (K : PySem.W.Frag) : List V → Hp → VK → Prop := fun xs H Q => ∃ (a : Addr) (ps : List Addr) (es : List (List L2.Key × Addr × V)), xs = [.ref a] ∧ SqL K H a (ps.map V.ref) ∧
    Paired (fun (p : Addr) (e : List L2.Key × Addr × V) => SqT K H p [.ref e.2.1, e.2.2] ∧ H e.2.1 = some (.tup (e.1.map kV))) ps es ∧
    ∀ p, H p = none → Q (.ref p) (upd H p (.dT (mergeT [] (es.map fun e => (e.1, e.2.2)))))
theorem pairsT_of {pins : List (Addr × Obj)} {σ : L2.St} {H : Hp} {s : Shared} (I : L2.Inv X pins σ H s) : ∀ {ps : List Addr} {es : List (List L2.Key × Addr × V)}, Paired (fun (p : Addr) (e : List L2.Key × Addr × V) => SqT X.K H p [.ref e.2.1, e.2.2] ∧ H e.2.1 = some (.tup (e.1.map kV))) ps es →
    ∃ qs : List (List L2.Key × Addr × Value), Paired (fun (e : List L2.Key × Addr × V) (p : List L2.Key × Addr × Value) => e.1 = p.1 ∧ e.2.1 = p.2.1 ∧ H e.2.1 = some (.tup (e.1.map kV)) ∧ RelV e.2.2 p.2.2) es qs ∧ qs.length = ps.length ∧
      ∀ (j : Nat) (q : List L2.Key × Addr × Value), qs[j]? = some q → ∃ b : Addr, ps[j]? = some b ∧ IsTup s.heap b #[.ref q.2.1, q.2.2]
  | _, _, .nil => ⟨[], .nil, rfl, fun j q e => by simp at e⟩
  | _, _, .cons (a := p) (b := kv) h t => by
    obtain ⟨qs, r, hl, hp⟩ := pairsT_of I t
    obtain ⟨its, rv, ht, _⟩ := I.tuple h.1
    obtain ⟨u, y, ei, ru, ry⟩ := vals2 rv
    subst ei
    cases ru
    refine ⟨(kv.1, kv.2.1, y) :: qs, .cons ⟨rfl, rfl, h.2, ry⟩ r, by rw [List.length_cons, List.length_cons, hl], fun j q e => ?_⟩
    cases j with
    | zero =>
      have e' : (kv.1, kv.2.1, y) = q := Option.some.inj e
      subst e'
      exact ⟨p, rfl, ht⟩
    | succ j =>
      obtain ⟨b, e1, e2⟩ := hp j q (by simpa using e)
      exact ⟨b, by simpa using e1, e2⟩
theorem call_dictTK (hK : X.K = K) (hcalm : X.calm = true) (hu : X.A.units + 64 < cLine) : CallR X (.type "dict") (rDictT K) := by
  subst hK
  intro pins s σ H xs us Q I r q
  obtain ⟨a, ps, es, ex, hq, hp, q⟩ := q
  subst ex
  obtain ⟨u, eu, rx⟩ := vals1 r
  subst eu
  cases rx
  obtain ⟨its, rv, pl, hz⟩ := I.list hq
  have ei := refs_at rv
  subst ei
  rw [List.length_map] at hz
  obtain ⟨qs, rel, hl, hpr⟩ := pairsT_of I hp
  obtain ⟨o, n, ho, hc, hd, hdat⟩ := pl
  have arg := PySem.PairArg.list (prog := X.prog) (w := X.w) a (ps.map Value.ref).toArray (fun j => ps.getD j 0) (qs.map fun q => (Value.ref q.2.1, q.2.2))
  refine PySem.call_dict_pairsH (knd := tupleKind (mixKind X.prog X.w)) (ps := qs) arg (I.ok.hd hcalm) (show X.A.units + 1 + 1 < cLine by omega) ⟨⟨o, n, ho, hc, hd, hdat⟩, ?_, fun j k v e => ?_⟩ ⟨by rw [List.length_map], fun i key v e => ?_⟩ (fun h' hk x hx => ?_) (by rw [List.length_map, hl]; exact hz) fun h' tk hd' hk => ?_
  · simp [hl]
  · rw [List.getElem?_map] at e
    cases e2 : qs[j]? with
    | none => rw [e2] at e; cases e
    | some q0 =>
      rw [e2] at e
      have e3 : (Value.ref q0.2.1, q0.2.2) = (k, v) := Option.some.inj e
      cases e3
      obtain ⟨b, hb, htup⟩ := hpr j q0 e2
      have hg : ps.getD j 0 = b := by rw [List.getD_eq_getElem?_getD, hb]; rfl
      refine ⟨by simp [hb], .inl ?_⟩
      show s.heap.IsTuple (ps.getD j 0) _
      rw [hg]
      obtain ⟨ob, h1, h2, nn, h3⟩ := htup
      exact ⟨ob, h1, h2, nn, h3⟩
  · have e : (qs.map fun q => (Value.ref q.2.1, q.2.2))[i]? = some (key, v) := e
    rw [List.getElem?_map] at e
    cases e2 : qs[i]? with
    | none => rw [e2] at e; cases e
    | some q0 =>
      rw [e2] at e
      have e3 : (Value.ref q0.2.1, q0.2.2) = (key, v) := Option.some.inj e
      cases e3
      exact ⟨q0.1, q0.2.1, rfl, rfl⟩
  · have hall : ∀ {es : List (List L2.Key × Addr × V)} {qs : List (List L2.Key × Addr × Value)}, Paired (fun (e : List L2.Key × Addr × V) (p : List L2.Key × Addr × Value) => e.1 = p.1 ∧ e.2.1 = p.2.1 ∧ H e.2.1 = some (.tup (e.1.map kV)) ∧ RelV e.2.2 p.2.2) es qs → ∀ x ∈ qs, H x.2.1 = some (.tup (x.1.map kV)) := by
      intro es qs r
      induction r with
      | nil => intro x hx; cases hx
      | cons h t ih =>
        intro x hx
        rcases List.mem_cons.mp hx with e | hx
        · subst e
          rw [← h.1, ← h.2.1]
          exact h.2.2.1
        · exact ih x hx
    have e := hall rel x hx
    obtain ⟨ob, its, nn, h1, h2, h3, h4⟩ := key_of I.hok e
    exact ⟨ob, its, nn, hk _ _ (Nat.ne_of_lt (Heap.lt_size h1)) (by simp) h1, h2, h3, h4⟩
  · have hm : (s.heap.objs.size == sysModules) = false := beq_eq_false_iff_ne.mpr (Nat.ne_of_gt I.big)
    have fr : H s.heap.objs.size = none := I.hok.fresh (Nat.le_refl _)
    have hlen : (mergeT [] (es.map fun e => (e.1, e.2.2))).length ≤ sizeLine := by
      refine Nat.le_trans (length_mergeT _ []) ?_
      rw [List.length_nil, Nat.zero_add, List.length_map, Paired.length rel, hl]
      exact hz
    obtain ⟨ob, es', ep, h1, h2, h3, h4, _, h5⟩ := hd'
    refine ⟨.ref s.heap.objs.size, upd H s.heap.objs.size (.dT (mergeT [] (es.map fun e => (e.1, e.2.2)))), I.laid (t' := tk) (fun b o e => hk b o (by simp) e) (Nat.le_refl _) ?_, rfl, q _ fr⟩
    refine ⟨hlen, hm, storedAllH [] qs, KT.keeps (merge_KT rel .nil) (fun b ys eb => ?_), ob, es', ep, h1, h2, h3, h4, h5⟩
    rw [upd_ne (ne_of_none eb fr)]
    exact eb
end

/-! ### enumerate(tuple) -/
section
variable {prog : Program} {w : World} {A : Around} {E : Value → Shared → Prop} {s : Shared}
set_option maxHeartbeats 8000000 in
theorem meets_enumerate_newT (t : Addr) (items : Array Value) :
    Meets (Builtin.«enumerate.__new__» ⟨[.type "enumerate", .ref t], []⟩) (fun _ R s => s.heap.IsTuple t items ∧
      R (.ok (.ret (.ref (s.heap.push { cls := .type "tuple_iterator", data := .fields #[.ref t, .int 0 0] }).objs.size)))
        { s with heap := (s.heap.push { cls := .type "tuple_iterator", data := .fields #[.ref t, .int 0 0] }).push { cls := .type "enumerate", data := .fields #[.none, .bool false, .ref s.heap.objs.size, rawInt 0, .none, .none] } }) :=
  .of_wp fun prog w A R s h => by
    obtain ⟨hp, g, d, tk, os⟩ := s
    obtain ⟨h1, h⟩ := h
    have hsub := sub_enumerate
    have q1 : ∀ {A' : Around} {E : Value → Shared → Prop} {Q : Value → Shared → Prop}, Q (.ref hp.objs.size) ⟨hp.push { cls := .type "tuple_iterator", data := .fields #[.ref t, .int 0 0] }, g, d, tk, os⟩ → wpAny (model prog w) A' (pyIter (.ref t)) Q E ⟨hp, g, d, tk, os⟩ :=
      fun q => (begins_tuple t items).iter prog w _ _ ⟨hp, g, d, tk, os⟩ _ h1 q
    wp_walk using q1
    refine wpAny_stack_any fun st => wpAny_pure ?_
    split
    · rename_i c _ _ _ _ _
      cases (c == Value.type "enumerate")
      · wp_walk using q1
        exact ⟨_, rfl, h⟩
      · wp_walk using q1
        exact ⟨_, rfl, h⟩
    · wp_walk using q1
      exact ⟨_, rfl, h⟩
theorem call_enumerate_tup {t : Addr} {items : Array Value} {Q : Value → Shared → Prop} (h1 : s.heap.IsTuple t items)
    (h : ∀ h', IsEnum h' (s.heap.objs.size + 1) s.heap.objs.size 0 .none → h'.IsTupleIter s.heap.objs.size t 0 → h'.objs.size = s.heap.objs.size + 2 →
      (∀ b o, s.heap.get? b = some o → h'.get? b = some o) → Q (.ref (s.heap.objs.size + 1)) { s with heap := h' }) :
    wpAny (model prog w) A (call (.type "enumerate") [.ref t]) Q E s := by
  refine callType_new F.called_enumerate (by decide) (F.typeCall_enumerate_1 _) (F.newCall_enumerate_1 _) (fun obj => F.args_object_init_2 obj _) F.entry_enumerate_new
    (meets_enumerate_newT t items) ⟨h1, ?_⟩
  have hz : (s.heap.push { cls := .type "tuple_iterator", data := .fields #[.ref t, .int 0 0] }).objs.size = s.heap.objs.size + 1 := Heap.size_push ..
  show _ ∧ _
  rw [hz]
  have he : IsEnum ((s.heap.push { cls := .type "tuple_iterator", data := .fields #[.ref t, .int 0 0] }).push { cls := .type "enumerate", data := .fields #[.none, .bool false, .ref s.heap.objs.size, rawInt 0, .none, .none] }) (s.heap.objs.size + 1) s.heap.objs.size 0 .none := by
    have := Heap.get?_push_size (s.heap.push { cls := .type "tuple_iterator", data := .fields #[.ref t, .int 0 0] })
      (o := { cls := .type "enumerate", data := .fields #[.none, .bool false, .ref s.heap.objs.size, rawInt 0, .none, .none] }) rfl
    rw [hz] at this; exact this
  exact ⟨⟨_, he, rfl⟩, h _ he ⟨_, Heap.get?_push_of_some _ (Heap.get?_push_size _ rfl), rfl, rfl⟩ (by rw [Heap.size_push, hz]) fun b o x => Heap.get?_push_of_some _ (Heap.get?_push_of_some _ x)⟩
end
/-- a tuple's iterator at or behind its end -/
theorem drawsEnd {prog : Program} {w : World} {A : Around} (hh : A.handled = none) (it t : Addr) (hne : t ≠ it) (items : Array Value) (n : Nat) (hn : items.size ≤ n) :
    Draws prog w A it [it, t] n (fun _ _ => True) (fun i h => (n ≤ i ∧ h.IsTupleIter it t i ∧ h.IsTuple t items) ∨ (i < n ∧ False)) where
  live := fun _ _ st => by
    rcases st with st | st
    · obtain ⟨_, ⟨o, ho, _⟩, _⟩ := st
      exact ⟨o, ho⟩
    · exact st.2.elim
  frame := fun _ _ _ st hk => by
    rcases st with st | st
    · exact .inl ⟨st.1, st.2.1.at fun o e => hk it (by simp) o e, st.2.2.at fun o e => hk t (by simp) o e⟩
    · exact st.2.elim
  item := fun i s Q E hi st hQ => by
    rcases st with st | st
    · have := st.1
      omega
    · exact st.2.elim
  done := fun s Q E st hE => by
    rcases st with st | st
    · exact wpAny_nextOf_tuple_end hh st.2.1 st.2.2 (Array.getElem?_eq_none hn) hE
    · exact st.2.elim
/-- the tuple at a as it stands, each item in a new pair -/
def IteT (K : PySem.W.Frag) (a : Addr) : It :=
  ⟨fun i H => ∃ (xs : List V) (x : V), SqT K H a xs ∧ xs[i]? = some x, fun i H v H' => ∃ T x, v = .ref T ∧ H T = none ∧ H' = upd H T (.tup [.int (i : Nat), x]) ∧ ∀ xs, SqT K H a xs → xs[i]? = some x, fun i H => ∃ xs : List V, SqT K H a xs ∧ xs.length ≤ i⟩
theorem turn_enumT {P : Program} {w : World} {K : PySem.W.Frag} {elts : List Expr} {kk : Nat} {tpos : Pos} (a e it : Addr) (hae : a ≠ e) (hait : a ≠ it) :
    Turn P w K (.Tuple elts kk tpos) (IteT K a) [e, it] e (fun i h => (∃ old, IsEnum h e it ((i : Nat) : Int) old) ∧ h.IsTupleIter it a i ∧ e ≠ it) where
  mem := by simp
  obj := fun i h st b hb => by
    obtain ⟨⟨old, he⟩, ⟨o, ho, hc, hd⟩, _⟩ := st
    have e' : b = e ∨ b = it := by simpa using hb
    rcases e' with z | z
    · rw [z]; exact ⟨_, he, fun v q => nomatch q⟩
    · rw [z]; exact ⟨o, ho, fun v q => by rw [hd] at q; cases q⟩
  keep := fun i h h' st k => let ⟨⟨old, he⟩, hi, hne⟩ := st; ⟨⟨old, k e (by simp) _ he⟩, hi.at fun o q => k it (by simp) o q, hne⟩
  item := by
    intro X hP hw hK hc i pins s σ H E I hf st hg
    subst hP hw hK
    obtain ⟨⟨old, he⟩, hit, hne⟩ := st
    obtain ⟨xs, x, hq, hx⟩ := hg
    obtain ⟨its, rv, p, hz⟩ := I.tuple hq
    obtain ⟨u, hu, ru⟩ := rv.get hx
    have hel : e < s.heap.objs.size := Heap.lt_size he
    have hil : it < s.heap.objs.size := by obtain ⟨_, q, _⟩ := hit; exact Heap.lt_size q
    have hlt : i < its.toArray.size := by
      have := (List.getElem?_eq_some_iff.mp hu).1
      simpa using this
    refine wpAny_pyNext_enum_itemD (Draws.tuple (prog := X.prog) (w := X.w) (A := X.A.in1) (I.ok.hd hc) it a hait its.toArray) he ⟨hit, p⟩ hlt hne (by simp [hne, Ne.symm hae]) fun y h' tk hP ho hs' hT hsz hk => ?_
    have ey : y = u := by
      have hP' : its.toArray[i]? = some y := hP
      have : its[i]? = some y := by simpa using hP'
      rw [hu] at this
      exact (Option.some.inj this).symm
    subst ey
    refine ⟨_, rfl, wpAny_letOwnedTupleGo_enum (s := { s with heap := h', toks := tk + 1 }) ho fun h'' he' sb => ?_⟩
    have hT2 : h''.get? s.heap.objs.size = some { cls := .type "tuple", data := .seq #[.int i tk, y] } := (sb.2 _ (Nat.ne_of_gt hel)).trans hT
    have new : ObjOk X.prog X.w (upd H s.heap.objs.size (.tup [.int (i : Nat), x])) h'' s.heap.objs.size (.tup [.int (i : Nat), x]) :=
      ⟨by show 2 ≤ sizeLine; decide, [.int i tk, y], .cons ⟨_, rfl⟩ (.cons ru .nil), ⟨_, hT2, rfl, 0, rfl⟩⟩
    have I1 : L2.Inv X pins σ (upd H s.heap.objs.size (.tup [.int (i : Nat), x])) { s with heap := h'', toks := tk + 1 } :=
      I.turnedNew (ch := [e, it]) (fun b ob hb q => (sb.2 b (fun z => hb (by simp [z]))).trans (hk b ob (fun z => hb (by simp [z])) (fun z => hb (by simp [z])) q)) hf (Nat.le_refl _) new
    refine ⟨.ref s.heap.objs.size, _, I1, rfl, ⟨_, x, rfl, I.hok.fresh (Nat.le_refl _), rfl, fun ys hy => by rw [I.tuple_inj hy hq]; exact hx⟩, ⟨⟨y, ?_⟩, hs'.1.at fun o q => (sb.2 it (Ne.symm hne)).trans q, hne⟩, fun b hb => ?_⟩
    · have e1 : ((i + 1 : Nat) : Int) = (i : Int) + 1 := by omega
      rw [e1]; exact he'
    · have hb' : b < s.heap.objs.size := by
        have e' : b = e ∨ b = it := by simpa using hb
        rcases e' with z | z
        · rw [z]; exact hel
        · rw [z]; exact hil
      rw [upd_ne (Nat.ne_of_lt hb')]
      exact (hf b hb).1
  done := by
    intro X hP hw hK hc i pins s σ H E I hf st hg
    subst hP hw hK
    obtain ⟨⟨old, he⟩, hit, hne⟩ := st
    obtain ⟨xs, hq, hx⟩ := hg
    obtain ⟨its, rv, p, hz⟩ := I.tuple hq
    obtain ⟨f0, f1, f2, f3, f4, f5⟩ := hf it (by simp)
    have hl := rv.length
    refine wpAny_pyNext_enum_endD (drawsEnd (prog := X.prog) (w := X.w) (A := X.A.in1) (I.ok.hd hc) it a hait its.toArray i (by simp; omega)) he (.inl ⟨Nat.le_refl _, hit, p⟩) fun h' eb => ⟨rfl, I.turned (t' := s.toks) (fun b o hb q => eb b o hb q) f0 f1 f3 f4 f5⟩
  self := fun A i s Q E st h => let ⟨⟨_, he⟩, _⟩ := st; wpAny_pyIter_enum he h
def iEnumT (K : PySem.W.Frag) (ta : TA) : TI := fun σ H R => ta σ H fun vs H1 => ∃ a xs, vs = [.ref a] ∧ SqT K H1 a xs ∧ R (IteT K a) H1
theorem pi_enumT {X : Cx} {K : PySem.W.Frag} {e : Expr} {ta : TA} {p pos tpos : Pos} {elts : List Expr} {kk : Nat} (hK : X.K = K) (hg : Gl X "enumerate") (hm : X.mg "enumerate" = none) (ha : PA X [e] ta) (hs : starEach [e] X.env = [(false, eval e X.env)] := by rfl) :
    PI X (.Tuple elts kk tpos) (.Call (.Name "enumerate" p) [e] [] pos) (iEnumT K ta) := by
  subst hK
  refine ⟨fun pins s σ H R I h => ?_⟩
  refine Call_ (ld_blt I hg hm boot_enumerate (PyProof.Rows.callWith_type1 (thn (ha.run pos pins s σ H _ I h) fun us s1 ⟨vs, H1, I1, r1, q1⟩ => ?_) hs rfl))
  obtain ⟨a, xs, ex, hq, q⟩ := q1
  subst ex
  cases r1 with
  | cons r rr =>
    cases rr
    cases r
    obtain ⟨its, rv, p', hz⟩ := I1.tuple hq
    have hlt : a < s1.heap.objs.size := p'.lt
    refine call_enumerate_tup p' fun h' he hit hsz hk => wpAny_pyIter_enum he ?_
    have I2 : L2.Inv X pins σ H1 { s1 with heap := h' } := I1.kept (t' := s1.toks) hk
    refine ⟨s1.heap.objs.size + 1, [s1.heap.objs.size + 1, s1.heap.objs.size], _, _, H1, rfl, I2, turn_enumT a (s1.heap.objs.size + 1) s1.heap.objs.size (Nat.ne_of_lt (Nat.lt_succ_of_lt hlt)) (Nat.ne_of_lt hlt), ⟨⟨.none, he⟩, hit, Nat.succ_ne_self _⟩, fun b hb => ?_, q⟩
    have e' : b = s1.heap.objs.size + 1 ∨ b = s1.heap.objs.size := by simpa using hb
    have hle : s1.heap.objs.size ≤ b := by
      rcases e' with z | z
      · rw [z]; exact Nat.le_add_right _ _
      · rw [z]; exact Nat.le_refl _
    exact I1.fpOk hle (I1.hok.fresh hle)
end Wl

/-! W3: the text by places, what the top has made, how the data stand in the heap. -/
namespace Wl
open PySem PySem.Spec PyProof.Rows L2
def top (i : Nat) : Stmt := PySem.Challenge.pw_willinglift_k12_whole_plans_judged.main.body.getD i (.Pass ⟨0, 0, 0, 0⟩)
abbrev s_Pis_integer : Stmt := top 10
abbrev n_Pis_integer : List Str := ["thing"]
theorem sc_Pis_integer : FnScope n_Pis_integer ["thing"] (defScope s_Pis_integer) := ⟨rfl, rfl, rfl, by decide +kernel, rfl, by decide +kernel, by decide +kernel⟩
abbrev s_Pis_within : Stmt := top 11
abbrev n_Pis_within : List Str := ["thing", "least", "most"]
theorem sc_Pis_within : FnScope n_Pis_within ["thing", "least", "most"] (defScope s_Pis_within) := ⟨rfl, rfl, rfl, by decide +kernel, rfl, by decide +kernel, by decide +kernel⟩
abbrev s_CHouse : Stmt := inClass (top 12) 0
abbrev n_CHouse : List Str := ["self", "floors", "room"]
theorem sc_CHouse : FnScope n_CHouse ["self", "floors", "room"] (defScope s_CHouse) := ⟨rfl, rfl, rfl, by decide +kernel, rfl, by decide +kernel, by decide +kernel⟩
abbrev s_Pis_floor : Stmt := top 13
abbrev n_Pis_floor : List Str := ["house", "thing"]
theorem sc_Pis_floor : FnScope n_Pis_floor ["house", "thing"] (defScope s_Pis_floor) := ⟨rfl, rfl, rfl, by decide +kernel, rfl, by decide +kernel, by decide +kernel⟩
abbrev s_Pis_group : Stmt := top 14
abbrev n_Pis_group : List Str := ["house", "thing"]
theorem sc_Pis_group : FnScope n_Pis_group ["house", "thing"] (defScope s_Pis_group) := ⟨rfl, rfl, rfl, by decide +kernel, rfl, by decide +kernel, by decide +kernel⟩
abbrev s_Pis_groups : Stmt := top 15
abbrev n_Pis_groups : List Str := ["house", "thing", "one", "other", "group"]
theorem sc_Pis_groups : FnScope n_Pis_groups ["house", "thing"] (defScope s_Pis_groups) := ⟨rfl, rfl, rfl, by decide +kernel, rfl, by decide +kernel, by decide +kernel⟩
abbrev s_CStanding : Stmt := inClass (top 16) 0
abbrev n_CStanding : List Str := ["self", "house", "lift", "groups"]
theorem sc_CStanding : FnScope n_CStanding ["self", "house", "lift", "groups"] (defScope s_CStanding) := ⟨rfl, rfl, rfl, by decide +kernel, rfl, by decide +kernel, by decide +kernel⟩
abbrev s_CRawStanding : Stmt := inClass (top 17) 0
abbrev n_CRawStanding : List Str := ["self", "house", "lift", "groups"]
theorem sc_CRawStanding : FnScope n_CRawStanding ["self", "house", "lift", "groups"] (defScope s_CRawStanding) := ⟨rfl, rfl, rfl, by decide +kernel, rfl, by decide +kernel, by decide +kernel⟩
abbrev s_Praw_standing : Stmt := top 18
abbrev n_Praw_standing : List Str := ["house", "lift", "known", "rows", "pair"]
theorem sc_Praw_standing : FnScope n_Praw_standing ["house", "lift", "known"] (defScope s_Praw_standing) := ⟨rfl, rfl, rfl, by decide +kernel, rfl, by decide +kernel, by decide +kernel⟩
abbrev s_Pknown_of : Stmt := top 19
abbrev n_Pknown_of : List Str := ["standing", "stand", "want", "many"]
theorem sc_Pknown_of : FnScope n_Pknown_of ["standing"] (defScope s_Pknown_of) := ⟨rfl, rfl, rfl, by decide +kernel, rfl, by decide +kernel, by decide +kernel⟩
abbrev s_Pis_home_all : Stmt := top 20
abbrev n_Pis_home_all : List Str := ["standing", "stand", "want", "many"]
theorem sc_Pis_home_all : FnScope n_Pis_home_all ["standing"] (defScope s_Pis_home_all) := ⟨rfl, rfl, rfl, by decide +kernel, rfl, by decide +kernel, by decide +kernel⟩
abbrev s_Pis_done : Stmt := top 21
abbrev n_Pis_done : List Str := ["standing"]
theorem sc_Pis_done : FnScope n_Pis_done ["standing"] (defScope s_Pis_done) := ⟨rfl, rfl, rfl, by decide +kernel, rfl, by decide +kernel, by decide +kernel⟩
abbrev s_Pwants_at : Stmt := top 22
abbrev n_Pwants_at : List Str := ["standing", "floor", "stand", "want", "many"]
theorem sc_Pwants_at : FnScope n_Pwants_at ["standing", "floor"] (defScope s_Pwants_at) := ⟨rfl, rfl, rfl, by decide +kernel, rfl, by decide +kernel, by decide +kernel⟩
abbrev s_Pis_way : Stmt := top 26
abbrev n_Pis_way : List Str := ["thing"]
theorem sc_Pis_way : FnScope n_Pis_way ["thing"] (defScope s_Pis_way) := ⟨rfl, rfl, rfl, by decide +kernel, rfl, by decide +kernel, by decide +kernel⟩
abbrev s_Pis_aboard : Stmt := top 27
abbrev n_Pis_aboard : List Str := ["thing", "pair", "one", "other"]
theorem sc_Pis_aboard : FnScope n_Pis_aboard ["thing"] (defScope s_Pis_aboard) := ⟨rfl, rfl, rfl, by decide +kernel, rfl, by decide +kernel, by decide +kernel⟩
abbrev s_Pis_built_move : Stmt := top 28
abbrev n_Pis_built_move : List Str := ["thing"]
theorem sc_Pis_built_move : FnScope n_Pis_built_move ["thing"] (defScope s_Pis_built_move) := ⟨rfl, rfl, rfl, by decide +kernel, rfl, by decide +kernel, by decide +kernel⟩
abbrev s_Pcan_go : Stmt := top 29
abbrev n_Pcan_go : List Str := ["standing", "way"]
theorem sc_Pcan_go : FnScope n_Pcan_go ["standing", "way"] (defScope s_Pcan_go) := ⟨rfl, rfl, rfl, by decide +kernel, rfl, by decide +kernel, by decide +kernel⟩
abbrev s_Pis_move : Stmt := top 30
abbrev n_Pis_move : List Str := ["standing", "thing", "here", "want", "many"]
theorem sc_Pis_move : FnScope n_Pis_move ["standing", "thing"] (defScope s_Pis_move) := ⟨rfl, rfl, rfl, by decide +kernel, rfl, by decide +kernel, by decide +kernel⟩
abbrev s_Pbehind_move : Stmt := top 31
abbrev n_Pbehind_move : List Str := ["standing", "move", "way", "aboard", "known", "here", "there", "want", "many"]
theorem sc_Pbehind_move : FnScope n_Pbehind_move ["standing", "move"] (defScope s_Pbehind_move) := ⟨rfl, rfl, rfl, by decide +kernel, rfl, by decide +kernel, by decide +kernel⟩
abbrev s_Pfirst_bad : Stmt := top 32
abbrev n_Pfirst_bad : List Str := ["standing", "moves", "index", "move"]
theorem sc_Pfirst_bad : FnScope n_Pfirst_bad ["standing", "moves"] (defScope s_Pfirst_bad) := ⟨rfl, rfl, rfl, by decide +kernel, rfl, by decide +kernel, by decide +kernel⟩
abbrev s_Pstandings_along : Stmt := top 33
abbrev n_Pstandings_along : List Str := ["standing", "moves", "found", "index", "move"]
theorem sc_Pstandings_along : FnScope n_Pstandings_along ["standing", "moves"] (defScope s_Pstandings_along) := ⟨rfl, rfl, rfl, by decide +kernel, rfl, by decide +kernel, by decide +kernel⟩
abbrev s_Pbehind : Stmt := top 34
abbrev n_Pbehind : List Str := ["standing", "moves"]
theorem sc_Pbehind : FnScope n_Pbehind ["standing", "moves"] (defScope s_Pbehind) := ⟨rfl, rfl, rfl, by decide +kernel, rfl, by decide +kernel, by decide +kernel⟩
abbrev s_Pis_plan : Stmt := top 35
abbrev n_Pis_plan : List Str := ["standing", "thing", "bad", "last"]
theorem sc_Pis_plan : FnScope n_Pis_plan ["standing", "thing"] (defScope s_Pis_plan) := ⟨rfl, rfl, rfl, by decide +kernel, rfl, by decide +kernel, by decide +kernel⟩
abbrev s_Lhand : Stmt := top 37
abbrev n_Lhand : List Str := ["_law_script", "_law_cells", "_law_cell"]
theorem sc_Lhand : FnScope n_Lhand ["_law_script"] (defScope s_Lhand) := ⟨rfl, rfl, rfl, by decide +kernel, rfl, by decide +kernel, by decide +kernel⟩
abbrev s_Ldraw : Stmt := top 38
abbrev n_Ldraw : List Str := ["_law_hand_here", "_law_many", "_law_cell", "_law_digit", "_law_number"]
theorem sc_Ldraw : FnScope n_Ldraw ["_law_hand_here", "_law_many"] (defScope s_Ldraw) := ⟨rfl, rfl, rfl, by decide +kernel, rfl, by decide +kernel, by decide +kernel⟩
abbrev s_Lgreat : Stmt := top 39
abbrev n_Lgreat : List Str := ["_law_hand_here", "_law_most", "_law_found", "_law_turn"]
theorem sc_Lgreat : FnScope n_Lgreat ["_law_hand_here", "_law_most"] (defScope s_Lgreat) := ⟨rfl, rfl, rfl, by decide +kernel, rfl, by decide +kernel, by decide +kernel⟩
abbrev s_Ldeep : Stmt := top 40
abbrev n_Ldeep : List Str := ["_law_kind", "_law_found", "_law_turn"]
theorem sc_Ldeep : FnScope n_Ldeep ["_law_kind"] (defScope s_Ldeep) := ⟨rfl, rfl, rfl, by decide +kernel, rfl, by decide +kernel, by decide +kernel⟩
abbrev s_Lis_int : Stmt := top 41
abbrev n_Lis_int : List Str := ["_law_thing", "_law_least", "_law_most"]
theorem sc_Lis_int : FnScope n_Lis_int ["_law_thing", "_law_least", "_law_most"] (defScope s_Lis_int) := ⟨rfl, rfl, rfl, by decide +kernel, rfl, by decide +kernel, by decide +kernel⟩
abbrev s_Lflag : Stmt := top 42
abbrev n_Lflag : List Str := ["_law_told", "_law_due_here"]
theorem sc_Lflag : FnScope n_Lflag ["_law_told", "_law_due_here"] (defScope s_Lflag) := ⟨rfl, rfl, rfl, by decide +kernel, rfl, by decide +kernel, by decide +kernel⟩
abbrev s_Lhere : Stmt := top 43
abbrev n_Lhere : List Str := ["_law_state", "_law_stand", "_law_want", "_law_many"]
theorem sc_Lhere : FnScope n_Lhere ["_law_state"] (defScope s_Lhere) := ⟨rfl, rfl, rfl, by decide +kernel, rfl, by decide +kernel, by decide +kernel⟩
abbrev s_Lmade : Stmt := top 44
abbrev n_Lmade : List Str := ["_law_state", "_law_move_here", "_law_lift", "_law_groups", "_law_want", "_law_many", "_law_known", "_law_rows", "_law_pair", "_law_stand"]
theorem sc_Lmade : FnScope n_Lmade ["_law_state", "_law_move_here"] (defScope s_Lmade) := ⟨rfl, rfl, rfl, by decide +kernel, rfl, by decide +kernel, by decide +kernel⟩
abbrev s_Lmove : Stmt := top 45
abbrev n_Lmove : List Str := ["_law_hand_here", "_law_floors", "_law_room", "_law_state", "_law_left", "_law_aboard", "_law_greedy", "_law_want", "_law_many", "_law_most", "_law_some", "_law_options", "_law_way"]
theorem sc_Lmove : FnScope n_Lmove ["_law_hand_here", "_law_floors", "_law_room", "_law_state"] (defScope s_Lmove) := ⟨rfl, rfl, rfl, by decide +kernel, rfl, by decide +kernel, by decide +kernel⟩
abbrev s_Lwalk : Stmt := top 46
abbrev n_Lwalk : List Str := ["_law_hand_here", "_law_floors", "_law_room", "_law_state", "_law_many", "_law_found", "_law_turn", "_law_move_here"]
theorem sc_Lwalk : FnScope n_Lwalk ["_law_hand_here", "_law_floors", "_law_room", "_law_state", "_law_many"] (defScope s_Lwalk) := ⟨rfl, rfl, rfl, by decide +kernel, rfl, by decide +kernel, by decide +kernel⟩
abbrev s_Lis_built : Stmt := top 47
abbrev n_Lis_built : List Str := ["_law_thing", "_law_k", "_law_pair"]
theorem sc_Lis_built : FnScope n_Lis_built ["_law_thing"] (defScope s_Lis_built) := ⟨rfl, rfl, rfl, by decide +kernel, rfl, by decide +kernel, by decide +kernel⟩
abbrev s_Lis_move : Stmt := top 48
abbrev n_Lis_move : List Str := ["_law_floors", "_law_room", "_law_state", "_law_thing", "_law_here_here", "_law_want", "_law_many"]
theorem sc_Lis_move : FnScope n_Lis_move ["_law_floors", "_law_room", "_law_state", "_law_thing"] (defScope s_Lis_move) := ⟨rfl, rfl, rfl, by decide +kernel, rfl, by decide +kernel, by decide +kernel⟩
abbrev s_Lbent_move : Stmt := top 49
abbrev n_Lbent_move : List Str := ["_law_hand_here", "_law_move_here", "_law_house", "_law_way", "_law_aboard", "_law_things", "_law_thing", "_law_kind", "_law_at", "_law_want", "_law_many", "_law_pair"]
theorem sc_Lbent_move : FnScope n_Lbent_move ["_law_hand_here", "_law_move_here", "_law_house"] (defScope s_Lbent_move) := ⟨rfl, rfl, rfl, by decide +kernel, rfl, by decide +kernel, by decide +kernel⟩
abbrev s_Lhome : Stmt := top 50
abbrev n_Lhome : List Str := ["_law_floors", "_law_room", "_law_state", "_law_found", "_law_turn", "_law_away", "_law_goal", "_law_step", "_law_move_here", "_law_stand", "_law_want", "_law_many", "_law_group"]
theorem sc_Lhome : FnScope n_Lhome ["_law_floors", "_law_room", "_law_state"] (defScope s_Lhome) := ⟨rfl, rfl, rfl, by decide +kernel, rfl, by decide +kernel, by decide +kernel⟩
abbrev s_Lparts : Stmt := top 51
abbrev n_Lparts : List Str := ["_law_hand_here", "_law_great_here", "_law_floors", "_law_most", "_law_known", "_law_turn", "_law_room", "_law_pair"]
theorem sc_Lparts : FnScope n_Lparts ["_law_hand_here"] (defScope s_Lparts) := ⟨rfl, rfl, rfl, by decide +kernel, rfl, by decide +kernel, by decide +kernel⟩
abbrev s_Ldue : Stmt := top 52
abbrev n_Ldue : List Str := ["_law_floors", "_law_room", "_law_state", "_law_thing", "_law_move_here", "_law_stand", "_law_want", "_law_many"]
theorem sc_Ldue : FnScope n_Ldue ["_law_floors", "_law_room", "_law_state", "_law_thing"] (defScope s_Ldue) := ⟨rfl, rfl, rfl, by decide +kernel, rfl, by decide +kernel, by decide +kernel⟩
abbrev s_Lchanged : Stmt := top 53
abbrev n_Lchanged : List Str := ["_law_hand_here", "_law_moves", "_law_house", "_law_kind", "_law_at"]
theorem sc_Lchanged : FnScope n_Lchanged ["_law_hand_here", "_law_moves", "_law_house"] (defScope s_Lchanged) := ⟨rfl, rfl, rfl, by decide +kernel, rfl, by decide +kernel, by decide +kernel⟩
abbrev s_Llaw : Stmt := top 54
abbrev n_Llaw : List Str := ["_law_script", "_law_hand_here", "_law_turn", "_law_floors", "_law_room", "_law_lift", "_law_groups", "_law_house", "_law_standing", "_law_ahead", "_law_state", "_law_plan", "_law_due_here", "_law_done", "_law_again", "_law_thing", "_law_stand", "_law_want", "_law_many"]
theorem sc_Llaw : FnScope n_Llaw ["_law_script"] (defScope s_Llaw) := ⟨rfl, rfl, rfl, by decide +kernel, rfl, by decide +kernel, by decide +kernel⟩

/-! ### what the top has made -/
/-- a def of the module -/
structure Df (K : PySem.W.Frag) (mg : Str → Option Value) (x : Str) (st : Stmt) (ps : List Str) where
  f : Addr
  d : FuncData
  F : Fun K x x st f d
  b : Binds K d ps []
  m : mg x = some (.ref f)
/-- a class's __init__ -/
structure Ci (K : PySem.W.Frag) (qual : Str) (st : Stmt) (ps : List Str) where
  f : Addr
  d : FuncData
  F : Fun K "__init__" qual st f d
  b : Binds K d ps []
structure Txt (K : PySem.W.Frag) (mg : Str → Option Value) where
  Pis_integer : Df K mg "is_integer" s_Pis_integer ["thing"]
  Pis_within : Df K mg "is_within" s_Pis_within ["thing", "least", "most"]
  Pis_floor : Df K mg "is_floor" s_Pis_floor ["house", "thing"]
  Pis_group : Df K mg "is_group" s_Pis_group ["house", "thing"]
  Pis_groups : Df K mg "is_groups" s_Pis_groups ["house", "thing"]
  Praw_standing : Df K mg "raw_standing" s_Praw_standing ["house", "lift", "known"]
  Pknown_of : Df K mg "known_of" s_Pknown_of ["standing"]
  Pis_home_all : Df K mg "is_home_all" s_Pis_home_all ["standing"]
  Pis_done : Df K mg "is_done" s_Pis_done ["standing"]
  Pwants_at : Df K mg "wants_at" s_Pwants_at ["standing", "floor"]
  Pis_way : Df K mg "is_way" s_Pis_way ["thing"]
  Pis_aboard : Df K mg "is_aboard" s_Pis_aboard ["thing"]
  Pis_built_move : Df K mg "is_built_move" s_Pis_built_move ["thing"]
  Pcan_go : Df K mg "can_go" s_Pcan_go ["standing", "way"]
  Pis_move : Df K mg "is_move" s_Pis_move ["standing", "thing"]
  Pbehind_move : Df K mg "behind_move" s_Pbehind_move ["standing", "move"]
  Pfirst_bad : Df K mg "first_bad" s_Pfirst_bad ["standing", "moves"]
  Pstandings_along : Df K mg "standings_along" s_Pstandings_along ["standing", "moves"]
  Pbehind : Df K mg "behind" s_Pbehind ["standing", "moves"]
  Pis_plan : Df K mg "is_plan" s_Pis_plan ["standing", "thing"]
  Lhand : Df K mg "_law_hand" s_Lhand ["_law_script"]
  Ldraw : Df K mg "_law_draw" s_Ldraw ["_law_hand_here", "_law_many"]
  Lgreat : Df K mg "_law_great" s_Lgreat ["_law_hand_here", "_law_most"]
  Ldeep : Df K mg "_law_deep" s_Ldeep ["_law_kind"]
  Lis_int : Df K mg "_law_is_int" s_Lis_int ["_law_thing", "_law_least", "_law_most"]
  Lflag : Df K mg "_law_flag" s_Lflag ["_law_told", "_law_due_here"]
  Lhere : Df K mg "_law_here" s_Lhere ["_law_state"]
  Lmade : Df K mg "_law_made" s_Lmade ["_law_state", "_law_move_here"]
  Lmove : Df K mg "_law_move" s_Lmove ["_law_hand_here", "_law_floors", "_law_room", "_law_state"]
  Lwalk : Df K mg "_law_walk" s_Lwalk ["_law_hand_here", "_law_floors", "_law_room", "_law_state", "_law_many"]
  Lis_built : Df K mg "_law_is_built" s_Lis_built ["_law_thing"]
  Lis_move : Df K mg "_law_is_move" s_Lis_move ["_law_floors", "_law_room", "_law_state", "_law_thing"]
  Lbent_move : Df K mg "_law_bent_move" s_Lbent_move ["_law_hand_here", "_law_move_here", "_law_house"]
  Lhome : Df K mg "_law_home" s_Lhome ["_law_floors", "_law_room", "_law_state"]
  Lparts : Df K mg "_law_parts" s_Lparts ["_law_hand_here"]
  Ldue : Df K mg "_law_due" s_Ldue ["_law_floors", "_law_room", "_law_state", "_law_thing"]
  Lchanged : Df K mg "_law_changed" s_Lchanged ["_law_hand_here", "_law_moves", "_law_house"]
  Llaw : Df K mg "law" s_Llaw ["_law_script"]
  c_House : Ci K "House.__init__" s_CHouse ["self", "floors", "room"]
  c_Standing : Ci K "Standing.__init__" s_CStanding ["self", "house", "lift", "groups"]
  c_RawStanding : Ci K "RawStanding.__init__" s_CRawStanding ["self", "house", "lift", "groups"]
  a_House : Addr
  a_Standing : Addr
  a_RawStanding : Addr
  m_House : mg "House" = some (.ref a_House)
  m_Standing : mg "Standing" = some (.ref a_Standing)
  m_RawStanding : mg "RawStanding" = some (.ref a_RawStanding)
  mk_House : Mk K a_House c_House.f
  mk_Standing : Mk K a_Standing c_Standing.f
  mk_RawStanding : Mk K a_RawStanding c_RawStanding.f
  cl_House : Cls K a_House
  cl_Standing : Cls K a_Standing
  cl_RawStanding : Cls K a_RawStanding
  na_floors : NoAttr K a_House "floors"
  na_room : NoAttr K a_House "room"
  nb_house : NoAttr K a_Standing "house"
  nb_lift : NoAttr K a_Standing "lift"
  nb_groups : NoAttr K a_Standing "groups"
  nc_house : NoAttr K a_RawStanding "house"
  nc_lift : NoAttr K a_RawStanding "lift"
  nc_groups : NoAttr K a_RawStanding "groups"
  h_cls : PySem.W.findIn K (.ref a_House) "__class__" = some (some (.builtin "object.__class__"))
  h_get : PySem.W.specialIn K (.builtin "object.__class__") "__get__" = some (some (.builtin "getset_descriptor.__get__"))
  h_takes : PySem.W.takesIn K (.builtin "object.__class__") = some true
  h_mro : PySem.W.mroIn K a_House (.type "object") = some true
  h_int : PySem.W.kitOne K (.ref a_House) (.type "int") = some false
  h_bool : PySem.W.kitOne K (.ref a_House) (.type "bool") = some false
  h_tuple : PySem.W.kitOne K (.ref a_House) (.type "tuple") = some false
  n_isinstance : mg "isinstance" = none
  n_len : mg "len" = none
  n_all : mg "all" = none
  n_sum : mg "sum" = none
  n_min : mg "min" = none
  n_abs : mg "abs" = none
  n_sorted : mg "sorted" = none
  n_int : mg "int" = none
  n_bool : mg "bool" = none
  n_tuple : mg "tuple" = none
  n_list : mg "list" = none
  n_dict : mg "dict" = none
  n_range : mg "range" = none
  n_zip : mg "zip" = none
  n_enumerate : mg "enumerate" = none
  t1 : Tok
  t2 : Tok
  t3 : Tok
  t4 : Tok
  t5 : Tok
  t6 : Tok
  g_UP : mg "UP" = some (.int 1 t1)
  g_DOWN : mg "DOWN" = some (.int (-1) t2)
  g_MOST_FLOORS : mg "MOST_FLOORS" = some (.int 40 t3)
  g_MOST_GROUPS : mg "MOST_GROUPS" = some (.int 400 t4)
  g_MOST_ROOM : mg "MOST_ROOM" = some (.int 1000000000000 t5)
  g_MOST_PEOPLE : mg "MOST_PEOPLE" = some (.int 1000000000000000000000000000000 t6)

/-! ### how heaps go on -/
/-- all stays, but lists may hold other things -/
def Wk (H H' : Hp) : Prop := ∀ b o, H b = some o → H' b = some o ∨ ∃ xs ys, o = .lst xs ∧ H' b = some (.lst ys)
/-- all stays, but the list at a -/
structure Grow (a : Addr) (H H' : Hp) : Prop where
  keep : ∀ b o, b ≠ a → H b = some o → H' b = some o
  was : ∃ xs, H a = some (.lst xs)
  is : ∃ xs, H' a = some (.lst xs)
section
variable {H H' H1 H2 : Hp} {a p : Addr} {o : HO}
theorem _root_.L2.Same.wk (s : Same H H') : Wk H H' := fun b o e => .inl (s b o e)
theorem Wk.refl (H : Hp) : Wk H H := fun _ _ e => .inl e
theorem Wk.trans (s : Wk H H1) (t : Wk H1 H2) : Wk H H2 := fun b o e => by
  rcases s b o e with h | ⟨xs, ys, rfl, h⟩
  · exact t b o h
  · rcases t b _ h with h2 | ⟨_, zs, _, h2⟩
    · exact .inr ⟨xs, ys, rfl, h2⟩
    · exact .inr ⟨xs, zs, rfl, h2⟩
theorem _root_.L2.Same.new (h : H p = none) : Same H (upd H p o) := fun b u e => by
  rw [upd_ne (ne_of_none e h)]; exact e
theorem _root_.L2.Same.add (s : Same H H') (h : H' p = none) : Same H (upd H' p o) := s.trans (Same.new h)
/-- an object that H does not know may change -/
theorem _root_.L2.Same.mut (s : Same H H') (h : H p = none) : Same H (upd H' p o) := fun b u e => by
  rw [upd_ne (ne_of_none e h)]; exact s b u e
theorem Grow.wk (g : Grow a H H') : Wk H H' := fun b o e => by
  by_cases hb : b = a
  · subst hb
    obtain ⟨xs, h1⟩ := g.was
    obtain ⟨ys, h2⟩ := g.is
    rw [h1] at e
    exact .inr ⟨xs, ys, (Option.some.inj e).symm, h2⟩
  · exact .inl (g.keep b o hb e)
theorem Grow.refl (h : ∃ xs, H a = some (.lst xs)) : Grow a H H := ⟨fun _ _ _ e => e, h, h⟩
theorem Grow.trans (s : Grow a H H1) (t : Grow a H1 H2) : Grow a H H2 := ⟨fun b o hb e => t.keep b o hb (s.keep b o hb e), s.was, t.is⟩
theorem Grow.same (g : Grow a H H1) (s : Same H1 H2) : Grow a H H2 := ⟨fun b o hb e => s b o (g.keep b o hb e), g.was, let ⟨xs, e⟩ := g.is; ⟨xs, s _ _ e⟩⟩
theorem _root_.L2.Same.grow (s : Same H H1) (g : Grow a H1 H2) (h : ∃ xs, H a = some (.lst xs)) : Grow a H H2 := ⟨fun b o hb e => g.keep b o hb (s b o e), h, g.is⟩
theorem Grow.of_same (s : Same H H1) (h : ∃ xs, H a = some (.lst xs)) : Grow a H H1 := ⟨fun b o _ e => s b o e, h, let ⟨xs, e⟩ := h; ⟨xs, s _ _ e⟩⟩
theorem Grow.set (g : Grow a H H1) (xs : List V) : Grow a H (upd H1 a (.lst xs)) := ⟨fun b o hb e => by rw [upd_ne hb]; exact g.keep b o hb e, g.was, xs, upd_same⟩
/-- a list of one's own (H does not know it) changes -/
theorem Grow.mut (g : Grow a H H1) (h : H p = none) (o : HO) : Grow a H (upd H1 p o) := by
  obtain ⟨xs, h1⟩ := g.was
  obtain ⟨ys, h2⟩ := g.is
  have ne : a ≠ p := ne_of_none h1 h
  exact ⟨fun b o' hb e => by rw [upd_ne (ne_of_none e h)]; exact g.keep b o' hb e, ⟨xs, h1⟩, ys, by rw [upd_ne ne]; exact h2⟩
theorem Grow.free (g : Grow a H H1) (h : H1 p = none) : H p = none := by
  cases q : H p with
  | none => rfl
  | some o =>
    by_cases hb : p = a
    · subst hb
      obtain ⟨ys, h2⟩ := g.is
      rw [h] at h2; cases h2
    · have := g.keep p o hb q
      rw [h] at this; cases this
theorem Wk.tup (s : Wk H H') {xs : List V} (h : H p = some (.tup xs)) : H' p = some (.tup xs) := by
  rcases s p _ h with e | ⟨_, _, e, _⟩
  · exact e
  · cases e
theorem Wk.ins (s : Wk H H') {C dx : Addr} {fs : List (Str × V)} (h : H p = some (.ins C dx fs)) : H' p = some (.ins C dx fs) := by
  rcases s p _ h with e | ⟨_, _, e, _⟩
  · exact e
  · cases e
end

/-! ### the data in the heap -/
abbrev TupAt (H : Hp) (v : V) (xs : List V) : Prop := ∃ p, v = .ref p ∧ H p = some (.tup xs)
def gV (g : G) : List V := [.int g.1, .int g.2.1, .int g.2.2]
abbrev GAt (H : Hp) (v : V) (g : G) : Prop := TupAt H v (gV g)
def GsAt (H : Hp) (v : V) (gs : List G) : Prop := ∃ vs, TupAt H v vs ∧ Paired (GAt H) vs gs
abbrev PAt (H : Hp) (v : V) (p : Int × Int) : Prop := TupAt H v [.int p.1, .int p.2]
def AbAt (H : Hp) (v : V) (ab : List (Int × Int)) : Prop := ∃ vs, TupAt H v vs ∧ Paired (PAt H) vs ab
def MvAt (H : Hp) (v : V) (m : Mv) : Prop := ∃ a, TupAt H v [.int m.1, a] ∧ AbAt H a m.2
def MvsAt (H : Hp) (v : V) (ms : List Mv) : Prop := ∃ vs, TupAt H v vs ∧ Paired (MvAt H) vs ms
def StAt (H : Hp) (v : V) (l : Int) (gs : List G) : Prop := ∃ g, TupAt H v [.int l, g] ∧ GsAt H g gs
def hF (f r : Int) : List (Str × V) := putF "room" (.int r) (putF "floors" (.int f) [])
def sF (hv : V) (l : Int) (g : V) : List (Str × V) := putF "groups" g (putF "lift" (.int l) (putF "house" hv []))
theorem s_ne1 : ¬ (("floors" : Str) = "room") := by decide +kernel
theorem s_ne2 : ¬ (("house" : Str) = "lift") := by decide +kernel
theorem s_ne3 : ¬ (("house" : Str) = "groups") := by decide +kernel
theorem s_ne4 : ¬ (("lift" : Str) = "groups") := by decide +kernel
theorem hF_floors (f r : Int) : (hF f r).lookup ("floors" : Str) = some (.int f) := by
  unfold hF; rw [lookup_putF, if_neg s_ne1, lookup_putF, if_pos rfl]
theorem hF_room (f r : Int) : (hF f r).lookup ("room" : Str) = some (.int r) := by
  unfold hF; rw [lookup_putF, if_pos rfl]
theorem sF_house (hv : V) (l : Int) (g : V) : (sF hv l g).lookup ("house" : Str) = some hv := by
  unfold sF; rw [lookup_putF, if_neg s_ne3, lookup_putF, if_neg s_ne2, lookup_putF, if_pos rfl]
theorem sF_lift (hv : V) (l : Int) (g : V) : (sF hv l g).lookup ("lift" : Str) = some (.int l) := by
  unfold sF; rw [lookup_putF, if_neg s_ne4, lookup_putF, if_pos rfl]
theorem sF_groups (hv : V) (l : Int) (g : V) : (sF hv l g).lookup ("groups" : Str) = some g := by
  unfold sF; rw [lookup_putF, if_pos rfl]
section
variable {K : PySem.W.Frag} {mg : Str → Option Value} (T : Txt K mg)
def HouAt (H : Hp) (v : V) (f r : Int) : Prop := ∃ p dx, v = .ref p ∧ H p = some (.ins T.a_House dx (hF f r))
/-- a Standing (of either class): its house's value, lift and groups -/
def SdAt (H : Hp) (v hv : V) (l : Int) (gs : List G) : Prop := ∃ p C dx g, v = .ref p ∧ Cls K C ∧ NoAttr K C "house" ∧ NoAttr K C "lift" ∧ NoAttr K C "groups" ∧ H p = some (.ins C dx (sF hv l g)) ∧ GsAt H g gs
end
mutual
inductive DAt (C : Addr) (H : Hp) : V → D → Prop
  | int (i : Int) : DAt C H (.int i) (.int i)
  | non : DAt C H .non .bad
  | bl (b : Bool) : DAt C H (.bl b) .bad
  | str (x : Str) : DAt C H (.str x) .bad
  | lst {a : Addr} {xs : List V} : H a = some (.lst xs) → DAt C H (.ref a) .bad
  | dic {a : Addr} {kvs : List (L2.Key × V)} : H a = some (.dK kvs) → DAt C H (.ref a) .bad
  | hou {a dx : Addr} {fs : List (Str × V)} : H a = some (.ins C dx fs) → DAt C H (.ref a) .bad
  | tup {a : Addr} {xs : List V} {ds : List D} : H a = some (.tup xs) → DsAt C H xs ds → DAt C H (.ref a) (.tup ds)
inductive DsAt (C : Addr) (H : Hp) : List V → List D → Prop
  | nil : DsAt C H [] []
  | cons {v : V} {vs : List V} {d : D} {ds : List D} : DAt C H v d → DsAt C H vs ds → DsAt C H (v :: vs) (d :: ds)
end
section
variable {H H' : Hp} {C : Addr}
theorem pmap {α β : Type} {F G : α → β → Prop} {l : List α} {m : List β} (h : Paired F l m) (k : ∀ a b, F a b → G a b) : Paired G l m := Paired.mapP h k
theorem TupAt.mono {v : V} {xs : List V} (h : TupAt H v xs) (w : Wk H H') : TupAt H' v xs := let ⟨p, e, h⟩ := h; ⟨p, e, w.tup h⟩
theorem GsAt.mono {v : V} {gs : List G} (h : GsAt H v gs) (w : Wk H H') : GsAt H' v gs := let ⟨vs, h1, h2⟩ := h; ⟨vs, h1.mono w, pmap h2 fun _ _ z => z.mono w⟩
theorem AbAt.mono {v : V} {ab : List (Int × Int)} (h : AbAt H v ab) (w : Wk H H') : AbAt H' v ab := let ⟨vs, h1, h2⟩ := h; ⟨vs, h1.mono w, pmap h2 fun _ _ z => z.mono w⟩
theorem MvAt.mono {v : V} {m : Mv} (h : MvAt H v m) (w : Wk H H') : MvAt H' v m := let ⟨a, h1, h2⟩ := h; ⟨a, h1.mono w, h2.mono w⟩
theorem MvsAt.mono {v : V} {ms : List Mv} (h : MvsAt H v ms) (w : Wk H H') : MvsAt H' v ms := let ⟨vs, h1, h2⟩ := h; ⟨vs, h1.mono w, pmap h2 fun _ _ z => z.mono w⟩
theorem StAt.mono {v : V} {l : Int} {gs : List G} (h : StAt H v l gs) (w : Wk H H') : StAt H' v l gs := let ⟨a, h1, h2⟩ := h; ⟨a, h1.mono w, h2.mono w⟩
theorem HouAt.mono {K : PySem.W.Frag} {mg : Str → Option Value} {T : Txt K mg} {v : V} {f r : Int} (h : HouAt T H v f r) (w : Wk H H') : HouAt T H' v f r := let ⟨p, dx, e, h1⟩ := h; ⟨p, dx, e, w.ins h1⟩
theorem SdAt.mono {K : PySem.W.Frag} {v hv : V} {l : Int} {gs : List G} (h : SdAt (K := K) H v hv l gs) (w : Wk H H') : SdAt (K := K) H' v hv l gs :=
  let ⟨p, C, dx, g, e, c1, c2, c3, c4, h1, h2⟩ := h; ⟨p, C, dx, g, e, c1, c2, c3, c4, w.ins h1, h2.mono w⟩
mutual
theorem DAt.mono (w : Wk H H') : ∀ (d : D) (v : V), DAt C H v d → DAt C H' v d
  | .int i, _, h => by cases h; exact .int i
  | .bad, _, h => by
    cases h with
    | non => exact .non
    | bl b => exact .bl b
    | str x => exact .str x
    | lst e =>
      rcases w _ _ e with q | ⟨_, ys, _, q⟩
      · exact .lst q
      · exact .lst q
    | dic e =>
      rcases w _ _ e with q | ⟨_, _, z, _⟩
      · exact .dic q
      · cases z
    | hou e => exact .hou (w.ins e)
  | .tup ds, _, h => by
    cases h with
    | tup e hs => exact .tup (w.tup e) (DsAt.mono w ds _ hs)
theorem DsAt.mono (w : Wk H H') : ∀ (ds : List D) (vs : List V), DsAt C H vs ds → DsAt C H' vs ds
  | [], _, h => by cases h; exact .nil
  | d :: ds, _, h => by
    cases h with
    | cons h1 h2 => exact .cons (DAt.mono w d _ h1) (DsAt.mono w ds _ h2)
end
theorem DsAt.get : ∀ {vs : List V} {ds : List D} {i : Nat} {v : V}, DsAt C H vs ds → vs[i]? = some v → ∃ d, ds[i]? = some d ∧ DAt C H v d
  | _, _, _, _, .nil, e => by simp at e
  | _, _, 0, _, .cons h _, e => by simp at e; subst e; exact ⟨_, rfl, h⟩
  | _, _, i + 1, v, .cons _ t, e => by
    obtain ⟨d, h1, h2⟩ := DsAt.get (i := i) (v := v) t (by simpa using e)
    exact ⟨d, by simpa using h1, h2⟩
theorem DsAt.length : ∀ {vs : List V} {ds : List D}, DsAt C H vs ds → vs.length = ds.length
  | _, _, .nil => rfl
  | _, _, .cons _ t => by rw [List.length_cons, List.length_cons, DsAt.length t]
theorem DsAt.append : ∀ {vs ws : List V} {ds es : List D}, DsAt C H vs ds → DsAt C H ws es → DsAt C H (vs ++ ws) (ds ++ es)
  | _, _, _, _, .nil, s => s
  | _, _, _, _, .cons r t, s => .cons r (DsAt.append t s)
theorem DsAt.take : ∀ {vs : List V} {ds : List D} (n : Nat), DsAt C H vs ds → DsAt C H (vs.take n) (ds.take n)
  | _, _, 0, _ => .nil
  | _, _, _ + 1, .nil => .nil
  | _, _, n + 1, .cons r t => .cons r (DsAt.take n t)
theorem DsAt.drop : ∀ {vs : List V} {ds : List D} (n : Nat), DsAt C H vs ds → DsAt C H (vs.drop n) (ds.drop n)
  | _, _, 0, r => r
  | _, _, _ + 1, .nil => .nil
  | _, _, n + 1, .cons _ t => DsAt.drop n t
theorem DsAt.reverse {vs : List V} {ds : List D} (h : DsAt C H vs ds) : DsAt C H vs.reverse ds.reverse := by
  have key : ∀ (vs : List V) (ds : List D), DsAt C H vs ds → DsAt C H vs.reverse ds.reverse := by
    intro vs
    induction vs with
    | nil => intro ds h; cases h; exact .nil
    | cons v vs ih =>
      intro ds h
      cases h with
      | cons h1 h2 =>
        rw [List.reverse_cons, List.reverse_cons]
        exact (ih _ h2).append (.cons h1 .nil)
  exact key vs ds h
theorem DsAt.of_paired {F : V → D → Prop} (k : ∀ v d, F v d → DAt C H v d) : ∀ {vs : List V} {ds : List D}, Paired F vs ds → DsAt C H vs ds
  | _, _, .nil => .nil
  | _, _, .cons h t => .cons (k _ _ h) (DsAt.of_paired k t)
theorem PAt.d {v : V} {p : Int × Int} (h : PAt H v p) : DAt C H v (pD p) := by
  obtain ⟨q, rfl, h⟩ := h
  exact .tup h (.cons (.int _) (.cons (.int _) .nil))
theorem paired_map {α β γ : Type} {F : α → β → Prop} {G : α → γ → Prop} {f : β → γ} (k : ∀ a b, F a b → G a (f b)) : ∀ {l : List α} {m : List β}, Paired F l m → Paired G l (m.map f)
  | _, _, .nil => .nil
  | _, _, .cons h t => .cons (k _ _ h) (paired_map k t)
theorem AbAt.d {v : V} {ab : List (Int × Int)} (h : AbAt H v ab) : DAt C H v (.tup (ab.map pD)) := by
  obtain ⟨vs, ⟨q, rfl, h⟩, hp⟩ := h
  exact .tup h (DsAt.of_paired (fun _ _ z => z) (paired_map (fun _ _ z => PAt.d z) hp))
theorem MvAt.d {v : V} {m : Mv} (h : MvAt H v m) : DAt C H v (mvD m) := by
  obtain ⟨a, ⟨q, rfl, h⟩, hp⟩ := h
  exact .tup h (.cons (.int _) (.cons hp.d .nil))
theorem MvsAt.d {v : V} {ms : List Mv} (h : MvsAt H v ms) : DAt C H v (.tup (ms.map mvD)) := by
  obtain ⟨vs, ⟨q, rfl, h⟩, hp⟩ := h
  exact .tup h (DsAt.of_paired (fun _ _ z => z) (paired_map (fun _ _ z => MvAt.d z) hp))
end

/-! ### types -/
def isI : D → Bool
  | .int _ => true
  | _ => false
def isT : D → Bool
  | .tup _ => true
  | _ => false
theorem DAt.ty {K : PySem.W.Frag} {mg : Str → Option Value} (T : Txt K mg) {H : Hp} {v : V} {d : D} (h : DAt T.a_House H v d) :
    ∃ t, TyX K H v t ∧ ∃ bi bb bt, PySem.W.kitOne K t (.type "int") = some bi ∧ PySem.W.kitOne K t (.type "bool") = some bb ∧ PySem.W.kitOne K t (.type "tuple") = some bt ∧ (bi && !bb) = isI d ∧ bt = isT d := by
  cases h with
  | int i => exact ⟨_, .base (.int i), true, false, false, kit_ty (by decide +kernel), kit_ty (by decide +kernel), kit_ty (by decide +kernel), rfl, rfl⟩
  | non => exact ⟨_, .base .non, false, false, false, kit_ty (by decide +kernel), kit_ty (by decide +kernel), kit_ty (by decide +kernel), rfl, rfl⟩
  | bl b => exact ⟨_, .base (.bl b), true, true, false, kit_ty (by decide +kernel), kit_ty (by decide +kernel), kit_ty (by decide +kernel), rfl, rfl⟩
  | str x => exact ⟨_, .base (.str x), false, false, false, kit_ty (by decide +kernel), kit_ty (by decide +kernel), kit_ty (by decide +kernel), rfl, rfl⟩
  | lst e => exact ⟨_, .base (.lst e), false, false, false, kit_ty (by decide +kernel), kit_ty (by decide +kernel), kit_ty (by decide +kernel), rfl, rfl⟩
  | dic e => exact ⟨_, .base (.dK e), false, false, false, kit_ty (by decide +kernel), kit_ty (by decide +kernel), kit_ty (by decide +kernel), rfl, rfl⟩
  | hou e => exact ⟨_, .base (.ins e T.cl_House T.h_cls T.h_get T.h_takes T.h_mro), false, false, false, T.h_int, T.h_bool, T.h_tuple, rfl, rfl⟩
  | tup e _ => exact ⟨_, .base (.tup e), false, false, true, kit_ty (by decide +kernel), kit_ty (by decide +kernel), kit_ty (by decide +kernel), rfl, rfl⟩

/-! ### walks: zip of two tuples, keys of a locked dict, in comprehensions; enumerate of a tuple -/
theorem lc_zipT {K : PySem.W.Frag} {a b : Addr} {xs ys : List V} {g : TG} {tt : TT} {te : TE} {vs : List Nat} {σ : L2.St} {H1 : Hp} {D : Addr} {Qd : Hp → Prop} (hl : ys.length ≤ xs.length) (Pv : Nat → Hp → Prop) (h0 : Pv 0 (upd H1 D (.lst []))) (hq : ∀ i H, Pv i H → SqT K H a xs ∧ SqT K H b ys)
    (hs : ∀ i x y p H, xs[i]? = some x → ys[i]? = some y → Pv i H → H p = none → g (.ref p) (wipe σ vs) (upd H p (.tup [x, y])) fun σ2 H2 => wipe σ2 vs = wipe σ vs ∧ tt σ2 H2 fun b H3 =>
      if b = true then te σ2 H3 fun y H4 => ∃ acc, H4 D = some (.lst acc) ∧ acc.length < sizeLine ∧ Pv (i + 1) (upd H4 D (.lst (acc ++ [y]))) else Pv (i + 1) H3) (hd : ∀ H, Pv ys.length H → Qd H) :
    ∃ W : Nat → Nat → Hp → Prop, (∃ m, W 0 m (upd H1 D (.lst []))) ∧ ∀ i m H, W i m H →
      ((RZ.ItzT K a b).stop i H ∧ Qd H) ∨ ((RZ.ItzT K a b).go i H ∧ ∃ Nx : Hp → Prop, (∀ H', Nx H' → ∃ m', m' < m ∧ W (i + 1) m' H') ∧ ∀ x H', (RZ.ItzT K a b).yld i H x H' → g x (wipe σ vs) H' fun σ2 H2 => wipe σ2 vs = wipe σ vs ∧ tt σ2 H2 fun b H3 =>
        if b = true then te σ2 H3 fun y H4 => ∃ acc, H4 D = some (.lst acc) ∧ acc.length < sizeLine ∧ Nx (upd H4 D (.lst (acc ++ [y]))) else Nx H3) := by
  refine ⟨fun i m H => m = ys.length - i ∧ i ≤ ys.length ∧ Pv i H, ⟨ys.length, by simp, Nat.zero_le _, h0⟩, ?_⟩
  rintro i m H ⟨rfl, hi, p⟩
  obtain ⟨qx, qy⟩ := hq i H p
  by_cases hlt : i < ys.length
  · have hy : ys[i]? = some ys[i] := List.getElem?_eq_getElem hlt
    have hx : xs[i]? = some (xs[i]'(by omega)) := List.getElem?_eq_getElem (by omega)
    refine .inr ⟨⟨xs, ys, _, _, qx, qy, hx, hy⟩, Pv (i + 1), fun H' p' => ⟨ys.length - (i + 1), by omega, rfl, hlt, p'⟩, fun x H' y => ?_⟩
    obtain ⟨t, x', y', rfl, hT, rfl, f1, f2⟩ := y
    exact hs i x' y' t H (f1 xs qx) (f2 ys qy) p hT
  · have e : i = ys.length := by omega
    subst e
    exact .inl ⟨⟨xs, ys, qx, qy, Or.inr (Nat.le_refl _)⟩, hd H p⟩
theorem lc_keysT {d : Addr} {o : Obj} {kvs : List (List L2.Key × V)} {g : TG} {tt : TT} {te : TE} {vs : List Nat} {σ : L2.St} {H1 : Hp} {D : Addr} {Qd : Hp → Prop} (Pv : Nat → Hp → Prop) (h0 : Pv 0 (upd H1 D (.lst []))) (hl : ∀ i H, Pv i H → H d = some (.frz o (.dT kvs)))
    (hs : ∀ i k v q H, kvs[i]? = some (k, v) → H q = some (.tup (List.map kV k)) → Pv i H → g (.ref q) (wipe σ vs) H fun σ2 H2 => wipe σ2 vs = wipe σ vs ∧ tt σ2 H2 fun b H3 =>
      if b = true then te σ2 H3 fun y H4 => ∃ acc, H4 D = some (.lst acc) ∧ acc.length < sizeLine ∧ Pv (i + 1) (upd H4 D (.lst (acc ++ [y]))) else Pv (i + 1) H3) (hd : ∀ H, Pv kvs.length H → Qd H) :
    ∃ W : Nat → Nat → Hp → Prop, (∃ m, W 0 m (upd H1 D (.lst []))) ∧ ∀ i m H, W i m H →
      ((Itkt d o kvs).stop i H ∧ Qd H) ∨ ((Itkt d o kvs).go i H ∧ ∃ Nx : Hp → Prop, (∀ H', Nx H' → ∃ m', m' < m ∧ W (i + 1) m' H') ∧ ∀ x H', (Itkt d o kvs).yld i H x H' → g x (wipe σ vs) H' fun σ2 H2 => wipe σ2 vs = wipe σ vs ∧ tt σ2 H2 fun b H3 =>
        if b = true then te σ2 H3 fun y H4 => ∃ acc, H4 D = some (.lst acc) ∧ acc.length < sizeLine ∧ Nx (upd H4 D (.lst (acc ++ [y]))) else Nx H3) := by
  refine ⟨fun i m H => m = kvs.length - i ∧ i ≤ kvs.length ∧ Pv i H, ⟨kvs.length, by simp, Nat.zero_le _, h0⟩, ?_⟩
  rintro i m H ⟨rfl, hi, p⟩
  have q := hl i H p
  by_cases hlt : i < kvs.length
  · refine .inr ⟨⟨q, hlt⟩, Pv (i + 1), fun H' p' => ⟨kvs.length - (i + 1), by omega, rfl, hlt, p'⟩, fun x H' y => ?_⟩
    obtain ⟨e, k, v, qa, e1, e2, e3⟩ := y
    subst e e2
    exact hs i k v qa _ e1 e3 p
  · have e : i = kvs.length := by omega
    subst e
    exact .inl ⟨⟨q, Nat.le_refl _⟩, hd H p⟩
theorem for_enumT {K : PySem.W.Frag} {a : Addr} {xs : List V} {g : TG} {tb : TS} {D : Ends} {σ : L2.St} {H : Hp} (Pv : Nat → L2.St → Hp → Prop) (h0 : Pv 0 σ H) (hl : ∀ i σ H, Pv i σ H → SqT K H a xs)
    (hs : ∀ i x p σ H, xs[i]? = some x → Pv i σ H → H p = none → g (.ref p) σ (upd H p (.tup [.int (i : Nat), x])) fun σ2 H2 => tb { D with nx := Pv (i + 1), ct := Pv (i + 1), bk := D.nx } σ2 H2) (hd : ∀ σ H, Pv xs.length σ H → D.nx σ H) :
    ∃ W : Nat → Nat → L2.St → Hp → Prop, (∃ m, W 0 m σ H) ∧ ∀ i m σ H, W i m σ H →
      ((IteT K a).stop i H ∧ D.nx σ H) ∨ ((IteT K a).go i H ∧ ∃ N : L2.St → Hp → Prop, (∀ σ' H', N σ' H' → ∃ m', m' < m ∧ W (i + 1) m' σ' H') ∧ ∀ x H', (IteT K a).yld i H x H' → g x σ H' fun σ2 H2 => tb { D with nx := N, ct := N, bk := D.nx } σ2 H2) := by
  refine ⟨fun i m σ H => m = xs.length - i ∧ i ≤ xs.length ∧ Pv i σ H, ⟨xs.length, by simp, Nat.zero_le _, h0⟩, ?_⟩
  rintro i m σ H ⟨rfl, hi, p⟩
  have q := hl i σ H p
  by_cases hlt : i < xs.length
  · refine .inr ⟨⟨xs, xs[i], q, by simp [hlt]⟩, Pv (i + 1), fun σ' H' p' => ⟨xs.length - (i + 1), by omega, rfl, hlt, p'⟩, fun x H' y => ?_⟩
    obtain ⟨t, x', rfl, hT, rfl, f⟩ := y
    exact hs i x' t σ H (f xs q) p hT
  · have e : i = xs.length := by omega
    subst e
    exact .inl ⟨⟨xs, q, Nat.le_refl _⟩, hd σ H p⟩

/-! ### sorted triples -/
def enc3 (g : G) : PyData := .tuple [.int g.1, .int g.2.1, .int g.2.2]
theorem dataLe_3 : PySem.W.dataLe false enc3 = le3 := by
  funext p q
  rw [PySem.W.dataLe_eq]
  show (!PySem.W.dataLt (.tuple [.int q.1, .int q.2.1, .int q.2.2]) (.tuple [.int p.1, .int p.2.1, .int p.2.2])) = _
  rw [PySem.W.dataLt_tuple, PySem.W.dataLt_cons (by simp [PySem.W.alike]), PySem.W.dataLt_cons (by simp [PySem.W.alike]), PySem.W.dataLt_cons (by simp [PySem.W.alike]), PySem.W.dataLt_int, PySem.W.dataLt_int, PySem.W.dataLt_int]
  have e : PyProof.Rows.lexLt PyProof.Rows.itemOrd (PySem.W.keyToksAll []) (PySem.W.keyToksAll []) = false := PyProof.Rows.lex_irrefl _
  rw [e]
  simp only [PyData.eqv, beq_iff_eq]
  unfold le3
  by_cases h1 : q.1 = p.1
  · rw [if_pos h1]
    by_cases h2 : q.2.1 = p.2.1
    · rw [if_pos h2]
      by_cases h3 : q.2.2 = p.2.2
      · rw [if_pos h3]
        exact (decide_eq_true (by omega)).symm
      · rw [if_neg h3]
        by_cases h4 : q.2.2 < p.2.2
        · rw [decide_eq_true h4]; exact (decide_eq_false (by omega)).symm
        · rw [decide_eq_false h4]; exact (decide_eq_true (by omega)).symm
    · rw [if_neg h2]
      by_cases h4 : q.2.1 < p.2.1
      · rw [decide_eq_true h4]; exact (decide_eq_false (by omega)).symm
      · rw [decide_eq_false h4]; exact (decide_eq_true (by omega)).symm
  · rw [if_neg h1]
    by_cases h4 : q.1 < p.1
    · rw [decide_eq_true h4]; exact (decide_eq_false (by omega)).symm
    · rw [decide_eq_false h4]; exact (decide_eq_true (by omega)).symm
section
variable {X : Cx} {K : PySem.W.Frag}
def rSorted3 (K : PySem.W.Frag) : List V → Hp → VK → Prop := fun vs H Q => ∃ (a : Addr) (xs : List V) (gs : List G), vs = [V.ref a] ∧ SqL K H a xs ∧ Paired (GAt H) xs gs ∧
  ∀ p ys, H p = none → Paired (GAt H) ys (sort3 gs) → Q (.ref p) (upd H p (.lst ys))
theorem paired_each {α β : Type} {F : α → β → Prop} {E : Value → β → Prop} {R : α → Value → Prop} (k : ∀ a b u, F a b → R a u → E u b) : ∀ {l : List α} {m : List β} {us : List Value}, Paired F l m → Paired R l us → PySem.W.EachIs E us m
  | _, _, _, .nil, .nil => .nil
  | _, _, _, .cons h t, .cons h' t' => .cons (k _ _ _ h h') (paired_each k t t')
theorem each_vals {H : Hp} : ∀ {us : List Value} {gs : List G}, PySem.W.EachIs (fun (v : Value) (g : G) => ∃ p, v = .ref p ∧ H p = some (.tup (gV g))) us gs → ∃ ys, Vals ys us ∧ Paired (GAt H) ys gs
  | _, _, .nil => ⟨[], .nil, .nil⟩
  | _, _, .cons ⟨p, e, hp⟩ t => by
    obtain ⟨ys, h1, h2⟩ := each_vals t
    subst e
    exact ⟨.ref p :: ys, .cons rfl h1, .cons ⟨p, rfl, hp⟩ h2⟩
theorem cr_sorted3 (hK : X.K = K) (hu : X.A.units + 64 < cLine) : CallR X (.builtin "sorted") (rSorted3 K) := by
  subst hK
  intro pins s σ H vs us Q I r h
  obtain ⟨a, xs, gs, rfl, hs, hp, q⟩ := h
  obtain ⟨its, rv, hl, hz⟩ := I.list hs
  rw [Vals.ref1 r]
  have hlen : gs.length = xs.length := (Paired.length hp).symm
  refine PySem.W.sorted_data (enc := enc3) (bs := gs) (R := fun (v : Value) (g : G) => ∃ p, v = .ref p ∧ H p = some (.tup (gV g))) hl.isList
    (paired_each (fun x g u h1 h2 => by obtain ⟨p, e, h3⟩ := h1; subst e; cases h2; exact ⟨p, rfl, h3⟩) hp rv)
    (paired_each (fun x g u h1 h2 => by
      obtain ⟨p, e, h3⟩ := h1
      subst e
      exact Dp.reads I (enc3 g) _ u (.tup (SqT.of h3) (.cons (.int _) (.cons (.int _) (.cons (.int _) .nil)))) h2) hp rv)
    (PySem.W.AllAlike.of fun b b' => by simp [enc3, PySem.W.alike, PySem.W.alikeAll]) (PySem.W.Sortable.tuples fun b => ⟨_, _, rfl⟩) (by rw [hlen]; exact hz)
    (fun b _ => by
      have e : (enc3 b).depth = 1 := by simp [enc3, PyData.depth, PyData.depthAll]
      rw [e]; omega) fun out ho eo => ?_
  rw [dataLe_3] at eo
  obtain ⟨ys, h1, h2⟩ := each_vals eo
  obtain ⟨ep, he'⟩ := PyProof.Rows.sortedAll_at s.heap its out.toArray
  have hyl : ys.length ≤ sizeLine := by
    rw [Paired.length h2]
    show (sort3 gs).length ≤ sizeLine
    rw [sort3_len, hlen]; exact hz
  exact ⟨.ref _, upd H (s.heap.objs.size + 1) (.lst ys), I.laid (t' := s.toks) (fun _ _ => PyProof.Rows.sortedAll_old) (Nat.le_succ _) ⟨hyl, out, ep, h1, he'⟩, rfl, q _ _ (I.hok.fresh (Nat.le_succ _)) h2⟩
end
end Wl

/-! W3b: comprehensions over data: what stands behind them. -/
namespace Wl
open PySem PySem.Spec PyProof.Rows L2
theorem small_line {n : Nat} (h : n ≤ 100000) : n < sizeLine := Nat.lt_of_le_of_lt h (by rw [sizeLine_eq]; omega)
theorem small_le {n : Nat} (h : n ≤ 100000) : n ≤ sizeLine := Nat.le_of_lt (small_line h)
theorem paired_at {α β : Type} {F : α → β → Prop} : ∀ {l : List α} {m : List β}, Paired F l m → ∀ {i : Nat} {a : α}, l[i]? = some a → ∃ b, m[i]? = some b ∧ F a b
  | _, _, .nil, i, a, e => by simp at e
  | _, _, .cons h t, 0, a, e => by simp at e; subst e; exact ⟨_, rfl, h⟩
  | _, _, .cons h t, i + 1, a, e => by
    obtain ⟨b, h1, h2⟩ := paired_at t (i := i) (by simpa using e)
    exact ⟨b, by simpa using h1, h2⟩
theorem paired_snoc {α β : Type} {F : α → β → Prop} : ∀ {l : List α} {m : List β} {a : α} {b : β}, Paired F l m → F a b → Paired F (l ++ [a]) (m ++ [b])
  | _, _, _, _, .nil, h => .cons h .nil
  | _, _, _, _, .cons h t, k => .cons h (paired_snoc t k)
theorem take_snoc {α : Type} {l : List α} {i : Nat} {b : α} (h : l[i]? = some b) : l.take (i + 1) = l.take i ++ [b] := by
  rw [List.take_add_one, h]; rfl
theorem fm_len {α β : Type} (f : α → Option β) (l : List α) : (l.filterMap f).length ≤ l.length := List.length_filterMap_le f l
theorem Wk.lst {H : Hp} {D : Addr} {xs ys : List V} (h : H D = some (.lst xs)) : Wk H (upd H D (.lst ys)) := fun b o e => by
  by_cases hb : b = D
  · subst hb
    rw [h] at e
    exact .inr ⟨xs, ys, (Option.some.inj e).symm, upd_same⟩
  · rw [upd_ne hb]; exact .inl e
section
variable {K : PySem.W.Frag} {a : Addr} {xs : List V} {g : TG} {tt : TT} {te tk tv : TE} {vs : List Nat} {σ : L2.St} {H1 : Hp} {D : Addr} {Qd : Hp → Prop}
/-- [e for t in a tuple if ..] -/
theorem lc_tupG {β γ : Type} {gs : List β} (F : Hp → V → β → Prop) (E : Hp → V → γ → Prop) (y2 : β → Option γ) (hD : H1 D = none) (ha : H1 a = some (.tup xs)) (hp : Paired (F H1) xs gs) (hlen : gs.length ≤ 100000)
    (Fm : ∀ {H H' : Hp} {v : V} {b : β}, F H v b → Wk H H' → F H' v b) (Em : ∀ {H H' : Hp} {v : V} {c : γ}, E H v c → Wk H H' → E H' v c)
    (hs : ∀ (x : V) (b : β) (H' : Hp) (R : V → Hp → Prop) (R0 : Hp → Prop), b ∈ gs → F H' x b → Same H1 H' → (∀ y c H4, Same H' H4 → y2 b = some c → E H4 y c → R y H4) → (∀ H3, Same H' H3 → y2 b = none → R0 H3) →
      g x (wipe σ vs) H' fun σ2 H2 => wipe σ2 vs = wipe σ vs ∧ tt σ2 H2 fun bb H3 => if bb = true then te σ2 H3 R else R0 H3)
    (hd : ∀ H' out, Same H1 H' → H' D = some (.lst out) → Paired (E H') out (gs.filterMap y2) → Qd H') :
    ∃ W : Nat → Nat → Hp → Prop, (∃ m, W 0 m (upd H1 D (.lst []))) ∧ ∀ i m H, W i m H →
      ((Itt K a).stop i H ∧ Qd H) ∨ ((Itt K a).go i H ∧ ∃ Nx : Hp → Prop, (∀ H', Nx H' → ∃ m', m' < m ∧ W (i + 1) m' H') ∧ ∀ x H', (Itt K a).yld i H x H' → g x (wipe σ vs) H' fun σ2 H2 => wipe σ2 vs = wipe σ vs ∧ tt σ2 H2 fun b H3 =>
        if b = true then te σ2 H3 fun y H4 => ∃ acc, H4 D = some (.lst acc) ∧ acc.length < sizeLine ∧ Nx (upd H4 D (.lst (acc ++ [y]))) else Nx H3) := by
  have hl : xs.length = gs.length := Paired.length hp
  refine lc_tup (K := K) (a := a) (xs := xs) (fun i H' => Same H1 H' ∧ ∃ out, H' D = some (.lst out) ∧ Paired (E H') out ((gs.take i).filterMap y2)) ⟨Same.new hD, [], upd_same, .nil⟩
    (fun i H' _ h => SqT.of (h.1 a _ ha)) ?_ ?_
  · rintro i x H' hx ⟨s, out, hO, pO⟩
    obtain ⟨b, hb, fb⟩ := paired_at hp hx
    have hbm : b ∈ gs := List.mem_of_getElem? hb
    have hlo : out.length ≤ 100000 := by
      rw [Paired.length pO]
      exact Nat.le_trans (fm_len _ _) (Nat.le_trans (List.length_take_le' _ _) hlen)
    refine hs x b H' _ _ hbm (Fm fb s.wk) s (fun y c H4 s4 e2 ey => ?_) fun H3 s3 e2 => ?_
    · refine ⟨out, s4 _ _ hO, small_line hlo, (s.trans s4).mut hD, out ++ [y], upd_same, ?_⟩
      have w : Wk H4 (upd H4 D (.lst (out ++ [y]))) := Wk.lst (s4 _ _ hO)
      rw [take_snoc hb, List.filterMap_append]
      have e3 : List.filterMap y2 [b] = [c] := by simp [e2]
      rw [e3]
      exact paired_snoc (pmap pO fun _ _ z => Em (Em z s4.wk) w) (Em ey w)
    · refine ⟨s.trans s3, out, s3 _ _ hO, ?_⟩
      rw [take_snoc hb, List.filterMap_append]
      have e3 : List.filterMap y2 [b] = [] := by simp [e2]
      rw [e3, List.append_nil]
      exact pmap pO fun _ _ z => Em z s3.wk
  · rintro H' ⟨s, out, hO, pO⟩
    rw [hl, List.take_length] at pO
    exact hd H' out s hO pO
/-- [e for t in a list if ..] -/
theorem lc_listG {β γ : Type} {gs : List β} (F : Hp → V → β → Prop) (E : Hp → V → γ → Prop) (y2 : β → Option γ) (hD : H1 D = none) (ha : SqL K H1 a xs) (hp : Paired (F H1) xs gs) (hlen : gs.length ≤ 100000)
    (Fm : ∀ {H H' : Hp} {v : V} {b : β}, F H v b → Wk H H' → F H' v b) (Em : ∀ {H H' : Hp} {v : V} {c : γ}, E H v c → Wk H H' → E H' v c)
    (hs : ∀ (x : V) (b : β) (H' : Hp) (R : V → Hp → Prop) (R0 : Hp → Prop), b ∈ gs → F H' x b → Same H1 H' → (∀ y c H4, Same H' H4 → y2 b = some c → E H4 y c → R y H4) → (∀ H3, Same H' H3 → y2 b = none → R0 H3) →
      g x (wipe σ vs) H' fun σ2 H2 => wipe σ2 vs = wipe σ vs ∧ tt σ2 H2 fun bb H3 => if bb = true then te σ2 H3 R else R0 H3)
    (hd : ∀ H' out, Same H1 H' → H' D = some (.lst out) → Paired (E H') out (gs.filterMap y2) → Qd H') :
    ∃ W : Nat → Nat → Hp → Prop, (∃ m, W 0 m (upd H1 D (.lst []))) ∧ ∀ i m H, W i m H →
      ((Itl K a).stop i H ∧ Qd H) ∨ ((Itl K a).go i H ∧ ∃ Nx : Hp → Prop, (∀ H', Nx H' → ∃ m', m' < m ∧ W (i + 1) m' H') ∧ ∀ x H', (Itl K a).yld i H x H' → g x (wipe σ vs) H' fun σ2 H2 => wipe σ2 vs = wipe σ vs ∧ tt σ2 H2 fun b H3 =>
        if b = true then te σ2 H3 fun y H4 => ∃ acc, H4 D = some (.lst acc) ∧ acc.length < sizeLine ∧ Nx (upd H4 D (.lst (acc ++ [y]))) else Nx H3) := by
  have hl : xs.length = gs.length := Paired.length hp
  refine lc_list (K := K) (a := a) (xs := xs) (fun i H' => Same H1 H' ∧ ∃ out, H' D = some (.lst out) ∧ Paired (E H') out ((gs.take i).filterMap y2)) ⟨Same.new hD, [], upd_same, .nil⟩
    (fun i H' _ h => h.1.seq ha) ?_ ?_
  · rintro i x H' hx ⟨s, out, hO, pO⟩
    obtain ⟨b, hb, fb⟩ := paired_at hp hx
    have hbm : b ∈ gs := List.mem_of_getElem? hb
    have hlo : out.length ≤ 100000 := by
      rw [Paired.length pO]
      exact Nat.le_trans (fm_len _ _) (Nat.le_trans (List.length_take_le' _ _) hlen)
    refine hs x b H' _ _ hbm (Fm fb s.wk) s (fun y c H4 s4 e2 ey => ?_) fun H3 s3 e2 => ?_
    · refine ⟨out, s4 _ _ hO, small_line hlo, (s.trans s4).mut hD, out ++ [y], upd_same, ?_⟩
      have w : Wk H4 (upd H4 D (.lst (out ++ [y]))) := Wk.lst (s4 _ _ hO)
      rw [take_snoc hb, List.filterMap_append]
      have e3 : List.filterMap y2 [b] = [c] := by simp [e2]
      rw [e3]
      exact paired_snoc (pmap pO fun _ _ z => Em (Em z s4.wk) w) (Em ey w)
    · refine ⟨s.trans s3, out, s3 _ _ hO, ?_⟩
      rw [take_snoc hb, List.filterMap_append]
      have e3 : List.filterMap y2 [b] = [] := by simp [e2]
      rw [e3, List.append_nil]
      exact pmap pO fun _ _ z => Em z s3.wk
  · rintro H' ⟨s, out, hO, pO⟩
    rw [hl, List.take_length] at pO
    exact hd H' out s hO pO
/-- neighbours -/
def adj {β : Type} (f : β → β → Bool) : List β → List Bool
  | a :: b :: r => f a b :: adj f (b :: r)
  | _ => []
theorem adj_take {β : Type} (f : β → β → Bool) : ∀ (gs : List β) (i : Nat) (b c : β), gs[i]? = some b → gs[i + 1]? = some c → adj f (gs.take (i + 2)) = adj f (gs.take (i + 1)) ++ [f b c]
  | [], i, b, c, h, _ => by simp at h
  | [x], i, b, c, _, h => by simp at h
  | x :: y :: r, 0, b, c, h1, h2 => by
    simp at h1 h2
    subst h1 h2
    rfl
  | x :: y :: r, i + 1, b, c, h1, h2 => by
    have ih := adj_take f (y :: r) i b c (by simpa using h1) (by simpa using h2)
    show f x y :: adj f ((y :: r).take (i + 2)) = (f x y :: adj f ((y :: r).take (i + 1))) ++ [f b c]
    rw [ih]; rfl
theorem adj_one {β : Type} (f : β → β → Bool) (gs : List β) : adj f (gs.take 1) = [] := by
  cases gs <;> rfl
theorem adj_len {β : Type} (f : β → β → Bool) : ∀ (gs : List β), (adj f gs).length ≤ gs.length
  | [] => Nat.le_refl _
  | [x] => Nat.zero_le _
  | x :: y :: r => by
    have := adj_len f (y :: r)
    show (adj f (y :: r)).length + 1 ≤ (y :: r).length + 1
    omega
/-- [e for a, b in zip(t, t[1:])], e a flag -/
theorem lc_zipG {β : Type} {gs : List β} {b2 : Addr} (F : Hp → V → β → Prop) (f : β → β → Bool) (hD : H1 D = none) (ha : H1 a = some (.tup xs)) (hb2 : H1 b2 = some (.tup (xs.drop 1))) (hp : Paired (F H1) xs gs) (hlen : gs.length ≤ 100000)
    (Fm : ∀ {H H' : Hp} {v : V} {b : β}, F H v b → Wk H H' → F H' v b)
    (hs : ∀ (x y : V) (p : Addr) (b c : β) (H' : Hp) (R : V → Hp → Prop) (R0 : Hp → Prop), b ∈ gs → c ∈ gs → F H' x b → F H' y c → Same H1 H' → H' p = some (.tup [x, y]) → (∀ H4, Same H' H4 → R (.bl (f b c)) H4) →
      g (.ref p) (wipe σ vs) H' fun σ2 H2 => wipe σ2 vs = wipe σ vs ∧ tt σ2 H2 fun bb H3 => if bb = true then te σ2 H3 R else R0 H3)
    (hd : ∀ H', Same H1 H' → H' D = some (.lst ((adj f gs).map V.bl)) → Qd H') :
    ∃ W : Nat → Nat → Hp → Prop, (∃ m, W 0 m (upd H1 D (.lst []))) ∧ ∀ i m H, W i m H →
      ((RZ.ItzT K a b2).stop i H ∧ Qd H) ∨ ((RZ.ItzT K a b2).go i H ∧ ∃ Nx : Hp → Prop, (∀ H', Nx H' → ∃ m', m' < m ∧ W (i + 1) m' H') ∧ ∀ x H', (RZ.ItzT K a b2).yld i H x H' → g x (wipe σ vs) H' fun σ2 H2 => wipe σ2 vs = wipe σ vs ∧ tt σ2 H2 fun b H3 =>
        if b = true then te σ2 H3 fun y H4 => ∃ acc, H4 D = some (.lst acc) ∧ acc.length < sizeLine ∧ Nx (upd H4 D (.lst (acc ++ [y]))) else Nx H3) := by
  have hl : xs.length = gs.length := Paired.length hp
  refine lc_zipT (K := K) (a := a) (b := b2) (xs := xs) (ys := xs.drop 1) (by rw [List.length_drop]; omega) (fun i H' => Same H1 H' ∧ H' D = some (.lst ((adj f (gs.take (i + 1))).map V.bl))) ⟨Same.new hD, by rw [adj_one]; exact upd_same⟩
    (fun i H' h => ⟨SqT.of (h.1 _ _ ha), SqT.of (h.1 _ _ hb2)⟩) ?_ ?_
  · rintro i x y p H' hx hy ⟨s, hO⟩ hn
    obtain ⟨b, hb, fb⟩ := paired_at hp hx
    rw [List.getElem?_drop] at hy
    have hy' : xs[i + 1]? = some y := by rw [Nat.add_comm]; exact hy
    obtain ⟨c, hc, fc⟩ := paired_at hp hy'
    have sp : Same H' (upd H' p (.tup [x, y])) := Same.new hn
    refine hs x y p b c _ _ _ (List.mem_of_getElem? hb) (List.mem_of_getElem? hc) (Fm fb (s.trans sp).wk) (Fm fc (s.trans sp).wk) (s.trans sp) upd_same fun H4 s4 => ?_
    have hO4 := s4 _ _ (sp _ _ hO)
    refine ⟨_, hO4, small_line ?_, ((s.trans sp).trans s4).mut hD, ?_⟩
    · rw [List.length_map]
      exact Nat.le_trans (adj_len _ _) (Nat.le_trans (List.length_take_le' _ _) hlen)
    · rw [upd_same, adj_take f gs i b c hb hc, List.map_append]; rfl
  · rintro H' ⟨s, hO⟩
    have e : gs.take ((xs.drop 1).length + 1) = gs := by
      rw [List.length_drop]
      exact List.take_of_length_le (by omega)
    rw [e] at hO
    exact hd H' s hO
/-- {k: v for t in a tuple if ..}, the keys ints -/
theorem dc_tupG {β : Type} {gs : List β} (F : Hp → V → β → Prop) (y2 : β → Option (Int × Int)) (hD : H1 D = none) (ha : H1 a = some (.tup xs)) (hp : Paired (F H1) xs gs) (hlen : gs.length ≤ 100000)
    (Fm : ∀ {H H' : Hp} {v : V} {b : β}, F H v b → Wk H H' → F H' v b)
    (hs : ∀ (x : V) (b : β) (H' : Hp) (R : V → V → Hp → Prop) (R0 : Hp → Prop), b ∈ gs → F H' x b → Same H1 H' → (∀ c H4, Same H' H4 → y2 b = some c → R (.int c.1) (.int c.2) H4) → (∀ H3, Same H' H3 → y2 b = none → R0 H3) →
      g x (wipe σ vs) H' fun σ2 H2 => wipe σ2 vs = wipe σ vs ∧ tt σ2 H2 fun bb H3 => if bb = true then tk σ2 H3 fun y H4 => tv σ2 H4 fun z H5 => R y z H5 else R0 H3)
    (hd : ∀ H' kvs, Same H1 H' → H' D = some (.dK kvs) → (∀ w, valV kvs (Sum.inl w) = (lastOf (gs.filterMap y2) w).map V.int) → Qd H') :
    ∃ W : Nat → Nat → Hp → Prop, (∃ m, W 0 m (upd H1 D (.dK []))) ∧ ∀ i m H, W i m H →
      ((Itt K a).stop i H ∧ Qd H) ∨ ((Itt K a).go i H ∧ ∃ Nx : Hp → Prop, (∀ H', Nx H' → ∃ m', m' < m ∧ W (i + 1) m' H') ∧ ∀ x H', (Itt K a).yld i H x H' → g x (wipe σ vs) H' fun σ2 H2 => wipe σ2 vs = wipe σ vs ∧ tt σ2 H2 fun b H3 =>
        if b = true then tk σ2 H3 fun y H4 => tv σ2 H4 fun z H5 => ∃ kvs k, y = kV k ∧ H5 D = some (.dK kvs) ∧ kvs.length < sizeLine ∧ Nx (upd H5 D (.dK (putK kvs k z))) else Nx H3) := by
  have hl : xs.length = gs.length := Paired.length hp
  refine dc_tup (K := K) (a := a) (xs := xs) (fun i H' => Same H1 H' ∧ ∃ kvs, H' D = some (.dK kvs) ∧ kvs.length ≤ i ∧ ∀ w, valV kvs (Sum.inl w) = (lastOf ((gs.take i).filterMap y2) w).map V.int) ⟨Same.new hD, [], upd_same, Nat.le_refl _, fun w => rfl⟩
    (fun i H' _ h => SqT.of (h.1 a _ ha)) ?_ ?_
  · rintro i x H' hx ⟨s, kvs, hO, hk, pO⟩
    obtain ⟨b, hb, fb⟩ := paired_at hp hx
    have hbm : b ∈ gs := List.mem_of_getElem? hb
    have hi : i < gs.length := (List.getElem?_eq_some_iff.mp hb).1
    refine hs x b H' (fun y z H5 => ∃ kvs k, y = kV k ∧ H5 D = some (.dK kvs) ∧ kvs.length < sizeLine ∧ (Same H1 (upd H5 D (.dK (putK kvs k z))) ∧ ∃ kvs', upd H5 D (.dK (putK kvs k z)) D = some (.dK kvs') ∧ kvs'.length ≤ i + 1 ∧ ∀ w, valV kvs' (Sum.inl w) = (lastOf ((gs.take (i + 1)).filterMap y2) w).map V.int)) _ hbm (Fm fb s.wk) s (fun c H4 s4 e2 => ?_) fun H3 s3 e2 => ?_
    · refine ⟨kvs, Sum.inl c.1, rfl, s4 _ _ hO, small_line (by omega), (s.trans s4).mut hD, _, upd_same, by have := length_putK kvs (Sum.inl c.1) (V.int c.2); omega, fun w => ?_⟩
      rw [take_snoc hb, List.filterMap_append]
      have e3 : List.filterMap y2 [b] = [c] := by simp [e2]
      rw [e3, lastOf_snoc, valV_put]
      by_cases h : c.1 = w
      · subst h
        rw [if_pos rfl, if_pos rfl]; rfl
      · have h' : ¬ (Sum.inl w : L2.Key) = Sum.inl c.1 := fun q => h (Sum.inl.inj q).symm
        rw [if_neg h, if_neg h']
        exact pO w
    · refine ⟨s.trans s3, kvs, s3 _ _ hO, by omega, fun w => ?_⟩
      rw [take_snoc hb, List.filterMap_append]
      have e3 : List.filterMap y2 [b] = [] := by simp [e2]
      rw [e3, List.append_nil]
      exact pO w
  · rintro H' ⟨s, kvs, hO, hk, pO⟩
    rw [hl, List.take_length] at pO
    exact hd H' kvs s hO pO
end

/-! ### dicts with pairs as keys -/
def kk (k : Int × Int) : List L2.Key := [Sum.inl k.1, Sum.inl k.2]
def rep (d : KD) : List (List L2.Key × V) := d.map fun e => (kk e.1, V.int e.2)
theorem kk_inj {a b : Int × Int} (h : kk a = kk b) : a = b := by
  unfold kk at h
  injection h with h1 h2
  injection h2 with h2 _
  injection h1 with h1
  injection h2 with h2
  exact Prod.ext h1 h2
theorem kk_map (k : Int × Int) : (kk k).map kV = [V.int k.1, V.int k.2] := rfl
theorem rep_val : ∀ (d : KD) (k : Int × Int), valV (rep d) (kk k) = (klook d k).map V.int
  | [], _ => rfl
  | e :: d, k => by
    show valV ((kk e.1, V.int e.2) :: rep d) (kk k) = _
    rw [klook_cons]
    by_cases h : e.1 = k
    · rw [if_pos h, valV_pos (by rw [h])]; rfl
    · rw [if_neg h, valV_neg (fun q => h (kk_inj q))]
      exact rep_val d k
theorem rep_put (d : KD) (k : Int × Int) (v : Int) : putK (rep d) (kk k) (V.int v) = rep (kput d k v) := by
  unfold putK kput
  have e : ((rep d).any fun kv => decide (kv.1 = kk k)) = d.any fun e => decide (e.1 = k) := by
    rw [valV_any, rep_val, klook_any]
    cases klook d k <;> rfl
  rw [e]
  split
  · unfold rep
    rw [List.map_map, List.map_map]
    refine List.map_congr_left fun x _ => ?_
    show (if kk x.1 = kk k then (kk x.1, V.int v) else (kk x.1, V.int x.2)) = (kk (if x.1 = k then (x.1, v) else x).1, V.int (if x.1 = k then (x.1, v) else x).2)
    by_cases h : x.1 = k
    · rw [if_pos (by rw [h]), if_pos h]
    · rw [if_neg (fun q => h (kk_inj q)), if_neg h]
  · unfold rep
    rw [List.map_append]; rfl
theorem rep_len (d : KD) : (rep d).length = d.length := List.length_map ..
section
variable {K : PySem.W.Frag} {a : Addr} {xs : List V} {g : TG} {tt : TT} {te tk tv : TE} {vs : List Nat} {σ : L2.St} {H1 : Hp} {D : Addr} {Qd : Hp → Prop}
/-- {(s, w): m for s, w, m in a tuple of groups} -/
theorem dcT_tupG {gs : List G} (hD : H1 D = none) (ha : H1 a = some (.tup xs)) (hp : Paired (GAt H1) xs gs) (hlen : gs.length ≤ 100000)
    (hs : ∀ (x : V) (b : G) (H' : Hp) (R : V → V → Hp → Prop) (R0 : Hp → Prop), b ∈ gs → GAt H' x b → Same H1 H' → (∀ q H4, Same H' H4 → H4 q = some (.tup [V.int b.1, V.int b.2.1]) → R (.ref q) (.int b.2.2) H4) →
      g x (wipe σ vs) H' fun σ2 H2 => wipe σ2 vs = wipe σ vs ∧ tt σ2 H2 fun bb H3 => if bb = true then tk σ2 H3 fun y H4 => tv σ2 H4 fun z H5 => R y z H5 else R0 H3)
    (hd : ∀ H', Same H1 H' → H' D = some (.dT (rep (kd0 gs))) → Qd H') :
    ∃ W : Nat → Nat → Hp → Prop, (∃ m, W 0 m (upd H1 D (.dT []))) ∧ ∀ i m H, W i m H →
      ((Itt K a).stop i H ∧ Qd H) ∨ ((Itt K a).go i H ∧ ∃ Nx : Hp → Prop, (∀ H', Nx H' → ∃ m', m' < m ∧ W (i + 1) m' H') ∧ ∀ x H', (Itt K a).yld i H x H' → g x (wipe σ vs) H' fun σ2 H2 => wipe σ2 vs = wipe σ vs ∧ tt σ2 H2 fun b H3 =>
        if b = true then tk σ2 H3 fun y H4 => tv σ2 H4 fun z H5 => ∃ kvs k q, y = V.ref q ∧ H5 q = some (.tup (List.map kV k)) ∧ H5 D = some (.dT kvs) ∧ kvs.length < sizeLine ∧ Nx (upd H5 D (.dT (putK kvs k z))) else Nx H3) := by
  have hl : xs.length = gs.length := Paired.length hp
  have kl : ∀ gs : List G, (kd0 gs).length ≤ gs.length := by
    have key : ∀ (gs : List G) (d : KD), (gs.foldl (fun d g => kput d (g.1, g.2.1) g.2.2) d).length ≤ d.length + gs.length := by
      intro gs
      induction gs with
      | nil => intro d; exact Nat.le_refl _
      | cons g gs ih =>
        intro d
        have h1 := ih (kput d (g.1, g.2.1) g.2.2)
        have h2 := kput_len d (g.1, g.2.1) g.2.2
        rw [List.foldl_cons, List.length_cons]
        omega
    intro gs
    have h := key gs []
    rw [List.length_nil, Nat.zero_add] at h
    exact h
  refine dcT_tup (K := K) (a := a) (xs := xs) (fun i H' => Same H1 H' ∧ H' D = some (.dT (rep (kd0 (gs.take i))))) ⟨Same.new hD, upd_same⟩ (fun i H' _ h => SqT.of (h.1 a _ ha)) ?_ ?_
  · rintro i x H' hx ⟨s, hO⟩
    obtain ⟨b, hb, fb⟩ := paired_at hp hx
    have hi : i < gs.length := (List.getElem?_eq_some_iff.mp hb).1
    refine hs x b H' (fun y z H5 => ∃ kvs k q, y = V.ref q ∧ H5 q = some (.tup (List.map kV k)) ∧ H5 D = some (.dT kvs) ∧ kvs.length < sizeLine ∧ (Same H1 (upd H5 D (.dT (putK kvs k z))) ∧ upd H5 D (.dT (putK kvs k z)) D = some (.dT (rep (kd0 (gs.take (i + 1))))))) _ (List.mem_of_getElem? hb) (fb.mono s.wk) s fun q H4 s4 hq => ?_
    refine ⟨_, kk (b.1, b.2.1), q, rfl, hq, s4 _ _ hO, small_line ?_, (s.trans s4).mut hD, ?_⟩
    · rw [rep_len]
      exact Nat.le_trans (kl _) (Nat.le_trans (List.length_take_le' _ _) hlen)
    · rw [upd_same, rep_put, take_snoc hb, kd0_snoc]
  · rintro H' ⟨s, hO⟩
    rw [hl, List.take_length] at hO
    exact hd H' s hO
end

/-! ### slices and sums of tuples, whether new or the same object -/
theorem cut_drop (xs : List V) (n : Nat) : cutV xs (some (n : Int)) none = xs.drop n := by
  unfold cutV
  rw [HT.sIx_nat, HT.sIx_none]
  by_cases h : n ≤ xs.length
  · rw [Nat.min_eq_left h]
    exact List.take_of_length_le (by rw [List.length_drop]; exact Nat.le_refl _)
  · rw [Nat.min_eq_right (by omega), Nat.sub_self, List.take_zero]
    exact (List.drop_eq_nil_of_le (by omega)).symm
theorem cut_take (xs : List V) (n : Nat) : cutV xs none (some (n : Int)) = xs.take n := by
  unfold cutV
  rw [HT.sIx_nat, HT.sIx_none, List.drop_zero, Nat.sub_zero]
  by_cases h : n ≤ xs.length
  · rw [Nat.min_eq_left h]
  · rw [Nat.min_eq_right (by omega), List.take_of_length_le (Nat.le_refl _), List.take_of_length_le (by omega)]
theorem cut_last (xs : List V) : cutV xs none (some (-1)) = xs.take (xs.length - 1) := by
  unfold cutV
  rw [HT.sIx_none, List.drop_zero, Nat.sub_zero]
  congr 1
  show (if (-1 : Int) < 0 then (-1 + (xs.length : Int)).toNat else min (-1 : Int).toNat xs.length) = xs.length - 1
  rw [if_pos (by decide)]
  omega
section
variable {X : Cx}
def rSlU : V → Option Int → Option Int → Hp → VK → Prop := fun x lo hi H Q => ∃ a xs, x = .ref a ∧ H a = some (.tup xs) ∧ ∀ p H', Same H H' → H' p = some (.tup (cutV xs lo hi)) → Q (.ref p) H'
theorem sl_tupU : SlR X rSlU := by
  intro pins s σ H x v vl vu lo hi sl Q I rx hs pl pu h
  obtain ⟨a, xs, rfl, hx, q⟩ := h
  refine sl_tupA pins s σ H _ v vl vu lo hi sl Q I rx hs pl pu ⟨a, xs, rfl, SqT.of hx, fun hw => ?_, fun _ p np => ?_⟩
  · refine q a H (Same.refl H) ?_
    have e : cutV xs lo hi = xs := by
      unfold cutV
      rw [hw.1, hw.2, List.drop_zero, Nat.sub_zero, List.take_length]
    rw [e]; exact hx
  · exact q p _ (Same.new np) upd_same
def rCatU : R2 := fun x y H Q => ∃ a b xs ys, x = .ref a ∧ y = .ref b ∧ H a = some (.tup xs) ∧ H b = some (.tup ys) ∧ xs.length + ys.length ≤ 100000 ∧ ∀ p H', Same H H' → H' p = some (.tup (xs ++ ys)) → Q (.ref p) H'
theorem op_catU : OpR X (binaryOp .Add) rCatU := by
  intro pins s σ H x y v u Q I rx ry h
  obtain ⟨a, b, xs, ys, rfl, rfl, hx, hy, hl, q⟩ := h
  refine op_catA pins s σ H _ _ v u Q I rx ry ⟨a, b, xs, ys, rfl, rfl, SqT.of hx, SqT.of hy, small_le hl, fun e => ?_, fun _ e => ?_, fun _ _ p np => ?_⟩
  · subst e
    exact q b H (Same.refl H) hy
  · subst e
    exact q a H (Same.refl H) (by rw [List.append_nil]; exact hx)
  · exact q p _ (Same.new np) upd_same
end
theorem out_map {α : Type} {f : α → V} : ∀ {out : List V} {cs : List α}, Paired (fun v c => v = f c) out cs → out = cs.map f
  | _, _, .nil => rfl
  | _, _, .cons h t => by rw [List.map_cons, h, out_map t]
theorem fm_some {α β : Type} (f : α → β) (l : List α) : l.filterMap (fun a => some (f a)) = l.map f := by
  rw [List.filterMap_eq_map']

/-! ### the keys of a locked dict with pairs as keys -/
section
variable {K : PySem.W.Frag} {g : TG} {tt : TT} {te : TE} {vs : List Nat} {σ : L2.St} {H1 : Hp} {D : Addr} {Qd : Hp → Prop}
theorem rep_get {d : KD} {i : Nat} {k : List L2.Key} {v : V} (h : (rep d)[i]? = some (k, v)) : ∃ e, d[i]? = some e ∧ k = kk e.1 ∧ v = V.int e.2 := by
  unfold rep at h
  rw [List.getElem?_map] at h
  cases e : d[i]? with
  | none => rw [e] at h; cases h
  | some x =>
    rw [e] at h
    have h : (kk x.1, V.int x.2) = (k, v) := Option.some.inj h
    cases h
    exact ⟨x, rfl, rfl, rfl⟩
theorem lc_keysG {γ : Type} {d : Addr} {o : Obj} {kd : KD} (E : Hp → V → γ → Prop) (y2 : ((Int × Int) × Int) → Option γ) (hD : H1 D = none) (hf : H1 d = some (.frz o (.dT (rep kd)))) (hlen : kd.length ≤ 100000)
    (Em : ∀ {H H' : Hp} {v : V} {c : γ}, E H v c → Wk H H' → E H' v c)
    (hs : ∀ (q : Addr) (b : (Int × Int) × Int) (H' : Hp) (R : V → Hp → Prop) (R0 : Hp → Prop), b ∈ kd → H' q = some (.tup [V.int b.1.1, V.int b.1.2]) → Same H1 H' → (∀ y c H4, Same H' H4 → y2 b = some c → E H4 y c → R y H4) → (∀ H3, Same H' H3 → y2 b = none → R0 H3) →
      g (.ref q) (wipe σ vs) H' fun σ2 H2 => wipe σ2 vs = wipe σ vs ∧ tt σ2 H2 fun bb H3 => if bb = true then te σ2 H3 R else R0 H3)
    (hd : ∀ H' out, Same H1 H' → H' D = some (.lst out) → Paired (E H') out (kd.filterMap y2) → Qd H') :
    ∃ W : Nat → Nat → Hp → Prop, (∃ m, W 0 m (upd H1 D (.lst []))) ∧ ∀ i m H, W i m H →
      ((Itkt d o (rep kd)).stop i H ∧ Qd H) ∨ ((Itkt d o (rep kd)).go i H ∧ ∃ Nx : Hp → Prop, (∀ H', Nx H' → ∃ m', m' < m ∧ W (i + 1) m' H') ∧ ∀ x H', (Itkt d o (rep kd)).yld i H x H' → g x (wipe σ vs) H' fun σ2 H2 => wipe σ2 vs = wipe σ vs ∧ tt σ2 H2 fun b H3 =>
        if b = true then te σ2 H3 fun y H4 => ∃ acc, H4 D = some (.lst acc) ∧ acc.length < sizeLine ∧ Nx (upd H4 D (.lst (acc ++ [y]))) else Nx H3) := by
  refine lc_keysT (d := d) (o := o) (kvs := rep kd) (fun i H' => Same H1 H' ∧ ∃ out, H' D = some (.lst out) ∧ Paired (E H') out ((kd.take i).filterMap y2)) ⟨Same.new hD, [], upd_same, .nil⟩
    (fun i H' h => h.1 _ _ hf) ?_ ?_
  · rintro i k v q H' hx hq ⟨s, out, hO, pO⟩
    obtain ⟨b, hb, rfl, rfl⟩ := rep_get hx
    have hlo : out.length ≤ 100000 := by
      rw [Paired.length pO]
      exact Nat.le_trans (fm_len _ _) (Nat.le_trans (List.length_take_le' _ _) hlen)
    refine hs q b H' _ _ (List.mem_of_getElem? hb) hq s (fun y c H4 s4 e2 ey => ?_) fun H3 s3 e2 => ?_
    · refine ⟨out, s4 _ _ hO, small_line hlo, (s.trans s4).mut hD, out ++ [y], upd_same, ?_⟩
      have w : Wk H4 (upd H4 D (.lst (out ++ [y]))) := Wk.lst (s4 _ _ hO)
      rw [take_snoc hb, List.filterMap_append]
      have e3 : List.filterMap y2 [b] = [c] := by simp [e2]
      rw [e3]
      exact paired_snoc (pmap pO fun _ _ z => Em (Em z s4.wk) w) (Em ey w)
    · refine ⟨s.trans s3, out, s3 _ _ hO, ?_⟩
      rw [take_snoc hb, List.filterMap_append]
      have e3 : List.filterMap y2 [b] = [] := by simp [e2]
      rw [e3, List.append_nil]
      exact pmap pO fun _ _ z => Em z s3.wk
  · rintro H' ⟨s, out, hO, pO⟩
    rw [rep_len, List.take_length] at pO
    exact hd H' out s hO pO
end
theorem unlock_same {H H' : Hp} {d : Addr} {od : Obj} {u : HO} (h : H d = some u) (s : Same (upd H d (.frz od u)) H') : Same H (upd H' d u) := fun b o e => by
  by_cases hb : b = d
  · subst hb
    rw [h] at e
    rw [upd_same]; exact e
  · rw [upd_ne hb]
    exact s b o (by rw [upd_ne hb]; exact e)
section
variable {H : Hp} {a b : Addr} {d : KD} {k : Int × Int} {v : Int}
theorem dget_rep (h : Rd H a (.dT (rep d))) (hb : H b = some (.tup [V.int k.1, V.int k.2])) : DGet H a (.ref b) ((klook d k).map V.int) := by
  rw [← rep_val]
  exact .inr ⟨rep d, kk k, b, h, rfl, hb, rfl⟩
theorem dget_some (h : Rd H a (.dT (rep d))) (hb : H b = some (.tup [V.int k.1, V.int k.2])) (e : klook d k = some v) : DGet H a (.ref b) (some (V.int v)) := by
  have := dget_rep h hb
  rw [e] at this
  exact this
theorem dput_rep (h : H a = some (.dT (rep d))) (hb : H b = some (.tup [V.int k.1, V.int k.2])) (hl : d.length ≤ 100000) : DPut H a (.ref b) (V.int v) (upd H a (.dT (rep (kput d k v)))) := by
  rw [← rep_put]
  exact DPut.t h hb (by rw [rep_len]; exact small_line hl)
theorem getD_int (o : Option Int) : (o.map V.int).getD (V.int 0) = V.int (o.getD 0) := by cases o <;> rfl
end
theorem rowsOf_fm (d : KD) : d.filterMap (fun e => if 0 < e.2 then some ((e.1.1, e.1.2, e.2) : G) else none) = rowsOf d := by
  induction d with
  | nil => rfl
  | cons e d ih =>
    unfold rowsOf at *
    rw [List.filterMap_cons, List.filter_cons]
    by_cases h : 0 < e.2
    · simp [h, ih]
    · simp [h, ih]
theorem pos_decide {i : Int} {b : Bool} (h : decide (0 < i) = b) : (if 0 < i then some i else none) = if b = true then some i else none := by
  subst h
  by_cases h : 0 < i <;> simp [h]
end Wl

/-! W4: the program's defs, first part. -/
namespace Wl
open PySem PySem.Spec PyProof.Rows L2
/-! ### what the rules ask, in short -/
section
variable {i j : Int}
theorem d_int : decide (V.int i = V.int j) = decide (i = j) := by
  by_cases h : i = j
  · rw [decide_eq_true h, h]; exact decide_eq_true rfl
  · rw [decide_eq_false h]; exact decide_eq_false fun e => h (by injection e)
theorem d_bl {a b : Bool} : decide (V.bl a = V.bl b) = decide (a = b) := by
  by_cases h : a = b
  · rw [decide_eq_true h, h]; exact decide_eq_true rfl
  · rw [decide_eq_false h]; exact decide_eq_false fun e => h (by injection e)
theorem v_eq {b : Bool} (h : decide (i = j) = b) : V.bl (decide (V.int i = V.int j)) = V.bl b := by rw [d_int, h]
theorem v_ne {b : Bool} (h : (!decide (i = j)) = b) : V.bl (!decide (V.int i = V.int j)) = V.bl b := by rw [d_int, h]
end
theorem iteB {c : Bool} {A B : Prop} (h1 : c = true → A) (h2 : c = false → B) : if c = true then A else B := by
  cases c with
  | true => rw [if_pos rfl]; exact h1 rfl
  | false => rw [if_neg Bool.false_ne_true]; exact h2 rfl
theorem yesI {te : TE} {σ : L2.St} {H : Hp} {R : VK} {R0 : Hp → Prop} (h : te σ H R) : tYes σ H fun bb H3 => if bb = true then te σ H3 R else R0 H3 := by
  show (if true = true then te σ H R else R0 H)
  rw [if_pos rfl]
  exact h
theorem yesD {tk tv : TE} {σ : L2.St} {H : Hp} {R : V → V → Hp → Prop} {R0 : Hp → Prop} (h : tk σ H fun y H4 => tv σ H4 fun z H5 => R y z H5) : tYes σ H fun bb H3 => if bb = true then tk σ H3 fun y H4 => tv σ H4 fun z H5 => R y z H5 else R0 H3 := by
  show (if true = true then tk σ H fun y H4 => tv σ H4 fun z H5 => R y z H5 else R0 H)
  rw [if_pos rfl]
  exact h
section
variable {P : Program} {w : World} {K : PySem.W.Frag} {mg : Str → Option Value} {base : Heap}
/- slots of Pis_integer: 0:thing; level 1 -/
def sp_Pis_integer (T : Txt K mg) : Sp := fun vs H Q _ => ∃ v d, vs = [v] ∧ DAt T.a_House H v d ∧ Q (.bl (isI d)) H
theorem ok_Pis_integer (T : Txt K mg) : FnOk P w K mg base CX0 1 T.Pis_integer.f T.Pis_integer.d ["thing"] (sp_Pis_integer T) := by
  have nd := sc_Pis_integer.nd
  refine T.Pis_integer.F.ok sc_Pis_integer (fun vs H Q E h => ?_) (fun cdv A outer s H vs Q E hr h => ?_)
  · obtain ⟨v, d, rfl, _⟩ := h; rfl
  · obtain ⟨v, d, rfl, hd, q⟩ := h
    refine ⟨_, (pss_one (ps_ret (pe_and (pe_callB (call_isiK1 (K := K) rfl) (by rfl) T.n_isinstance (by decide +kernel) (pa_cons (pv 0) (pa_cons (pe_bltn (v := V.ty "int") (by rfl) T.n_int (by decide +kernel) rfl) pa_nil))) (pe_one (pe_not (pe_callB (call_isiK1 (K := K) rfl) (by rfl) T.n_isinstance (by decide +kernel) (pa_cons (pv 0) (pa_cons (pe_bltn (v := V.ty "bool") (by rfl) T.n_bool (by decide +kernel) rfl) pa_nil)))))))), ?_⟩
    obtain ⟨t, ty, bi, bb, bt, k1, k2, k3, e1, e2⟩ := hd.ty T
    refine ⟨_, rfl, _, _, _, _, bi, rfl, .ty _, ty, k1, bi, rfl, iteB (fun h => ?_) fun h => ?_⟩
    · refine ⟨_, rfl, _, _, _, _, bb, rfl, .ty _, ty, k2, bb, rfl, ?_⟩
      subst h
      rw [Bool.true_and] at e1
      rw [e1]; exact q
    · subst h
      rw [Bool.false_and] at e1
      rw [e1]; exact q
/- slots of Pis_within: 0:thing 1:least 2:most; level 2 -/
def sp_Pis_within (T : Txt K mg) : Sp := fun vs H Q _ => ∃ v d lo hi, vs = [v, .int lo, .int hi] ∧ DAt T.a_House H v d ∧ Q (.bl (within lo hi d)) H
theorem ok_Pis_within (T : Txt K mg) : FnOk P w K mg base CX0 2 T.Pis_within.f T.Pis_within.d ["thing", "least", "most"] (sp_Pis_within T) := by
  have nd := sc_Pis_within.nd
  refine T.Pis_within.F.ok sc_Pis_within (fun vs H Q E h => ?_) (fun cdv A outer s H vs Q E hr h => ?_)
  · obtain ⟨v, d, lo, hi, rfl, _⟩ := h; rfl
  · obtain ⟨v, d, lo, hi, rfl, hd, q⟩ := h
    refine ⟨_, (pss_one (ps_ret (pe_and (pe_call (ok_Pis_integer T) (hr.mono (by decide)) (by rfl) T.Pis_integer.m T.Pis_integer.F.kp T.Pis_integer.b .nil pass0 (pa_cons (pv 0) pa_nil)) (pe_one (pe_chain op_le op_le (pv 1) (pv 0) (pv 2)))))), ?_⟩
    refine ⟨_, rfl, v, d, rfl, hd, _, rfl, ?_⟩
    cases d with
    | int i =>
      cases hd
      refine iteT ⟨_, rfl, _, rfl, lo, i, rfl, rfl, _, rfl, iteB (fun h => ?_) fun h => ?_⟩
      · refine ⟨_, rfl, i, hi, rfl, rfl, ?_⟩
        have h := of_decide_eq_true h
        have e : within lo hi (.int i) = decide (i ≤ hi) := by
          show decide (lo ≤ i ∧ i ≤ hi) = _
          by_cases h2 : i ≤ hi
          · rw [decide_eq_true h2, decide_eq_true ⟨h, h2⟩]
          · rw [decide_eq_false h2, decide_eq_false fun z => h2 z.2]
        rw [e] at q
        exact q
      · have h := of_decide_eq_false h
        have e : within lo hi (.int i) = false := decide_eq_false fun z => h z.1
        rw [e] at q
        exact q
    | bad => exact iteF q
    | tup ds => exact iteF q
/- slots of CHouse: 0:self 1:floors 2:room; level 3 -/
def sp_CHouse (T : Txt K mg) : Sp := fun vs H Q _ => ∃ (p dx : Addr) (f r : Int), vs = [.ref p, .int f, .int r] ∧ H p = some (.ins T.a_House dx []) ∧ 2 ≤ f ∧ f ≤ 40 ∧ 1 ≤ r ∧ r ≤ 1000000000000 ∧
  ∀ H' : Hp, H' p = some (.ins T.a_House dx (hF f r)) → (∀ b o, H b = some o → b ≠ p → H' b = some o) → Q .non H'
theorem ok_CHouse (T : Txt K mg) : FnOk P w K mg base CX0 3 T.c_House.f T.c_House.d ["self", "floors", "room"] (sp_CHouse T) := by
  have nd := sc_CHouse.nd
  refine T.c_House.F.ok sc_CHouse (fun vs H Q E h => ?_) (fun cdv A outer s H vs Q E hr h => ?_)
  · obtain ⟨p, dx, f, r, rfl, _⟩ := h; rfl
  · obtain ⟨p, dx, f, r, rfl, hp, h1, h2, h3, h4, k⟩ := h
    refine ⟨_, (pss_cons (ps_if (pt_not (pt_val (pe_call (ok_Pis_within T) (hr.mono (by decide)) (by rfl) T.Pis_within.m T.Pis_within.F.kp T.Pis_within.b .nil pass0 (pa_cons (pv 1) (pa_cons pe_int (pa_cons (pe_glob (v := V.int 40) rfl T.g_MOST_FLOORS ⟨_, rfl⟩) pa_nil))))))
      (pss_one ps_never)
      pss_nil)
      (pss_cons (ps_if (pt_not (pt_val (pe_call (ok_Pis_within T) (hr.mono (by decide)) (by rfl) T.Pis_within.m T.Pis_within.F.kp T.Pis_within.b .nil pass0 (pa_cons (pv 2) (pa_cons pe_int (pa_cons (pe_glob (v := V.int 1000000000000) rfl T.g_MOST_ROOM ⟨_, rfl⟩) pa_nil))))))
      (pss_one ps_never)
      pss_nil)
      (pss_cons (ps_fldK (K := K) rfl (pv 0) (pv 1) rfl)
      (pss_one (ps_fldK (K := K) rfl (pv 0) (pv 2) rfl))))), ?_⟩
    have e1 : within 2 40 (.int f) = true := decide_eq_true ⟨h1, h2⟩
    have e2 : within 1 1000000000000 (.int r) = true := decide_eq_true ⟨h3, h4⟩
    refine ⟨_, rfl, _, .int f, 2, 40, rfl, .int f, _, rfl, ?_⟩
    rw [e1]
    refine iteF ?_
    refine ⟨_, rfl, _, .int r, 1, 1000000000000, rfl, .int r, _, rfl, ?_⟩
    rw [e2]
    refine iteF ?_
    refine ⟨_, rfl, _, rfl, p, _, dx, [], rfl, hp, T.cl_House, T.na_floors, (by show 0 < 1000; decide), ?_⟩
    refine ⟨_, rfl, _, rfl, p, _, dx, _, rfl, upd_same, T.cl_House, T.na_room, (by show 1 < 1000; decide), ?_⟩
    exact k _ upd_same fun b o e hb => by rw [upd_ne hb, upd_ne hb]; exact e
/- slots of Pis_floor: 0:house 1:thing; level 3 -/
def sp_Pis_floor (T : Txt K mg) : Sp := fun vs H Q _ => ∃ hv v d f r, vs = [hv, v] ∧ HouAt T H hv f r ∧ DAt T.a_House H v d ∧ Q (.bl (within 0 (f - 1) d)) H
theorem ok_Pis_floor (T : Txt K mg) : FnOk P w K mg base CX0 3 T.Pis_floor.f T.Pis_floor.d ["house", "thing"] (sp_Pis_floor T) := by
  have nd := sc_Pis_floor.nd
  refine T.Pis_floor.F.ok sc_Pis_floor (fun vs H Q E h => ?_) (fun cdv A outer s H vs Q E hr h => ?_)
  · obtain ⟨hv, v, d, f, r, rfl, _⟩ := h; rfl
  · obtain ⟨hv, v, d, f, r, rfl, ⟨p, dx, rfl, hh⟩, hd, q⟩ := h
    refine ⟨_, (pss_one (ps_ret (pe_call (ok_Pis_within T) (hr.mono (by decide)) (by rfl) T.Pis_within.m T.Pis_within.F.kp T.Pis_within.b .nil pass0 (pa_cons (pv 1) (pa_cons pe_int (pa_cons (pe_op op_sub (pe_fldK (K := K) rfl (pv 0) rfl) pe_int) pa_nil)))))), ?_⟩
    refine ⟨_, rfl, _, rfl, p, _, dx, _, _, rfl, hh, T.cl_House, T.na_floors, hF_floors f r, f, 1, rfl, rfl, v, d, 0, f - 1, rfl, hd, q⟩
/- slots of Pis_group: 0:house 1:thing; level 4 -/
def sp_Pis_group (T : Txt K mg) : Sp := fun vs H Q _ => ∃ hv v f r g, vs = [hv, v] ∧ HouAt T H hv f r ∧ GAt H v g ∧ InF f (g.1, g.2.1) ∧ 1 ≤ g.2.2 ∧ Q (.bl true) H
theorem ok_Pis_group (T : Txt K mg) : FnOk P w K mg base CX0 4 T.Pis_group.f T.Pis_group.d ["house", "thing"] (sp_Pis_group T) := by
  have nd := sc_Pis_group.nd
  refine T.Pis_group.F.ok sc_Pis_group (fun vs H Q E h => ?_) (fun cdv A outer s H vs Q E hr h => ?_)
  · obtain ⟨hv, v, f, r, g, rfl, _⟩ := h; rfl
  · obtain ⟨hv, v, f, r, g, rfl, hh, ⟨p, rfl, hp⟩, hi, h1, q⟩ := h
    refine ⟨_, (pss_cons (ps_if (PW.pt (pw_or (pt_not (pt_val (pe_callB (call_isiK1 (K := K) rfl) (by rfl) T.n_isinstance (by decide +kernel) (pa_cons (pv 1) (pa_cons (pe_bltn (v := V.ty "tuple") (by rfl) T.n_tuple (by decide +kernel) rfl) pa_nil))))) (pw_or1 (pt_cmpR op_ne (pe_callB (call_lenK (K := K) rfl) (by rfl) T.n_len (by decide +kernel) (pa_cons (pv 1) pa_nil)) pe_int (nomark _)))))
      (pss_one (ps_ret pe_bl))
      pss_nil)
      (pss_cons (ps_if (PW.pt (pw_or (pt_not (pt_val (pe_call (ok_Pis_floor T) (hr.mono (by decide)) (by rfl) T.Pis_floor.m T.Pis_floor.F.kp T.Pis_floor.b .nil pass0 (pa_cons (pv 0) (pa_cons (pe_ix (ix_tupK (K := K) rfl) (pv 1) pe_int (fun _ _ => rfl)) pa_nil))))) (pw_or1 (pt_not (pt_val (pe_call (ok_Pis_floor T) (hr.mono (by decide)) (by rfl) T.Pis_floor.m T.Pis_floor.F.kp T.Pis_floor.b .nil pass0 (pa_cons (pv 0) (pa_cons (pe_ix (ix_tupK (K := K) rfl) (pv 1) pe_int (fun _ _ => rfl)) pa_nil))))))))
      (pss_one (ps_ret pe_bl))
      pss_nil)
      (pss_one (ps_ret (pe_and (pe_call (ok_Pis_integer T) (hr.mono (by decide)) (by rfl) T.Pis_integer.m T.Pis_integer.F.kp T.Pis_integer.b .nil pass0 (pa_cons (pe_ix (ix_tupK (K := K) rfl) (pv 1) pe_int (fun _ _ => rfl)) pa_nil)) (pe_one (pe_cmpR op_ge (pe_ix (ix_tupK (K := K) rfl) (pv 1) pe_int (fun _ _ => rfl)) pe_int (nomark _)))))))), ?_⟩
    have ty : TyX K H (.ref p) (.type "tuple") := .base (.tup hp)
    refine ⟨_, rfl, _, _, _, _, true, rfl, .ty _, ty, kit_ty (by decide +kernel), true, rfl, iteF ⟨_, rfl, _, _, rfl, .inr (SqT.of hp), rfl, false, rfl, iteF ?_⟩⟩
    unfold InF at hi
    have i1 : within 0 (f - 1) (.int g.1) = true := decide_eq_true (by show 0 ≤ g.1 ∧ g.1 ≤ f - 1; omega)
    have i2 : within 0 (f - 1) (.int g.2.1) = true := decide_eq_true (by show 0 ≤ g.2.1 ∧ g.2.1 ≤ f - 1; simp only at hi; omega)
    refine ⟨_, rfl, _, rfl, _, _, _, _, rfl, rfl, SqT.of hp, at_of (j := 0) rfl rfl, _, _, .int g.1, f, r, rfl, hh, .int _, _, rfl, ?_⟩
    rw [i1]
    refine iteF ⟨_, rfl, _, rfl, _, _, _, _, rfl, rfl, SqT.of hp, at_of (j := 1) rfl rfl, _, _, .int g.2.1, f, r, rfl, hh, .int _, _, rfl, ?_⟩
    rw [i2]
    refine iteF ?_
    refine ⟨_, rfl, _, _, _, _, rfl, rfl, SqT.of hp, at_of (j := 2) rfl rfl, _, .int g.2.2, rfl, .int _, _, rfl, iteT ⟨_, rfl, _, _, _, _, rfl, rfl, SqT.of hp, at_of (j := 2) rfl rfl, _, _, rfl, rfl, ?_⟩⟩
    show Q (.bl (decide (1 ≤ g.2.2))) H
    rw [decide_eq_true h1]
    exact q
/- slots of Pis_groups: 0:house 1:thing 2:one 3:other 4:group; level 5 -/
def sp_Pis_groups (T : Txt K mg) : Sp := fun vs H Q _ => ∃ hv v f r gs, vs = [hv, v] ∧ HouAt T H hv f r ∧ GsAt H v gs ∧ GOk f gs ∧ gs.length ≤ 400 ∧ (∀ g ∈ gs, g.2.2 ≤ 1000000000000000000000000000000) ∧ ∀ H', Same H H' → Q (.bl true) H'
def lt2b (p q : G) : Bool := HT.lexLt [p.1, p.2.1] [q.1, q.2.1]
theorem lt2b_of {p q : G} (h : lt2 p q) : lt2b p q = true := by
  unfold lt2b lt2 at *
  rw [HT.lexLt_cons, HT.lexLt_cons]
  rcases h with h | ⟨h1, h2⟩
  · rw [if_neg (by omega)]; exact decide_eq_true h
  · rw [if_pos h1, if_neg (by omega)]; exact decide_eq_true h2
theorem adj_all {β : Type} {R : β → β → Prop} {f : β → β → Bool} (k : ∀ a b, R a b → f a b = true) : ∀ {l : List β}, l.Pairwise R → (adj f l).all id = true
  | [], _ => rfl
  | [a], _ => rfl
  | a :: b :: r, h => by
    obtain ⟨h1, h2⟩ := List.pairwise_cons.mp h
    show (f a b :: adj f (b :: r)).all id = true
    rw [List.all_cons, adj_all k h2]
    show (f a b && true) = true
    rw [k a b (h1 b List.mem_cons_self)]; rfl
theorem ok_Pis_groups (T : Txt K mg) : FnOk P w K mg base CX0 5 T.Pis_groups.f T.Pis_groups.d ["house", "thing"] (sp_Pis_groups T) := by
  have nd := sc_Pis_groups.nd
  refine T.Pis_groups.F.ok sc_Pis_groups (fun vs H Q E h => ?_) (fun cdv A outer s H vs Q E hr h => ?_)
  · obtain ⟨hv, v, f, r, gs, rfl, _⟩ := h; rfl
  · obtain ⟨hv, v, f, r, gs, rfl, hh, ⟨xs, ⟨a, rfl, ha⟩, hp⟩, hg, hl, hm, q⟩ := h
    refine ⟨_, (pss_cons (ps_if (PW.pt (pw_or (pt_not (pt_val (pe_callB (call_isiK1 (K := K) rfl) (by rfl) T.n_isinstance (by decide +kernel) (pa_cons (pv 1) (pa_cons (pe_bltn (v := V.ty "tuple") (by rfl) T.n_tuple (by decide +kernel) rfl) pa_nil))))) (pw_or1 (pt_cmpR op_gt (pe_callB (call_lenK (K := K) rfl) (by rfl) T.n_len (by decide +kernel) (pa_cons (pv 1) pa_nil)) (pe_glob (v := V.int 400) rfl T.g_MOST_GROUPS ⟨_, rfl⟩) (nomark _)))))
      (pss_one (ps_ret pe_bl))
      pss_nil)
      (pss_cons (ps_if (pt_not (pt_val (pe_callB (cr_allK (K := K) rfl rfl) (by rfl) T.n_all (by decide +kernel) (pa_cons (pe_lc (own := [("group", 4)]) (g := (gName 4)) (tt := tYes) rfl nd (pi_tupK (K := K) rfl (pv 1)) (blkOk_by (own := [("group", 4)]) (N := n_Pis_groups) (sc := defScope s_Pis_groups) (by decide +kernel)) (fun _ _ _ _ _ => (pg_name (i := 4) nd rfl (Or.inl rfl))) (fun _ _ _ _ _ => pts_nil) (fun _ _ _ _ _ => (pe_and (pe_call (ok_Pis_group T) (hr.mono (by decide)) (by rfl) T.Pis_group.m T.Pis_group.F.kp T.Pis_group.b .nil pass0 (pa_cons (pv 0) (pa_cons (pv 4) pa_nil))) (pe_one (pe_cmpR op_le (pe_ix (ix_tupK (K := K) rfl) (pv 4) pe_int (fun _ _ => rfl)) (pe_glob (v := V.int 1000000000000000000000000000000) rfl T.g_MOST_PEOPLE ⟨_, rfl⟩) (nomark _)))))) pa_nil))))
      (pss_one (ps_ret pe_bl))
      pss_nil)
      (pss_one (ps_ret (pe_callB (cr_allK (K := K) rfl rfl) (by rfl) T.n_all (by decide +kernel) (pa_cons (pe_lc (own := [("one", 2), ("other", 3)]) (g := (gTup K 2 (gCons (gName 2) (gCons (gName 3) gNil)))) (tt := tYes) rfl nd (pi_zipK (K := K) rfl (by rfl) T.n_zip (pa_cons (pv 1) (pa_cons (pe_slice sl_tupU (pv 1) (po_some pe_int) po_none) pa_nil))) (blkOk_by (own := [("one", 2), ("other", 3)]) (N := n_Pis_groups) (sc := defScope s_Pis_groups) (by decide +kernel)) (fun _ _ _ _ _ => (pg_tupK (K := K) rfl rfl (pgs_cons (pg_name (i := 2) nd rfl (Or.inl rfl)) (pgs_cons (pg_name (i := 3) nd rfl (Or.inl rfl)) pgs_nil)))) (fun _ _ _ _ _ => pts_nil) (fun _ _ _ _ _ => (pe_cmpR (op_ltTK (K := K) rfl hr.units0) (pe_slice sl_tupU (pv 2) po_none (po_some pe_int)) (pe_slice sl_tupU (pv 3) po_none (po_some pe_int)) (nomark _)))) pa_nil)))))), ?_⟩
    have ty : TyX K H (.ref a) (.type "tuple") := .base (.tup ha)
    have hlen : xs.length = gs.length := Paired.length hp
    refine ⟨_, rfl, _, _, _, _, true, rfl, .ty _, ty, kit_ty (by decide +kernel), true, rfl, iteF ⟨_, rfl, _, _, rfl, .inr (SqT.of ha), _, _, rfl, rfl, false, congrArg V.bl (decide_eq_false (by omega)), iteF ?_⟩⟩
    -- all groups
    refine ⟨_, rfl, a, rfl, ⟨_, SqT.of ha⟩, fun D nD => lc_tupG (F := GAt) (E := fun _ v (c : Bool) => v = V.bl c) (fun _ => some true) nD ha hp (by omega) (fun h w => h.mono w) (fun h _ => h) (fun x b H' R R0 hb fx s1 kR _ => ?_) (fun H1 out s1 hO pO => ?_)⟩
    · obtain ⟨p, rfl, hp'⟩ := id fx
      refine ⟨rfl, yesI ⟨_, rfl, _, rfl, hv, _, f, r, b, rfl, hh.mono s1.wk, fx, (hg.rg b hb).1, (hg.rg b hb).2, true, rfl, iteT ⟨_, rfl, _, _, _, _, rfl, rfl, SqT.of hp', at_of (j := 2) rfl rfl, _, _, rfl, rfl, ?_⟩⟩⟩
      exact kR _ true _ (Same.refl _) rfl (congrArg V.bl (decide_eq_true (hm b hb)))
    · have eo := out_map pO
      rw [fm_some] at eo
      refine ⟨_, _, rfl, SqL.of (by rw [hO, eo]), true, congrArg V.bl ?_, iteF ?_⟩
      · rw [List.all_map]
        exact List.all_eq_true.mpr fun _ _ => rfl
      -- all neighbours
      refine ⟨_, rfl, _, rfl, _, rfl, a, xs, rfl, s1 _ _ ha, fun p1 H2 s2 hp1 => ?_⟩
      have e1 : cutV xs (some 1) none = xs.drop 1 := cut_drop xs 1
      have hp1 : H2 p1 = some (.tup (xs.drop 1)) := by rw [← e1]; exact hp1
      have s12 := s1.trans s2
      refine ⟨a, p1, xs, _, rfl, .inr ⟨SqT.of (s12 _ _ ha), SqT.of hp1, fun D2 nD2 => lc_zipG (F := GAt) lt2b nD2 (s12 _ _ ha) hp1 (pmap hp fun _ _ z => z.mono s12.wk) (by omega) (fun h w => h.mono w) (fun x y p b c H' R R0 hb hc fx fy s3 hpp kR => ?_) (fun H3 s3 hO3 => ?_)⟩⟩
      · obtain ⟨px, rfl, hpx⟩ := fx
        obtain ⟨py, rfl, hpy⟩ := fy
        refine ⟨_, _, rfl, SqT.of hpp, rfl, _, _, rfl, _, _, rfl, rfl, rfl, yesI ⟨_, rfl, _, rfl, _, _, rfl, hpx, fun q1 H4 s4 hq1 => ⟨_, rfl, _, rfl, _, _, rfl, s4 _ _ hpy, fun q2 H5 s5 hq2 => ?_⟩⟩⟩
        exact ⟨q1, q2, [b.1, b.2.1], [c.1, c.2.1], rfl, rfl, SqT.of (s5 _ _ hq1), SqT.of hq2, kR _ (s4.trans s5)⟩
      · refine ⟨_, _, rfl, SqL.of hO3, ?_⟩
        rw [adj_all (fun a b => lt2b_of) hg.asc]
        exact q _ (s12.trans s3)
/- slots of CStanding: 0:self 1:house 2:lift 3:groups; level 6 -/
def sp_CStanding (T : Txt K mg) : Sp := fun vs H Q _ => ∃ (p dx : Addr) (hv g : V) (f r l : Int) (gs : List G), vs = [.ref p, hv, .int l, g] ∧ H p = some (.ins T.a_Standing dx []) ∧ HouAt T H hv f r ∧ (0 ≤ l ∧ l < f) ∧ GsAt H g gs ∧ GOk f gs ∧ gs.length ≤ 400 ∧ (∀ g ∈ gs, g.2.2 ≤ 1000000000000000000000000000000) ∧
  ∀ H' : Hp, H' p = some (.ins T.a_Standing dx (sF hv l g)) → (∀ b o, H b = some o → b ≠ p → H' b = some o) → Q .non H'
theorem ok_CStanding (T : Txt K mg) : FnOk P w K mg base CX0 6 T.c_Standing.f T.c_Standing.d ["self", "house", "lift", "groups"] (sp_CStanding T) := by
  have nd := sc_CStanding.nd
  refine T.c_Standing.F.ok sc_CStanding (fun vs H Q E h => ?_) (fun cdv A outer s H vs Q E hr h => ?_)
  · obtain ⟨p, dx, hv, g, f, r, l, gs, rfl, _⟩ := h; rfl
  · obtain ⟨p, dx, hv, g, f, r, l, gs, rfl, hp, hh, hl, hg, gk, gl, gm, k⟩ := h
    refine ⟨_, (pss_cons (ps_if (pt_not (pt_val (pe_callB (call_isiK1 (K := K) rfl) (by rfl) T.n_isinstance (by decide +kernel) (pa_cons (pv 1) (pa_cons (pe_glob (v := V.ref T.a_House) rfl T.m_House rfl) pa_nil)))))
      (pss_one ps_never)
      pss_nil)
      (pss_cons (ps_if (pt_not (pt_val (pe_call (ok_Pis_floor T) (hr.mono (by decide)) (by rfl) T.Pis_floor.m T.Pis_floor.F.kp T.Pis_floor.b .nil pass0 (pa_cons (pv 1) (pa_cons (pv 2) pa_nil)))))
      (pss_one ps_never)
      pss_nil)
      (pss_cons (ps_if (pt_not (pt_val (pe_call (ok_Pis_groups T) (hr.mono (by decide)) (by rfl) T.Pis_groups.m T.Pis_groups.F.kp T.Pis_groups.b .nil pass0 (pa_cons (pv 1) (pa_cons (pv 3) pa_nil)))))
      (pss_one ps_never)
      pss_nil)
      (pss_cons (ps_fldK (K := K) rfl (pv 0) (pv 1) rfl)
      (pss_cons (ps_fldK (K := K) rfl (pv 0) (pv 2) rfl)
      (pss_one (ps_fldK (K := K) rfl (pv 0) (pv 3) rfl))))))), ?_⟩
    obtain ⟨ph, dh, rfl, hph⟩ := id hh
    have ty : TyX K H (.ref ph) (.ref T.a_House) := .base (.ins hph T.cl_House T.h_cls T.h_get T.h_takes T.h_mro)
    have kit : PySem.W.kitOne K (.ref T.a_House) (.ref T.a_House) = some true := by
      unfold PySem.W.kitOne
      rw [if_pos (by simp)]
    have i1 : within 0 (f - 1) (.int l) = true := decide_eq_true (by omega)
    refine ⟨_, rfl, _, _, _, _, true, rfl, .own _, ty, kit, true, rfl, iteF ?_⟩
    refine ⟨_, rfl, _, rfl, _, _, .int l, f, r, rfl, hh, .int _, _, rfl, ?_⟩
    rw [i1]
    refine iteF ?_
    refine ⟨_, rfl, _, rfl, _, _, f, r, gs, rfl, hh, hg, gk, gl, gm, fun H1 s1 => ⟨true, rfl, iteF ?_⟩⟩
    refine ⟨_, rfl, _, rfl, p, _, dx, [], rfl, s1 _ _ hp, T.cl_Standing, T.nb_house, (by show 0 < 1000; decide), ?_⟩
    refine ⟨_, rfl, _, rfl, p, _, dx, _, rfl, upd_same, T.cl_Standing, T.nb_lift, (by show 1 < 1000; decide), ?_⟩
    refine ⟨_, rfl, _, rfl, p, _, dx, _, rfl, upd_same, T.cl_Standing, T.nb_groups, Nat.lt_of_le_of_lt (length_putF _ _ _) (by show 2 < 1000; decide), ?_⟩
    exact k _ upd_same fun b o e hb => by rw [upd_ne hb, upd_ne hb, upd_ne hb]; exact s1 _ _ e
/- slots of CRawStanding: 0:self 1:house 2:lift 3:groups; level 1 -/
def sp_CRawStanding (T : Txt K mg) : Sp := fun vs H Q _ => ∃ (p dx : Addr) (hv g : V) (l : Int), vs = [.ref p, hv, .int l, g] ∧ H p = some (.ins T.a_RawStanding dx []) ∧
  ∀ H' : Hp, H' p = some (.ins T.a_RawStanding dx (sF hv l g)) → (∀ b o, H b = some o → b ≠ p → H' b = some o) → Q .non H'
theorem ok_CRawStanding (T : Txt K mg) : FnOk P w K mg base CX0 1 T.c_RawStanding.f T.c_RawStanding.d ["self", "house", "lift", "groups"] (sp_CRawStanding T) := by
  have nd := sc_CRawStanding.nd
  refine T.c_RawStanding.F.ok sc_CRawStanding (fun vs H Q E h => ?_) (fun cdv A outer s H vs Q E hr h => ?_)
  · obtain ⟨p, dx, hv, g, l, rfl, _⟩ := h; rfl
  · obtain ⟨p, dx, hv, g, l, rfl, hp, k⟩ := h
    refine ⟨_, (pss_cons (ps_fldK (K := K) rfl (pv 0) (pv 1) rfl)
      (pss_cons (ps_fldK (K := K) rfl (pv 0) (pv 2) rfl)
      (pss_one (ps_fldK (K := K) rfl (pv 0) (pv 3) rfl)))), ?_⟩
    refine ⟨_, rfl, _, rfl, p, _, dx, [], rfl, hp, T.cl_RawStanding, T.nc_house, (by show 0 < 1000; decide), ?_⟩
    refine ⟨_, rfl, _, rfl, p, _, dx, _, rfl, upd_same, T.cl_RawStanding, T.nc_lift, (by show 1 < 1000; decide), ?_⟩
    refine ⟨_, rfl, _, rfl, p, _, dx, _, rfl, upd_same, T.cl_RawStanding, T.nc_groups, Nat.lt_of_le_of_lt (length_putF _ _ _) (by show 2 < 1000; decide), ?_⟩
    exact k _ upd_same fun b o e hb => by rw [upd_ne hb, upd_ne hb, upd_ne hb]; exact e
end
end Wl

/-! W5: the program's defs, second part. -/
namespace Wl
open PySem PySem.Spec PyProof.Rows L2
theorem made_same {H0 H' : Hp} {x dx : Addr} {u w : HO} (nx : H0 x = none) (ndx : H0 dx = none) (k : ∀ b o, (upd (upd H0 dx u) x w) b = some o → b ≠ x → H' b = some o) : Same H0 H' := fun b o e =>
  k b o (by rw [upd_ne (ne_of_none e nx), upd_ne (ne_of_none e ndx)]; exact e) (ne_of_none e nx)
theorem unfrz {H1 : Hp} {d : Addr} {od : Obj} {u : HO} {out : List V} {gs : List G} (hf : H1 d = some (.frz od u)) (h : Paired (GAt H1) out gs) : Paired (GAt (upd H1 d u)) out gs :=
  pmap h fun v g ⟨p, e, h⟩ => ⟨p, e, by rw [upd_ne (fun z => by subst z; rw [hf] at h; cases h)]; exact h⟩
theorem hereL_fm (gs : List G) (fl : Int) : gs.filterMap (fun g => if g.1 = fl then some g.2 else none) = hereL gs fl := by
  induction gs with
  | nil => rfl
  | cons e d ih =>
    unfold hereL at *
    rw [List.filterMap_cons, List.filter_cons]
    by_cases h : e.1 = fl
    · simp [h, ih]
    · simp [h, ih]
section
variable {P : Program} {w : World} {K : PySem.W.Frag} {mg : Str → Option Value} {base : Heap}
/- slots of Praw_standing: 0:house 1:lift 2:known 3:rows 4:pair; level 3 -/
def sp_Praw_standing (T : Txt K mg) : Sp := fun vs H Q _ => ∃ (hv : V) (l : Int) (d : Addr) (kd : KD), vs = [hv, .int l, .ref d] ∧ H d = some (.dT (rep kd)) ∧ (kd.map (·.1)).Nodup ∧ kd.length ≤ 2000 ∧ ∀ v H', Same H H' → SdAt (K := K) H' v hv l (sort3 (rowsOf kd)) → Q v H'
theorem ok_Praw_standing (T : Txt K mg) : FnOk P w K mg base CX0 3 T.Praw_standing.f T.Praw_standing.d ["house", "lift", "known"] (sp_Praw_standing T) := by
  have nd := sc_Praw_standing.nd
  refine T.Praw_standing.F.ok sc_Praw_standing (fun vs H Q E h => ?_) (fun cdv A outer s H vs Q E hr h => ?_)
  · obtain ⟨hv, l, d, kd, rfl, _⟩ := h; rfl
  · obtain ⟨hv, l, d, kd, rfl, hd, hn, hl, q⟩ := h
    refine ⟨_, (pss_cons (ps_lock (ps_setLc (i := 3) (own := [("pair", 4)]) (g := (gName 4)) rfl nd rfl rfl (sw_true rfl rfl rfl (by decide +kernel)) (pi_keys (pv 2)) (blkOk_by (own := [("pair", 4)]) (N := n_Praw_standing) (sc := defScope s_Praw_standing) (by decide +kernel)) (fun _ _ _ _ _ => (pg_name (i := 4) nd rfl (Or.inl rfl))) (fun _ _ _ _ _ => pts_one (pt_cmpR op_gt (pe_dget (hu_of hr) (pv 2) (pv 4) (fun _ _ => rfl)) pe_int (nomark _))) (fun _ _ _ _ _ => (pe_op op_catU (pv 4) (pe_tup (pa_cons (pe_dget (hu_of hr) (pv 2) (pv 4) (fun _ _ => rfl)) pa_nil))))))
      (pss_one (ps_ret (pe_make T.mk_RawStanding (ok_CRawStanding T) (hr.mono (by decide)) (by rfl) T.m_RawStanding T.c_RawStanding.b .nil pass0 (pa_cons (pv 0) (pa_cons (pv 1) (pa_cons (pe_callTy (call_tupleK (K := K) rfl) (by rfl) T.n_tuple (by decide +kernel) (pa_cons (pe_callB (cr_sorted3 (K := K) rfl hr.units) (by rfl) T.n_sorted (by decide +kernel) (pa_cons (pv 3) pa_nil)) pa_nil)) pa_nil))))))), ?_⟩
    refine ⟨d, _, hd, trivial, fun od => ⟨_, rfl, d, od, rfl, .inr ⟨rep kd, upd_same, fun D nD => lc_keysG (E := GAt) (fun e => if 0 < e.2 then some ((e.1.1, e.1.2, e.2) : G) else none) nD upd_same (by omega) (fun h w => h.mono w) (fun x b H' R R0 hb hq s1 kR k0 => ?_) (fun H1 out s1 hO pO => ?_)⟩⟩⟩
    · have lk := klook_of_mem hn hb
      have f1 : H' d = some (.frz od (.dT (rep kd))) := s1 _ _ upd_same
      refine ⟨rfl, _, rfl, _, rfl, d, _, rfl, dget_some (.inr ⟨od, f1⟩) hq lk, _, _, rfl, rfl, _, rfl, iteB (fun h => ?_) fun h => ?_⟩
      · refine ⟨_, rfl, _, rfl, _, rfl, d, _, rfl, dget_some (.inr ⟨od, f1⟩) hq lk, small_le (by show 1 ≤ 100000; decide), fun p np => ⟨x, p, _, _, rfl, rfl, Same.new np _ _ hq, upd_same, (by show 2 + 1 ≤ 100000; decide), fun p2 H2 s2 hp2 => kR _ (b.1.1, b.1.2, b.2) _ ((Same.new np).trans s2) (if_pos (of_decide_eq_true h)) ⟨p2, rfl, hp2⟩⟩⟩
      · exact k0 _ (Same.refl _) (if_neg (of_decide_eq_false h))
    · rw [rowsOf_fm] at pO
      have hf : H1 d = some (.frz od (.dT (rep kd))) := s1 _ _ upd_same
      have sU := unlock_same hd s1
      have nDd : D ≠ d := fun z => by subst z; rw [upd_same] at nD; cases nD
      refine ⟨hf, _, rfl, _, rfl, _, rfl, D, out, _, rfl, SqL.of (by rw [upd_ne nDd]; exact hO), unfrz hf pO, fun p1 ys n1 py => ⟨p1, ys, rfl, .inl ⟨SqL.of upd_same, fun p2 n2 => fun x dx nx ndx ne => ⟨x, dx, hv, .ref p2, l, rfl, upd_same, fun H' e k => ⟨rfl, ?_⟩⟩⟩⟩⟩
      have s2 : Same (upd H1 d (.dT (rep kd))) (upd (upd (upd H1 d (.dT (rep kd))) p1 (.lst ys)) p2 (.tup ys)) := (Same.new n1).add n2
      have s3 := made_same nx ndx k
      refine q _ _ ((sU.trans s2).trans s3) ⟨x, _, dx, .ref p2, rfl, T.cl_RawStanding, T.nc_house, T.nc_lift, T.nc_groups, e, ys, ⟨p2, rfl, s3 _ _ upd_same⟩, pmap py fun _ _ z => z.mono (s2.trans s3).wk⟩
/- slots of Pknown_of: 0:standing 1:stand 2:want 3:many; level 1 -/
def sp_Pknown_of (T : Txt K mg) : Sp := fun vs H Q _ => ∃ (sv hv : V) (l : Int) (gs : List G), vs = [sv] ∧ SdAt (K := K) H sv hv l gs ∧ gs.length ≤ 2000 ∧ ∀ d H', H d = none → Same H H' → H' d = some (.dT (rep (kd0 gs))) → Q (.ref d) H'
theorem ok_Pknown_of (T : Txt K mg) : FnOk P w K mg base CX0 1 T.Pknown_of.f T.Pknown_of.d ["standing"] (sp_Pknown_of T) := by
  have nd := sc_Pknown_of.nd
  refine T.Pknown_of.F.ok sc_Pknown_of (fun vs H Q E h => ?_) (fun cdv A outer s H vs Q E hr h => ?_)
  · obtain ⟨sv, hv, l, gs, rfl, _⟩ := h; rfl
  · obtain ⟨sv, hv, l, gs, rfl, ⟨p, C, dx, g, rfl, cl, n1, n2, n3, hp, xs, ⟨a, rfl, ha⟩, hg⟩, hl, q⟩ := h
    refine ⟨_, (pss_one (ps_ret (pe_dcT (own := [("stand", 1), ("want", 2), ("many", 3)]) (g := (gTup K 3 (gCons (gName 1) (gCons (gName 2) (gCons (gName 3) gNil))))) (tt := tYes) (hu_of hr) rfl nd (pi_tupK (K := K) rfl (pe_fldK (K := K) rfl (pv 0) rfl)) (blkOk_by (own := [("stand", 1), ("want", 2), ("many", 3)]) (N := n_Pknown_of) (sc := defScope s_Pknown_of) (by decide +kernel)) (fun _ _ _ _ _ => (pg_tupK (K := K) rfl rfl (pgs_cons (pg_name (i := 1) nd rfl (Or.inl rfl)) (pgs_cons (pg_name (i := 2) nd rfl (Or.inl rfl)) (pgs_cons (pg_name (i := 3) nd rfl (Or.inl rfl)) pgs_nil))))) (fun _ _ _ _ _ => pts_nil) (fun _ _ _ _ _ => (pe_tup (pa_cons (pv 1) (pa_cons (pv 2) pa_nil)))) (fun _ _ _ _ _ => (pv 3))))), ?_⟩
    refine ⟨_, rfl, p, C, dx, _, _, rfl, hp, cl, n3, sF_groups hv l _, a, rfl, ⟨_, SqT.of ha⟩, fun D nD => dcT_tupG nD ha hg (by omega) (fun x b H' R R0 hb fx s1 kR => ?_) (fun H1 s1 hO => q D H1 nD s1 hO)⟩
    obtain ⟨pb, rfl, hpb⟩ := fx
    refine ⟨_, _, rfl, SqT.of hpb, rfl, _, _, rfl, _, _, rfl, _, _, rfl, rfl, rfl, yesD ⟨_, rfl, _, rfl, small_le (by show 2 ≤ 100000; decide), fun p np => ⟨_, rfl, ?_⟩⟩⟩
    exact kR p _ (Same.new np) upd_same
/- slots of Pis_home_all: 0:standing 1:stand 2:want 3:many; level 1 -/
def sp_Pis_home_all (T : Txt K mg) : Sp := fun vs H Q _ => ∃ (sv hv : V) (l : Int) (gs : List G), vs = [sv] ∧ SdAt (K := K) H sv hv l gs ∧ gs.length ≤ 2000 ∧ ∀ H', Same H H' → Q (.bl (homeAll gs)) H'
theorem home_all (gs : List G) : (gs.filterMap fun g => some (decide (g.1 = g.2.1))).all id = homeAll gs := by
  rw [fm_some, List.all_map]; rfl
theorem ok_Pis_home_all (T : Txt K mg) : FnOk P w K mg base CX0 1 T.Pis_home_all.f T.Pis_home_all.d ["standing"] (sp_Pis_home_all T) := by
  have nd := sc_Pis_home_all.nd
  refine T.Pis_home_all.F.ok sc_Pis_home_all (fun vs H Q E h => ?_) (fun cdv A outer s H vs Q E hr h => ?_)
  · obtain ⟨sv, hv, l, gs, rfl, _⟩ := h; rfl
  · obtain ⟨sv, hv, l, gs, rfl, ⟨p, C, dx, g, rfl, cl, n1, n2, n3, hp, xs, ⟨a, rfl, ha⟩, hg⟩, hl, q⟩ := h
    refine ⟨_, (pss_one (ps_ret (pe_callB (cr_allK (K := K) rfl rfl) (by rfl) T.n_all (by decide +kernel) (pa_cons (pe_lc (own := [("stand", 1), ("want", 2), ("many", 3)]) (g := (gTup K 3 (gCons (gName 1) (gCons (gName 2) (gCons (gName 3) gNil))))) (tt := tYes) rfl nd (pi_tupK (K := K) rfl (pe_fldK (K := K) rfl (pv 0) rfl)) (blkOk_by (own := [("stand", 1), ("want", 2), ("many", 3)]) (N := n_Pis_home_all) (sc := defScope s_Pis_home_all) (by decide +kernel)) (fun _ _ _ _ _ => (pg_tupK (K := K) rfl rfl (pgs_cons (pg_name (i := 1) nd rfl (Or.inl rfl)) (pgs_cons (pg_name (i := 2) nd rfl (Or.inl rfl)) (pgs_cons (pg_name (i := 3) nd rfl (Or.inl rfl)) pgs_nil))))) (fun _ _ _ _ _ => pts_nil) (fun _ _ _ _ _ => (pe_cmpR op_eq (pv 1) (pv 2) (nomark _)))) pa_nil)))), ?_⟩
    refine ⟨_, rfl, p, C, dx, _, _, rfl, hp, cl, n3, sF_groups hv l _, a, rfl, ⟨_, SqT.of ha⟩, fun D nD => lc_tupG (F := GAt) (E := fun _ v (c : Bool) => v = V.bl c) (fun g => some (decide (g.1 = g.2.1))) nD ha hg (by omega) (fun h w => h.mono w) (fun h _ => h) (fun x b H' R R0 hb fx s1 kR _ => ?_) (fun H1 out s1 hO pO => ?_)⟩
    · obtain ⟨pb, rfl, hpb⟩ := fx
      refine ⟨_, _, rfl, SqT.of hpb, rfl, _, _, rfl, _, _, rfl, _, _, rfl, rfl, rfl, yesI ⟨_, rfl, _, rfl, rfl, ?_⟩⟩
      exact kR _ _ _ (Same.refl _) rfl (congrArg V.bl d_int)
    · have eo := out_map pO
      refine ⟨_, _, rfl, SqL.of (by rw [hO, eo]), ?_⟩
      rw [home_all]
      exact q _ s1
/- slots of Pis_done: 0:standing; level 2 -/
def sp_Pis_done (T : Txt K mg) : Sp := fun vs H Q _ => ∃ (sv hv : V) (l : Int) (gs : List G), vs = [sv] ∧ SdAt (K := K) H sv hv l gs ∧ gs.length ≤ 2000 ∧ ∀ H', Same H H' → Q (.bl (decide (l = 0) && homeAll gs)) H'
theorem ok_Pis_done (T : Txt K mg) : FnOk P w K mg base CX0 2 T.Pis_done.f T.Pis_done.d ["standing"] (sp_Pis_done T) := by
  have nd := sc_Pis_done.nd
  refine T.Pis_done.F.ok sc_Pis_done (fun vs H Q E h => ?_) (fun cdv A outer s H vs Q E hr h => ?_)
  · obtain ⟨sv, hv, l, gs, rfl, _⟩ := h; rfl
  · obtain ⟨sv, hv, l, gs, rfl, hs, hl, q⟩ := h
    refine ⟨_, (pss_one (ps_ret (pe_and (pe_cmpR op_eq (pe_fldK (K := K) rfl (pv 0) rfl) pe_int (nomark _)) (pe_one (pe_call (ok_Pis_home_all T) (hr.mono (by decide)) (by rfl) T.Pis_home_all.m T.Pis_home_all.F.kp T.Pis_home_all.b .nil pass0 (pa_cons (pv 0) pa_nil)))))), ?_⟩
    obtain ⟨p, C, dx, g, rfl, cl, n1, n2, n3, hp, hg⟩ := id hs
    refine ⟨_, rfl, p, C, dx, _, _, rfl, hp, cl, n2, sF_lift hv l _, rfl, _, rfl, iteB (fun h => ?_) fun h => ?_⟩
    · rw [d_int] at h
      rw [h] at q
      exact ⟨_, rfl, _, hv, l, gs, rfl, hs, hl, fun H' s' => q H' s'⟩
    · rw [d_int] at h
      rw [h] at q
      exact q _ (Same.refl _)
/- slots of Pwants_at: 0:standing 1:floor 2:stand 3:want 4:many; level 1 -/
def sp_Pwants_at (T : Txt K mg) : Sp := fun vs H Q _ => ∃ (sv hv : V) (l fl : Int) (gs : List G), vs = [sv, .int fl] ∧ SdAt (K := K) H sv hv l gs ∧ gs.length ≤ 2000 ∧ ∀ d H' kvs, Same H H' → H' d = some (.dK kvs) → (∀ w, valV kvs (Sum.inl w) = (lastOf (hereL gs fl) w).map V.int) → Q (.ref d) H'
theorem ok_Pwants_at (T : Txt K mg) : FnOk P w K mg base CX0 1 T.Pwants_at.f T.Pwants_at.d ["standing", "floor"] (sp_Pwants_at T) := by
  have nd := sc_Pwants_at.nd
  refine T.Pwants_at.F.ok sc_Pwants_at (fun vs H Q E h => ?_) (fun cdv A outer s H vs Q E hr h => ?_)
  · obtain ⟨sv, hv, l, fl, gs, rfl, _⟩ := h; rfl
  · obtain ⟨sv, hv, l, fl, gs, rfl, ⟨p, C, dx, g, rfl, cl, n1, n2, n3, hp, xs, ⟨a, rfl, ha⟩, hg⟩, hl, q⟩ := h
    refine ⟨_, (pss_one (ps_ret (pe_dc (own := [("stand", 2), ("want", 3), ("many", 4)]) (g := (gTup K 3 (gCons (gName 2) (gCons (gName 3) (gCons (gName 4) gNil))))) rfl nd (pi_tupK (K := K) rfl (pe_fldK (K := K) rfl (pv 0) rfl)) (blkOk_by (own := [("stand", 2), ("want", 3), ("many", 4)]) (N := n_Pwants_at) (sc := defScope s_Pwants_at) (by decide +kernel)) (fun _ _ _ _ _ => (pg_tupK (K := K) rfl rfl (pgs_cons (pg_name (i := 2) nd rfl (Or.inl rfl)) (pgs_cons (pg_name (i := 3) nd rfl (Or.inl rfl)) (pgs_cons (pg_name (i := 4) nd rfl (Or.inl rfl)) pgs_nil))))) (fun _ _ _ _ _ => pts_one (pt_cmpR op_eq (pv 2) (pv 1) (nomark _))) (fun _ _ _ _ _ => (pv 3)) (fun _ _ _ _ _ => (pv 4))))), ?_⟩
    refine ⟨_, rfl, p, C, dx, _, _, rfl, hp, cl, n3, sF_groups hv l _, a, rfl, ⟨_, SqT.of ha⟩, fun D nD => dc_tupG (F := GAt) (fun g => if g.1 = fl then some g.2 else none) nD ha hg (by omega) (fun h w => h.mono w) (fun x b H' R R0 hb fx s1 kR k0 => ?_) (fun H1 kvs s1 hO hk => q D H1 kvs s1 hO (by rw [hereL_fm] at hk; exact hk))⟩
    obtain ⟨pb, rfl, hpb⟩ := fx
    refine ⟨_, _, rfl, SqT.of hpb, rfl, _, _, rfl, _, _, rfl, _, _, rfl, rfl, rfl, _, rfl, _, rfl, rfl, _, rfl, iteB (fun h => ?_) fun h => ?_⟩
    · rw [d_int] at h
      exact ⟨_, rfl, _, rfl, kR b.2 _ (Same.refl _) (if_pos (of_decide_eq_true h))⟩
    · rw [d_int] at h
      exact k0 _ (Same.refl _) (if_neg (of_decide_eq_false h))
/- slots of Pis_way: 0:thing; level 2 -/
def sp_Pis_way (T : Txt K mg) : Sp := fun vs H Q _ => ∃ v d, vs = [v] ∧ DAt T.a_House H v d ∧ ∀ H', Same H H' → Q (.bl (wayB d)) H'
theorem ok_Pis_way (T : Txt K mg) : FnOk P w K mg base CX0 2 T.Pis_way.f T.Pis_way.d ["thing"] (sp_Pis_way T) := by
  have nd := sc_Pis_way.nd
  refine T.Pis_way.F.ok sc_Pis_way (fun vs H Q E h => ?_) (fun cdv A outer s H vs Q E hr h => ?_)
  · obtain ⟨v, d, rfl, _⟩ := h; rfl
  · obtain ⟨v, d, rfl, hd, q⟩ := h
    refine ⟨_, (pss_one (ps_ret (pe_and (pe_call (ok_Pis_integer T) (hr.mono (by decide)) (by rfl) T.Pis_integer.m T.Pis_integer.F.kp T.Pis_integer.b .nil pass0 (pa_cons (pv 0) pa_nil)) (pe_one (pe_cmpR (op_inK (K := K) rfl) (pv 0) (pe_tup (pa_cons (pe_glob (v := V.int 1) rfl T.g_UP ⟨_, rfl⟩) (pa_cons (pe_glob (v := V.int (-1)) rfl T.g_DOWN ⟨_, rfl⟩) pa_nil))) rfl))))), ?_⟩
    refine ⟨_, rfl, v, d, rfl, hd, _, rfl, ?_⟩
    cases d with
    | int i =>
      cases hd
      refine iteT ⟨_, rfl, small_le (by show 2 ≤ 100000; decide), fun p np => ⟨p, _, rfl, .inr (SqT.of upd_same), rfl, rfl, ?_⟩⟩
      have e : inV (V.int i) [V.int 1, V.int (-1)] = wayB (.int i) := by
        unfold inV wayB
        simp [eqV]
        grind
      show Q (.bl (inV (V.int i) [V.int 1, V.int (-1)])) _
      rw [e]
      exact q _ (Same.new np)
    | bad => exact iteF (q _ (Same.refl _))
    | tup ds => exact iteF (q _ (Same.refl _))
end
end Wl

/-! W5b: the program's defs, third part: moves. -/
namespace Wl
open PySem PySem.Spec PyProof.Rows L2
/-! ### from things to moves -/
section
variable {H : Hp} {C : Addr}
theorem PAt.of_d {v : V} {p : Int × Int} (h : DAt C H v (pD p)) : PAt H v p := by
  have h : DAt C H v (.tup [.int p.1, .int p.2]) := h
  cases h with
  | tup e hs =>
    cases hs with
    | cons h1 t =>
      cases h1
      cases t with
      | cons h2 t2 =>
        cases h2
        cases t2
        exact ⟨_, rfl, e⟩
theorem paired_of_ds {β : Type} {f : β → D} {F : V → β → Prop} (k : ∀ v b, DAt C H v (f b) → F v b) : ∀ {vs : List V} {bs : List β}, DsAt C H vs (bs.map f) → Paired F vs bs
  | _, [], h => by
    have h : DsAt C H _ [] := h
    cases h; exact .nil
  | _, b :: bs, h => by
    have h : DsAt C H _ (f b :: bs.map f) := h
    cases h with
    | cons h1 t => exact .cons (k _ _ h1) (paired_of_ds k t)
theorem AbAt.of_d {v : V} {ab : List (Int × Int)} (h : DAt C H v (.tup (ab.map pD))) : AbAt H v ab := by
  cases h with
  | tup e hs => exact ⟨_, ⟨_, rfl, e⟩, paired_of_ds (F := PAt H) (fun _ _ z => PAt.of_d z) hs⟩
theorem MvAt.of_d {v : V} {m : Mv} (h : DAt C H v (mvD m)) : MvAt H v m := by
  have h : DAt C H v (.tup [.int m.1, .tup (m.2.map pD)]) := h
  cases h with
  | tup e hs =>
    cases hs with
    | cons h1 t =>
      cases h1
      cases t with
      | cons h2 t2 =>
        cases t2
        exact ⟨_, ⟨_, rfl, e⟩, AbAt.of_d h2⟩
end
theorem pairOf_len {ds : List D} (h : ds.length ≠ 2) : pairOf (.tup ds) = none := by
  unfold pairOf
  split
  · rename_i a b e
    injection e with e
    subst e
    exact absurd rfl h
  · rfl
theorem pairOf_i0 {d0 d1 : D} (h : isI d0 = false) : pairOf (.tup [d0, d1]) = none := by
  cases d0 with
  | int i => cases h
  | bad => rfl
  | tup ds => rfl
theorem pairOf_i1 {d0 d1 : D} (h : isI d1 = false) : pairOf (.tup [d0, d1]) = none := by
  cases d0 with
  | int i =>
    cases d1 with
    | int j => cases h
    | bad => rfl
    | tup ds => rfl
  | bad => rfl
  | tup ds => rfl
theorem isI_int {d : D} (h : isI d = true) : ∃ i, d = .int i := by
  cases d with
  | int i => exact ⟨i, rfl⟩
  | bad => cases h
  | tup ds => cases h
theorem pairsOf_none : ∀ {ds : List D} {d : D}, d ∈ ds → pairOf d = none → pairsOf ds = none
  | c :: ds, d, hd, h => by
    unfold pairsOf
    rcases List.mem_cons.mp hd with e | e
    · rw [← e, h]
    · rw [pairsOf_none e h]
      cases pairOf c <;> rfl
theorem pairsOf_all : ∀ {ds : List D}, (∀ d ∈ ds, (pairOf d).isSome = true) → ∃ ps, pairsOf ds = some ps
  | [], _ => ⟨[], rfl⟩
  | c :: ds, h => by
    obtain ⟨ps, e⟩ := pairsOf_all fun d hd => h d (List.mem_cons_of_mem _ hd)
    have h1 := h c List.mem_cons_self
    cases e1 : pairOf c with
    | none => rw [e1] at h1; cases h1
    | some p => exact ⟨p :: ps, by unfold pairsOf; rw [e1, e]⟩
theorem abOf_none {ds : List D} (h : pairsOf ds = none) : (abOf (.tup ds)).isSome = false := by
  show (match pairsOf ds with | some ps => if ascB ps = true then some ps else none | none => none).isSome = false
  rw [h]; rfl
theorem ne_t {i j : Int} (h : (!decide (V.int i = V.int j)) = true) : i ≠ j := by
  rw [d_int] at h
  intro e
  rw [decide_eq_true e] at h; cases h
theorem ne_f {i j : Int} (h : (!decide (V.int i = V.int j)) = false) : i = j := by
  rw [d_int] at h
  by_cases e : i = j
  · exact e
  · rw [decide_eq_false e] at h; cases h
theorem eq_t {i j : Int} (h : decide (V.int i = V.int j) = true) : i = j := by
  rw [d_int] at h; exact of_decide_eq_true h
theorem eq_f {i j : Int} (h : decide (V.int i = V.int j) = false) : i ≠ j := by
  rw [d_int] at h; exact of_decide_eq_false h
theorem not_t {b : Bool} (h : (!b) = true) : b = false := by cases b <;> first | rfl | cases h
theorem not_f {b : Bool} (h : (!b) = false) : b = true := by cases b <;> first | rfl | cases h
theorem abOf_asc {ds : List D} {ps : List (Int × Int)} (h : pairsOf ds = some ps) : (abOf (.tup ds)).isSome = ascB ps := by
  show (match pairsOf ds with | some ps => if ascB ps = true then some ps else none | none => none).isSome = ascB ps
  rw [h]
  show (if ascB ps = true then some ps else none).isSome = ascB ps
  cases e : ascB ps with
  | true => rw [if_pos rfl]; rfl
  | false => rw [if_neg Bool.false_ne_true]; rfl
theorem adj_asc : ∀ (ps : List (Int × Int)), (adj (fun b c : Int × Int => decide (b.1 < c.1)) ps).all id = ascB ps
  | [] => rfl
  | [p] => rfl
  | p :: q :: r => by
    show (decide (p.1 < q.1) :: adj _ (q :: r)).all id = (decide (p.1 < q.1) && ascB (q :: r))
    rw [List.all_cons, adj_asc (q :: r)]; rfl
theorem two_of {α : Type} {l : List α} (h : l.length = 2) : ∃ a b, l = [a, b] := by
  match l, h with
  | [a, b], _ => exact ⟨a, b, rfl⟩
theorem mvOf_len {ds : List D} (h : ds.length ≠ 2) : mvOf (.tup ds) = none := by
  unfold mvOf
  split
  · rename_i a b e
    injection e with e
    subst e
    exact absurd rfl h
  · rfl
theorem mvOf_two (d0 a : D) : (mvOf (.tup [d0, a])).isSome = (wayB d0 && (abOf a).isSome) := by
  cases d0 with
  | int i =>
    show (if i = 1 ∨ i = -1 then (abOf a).map fun ps => (i, ps) else none).isSome = (decide (i = 1 ∨ i = -1) && (abOf a).isSome)
    by_cases h : i = 1 ∨ i = -1
    · rw [if_pos h, decide_eq_true h, Option.isSome_map]; rfl
    · rw [if_neg h, decide_eq_false h]; rfl
  | bad => rfl
  | tup ds => rfl
section
variable {P : Program} {w : World} {K : PySem.W.Frag} {mg : Str → Option Value} {base : Heap}
/- slots of Pis_aboard: 0:thing 1:pair 2:one 3:other; level 2 -/
def sp_Pis_aboard (T : Txt K mg) : Sp := fun vs H Q _ => ∃ v d, vs = [v] ∧ DAt T.a_House H v d ∧ dOk d ∧ ∀ H', Same H H' → Q (.bl (abOf d).isSome) H'
theorem ok_Pis_aboard (T : Txt K mg) : FnOk P w K mg base CX0 2 T.Pis_aboard.f T.Pis_aboard.d ["thing"] (sp_Pis_aboard T) := by
  have nd := sc_Pis_aboard.nd
  refine T.Pis_aboard.F.ok sc_Pis_aboard (fun vs H Q E h => ?_) (fun cdv A outer s H vs Q E hr h => ?_)
  · obtain ⟨v, d, rfl, _⟩ := h; rfl
  · obtain ⟨v, d, rfl, hd, ok, q⟩ := h
    refine ⟨_, (pss_cons (ps_if (pt_not (pt_val (pe_callB (call_isiK1 (K := K) rfl) (by rfl) T.n_isinstance (by decide +kernel) (pa_cons (pv 0) (pa_cons (pe_bltn (v := V.ty "tuple") (by rfl) T.n_tuple (by decide +kernel) rfl) pa_nil)))))
      (pss_one (ps_ret pe_bl))
      pss_nil)
      (pss_cons (ps_for PassesOwn.never rfl (pi_tupK (K := K) rfl (pv 0)) (pg_name (i := 1) nd rfl (Or.inl rfl))
      (pss_cons (ps_if (PW.pt (pw_or (pt_not (pt_val (pe_callB (call_isiK1 (K := K) rfl) (by rfl) T.n_isinstance (by decide +kernel) (pa_cons (pv 1) (pa_cons (pe_bltn (v := V.ty "tuple") (by rfl) T.n_tuple (by decide +kernel) rfl) pa_nil))))) (pw_or (pt_cmpR op_ne (pe_callB (call_lenK (K := K) rfl) (by rfl) T.n_len (by decide +kernel) (pa_cons (pv 1) pa_nil)) pe_int (nomark _)) (pw_or (pt_not (pt_val (pe_call (ok_Pis_integer T) (hr.mono (by decide)) (by rfl) T.Pis_integer.m T.Pis_integer.F.kp T.Pis_integer.b .nil pass0 (pa_cons (pe_ix (ix_tupK (K := K) rfl) (pv 1) pe_int (fun _ _ => rfl)) pa_nil)))) (pw_or1 (pt_not (pt_val (pe_call (ok_Pis_integer T) (hr.mono (by decide)) (by rfl) T.Pis_integer.m T.Pis_integer.F.kp T.Pis_integer.b .nil pass0 (pa_cons (pe_ix (ix_tupK (K := K) rfl) (pv 1) pe_int (fun _ _ => rfl)) pa_nil)))))))))
      (pss_one (ps_ret pe_bl))
      pss_nil)
      (pss_one (ps_if (PW.pt (pw_or (pt_cmpR op_lt (pe_ix (ix_tupK (K := K) rfl) (pv 1) pe_int (fun _ _ => rfl)) pe_int (nomark _)) (pw_or1 (pt_cmpR op_lt (pe_ix (ix_tupK (K := K) rfl) (pv 1) pe_int (fun _ _ => rfl)) pe_int (nomark _)))))
      (pss_one (ps_ret pe_bl))
      pss_nil))))
      (pss_one (ps_ret (pe_callB (cr_allK (K := K) rfl rfl) (by rfl) T.n_all (by decide +kernel) (pa_cons (pe_lc (own := [("one", 2), ("other", 3)]) (g := (gTup K 2 (gCons (gName 2) (gCons (gName 3) gNil)))) (tt := tYes) rfl nd (pi_zipK (K := K) rfl (by rfl) T.n_zip (pa_cons (pv 0) (pa_cons (pe_slice sl_tupU (pv 0) (po_some pe_int) po_none) pa_nil))) (blkOk_by (own := [("one", 2), ("other", 3)]) (N := n_Pis_aboard) (sc := defScope s_Pis_aboard) (by decide +kernel)) (fun _ _ _ _ _ => (pg_tupK (K := K) rfl rfl (pgs_cons (pg_name (i := 2) nd rfl (Or.inl rfl)) (pgs_cons (pg_name (i := 3) nd rfl (Or.inl rfl)) pgs_nil)))) (fun _ _ _ _ _ => pts_nil) (fun _ _ _ _ _ => (pe_cmpR op_lt (pe_ix (ix_tupK (K := K) rfl) (pv 2) pe_int (fun _ _ => rfl)) (pe_ix (ix_tupK (K := K) rfl) (pv 3) pe_int (fun _ _ => rfl)) (nomark _)))) pa_nil)))))), ?_⟩
    obtain ⟨t, ty, bi, bb, bt, k1, k2, k3, e1, e2⟩ := hd.ty T
    refine ⟨_, rfl, _, _, _, _, bt, rfl, .ty _, ty, k3, _, rfl, ?_⟩
    rw [e2]
    cases d with
    | int i => exact iteT (q _ (Same.refl _))
    | bad => exact iteT (q _ (Same.refl _))
    | tup ds =>
      refine iteF ?_
      cases hd with
      | tup ha hs =>
        rename_i a xs
        have hlen : xs.length = ds.length := hs.length
        have hl : ds.length ≤ 10000 := ok.1
        have bad : ∀ {d : D}, d ∈ ds → pairOf d = none → Q (.bl false) H := fun h1 h2 => by
          have := q H (Same.refl _)
          rw [abOf_none (pairsOf_none h1 h2)] at this
          exact this
        refine ⟨_, rfl, a, rfl, ⟨_, SqT.of ha⟩, for_tup (K := K) (a := a) (xs := xs) (fun i σ H' => H' = H ∧ (∃ z, σ = [some (.ref a), z, none, none]) ∧ ∀ j d, j < i → ds[j]? = some d → (pairOf d).isSome = true) ⟨rfl, ⟨_, rfl⟩, fun j d h => absurd h (Nat.not_lt_zero _)⟩ (fun i σ H' _ h => by rw [h.1]; exact SqT.of ha) ?_ ?_⟩
        · rintro i x σ H' hx ⟨rfl, ⟨z, rfl⟩, hp⟩
          obtain ⟨d, hdi, hd⟩ := hs.get hx
          have hm : d ∈ ds := List.mem_of_getElem? hdi
          obtain ⟨t, ty, bi, bb, bt, k1, k2, k3, e1, e2⟩ := hd.ty T
          refine ⟨_, rfl, _, _, _, _, bt, rfl, .ty _, ty, k3, _, rfl, ?_⟩
          rw [e2]
          cases d with
          | int i => exact iteT (iteT (bad hm rfl))
          | bad => exact iteT (iteT (bad hm rfl))
          | tup es =>
            refine iteF ?_
            cases hd with
            | tup hb hes =>
              rename_i b ys
              have hyl : ys.length = es.length := hes.length
              refine ⟨_, rfl, _, _, rfl, .inr (SqT.of hb), rfl, _, rfl, iteB (fun h => ?_) fun h => ?_⟩
              · exact iteT (bad hm (pairOf_len (by have := ne_t h; omega)))
              · have h2 := ne_f h
                obtain ⟨d0, d1, rfl⟩ := two_of (l := es) (by omega)
                cases hes with
                | cons h0 t0 =>
                  cases t0 with
                  | cons h1 t1 =>
                    cases t1
                    rename_i v0 v1
                    refine ⟨_, rfl, _, _, _, _, rfl, rfl, SqT.of hb, at_of (j := 0) rfl rfl, v0, d0, rfl, h0, _, rfl, iteB (fun h => ?_) fun h => ?_⟩
                    · exact iteT (bad hm (pairOf_i0 (not_t h)))
                    · obtain ⟨i0, rfl⟩ := isI_int (not_f h)
                      cases h0
                      refine ⟨_, rfl, _, _, _, _, rfl, rfl, SqT.of hb, at_of (j := 1) rfl rfl, v1, d1, rfl, h1, _, rfl, iteB (fun h => ?_) fun h => ?_⟩
                      · exact bad hm (pairOf_i1 (not_t h))
                      · obtain ⟨i1, rfl⟩ := isI_int (not_f h)
                        cases h1
                        have pe : pairOf (.tup [.int i0, .int i1]) = if 0 ≤ i0 ∧ 1 ≤ i1 then some (i0, i1) else none := rfl
                        refine ⟨_, rfl, _, _, _, _, rfl, rfl, SqT.of hb, at_of (j := 0) rfl rfl, _, _, rfl, rfl, _, rfl, iteB (fun h => ?_) fun h => ?_⟩
                        · have h := of_decide_eq_true h
                          exact iteT (bad hm (by rw [pe, if_neg (by omega)]))
                        · have h := of_decide_eq_false h
                          refine ⟨_, rfl, _, _, _, _, rfl, rfl, SqT.of hb, at_of (j := 1) rfl rfl, _, _, rfl, rfl, _, rfl, iteB (fun h' => ?_) fun h' => ?_⟩
                          · have h' := of_decide_eq_true h'
                            exact bad hm (by rw [pe, if_neg (by omega)])
                          · have h' := of_decide_eq_false h'
                            refine ⟨rfl, ⟨_, rfl⟩, fun j d hj hd => ?_⟩
                            by_cases hji : j < i
                            · exact hp j d hji hd
                            · have : j = i := by omega
                              subst this
                              rw [hdi] at hd
                              have e := Option.some.inj hd
                              rw [← e, pe, if_pos (by omega)]; rfl
        · rintro σ H' ⟨rfl, ⟨z, rfl⟩, hp⟩
          obtain ⟨ps, hps⟩ := pairsOf_all (ds := ds) fun d hd => by
            obtain ⟨j, hj, e⟩ := List.mem_iff_getElem.mp hd
            exact hp j d (by omega) (by rw [List.getElem?_eq_getElem hj, e])
          obtain ⟨ed, hb⟩ := pairsOf_some hps
          rw [abOf_asc hps] at q
          rw [ed] at hs
          have hp : Paired (PAt H') xs ps := paired_of_ds (F := PAt H') (fun _ _ z => PAt.of_d z) hs
          have hpl : xs.length = ps.length := Paired.length hp
          refine ⟨_, rfl, _, rfl, _, rfl, a, xs, rfl, ha, fun p1 H2 s2 hp1 => ?_⟩
          have e1 : cutV xs (some 1) none = xs.drop 1 := cut_drop xs 1
          have hp1 : H2 p1 = some (.tup (xs.drop 1)) := by rw [← e1]; exact hp1
          refine ⟨a, p1, xs, _, rfl, .inr ⟨SqT.of (s2 _ _ ha), SqT.of hp1, fun D2 nD2 => lc_zipG (F := PAt) (fun b c : Int × Int => decide (b.1 < c.1)) nD2 (s2 _ _ ha) hp1 (pmap hp fun _ _ z => z.mono s2.wk) (by omega) (fun h w => h.mono w) (fun x y p b c H' R R0 hb hc fx fy s3 hpp kR => ?_) (fun H3 s3 hO3 => ?_)⟩⟩
          · obtain ⟨px, rfl, hpx⟩ := fx
            obtain ⟨py, rfl, hpy⟩ := fy
            refine ⟨_, _, rfl, SqT.of hpp, rfl, _, _, rfl, _, _, rfl, rfl, rfl, yesI ⟨_, rfl, _, _, _, _, rfl, rfl, SqT.of hpx, at_of (j := 0) rfl rfl, _, rfl, _, _, _, _, rfl, rfl, SqT.of hpy, at_of (j := 0) rfl rfl, _, _, rfl, rfl, ?_⟩⟩
            exact kR _ (Same.refl _)
          · refine ⟨_, _, rfl, SqL.of hO3, ?_⟩
            rw [adj_asc]
            exact q _ (s2.trans s3)
/- slots of Pis_built_move: 0:thing; level 3 -/
def sp_Pis_built_move (T : Txt K mg) : Sp := fun vs H Q _ => ∃ v d, vs = [v] ∧ DAt T.a_House H v d ∧ dOk d ∧ ∀ H', Same H H' → Q (.bl (mvOf d).isSome) H'
theorem ok_Pis_built_move (T : Txt K mg) : FnOk P w K mg base CX0 3 T.Pis_built_move.f T.Pis_built_move.d ["thing"] (sp_Pis_built_move T) := by
  have nd := sc_Pis_built_move.nd
  refine T.Pis_built_move.F.ok sc_Pis_built_move (fun vs H Q E h => ?_) (fun cdv A outer s H vs Q E hr h => ?_)
  · obtain ⟨v, d, rfl, _⟩ := h; rfl
  · obtain ⟨v, d, rfl, hd, ok, q⟩ := h
    refine ⟨_, (pss_one (ps_ret (pe_and (pe_callB (call_isiK1 (K := K) rfl) (by rfl) T.n_isinstance (by decide +kernel) (pa_cons (pv 0) (pa_cons (pe_bltn (v := V.ty "tuple") (by rfl) T.n_tuple (by decide +kernel) rfl) pa_nil))) (pe_and (pe_cmpR op_eq (pe_callB (call_lenK (K := K) rfl) (by rfl) T.n_len (by decide +kernel) (pa_cons (pv 0) pa_nil)) pe_int (nomark _)) (pe_and (pe_call (ok_Pis_way T) (hr.mono (by decide)) (by rfl) T.Pis_way.m T.Pis_way.F.kp T.Pis_way.b .nil pass0 (pa_cons (pe_ix (ix_tupK (K := K) rfl) (pv 0) pe_int (fun _ _ => rfl)) pa_nil)) (pe_one (pe_call (ok_Pis_aboard T) (hr.mono (by decide)) (by rfl) T.Pis_aboard.m T.Pis_aboard.F.kp T.Pis_aboard.b .nil pass0 (pa_cons (pe_ix (ix_tupK (K := K) rfl) (pv 0) pe_int (fun _ _ => rfl)) pa_nil)))))))), ?_⟩
    obtain ⟨t, ty, bi, bb, bt, k1, k2, k3, e1, e2⟩ := hd.ty T
    refine ⟨_, rfl, _, _, _, _, bt, rfl, .ty _, ty, k3, _, rfl, ?_⟩
    rw [e2]
    cases d with
    | int i => exact iteF (q _ (Same.refl _))
    | bad => exact iteF (q _ (Same.refl _))
    | tup es =>
      refine iteT ?_
      cases hd with
      | tup hb hes =>
        rename_i b ys
        have hyl : ys.length = es.length := hes.length
        refine ⟨_, rfl, _, _, rfl, .inr (SqT.of hb), rfl, _, rfl, iteB (fun h => ?_) fun h => ?_⟩
        · have h2 := eq_t h
          obtain ⟨d0, d1, rfl⟩ := two_of (l := es) (by omega)
          rw [mvOf_two] at q
          cases hes with
          | cons h0 t0 =>
            cases t0 with
            | cons h1 t1 =>
              cases t1
              rename_i v0 v1
              refine ⟨_, rfl, _, _, _, _, rfl, rfl, SqT.of hb, at_of (j := 0) rfl rfl, v0, d0, rfl, h0, fun H1 s1 => ⟨_, rfl, iteB (fun h => ?_) fun h => ?_⟩⟩
              · rw [h] at q
                exact ⟨_, rfl, _, _, _, _, rfl, rfl, SqT.of (s1 _ _ hb), at_of (j := 1) rfl rfl, v1, d1, rfl, h1.mono s1.wk, ok.2.2.1, fun H2 s2 => q _ (s1.trans s2)⟩
              · rw [h] at q
                exact q _ s1
        · have h2 := eq_f h
          rw [mvOf_len (by omega)] at q
          exact q _ (Same.refl _)
/- slots of Pcan_go: 0:standing 1:way; level 4 -/
def sp_Pcan_go (T : Txt K mg) : Sp := fun vs H Q _ => ∃ (sv hv : V) (l i f r : Int) (gs : List G), vs = [sv, .int i] ∧ SdAt (K := K) H sv hv l gs ∧ HouAt T H hv f r ∧ Q (.bl (decide (0 ≤ l + i ∧ l + i < f))) H
theorem ok_Pcan_go (T : Txt K mg) : FnOk P w K mg base CX0 4 T.Pcan_go.f T.Pcan_go.d ["standing", "way"] (sp_Pcan_go T) := by
  have nd := sc_Pcan_go.nd
  refine T.Pcan_go.F.ok sc_Pcan_go (fun vs H Q E h => ?_) (fun cdv A outer s H vs Q E hr h => ?_)
  · obtain ⟨sv, hv, l, i, f, r, gs, rfl, _⟩ := h; rfl
  · obtain ⟨sv, hv, l, i, f, r, gs, rfl, ⟨p, C, dx, g, rfl, cl, n1, n2, n3, hp, hg⟩, hh, q⟩ := h
    refine ⟨_, (pss_one (ps_ret (pe_call (ok_Pis_floor T) (hr.mono (by decide)) (by rfl) T.Pis_floor.m T.Pis_floor.F.kp T.Pis_floor.b .nil pass0 (pa_cons (pe_fldK (K := K) rfl (pv 0) rfl) (pa_cons (pe_op op_add (pe_fldK (K := K) rfl (pv 0) rfl) (pv 1)) pa_nil))))), ?_⟩
    refine ⟨_, rfl, p, C, dx, _, _, rfl, hp, cl, n1, sF_house hv l _, _, rfl, p, C, dx, _, _, rfl, hp, cl, n2, sF_lift hv l _, _, rfl, l, i, rfl, rfl, hv, .int (l + i), .int (l + i), f, r, rfl, hh, .int _, ?_⟩
    have e : within 0 (f - 1) (.int (l + i)) = decide (0 ≤ l + i ∧ l + i < f) := by
      show decide (0 ≤ l + i ∧ l + i ≤ f - 1) = _
      exact decide_eq_decide.mpr (by omega)
    rw [e]
    exact q
end
end Wl

/-! W5c: the program's defs: is_move, behind_move and the walks. -/
namespace Wl
open PySem PySem.Spec PyProof.Rows L2
theorem ksteps_has {l t : Int} {qs : List (Int × Int)} : ∀ (ab : List (Int × Int)) (d : KD), HasK l d qs → HasK l (ab.foldl (kstep l t) d) qs
  | [], _, h => h
  | p :: ab, d, h => ksteps_has ab _ fun q hq => kstep_isSome l t d p _ (h q hq)
theorem has_sub {l : Int} {d : KD} {qs rs : List (Int × Int)} (h : HasK l d qs) (k : ∀ q ∈ rs, q ∈ qs) : HasK l d rs := fun q hq => h q (k q hq)
theorem fold_snoc {l t : Int} {ab : List (Int × Int)} {i : Nat} {p : Int × Int} {d : KD} (h : ab[i]? = some p) : (ab.take (i + 1)).foldl (kstep l t) d = kstep l t ((ab.take i).foldl (kstep l t) d) p := by
  rw [take_snoc h, List.foldl_append]; rfl
theorem klook_dom {f : Int} {d : KD} (h : KOk f d) {k : Int × Int} {v : Int} (e : klook d k = some v) : InF f k := h.rg k (List.mem_map.mpr ⟨(k, v), klook_mem e, rfl⟩)
/-- the two dict writes of one pair -/
theorem kstep_some {l t : Int} {d : KD} {p : Int × Int} {v : Int} (e : klook d (l, p.1) = some v) : kstep l t d p = kput (kput d (l, p.1) (v - p.2)) (t, p.1) ((klook (kput d (l, p.1) (v - p.2)) (t, p.1)).getD 0 + p.2) := by
  unfold kstep
  rw [e]; rfl
section
variable {P : Program} {w : World} {K : PySem.W.Frag} {mg : Str → Option Value} {base : Heap}
/- slots of Pis_move: 0:standing 1:thing 2:here 3:want 4:many; level 5 -/
def sp_Pis_move (T : Txt K mg) : Sp := fun vs H Q _ => ∃ (sv hv v : V) (l f r : Int) (gs : List G) (d : D), vs = [sv, v] ∧ SdAt (K := K) H sv hv l gs ∧ gs.length ≤ 2000 ∧ HouAt T H hv f r ∧ DAt T.a_House H v d ∧ dOk d ∧ ∀ H', Same H H' → Q (.bl (isMv f r l gs d)) H'
theorem isMv_none {f r l : Int} {gs : List G} {d : D} (e : mvOf d = none) : isMv f r l gs d = false := by unfold isMv; rw [e]
theorem isMv_some {f r l : Int} {gs : List G} {d : D} {m : Mv} (e : mvOf d = some m) : isMv f r l gs d = canMove f r l gs m.1 m.2 := by unfold isMv; rw [e]
theorem ok_Pis_move (T : Txt K mg) : FnOk P w K mg base CX0 5 T.Pis_move.f T.Pis_move.d ["standing", "thing"] (sp_Pis_move T) := by
  have nd := sc_Pis_move.nd
  refine T.Pis_move.F.ok sc_Pis_move (fun vs H Q E h => ?_) (fun cdv A outer s H vs Q E hr h => ?_)
  · obtain ⟨sv, hv, v, l, f, r, gs, d, rfl, _⟩ := h; rfl
  · obtain ⟨sv, hv, v, l, f, r, gs, d, rfl, hs, hl, hh, hd, ok, q⟩ := h
    refine ⟨_, (pss_cons (ps_if (PW.pt (pw_or (pt_not (pt_val (pe_call (ok_Pis_built_move T) (hr.mono (by decide)) (by rfl) T.Pis_built_move.m T.Pis_built_move.F.kp T.Pis_built_move.b .nil pass0 (pa_cons (pv 1) pa_nil)))) (pw_or1 (pt_not (pt_val (pe_call (ok_Pcan_go T) (hr.mono (by decide)) (by rfl) T.Pcan_go.m T.Pcan_go.F.kp T.Pcan_go.b .nil pass0 (pa_cons (pv 0) (pa_cons (pe_ix (ix_tupK (K := K) rfl) (pv 1) pe_int (fun _ _ => rfl)) pa_nil))))))))
      (pss_one (ps_ret pe_bl))
      pss_nil)
      (pss_cons (ps_set (i := 2) nd rfl (Or.inr rfl) (pe_call (ok_Pwants_at T) (hr.mono (by decide)) (by rfl) T.Pwants_at.m T.Pwants_at.F.kp T.Pwants_at.b .nil pass0 (pa_cons (pv 0) (pa_cons (pe_fldK (K := K) rfl (pv 0) rfl) pa_nil))))
      (pss_cons (ps_if (pt_cmpR op_gt (pe_callB (cr_sumK (K := K) rfl rfl) (by rfl) T.n_sum (by decide +kernel) (pa_cons (pe_lc (own := [("want", 3), ("many", 4)]) (g := (gTup K 2 (gCons (gName 3) (gCons (gName 4) gNil)))) (tt := tYes) rfl nd (pi_tupK (K := K) rfl (pe_ix (ix_tupK (K := K) rfl) (pv 1) pe_int (fun _ _ => rfl))) (blkOk_by (own := [("want", 3), ("many", 4)]) (N := n_Pis_move) (sc := defScope s_Pis_move) (by decide +kernel)) (fun _ _ _ _ _ => (pg_tupK (K := K) rfl rfl (pgs_cons (pg_name (i := 3) nd rfl (Or.inl rfl)) (pgs_cons (pg_name (i := 4) nd rfl (Or.inl rfl)) pgs_nil)))) (fun _ _ _ _ _ => pts_nil) (fun _ _ _ _ _ => (pv 4))) pa_nil)) (pe_fldK (K := K) rfl (pe_fldK (K := K) rfl (pv 0) rfl) rfl) (nomark _))
      (pss_one (ps_ret pe_bl))
      pss_nil)
      (pss_one (ps_ret (pe_callB (cr_allK (K := K) rfl rfl) (by rfl) T.n_all (by decide +kernel) (pa_cons (pe_lc (own := [("want", 3), ("many", 4)]) (g := (gTup K 2 (gCons (gName 3) (gCons (gName 4) gNil)))) (tt := tYes) rfl nd (pi_tupK (K := K) rfl (pe_ix (ix_tupK (K := K) rfl) (pv 1) pe_int (fun _ _ => rfl))) (blkOk_by (own := [("want", 3), ("many", 4)]) (N := n_Pis_move) (sc := defScope s_Pis_move) (by decide +kernel)) (fun _ _ _ _ _ => (pg_tupK (K := K) rfl rfl (pgs_cons (pg_name (i := 3) nd rfl (Or.inl rfl)) (pgs_cons (pg_name (i := 4) nd rfl (Or.inl rfl)) pgs_nil)))) (fun _ _ _ _ _ => pts_nil) (fun _ _ _ _ _ => (pe_cmpR op_le (pv 4) (pe_dget2 (hu_of hr) (pv 2) (pv 3) pe_int ⟨rfl, rfl, rfl, rfl⟩) (nomark _)))) pa_nil))))))), ?_⟩
    refine ⟨_, rfl, v, d, rfl, hd, ok, fun H1 s1 => ⟨_, rfl, ?_⟩⟩
    cases e : mvOf d with
    | none =>
      rw [isMv_none e] at q
      exact iteT (iteT (q _ s1))
    | some m =>
      rw [isMv_some e] at q
      refine iteF ?_
      obtain ⟨ed, hw, hb⟩ := mvOf_some e
      subst ed
      have lenm : m.2.length ≤ 10000 := by
        have h : dOk (.tup (m.2.map pD)) := ok.2.2.1
        have h := h.1
        rw [List.length_map] at h
        exact h
      have q : ∀ H', Same H H' → Q (.bl (decide (0 ≤ l + m.1 ∧ l + m.1 < f) && decide ((m.2.map (·.2)).sum ≤ r) && m.2.all fun p => decide (p.2 ≤ (lastOf (hereL gs l) p.1).getD 0))) H' := q
      obtain ⟨av, ⟨pv, rfl, hpv⟩, xs, ⟨pa, rfl, hpa⟩, hps⟩ := MvAt.of_d hd
      have hps1 := pmap hps fun v p z => (z : PAt H v p).mono s1.wk
      have xl : xs.length = m.2.length := Paired.length hps
      refine ⟨_, rfl, _, rfl, _, _, _, _, rfl, rfl, SqT.of (s1 _ _ hpv), at_of (j := 0) rfl rfl, sv, hv, l, m.1, f, r, gs, rfl, hs.mono s1.wk, hh.mono s1.wk, _, rfl, iteB (fun h => ?_) fun h => ?_⟩
      · rw [not_t h] at q
        exact q _ s1
      · rw [not_f h] at q
        obtain ⟨p, C, dx, g, rfl, cl, n1, n2, n3, hp, hg⟩ := id (hs.mono s1.wk)
        refine ⟨_, rfl, _, rfl, p, C, dx, _, _, rfl, hp, cl, n2, sF_lift hv l _, .ref p, hv, l, l, gs, rfl, hs.mono s1.wk, hl, fun dA H2 kvs s2 hk hv2 => ?_⟩
        have s12 := s1.trans s2
        refine ⟨_, rfl, _, _, _, _, rfl, rfl, SqT.of (s12 _ _ hpv), at_of (j := 1) rfl rfl, pa, rfl, ⟨_, SqT.of (s12 _ _ hpa)⟩, fun D nD => lc_tupG (F := PAt) (E := fun _ v (c : Int) => v = V.int c) (fun p => some p.2) nD (s12 _ _ hpa) (pmap hps fun _ _ z => TupAt.mono z s12.wk) (by omega) (fun h w => h.mono w) (fun h _ => h) (fun x b H' R R0 hb fx s3 kR _ => ?_) (fun H3 out s3 hO pO => ?_)⟩
        · obtain ⟨px, rfl, hpx⟩ := fx
          refine ⟨_, _, rfl, SqT.of hpx, rfl, _, _, rfl, _, _, rfl, rfl, rfl, yesI ⟨_, rfl, ?_⟩⟩
          exact kR _ _ _ (Same.refl _) rfl rfl
        · have eo := out_map pO
          rw [fm_some] at eo
          obtain ⟨ph, dh, rfl, hph⟩ := id hh
          have s123 := s12.trans s3
          refine ⟨_, _, rfl, SqL.of (by rw [hO, eo]), _, rfl, p, C, dx, _, _, rfl, (s2.trans s3) _ _ hp, cl, n1, sF_house _ l _, ph, _, dh, _, _, rfl, s123 _ _ hph, T.cl_House, T.na_room, hF_room f r, _, _, rfl, rfl, _, rfl, iteB (fun h => ?_) fun h => ?_⟩
          · have h := of_decide_eq_true h
            have h' : ¬ (m.2.map (·.2)).sum ≤ r := by
              have : r < (m.2.map (·.2)).sum := h
              omega
            rw [decide_eq_false h'] at q
            exact q _ s123
          · have h := of_decide_eq_false h
            have h' : (m.2.map (·.2)).sum ≤ r := by
              have : ¬ r < (m.2.map (·.2)).sum := h
              omega
            rw [decide_eq_true h'] at q
            refine ⟨_, rfl, _, _, _, _, rfl, rfl, SqT.of (s123 _ _ hpv), at_of (j := 1) rfl rfl, pa, rfl, ⟨_, SqT.of (s123 _ _ hpa)⟩, fun D2 nD2 => lc_tupG (F := PAt) (E := fun _ v (c : Bool) => v = V.bl c) (fun p => some (decide (p.2 ≤ (lastOf (hereL gs l) p.1).getD 0))) nD2 (s123 _ _ hpa) (pmap hps fun _ _ z => TupAt.mono z s123.wk) (by omega) (fun h w => h.mono w) (fun h _ => h) (fun x b H' R R0 hb fx s4 kR _ => ?_) (fun H4 out2 s4 hO2 pO2 => ?_)⟩
            · obtain ⟨px, rfl, hpx⟩ := fx
              have hk' := (s3.trans s4) _ _ hk
              refine ⟨_, _, rfl, SqT.of hpx, rfl, _, _, rfl, _, _, rfl, rfl, rfl, yesI ⟨_, rfl, _, rfl, dA, rfl, .inl ⟨kvs, .inl hk'⟩, _, rfl, (lastOf (hereL gs l) b.1).map V.int, .inl ⟨kvs, .inl b.1, .inl hk', rfl, (hv2 _).symm⟩, _, _, rfl, getD_int _, ?_⟩⟩
              exact kR _ _ _ (Same.refl _) rfl rfl
            · have eo2 := out_map pO2
              refine ⟨_, _, rfl, SqL.of (by rw [hO2, eo2]), ?_⟩
              have e3 : (m.2.filterMap fun p => some (decide (p.2 ≤ (lastOf (hereL gs l) p.1).getD 0))).all id = m.2.all fun p => decide (p.2 ≤ (lastOf (hereL gs l) p.1).getD 0) := by
                rw [fm_some, List.all_map]; rfl
              rw [e3]
              exact q _ (s123.trans s4)
/- slots of Pbehind_move: 0:standing 1:move 2:way 3:aboard 4:known 5:here 6:there 7:want 8:many; level 4 -/
def sp_Pbehind_move (T : Txt K mg) : Sp := fun vs H Q _ => ∃ (sv hv v : V) (l f : Int) (gs : List G) (m : Mv), vs = [sv, v] ∧ SdAt (K := K) H sv hv l gs ∧ GOk f gs ∧ f ≤ 40 ∧ MvAt H v m ∧ m.2.length ≤ 10000 ∧ Has l gs m.2 ∧ (0 ≤ l + m.1 ∧ l + m.1 < f) ∧ ∀ v' H', Same H H' → SdAt (K := K) H' v' hv (l + m.1) (made l m.1 gs m.2) → Q v' H'
theorem ok_Pbehind_move (T : Txt K mg) : FnOk P w K mg base CX0 4 T.Pbehind_move.f T.Pbehind_move.d ["standing", "move"] (sp_Pbehind_move T) := by
  have nd := sc_Pbehind_move.nd
  refine T.Pbehind_move.F.ok sc_Pbehind_move (fun vs H Q E h => ?_) (fun cdv A outer s H vs Q E hr h => ?_)
  · obtain ⟨sv, hv, v, l, f, gs, m, rfl, _⟩ := h; rfl
  · obtain ⟨sv, hv, v, l, f, gs, m, rfl, hs, gk, hf, hm, ml, has, ht, q⟩ := h
    refine ⟨_, (pss_cons (ps_asg (pv 1) (pg_tupK (K := K) rfl rfl (pgs_cons (pg_name (i := 2) nd rfl (Or.inl rfl)) (pgs_cons (pg_name (i := 3) nd rfl (Or.inl rfl)) pgs_nil))))
      (pss_cons (ps_set (i := 4) nd rfl (Or.inl rfl) (pe_call (ok_Pknown_of T) (hr.mono (by decide)) (by rfl) T.Pknown_of.m T.Pknown_of.F.kp T.Pknown_of.b .nil pass0 (pa_cons (pv 0) pa_nil)))
      (pss_cons (ps_set (i := 5) nd rfl (Or.inl rfl) (pe_fldK (K := K) rfl (pv 0) rfl))
      (pss_cons (ps_set (i := 6) nd rfl (Or.inl rfl) (pe_op op_add (pv 5) (pv 2)))
      (pss_cons (ps_for PassesOwn.never rfl (pi_tupK (K := K) rfl (pv 3)) (pg_tupK (K := K) rfl rfl (pgs_cons (pg_name (i := 7) nd rfl (Or.inl rfl)) (pgs_cons (pg_name (i := 8) nd rfl (Or.inl rfl)) pgs_nil)))
      (pss_cons (ps_dput (hu_of hr) (pv 4) (pe_tup (pa_cons (pv 5) (pa_cons (pv 7) pa_nil))) (pe_op op_sub (pe_dget (hu_of hr) (pv 4) (pe_tup (pa_cons (pv 5) (pa_cons (pv 7) pa_nil))) (fun _ _ => rfl)) (pv 8)) rfl)
      (pss_one (ps_dput (hu_of hr) (pv 4) (pe_tup (pa_cons (pv 6) (pa_cons (pv 7) pa_nil))) (pe_op op_add (pe_dget2 (hu_of hr) (pv 4) (pe_tup (pa_cons (pv 6) (pa_cons (pv 7) pa_nil))) pe_int ⟨rfl, rfl, rfl, rfl⟩) (pv 8)) rfl))))
      (pss_one (ps_ret (pe_call (ok_Praw_standing T) (hr.mono (by decide)) (by rfl) T.Praw_standing.m T.Praw_standing.F.kp T.Praw_standing.b .nil pass0 (pa_cons (pe_fldK (K := K) rfl (pv 0) rfl) (pa_cons (pv 6) (pa_cons (pv 4) pa_nil))))))))))), ?_⟩
    obtain ⟨av, ⟨pv, rfl, hpv⟩, xs, ⟨pa, rfl, hpa⟩, hps⟩ := hm
    have gl := gk.len hf
    have xl : xs.length = m.2.length := Paired.length hps
    refine ⟨_, rfl, _, _, rfl, SqT.of hpv, rfl, _, _, rfl, _, _, rfl, rfl, ?_⟩
    refine ⟨_, rfl, sv, hv, l, gs, rfl, hs, by omega, fun dA H1 nA s1 hA => ?_⟩
    obtain ⟨p, C, dx, g, rfl, cl, n1, n2, n3, hp, hg⟩ := id hs
    refine ⟨_, rfl, p, C, dx, _, _, rfl, s1 _ _ hp, cl, n2, sF_lift hv l _, _, rfl, _, rfl, _, _, rfl, rfl, ?_⟩
    have base0 : KOk f (kd0 gs) := gk.k
    have hasK : HasK l (kd0 gs) m.2 := has.k
    have kok : ∀ i, KOk f ((m.2.take i).foldl (kstep l (l + m.1)) (kd0 gs)) := fun i => ksteps_ok ht _ _ base0 (has_sub hasK fun q hq => List.mem_of_mem_take hq)
    have khas : ∀ i, HasK l ((m.2.take i).foldl (kstep l (l + m.1)) (kd0 gs)) m.2 := fun i => ksteps_has _ _ hasK
    refine ⟨_, rfl, pa, rfl, ⟨_, SqT.of (s1 _ _ hpa)⟩, for_tup (K := K) (a := pa) (xs := xs) (fun i σ H' => Same H H' ∧ (∃ z1 z2, σ = [some (.ref p), some (.ref pv), some (.int m.1), some (.ref pa), some (.ref dA), some (.int l), some (.int (l + m.1)), z1, z2]) ∧ H' dA = some (.dT (rep ((m.2.take i).foldl (kstep l (l + m.1)) (kd0 gs))))) ⟨s1, ⟨_, _, rfl⟩, hA⟩ (fun i σ H' _ h => SqT.of (h.1 _ _ hpa)) ?_ ?_⟩
    · rintro i x σ H' hx ⟨s2, ⟨z1, z2, rfl⟩, hO⟩
      obtain ⟨b, hb, fb⟩ := paired_at hps hx
      have hbm := List.mem_of_getElem? hb
      obtain ⟨px, rfl, hpx⟩ := id (TupAt.mono fb s2.wk)
      obtain ⟨v0, e0⟩ := Option.isSome_iff_exists.mp (khas i b hbm)
      have k0 := kok i
      have k1 := k0.put (v0 - b.2) (klook_dom k0 e0)
      rw [fold_snoc hb, kstep_some e0]
      refine ⟨_, _, rfl, SqT.of hpx, rfl, _, _, rfl, _, _, rfl, rfl, ?_⟩
      refine ⟨_, rfl, _, rfl, _, rfl, small_le (by show 2 ≤ 100000; decide), fun q1 nq1 => ⟨dA, _, rfl, dget_some (k := (l, b.1)) (.inl (Same.new nq1 _ _ hO)) upd_same e0, _, rfl, _, _, rfl, rfl, ?_⟩⟩
      refine ⟨_, rfl, _, rfl, _, rfl, small_le (by show 2 ≤ 100000; decide), fun q2 nq2 => ⟨dA, _, rfl, dput_rep (k := (l, b.1)) (v := v0 - b.2) (((Same.new nq1).add nq2) _ _ hO) upd_same (Nat.le_trans (k0.len hf) (by decide)), ?_⟩⟩
      have s3 : Same H (upd (upd H' q1 (.tup [.int l, .int b.1])) q2 (.tup [.int l, .int b.1])) := (s2.add nq1).add nq2
      have s4 := s3.mut (p := dA) (o := .dT (rep (kput ((m.2.take i).foldl (kstep l (l + m.1)) (kd0 gs)) (l, b.1) (v0 - b.2)))) nA
      refine ⟨_, rfl, dA, rfl, .inr ⟨_, .inl upd_same⟩, _, rfl, _, rfl, small_le (by show 2 ≤ 100000; decide), fun q3 nq3 => ⟨_, dget_rep (k := (l + m.1, b.1)) (.inl (Same.new nq3 _ _ upd_same)) upd_same, _, rfl, _, _, getD_int _, rfl, ?_⟩⟩
      refine ⟨_, rfl, _, rfl, _, rfl, small_le (by show 2 ≤ 100000; decide), fun q4 nq4 => ⟨dA, _, rfl, dput_rep (k := (l + m.1, b.1)) (((Same.new nq3).add nq4) _ _ upd_same) upd_same (Nat.le_trans (k1.len hf) (by decide)), ?_⟩⟩
      exact ⟨((s4.add nq3).add nq4).mut nA, ⟨_, _, rfl⟩, upd_same⟩
    · rintro σ H' ⟨s2, ⟨z1, z2, rfl⟩, hO⟩
      rw [xl, List.take_length] at hO
      have kf : KOk f (m.2.foldl (kstep l (l + m.1)) (kd0 gs)) := ksteps_ok ht _ _ base0 hasK
      refine ⟨_, rfl, p, C, dx, _, _, rfl, s2 _ _ hp, cl, n1, sF_house hv l _, _, rfl, _, rfl, hv, l + m.1, dA, _, rfl, hO, kf.nd, Nat.le_trans (kf.len hf) (by decide), fun v' H3 s3 hs3 => q v' H3 (s2.trans s3) hs3⟩
end
end Wl

/-! W5d: the program's defs: walks over plans. -/
namespace Wl
open PySem PySem.Spec PyProof.Rows L2
theorem runD_stop {f r l l1 : Int} {gs gs1 : List G} {ds : List D} {i : Nat} {d : D} (h : runD f r l gs (ds.take i) = some (l1, gs1)) (hd : ds[i]? = some d) (hb : isMv f r l1 gs1 d = false) : runD f r l gs ds = none := by
  have hi := (List.getElem?_eq_some_iff.mp hd)
  obtain ⟨hlt, he⟩ := hi
  have e : ds = ds.take i ++ d :: ds.drop (i + 1) := by
    rw [← he, ← List.drop_eq_getElem_cons hlt, List.take_append_drop]
  rw [e, runD_snoc _ _ h, runD_bad hb]
theorem runD_step {f r l l1 : Int} {gs gs1 : List G} {ds : List D} {i : Nat} {d : D} {m : Mv} (h : runD f r l gs (ds.take i) = some (l1, gs1)) (hd : ds[i]? = some d) (e : mvOf d = some m) (hc : canMove f r l1 gs1 m.1 m.2 = true) :
    runD f r l gs (ds.take (i + 1)) = some (l1 + m.1, made l1 m.1 gs1 m.2) := by
  rw [take_snoc hd, runD_snoc _ _ h, runD_cons e hc]; rfl
section
variable {P : Program} {w : World} {K : PySem.W.Frag} {mg : Str → Option Value} {base : Heap}
/- slots of Pfirst_bad: 0:standing 1:moves 2:index 3:move; level 6 -/
def sp_Pfirst_bad (T : Txt K mg) : Sp := fun vs H Q _ => ∃ (sv hv v : V) (l f r : Int) (gs : List G) (ds : List D), vs = [sv, v] ∧ SdAt (K := K) H sv hv l gs ∧ HouAt T H hv f r ∧ GOk f gs ∧ f ≤ 40 ∧ (0 ≤ l ∧ l < f) ∧ DAt T.a_House H v (.tup ds) ∧ dOk (.tup ds) ∧
  ∀ p b sv' H', Same H H' → H' p = some (.tup [b, sv']) → ((runD f r l gs ds = none ∧ ∃ i, b = .int i) ∨ ∃ l' gs', runD f r l gs ds = some (l', gs') ∧ b = .non ∧ SdAt (K := K) H' sv' hv l' gs') → Q (.ref p) H'
theorem ok_Pfirst_bad (T : Txt K mg) : FnOk P w K mg base CX0 6 T.Pfirst_bad.f T.Pfirst_bad.d ["standing", "moves"] (sp_Pfirst_bad T) := by
  have nd := sc_Pfirst_bad.nd
  refine T.Pfirst_bad.F.ok sc_Pfirst_bad (fun vs H Q E h => ?_) (fun cdv A outer s H vs Q E hr h => ?_)
  · obtain ⟨sv, hv, v, l, f, r, gs, ds, rfl, _⟩ := h; rfl
  · obtain ⟨sv, hv, v, l, f, r, gs, ds, rfl, hs, hh, gk, hf, hl, hd, ok, q⟩ := h
    refine ⟨_, (pss_cons (ps_for PassesOwn.never rfl (pi_enumT (K := K) rfl (by rfl) T.n_enumerate (pa_cons (pv 1) pa_nil)) (pg_tupK (K := K) rfl rfl (pgs_cons (pg_name (i := 2) nd rfl (Or.inl rfl)) (pgs_cons (pg_name (i := 3) nd rfl (Or.inl rfl)) pgs_nil)))
      (pss_cons (ps_if (pt_not (pt_val (pe_call (ok_Pis_move T) (hr.mono (by decide)) (by rfl) T.Pis_move.m T.Pis_move.F.kp T.Pis_move.b .nil pass0 (pa_cons (pv 0) (pa_cons (pv 3) pa_nil)))))
      (pss_one (ps_ret (pe_tup (pa_cons (pv 2) (pa_cons (pv 0) pa_nil)))))
      pss_nil)
      (pss_one (ps_set (i := 0) nd rfl (Or.inl rfl) (pe_call (ok_Pbehind_move T) (hr.mono (by decide)) (by rfl) T.Pbehind_move.m T.Pbehind_move.F.kp T.Pbehind_move.b .nil pass0 (pa_cons (pv 0) (pa_cons (pv 3) pa_nil)))))))
      (pss_one (ps_ret (pe_tup (pa_cons pe_non (pa_cons (pv 0) pa_nil)))))), ?_⟩
    cases hd with
    | tup ha hds =>
      rename_i a xs
      have xl : xs.length = ds.length := hds.length
      refine ⟨_, rfl, a, xs, rfl, SqT.of ha, for_enumT (K := K) (a := a) (xs := xs) (fun i σ H' => Same H H' ∧ ∃ sv' z2 z3 l1 gs1, σ = [some sv', some (.ref a), z2, z3] ∧ SdAt (K := K) H' sv' hv l1 gs1 ∧ runD f r l gs (ds.take i) = some (l1, gs1)) ⟨Same.refl _, sv, _, _, l, gs, rfl, hs, rfl⟩ (fun i σ H' h => SqT.of (h.1 _ _ ha)) ?_ ?_⟩
      · rintro i x p σ H1 hx ⟨s1, sv', z2, z3, l1, gs1, rfl, hs1, hrun⟩ np
        obtain ⟨d, hdi, hd⟩ := hds.get hx
        have hdm : d ∈ ds := List.mem_of_getElem? hdi
        obtain ⟨gk1, hl1⟩ := runD_ok _ hrun gk hl
        have sp : Same H1 (upd H1 p (.tup [.int (i : Nat), x])) := Same.new np
        have s2 := s1.trans sp
        refine ⟨_, _, rfl, SqT.of upd_same, rfl, _, _, rfl, _, _, rfl, rfl, ?_⟩
        have okd : dOk d := dsOk_mem.mp ok.2 d hdm
        refine ⟨_, rfl, _, rfl, sv', hv, x, l1, f, r, gs1, d, rfl, hs1.mono sp.wk, Nat.le_trans (gk1.len hf) (by decide), hh.mono s2.wk, hd.mono s2.wk, okd, fun H2 s3 => ⟨_, rfl, ?_⟩⟩
        cases e : isMv f r l1 gs1 d with
        | false =>
          refine iteT ⟨_, rfl, _, rfl, small_le (by show 2 ≤ 100000; decide), fun p2 np2 => ?_⟩
          exact q p2 _ sv' _ ((s2.trans s3).add np2) upd_same (.inl ⟨runD_stop hrun hdi e, _, rfl⟩)
        | true =>
          obtain ⟨m, em, ed, good⟩ := isMv_good e
          subst ed
          have hm := MvAt.of_d (hd.mono (s2.trans s3).wk)
          have lenm : m.2.length ≤ 10000 := by
            have h : dOk (.tup (m.2.map pD)) := okd.2.2.1
            have h := h.1
            rw [List.length_map] at h
            exact h
          have hh := good.has
          refine iteF ⟨_, rfl, _, rfl, sv', hv, x, l1, f, gs1, m, rfl, hs1.mono (sp.trans s3).wk, gk1, hf, hm, lenm, hh.1, hh.2, fun v' H3 s4 hs4 => ?_⟩
          exact ⟨(s2.trans s3).trans s4, v', _, _, _, _, rfl, hs4, runD_step hrun hdi em good.can⟩
      · rintro σ H1 ⟨s1, sv', z2, z3, l1, gs1, rfl, hs1, hrun⟩
        rw [xl, List.take_length] at hrun
        refine ⟨_, rfl, small_le (by show 2 ≤ 100000; decide), fun p2 np2 => ?_⟩
        exact q p2 _ sv' _ (s1.add np2) upd_same (.inr ⟨l1, gs1, hrun, rfl, hs1.mono (Same.new np2).wk⟩)
/- slots of Pstandings_along: 0:standing 1:moves 2:found 3:index 4:move; level 6 -/
def sp_Pstandings_along (T : Txt K mg) : Sp := fun vs H Q _ => ∃ (sv hv v : V) (l f r l' : Int) (gs gs' : List G) (ms : List Mv), vs = [sv, v] ∧ SdAt (K := K) H sv hv l gs ∧ HouAt T H hv f r ∧ GOk f gs ∧ f ≤ 40 ∧ r ≤ 1000000000000 ∧ (0 ≤ l ∧ l < f) ∧ MvsAt H v ms ∧ ms.length ≤ 10000 ∧ Run f r l gs ms l' gs' ∧
  ∀ p xs x H', Same H H' → H' p = some (.lst (xs ++ [x])) → SdAt (K := K) H' x hv l' gs' → Q (.ref p) H'
theorem run_drop {f r l1 l' : Int} {gs1 gs' : List G} {ms : List Mv} {i : Nat} {m : Mv} (h : Run f r l1 gs1 (ms.drop i) l' gs') (hm : ms[i]? = some m) : Good f r l1 gs1 m ∧ Run f r (l1 + m.1) (made l1 m.1 gs1 m.2) (ms.drop (i + 1)) l' gs' := by
  obtain ⟨hlt, he⟩ := List.getElem?_eq_some_iff.mp hm
  rw [List.drop_eq_getElem_cons hlt, he] at h
  cases h with
  | cons g t => exact ⟨g, t⟩
theorem ok_Pstandings_along (T : Txt K mg) : FnOk P w K mg base CX0 6 T.Pstandings_along.f T.Pstandings_along.d ["standing", "moves"] (sp_Pstandings_along T) := by
  have nd := sc_Pstandings_along.nd
  refine T.Pstandings_along.F.ok sc_Pstandings_along (fun vs H Q E h => ?_) (fun cdv A outer s H vs Q E hr h => ?_)
  · obtain ⟨sv, hv, v, l, f, r, l', gs, gs', ms, rfl, _⟩ := h; rfl
  · obtain ⟨sv, hv, v, l, f, r, l', gs, gs', ms, rfl, hs, hh, gk, hf, hr', hl, ⟨xs, ⟨a, rfl, ha⟩, hps⟩, ml, run, q⟩ := h
    refine ⟨_, (pss_cons (ps_if (pt_not (pt_val (pe_callB (call_isiK1 (K := K) rfl) (by rfl) T.n_isinstance (by decide +kernel) (pa_cons (pv 1) (pa_cons (pe_bltn (v := V.ty "tuple") (by rfl) T.n_tuple (by decide +kernel) rfl) pa_nil)))))
      (pss_one ps_never)
      pss_nil)
      (pss_cons (ps_set (i := 2) nd rfl (Or.inl rfl) (pe_lst (pa_cons (pv 0) pa_nil)))
      (pss_cons (ps_for PassesOwn.never rfl (pi_enumT (K := K) rfl (by rfl) T.n_enumerate (pa_cons (pv 1) pa_nil)) (pg_tupK (K := K) rfl rfl (pgs_cons (pg_name (i := 3) nd rfl (Or.inl rfl)) (pgs_cons (pg_name (i := 4) nd rfl (Or.inl rfl)) pgs_nil)))
      (pss_cons (ps_if (pt_not (pt_val (pe_call (ok_Pis_move T) (hr.mono (by decide)) (by rfl) T.Pis_move.m T.Pis_move.F.kp T.Pis_move.b .nil pass0 (pa_cons (pe_ix (ix_listK (K := K) rfl) (pv 2) (pe_un un_neg pe_int) (fun _ _ => rfl)) (pa_cons (pv 4) pa_nil)))))
      (pss_one ps_never)
      pss_nil)
      (pss_one (ps_expr (pe_bm PySem.F.plainAttrs_list PySem.F.slot_list_append PySem.F.type_list_append mt_append (pv 2) (pa_cons (pe_call (ok_Pbehind_move T) (hr.mono (by decide)) (by rfl) T.Pbehind_move.m T.Pbehind_move.F.kp T.Pbehind_move.b .nil pass0 (pa_cons (pe_ix (ix_listK (K := K) rfl) (pv 2) (pe_un un_neg pe_int) (fun _ _ => rfl)) (pa_cons (pv 4) pa_nil))) pa_nil))))))
      (pss_one (ps_ret (pv 2)))))), ?_⟩
    have xl : xs.length = ms.length := Paired.length hps
    have ty : TyX K H (.ref a) (.type "tuple") := .base (.tup ha)
    refine ⟨_, rfl, _, _, _, _, true, rfl, .ty _, ty, kit_ty (by decide +kernel), true, rfl, iteF ?_⟩
    refine ⟨_, rfl, small_le (by show 1 ≤ 100000; decide), fun F nF => ?_⟩
    have sF : Same H (upd H F (.lst [sv])) := Same.new nF
    refine ⟨_, rfl, a, xs, rfl, SqT.of (sF _ _ ha), for_enumT (K := K) (a := a) (xs := xs) (fun i σ H' => Same H H' ∧ ∃ z3 z4 ys y l1 gs1, σ = [some sv, some (.ref a), some (.ref F), z3, z4] ∧ H' F = some (.lst (ys ++ [y])) ∧ ys.length ≤ i ∧ SdAt (K := K) H' y hv l1 gs1 ∧ Run f r l1 gs1 (ms.drop i) l' gs' ∧ GOk f gs1 ∧ (0 ≤ l1 ∧ l1 < f)) ⟨sF, _, _, [], sv, l, gs, rfl, upd_same, Nat.le_refl _, hs.mono sF.wk, run, gk, hl⟩ (fun i σ H' h => SqT.of (h.1 _ _ ha)) ?_ ?_⟩
    · rintro i x p σ H1 hx ⟨s1, z3, z4, ys, y, l1, gs1, rfl, hF, yl, hs1, hrun, gk1, hl1⟩ np
      obtain ⟨m, hmi, hm⟩ := paired_at hps hx
      have hi : i < ms.length := (List.getElem?_eq_some_iff.mp hmi).1
      obtain ⟨good, hrun2⟩ := run_drop hrun hmi
      have sp : Same H1 (upd H1 p (.tup [.int (i : Nat), x])) := Same.new np
      have s2 := s1.trans sp
      refine ⟨_, _, rfl, SqT.of upd_same, rfl, _, _, rfl, _, _, rfl, rfl, ?_⟩
      have hm2 : MvAt _ x m := hm.mono s2.wk
      refine ⟨_, rfl, _, rfl, _, _, _, _, rfl, rfl, SqL.of (sp _ _ hF), atI_last _ _, _, rfl, y, hv, x, l1, f, r, gs1, mvD m, rfl, hs1.mono sp.wk, Nat.le_trans (gk1.len hf) (by decide), hh.mono s2.wk, hm2.d, good.dok gk1 hf hr', fun H2 s3 => ⟨_, rfl, ?_⟩⟩
      rw [good.isMv]
      refine iteF ?_
      have hF2 := (sp.trans s3) _ _ hF
      have hh2 := good.has
      have fewm : m.2.length ≤ 10000 := Nat.le_trans (good.few gk1 hf) (by decide)
      refine ⟨_, rfl, .inl ⟨rfl, _, SqL.of hF2⟩, _, rfl, _, rfl, _, _, _, _, rfl, rfl, SqL.of hF2, atI_last _ _, _, rfl, y, hv, x, l1, f, gs1, m, rfl, hs1.mono (sp.trans s3).wk, gk1, hf, hm2.mono s3.wk, fewm, hh2.1, hh2.2, fun v' H3 s4 hs4 => ?_⟩
      refine ⟨F, _, v', rfl, rfl, s4 _ _ hF2, small_line (by rw [List.length_append]; show ys.length + 1 ≤ 100000; omega), ?_⟩
      have hF4 := s4 _ _ hF2
      refine ⟨((s2.trans s3).trans s4).mut nF, _, _, ys ++ [y], v', l1 + m.1, made l1 m.1 gs1 m.2, rfl, upd_same, by rw [List.length_append]; show ys.length + 1 ≤ i + 1; omega, hs4.mono (Wk.lst hF4), hrun2, made_ok gk1 hh2.1 hh2.2, hh2.2⟩
    · rintro σ H1 ⟨s1, z3, z4, ys, y, l1, gs1, rfl, hF, yl, hs1, hrun, gk1, hl1⟩
      rw [xl, List.drop_length] at hrun
      cases hrun
      exact ⟨_, rfl, q F ys y H1 s1 hF hs1⟩
/- slots of Pbehind: 0:standing 1:moves; level 7 -/
def sp_Pbehind (T : Txt K mg) : Sp := fun vs H Q _ => ∃ (sv hv v : V) (l f r l' : Int) (gs gs' : List G) (ms : List Mv), vs = [sv, v] ∧ SdAt (K := K) H sv hv l gs ∧ HouAt T H hv f r ∧ GOk f gs ∧ f ≤ 40 ∧ r ≤ 1000000000000 ∧ (0 ≤ l ∧ l < f) ∧ MvsAt H v ms ∧ ms.length ≤ 10000 ∧ Run f r l gs ms l' gs' ∧
  ∀ x H', Same H H' → SdAt (K := K) H' x hv l' gs' → Q x H'
theorem ok_Pbehind (T : Txt K mg) : FnOk P w K mg base CX0 7 T.Pbehind.f T.Pbehind.d ["standing", "moves"] (sp_Pbehind T) := by
  have nd := sc_Pbehind.nd
  refine T.Pbehind.F.ok sc_Pbehind (fun vs H Q E h => ?_) (fun cdv A outer s H vs Q E hr h => ?_)
  · obtain ⟨sv, hv, v, l, f, r, l', gs, gs', ms, rfl, _⟩ := h; rfl
  · obtain ⟨sv, hv, v, l, f, r, l', gs, gs', ms, rfl, h1, h2, h3, h4, h5, h6, h7, h8, h9, q⟩ := h
    refine ⟨_, (pss_one (ps_ret (pe_ix (ix_listK (K := K) rfl) (pe_call (ok_Pstandings_along T) (hr.mono (by decide)) (by rfl) T.Pstandings_along.m T.Pstandings_along.F.kp T.Pstandings_along.b .nil pass0 (pa_cons (pv 0) (pa_cons (pv 1) pa_nil))) (pe_un un_neg pe_int) (fun _ _ => rfl)))), ?_⟩
    exact ⟨_, rfl, _, rfl, sv, hv, v, l, f, r, l', gs, gs', ms, rfl, h1, h2, h3, h4, h5, h6, h7, h8, h9, fun p xs x H1 s1 hp hs1 => ⟨_, rfl, _, _, _, _, rfl, rfl, SqL.of hp, atI_last _ _, q x H1 s1 hs1⟩⟩
/- slots of Pis_plan: 0:standing 1:thing 2:bad 3:last; level 7 -/
def sp_Pis_plan (T : Txt K mg) : Sp := fun vs H Q _ => ∃ (sv hv v : V) (l f r : Int) (gs : List G) (d : D), vs = [sv, v] ∧ SdAt (K := K) H sv hv l gs ∧ HouAt T H hv f r ∧ GOk f gs ∧ f ≤ 40 ∧ (0 ≤ l ∧ l < f) ∧ DAt T.a_House H v d ∧ dOk d ∧ ∀ H', Same H H' → Q (.bl (dueD f r l gs d)) H'
theorem ok_Pis_plan (T : Txt K mg) : FnOk P w K mg base CX0 7 T.Pis_plan.f T.Pis_plan.d ["standing", "thing"] (sp_Pis_plan T) := by
  have nd := sc_Pis_plan.nd
  refine T.Pis_plan.F.ok sc_Pis_plan (fun vs H Q E h => ?_) (fun cdv A outer s H vs Q E hr h => ?_)
  · obtain ⟨sv, hv, v, l, f, r, gs, d, rfl, _⟩ := h; rfl
  · obtain ⟨sv, hv, v, l, f, r, gs, d, rfl, hs, hh, gk, hf, hl, hd, ok, q⟩ := h
    refine ⟨_, (pss_cons (ps_if (pt_not (pt_val (pe_callB (call_isiK1 (K := K) rfl) (by rfl) T.n_isinstance (by decide +kernel) (pa_cons (pv 1) (pa_cons (pe_bltn (v := V.ty "tuple") (by rfl) T.n_tuple (by decide +kernel) rfl) pa_nil)))))
      (pss_one (ps_ret pe_bl))
      pss_nil)
      (pss_cons (ps_asg (pe_call (ok_Pfirst_bad T) (hr.mono (by decide)) (by rfl) T.Pfirst_bad.m T.Pfirst_bad.F.kp T.Pfirst_bad.b .nil pass0 (pa_cons (pv 0) (pa_cons (pv 1) pa_nil))) (pg_tupK (K := K) rfl rfl (pgs_cons (pg_name (i := 2) nd rfl (Or.inl rfl)) (pgs_cons (pg_name (i := 3) nd rfl (Or.inl rfl)) pgs_nil))))
      (pss_one (ps_ret (pe_and (pe_cmpR op_isN (pv 2) pe_non (nomark _)) (pe_one (pe_call (ok_Pis_done T) (hr.mono (by decide)) (by rfl) T.Pis_done.m T.Pis_done.F.kp T.Pis_done.b .nil pass0 (pa_cons (pv 3) pa_nil)))))))), ?_⟩
    obtain ⟨t, ty, bi, bb, bt, k1, k2, k3, e1, e2⟩ := hd.ty T
    refine ⟨_, rfl, _, _, _, _, bt, rfl, .ty _, ty, k3, _, rfl, ?_⟩
    rw [e2]
    cases d with
    | int i => exact iteT (q _ (Same.refl _))
    | bad => exact iteT (q _ (Same.refl _))
    | tup ds =>
      have e : dueD f r l gs (.tup ds) = due f r l gs ds := rfl
      rw [e, due_runD] at q
      refine iteF ⟨_, rfl, _, rfl, sv, hv, v, l, f, r, gs, ds, rfl, hs, hh, gk, hf, hl, hd, ok, fun p b sv' H1 s1 hp hb => ?_⟩
      refine ⟨_, _, rfl, SqT.of hp, rfl, _, _, rfl, _, _, rfl, rfl, ?_⟩
      rcases hb with ⟨er, i, rfl⟩ | ⟨l', gs', er, rfl, hs'⟩
      · rw [er] at q
        refine ⟨_, rfl, rfl, false, congrArg V.bl (decide_eq_false (fun z => by cases z)), iteF (q _ s1)⟩
      · rw [er] at q
        obtain ⟨gk1, hl1⟩ := runD_ok _ er gk hl
        refine ⟨_, rfl, rfl, true, congrArg V.bl (decide_eq_true rfl), iteT ⟨_, rfl, sv', hv, l', gs', rfl, hs', Nat.le_trans (gk1.len hf) (by decide), fun H2 s2 => q _ (s1.trans s2)⟩⟩
end
end Wl

/-! W6: the law's own defs, first part: the hand. -/
namespace Wl
open PySem PySem.Spec PyProof.Rows L2
/-- a block cut at its first statement: what stands behind it is proved once -/
theorem seq_cut {t u : TS} {D : Ends} {σ : L2.St} {H : Hp} (M : L2.St → Hp → Prop) (h2 : ∀ σ' H', M σ' H' → u D σ' H') (h1 : ∀ N : L2.St → Hp → Prop, (∀ σ' H', M σ' H' → N σ' H') → t { D with nx := N } σ H) : tSeq t u D σ H := h1 (u D) h2
/-- the hand: its list at a, its cells at c -/
def HandAt (H : Hp) (a c : Addr) : Prop := ∃ (i b x y : Int) (cells : List Int), H a = some (.lst [.ref c, .int i, .int b, .int x, .int y]) ∧ H c = some (.lst (cells.map V.int)) ∧ c ≠ a ∧ 0 ≤ i
section
variable {H H' : Hp} {a c p : Addr} {o : HO}
theorem HandAt.was (h : HandAt H a c) : ∃ xs, H a = some (.lst xs) := let ⟨_, _, _, _, _, e, _⟩ := h; ⟨_, e⟩
theorem HandAt.same (h : HandAt H a c) (s : Same H H') : HandAt H' a c := let ⟨i, b, x, y, cs, e1, e2, e3, e4⟩ := h; ⟨i, b, x, y, cs, s _ _ e1, s _ _ e2, e3, e4⟩
theorem HandAt.mut (h : HandAt H a c) (h1 : p ≠ a) (h2 : p ≠ c) : HandAt (upd H p o) a c := let ⟨i, b, x, y, cs, e1, e2, e3, e4⟩ := h
  ⟨i, b, x, y, cs, by rw [upd_ne (Ne.symm h1)]; exact e1, by rw [upd_ne (Ne.symm h2)]; exact e2, e3, e4⟩
theorem HandAt.ne (h : HandAt H a c) (hp : H p = none) : p ≠ a ∧ p ≠ c := let ⟨_, _, _, _, _, e1, e2, _⟩ := h; ⟨(ne_of_none e1 hp).symm, (ne_of_none e2 hp).symm⟩
theorem HandAt.g (h : HandAt H a c) : Grow a H H := Grow.refl h.was
theorem HandAt.gs (h : HandAt H a c) (s : Same H H') : Grow a H H' := Grow.of_same s h.was
end
theorem paired_ints (ns : List Int) : Paired (fun (v : V) (c : Int) => v = V.int c) (ns.map V.int) ns := by
  induction ns with
  | nil => exact .nil
  | cons n ns ih => exact .cons rfl ih
section
variable {P : Program} {w : World} {K : PySem.W.Frag} {mg : Str → Option Value} {base : Heap}
/- slots of Lhand: 0:_law_script 1:_law_cells 2:_law_cell; level 1 -/
def sp_Lhand (T : Txt K mg) : Sp := fun vs H Q _ => ∃ (sc : Addr) (ns : List Int), vs = [.ref sc] ∧ SqL K H sc (ns.map V.int) ∧ ns.length ≤ 63 ∧ ∀ a c H', Same H H' → HandAt H' a c → Q (.ref a) H'
theorem ok_Lhand (T : Txt K mg) : FnOk P w K mg base CX0 1 T.Lhand.f T.Lhand.d ["_law_script"] (sp_Lhand T) := by
  have nd := sc_Lhand.nd
  refine T.Lhand.F.ok sc_Lhand (fun vs H Q E h => ?_) (fun cdv A outer s H vs Q E hr h => ?_)
  · obtain ⟨sc, ns, rfl, _⟩ := h; rfl
  · obtain ⟨sc, ns, rfl, hq, hl, q⟩ := h
    refine ⟨_, (pss_cons (ps_setLc (i := 1) (own := [("_law_cell", 2)]) (g := (gName 2)) (tt := tYes) rfl nd rfl rfl (sw_true rfl rfl rfl (by decide +kernel)) (pi_listK (K := K) rfl (pe_slice (sl_listK (K := K) rfl) (pv 0) po_none (po_some pe_int))) (blkOk_by (own := [("_law_cell", 2)]) (N := n_Lhand) (sc := defScope s_Lhand) (by decide +kernel)) (fun _ _ _ _ _ => (pg_name (i := 2) nd rfl (Or.inl rfl))) (fun _ _ _ _ _ => pts_nil) (fun _ _ _ _ _ => (pe_callB call_abs (by rfl) T.n_abs (by decide +kernel) (pa_cons (pe_callTy call_int1 (by rfl) T.n_int (by decide +kernel) (pa_cons (pv 2) pa_nil)) pa_nil))))
      (pss_one (ps_ret (pe_lst (pa_cons (pv 1) (pa_cons pe_int (pa_cons pe_int (pa_cons (pe_op op_add pe_int (pe_callB (call_lenK (K := K) rfl) (by rfl) T.n_len (by decide +kernel) (pa_cons (pv 1) pa_nil))) (pa_cons pe_int pa_nil))))))))), ?_⟩
    have e1 : cutV (ns.map V.int) none (some 63) = (ns.take 63).map V.int := by
      rw [show (63 : Int) = ((63 : Nat) : Int) from rfl, cut_take, List.map_take]
    refine ⟨_, rfl, _, rfl, sc, _, rfl, hq, fun p np => ⟨p, rfl, ⟨_, SqL.of upd_same⟩, fun D nD => lc_listG (K := K) (gs := ns.take 63) (F := fun _ v (c : Int) => v = V.int c) (E := fun _ v (c : Int) => v = V.int c) (fun c => some (if c < 0 then -c else c)) nD (SqL.of upd_same) (by rw [e1]; exact paired_ints _) (by rw [List.length_take]; omega) (fun h _ => h) (fun h _ => h) (fun x b H' R R0 hb fx s1 kR _ => ?_) (fun H1 out s1 hO pO => ?_)⟩⟩
    · subst fx
      exact ⟨rfl, yesI ⟨_, rfl, .inl ⟨_, rfl, _, rfl, kR _ _ _ (Same.refl _) rfl rfl⟩⟩⟩
    · have eo := out_map pO
      have hO' : H1 D = some (.lst (((ns.take 63).filterMap fun c => some (if c < 0 then -c else c)).map V.int)) := by rw [hO, eo]
      refine ⟨_, rfl, _, rfl, D, _, rfl, .inl (SqL.of hO'), _, _, rfl, rfl, small_le (by show 5 ≤ 100000; decide), fun p2 np2 => ?_⟩
      have s2 : Same H1 (upd H1 p2 (.lst [.ref D, .int 0, .int 0, .int (1 + (((((ns.take 63).filterMap fun c => some (if c < 0 then -c else c)).map V.int).length : Nat) : Int)), .int 0])) := Same.new np2
      exact q p2 D _ (((Same.new np).trans s1).trans s2) ⟨0, 0, _, 0, _, upd_same, s2 _ _ hO', ne_of_none hO' np2, Int.le_refl _⟩
/- slots of Ldraw: 0:_law_hand_here 1:_law_many 2:_law_cell 3:_law_digit 4:_law_number; level 1 -/
def sp_Ldraw (T : Txt K mg) : Sp := fun vs H Q _ => ∃ (a c : Addr) (n : Int), vs = [.ref a, .int n] ∧ HandAt H a c ∧ (1 ≤ n ∧ n < 1073741824) ∧ ∀ k H', Grow a H H' → HandAt H' a c → 0 ≤ k → k < n → Q (.int k) H'
theorem ok_Ldraw (T : Txt K mg) : FnOk P w K mg base CX0 1 T.Ldraw.f T.Ldraw.d ["_law_hand_here", "_law_many"] (sp_Ldraw T) := by
  have nd := sc_Ldraw.nd
  refine T.Ldraw.F.ok sc_Ldraw (fun vs H Q E h => ?_) (fun cdv A outer s H vs Q E hr h => ?_)
  · obtain ⟨a, c, n, rfl, _⟩ := h; rfl
  · obtain ⟨a, c, n, rfl, hh, hn, q⟩ := h
    refine ⟨_, (pss_cons (ps_if (PW.pt (pw_and (pt_cmpR op_eq (pe_ix (ix_listK (K := K) rfl) (pv 0) pe_int (fun _ _ => rfl)) pe_int (nomark _)) (pw_and1 (pt_cmpR op_lt (pe_ix (ix_listK (K := K) rfl) (pv 0) pe_int (fun _ _ => rfl)) (pe_callB (call_lenK (K := K) rfl) (by rfl) T.n_len (by decide +kernel) (pa_cons (pe_ix (ix_listK (K := K) rfl) (pv 0) pe_int (fun _ _ => rfl)) pa_nil)) (nomark _)))))
      (pss_cons (ps_set (i := 2) nd rfl (Or.inl rfl) (pe_ix (ix_listK (K := K) rfl) (pe_ix (ix_listK (K := K) rfl) (pv 0) pe_int (fun _ _ => rfl)) (pe_ix (ix_listK (K := K) rfl) (pv 0) pe_int (fun _ _ => rfl)) (fun _ _ => rfl)))
      (pss_cons (ps_asg (pe_op op_add (pe_ix (ix_listK (K := K) rfl) (pv 0) pe_int (fun _ _ => rfl)) pe_int) (pg_sub (pv 0) pe_int set_list))
      (pss_cons (ps_asg (pe_op op_mod (pe_callTy call_int1 (by rfl) T.n_int (by decide +kernel) (pa_cons (pe_op op_add (pe_op op_add (pe_op op_mul (pe_ix (ix_listK (K := K) rfl) (pv 0) pe_int (fun _ _ => rfl)) pe_int) (pv 2)) pe_int) pa_nil)) pe_int) (pg_sub (pv 0) pe_int set_list))
      (pss_one (ps_if (pt_cmpR op_ge (pv 2) (pe_op op_pow pe_int pe_int) (nomark _))
      (pss_one (ps_asg (pv 2) (pg_sub (pv 0) pe_int set_list)))
      pss_nil)))))
      pss_nil)
      (pss_cons (ps_if (pt_cmpR op_gt (pe_ix (ix_listK (K := K) rfl) (pv 0) pe_int (fun _ _ => rfl)) pe_int (nomark _))
      (pss_cons (ps_set (i := 3) nd rfl (Or.inl rfl) (pe_op op_mod (pe_callTy call_int1 (by rfl) T.n_int (by decide +kernel) (pa_cons (pe_ix (ix_listK (K := K) rfl) (pv 0) pe_int (fun _ _ => rfl)) pa_nil)) (pv 1)))
      (pss_cons (ps_asg (pe_op op_fdiv (pe_ix (ix_listK (K := K) rfl) (pv 0) pe_int (fun _ _ => rfl)) (pv 1)) (pg_sub (pv 0) pe_int set_list))
      (pss_one (ps_ret (pv 3)))))
      pss_nil)
      (pss_cons (ps_asg (pe_op op_add (pe_ix (ix_listK (K := K) rfl) (pv 0) pe_int (fun _ _ => rfl)) pe_int) (pg_sub (pv 0) pe_int set_list))
      (pss_cons (ps_set (i := 4) nd rfl (Or.inl rfl) (pe_op op_mod (pe_callTy call_int1 (by rfl) T.n_int (by decide +kernel) (pa_cons (pe_op op_mul (pe_callTy call_int1 (by rfl) T.n_int (by decide +kernel) (pa_cons (pe_op op_add (pe_ix (ix_listK (K := K) rfl) (pv 0) pe_int (fun _ _ => rfl)) (pe_op op_mul pe_int (pe_ix (ix_listK (K := K) rfl) (pv 0) pe_int (fun _ _ => rfl)))) pa_nil)) pe_int) pa_nil)) pe_int))
      (pss_cons (ps_set (i := 4) nd rfl (Or.inl rfl) (pe_op op_mod (pe_callTy call_int1 (by rfl) T.n_int (by decide +kernel) (pa_cons (pe_op op_mul (pv 4) (pe_op op_add (pe_op op_fdiv (pv 4) pe_int) pe_int)) pa_nil)) pe_int))
      (pss_cons (ps_set (i := 4) nd rfl (Or.inl rfl) (pe_op op_mod (pe_callTy call_int1 (by rfl) T.n_int (by decide +kernel) (pa_cons (pe_op op_mul (pv 4) (pe_op op_add (pe_op op_fdiv (pv 4) pe_int) pe_int)) pa_nil)) pe_int))
      (pss_one (ps_ret (pe_op op_mod (pe_callTy call_int1 (by rfl) T.n_int (by decide +kernel) (pa_cons (pe_op op_fdiv (pv 4) pe_int) pa_nil)) (pv 1)))))))))), ?_⟩
    refine seq_cut (fun σ' H' => Grow a H H' ∧ HandAt H' a c ∧ ∃ z, σ' = [some (.ref a), some (.int n), z, none, none]) (fun σ' H1 h => ?_) (fun N hN => ?_)
    · obtain ⟨g1, ⟨i, b, x, y, cells, ha, hc, ne, hi⟩, z, rfl⟩ := h
      refine ⟨_, rfl, _, _, _, _, rfl, rfl, SqL.of ha, at_of (j := 2) rfl rfl, _, _, rfl, rfl, _, rfl, iteB (fun h => ?_) fun h => ?_⟩
      · refine ⟨_, rfl, _, _, _, _, rfl, rfl, SqL.of ha, at_of (j := 2) rfl rfl, .inl ⟨_, rfl, _, rfl, _, _, rfl, rfl, (show (0 : Int) < n by omega), ?_⟩⟩
        refine ⟨_, rfl, _, _, _, _, rfl, rfl, SqL.of ha, at_of (j := 2) rfl rfl, _, rfl, _, _, rfl, rfl, ⟨by omega, by omega⟩, _, rfl, a, _, 2, 2, rfl, rfl, ha, rfl, _, rfl, ?_⟩
        refine q _ _ (g1.set _) ⟨i, _, x, y, cells, upd_same, by rw [upd_ne ne]; exact hc, ne, hi⟩ (Int.emod_nonneg _ (by omega)) (Int.emod_lt_of_pos _ (by omega))
      · refine ⟨_, rfl, _, _, _, _, rfl, rfl, SqL.of ha, at_of (j := 4) rfl rfl, _, _, rfl, rfl, _, rfl, a, _, 4, 4, rfl, rfl, ha, rfl, ?_⟩
        refine ⟨_, rfl, _, _, _, _, rfl, rfl, SqL.of upd_same, at_of (j := 3) rfl rfl, _, rfl, _, _, _, _, rfl, rfl, SqL.of upd_same, at_of (j := 4) rfl rfl, _, _, rfl, rfl, .inl ⟨by decide, by decide⟩, _, _, rfl, rfl, .inl ⟨_, rfl, _, _, rfl, rfl, .inr ⟨by decide, by decide⟩, .inl ⟨_, rfl, _, _, rfl, rfl, (by decide : (0 : Int) < 2147483647), ?_⟩⟩⟩
        have b1 := Int.emod_nonneg ((x + 7919 * (y + 1)) * 48271) (by decide : (2147483647 : Int) ≠ 0)
        have b2 := Int.emod_lt_of_pos ((x + 7919 * (y + 1)) * 48271) (by decide : (0 : Int) < 2147483647)
        generalize (x + 7919 * (y + 1)) * 48271 % 2147483647 = n1 at b1 b2
        refine ⟨_, rfl, _, rfl, _, _, rfl, rfl, ⟨by decide, by decide⟩, _, _, rfl, rfl, _, _, rfl, rfl, .inl ⟨by omega, by omega⟩, .inl ⟨_, rfl, _, _, rfl, rfl, (by decide : (0 : Int) < 2147483647), ?_⟩⟩
        have b3 := Int.emod_nonneg (n1 * (n1 / 1009 + 69621)) (by decide : (2147483647 : Int) ≠ 0)
        have b4 := Int.emod_lt_of_pos (n1 * (n1 / 1009 + 69621)) (by decide : (0 : Int) < 2147483647)
        generalize n1 * (n1 / 1009 + 69621) % 2147483647 = n2 at b3 b4
        refine ⟨_, rfl, _, rfl, _, _, rfl, rfl, ⟨by decide, by decide⟩, _, _, rfl, rfl, _, _, rfl, rfl, .inl ⟨by omega, by omega⟩, .inl ⟨_, rfl, _, _, rfl, rfl, (by decide : (0 : Int) < 2147483399), ?_⟩⟩
        generalize n2 * (n2 / 2003 + 40692) % 2147483399 = n3
        refine ⟨_, rfl, _, _, rfl, rfl, ⟨by decide, by decide⟩, .inl ⟨_, rfl, _, rfl, _, _, rfl, rfl, (show (0 : Int) < n by omega), ?_⟩⟩
        refine q _ _ (g1.set _) ⟨i, b, x, _, cells, upd_same, by rw [upd_ne ne]; exact hc, ne, hi⟩ (Int.emod_nonneg _ (by omega)) (Int.emod_lt_of_pos _ (by omega))
    · obtain ⟨i, b, x, y, cells, ha, hc, ne, hi⟩ := id hh
      refine ⟨_, rfl, _, _, _, _, rfl, rfl, SqL.of ha, at_of (j := 2) rfl rfl, rfl, _, rfl, iteB (fun h => ?_) fun h => ?_⟩
      · refine ⟨_, rfl, _, _, _, _, rfl, rfl, SqL.of ha, at_of (j := 1) rfl rfl, _, rfl, _, _, _, _, rfl, rfl, SqL.of ha, at_of (j := 0) rfl rfl, c, _, rfl, .inl (SqL.of hc), _, _, rfl, rfl, _, rfl, iteB (fun h2 => ?_) fun h2 => ?_⟩
        · have h2 := of_decide_eq_true h2
          rw [List.length_map] at h2
          have hlt : i.toNat < cells.length := by omega
          have hz : (cells.map V.int)[i.toNat]? = some (.int cells[i.toNat]) := by
            rw [List.getElem?_map, List.getElem?_eq_getElem hlt]; rfl
          refine ⟨_, rfl, _, _, _, _, rfl, rfl, SqL.of ha, at_of (j := 0) rfl rfl, _, rfl, _, _, _, _, rfl, rfl, SqL.of ha, at_of (j := 1) rfl rfl, _, _, _, _, rfl, rfl, SqL.of hc, at_of (j := i.toNat) (by omega) hz, ?_⟩
          generalize cells[i.toNat] = z
          refine ⟨_, rfl, _, _, _, _, rfl, rfl, SqL.of ha, at_of (j := 1) rfl rfl, _, _, rfl, rfl, _, rfl, a, _, 1, 1, rfl, rfl, ha, rfl, ?_⟩
          refine ⟨_, rfl, _, _, _, _, rfl, rfl, SqL.of upd_same, at_of (j := 3) rfl rfl, _, _, rfl, rfl, .inr ⟨by decide, by decide⟩, _, rfl, _, _, rfl, rfl, _, _, rfl, rfl, .inl ⟨_, rfl, _, _, rfl, rfl, (by decide : (0 : Int) < 2147483629), _, rfl, a, _, 3, 3, rfl, rfl, upd_same, rfl, ?_⟩⟩
          refine ⟨_, rfl, _, _, rfl, rfl, ⟨by decide, by decide, by decide⟩, _, _, rfl, rfl, _, rfl, iteB (fun h3 => ?_) fun h3 => ?_⟩
          · refine ⟨_, rfl, _, rfl, a, _, 2, 2, rfl, rfl, upd_same, rfl, hN _ _ ⟨((hh.g.set _).set _).set _, ⟨i + 1, _, _, y, cells, upd_same, by rw [upd_ne ne, upd_ne ne, upd_ne ne]; exact hc, ne, by omega⟩, _, rfl⟩⟩
          · exact hN _ _ ⟨(hh.g.set _).set _, ⟨i + 1, b, _, y, cells, upd_same, by rw [upd_ne ne, upd_ne ne]; exact hc, ne, by omega⟩, _, rfl⟩
        · exact hN _ _ ⟨hh.g, hh, _, rfl⟩
      · exact hN _ _ ⟨hh.g, hh, _, rfl⟩
/- slots of Lgreat: 0:_law_hand_here 1:_law_most 2:_law_found 3:_law_turn; level 2 -/
def sp_Lgreat (T : Txt K mg) : Sp := fun vs H Q _ => ∃ (a c : Addr) (n : Int), vs = [.ref a, .int n] ∧ HandAt H a c ∧ 1 ≤ n ∧ ∀ k H', Grow a H H' → HandAt H' a c → 1 ≤ k → k ≤ n → Q (.int k) H'
theorem ok_Lgreat (T : Txt K mg) : FnOk P w K mg base CX0 2 T.Lgreat.f T.Lgreat.d ["_law_hand_here", "_law_most"] (sp_Lgreat T) := by
  have nd := sc_Lgreat.nd
  refine T.Lgreat.F.ok sc_Lgreat (fun vs H Q E h => ?_) (fun cdv A outer s H vs Q E hr h => ?_)
  · obtain ⟨a, c, n, rfl, _⟩ := h; rfl
  · obtain ⟨a, c, n, rfl, hh, hn, q⟩ := h
    refine ⟨_, (pss_cons (ps_set (i := 2) nd rfl (Or.inl rfl) pe_int)
      (pss_cons (ps_for PassesOwn.never rfl (pi_range1 (by rfl) T.n_range (pa_cons pe_int pa_nil)) (pg_name (i := 3) nd rfl (Or.inl rfl))
      (pss_one (ps_set (i := 2) nd rfl (Or.inl rfl) (pe_op op_add (pe_op op_mul (pv 2) (pe_op op_pow pe_int pe_int)) (pe_call (ok_Ldraw T) (hr.mono (by decide)) (by rfl) T.Ldraw.m T.Ldraw.F.kp T.Ldraw.b .nil pass0 (pa_cons (pv 0) (pa_cons (pe_op op_pow pe_int pe_int) pa_nil)))))))
      (pss_one (ps_ret (pe_op op_add pe_int (pe_op op_mod (pe_callTy call_int1 (by rfl) T.n_int (by decide +kernel) (pa_cons (pv 2) pa_nil)) (pv 1))))))), ?_⟩
    refine ⟨_, rfl, (by decide), (by decide), for_range (fun i σ H' => Grow a H H' ∧ HandAt H' a c ∧ ∃ z t, σ = [some (.ref a), some (.int n), some (.int z), t]) ⟨hh.g, hh, _, _, rfl⟩ ?_ ?_⟩
    · rintro i σ H1 hi ⟨g1, h1, z, t, rfl⟩
      refine ⟨_, rfl, _, _, rfl, rfl, ⟨by decide, by decide, by decide⟩, _, _, rfl, rfl, .inr ⟨by decide, by decide⟩, _, rfl, _, _, rfl, rfl, ⟨by decide, by decide, by decide⟩, a, c, _, rfl, h1, ⟨by decide, by decide⟩, fun k H2 g2 h2 k1 k2 => ⟨_, _, rfl, rfl, ?_⟩⟩
      exact ⟨g1.trans g2, h2, _, _, rfl⟩
    · rintro σ H1 ⟨g1, h1, z, t, rfl⟩
      refine ⟨_, rfl, .inl ⟨_, rfl, _, rfl, _, _, rfl, rfl, (show (0 : Int) < n by omega), _, _, rfl, rfl, ?_⟩⟩
      have b1 := Int.emod_nonneg z (show n ≠ 0 by omega)
      have b2 := Int.emod_lt_of_pos z (show 0 < n by omega)
      exact q _ _ g1 h1 (by omega) (by omega)
/- slots of Lis_int: 0:_law_thing 1:_law_least 2:_law_most; level 1 -/
def sp_Lis_int (T : Txt K mg) : Sp := fun vs H Q _ => ∃ v d lo hi, vs = [v, .int lo, .int hi] ∧ DAt T.a_House H v d ∧ Q (.bl (within lo hi d)) H
theorem ok_Lis_int (T : Txt K mg) : FnOk P w K mg base CX0 1 T.Lis_int.f T.Lis_int.d ["_law_thing", "_law_least", "_law_most"] (sp_Lis_int T) := by
  have nd := sc_Lis_int.nd
  refine T.Lis_int.F.ok sc_Lis_int (fun vs H Q E h => ?_) (fun cdv A outer s H vs Q E hr h => ?_)
  · obtain ⟨v, d, lo, hi, rfl, _⟩ := h; rfl
  · obtain ⟨v, d, lo, hi, rfl, hd, q⟩ := h
    refine ⟨_, (pss_one (ps_ret (pe_and (pe_callB (call_isiK1 (K := K) rfl) (by rfl) T.n_isinstance (by decide +kernel) (pa_cons (pv 0) (pa_cons (pe_bltn (v := V.ty "int") (by rfl) T.n_int (by decide +kernel) rfl) pa_nil))) (pe_and (pe_not (pe_callB (call_isiK1 (K := K) rfl) (by rfl) T.n_isinstance (by decide +kernel) (pa_cons (pv 0) (pa_cons (pe_bltn (v := V.ty "bool") (by rfl) T.n_bool (by decide +kernel) rfl) pa_nil)))) (pe_one (pe_chain op_le op_le (pv 1) (pv 0) (pv 2))))))), ?_⟩
    obtain ⟨t, ty, bi, bb, bt, k1, k2, k3, e1, e2⟩ := hd.ty T
    refine ⟨_, rfl, _, _, _, _, bi, rfl, .ty _, ty, k1, bi, rfl, iteB (fun h => ?_) fun h => ?_⟩
    · refine ⟨_, rfl, _, _, _, _, bb, rfl, .ty _, ty, k2, _, rfl, _, rfl, ?_⟩
      subst h
      rw [Bool.true_and] at e1
      rw [e1]
      cases d with
      | int i =>
        cases hd
        refine iteT ⟨_, rfl, _, rfl, lo, i, rfl, rfl, _, rfl, iteB (fun h => ?_) fun h => ?_⟩
        · refine ⟨_, rfl, i, hi, rfl, rfl, ?_⟩
          have h := of_decide_eq_true h
          have e : within lo hi (.int i) = decide (i ≤ hi) := by
            show decide (lo ≤ i ∧ i ≤ hi) = _
            by_cases h2 : i ≤ hi
            · rw [decide_eq_true h2, decide_eq_true ⟨h, h2⟩]
            · rw [decide_eq_false h2, decide_eq_false fun z => h2 z.2]
          rw [e] at q
          exact q
        · have h := of_decide_eq_false h
          have e : within lo hi (.int i) = false := decide_eq_false fun z => h z.1
          rw [e] at q
          exact q
      | bad => exact iteF q
      | tup ds => exact iteF q
    · subst h
      rw [Bool.false_and] at e1
      have e : within lo hi d = false := by
        cases d with
        | int i => cases e1
        | bad => rfl
        | tup ds => rfl
      rw [e] at q
      exact q
/- slots of Lflag: 0:_law_told 1:_law_due_here; level 1 -/
def sp_Lflag (T : Txt K mg) : Sp := fun vs H Q _ => ∃ b, vs = [.bl b, .bl b] ∧ Q (.bl true) H
theorem ok_Lflag (T : Txt K mg) : FnOk P w K mg base CX0 1 T.Lflag.f T.Lflag.d ["_law_told", "_law_due_here"] (sp_Lflag T) := by
  have nd := sc_Lflag.nd
  refine T.Lflag.F.ok sc_Lflag (fun vs H Q E h => ?_) (fun cdv A outer s H vs Q E hr h => ?_)
  · obtain ⟨b, rfl, _⟩ := h; rfl
  · obtain ⟨b, rfl, q⟩ := h
    refine ⟨_, (pss_one (ps_ret (pe_and (pe_callB (call_isiK1 (K := K) rfl) (by rfl) T.n_isinstance (by decide +kernel) (pa_cons (pv 0) (pa_cons (pe_bltn (v := V.ty "bool") (by rfl) T.n_bool (by decide +kernel) rfl) pa_nil))) (pe_one (pe_cmpR op_eq (pv 0) (pv 1) (nomark _)))))), ?_⟩
    have ty : TyX K H (.bl b) (.type "bool") := .base (.bl b)
    refine ⟨_, rfl, _, _, _, _, true, rfl, .ty _, ty, kit_ty (by decide +kernel), true, rfl, iteT ⟨_, rfl, _, rfl, rfl, ?_⟩⟩
    rw [decide_eq_true rfl]
    exact q
end
end Wl

/-! W6b: the law's own defs, second part: its own moves and its own answer. -/
namespace Wl
open PySem PySem.Spec PyProof.Rows L2
/-- ((stand, want), many) -/
def E3 (H : Hp) (v : V) (g : G) : Prop := ∃ p q, v = .ref p ∧ H p = some (.tup [.ref q, .int g.2.2]) ∧ H q = some (.tup [.int g.1, .int g.2.1])
theorem E3.mono {H H' : Hp} {v : V} {g : G} (h : E3 H v g) (w : Wk H H') : E3 H' v g := let ⟨p, q, e, h1, h2⟩ := h; ⟨p, q, e, w.tup h1, w.tup h2⟩
theorem e3_list {K : PySem.W.Frag} {H : Hp} : ∀ {out : List V} {gs : List G}, Paired (E3 H) out gs → ∃ (ps : List Addr) (es : List (List L2.Key × Addr × V)), out = ps.map V.ref ∧ es.map (fun e => (e.1, e.2.2)) = gs.map (fun g => (kk (g.1, g.2.1), V.int g.2.2)) ∧
    Paired (fun (p : Addr) (e : List L2.Key × Addr × V) => SqT K H p [.ref e.2.1, e.2.2] ∧ H e.2.1 = some (.tup (e.1.map kV))) ps es
  | _, _, .nil => ⟨[], [], rfl, rfl, .nil⟩
  | _, g :: gs, .cons ⟨p, q, e, h1, h2⟩ t => by
    obtain ⟨ps, es, e1, e2, e3⟩ := e3_list (K := K) t
    subst e
    refine ⟨p :: ps, (kk (g.1, g.2.1), q, V.int g.2.2) :: es, by rw [e1]; rfl, by rw [List.map_cons, e2]; rfl, .cons ⟨SqT.of h1, h2⟩ e3⟩
theorem merge_rep : ∀ (gs : List G) (d : KD), mergeT (rep d) (gs.map fun g => (kk (g.1, g.2.1), V.int g.2.2)) = rep (gs.foldl (fun d g => kput d (g.1, g.2.1) g.2.2) d)
  | [], _ => rfl
  | g :: gs, d => by
    rw [List.map_cons, List.foldl_cons, ← merge_rep gs, ← rep_put]; rfl
theorem merge_kd0 (gs : List G) : mergeT [] (gs.map fun g => (kk (g.1, g.2.1), V.int g.2.2)) = rep (kd0 gs) := merge_rep gs []
theorem p_list {K : PySem.W.Frag} {H : Hp} : ∀ {out : List V} {hs : List (Int × Int)}, Paired (PAt H) out hs → ∃ (ps : List Addr), out = ps.map V.ref ∧
    Paired (fun (p : Addr) (kv : L2.Key × V) => SqT K H p [kV kv.1, kv.2]) ps (hs.map fun p => ((Sum.inl p.1 : L2.Key), V.int p.2))
  | _, _, .nil => ⟨[], rfl, .nil⟩
  | _, h :: hs, .cons ⟨p, e, h1⟩ t => by
    obtain ⟨ps, e1, e3⟩ := p_list (K := K) t
    subst e
    exact ⟨p :: ps, by rw [e1]; rfl, .cons (SqT.of h1) e3⟩
theorem merge_last : ∀ (hs : List (Int × Int)) (acc : List (L2.Key × V)) (w : Int), valV (mergeK acc (hs.map fun p => ((Sum.inl p.1 : L2.Key), V.int p.2))) (Sum.inl w) = match lastOf hs w with
    | some v => some (V.int v)
    | none => valV acc (Sum.inl w)
  | [], _, _ => rfl
  | p :: hs, acc, w => by
    rw [List.map_cons]
    show valV (mergeK (putK acc (Sum.inl p.1) (V.int p.2)) _) (Sum.inl w) = _
    rw [merge_last hs]
    show _ = match (match lastOf hs w with | some v => some v | none => if p.1 = w then some p.2 else none) with | some v => some (V.int v) | none => valV acc (Sum.inl w)
    cases lastOf hs w with
    | some v => rfl
    | none =>
      show valV (putK acc (Sum.inl p.1) (V.int p.2)) (Sum.inl w) = match (if p.1 = w then some p.2 else none) with | some v => some (V.int v) | none => valV acc (Sum.inl w)
      rw [valV_put]
      by_cases h : p.1 = w
      · subst h
        rw [if_pos rfl, if_pos rfl]
      · have h' : ¬ (Sum.inl w : L2.Key) = Sum.inl p.1 := fun q => h (Sum.inl.inj q).symm
        rw [if_neg h, if_neg h']
theorem merge_here (hs : List (Int × Int)) (w : Int) : valV (mergeK [] (hs.map fun p => ((Sum.inl p.1 : L2.Key), V.int p.2))) (Sum.inl w) = (lastOf hs w).map V.int := by
  rw [merge_last]
  cases lastOf hs w <;> rfl
section
variable {P : Program} {w : World} {K : PySem.W.Frag} {mg : Str → Option Value} {base : Heap}
/- slots of Lhere: 0:_law_state 1:_law_stand 2:_law_want 3:_law_many; level 1 -/
def sp_Lhere (T : Txt K mg) : Sp := fun vs H Q _ => ∃ (sv : V) (l : Int) (gs : List G), vs = [sv] ∧ StAt H sv l gs ∧ gs.length ≤ 2000 ∧ ∀ p H' xs, H p = none → Same H H' → H' p = some (.lst xs) → Paired (PAt H') xs (hereL gs l) → Q (.ref p) H'
theorem ok_Lhere (T : Txt K mg) : FnOk P w K mg base CX0 1 T.Lhere.f T.Lhere.d ["_law_state"] (sp_Lhere T) := by
  have nd := sc_Lhere.nd
  refine T.Lhere.F.ok sc_Lhere (fun vs H Q E h => ?_) (fun cdv A outer s H vs Q E hr h => ?_)
  · obtain ⟨sv, l, gs, rfl, _⟩ := h; rfl
  · obtain ⟨sv, l, gs, rfl, ⟨g, ⟨ps, rfl, hps⟩, xs, ⟨a, rfl, ha⟩, hg⟩, hl, q⟩ := h
    refine ⟨_, (pss_one (ps_ret (pe_lc (own := [("_law_stand", 1), ("_law_want", 2), ("_law_many", 3)]) (g := (gTup K 3 (gCons (gName 1) (gCons (gName 2) (gCons (gName 3) gNil))))) rfl nd (pi_tupK (K := K) rfl (pe_ix (ix_tupK (K := K) rfl) (pv 0) pe_int (fun _ _ => rfl))) (blkOk_by (own := [("_law_stand", 1), ("_law_want", 2), ("_law_many", 3)]) (N := n_Lhere) (sc := defScope s_Lhere) (by decide +kernel)) (fun _ _ _ _ _ => (pg_tupK (K := K) rfl rfl (pgs_cons (pg_name (i := 1) nd rfl (Or.inl rfl)) (pgs_cons (pg_name (i := 2) nd rfl (Or.inl rfl)) (pgs_cons (pg_name (i := 3) nd rfl (Or.inl rfl)) pgs_nil))))) (fun _ _ _ _ _ => pts_one (pt_cmpR op_eq (pv 1) (pe_ix (ix_tupK (K := K) rfl) (pv 0) pe_int (fun _ _ => rfl)) (nomark _))) (fun _ _ _ _ _ => (pe_tup (pa_cons (pv 2) (pa_cons (pv 3) pa_nil))))))), ?_⟩
    refine ⟨_, rfl, _, _, _, _, rfl, rfl, SqT.of hps, at_of (j := 1) rfl rfl, a, rfl, ⟨_, SqT.of ha⟩, fun D nD => lc_tupG (F := GAt) (E := PAt) (fun g => if g.1 = l then some g.2 else none) nD ha hg (by omega) (fun h w => h.mono w) (fun h w => h.mono w) (fun x b H' R R0 hb fx s1 kR k0 => ?_) (fun H1 out s1 hO pO => q D H1 out nD s1 hO (by rw [hereL_fm] at pO; exact pO))⟩
    obtain ⟨pb, rfl, hpb⟩ := fx
    refine ⟨_, _, rfl, SqT.of hpb, rfl, _, _, rfl, _, _, rfl, _, _, rfl, rfl, rfl, _, rfl, _, rfl, _, _, _, _, rfl, rfl, SqT.of (s1 _ _ hps), at_of (j := 0) rfl rfl, rfl, _, rfl, iteB (fun h => ?_) fun h => ?_⟩
    · exact ⟨_, rfl, _, rfl, small_le (by show 2 ≤ 100000; decide), fun p np => kR _ b.2 _ (Same.new np) (if_pos (eq_t h)) ⟨p, rfl, upd_same⟩⟩
    · exact k0 _ (Same.refl _) (if_neg (eq_f h))
/- slots of Lmade: 0:_law_state 1:_law_move_here 2:_law_lift 3:_law_groups 4:_law_want 5:_law_many 6:_law_known 7:_law_rows 8:_law_pair 9:_law_stand; level 1 -/
def sp_Lmade (T : Txt K mg) : Sp := fun vs H Q _ => ∃ (sv v : V) (l f : Int) (gs : List G) (m : Mv), vs = [sv, v] ∧ StAt H sv l gs ∧ GOk f gs ∧ f ≤ 40 ∧ MvAt H v m ∧ m.2.length ≤ 10000 ∧ Has l gs m.2 ∧ (0 ≤ l + m.1 ∧ l + m.1 < f) ∧ ∀ v' H', Same H H' → StAt H' v' (l + m.1) (made l m.1 gs m.2) → Q v' H'
theorem ok_Lmade (T : Txt K mg) : FnOk P w K mg base CX0 1 T.Lmade.f T.Lmade.d ["_law_state", "_law_move_here"] (sp_Lmade T) := by
  have nd := sc_Lmade.nd
  refine T.Lmade.F.ok sc_Lmade (fun vs H Q E h => ?_) (fun cdv A outer s H vs Q E hr h => ?_)
  · obtain ⟨sv, v, l, f, gs, m, rfl, _⟩ := h; rfl
  · obtain ⟨sv, v, l, f, gs, m, rfl, ⟨g, ⟨pst, rfl, hpst⟩, gxs, ⟨ga, rfl, hga⟩, hg⟩, gk, hf, ⟨av, ⟨pmv, rfl, hpv⟩, xs, ⟨pa, rfl, hpa⟩, hps⟩, ml, has, ht, q⟩ := h
    refine ⟨_, (pss_cons (ps_asg (pv 0) (pg_tupK (K := K) rfl rfl (pgs_cons (pg_name (i := 2) nd rfl (Or.inl rfl)) (pgs_cons (pg_name (i := 3) nd rfl (Or.inl rfl)) pgs_nil))))
      (pss_cons (ps_set (i := 6) nd rfl (Or.inr rfl) (pe_callTy (call_dictTK (K := K) rfl rfl hr.units) (by rfl) T.n_dict (by decide +kernel) (pa_cons (pe_lc (own := [("_law_stand", 9), ("_law_want", 4), ("_law_many", 5)]) (g := (gTup K 3 (gCons (gName 9) (gCons (gName 4) (gCons (gName 5) gNil))))) (tt := tYes) rfl nd (pi_tupK (K := K) rfl (pv 3)) (blkOk_by (own := [("_law_stand", 9), ("_law_want", 4), ("_law_many", 5)]) (N := n_Lmade) (sc := defScope s_Lmade) (by decide +kernel)) (fun _ _ _ _ _ => (pg_tupK (K := K) rfl rfl (pgs_cons (pg_name (i := 9) nd rfl (Or.inl rfl)) (pgs_cons (pg_name (i := 4) nd rfl (Or.inl rfl)) (pgs_cons (pg_name (i := 5) nd rfl (Or.inl rfl)) pgs_nil))))) (fun _ _ _ _ _ => pts_nil) (fun _ _ _ _ _ => (pe_tup (pa_cons (pe_tup (pa_cons (pv 9) (pa_cons (pv 4) pa_nil))) (pa_cons (pv 5) pa_nil))))) pa_nil)))
      (pss_cons (ps_for PassesOwn.never rfl (pi_tupK (K := K) rfl (pe_ix (ix_tupK (K := K) rfl) (pv 1) pe_int (fun _ _ => rfl))) (pg_tupK (K := K) rfl rfl (pgs_cons (pg_name (i := 4) nd rfl (Or.inl rfl)) (pgs_cons (pg_name (i := 5) nd rfl (Or.inl rfl)) pgs_nil)))
      (pss_cons (ps_dput (hu_of hr) (pv 6) (pe_tup (pa_cons (pv 2) (pa_cons (pv 4) pa_nil))) (pe_op op_sub (pe_dget (hu_of hr) (pv 6) (pe_tup (pa_cons (pv 2) (pa_cons (pv 4) pa_nil))) (fun _ _ => rfl)) (pv 5)) rfl)
      (pss_one (ps_dput (hu_of hr) (pv 6) (pe_tup (pa_cons (pe_op op_add (pv 2) (pe_ix (ix_tupK (K := K) rfl) (pv 1) pe_int (fun _ _ => rfl))) (pa_cons (pv 4) pa_nil))) (pe_op op_add (pe_dget2 (hu_of hr) (pv 6) (pe_tup (pa_cons (pe_op op_add (pv 2) (pe_ix (ix_tupK (K := K) rfl) (pv 1) pe_int (fun _ _ => rfl))) (pa_cons (pv 4) pa_nil))) pe_int ⟨rfl, rfl, rfl, rfl⟩) (pv 5)) rfl))))
      (pss_cons (ps_lock (ps_setLc (i := 7) (own := [("_law_pair", 8)]) (g := (gName 8)) rfl nd rfl rfl (sw_true rfl rfl rfl (by decide +kernel)) (pi_keys (pv 6)) (blkOk_by (own := [("_law_pair", 8)]) (N := n_Lmade) (sc := defScope s_Lmade) (by decide +kernel)) (fun _ _ _ _ _ => (pg_name (i := 8) nd rfl (Or.inl rfl))) (fun _ _ _ _ _ => pts_one (pt_cmpR op_gt (pe_dget (hu_of hr) (pv 6) (pv 8) (fun _ _ => rfl)) pe_int (nomark _))) (fun _ _ _ _ _ => (pe_op op_catU (pv 8) (pe_tup (pa_cons (pe_dget (hu_of hr) (pv 6) (pv 8) (fun _ _ => rfl)) pa_nil))))))
      (pss_one (ps_ret (pe_tup (pa_cons (pe_op op_add (pv 2) (pe_ix (ix_tupK (K := K) rfl) (pv 1) pe_int (fun _ _ => rfl))) (pa_cons (pe_callTy (call_tupleK (K := K) rfl) (by rfl) T.n_tuple (by decide +kernel) (pa_cons (pe_callB (cr_sorted3 (K := K) rfl hr.units) (by rfl) T.n_sorted (by decide +kernel) (pa_cons (pv 7) pa_nil)) pa_nil)) pa_nil))))))))), ?_⟩
    have gl := gk.len hf
    have xl : xs.length = m.2.length := Paired.length hps
    refine ⟨_, rfl, _, _, rfl, SqT.of hpst, rfl, _, _, rfl, _, _, rfl, rfl, ?_⟩
    refine ⟨_, rfl, ga, rfl, ⟨_, SqT.of hga⟩, fun D nD => lc_tupG (F := GAt) (E := E3) some nD hga hg (by omega) (fun h w => h.mono w) (fun h w => h.mono w) (fun x b H' R R0 hb fx s1 kR k0 => ?_) (fun H1 out s1 hO pO => ?_)⟩
    · obtain ⟨pb, rfl, hpb⟩ := fx
      refine ⟨_, _, rfl, SqT.of hpb, rfl, _, _, rfl, _, _, rfl, _, _, rfl, rfl, rfl, yesI ⟨_, rfl, _, rfl, small_le (by show 2 ≤ 100000; decide), fun p np => ⟨_, rfl, small_le (by show 2 ≤ 100000; decide), fun p2 np2 => ?_⟩⟩⟩
      exact kR _ b _ ((Same.new np).add np2) rfl ⟨p2, p, rfl, upd_same, Same.new np2 _ _ upd_same⟩
    · rw [List.filterMap_some] at pO
      obtain ⟨ps, es, eo, ee, pe⟩ := e3_list (K := K) pO
      refine ⟨D, ps, es, rfl, SqL.of (by rw [hO, eo]), pe, fun dA nA' => ?_⟩
      rw [ee, merge_kd0]
      have nA : H dA = none := by
        cases e : H dA with
        | none => rfl
        | some o => rw [s1 _ _ e] at nA'; cases nA'
      have sA : Same H (upd H1 dA (.dT (rep (kd0 gs)))) := s1.add nA'
      have base0 : KOk f (kd0 gs) := gk.k
      have hasK : HasK l (kd0 gs) m.2 := has.k
      have kok : ∀ i, KOk f ((m.2.take i).foldl (kstep l (l + m.1)) (kd0 gs)) := fun i => ksteps_ok ht _ _ base0 (has_sub hasK fun q hq => List.mem_of_mem_take hq)
      have khas : ∀ i, HasK l ((m.2.take i).foldl (kstep l (l + m.1)) (kd0 gs)) m.2 := fun i => ksteps_has _ _ hasK
      refine ⟨_, rfl, _, _, _, _, rfl, rfl, SqT.of (sA _ _ hpv), at_of (j := 1) rfl rfl, pa, rfl, ⟨_, SqT.of (sA _ _ hpa)⟩, for_tup (K := K) (a := pa) (xs := xs) (fun i σ H' => Same H H' ∧ (∃ z1 z2, σ = [some (.ref pst), some (.ref pmv), some (.int l), some (.ref ga), z1, z2, some (.ref dA), none, none, none]) ∧ H' dA = some (.dT (rep ((m.2.take i).foldl (kstep l (l + m.1)) (kd0 gs))))) ⟨sA, ⟨_, _, rfl⟩, upd_same⟩ (fun i σ H' _ h => SqT.of (h.1 _ _ hpa)) ?_ ?_⟩
      · rintro i x σ H' hx ⟨s2, ⟨z1, z2, rfl⟩, hO⟩
        obtain ⟨b, hb, fb⟩ := paired_at hps hx
        have hbm := List.mem_of_getElem? hb
        obtain ⟨px, rfl, hpx⟩ := id (TupAt.mono fb s2.wk)
        obtain ⟨v0, e0⟩ := Option.isSome_iff_exists.mp (khas i b hbm)
        have k0 := kok i
        have k1 := k0.put (v0 - b.2) (klook_dom k0 e0)
        have hv2 := s2 _ _ hpv
        rw [fold_snoc hb, kstep_some e0]
        refine ⟨_, _, rfl, SqT.of hpx, rfl, _, _, rfl, _, _, rfl, rfl, ?_⟩
        refine ⟨_, rfl, _, rfl, _, rfl, small_le (by show 2 ≤ 100000; decide), fun q1 nq1 => ⟨dA, _, rfl, dget_some (k := (l, b.1)) (.inl (Same.new nq1 _ _ hO)) upd_same e0, _, rfl, _, _, rfl, rfl, ?_⟩⟩
        refine ⟨_, rfl, _, rfl, _, rfl, small_le (by show 2 ≤ 100000; decide), fun q2 nq2 => ⟨dA, _, rfl, dput_rep (k := (l, b.1)) (v := v0 - b.2) (((Same.new nq1).add nq2) _ _ hO) upd_same (Nat.le_trans (k0.len hf) (by decide)), ?_⟩⟩
        have s3 : Same H (upd (upd H' q1 (.tup [.int l, .int b.1])) q2 (.tup [.int l, .int b.1])) := (s2.add nq1).add nq2
        have s4 := s3.mut (p := dA) (o := .dT (rep (kput ((m.2.take i).foldl (kstep l (l + m.1)) (kd0 gs)) (l, b.1) (v0 - b.2)))) nA
        have hv4 := s4 _ _ hpv
        refine ⟨_, rfl, dA, rfl, .inr ⟨_, .inl upd_same⟩, _, rfl, _, rfl, _, _, _, _, rfl, rfl, SqT.of hv4, at_of (j := 0) rfl rfl, _, _, rfl, rfl, _, rfl, small_le (by show 2 ≤ 100000; decide), fun q3 nq3 => ⟨_, dget_rep (k := (l + m.1, b.1)) (.inl (Same.new nq3 _ _ upd_same)) upd_same, _, rfl, _, _, getD_int _, rfl, ?_⟩⟩
        refine ⟨_, rfl, _, rfl, _, rfl, _, _, _, _, rfl, rfl, SqT.of (Same.new nq3 _ _ hv4), at_of (j := 0) rfl rfl, _, _, rfl, rfl, _, rfl, small_le (by show 2 ≤ 100000; decide), fun q4 nq4 => ⟨dA, _, rfl, dput_rep (k := (l + m.1, b.1)) (((Same.new nq3).add nq4) _ _ upd_same) upd_same (Nat.le_trans (k1.len hf) (by decide)), ?_⟩⟩
        exact ⟨((s4.add nq3).add nq4).mut nA, ⟨_, _, rfl⟩, upd_same⟩
      · rintro σ H' ⟨s2, ⟨z1, z2, rfl⟩, hO⟩
        rw [xl, List.take_length] at hO
        have kf : KOk f (m.2.foldl (kstep l (l + m.1)) (kd0 gs)) := ksteps_ok ht _ _ base0 hasK
        have kl := kf.len hf
        have em : made l m.1 gs m.2 = sort3 (rowsOf (m.2.foldl (kstep l (l + m.1)) (kd0 gs))) := rfl
        rw [em] at q
        have hv2 := s2 _ _ hpv
        revert hO kf kl q
        generalize m.2.foldl (kstep l (l + m.1)) (kd0 gs) = kd
        intro q hO kf kl
        refine ⟨dA, _, hO, trivial, fun od => ⟨_, rfl, dA, od, rfl, .inr ⟨rep kd, upd_same, fun D nD => lc_keysG (E := GAt) (fun e => if 0 < e.2 then some ((e.1.1, e.1.2, e.2) : G) else none) nD upd_same (by omega) (fun h w => h.mono w) (fun x b H' R R0 hb hq s1 kR k0 => ?_) (fun H1 out s1 hO2 pO => ?_)⟩⟩⟩
        · have lk := klook_of_mem kf.nd hb
          have f1 : H' dA = some (.frz od (.dT (rep kd))) := s1 _ _ upd_same
          refine ⟨rfl, _, rfl, _, rfl, dA, _, rfl, dget_some (.inr ⟨od, f1⟩) hq lk, _, _, rfl, rfl, _, rfl, iteB (fun h => ?_) fun h => ?_⟩
          · refine ⟨_, rfl, _, rfl, _, rfl, dA, _, rfl, dget_some (.inr ⟨od, f1⟩) hq lk, small_le (by show 1 ≤ 100000; decide), fun p np => ⟨x, p, _, _, rfl, rfl, Same.new np _ _ hq, upd_same, (by show 2 + 1 ≤ 100000; decide), fun p2 H2 s2 hp2 => kR _ (b.1.1, b.1.2, b.2) _ ((Same.new np).trans s2) (if_pos (of_decide_eq_true h)) ⟨p2, rfl, hp2⟩⟩⟩
          · exact k0 _ (Same.refl _) (if_neg (of_decide_eq_false h))
        · rw [rowsOf_fm] at pO
          have hf : H1 dA = some (.frz od (.dT (rep kd))) := s1 _ _ upd_same
          have sU := unlock_same hO s1
          have nDd : D ≠ dA := fun z => by subst z; rw [upd_same] at nD; cases nD
          refine ⟨hf, _, rfl, _, rfl, _, _, _, _, rfl, rfl, SqT.of (sU _ _ hv2), at_of (j := 0) rfl rfl, _, _, rfl, rfl, _, rfl, D, out, _, rfl, SqL.of (by rw [upd_ne nDd]; exact hO2), unfrz hf pO, fun p1 ys n1 py => ⟨p1, ys, rfl, .inl ⟨SqL.of upd_same, fun p2 n2 => ⟨small_le (by show 2 ≤ 100000; decide), fun p3 n3 => ?_⟩⟩⟩⟩
          have s3 : Same (upd H1 dA (.dT (rep kd))) (upd (upd (upd (upd H1 dA (.dT (rep kd))) p1 (.lst ys)) p2 (.tup ys)) p3 (.tup [.int (l + m.1), .ref p2])) := ((Same.new n1).add n2).add n3
          exact q _ _ ((s2.trans sU).trans s3) ⟨.ref p2, ⟨p3, rfl, upd_same⟩, ys, ⟨p2, rfl, Same.new n3 _ _ upd_same⟩, pmap py fun _ _ z => z.mono s3.wk⟩
end
end Wl

/-! W6c: the law's own defs, third part: is it a move, is it due. -/
namespace Wl
open PySem PySem.Spec PyProof.Rows L2
theorem asc_next : ∀ {ab : List (Int × Int)} {i : Nat} {p q : Int × Int}, ascB ab = true → ab[i]? = some q → ab[i + 1]? = some p → q.1 < p.1
  | [], i, p, q, _, h, _ => by simp at h
  | [x], i, p, q, _, _, h => by simp at h
  | x :: y :: r, 0, p, q, h, h1, h2 => by
    simp at h1 h2
    subst h1 h2
    have h : (decide (x.1 < y.1) && ascB (y :: r)) = true := h
    rw [Bool.and_eq_true] at h
    exact of_decide_eq_true h.1
  | x :: y :: r, i + 1, p, q, h, h1, h2 => by
    have h : (decide (x.1 < y.1) && ascB (y :: r)) = true := h
    rw [Bool.and_eq_true] at h
    exact asc_next (ab := y :: r) (i := i) h.2 (by simpa using h1) (by simpa using h2)
theorem asc_of_next : ∀ {ab : List (Int × Int)}, (∀ i p q, ab[i]? = some q → ab[i + 1]? = some p → q.1 < p.1) → ascB ab = true
  | [], _ => rfl
  | [x], _ => rfl
  | x :: y :: r, h => by
    show (decide (x.1 < y.1) && ascB (y :: r)) = true
    rw [Bool.and_eq_true]
    exact ⟨decide_eq_true (h 0 y x rfl rfl), asc_of_next fun i p q h1 h2 => h (i + 1) p q (by simpa using h1) (by simpa using h2)⟩
theorem pD_inj {p q : Int × Int} (h : pD p = pD q) : p = q := by
  unfold pD at h
  injection h with h
  injection h with h1 h2
  injection h2 with h2 _
  injection h1 with h1
  injection h2 with h2
  exact Prod.ext h1 h2
theorem pairOf_pD {p : Int × Int} (h : 0 ≤ p.1 ∧ 1 ≤ p.2) : pairOf (pD p) = some p := by
  show (if 0 ≤ p.1 ∧ 1 ≤ p.2 then some (p.1, p.2) else none) = _
  rw [if_pos h]
theorem ab_bad {ds : List D} {i : Nat} {p q : Int × Int} (h1 : ds[i]? = some (pD q)) (h2 : ds[i + 1]? = some (pD p)) (h : ¬ q.1 < p.1) : (abOf (.tup ds)).isSome = false := by
  cases e : abOf (.tup ds) with
  | none => rfl
  | some ab =>
    obtain ⟨ed, hb⟩ := abOf_some e
    injection ed with ed
    rw [ed, List.getElem?_map] at h1 h2
    cases e1 : ab[i]? with
    | none => rw [e1] at h1; cases h1
    | some x =>
      cases e2 : ab[i + 1]? with
      | none => rw [e2] at h2; cases h2
      | some y =>
        rw [e1] at h1
        rw [e2] at h2
        have hx := pD_inj (Option.some.inj h1)
        have hy := pD_inj (Option.some.inj h2)
        subst hx hy
        exact absurd (asc_next hb.2 e1 e2) h
theorem ab_good {ds : List D} (h : ∀ j, j < ds.length → ∃ p, ds[j]? = some (pD p) ∧ (0 ≤ p.1 ∧ 1 ≤ p.2) ∧ ∀ i q, i + 1 = j → ds[i]? = some (pD q) → q.1 < p.1) : (abOf (.tup ds)).isSome = true := by
  obtain ⟨ps, hps⟩ := pairsOf_all (ds := ds) fun d hd => by
    obtain ⟨j, hj, e⟩ := List.mem_iff_getElem.mp hd
    obtain ⟨p, e1, hp, _⟩ := h j hj
    rw [List.getElem?_eq_getElem hj, e] at e1
    rw [Option.some.inj e1, pairOf_pD hp]; rfl
  obtain ⟨ed, hb⟩ := pairsOf_some hps
  rw [abOf_asc hps]
  refine asc_of_next fun i p q h1 h2 => ?_
  have hi : i + 1 < ps.length := (List.getElem?_eq_some_iff.mp h2).1
  obtain ⟨p', e1, hp, hn⟩ := h (i + 1) (by rw [ed, List.length_map]; exact hi)
  rw [ed, List.getElem?_map, h2] at e1
  have e2 := pD_inj (Option.some.inj e1)
  subst e2
  exact hn i q rfl (by rw [ed, List.getElem?_map, h1]; rfl)
theorem wayB_f {d : D} (h : within (-1) 1 d = false) : wayB d = false := by
  cases d with
  | int i =>
    have h := of_decide_eq_false h
    exact decide_eq_false fun z => h (by omega)
  | bad => rfl
  | tup ds => rfl
theorem within_int {lo hi : Int} {d : D} (h : within lo hi d = true) : ∃ i, d = .int i ∧ lo ≤ i ∧ i ≤ hi := by
  cases d with
  | int i => exact ⟨i, rfl, of_decide_eq_true h⟩
  | bad => cases h
  | tup ds => cases h
theorem ten40 : (10 : Int) ^ ((40 : Int).toNat) = 10000000000000000000000000000000000000000 := by decide +kernel
theorem within_bad0 {d0 d1 : D} (h : within 0 ((10 : Int) ^ ((40 : Int).toNat)) d0 = false) (ok : dOk d0) : pairOf (.tup [d0, d1]) = none := by
  cases d0 with
  | int i =>
    have h := of_decide_eq_false h
    rw [ten40] at h
    have ok : i ≤ 10000000000000000000000000000000000000000 := ok
    cases d1 with
    | int j =>
      show (if 0 ≤ i ∧ 1 ≤ j then some (i, j) else none) = none
      rw [if_neg (by omega)]
    | bad => rfl
    | tup ds => rfl
  | bad => rfl
  | tup ds => rfl
theorem within_bad1 {i : Int} {d1 : D} (h : within 1 ((10 : Int) ^ ((40 : Int).toNat)) d1 = false) (ok : dOk d1) : pairOf (.tup [.int i, d1]) = none := by
  cases d1 with
  | int j =>
    have h := of_decide_eq_false h
    rw [ten40] at h
    have ok : j ≤ 10000000000000000000000000000000000000000 := ok
    show (if 0 ≤ i ∧ 1 ≤ j then some (i, j) else none) = none
    rw [if_neg (by omega)]
  | bad => rfl
  | tup ds => rfl
section
variable {P : Program} {w : World} {K : PySem.W.Frag} {mg : Str → Option Value} {base : Heap}
/- slots of Lis_built: 0:_law_thing 1:_law_k 2:_law_pair; level 2 -/
def sp_Lis_built (T : Txt K mg) : Sp := fun vs H Q _ => ∃ v d, vs = [v] ∧ DAt T.a_House H v d ∧ dOk d ∧ Q (.bl (mvOf d).isSome) H
theorem ok_Lis_built (T : Txt K mg) : FnOk P w K mg base CX0 2 T.Lis_built.f T.Lis_built.d ["_law_thing"] (sp_Lis_built T) := by
  have nd := sc_Lis_built.nd
  refine T.Lis_built.F.ok sc_Lis_built (fun vs H Q E h => ?_) (fun cdv A outer s H vs Q E hr h => ?_)
  · obtain ⟨v, d, rfl, _⟩ := h; rfl
  · obtain ⟨v, d, rfl, hd, ok, q⟩ := h
    refine ⟨_, (pss_cons (ps_if (PW.pt (pw_or (pt_not (pt_val (pe_callB (call_isiK1 (K := K) rfl) (by rfl) T.n_isinstance (by decide +kernel) (pa_cons (pv 0) (pa_cons (pe_bltn (v := V.ty "tuple") (by rfl) T.n_tuple (by decide +kernel) rfl) pa_nil))))) (pw_or (pt_cmpR op_ne (pe_callB (call_lenK (K := K) rfl) (by rfl) T.n_len (by decide +kernel) (pa_cons (pv 0) pa_nil)) pe_int (nomark _)) (pw_or (pt_not (pt_val (pe_call (ok_Lis_int T) (hr.mono (by decide)) (by rfl) T.Lis_int.m T.Lis_int.F.kp T.Lis_int.b .nil pass0 (pa_cons (pe_ix (ix_tupK (K := K) rfl) (pv 0) pe_int (fun _ _ => rfl)) (pa_cons (pe_un un_neg pe_int) (pa_cons pe_int pa_nil)))))) (pw_or1 (pt_cmpR op_eq (pe_ix (ix_tupK (K := K) rfl) (pv 0) pe_int (fun _ _ => rfl)) pe_int (nomark _)))))))
      (pss_one (ps_ret pe_bl))
      pss_nil)
      (pss_cons (ps_if (pt_not (pt_val (pe_callB (call_isiK1 (K := K) rfl) (by rfl) T.n_isinstance (by decide +kernel) (pa_cons (pe_ix (ix_tupK (K := K) rfl) (pv 0) pe_int (fun _ _ => rfl)) (pa_cons (pe_bltn (v := V.ty "tuple") (by rfl) T.n_tuple (by decide +kernel) rfl) pa_nil)))))
      (pss_one (ps_ret pe_bl))
      pss_nil)
      (pss_cons (ps_for PassesOwn.never rfl (pi_range1 (by rfl) T.n_range (pa_cons (pe_callB (call_lenK (K := K) rfl) (by rfl) T.n_len (by decide +kernel) (pa_cons (pe_ix (ix_tupK (K := K) rfl) (pv 0) pe_int (fun _ _ => rfl)) pa_nil)) pa_nil)) (pg_name (i := 1) nd rfl (Or.inl rfl))
      (pss_cons (ps_set (i := 2) nd rfl (Or.inl rfl) (pe_ix (ix_tupK (K := K) rfl) (pe_ix (ix_tupK (K := K) rfl) (pv 0) pe_int (fun _ _ => rfl)) (pv 1) (fun _ _ => rfl)))
      (pss_cons (ps_if (PW.pt (pw_or (pt_not (pt_val (pe_callB (call_isiK1 (K := K) rfl) (by rfl) T.n_isinstance (by decide +kernel) (pa_cons (pv 2) (pa_cons (pe_bltn (v := V.ty "tuple") (by rfl) T.n_tuple (by decide +kernel) rfl) pa_nil))))) (pw_or (pt_cmpR op_ne (pe_callB (call_lenK (K := K) rfl) (by rfl) T.n_len (by decide +kernel) (pa_cons (pv 2) pa_nil)) pe_int (nomark _)) (pw_or1 (pt_not (pt_val (pe_call (ok_Lis_int T) (hr.mono (by decide)) (by rfl) T.Lis_int.m T.Lis_int.F.kp T.Lis_int.b .nil pass0 (pa_cons (pe_ix (ix_tupK (K := K) rfl) (pv 2) pe_int (fun _ _ => rfl)) (pa_cons pe_int (pa_cons (pe_op op_pow pe_int pe_int) pa_nil))))))))))
      (pss_one (ps_ret pe_bl))
      pss_nil)
      (pss_one (ps_if (PW.pt (pw_or (pt_not (pt_val (pe_call (ok_Lis_int T) (hr.mono (by decide)) (by rfl) T.Lis_int.m T.Lis_int.F.kp T.Lis_int.b .nil pass0 (pa_cons (pe_ix (ix_tupK (K := K) rfl) (pv 2) pe_int (fun _ _ => rfl)) (pa_cons pe_int (pa_cons (pe_op op_pow pe_int pe_int) pa_nil)))))) (pw_or1 (PW.pt (pw_and (pt_cmpR op_gt (pv 1) pe_int (nomark _)) (pw_and1 (pt_cmpR op_ge (pe_ix (ix_tupK (K := K) rfl) (pe_ix (ix_tupK (K := K) rfl) (pe_ix (ix_tupK (K := K) rfl) (pv 0) pe_int (fun _ _ => rfl)) (pe_op op_sub (pv 1) pe_int) (fun _ _ => rfl)) pe_int (fun _ _ => rfl)) (pe_ix (ix_tupK (K := K) rfl) (pv 2) pe_int (fun _ _ => rfl)) (nomark _))))))))
      (pss_one (ps_ret pe_bl))
      pss_nil)))))
      (pss_one (ps_ret pe_bl))))), ?_⟩
    obtain ⟨t, ty, bi, bb, bt, k1, k2, k3, e1, e2⟩ := hd.ty T
    refine ⟨_, rfl, _, _, _, _, bt, rfl, .ty _, ty, k3, _, rfl, ?_⟩
    rw [e2]
    cases d with
    | int i => exact iteT (iteT q)
    | bad => exact iteT (iteT q)
    | tup es =>
      refine iteF ?_
      cases hd with
      | tup ha hes =>
        rename_i a ys
        have hyl : ys.length = es.length := hes.length
        refine ⟨_, rfl, _, _, rfl, .inr (SqT.of ha), rfl, _, rfl, iteB (fun h => ?_) fun h => ?_⟩
        · rw [mvOf_len (by have := ne_t h; omega)] at q
          exact iteT q
        · have h2 := ne_f h
          obtain ⟨d0, d1, rfl⟩ := two_of (l := es) (by omega)
          rw [mvOf_two] at q
          cases hes with
          | cons h0 t0 =>
            cases t0 with
            | cons h1 t1 =>
              cases t1
              rename_i v0 v1
              refine ⟨_, rfl, _, _, _, _, rfl, rfl, SqT.of ha, at_of (j := 0) rfl rfl, _, rfl, v0, d0, -1, 1, rfl, h0, _, rfl, iteB (fun h => ?_) fun h => ?_⟩
              · rw [wayB_f (not_t h)] at q
                exact iteT q
              · obtain ⟨i0, rfl, b1, b2⟩ := within_int (not_f h)
                cases h0
                refine ⟨_, rfl, _, _, _, _, rfl, rfl, SqT.of ha, at_of (j := 0) rfl rfl, rfl, _, rfl, iteB (fun h => ?_) fun h => ?_⟩
                · have hz := eq_t h
                  have e : wayB (.int i0) = false := decide_eq_false (by omega)
                  rw [e] at q
                  exact q
                · have hz := eq_f h
                  have e : wayB (.int i0) = true := decide_eq_true (by omega)
                  rw [e, Bool.true_and] at q
                  obtain ⟨t, ty, bi, bb, bt, k1, k2, k3, e1, e2⟩ := h1.ty T
                  refine ⟨_, rfl, _, _, _, _, rfl, rfl, SqT.of ha, at_of (j := 1) rfl rfl, _, _, _, _, bt, rfl, .ty _, ty, k3, _, rfl, ?_⟩
                  rw [e2]
                  have okd := ok.2.2.1
                  cases d1 with
                  | int i => exact iteT q
                  | bad => exact iteT q
                  | tup ds =>
                    refine iteF ?_
                    cases h1 with
                    | tup hb hds =>
                      rename_i b xs
                      have hlen : xs.length = ds.length := hds.length
                      have hl : ds.length ≤ 10000 := okd.1
                      have bad : ∀ {d : D}, d ∈ ds → pairOf d = none → Q (.bl false) H := fun h1 h2 => by
                        rw [abOf_none (pairsOf_none h1 h2)] at q
                        exact q
                      refine ⟨_, rfl, _, _, _, _, rfl, rfl, SqT.of ha, at_of (j := 1) rfl rfl, b, _, rfl, .inr (SqT.of hb), _, rfl, (by omega), (by omega), for_range (fun i σ H' => H' = H ∧ (∃ z1 z2, σ = [some (.ref a), z1, z2]) ∧ ∀ j, j < i → ∃ p, ds[j]? = some (pD p) ∧ (0 ≤ p.1 ∧ 1 ≤ p.2) ∧ ∀ k q, k + 1 = j → ds[k]? = some (pD q) → q.1 < p.1) ⟨rfl, ⟨_, _, rfl⟩, fun j h => absurd h (Nat.not_lt_zero _)⟩ ?_ ?_⟩
                      · rintro i σ H' hi ⟨rfl, ⟨z1, z2, rfl⟩, hp⟩
                        have hi : i < xs.length := by omega
                        have hx : xs[i]? = some xs[i] := List.getElem?_eq_getElem hi
                        obtain ⟨d, hdi, hd⟩ := hds.get hx
                        have hm : d ∈ ds := List.mem_of_getElem? hdi
                        have okd1 := dsOk_mem.mp okd.2 d hm
                        refine ⟨_, rfl, _, _, _, _, rfl, rfl, SqT.of ha, at_of (j := 1) rfl rfl, _, rfl, _, _, _, _, rfl, rfl, SqT.of hb, at_of (j := i) (by omega) hx, ?_⟩
                        obtain ⟨t, ty, bi, bb, bt, k1, k2, k3, e1, e2⟩ := hd.ty T
                        refine ⟨_, rfl, _, _, _, _, bt, rfl, .ty _, ty, k3, _, rfl, ?_⟩
                        rw [e2]
                        cases d with
                        | int i => exact iteT (iteT (bad hm rfl))
                        | bad => exact iteT (iteT (bad hm rfl))
                        | tup es =>
                          refine iteF ?_
                          generalize xs[i] = xv at hd hx
                          cases hd with
                          | tup hc hes =>
                            rename_i c ys
                            have hyl : ys.length = es.length := hes.length
                            refine ⟨_, rfl, _, _, rfl, .inr (SqT.of hc), rfl, _, rfl, iteB (fun h => ?_) fun h => ?_⟩
                            · exact iteT (bad hm (pairOf_len (by have := ne_t h; omega)))
                            · have h2 := ne_f h
                              obtain ⟨g0, g1, rfl⟩ := two_of (l := es) (by omega)
                              cases hes with
                              | cons h0 t0 =>
                                cases t0 with
                                | cons h1 t1 =>
                                  cases t1
                                  rename_i w0 w1
                                  refine ⟨_, rfl, _, _, _, _, rfl, rfl, SqT.of hc, at_of (j := 0) rfl rfl, _, _, rfl, rfl, ⟨by decide, by decide, by decide⟩, w0, g0, 0, _, rfl, h0, _, rfl, iteB (fun h => ?_) fun h => ?_⟩
                                  · exact bad hm (within_bad0 (not_t h) okd1.2.1)
                                  · obtain ⟨j0, rfl, b3, b4⟩ := within_int (not_f h)
                                    cases h0
                                    refine ⟨_, rfl, _, _, _, _, rfl, rfl, SqT.of hc, at_of (j := 1) rfl rfl, _, _, rfl, rfl, ⟨by decide, by decide, by decide⟩, w1, g1, 1, _, rfl, h1, _, rfl, iteB (fun h => ?_) fun h => ?_⟩
                                    · exact iteT (bad hm (within_bad1 (not_t h) okd1.2.2.1))
                                    · obtain ⟨j1, rfl, b5, b6⟩ := within_int (not_f h)
                                      cases h1
                                      have next : (∀ k q, k + 1 = i → ds[k]? = some (pD q) → q.1 < j0) → ∀ j, j < i + 1 → ∃ p, ds[j]? = some (pD p) ∧ (0 ≤ p.1 ∧ 1 ≤ p.2) ∧ ∀ k q, k + 1 = j → ds[k]? = some (pD q) → q.1 < p.1 := fun hn j hj => by
                                        by_cases hji : j < i
                                        · exact hp j hji
                                        · have : j = i := by omega
                                          subst this
                                          exact ⟨(j0, j1), hdi, ⟨b3, b5⟩, hn⟩
                                      refine ⟨_, rfl, _, _, rfl, rfl, _, rfl, iteB (fun h => ?_) fun h => ?_⟩
                                      · have h := of_decide_eq_true h
                                        have hk : i - 1 + 1 = i := by omega
                                        obtain ⟨pq, hq, hq2, _⟩ := hp (i - 1) (by omega)
                                        have hx' : xs[i - 1]? = some (xs[i - 1]'(by omega)) := List.getElem?_eq_getElem (by omega)
                                        obtain ⟨d', hd', hdd⟩ := hds.get hx'
                                        rw [hq] at hd'
                                        have ed' := Option.some.inj hd'
                                        subst ed'
                                        obtain ⟨pp, epp, hpp⟩ := PAt.of_d hdd
                                        rw [epp] at hx'
                                        refine ⟨_, rfl, _, _, _, _, rfl, rfl, SqT.of ha, at_of (j := 1) rfl rfl, _, rfl, _, _, rfl, rfl, _, _, _, _, rfl, rfl, SqT.of hb, at_of (j := i - 1) (by omega) hx', _, _, _, _, rfl, rfl, SqT.of hpp, at_of (j := 0) rfl rfl, _, rfl, _, _, _, _, rfl, rfl, SqT.of hc, at_of (j := 0) rfl rfl, _, _, rfl, rfl, _, rfl, iteB (fun h3 => ?_) fun h3 => ?_⟩
                                        · have h3 := of_decide_eq_true h3
                                          have e := ab_bad (p := (j0, j1)) hq (by rw [hk]; exact hdi) (by show ¬ pq.1 < j0; omega)
                                          rw [e] at q
                                          exact q
                                        · have h3 := of_decide_eq_false h3
                                          refine ⟨rfl, ⟨_, _, rfl⟩, next fun k q' hk' hq' => ?_⟩
                                          have : k = i - 1 := by omega
                                          subst this
                                          rw [hq] at hq'
                                          have e := pD_inj (Option.some.inj hq')
                                          subst e
                                          omega
                                      · have h := of_decide_eq_false h
                                        exact ⟨rfl, ⟨_, _, rfl⟩, next fun k q' hk' _ => absurd hk' (by omega)⟩
                      · rintro σ H' ⟨rfl, ⟨z1, z2, rfl⟩, hp⟩
                        have e := ab_good (ds := ds) fun j hj => hp j (by omega)
                        rw [e] at q
                        exact q
end
end Wl

/-! W6d: the law's own defs, fourth part: _law_is_move, _law_due, _law_deep. -/
namespace Wl
open PySem PySem.Spec PyProof.Rows L2
section
variable {P : Program} {w : World} {K : PySem.W.Frag} {mg : Str → Option Value} {base : Heap}
/- slots of Lis_move: 0:_law_floors 1:_law_room 2:_law_state 3:_law_thing 4:_law_here_here 5:_law_want 6:_law_many; level 3 -/
def sp_Lis_move (T : Txt K mg) : Sp := fun vs H Q _ => ∃ (sv v : V) (l f r : Int) (gs : List G) (d : D), vs = [.int f, .int r, sv, v] ∧ StAt H sv l gs ∧ gs.length ≤ 2000 ∧ DAt T.a_House H v d ∧ dOk d ∧ ∀ H', Same H H' → Q (.bl (isMv f r l gs d)) H'
theorem ok_Lis_move (T : Txt K mg) : FnOk P w K mg base CX0 3 T.Lis_move.f T.Lis_move.d ["_law_floors", "_law_room", "_law_state", "_law_thing"] (sp_Lis_move T) := by
  have nd := sc_Lis_move.nd
  refine T.Lis_move.F.ok sc_Lis_move (fun vs H Q E h => ?_) (fun cdv A outer s H vs Q E hr h => ?_)
  · obtain ⟨sv, v, l, f, r, gs, d, rfl, _⟩ := h; rfl
  · obtain ⟨sv, v, l, f, r, gs, d, rfl, hs, hl, hd, ok, q⟩ := h
    refine ⟨_, (pss_cons (ps_if (PW.pt (pw_or (pt_not (pt_val (pe_call (ok_Lis_built T) (hr.mono (by decide)) (by rfl) T.Lis_built.m T.Lis_built.F.kp T.Lis_built.b .nil pass0 (pa_cons (pv 3) pa_nil)))) (pw_or1 (pt_not (pt_chain op_le op_lt pe_int (pe_op op_add (pe_ix (ix_tupK (K := K) rfl) (pv 2) pe_int (fun _ _ => rfl)) (pe_ix (ix_tupK (K := K) rfl) (pv 3) pe_int (fun _ _ => rfl))) (pv 0))))))
      (pss_one (ps_ret pe_bl))
      pss_nil)
      (pss_cons (ps_set (i := 4) nd rfl (Or.inr rfl) (pe_callTy (call_dictPK (K := K) rfl rfl) (by rfl) T.n_dict (by decide +kernel) (pa_cons (pe_call (ok_Lhere T) (hr.mono (by decide)) (by rfl) T.Lhere.m T.Lhere.F.kp T.Lhere.b .nil pass0 (pa_cons (pv 2) pa_nil)) pa_nil)))
      (pss_cons (ps_if (pt_cmpR op_gt (pe_callB (cr_sumK (K := K) rfl rfl) (by rfl) T.n_sum (by decide +kernel) (pa_cons (pe_lc (own := [("_law_want", 5), ("_law_many", 6)]) (g := (gTup K 2 (gCons (gName 5) (gCons (gName 6) gNil)))) (tt := tYes) rfl nd (pi_tupK (K := K) rfl (pe_ix (ix_tupK (K := K) rfl) (pv 3) pe_int (fun _ _ => rfl))) (blkOk_by (own := [("_law_want", 5), ("_law_many", 6)]) (N := n_Lis_move) (sc := defScope s_Lis_move) (by decide +kernel)) (fun _ _ _ _ _ => (pg_tupK (K := K) rfl rfl (pgs_cons (pg_name (i := 5) nd rfl (Or.inl rfl)) (pgs_cons (pg_name (i := 6) nd rfl (Or.inl rfl)) pgs_nil)))) (fun _ _ _ _ _ => pts_nil) (fun _ _ _ _ _ => (pv 6))) pa_nil)) (pv 1) (nomark _))
      (pss_one (ps_ret pe_bl))
      pss_nil)
      (pss_one (ps_ret (pe_callB (cr_allK (K := K) rfl rfl) (by rfl) T.n_all (by decide +kernel) (pa_cons (pe_lc (own := [("_law_want", 5), ("_law_many", 6)]) (g := (gTup K 2 (gCons (gName 5) (gCons (gName 6) gNil)))) (tt := tYes) rfl nd (pi_tupK (K := K) rfl (pe_ix (ix_tupK (K := K) rfl) (pv 3) pe_int (fun _ _ => rfl))) (blkOk_by (own := [("_law_want", 5), ("_law_many", 6)]) (N := n_Lis_move) (sc := defScope s_Lis_move) (by decide +kernel)) (fun _ _ _ _ _ => (pg_tupK (K := K) rfl rfl (pgs_cons (pg_name (i := 5) nd rfl (Or.inl rfl)) (pgs_cons (pg_name (i := 6) nd rfl (Or.inl rfl)) pgs_nil)))) (fun _ _ _ _ _ => pts_nil) (fun _ _ _ _ _ => (pe_cmpR op_le (pv 6) (pe_dget2 (hu_of hr) (pv 4) (pv 5) pe_int ⟨rfl, rfl, rfl, rfl⟩) (nomark _)))) pa_nil))))))), ?_⟩
    refine ⟨_, rfl, v, d, rfl, hd, ok, _, rfl, ?_⟩
    cases e : mvOf d with
    | none =>
      rw [isMv_none e] at q
      exact iteT (iteT (q _ (Same.refl _)))
    | some m =>
      rw [isMv_some e] at q
      refine iteF ?_
      obtain ⟨ed, hw, hb⟩ := mvOf_some e
      subst ed
      have lenm : m.2.length ≤ 10000 := by
        have h : dOk (.tup (m.2.map pD)) := ok.2.2.1
        have h := h.1
        rw [List.length_map] at h
        exact h
      have q : ∀ H', Same H H' → Q (.bl (decide (0 ≤ l + m.1 ∧ l + m.1 < f) && decide ((m.2.map (·.2)).sum ≤ r) && m.2.all fun p => decide (p.2 ≤ (lastOf (hereL gs l) p.1).getD 0))) H' := q
      obtain ⟨av, ⟨pmv, rfl, hpv⟩, xs, ⟨pa, rfl, hpa⟩, hps⟩ := MvAt.of_d hd
      obtain ⟨g, ⟨pst, rfl, hpst⟩, hg⟩ := id hs
      have xl : xs.length = m.2.length := Paired.length hps
      have q0 : ¬ (0 ≤ l + m.1 ∧ l + m.1 < f) → ∀ H', Same H H' → Q (.bl false) H' := fun h => by
        rw [decide_eq_false h] at q
        exact q
      refine ⟨_, rfl, _, _, _, _, rfl, rfl, SqT.of hpst, at_of (j := 0) rfl rfl, _, rfl, _, _, _, _, rfl, rfl, SqT.of hpv, at_of (j := 0) rfl rfl, _, _, rfl, rfl, _, _, rfl, rfl, _, rfl, iteB (fun h => ⟨_, rfl, _, _, rfl, rfl, _, rfl, iteB (fun h2 => ?_) fun h2 => ?_⟩) fun h => ⟨_, rfl, iteT (q0 (by have := of_decide_eq_false h; omega) _ (Same.refl _))⟩⟩
      · exact q0 (by have := of_decide_eq_false (not_t h2); omega) _ (Same.refl _)
      · have h := of_decide_eq_true h
        have h2 := of_decide_eq_true (not_f h2)
        rw [decide_eq_true (show 0 ≤ l + m.1 ∧ l + m.1 < f from ⟨h, h2⟩)] at q
        refine ⟨_, rfl, .ref pst, l, gs, rfl, hs, hl, fun pL H1 xs1 _ s1 hL pL1 => ?_⟩
        obtain ⟨ps, ep, pp⟩ := p_list (K := K) pL1
        subst ep
        refine ⟨pL, ps, _, rfl, SqL.of hL, pp, fun dA nA => ?_⟩
        have hv2 := merge_here (hereL gs l)
        generalize hkv : mergeK [] ((hereL gs l).map fun p => ((Sum.inl p.1 : L2.Key), V.int p.2)) = kvs at hv2
        have s12 : Same H (upd H1 dA (.dK kvs)) := s1.add nA
        have hk : upd H1 dA (.dK kvs) dA = some (.dK kvs) := upd_same
        revert s12 hk
        generalize upd H1 dA (.dK kvs) = H2
        intro s12 hk
        refine ⟨_, rfl, _, _, _, _, rfl, rfl, SqT.of (s12 _ _ hpv), at_of (j := 1) rfl rfl, pa, rfl, ⟨_, SqT.of (s12 _ _ hpa)⟩, fun D nD => lc_tupG (F := PAt) (E := fun _ v (c : Int) => v = V.int c) (fun p => some p.2) nD (s12 _ _ hpa) (pmap hps fun _ _ z => TupAt.mono z s12.wk) (by omega) (fun h w => h.mono w) (fun h _ => h) (fun x b H' R R0 hb fx s3 kR _ => ?_) (fun H3 out s3 hO pO => ?_)⟩
        · obtain ⟨px, rfl, hpx⟩ := fx
          refine ⟨_, _, rfl, SqT.of hpx, rfl, _, _, rfl, _, _, rfl, rfl, rfl, yesI ⟨_, rfl, ?_⟩⟩
          exact kR _ _ _ (Same.refl _) rfl rfl
        · have eo := out_map pO
          rw [fm_some] at eo
          have s123 := s12.trans s3
          refine ⟨_, _, rfl, SqL.of (by rw [hO, eo]), _, rfl, _, _, rfl, rfl, _, rfl, iteB (fun h => ?_) fun h => ?_⟩
          · have h := of_decide_eq_true h
            have h' : ¬ (m.2.map (·.2)).sum ≤ r := by
              have : r < (m.2.map (·.2)).sum := h
              omega
            rw [decide_eq_false h'] at q
            exact q _ s123
          · have h := of_decide_eq_false h
            have h' : (m.2.map (·.2)).sum ≤ r := by
              have : ¬ r < (m.2.map (·.2)).sum := h
              omega
            rw [decide_eq_true h'] at q
            refine ⟨_, rfl, _, _, _, _, rfl, rfl, SqT.of (s123 _ _ hpv), at_of (j := 1) rfl rfl, pa, rfl, ⟨_, SqT.of (s123 _ _ hpa)⟩, fun D2 nD2 => lc_tupG (F := PAt) (E := fun _ v (c : Bool) => v = V.bl c) (fun p => some (decide (p.2 ≤ (lastOf (hereL gs l) p.1).getD 0))) nD2 (s123 _ _ hpa) (pmap hps fun _ _ z => TupAt.mono z s123.wk) (by omega) (fun h w => h.mono w) (fun h _ => h) (fun x b H' R R0 hb fx s4 kR _ => ?_) (fun H4 out2 s4 hO2 pO2 => ?_)⟩
            · obtain ⟨px, rfl, hpx⟩ := fx
              have hk' := (s3.trans s4) _ _ hk
              refine ⟨_, _, rfl, SqT.of hpx, rfl, _, _, rfl, _, _, rfl, rfl, rfl, yesI ⟨_, rfl, _, rfl, dA, rfl, .inl ⟨kvs, .inl hk'⟩, _, rfl, (lastOf (hereL gs l) b.1).map V.int, .inl ⟨kvs, .inl b.1, .inl hk', rfl, (hv2 _).symm⟩, _, _, rfl, getD_int _, ?_⟩⟩
              exact kR _ _ _ (Same.refl _) rfl rfl
            · have eo2 := out_map pO2
              refine ⟨_, _, rfl, SqL.of (by rw [hO2, eo2]), ?_⟩
              have e3 : (m.2.filterMap fun p => some (decide (p.2 ≤ (lastOf (hereL gs l) p.1).getD 0))).all id = m.2.all fun p => decide (p.2 ≤ (lastOf (hereL gs l) p.1).getD 0) := by
                rw [fm_some, List.all_map]; rfl
              rw [e3]
              exact q _ (s123.trans s4)
/- slots of Ldue: 0:_law_floors 1:_law_room 2:_law_state 3:_law_thing 4:_law_move_here 5:_law_stand 6:_law_want 7:_law_many; level 4 -/
def sp_Ldue (T : Txt K mg) : Sp := fun vs H Q _ => ∃ (sv v : V) (l f r : Int) (gs : List G) (d : D), vs = [.int f, .int r, sv, v] ∧ StAt H sv l gs ∧ GOk f gs ∧ f ≤ 40 ∧ (0 ≤ l ∧ l < f) ∧ DAt T.a_House H v d ∧ dOk d ∧ ∀ H', Same H H' → Q (.bl (dueD f r l gs d)) H'
theorem ok_Ldue (T : Txt K mg) : FnOk P w K mg base CX0 4 T.Ldue.f T.Ldue.d ["_law_floors", "_law_room", "_law_state", "_law_thing"] (sp_Ldue T) := by
  have nd := sc_Ldue.nd
  refine T.Ldue.F.ok sc_Ldue (fun vs H Q E h => ?_) (fun cdv A outer s H vs Q E hr h => ?_)
  · obtain ⟨sv, v, l, f, r, gs, d, rfl, _⟩ := h; rfl
  · obtain ⟨sv, v, l, f, r, gs, d, rfl, hs, gk, hf, hl, hd, ok, q⟩ := h
    refine ⟨_, (pss_cons (ps_if (pt_not (pt_val (pe_callB (call_isiK1 (K := K) rfl) (by rfl) T.n_isinstance (by decide +kernel) (pa_cons (pv 3) (pa_cons (pe_bltn (v := V.ty "tuple") (by rfl) T.n_tuple (by decide +kernel) rfl) pa_nil)))))
      (pss_one (ps_ret pe_bl))
      pss_nil)
      (pss_cons (ps_for PassesOwn.never rfl (pi_tupK (K := K) rfl (pv 3)) (pg_name (i := 4) nd rfl (Or.inl rfl))
      (pss_cons (ps_if (pt_not (pt_val (pe_call (ok_Lis_move T) (hr.mono (by decide)) (by rfl) T.Lis_move.m T.Lis_move.F.kp T.Lis_move.b .nil pass0 (pa_cons (pv 0) (pa_cons (pv 1) (pa_cons (pv 2) (pa_cons (pv 4) pa_nil)))))))
      (pss_one (ps_ret pe_bl))
      pss_nil)
      (pss_one (ps_set (i := 2) nd rfl (Or.inl rfl) (pe_call (ok_Lmade T) (hr.mono (by decide)) (by rfl) T.Lmade.m T.Lmade.F.kp T.Lmade.b .nil pass0 (pa_cons (pv 2) (pa_cons (pv 4) pa_nil)))))))
      (pss_one (ps_ret (pe_and (pe_cmpR op_eq (pe_ix (ix_tupK (K := K) rfl) (pv 2) pe_int (fun _ _ => rfl)) pe_int (nomark _)) (pe_one (pe_callB (cr_allK (K := K) rfl rfl) (by rfl) T.n_all (by decide +kernel) (pa_cons (pe_lc (own := [("_law_stand", 5), ("_law_want", 6), ("_law_many", 7)]) (g := (gTup K 3 (gCons (gName 5) (gCons (gName 6) (gCons (gName 7) gNil))))) (tt := tYes) rfl nd (pi_tupK (K := K) rfl (pe_ix (ix_tupK (K := K) rfl) (pv 2) pe_int (fun _ _ => rfl))) (blkOk_by (own := [("_law_stand", 5), ("_law_want", 6), ("_law_many", 7)]) (N := n_Ldue) (sc := defScope s_Ldue) (by decide +kernel)) (fun _ _ _ _ _ => (pg_tupK (K := K) rfl rfl (pgs_cons (pg_name (i := 5) nd rfl (Or.inl rfl)) (pgs_cons (pg_name (i := 6) nd rfl (Or.inl rfl)) (pgs_cons (pg_name (i := 7) nd rfl (Or.inl rfl)) pgs_nil))))) (fun _ _ _ _ _ => pts_nil) (fun _ _ _ _ _ => (pe_cmpR op_eq (pv 5) (pv 6) (nomark _)))) pa_nil)))))))), ?_⟩
    obtain ⟨t, ty, bi, bb, bt, k1, k2, k3, e1, e2⟩ := hd.ty T
    refine ⟨_, rfl, _, _, _, _, bt, rfl, .ty _, ty, k3, _, rfl, ?_⟩
    rw [e2]
    cases d with
    | int i => exact iteT (q _ (Same.refl _))
    | bad => exact iteT (q _ (Same.refl _))
    | tup ds =>
      have e : dueD f r l gs (.tup ds) = due f r l gs ds := rfl
      rw [e, due_runD] at q
      refine iteF ?_
      cases hd with
      | tup ha hds =>
        rename_i a xs
        have xl : xs.length = ds.length := hds.length
        refine ⟨_, rfl, a, rfl, ⟨_, SqT.of ha⟩, for_tup (K := K) (a := a) (xs := xs) (fun i σ H' => Same H H' ∧ ∃ sv' z4 l1 gs1, σ = [some (.int f), some (.int r), some sv', some (.ref a), z4, none, none, none] ∧ StAt H' sv' l1 gs1 ∧ runD f r l gs (ds.take i) = some (l1, gs1)) ⟨Same.refl _, sv, _, l, gs, rfl, hs, rfl⟩ (fun i σ H' _ h => SqT.of (h.1 _ _ ha)) ?_ ?_⟩
        · rintro i x σ H1 hx ⟨s1, sv', z4, l1, gs1, rfl, hs1, hrun⟩
          obtain ⟨d, hdi, hd⟩ := hds.get hx
          have hdm : d ∈ ds := List.mem_of_getElem? hdi
          obtain ⟨gk1, hl1⟩ := runD_ok _ hrun gk hl
          have okd : dOk d := dsOk_mem.mp ok.2 d hdm
          refine ⟨_, rfl, _, rfl, _, rfl, _, rfl, sv', x, l1, f, r, gs1, d, rfl, hs1, Nat.le_trans (gk1.len hf) (by decide), hd.mono s1.wk, okd, fun H2 s3 => ⟨_, rfl, ?_⟩⟩
          cases e : isMv f r l1 gs1 d with
          | false =>
            rw [runD_stop hrun hdi e] at q
            exact iteT (q _ (s1.trans s3))
          | true =>
            obtain ⟨m, em, ed, good⟩ := isMv_good e
            subst ed
            have hm := MvAt.of_d (hd.mono (s1.trans s3).wk)
            have lenm : m.2.length ≤ 10000 := by
              have h : dOk (.tup (m.2.map pD)) := okd.2.2.1
              have h := h.1
              rw [List.length_map] at h
              exact h
            have hh := good.has
            refine iteF ⟨_, rfl, _, rfl, sv', x, l1, f, gs1, m, rfl, hs1.mono s3.wk, gk1, hf, hm, lenm, hh.1, hh.2, fun v' H3 s4 hs4 => ?_⟩
            exact ⟨(s1.trans s3).trans s4, v', _, _, _, rfl, hs4, runD_step hrun hdi em good.can⟩
        · rintro σ H1 ⟨s1, sv', z4, l1, gs1, rfl, hs1, hrun⟩
          rw [xl, List.take_length] at hrun
          rw [hrun] at q
          obtain ⟨gk1, hl1⟩ := runD_ok _ hrun gk hl
          have gl1 := gk1.len hf
          obtain ⟨g, ⟨pst, rfl, hpst⟩, gxs, ⟨ga, rfl, hga⟩, hg⟩ := hs1
          have q : ∀ H', Same H H' → Q (.bl (decide (l1 = 0) && homeAll gs1)) H' := q
          refine ⟨_, rfl, _, _, _, _, rfl, rfl, SqT.of hpst, at_of (j := 0) rfl rfl, rfl, _, rfl, iteB (fun h => ?_) fun h => ?_⟩
          · rw [d_int] at h
            rw [h] at q
            refine ⟨_, rfl, _, _, _, _, rfl, rfl, SqT.of hpst, at_of (j := 1) rfl rfl, ga, rfl, ⟨_, SqT.of hga⟩, fun D nD => lc_tupG (F := GAt) (E := fun _ v (c : Bool) => v = V.bl c) (fun g => some (decide (g.1 = g.2.1))) nD hga hg (by omega) (fun h w => h.mono w) (fun h _ => h) (fun x b H' R R0 hb fx s2 kR _ => ?_) (fun H2 out s2 hO pO => ?_)⟩
            · obtain ⟨pb, rfl, hpb⟩ := fx
              refine ⟨_, _, rfl, SqT.of hpb, rfl, _, _, rfl, _, _, rfl, _, _, rfl, rfl, rfl, yesI ⟨_, rfl, _, rfl, rfl, ?_⟩⟩
              exact kR _ _ _ (Same.refl _) rfl (congrArg V.bl d_int)
            · have eo := out_map pO
              refine ⟨_, _, rfl, SqL.of (by rw [hO, eo]), ?_⟩
              rw [home_all]
              exact q _ (s1.trans s2)
          · rw [d_int] at h
            rw [h] at q
            exact q _ s1
/- slots of Ldeep: 0:_law_kind 1:_law_found 2:_law_turn; level 1 -/
def sp_Ldeep (T : Txt K mg) : Sp := fun vs H Q _ => ∃ k : Int, vs = [.int k] ∧ 0 ≤ k ∧ k < 3 ∧ ∀ v d H', Same H H' → DAt T.a_House H' v d → dOk d → Q v H'
theorem ok_Ldeep (T : Txt K mg) : FnOk P w K mg base CX0 1 T.Ldeep.f T.Ldeep.d ["_law_kind"] (sp_Ldeep T) := by
  have nd := sc_Ldeep.nd
  refine T.Ldeep.F.ok sc_Ldeep (fun vs H Q E h => ?_) (fun cdv A outer s H vs Q E hr h => ?_)
  · obtain ⟨k, rfl, _⟩ := h; rfl
  · obtain ⟨k, rfl, hk1, hk2, q⟩ := h
    refine ⟨_, (pss_cons (ps_set (i := 1) nd rfl (Or.inl rfl) (pe_tup pa_nil))
      (pss_cons (ps_for PassesOwn.never rfl (pi_range1 (by rfl) T.n_range (pa_cons pe_int pa_nil)) (pg_name (i := 2) nd rfl (Or.inl rfl))
      (pss_one (ps_set (i := 1) nd rfl (Or.inl rfl) (pe_ix (ix_listK (K := K) rfl) (pe_lst (pa_cons (pe_tup (pa_cons (pe_tup (pa_cons pe_int (pa_cons (pv 1) pa_nil))) pa_nil)) (pa_cons (pe_lst (pa_cons (pe_lst (pa_cons (pv 1) pa_nil)) pa_nil)) (pa_cons (pe_tup (pa_cons pe_str (pa_cons (pe_tup (pa_cons (pv 1) pa_nil)) pa_nil))) pa_nil)))) (pv 0) (fun _ _ => rfl)))))
      (pss_one (ps_ret (pv 1))))), ?_⟩
    refine ⟨small_le (by show 0 ≤ 100000; decide), fun p0 np0 => ⟨_, rfl, (by decide), (by decide), for_range (fun i σ H' => Same H H' ∧ ∃ v d z, σ = [some (.int k), some v, z] ∧ DAt T.a_House H' v d ∧ dOk d) ⟨Same.new np0, _, .tup [], _, rfl, .tup upd_same .nil, ⟨by decide, trivial⟩⟩ ?_ ?_⟩⟩
    · rintro i σ H1 hi ⟨s1, v, d, z, rfl, hd, ok⟩
      refine ⟨_, rfl, small_le (by show 2 ≤ 100000; decide), fun p1 n1 => ⟨small_le (by show 1 ≤ 100000; decide), fun p2 n2 => ⟨_, rfl, small_le (by show 1 ≤ 100000; decide), fun p3 n3 => ⟨small_le (by show 1 ≤ 100000; decide), fun p4 n4 => ⟨_, rfl, small_le (by show 1 ≤ 100000; decide), fun p5 n5 => ⟨small_le (by show 2 ≤ 100000; decide), fun p6 n6 => ⟨small_le (by show 3 ≤ 100000; decide), fun p7 n7 => ⟨_, rfl, ?_⟩⟩⟩⟩⟩⟩⟩⟩
      have t1 := (Same.new n1 (o := .tup [.int 0, v]))
      have t2 := (Same.new n2 (o := .tup [.ref p1]))
      have t3 := (Same.new n3 (o := .lst [v]))
      have t4 := (Same.new n4 (o := .lst [.ref p3]))
      have t5 := (Same.new n5 (o := .tup [v]))
      have t6 := (Same.new n6 (o := .tup [.str "times", .ref p5]))
      have t7 := (Same.new n7 (o := .lst [.ref p2, .ref p4, .ref p6]))
      have e : k = 0 ∨ k = 1 ∨ k = 2 := by omega
      have sAll := ((((((s1.trans t1).trans t2).trans t3).trans t4).trans t5).trans t6).trans t7
      have hdA := hd.mono ((((((t1.trans t2).trans t3).trans t4).trans t5).trans t6).trans t7).wk
      rcases e with rfl | rfl | rfl
      · refine ⟨_, _, _, _, rfl, rfl, SqL.of upd_same, at_of (j := 0) rfl rfl, sAll, _, .tup [.tup [.int 0, d]], _, rfl, ?_, ?_⟩
        · exact .tup (((((t3.trans t4).trans t5).trans t6).trans t7) _ _ upd_same) (.cons (.tup ((((((t2.trans t3).trans t4).trans t5).trans t6).trans t7) _ _ upd_same) (.cons (.int 0) (.cons hdA .nil))) .nil)
        · exact ⟨by show 1 ≤ 10000; decide, ⟨by show 2 ≤ 10000; decide, (by show (0 : Int) ≤ _; decide), ok, trivial⟩, trivial⟩
      · refine ⟨_, _, _, _, rfl, rfl, SqL.of upd_same, at_of (j := 1) rfl rfl, sAll, _, .bad, _, rfl, ?_, trivial⟩
        exact .lst (((t5.trans t6).trans t7) _ _ upd_same)
      · refine ⟨_, _, _, _, rfl, rfl, SqL.of upd_same, at_of (j := 2) rfl rfl, sAll, _, .tup [.bad, .tup [d]], _, rfl, ?_, ?_⟩
        · exact .tup (t7 _ _ upd_same) (.cons (.str _) (.cons (.tup ((t6.trans t7) _ _ upd_same) (.cons hdA .nil)) .nil))
        · exact ⟨by show 2 ≤ 10000; decide, trivial, ⟨by show 1 ≤ 10000; decide, ok, trivial⟩, trivial⟩
    · rintro σ H1 ⟨s1, v, d, z, rfl, hd, ok⟩
      exact ⟨_, rfl, q v d H1 s1 hd ok⟩
end
end Wl

/-! W6e: the law's own defs, fifth part: drawn moves. -/
namespace Wl
open PySem PySem.Spec PyProof.Rows L2
structure MoveInv (r : Int) (hs : List (Int × Int)) (i : Nat) (ab : List (Int × Int)) (left : Int) : Prop where
  sum : left = r - (ab.map (·.2)).sum
  nn : 0 ≤ left
  mem : ∀ p ∈ ab, 1 ≤ p.2 ∧ ∃ q ∈ hs.take i, q.1 = p.1 ∧ p.2 ≤ q.2
  asc : ab.Pairwise fun a b => a.1 < b.1
  few : ab.length ≤ i
theorem MoveInv.nil {r : Int} (hs : List (Int × Int)) (h : 0 ≤ r) : MoveInv r hs 0 [] r := ⟨by simp, h, fun p hp => absurd hp (by simp), .nil, Nat.le_refl _⟩
theorem MoveInv.skip {r : Int} {hs : List (Int × Int)} {i : Nat} {ab : List (Int × Int)} {left : Int} (h : MoveInv r hs i ab left) : MoveInv r hs (i + 1) ab left :=
  ⟨h.sum, h.nn, fun p hp => by
    obtain ⟨h1, q, hq, e⟩ := h.mem p hp
    exact ⟨h1, q, (List.take_prefix_take_left (by omega)).subset hq, e⟩, h.asc, Nat.le_succ_of_le h.few⟩
theorem take_lt {α : Type} {R : α → α → Prop} : ∀ {l : List α} {i : Nat} {q0 : α}, l.Pairwise R → l[i]? = some q0 → ∀ q ∈ l.take i, R q q0
  | [], i, q0, _, h => by simp at h
  | x :: l, 0, q0, _, h => by intro q hq; cases hq
  | x :: l, i + 1, q0, hp, h => by
    intro q hq
    obtain ⟨h1, h2⟩ := List.pairwise_cons.mp hp
    have h : l[i]? = some q0 := by simpa using h
    rw [List.take_succ_cons] at hq
    rcases List.mem_cons.mp hq with e | e
    · rw [e]; exact h1 q0 (List.mem_of_getElem? h)
    · exact take_lt h2 h q e
theorem MoveInv.push {r : Int} {hs : List (Int × Int)} {i : Nat} {ab : List (Int × Int)} {left so : Int} {q0 : Int × Int} (h : MoveInv r hs i ab left) (ha : hs.Pairwise fun a b => a.1 < b.1) (hq : hs[i]? = some q0) (h1 : 1 ≤ so) (h2 : so ≤ left) (h3 : so ≤ q0.2) :
    MoveInv r hs (i + 1) (ab ++ [(q0.1, so)]) (left - so) := by
  refine ⟨?_, by omega, fun p hp => ?_, ?_, ?_⟩
  · have := h.sum
    rw [List.map_append, List.sum_append]
    show left - so = r - (_ + (so + 0))
    omega
  · rcases List.mem_append.mp hp with e | e
    · obtain ⟨h1, q, hq, e⟩ := h.mem p e
      exact ⟨h1, q, (List.take_prefix_take_left (by omega)).subset hq, e⟩
    · rw [List.mem_singleton.mp e]
      refine ⟨h1, q0, ?_, rfl, h3⟩
      rw [take_snoc hq]
      simp
  · refine List.pairwise_append.mpr ⟨h.asc, by simp, fun p hp b hb => ?_⟩
    rw [List.mem_singleton.mp hb]
    obtain ⟨_, q, hq', e, _⟩ := h.mem p hp
    have := take_lt ha hq q hq'
    show p.1 < q0.1
    omega
  · rw [List.length_append]
    have := h.few
    show ab.length + 1 ≤ i + 1
    omega
theorem MoveInv.good {f r l w left : Int} {gs : List G} {n : Nat} {ab : List (Int × Int)} (h : MoveInv r (hereL gs l) n ab left) (gk : GOk f gs) (hw : w = 1 ∨ w = -1) (ht : 0 ≤ l + w ∧ l + w < f) : Good f r l gs (w, ab) := by
  refine ⟨hw, ⟨fun p hp => ?_, asc_of h.asc⟩, ?_⟩
  · obtain ⟨h1, q, hq, e, _⟩ := h.mem p hp
    have hm := hereL_mem.mp (List.mem_of_mem_take hq)
    have hr := (gk.rg _ hm).1
    unfold InF at hr
    have : 0 ≤ q.1 := hr.2.2.1
    exact ⟨by omega, h1⟩
  · unfold canMove
    have hs := h.sum
    have hn := h.nn
    rw [Bool.and_eq_true, Bool.and_eq_true]
    refine ⟨⟨decide_eq_true ht, decide_eq_true ?_⟩, List.all_eq_true.mpr fun p hp => decide_eq_true ?_⟩
    · show (ab.map (·.2)).sum ≤ r
      omega
    · obtain ⟨h1, q, hq, e, h2⟩ := h.mem p hp
      have hl := lastOf_of (hereL_asc gk.asc l) (List.mem_of_mem_take hq)
      rw [← e, hl]
      exact h2
section
variable {P : Program} {w : World} {K : PySem.W.Frag} {mg : Str → Option Value} {base : Heap}
/- slots of Lmove: 0:_law_hand_here 1:_law_floors 2:_law_room 3:_law_state 4:_law_left 5:_law_aboard 6:_law_greedy 7:_law_want 8:_law_many 9:_law_most 10:_law_some 11:_law_options 12:_law_way; level 2 -/
def sp_Lmove (T : Txt K mg) : Sp := fun vs H Q _ => ∃ (a c : Addr) (sv : V) (l f r : Int) (gs : List G), vs = [.ref a, .int f, .int r, sv] ∧ HandAt H a c ∧ StAt H sv l gs ∧ GOk f gs ∧ 2 ≤ f ∧ f ≤ 40 ∧ 0 ≤ r ∧ (0 ≤ l ∧ l < f) ∧
  ∀ v m H', Grow a H H' → HandAt H' a c → MvAt H' v m → Good f r l gs m → Q v H'
theorem ok_Lmove (T : Txt K mg) : FnOk P w K mg base CX0 2 T.Lmove.f T.Lmove.d ["_law_hand_here", "_law_floors", "_law_room", "_law_state"] (sp_Lmove T) := by
  have nd := sc_Lmove.nd
  refine T.Lmove.F.ok sc_Lmove (fun vs H Q E h => ?_) (fun cdv A outer s H vs Q E hr h => ?_)
  · obtain ⟨a, c, sv, l, f, r, gs, rfl, _⟩ := h; rfl
  · obtain ⟨a, c, sv, l, f, r, gs, rfl, hh, hs, gk, hf2, hf, hr0, hl, q⟩ := h
    refine ⟨_, (pss_cons (ps_set (i := 4) nd rfl (Or.inl rfl) (pv 2))
      (pss_cons (ps_set (i := 5) nd rfl (Or.inl rfl) (pe_lst pa_nil))
      (pss_cons (ps_set (i := 6) nd rfl (Or.inl rfl) (pe_call (ok_Ldraw T) (hr.mono (by decide)) (by rfl) T.Ldraw.m T.Ldraw.F.kp T.Ldraw.b .nil pass0 (pa_cons (pv 0) (pa_cons pe_int pa_nil))))
      (pss_cons (ps_for PassesOwn.never rfl (pi_listK (K := K) rfl (pe_call (ok_Lhere T) (hr.mono (by decide)) (by rfl) T.Lhere.m T.Lhere.F.kp T.Lhere.b .nil pass0 (pa_cons (pv 3) pa_nil))) (pg_tupK (K := K) rfl rfl (pgs_cons (pg_name (i := 7) nd rfl (Or.inl rfl)) (pgs_cons (pg_name (i := 8) nd rfl (Or.inl rfl)) pgs_nil)))
      (pss_cons (ps_set (i := 9) nd rfl (Or.inl rfl) (pe_callB (call_min2 rfl) (by rfl) T.n_min (by decide +kernel) (pa_cons (pv 4) (pa_cons (pv 8) pa_nil))))
      (pss_cons (ps_set (i := 10) nd rfl (Or.inl rfl) (pe_ix (ix_listK (K := K) rfl) (pe_lst (pa_cons pe_int (pa_cons (pv 9) (pa_cons (pe_callB (call_min2 rfl) (by rfl) T.n_min (by decide +kernel) (pa_cons (pv 9) (pa_cons (pe_op op_add pe_int (pe_call (ok_Ldraw T) (hr.mono (by decide)) (by rfl) T.Ldraw.m T.Ldraw.F.kp T.Ldraw.b .nil pass0 (pa_cons (pv 0) (pa_cons pe_int pa_nil)))) pa_nil))) pa_nil)))) (pe_call (ok_Ldraw T) (hr.mono (by decide)) (by rfl) T.Ldraw.m T.Ldraw.F.kp T.Ldraw.b .nil pass0 (pa_cons (pv 0) (pa_cons pe_int pa_nil))) (fun _ _ => rfl)))
      (pss_cons (ps_if (pt_cmpR op_eq (pv 6) pe_int (nomark _))
      (pss_one (ps_set (i := 10) nd rfl (Or.inl rfl) (pv 9)))
      pss_nil)
      (pss_one (ps_if (pt_cmpR op_gt (pv 10) pe_int (nomark _))
      (pss_cons (ps_expr (pe_bm PySem.F.plainAttrs_list PySem.F.slot_list_append PySem.F.type_list_append mt_append (pv 5) (pa_cons (pe_tup (pa_cons (pv 7) (pa_cons (pv 10) pa_nil))) pa_nil)))
      (pss_one (ps_set (i := 4) nd rfl (Or.inl rfl) (pe_op op_sub (pv 4) (pv 10)))))
      pss_nil))))))
      (pss_cons (ps_setLc (i := 11) (own := [("_law_way", 12)]) (g := (gName 12)) rfl nd rfl rfl (sw_true rfl rfl rfl (by decide +kernel)) (pi_listK (K := K) rfl (pe_lst (pa_cons (pe_un un_neg pe_int) (pa_cons pe_int pa_nil)))) (blkOk_by (own := [("_law_way", 12)]) (N := n_Lmove) (sc := defScope s_Lmove) (by decide +kernel)) (fun _ _ _ _ _ => (pg_name (i := 12) nd rfl (Or.inl rfl))) (fun _ _ _ _ _ => pts_one (pt_chain op_le op_lt pe_int (pe_op op_add (pe_ix (ix_tupK (K := K) rfl) (pv 3) pe_int (fun _ _ => rfl)) (pv 12)) (pv 1))) (fun _ _ _ _ _ => (pv 12)))
      (pss_one (ps_ret (pe_tup (pa_cons (pe_ix (ix_listK (K := K) rfl) (pv 11) (pe_call (ok_Ldraw T) (hr.mono (by decide)) (by rfl) T.Ldraw.m T.Ldraw.F.kp T.Ldraw.b .nil pass0 (pa_cons (pv 0) (pa_cons (pe_callB (call_lenK (K := K) rfl) (by rfl) T.n_len (by decide +kernel) (pa_cons (pv 11) pa_nil)) pa_nil))) (fun _ _ => rfl)) (pa_cons (pe_callTy (call_tupleK (K := K) rfl) (by rfl) T.n_tuple (by decide +kernel) (pa_cons (pv 5) pa_nil)) pa_nil)))))))))), ?_⟩
    have gl := gk.len hf
    have hl0 : (hereL gs l).length ≤ 1600 := by
      unfold hereL
      rw [List.length_map]
      exact Nat.le_trans (List.length_filter_le _ _) gl
    have hasc := hereL_asc gk.asc l
    refine ⟨_, rfl, small_le (by show 0 ≤ 100000; decide), fun F nF => ?_⟩
    have sF : Same H (upd H F (.lst [])) := Same.new nF
    have hhF := hh.same sF
    have hFn := hh.ne nF
    refine ⟨_, rfl, a, c, 3, rfl, hhF, ⟨by decide, by decide⟩, fun gr H1 g1 h1 gr1 gr2 => ?_⟩
    have gA : Grow a H H1 := (hh.gs sF).trans g1
    have hF1 : H1 F = some (.lst []) := g1.keep F _ hFn.1 upd_same
    refine ⟨_, rfl, sv, l, gs, rfl, hs.mono gA.wk, by omega, fun pL H2 xs npL s2 hL pp => ⟨pL, rfl, ⟨_, SqL.of hL⟩, ?_⟩⟩
    have xl : xs.length = (hereL gs l).length := Paired.length pp
    have hLn := h1.ne npL
    have hLF : pL ≠ F := (ne_of_none hF1 npL).symm
    refine for_list (K := K) (a := pL) (xs := xs) (fun i σ H' => Grow a H H' ∧ HandAt H' a c ∧ H' pL = some (.lst xs) ∧ Paired (PAt H') xs (hereL gs l) ∧ ∃ z7 z8 z9 z10 left ab ys, σ = [some (.ref a), some (.int f), some (.int r), some sv, some (.int left), some (.ref F), some (.int gr), z7, z8, z9, z10, none, none] ∧ H' F = some (.lst ys) ∧ Paired (PAt H') ys ab ∧ MoveInv r (hereL gs l) i ab left) ⟨gA.same s2, h1.same s2, hL, pp, _, _, _, _, r, [], [], rfl, s2 _ _ hF1, .nil, MoveInv.nil _ hr0⟩ (fun i σ H' _ h => SqL.of h.2.2.1) ?_ ?_
    · rintro i x σ H3 hx ⟨g3, h3, hL3, pp3, z7, z8, z9, z10, left, ab, ys, rfl, hF3, py3, inv⟩
      obtain ⟨q0, hq0, fq⟩ := paired_at pp3 hx
      obtain ⟨px, rfl, hpx⟩ := id fq
      have hq1 : 1 ≤ q0.2 := (gk.rg _ (hereL_mem.mp (List.mem_of_getElem? hq0))).2
      have hi : i < (hereL gs l).length := (List.getElem?_eq_some_iff.mp hq0).1
      refine ⟨_, _, rfl, SqT.of hpx, rfl, _, _, rfl, _, _, rfl, rfl, ?_⟩
      refine ⟨_, rfl, _, rfl, _, _, rfl, ?_⟩
      obtain ⟨mo, hmo⟩ : ∃ mo, mo = if q0.2 < left then q0.2 else left := ⟨_, rfl⟩
      have hm0 : 0 ≤ mo := by rw [hmo]; split <;> first | omega | exact inv.nn
      have hm1 : mo ≤ left := by rw [hmo]; split <;> omega
      have hm2 : mo ≤ q0.2 := by rw [hmo]; split <;> omega
      rw [← hmo]
      refine ⟨_, rfl, _, rfl, _, rfl, a, c, 3, rfl, h3, ⟨by decide, by decide⟩, fun d1 H4 g4 h4 b1 b2 => ⟨_, _, rfl, rfl, _, _, rfl, small_le (by show 3 ≤ 100000; decide), fun p5 n5 => ⟨_, rfl, a, c, 3, rfl, h4.same (Same.new n5), ⟨by decide, by decide⟩, fun d2 H6 g6 h6 b3 b4 => ?_⟩⟩⟩
      have hp5 := h4.ne n5
      have t5 : Same H4 (upd H4 p5 (.lst [.int 0, .int mo, .int (if 1 + d1 < mo then 1 + d1 else mo)])) := Same.new n5
      have g36 : Grow a H3 H6 := (g4.same t5).trans g6
      have hl5 : H6 p5 = some (.lst [.int 0, .int mo, .int (if 1 + d1 < mo then 1 + d1 else mo)]) := g6.keep _ _ hp5.1 upd_same
      obtain ⟨so, hso, hs0, hs1⟩ : ∃ so, atI [V.int 0, V.int mo, V.int (if 1 + d1 < mo then 1 + d1 else mo)] d2 = some (.int so) ∧ 0 ≤ so ∧ so ≤ mo := by
        have e : d2 = 0 ∨ d2 = 1 ∨ d2 = 2 := by omega
        rcases e with rfl | rfl | rfl
        · exact ⟨0, at_of (j := 0) rfl rfl, Int.le_refl _, hm0⟩
        · exact ⟨mo, at_of (j := 1) rfl rfl, hm0, Int.le_refl _⟩
        · exact ⟨_, at_of (j := 2) rfl rfl, by split <;> omega, by split <;> omega⟩
      refine ⟨_, _, _, _, rfl, rfl, SqL.of hl5, hso, ?_⟩
      have hF6 : H6 F = some (.lst ys) := g36.keep _ _ hFn.1 hF3
      have hL6 : H6 pL = some (.lst xs) := g36.keep _ _ hLn.1 hL3
      have pp6 := pmap pp3 fun _ _ z => TupAt.mono z g36.wk
      have py6 := pmap py3 fun _ _ z => TupAt.mono z g36.wk
      have hpx6 := g36.wk.tup hpx
      have g06 := g3.trans g36
      have yl : ys.length = ab.length := Paired.length py3
      dsimp only [gName]
      refine seq_cut (fun σ' H' => H' = H6 ∧ ∃ so, σ' = [some (.ref a), some (.int f), some (.int r), some sv, some (.int left), some (.ref F), some (.int gr), some (.int q0.1), some (.int q0.2), some (.int mo), some (.int so), none, none] ∧ 0 ≤ so ∧ so ≤ mo) ?_ (fun N hN => ?_)
      · rintro σ' H' ⟨rfl, so, rfl, hs0, hs1⟩
        refine ⟨_, rfl, _, _, rfl, rfl, _, rfl, iteB (fun h => ?_) fun h => ?_⟩
        · have h := of_decide_eq_true h
          refine ⟨_, rfl, .inl ⟨rfl, _, SqL.of hF6⟩, _, rfl, _, rfl, small_le (by show 2 ≤ 100000; decide), fun p7 n7 => ⟨F, ys, _, rfl, rfl, Same.new n7 _ _ hF6, small_line (by have := inv.few; omega), ?_⟩⟩
          have t7 : Same H' (upd H' p7 (.tup [.int q0.1, .int so])) := Same.new n7
          have hF7 := t7 _ _ hF6
          have w7 : Wk H' (upd (upd H' p7 (.tup [.int q0.1, .int so])) F (.lst (ys ++ [.ref p7]))) := t7.wk.trans (Wk.lst hF7)
          have e7 : upd (upd H' p7 (.tup [.int q0.1, .int so])) F (.lst (ys ++ [.ref p7])) p7 = some (.tup [.int q0.1, .int so]) := by
            rw [upd_ne (ne_of_none hF6 n7).symm]; exact upd_same
          refine ⟨_, rfl, _, rfl, _, _, rfl, rfl, (g06.same t7).mut nF _, (h6.same t7).mut hFn.1 hFn.2, by rw [upd_ne hLF]; exact t7 _ _ hL6, pmap pp6 fun _ _ z => TupAt.mono z w7, _, _, _, _, left - so, ab ++ [(q0.1, so)], ys ++ [.ref p7], rfl, upd_same, ?_, inv.push hasc hq0 (by omega) (by omega) (by omega)⟩
          exact paired_snoc (pmap py6 fun _ _ z => TupAt.mono z w7) ⟨p7, rfl, e7⟩
        · exact ⟨g06, h6, hL6, pp6, _, _, _, _, left, ab, ys, rfl, hF6, py6, inv.skip⟩
      · refine ⟨_, rfl, rfl, _, rfl, iteB (fun h => ?_) fun h => ?_⟩
        · exact ⟨_, rfl, hN _ _ ⟨rfl, mo, rfl, hm0, Int.le_refl _⟩⟩
        · exact hN _ _ ⟨rfl, so, rfl, hs0, hs1⟩
    · rintro σ H3 ⟨g3, h3, hL3, pp3, z7, z8, z9, z10, left, ab, ys, rfl, hF3, py3, inv⟩
      obtain ⟨g, ⟨pst, rfl, hpst⟩, hg⟩ := hs.mono g3.wk
      refine ⟨_, rfl, small_le (by show 2 ≤ 100000; decide), fun p5 n5 => ⟨p5, rfl, ⟨_, SqL.of upd_same⟩, fun D nD => lc_listG (K := K) (gs := [-1, 1]) (F := fun _ v (c : Int) => v = V.int c) (E := fun _ v (c : Int) => v = V.int c) (fun c => if 0 ≤ l + c ∧ l + c < f then some c else none) nD (SqL.of upd_same) (paired_ints [-1, 1]) (by decide) (fun h _ => h) (fun h _ => h) (fun x b H' R R0 hb fx s1 kR k0 => ?_) (fun H5 out s5 hO pO => ?_)⟩⟩
      · subst fx
        have hst := ((Same.new n5).trans s1) _ _ hpst
        refine ⟨rfl, _, rfl, _, _, _, _, rfl, rfl, SqT.of hst, at_of (j := 0) rfl rfl, _, rfl, _, _, rfl, rfl, _, _, rfl, rfl, _, rfl, iteB (fun h => ⟨_, rfl, _, _, rfl, rfl, _, rfl, iteB (fun h2 => ?_) fun h2 => ?_⟩) fun h => ⟨_, rfl, iteF ?_⟩⟩
        · exact ⟨_, rfl, kR _ b _ (Same.refl _) (if_pos ⟨of_decide_eq_true h, of_decide_eq_true h2⟩) rfl⟩
        · exact k0 _ (Same.refl _) (if_neg fun z => of_decide_eq_false h2 z.2)
        · exact k0 _ (Same.refl _) (if_neg fun z => of_decide_eq_false h z.1)
      · have eo := out_map pO
        have hopt : ∀ w ∈ [-1, 1].filterMap (fun c : Int => if 0 ≤ l + c ∧ l + c < f then some c else none), (w = 1 ∨ w = -1) ∧ (0 ≤ l + w ∧ l + w < f) := fun w hw => by
          obtain ⟨c, hc, e⟩ := List.mem_filterMap.mp hw
          by_cases h : 0 ≤ l + c ∧ l + c < f
          · rw [if_pos h] at e
            have e := Option.some.inj e
            subst e
            refine ⟨?_, h⟩
            rcases List.mem_cons.mp hc with e | e
            · exact .inr e
            · exact .inl (List.mem_singleton.mp e)
          · rw [if_neg h] at e; cases e
        have hlen1 : 1 ≤ ([-1, 1].filterMap (fun c : Int => if 0 ≤ l + c ∧ l + c < f then some c else none)).length := by
          refine List.length_pos_iff.mpr fun hnil => ?_
          by_cases h : l = 0
          · have : (1 : Int) ∈ [-1, 1].filterMap (fun c : Int => if 0 ≤ l + c ∧ l + c < f then some c else none) := List.mem_filterMap.mpr ⟨1, by simp, if_pos (by omega)⟩
            rw [hnil] at this; cases this
          · have : (-1 : Int) ∈ [-1, 1].filterMap (fun c : Int => if 0 ≤ l + c ∧ l + c < f then some c else none) := List.mem_filterMap.mpr ⟨-1, by simp, if_pos (by omega)⟩
            rw [hnil] at this; cases this
        have hlen2 : ([-1, 1].filterMap (fun c : Int => if 0 ≤ l + c ∧ l + c < f then some c else none)).length ≤ 2 := List.length_filterMap_le _ _
        revert eo hopt hlen1 hlen2
        generalize ([-1, 1].filterMap (fun c : Int => if 0 ≤ l + c ∧ l + c < f then some c else none)) = opts
        intro eo hopt hlen1 hlen2
        subst eo
        have t5 : Same H3 H5 := (Same.new n5).trans s5
        have hDn := (h3.same (Same.new n5)).ne nD
        refine ⟨_, rfl, _, rfl, _, rfl, D, _, rfl, .inl (SqL.of hO), a, c, _, rfl, h3.same t5, ⟨by rw [List.length_map]; omega, by rw [List.length_map]; omega⟩, fun k H7 g7 h7 b1 b2 => ?_⟩
        rw [List.length_map] at b2
        have hk : k.toNat < opts.length := by omega
        have hok : (opts.map V.int)[k.toNat]? = some (.int opts[k.toNat]) := by
          rw [List.getElem?_map, List.getElem?_eq_getElem hk]; rfl
        obtain ⟨hw, ht⟩ := hopt _ (List.getElem_mem hk)
        have hO7 : H7 D = some (.lst (opts.map V.int)) := g7.keep _ _ hDn.1 hO
        have hF7 : H7 F = some (.lst ys) := g7.keep _ _ hFn.1 (t5 _ _ hF3)
        refine ⟨_, _, _, _, rfl, rfl, SqL.of hO7, at_of (j := k.toNat) (by omega) hok, ?_⟩
        generalize opts[k.toNat] = way at hw ht
        refine ⟨_, rfl, F, ys, rfl, .inl ⟨SqL.of hF7, fun p8 n8 => ⟨small_le (by show 2 ≤ 100000; decide), fun p9 n9 => ?_⟩⟩⟩
        have t9 : Same H7 (upd (upd H7 p8 (.tup ys)) p9 (.tup [.int way, .ref p8])) := (Same.new n8).add n9
        have w9 := (t5.wk.trans g7.wk).trans t9.wk
        exact q _ (way, ab) _ (((g3.same t5).trans g7).same t9) (h7.same t9) ⟨.ref p8, ⟨p9, rfl, upd_same⟩, ys, ⟨p8, rfl, Same.new n9 _ _ upd_same⟩, pmap py3 fun _ _ z => TupAt.mono z w9⟩ (inv.good gk hw ht)
/- slots of Lwalk: 0:_law_hand_here 1:_law_floors 2:_law_room 3:_law_state 4:_law_many 5:_law_found 6:_law_turn 7:_law_move_here; level 3 -/
def sp_Lwalk (T : Txt K mg) : Sp := fun vs H Q _ => ∃ (a c : Addr) (sv : V) (l f r : Int) (n : Nat) (gs : List G), vs = [.ref a, .int f, .int r, sv, .int n] ∧ n ≤ 10000 ∧ HandAt H a c ∧ StAt H sv l gs ∧ GOk f gs ∧ 2 ≤ f ∧ f ≤ 40 ∧ 0 ≤ r ∧ (0 ≤ l ∧ l < f) ∧
  ∀ p mv sv' ms l' gs' H', Grow a H H' → HandAt H' a c → H' p = some (.tup [mv, sv']) → MvsAt H' mv ms → StAt H' sv' l' gs' → Run f r l gs ms l' gs' → ms.length ≤ n → Q (.ref p) H'
theorem ok_Lwalk (T : Txt K mg) : FnOk P w K mg base CX0 3 T.Lwalk.f T.Lwalk.d ["_law_hand_here", "_law_floors", "_law_room", "_law_state", "_law_many"] (sp_Lwalk T) := by
  have nd := sc_Lwalk.nd
  refine T.Lwalk.F.ok sc_Lwalk (fun vs H Q E h => ?_) (fun cdv A outer s H vs Q E hr h => ?_)
  · obtain ⟨a, c, sv, l, f, r, n, gs, rfl, _⟩ := h; rfl
  · obtain ⟨a, c, sv, l, f, r, n, gs, rfl, hn, hh, hs, gk, hf2, hf, hr0, hl, q⟩ := h
    refine ⟨_, (pss_cons (ps_set (i := 5) nd rfl (Or.inl rfl) (pe_lst pa_nil))
      (pss_cons (ps_for PassesOwn.never rfl (pi_range1 (by rfl) T.n_range (pa_cons (pv 4) pa_nil)) (pg_name (i := 6) nd rfl (Or.inl rfl))
      (pss_cons (ps_set (i := 7) nd rfl (Or.inl rfl) (pe_call (ok_Lmove T) (hr.mono (by decide)) (by rfl) T.Lmove.m T.Lmove.F.kp T.Lmove.b .nil pass0 (pa_cons (pv 0) (pa_cons (pv 1) (pa_cons (pv 2) (pa_cons (pv 3) pa_nil))))))
      (pss_cons (ps_expr (pe_bm PySem.F.plainAttrs_list PySem.F.slot_list_append PySem.F.type_list_append mt_append (pv 5) (pa_cons (pv 7) pa_nil)))
      (pss_one (ps_set (i := 3) nd rfl (Or.inl rfl) (pe_call (ok_Lmade T) (hr.mono (by decide)) (by rfl) T.Lmade.m T.Lmade.F.kp T.Lmade.b .nil pass0 (pa_cons (pv 3) (pa_cons (pv 7) pa_nil))))))))
      (pss_one (ps_ret (pe_tup (pa_cons (pe_callTy (call_tupleK (K := K) rfl) (by rfl) T.n_tuple (by decide +kernel) (pa_cons (pv 5) pa_nil)) (pa_cons (pv 3) pa_nil))))))), ?_⟩
    refine ⟨small_le (by show 0 ≤ 100000; decide), fun F nF => ?_⟩
    have sF : Same H (upd H F (.lst [])) := Same.new nF
    have hFn := hh.ne nF
    refine ⟨_, rfl, _, rfl, (by omega), (by omega), for_range (fun i σ H' => Grow a H H' ∧ HandAt H' a c ∧ ∃ z6 z7 sv' ys ms l1 gs1, σ = [some (.ref a), some (.int f), some (.int r), some sv', some (.int n), some (.ref F), z6, z7] ∧ H' F = some (.lst ys) ∧ Paired (MvAt H') ys ms ∧ StAt H' sv' l1 gs1 ∧ Run f r l gs ms l1 gs1 ∧ ms.length ≤ i) ⟨hh.gs sF, hh.same sF, _, _, sv, [], [], l, gs, rfl, upd_same, .nil, hs.mono sF.wk, .nil _ _, Nat.le_refl _⟩ ?_ ?_⟩
    · rintro i σ H1 hi ⟨g1, h1, z6, z7, sv', ys, ms, l1, gs1, rfl, hF1, py, hs1, run, hml⟩
      obtain ⟨gk1, hl1⟩ := run.ok gk hl
      refine ⟨_, rfl, _, rfl, _, rfl, _, rfl, a, c, sv', l1, f, r, gs1, rfl, h1, hs1, gk1, hf2, hf, hr0, hl1, fun v m H2 g2 h2 hm good => ?_⟩
      have hF2 : H2 F = some (.lst ys) := g2.keep _ _ hFn.1 hF1
      have yl : ys.length = ms.length := Paired.length py
      have wF : Wk H2 (upd H2 F (.lst (ys ++ [v]))) := Wk.lst hF2
      have hh' := good.has
      refine ⟨_, rfl, .inl ⟨rfl, _, SqL.of hF2⟩, _, rfl, F, ys, _, rfl, rfl, hF2, small_line (by omega), ?_⟩
      refine ⟨_, rfl, _, rfl, sv', v, l1, f, gs1, m, rfl, (hs1.mono g2.wk).mono wF, gk1, hf, hm.mono wF, Nat.le_trans (good.few gk1 hf) (by decide), hh'.1, hh'.2, fun v' H3 s3 hs3 => ?_⟩
      have w3 := wF.trans s3.wk
      refine ⟨((g1.trans g2).mut nF _).same s3, (h2.mut hFn.1 hFn.2).same s3, _, _, v', ys ++ [v], ms ++ [m], _, _, rfl, s3 _ _ upd_same, paired_snoc (pmap py fun _ _ z => (z.mono g2.wk).mono w3) (hm.mono w3), hs3, run.snoc good, by rw [List.length_append]; show ms.length + 1 ≤ i + 1; omega⟩
    · rintro σ H1 ⟨g1, h1, z6, z7, sv', ys, ms, l1, gs1, rfl, hF1, py, hs1, run, hml⟩
      refine ⟨_, rfl, F, ys, rfl, .inl ⟨SqL.of hF1, fun p n1 => ⟨_, rfl, small_le (by show 2 ≤ 100000; decide), fun p2 n2 => ?_⟩⟩⟩
      have t2 : Same H1 (upd (upd H1 p (.tup ys)) p2 (.tup [.ref p, sv'])) := (Same.new n1).add n2
      exact q p2 _ _ ms l1 gs1 _ (g1.same t2) (h1.same t2) upd_same ⟨ys, ⟨p, rfl, Same.new n2 _ _ upd_same⟩, pmap py fun _ _ z => z.mono t2.wk⟩ (hs1.mono t2.wk) run (by omega)
end
end Wl

/-! W6f: the law's own defs, sixth part: the way home, the drawn parts. -/
namespace Wl
open PySem PySem.Spec PyProof.Rows L2
theorem good_empty {f r l w : Int} {gs : List G} (hr : 0 ≤ r) (hw : w = 1 ∨ w = -1) (ht : 0 ≤ l + w ∧ l + w < f) : Good f r l gs (w, []) := by
  refine ⟨hw, ⟨fun p hp => absurd hp (by simp), rfl⟩, ?_⟩
  unfold canMove
  rw [Bool.and_eq_true, Bool.and_eq_true]
  exact ⟨⟨decide_eq_true ht, decide_eq_true hr⟩, rfl⟩
theorem good_one {f r l w want k v : Int} {gs : List G} (gk : GOk f gs) (hm : (l, want, v) ∈ gs) (hk : 1 ≤ k) (hkv : k ≤ v) (hkr : k ≤ r) (hw : w = 1 ∨ w = -1) (ht : 0 ≤ l + w ∧ l + w < f) : Good f r l gs (w, [(want, k)]) := by
  have hi := (gk.rg _ hm).1
  unfold InF at hi
  have h0 : 0 ≤ want := hi.2.2.1
  refine ⟨hw, ⟨fun p hp => ?_, rfl⟩, ?_⟩
  · rw [List.mem_singleton.mp hp]; exact ⟨h0, hk⟩
  · unfold canMove
    rw [Bool.and_eq_true, Bool.and_eq_true]
    refine ⟨⟨decide_eq_true ht, decide_eq_true ?_⟩, List.all_eq_true.mpr fun p hp => decide_eq_true ?_⟩
    · show k + 0 ≤ r
      omega
    · rw [List.mem_singleton.mp hp]
      have hl := lastOf_of (hereL_asc gk.asc l) (hereL_mem.mpr hm)
      rw [hl]
      exact hkv
/-- the state of the walk home -/
structure HomeAt (f r l : Int) (gs : List G) (H0 : Hp) (F : Addr) (H : Hp) (sv : V) (ms : List Mv) (l1 : Int) (gs1 : List G) : Prop where
  s : Same H0 H
  hF : ∃ ys, H F = some (.lst ys) ∧ Paired (MvAt H) ys ms
  hs : StAt H sv l1 gs1
  run : Run f r l gs ms l1 gs1
  gk : GOk f gs1
  hl : 0 ≤ l1 ∧ l1 < f
theorem HomeAt.same {f r l : Int} {gs : List G} {H0 : Hp} {F : Addr} {H H' : Hp} {sv : V} {ms : List Mv} {l1 : Int} {gs1 : List G} (h : HomeAt f r l gs H0 F H sv ms l1 gs1) (s : Same H H') : HomeAt f r l gs H0 F H' sv ms l1 gs1 :=
  ⟨h.s.trans s, let ⟨ys, e, p⟩ := h.hF; ⟨ys, s _ _ e, pmap p fun _ _ z => z.mono s.wk⟩, h.hs.mono s.wk, h.run, h.gk, h.hl⟩
/-- the groups that are not home, as the law's list holds them -/
def awayL (gs : List G) : List G := gs.filterMap fun g => if g.1 ≠ g.2.1 then some g else none
theorem awayL_mem {gs : List G} {g : G} (h : g ∈ awayL gs) : g ∈ gs ∧ g.1 ≠ g.2.1 := by
  unfold awayL at h
  obtain ⟨x, hx, e⟩ := List.mem_filterMap.mp h
  by_cases q : x.1 ≠ x.2.1
  · rw [if_pos q] at e
    have e := Option.some.inj e
    subst e
    exact ⟨hx, q⟩
  · rw [if_neg q] at e; cases e
theorem abs_nat (i : Int) : ∃ n : Nat, (if i < 0 then -i else i) = (n : Int) := ⟨i.natAbs, by split <;> omega⟩
section
variable {P : Program} {w : World} {K : PySem.W.Frag} {mg : Str → Option Value} {base : Heap}
/- slots of Lhome: 0:_law_floors 1:_law_room 2:_law_state 3:_law_found 4:_law_turn 5:_law_away 6:_law_goal 7:_law_step 8:_law_move_here 9:_law_stand 10:_law_want 11:_law_many 12:_law_group; level 2 -/
def sp_Lhome (T : Txt K mg) : Sp := fun vs H Q _ => ∃ (sv : V) (l f r : Int) (gs : List G), vs = [.int f, .int r, sv] ∧ StAt H sv l gs ∧ GOk f gs ∧ f ≤ 40 ∧ 1 ≤ r ∧ (0 ≤ l ∧ l < f) ∧
  ∀ v ms l' gs' H', Same H H' → MvsAt H' v ms → Run f r l gs ms l' gs' → ms.length ≤ 4680 → Q v H'
theorem ok_Lhome (T : Txt K mg) : FnOk P w K mg base CX0 2 T.Lhome.f T.Lhome.d ["_law_floors", "_law_room", "_law_state"] (sp_Lhome T) := by
  have nd := sc_Lhome.nd
  refine T.Lhome.F.ok sc_Lhome (fun vs H Q E h => ?_) (fun cdv A outer s H vs Q E hr h => ?_)
  · obtain ⟨sv, l, f, r, gs, rfl, _⟩ := h; rfl
  · obtain ⟨sv, l, f, r, gs, rfl, hs, gk, hf, hr1, hl, q⟩ := h
    refine ⟨_, (pss_cons (ps_set (i := 3) nd rfl (Or.inl rfl) (pe_lst pa_nil))
      (pss_cons (ps_for PassesOwn.never rfl (pi_range1 (by rfl) T.n_range (pa_cons pe_int pa_nil)) (pg_name (i := 4) nd rfl (Or.inl rfl))
      (pss_cons (ps_setLc (i := 5) (own := [("_law_group", 12)]) (g := (gName 12)) rfl nd rfl rfl (sw_true rfl rfl rfl (by decide +kernel)) (pi_tupK (K := K) rfl (pe_ix (ix_tupK (K := K) rfl) (pv 2) pe_int (fun _ _ => rfl))) (blkOk_by (own := [("_law_group", 12)]) (N := n_Lhome) (sc := defScope s_Lhome) (by decide +kernel)) (fun _ _ _ _ _ => (pg_name (i := 12) nd rfl (Or.inl rfl))) (fun _ _ _ _ _ => pts_one (pt_cmpR op_ne (pe_ix (ix_tupK (K := K) rfl) (pv 12) pe_int (fun _ _ => rfl)) (pe_ix (ix_tupK (K := K) rfl) (pv 12) pe_int (fun _ _ => rfl)) (nomark _))) (fun _ _ _ _ _ => (pv 12)))
      (pss_cons (ps_set (i := 6) nd rfl (Or.inl rfl) (pe_ifExp (pt_cmpR (op_eqEK (K := K) rfl hr.units) (pv 5) (pe_lst pa_nil) (nomark _)) pe_int (pe_ix (ix_tupK (K := K) rfl) (pe_ix (ix_listK (K := K) rfl) (pv 5) pe_int (fun _ _ => rfl)) pe_int (fun _ _ => rfl))))
      (pss_cons (ps_for PassesOwn.never rfl (pi_range1 (by rfl) T.n_range (pa_cons (pe_callB call_abs (by rfl) T.n_abs (by decide +kernel) (pa_cons (pe_op op_sub (pv 6) (pe_ix (ix_tupK (K := K) rfl) (pv 2) pe_int (fun _ _ => rfl))) pa_nil)) pa_nil)) (pg_name (i := 7) nd rfl (Or.inl rfl))
      (pss_cons (ps_set (i := 8) nd rfl (Or.inl rfl) (pe_tup (pa_cons (pe_ifExp (pt_cmpR op_gt (pv 6) (pe_ix (ix_tupK (K := K) rfl) (pv 2) pe_int (fun _ _ => rfl)) (nomark _)) pe_int (pe_un un_neg pe_int)) (pa_cons (pe_tup pa_nil) pa_nil))))
      (pss_cons (ps_expr (pe_bm PySem.F.plainAttrs_list PySem.F.slot_list_append PySem.F.type_list_append mt_append (pv 3) (pa_cons (pv 8) pa_nil)))
      (pss_one (ps_set (i := 2) nd rfl (Or.inl rfl) (pe_call (ok_Lmade T) (hr.mono (by decide)) (by rfl) T.Lmade.m T.Lmade.F.kp T.Lmade.b .nil pass0 (pa_cons (pv 2) (pa_cons (pv 8) pa_nil))))))))
      (pss_cons (ps_if (pt_cmpR (op_eqEK (K := K) rfl hr.units) (pv 5) (pe_lst pa_nil) (nomark _))
      (pss_one ps_break)
      pss_nil)
      (pss_cons (ps_asg (pe_ix (ix_listK (K := K) rfl) (pv 5) pe_int (fun _ _ => rfl)) (pg_tupK (K := K) rfl rfl (pgs_cons (pg_name (i := 9) nd rfl (Or.inl rfl)) (pgs_cons (pg_name (i := 10) nd rfl (Or.inl rfl)) (pgs_cons (pg_name (i := 11) nd rfl (Or.inl rfl)) pgs_nil)))))
      (pss_one (ps_for PassesOwn.never rfl (pi_range1 (by rfl) T.n_range (pa_cons (pe_callB call_abs (by rfl) T.n_abs (by decide +kernel) (pa_cons (pe_op op_sub (pv 10) (pv 9)) pa_nil)) pa_nil)) (pg_name (i := 7) nd rfl (Or.inl rfl))
      (pss_cons (ps_set (i := 8) nd rfl (Or.inl rfl) (pe_tup (pa_cons (pe_ifExp (pt_cmpR op_gt (pv 10) (pe_ix (ix_tupK (K := K) rfl) (pv 2) pe_int (fun _ _ => rfl)) (nomark _)) pe_int (pe_un un_neg pe_int)) (pa_cons (pe_tup (pa_cons (pe_tup (pa_cons (pv 10) (pa_cons (pe_callB (call_min2 rfl) (by rfl) T.n_min (by decide +kernel) (pa_cons (pv 11) (pa_cons (pv 1) pa_nil))) pa_nil))) pa_nil)) pa_nil))))
      (pss_cons (ps_expr (pe_bm PySem.F.plainAttrs_list PySem.F.slot_list_append PySem.F.type_list_append mt_append (pv 3) (pa_cons (pv 8) pa_nil)))
      (pss_one (ps_set (i := 2) nd rfl (Or.inl rfl) (pe_call (ok_Lmade T) (hr.mono (by decide)) (by rfl) T.Lmade.m T.Lmade.F.kp T.Lmade.b .nil pass0 (pa_cons (pv 2) (pa_cons (pv 8) pa_nil)))))))))))))))
      (pss_one (ps_ret (pe_callTy (call_tupleK (K := K) rfl) (by rfl) T.n_tuple (by decide +kernel) (pa_cons (pv 3) pa_nil)))))), ?_⟩
    refine ⟨small_le (by show 0 ≤ 100000; decide), fun F nF => ?_⟩
    have sF : Same H (upd H F (.lst [])) := Same.new nF
    dsimp only [gName]
    refine seq_cut (fun σ' H' => ∃ z4 z5 z6 z7 z8 z9 z10 z11 sv' ms l1 gs1, σ' = [some (.int f), some (.int r), some sv', some (.ref F), z4, z5, z6, z7, z8, z9, z10, z11, none] ∧ HomeAt f r l gs H F H' sv' ms l1 gs1 ∧ ms.length ≤ 4680) ?_ (fun N hN => ?_)
    · rintro σ' H' ⟨z4, z5, z6, z7, z8, z9, z10, z11, sv', ms, l1, gs1, rfl, ha, hml⟩
      obtain ⟨ys, hF, py⟩ := ha.hF
      refine ⟨_, rfl, F, ys, rfl, .inl ⟨SqL.of hF, fun p np => ?_⟩⟩
      have t := Same.new np (o := .tup ys)
      exact q _ ms l1 gs1 _ (ha.s.trans t) ⟨ys, ⟨p, rfl, upd_same⟩, pmap py fun _ _ z => z.mono t.wk⟩ ha.run hml
    · refine ⟨_, rfl, (by decide), (by decide), for_range (fun i σ' H' => ∃ z4 z5 z6 z7 z8 z9 z10 z11 sv' ms l1 gs1, σ' = [some (.int f), some (.int r), some sv', some (.ref F), z4, z5, z6, z7, z8, z9, z10, z11, none] ∧ HomeAt f r l gs H F H' sv' ms l1 gs1 ∧ ms.length ≤ 78 * i) ⟨_, _, _, _, _, _, _, _, sv, [], l, gs, rfl, ⟨sF, ⟨[], upd_same, .nil⟩, hs.mono sF.wk, .nil _ _, gk, hl⟩, Nat.le_refl _⟩ ?_ ?_⟩
      · rintro i σ H1 hi ⟨z4, z5, z6, z7, z8, z9, z10, z11, sv', ms, l1, gs1, rfl, ha, hml⟩
        have hi60 : i < 60 := hi
        have gl1 := ha.gk.len hf
        obtain ⟨g, ⟨pst, rfl, hpst⟩, gxs, ⟨ga, rfl, hga⟩, hg⟩ := id ha.hs
        refine ⟨_, rfl, _, _, _, _, rfl, rfl, SqT.of hpst, at_of (j := 1) rfl rfl, ga, rfl, ⟨_, SqT.of hga⟩, fun D nD => lc_tupG (F := GAt) (E := GAt) (fun g => if g.1 ≠ g.2.1 then some g else none) nD hga hg (by omega) (fun h w => h.mono w) (fun h w => h.mono w) (fun x b H' R R0 hb fx s1 kR k0 => ?_) (fun H2 out s2 hO pO => ?_)⟩
        · obtain ⟨pb, rfl, hpb⟩ := id fx
          refine ⟨rfl, _, rfl, _, _, _, _, rfl, rfl, SqT.of hpb, at_of (j := 0) rfl rfl, _, rfl, _, _, _, _, rfl, rfl, SqT.of hpb, at_of (j := 1) rfl rfl, rfl, _, rfl, iteB (fun h => ?_) fun h => ?_⟩
          · exact ⟨_, rfl, kR _ b _ (Same.refl _) (if_pos (ne_t h)) fx⟩
          · exact k0 _ (Same.refl _) (if_neg (by have := ne_f h; intro z; exact z this))
        · have pO : Paired (GAt H2) out (awayL gs1) := pO
          have hDF : D ≠ F := by
            obtain ⟨ys, e, _⟩ := ha.hF
            exact (ne_of_none e nD).symm
          have ha2 := ha.same s2
          dsimp only [gName]
          refine seq_cut (fun σ' H' => ∃ goal, σ' = [some (.int f), some (.int r), some (.ref pst), some (.ref F), some (.int (0 + (i : Int))), some (.ref D), some (.int goal), z7, z8, z9, z10, z11, none] ∧ (0 ≤ goal ∧ goal < f) ∧ Same H2 H' ∧ ∀ g0 rest, awayL gs1 = g0 :: rest → goal = g0.1) ?_ (fun N1 hN1 => ?_)
          · rintro σ' H3 ⟨goal, rfl, hgo, s3, hgoal⟩
            have ha3 := ha2.same s3
            have hO3 := s3 _ _ hO
            have pO3 := pmap pO fun _ _ z => TupAt.mono z s3.wk
            obtain ⟨n, hn⟩ := abs_nat (goal - l1)
            have hn39 : n ≤ 39 := by have := ha.hl; split at hn <;> omega
            have hpst3 := (s2.trans s3) _ _ hpst
            refine ⟨_, rfl, _, rfl, _, _, _, _, rfl, rfl, SqT.of hpst3, at_of (j := 0) rfl rfl, _, _, rfl, rfl, _, rfl, _, rfl, ?_⟩
            rw [hn]
            refine ⟨by omega, by omega, ?_⟩
            refine for_range (fun j σ' H' => ∃ z7 z8 sv' ms1 l2, σ' = [some (.int f), some (.int r), some sv', some (.ref F), some (.int (0 + (i : Int))), some (.ref D), some (.int goal), z7, z8, z9, z10, z11, none] ∧ HomeAt f r l gs H F H' sv' ms1 l2 gs1 ∧ H' D = some (.lst out) ∧ Paired (GAt H') out (awayL gs1) ∧ (if goal - l2 < 0 then -(goal - l2) else goal - l2) + j = n ∧ ms1.length = ms.length + j) ⟨_, _, _, ms, l1, rfl, ha3, hO3, pO3, by rw [hn]; simp, rfl⟩ ?_ ?_
            · rintro j σ' H4 hj ⟨z7, z8, sv', ms1, l2, rfl, ha4, hO4, pO4, hd, hm1⟩
              have hj : j < n := by omega
              obtain ⟨g, ⟨pst, rfl, hpst⟩, hgg⟩ := id ha4.hs
              dsimp only [gName]
              refine seq_cut (fun σ' H' => ∃ w z7 p8, σ' = [some (.int f), some (.int r), some (.ref pst), some (.ref F), some (.int (0 + (i : Int))), some (.ref D), some (.int goal), z7, some (.ref p8), z9, z10, z11, none] ∧ Same H4 H' ∧ MvAt H' (.ref p8) (w, []) ∧ (w = 1 ∨ w = -1) ∧ (0 ≤ l2 + w ∧ l2 + w < f) ∧ (if goal - (l2 + w) < 0 then -(goal - (l2 + w)) else goal - (l2 + w)) + ((j + 1 : Nat) : Int) = n) ?_ (fun N2 hN2 => ?_)
              · rintro σ' H5 ⟨w, z7, p8, rfl, s5, hm, hw, ht, hd2⟩
                have ha5 := ha4.same s5
                have good : Good f r l2 gs1 (w, []) := good_empty (by omega) hw ht
                obtain ⟨ys, hF5, py⟩ := ha5.hF
                have yl : ys.length = ms1.length := Paired.length py
                have wF : Wk H5 (upd H5 F (.lst (ys ++ [.ref p8]))) := Wk.lst hF5
                refine ⟨_, rfl, .inl ⟨rfl, _, SqL.of hF5⟩, _, rfl, F, ys, _, rfl, rfl, hF5, small_line (by omega), ?_⟩
                refine ⟨_, rfl, _, rfl, .ref pst, .ref p8, l2, f, gs1, (w, []), rfl, ha5.hs.mono wF, ha5.gk, hf, hm.mono wF, by show 0 ≤ 10000; decide, fun p hp => absurd hp (by simp), ht, fun v' H6 s6 hs6 => ?_⟩
                have em : made l2 w gs1 [] = gs1 := made_nil ha5.gk
                have hs6 : StAt H6 v' (l2 + w) (made l2 w gs1 []) := hs6
                have run6 : Run f r l gs (ms1 ++ [(w, [])]) (l2 + w) (made l2 w gs1 []) := ha5.run.snoc good
                rw [em] at hs6 run6
                have w6 := wF.trans s6.wk
                refine ⟨_, _, v', ms1 ++ [(w, [])], l2 + w, rfl, ⟨(ha5.s.mut nF).trans s6, ⟨_, s6 _ _ upd_same, paired_snoc (pmap py fun _ _ z => z.mono w6) (hm.mono w6)⟩, hs6, run6, ha5.gk, ht⟩, s6 _ _ (by rw [upd_ne hDF]; exact s5 _ _ hO4), pmap pO4 fun _ _ z => TupAt.mono (TupAt.mono z s5.wk) w6, hd2, by rw [List.length_append]; show ms1.length + 1 = ms.length + (j + 1); omega⟩
              · have hl2 := ha4.hl
                refine ⟨_, rfl, _, rfl, _, _, _, _, rfl, rfl, SqT.of hpst, at_of (j := 0) rfl rfl, _, _, rfl, rfl, _, rfl, iteB (fun h => ?_) fun h => ?_⟩
                · have h : l2 < goal := of_decide_eq_true h
                  refine ⟨small_le (by show 0 ≤ 100000; decide), fun p1 n1 => ⟨small_le (by show 2 ≤ 100000; decide), fun p2 n2 => hN2 _ _ ⟨1, _, p2, rfl, (Same.new n1).add n2, ⟨.ref p1, ⟨p2, rfl, upd_same⟩, [], ⟨p1, rfl, Same.new n2 _ _ upd_same⟩, .nil⟩, .inl rfl, by omega, ?_⟩⟩⟩
                  rw [if_neg (by omega)] at hd
                  rw [if_neg (by omega)]
                  omega
                · have h : ¬ l2 < goal := of_decide_eq_false h
                  refine ⟨_, rfl, small_le (by show 0 ≤ 100000; decide), fun p1 n1 => ⟨small_le (by show 2 ≤ 100000; decide), fun p2 n2 => hN2 _ _ ⟨-1, _, p2, rfl, (Same.new n1).add n2, ⟨.ref p1, ⟨p2, rfl, upd_same⟩, [], ⟨p1, rfl, Same.new n2 _ _ upd_same⟩, .nil⟩, .inr rfl, ?_, ?_⟩⟩⟩
                  · split at hd <;> omega
                  · split at hd <;> split <;> omega
            · rintro σ' H4 ⟨z7, z8, sv', ms1, l2, rfl, ha4, hO4, pO4, hd, hm1⟩
              have el : l2 = goal := by
                have e : ((n : Int).toNat : Nat) = n := by omega
                rw [e] at hd
                split at hd <;> omega
              have e : ((n : Int).toNat : Nat) = n := by omega
              rw [e] at hm1
              refine ⟨_, rfl, small_le (by show 0 ≤ 100000; decide), fun p3 n3 => ⟨D, p3, out, rfl, rfl, .inr ⟨SqL.of (Same.new n3 _ _ hO4), SqL.of upd_same⟩, _, rfl, ?_⟩⟩
              have t3 := Same.new n3 (o := .lst [])
              cases hout : out with
              | nil =>
                refine iteT ?_
                exact hN _ _ ⟨_, _, _, _, _, _, _, _, sv', ms1, l2, gs1, rfl, ha4.same t3, by omega⟩
              | cons x0 rest =>
                refine iteF ?_
                rw [hout] at pO4 hO4
                obtain ⟨g0, rest', eaw⟩ : ∃ g0 rest', awayL gs1 = g0 :: rest' := by
                  cases eaw : awayL gs1 with
                  | nil => rw [eaw] at pO4; cases pO4
                  | cons g0 rest' => exact ⟨g0, rest', rfl⟩
                have hg0 := hgoal _ _ eaw
                have hmem : g0 ∈ awayL gs1 := by rw [eaw]; exact List.mem_cons_self
                obtain ⟨hg1, hne⟩ := awayL_mem hmem
                obtain ⟨hin, hmany⟩ := ha4.gk.rg _ hg1
                unfold InF at hin
                rw [eaw] at pO4
                have hx0 : GAt H4 x0 g0 := by cases pO4 with | cons h t => exact h
                obtain ⟨px, rfl, hpx⟩ := hx0.mono t3.wk
                have hO5 := t3 _ _ hO4
                refine ⟨_, rfl, _, _, _, _, rfl, rfl, SqL.of hO5, at_of (j := 0) rfl rfl, _, _, rfl, SqT.of hpx, rfl, _, _, rfl, _, _, rfl, _, _, rfl, rfl, ?_⟩
                obtain ⟨n2, hn2⟩ := abs_nat (g0.2.1 - g0.1)
                have hw0 : 0 ≤ g0.2.1 := hin.2.2.1
                have hw1 : g0.2.1 < f := hin.2.2.2
                have hs0 : 0 ≤ g0.1 := hin.1
                have hs1 : g0.1 < f := hin.2.1
                have hn239 : n2 ≤ 39 := by split at hn2 <;> omega
                refine ⟨_, rfl, _, rfl, _, _, rfl, rfl, _, rfl, _, rfl, ?_⟩
                rw [hn2]
                refine ⟨by omega, by omega, ?_⟩
                have hk1 : 1 ≤ (if r < g0.2.2 then r else g0.2.2) := by split <;> omega
                have hk2 : (if r < g0.2.2 then r else g0.2.2) ≤ r := by split <;> omega
                have hk3 : (if r < g0.2.2 then r else g0.2.2) ≤ g0.2.2 := by split <;> omega
                refine for_range (fun j σ' H' => ∃ z7 z8 sv' ms2 l3 gs3, σ' = [some (.int f), some (.int r), some sv', some (.ref F), some (.int (0 + (i : Int))), some (.ref D), some (.int goal), z7, z8, some (.int g0.1), some (.int g0.2.1), some (.int g0.2.2), none] ∧ HomeAt f r l gs H F H' sv' ms2 l3 gs3 ∧ (∃ v, (if r < g0.2.2 then r else g0.2.2) ≤ v ∧ (l3, g0.2.1, v) ∈ gs3) ∧ (if g0.2.1 - l3 < 0 then -(g0.2.1 - l3) else g0.2.1 - l3) + j = n2 ∧ ms2.length = ms1.length + j) ⟨_, _, sv', ms1, l2, gs1, rfl, ha4.same t3, ⟨g0.2.2, hk3, by rw [el, hg0]; exact hg1⟩, by rw [el, hg0, hn2]; simp, rfl⟩ ?_ ?_
                · rintro j σ' H6 hj ⟨z7, z8, sv', ms2, l3, gs3, rfl, ha6, ⟨v, hkv, hmv⟩, hd, hm2⟩
                  have hj : j < n2 := by omega
                  obtain ⟨g, ⟨pst, rfl, hpst⟩, hgg⟩ := id ha6.hs
                  dsimp only [gName]
                  refine seq_cut (fun σ' H' => ∃ w z7 p8, σ' = [some (.int f), some (.int r), some (.ref pst), some (.ref F), some (.int (0 + (i : Int))), some (.ref D), some (.int goal), z7, some (.ref p8), some (.int g0.1), some (.int g0.2.1), some (.int g0.2.2), none] ∧ Same H6 H' ∧ MvAt H' (.ref p8) (w, [(g0.2.1, (if r < g0.2.2 then r else g0.2.2))]) ∧ (w = 1 ∨ w = -1) ∧ (0 ≤ l3 + w ∧ l3 + w < f) ∧ (if g0.2.1 - (l3 + w) < 0 then -(g0.2.1 - (l3 + w)) else g0.2.1 - (l3 + w)) + ((j + 1 : Nat) : Int) = n2) ?_ (fun N2 hN2 => ?_)
                  · rintro σ' H7 ⟨w, z7, p8, rfl, s7, hm, hw, ht, hd2⟩
                    have ha7 := ha6.same s7
                    revert hm hkv hk1 hk2 hk3
                    generalize (if r < g0.2.2 then r else g0.2.2) = k
                    intro hk1 hk2 hk3 hkv hm
                    have good : Good f r l3 gs3 (w, [(g0.2.1, k)]) := good_one ha7.gk hmv hk1 hkv hk2 hw ht
                    obtain ⟨ys, hF7, py⟩ := ha7.hF
                    have yl : ys.length = ms2.length := Paired.length py
                    have wF : Wk H7 (upd H7 F (.lst (ys ++ [.ref p8]))) := Wk.lst hF7
                    refine ⟨_, rfl, .inl ⟨rfl, _, SqL.of hF7⟩, _, rfl, F, ys, _, rfl, rfl, hF7, small_line (by omega), ?_⟩
                    refine ⟨_, rfl, _, rfl, .ref pst, .ref p8, l3, f, gs3, (w, [(g0.2.1, k)]), rfl, ha7.hs.mono wF, ha7.gk, hf, hm.mono wF, by show 1 ≤ 10000; decide, good.has.1, ht, fun v' H8 s8 hs8 => ?_⟩
                    have w8 := wF.trans s8.wk
                    obtain ⟨v2, hv2, hv3⟩ := made_one (want := g0.2.1) ha7.gk (show w ≠ 0 by omega) hk1 (l := l3)
                    refine ⟨_, _, v', ms2 ++ [(w, [(g0.2.1, k)])], l3 + w, made l3 w gs3 [(g0.2.1, k)], rfl, ⟨(ha7.s.mut nF).trans s8, ⟨_, s8 _ _ upd_same, paired_snoc (pmap py fun _ _ z => z.mono w8) (hm.mono w8)⟩, hs8, ha7.run.snoc good, made_ok ha7.gk good.has.1 ht, ht⟩, ⟨v2, hv2, hv3⟩, hd2, by rw [List.length_append]; show ms2.length + 1 = ms1.length + (j + 1); omega⟩
                  · have hl3 := ha6.hl
                    refine ⟨_, rfl, _, rfl, _, _, _, _, rfl, rfl, SqT.of hpst, at_of (j := 0) rfl rfl, _, _, rfl, rfl, _, rfl, iteB (fun h => ?_) fun h => ?_⟩
                    · have h : l3 < g0.2.1 := of_decide_eq_true h
                      refine ⟨_, rfl, _, rfl, _, rfl, _, _, rfl, small_le (by show 2 ≤ 100000; decide), fun p0 n0 => ⟨small_le (by show 1 ≤ 100000; decide), fun p1 n1 => ⟨small_le (by show 2 ≤ 100000; decide), fun p2 n2 => hN2 _ _ ⟨1, _, p2, rfl, ((Same.new n0).add n1).add n2, ⟨.ref p1, ⟨p2, rfl, upd_same⟩, [.ref p0], ⟨p1, rfl, Same.new n2 _ _ upd_same⟩, .cons ⟨p0, rfl, ((Same.new n1).add n2) _ _ upd_same⟩ .nil⟩, .inl rfl, by omega, ?_⟩⟩⟩⟩
                      split at hd <;> split <;> omega
                    · have h : ¬ l3 < g0.2.1 := of_decide_eq_false h
                      refine ⟨_, rfl, _, rfl, _, rfl, _, rfl, _, _, rfl, small_le (by show 2 ≤ 100000; decide), fun p0 n0 => ⟨small_le (by show 1 ≤ 100000; decide), fun p1 n1 => ⟨small_le (by show 2 ≤ 100000; decide), fun p2 n2 => hN2 _ _ ⟨-1, _, p2, rfl, ((Same.new n0).add n1).add n2, ⟨.ref p1, ⟨p2, rfl, upd_same⟩, [.ref p0], ⟨p1, rfl, Same.new n2 _ _ upd_same⟩, .cons ⟨p0, rfl, ((Same.new n1).add n2) _ _ upd_same⟩ .nil⟩, .inr rfl, ?_, ?_⟩⟩⟩⟩
                      · split at hd <;> omega
                      · split at hd <;> split <;> omega
                · rintro σ' H6 ⟨z7, z8, sv', ms2, l3, gs3, rfl, ha6, _, hd, hm2⟩
                  have e : ((n2 : Int).toNat : Nat) = n2 := by omega
                  rw [e] at hm2
                  exact ⟨_, _, _, _, _, _, _, _, sv', ms2, l3, gs3, rfl, ha6, by omega⟩
          · refine ⟨_, rfl, small_le (by show 0 ≤ 100000; decide), fun p3 n3 => ⟨D, p3, out, rfl, rfl, .inr ⟨SqL.of (Same.new n3 _ _ hO), SqL.of upd_same⟩, _, rfl, ?_⟩⟩
            have t3 := Same.new n3 (o := .lst [])
            cases hout : out with
            | nil =>
              refine iteT (hN1 _ _ ⟨0, rfl, by have := ha.hl; omega, t3, fun g0 rest e => ?_⟩)
              rw [hout, e] at pO
              cases pO
            | cons x0 rest =>
              rw [hout] at pO hO
              cases eaw : awayL gs1 with
              | nil => rw [eaw] at pO; cases pO
              | cons g0 rest' =>
                have hmem : g0 ∈ awayL gs1 := by rw [eaw]; exact List.mem_cons_self
                have hin := (ha.gk.rg _ (awayL_mem hmem).1).1
                unfold InF at hin
                rw [eaw] at pO
                have hx0 : GAt H2 x0 g0 := by cases pO with | cons h t => exact h
                obtain ⟨px, rfl, hpx⟩ := hx0.mono t3.wk
                refine iteF ⟨_, rfl, _, _, _, _, rfl, rfl, SqL.of (t3 _ _ hO), at_of (j := 0) rfl rfl, _, _, _, _, rfl, rfl, SqT.of hpx, at_of (j := 0) rfl rfl, hN1 _ _ ⟨g0.1, rfl, ⟨hin.1, hin.2.1⟩, t3, fun g1 rest e => ?_⟩⟩
                rw [eaw] at e
                injection e with e _
                rw [e]
      · rintro σ H1 ⟨z4, z5, z6, z7, z8, z9, z10, z11, sv', ms, l1, gs1, rfl, ha, hml⟩
        exact hN _ _ ⟨_, _, _, _, _, _, _, _, sv', ms, l1, gs1, rfl, ha, hml⟩
end
end Wl

/-! W6g: the law's own defs, seventh part: the drawn parts. -/
namespace Wl
open PySem PySem.Spec PyProof.Rows L2
theorem kput_mem {d : KD} {k : Int × Int} {v : Int} {e : (Int × Int) × Int} (h : e ∈ kput d k v) : e ∈ d ∨ e.2 = v := by
  unfold kput at h
  split at h
  · obtain ⟨x, hx, ex⟩ := List.mem_map.mp h
    by_cases q : x.1 = k
    · rw [if_pos q] at ex
      right
      rw [← ex]
    · rw [if_neg q] at ex
      left
      rw [← ex]; exact hx
  · rcases List.mem_append.mp h with q | q
    · exact .inl q
    · right
      rw [List.mem_singleton.mp q]
section
variable {P : Program} {w : World} {K : PySem.W.Frag} {mg : Str → Option Value} {base : Heap}
/- slots of Lparts: 0:_law_hand_here 1:_law_great_here 2:_law_floors 3:_law_most 4:_law_known 5:_law_turn 6:_law_room 7:_law_pair; level 3 -/
def sp_Lparts (T : Txt K mg) : Sp := fun vs H Q _ => ∃ (a c : Addr), vs = [.ref a] ∧ HandAt H a c ∧
  ∀ p f r l g gs H', Grow a H H' → HandAt H' a c → H' p = some (.tup [.int f, .int r, .int l, g]) → GsAt H' g gs → (2 ≤ f ∧ f ≤ 40) → (1 ≤ r ∧ r ≤ 1000000000000) → (0 ≤ l ∧ l < f) → GOk f gs → gs.length ≤ 400 → (∀ g ∈ gs, g.2.2 ≤ 1000000000000000000000000000000) → Q (.ref p) H'
theorem ok_Lparts (T : Txt K mg) : FnOk P w K mg base CX0 3 T.Lparts.f T.Lparts.d ["_law_hand_here"] (sp_Lparts T) := by
  have nd := sc_Lparts.nd
  refine T.Lparts.F.ok sc_Lparts (fun vs H Q E h => ?_) (fun cdv A outer s H vs Q E hr h => ?_)
  · obtain ⟨a, c, rfl, _⟩ := h; rfl
  · obtain ⟨a, c, rfl, hh, q⟩ := h
    refine ⟨_, (pss_cons (ps_set (i := 1) nd rfl (Or.inl rfl) (pe_cmpR op_eq (pe_call (ok_Ldraw T) (hr.mono (by decide)) (by rfl) T.Ldraw.m T.Ldraw.F.kp T.Ldraw.b .nil pass0 (pa_cons (pv 0) (pa_cons pe_int pa_nil))) pe_int (nomark _)))
      (pss_cons (ps_set (i := 2) nd rfl (Or.inl rfl) (pe_op op_add pe_int (pe_call (ok_Ldraw T) (hr.mono (by decide)) (by rfl) T.Ldraw.m T.Ldraw.F.kp T.Ldraw.b .nil pass0 (pa_cons (pv 0) (pa_cons (pe_ifExp (pt_val (pv 1)) pe_int pe_int) pa_nil)))))
      (pss_cons (ps_set (i := 3) nd rfl (Or.inl rfl) (pe_ifExp (pt_val (pv 1)) (pe_call (ok_Lgreat T) (hr.mono (by decide)) (by rfl) T.Lgreat.m T.Lgreat.F.kp T.Lgreat.b .nil pass0 (pa_cons (pv 0) (pa_cons (pe_op op_pow pe_int pe_int) pa_nil))) pe_int))
      (pss_cons (ps_set (i := 4) nd rfl (Or.inr rfl) pe_dnewT)
      (pss_cons (ps_for PassesOwn.never rfl (pi_range1 (by rfl) T.n_range (pa_cons (pe_call (ok_Ldraw T) (hr.mono (by decide)) (by rfl) T.Ldraw.m T.Ldraw.F.kp T.Ldraw.b .nil pass0 (pa_cons (pv 0) (pa_cons pe_int pa_nil))) pa_nil)) (pg_name (i := 5) nd rfl (Or.inl rfl))
      (pss_one (ps_dput (hu_of hr) (pv 4) (pe_tup (pa_cons (pe_call (ok_Ldraw T) (hr.mono (by decide)) (by rfl) T.Ldraw.m T.Ldraw.F.kp T.Ldraw.b .nil pass0 (pa_cons (pv 0) (pa_cons (pv 2) pa_nil))) (pa_cons (pe_call (ok_Ldraw T) (hr.mono (by decide)) (by rfl) T.Ldraw.m T.Ldraw.F.kp T.Ldraw.b .nil pass0 (pa_cons (pv 0) (pa_cons (pv 2) pa_nil))) pa_nil))) (pv 3) rfl)))
      (pss_cons (ps_set (i := 6) nd rfl (Or.inl rfl) (pe_ifExp (pt_val (pv 1)) (pv 3) (pe_op op_add pe_int (pe_call (ok_Ldraw T) (hr.mono (by decide)) (by rfl) T.Ldraw.m T.Ldraw.F.kp T.Ldraw.b .nil pass0 (pa_cons (pv 0) (pa_cons pe_int pa_nil))))))
      (pss_one (ps_ret (pe_tup (pa_cons (pv 2) (pa_cons (pv 6) (pa_cons (pe_call (ok_Ldraw T) (hr.mono (by decide)) (by rfl) T.Ldraw.m T.Ldraw.F.kp T.Ldraw.b .nil pass0 (pa_cons (pv 0) (pa_cons (pv 2) pa_nil))) (pa_cons (pe_callTy (call_tupleK (K := K) rfl) (by rfl) T.n_tuple (by decide +kernel) (pa_cons (pe_callB (cr_sorted3 (K := K) rfl hr.units) (by rfl) T.n_sorted (by decide +kernel) (pa_cons (pe_lock (pe_lc (own := [("_law_pair", 7)]) (g := (gName 7)) (tt := tYes) rfl nd (pi_keys (pv 4)) (blkOk_by (own := [("_law_pair", 7)]) (N := n_Lparts) (sc := defScope s_Lparts) (by decide +kernel)) (fun _ _ _ _ _ => (pg_name (i := 7) nd rfl (Or.inl rfl))) (fun _ _ _ _ _ => pts_nil) (fun _ _ _ _ _ => (pe_op op_catU (pv 7) (pe_tup (pa_cons (pe_dget (hu_of hr) (pv 4) (pv 7) (fun _ _ => rfl)) pa_nil)))))) pa_nil)) pa_nil)) pa_nil))))))))))))), ?_⟩
    refine ⟨_, rfl, a, c, 5, rfl, hh, ⟨by decide, by decide⟩, fun k1 H1 g1 h1 b1 b2 => ⟨rfl, ?_⟩⟩
    generalize decide (V.int k1 = V.int 0) = gb
    dsimp only [gName]
    refine seq_cut (fun σ' H' => ∃ fl, σ' = [some (.ref a), some (.bl gb), some (.int fl), none, none, none, none, none] ∧ Grow a H H' ∧ HandAt H' a c ∧ (2 ≤ fl ∧ fl ≤ 40)) ?_ (fun N hN => ?_)
    · rintro σ' H2 ⟨fl, rfl, g2, h2, hf⟩
      refine seq_cut (fun σ' H' => ∃ mo, σ' = [some (.ref a), some (.bl gb), some (.int fl), some (.int mo), none, none, none, none] ∧ Grow a H H' ∧ HandAt H' a c ∧ (1 ≤ mo ∧ mo ≤ 1000000000000)) ?_ (fun N hN => ?_)
      · rintro σ' H3 ⟨mo, rfl, g3, h3, hm⟩
        refine fun dA nA => ?_
        have t4 := Same.new nA (o := .dT [])
        have hA : H dA = none := g3.free nA
        have hAn := h3.ne nA
        refine ⟨_, rfl, a, c, 4, rfl, h3.same t4, ⟨by decide, by decide⟩, fun n H4 g4 h4 b3 b4 => ⟨_, rfl, (by omega), (by omega), ?_⟩⟩
        refine for_range (fun i σ' H' => ∃ z5 kd, σ' = [some (.ref a), some (.bl gb), some (.int fl), some (.int mo), some (.ref dA), z5, none, none] ∧ Grow a H H' ∧ HandAt H' a c ∧ H' dA = some (.dT (rep kd)) ∧ KOk fl kd ∧ (∀ e ∈ kd, e.2 = mo) ∧ kd.length ≤ i) ⟨_, [], rfl, (g3.same t4).trans g4, h4, g4.keep _ _ hAn.1 upd_same, KOk.nil _, fun e he => absurd he (by simp), Nat.le_refl _⟩ ?_ ?_
        · rintro i σ' H5 hi ⟨z5, kd, rfl, g5, h5, hd, kok, hall, hlen⟩
          have hi4 : i < 4 := by omega
          refine ⟨_, rfl, _, rfl, _, rfl, _, rfl, a, c, fl, rfl, h5, ⟨by omega, by omega⟩, fun k1 H6 g6 h6 c1 c2 => ⟨_, rfl, _, rfl, a, c, fl, rfl, h6, ⟨by omega, by omega⟩, fun k2 H7 g7 h7 c3 c4 => ⟨small_le (by show 2 ≤ 100000; decide), fun p np => ?_⟩⟩⟩
          have t8 := Same.new np (o := .tup [.int k1, .int k2])
          have hd7 : H7 dA = some (.dT (rep kd)) := g7.keep _ _ hAn.1 (g6.keep _ _ hAn.1 hd)
          refine ⟨dA, _, rfl, dput_rep (k := (k1, k2)) (v := mo) (t8 _ _ hd7) upd_same (by omega), ?_⟩
          refine ⟨_, kput kd (k1, k2) mo, rfl, (((g5.trans g6).trans g7).same t8).mut hA _, (h7.same t8).mut hAn.1 hAn.2, upd_same, kok.put mo ⟨c1, c2, c3, c4⟩, fun e he => ?_, ?_⟩
          · rcases kput_mem he with z | z
            · exact hall e z
            · exact z
          · have := kput_len kd (k1, k2) mo
            omega
        · rintro σ' H5 ⟨z5, kd, rfl, g5, h5, hd, kok, hall, hlen⟩
          have hlen : kd.length ≤ 4 := by omega
          dsimp only [gName]
          refine seq_cut (fun σ' H' => ∃ ro, σ' = [some (.ref a), some (.bl gb), some (.int fl), some (.int mo), some (.ref dA), z5, some (.int ro), none] ∧ Grow a H5 H' ∧ HandAt H' a c ∧ (1 ≤ ro ∧ ro ≤ 1000000000000)) ?_ (fun N hN => ?_)
          · rintro σ' H6 ⟨ro, rfl, g6, h6, hro⟩
            refine ⟨_, rfl, _, rfl, _, rfl, _, rfl, a, c, fl, rfl, h6, ⟨by omega, by omega⟩, fun li H7 g7 h7 c1 c2 => ?_⟩
            have hd7 : H7 dA = some (.dT (rep kd)) := g7.keep _ _ hAn.1 (g6.keep _ _ hAn.1 hd)
            refine ⟨dA, _, hd7, trivial, fun od => ⟨_, rfl, dA, od, rfl, .inr ⟨rep kd, upd_same, fun D nD => lc_keysG (E := GAt) (fun e => some ((e.1.1, e.1.2, e.2) : G)) nD upd_same (by omega) (fun h w => h.mono w) (fun x b H' R R0 hb hq s1 kR k0 => ?_) (fun H8 out s8 hO pO => ?_)⟩⟩⟩
            · have lk := klook_of_mem kok.nd hb
              have f1 : H' dA = some (.frz od (.dT (rep kd))) := s1 _ _ upd_same
              refine ⟨rfl, yesI ⟨_, rfl, _, rfl, _, rfl, dA, _, rfl, dget_some (.inr ⟨od, f1⟩) hq lk, small_le (by show 1 ≤ 100000; decide), fun p np => ⟨x, p, _, _, rfl, rfl, Same.new np _ _ hq, upd_same, (by show 2 + 1 ≤ 100000; decide), fun p2 H2 s2 hp2 => kR _ (b.1.1, b.1.2, b.2) _ ((Same.new np).trans s2) rfl ⟨p2, rfl, hp2⟩⟩⟩⟩
            · rw [fm_some] at pO
              have pO : Paired (GAt H8) out (rowsAll kd) := pO
              have hf8 : H8 dA = some (.frz od (.dT (rep kd))) := s8 _ _ upd_same
              have sU := unlock_same hd7 s8
              have nDd : D ≠ dA := fun z => by subst z; rw [upd_same] at nD; cases nD
              refine ⟨hf8, D, out, _, rfl, SqL.of (by rw [upd_ne nDd]; exact hO), unfrz hf8 pO, fun p1 ys n1 py => ⟨p1, ys, rfl, .inl ⟨SqL.of upd_same, fun p2 n2 => ⟨small_le (by show 4 ≤ 100000; decide), fun p3 n3 => ?_⟩⟩⟩⟩
              have t9 := ((Same.new n1 (o := .lst ys)).add n2 (o := .tup ys)).add n3 (o := .tup [.int fl, .int ro, .int li, .ref p2])
              have gF := (((g5.trans g6).trans g7).same sU).same t9
              have hF := (h7.same sU).same t9
              have hlen2 : (sort3 (rowsAll kd)).length ≤ 400 := by
                rw [sort3_len]
                unfold rowsAll
                rw [List.length_map]
                omega
              refine q p3 fl ro li _ (sort3 (rowsAll kd)) _ gF hF upd_same ⟨ys, ⟨p2, rfl, Same.new n3 _ _ upd_same⟩, pmap py fun _ _ z => TupAt.mono z t9.wk⟩ hf hro ⟨c1, c2⟩ (gok_rowsAll kok fun e he => by rw [hall e he]; exact hm.1) hlen2 fun g hg => ?_
              have hg := sort3_mem.mp hg
              unfold rowsAll at hg
              obtain ⟨e, he, eq⟩ := List.mem_map.mp hg
              subst eq
              show e.2 ≤ _
              rw [hall e he]
              omega
          · cases gb with
            | true => exact ⟨_, rfl, _, rfl, iteT ⟨_, rfl, hN _ _ ⟨mo, rfl, h5.g, h5, hm⟩⟩⟩
            | false => exact ⟨_, rfl, _, rfl, iteF ⟨_, rfl, a, c, 3, rfl, h5, ⟨by decide, by decide⟩, fun k H6 g6 h6 c1 c2 => ⟨_, _, rfl, rfl, hN _ _ ⟨1 + k, rfl, g6, h6, by omega, by omega⟩⟩⟩⟩
      · cases gb with
        | true => exact ⟨_, rfl, _, rfl, iteT ⟨_, rfl, _, _, rfl, rfl, ⟨by decide, by decide, by decide⟩, a, c, _, rfl, h2, by decide, fun k H3 g3 h3 c1 c2 => hN _ _ ⟨k, rfl, g2.trans g3, h3, c1, c2⟩⟩⟩
        | false => exact ⟨_, rfl, _, rfl, iteF (hN _ _ ⟨2, rfl, g2, h2, by decide, by decide⟩)⟩
    · cases gb with
      | true => exact ⟨_, rfl, _, rfl, _, rfl, iteT ⟨a, c, 39, rfl, h1, ⟨by decide, by decide⟩, fun k H2 g2 h2 c1 c2 => ⟨_, _, rfl, rfl, hN _ _ ⟨2 + k, rfl, g1.trans g2, h2, by omega, by omega⟩⟩⟩⟩
      | false => exact ⟨_, rfl, _, rfl, _, rfl, iteF ⟨a, c, 9, rfl, h1, ⟨by decide, by decide⟩, fun k H2 g2 h2 c1 c2 => ⟨_, _, rfl, rfl, hN _ _ ⟨2 + k, rfl, g1.trans g2, h2, by omega, by omega⟩⟩⟩⟩
end
end Wl

/-! W6h: the law's own defs, eighth part: changed plans. -/
namespace Wl
open PySem PySem.Spec PyProof.Rows L2
/-- a thing that both can look at -/
def OkV (C : Addr) (H : Hp) (v : V) : Prop := ∃ d, DAt C H v d ∧ dOk d
section
variable {C : Addr} {H H' : Hp} {p : Addr} {xs : List V} {v : V}
theorem OkV.mono (h : OkV C H v) (w : Wk H H') : OkV C H' v := let ⟨d, h1, h2⟩ := h; ⟨d, h1.mono w, h2⟩
theorem OkV.same (h : OkV C H v) (s : Same H H') : OkV C H' v := h.mono s.wk
theorem OkV.int {i : Int} (h : i ≤ 10000000000000000000000000000000000000000) : OkV C H (.int i) := ⟨.int i, .int i, h⟩
theorem OkV.non : OkV C H .non := ⟨.bad, .non, trivial⟩
theorem OkV.bl {b : Bool} : OkV C H (.bl b) := ⟨.bad, .bl b, trivial⟩
theorem OkV.str {x : Str} : OkV C H (.str x) := ⟨.bad, .str x, trivial⟩
theorem OkV.lst (h : H p = some (.lst xs)) : OkV C H (.ref p) := ⟨.bad, .lst h, trivial⟩
theorem OkV.dic {kvs : List (L2.Key × V)} (h : H p = some (.dK kvs)) : OkV C H (.ref p) := ⟨.bad, .dic h, trivial⟩
theorem al_nil {P : V → Prop} : ∀ x ∈ ([] : List V), P x := fun x h => absurd h (by simp)
theorem al_cons {P : V → Prop} (h : P v) (t : ∀ x ∈ xs, P x) : ∀ x ∈ v :: xs, P x := List.forall_mem_cons.mpr ⟨h, t⟩
theorem al_same (h : ∀ x ∈ xs, OkV C H x) (s : Same H H') : ∀ x ∈ xs, OkV C H' x := fun x hx => (h x hx).same s
theorem ds_of : ∀ {xs : List V}, (∀ x ∈ xs, OkV C H x) → ∃ ds, DsAt C H xs ds ∧ dsOk ds
  | [], _ => ⟨[], .nil, trivial⟩
  | x :: xs, h => by
    obtain ⟨d, h1, h2⟩ := h x List.mem_cons_self
    obtain ⟨ds, h3, h4⟩ := ds_of (xs := xs) fun y hy => h y (List.mem_cons_of_mem _ hy)
    exact ⟨d :: ds, .cons h1 h3, h2, h4⟩
theorem OkV.tup (h : H p = some (.tup xs)) (ha : ∀ x ∈ xs, OkV C H x) (hl : xs.length ≤ 10000) : OkV C H (.ref p) := by
  obtain ⟨ds, h1, h2⟩ := ds_of ha
  exact ⟨.tup ds, .tup h h1, by rw [← h1.length]; exact hl, h2⟩
theorem OkV.new (n : H p = none) (ha : ∀ x ∈ xs, OkV C H x) (hl : xs.length ≤ 10000) : OkV C (upd H p (.tup xs)) (.ref p) := OkV.tup upd_same (al_same ha (Same.new n)) hl
theorem cut_mem {lo hi : Option Int} {x : V} (h : x ∈ cutV xs lo hi) : x ∈ xs := by
  unfold cutV at h
  exact List.mem_of_mem_drop (List.mem_of_mem_take h)
theorem cut_len {lo hi : Option Int} : (cutV xs lo hi).length ≤ xs.length := by
  unfold cutV
  rw [List.length_take, List.length_drop]
  omega
theorem al_cut {P : V → Prop} {lo hi : Option Int} (h : ∀ x ∈ xs, P x) : ∀ x ∈ cutV xs lo hi, P x := fun x hx => h x (cut_mem hx)
theorem al_app {P : V → Prop} {ys : List V} (h : ∀ x ∈ xs, P x) (h2 : ∀ x ∈ ys, P x) : ∀ x ∈ xs ++ ys, P x := fun x hx => (List.mem_append.mp hx).elim (h x) (h2 x)
theorem at_all {P : V → Prop} {k : Int} (h : ∀ x ∈ xs, P x) (h0 : 0 ≤ k) (h1 : k < xs.length) : ∃ v, atI xs k = some v ∧ P v := by
  have hk : k.toNat < xs.length := by omega
  exact ⟨xs[k.toNat], at_of (j := k.toNat) (by omega) (List.getElem?_eq_getElem hk), h _ (List.getElem_mem hk)⟩
theorem PAt.okv {q : Int × Int} (h : PAt H v q) (h1 : q.1 ≤ 1000000000000) (h2 : q.2 ≤ 1000000000000) : OkV C H v := ⟨pD q, PAt.d h, by show 2 ≤ 10000; decide, (by show q.1 ≤ _; omega), (by show q.2 ≤ _; omega), trivial⟩
theorem MvAt.okv {m : Mv} (h : MvAt H v m) (hs : Small 1000000000000 m) (hl : m.2.length ≤ 40) : OkV C H v :=
  ⟨mvD m, h.d, dOk_mvD (by omega) (by rcases hs.1 with e | e <;> omega) fun p hp => by have := hs.2 p hp; omega⟩
end
theorem HouAt.okv {K : PySem.W.Frag} {mg : Str → Option Value} {T : Txt K mg} {H : Hp} {v : V} {f r : Int} (h : HouAt T H v f r) : OkV T.a_House H v := by
  obtain ⟨p, dx, rfl, e⟩ := h
  exact ⟨.bad, .hou e, trivial⟩
theorem mem_fst {α β : Type} {F : α → β → Prop} : ∀ {l : List α} {m : List β}, Paired F l m → ∀ a ∈ l, ∃ b ∈ m, F a b
  | _, _, .nil, a, h => by cases h
  | _, _, .cons (a := x) (b := y) h t, a, ha => by
    rcases List.mem_cons.mp ha with e | e
    · rw [e]; exact ⟨y, List.mem_cons_self, h⟩
    · obtain ⟨b, hb, f⟩ := mem_fst t a e
      exact ⟨b, List.mem_cons_of_mem _ hb, f⟩
section
variable {P : Program} {w : World} {K : PySem.W.Frag} {mg : Str → Option Value} {base : Heap}
/- slots of Lbent_move: 0:_law_hand_here 1:_law_move_here 2:_law_house 3:_law_way 4:_law_aboard 5:_law_things 6:_law_thing 7:_law_kind 8:_law_at 9:_law_want 10:_law_many 11:_law_pair; level 2 -/
def sp_Lbent_move (T : Txt K mg) : Sp := fun vs H Q _ => ∃ (a c : Addr) (mv hv : V) (m : Mv) (f r : Int), vs = [.ref a, mv, hv] ∧ HandAt H a c ∧ MvAt H mv m ∧ HouAt T H hv f r ∧ Small 1000000000000 m ∧ m.2.length ≤ 40 ∧
  ∀ v H', Grow a H H' → HandAt H' a c → OkV T.a_House H' v → Q v H'
theorem ok_Lbent_move (T : Txt K mg) : FnOk P w K mg base CX0 2 T.Lbent_move.f T.Lbent_move.d ["_law_hand_here", "_law_move_here", "_law_house"] (sp_Lbent_move T) := by
  have nd := sc_Lbent_move.nd
  refine T.Lbent_move.F.ok sc_Lbent_move (fun vs H Q E h => ?_) (fun cdv A outer s H vs Q E hr h => ?_)
  · obtain ⟨a, c, mv, hv, m, f, r, rfl, _⟩ := h; rfl
  · obtain ⟨a, c, mv, hv, m, f, r, rfl, hh, ⟨av, ⟨pmv, rfl, hpv⟩, xs, ⟨pa, rfl, hpa⟩, hps⟩, hho, hsm, hml, q⟩ := h
    refine ⟨_, (pss_cons (ps_asg (pv 1) (pg_tupK (K := K) rfl rfl (pgs_cons (pg_name (i := 3) nd rfl (Or.inl rfl)) (pgs_cons (pg_name (i := 4) nd rfl (Or.inl rfl)) pgs_nil))))
      (pss_cons (ps_set (i := 5) nd rfl (Or.inl rfl) (pe_lst (pa_cons pe_int (pa_cons pe_int (pa_cons (pe_un un_neg pe_int) (pa_cons pe_int (pa_cons (pe_un un_neg pe_int) (pa_cons pe_bl (pa_cons pe_bl (pa_cons pe_non (pa_cons pe_str (pa_cons (pe_tup (pa_cons pe_int pa_nil)) (pa_cons (pe_op op_pow pe_int pe_int) (pa_cons (pv 2) (pa_cons (pe_call (ok_Ldeep T) (hr.mono (by decide)) (by rfl) T.Ldeep.m T.Ldeep.F.kp T.Ldeep.b .nil pass0 (pa_cons (pe_call (ok_Ldraw T) (hr.mono (by decide)) (by rfl) T.Ldraw.m T.Ldraw.F.kp T.Ldraw.b .nil pass0 (pa_cons (pv 0) (pa_cons pe_int pa_nil))) pa_nil)) pa_nil)))))))))))))))
      (pss_cons (ps_set (i := 6) nd rfl (Or.inl rfl) (pe_ix (ix_listK (K := K) rfl) (pv 5) (pe_call (ok_Ldraw T) (hr.mono (by decide)) (by rfl) T.Ldraw.m T.Ldraw.F.kp T.Ldraw.b .nil pass0 (pa_cons (pv 0) (pa_cons (pe_callB (call_lenK (K := K) rfl) (by rfl) T.n_len (by decide +kernel) (pa_cons (pv 5) pa_nil)) pa_nil))) (fun _ _ => rfl)))
      (pss_cons (ps_set (i := 7) nd rfl (Or.inl rfl) (pe_call (ok_Ldraw T) (hr.mono (by decide)) (by rfl) T.Ldraw.m T.Ldraw.F.kp T.Ldraw.b .nil pass0 (pa_cons (pv 0) (pa_cons pe_int pa_nil))))
      (pss_cons (ps_if (pt_cmpR op_eq (pv 7) pe_int (nomark _))
      (pss_one (ps_ret (pe_tup (pa_cons (pv 6) (pa_cons (pv 4) pa_nil)))))
      pss_nil)
      (pss_cons (ps_if (pt_cmpR op_eq (pv 7) pe_int (nomark _))
      (pss_one (ps_ret (pe_ix (ix_listK (K := K) rfl) (pe_lst (pa_cons (pe_lst (pa_cons (pv 3) (pa_cons (pv 4) pa_nil))) (pa_cons (pe_tup (pa_cons (pv 3) pa_nil)) (pa_cons (pe_tup (pa_cons (pv 3) (pa_cons (pv 4) (pa_cons (pe_tup pa_nil) pa_nil)))) (pa_cons pe_non (pa_cons pe_int (pa_cons pe_dnewK (pa_cons pe_str (pa_cons (pe_tup (pa_cons (pv 4) (pa_cons (pv 3) pa_nil))) pa_nil))))))))) (pe_call (ok_Ldraw T) (hr.mono (by decide)) (by rfl) T.Ldraw.m T.Ldraw.F.kp T.Ldraw.b .nil pass0 (pa_cons (pv 0) (pa_cons pe_int pa_nil))) (fun _ _ => rfl))))
      pss_nil)
      (pss_cons (ps_if (pt_cmpR op_eq (pv 7) pe_int (nomark _))
      (pss_one (ps_ret (pe_tup (pa_cons (pv 3) (pa_cons (pe_ix (ix_listK (K := K) rfl) (pe_lst (pa_cons (pe_callTy (call_listK (K := K) rfl) (by rfl) T.n_list (by decide +kernel) (pa_cons (pv 4) pa_nil)) (pa_cons pe_non (pa_cons pe_int (pa_cons pe_dnewK (pa_cons pe_str (pa_cons (pv 2) pa_nil))))))) (pe_call (ok_Ldraw T) (hr.mono (by decide)) (by rfl) T.Ldraw.m T.Ldraw.F.kp T.Ldraw.b .nil pass0 (pa_cons (pv 0) (pa_cons pe_int pa_nil))) (fun _ _ => rfl)) pa_nil)))))
      pss_nil)
      (pss_cons (ps_if (pt_cmpR op_eq (pv 7) pe_int (nomark _))
      (pss_one (ps_ret (pe_tup (pa_cons (pv 3) (pa_cons (pe_revT (K := K) rfl (pv 4)) pa_nil)))))
      pss_nil)
      (pss_cons (ps_set (i := 8) nd rfl (Or.inl rfl) (pe_call (ok_Ldraw T) (hr.mono (by decide)) (by rfl) T.Ldraw.m T.Ldraw.F.kp T.Ldraw.b .nil pass0 (pa_cons (pv 0) (pa_cons (pe_op op_add (pe_callB (call_lenK (K := K) rfl) (by rfl) T.n_len (by decide +kernel) (pa_cons (pv 4) pa_nil)) pe_int) pa_nil))))
      (pss_cons (ps_if (pt_cmpR op_eq (pv 7) pe_int (nomark _))
      (pss_one (ps_ret (pe_tup (pa_cons (pv 3) (pa_cons (pe_op op_catU (pe_op op_catU (pe_slice sl_tupU (pv 4) po_none (po_some (pv 8))) (pe_tup (pa_cons (pv 6) pa_nil))) (pe_slice sl_tupU (pv 4) (po_some (pv 8)) po_none)) pa_nil)))))
      pss_nil)
      (pss_cons (ps_if (pt_cmpR op_eq (pv 7) pe_int (nomark _))
      (pss_one (ps_ret (pe_tup (pa_cons (pv 3) (pa_cons (pe_op op_catU (pe_op op_catU (pe_slice sl_tupU (pv 4) po_none (po_some (pv 8))) (pe_tup (pa_cons (pe_tup (pa_cons (pe_call (ok_Ldraw T) (hr.mono (by decide)) (by rfl) T.Ldraw.m T.Ldraw.F.kp T.Ldraw.b .nil pass0 (pa_cons (pv 0) (pa_cons pe_int pa_nil))) (pa_cons (pe_op op_add pe_int (pe_call (ok_Ldraw T) (hr.mono (by decide)) (by rfl) T.Ldraw.m T.Ldraw.F.kp T.Ldraw.b .nil pass0 (pa_cons (pv 0) (pa_cons pe_int pa_nil)))) pa_nil))) pa_nil))) (pe_slice sl_tupU (pv 4) (po_some (pv 8)) po_none)) pa_nil)))))
      pss_nil)
      (pss_cons (ps_if (pt_cmpR (op_eqEK (K := K) rfl hr.units) (pv 4) (pe_tup pa_nil) (nomark _))
      (pss_one (ps_ret (pe_tup (pa_cons (pe_un un_neg (pv 3)) (pa_cons (pv 4) pa_nil)))))
      pss_nil)
      (pss_cons (ps_set (i := 8) nd rfl (Or.inl rfl) (pe_call (ok_Ldraw T) (hr.mono (by decide)) (by rfl) T.Ldraw.m T.Ldraw.F.kp T.Ldraw.b .nil pass0 (pa_cons (pv 0) (pa_cons (pe_callB (call_lenK (K := K) rfl) (by rfl) T.n_len (by decide +kernel) (pa_cons (pv 4) pa_nil)) pa_nil))))
      (pss_cons (ps_asg (pe_ix (ix_tupK (K := K) rfl) (pv 4) (pv 8) (fun _ _ => rfl)) (pg_tupK (K := K) rfl rfl (pgs_cons (pg_name (i := 9) nd rfl (Or.inl rfl)) (pgs_cons (pg_name (i := 10) nd rfl (Or.inl rfl)) pgs_nil))))
      (pss_cons (ps_set (i := 11) nd rfl (Or.inl rfl) (pe_lst (pa_cons (pe_tup (pa_cons (pv 6) (pa_cons (pv 10) pa_nil))) (pa_cons (pe_tup (pa_cons (pv 9) (pa_cons (pv 6) pa_nil))) (pa_cons (pe_lst (pa_cons (pv 9) (pa_cons (pv 10) pa_nil))) (pa_cons (pe_tup (pa_cons (pv 9) pa_nil)) (pa_cons (pe_tup (pa_cons (pv 9) (pa_cons (pv 10) (pa_cons pe_int pa_nil)))) (pa_cons (pe_tup (pa_cons (pv 9) (pa_cons (pe_op op_add (pv 10) pe_int) pa_nil))) (pa_cons (pe_tup (pa_cons (pe_op op_add (pv 9) pe_int) (pa_cons (pv 10) pa_nil))) pa_nil)))))))))
      (pss_cons (ps_set (i := 11) nd rfl (Or.inl rfl) (pe_ix (ix_listK (K := K) rfl) (pe_op op_cat (pv 11) (pe_lst (pa_cons (pe_tup (pa_cons (pv 9) (pa_cons pe_int pa_nil))) (pa_cons (pe_tup (pa_cons (pv 9) (pa_cons (pe_un un_neg (pv 10)) pa_nil))) (pa_cons (pe_tup (pa_cons (pv 9) (pa_cons (pe_op op_add (pe_op op_pow pe_int pe_int) pe_int) pa_nil))) pa_nil))))) (pe_call (ok_Ldraw T) (hr.mono (by decide)) (by rfl) T.Ldraw.m T.Ldraw.F.kp T.Ldraw.b .nil pass0 (pa_cons (pv 0) (pa_cons pe_int pa_nil))) (fun _ _ => rfl)))
      (pss_one (ps_ret (pe_tup (pa_cons (pv 3) (pa_cons (pe_op op_catU (pe_op op_catU (pe_slice sl_tupU (pv 4) po_none (po_some (pv 8))) (pe_tup (pa_cons (pv 11) pa_nil))) (pe_slice sl_tupU (pv 4) (po_some (pe_op op_add (pv 8) pe_int)) po_none)) pa_nil))))))))))))))))))))), ?_⟩
    have xl : xs.length = m.2.length := Paired.length hps
    have hw1 : m.1 ≤ 1 := by rcases hsm.1 with e | e <;> omega
    have hw2 : -m.1 ≤ 1 := by rcases hsm.1 with e | e <;> omega
    have okm : OkV T.a_House H (.int m.1) := OkV.int (by omega)
    have okW : ∀ {H' : Hp}, OkV T.a_House H' (.int m.1) := OkV.int (by omega)
    have okX : ∀ x ∈ xs, OkV T.a_House H x := fun x hx => by
      obtain ⟨b, hb, fb⟩ := mem_fst hps x hx
      have := hsm.2 b hb
      exact PAt.okv fb (by omega) (by omega)
    have okA : OkV T.a_House H (.ref pa) := OkV.tup hpa okX (by omega)
    refine ⟨_, rfl, _, _, rfl, SqT.of hpv, rfl, _, _, rfl, _, _, rfl, rfl, ?_⟩
    -- things
    refine ⟨_, rfl, _, rfl, small_le (by show 1 ≤ 100000; decide), fun p1 n1 => ⟨_, _, rfl, rfl, ⟨by decide, by decide, by decide⟩, _, rfl, _, rfl, a, c, 3, rfl, hh.same (Same.new n1), ⟨by decide, by decide⟩, fun k1 H1 g1 h1 b1 b2 => ⟨k1, rfl, b1, b2, fun dv dd H2 s2 hd okd => ⟨small_le (by show 13 ≤ 100000; decide), fun p2 n2 => ?_⟩⟩⟩⟩
    have t1 := Same.new n1 (o := .tup [.int 1])
    have t2 := Same.new n2 (o := .lst [.int 0, .int 2, .int (-2), .int 1, .int (-1), .bl true, .bl false, .non, .str "1", .ref p1, .int (10 ^ ((39 : Int).toNat)), hv, dv])
    have ten39 : (10 : Int) ^ ((39 : Int).toNat) ≤ 10000000000000000000000000000000000000000 := by decide +kernel
    have okP1 : OkV T.a_House H2 (.ref p1) := (OkV.new n1 (al_cons (OkV.int (by decide)) al_nil) (by simp)).mono (g1.wk.trans s2.wk)
    have okT : ∀ x ∈ [V.int 0, .int 2, .int (-2), .int 1, .int (-1), .bl true, .bl false, .non, .str "1", .ref p1, .int (10 ^ ((39 : Int).toNat)), hv, dv], OkV T.a_House H2 x :=
      al_cons (OkV.int (by decide)) (al_cons (OkV.int (by decide)) (al_cons (OkV.int (by decide)) (al_cons (OkV.int (by decide)) (al_cons (OkV.int (by decide)) (al_cons OkV.bl (al_cons OkV.bl (al_cons OkV.non (al_cons OkV.str (al_cons okP1 (al_cons (OkV.int ten39) (al_cons (hho.okv.mono ((t1.wk.trans g1.wk).trans s2.wk)) (al_cons ⟨dd, hd, okd⟩ al_nil))))))))))))
    have g2 : Grow a H (upd H2 p2 (.lst [.int 0, .int 2, .int (-2), .int 1, .int (-1), .bl true, .bl false, .non, .str "1", .ref p1, .int (10 ^ ((39 : Int).toNat)), hv, dv])) := (((hh.gs t1).trans g1).same s2).same t2
    have h2 := (h1.same s2).same t2
    have hp2 := (h1.same s2).ne n2
    -- thing
    refine ⟨_, rfl, _, rfl, _, rfl, p2, _, rfl, .inl (SqL.of upd_same), a, c, _, rfl, h2, ⟨by show (1 : Int) ≤ 13; decide, by show (13 : Int) < 1073741824; decide⟩, fun k3 H3 g3 h3 b3 b4 => ?_⟩
    have okT3 := fun x hx => (okT x hx).mono (t2.wk.trans g3.wk)
    obtain ⟨tv, hat, okt⟩ := at_all okT3 b3 b4
    refine ⟨_, _, _, _, rfl, rfl, SqL.of (g3.keep _ _ hp2.1 upd_same), hat, ?_⟩
    -- kind
    refine ⟨_, rfl, a, c, 9, rfl, h3, ⟨by decide, by decide⟩, fun kd H4 g4 h4 b5 b6 => ?_⟩
    have gA := (g2.trans g3).trans g4
    have okt := okt.mono g4.wk
    have okA4 := okA.mono gA.wk
    have okH4 := hho.okv.mono gA.wk
    have okX4 : ∀ x ∈ xs, OkV T.a_House H4 x := fun x hx => (okX x hx).mono gA.wk
    have hpa4 := gA.wk.tup hpa
    have hps4 := pmap hps fun _ _ z => TupAt.mono z gA.wk
    clear okT okT3 okP1 t2 g2 h2 hp2
    refine ⟨_, rfl, rfl, _, rfl, iteB (fun h => ?_) fun h => ?_⟩
    · exact ⟨_, rfl, _, rfl, small_le (by show 2 ≤ 100000; decide), fun p n => q _ _ (gA.same (Same.new n)) (h4.same (Same.new n)) (OkV.new n (al_cons okt (al_cons okA4 al_nil)) (by simp))⟩
    refine ⟨_, rfl, rfl, _, rfl, iteB (fun h => ?_) fun h => ?_⟩
    · refine ⟨_, rfl, _, rfl, small_le (by show 2 ≤ 100000; decide), fun p1 n1 => ⟨_, rfl, small_le (by show 1 ≤ 100000; decide), fun p2 n2 => ⟨_, rfl, _, rfl, small_le (by show 0 ≤ 100000; decide), fun p3 n3 => ⟨small_le (by show 3 ≤ 100000; decide), fun p4 n4 => fun p5 n5 => ⟨_, rfl, _, rfl, small_le (by show 2 ≤ 100000; decide), fun p6 n6 => ⟨small_le (by show 8 ≤ 100000; decide), fun p7 n7 => ?_⟩⟩⟩⟩⟩⟩
      have t1 := Same.new n1 (o := .lst [.int m.1, .ref pa])
      have t2 := Same.new n2 (o := .tup [.int m.1])
      have t3 := Same.new n3 (o := .tup [])
      have t4 := Same.new n4 (o := .tup [.int m.1, .ref pa, .ref p3])
      have t5 := Same.new n5 (o := .dK [])
      have t6 := Same.new n6 (o := .tup [.ref pa, .int m.1])
      have t7 := Same.new n7 (o := .lst [.ref p1, .ref p2, .ref p4, .non, .int 0, .ref p5, .str "move", .ref p6])
      have e1 := (OkV.lst (C := T.a_House) (upd_same (H := H4) (a := p1) (o := .lst [.int m.1, .ref pa]))).same (((((t2.trans t3).trans t4).trans t5).trans t6).trans t7)
      have e2 := (OkV.new n2 (al_cons okW al_nil) (by simp)).same ((((t3.trans t4).trans t5).trans t6).trans t7)
      have e3 := OkV.new (C := T.a_House) n3 al_nil (by simp)
      have e4 := (OkV.new n4 (al_cons okW (al_cons (okA4.same ((t1.trans t2).trans t3)) (al_cons e3 al_nil))) (by simp)).same ((t5.trans t6).trans t7)
      have e5 := (OkV.dic (C := T.a_House) (upd_same (a := p5) (o := .dK []))).same (t6.trans t7)
      have e6 := (OkV.new n6 (al_cons (okA4.same ((((t1.trans t2).trans t3).trans t4).trans t5)) (al_cons okW al_nil)) (by simp)).same t7
      have tt := (((((t1.trans t2).trans t3).trans t4).trans t5).trans t6).trans t7
      have hp7 := (h4.same (((((t1.trans t2).trans t3).trans t4).trans t5).trans t6)).ne n7
      refine ⟨_, rfl, a, c, 8, rfl, h4.same tt, ⟨by decide, by decide⟩, fun k5 H5 g5 h5 b7 b8 => ?_⟩
      obtain ⟨v, hv1, hv2⟩ := at_all (xs := [.ref p1, .ref p2, .ref p4, .non, .int 0, .ref p5, .str "move", .ref p6]) (P := OkV T.a_House H5) (fun x hx => OkV.mono (al_cons e1 (al_cons e2 (al_cons e4 (al_cons OkV.non (al_cons (OkV.int (by decide)) (al_cons e5 (al_cons OkV.str (al_cons e6 al_nil))))))) x hx) g5.wk) b7 b8
      exact ⟨_, _, _, _, rfl, rfl, SqL.of (g5.keep _ _ hp7.1 upd_same), hv1, q _ _ ((gA.same tt).trans g5) h5 hv2⟩
    refine ⟨_, rfl, rfl, _, rfl, iteB (fun h => ?_) fun h => ?_⟩
    · refine ⟨_, rfl, _, rfl, pa, xs, rfl, .inr (SqT.of hpa4), fun p1 n1 => fun p2 n2 => ⟨_, rfl, small_le (by show 6 ≤ 100000; decide), fun p3 n3 => ?_⟩⟩
      have t1 := Same.new n1 (o := .lst xs)
      have t2 := Same.new n2 (o := .dK [])
      have t3 := Same.new n3 (o := .lst [.ref p1, .non, .int 0, .ref p2, .str "", hv])
      have e1 := (OkV.lst (C := T.a_House) (upd_same (H := H4) (a := p1) (o := .lst xs))).same (t2.trans t3)
      have e2 := (OkV.dic (C := T.a_House) (upd_same (a := p2) (o := .dK []))).same t3
      have tt := (t1.trans t2).trans t3
      have hp3 := (h4.same (t1.trans t2)).ne n3
      refine ⟨_, rfl, a, c, 6, rfl, h4.same tt, ⟨by decide, by decide⟩, fun k5 H5 g5 h5 b7 b8 => ?_⟩
      obtain ⟨v, hv1, hv2⟩ := at_all (xs := [.ref p1, .non, .int 0, .ref p2, .str "", hv]) (P := OkV T.a_House H5) (fun x hx => OkV.mono (al_cons e1 (al_cons OkV.non (al_cons (OkV.int (by decide)) (al_cons e2 (al_cons OkV.str (al_cons (okH4.same tt) al_nil))))) x hx) g5.wk) b7 b8
      exact ⟨_, _, _, _, rfl, rfl, SqL.of (g5.keep _ _ hp3.1 upd_same), hv1, small_le (by show 2 ≤ 100000; decide), fun p n => q _ _ (((gA.same tt).trans g5).same (Same.new n)) (h5.same (Same.new n)) (OkV.new n (al_cons okW (al_cons hv2 al_nil)) (by simp))⟩
    refine ⟨_, rfl, rfl, _, rfl, iteB (fun h => ?_) fun h => ?_⟩
    · refine ⟨_, rfl, _, rfl, pa, xs, rfl, SqT.of hpa4, fun p1 n1 => ⟨small_le (by show 2 ≤ 100000; decide), fun p2 n2 => ?_⟩⟩
      have t1 := Same.new n1 (o := .tup xs.reverse)
      have e1 : OkV T.a_House (upd H4 p1 (.tup xs.reverse)) (.ref p1) := OkV.new n1 (fun x hx => okX4 x (List.mem_reverse.mp hx)) (by rw [List.length_reverse]; omega)
      exact q _ _ ((gA.same t1).same (Same.new n2)) ((h4.same t1).same (Same.new n2)) (OkV.new n2 (al_cons okW (al_cons e1 al_nil)) (by simp))
    -- at
    refine ⟨_, rfl, _, rfl, pa, xs, rfl, .inr (SqT.of hpa4), _, _, rfl, rfl, a, c, _, rfl, h4, ⟨by omega, by omega⟩, fun ka H5 g5 h5 b7 b8 => ?_⟩
    have gB := gA.trans g5
    have okt5 := okt.mono g5.wk
    have okX5 : ∀ x ∈ xs, OkV T.a_House H5 x := fun x hx => (okX4 x hx).mono g5.wk
    have hpa5 := g5.wk.tup hpa4
    have okA5 := okA4.mono g5.wk
    have hps5 := pmap hps4 fun _ _ z => TupAt.mono z g5.wk
    refine ⟨_, rfl, rfl, _, rfl, iteB (fun h => ?_) fun h => ?_⟩
    · refine ⟨_, rfl, _, rfl, _, rfl, _, rfl, pa, xs, rfl, hpa5, fun p1 H6 s6 e6 => ⟨_, rfl, small_le (by show 1 ≤ 100000; decide), fun p2 n2 => ?_⟩⟩
      have t2 := Same.new n2 (o := .tup [tv])
      refine ⟨p1, p2, _, _, rfl, rfl, t2 _ _ e6, upd_same, ?_, fun p3 H7 s7 e7 => ?_⟩
      · have := cut_len (xs := xs) (lo := none) (hi := some ka)
        show (cutV xs none (some ka)).length + 1 ≤ 100000
        omega
      have s57 := (s6.trans t2).trans s7
      refine ⟨_, rfl, _, rfl, _, rfl, pa, xs, rfl, s57 _ _ hpa5, fun p4 H8 s8 e8 => ⟨p3, p4, _, _, rfl, rfl, s8 _ _ e7, e8, ?_, fun p5 H9 s9 e9 => ?_⟩⟩
      · have := cut_len (xs := xs) (lo := none) (hi := some ka)
        have := cut_len (xs := xs) (lo := some ka) (hi := none)
        rw [List.length_append]
        show (cutV xs none (some ka)).length + 1 + _ ≤ 100000
        omega
      have s59 := (s57.trans s8).trans s9
      have okX9 := al_same okX5 s59
      have okR : OkV T.a_House H9 (.ref p5) := OkV.tup e9 (al_app (al_app (al_cut okX9) (al_cons (okt5.same s59) al_nil)) (al_cut okX9)) (by
        have := cut_len (xs := xs) (lo := none) (hi := some ka)
        have := cut_len (xs := xs) (lo := some ka) (hi := none)
        rw [List.length_append, List.length_append]
        show (cutV xs none (some ka)).length + 1 + _ ≤ 10000
        omega)
      exact ⟨small_le (by show 2 ≤ 100000; decide), fun p n => q _ _ ((gB.same s59).same (Same.new n)) ((h5.same s59).same (Same.new n)) (OkV.new n (al_cons okW (al_cons okR al_nil)) (by simp))⟩
    refine ⟨_, rfl, rfl, _, rfl, iteB (fun h => ?_) fun h => ?_⟩
    · refine ⟨_, rfl, _, rfl, _, rfl, _, rfl, pa, xs, rfl, hpa5, fun p1 H6 s6 e6 => ⟨_, rfl, a, c, 41, rfl, h5.same s6, ⟨by decide, by decide⟩, fun d1 H7 g7 h7 c1 c2 => ⟨_, rfl, a, c, 2, rfl, h7, ⟨by decide, by decide⟩, fun d2 H8 g8 h8 c3 c4 => ⟨_, _, rfl, rfl, small_le (by show 2 ≤ 100000; decide), fun p2 n2 => ⟨small_le (by show 1 ≤ 100000; decide), fun p3 n3 => ?_⟩⟩⟩⟩⟩
      have t2 := Same.new n2 (o := .tup [.int d1, .int (1 + d2)])
      have t3 := Same.new n3 (o := .tup [.ref p2])
      have eP : OkV T.a_House (upd H8 p2 (.tup [.int d1, .int (1 + d2)])) (.ref p2) := OkV.new n2 (al_cons (OkV.int (by omega)) (al_cons (OkV.int (by omega)) al_nil)) (by simp)
      have g58 := ((h5.gs s6).trans g7).trans g8
      have w5x := (g58.wk.trans t2.wk).trans t3.wk
      have e6x := ((g7.wk.trans g8.wk).trans (t2.trans t3).wk).tup e6
      refine ⟨p1, p3, _, _, rfl, rfl, e6x, upd_same, ?_, fun p4 H9 s9 e9 => ?_⟩
      · have := cut_len (xs := xs) (lo := none) (hi := some ka)
        show (cutV xs none (some ka)).length + 1 ≤ 100000
        omega
      have w59 := w5x.trans s9.wk
      refine ⟨_, rfl, _, rfl, _, rfl, pa, xs, rfl, w59.tup hpa5, fun p5 Ha sa ea => ⟨p4, p5, _, _, rfl, rfl, sa _ _ e9, ea, ?_, fun p6 Hb sb eb => ?_⟩⟩
      · have := cut_len (xs := xs) (lo := none) (hi := some ka)
        have := cut_len (xs := xs) (lo := some ka) (hi := none)
        rw [List.length_append]
        show (cutV xs none (some ka)).length + 1 + _ ≤ 100000
        omega
      have s8b := ((((t2.trans t3).trans s9).trans sa).trans sb)
      have okXb : ∀ x ∈ xs, OkV T.a_House Hb x := fun x hx => ((okX5 x hx).mono g58.wk).same s8b
      have okR : OkV T.a_House Hb (.ref p6) := OkV.tup eb (al_app (al_app (al_cut okXb) (al_cons (eP.same (((t3.trans s9).trans sa).trans sb)) al_nil)) (al_cut okXb)) (by
        have := cut_len (xs := xs) (lo := none) (hi := some ka)
        have := cut_len (xs := xs) (lo := some ka) (hi := none)
        rw [List.length_append, List.length_append]
        show (cutV xs none (some ka)).length + 1 + _ ≤ 10000
        omega)
      exact ⟨small_le (by show 2 ≤ 100000; decide), fun p n => q _ _ (((gB.trans g58).same s8b).same (Same.new n)) ((h8.same s8b).same (Same.new n)) (OkV.new n (al_cons okW (al_cons okR al_nil)) (by simp))⟩
    -- aboard == ()
    refine ⟨_, rfl, small_le (by show 0 ≤ 100000; decide), fun p0 n0 => ⟨pa, p0, xs, rfl, rfl, .inl ⟨SqT.of (Same.new n0 _ _ hpa5), SqT.of upd_same⟩, _, rfl, ?_⟩⟩
    have t0 := Same.new n0 (o := .tup [])
    have gC := gB.same t0
    have hC := h5.same t0
    have hpaC := t0 _ _ hpa5
    have okXC := al_same okX5 t0
    have oktC := okt5.same t0
    have okAC := okA5.same t0
    have hpsC := pmap hps5 fun _ _ z => TupAt.mono z t0.wk
    revert gC hC hpaC okXC oktC okAC hpsC
    generalize upd H5 p0 (.tup []) = HC
    intro gC hC hpaC okXC oktC okAC hpsC
    refine iteB (fun h => ?_) fun h => ?_
    · exact ⟨_, rfl, _, rfl, _, rfl, small_le (by show 2 ≤ 100000; decide), fun p n => q _ _ (gC.same (Same.new n)) (hC.same (Same.new n)) (OkV.new n (al_cons (OkV.int (by omega)) (al_cons okAC al_nil)) (by simp))⟩
    have hne : 1 ≤ xs.length := by
      cases xs with
      | nil => cases h
      | cons x xs => exact Nat.succ_le_succ (Nat.zero_le _)
    refine ⟨_, rfl, _, rfl, pa, xs, rfl, .inr (SqT.of hpaC), a, c, _, rfl, hC, ⟨by omega, by omega⟩, fun kb HD gD hD c1 c2 => ?_⟩
    have gE := gC.trans gD
    have hpaD := gD.wk.tup hpaC
    have hkb : kb.toNat < xs.length := by omega
    have hxk : xs[kb.toNat]? = some xs[kb.toNat] := List.getElem?_eq_getElem hkb
    obtain ⟨b, hb, fb⟩ := paired_at hpsC hxk
    obtain ⟨px, epx, hpx⟩ := TupAt.mono fb gD.wk
    rw [epx] at hxk
    have hbs := hsm.2 b (List.mem_of_getElem? hb)
    refine ⟨_, rfl, _, rfl, _, _, _, _, rfl, rfl, SqT.of hpaD, at_of (j := kb.toNat) (by omega) hxk, _, _, rfl, SqT.of hpx, rfl, _, _, rfl, _, _, rfl, rfl, ?_⟩
    have okXD : ∀ x ∈ xs, OkV T.a_House HD x := fun x hx => (okXC x hx).mono gD.wk
    have oktD := oktC.mono gD.wk
    have oW : ∀ {H' : Hp}, OkV T.a_House H' (.int b.1) := OkV.int (by omega)
    have oW1 : ∀ {H' : Hp}, OkV T.a_House H' (.int (b.1 + 1)) := OkV.int (by omega)
    have oM : ∀ {H' : Hp}, OkV T.a_House H' (.int b.2) := OkV.int (by omega)
    have oM1 : ∀ {H' : Hp}, OkV T.a_House H' (.int (b.2 + 1)) := OkV.int (by omega)
    have oN : ∀ {H' : Hp}, OkV T.a_House H' (.int (-b.2)) := OkV.int (by omega)
    refine ⟨_, rfl, _, rfl, small_le (by show 2 ≤ 100000; decide), fun p1 n1 => ⟨_, rfl, _, rfl, small_le (by show 2 ≤ 100000; decide), fun p2 n2 => ⟨_, rfl, _, rfl, small_le (by show 2 ≤ 100000; decide), fun p3 n3 => ⟨_, rfl, small_le (by show 1 ≤ 100000; decide), fun p4 n4 => ⟨_, rfl, _, rfl, small_le (by show 3 ≤ 100000; decide), fun p5 n5 => ⟨_, rfl, _, rfl, _, _, rfl, rfl, small_le (by show 2 ≤ 100000; decide), fun p6 n6 => ⟨_, rfl, _, _, rfl, rfl, _, rfl, small_le (by show 2 ≤ 100000; decide), fun p7 n7 => ⟨small_le (by show 7 ≤ 100000; decide), fun p8 n8 => ?_⟩⟩⟩⟩⟩⟩⟩⟩
    have t1 := Same.new n1 (o := .tup [tv, .int b.2])
    have t2 := Same.new n2 (o := .tup [.int b.1, tv])
    have t3 := Same.new n3 (o := .lst [.int b.1, .int b.2])
    have t4 := Same.new n4 (o := .tup [.int b.1])
    have t5 := Same.new n5 (o := .tup [.int b.1, .int b.2, .int 1])
    have t6 := Same.new n6 (o := .tup [.int b.1, .int (b.2 + 1)])
    have t7 := Same.new n7 (o := .tup [.int (b.1 + 1), .int b.2])
    have t8 := Same.new n8 (o := .lst [.ref p1, .ref p2, .ref p3, .ref p4, .ref p5, .ref p6, .ref p7])
    have e1 := (OkV.new n1 (al_cons oktD (al_cons oM al_nil)) (by simp)).same ((((((t2.trans t3).trans t4).trans t5).trans t6).trans t7).trans t8)
    have e2 := (OkV.new n2 (al_cons oW (al_cons (oktD.same t1) al_nil)) (by simp)).same (((((t3.trans t4).trans t5).trans t6).trans t7).trans t8)
    have e3 := (OkV.lst (C := T.a_House) (upd_same (a := p3) (o := .lst [.int b.1, .int b.2]))).same ((((t4.trans t5).trans t6).trans t7).trans t8)
    have e4 := (OkV.new (C := T.a_House) n4 (al_cons (oW) al_nil) (by simp)).same (((t5.trans t6).trans t7).trans t8)
    have e5 := (OkV.new (C := T.a_House) n5 (al_cons oW (al_cons oM (al_cons (OkV.int (by decide)) al_nil))) (by simp)).same ((t6.trans t7).trans t8)
    have e6 := (OkV.new (C := T.a_House) n6 (al_cons oW (al_cons oM1 al_nil)) (by simp)).same (t7.trans t8)
    have e7 := (OkV.new (C := T.a_House) n7 (al_cons oW1 (al_cons oM al_nil)) (by simp)).same t8
    have tt := ((((((t1.trans t2).trans t3).trans t4).trans t5).trans t6).trans t7).trans t8
    have okL : ∀ x ∈ [V.ref p1, .ref p2, .ref p3, .ref p4, .ref p5, .ref p6, .ref p7], OkV T.a_House _ x := al_cons e1 (al_cons e2 (al_cons e3 (al_cons e4 (al_cons e5 (al_cons e6 (al_cons e7 al_nil))))))
    have gF := gE.same tt
    have hF := hD.same tt
    have hpaF := tt _ _ hpaD
    have okXF := al_same okXD tt
    clear e1 e2 e3 e4 e5 e6 e7 tt t1 t2 t3 t4 t5 t6 t7 t8
    refine ⟨_, rfl, _, rfl, small_le (by show 2 ≤ 100000; decide), fun q1 m1 => ⟨_, rfl, _, rfl, _, rfl, small_le (by show 2 ≤ 100000; decide), fun q2 m2 => ⟨_, rfl, _, _, rfl, rfl, ⟨by decide, by decide, by decide⟩, _, _, rfl, rfl, small_le (by show 2 ≤ 100000; decide), fun q3 m3 => ⟨small_le (by show 3 ≤ 100000; decide), fun q4 m4 => ?_⟩⟩⟩⟩
    have t1 := Same.new m1 (o := .tup [.int b.1, .int 0])
    have t2 := Same.new m2 (o := .tup [.int b.1, .int (-b.2)])
    have t3 := Same.new m3 (o := .tup [.int b.1, .int (10 ^ ((12 : Int).toNat) + 1)])
    have t4 := Same.new m4 (o := .lst [.ref q1, .ref q2, .ref q3])
    refine ⟨p8, q4, _, _, rfl, rfl, (((t1.trans t2).trans t3).trans t4) _ _ upd_same, upd_same, small_le (by show 7 + 3 ≤ 100000; decide), fun q5 m5 => ?_⟩
    have t5 := Same.new m5 (o := .lst ([.ref p1, .ref p2, .ref p3, .ref p4, .ref p5, .ref p6, .ref p7] ++ [.ref q1, .ref q2, .ref q3]))
    have f1 := (OkV.new (C := T.a_House) m1 (al_cons oW (al_cons (OkV.int (by decide)) al_nil)) (by simp)).same (((t2.trans t3).trans t4).trans t5)
    have f2 := (OkV.new (C := T.a_House) m2 (al_cons oW (al_cons oN al_nil)) (by simp)).same ((t3.trans t4).trans t5)
    have f3 := (OkV.new (C := T.a_House) m3 (al_cons oW (al_cons (OkV.int (by decide +kernel)) al_nil)) (by simp)).same (t4.trans t5)
    have tt := ((((t1.trans t2).trans t3).trans t4).trans t5)
    have okL2 := al_app (al_same okL tt) (al_cons f1 (al_cons f2 (al_cons f3 al_nil)))
    have hq5 := (hF.same (((t1.trans t2).trans t3).trans t4)).ne m5
    refine ⟨_, rfl, a, c, 10, rfl, hF.same tt, ⟨by decide, by decide⟩, fun kc HG gG hG c5 c6 => ?_⟩
    obtain ⟨v, hv1, hv2⟩ := at_all (P := OkV T.a_House HG) (fun x hx => OkV.mono (okL2 x hx) gG.wk) c5 c6
    refine ⟨_, _, _, _, rfl, rfl, SqL.of (gG.keep _ _ hq5.1 upd_same), hv1, ?_⟩
    have gH := (gF.same tt).trans gG
    have hpaG := gG.wk.tup (tt _ _ hpaF)
    have okXG : ∀ x ∈ xs, OkV T.a_House HG x := fun x hx => ((okXF x hx).same tt).mono gG.wk
    -- the last splice
    refine ⟨_, rfl, _, rfl, _, rfl, _, rfl, pa, xs, rfl, hpaG, fun p1 H6 s6 e6 => ⟨_, rfl, small_le (by show 1 ≤ 100000; decide), fun p2 n2 => ?_⟩⟩
    have t2 := Same.new n2 (o := .tup [v])
    refine ⟨p1, p2, _, _, rfl, rfl, t2 _ _ e6, upd_same, ?_, fun p3 H7 s7 e7 => ?_⟩
    · have := cut_len (xs := xs) (lo := none) (hi := some kb)
      show (cutV xs none (some kb)).length + 1 ≤ 100000
      omega
    have s57 := (s6.trans t2).trans s7
    refine ⟨_, rfl, _, rfl, _, _, rfl, rfl, _, rfl, pa, xs, rfl, s57 _ _ hpaG, fun p4 H8 s8 e8 => ⟨p3, p4, _, _, rfl, rfl, s8 _ _ e7, e8, ?_, fun p5 H9 s9 e9 => ?_⟩⟩
    · have := cut_len (xs := xs) (lo := none) (hi := some kb)
      have := cut_len (xs := xs) (lo := some (kb + 1)) (hi := none)
      rw [List.length_append]
      show (cutV xs none (some kb)).length + 1 + _ ≤ 100000
      omega
    have s59 := (s57.trans s8).trans s9
    have okX9 := al_same okXG s59
    have okR : OkV T.a_House H9 (.ref p5) := OkV.tup e9 (al_app (al_app (al_cut okX9) (al_cons (hv2.same s59) al_nil)) (al_cut okX9)) (by
      have := cut_len (xs := xs) (lo := none) (hi := some kb)
      have := cut_len (xs := xs) (lo := some (kb + 1)) (hi := none)
      rw [List.length_append, List.length_append]
      show (cutV xs none (some kb)).length + 1 + _ ≤ 10000
      omega)
    exact ⟨small_le (by show 2 ≤ 100000; decide), fun p n => q _ _ ((gH.same s59).same (Same.new n)) ((hG.same s59).same (Same.new n)) (OkV.new n (al_cons okW (al_cons okR al_nil)) (by simp))⟩
end
end Wl

/-! W6i: the law's own defs, last part: changed plans, and the law. -/
namespace Wl
open PySem PySem.Spec PyProof.Rows L2
theorem paired_app {α β : Type} {F : α → β → Prop} : ∀ {l l2 : List α} {m m2 : List β}, Paired F l m → Paired F l2 m2 → Paired F (l ++ l2) (m ++ m2)
  | _, _, _, _, .nil, h => h
  | _, _, _, _, .cons h t, h2 => .cons h (paired_app t h2)
theorem run_small {f r : Int} (hf : f ≤ 40) (hr : r ≤ 1000000000000) : ∀ {ms : List Mv} {l : Int} {gs : List G} {l' : Int} {gs' : List G}, Run f r l gs ms l' gs' → GOk f gs → ∀ m ∈ ms, Small 1000000000000 m ∧ m.2.length ≤ 40 ∧ dOk (mvD m)
  | _, _, _, _, _, .nil _ _, _, m, hm => by cases hm
  | _, _, _, _, _, .cons g t, h, m, hm => by
    rcases List.mem_cons.mp hm with e | e
    · rw [e]; exact ⟨g.small h (by omega) hr, g.few h hf, g.dok h hf hr⟩
    · exact run_small hf hr t (made_ok h g.has.1 g.has.2) m e
theorem run_dok {ms : List Mv} (h : ∀ m ∈ ms, Small 1000000000000 m ∧ m.2.length ≤ 40 ∧ dOk (mvD m)) (hl : ms.length ≤ 10000) : dOk (.tup (ms.map mvD)) := by
  refine ⟨by rw [List.length_map]; exact hl, dsOk_mem.mpr fun d hd => ?_⟩
  obtain ⟨m, hm, e⟩ := List.mem_map.mp hd
  rw [← e]
  exact (h m hm).2.2
section
variable {P : Program} {w : World} {K : PySem.W.Frag} {mg : Str → Option Value} {base : Heap}
/- slots of Lchanged: 0:_law_hand_here 1:_law_moves 2:_law_house 3:_law_kind 4:_law_at; level 3 -/
def sp_Lchanged (T : Txt K mg) : Sp := fun vs H Q _ => ∃ (a c : Addr) (mv hv : V) (ms : List Mv) (f r : Int), vs = [.ref a, mv, hv] ∧ HandAt H a c ∧ MvsAt H mv ms ∧ HouAt T H hv f r ∧ ms.length ≤ 4900 ∧ (∀ m ∈ ms, Small 1000000000000 m ∧ m.2.length ≤ 40) ∧
  ∀ v H', Grow a H H' → HandAt H' a c → OkV T.a_House H' v → Q v H'
theorem ok_Lchanged (T : Txt K mg) : FnOk P w K mg base CX0 3 T.Lchanged.f T.Lchanged.d ["_law_hand_here", "_law_moves", "_law_house"] (sp_Lchanged T) := by
  have nd := sc_Lchanged.nd
  refine T.Lchanged.F.ok sc_Lchanged (fun vs H Q E h => ?_) (fun cdv A outer s H vs Q E hr h => ?_)
  · obtain ⟨a, c, mv, hv, ms, f, r, rfl, _⟩ := h; rfl
  · obtain ⟨a, c, mv, hv, ms, f, r, rfl, hh, ⟨xs, ⟨pm, rfl, hpm⟩, hps⟩, hho, hml, hsm, q⟩ := h
    refine ⟨_, (pss_cons (ps_set (i := 3) nd rfl (Or.inl rfl) (pe_call (ok_Ldraw T) (hr.mono (by decide)) (by rfl) T.Ldraw.m T.Ldraw.F.kp T.Ldraw.b .nil pass0 (pa_cons (pv 0) (pa_cons pe_int pa_nil))))
      (pss_cons (ps_if (pt_cmpR op_eq (pv 3) pe_int (nomark _))
      (pss_one (ps_ret (pe_ix (ix_listK (K := K) rfl) (pe_lst (pa_cons (pe_callTy (call_listK (K := K) rfl) (by rfl) T.n_list (by decide +kernel) (pa_cons (pv 1) pa_nil)) (pa_cons pe_non (pa_cons pe_int (pa_cons pe_dnewK (pa_cons pe_str (pa_cons pe_bl (pa_cons (pv 2) (pa_cons (pe_call (ok_Ldeep T) (hr.mono (by decide)) (by rfl) T.Ldeep.m T.Ldeep.F.kp T.Ldeep.b .nil pass0 (pa_cons pe_int pa_nil)) pa_nil))))))))) (pe_call (ok_Ldraw T) (hr.mono (by decide)) (by rfl) T.Ldraw.m T.Ldraw.F.kp T.Ldraw.b .nil pass0 (pa_cons (pv 0) (pa_cons pe_int pa_nil))) (fun _ _ => rfl))))
      pss_nil)
      (pss_cons (ps_if (pt_cmpR op_eq (pv 3) pe_int (nomark _))
      (pss_one (ps_ret (pe_op op_catU (pv 1) (pe_slice sl_tupU (pe_tup (pa_cons (pe_tup (pa_cons pe_int (pa_cons (pe_tup pa_nil) pa_nil))) (pa_cons (pe_tup (pa_cons (pe_un un_neg pe_int) (pa_cons (pe_tup pa_nil) pa_nil))) pa_nil))) po_none (po_some (pe_op op_add pe_int (pe_call (ok_Ldraw T) (hr.mono (by decide)) (by rfl) T.Ldraw.m T.Ldraw.F.kp T.Ldraw.b .nil pass0 (pa_cons (pv 0) (pa_cons pe_int pa_nil)))))))))
      pss_nil)
      (pss_cons (ps_if (pt_cmpR (op_eqEK (K := K) rfl hr.units) (pv 1) (pe_tup pa_nil) (nomark _))
      (pss_one (ps_ret (pv 1)))
      pss_nil)
      (pss_cons (ps_set (i := 4) nd rfl (Or.inl rfl) (pe_call (ok_Ldraw T) (hr.mono (by decide)) (by rfl) T.Ldraw.m T.Ldraw.F.kp T.Ldraw.b .nil pass0 (pa_cons (pv 0) (pa_cons (pe_callB (call_lenK (K := K) rfl) (by rfl) T.n_len (by decide +kernel) (pa_cons (pv 1) pa_nil)) pa_nil))))
      (pss_cons (ps_if (pt_cmpR op_eq (pv 3) pe_int (nomark _))
      (pss_one (ps_ret (pe_op op_catU (pe_slice sl_tupU (pv 1) po_none (po_some (pv 4))) (pe_slice sl_tupU (pv 1) (po_some (pe_op op_add (pv 4) pe_int)) po_none))))
      pss_nil)
      (pss_cons (ps_if (pt_cmpR op_eq (pv 3) pe_int (nomark _))
      (pss_one (ps_ret (pe_op op_catU (pe_slice sl_tupU (pv 1) po_none (po_some (pe_op op_add (pv 4) pe_int))) (pe_slice sl_tupU (pv 1) (po_some (pv 4)) po_none))))
      pss_nil)
      (pss_cons (ps_if (pt_cmpR op_eq (pv 3) pe_int (nomark _))
      (pss_one (ps_ret (pe_slice sl_tupU (pv 1) po_none (po_some (pe_un un_neg pe_int)))))
      pss_nil)
      (pss_cons (ps_if (pt_cmpR op_eq (pv 3) pe_int (nomark _))
      (pss_one (ps_ret (pe_op op_catU (pe_op op_catU (pe_slice sl_tupU (pv 1) po_none (po_some (pv 4))) (pe_tup (pa_cons (pe_tup (pa_cons (pe_ix (ix_tupK (K := K) rfl) (pe_ix (ix_tupK (K := K) rfl) (pv 1) (pv 4) (fun _ _ => rfl)) pe_int (fun _ _ => rfl)) (pa_cons (pe_tup pa_nil) pa_nil))) pa_nil))) (pe_slice sl_tupU (pv 1) (po_some (pe_op op_add (pv 4) pe_int)) po_none))))
      pss_nil)
      (pss_one (ps_ret (pe_op op_catU (pe_op op_catU (pe_slice sl_tupU (pv 1) po_none (po_some (pv 4))) (pe_tup (pa_cons (pe_call (ok_Lbent_move T) (hr.mono (by decide)) (by rfl) T.Lbent_move.m T.Lbent_move.F.kp T.Lbent_move.b .nil pass0 (pa_cons (pv 0) (pa_cons (pe_ix (ix_tupK (K := K) rfl) (pv 1) (pv 4) (fun _ _ => rfl)) (pa_cons (pv 2) pa_nil)))) pa_nil))) (pe_slice sl_tupU (pv 1) (po_some (pe_op op_add (pv 4) pe_int)) po_none))))))))))))), ?_⟩
    have xl : xs.length = ms.length := Paired.length hps
    have okX : ∀ x ∈ xs, OkV T.a_House H x := fun x hx => by
      obtain ⟨b, hb, fb⟩ := mem_fst hps x hx
      exact MvAt.okv fb (hsm b hb).1 (hsm b hb).2
    refine ⟨_, rfl, a, c, 8, rfl, hh, ⟨by decide, by decide⟩, fun kd H1 g1 h1 b1 b2 => ?_⟩
    have okX1 : ∀ x ∈ xs, OkV T.a_House H1 x := fun x hx => (okX x hx).mono g1.wk
    have hpm1 := g1.wk.tup hpm
    have hps1 := pmap hps fun _ _ z => MvAt.mono z g1.wk
    have hho1 := hho.mono g1.wk
    refine ⟨_, rfl, rfl, _, rfl, iteB (fun h => ?_) fun h => ?_⟩
    · refine ⟨_, rfl, pm, xs, rfl, .inr (SqT.of hpm1), fun p1 n1 => fun p2 n2 => ⟨_, rfl, 0, rfl, (by decide), (by decide), fun dv dd H2 s2 hd okd => ⟨small_le (by show 8 ≤ 100000; decide), fun p3 n3 => ?_⟩⟩⟩
      have t1 := Same.new n1 (o := .lst xs)
      have t2 := Same.new n2 (o := .dK [])
      have t3 := Same.new n3 (o := .lst [.ref p1, .non, .int 0, .ref p2, .str "plan", .bl true, hv, dv])
      have e1 := (OkV.lst (C := T.a_House) (upd_same (H := H1) (a := p1) (o := .lst xs))).same ((t2.trans s2).trans t3)
      have e2 := (OkV.dic (C := T.a_House) (upd_same (a := p2) (o := .dK []))).same (s2.trans t3)
      have e3 : OkV T.a_House H2 dv := ⟨dd, hd, okd⟩
      have tt := ((t1.trans t2).trans s2).trans t3
      have hp3 := (h1.same ((t1.trans t2).trans s2)).ne n3
      refine ⟨_, rfl, a, c, 8, rfl, h1.same tt, ⟨by decide, by decide⟩, fun k5 H5 g5 h5 b7 b8 => ?_⟩
      obtain ⟨v, hv1, hv2⟩ := at_all (xs := [.ref p1, .non, .int 0, .ref p2, .str "plan", .bl true, hv, dv]) (P := OkV T.a_House H5) (fun x hx => OkV.mono (al_cons e1 (al_cons OkV.non (al_cons (OkV.int (by decide)) (al_cons e2 (al_cons OkV.str (al_cons OkV.bl (al_cons (hho1.okv.same tt) (al_cons (e3.same t3) al_nil))))))) x hx) g5.wk) b7 b8
      exact ⟨_, _, _, _, rfl, rfl, SqL.of (g5.keep _ _ hp3.1 upd_same), hv1, q _ _ ((g1.same tt).trans g5) h5 hv2⟩
    refine ⟨_, rfl, rfl, _, rfl, iteB (fun h => ?_) fun h => ?_⟩
    · refine ⟨_, rfl, small_le (by show 0 ≤ 100000; decide), fun p1 n1 => ⟨small_le (by show 2 ≤ 100000; decide), fun p2 n2 => ⟨_, rfl, small_le (by show 0 ≤ 100000; decide), fun p3 n3 => ⟨small_le (by show 2 ≤ 100000; decide), fun p4 n4 => ⟨small_le (by show 2 ≤ 100000; decide), fun p5 n5 => ?_⟩⟩⟩⟩⟩
      have t1 := Same.new n1 (o := .tup [])
      have t2 := Same.new n2 (o := .tup [.int 1, .ref p1])
      have t3 := Same.new n3 (o := .tup [])
      have t4 := Same.new n4 (o := .tup [.int (-1), .ref p3])
      have t5 := Same.new n5 (o := .tup [.ref p2, .ref p4])
      have e1 := OkV.new (C := T.a_House) n1 al_nil (by simp)
      have e2 := OkV.new (C := T.a_House) n2 (al_cons (OkV.int (i := 1) (by decide)) (al_cons e1 al_nil)) (by simp)
      have e3 := OkV.new (C := T.a_House) n3 al_nil (by simp)
      have e4 := OkV.new (C := T.a_House) n4 (al_cons (OkV.int (i := -1) (by decide)) (al_cons e3 al_nil)) (by simp)
      have e5 := al_same (al_cons (e2.same (t3.trans t4)) (al_cons e4 al_nil)) t5
      have tt := (((t1.trans t2).trans t3).trans t4).trans t5
      refine ⟨_, rfl, a, c, 2, rfl, h1.same tt, ⟨by decide, by decide⟩, fun k5 H5 g5 h5 b7 b8 => ⟨_, _, rfl, rfl, _, rfl, p5, _, rfl, g5.wk.tup upd_same, fun p6 H6 s6 e6 => ⟨pm, p6, _, _, rfl, rfl, s6 _ _ (g5.wk.tup (tt _ _ hpm1)), e6, ?_, fun p7 H7 s7 e7 => ?_⟩⟩⟩
      · have := cut_len (xs := [V.ref p2, .ref p4]) (lo := none) (hi := some (1 + k5))
        simp at this
        omega
      have okZ : ∀ x ∈ xs, OkV T.a_House H7 x := fun x hx => (((okX1 x hx).same tt).mono g5.wk).same (s6.trans s7)
      have okY : ∀ x ∈ [V.ref p2, .ref p4], OkV T.a_House H7 x := fun x hx => ((e5 x hx).mono g5.wk).same (s6.trans s7)
      refine q _ _ (((g1.same tt).trans g5).same (s6.trans s7)) (h5.same (s6.trans s7)) (OkV.tup e7 (al_app okZ (al_cut okY)) ?_)
      have := cut_len (xs := [V.ref p2, .ref p4]) (lo := none) (hi := some (1 + k5))
      rw [List.length_append]
      simp at this
      omega
    refine ⟨_, rfl, small_le (by show 0 ≤ 100000; decide), fun p0 n0 => ⟨pm, p0, xs, rfl, rfl, .inl ⟨SqT.of (Same.new n0 _ _ hpm1), SqT.of upd_same⟩, _, rfl, ?_⟩⟩
    have t0 := Same.new n0 (o := .tup [])
    have gC := g1.same t0
    have hC := h1.same t0
    have hpmC := t0 _ _ hpm1
    have okXC := al_same okX1 t0
    have hpsC := pmap hps1 fun _ _ z => MvAt.mono z t0.wk
    have hhoC := hho1.mono t0.wk
    revert gC hC hpmC okXC hpsC hhoC
    generalize upd H1 p0 (.tup []) = HC
    intro gC hC hpmC okXC hpsC hhoC
    refine iteB (fun h => ?_) fun h => ?_
    · exact ⟨_, rfl, q _ _ gC hC (OkV.tup hpmC okXC (by omega))⟩
    have hne : 1 ≤ xs.length := by
      cases xs with
      | nil => cases h
      | cons x xs => exact Nat.succ_le_succ (Nat.zero_le _)
    refine ⟨_, rfl, _, rfl, pm, xs, rfl, .inr (SqT.of hpmC), a, c, _, rfl, hC, ⟨by omega, by omega⟩, fun kb HD gD hD c1 c2 => ?_⟩
    have gE := gC.trans gD
    have hpmD := gD.wk.tup hpmC
    have okXD : ∀ x ∈ xs, OkV T.a_House HD x := fun x hx => (okXC x hx).mono gD.wk
    have hpsD := pmap hpsC fun _ _ z => MvAt.mono z gD.wk
    have hhoD := hhoC.mono gD.wk
    have hkb : kb.toNat < xs.length := by omega
    have hxk : xs[kb.toNat]? = some xs[kb.toNat] := List.getElem?_eq_getElem hkb
    obtain ⟨mb, hmb, fmb⟩ := paired_at hpsD hxk
    obtain ⟨ab, ⟨px, epx, hpx⟩, _⟩ := id fmb
    rw [epx] at hxk fmb
    have hbs := hsm mb (List.mem_of_getElem? hmb)
    -- a cut and a cut
    have L : ∀ (lo hi lo2 hi2 : Option Int), (cutV xs lo hi).length ≤ 4900 ∧ (cutV xs lo2 hi2).length ≤ 4900 := fun lo hi lo2 hi2 => by
      have := cut_len (xs := xs) (lo := lo) (hi := hi)
      have := cut_len (xs := xs) (lo := lo2) (hi := hi2)
      omega
    refine ⟨_, rfl, rfl, _, rfl, iteB (fun h => ?_) fun h => ?_⟩
    · refine ⟨_, rfl, _, rfl, _, rfl, pm, xs, rfl, hpmD, fun p1 H6 s6 e6 => ⟨_, rfl, _, rfl, _, _, rfl, rfl, _, rfl, pm, xs, rfl, s6 _ _ hpmD, fun p2 H7 s7 e7 => ⟨p1, p2, _, _, rfl, rfl, s7 _ _ e6, e7, ?_, fun p3 H8 s8 e8 => ?_⟩⟩⟩
      · have := L none (some kb) (some (kb + 1)) none; omega
      have tt := (s6.trans s7).trans s8
      have okX8 := al_same okXD tt
      refine q _ _ (gE.same tt) (hD.same tt) (OkV.tup e8 (al_app (al_cut okX8) (al_cut okX8)) ?_)
      have := L none (some kb) (some (kb + 1)) none
      rw [List.length_append]; omega
    refine ⟨_, rfl, rfl, _, rfl, iteB (fun h => ?_) fun h => ?_⟩
    · refine ⟨_, rfl, _, rfl, _, _, rfl, rfl, _, rfl, pm, xs, rfl, hpmD, fun p1 H6 s6 e6 => ⟨_, rfl, _, rfl, _, rfl, pm, xs, rfl, s6 _ _ hpmD, fun p2 H7 s7 e7 => ⟨p1, p2, _, _, rfl, rfl, s7 _ _ e6, e7, ?_, fun p3 H8 s8 e8 => ?_⟩⟩⟩
      · have := L none (some (kb + 1)) (some kb) none; omega
      have tt := (s6.trans s7).trans s8
      have okX8 := al_same okXD tt
      refine q _ _ (gE.same tt) (hD.same tt) (OkV.tup e8 (al_app (al_cut okX8) (al_cut okX8)) ?_)
      have := L none (some (kb + 1)) (some kb) none
      rw [List.length_append]; omega
    refine ⟨_, rfl, rfl, _, rfl, iteB (fun h => ?_) fun h => ?_⟩
    · refine ⟨_, rfl, _, rfl, _, rfl, pm, xs, rfl, hpmD, fun p1 H6 s6 e6 => ?_⟩
      refine q _ _ (gE.same s6) (hD.same s6) (OkV.tup e6 (al_cut (al_same okXD s6)) ?_)
      have := cut_len (xs := xs) (lo := none) (hi := some (-1))
      exact Nat.le_trans this (by omega)
    refine ⟨_, rfl, rfl, _, rfl, iteB (fun h => ?_) fun h => ?_⟩
    · refine ⟨_, rfl, _, rfl, _, rfl, pm, xs, rfl, hpmD, fun p1 H6 s6 e6 => ⟨_, rfl, _, rfl, _, _, _, _, rfl, rfl, SqT.of (s6 _ _ hpmD), at_of (j := kb.toNat) (by omega) hxk, _, _, _, _, rfl, rfl, SqT.of (s6 _ _ hpx), at_of (j := 0) rfl rfl, small_le (by show 0 ≤ 100000; decide), fun p2 n2 => ⟨small_le (by show 2 ≤ 100000; decide), fun p3 n3 => ⟨small_le (by show 1 ≤ 100000; decide), fun p4 n4 => ?_⟩⟩⟩⟩
      have t2 := Same.new n2 (o := .tup [])
      have t3 := Same.new n3 (o := .tup [.int mb.1, .ref p2])
      have t4 := Same.new n4 (o := .tup [.ref p3])
      have hw1 : mb.1 ≤ 1 := by rcases hbs.1.1 with e | e <;> omega
      have e2 := OkV.new (C := T.a_House) n2 al_nil (by simp)
      have e3 := (OkV.new (C := T.a_House) n3 (al_cons (OkV.int (i := mb.1) (by omega)) (al_cons e2 al_nil)) (by simp)).same t4
      have t24 := (t2.trans t3).trans t4
      refine ⟨p1, p4, _, _, rfl, rfl, t24 _ _ e6, upd_same, ?_, fun p5 H7 s7 e7 => ?_⟩
      · have := L none (some kb) (some (kb + 1)) none
        show (cutV xs none (some kb)).length + 1 ≤ 100000
        omega
      have s57 := (s6.trans t24).trans s7
      refine ⟨_, rfl, _, rfl, _, _, rfl, rfl, _, rfl, pm, xs, rfl, s57 _ _ hpmD, fun p6 H8 s8 e8 => ⟨p5, p6, _, _, rfl, rfl, s8 _ _ e7, e8, ?_, fun p7 H9 s9 e9 => ?_⟩⟩
      · have := L none (some kb) (some (kb + 1)) none
        rw [List.length_append]
        show (cutV xs none (some kb)).length + 1 + _ ≤ 100000
        omega
      have tt := (s57.trans s8).trans s9
      have okX9 := al_same okXD tt
      refine q _ _ (gE.same tt) (hD.same tt) (OkV.tup e9 (al_app (al_app (al_cut okX9) (al_cons (e3.same ((s7.trans s8).trans s9)) al_nil)) (al_cut okX9)) ?_)
      have := L none (some kb) (some (kb + 1)) none
      rw [List.length_append, List.length_append]
      show (cutV xs none (some kb)).length + 1 + _ ≤ 10000
      omega
    · refine ⟨_, rfl, _, rfl, _, rfl, pm, xs, rfl, hpmD, fun p1 H6 s6 e6 => ⟨_, rfl, _, rfl, _, rfl, _, _, _, _, rfl, rfl, SqT.of (s6 _ _ hpmD), at_of (j := kb.toNat) (by omega) hxk, _, rfl, a, c, _, hv, mb, f, r, rfl, hD.same s6, MvAt.mono fmb s6.wk, hhoD.mono s6.wk, hbs.1, hbs.2, fun v H7 g7 h7 okv => ⟨small_le (by show 1 ≤ 100000; decide), fun p2 n2 => ?_⟩⟩⟩
      have t2 := Same.new n2 (o := .tup [v])
      refine ⟨p1, p2, _, _, rfl, rfl, t2 _ _ (g7.wk.tup e6), upd_same, ?_, fun p3 H8 s8 e8 => ?_⟩
      · have := L none (some kb) (some (kb + 1)) none
        show (cutV xs none (some kb)).length + 1 ≤ 100000
        omega
      have s78 := t2.trans s8
      refine ⟨_, rfl, _, rfl, _, _, rfl, rfl, _, rfl, pm, xs, rfl, s78 _ _ (g7.wk.tup (s6 _ _ hpmD)), fun p4 H9 s9 e9 => ⟨p3, p4, _, _, rfl, rfl, s9 _ _ e8, e9, ?_, fun p5 Ha sa ea => ?_⟩⟩
      · have := L none (some kb) (some (kb + 1)) none
        rw [List.length_append]
        show (cutV xs none (some kb)).length + 1 + _ ≤ 100000
        omega
      have tt := (s78.trans s9).trans sa
      have okX9 : ∀ x ∈ xs, OkV T.a_House Ha x := fun x hx => (((okXD x hx).same s6).mono g7.wk).same tt
      refine q _ _ (((gE.same s6).trans g7).same tt) (h7.same tt) (OkV.tup ea (al_app (al_app (al_cut okX9) (al_cons (okv.same tt) al_nil)) (al_cut okX9)) ?_)
      have := L none (some kb) (some (kb + 1)) none
      rw [List.length_append, List.length_append]
      show (cutV xs none (some kb)).length + 1 + _ ≤ 10000
      omega
end
end Wl

/-! W7: the law. -/
namespace Wl
open PySem PySem.Spec PyProof.Rows L2
theorem due_nil {f r l : Int} {gs : List G} : dueD f r l gs (.tup []) = (decide (l = 0) && homeAll gs) := rfl
section
variable {P : Program} {w : World} {K : PySem.W.Frag} {mg : Str → Option Value} {base : Heap}
/- slots of Llaw: 0:_law_script 1:_law_hand_here 2:_law_turn 3:_law_floors 4:_law_room 5:_law_lift 6:_law_groups 7:_law_house 8:_law_standing 9:_law_ahead 10:_law_state 11:_law_plan 12:_law_due_here 13:_law_done 14:_law_again 15:_law_thing 16:_law_stand 17:_law_want 18:_law_many; level 8 -/
def sp_Llaw (K : PySem.W.Frag) : Sp := fun vs H Q _ => ∃ (sc : Addr) (ns : List Int), vs = [.ref sc] ∧ SqL K H sc (ns.map V.int) ∧ ns.length ≤ 63 ∧ ∀ H', Q (.bl true) H'
theorem ok_Llaw (T : Txt K mg) : FnOk P w K mg base CX0 8 T.Llaw.f T.Llaw.d ["_law_script"] (sp_Llaw K) := by
  have nd := sc_Llaw.nd
  refine T.Llaw.F.ok sc_Llaw (fun vs H Q E h => ?_) (fun cdv A outer s H vs Q E hr h => ?_)
  · obtain ⟨sc, ns, rfl, _⟩ := h; rfl
  · obtain ⟨sc, ns, rfl, hq, hl, q⟩ := h
    refine ⟨_, (pss_cons (ps_set (i := 1) nd rfl (Or.inl rfl) (pe_call (ok_Lhand T) (hr.mono (by decide)) (by rfl) T.Lhand.m T.Lhand.F.kp T.Lhand.b .nil pass0 (pa_cons (pv 0) pa_nil)))
      (pss_cons (ps_for PassesOwn.never rfl (pi_range1 (by rfl) T.n_range (pa_cons pe_int pa_nil)) (pg_name (i := 2) nd rfl (Or.inl rfl))
      (pss_cons (ps_asg (pe_call (ok_Lparts T) (hr.mono (by decide)) (by rfl) T.Lparts.m T.Lparts.F.kp T.Lparts.b .nil pass0 (pa_cons (pv 1) pa_nil)) (pg_tupK (K := K) rfl rfl (pgs_cons (pg_name (i := 3) nd rfl (Or.inl rfl)) (pgs_cons (pg_name (i := 4) nd rfl (Or.inl rfl)) (pgs_cons (pg_name (i := 5) nd rfl (Or.inl rfl)) (pgs_cons (pg_name (i := 6) nd rfl (Or.inl rfl)) pgs_nil))))))
      (pss_cons (ps_set (i := 7) nd rfl (Or.inl rfl) (pe_make T.mk_House (ok_CHouse T) (hr.mono (by decide)) (by rfl) T.m_House T.c_House.b .nil pass0 (pa_cons (pv 3) (pa_cons (pv 4) pa_nil))))
      (pss_cons (ps_set (i := 8) nd rfl (Or.inl rfl) (pe_make T.mk_Standing (ok_CStanding T) (hr.mono (by decide)) (by rfl) T.m_Standing T.c_Standing.b .nil pass0 (pa_cons (pv 7) (pa_cons (pv 5) (pa_cons (pv 6) pa_nil)))))
      (pss_cons (ps_asg (pe_call (ok_Lwalk T) (hr.mono (by decide)) (by rfl) T.Lwalk.m T.Lwalk.F.kp T.Lwalk.b .nil pass0 (pa_cons (pv 1) (pa_cons (pv 3) (pa_cons (pv 4) (pa_cons (pe_tup (pa_cons (pv 5) (pa_cons (pv 6) pa_nil))) (pa_cons (pe_call (ok_Ldraw T) (hr.mono (by decide)) (by rfl) T.Ldraw.m T.Ldraw.F.kp T.Ldraw.b .nil pass0 (pa_cons (pv 1) (pa_cons pe_int pa_nil))) pa_nil)))))) (pg_tupK (K := K) rfl rfl (pgs_cons (pg_name (i := 9) nd rfl (Or.inl rfl)) (pgs_cons (pg_name (i := 10) nd rfl (Or.inl rfl)) pgs_nil))))
      (pss_cons (ps_set (i := 11) nd rfl (Or.inl rfl) (pe_op op_catU (pv 9) (pe_call (ok_Lhome T) (hr.mono (by decide)) (by rfl) T.Lhome.m T.Lhome.F.kp T.Lhome.b .nil pass0 (pa_cons (pv 3) (pa_cons (pv 4) (pa_cons (pv 10) pa_nil))))))
      (pss_cons (ps_set (i := 12) nd rfl (Or.inl rfl) (pe_call (ok_Ldue T) (hr.mono (by decide)) (by rfl) T.Ldue.m T.Ldue.F.kp T.Ldue.b .nil pass0 (pa_cons (pv 3) (pa_cons (pv 4) (pa_cons (pe_tup (pa_cons (pv 5) (pa_cons (pv 6) pa_nil))) (pa_cons (pv 11) pa_nil))))))
      (pss_cons (ps_if (PW.pt (pw_or (pt_not (pt_val (pe_call (ok_Lflag T) (hr.mono (by decide)) (by rfl) T.Lflag.m T.Lflag.F.kp T.Lflag.b .nil pass0 (pa_cons (pe_call (ok_Pis_plan T) (hr.mono (by decide)) (by rfl) T.Pis_plan.m T.Pis_plan.F.kp T.Pis_plan.b .nil pass0 (pa_cons (pv 8) (pa_cons (pv 11) pa_nil))) (pa_cons (pv 12) pa_nil))))) (pw_or1 (pt_cmpR op_ne (pe_call (ok_Pis_done T) (hr.mono (by decide)) (by rfl) T.Pis_done.m T.Pis_done.F.kp T.Pis_done.b .nil pass0 (pa_cons (pe_call (ok_Pbehind T) (hr.mono (by decide)) (by rfl) T.Pbehind.m T.Pbehind.F.kp T.Pbehind.b .nil pass0 (pa_cons (pv 8) (pa_cons (pv 11) pa_nil))) pa_nil)) (pv 12) (nomark _)))))
      (pss_one (ps_ret pe_bl))
      pss_nil)
      (pss_cons (ps_set (i := 13) nd rfl (Or.inl rfl) (pe_and (pe_cmpR op_eq (pv 5) pe_int (nomark _)) (pe_one (pe_callB (cr_allK (K := K) rfl rfl) (by rfl) T.n_all (by decide +kernel) (pa_cons (pe_lc (own := [("_law_stand", 16), ("_law_want", 17), ("_law_many", 18)]) (g := (gTup K 3 (gCons (gName 16) (gCons (gName 17) (gCons (gName 18) gNil))))) (tt := tYes) rfl nd (pi_tupK (K := K) rfl (pv 6)) (blkOk_by (own := [("_law_stand", 16), ("_law_want", 17), ("_law_many", 18)]) (N := n_Llaw) (sc := defScope s_Llaw) (by decide +kernel)) (fun _ _ _ _ _ => (pg_tupK (K := K) rfl rfl (pgs_cons (pg_name (i := 16) nd rfl (Or.inl rfl)) (pgs_cons (pg_name (i := 17) nd rfl (Or.inl rfl)) (pgs_cons (pg_name (i := 18) nd rfl (Or.inl rfl)) pgs_nil))))) (fun _ _ _ _ _ => pts_nil) (fun _ _ _ _ _ => (pe_cmpR op_eq (pv 16) (pv 17) (nomark _)))) pa_nil)))))
      (pss_cons (ps_if (pt_not (pt_val (pe_call (ok_Lflag T) (hr.mono (by decide)) (by rfl) T.Lflag.m T.Lflag.F.kp T.Lflag.b .nil pass0 (pa_cons (pe_call (ok_Pis_plan T) (hr.mono (by decide)) (by rfl) T.Pis_plan.m T.Pis_plan.F.kp T.Pis_plan.b .nil pass0 (pa_cons (pv 8) (pa_cons (pe_tup pa_nil) pa_nil))) (pa_cons (pv 13) pa_nil)))))
      (pss_one (ps_ret pe_bl))
      pss_nil)
      (pss_one (ps_for PassesOwn.never rfl (pi_range1 (by rfl) T.n_range (pa_cons pe_int pa_nil)) (pg_name (i := 14) nd rfl (Or.inl rfl))
      (pss_cons (ps_set (i := 15) nd rfl (Or.inl rfl) (pe_call (ok_Lchanged T) (hr.mono (by decide)) (by rfl) T.Lchanged.m T.Lchanged.F.kp T.Lchanged.b .nil pass0 (pa_cons (pv 1) (pa_cons (pv 11) (pa_cons (pv 7) pa_nil)))))
      (pss_one (ps_if (pt_not (pt_val (pe_call (ok_Lflag T) (hr.mono (by decide)) (by rfl) T.Lflag.m T.Lflag.F.kp T.Lflag.b .nil pass0 (pa_cons (pe_call (ok_Pis_plan T) (hr.mono (by decide)) (by rfl) T.Pis_plan.m T.Pis_plan.F.kp T.Pis_plan.b .nil pass0 (pa_cons (pv 8) (pa_cons (pv 15) pa_nil))) (pa_cons (pe_call (ok_Ldue T) (hr.mono (by decide)) (by rfl) T.Ldue.m T.Ldue.F.kp T.Ldue.b .nil pass0 (pa_cons (pv 3) (pa_cons (pv 4) (pa_cons (pe_tup (pa_cons (pv 5) (pa_cons (pv 6) pa_nil))) (pa_cons (pv 15) pa_nil))))) pa_nil)))))
      (pss_one (ps_ret pe_bl))
      pss_nil)))))))))))))))
      (pss_one (ps_ret pe_bl)))), ?_⟩
    refine ⟨_, rfl, sc, ns, rfl, hq, hl, fun a c H1 s1 h1 => ?_⟩
    refine ⟨_, rfl, (by decide), (by decide), for_range (fun i σ H' => HandAt H' a c ∧ ∃ z2 z3 z4 z5 z6 z7 z8 z9 z10 z11 z12 z13 z14 z15, σ = [some (.ref sc), some (.ref a), z2, z3, z4, z5, z6, z7, z8, z9, z10, z11, z12, z13, z14, z15, none, none, none]) ⟨h1, _, _, _, _, _, _, _, _, _, _, _, _, _, _, rfl⟩ ?_ ?_⟩
    · rintro i σ H1 hi ⟨h1, z2, z3, z4, z5, z6, z7, z8, z9, z10, z11, z12, z13, z14, z15, rfl⟩
      refine ⟨_, rfl, a, c, rfl, h1, fun p f r l g gs H2 g2 h2 hp hg hf hr' hl gk glen gmany => ⟨_, _, rfl, SqT.of hp, rfl, _, _, rfl, _, _, rfl, _, _, rfl, _, _, rfl, rfl, ?_⟩⟩
      -- the house and the standing
      refine ⟨_, rfl, _, rfl, fun x dx nx ndx ne => ⟨x, dx, f, r, rfl, upd_same, hf.1, hf.2, hr'.1, hr'.2, fun H3 e3 k3 => ⟨rfl, ?_⟩⟩⟩
      have s3 := made_same nx ndx k3
      have hou3 : HouAt T H3 (.ref x) f r := ⟨x, dx, rfl, e3⟩
      have hg3 := hg.mono s3.wk
      refine ⟨_, rfl, _, rfl, _, rfl, fun x2 dx2 nx2 ndx2 ne2 => ?_⟩
      have t4 := (Same.new ndx2 (o := .own x2)).add (p := x2) (o := .ins T.a_Standing dx2 []) (by rw [upd_ne (Ne.symm ne2)]; exact nx2)
      refine ⟨x2, dx2, .ref x, g, f, r, l, gs, rfl, upd_same, hou3.mono t4.wk, hl, hg3.mono t4.wk, gk, glen, gmany, fun H4 e4 k4 => ⟨rfl, ?_⟩⟩
      have s4 := made_same nx2 ndx2 k4
      have hou4 := hou3.mono s4.wk
      have hg4 := hg3.mono s4.wk
      have sd4 : SdAt (K := K) H4 (.ref x2) (.ref x) l gs := ⟨x2, T.a_Standing, dx2, g, rfl, T.cl_Standing, T.nb_house, T.nb_lift, T.nb_groups, e4, hg4⟩
      have h4 := (h2.same s3).same s4
      -- the walk
      refine ⟨_, rfl, _, rfl, _, rfl, _, rfl, _, rfl, small_le (by show 2 ≤ 100000; decide), fun p5 n5 => ⟨_, rfl, a, c, 4, rfl, h4.same (Same.new n5), ⟨by decide, by decide⟩, fun k H5 g5 h5 b1 b2 => ?_⟩⟩
      have t5 := Same.new n5 (o := .tup [.int l, g])
      have w45 := t5.wk.trans g5.wk
      have st5 : StAt H5 (.ref p5) l gs := ⟨g, ⟨p5, rfl, g5.wk.tup upd_same⟩, hg4.mono w45⟩
      obtain ⟨n, rfl⟩ : ∃ n : Nat, k = n := ⟨k.toNat, by omega⟩
      refine ⟨a, c, .ref p5, l, f, r, n, gs, rfl, by omega, h5, st5, gk, hf.1, hf.2, by omega, hl, fun p6 mv sv6 ms l1 gs1 H6 g6 h6 hp6 hmv6 st6 run6 len6 => ⟨_, _, rfl, SqT.of hp6, rfl, _, _, rfl, _, _, rfl, rfl, ?_⟩⟩
      obtain ⟨gk1, hl1⟩ := run6.ok gk hl
      obtain ⟨xa, ⟨pA, rfl, hA⟩, prA⟩ := hmv6
      have w46 := w45.trans g6.wk
      -- the plan
      refine ⟨_, rfl, _, rfl, _, rfl, _, rfl, sv6, l1, f, r, gs1, rfl, st6, gk1, hf.2, hr'.1, hl1, fun v7 ms7 l7 gs7 H7 s7 hmv7 run7 len7 => ?_⟩
      obtain ⟨xb, ⟨pB, rfl, hB⟩, prB⟩ := hmv7
      have run := run6.append run7
      have lenA : xa.length = ms.length := Paired.length prA
      have lenB : xb.length = ms7.length := Paired.length prB
      refine ⟨pA, pB, xa, xb, rfl, rfl, s7 _ _ hA, hB, by omega, fun p8 H8 s8 e8 => ?_⟩
      have w48 := w46.trans (s7.trans s8).wk
      have plan8 : MvsAt H8 (.ref p8) (ms ++ ms7) := ⟨_, ⟨p8, rfl, e8⟩, paired_app (pmap prA fun _ _ z => MvAt.mono z (s7.trans s8).wk) (pmap prB fun _ _ z => MvAt.mono z s8.wk)⟩
      have h8 := (h6.same s7).same s8
      have lenP : (ms ++ ms7).length ≤ 4900 := by rw [List.length_append]; omega
      have edue := run.due
      have hsm := run_small hf.2 hr'.2 run gk
      revert plan8 lenP edue hsm run
      generalize ms ++ ms7 = pl
      intro run plan8 lenP edue hsm
      have okp : dOk (.tup (pl.map mvD)) := run_dok hsm (by omega)
      have e1 : dueD f r l gs (.tup (pl.map mvD)) = (decide (l7 = 0) && homeAll gs7) := edue
      have sd8 := sd4.mono w48
      have hou8 := hou4.mono w48
      have hg8 := hg4.mono w48
      -- due
      refine ⟨_, rfl, _, rfl, _, rfl, _, rfl, small_le (by show 2 ≤ 100000; decide), fun p9 n9 => ⟨_, rfl, .ref p9, .ref p8, l, f, r, gs, .tup (pl.map mvD), rfl, ⟨g, ⟨p9, rfl, upd_same⟩, hg8.mono (Same.new n9).wk⟩, gk, hf.2, hl, plan8.d.mono (Same.new n9).wk, okp, fun H10 s10 => ?_⟩⟩
      have t10 := (Same.new n9 (o := .tup [.int l, g])).trans s10
      have sd10 := sd8.mono t10.wk
      have hou10 := hou8.mono t10.wk
      have plan10 := plan8.mono t10.wk
      have hg10 := hg8.mono t10.wk
      have h10 := h8.same t10
      -- the first test
      dsimp only [gName]
      refine seq_cut (fun σ' H' => Same H10 H' ∧ σ' = [some (.ref sc), some (.ref a), some (.int (0 + (i : Int))), some (.int f), some (.int r), some (.int l), some g, some (.ref x), some (.ref x2), some (.ref pA), some sv6, some (.ref p8), some (.bl (dueD f r l gs (.tup (pl.map mvD)))), z13, z14, z15, none, none, none]) (fun σ' H13 h => ?_) (fun N hN => ?_)
      rotate_left
      · refine ⟨_, rfl, _, rfl, .ref x2, .ref x, .ref p8, l, f, r, gs, .tup (pl.map mvD), rfl, sd10, hou10, gk, hf.2, hl, plan10.d, okp, fun H11 s11 => ⟨_, rfl, _, rfl, _, rfl, iteF ?_⟩⟩
        refine ⟨_, rfl, _, rfl, .ref x2, .ref x, .ref p8, l, f, r, l7, gs, gs7, pl, rfl, sd10.mono s11.wk, hou10.mono s11.wk, gk, hf.2, hr'.2, hl, plan10.mono s11.wk, by omega, run, fun x12 H12 s12 sd12 => ?_⟩
        have gk7 := (run.ok gk hl).1
        exact ⟨x12, .ref x, l7, gs7, rfl, sd12, Nat.le_trans (gk7.len hf.2) (by decide), fun H13 s13 => ⟨_, rfl, rfl, false, congrArg V.bl (by rw [d_bl, e1, decide_eq_true rfl]; rfl), iteF (hN _ _ ⟨(s11.trans s12).trans s13, rfl⟩)⟩⟩
      obtain ⟨s1013, rfl⟩ := h
      have sd13 := sd10.mono s1013.wk
      have hou13 := hou10.mono s1013.wk
      have plan13 := plan10.mono s1013.wk
      have hg13 := hg10.mono s1013.wk
      have h13 := h10.same s1013
      clear sd4 sd8 sd10 hou3 hou4 hou8 hou10 plan8 plan10 hg3 hg4 hg8 hg10
      -- done
      refine seq_cut (fun σ' H' => HandAt H' a c ∧ Same H13 H' ∧ σ' = [some (.ref sc), some (.ref a), some (.int (0 + (i : Int))), some (.int f), some (.int r), some (.int l), some g, some (.ref x), some (.ref x2), some (.ref pA), some sv6, some (.ref p8), some (.bl (dueD f r l gs (.tup (pl.map mvD)))), some (.bl (decide (l = 0) && homeAll gs)), z14, z15, none, none, none]) ?_ (fun N hN => ?_)
      · rintro σ' H14 ⟨h14, s14, rfl⟩
        have sd14 := sd13.mono s14.wk
        have hou14 := hou13.mono s14.wk
        have plan14 := plan13.mono s14.wk
        have hg14 := hg13.mono s14.wk
        refine ⟨_, rfl, small_le (by show 0 ≤ 100000; decide), fun pe ne' => ?_⟩
        have te := Same.new ne' (o := .tup [])
        refine ⟨.ref x2, .ref x, .ref pe, l, f, r, gs, .tup [], rfl, sd14.mono te.wk, hou14.mono te.wk, gk, hf.2, hl, .tup upd_same .nil, ⟨by decide, trivial⟩, fun H15 s15 => ⟨_, rfl, _, rfl, _, rfl, iteF ?_⟩⟩
        have s1415 := te.trans s15
        have sd15 := sd14.mono s1415.wk
        have hou15 := hou14.mono s1415.wk
        have plan15 := plan14.mono s1415.wk
        have hg15 := hg14.mono s1415.wk
        have h15 := h14.same s1415
        refine ⟨_, rfl, (by decide), (by decide), for_range (fun j σ H' => Grow a H15 H' ∧ HandAt H' a c ∧ ∃ z14 z15, σ = [some (.ref sc), some (.ref a), some (.int (0 + (i : Int))), some (.int f), some (.int r), some (.int l), some g, some (.ref x), some (.ref x2), some (.ref pA), some sv6, some (.ref p8), some (.bl (dueD f r l gs (.tup (pl.map mvD)))), some (.bl (decide (l = 0) && homeAll gs)), z14, z15, none, none, none]) ⟨h15.g, h15, _, _, rfl⟩ ?_ ?_⟩
        · rintro j σ' H16 hj ⟨g16, h16, z14, z15, rfl⟩
          refine ⟨_, rfl, _, rfl, _, rfl, a, c, .ref p8, .ref x, pl, f, r, rfl, h16, plan15.mono g16.wk, hou15.mono g16.wk, lenP, fun m hm => ⟨(hsm m hm).1, (hsm m hm).2.1⟩, fun v H17 g17 h17 okv => ?_⟩
          obtain ⟨d, hd, okd⟩ := okv
          have w17 := g16.wk.trans g17.wk
          refine ⟨_, rfl, _, rfl, .ref x2, .ref x, v, l, f, r, gs, d, rfl, sd15.mono w17, hou15.mono w17, gk, hf.2, hl, hd, okd, fun H18 s18 => ⟨_, rfl, _, rfl, _, rfl, _, rfl, small_le (by show 2 ≤ 100000; decide), fun p19 n19 => ?_⟩⟩
          have t19 := Same.new n19 (o := .tup [.int l, g])
          refine ⟨_, rfl, .ref p19, v, l, f, r, gs, d, rfl, ⟨g, ⟨p19, rfl, upd_same⟩, hg15.mono ((w17.trans s18.wk).trans t19.wk)⟩, gk, hf.2, hl, hd.mono (s18.trans t19).wk, okd, fun H20 s20 => ⟨_, rfl, _, rfl, iteF ?_⟩⟩
          have tt := (s18.trans t19).trans s20
          exact ⟨(g16.trans g17).same tt, h17.same tt, _, _, rfl⟩
        · rintro σ' H16 ⟨g16, h16, z14, z15, rfl⟩
          exact ⟨h16, _, _, _, _, _, _, _, _, _, _, _, _, _, _, rfl⟩
      · refine ⟨_, rfl, rfl, _, rfl, iteB (fun h => ?_) fun h => ?_⟩
        · rw [d_int] at h
          obtain ⟨gxs, ⟨ga, rfl, hga⟩, hgp⟩ := hg13
          have gl := gk.len hf.2
          refine ⟨_, rfl, ga, rfl, ⟨_, SqT.of hga⟩, fun D nD => lc_tupG (F := GAt) (E := fun _ v (c : Bool) => v = V.bl c) (fun g => some (decide (g.1 = g.2.1))) nD hga hgp (by omega) (fun h w => h.mono w) (fun h _ => h) (fun x b H' R R0 hb fx s2 kR _ => ?_) (fun H2 out s2 hO pO => ?_)⟩
          · obtain ⟨pb, rfl, hpb⟩ := fx
            refine ⟨_, _, rfl, SqT.of hpb, rfl, _, _, rfl, _, _, rfl, _, _, rfl, rfl, rfl, yesI ⟨_, rfl, _, rfl, rfl, ?_⟩⟩
            exact kR _ _ _ (Same.refl _) rfl (congrArg V.bl d_int)
          · have eo := out_map pO
            refine ⟨_, _, rfl, SqL.of (by rw [hO, eo]), ?_⟩
            rw [home_all]
            exact hN _ _ ⟨h13.same s2, s2, by rw [h]; rfl⟩
        · rw [d_int] at h
          exact hN _ _ ⟨h13, Same.refl _, by rw [h]; rfl⟩
    · rintro σ H1 ⟨h1, z2, z3, z4, z5, z6, z7, z8, z9, z10, z11, z12, z13, z14, z15, rfl⟩
      exact q _
end
end Wl

/-! W8: what the top has written, and the theorem. -/
namespace Wl
open PySem PySem.Spec PyProof.Rows L2
section
variable {K : PySem.W.Frag} {h : Heap} {mg : Str → Option Value}
theorem df_mk {x : Str} {st : Stmt} {ps : List Str} {f : Addr} {oc : Value} {od an : Option Addr} {sl : Array (Option Value)} {kV dc pm cd ct : Value} (X : K.In h) (G : h.Ns mainGlobals mg)
    (a : PySem.W.nsIn K mainGlobals x = some (some (.ref f))) (l : K.lookup f = some ⟨oc, od, .func (PySem.W.fnOf x x (defArgs st) (defBody st) (defScope st) .none kV dc pm an cd ct), sl⟩)
    (c : PySem.W.codeIn K cd x = true) (k : PySem.W.keepIn K (.ref f) = true)
    (b : ∀ (kV doc pm : Value) (an : Option Addr) (cdv ct : Value) (us : List Value), us.length = ps.length → bindArgs (PySem.W.fnOf x x (defArgs st) (defBody st) (defScope st) .none kV doc pm an cdv ct) ⟨us, []⟩ = pure (ps.zip us)) : Nonempty (Df K mg x st ps) :=
  ⟨⟨f, _, fun_mk (st := st) l c k, (fun_mk (st := st) l c k).binds b, PySem.W.mg_of X G a⟩⟩
/-- a class and its __init__ -/
structure ClsAll (K : PySem.W.Frag) (mg : Str → Option Value) (x qual : Str) (st : Stmt) (ps : List Str) where
  i : Ci K qual st ps
  a : Addr
  m : mg x = some (.ref a)
  mkk : Mk K a i.f
  cl : Cls K a
theorem cls_mk {x qual : Str} {st : Stmt} {ps : List Str} {C f : Addr} {oc : Value} {od an : Option Addr} {sl : Array (Option Value)} {kV dc pm cd ct : Value} (X : K.In h) (G : h.Ns mainGlobals mg)
    (aC : PySem.W.nsIn K mainGlobals x = some (some (.ref C)))
    (a : PySem.W.findIn K (.ref C) "__init__" = some (some (.ref f))) (i : PySem.W.isFn K (.ref f) = true) (l : K.lookup f = some ⟨oc, od, .func (PySem.W.fnOf "__init__" qual (defArgs st) (defBody st) (defScope st) .none kV dc pm an cd ct), sl⟩)
    (c : PySem.W.codeIn K cd qual = true) (k : PySem.W.keepIn K (.ref f) = true)
    (pg : PySem.W.plainGet K C Str.empty = true) (hd : PySem.W.hasDictIn K C = true) (po : PySem.W.plainOver K C = true) (sa : PySem.W.findIn K (.ref C) "__setattr__" = some (some (.builtin "object.__setattr__"))) (mk : PySem.W.makesIn K C = true) (kc : PySem.W.keepIn K (.ref C) = true)
    (b : ∀ (kV doc pm : Value) (an : Option Addr) (cdv ct : Value) (us : List Value), us.length = ps.length → bindArgs (PySem.W.fnOf "__init__" qual (defArgs st) (defBody st) (defScope st) .none kV doc pm an cdv ct) ⟨us, []⟩ = pure (ps.zip us)) : ∃ A : ClsAll K mg x qual st ps, A.a = C :=
  ⟨⟨⟨f, _, fun_mk (st := st) l c k, (fun_mk (st := st) l c k).binds b⟩, C, PySem.W.mg_of X G aC, ⟨mk, a, i, kc⟩, ⟨pg, hd, po, sa⟩⟩, rfl⟩
end
theorem walk_ofL {l : PySem.W.OpenLaw} {n k : Nat} {q : Program} {loose : List Str} {lv : List (Str × PySem.W.WData)} {YP : World → Heap → Prop} {d : DefRec} {K : Params → PySem.W.Frag} {sp : PySem.W.Frag → Sp} {x : Str}
    (hn : l.most = some n) (hn2 : n ≤ sizeLine) (hdf : d.params.defaults = []) (hr : Room k callerA)
    (hY : ∀ (w : World) (h : Heap), YP w h → (K w.params).In h)
    (F : ∀ (w : World) (mg : Str → Option Value) (fa : Addr) (h : Heap), (K w.params).In h → h.Ns mainGlobals mg → PySem.W.XL q lv mg h → (∀ x d, valOf q x = some d → ∃ v, mg x = some v ∧ ∀ h' : Heap, Reads h' v d []) → mg d.name = some (.ref fa) →
      ∃ fd : FuncData, (∀ (s : Shared) (u : Value), BindsTo s fd ⟨[u], []⟩ [(x, u)]) ∧
        ∀ base : Heap, (K w.params).In base → base.Ns mainGlobals mg → FnOk l.prog w (K w.params) mg base CX0 k fa fd [x] (sp (K w.params)))
    (hsp : ∀ (K : PySem.W.Frag) (H : Hp) (a : Addr) (ns : List Int), ns.length ≤ n → Only H → SqL K H a (ns.map V.int) → sp K [.ref a] H (fun v _ => v = .bl true) fun _ _ _ => False) :
    PySem.W.WalkO q loose (PySem.W.XL q lv) YP l.row.toRowW d [] (fun f vs => PySem.call f vs) := by
  refine Att.attach_call hn hdf fun w s₀ s₁ mg mb fa o pm cd doc a vs ns G Y ho hd hcd hmg hobj hints hlen hg => ?_
  have KX := hY w _ Y
  obtain ⟨fd, hb, hF⟩ := F w mg fa _ KX G.T.g G.X G.T.const hmg
  exact law_call KX G.T.g G.T.b G.T.builtins G.T.nolimit hg hobj hints (Nat.le_trans hlen hn2) hr hF hb (fun H hO hS => hsp _ H a ns hlen hO hS) fun H e s' z => z
theorem kit_own {K : PySem.W.Frag} {C : Addr} {b : String} {r : Bool} (h1 : PySem.W.kitMeta b = true) (h : PySem.W.subIn K (.ref C) (.type b) = some r) : PySem.W.kitOne K (.ref C) (.type b) = some r := by
  unfold PySem.W.kitOne PySem.W.kitCls
  rw [if_neg (by simp)]
  show (if PySem.W.kitMeta b = true then PySem.W.subIn K (.ref C) (.type b) else none) = some r
  rw [if_pos h1]
  exact h
theorem loose_int {q : Program} {lv : List (Str × PySem.W.WData)} {mg : Str → Option Value} {h : Heap} {x : Str} {i : Int} (X : PySem.W.XL q lv mg h) (hm : (x, PySem.W.WData.int i) ∈ lv) : ∃ t, mg x = some (.int i t) := by
  obtain ⟨v, h1, h2⟩ := X.2.val _ hm
  obtain ⟨t, rfl, _⟩ := PySem.W.readsW_int_inv h2
  exact ⟨t, h1⟩
theorem const_int (h : Heap) {q : Program} {mg : Str → Option Value} {x : Str} {i : Int} (C : ∀ x d, valOf q x = some d → ∃ v, mg x = some v ∧ ∀ h' : Heap, Reads h' v d []) (hv : valOf q x = some (.int i)) : ∃ t, mg x = some (.int i t) := by
  obtain ⟨v, h1, h2⟩ := C x _ hv
  have h3 := h2 h
  cases h3 with
  | int i t => exact ⟨t, h1⟩
theorem law_end {P : Program} {w : World} {K : PySem.W.Frag} {mg : Str → Option Value} {fa : Addr} (T : Txt K mg) (hfa : mg "law" = some (.ref fa)) :
    ∃ fd : FuncData, (∀ (s : Shared) (v : Value), BindsTo s fd ⟨[v], []⟩ [("_law_script", v)]) ∧ ∀ base : Heap, K.In base → base.Ns mainGlobals mg → FnOk P w K mg base CX0 8 fa fd ["_law_script"] (sp_Llaw K) := by
  have e := T.Llaw.m.symm.trans hfa
  have e : T.Llaw.f = fa := by
    injection e with e
    injection e
  refine ⟨T.Llaw.d, fun s v => ?_, fun base _ _ => e ▸ ok_Llaw T⟩
  obtain ⟨oc, od, kV, doc, pm, an, cdv, ct, osl, ed, lk, hc⟩ := T.Llaw.F.ex
  rw [ed]
  exact .of_eq rfl
end Wl

open PySem PySem.W PyProof.Rows
set_option maxRecDepth 100000 in
set_option maxHeartbeats 0 in
theorem PySem.Challenge.cw_willinglift_k12_whole_plans_judged_holds : PySem.Challenge.rw_willinglift_k12_whole_plans_judged.Holds := by
  w_on; o_law; k_head; (case hw => w_witness2)
  k_fill
  refine Wl.walk_ofL (l := PySem.Challenge.rw_willinglift_k12_whole_plans_judged) (k := 8) (x := "_law_script") (sp := Wl.sp_Llaw) rfl (by decide) rfl ⟨rfl, by decide, by decide⟩ (fun w h Y => PySem.W.kIn_of Y) ?F (fun _ _ a ns hl _ hS => ⟨a, ns, rfl, hS, hl, fun _ => rfl⟩)
  case F =>
    intro w mg fa h KX G X TC hmg
    obtain ⟨d_Pis_integer⟩ : Nonempty (Wl.Df (L2.KOf KX) mg "is_integer" Wl.s_Pis_integer ["thing"]) := by
      unfold L2.KOf
      refine' Wl.df_mk KX G ?a ?l ?c ?k (fun _ _ _ _ _ _ us hl => match us, hl with | [_], _ => rfl)
      (case a => k_is)
      (case l => k_is)
      (case c => k_is)
      (case k => k_is)
    obtain ⟨d_Pis_within⟩ : Nonempty (Wl.Df (L2.KOf KX) mg "is_within" Wl.s_Pis_within ["thing", "least", "most"]) := by
      unfold L2.KOf
      refine' Wl.df_mk KX G ?a ?l ?c ?k (fun _ _ _ _ _ _ us hl => match us, hl with | [_, _, _], _ => rfl)
      (case a => k_is)
      (case l => k_is)
      (case c => k_is)
      (case k => k_is)
    obtain ⟨d_Pis_floor⟩ : Nonempty (Wl.Df (L2.KOf KX) mg "is_floor" Wl.s_Pis_floor ["house", "thing"]) := by
      unfold L2.KOf
      refine' Wl.df_mk KX G ?a ?l ?c ?k (fun _ _ _ _ _ _ us hl => match us, hl with | [_, _], _ => rfl)
      (case a => k_is)
      (case l => k_is)
      (case c => k_is)
      (case k => k_is)
    obtain ⟨d_Pis_group⟩ : Nonempty (Wl.Df (L2.KOf KX) mg "is_group" Wl.s_Pis_group ["house", "thing"]) := by
      unfold L2.KOf
      refine' Wl.df_mk KX G ?a ?l ?c ?k (fun _ _ _ _ _ _ us hl => match us, hl with | [_, _], _ => rfl)
      (case a => k_is)
      (case l => k_is)
      (case c => k_is)
      (case k => k_is)
    obtain ⟨d_Pis_groups⟩ : Nonempty (Wl.Df (L2.KOf KX) mg "is_groups" Wl.s_Pis_groups ["house", "thing"]) := by
      unfold L2.KOf
      refine' Wl.df_mk KX G ?a ?l ?c ?k (fun _ _ _ _ _ _ us hl => match us, hl with | [_, _], _ => rfl)
      (case a => k_is)
      (case l => k_is)
      (case c => k_is)
      (case k => k_is)
    obtain ⟨d_Praw_standing⟩ : Nonempty (Wl.Df (L2.KOf KX) mg "raw_standing" Wl.s_Praw_standing ["house", "lift", "known"]) := by
      unfold L2.KOf
      refine' Wl.df_mk KX G ?a ?l ?c ?k (fun _ _ _ _ _ _ us hl => match us, hl with | [_, _, _], _ => rfl)
      (case a => k_is)
      (case l => k_is)
      (case c => k_is)
      (case k => k_is)
    obtain ⟨d_Pknown_of⟩ : Nonempty (Wl.Df (L2.KOf KX) mg "known_of" Wl.s_Pknown_of ["standing"]) := by
      unfold L2.KOf
      refine' Wl.df_mk KX G ?a ?l ?c ?k (fun _ _ _ _ _ _ us hl => match us, hl with | [_], _ => rfl)
      (case a => k_is)
      (case l => k_is)
      (case c => k_is)
      (case k => k_is)
    obtain ⟨d_Pis_home_all⟩ : Nonempty (Wl.Df (L2.KOf KX) mg "is_home_all" Wl.s_Pis_home_all ["standing"]) := by
      unfold L2.KOf
      refine' Wl.df_mk KX G ?a ?l ?c ?k (fun _ _ _ _ _ _ us hl => match us, hl with | [_], _ => rfl)
      (case a => k_is)
      (case l => k_is)
      (case c => k_is)
      (case k => k_is)
    obtain ⟨d_Pis_done⟩ : Nonempty (Wl.Df (L2.KOf KX) mg "is_done" Wl.s_Pis_done ["standing"]) := by
      unfold L2.KOf
      refine' Wl.df_mk KX G ?a ?l ?c ?k (fun _ _ _ _ _ _ us hl => match us, hl with | [_], _ => rfl)
      (case a => k_is)
      (case l => k_is)
      (case c => k_is)
      (case k => k_is)
    obtain ⟨d_Pwants_at⟩ : Nonempty (Wl.Df (L2.KOf KX) mg "wants_at" Wl.s_Pwants_at ["standing", "floor"]) := by
      unfold L2.KOf
      refine' Wl.df_mk KX G ?a ?l ?c ?k (fun _ _ _ _ _ _ us hl => match us, hl with | [_, _], _ => rfl)
      (case a => k_is)
      (case l => k_is)
      (case c => k_is)
      (case k => k_is)
    obtain ⟨d_Pis_way⟩ : Nonempty (Wl.Df (L2.KOf KX) mg "is_way" Wl.s_Pis_way ["thing"]) := by
      unfold L2.KOf
      refine' Wl.df_mk KX G ?a ?l ?c ?k (fun _ _ _ _ _ _ us hl => match us, hl with | [_], _ => rfl)
      (case a => k_is)
      (case l => k_is)
      (case c => k_is)
      (case k => k_is)
    obtain ⟨d_Pis_aboard⟩ : Nonempty (Wl.Df (L2.KOf KX) mg "is_aboard" Wl.s_Pis_aboard ["thing"]) := by
      unfold L2.KOf
      refine' Wl.df_mk KX G ?a ?l ?c ?k (fun _ _ _ _ _ _ us hl => match us, hl with | [_], _ => rfl)
      (case a => k_is)
      (case l => k_is)
      (case c => k_is)
      (case k => k_is)
    obtain ⟨d_Pis_built_move⟩ : Nonempty (Wl.Df (L2.KOf KX) mg "is_built_move" Wl.s_Pis_built_move ["thing"]) := by
      unfold L2.KOf
      refine' Wl.df_mk KX G ?a ?l ?c ?k (fun _ _ _ _ _ _ us hl => match us, hl with | [_], _ => rfl)
      (case a => k_is)
      (case l => k_is)
      (case c => k_is)
      (case k => k_is)
    obtain ⟨d_Pcan_go⟩ : Nonempty (Wl.Df (L2.KOf KX) mg "can_go" Wl.s_Pcan_go ["standing", "way"]) := by
      unfold L2.KOf
      refine' Wl.df_mk KX G ?a ?l ?c ?k (fun _ _ _ _ _ _ us hl => match us, hl with | [_, _], _ => rfl)
      (case a => k_is)
      (case l => k_is)
      (case c => k_is)
      (case k => k_is)
    obtain ⟨d_Pis_move⟩ : Nonempty (Wl.Df (L2.KOf KX) mg "is_move" Wl.s_Pis_move ["standing", "thing"]) := by
      unfold L2.KOf
      refine' Wl.df_mk KX G ?a ?l ?c ?k (fun _ _ _ _ _ _ us hl => match us, hl with | [_, _], _ => rfl)
      (case a => k_is)
      (case l => k_is)
      (case c => k_is)
      (case k => k_is)
    obtain ⟨d_Pbehind_move⟩ : Nonempty (Wl.Df (L2.KOf KX) mg "behind_move" Wl.s_Pbehind_move ["standing", "move"]) := by
      unfold L2.KOf
      refine' Wl.df_mk KX G ?a ?l ?c ?k (fun _ _ _ _ _ _ us hl => match us, hl with | [_, _], _ => rfl)
      (case a => k_is)
      (case l => k_is)
      (case c => k_is)
      (case k => k_is)
    obtain ⟨d_Pfirst_bad⟩ : Nonempty (Wl.Df (L2.KOf KX) mg "first_bad" Wl.s_Pfirst_bad ["standing", "moves"]) := by
      unfold L2.KOf
      refine' Wl.df_mk KX G ?a ?l ?c ?k (fun _ _ _ _ _ _ us hl => match us, hl with | [_, _], _ => rfl)
      (case a => k_is)
      (case l => k_is)
      (case c => k_is)
      (case k => k_is)
    obtain ⟨d_Pstandings_along⟩ : Nonempty (Wl.Df (L2.KOf KX) mg "standings_along" Wl.s_Pstandings_along ["standing", "moves"]) := by
      unfold L2.KOf
      refine' Wl.df_mk KX G ?a ?l ?c ?k (fun _ _ _ _ _ _ us hl => match us, hl with | [_, _], _ => rfl)
      (case a => k_is)
      (case l => k_is)
      (case c => k_is)
      (case k => k_is)
    obtain ⟨d_Pbehind⟩ : Nonempty (Wl.Df (L2.KOf KX) mg "behind" Wl.s_Pbehind ["standing", "moves"]) := by
      unfold L2.KOf
      refine' Wl.df_mk KX G ?a ?l ?c ?k (fun _ _ _ _ _ _ us hl => match us, hl with | [_, _], _ => rfl)
      (case a => k_is)
      (case l => k_is)
      (case c => k_is)
      (case k => k_is)
    obtain ⟨d_Pis_plan⟩ : Nonempty (Wl.Df (L2.KOf KX) mg "is_plan" Wl.s_Pis_plan ["standing", "thing"]) := by
      unfold L2.KOf
      refine' Wl.df_mk KX G ?a ?l ?c ?k (fun _ _ _ _ _ _ us hl => match us, hl with | [_, _], _ => rfl)
      (case a => k_is)
      (case l => k_is)
      (case c => k_is)
      (case k => k_is)
    obtain ⟨d_Lhand⟩ : Nonempty (Wl.Df (L2.KOf KX) mg "_law_hand" Wl.s_Lhand ["_law_script"]) := by
      unfold L2.KOf
      refine' Wl.df_mk KX G ?a ?l ?c ?k (fun _ _ _ _ _ _ us hl => match us, hl with | [_], _ => rfl)
      (case a => k_is)
      (case l => k_is)
      (case c => k_is)
      (case k => k_is)
    obtain ⟨d_Ldraw⟩ : Nonempty (Wl.Df (L2.KOf KX) mg "_law_draw" Wl.s_Ldraw ["_law_hand_here", "_law_many"]) := by
      unfold L2.KOf
      refine' Wl.df_mk KX G ?a ?l ?c ?k (fun _ _ _ _ _ _ us hl => match us, hl with | [_, _], _ => rfl)
      (case a => k_is)
      (case l => k_is)
      (case c => k_is)
      (case k => k_is)
    obtain ⟨d_Lgreat⟩ : Nonempty (Wl.Df (L2.KOf KX) mg "_law_great" Wl.s_Lgreat ["_law_hand_here", "_law_most"]) := by
      unfold L2.KOf
      refine' Wl.df_mk KX G ?a ?l ?c ?k (fun _ _ _ _ _ _ us hl => match us, hl with | [_, _], _ => rfl)
      (case a => k_is)
      (case l => k_is)
      (case c => k_is)
      (case k => k_is)
    obtain ⟨d_Ldeep⟩ : Nonempty (Wl.Df (L2.KOf KX) mg "_law_deep" Wl.s_Ldeep ["_law_kind"]) := by
      unfold L2.KOf
      refine' Wl.df_mk KX G ?a ?l ?c ?k (fun _ _ _ _ _ _ us hl => match us, hl with | [_], _ => rfl)
      (case a => k_is)
      (case l => k_is)
      (case c => k_is)
      (case k => k_is)
    obtain ⟨d_Lis_int⟩ : Nonempty (Wl.Df (L2.KOf KX) mg "_law_is_int" Wl.s_Lis_int ["_law_thing", "_law_least", "_law_most"]) := by
      unfold L2.KOf
      refine' Wl.df_mk KX G ?a ?l ?c ?k (fun _ _ _ _ _ _ us hl => match us, hl with | [_, _, _], _ => rfl)
      (case a => k_is)
      (case l => k_is)
      (case c => k_is)
      (case k => k_is)
    obtain ⟨d_Lflag⟩ : Nonempty (Wl.Df (L2.KOf KX) mg "_law_flag" Wl.s_Lflag ["_law_told", "_law_due_here"]) := by
      unfold L2.KOf
      refine' Wl.df_mk KX G ?a ?l ?c ?k (fun _ _ _ _ _ _ us hl => match us, hl with | [_, _], _ => rfl)
      (case a => k_is)
      (case l => k_is)
      (case c => k_is)
      (case k => k_is)
    obtain ⟨d_Lhere⟩ : Nonempty (Wl.Df (L2.KOf KX) mg "_law_here" Wl.s_Lhere ["_law_state"]) := by
      unfold L2.KOf
      refine' Wl.df_mk KX G ?a ?l ?c ?k (fun _ _ _ _ _ _ us hl => match us, hl with | [_], _ => rfl)
      (case a => k_is)
      (case l => k_is)
      (case c => k_is)
      (case k => k_is)
    obtain ⟨d_Lmade⟩ : Nonempty (Wl.Df (L2.KOf KX) mg "_law_made" Wl.s_Lmade ["_law_state", "_law_move_here"]) := by
      unfold L2.KOf
      refine' Wl.df_mk KX G ?a ?l ?c ?k (fun _ _ _ _ _ _ us hl => match us, hl with | [_, _], _ => rfl)
      (case a => k_is)
      (case l => k_is)
      (case c => k_is)
      (case k => k_is)
    obtain ⟨d_Lmove⟩ : Nonempty (Wl.Df (L2.KOf KX) mg "_law_move" Wl.s_Lmove ["_law_hand_here", "_law_floors", "_law_room", "_law_state"]) := by
      unfold L2.KOf
      refine' Wl.df_mk KX G ?a ?l ?c ?k (fun _ _ _ _ _ _ us hl => match us, hl with | [_, _, _, _], _ => rfl)
      (case a => k_is)
      (case l => k_is)
      (case c => k_is)
      (case k => k_is)
    obtain ⟨d_Lwalk⟩ : Nonempty (Wl.Df (L2.KOf KX) mg "_law_walk" Wl.s_Lwalk ["_law_hand_here", "_law_floors", "_law_room", "_law_state", "_law_many"]) := by
      unfold L2.KOf
      refine' Wl.df_mk KX G ?a ?l ?c ?k (fun _ _ _ _ _ _ us hl => match us, hl with | [_, _, _, _, _], _ => rfl)
      (case a => k_is)
      (case l => k_is)
      (case c => k_is)
      (case k => k_is)
    obtain ⟨d_Lis_built⟩ : Nonempty (Wl.Df (L2.KOf KX) mg "_law_is_built" Wl.s_Lis_built ["_law_thing"]) := by
      unfold L2.KOf
      refine' Wl.df_mk KX G ?a ?l ?c ?k (fun _ _ _ _ _ _ us hl => match us, hl with | [_], _ => rfl)
      (case a => k_is)
      (case l => k_is)
      (case c => k_is)
      (case k => k_is)
    obtain ⟨d_Lis_move⟩ : Nonempty (Wl.Df (L2.KOf KX) mg "_law_is_move" Wl.s_Lis_move ["_law_floors", "_law_room", "_law_state", "_law_thing"]) := by
      unfold L2.KOf
      refine' Wl.df_mk KX G ?a ?l ?c ?k (fun _ _ _ _ _ _ us hl => match us, hl with | [_, _, _, _], _ => rfl)
      (case a => k_is)
      (case l => k_is)
      (case c => k_is)
      (case k => k_is)
    obtain ⟨d_Lbent_move⟩ : Nonempty (Wl.Df (L2.KOf KX) mg "_law_bent_move" Wl.s_Lbent_move ["_law_hand_here", "_law_move_here", "_law_house"]) := by
      unfold L2.KOf
      refine' Wl.df_mk KX G ?a ?l ?c ?k (fun _ _ _ _ _ _ us hl => match us, hl with | [_, _, _], _ => rfl)
      (case a => k_is)
      (case l => k_is)
      (case c => k_is)
      (case k => k_is)
    obtain ⟨d_Lhome⟩ : Nonempty (Wl.Df (L2.KOf KX) mg "_law_home" Wl.s_Lhome ["_law_floors", "_law_room", "_law_state"]) := by
      unfold L2.KOf
      refine' Wl.df_mk KX G ?a ?l ?c ?k (fun _ _ _ _ _ _ us hl => match us, hl with | [_, _, _], _ => rfl)
      (case a => k_is)
      (case l => k_is)
      (case c => k_is)
      (case k => k_is)
    obtain ⟨d_Lparts⟩ : Nonempty (Wl.Df (L2.KOf KX) mg "_law_parts" Wl.s_Lparts ["_law_hand_here"]) := by
      unfold L2.KOf
      refine' Wl.df_mk KX G ?a ?l ?c ?k (fun _ _ _ _ _ _ us hl => match us, hl with | [_], _ => rfl)
      (case a => k_is)
      (case l => k_is)
      (case c => k_is)
      (case k => k_is)
    obtain ⟨d_Ldue⟩ : Nonempty (Wl.Df (L2.KOf KX) mg "_law_due" Wl.s_Ldue ["_law_floors", "_law_room", "_law_state", "_law_thing"]) := by
      unfold L2.KOf
      refine' Wl.df_mk KX G ?a ?l ?c ?k (fun _ _ _ _ _ _ us hl => match us, hl with | [_, _, _, _], _ => rfl)
      (case a => k_is)
      (case l => k_is)
      (case c => k_is)
      (case k => k_is)
    obtain ⟨d_Lchanged⟩ : Nonempty (Wl.Df (L2.KOf KX) mg "_law_changed" Wl.s_Lchanged ["_law_hand_here", "_law_moves", "_law_house"]) := by
      unfold L2.KOf
      refine' Wl.df_mk KX G ?a ?l ?c ?k (fun _ _ _ _ _ _ us hl => match us, hl with | [_, _, _], _ => rfl)
      (case a => k_is)
      (case l => k_is)
      (case c => k_is)
      (case k => k_is)
    obtain ⟨d_Llaw⟩ : Nonempty (Wl.Df (L2.KOf KX) mg "law" Wl.s_Llaw ["_law_script"]) := by
      unfold L2.KOf
      refine' Wl.df_mk KX G ?a ?l ?c ?k (fun _ _ _ _ _ _ us hl => match us, hl with | [_], _ => rfl)
      (case a => k_is)
      (case l => k_is)
      (case c => k_is)
      (case k => k_is)
    obtain ⟨A_House, H_House⟩ : ∃ A : Wl.ClsAll (L2.KOf KX) mg "House" "House.__init__" Wl.s_CHouse ["self", "floors", "room"], True ∧ L2.NoAttr (L2.KOf KX) A.a "floors" ∧ L2.NoAttr (L2.KOf KX) A.a "room" ∧ PySem.W.findIn (L2.KOf KX) (.ref A.a) "__class__" = some (some (.builtin "object.__class__")) ∧ PySem.W.mroIn (L2.KOf KX) A.a (.type "object") = some true ∧ PySem.W.subIn (L2.KOf KX) (.ref A.a) (.type "int") = some false ∧ PySem.W.subIn (L2.KOf KX) (.ref A.a) (.type "bool") = some false ∧ PySem.W.subIn (L2.KOf KX) (.ref A.a) (.type "tuple") = some false := by
      unfold L2.KOf
      refine' (Exists.elim (Wl.cls_mk (st := Wl.s_CHouse) (ps := ["self", "floors", "room"]) (x := "House") (qual := "House.__init__") KX G ?aC ?a ?i ?l ?c ?k ?pg ?hd ?po ?sa ?mk ?kc (fun _ _ _ _ _ _ us hl => match us, hl with | [_, _, _], _ => rfl)) ?fin)
      (case aC => k_is)
      (case a => k_is)
      (case i => k_is)
      (case l => k_is)
      (case c => k_is)
      (case k => k_is)
      (case pg => k_is)
      (case hd => k_is)
      (case po => k_is)
      (case sa => k_is)
      (case mk => k_is)
      (case kc => k_is)
      case fin =>
        intro A eA
        refine ⟨A, trivial, ?_, ?_, ?_, ?_, ?_, ?_, ?_⟩
        all_goals (rw [eA]; (try unfold L2.NoAttr); k_is)
    obtain ⟨A_Standing, H_Standing⟩ : ∃ A : Wl.ClsAll (L2.KOf KX) mg "Standing" "Standing.__init__" Wl.s_CStanding ["self", "house", "lift", "groups"], True ∧ L2.NoAttr (L2.KOf KX) A.a "house" ∧ L2.NoAttr (L2.KOf KX) A.a "lift" ∧ L2.NoAttr (L2.KOf KX) A.a "groups" := by
      unfold L2.KOf
      refine' (Exists.elim (Wl.cls_mk (st := Wl.s_CStanding) (ps := ["self", "house", "lift", "groups"]) (x := "Standing") (qual := "Standing.__init__") KX G ?aC ?a ?i ?l ?c ?k ?pg ?hd ?po ?sa ?mk ?kc (fun _ _ _ _ _ _ us hl => match us, hl with | [_, _, _, _], _ => rfl)) ?fin)
      (case aC => k_is)
      (case a => k_is)
      (case i => k_is)
      (case l => k_is)
      (case c => k_is)
      (case k => k_is)
      (case pg => k_is)
      (case hd => k_is)
      (case po => k_is)
      (case sa => k_is)
      (case mk => k_is)
      (case kc => k_is)
      case fin =>
        intro A eA
        refine ⟨A, trivial, ?_, ?_, ?_⟩
        all_goals (rw [eA]; (try unfold L2.NoAttr); k_is)
    obtain ⟨A_RawStanding, H_RawStanding⟩ : ∃ A : Wl.ClsAll (L2.KOf KX) mg "RawStanding" "RawStanding.__init__" Wl.s_CRawStanding ["self", "house", "lift", "groups"], True ∧ L2.NoAttr (L2.KOf KX) A.a "house" ∧ L2.NoAttr (L2.KOf KX) A.a "lift" ∧ L2.NoAttr (L2.KOf KX) A.a "groups" := by
      unfold L2.KOf
      refine' (Exists.elim (Wl.cls_mk (st := Wl.s_CRawStanding) (ps := ["self", "house", "lift", "groups"]) (x := "RawStanding") (qual := "RawStanding.__init__") KX G ?aC ?a ?i ?l ?c ?k ?pg ?hd ?po ?sa ?mk ?kc (fun _ _ _ _ _ _ us hl => match us, hl with | [_, _, _, _], _ => rfl)) ?fin)
      (case aC => k_is)
      (case a => k_is)
      (case i => k_is)
      (case l => k_is)
      (case c => k_is)
      (case k => k_is)
      (case pg => k_is)
      (case hd => k_is)
      (case po => k_is)
      (case sa => k_is)
      (case mk => k_is)
      (case kc => k_is)
      case fin =>
        intro A eA
        refine ⟨A, trivial, ?_, ?_, ?_⟩
        all_goals (rw [eA]; (try unfold L2.NoAttr); k_is)
    have h_get : PySem.W.specialIn (L2.KOf KX) (.builtin "object.__class__") "__get__" = some (some (.builtin "getset_descriptor.__get__")) := by unfold L2.KOf; k_is
    have h_takes : PySem.W.takesIn (L2.KOf KX) (.builtin "object.__class__") = some true := by unfold L2.KOf; k_is
    have z_isinstance : PySem.W.nsIn (L2.KOf KX) mainGlobals "isinstance" = some none := by unfold L2.KOf; k_is
    have z_len : PySem.W.nsIn (L2.KOf KX) mainGlobals "len" = some none := by unfold L2.KOf; k_is
    have z_all : PySem.W.nsIn (L2.KOf KX) mainGlobals "all" = some none := by unfold L2.KOf; k_is
    have z_sum : PySem.W.nsIn (L2.KOf KX) mainGlobals "sum" = some none := by unfold L2.KOf; k_is
    have z_min : PySem.W.nsIn (L2.KOf KX) mainGlobals "min" = some none := by unfold L2.KOf; k_is
    have z_abs : PySem.W.nsIn (L2.KOf KX) mainGlobals "abs" = some none := by unfold L2.KOf; k_is
    have z_sorted : PySem.W.nsIn (L2.KOf KX) mainGlobals "sorted" = some none := by unfold L2.KOf; k_is
    have z_int : PySem.W.nsIn (L2.KOf KX) mainGlobals "int" = some none := by unfold L2.KOf; k_is
    have z_bool : PySem.W.nsIn (L2.KOf KX) mainGlobals "bool" = some none := by unfold L2.KOf; k_is
    have z_tuple : PySem.W.nsIn (L2.KOf KX) mainGlobals "tuple" = some none := by unfold L2.KOf; k_is
    have z_list : PySem.W.nsIn (L2.KOf KX) mainGlobals "list" = some none := by unfold L2.KOf; k_is
    have z_dict : PySem.W.nsIn (L2.KOf KX) mainGlobals "dict" = some none := by unfold L2.KOf; k_is
    have z_range : PySem.W.nsIn (L2.KOf KX) mainGlobals "range" = some none := by unfold L2.KOf; k_is
    have z_zip : PySem.W.nsIn (L2.KOf KX) mainGlobals "zip" = some none := by unfold L2.KOf; k_is
    have z_enumerate : PySem.W.nsIn (L2.KOf KX) mainGlobals "enumerate" = some none := by unfold L2.KOf; k_is
    obtain ⟨ut1, z_UP⟩ := Wl.const_int h (x := "UP") (i := 1) TC (by rfl)
    obtain ⟨ut2, z_DOWN⟩ := Wl.const_int h (x := "DOWN") (i := (-1)) TC (by rfl)
    obtain ⟨ut3, z_MOST_FLOORS⟩ := Wl.const_int h (x := "MOST_FLOORS") (i := 40) TC (by rfl)
    obtain ⟨ut4, z_MOST_GROUPS⟩ := Wl.const_int h (x := "MOST_GROUPS") (i := 400) TC (by rfl)
    obtain ⟨ut5, z_MOST_ROOM⟩ := Wl.loose_int (x := "MOST_ROOM") (i := 1000000000000) X (by simp)
    obtain ⟨ut6, z_MOST_PEOPLE⟩ := Wl.loose_int (x := "MOST_PEOPLE") (i := 1000000000000000000000000000000) X (by simp)
    have T : Wl.Txt (L2.KOf KX) mg := { Pis_integer := d_Pis_integer, Pis_within := d_Pis_within, Pis_floor := d_Pis_floor, Pis_group := d_Pis_group, Pis_groups := d_Pis_groups, Praw_standing := d_Praw_standing, Pknown_of := d_Pknown_of, Pis_home_all := d_Pis_home_all, Pis_done := d_Pis_done, Pwants_at := d_Pwants_at, Pis_way := d_Pis_way, Pis_aboard := d_Pis_aboard, Pis_built_move := d_Pis_built_move, Pcan_go := d_Pcan_go, Pis_move := d_Pis_move, Pbehind_move := d_Pbehind_move, Pfirst_bad := d_Pfirst_bad, Pstandings_along := d_Pstandings_along, Pbehind := d_Pbehind, Pis_plan := d_Pis_plan, Lhand := d_Lhand, Ldraw := d_Ldraw, Lgreat := d_Lgreat, Ldeep := d_Ldeep, Lis_int := d_Lis_int, Lflag := d_Lflag, Lhere := d_Lhere, Lmade := d_Lmade, Lmove := d_Lmove, Lwalk := d_Lwalk, Lis_built := d_Lis_built, Lis_move := d_Lis_move, Lbent_move := d_Lbent_move, Lhome := d_Lhome, Lparts := d_Lparts, Ldue := d_Ldue, Lchanged := d_Lchanged, Llaw := d_Llaw, c_House := A_House.i, c_Standing := A_Standing.i, c_RawStanding := A_RawStanding.i, a_House := A_House.a, m_House := A_House.m, mk_House := A_House.mkk, cl_House := A_House.cl, a_Standing := A_Standing.a, m_Standing := A_Standing.m, mk_Standing := A_Standing.mkk, cl_Standing := A_Standing.cl, a_RawStanding := A_RawStanding.a, m_RawStanding := A_RawStanding.m, mk_RawStanding := A_RawStanding.mkk, cl_RawStanding := A_RawStanding.cl, na_floors := H_House.2.1, na_room := H_House.2.2.1, nb_house := H_Standing.2.1, nb_lift := H_Standing.2.2.1, nb_groups := H_Standing.2.2.2, nc_house := H_RawStanding.2.1, nc_lift := H_RawStanding.2.2.1, nc_groups := H_RawStanding.2.2.2, h_cls := H_House.2.2.2.1, h_get := h_get, h_takes := h_takes, h_mro := H_House.2.2.2.2.1, h_int := Wl.kit_own (by decide +kernel) H_House.2.2.2.2.2.1, h_bool := Wl.kit_own (by decide +kernel) H_House.2.2.2.2.2.2.1, h_tuple := Wl.kit_own (by decide +kernel) H_House.2.2.2.2.2.2.2, n_isinstance := PySem.W.mg_none_of KX G z_isinstance, n_len := PySem.W.mg_none_of KX G z_len, n_all := PySem.W.mg_none_of KX G z_all, n_sum := PySem.W.mg_none_of KX G z_sum, n_min := PySem.W.mg_none_of KX G z_min, n_abs := PySem.W.mg_none_of KX G z_abs, n_sorted := PySem.W.mg_none_of KX G z_sorted, n_int := PySem.W.mg_none_of KX G z_int, n_bool := PySem.W.mg_none_of KX G z_bool, n_tuple := PySem.W.mg_none_of KX G z_tuple, n_list := PySem.W.mg_none_of KX G z_list, n_dict := PySem.W.mg_none_of KX G z_dict, n_range := PySem.W.mg_none_of KX G z_range, n_zip := PySem.W.mg_none_of KX G z_zip, n_enumerate := PySem.W.mg_none_of KX G z_enumerate, t1 := ut1, g_UP := z_UP, t2 := ut2, g_DOWN := z_DOWN, t3 := ut3, g_MOST_FLOORS := z_MOST_FLOORS, t4 := ut4, g_MOST_GROUPS := z_MOST_GROUPS, t5 := ut5, g_MOST_ROOM := z_MOST_ROOM, t6 := ut6, g_MOST_PEOPLE := z_MOST_PEOPLE }
    exact Wl.law_end T hmg
#print axioms PySem.Challenge.cw_willinglift_k12_whole_plans_judged_holds
