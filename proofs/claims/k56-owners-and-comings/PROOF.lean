import PyProof.Rows.All
import Wide.All
import OpenK.AllK
import Wide.FinOn
import HandS.ForMost
import HandS.Conv
import HandS.Property
import HandS.ClsMeth
import HandS.IsInst
import HandS.SetFor
import HandS.Strs
import HandS.FStr
import HandS.Zip
import HandS.Wide
import HandS.Deep
import HandS.Style
import KE.SortData
import KE.KDictKeyed
import KE.KDictWalk
import HandS.Walk
import KE.KDictDisplayH
import PySem.Challenge.RW_movedstates_k56_whole_owners_and_comings
/-! Plain lists: what a table of counts tells of a bag, and that sorted rows with the same counts are the same. -/
namespace MS

/-! ### assoc lists of counts -/
section
variable {α : Type} [DecidableEq α]
def lookC (kvs : List (α × Int)) (k : α) : Option Int := (kvs.find? fun p => decide (p.1 = k)).map (·.2)
def putC (kvs : List (α × Int)) (k : α) (v : Int) : List (α × Int) :=
  if k ∈ kvs.map (·.1) then kvs.map fun p => if p.1 = k then (p.1, v) else p else kvs ++ [(k, v)]
def addC (kvs : List (α × Int)) (k : α) (m : Int) : List (α × Int) := putC kvs k ((lookC kvs k).getD 0 + m)

/-- kvs tells how often each thing stands in L -/
structure Tal (kvs : List (α × Int)) (L : List α) : Prop where
  nd : (kvs.map (·.1)).Nodup
  ct : ∀ p ∈ kvs, p.2 = (L.count p.1 : Int)
  mem : ∀ a, a ∈ kvs.map (·.1) ↔ a ∈ L

theorem Tal.nil : Tal ([] : List (α × Int)) [] := ⟨List.nodup_nil, (fun _ h => nomatch h), fun _ => by simp⟩
theorem Tal.perm {kvs : List (α × Int)} {L L' : List α} (t : Tal kvs L) (h : L.Perm L') : Tal kvs L' :=
  ⟨t.nd, fun p hp => by rw [← h.count_eq]; exact t.ct p hp, fun a => (t.mem a).trans h.mem_iff⟩
theorem Tal.pos {kvs : List (α × Int)} {L : List α} (t : Tal kvs L) {p : α × Int} (hp : p ∈ kvs) : 0 < p.2 := by
  have h1 : p.1 ∈ L := (t.mem p.1).mp (List.mem_map.mpr ⟨p, hp, rfl⟩)
  rw [t.ct p hp]
  have := List.count_pos_iff.mpr h1
  omega
theorem lookC_none {kvs : List (α × Int)} {k : α} (h : k ∉ kvs.map (·.1)) : lookC kvs k = none := by
  unfold lookC
  rw [Option.map_eq_none_iff, List.find?_eq_none]
  intro p hp
  simp only [decide_eq_true_eq]
  intro e
  exact h (List.mem_map.mpr ⟨p, hp, e⟩)
theorem lookC_some {kvs : List (α × Int)} {k : α} {v : Int} (hn : (kvs.map (·.1)).Nodup) (h : (k, v) ∈ kvs) : lookC kvs k = some v := by
  induction kvs with
  | nil => cases h
  | cons q r ih =>
    rw [List.map_cons, List.nodup_cons] at hn
    unfold lookC
    rcases List.mem_cons.mp h with e | e
    · subst e
      simp
    · have hne : ¬ q.1 = k := fun z => hn.1 (List.mem_map.mpr ⟨(k, v), e, z.symm⟩)
      rw [List.find?_cons]
      simp only [hne, decide_false]
      exact ih hn.2 e
theorem lookC_mem {kvs : List (α × Int)} {k : α} {v : Int} (h : lookC kvs k = some v) : (k, v) ∈ kvs := by
  unfold lookC at h
  obtain ⟨p, hp, e⟩ := Option.map_eq_some_iff.mp h
  have h1 := List.mem_of_find?_eq_some hp
  have h2 := List.find?_some hp
  simp only [decide_eq_true_eq] at h2
  subst e
  subst h2
  exact h1
theorem Tal.look {kvs : List (α × Int)} {L : List α} (t : Tal kvs L) (k : α) : (lookC kvs k).getD 0 = (L.count k : Int) := by
  by_cases h : k ∈ kvs.map (·.1)
  · obtain ⟨p, hp, e⟩ := List.mem_map.mp h
    have := lookC_some (k := p.1) (v := p.2) t.nd hp
    rw [← e, this, ← t.ct p hp]
    rfl
  · rw [lookC_none h]
    have : k ∉ L := fun z => h ((t.mem k).mpr z)
    rw [List.count_eq_zero_of_not_mem this]
    rfl
theorem Tal.add {kvs : List (α × Int)} {L : List α} (t : Tal kvs L) (k : α) {m : Int} (hm : 0 < m) : Tal (addC kvs k m) (L ++ List.replicate m.toNat k) := by
  have hv := t.look k
  unfold addC
  rw [hv]
  have hc : ∀ a, (L ++ List.replicate m.toNat k).count a = L.count a + if a = k then m.toNat else 0 := fun a => by
    rw [List.count_append, List.count_replicate]
    by_cases e : a = k
    · subst e; simp
    · have e' : ¬ k = a := fun z => e z.symm
      simp [e, e']
  have hmem : ∀ a, a ∈ L ++ List.replicate m.toNat k ↔ a ∈ L ∨ a = k := fun a => by
    rw [List.mem_append, List.mem_replicate]
    constructor
    · rintro (h | ⟨_, h⟩)
      · exact .inl h
      · exact .inr h
    · rintro (h | h)
      · exact .inl h
      · exact .inr ⟨by omega, h⟩
  unfold putC
  by_cases h : k ∈ kvs.map (·.1)
  · rw [if_pos h]
    have hk : (kvs.map fun p => if p.1 = k then (p.1, (L.count k : Int) + m) else p).map (·.1) = kvs.map (·.1) := by
      rw [List.map_map]
      refine List.map_congr_left fun p _ => ?_
      simp only [Function.comp_apply]
      split <;> rfl
    refine ⟨by rw [hk]; exact t.nd, fun p hp => ?_, fun a => ?_⟩
    · obtain ⟨q, hq, e⟩ := List.mem_map.mp hp
      subst e
      by_cases e : q.1 = k
      · rw [if_pos e]
        simp only
        rw [hc, if_pos e, e]
        omega
      · rw [if_neg e, hc, if_neg e, t.ct q hq]
        omega
    · rw [hk, hmem, t.mem]
      constructor
      · exact .inl
      · rintro (z | z)
        · exact z
        · rw [z]; exact (t.mem k).mp h
  · rw [if_neg h]
    have hL : k ∉ L := fun z => h ((t.mem k).mpr z)
    refine ⟨?_, fun p hp => ?_, fun a => ?_⟩
    · rw [List.map_append, List.map_cons, List.map_nil, List.nodup_append]
      refine ⟨t.nd, by simp, ?_⟩
      intro a ha b hb
      rw [List.mem_singleton] at hb
      subst hb
      intro e
      subst e
      exact h ha
    · rcases List.mem_append.mp hp with z | z
      · have hne : ¬ p.1 = k := fun e => h (List.mem_map.mpr ⟨p, z, e⟩)
        rw [hc, if_neg hne, t.ct p z]
        omega
      · rw [List.mem_singleton] at z
        subst z
        simp only
        rw [hc, if_pos rfl, List.count_eq_zero_of_not_mem hL]
        omega
    · rw [List.map_append, List.map_cons, List.map_nil, List.mem_append, List.mem_singleton, hmem, t.mem]
theorem flatMap_replicate_count {kvs : List (α × Int)} (hn : (kvs.map (·.1)).Nodup) (hp : ∀ p ∈ kvs, 0 < p.2) (a : α) :
    ((kvs.flatMap fun p => List.replicate p.2.toNat p.1).count a : Int) = (lookC kvs a).getD 0 := by
  induction kvs with
  | nil => rfl
  | cons q r ih =>
    rw [List.map_cons, List.nodup_cons] at hn
    have ih' := ih hn.2 fun p hp' => hp p (List.mem_cons_of_mem _ hp')
    rw [List.flatMap_cons, List.count_append, List.count_replicate]
    by_cases e : q.1 = a
    · have hno : a ∉ r.map (·.1) := fun z => hn.1 (e ▸ z)
      have h0 : (lookC r a).getD 0 = 0 := by rw [lookC_none hno]; rfl
      have h1 : (lookC (q :: r) a).getD 0 = q.2 := by simp [lookC, e]
      have hq := hp q List.mem_cons_self
      simp only [e, beq_self_eq_true, if_true]
      rw [h1]
      rw [h0] at ih'
      omega
    · have h1 : (lookC (q :: r) a).getD 0 = (lookC r a).getD 0 := by simp [lookC, e]
      have e' : ¬ (q.1 == a) = true := by simp [e]
      rw [h1, if_neg e']
      omega
/-- the bag, written out -/
theorem Tal.expand {kvs : List (α × Int)} {L : List α} (t : Tal kvs L) : L.Perm (kvs.flatMap fun p => List.replicate p.2.toNat p.1) := by
  rw [List.perm_iff_count]
  intro a
  have h1 := flatMap_replicate_count t.nd (fun p hp => t.pos hp) a
  rw [t.look a] at h1
  omega
theorem sum_append_int (a b : List Int) : (a ++ b).sum = a.sum + b.sum := by
  induction a with
  | nil => simp
  | cons x r ih => rw [List.cons_append, List.sum_cons, List.sum_cons, ih]; omega
theorem sum_perm_int {a b : List Int} (h : a.Perm b) : a.sum = b.sum := by
  induction h with
  | nil => rfl
  | cons x _ ih => rw [List.sum_cons, List.sum_cons, ih]
  | swap x y l => simp only [List.sum_cons]; omega
  | trans _ _ i1 i2 => exact i1.trans i2
theorem sum_replicate_int (n : Nat) (x : Int) : (List.replicate n x).sum = n * x := by
  induction n with
  | zero => simp
  | succ n ih =>
    rw [List.replicate_succ, List.sum_cons, ih]
    have : ((n + 1 : Nat) : Int) * x = (n : Int) * x + x := by rw [Int.natCast_add, Int.add_mul]; simp
    omega
/-- a sum over the rows is a sum over the bag -/
theorem Tal.sum {kvs : List (α × Int)} {L : List α} (t : Tal kvs L) (g : α → Int) : (kvs.map fun p => p.2 * g p.1).sum = (L.map g).sum := by
  have h1 : (L.map g).Perm ((kvs.flatMap fun p => List.replicate p.2.toNat p.1).map g) := t.expand.map g
  rw [sum_perm_int h1]
  have hp : ∀ p ∈ kvs, 0 < p.2 := fun p hp => t.pos hp
  clear h1 t
  induction kvs with
  | nil => rfl
  | cons q r ih =>
    have hq := hp q List.mem_cons_self
    rw [List.map_cons, List.sum_cons, List.flatMap_cons, List.map_append, sum_append_int, List.map_replicate, sum_replicate_int, ih fun p hp' => hp p (List.mem_cons_of_mem _ hp')]
    have : ((q.2.toNat : Nat) : Int) = q.2 := by omega
    rw [this]
theorem Tal.uniq_mem {kvs kvs' : List (α × Int)} {L L' : List α} (t : Tal kvs L) (t' : Tal kvs' L') (h : L.Perm L') (p : α × Int) : p ∈ kvs ↔ p ∈ kvs' := by
  have one : ∀ {kvs kvs' : List (α × Int)} {L : List α}, Tal kvs L → Tal kvs' L → p ∈ kvs → p ∈ kvs' := fun {kvs kvs' L} t t' hp => by
    have h1 : p.1 ∈ kvs'.map (·.1) := (t'.mem _).mpr ((t.mem _).mp (List.mem_map.mpr ⟨p, hp, rfl⟩))
    obtain ⟨q, hq, e⟩ := List.mem_map.mp h1
    have e2 : q.2 = p.2 := by rw [t'.ct q hq, t.ct p hp, e]
    have : q = p := Prod.ext e e2
    exact this ▸ hq
  exact ⟨one t (t'.perm h.symm), one (t'.perm h.symm) t⟩
theorem Tal.rows_nodup {kvs : List (α × Int)} {L : List α} (t : Tal kvs L) : kvs.Nodup := by
  have h : kvs.Pairwise fun p q => p.1 ≠ q.1 := by
    have := t.nd
    rw [List.Nodup, List.pairwise_map] at this
    exact this
  exact h.imp fun hne e => hne (by rw [e])
theorem Tal.uniq_perm {kvs kvs' : List (α × Int)} {L L' : List α} (t : Tal kvs L) (t' : Tal kvs' L') (h : L.Perm L') : kvs.Perm kvs' :=
  (List.perm_ext_iff_of_nodup t.rows_nodup t'.rows_nodup).mpr fun p => t.uniq_mem t' h p
theorem Tal.map {β : Type} [DecidableEq β] {kvs : List (α × Int)} {L : List α} (t : Tal kvs L) (f : α → β) (inj : ∀ a ∈ L, ∀ b ∈ L, f a = f b → a = b) : Tal (kvs.map fun p => (f p.1, p.2)) (L.map f) := by
  have hk : (kvs.map fun p => (f p.1, p.2)).map (·.1) = (kvs.map (·.1)).map f := by rw [List.map_map, List.map_map]; rfl
  have hL : ∀ {a}, a ∈ kvs.map (·.1) → a ∈ L := fun {a} h => (t.mem a).mp h
  refine ⟨?_, fun p hp => ?_, fun b => ?_⟩
  · rw [hk, List.Nodup, List.pairwise_map]
    have h2 : (kvs.map (·.1)).Pairwise fun a b => a ∈ L ∧ b ∈ L ∧ a ≠ b := by
      have h3 : ∀ l : List α, (∀ a ∈ l, a ∈ L) → l.Nodup → l.Pairwise fun a b => a ∈ L ∧ b ∈ L ∧ a ≠ b := by
        intro l
        induction l with
        | nil => intro _ _; exact List.Pairwise.nil
        | cons x r ih =>
          intro hs hn
          rw [List.nodup_cons] at hn
          refine List.Pairwise.cons (fun y hy => ⟨hs x List.mem_cons_self, hs y (List.mem_cons_of_mem _ hy), fun e => hn.1 (e ▸ hy)⟩) (ih (fun a ha => hs a (List.mem_cons_of_mem _ ha)) hn.2)
      exact h3 _ (fun a ha => hL ha) t.nd
    exact h2.imp fun ⟨h1, h2, h3⟩ e => h3 (inj _ h1 _ h2 e)
  · obtain ⟨q, hq, e⟩ := List.mem_map.mp hp
    subst e
    simp only
    rw [t.ct q hq]
    have hq' : q.1 ∈ L := hL (List.mem_map.mpr ⟨q, hq, rfl⟩)
    congr 1
    rw [List.count_eq_countP, List.count_eq_countP, List.countP_map]
    refine List.countP_congr fun a ha => ?_
    simp only [Function.comp_apply, beq_iff_eq]
    exact ⟨fun e => by rw [e], fun e => inj _ ha _ hq' e⟩
  · rw [hk]
    simp only [List.mem_map]
    constructor
    · rintro ⟨a, ⟨p, hp, e⟩, rfl⟩
      exact ⟨a, hL (List.mem_map.mpr ⟨p, hp, e⟩), rfl⟩
    · rintro ⟨a, ha, rfl⟩
      obtain ⟨p, hp, e⟩ := List.mem_map.mp ((t.mem a).mpr ha)
      exact ⟨a, ⟨p, hp, e⟩, rfl⟩
end

/-! ### rows, ascending -/
structure Rows (rows : List (List Int × Int)) (L : List (List Int)) : Prop where
  tal : Tal rows L
  asc : rows.Pairwise fun p q => p.1 < q.1
theorem lt_irrefl_li (a : List Int) : ¬ a < a := List.lt_irrefl a
theorem rows_eq_of_perm : ∀ {r r' : List (List Int × Int)}, r.Pairwise (fun p q => p.1 < q.1) → r'.Pairwise (fun p q => p.1 < q.1) → r.Perm r' → r = r' := by
  intro r r' h h' hp
  refine List.Perm.eq_of_pairwise (le := fun p q => p.1 < q.1) ?_ h h' hp
  intro a b _ _ h1 h2
  exact absurd (List.lt_trans h1 h2) (lt_irrefl_li _)
theorem Rows.uniq {r r' : List (List Int × Int)} {L L' : List (List Int)} (t : Rows r L) (t' : Rows r' L') (h : L.Perm L') : r = r' :=
  rows_eq_of_perm t.asc t'.asc (t.tal.uniq_perm t'.tal h)
end MS

/-! Plain lists: beginnings of rankings, nodes, holders; a level's table tallies the nodes of all beginnings. -/
namespace MS

/-! ### beginnings and rankings -/
def ws (n : Nat) : List Int := (List.range n).map fun i : Nat => (i : Int)
def free (n : Nat) (b : List Int) : List Int := (ws n).filter fun w => decide (w ∉ b)
def begs (n : Nat) : Nat → List (List Int)
  | 0 => [[]]
  | k + 1 => (begs n k).flatMap fun b => (free n b).map fun w => b ++ [w]
def perms (n : Nat) : List (List Int) := begs n n
theorem mem_ws {n : Nat} {w : Int} : w ∈ ws n ↔ 0 ≤ w ∧ w < n := by
  unfold ws
  rw [List.mem_map]
  constructor
  · rintro ⟨i, hi, rfl⟩
    rw [List.mem_range] at hi
    omega
  · rintro ⟨h1, h2⟩
    exact ⟨w.toNat, List.mem_range.mpr (by omega), by omega⟩
theorem ws_length (n : Nat) : (ws n).length = n := by simp [ws]
theorem ws_nodup (n : Nat) : (ws n).Nodup := by
  unfold ws
  rw [List.Nodup, List.pairwise_map]
  refine List.Pairwise.imp ?_ (List.nodup_range (n := n))
  intro a b h e
  exact h (by omega)
theorem mem_free {n : Nat} {b : List Int} {w : Int} : w ∈ free n b ↔ w ∈ ws n ∧ w ∉ b := by simp [free]
theorem free_nodup (n : Nat) (b : List Int) : (free n b).Nodup := (ws_nodup n).filter _
theorem free_congr {n : Nat} {b b' : List Int} (h : ∀ w, w ∈ b ↔ w ∈ b') : free n b = free n b' := by
  unfold free
  refine List.filter_congr fun w _ => ?_
  simp only [h w]
theorem mem_begs {n : Nat} : ∀ {k : Nat} {b : List Int}, b ∈ begs n k ↔ b.length = k ∧ b.Nodup ∧ ∀ w ∈ b, w ∈ ws n
  | 0, b => by
    unfold begs
    rw [List.mem_singleton]
    constructor
    · rintro rfl
      simp
    · rintro ⟨h, _⟩
      exact List.length_eq_zero_iff.mp h
  | k + 1, b => by
    unfold begs
    simp only [List.mem_flatMap, List.mem_map]
    constructor
    · rintro ⟨c, hc, w, hw, rfl⟩
      obtain ⟨h1, h2, h3⟩ := mem_begs.mp hc
      obtain ⟨h4, h5⟩ := mem_free.mp hw
      refine ⟨by simp [h1], ?_, fun v hv => ?_⟩
      · rw [List.nodup_append]
        refine ⟨h2, by simp, fun a ha b hb e => ?_⟩
        rw [List.mem_singleton] at hb
        subst hb
        subst e
        exact h5 ha
      · rcases List.mem_append.mp hv with z | z
        · exact h3 v z
        · rw [List.mem_singleton] at z
          exact z ▸ h4
    · rintro ⟨h1, h2, h3⟩
      have hne : b ≠ [] := fun e => by rw [e] at h1; simp at h1
      have hb : b.dropLast ++ [b.getLast hne] = b := List.dropLast_concat_getLast hne
      refine ⟨b.dropLast, mem_begs.mpr ⟨by rw [List.length_dropLast]; omega, ?_, fun w hw => h3 w (List.dropLast_subset b hw)⟩, b.getLast hne, mem_free.mpr ⟨h3 _ (List.getLast_mem hne), ?_⟩, hb⟩
      · rw [← hb, List.nodup_append] at h2
        exact h2.1
      · rw [← hb, List.nodup_append] at h2
        intro z
        exact h2.2.2 _ z _ List.mem_cons_self rfl
theorem begs_nodup (n : Nat) : ∀ k : Nat, (begs n k).Nodup
  | 0 => by simp [begs]
  | k + 1 => by
    unfold begs
    rw [List.Nodup, List.pairwise_flatMap]
    refine ⟨fun b _ => ?_, ?_⟩
    · rw [List.pairwise_map]
      refine (free_nodup n b).imp ?_
      intro x y h e
      exact h (by simpa using e)
    · refine (begs_nodup n k).imp ?_
      intro a b h x hx y hy e
      obtain ⟨v, _, rfl⟩ := List.mem_map.mp hx
      obtain ⟨w, _, rfl⟩ := List.mem_map.mp hy
      have := List.append_inj' e rfl
      exact h this.1
theorem mem_perms {n : Nat} {r : List Int} : r ∈ perms n ↔ r.Perm (ws n) := by
  unfold perms
  rw [mem_begs]
  constructor
  · rintro ⟨h1, h2, h3⟩
    refine (List.perm_ext_iff_of_nodup h2 (ws_nodup n)).mpr fun w => ⟨h3 w, fun hw => ?_⟩
    refine Decidable.byContradiction fun hn => ?_
    have h4 : (w :: r).Nodup := List.nodup_cons.mpr ⟨hn, h2⟩
    have h5 := h4.length_le_of_subset (l₂ := ws n) fun v hv => by
      rcases List.mem_cons.mp hv with z | z
      · exact z ▸ hw
      · exact h3 v z
    rw [ws_length, List.length_cons] at h5
    omega
  · intro h
    exact ⟨h.length_eq.trans (ws_length n), h.nodup_iff.mpr (ws_nodup n), fun w hw => h.mem_iff.mp hw⟩
theorem perms_nodup (n : Nat) : (perms n).Nodup := begs_nodup n n

/-! ### sorted lists of numbers -/
def srt (l : List Int) : List Int := l.mergeSort fun a b => decide (a ≤ b)
theorem srt_perm (l : List Int) : (srt l).Perm l := List.mergeSort_perm l _
theorem srt_sorted (l : List Int) : (srt l).Pairwise (· ≤ ·) := by
  have h := List.pairwise_mergeSort (le := fun a b : Int => decide (a ≤ b)) (fun a b c h1 h2 => by simp only [decide_eq_true_eq] at *; omega) (fun a b => by simp only [Bool.or_eq_true, decide_eq_true_eq]; omega) l
  exact h.imp fun h => by simpa using h
theorem sorted_unique {l l' : List Int} (h : l.Pairwise (· ≤ ·)) (h' : l'.Pairwise (· ≤ ·)) (p : l.Perm l') : l = l' := by
  refine List.Perm.eq_of_pairwise (le := fun a b : Int => a ≤ b) (fun a b _ _ h1 h2 => by omega) h h' p
theorem srt_is {l l' : List Int} (p : l'.Perm l) (h : l'.Pairwise (· ≤ ·)) : l' = srt l := sorted_unique h (srt_sorted l) (p.trans (srt_perm l).symm)
theorem srt_congr {l l' : List Int} (p : l.Perm l') : srt l = srt l' := srt_is ((srt_perm l).trans p) (srt_sorted l)

/-! ### nodes -/
structure Nd where
  pl : List Int
  hd : List Int
  fs : List Int
deriving DecidableEq
section
variable (tk : Int → List Int → Bool) (ys : List (List Int))
def hAt (pl : List Int) (w : Int) (y : List Int) (h : Int) : Int := if w ∈ y ∧ h = -1 ∧ tk w (pl.filter fun v => decide (v ∈ y)) = true then w else h
def fAt (w : Int) (y : List Int) (f : Int) : Int := if w ∈ y ∧ f = -1 then w else f
def nxt (nd : Nd) (w : Int) : Nd := ⟨srt (nd.pl ++ [w]), List.zipWith (hAt tk nd.pl w) ys nd.hd, List.zipWith (fAt w) ys nd.fs⟩
def st0 : Nd := ⟨[], ys.map fun _ => -1, ys.map fun _ => -1⟩
def ndOf (b : List Int) : Nd := b.foldl (nxt tk ys) (st0 ys)
def pick (h f : Int) : Int := if h = -1 then f else h
def settle (nd : Nd) : List Int := List.zipWith pick nd.hd nd.fs
def lineup (b y : List Int) : List Int := b.filter fun w => decide (w ∈ y)
def fstOf (b y : List Int) : Int := (lineup b y).head?.getD (-1)
def hldL : List Int → List Int → Int
  | _, [] => -1
  | seen, w :: r => if tk w seen = true then w else hldL (seen ++ [w]) r
def hldOf (b y : List Int) : Int := hldL tk [] (lineup b y)
/-- the holder of a ranking in a yard -/
def own (b y : List Int) : Int := pick (hldOf tk b y) (fstOf b y)
def owns (b : List Int) : List Int := ys.map (own tk b)
end
/-- the scheme looks at the workers ahead as a bag -/
def Bagged (tk : Int → List Int → Bool) : Prop := ∀ w s s', s.Perm s' → tk w s = tk w s'
section
variable {tk : Int → List Int → Bool} {ys : List (List Int)}
theorem lineup_snoc (b y : List Int) (w : Int) : lineup (b ++ [w]) y = lineup b y ++ if w ∈ y then [w] else [] := by
  unfold lineup
  rw [List.filter_append]
  congr 1
  by_cases h : w ∈ y <;> simp [h]
theorem hldL_snoc (w : Int) : ∀ (l seen : List Int), (∀ v ∈ l, 0 ≤ v) → hldL tk seen (l ++ [w]) = if hldL tk seen l = -1 then (if tk w (seen ++ l) = true then w else -1) else hldL tk seen l
  | [], seen, _ => by
    simp [hldL]
  | v :: r, seen, h => by
    have h0 := h v List.mem_cons_self
    rw [List.cons_append]
    unfold hldL
    by_cases e : tk v seen = true
    · rw [if_pos e, if_pos e, if_neg (by omega)]
    · rw [if_neg e, if_neg e, hldL_snoc w r (seen ++ [v]) fun x hx => h x (List.mem_cons_of_mem _ hx), List.append_assoc]
      rfl
theorem hldL_mem : ∀ (l seen : List Int), hldL tk seen l = -1 ∨ hldL tk seen l ∈ l
  | [], _ => .inl rfl
  | v :: r, seen => by
    unfold hldL
    by_cases e : tk v seen = true
    · rw [if_pos e]
      exact .inr List.mem_cons_self
    · rw [if_neg e]
      rcases hldL_mem r (seen ++ [v]) with h | h
      · exact .inl h
      · exact .inr (List.mem_cons_of_mem _ h)
theorem mem_lineup {b y : List Int} {w : Int} : w ∈ lineup b y ↔ w ∈ b ∧ w ∈ y := by simp [lineup]
theorem own_mem {b y : List Int} (h : lineup b y ≠ []) : own tk b y ∈ lineup b y := by
  unfold own pick
  by_cases e : hldOf tk b y = -1
  · rw [if_pos e]
    unfold fstOf
    cases hl : lineup b y with
    | nil => exact absurd hl h
    | cons v r => simp
  · rw [if_neg e]
    rcases hldL_mem (tk := tk) (lineup b y) [] with z | z
    · exact absurd z e
    · exact z
theorem zip_self {α β γ : Type} (f : α → β → γ) (g : α → β) (l : List α) : List.zipWith f l (l.map g) = l.map fun a => f a (g a) := by
  induction l with
  | nil => rfl
  | cons a r ih => simp [ih]
theorem zip_both {α β : Type} (f : β → β → β) (g g' : α → β) (l : List α) : List.zipWith f (l.map g) (l.map g') = l.map fun a => f (g a) (g' a) := by
  induction l with
  | nil => rfl
  | cons a r ih => simp [ih]
def ndSp (tk : Int → List Int → Bool) (ys : List (List Int)) (b : List Int) : Nd := ⟨srt b, ys.map (hldOf tk b), ys.map (fstOf b)⟩
theorem nxt_sp (hb : Bagged tk) (b : List Int) (w : Int) (h0 : ∀ v ∈ b, 0 ≤ v) : nxt tk ys (ndSp tk ys b) w = ndSp tk ys (b ++ [w]) := by
  unfold nxt ndSp
  simp only [Nd.mk.injEq]
  refine ⟨srt_congr ((srt_perm b).append_right [w]), ?_, ?_⟩
  · rw [zip_self]
    refine List.map_congr_left fun y _ => ?_
    unfold hAt hldOf
    rw [lineup_snoc]
    have hp : tk w ((srt b).filter fun v => decide (v ∈ y)) = tk w (lineup b y) := hb w _ _ ((srt_perm b).filter _)
    rw [hp]
    have h1 : ∀ v ∈ lineup b y, 0 ≤ v := fun v hv => h0 v (mem_lineup.mp hv).1
    by_cases e : w ∈ y
    · rw [if_pos e, hldL_snoc w _ _ h1]
      simp only [e, true_and, List.nil_append]
      by_cases e1 : hldL tk [] (lineup b y) = -1
      · simp only [e1, true_and, if_true]
      · simp only [e1, false_and, if_false]
    · rw [if_neg e, List.append_nil]
      simp only [e, false_and, if_false]
  · rw [zip_self]
    refine List.map_congr_left fun y _ => ?_
    unfold fAt fstOf
    rw [lineup_snoc]
    cases hl : lineup b y with
    | nil =>
      by_cases e : w ∈ y <;> simp [e]
    | cons v r =>
      have : 0 ≤ v := h0 v (mem_lineup.mp (by rw [hl]; exact List.mem_cons_self)).1
      have hv : ¬ v = -1 := by omega
      simp [hv]
theorem fold_sp (hb : Bagged tk) : ∀ (c b : List Int), (∀ v ∈ b, 0 ≤ v) → (∀ v ∈ c, 0 ≤ v) → c.foldl (nxt tk ys) (ndSp tk ys b) = ndSp tk ys (b ++ c)
  | [], b, _, _ => by simp
  | w :: c, b, h1, h2 => by
    rw [List.foldl_cons, nxt_sp hb b w h1, fold_sp hb c (b ++ [w]) (fun v hv => ?_) (fun v hv => h2 v (List.mem_cons_of_mem _ hv)), List.append_assoc]
    · rfl
    · rcases List.mem_append.mp hv with z | z
      · exact h1 v z
      · rw [List.mem_singleton] at z
        exact z ▸ h2 w List.mem_cons_self
theorem st0_sp : st0 ys = ndSp tk ys [] := by
  unfold st0 ndSp
  simp only [Nd.mk.injEq]
  refine ⟨by simp [srt], ?_, ?_⟩
  · exact List.map_congr_left fun y _ => rfl
  · exact List.map_congr_left fun y _ => rfl
/-- THE NODE of a beginning -/
theorem ndOf_sp (hb : Bagged tk) {b : List Int} (h : ∀ v ∈ b, 0 ≤ v) : ndOf tk ys b = ndSp tk ys b := by
  unfold ndOf
  rw [st0_sp (tk := tk), fold_sp hb b [] (fun _ z => nomatch z) h]
  rfl
theorem ndOf_snoc (b : List Int) (w : Int) : ndOf tk ys (b ++ [w]) = nxt tk ys (ndOf tk ys b) w := by
  unfold ndOf
  rw [List.foldl_append]
  rfl
theorem settle_ndOf (hb : Bagged tk) {b : List Int} (h : ∀ v ∈ b, 0 ≤ v) : settle (ndOf tk ys b) = owns tk ys b := by
  rw [ndOf_sp hb h]
  unfold settle ndSp owns own
  rw [zip_both]
theorem begs_nn {n k : Nat} {b : List Int} (h : b ∈ begs n k) : ∀ v ∈ b, 0 ≤ v := fun v hv => (mem_ws.mp ((mem_begs.mp h).2.2 v hv)).1
theorem pl_ndOf (hb : Bagged tk) {n k : Nat} {b : List Int} (h : b ∈ begs n k) : (ndOf tk ys b).pl = srt b := by
  rw [ndOf_sp hb (begs_nn h)]
  rfl
theorem free_ndOf (hb : Bagged tk) {n k : Nat} {b : List Int} (h : b ∈ begs n k) : free n (ndOf tk ys b).pl = free n b := by
  rw [pl_ndOf hb h]
  exact free_congr fun w => (srt_perm b).mem_iff
end

/-! ### levels -/
section
variable (tk : Int → List Int → Bool) (ys : List (List Int)) (n : Nat)
def addNode (p : Nd × Int) (acc : List (Nd × Int)) : List (Nd × Int) := (free n p.1.pl).foldl (fun acc w => addC acc (nxt tk ys p.1 w) p.2) acc
def stepL (kvs : List (Nd × Int)) : List (Nd × Int) := kvs.foldl (fun acc p => addNode tk ys n p acc) []
def lvl : Nat → List (Nd × Int)
  | 0 => [(st0 ys, 1)]
  | k + 1 => stepL tk ys n (lvl k)
end
section
variable {tk : Int → List Int → Bool} {ys : List (List Int)} {n : Nat}
theorem fold_add {α β : Type} [DecidableEq β] (f : α → β) (m : Int) (hm : 0 < m) : ∀ (l : List α) (acc : List (β × Int)) (L : List β), Tal acc L → Tal (l.foldl (fun acc w => addC acc (f w) m) acc) (L ++ l.flatMap fun w => List.replicate m.toNat (f w))
  | [], acc, L, t => by simpa using t
  | w :: l, acc, L, t => by
    rw [List.foldl_cons, List.flatMap_cons, ← List.append_assoc]
    exact fold_add f m hm l _ _ (t.add (f w) hm)
theorem fold_fold {β γ : Type} [DecidableEq β] (F : γ × Int → List (β × Int) → List (β × Int)) (G : γ × Int → List β) (hF : ∀ p acc L, 0 < p.2 → Tal acc L → Tal (F p acc) (L ++ G p)) :
    ∀ (kvs : List (γ × Int)) (acc : List (β × Int)) (L : List β), (∀ p ∈ kvs, 0 < p.2) → Tal acc L → Tal (kvs.foldl (fun acc p => F p acc) acc) (L ++ kvs.flatMap G)
  | [], acc, L, _, t => by simpa using t
  | p :: kvs, acc, L, hp, t => by
    rw [List.foldl_cons, List.flatMap_cons, ← List.append_assoc]
    exact fold_fold F G hF kvs _ _ (fun q hq => hp q (List.mem_cons_of_mem _ hq)) (hF p acc L (hp p List.mem_cons_self) t)
theorem replicate_flatMap_perm {α β : Type} (m : Nat) (a : α) (f : α → List β) : ((List.replicate m a).flatMap f).Perm ((f a).flatMap fun b => List.replicate m b) := by
  induction m with
  | zero => simp
  | succ m ih =>
    rw [List.replicate_succ, List.flatMap_cons]
    have h : ∀ l : List β, (l.flatMap fun b => List.replicate (m + 1) b).Perm (l ++ l.flatMap fun b => List.replicate m b) := by
      intro l
      induction l with
      | nil => simp
      | cons b r ihr =>
        rw [List.flatMap_cons, List.flatMap_cons, List.replicate_succ, List.cons_append, List.cons_append, List.perm_cons]
        refine (ihr.append_left _).trans ?_
        rw [← List.append_assoc, ← List.append_assoc]
        exact List.perm_append_comm.append_right _
    exact (ih.append_left _).trans (h (f a)).symm
/-- counts pushed along a function of nodes to bags -/
theorem Tal.bind {α β : Type} [DecidableEq α] [DecidableEq β] {kvs : List (α × Int)} {L : List α} (t : Tal kvs L) (f : α → List β) : (L.flatMap f).Perm (kvs.flatMap fun p => (f p.1).flatMap fun b => List.replicate p.2.toNat b) := by
  refine (t.expand.flatMap_right f).trans ?_
  rw [List.flatMap_assoc]
  clear t
  induction kvs with
  | nil => simp
  | cons q r ih =>
    rw [List.flatMap_cons, List.flatMap_cons]
    exact (replicate_flatMap_perm _ _ _).append ih
theorem stepL_tal {kvs : List (Nd × Int)} {L : List Nd} (t : Tal kvs L) : Tal (stepL tk ys n kvs) (L.flatMap fun nd => (free n nd.pl).map (nxt tk ys nd)) := by
  have h := fold_fold (fun p acc => addNode tk ys n p acc) (fun p : Nd × Int => (free n p.1.pl).flatMap fun w => List.replicate p.2.toNat (nxt tk ys p.1 w))
    (fun p acc L hp t => fold_add (fun w => nxt tk ys p.1 w) p.2 hp _ _ _ t) kvs [] [] (fun p hp => t.pos hp) Tal.nil
  refine h.perm ?_
  rw [List.nil_append]
  refine List.Perm.symm ((t.bind fun nd => (free n nd.pl).map (nxt tk ys nd)).trans (List.Perm.of_eq ?_))
  congr 1
  funext p
  rw [List.flatMap_map]
theorem lvl_tal (hb : Bagged tk) : ∀ k, Tal (lvl tk ys n k) ((begs n k).map (ndOf tk ys))
  | 0 => ⟨by simp [lvl], fun p hp => by
      unfold lvl at hp
      rw [List.mem_singleton] at hp
      subst hp
      simp [begs, ndOf], fun a => by simp [lvl, begs, ndOf]⟩
  | k + 1 => by
    unfold lvl
    have h := stepL_tal (tk := tk) (ys := ys) (n := n) (lvl_tal hb k)
    refine h.perm (List.Perm.of_eq ?_)
    rw [List.flatMap_map]
    show _ = ((begs n k).flatMap fun b => (free n b).map fun w => b ++ [w]).map (ndOf tk ys)
    rw [List.map_flatMap]
    have hc : ∀ (l : List (List Int)) (f g : List Int → List Nd), (∀ b ∈ l, f b = g b) → l.flatMap f = l.flatMap g := by
      intro l f g
      induction l with
      | nil => intro _; rfl
      | cons x r ih =>
        intro h
        rw [List.flatMap_cons, List.flatMap_cons, h x List.mem_cons_self, ih fun b hb' => h b (List.mem_cons_of_mem _ hb')]
    refine hc _ _ _ fun b hbm => ?_
    rw [List.map_map, free_ndOf hb hbm]
    exact List.map_congr_left fun w _ => (ndOf_snoc b w).symm
/-- the tally's table ahead of its order -/
def cnts (kvs : List (Nd × Int)) : List (List Int × Int) := kvs.foldl (fun acc p => addC acc (settle p.1) p.2) []
theorem cnts_tal {kvs : List (Nd × Int)} {L : List Nd} (t : Tal kvs L) : Tal (cnts kvs) (L.map settle) := by
  have h := fold_fold (fun p acc => addC acc (settle p.1) p.2) (fun p : Nd × Int => List.replicate p.2.toNat (settle p.1)) (fun p acc L hp t => t.add _ hp) kvs [] [] (fun p hp => t.pos hp) Tal.nil
  refine h.perm ?_
  rw [List.nil_append]
  have h2 := (t.bind fun nd => [settle nd]).symm
  simp only [List.flatMap_cons, List.flatMap_nil, List.append_nil] at h2
  refine h2.trans (List.Perm.of_eq ?_)
  clear h2 h t
  induction L with
  | nil => rfl
  | cons a r ih => rw [List.flatMap_cons, List.map_cons, ih]; rfl
theorem full_tal (hb : Bagged tk) : Tal (cnts (lvl tk ys n n)) ((perms n).map (owns tk ys)) := by
  refine (cnts_tal (lvl_tal hb n)).perm (List.Perm.of_eq ?_)
  rw [List.map_map]
  exact List.map_congr_left fun r hr => settle_ndOf hb (begs_nn hr)
end
end MS

/-! Plain lists: failing nodes, sorted rows, and each part of the law from the tally. -/
namespace MS

theorem li_lt_of {a b : List Int} (h : ¬ b < a) (hn : a ≠ b) : a < b := by
  have h1 : a ≤ b := List.not_lt.mp h
  exact Decidable.byContradiction fun z => hn (List.le_antisymm h1 (List.not_lt.mp z))
/-- rows in any order, laid in order -/
theorem Rows.of_sorted {r r' : List (List Int × Int)} {L : List (List Int)} (t : Tal r L) (p : r'.Perm r) (h : r'.Pairwise fun p q => p.1 ≠ q.1 → ¬ q.1 < p.1) : Rows r' L := by
  have hn : (r'.map (·.1)).Nodup := (p.map (·.1)).nodup_iff.mpr t.nd
  refine ⟨⟨hn, fun x hx => t.ct x (p.mem_iff.mp hx), fun a => (p.map (·.1)).mem_iff.trans (t.mem a)⟩, ?_⟩
  rw [List.Nodup, List.pairwise_map] at hn
  exact (h.and hn).imp fun ⟨h1, h2⟩ => li_lt_of (h1 h2) h2
theorem Rows.of_keys {c : List (List Int × Int)} {L : List (List Int)} (t : Tal c L) {ks : List (List Int)} (p : ks.Perm (c.map (·.1))) (h : ks.Pairwise fun a b => ¬ b < a) : Rows (ks.map fun k => (k, (lookC c k).getD 0)) L := by
  refine Rows.of_sorted t ?_ ?_
  · refine ((p.map fun k => (k, (lookC c k).getD 0)).trans (List.Perm.of_eq ?_))
    rw [List.map_map]
    have : ∀ q ∈ c, ((fun k => (k, (lookC c k).getD 0)) ∘ fun x : List Int × Int => x.1) q = q := fun q hq => by
      simp only [Function.comp_apply]
      rw [lookC_some (v := q.2) t.nd hq]
      rfl
    calc _ = c.map id := List.map_congr_left this
      _ = c := List.map_id c
  · rw [List.pairwise_map]
    refine List.Pairwise.imp ?_ h
    intro a b hab _
    exact hab

theorem perm_of_subset_len {α : Type} [DecidableEq α] {a b : List α} (ha : a.Nodup) (hb : b.Nodup) (hs : ∀ x ∈ a, x ∈ b) (hl : b.length ≤ a.length) : a.Perm b := by
  refine (List.perm_ext_iff_of_nodup ha hb).mpr fun x => ⟨hs x, fun hx => ?_⟩
  refine Decidable.byContradiction fun hn => ?_
  have h1 := (List.nodup_cons.mpr ⟨hn, ha⟩).length_le_of_subset (l₂ := b) fun v hv => by
    rcases List.mem_cons.mp hv with z | z
    · exact z ▸ hx
    · exact hs v z
  rw [List.length_cons] at h1
  omega

/-! ### what may lead to a failing ranking -/
section
variable (tk : Int → List Int → Bool) (ys : List (List Int)) (n : Nat) (P : List Int → Prop)
def canF : Nat → Nd → Prop
  | 0, nd => P (settle nd)
  | j + 1, nd => ∃ w ∈ free n nd.pl, canF j (nxt tk ys nd w)
end
section
variable {tk : Int → List Int → Bool} {ys : List (List Int)} {n : Nat} {P : List Int → Prop}
theorem canF_of (hb : Bagged tk) : ∀ (c b : List Int), b ++ c ∈ perms n → P (owns tk ys (b ++ c)) → canF tk ys n P c.length (ndOf tk ys b)
  | [], b, hm, hp => by
    rw [List.append_nil] at hm hp
    show P _
    rw [settle_ndOf hb (begs_nn hm)]
    exact hp
  | w :: c, b, hm, hp => by
    have hm' : (b ++ [w]) ++ c ∈ perms n := by rw [List.append_assoc]; exact hm
    have hp' : P (owns tk ys ((b ++ [w]) ++ c)) := by rw [List.append_assoc]; exact hp
    obtain ⟨h1, h2, h3⟩ := mem_begs.mp hm
    rw [List.nodup_append] at h2
    have hbb : b ∈ begs n b.length := mem_begs.mpr ⟨rfl, h2.1, fun v hv => h3 v (List.mem_append_left _ hv)⟩
    refine ⟨w, ?_, ?_⟩
    · rw [free_ndOf hb hbb]
      exact mem_free.mpr ⟨h3 w (List.mem_append_right _ List.mem_cons_self), fun z => h2.2.2 w z w List.mem_cons_self rfl⟩
    · rw [← ndOf_snoc]
      exact canF_of hb c (b ++ [w]) hm' hp'
theorem canF_start (hb : Bagged tk) {r : List Int} (hr : r ∈ perms n) (hp : P (owns tk ys r)) : canF tk ys n P n (st0 ys) := by
  have h := canF_of (P := P) (ys := ys) hb r [] hr hp
  rw [(mem_begs.mp hr).1] at h
  exact h
end

/-! ### trails -/
def tg (t : List Int) (i : Nat) : Int := t.getD i 0
def yg (ys : List (List Int)) (i : Nat) : List Int := ys.getD i []
def MovesP (t : List Int) : Prop := ∃ i, i + 1 < t.length ∧ tg t i ≠ tg t (i + 1)
def NeedP (ys : List (List Int)) (t : List Int) : Prop := ∃ i, i + 1 < t.length ∧ tg t i ≠ tg t (i + 1) ∧ tg t i ∈ yg ys (i + 1) ∧ tg t (i + 1) ∈ yg ys i
def RetP (t : List Int) : Prop := ∃ l a, l < t.length ∧ a < l ∧ tg t a = tg t l ∧ ∃ q, a < q ∧ q < l ∧ tg t q ≠ tg t l
/-- the three questions: 0 moving, 1 returning, 2 needless -/
def FailP (ys : List (List Int)) (q : Nat) (t : List Int) : Prop := if q = 0 then MovesP t else if q = 1 then RetP t else NeedP ys t
/-- the moves of a trail: true where one is needless -/
def moveAt (ys : List (List Int)) (t : List Int) (i : Nat) : Option Bool :=
  if tg t i ≠ tg t (i + 1) then some (decide (tg t i ∈ yg ys (i + 1)) && decide (tg t (i + 1) ∈ yg ys i)) else none
def movesL (ys : List (List Int)) (t : List Int) : List Bool := (List.range (t.length - 1)).filterMap (moveAt ys t)
theorem mem_movesL {ys : List (List Int)} {t : List Int} {b : Bool} : b ∈ movesL ys t ↔ ∃ i, i + 1 < t.length ∧ moveAt ys t i = some b := by
  unfold movesL
  rw [List.mem_filterMap]
  constructor
  · rintro ⟨i, hi, e⟩
    rw [List.mem_range] at hi
    exact ⟨i, by omega, e⟩
  · rintro ⟨i, hi, e⟩
    exact ⟨i, List.mem_range.mpr (by omega), e⟩
theorem moves_any {ys : List (List Int)} {t : List Int} : 0 < (movesL ys t).length ↔ MovesP t := by
  rw [List.length_pos_iff_exists_mem]
  constructor
  · rintro ⟨b, hb⟩
    obtain ⟨i, hi, e⟩ := mem_movesL.mp hb
    unfold moveAt at e
    split at e
    · exact ⟨i, hi, by assumption⟩
    · cases e
  · rintro ⟨i, hi, e⟩
    exact ⟨_, mem_movesL.mpr ⟨i, hi, by unfold moveAt; rw [if_pos e]⟩⟩
theorem needless_in {ys : List (List Int)} {t : List Int} : true ∈ movesL ys t ↔ NeedP ys t := by
  rw [mem_movesL]
  constructor
  · rintro ⟨i, hi, e⟩
    unfold moveAt at e
    split at e
    · rename_i hne
      injection e with e
      rw [Bool.and_eq_true, decide_eq_true_eq, decide_eq_true_eq] at e
      exact ⟨i, hi, hne, e.1, e.2⟩
    · cases e
  · rintro ⟨i, hi, hne, h1, h2⟩
    refine ⟨i, hi, ?_⟩
    unfold moveAt
    rw [if_pos hne]
    simp [h1, h2]

/-! ### comings -/
section
variable {tk : Int → List Int → Bool} {n : Nat}
theorem own_in {r y : List Int} (hr : r ∈ perms n) (hy : ∀ w ∈ y, w ∈ ws n) (hne : y ≠ []) : own tk r y ∈ y := by
  have h : lineup r y ≠ [] := by
    intro e
    obtain ⟨w, hw⟩ := List.exists_mem_of_ne_nil y hne
    have : w ∈ lineup r y := mem_lineup.mpr ⟨(mem_perms.mp hr).mem_iff.mpr (hy w hw), hw⟩
    rw [e] at this
    cases this
  exact (mem_lineup.mp (own_mem h)).2
def came (few : List Int) (rows : List (List Int × Int)) : Int := (rows.map fun p => p.2 * if tg p.1 0 ∉ few then 1 else 0).sum
def cnt (k : Bool) (ys : List (List Int)) (rows : List (List Int × Int)) : Int := (rows.map fun p => p.2 * ((movesL ys p.1).count k : Int)).sum
theorem movesL_two {few more : List Int} {a b : Int} : movesL [few, more] [a, b] = if a ≠ b then [decide (a ∈ more) && decide (b ∈ few)] else [] := by
  unfold movesL
  show (List.range 1).filterMap _ = _
  rw [show List.range 1 = [0] from rfl, List.filterMap_cons, List.filterMap_nil]
  unfold moveAt
  by_cases h : a = b
  · subst h
    simp [tg]
  · simp [tg, yg, h]
theorem came_eq {few more : List Int} {r1 r2 : List (List Int × Int)} (t1 : Rows r1 ((perms n).map (owns tk [more]))) (t2 : Rows r2 ((perms n).map (owns tk [few, more])))
    (hf : ∀ w ∈ few, w ∈ more) (hm : ∀ w ∈ more, w ∈ ws n) (hne : few ≠ []) : cnt false [few, more] r2 = came few r1 := by
  unfold cnt came
  rw [t2.tal.sum fun t => ((movesL [few, more] t).count false : Int), t1.tal.sum fun t => if tg t 0 ∉ few then 1 else 0, List.map_map, List.map_map]
  congr 1
  refine List.map_congr_left fun r hr => ?_
  simp only [Function.comp_apply]
  have h1 : own tk r few ∈ few := own_in hr (fun w hw => hm w (hf w hw)) hne
  show ((movesL [few, more] [own tk r few, own tk r more]).count false : Int) = if own tk r more ∉ few then 1 else 0
  rw [movesL_two]
  have h2 := hf _ h1
  by_cases e : own tk r more ∈ few
  · by_cases e2 : own tk r few = own tk r more
    · simp [e2, e]
    · simp [e2, e, h2]
  · have e2 : own tk r few ≠ own tk r more := fun z => e (z ▸ h1)
    simp [e2, e]
theorem sum_nonneg {l : List Int} (h : ∀ x ∈ l, 0 ≤ x) : 0 ≤ l.sum := by
  induction l with
  | nil => simp
  | cons a r ih =>
    rw [List.sum_cons]
    have := h a List.mem_cons_self
    have := ih fun x hx => h x (List.mem_cons_of_mem _ hx)
    omega
theorem sum_zero {l : List Int} (h : ∀ x ∈ l, 0 ≤ x) : l.sum = 0 ↔ ∀ x ∈ l, x = 0 := by
  induction l with
  | nil => simp
  | cons a r ih =>
    have h1 := h a List.mem_cons_self
    have h2 : ∀ x ∈ r, 0 ≤ x := fun x hx => h x (List.mem_cons_of_mem _ hx)
    have h3 := sum_nonneg h2
    have ih' := ih h2
    rw [List.sum_cons]
    constructor
    · intro e x hx
      have ha : a = 0 := by omega
      have hr : r.sum = 0 := by omega
      rcases List.mem_cons.mp hx with z | z
      · exact z ▸ ha
      · exact ih'.mp hr x z
    · intro e
      have ha := e a List.mem_cons_self
      have hr := ih'.mpr fun x hx => e x (List.mem_cons_of_mem _ hx)
      omega
theorem idle_nonneg {ys : List (List Int)} {rows : List (List Int × Int)} {L : List (List Int)} (t : Tal rows L) (k : Bool) : 0 ≤ cnt k ys rows := by
  unfold cnt
  refine sum_nonneg fun x hx => ?_
  obtain ⟨p, hp, rfl⟩ := List.mem_map.mp hx
  have := t.pos hp
  exact Int.mul_nonneg (by omega) (by omega)
theorem idle_zero {ys : List (List Int)} {rows : List (List Int × Int)} {L : List (List Int)} (t : Tal rows L) : cnt true ys rows = 0 ↔ ∀ x ∈ L, ¬ NeedP ys x := by
  unfold cnt
  rw [t.sum fun t => ((movesL ys t).count true : Int), sum_zero fun x hx => by
    obtain ⟨p, _, rfl⟩ := List.mem_map.mp hx
    omega]
  constructor
  · intro h x hx hn
    have h1 := h _ (List.mem_map.mpr ⟨x, hx, rfl⟩)
    have h2 := List.count_pos_iff.mpr (needless_in.mpr hn)
    omega
  · intro h x hx
    obtain ⟨t, ht, rfl⟩ := List.mem_map.mp hx
    have h1 : true ∉ movesL ys t := fun z => h t ht (needless_in.mp z)
    have := List.count_eq_zero_of_not_mem h1
    omega
/-- where all hold equally many -/
theorem came_even {few more : List Int} {r1 : List (List Int × Int)} {total : Int} (t1 : Rows r1 ((perms n).map (owns tk [more]))) (hf : ∀ w ∈ few, w ∈ more) (hm : ∀ w ∈ more, w ∈ ws n) (hne : few ≠ [])
    (nf : few.Nodup) (nm : more.Nodup) (hl : r1.length = more.length) (hs : ∀ p ∈ r1, p.2 * (more.length : Int) = total) : came few r1 * (more.length : Int) = total * ((more.length : Int) - (few.length : Int)) := by
  have hmne : more ≠ [] := fun e => by
    obtain ⟨w, hw⟩ := List.exists_mem_of_ne_nil few hne
    have := hf w hw
    rw [e] at this
    cases this
  -- the first holders of the rows are the workers of more
  have hone : ∀ p ∈ r1, p.1 = [tg p.1 0] ∧ tg p.1 0 ∈ more := fun p hp => by
    have : p.1 ∈ (perms n).map (owns tk [more]) := (t1.tal.mem _).mp (List.mem_map.mpr ⟨p, hp, rfl⟩)
    obtain ⟨r, hr, e⟩ := List.mem_map.mp this
    rw [← e]
    exact ⟨rfl, own_in hr hm hmne⟩
  have hnd : (r1.map fun p => tg p.1 0).Nodup := by
    have h := t1.tal.nd
    rw [List.Nodup, List.pairwise_map] at h ⊢
    have hmem : r1.Pairwise fun p q => p ∈ r1 ∧ q ∈ r1 := List.pairwise_of_forall_mem_list fun p hp q hq => ⟨hp, hq⟩
    exact (h.and hmem).imp fun ⟨h1, h2, h3⟩ e => h1 (by rw [(hone _ h2).1, (hone _ h3).1, e])
  have hp : (r1.map fun p => tg p.1 0).Perm more := perm_of_subset_len hnd nm (fun x hx => by
    obtain ⟨p, hp, rfl⟩ := List.mem_map.mp hx
    exact (hone p hp).2) (by rw [List.length_map]; omega)
  have hsum : came few r1 * (more.length : Int) = (r1.map fun p => total * if tg p.1 0 ∉ few then 1 else 0).sum := by
    unfold came
    clear hp hnd hone hl t1
    induction r1 with
    | nil => simp
    | cons p r ih =>
      rw [List.map_cons, List.map_cons, List.sum_cons, List.sum_cons, Int.add_mul, ih fun q hq => hs q (List.mem_cons_of_mem _ hq)]
      have := hs p List.mem_cons_self
      congr 1
      rw [← this]
      split <;> simp
  have hsum2 : (r1.map fun p => total * if tg p.1 0 ∉ few then 1 else 0).sum = ((more.map fun w => total * if w ∉ few then 1 else 0)).sum := by
    have := sum_perm_int (hp.map fun w => total * if w ∉ few then (1 : Int) else 0)
    rw [List.map_map] at this
    exact this
  have hsum3 : ∀ l : List Int, ((l.map fun w => total * if w ∉ few then (1 : Int) else 0)).sum = total * ((l.filter fun w => decide (w ∉ few)).length : Int) := by
    intro l
    induction l with
    | nil => simp
    | cons w r ih =>
      rw [List.map_cons, List.sum_cons, ih, List.filter_cons]
      by_cases e : w ∈ few
      · simp [e]
      · simp only [e, not_false_eq_true, if_true, decide_true, List.length_cons, Int.natCast_add, Int.mul_add]
        omega
  have hlen : ((more.filter fun w => decide (w ∉ few)).length : Int) = (more.length : Int) - (few.length : Int) := by
    have h1 : (more.filter fun w => decide (w ∈ few)).Perm few := by
      refine (List.perm_ext_iff_of_nodup (nm.filter _) nf).mpr fun w => ?_
      rw [List.mem_filter, decide_eq_true_eq]
      exact ⟨fun h => h.2, fun h => ⟨hf w h, h⟩⟩
    have h2 := (List.filter_append_perm (fun w => decide (w ∈ few)) more).length_eq
    rw [List.length_append, h1.length_eq] at h2
    have h3 : (more.filter fun w => decide (w ∉ few)) = more.filter fun w => !decide (w ∈ few) := List.filter_congr fun w _ => by simp
    rw [h3]
    omega
  rw [hsum, hsum2, hsum3, hlen]
end
end MS

/-! Plain lists: shares, the tally turned round, numbered anew, and beside a worker who is never there. -/
namespace MS

/-- two ways to compare lists of numbers -/
theorem count_inst (L : List (List Int)) (x : List Int) : @List.count (List Int) instBEqOfDecidableEq x L = List.count x L := by
  unfold List.count
  refine List.countP_congr fun y _ => ?_
  constructor
  · intro h
    have e : y = x := of_decide_eq_true h
    rw [e]
    exact beq_self_eq_true x
  · intro h
    exact decide_eq_true (eq_of_beq h)

/-! ### workers numbered anew -/
def pi (o : List Int) (w : Int) : Int := o.getD w.toNat 0
section
variable {n : Nat} {o : List Int}
theorem pi_mem (ho : o ∈ perms n) {w : Int} (hw : w ∈ ws n) : pi o w ∈ ws n := by
  obtain ⟨h1, h2⟩ := mem_ws.mp hw
  have hl : o.length = n := (mem_begs.mp ho).1
  unfold pi
  have hlt : w.toNat < o.length := by omega
  rw [List.getD_eq_getElem?_getD, List.getElem?_eq_getElem hlt]
  exact (mem_begs.mp ho).2.2 _ (List.getElem_mem hlt)
theorem pi_inj (ho : o ∈ perms n) {v w : Int} (hv : v ∈ ws n) (hw : w ∈ ws n) (e : pi o v = pi o w) : v = w := by
  obtain ⟨h1, h2⟩ := mem_ws.mp hv
  obtain ⟨h3, h4⟩ := mem_ws.mp hw
  have hl : o.length = n := (mem_begs.mp ho).1
  have hlv : v.toNat < o.length := by omega
  have hlw : w.toNat < o.length := by omega
  unfold pi at e
  rw [List.getD_eq_getElem?_getD, List.getD_eq_getElem?_getD, List.getElem?_eq_getElem hlv, List.getElem?_eq_getElem hlw] at e
  have := (List.getElem_inj (mem_begs.mp ho).2.1).mp e
  omega
end
/-- f permutes the workers -/
structure Ren (n : Nat) (f : Int → Int) : Prop where
  mem : ∀ w ∈ ws n, f w ∈ ws n
  inj : ∀ v ∈ ws n, ∀ w ∈ ws n, f v = f w → v = w
section
variable {n : Nat} {f : Int → Int}
theorem Ren.nn (h : Ren n f) {w : Int} (hw : w ∈ ws n) : 0 ≤ f w := (mem_ws.mp (h.mem w hw)).1
theorem nodup_map_on {l : List Int} {g : Int → Int} (hl : l.Nodup) (h : ∀ a ∈ l, ∀ b ∈ l, g a = g b → a = b) : (l.map g).Nodup := by
  induction l with
  | nil => simp
  | cons a r ih =>
    rw [List.nodup_cons] at hl
    rw [List.map_cons, List.nodup_cons]
    refine ⟨fun z => ?_, ih hl.2 fun x hx y hy => h x (List.mem_cons_of_mem _ hx) y (List.mem_cons_of_mem _ hy)⟩
    obtain ⟨b, hb, e⟩ := List.mem_map.mp z
    have := h b (List.mem_cons_of_mem _ hb) a List.mem_cons_self e
    exact hl.1 (this ▸ hb)
theorem Ren.ws_perm (h : Ren n f) : ((ws n).map f).Perm (ws n) := by
  refine perm_of_subset_len (nodup_map_on (ws_nodup n) h.inj) (ws_nodup n) (fun x hx => ?_) (by rw [List.length_map]; exact Nat.le_refl _)
  obtain ⟨w, hw, rfl⟩ := List.mem_map.mp hx
  exact h.mem w hw
theorem Ren.map_inj (h : Ren n f) : ∀ {a b : List Int}, (∀ w ∈ a, w ∈ ws n) → (∀ w ∈ b, w ∈ ws n) → a.map f = b.map f → a = b
  | [], [], _, _, _ => rfl
  | [], _ :: _, _, _, e => by simp at e
  | _ :: _, [], _, _, e => by simp at e
  | x :: a, y :: b, ha, hb, e => by
    rw [List.map_cons, List.map_cons, List.cons.injEq] at e
    rw [h.inj x (ha x List.mem_cons_self) y (hb y List.mem_cons_self) e.1, h.map_inj (fun w hw => ha w (List.mem_cons_of_mem _ hw)) (fun w hw => hb w (List.mem_cons_of_mem _ hw)) e.2]
theorem perms_in {r : List Int} (hr : r ∈ perms n) : ∀ w ∈ r, w ∈ ws n := (mem_begs.mp hr).2.2
/-- all rankings, numbered anew, are all rankings -/
theorem Ren.perms (h : Ren n f) : ((perms n).map fun r => r.map f).Perm (perms n) := by
  have hn : ((MS.perms n).map fun r => r.map f).Nodup := by
    have h1 := perms_nodup n
    rw [List.Nodup, List.pairwise_map]
    have hmem : (MS.perms n).Pairwise fun p q => p ∈ MS.perms n ∧ q ∈ MS.perms n := List.pairwise_of_forall_mem_list fun p hp q hq => ⟨hp, hq⟩
    rw [List.Nodup] at h1
    exact (h1.and hmem).imp fun ⟨h1, h2, h3⟩ e => h1 (h.map_inj (perms_in h2) (perms_in h3) e)
  refine perm_of_subset_len hn (perms_nodup n) (fun x hx => ?_) (by rw [List.length_map]; exact Nat.le_refl _)
  obtain ⟨r, hr, rfl⟩ := List.mem_map.mp hx
  exact mem_perms.mpr (((mem_perms.mp hr).map f).trans h.ws_perm)
theorem Ren.mem_map (h : Ren n f) {y : List Int} {w : Int} (hw : w ∈ ws n) (hy : ∀ v ∈ y, v ∈ ws n) : f w ∈ y.map f ↔ w ∈ y := by
  rw [List.mem_map]
  constructor
  · rintro ⟨v, hv, e⟩
    exact h.inj v (hy v hv) w hw e ▸ hv
  · exact fun z => ⟨w, z, rfl⟩
theorem Ren.lineup (h : Ren n f) {r y y' : List Int} (hr : ∀ w ∈ r, w ∈ ws n) (hy : ∀ v ∈ y, v ∈ ws n) (e : ∀ w, w ∈ y' ↔ w ∈ y.map f) : lineup (r.map f) y' = (lineup r y).map f := by
  unfold MS.lineup
  rw [List.filter_map]
  congr 1
  refine List.filter_congr fun w hw => ?_
  simp only [Function.comp_apply]
  rw [decide_eq_decide, e, h.mem_map (hr w hw) hy]
theorem Ren.hldL (h : Ren n f) {tk tk' : Int → List Int → Bool} (ht : ∀ w s, w ∈ ws n → (∀ v ∈ s, v ∈ ws n) → tk' (f w) (s.map f) = tk w s) :
    ∀ (l seen : List Int), (∀ w ∈ l, w ∈ ws n) → (∀ w ∈ seen, w ∈ ws n) → hldL tk' (seen.map f) (l.map f) = if hldL tk seen l = -1 then -1 else f (hldL tk seen l)
  | [], seen, _, _ => by simp [MS.hldL]
  | w :: r, seen, hl, hs => by
    have hw := hl w List.mem_cons_self
    have h0 : 0 ≤ w := (mem_ws.mp hw).1
    rw [List.map_cons]
    unfold MS.hldL
    rw [ht w seen hw hs]
    by_cases e : tk w seen = true
    · rw [if_pos e, if_pos e, if_neg (by omega)]
    · rw [if_neg e, if_neg e]
      have := h.hldL ht r (seen ++ [w]) (fun v hv => hl v (List.mem_cons_of_mem _ hv)) fun v hv => by
        rcases List.mem_append.mp hv with z | z
        · exact hs v z
        · rw [List.mem_singleton] at z
          exact z ▸ hw
      rw [List.map_append] at this
      exact this
theorem Ren.own (h : Ren n f) {tk tk' : Int → List Int → Bool} (ht : ∀ w s, w ∈ ws n → (∀ v ∈ s, v ∈ ws n) → tk' (f w) (s.map f) = tk w s) {r y y' : List Int} (hr : r ∈ MS.perms n) (hy : ∀ v ∈ y, v ∈ ws n) (hne : y ≠ [])
    (e : ∀ w, w ∈ y' ↔ w ∈ y.map f) : own tk' (r.map f) y' = f (own tk r y) := by
  have hr' := perms_in hr
  have hl := h.lineup hr' hy e
  have hlw : ∀ w ∈ MS.lineup r y, w ∈ ws n := fun w hw => hr' w (mem_lineup.mp hw).1
  have hh := h.hldL ht (MS.lineup r y) [] hlw (fun _ z => nomatch z)
  unfold MS.own pick hldOf fstOf
  rw [hl]
  rw [List.map_nil] at hh
  rw [hh]
  by_cases c : MS.hldL tk [] (MS.lineup r y) = -1
  · simp only [c, if_true]
    cases hx : MS.lineup r y with
    | nil =>
      exfalso
      obtain ⟨w, hw⟩ := List.exists_mem_of_ne_nil y hne
      have : w ∈ MS.lineup r y := mem_lineup.mpr ⟨(mem_perms.mp hr).mem_iff.mpr (hy w hw), hw⟩
      rw [hx] at this
      cases this
    | cons v q => simp
  · rw [if_neg c]
    have hm : MS.hldL tk [] (MS.lineup r y) ∈ ws n := by
      rcases hldL_mem (tk := tk) (MS.lineup r y) [] with z | z
      · exact absurd z c
      · exact hlw _ z
    have h0 := h.nn hm
    rw [if_neg (by omega), if_neg c]
theorem Ren.owns (h : Ren n f) {tk tk' : Int → List Int → Bool} (ht : ∀ w s, w ∈ ws n → (∀ v ∈ s, v ∈ ws n) → tk' (f w) (s.map f) = tk w s) {r : List Int} (hr : r ∈ MS.perms n) :
    ∀ {ys ys' : List (List Int)}, (∀ y ∈ ys, y ≠ [] ∧ ∀ v ∈ y, v ∈ ws n) → ys'.length = ys.length → (∀ (i : Nat) y y', ys[i]? = some y → ys'[i]? = some y' → ∀ w, w ∈ y' ↔ w ∈ y.map f) → owns tk' ys' (r.map f) = (owns tk ys r).map f
  | [], [], _, _, _ => rfl
  | [], _ :: _, _, hl, _ => by simp at hl
  | _ :: _, [], _, hl, _ => by simp at hl
  | y :: ys, y' :: ys', hy, hl, e => by
    have h1 := h.own ht hr (hy y List.mem_cons_self).2 (hy y List.mem_cons_self).1 (e 0 y y' rfl rfl)
    have h2 := h.owns ht hr (ys := ys) (ys' := ys') (fun z hz => hy z (List.mem_cons_of_mem _ hz)) (by simpa using hl) (fun i a b ha hb => e (i + 1) a b (by simpa using ha) (by simpa using hb))
    unfold MS.owns at h2 ⊢
    rw [List.map_cons, List.map_cons, List.map_cons, h1, h2]
/-- numbered anew: the bag is the bag numbered anew -/
theorem Ren.bag (h : Ren n f) {tk tk' : Int → List Int → Bool} (ht : ∀ w s, w ∈ ws n → (∀ v ∈ s, v ∈ ws n) → tk' (f w) (s.map f) = tk w s) {ys ys' : List (List Int)} (hy : ∀ y ∈ ys, y ≠ [] ∧ ∀ v ∈ y, v ∈ ws n) (hl : ys'.length = ys.length)
    (e : ∀ (i : Nat) y y', ys[i]? = some y → ys'[i]? = some y' → ∀ w, w ∈ y' ↔ w ∈ y.map f) : ((MS.perms n).map (MS.owns tk' ys')).Perm (((MS.perms n).map (MS.owns tk ys)).map fun t => t.map f) := by
  refine (h.perms.symm.map (MS.owns tk' ys')).trans (List.Perm.of_eq ?_)
  rw [List.map_map, List.map_map]
  exact List.map_congr_left fun r hr => h.owns ht hr hy hl e
end
theorem ren_pi {n : Nat} {o : List Int} (ho : o ∈ perms n) : Ren n (pi o) := ⟨fun _ hw => pi_mem ho hw, fun _ hv _ hw e => pi_inj ho hv hw e⟩
def swp (a b w : Int) : Int := if w = a then b else if w = b then a else w
theorem ren_swp {n : Nat} {a b : Int} (ha : a ∈ ws n) (hb : b ∈ ws n) : Ren n (swp a b) := by
  refine ⟨fun w hw => ?_, fun v hv w hw e => ?_⟩
  · unfold swp
    split
    · exact hb
    · split
      · exact ha
      · exact hw
  · unfold swp at e
    by_cases h1 : v = a <;> by_cases h2 : v = b <;> by_cases h3 : w = a <;> by_cases h4 : w = b <;> simp only [h1, h2, h3, h4, if_true, if_false] at e <;> omega
theorem trail_mem {tk : Int → List Int → Bool} {n : Nat} {ys : List (List Int)} (hy : ∀ y ∈ ys, y ≠ [] ∧ ∀ v ∈ y, v ∈ ws n) {r : List Int} (hr : r ∈ perms n) : ∀ w ∈ owns tk ys r, w ∈ ws n := fun w hw => by
  obtain ⟨y, hyy, rfl⟩ := List.mem_map.mp hw
  exact (hy y hyy).2 _ (own_in hr (hy y hyy).2 (hy y hyy).1)
/-- THE LAW, numbered anew: rows as booked, sorted, are the tally -/
theorem renamed_rows {n : Nat} {f : Int → Int} (h : Ren n f) {tk tk' : Int → List Int → Bool} (ht : ∀ w s, w ∈ ws n → (∀ v ∈ s, v ∈ ws n) → tk' (f w) (s.map f) = tk w s) {ys ys' : List (List Int)} (hy : ∀ y ∈ ys, y ≠ [] ∧ ∀ v ∈ y, v ∈ ws n)
    (hl : ys'.length = ys.length) (e : ∀ (i : Nat) y y', ys[i]? = some y → ys'[i]? = some y' → ∀ w, w ∈ y' ↔ w ∈ y.map f) {r r' out : List (List Int × Int)} (t : Rows r ((perms n).map (owns tk ys))) (t' : Rows r' ((perms n).map (owns tk' ys')))
    (p : out.Perm (r.map fun q => (q.1.map f, q.2))) (s : out.Pairwise fun p q => p.1 ≠ q.1 → ¬ q.1 < p.1) : r' = out := by
  have hm : Tal (r.map fun q => (q.1.map f, q.2)) (((perms n).map (owns tk ys)).map fun t => t.map f) := t.tal.map (fun t => t.map f) fun a ha b hb e => by
    obtain ⟨ra, hra, rfl⟩ := List.mem_map.mp ha
    obtain ⟨rb, hrb, rfl⟩ := List.mem_map.mp hb
    exact h.map_inj (trail_mem hy hra) (trail_mem hy hrb) e
  exact t'.uniq (Rows.of_sorted hm p s) (h.bag ht hy hl e)
/-- THE LAW, turned round -/
theorem turned_rows {n : Nat} {tk : Int → List Int → Bool} {ys : List (List Int)} {r r' out : List (List Int × Int)} (t : Rows r ((perms n).map (owns tk ys))) (t' : Rows r' ((perms n).map (owns tk ys.reverse)))
    (p : out.Perm (r.map fun q => (q.1.reverse, q.2))) (s : out.Pairwise fun p q => p.1 ≠ q.1 → ¬ q.1 < p.1) : r' = out := by
  have hm : Tal (r.map fun q => (q.1.reverse, q.2)) (((perms n).map (owns tk ys)).map List.reverse) := t.tal.map List.reverse fun a _ b _ e => List.reverse_inj.mp e
  refine t'.uniq (Rows.of_sorted hm p s) (List.Perm.of_eq ?_)
  rw [List.map_map]
  refine List.map_congr_left fun x _ => ?_
  unfold owns
  simp

/-! ### shares under the rule for any -/
def anyTk : Int → List Int → Bool := fun _ _ => true
theorem own_any {r y : List Int} : own anyTk r y = fstOf r y := by
  unfold own pick hldOf fstOf
  cases h : lineup r y with
  | nil => rfl
  | cons w q =>
    have : hldL anyTk [] (w :: q) = w := by unfold hldL; rfl
    rw [this]
    by_cases e : w = -1
    · simp [e]
    · simp [e]
theorem swp_yard {y : List Int} {a b : Int} (ha : a ∈ y) (hb : b ∈ y) (w : Int) : w ∈ y.map (swp a b) ↔ w ∈ y := by
  have one : ∀ v, v ∈ y → swp a b v ∈ y := fun v hv => by
    unfold swp
    split
    · exact hb
    · split
      · exact ha
      · exact hv
  have two : ∀ v, swp a b (swp a b v) = v := fun v => by
    unfold swp
    by_cases h1 : v = a <;> by_cases h2 : v = b <;> simp only [h1, h2, if_true, if_false] <;> (try split) <;> (try omega)
    all_goals (try split)
    all_goals omega
  rw [List.mem_map]
  constructor
  · rintro ⟨v, hv, rfl⟩
    exact one v hv
  · exact fun z => ⟨swp a b w, one w z, two w⟩
theorem share_eq {n : Nat} {y : List Int} (hy : y ≠ [] ∧ ∀ v ∈ y, v ∈ ws n) {a b : Int} (ha : a ∈ y) (hb : b ∈ y) : ((perms n).map (owns anyTk [y])).count [a] = ((perms n).map (owns anyTk [y])).count [b] := by
  have h := ren_swp (hy.2 a ha) (hy.2 b hb)
  have hp := h.bag (tk := anyTk) (tk' := anyTk) (ys := [y]) (ys' := [y]) (fun _ _ _ _ => rfl) (fun z hz => by rw [List.mem_singleton] at hz; exact hz ▸ hy) rfl (fun i z z' h1 h2 w => by
    cases i with
    | zero =>
      simp only [List.getElem?_cons_zero, Option.some.injEq] at h1 h2
      subst h1; subst h2
      exact (swp_yard ha hb w).symm
    | succ i => simp at h1)
  rw [hp.count_eq]
  have hs : swp a b b = a := by
    unfold swp
    by_cases e : b = a
    · rw [if_pos e, e]
    · rw [if_neg e, if_pos rfl]
  have hb' : [a] = ([b] : List Int).map (swp a b) := by rw [List.map_cons, List.map_nil, hs]
  rw [hb', List.count_eq_countP, List.count_eq_countP, List.countP_map]
  refine List.countP_congr fun t htm => ?_
  obtain ⟨r, hr, rfl⟩ := List.mem_map.mp htm
  simp only [Function.comp_apply, beq_iff_eq]
  constructor
  · intro e
    exact h.map_inj (trail_mem (ys := [y]) (fun z hz => by rw [List.mem_singleton] at hz; exact hz ▸ hy) hr) (fun w hw => by rw [List.mem_singleton] at hw; exact hw ▸ hy.2 b hb) e
  · intro e
    rw [e]
theorem shares_rows {n : Nat} {y : List Int} (hy : y ≠ [] ∧ ∀ v ∈ y, v ∈ ws n) (sy : y.Pairwise (· < ·)) {r : List (List Int × Int)} (t : Rows r ((perms n).map (owns anyTk [y]))) :
    r = y.map fun w => ([w], ((perms n).length : Int) / (y.length : Int)) := by
  have ny : y.Nodup := sy.imp fun h e => by omega
  have hone : ∀ x ∈ (perms n).map (owns anyTk [y]), ∃ w ∈ y, x = [w] := fun x hx => by
    obtain ⟨q, hq, rfl⟩ := List.mem_map.mp hx
    exact ⟨own anyTk q y, own_in hq hy.2 hy.1, rfl⟩
  -- all of y hold equally many
  obtain ⟨a, ha⟩ := List.exists_mem_of_ne_nil y hy.1
  have hsum : ∀ (L : List (List Int)), (∀ x ∈ L, ∃ w ∈ y, x = [w]) → (y.map fun w => ((L.count [w] : Nat) : Int)).sum = (L.length : Int) := by
    intro L
    induction L with
    | nil =>
      intro _
      have : ∀ l : List Int, (l.map fun _ => (0 : Int)).sum = 0 := fun l => by
        induction l with
        | nil => rfl
        | cons _ _ ih => rw [List.map_cons, List.sum_cons, ih]; rfl
      simpa using this y
    | cons x L ih =>
      intro hL
      obtain ⟨w, hw, rfl⟩ := hL x List.mem_cons_self
      have ih' := ih fun z hz => hL z (List.mem_cons_of_mem _ hz)
      have hc : ∀ l : List Int, l.Nodup → (l.map fun v => (((([w] : List Int) :: L).count [v] : Nat) : Int)).sum = (l.map fun v => ((L.count [v] : Nat) : Int)).sum + if w ∈ l then 1 else 0 := by
        intro l
        induction l with
        | nil => intro _; simp
        | cons v q ihq =>
          intro hn
          rw [List.nodup_cons] at hn
          rw [List.map_cons, List.map_cons, List.sum_cons, List.sum_cons, ihq hn.2, List.count_cons]
          by_cases e : w = v
          · subst e
            simp [hn.1]
            omega
          · skip
            simp [e]
            omega
      rw [hc y ny, ih', if_pos hw, List.length_cons]
      omega
  have hall : ((perms n).map (owns anyTk [y])).length = (perms n).length := List.length_map ..
  have hk : (y.length : Int) * (((perms n).map (owns anyTk [y])).count [a] : Int) = (perms n).length := by
    rw [← hall, ← hsum _ hone]
    have : y.map (fun w => ((((perms n).map (owns anyTk [y])).count [w] : Nat) : Int)) = y.map fun _ => ((((perms n).map (owns anyTk [y])).count [a] : Nat) : Int) := List.map_congr_left fun w hw => by rw [share_eq hy hw ha]
    rw [this, List.map_const', sum_replicate_int]
  have hlen : 0 < (y.length : Int) := by
    have := List.length_pos_iff.mpr hy.1
    omega
  have hdiv : ((perms n).length : Int) / (y.length : Int) = (((perms n).map (owns anyTk [y])).count [a] : Int) := by
    rw [← hk]
    exact Int.mul_ediv_cancel_left _ (by omega)
  rw [hdiv]
  have hpos : 0 < ((perms n).map (owns anyTk [y])).count [a] := by
    have : (perms n) ≠ [] := fun e => by
      have h1 : ws n ∈ perms n := mem_perms.mpr (List.Perm.refl _)
      rw [e] at h1
      cases h1
    have h2 : 0 < (perms n).length := List.length_pos_iff.mpr this
    refine Nat.pos_of_ne_zero fun z => ?_
    rw [z] at hk
    simp at hk
    omega
  refine t.uniq (L' := (perms n).map (owns anyTk [y])) ⟨⟨?_, fun p hp => ?_, fun x => ?_⟩, ?_⟩ (List.Perm.refl _)
  · rw [List.map_map, List.Nodup, List.pairwise_map]
    refine sy.imp ?_
    intro u v huv e
    simp only [Function.comp_apply, List.cons.injEq, and_true] at e
    omega
  · obtain ⟨w, hw, rfl⟩ := List.mem_map.mp hp
    simp only
    rw [count_inst, share_eq hy hw ha]
  · rw [List.map_map]
    constructor
    · intro hx
      obtain ⟨w, hw, rfl⟩ := List.mem_map.mp hx
      simp only [Function.comp_apply]
      rw [← List.count_pos_iff, share_eq hy hw ha]
      exact hpos
    · intro hx
      obtain ⟨w, hw, rfl⟩ := hone x hx
      exact List.mem_map.mpr ⟨w, hw, rfl⟩
  · rw [List.pairwise_map]
    refine sy.imp ?_
    intro u v huv
    exact List.cons_lt_cons_iff.mpr (.inl huv)

/-! ### beside a worker who is never there -/
def beside (n : Nat) : Prop := ((perms (n + 1)).map fun r => r.filter fun w => decide (w ≠ (n : Int))).Perm ((perms n).flatMap fun r => List.replicate (n + 1) r)
theorem beside_all : ∀ n, n = 1 ∨ n = 2 ∨ n = 3 ∨ n = 4 → beside n := by
  intro n h
  unfold beside
  rw [← List.isPerm_iff]
  rcases h with rfl | rfl | rfl | rfl <;> decide +kernel
theorem hldL_congr {tk tk' : Int → List Int → Bool} {n : Nat} (ht : ∀ w s, w ∈ ws n → (∀ v ∈ s, v ∈ ws n) → tk' w s = tk w s) : ∀ (l seen : List Int), (∀ w ∈ l, w ∈ ws n) → (∀ w ∈ seen, w ∈ ws n) → hldL tk' seen l = hldL tk seen l
  | [], _, _, _ => rfl
  | w :: r, seen, hl, hs => by
    have hw := hl w List.mem_cons_self
    unfold hldL
    rw [ht w seen hw hs, hldL_congr ht r (seen ++ [w]) (fun v hv => hl v (List.mem_cons_of_mem _ hv)) fun v hv => by
      rcases List.mem_append.mp hv with z | z
      · exact hs v z
      · rw [List.mem_singleton] at z
        exact z ▸ hw]
theorem own_beside {tk tk' : Int → List Int → Bool} {n : Nat} (ht : ∀ w s, w ∈ ws n → (∀ v ∈ s, v ∈ ws n) → tk' w s = tk w s) (r : List Int) {y : List Int} (hy : ∀ v ∈ y, v ∈ ws n) : own tk' r y = own tk (r.filter fun w => decide (w ≠ (n : Int))) y := by
  have hl : lineup (r.filter fun w => decide (w ≠ (n : Int))) y = lineup r y := by
    unfold lineup
    rw [List.filter_filter]
    refine List.filter_congr fun w _ => ?_
    by_cases e : w ∈ y
    · have : w ≠ (n : Int) := by
        have := mem_ws.mp (hy w e)
        omega
      simp [e, this]
    · simp [e]
  unfold own hldOf fstOf
  rw [hl, hldL_congr ht _ [] (fun w hw => hy w (mem_lineup.mp hw).2) (fun _ z => nomatch z)]
theorem beside_rows {tk tk' : Int → List Int → Bool} {n : Nat} (hn : n = 1 ∨ n = 2 ∨ n = 3 ∨ n = 4) (ht : ∀ w s, w ∈ ws n → (∀ v ∈ s, v ∈ ws n) → tk' w s = tk w s) {ys : List (List Int)} (hy : ∀ y ∈ ys, ∀ v ∈ y, v ∈ ws n)
    {r r' : List (List Int × Int)} (t : Rows r ((perms n).map (owns tk ys))) (t' : Rows r' ((perms (n + 1)).map (owns tk' ys))) : r' = r.map fun q => (q.1, q.2 * ((n : Int) + 1)) := by
  have h1 : ((perms (n + 1)).map (owns tk' ys)).Perm (((perms n).map (owns tk ys)).flatMap fun x => List.replicate (n + 1) x) := by
    have e : (perms (n + 1)).map (owns tk' ys) = ((perms (n + 1)).map fun r => r.filter fun w => decide (w ≠ (n : Int))).map (owns tk ys) := by
      rw [List.map_map]
      refine List.map_congr_left fun q _ => ?_
      simp only [Function.comp_apply]
      unfold owns
      exact List.map_congr_left fun y hyy => own_beside ht q (hy y hyy)
    rw [e]
    refine ((beside_all n hn).map (owns tk ys)).trans (List.Perm.of_eq ?_)
    rw [List.map_flatMap, List.flatMap_map]
    congr 1
    funext x
    rw [List.map_replicate]
  have hc : ∀ (L : List (List Int)) x, (L.flatMap fun x => List.replicate (n + 1) x).count x = L.count x * (n + 1) := by
    intro L x
    induction L with
    | nil => simp
    | cons z q ih =>
      rw [List.flatMap_cons, List.count_append, ih, List.count_replicate, List.count_cons, Nat.add_mul]
      by_cases e : z = x
      · simp [e]
        omega
      · simp [e]
  refine t'.uniq (L' := ((perms n).map (owns tk ys)).flatMap fun x => List.replicate (n + 1) x) ⟨⟨?_, fun p hp => ?_, fun x => ?_⟩, ?_⟩ h1
  · have : (r.map fun q => (q.1, q.2 * ((n : Int) + 1))).map (·.1) = r.map (·.1) := by rw [List.map_map]; rfl
    rw [this]
    exact t.tal.nd
  · obtain ⟨q, hq, rfl⟩ := List.mem_map.mp hp
    simp only
    rw [count_inst, hc, t.tal.ct q hq, Int.natCast_mul, count_inst]
    rfl
  · have : (r.map fun q => (q.1, q.2 * ((n : Int) + 1))).map (·.1) = r.map (·.1) := by rw [List.map_map]; rfl
    rw [this, t.tal.mem, List.mem_flatMap]
    constructor
    · exact fun h => ⟨x, h, by simp⟩
    · rintro ⟨z, hz, hx⟩
      rw [List.mem_replicate] at hx
      exact hx.2 ▸ hz
  · rw [List.pairwise_map]
    exact t.asc
end MS

set_option Elab.async false
set_option linter.all false
set_option maxRecDepth 100000
set_option maxHeartbeats 4000000
/-! Rules that the layer lacks: sorted of data, sets of a tuple's ints, len of an own instance. -/
namespace MW
open PySem PySem.Spec PyProof.Rows L2

/-! ### heaps that keep the tuples -/
theorem same_new {H : Hp} {p : Addr} {o : HO} (hp : H p = none) : Same H (upd H p o) := fun b u e => by
  rw [upd_ne (ne_of_none e hp)]
  exact e
theorem same_mut {G H : Hp} {p : Addr} {o : HO} (e : Same G H) (hp : G p = none) : Same G (upd H p o) := fun b u q => by
  rw [upd_ne (ne_of_none q hp)]
  exact e b u q
theorem same_rd {G H : Hp} {a : Addr} {u : HO} (e : Same G H) (h : Rd G a u) : Rd H a u := by
  rcases h with h | ⟨o, h⟩
  · exact .inl (e _ _ h)
  · exact .inr ⟨o, e _ _ h⟩
theorem same_seqT {K : PySem.W.Frag} {G H : Hp} {a : Addr} {xs : List V} (e : Same G H) (h : SqT K G a xs) : SqT K H a xs := by
  rcases h with h | h
  · exact .inl (same_rd e h)
  · exact .inr h
/-- the tuples of G stand in H too -/
def Tp (G H : Hp) : Prop := ∀ a xs, Rd G a (.tup xs) → Rd H a (.tup xs)
theorem Tp.refl (H : Hp) : Tp H H := fun _ _ h => h
theorem Tp.trans {A B C : Hp} (h : Tp A B) (k : Tp B C) : Tp A C := fun a xs q => k a xs (h a xs q)
theorem Tp.of {G H : Hp} (e : Same G H) : Tp G H := fun _ _ h => same_rd e h
/-- what is no tuple -/
def noTup : HO → Bool
  | .tup _ => false
  | .frz _ (.tup _) => false
  | _ => true
theorem Tp.upd {H : Hp} {l : Addr} {o o' : HO} (h : H l = some o) (n : noTup o = true) : Tp H (upd H l o') := fun a xs q => by
  have hne : a ≠ l := by
    rintro rfl
    rcases q with q | ⟨u, q⟩
    · rw [h] at q
      cases q
      cases n
    · rw [h] at q
      cases q
      cases n
  rcases q with q | ⟨u, q⟩
  · exact .inl (by rw [upd_ne hne]; exact q)
  · exact .inr ⟨u, by rw [upd_ne hne]; exact q⟩
theorem Tp.seqT {K : PySem.W.Frag} {G H : Hp} {a : Addr} {xs : List V} (e : Tp G H) (h : SqT K G a xs) : SqT K H a xs := by
  rcases h with h | h
  · exact .inl (e _ _ h)
  · exact .inr h
mutual
theorem dp_same {K : PySem.W.Frag} {G H : Hp} (e : Same G H) : ∀ {v : V} {d : PyData}, Dp K G v d → Dp K H v d
  | _, _, .non => .non
  | _, _, .bl b => .bl b
  | _, _, .int i => .int i
  | _, _, .str x => .str x
  | _, _, .lst h t => .lst (e.seq h) (dps_same e t)
  | _, _, .tup h t => .tup (same_seqT e h) (dps_same e t)
theorem dps_same {K : PySem.W.Frag} {G H : Hp} (e : Same G H) : ∀ {vs : List V} {ds : List PyData}, DpAll K G vs ds → DpAll K H vs ds
  | _, _, .nil => .nil
  | _, _, .cons h t => .cons (dp_same e h) (dps_same e t)
end
mutual
/-- data without lists -/
def flatD : PyData → Bool
  | .none => true
  | .bool _ => true
  | .int _ => true
  | .str _ => true
  | .tuple xs => flatDs xs
  | _ => false
def flatDs : List PyData → Bool
  | [] => true
  | d :: ds => flatD d && flatDs ds
end
mutual
theorem dp_tp {K : PySem.W.Frag} {G H : Hp} (e : Tp G H) : ∀ {v : V} {d : PyData}, flatD d = true → Dp K G v d → Dp K H v d
  | _, _, _, .non => .non
  | _, _, _, .bl b => .bl b
  | _, _, _, .int i => .int i
  | _, _, _, .str x => .str x
  | _, _, f, .lst h t => by cases (show false = true from f)
  | _, _, f, .tup h t => .tup (e.seqT h) (dps_tp e f t)
theorem dps_tp {K : PySem.W.Frag} {G H : Hp} (e : Tp G H) : ∀ {vs : List V} {ds : List PyData}, flatDs ds = true → DpAll K G vs ds → DpAll K H vs ds
  | _, _, _, .nil => .nil
  | _, _, f, .cons h t => by
    have f' : (flatD _ && flatDs _) = true := f
    rw [Bool.and_eq_true] at f'
    exact .cons (dp_tp e f'.1 h) (dps_tp e f'.2 t)
end
theorem dps_len {K : PySem.W.Frag} {H : Hp} : ∀ {vs : List V} {ds : List PyData}, DpAll K H vs ds → vs.length = ds.length
  | _, _, .nil => rfl
  | _, _, .cons _ t => by rw [List.length_cons, List.length_cons, dps_len t]
theorem dps_get {K : PySem.W.Frag} {H : Hp} : ∀ {vs : List V} {ds : List PyData} {i : Nat} {v : V}, DpAll K H vs ds → vs[i]? = some v → ∃ d, ds[i]? = some d ∧ Dp K H v d
  | _, _, _, _, .nil, e => by simp at e
  | _, _, 0, _, .cons h _, e => by
    simp at e
    exact ⟨_, rfl, e ▸ h⟩
  | _, _, i + 1, v, .cons _ t, e => by
    obtain ⟨d, h1, h2⟩ := dps_get (i := i) (v := v) t (by simpa using e)
    exact ⟨d, by simpa using h1, h2⟩
theorem dps_get' {K : PySem.W.Frag} {H : Hp} : ∀ {vs : List V} {ds : List PyData} {i : Nat} {d : PyData}, DpAll K H vs ds → ds[i]? = some d → ∃ v, vs[i]? = some v ∧ Dp K H v d
  | _, _, _, _, .nil, e => by simp at e
  | _, _, 0, _, .cons h _, e => by
    simp at e
    exact ⟨_, rfl, e ▸ h⟩
  | _, _, i + 1, d, .cons _ t, e => by
    obtain ⟨v, h1, h2⟩ := dps_get' (i := i) (d := d) t (by simpa using e)
    exact ⟨v, by simpa using h1, h2⟩
theorem dps_append {K : PySem.W.Frag} {H : Hp} : ∀ {vs us : List V} {ds es : List PyData}, DpAll K H vs ds → DpAll K H us es → DpAll K H (vs ++ us) (ds ++ es)
  | _, _, _, _, .nil, q => q
  | _, _, _, _, .cons h t, q => .cons h (dps_append t q)
theorem dps_ints {K : PySem.W.Frag} {H : Hp} : ∀ ns : List Int, DpAll K H (ns.map V.int) (ns.map PyData.int)
  | [] => .nil
  | n :: r => .cons (.int n) (dps_ints r)
theorem dps_ints' {K : PySem.W.Frag} {H : Hp} : ∀ {vs : List V} {ns : List Int}, DpAll K H vs (ns.map PyData.int) → vs = ns.map V.int
  | _, [], .nil => rfl
  | _, n :: r, .cons h t => by
    cases h
    rw [List.map_cons, dps_ints' t]

/-! ### sorted(xs), xs data -/
theorem each_vals : ∀ {bs : List (V × PyData)} {us : List Value}, Vals (bs.map (·.1)) us → PySem.W.EachIs (fun (v : Value) (b : V × PyData) => RelV b.1 v) us bs
  | [], _, .nil => .nil
  | _ :: _, _, .cons h t => .cons h (each_vals t)
theorem vals_each : ∀ {bs : List (V × PyData)} {us : List Value}, PySem.W.EachIs (fun (v : Value) (b : V × PyData) => RelV b.1 v) us bs → Vals (bs.map (·.1)) us
  | _, _, .nil => .nil
  | _, _, .cons h t => .cons h (vals_each t)
section
variable {X : Cx}
theorem each_reads {pins : List (Addr × Obj)} {σ : L2.St} {H : Hp} {s : Shared} (I : Inv X pins σ H s) : ∀ {bs : List (V × PyData)} {us : List Value}, (∀ b ∈ bs, Dp X.K H b.1 b.2) → Vals (bs.map (·.1)) us →
    PySem.W.EachIs (fun (v : Value) (b : V × PyData) => ∃ as, Reads s.heap v b.2 as) us bs
  | [], _, _, .nil => .nil
  | b :: _, _, hd, .cons h t => .cons (Dp.reads I b.2 b.1 _ (hd b List.mem_cons_self) h) (each_reads I (fun c hc => hd c (List.mem_cons_of_mem _ hc)) t)
/-- items with the data that they are; the answer is the one sorted list -/
def rSortD (K : PySem.W.Frag) : List V → Hp → VK → Prop := fun vs H Q => ∃ (a : Addr) (bs : List (V × PyData)), vs = [V.ref a] ∧ SqL K H a (bs.map (·.1)) ∧ (∀ b ∈ bs, Dp K H b.1 b.2) ∧
  PySem.W.AllAlike (bs.map (·.2)) ∧ PySem.W.Sortable (bs.map (·.2)) ∧ (∀ b ∈ bs, b.2.depth ≤ 8) ∧
  ∀ p, H p = none → Q (V.ref p) (upd H p (.lst ((bs.mergeSort (PySem.W.dataLe false fun b => b.2)).map (·.1))))
theorem cr_sortD (room : X.A.units + 64 < cLine) : CallR X (.builtin "sorted") (rSortD X.K) := by
  intro pins s σ H vs us Q I rel ask
  obtain ⟨a, bs, rfl, hl, hd, al, so, dep, q⟩ := ask
  obtain ⟨its, rv, pl, sz⟩ := I.list hl
  rw [Vals.ref1 rel]
  have hz : bs.length ≤ sizeLine := by rw [← List.length_map (f := fun b : V × PyData => b.1)]; exact sz
  refine PySem.W.sorted_data (R := fun (v : Value) (b : V × PyData) => RelV b.1 v) (enc := fun b => b.2) pl.isList (each_vals rv) (each_reads I hd rv) al so hz (fun b hb => ?_) fun out ho eo => ?_
  · have := dep b hb
    omega
  · obtain ⟨c, hc⟩ := sortedAll_at s.heap its out.toArray
    have hn : H (s.heap.objs.size + 1) = none := I.hok.fresh (Nat.le_succ _)
    have hz' : ((bs.mergeSort (PySem.W.dataLe false fun b => b.2)).map (·.1)).length ≤ sizeLine := by
      rw [List.length_map, List.length_mergeSort]
      exact hz
    exact ⟨V.ref (s.heap.objs.size + 1), upd H (s.heap.objs.size + 1) (.lst ((bs.mergeSort (PySem.W.dataLe false fun b => b.2)).map (·.1))), I.laid (t' := s.toks) (fun _ _ e => sortedAll_old e) (Nat.le_succ _) ⟨hz', out, c, vals_each eo, hc⟩, rfl, q _ hn⟩

/-! ### set(t), t a tuple of ints -/
def rSetI (K : PySem.W.Frag) (w : World) : List V → Hp → VK → Prop := fun vs H Q => ∃ (t : Addr) (ns : List Int), vs = [V.ref t] ∧ SqT K H t (ns.map V.int) ∧ ns.length ≤ 60 ∧
  ∀ (p : Addr) (c : Nat), H p = none → c ≤ ns.length → Q (V.ref p) (upd H p (SetO w p (fun j => decide (j ∈ ns)) c))
theorem cr_setI (calm : X.calm = true) : CallR X (.type "set") (rSetI X.K X.w) := by
  intro pins s σ H vs us Q I rel ask
  obtain ⟨t, ns, rfl, ht, hl, q⟩ := ask
  obtain ⟨its, rv, tup, sz⟩ := I.tuple ht
  rw [Vals.ref1 rel]
  refine call_set_tupI ns (I.ok.hd calm) (show s.heap.IsTuple t its.toArray from tup) (ints_of_vals rv) (by unfold scanBound; omega) fun h' tk c R hc keep => ?_
  have hn : H s.heap.objs.size = none := I.hok.fresh (Nat.le_refl _)
  exact ⟨V.ref s.heap.objs.size, _, I.laid keep (Nat.le_refl _) (setO_new R), rfl, q _ c hn hc⟩

/-! ### len(o), o an instance whose class has __len__ -/
structure LenOf (P : Program) (w : World) (K : PySem.W.Frag) (mg : Str → Option Value) (base : Heap) (k : Nat) (C : Addr) (sp : Sp) : Prop where
  ex : ∃ (f : Addr) (fd : FuncData) (ps : List Str), PySem.W.findIn K (.ref C) "__len__" = some (some (.ref f)) ∧ PySem.W.isFn K (.ref f) = true ∧ FnOk P w K mg base CX0 k f fd ps sp ∧ Binds K fd ps []
def rLenO (C : Addr) (sp : Sp) : List V → Hp → VK → Prop := fun vs H Q => ∃ (a dx : Addr) (fs : List (Str × V)), vs = [V.ref a] ∧ H a = some (.ins C dx fs) ∧
  sp [V.ref a] H (fun v H' => ∃ n : Int, v = .int n ∧ 0 ≤ n ∧ n < 2 ^ 63 ∧ Q (.int n) H') E0
theorem cr_lenO {k : Nat} {C : Addr} {sp : Sp} (L : LenOf X.prog X.w X.K X.mg X.base k C sp) (room : Room (k + 1) X.A) : CallR X (.builtin "len") (rLenO C sp) := by
  intro pins s σ H vs us Q I rel ask
  obtain ⟨a, dx, fs, rfl, ha, hsp⟩ := ask
  obtain ⟨f, fd, ps, hf, fn, F, b⟩ := L.ex
  rw [Vals.ref1 rel]
  obtain ⟨mA, O, _, _, _, _⟩ := ins_get I.hok ha
  obtain ⟨od, J, _⟩ := O.look
  obtain ⟨m, fr⟩ := I.fr
  refine PySem.W.len_K fr I.ok.mod.kin J hf fn ?_
  have hl : ([Value.ref a] ++ ([] : List Value)).length = ps.length := (F.len _ _ _ _ hsp).symm ▸ rfl
  refine wpAny_call (codeAny_mono (F.run X.A.in1 X.stack s H ⟨[Value.ref a], []⟩ [Value.ref a] [V.ref a] _ E0 room.in1 I.env0.in1 (b s [Value.ref a] I.kIn hl) (.cons rfl .nil) hsp) fun r s' back => ?_)
  cases r with
  | error e => exact False.elim back
  | ok fl =>
    cases fl with
    | ret u =>
      obtain ⟨v, H', I', rv, n, ev, h0, h1, q⟩ := I.after back
      subst ev
      obtain ⟨t, rfl⟩ := rv
      exact ⟨⟨h0, h1⟩, V.int n, H', I'.tok _, ⟨_, rfl⟩, q⟩
    | next => exact False.elim back
    | brk => exact False.elim back
    | cont => exact False.elim back
end
end MW

/-! Rules that the layer lacks: dicts whose keys are nested tuples. -/
namespace MW
open PySem PySem.Spec PyProof.Rows L2

theorem datas_nums : ∀ ns : List Int, NestedKey.datas (ns.map NestedKey.num) = ns.map PyData.int
  | [] => rfl
  | n :: r => by
    show NestedKey.data (NestedKey.num n) :: NestedKey.datas (r.map NestedKey.num) = _
    rw [datas_nums r]
    rfl
mutual
theorem key_flat : ∀ k : NestedKey, flatD k.data = true
  | .none => rfl
  | .num _ => rfl
  | .text _ => rfl
  | .tup ks => keys_flat ks
theorem keys_flat : ∀ ks : List NestedKey, flatDs (NestedKey.datas ks) = true
  | [] => rfl
  | k :: ks => by
    show (flatD k.data && flatDs (NestedKey.datas ks)) = true
    rw [key_flat k, keys_flat ks]
    rfl
end
section
variable {X : Cx} {pins : List (Addr × Obj)} {σ : L2.St} {H : Hp} {s : Shared}
mutual
theorem nested_of (I : Inv X pins σ H s) : ∀ (k : NestedKey) (v : V) (u : Value), Dp X.K H v k.data → RelV v u → NestedIs s.heap k u
  | .none, _, _, .non, rel => by
    cases rel
    exact .none
  | .num _, _, _, .int i, rel => by
    obtain ⟨t, rfl⟩ := rel
    exact .int i t
  | .text _, _, _, .str x, rel => by
    obtain ⟨t, rfl⟩ := rel
    exact .text x t
  | .tup ks, _, _, .tup h t, rel => by
    cases rel
    obtain ⟨its, rv, ⟨o, ho, hc, n, hd⟩, _⟩ := I.tuple h
    exact .tup ho hc hd (nesteds_of I ks _ its t rv)
theorem nesteds_of (I : Inv X pins σ H s) : ∀ (ks : List NestedKey) (vs : List V) (us : List Value), DpAll X.K H vs (NestedKey.datas ks) → Vals vs us → NestedAll s.heap ks us
  | [], _, _, .nil, .nil => .nil
  | k :: ks, _, _, .cons h t, .cons r q => .cons (nested_of I k _ _ h r) (nesteds_of I ks _ _ t q)
end
end

/-! ### what stands there: keys with the addresses of their tuples -/
abbrev Ent := NestedKey × Addr × V
def entR (x : Ent) (y : NestedKey × Addr × Value) : Prop := x.1 = y.1 ∧ x.2.1 = y.2.1 ∧ RelV x.2.2 y.2.2
def NDf (P : Program) (w : World) (d : Addr) (xs : List Ent) : Heap → Prop := fun h => (d == sysModules) = false ∧ xs.length ≤ sizeLine ∧
  ∃ (o : Obj) (es : Array DictEntry) (ep : Nat) (ys : List (NestedKey × Addr × Value)), h.get? d = some o ∧ o.ExactDict ∧ o.data = .dict es ep ∧
    es.toList = ys.map (entryOfKey (nestedKind P w)) ∧ (ys.map (·.1)).Nodup ∧ Paired entR xs ys
def ndO (P : Program) (w : World) (d : Addr) (xs : List Ent) : HO := .ext (NDf P w d xs)
def kvOf (xs : List Ent) : List (NestedKey × V) := xs.map fun x => (x.1, x.2.2)
def KeysAt (K : PySem.W.Frag) (H : Hp) (xs : List Ent) : Prop := ∀ x ∈ xs, Dp K H (V.ref x.2.1) x.1.data ∧ x.1.depth ≤ 8
theorem KeysAt.tp {K : PySem.W.Frag} {G H : Hp} {xs : List Ent} (e : Tp G H) (k : KeysAt K G xs) : KeysAt K H xs := fun x hx => ⟨dp_tp e (key_flat x.1) (k x hx).1, (k x hx).2⟩
/-- the dict at d, readable -/
def NDr (P : Program) (w : World) (K : PySem.W.Frag) (H : Hp) (d : Addr) (xs : List Ent) : Prop := Rd H d (ndO P w d xs) ∧ KeysAt K H xs
theorem ndO_ok {P : Program} {w : World} {H : Hp} {h : Heap} {d : Addr} {xs : List Ent} (f : NDf P w d xs h) : ObjOk P w H h d (ndO P w d xs) := by
  refine ⟨f, ?_, fun h1 h2 p k => ?_⟩
  · obtain ⟨_, _, o, _, _, _, ho, _⟩ := f
    exact ⟨o, ho⟩
  · obtain ⟨a, z, o, es, ep, ys, ho, r⟩ := p
    exact ⟨a, z, o, es, ep, ys, k o ho, r⟩
theorem ent_kv : ∀ {xs : List Ent} {ys : List (NestedKey × Addr × Value)}, Paired entR xs ys → KV (kvOf xs) (pairsH ys)
  | _, _, .nil => .nil
  | _, _, .cons h t => .cons ⟨h.1, h.2.2⟩ (ent_kv t)
section
variable {X : Cx} {pins : List (Addr × Obj)} {σ : L2.St} {H : Hp} {s : Shared} {d b : Addr} {xs : List Ent} {k : NestedKey}
theorem nd_at (I : Inv X pins σ H s) (h : NDr X.prog X.w X.K H d xs) : (d == sysModules) = false ∧ xs.length ≤ sizeLine ∧ ∃ ys, Paired entR xs ys ∧ s.heap.DictOfH (nestedKind X.prog X.w) d ys := by
  obtain ⟨h1, h2⟩ := h
  obtain ⟨f, _, _⟩ := h1.ok I.hok
  obtain ⟨a, z, o, es, ep, ys, ho, hx, hd, he, hn, pr⟩ := f
  refine ⟨a, z, ys, pr, o, es, ep, ho, hx, hd, he, ?_, hn⟩
  have all : ∀ {xs : List Ent} {ys : List (NestedKey × Addr × Value)}, Paired entR xs ys → KeysAt X.K H xs → ∀ y ∈ ys, (nestedKind X.prog X.w).is s.heap y.1 y.2.1 := by
    intro xs ys pr
    induction pr with
    | nil => intro _ y hy; cases hy
    | @cons x y xs ys r t ih =>
      intro hk z hz
      rcases List.mem_cons.mp hz with e | e
      · obtain ⟨q1, q2⟩ := hk x List.mem_cons_self
        subst e
        refine ⟨?_, ?_⟩
        · have := nested_of I x.1 (V.ref x.2.1) (Value.ref x.2.1) q1 rfl
          rw [r.1, r.2.1] at this
          exact this
        · rw [← r.1]
          exact q2
      · exact ih (fun c hc => hk c (List.mem_cons_of_mem _ hc)) z e
  exact all pr h2
theorem key_at (I : Inv X pins σ H s) (hb : Dp X.K H (V.ref b) k.data) (hk : k.depth ≤ 8) : (nestedKind X.prog X.w).is s.heap k b := ⟨nested_of I k _ _ hb rfl, hk⟩
theorem room8 {A : Around} (h : A.units + 64 < cLine) : (nestedKind X.prog X.w).room A.in1 := by
  show A.units + 1 + 8 < cLine
  omega
theorem at_val {ys : List (NestedKey × Addr × Value)} (pr : Paired entR xs ys) : RelO (valV (kvOf xs) k) ((atKey ys k).map (·.2)) := by
  have := (ent_kv pr).val k
  rw [valueAt_pairsH] at this
  exact this

/-! ### k in d -/
def rInN (P : Program) (w : World) (K : PySem.W.Frag) : R2 := fun x y H Q => ∃ (b d : Addr) (k : NestedKey) (xs : List Ent), x = .ref b ∧ y = .ref d ∧ NDr P w K H d xs ∧ Dp K H (V.ref b) k.data ∧ k.depth ≤ 8 ∧ Q (.bl (valV (kvOf xs) k).isSome) H
theorem op_inN (hu : X.A.units + 64 < cLine) : OpR X (compareOp .In) (rInN X.prog X.w X.K) := by
  intro pins s σ H x y v u Q I rx ry ask
  obtain ⟨b, d, k, xs, rfl, rfl, hd, hb, hk, q⟩ := ask
  cases rx
  cases ry
  obtain ⟨hs, _, ys, pr, dd⟩ := nd_at I hd
  refine wpAny_in_heap (room8 hu) (key_at I hb hk) hs dd ⟨V.bl (valV (kvOf xs) k).isSome, H, I.tok _, ?_, q⟩
  show Value.bool (atKey ys k).isSome = Value.bool (valV (kvOf xs) k).isSome
  rw [(at_val pr).isSome_eq, Option.isSome_map]

/-! ### d.get(k, x) -/
def tGetN (P : Program) (w : World) (K : PySem.W.Frag) (td ty tx : TE) : TE := fun σ H Q => td σ H fun x H1 => ∃ (d : Addr) (xs : List Ent), x = .ref d ∧ NDr P w K H1 d xs ∧ ty σ H1 fun y H2 => tx σ H2 fun z H3 =>
  ∃ (b : Addr) (k : NestedKey) (xs3 : List Ent), y = .ref b ∧ NDr P w K H3 d xs3 ∧ Dp K H3 (V.ref b) k.data ∧ k.depth ≤ 8 ∧ Q ((valV (kvOf xs3) k).getD z) H3
theorem nd_dict (I : Inv X pins σ H s) (h : NDr X.prog X.w X.K H d xs) : s.TypeIs (.ref d) "dict" ∧ (∀ b, Value.ref d = .ref b → ∃ ob, s.heap.get? b = some ob ∧ ob.dict = none) := by
  obtain ⟨_, _, ys, _, o, es, ep, ho, hx, _⟩ := nd_at I h
  refine ⟨⟨o, ho, hx.1⟩, fun b e => ?_⟩
  cases e
  exact ⟨o, ho, hx.2.1⟩
theorem pe_getN {o e f : Expr} {apos cpos : Pos} {td ty tx : TE} (hu : X.A.units + 64 < cLine) (ho : PE X o td) (he : PE X e ty) (hf : PE X f tx) (m : M2 X o "get" apos e f cpos) :
    PE X (.Call (.Attribute o "get" apos) [e, f] [] cpos) (tGetN X.prog X.w X.K td ty tx) := by
  refine ⟨fun pins s σ H Q I h => ?_⟩
  refine wpAny_Call_method m.base m.few m.line PySem.F.plainAttrs_dict PySem.F.slot_dict_get PySem.F.type_dict_get (thn (ho.run pins s σ H _ I h) fun u s1 ⟨x, H1, I1, rx, d, xs, ex, hd, q1⟩ => ?_)
  subst ex
  obtain rfl : u = Value.ref d := rx
  refine ⟨(nd_dict I1 hd).1, (nd_dict I1 hd).2, ?_⟩
  rw [m.trees]
  refine Calls.callWith_builtin rfl (Calls.evalArgs_plain (Calls.spliced_cons (thn (he.run pins s1 σ H1 _ I1 q1) fun kv s2 ⟨y, H2, I2, ry, q2⟩ => ?_)))
  refine Calls.spliced_cons (thn (hf.run pins s2 σ H2 _ I2 q2) fun dv s3 ⟨z, H3, I3, rz, b, k, xs3, ey, hd3, hb, hk, q3⟩ => Calls.spliced_nil ?_)
  subst ey
  obtain rfl : kv = Value.ref b := ry
  obtain ⟨hs, _, ys, pr, dd⟩ := nd_at I3 hd3
  refine call_meetsIn PySem.F.slot_dict_get (nd_dict I3 hd3).1 PySem.F.entry_dict_get (PySem.F.args_dict_get_3 _ _ _) (meetsH_dict_get_default (nestedKind X.prog X.w) d b hs dv) ⟨room8 hu, k, ys, key_at I3 hb hk, dd, ?_⟩
  exact ⟨(valV (kvOf xs3) k).getD z, H3, I3.tok _, (at_val pr).getD rz, q3⟩

/-! ### d[k] = v -/
def storeX (xs : List Ent) (k : NestedKey) (a : Addr) (v : V) : List Ent := if (valV (kvOf xs) k).isSome then xs.map fun x => if x.1 = k then (x.1, x.2.1, v) else x else xs ++ [(k, a, v)]
theorem kvOf_store (xs : List Ent) (k : NestedKey) (a : Addr) (v : V) : kvOf (storeX xs k a v) = putK (kvOf xs) k v := by
  unfold storeX putK
  rw [valV_any]
  cases h : (valV (kvOf xs) k).isSome with
  | true =>
    rw [if_pos rfl, if_pos rfl]
    unfold kvOf
    rw [List.map_map, List.map_map]
    refine List.map_congr_left fun x _ => ?_
    simp only [Function.comp_apply]
    by_cases e : x.1 = k
    · rw [if_pos e, if_pos e]
    · rw [if_neg e, if_neg e]
  | false =>
    rw [if_neg Bool.false_ne_true, if_neg Bool.false_ne_true]
    unfold kvOf
    rw [List.map_append]
    rfl
theorem store_len (xs : List Ent) (k : NestedKey) (a : Addr) (v : V) : (storeX xs k a v).length ≤ xs.length + 1 := by
  unfold storeX
  split
  · rw [List.length_map]
    omega
  · rw [List.length_append]
    exact Nat.le_refl _
theorem keys_store {K : PySem.W.Frag} {a : Addr} {v : V} (h : KeysAt K H xs) (hb : Dp K H (V.ref a) k.data) (hk : k.depth ≤ 8) : KeysAt K H (storeX xs k a v) := by
  intro x hx
  unfold storeX at hx
  split at hx
  · obtain ⟨y, hy, e⟩ := List.mem_map.mp hx
    subst e
    by_cases e : y.1 = k
    · rw [if_pos e]
      exact h y hy
    · rw [if_neg e]
      exact h y hy
  · rcases List.mem_append.mp hx with z | z
    · exact h x z
    · rw [List.mem_singleton] at z
      subst z
      exact ⟨hb, hk⟩
theorem ent_store {ys : List (NestedKey × Addr × Value)} {a : Addr} {v : V} {u : Value} (pr : Paired entR xs ys) (r : RelV v u) : Paired entR (storeX xs k a v) (storedH ys k a u) := by
  have e : (valV (kvOf xs) k).isSome = (atKey ys k).isSome := by rw [(at_val pr).isSome_eq, Option.isSome_map]
  unfold storeX storedH
  rw [e]
  cases (atKey ys k).isSome with
  | true =>
    rw [if_pos rfl, if_pos rfl]
    have one : ∀ {xs : List Ent} {ys : List (NestedKey × Addr × Value)}, Paired entR xs ys → Paired entR (xs.map fun x => if x.1 = k then (x.1, x.2.1, v) else x) (ys.map (putAt k u)) := by
      intro xs ys pr
      induction pr with
      | nil => exact .nil
      | @cons x y xs ys h t ih =>
        refine .cons ?_ ih
        unfold putAt
        show entR (if x.1 = k then (x.1, x.2.1, v) else x) _
        by_cases c : x.1 = k
        · have c' : y.1 = k := h.1.symm.trans c
          rw [if_pos c, if_pos c']
          exact ⟨h.1, h.2.1, r⟩
        · have c' : ¬ y.1 = k := fun z => c (h.1.trans z)
          rw [if_neg c, if_neg c']
          exact h
    exact one pr
  | false =>
    rw [if_neg Bool.false_ne_true, if_neg Bool.false_ne_true]
    have app : ∀ {xs : List Ent} {ys : List (NestedKey × Addr × Value)}, Paired entR xs ys → Paired entR (xs ++ [(k, a, v)]) (ys ++ [(k, a, u)]) := by
      intro xs ys pr
      induction pr with
      | nil => exact .cons ⟨rfl, rfl, r⟩ .nil
      | cons h t ih => exact .cons h ih
    exact app pr
/-- d[k] = v -/
def rSetN (P : Program) (w : World) (K : PySem.W.Frag) : TSet := fun o i v H Q => ∃ (d b : Addr) (k : NestedKey) (xs : List Ent), o = .ref d ∧ i = .ref b ∧ H d = some (ndO P w d xs) ∧ KeysAt K H xs ∧ Dp K H (V.ref b) k.data ∧ k.depth ≤ 8 ∧ xs.length < sizeLine ∧
  Q (upd H d (ndO P w d (storeX xs k b v)))
theorem set_N (hu : X.A.units + 64 < cLine) : PSet X (rSetN X.prog X.w X.K) := by
  intro pins s σ H o i v ov iv u Q I ro ri rv ask
  obtain ⟨d, b, k, xs, rfl, rfl, hd, hks, hb, hk, hz, q⟩ := ask
  cases ro
  cases ri
  obtain ⟨hs, z, ys, pr, dd⟩ := nd_at I ⟨.inl hd, hks⟩
  have hyl : xs.length = ys.length := Paired.length pr
  refine wpAny_setItem_heap (hsz := by omega) (room8 hu) (key_at I hb hk) dd fun h' dd' sb => ?_
  obtain ⟨o', es, ep, ho, hx, hdt, he, _, hn⟩ := dd'
  have new : NDf X.prog X.w d (storeX xs k b v) h' := ⟨hs, by have := store_len xs k b v; omega, o', es, ep, _, ho, hx, hdt, he, hn, ent_store pr rv⟩
  exact ⟨_, I.write (x := d) (e := d) (by rw [hd]; exact True.intro) (.inl rfl) (fun c x hc e => (sb.2 c hc).trans e) ⟨o', ho⟩ (ndO_ok new), q⟩

/-! ### {} and {k: v} -/
def tNewN (P : Program) (w : World) : TE := fun _ H Q => ∀ d, H d = none → Q (.ref d) (upd H d (ndO P w d []))
theorem nd_empty (P : Program) (w : World) {h : Heap} (hb : sysModules < h.objs.size) : NDf P w h.objs.size [] (h.push { cls := .type "dict", data := .dict #[] }) := by
  obtain ⟨o, es, ep, ho, hx, hd, he, _, hn⟩ := Heap.DictOfH.new (knd := nestedKind P w) h
  exact ⟨by simpa using Nat.ne_of_gt hb, Nat.zero_le _, o, es, ep, [], ho, hx, hd, he, hn, .nil⟩
theorem pe_newN {pos : Pos} : PE X (.Dict [] [] pos) (tNewN X.prog X.w) := ⟨fun pins s σ H Q I ask =>
  wpAny_Dict_empty ⟨V.ref s.heap.objs.size, _, I.laid (t' := s.toks) (fun _ _ e => Heap.get?_push_of_some _ e) (Nat.le_refl _) (ndO_ok (nd_empty X.prog X.w I.big)), rfl, ask _ (I.hok.fresh (Nat.le_refl _))⟩⟩
/-- one pair -/
def tOneN (P : Program) (w : World) (K : PySem.W.Frag) (tk tv : TE) : TE := fun σ H Q => ∀ d, H d = none → tk σ (upd H d (ndO P w d [])) fun y H1 => tv σ H1 fun z H2 =>
  ∃ (b : Addr) (k : NestedKey), y = .ref b ∧ H2 d = some (ndO P w d []) ∧ Dp K H2 (V.ref b) k.data ∧ k.depth ≤ 8 ∧ Q (.ref d) (upd H2 d (ndO P w d [(k, b, z)]))
theorem pe_oneN {ek ev : Expr} {pos : Pos} {tk tv : TE} (hu : X.A.units + 64 < cLine) (hk : PE X ek tk) (hv : PE X ev tv) : PE X (.Dict [some ek] [ev] pos) (tOneN X.prog X.w X.K tk tv) := by
  refine ⟨fun pins s σ H Q I ask => ?_⟩
  have hn := I.hok.fresh (Nat.le_refl s.heap.objs.size)
  have I1 := I.laid (a := s.heap.objs.size) (h' := s.heap.push { cls := .type "dict", data := .dict #[] }) (t' := s.toks) (fun _ _ e => Heap.get?_push_of_some _ e) (Nat.le_refl _) (ndO_ok (nd_empty X.prog X.w I.big))
  have pps := pps_cons (pos := pos) hk hv pps_nil
  rw [arm_eval_Dict, zip_pairTrees [some ek] [ev] X.env pos rfl rfl, dictDisplay_pairs (pairTrees [some ek] [ev] X.env pos) (fun e => nomatch e) (show 1 < 17 by decide)]
  refine wpAny_bind (wpAny_standAt (wpAny_bind (wpAny_subDictH (knd := nestedKind X.prog X.w) (by show X.A.units + 8 < cLine; omega) (show 1 ≤ 15 by decide) ?_)))
  have ask1 := ask _ hn
  refine thn (pps.run pins _ σ _ (fun ps H2 => ∃ (y z : V) (b : Addr) (k : NestedKey), ps = [(y, z)] ∧ y = .ref b ∧ H2 s.heap.objs.size = some (ndO X.prog X.w s.heap.objs.size []) ∧ Dp X.K H2 (V.ref b) k.data ∧ k.depth ≤ 8 ∧ Q (.ref s.heap.objs.size) (upd H2 s.heap.objs.size (ndO X.prog X.w s.heap.objs.size [(k, b, z)]))) I1 ?_) fun vs s2 got => ?_
  · show tk σ _ fun y H1 => tv σ H1 fun z H2 => _
    have shape : (fun (y : V) (H1 : Hp) => tv σ H1 fun z H2 => ∃ (b : Addr) (k : NestedKey), y = .ref b ∧ H2 s.heap.objs.size = some (ndO X.prog X.w s.heap.objs.size []) ∧ Dp X.K H2 (V.ref b) k.data ∧ k.depth ≤ 8 ∧ Q (.ref s.heap.objs.size) (upd H2 s.heap.objs.size (ndO X.prog X.w s.heap.objs.size [(k, b, z)])))
        = fun (y : V) (H1 : Hp) => tv σ H1 fun z H2 => ∃ (y' z' : V) (b : Addr) (k : NestedKey), [(y, z)] = [(y', z')] ∧ y' = .ref b ∧ H2 s.heap.objs.size = some (ndO X.prog X.w s.heap.objs.size []) ∧ Dp X.K H2 (V.ref b) k.data ∧ k.depth ≤ 8 ∧ Q (.ref s.heap.objs.size) (upd H2 s.heap.objs.size (ndO X.prog X.w s.heap.objs.size [(k, b, z')])) := by
      funext y H1
      congr 1
      funext z H2
      apply propext
      constructor
      · rintro ⟨b, k, h1, h2⟩
        exact ⟨y, z, b, k, rfl, h1, h2⟩
      · rintro ⟨y', z', b, k, e, h1, h2⟩
        cases e
        exact ⟨b, k, h1, h2⟩
    rw [shape] at ask1
    exact ask1
  · obtain ⟨ps, H2, I2, rel, y, z, b, k, rfl, rfl, hd, hb, hk8, q⟩ := got
    cases rel with
    | @cons _ pv _ _ hr ht =>
      cases ht
      obtain ⟨kv, vv⟩ := pv
      obtain ⟨r1, r2⟩ := hr
      obtain rfl : kv = Value.ref b := r1
      obtain ⟨hs, _, ys, pr, dd⟩ := nd_at I2 ⟨.inl hd, fun x hx => nomatch hx⟩
      cases pr
      refine ⟨[(k, b, vv)], ⟨rfl, rfl, key_at I2 hb hk8, trivial⟩, dd, fun h' tk' dd' sb => ?_⟩
      obtain ⟨o', es, ep, ho, hx, hdt, he, _, hn'⟩ := dd'
      have new : NDf X.prog X.w s.heap.objs.size [(k, b, z)] h' := ⟨hs, by show 1 ≤ sizeLine; decide, o', es, ep, _, ho, hx, hdt, he, hn', .cons ⟨rfl, rfl, r2⟩ .nil⟩
      refine wpAny_pure ⟨V.ref s.heap.objs.size, _, I2.write (x := s.heap.objs.size) (e := s.heap.objs.size) (by rw [hd]; exact True.intro) (.inl rfl) (fun c x hc e => (sb.2 c hc).trans e) ⟨o', ho⟩ (ndO_ok new), rfl, q⟩
end
end MW

/-! Rules that the layer lacks: walks over a locked dict whose keys are nested tuples. -/
namespace MW
open PySem PySem.Spec PyProof.Rows L2
section
variable {X : Cx} {pins : List (Addr × Obj)} {σ : L2.St} {H : Hp} {s : Shared} {d : Addr} {xs : List Ent} {o : Obj}
theorem ent_get {ys : List (NestedKey × Addr × Value)} (h : Paired entR xs ys) {i : Nat} {x : Ent} (e : xs[i]? = some x) : ∃ y, ys[i]? = some y ∧ entR x y := by
  obtain ⟨y, h1, h2⟩ := paired_get h e
  exact ⟨y, h1, h2⟩
/-- what the locked dict's object tells -/
theorem locked_at (I : Inv X pins σ H s) (h : H d = some (.frz o (ndO X.prog X.w d xs))) : (d == sysModules) = false ∧ s.heap.get? d = some o ∧ o.ExactDict ∧ ∃ (es : Array DictEntry) (ep : Nat), o.data = .dict es ep ∧ es.size = xs.length ∧
    ∀ (i : Nat) (x : Ent), xs[i]? = some x → ∃ en : DictEntry, es[i]? = some en ∧ en.key = Value.ref x.2.1 ∧ RelV x.2.2 en.val := by
  obtain ⟨hg, f, _, _⟩ := I.hok d _ h
  obtain ⟨hs, _, o', es, ep, ys, ho, hx, hd, he, _, pr⟩ := f
  rw [hg] at ho
  cases ho
  refine ⟨hs, hg, hx, es, ep, hd, ?_, fun i x hi => ?_⟩
  · rw [size_of_entries he]
    exact (Paired.length pr).symm
  · obtain ⟨y, hy, h1, h2, h3⟩ := ent_get pr hi
    have q := entry_at he i
    rw [hy] at q
    exact ⟨_, q, by rw [h2]; rfl, h3⟩
end
def Lk (P : Program) (w : World) (d : Addr) (o : Obj) (xs : List Ent) (H : Hp) : Prop := H d = some (.frz o (ndO P w d xs))
/-- the keys -/
def Itnk (P : Program) (w : World) (d : Addr) (o : Obj) (xs : List Ent) : It :=
  ⟨fun i H => Lk P w d o xs H ∧ i < xs.length, fun i H x H' => H' = H ∧ ∃ e, xs[i]? = some e ∧ x = .ref e.2.1, fun i H => Lk P w d o xs H ∧ xs.length ≤ i⟩
/-- the pairs, each a new tuple -/
def Itni (P : Program) (w : World) (d : Addr) (o : Obj) (xs : List Ent) : It :=
  ⟨fun i H => Lk P w d o xs H ∧ i < xs.length, fun i H x H' => ∃ T e, xs[i]? = some e ∧ x = .ref T ∧ H T = none ∧ H' = upd H T (.tup [.ref e.2.1, e.2.2]), fun i H => Lk P w d o xs H ∧ xs.length ≤ i⟩
theorem walk_nk {P : Program} {w : World} {d : Addr} {o : Obj} {xs : List Ent} : Walk (Itnk P w d o xs) xs.length (Lk P w d o xs) (fun i H x H' => H' = H ∧ ∃ e, xs[i]? = some e ∧ x = .ref e.2.1) :=
  ⟨fun _ _ hi q => ⟨q, hi⟩, fun _ q => ⟨q, Nat.le_refl _⟩, fun _ _ _ _ _ _ y => y⟩
theorem walk_ni {P : Program} {w : World} {d : Addr} {o : Obj} {xs : List Ent} : Walk (Itni P w d o xs) xs.length (Lk P w d o xs) (fun i H x H' => ∃ T e, xs[i]? = some e ∧ x = .ref T ∧ H T = none ∧ H' = upd H T (.tup [.ref e.2.1, e.2.2])) :=
  ⟨fun _ _ hi q => ⟨q, hi⟩, fun _ q => ⟨q, Nat.le_refl _⟩, fun _ _ _ _ _ _ y => y⟩
section
variable {P : Program} {w : World} {K : PySem.W.Frag} {tg : Expr} {d : Addr} {o : Obj} {xs : List Ent} {es : Array DictEntry} {ep : Nat}
theorem same_dict {es' : Array DictEntry} {ep' : Nat} (h : o.data = .dict es ep) (h' : o.data = .dict es' ep') : es' = es ∧ ep' = ep := by
  rw [h] at h'
  cases h'
  exact ⟨rfl, rfl⟩
theorem turn_nk (it : Addr) (hod : o.data = .dict es ep) : Turn P w K tg (Itnk P w d o xs) [it] it (fun i h => h.IsKeyIter it d i xs.length ep) where
  mem := List.mem_singleton.mpr rfl
  obj := fun i h st b hb => by
    cases List.mem_singleton.mp hb
    obtain ⟨oi, e, _, dd⟩ := st
    exact ⟨oi, e, fun v z => by rw [dd] at z; cases z⟩
  keep := fun i h h' st k => st.at fun oi e => k it (List.mem_singleton.mpr rfl) oi e
  item := by
    intro X hP hw hK calm i pins s σ H E I hf st going
    subst hP hw hK
    obtain ⟨hl, hi⟩ := going
    obtain ⟨f0, f1, _, f3, f4, f5⟩ := hf it (List.mem_singleton.mpr rfl)
    obtain ⟨_, hg, _, es', ep', hd', hsz, ent⟩ := locked_at I hl
    obtain ⟨rfl, rfl⟩ := same_dict hod hd'
    have hx : xs[i]? = some xs[i] := List.getElem?_eq_getElem hi
    obtain ⟨en, he, hk, _⟩ := ent i _ hx
    refine next_key_item st hg hd' hsz he fun h' st' sb => ?_
    have I1 : Inv X pins σ H { s with heap := h' } := I.turned (t' := s.toks) (fun b ob hb q => (sb.2 b hb).trans q) f0 f1 f3 f4 f5
    obtain ⟨oi, e1, c1, d1⟩ := id st'
    exact ⟨en.key, rfl, go_of (s := { s with heap := h' }) e1 c1 d1 (by decide) ⟨V.ref (xs[i]).2.1, H, I1, hk, ⟨rfl, _, hx, rfl⟩, st', fun b hb => (hf b hb).1⟩⟩
  done := by
    intro X hP hw hK calm i pins s σ H E I hf st going
    subst hP hw hK
    obtain ⟨hl, hi⟩ := going
    obtain ⟨f0, f1, _, f3, f4, f5⟩ := hf it (List.mem_singleton.mpr rfl)
    obtain ⟨_, hg, _, es', ep', hd', hsz, _⟩ := locked_at I hl
    obtain ⟨rfl, rfl⟩ := same_dict hod hd'
    exact next_key_end (I.ok.hd calm) st hg hd' hsz hi fun h' eb => ⟨rfl, I.turned (t' := s.toks) (fun b ob hb q => eb b ob hb q) f0 f1 f3 f4 f5⟩
  self := fun A i s Q E st q => wpAny_pyIter_keyiter st q
theorem turn_ni {elts : List Expr} {kk : Nat} {tpos : Pos} (it : Addr) (hod : o.data = .dict es ep) :
    Turn P w K (.Tuple elts kk tpos) (Itni P w d o xs) [it] it (fun i h => ∃ okv ovv, IsItemIter h it d i xs.length ep okv ovv) where
  mem := List.mem_singleton.mpr rfl
  obj := fun i h st b hb => by
    cases List.mem_singleton.mp hb
    obtain ⟨_, _, e⟩ := st
    exact ⟨_, e, fun v z => nomatch z⟩
  keep := fun i h h' st k => let ⟨okv, ovv, e⟩ := st; ⟨okv, ovv, k it (List.mem_singleton.mpr rfl) _ e⟩
  item := by
    intro X hP hw hK calm i pins s σ H E I hf st going
    subst hP hw hK
    obtain ⟨hl, hi⟩ := going
    obtain ⟨_, hg, hx, es', ep', hd', hsz, ent⟩ := locked_at I hl
    obtain ⟨rfl, rfl⟩ := same_dict hod hd'
    have hxi : xs[i]? = some xs[i] := List.getElem?_eq_getElem hi
    obtain ⟨en, he, hk, hv⟩ := ent i _ hxi
    obtain ⟨okv, ovv, hit⟩ := st
    rw [← hsz] at hit
    have hlt : it < s.heap.objs.size := Heap.lt_size hit
    have hie : i < es'.size := by rw [hsz]; exact hi
    have hen : es'[i] = en := by
      have := Array.getElem?_eq_getElem hie
      rw [he] at this
      exact (Option.some.inj this).symm
    refine wpAny_pyNext_items_item_raw hit ⟨o, hg, hx, hd'⟩ hie fun h' out made sz keep => ?_
    refine ⟨_, rfl, wpAny_letOwnedTupleGo_items (s := { s with heap := h' }) out fun h2 hit2 sb => ?_⟩
    have hT : h2.get? s.heap.objs.size = some { cls := .type "tuple", data := .seq #[es'[i].key, es'[i].val] } := (sb.2 _ (Nat.ne_of_gt hlt)).trans made
    have new : ObjOk X.prog X.w (upd H s.heap.objs.size (.tup [V.ref (xs[i]).2.1, (xs[i]).2.2])) h2 s.heap.objs.size (.tup [V.ref (xs[i]).2.1, (xs[i]).2.2]) :=
      ⟨by show 2 ≤ sizeLine; decide, [es'[i].key, es'[i].val], .cons (by rw [hen]; exact hk) (.cons (by rw [hen]; exact hv) .nil), ⟨_, hT, rfl, _, rfl⟩⟩
    have I1 : Inv X pins σ (upd H s.heap.objs.size (.tup [V.ref (xs[i]).2.1, (xs[i]).2.2])) { s with heap := h2 } :=
      I.turnedNew (t' := s.toks) (ch := [it]) (fun b ob hb q => (sb.2 b fun z => hb (List.mem_singleton.mpr z)).trans (keep b ob (fun z => hb (List.mem_singleton.mpr z)) q)) hf (Nat.le_refl _) new
    refine ⟨V.ref s.heap.objs.size, _, I1, rfl, ⟨_, _, hxi, rfl, I.hok.fresh (Nat.le_refl _), rfl⟩, ⟨_, _, by rw [← hsz]; exact hit2⟩, fun b hb => ?_⟩
    cases List.mem_singleton.mp hb
    rw [upd_ne (Nat.ne_of_lt hlt)]
    exact (hf it (List.mem_singleton.mpr rfl)).1
  done := by
    intro X hP hw hK calm i pins s σ H E I hf st going
    subst hP hw hK
    obtain ⟨hl, hi⟩ := going
    obtain ⟨f0, f1, _, f3, f4, f5⟩ := hf it (List.mem_singleton.mpr rfl)
    obtain ⟨_, hg, hx, es', ep', hd', hsz, _⟩ := locked_at I hl
    obtain ⟨rfl, rfl⟩ := same_dict hod hd'
    obtain ⟨okv, ovv, hit⟩ := st
    rw [← hsz] at hit
    exact wpAny_pyNext_items_end_raw (I.ok.hd calm) hit ⟨o, hg, hx, hd'⟩ (by rw [hsz]; exact hi) fun h' eb => ⟨rfl, I.turned (t' := s.toks) (fun b ob hb q => eb b ob hb q) f0 f1 f3 f4 f5⟩
  self := fun A i s Q E st q => let ⟨_, _, e⟩ := st; PySem.W.kcp_self e q
end
/-- for k in d -/
def iNK (P : Program) (w : World) (td : TE) : TI := fun σ H R => td σ H fun x H1 => ∃ d o xs, x = .ref d ∧ Lk P w d o xs H1 ∧ R (Itnk P w d o xs) H1
/-- for k, v in d.items() -/
def iNI (P : Program) (w : World) (td : TE) : TI := fun σ H R => td σ H fun x H1 => ∃ d o xs, x = .ref d ∧ Lk P w d o xs H1 ∧ R (Itni P w d o xs) H1
section
variable {X : Cx} {tg e : Expr} {td : TE} {apos cpos : Pos}
theorem pi_NK (he : PE X e td) : PI X tg e (iNK X.prog X.w td) := by
  refine ⟨fun pins s σ H R I ask => ?_⟩
  refine thn (he.run pins s σ H _ I ask) fun u s1 ⟨x, H1, I1, rx, d, o, xs, ex, hl, q⟩ => ?_
  subst ex
  obtain rfl : u = Value.ref d := rx
  obtain ⟨hs, hg, hx, es, ep, hd, hsz, _⟩ := locked_at I1 hl
  refine iter_keys hs hg hx hd (pi_one (tk := s1.toks) I1 _ (turn_nk _ hd) ⟨_, Heap.get?_push_size _ rfl, rfl, ?_⟩ q)
  rw [hsz]
  rfl
theorem pi_NI {elts : List Expr} {kk : Nat} {tpos : Pos} (he : PE X e td) (hbase : attributeBase e "items" X.env (eval e X.env) = eval e X.env := by rfl) (hline : (apos.endLine == cpos.line) = true := by rfl) :
    PI X (.Tuple elts kk tpos) (.Call (.Attribute e "items" apos) [] [] cpos) (iNI X.prog X.w td) := by
  refine ⟨fun pins s σ H R I ask => ?_⟩
  refine wpAny_Call_method (T := "dict") (id := "dict.items") hbase rfl hline F.plainAttrs_dict F.slot_dict_items F.type_dict_items (thn (he.run pins s σ H _ I ask) fun u s1 ⟨x, H1, I1, rx, d, o, xs, ex, hl, q⟩ => ?_)
  subst ex
  obtain rfl : u = Value.ref d := rx
  obtain ⟨hs, hg, hx, es, ep, hd, hsz, _⟩ := locked_at I1 hl
  have ty : s1.TypeIs (.ref d) "dict" := ⟨o, hg, hx.1⟩
  refine ⟨ty, fun b z => ⟨o, by cases z; exact hg, hx.2.1⟩, ?_⟩
  have I2 : Inv X pins σ H1 { s1 with heap := s1.heap.push { cls := .type "dict_items", data := .fields #[.ref d] } } := I1.kept (t' := s1.toks) fun b ob z => Heap.get?_push_of_some _ z
  have raw : (s1.heap.push { cls := .type "dict_items", data := .fields #[.ref d] }).DictRaw d es ep := ⟨o, Heap.get?_push_of_some _ hg, hx, hd⟩
  have fin : wpAny (model X.prog X.w) X.A (pyIter (.ref s1.heap.objs.size)) (PIE X pins σ (.Tuple elts kk tpos) R) X.xe { s1 with heap := s1.heap.push { cls := .type "dict_items", data := .fields #[.ref d] } } := by
    refine wpAny_pyIter_items_raw (d := d) ⟨_, Heap.get?_push_size _ rfl, rfl, rfl⟩ raw (pi_one (tk := s1.toks) I2 _ (turn_ni _ hd) ⟨.none, .none, ?_⟩ q)
    rw [← hsz]
    exact Heap.get?_push_size _ rfl
  show wpAny _ _ (callWith cpos (.builtin "dict.items") [.ref d] [] []) _ X.xe s1
  exact method_meetsIn F.slot_dict_items F.entry_dict_items rfl (PySem.evalArgs_none ⟨rfl, ty, F.args_dict_items_1 _, _, meets_dict_items_raw d hs, ⟨es, ep, o, hg, hx, hd⟩, fin⟩)
end
end MW

/-! Words for the walk: defs, classes, methods by name; comprehensions that make data. -/
namespace MW
open PySem PySem.Spec PyProof.Rows L2

/-! ### defs by name -/
structure Fn (P : Program) (w : World) (K : PySem.W.Frag) (mg : Str → Option Value) (base : Heap) (k : Nat) (x : Str) (sp : Sp) : Prop where
  ex : ∃ (f : Addr) (fd : FuncData) (ps : List Str), FnOk P w K mg base CX0 k f fd ps sp ∧ mg x = some (.ref f) ∧ PySem.W.keepIn K (.ref f) = true ∧ Binds K fd ps []
def tF (sp : Sp) (t : TA) : TE := fun σ H Q => t σ H fun vs H1 => sp vs H1 Q E0
theorem tCall_nil (sp : Sp) (t : TA) : tCall sp [] E0 t = tF sp t := by
  funext σ H Q
  show (t σ H fun vs H1 => sp (vs ++ []) H1 Q E0) = t σ H fun vs H1 => sp vs H1 Q E0
  congr 1
  funext vs H1
  rw [List.append_nil]
section
variable {X : Cx} {k j : Nat} {x m : Str} {sp : Sp} {p pos apos : Pos} {e o : Expr} {es : List Expr} {t : TA} {ta : TE} {C : Addr}
theorem pe_fn (F : Fn X.prog X.w X.K X.mg X.base k x sp) (hr : Room j X.A) (hk : k ≤ j) (ha : PA X (e :: es) t) (hg : Gl X x := by rfl) (hdb : (x == ("__debug__" : Str)) = false := by decide)
    (he : starEach (e :: es) X.env = (false, eval e X.env) :: starEach es X.env := by rfl) (hpl : (backTo pos (starEach es X.env)).any (·.1) = false := by rfl) : PE X (.Call (.Name x p) (e :: es) [] pos) (tF sp t) := by
  obtain ⟨f, fd, ps, ok, hm, kp, b⟩ := F.ex
  have h := pe_call (p := p) (pos := pos) ok (hr.mono hk) hg hm kp b .nil pass0 ha hdb he hpl
  rw [tCall_nil] at h
  exact h

/-! ### classes by name -/
structure Cn (P : Program) (w : World) (K : PySem.W.Frag) (mg : Str → Option Value) (base : Heap) (k : Nat) (C : Addr) (sp : Sp) : Prop where
  ex : ∃ (f : Addr) (fd : FuncData) (ps : List Str), Mk K C f ∧ FnOk P w K mg base CX0 k f fd ps sp ∧ Binds K fd ps []
def tN (C : Addr) (sp : Sp) (t : TA) : TE := fun σ H Q => t σ H fun vs H1 => ∀ x dx, H1 x = none → H1 dx = none → dx ≠ x → sp (.ref x :: vs) (upd (upd H1 dx (.own x)) x (.ins C dx [])) (fun v H2 => v = .non ∧ Q (.ref x) H2) E0
theorem tMake_nil (sp : Sp) (t : TA) : tMake C sp [] E0 t = tN C sp t := by
  funext σ H Q
  show (t σ H fun vs H1 => ∀ x dx, H1 x = none → H1 dx = none → dx ≠ x → sp (.ref x :: (vs ++ [])) _ _ E0) = t σ H fun vs H1 => ∀ x dx, H1 x = none → H1 dx = none → dx ≠ x → sp (.ref x :: vs) _ _ E0
  congr 1
  funext vs H1
  rw [List.append_nil]
theorem pe_new (N : Cn X.prog X.w X.K X.mg X.base k C sp) (hr : Room j X.A) (hk : k + 1 ≤ j) (hm : X.mg x = some (.ref C)) (ha : PA X (e :: es) t) (hg : Gl X x := by rfl) (hdb : (x == ("__debug__" : Str)) = false := by decide)
    (he : starEach (e :: es) X.env = (false, eval e X.env) :: starEach es X.env := by rfl) (hpl : (backTo pos (starEach es X.env)).any (·.1) = false := by rfl) : PE X (.Call (.Name x p) (e :: es) [] pos) (tN C sp t) := by
  obtain ⟨f, fd, ps, M, ok, b⟩ := N.ex
  have h := pe_make (p := p) (pos := pos) M ok (hr.mono hk) hg hm b .nil pass0 ha hdb he hpl
  rw [tMake_nil] at h
  exact h
/-- the class in a slot -/
def tNL (i : Nat) (C : Addr) (sp : Sp) (t : TA) : TE := fun σ H Q => σ[i]? = some (some (.ref C)) ∧ tN C sp t σ H Q
theorem pe_newL {i : Nat} (N : Cn X.prog X.w X.K X.mg X.base k C sp) (hr : Room j X.A) (hk : k + 1 ≤ j) (ha : PA X (e :: es) t) (hN : X.N[i]? = some x := by rfl) (hv : Vis X.env.scope x := by first | exact Or.inl rfl | exact Or.inr (Or.inl rfl))
    (hdb : (x == ("__debug__" : Str)) = false := by decide) (hcd : (x == ("__classdict__" : Str)) = false := by decide)
    (he : starEach (e :: es) X.env = (false, eval e X.env) :: starEach es X.env := by rfl) (hpl : (backTo pos (starEach es X.env)).any (·.1) = false := by rfl) : PE X (.Call (.Name x p) (e :: es) [] pos) (tNL i C sp t) := by
  obtain ⟨f, fd, ps, M, ok, b⟩ := N.ex
  refine ⟨fun pins s σ H Q I ask => ?_⟩
  obtain ⟨hs, ask⟩ := ask
  rw [← tMake_nil] at ask
  refine wpAny_Call_Name_kw (thn ((pe_var (pos := p) hN hv hdb hcd).run pins s σ H (fun v H1 => v = .ref C ∧ H1 = H) I ⟨.ref C, hs, rfl, rfl⟩) fun u s1 ⟨v, H1, I1, r1, ev, eh⟩ => ?_)
  subst ev
  subst eh
  cases r1
  refine PySem.W.callWith_K (h₀ := X.base) I.ok.mod.kin M.kp (thn (ha.run pos pins s1 σ _ _ I1 ask) fun us s2 ⟨vs, H2, I2, r, q⟩ => ⟨I2.kIn, ?_⟩) he hpl
  exact run_make M ok (hr.mono hk) b .nil pass0 I2 r q

/-! ### methods, properties, classmethods -/
structure Mt (P : Program) (w : World) (K : PySem.W.Frag) (mg : Str → Option Value) (base : Heap) (k : Nat) (C : Addr) (m : Str) (sp : Sp) : Prop where
  ex : ∃ (f : Addr) (fd : FuncData) (ps : List Str), Cls K C ∧ Meth K C m f ∧ FnOk P w K mg base CX0 k f fd ps sp ∧ Binds K fd ps []
def tM (C : Addr) (m : Str) (sp : Sp) (ta : TE) (t : TA) : TE := fun σ H Q => ta σ H fun x H1 => ∃ a dx fs, x = .ref a ∧ H1 a = some (.ins C dx fs) ∧ fs.lookup m = none ∧ t σ H1 fun vs H2 => sp (x :: vs) H2 Q E0
theorem tMeth_nil (sp : Sp) (t : TA) : tMeth C m sp [] E0 ta t = tM C m sp ta t := by
  funext σ H Q
  show (ta σ H fun x H1 => ∃ a dx fs, x = .ref a ∧ H1 a = some (.ins C dx fs) ∧ fs.lookup m = none ∧ t σ H1 fun vs H2 => sp (x :: (vs ++ [])) H2 Q E0) = _
  simp only [List.append_nil]
  rfl
theorem pe_m {pl : Sem Bool} (M : Mt X.prog X.w X.K X.mg X.base k C m sp) (hr : Room j X.A) (hk : k ≤ j) (ho : PE X o ta) (ha : PA X (e :: es) t)
    (hst : starEach (e :: es) X.env = (false, eval e X.env) :: starEach es X.env := by rfl) (hpl : (backTo pos (starEach es X.env)).any (·.1) = false := by rfl)
    (ht : eval (.Call (.Attribute o m apos) (e :: es) [] pos) X.env = (do
      let ov ← eval o X.env
      standAt apos.atName
      let (f, first) ← holding [ov] (getMethod ov m pl)
      callWith pos f first (backTo pos (starEach (e :: es) X.env)) (backToKw pos (keywordEach [] X.env))) := by rfl) : PE X (.Call (.Attribute o m apos) (e :: es) [] pos) (tM C m sp ta t) := by
  obtain ⟨f, fd, ps, c, mm, ok, b⟩ := M.ex
  have h := pe_meth (pl := pl) (apos := apos) (pos := pos) ho c mm ok (hr.mono hk) b .nil pass0 ha hst hpl ht
  rw [tMeth_nil] at h
  exact h
theorem pe_m0 {pl : Sem Bool} (M : Mt X.prog X.w X.K X.mg X.base k C m sp) (hr : Room j X.A) (hk : k ≤ j) (ho : PE X o ta)
    (ht : eval (.Call (.Attribute o m apos) [] [] pos) X.env = (do
      let ov ← eval o X.env
      standAt apos.atName
      let (f, first) ← holding [ov] (getMethod ov m pl)
      callWith pos f first (backTo pos (starEach [] X.env)) (backToKw pos (keywordEach [] X.env))) := by rfl) : PE X (.Call (.Attribute o m apos) [] [] pos) (tM C m sp ta tNil) := by
  obtain ⟨f, fd, ps, c, mm, ok, b⟩ := M.ex
  have h := pe_meth0 (pl := pl) (apos := apos) (pos := pos) ho c mm ok (hr.mono hk) b .nil pass0 ht
  rw [tMeth_nil] at h
  exact h
structure Pr (P : Program) (w : World) (K : PySem.W.Frag) (mg : Str → Option Value) (base : Heap) (k : Nat) (C : Addr) (m : Str) (sp : Sp) : Prop where
  ex : ∃ (p g : Addr) (fd : FuncData) (ps : List Str), Cls K C ∧ PropOf K C m p g ∧ FnOk P w K mg base CX0 k g fd ps sp ∧ Binds K fd ps []
theorem pe_pr (R : Pr X.prog X.w X.K X.mg X.base k C m sp) (hr : Room j X.A) (hk : k + 1 ≤ j) (he : PE X e ta) (hab : attributeBase e m X.env (eval e X.env) = eval e X.env := by rfl) : PE X (.Attribute e m pos) (tProp C sp [] E0 ta) := by
  obtain ⟨p, g, fd, ps, c, pr, ok, b⟩ := R.ex
  exact pe_prop he c pr ok (hr.mono hk) b .nil pass0 hab
structure Cm (P : Program) (w : World) (K : PySem.W.Frag) (mg : Str → Option Value) (base : Heap) (k : Nat) (C : Addr) (m : Str) (sp : Sp) : Prop where
  ex : ∃ (mc : Value) (p g : Addr), ClX.CRead K C mc ∧ ClX.CMet K C mc m p g ∧ FnR P w K mg base CX0 k g sp
theorem pe_cm {pl : Sem Bool} (M : Cm X.prog X.w X.K X.mg X.base k C m sp) (hr : Room j X.A) (hk : k ≤ j) (ho : PE X o ta) (ha : PA X (e :: es) t)
    (hst : starEach (e :: es) X.env = (false, eval e X.env) :: starEach es X.env := by rfl) (hpl : (backTo pos (starEach es X.env)).any (·.1) = false := by rfl)
    (ht : eval (.Call (.Attribute o m apos) (e :: es) [] pos) X.env = (do
      let ov ← eval o X.env
      standAt apos.atName
      let (f, first) ← holding [ov] (getMethod ov m pl)
      callWith pos f first (backTo pos (starEach (e :: es) X.env)) (backToKw pos (keywordEach [] X.env))) := by rfl) : PE X (.Call (.Attribute o m apos) (e :: es) [] pos) (ClX.tCMeth C sp E0 ta t) := by
  obtain ⟨mc, p, g, r, c, ok⟩ := M.ex
  exact ClX.pe_cmeth (pl := pl) (apos := apos) (pos := pos) ho r c ok (hr.mono hk) pass0 ha hst hpl ht
end

/-! ### what is certain of an expression, a test, a target -/
def Ep (te : TE) (σ : L2.St) (H : Hp) (P : V → Hp → Prop) : Prop := ∀ Q : VK, (∀ v H', P v H' → Q v H') → te σ H Q
def Et (tt : TT) (σ : L2.St) (H : Hp) (P : Bool → Hp → Prop) : Prop := ∀ Q : Bool → Hp → Prop, (∀ b H', P b H' → Q b H') → tt σ H Q
def Eg (g : TG) (x : V) (σ : L2.St) (H : Hp) (σ2 : L2.St) : Prop := ∀ Q : L2.St → Hp → Prop, Q σ2 H → g x σ H Q
theorem Ep.use {te : TE} {σ : L2.St} {H : Hp} {P : V → Hp → Prop} (h : Ep te σ H P) {Q : VK} (q : ∀ v H', P v H' → Q v H') : te σ H Q := h Q q
theorem eg_name {i : Nat} {x : V} {σ : L2.St} {H : Hp} : Eg (gName i) x σ H (σ.set i (some x)) := fun _ q => q
theorem eg_pair {K : PySem.W.Frag} {i j : Nat} {a : Addr} {x y : V} {σ : L2.St} {H : Hp} (h : SqT K H a [x, y]) : Eg (gTup K 2 (gCons (gName i) (gCons (gName j) gNil))) (.ref a) σ H ((σ.set i (some x)).set j (some y)) :=
  fun _ q => ⟨a, [x, y], rfl, h, rfl, x, [y], rfl, y, [], rfl, rfl, q⟩
theorem Et.weak {tt : TT} {σ : L2.St} {H : Hp} {P P' : Bool → Hp → Prop} (h : Et tt σ H P) (w : ∀ b H', P b H' → P' b H') : Et tt σ H P' := fun Q q => h Q fun b H' p => q b H' (w b H' p)
theorem et_yes {σ : L2.St} {H : Hp} : Et tYes σ H fun b H' => b = true ∧ H' = H := fun _ q => q _ _ ⟨rfl, rfl⟩

/-! ### a comprehension that makes data -/
def keptD (n : Nat) (keep : Nat → Bool) (f : Nat → PyData) : List PyData := ((List.range n).filter keep).map f
theorem keptD_yes {n : Nat} {keep : Nat → Bool} {f : Nat → PyData} (h : keep n = true) : keptD (n + 1) keep f = keptD n keep f ++ [f n] := by
  unfold keptD
  rw [List.range_succ, List.filter_append, List.map_append, List.filter_cons, if_pos h]
  rfl
theorem keptD_no {n : Nat} {keep : Nat → Bool} {f : Nat → PyData} (h : keep n = false) : keptD (n + 1) keep f = keptD n keep f := by
  unfold keptD
  rw [List.range_succ, List.filter_append, List.map_append, List.filter_cons, if_neg (by rw [h]; decide)]
  exact List.append_nil _
theorem keptD_len (n : Nat) (keep : Nat → Bool) (f : Nat → PyData) : (keptD n keep f).length ≤ n := by
  unfold keptD
  rw [List.length_map]
  have := List.length_filter_le keep (List.range n)
  rw [List.length_range] at this
  exact this
theorem keptD_all (n : Nat) (f : Nat → PyData) : keptD n (fun _ => true) f = (List.range n).map f := by
  unfold keptD
  rw [List.filter_eq_self.mpr fun _ _ => rfl]
theorem flatDs_keptD {n : Nat} {keep : Nat → Bool} {f : Nat → PyData} (h : ∀ i, i < n → flatD (f i) = true) : flatDs (keptD n keep f) = true := by
  have all : ∀ l : List Nat, (∀ i ∈ l, i < n) → flatDs (l.map f) = true := by
    intro l
    induction l with
    | nil => intro _; rfl
    | cons i r ih =>
      intro hl
      show (flatD (f i) && flatDs (r.map f)) = true
      rw [h i (hl i List.mem_cons_self), ih fun j hj => hl j (List.mem_cons_of_mem _ hj)]
      rfl
  exact all _ fun i hi => List.mem_range.mp (List.mem_filter.mp hi).1
theorem small_lt {n : Nat} (h : n ≤ 100000) : n < sizeLine := Nat.lt_of_le_of_lt h (by decide)
theorem small_le {n : Nat} (h : n ≤ 100000) : n ≤ sizeLine := Nat.le_of_lt (small_lt h)
section
variable {K : PySem.W.Frag} {J : It} {n : Nat} {G : Hp → Prop} {Y : Nat → Hp → V → Hp → Prop} {g : TG} {tt : TT} {te : TE} {vs : List Nat} {σ : L2.St} {H1 : Hp} {D : Addr} {Qd : Hp → Prop}
/-- from the walk, the heap ahead (H1), which turns are kept and what they give -/
theorem lc_data (w : Walk J n G Y) (keep : Nat → Bool) (f : Nat → PyData) (hf : ∀ i, i < n → flatD (f i) = true) (hn : n ≤ 50000) (hD : H1 D = none) (hG : ∀ H, Same H1 H → G H)
    (hs : ∀ i x H H', i < n → Same H1 H → Y i H x H' → Same H H' ∧ ∃ σ2, Eg g x (wipe σ vs) H' σ2 ∧ wipe σ2 vs = wipe σ vs ∧ Et tt σ2 H' (fun b H3 => b = keep i ∧ Same H' H3) ∧ (keep i = true → ∀ H3, Same H' H3 → Ep te σ2 H3 fun y H4 => Same H3 H4 ∧ Dp K H4 y (f i)))
    (hd : ∀ H acc, Same H1 H → H D = some (.lst acc) → DpAll K H acc (keptD n keep f) → Qd H) :
    ∃ W : Nat → Nat → Hp → Prop, (∃ m, W 0 m (upd H1 D (.lst []))) ∧ ∀ i m H, W i m H →
      (J.stop i H ∧ Qd H) ∨ (J.go i H ∧ ∃ Nx : Hp → Prop, (∀ H', Nx H' → ∃ m', m' < m ∧ W (i + 1) m' H') ∧ ∀ x H', J.yld i H x H' → g x (wipe σ vs) H' fun σ2 H2 => wipe σ2 vs = wipe σ vs ∧ tt σ2 H2 fun b H3 =>
        if b = true then te σ2 H3 fun y H4 => ∃ acc, H4 D = some (.lst acc) ∧ acc.length < sizeLine ∧ Nx (upd H4 D (.lst (acc ++ [y]))) else Nx H3) := by
  refine lc_it w (fun i H => i ≤ n ∧ Same H1 H ∧ ∃ acc, H D = some (.lst acc) ∧ DpAll K H acc (keptD i keep f)) ⟨Nat.zero_le _, same_new hD, [], upd_same, .nil⟩ (fun i H _ p => hG H p.2.1) ?_ ?_
  · rintro i x H H' hi ⟨_, e1, acc, ha, hda⟩ hy
    obtain ⟨e2, σ2, hg, hw, ht, hel⟩ := hs i x H H' hi e1 hy
    refine hg _ ⟨hw, ht _ ?_⟩
    rintro b H3 ⟨rfl, e3⟩
    cases hk : keep i with
    | true =>
      rw [if_pos rfl]
      refine hel hk H3 e3 _ ?_
      rintro y H4 ⟨e4, hy4⟩
      have e24 : Same H H4 := (e2.trans e3).trans e4
      have ha4 : H4 D = some (.lst acc) := e24 D _ ha
      have hl : acc.length = (keptD i keep f).length := dps_len hda
      refine ⟨acc, ha4, small_lt (by have := keptD_len i keep f; omega), hi, ?_, acc ++ [y], upd_same, ?_⟩
      · exact same_mut (e1.trans e24) hD
      · rw [keptD_yes hk]
        have tp : Tp H4 (upd H4 D (.lst (acc ++ [y]))) := Tp.upd ha4 rfl
        exact dps_append (dps_tp tp (flatDs_keptD fun j hj => hf j (Nat.lt_trans hj hi)) (dps_same e24 hda)) (.cons (dp_tp tp (hf i hi) hy4) .nil)
    | false =>
      rw [if_neg Bool.false_ne_true]
      have e23 : Same H H3 := e2.trans e3
      refine ⟨hi, e1.trans e23, acc, e23 D _ ha, ?_⟩
      rw [keptD_no hk]
      exact dps_same e23 hda
  · rintro H ⟨_, e1, acc, ha, hda⟩
    exact hd H acc e1 ha hda
end

/-! ### small facts -/
def tupI (ns : List Int) : PyData := .tuple (ns.map .int)
def lstI (ns : List Int) : PyData := .list (ns.map .int)
theorem flatDs_ints : ∀ ns : List Int, flatDs (ns.map PyData.int) = true
  | [] => rfl
  | n :: r => by
    show (true && flatDs (r.map PyData.int)) = true
    rw [flatDs_ints r]
    rfl
theorem flat_tupI (ns : List Int) : flatD (tupI ns) = true := flatDs_ints ns
section
variable {K : PySem.W.Frag} {H : Hp} {v : V}
theorem dp_int {i : Int} (h : Dp K H v (.int i)) : v = .int i := by cases h; rfl
theorem dp_str {x : Str} (h : Dp K H v (.str x)) : v = .str x := by cases h; rfl
theorem dp_bool {b : Bool} (h : Dp K H v (.bool b)) : v = .bl b := by cases h; rfl
theorem dp_tup {ds : List PyData} (h : Dp K H v (.tuple ds)) : ∃ a xs, v = .ref a ∧ SqT K H a xs ∧ DpAll K H xs ds := by
  cases h with
  | tup h t => exact ⟨_, _, rfl, h, t⟩
theorem dp_lst {ds : List PyData} (h : Dp K H v (.list ds)) : ∃ a xs, v = .ref a ∧ SqL K H a xs ∧ DpAll K H xs ds := by
  cases h with
  | lst h t => exact ⟨_, _, rfl, h, t⟩
theorem dp_tupI {ns : List Int} (h : Dp K H v (tupI ns)) : ∃ a, v = .ref a ∧ SqT K H a (ns.map V.int) := by
  obtain ⟨a, xs, e, h, t⟩ := dp_tup h
  exact ⟨a, e, dps_ints' t ▸ h⟩
theorem dp_lstI {ns : List Int} (h : Dp K H v (lstI ns)) : ∃ a, v = .ref a ∧ SqL K H a (ns.map V.int) := by
  obtain ⟨a, xs, e, h, t⟩ := dp_lst h
  exact ⟨a, e, dps_ints' t ▸ h⟩
theorem tupI_of {a : Addr} {ns : List Int} (h : SqT K H a (ns.map V.int)) : Dp K H (.ref a) (tupI ns) := .tup h (dps_ints ns)
theorem lstI_of {a : Addr} {ns : List Int} (h : SqL K H a (ns.map V.int)) : Dp K H (.ref a) (lstI ns) := .lst h (dps_ints ns)
end
theorem inV_ints {n : Int} : ∀ {ns : List Int}, inV (.int n) (ns.map V.int) = decide (n ∈ ns)
  | [] => rfl
  | m :: r => by
    have ih := inV_ints (n := n) (ns := r)
    unfold inV at ih ⊢
    rw [List.map_cons, List.any_cons, ih]
    have e : eqV (.int m) (.int n) = decide (m = n) := by
      show (m == n) = _
      exact Bool.beq_eq_decide_eq m n
    rw [e]
    by_cases c : m = n
    · rw [decide_eq_true c, decide_eq_true (c ▸ List.mem_cons_self : n ∈ m :: r)]
      rfl
    · rw [decide_eq_false c, Bool.false_or, decide_eq_decide]
      exact ⟨fun h => List.mem_cons_of_mem _ h, fun h => (List.mem_cons.mp h).elim (fun z => absurd z.symm c) id⟩
theorem flatV_ints (ns : List Int) : (ns.map V.int).all flatV = true := by
  rw [List.all_map, List.all_eq_true]
  intro x _
  rfl
/-! ### data that == may look at -/
theorem lay_tup (ds : List PyData) : (PyData.tuple ds).canLay0 = PyData.canLayAll0 ds := by simp only [PyData.canLay0]
theorem lay_lst (ds : List PyData) : (PyData.list ds).canLay0 = PyData.canLayAll0 ds := by simp only [PyData.canLay0]
theorem lay_int (i : Int) : (PyData.int i).canLay0 = true := by simp only [PyData.canLay0]
theorem lay_str {x : Str} (h : PyData.strOk x = true) : (PyData.str x).canLay0 = true := by
  simp only [PyData.canLay0]
  exact h
theorem lays_of {ds : List PyData} (h : ∀ d ∈ ds, d.canLay0 = true) : PyData.canLayAll0 ds = true := by
  induction ds with
  | nil => simp only [PyData.canLayAll0]
  | cons d r ih =>
    simp only [PyData.canLayAll0]
    rw [h d List.mem_cons_self, ih fun x hx => h x (List.mem_cons_of_mem _ hx)]
    rfl
theorem lay_tupI (ns : List Int) : (tupI ns).canLay0 = true := by
  unfold tupI
  rw [lay_tup]
  exact lays_of fun d hd => by
    obtain ⟨n, _, rfl⟩ := List.mem_map.mp hd
    exact lay_int n
theorem shaped_of {d : PyData} (h : d.canLay0 = true) (hd : d.depth ≤ 64) : SeqAt.shaped d = true := by
  unfold SeqAt.shaped
  rw [h, decide_eq_true hd]
  rfl
theorem depth_lst (ds : List PyData) : (PyData.list ds).depth = PyData.depthAll ds + 1 := by simp only [PyData.depth]
theorem depth_tup (ds : List PyData) : (PyData.tuple ds).depth = PyData.depthAll ds + 1 := by simp only [PyData.depth]
theorem depths_cons (d : PyData) (ds : List PyData) : PyData.depthAll (d :: ds) = max d.depth (PyData.depthAll ds) := by simp only [PyData.depthAll]
theorem depths_nil : PyData.depthAll [] = 0 := by simp only [PyData.depthAll]
theorem depth_int (i : Int) : (PyData.int i).depth = 0 := by simp only [PyData.depth]
theorem depth_str (x : Str) : (PyData.str x).depth = 0 := by simp only [PyData.depth]
theorem depth_bool (b : Bool) : (PyData.bool b).depth = 0 := by simp only [PyData.depth]
theorem depths_le {ds : List PyData} {n : Nat} (h : ∀ d ∈ ds, d.depth ≤ n) : PyData.depthAll ds ≤ n := by
  induction ds with
  | nil =>
    rw [depths_nil]
    exact Nat.zero_le _
  | cons d r ih =>
    rw [depths_cons]
    exact Nat.max_le.mpr ⟨h d List.mem_cons_self, ih fun x hx => h x (List.mem_cons_of_mem _ hx)⟩
theorem depth_tupI (ns : List Int) : (tupI ns).depth = 1 := by
  unfold tupI
  rw [depth_tup]
  have : PyData.depthAll (ns.map PyData.int) ≤ 0 := depths_le fun d hd => by
    obtain ⟨n, _, rfl⟩ := List.mem_map.mp hd
    rw [depth_int]
    exact Nat.le_refl _
  omega
/-! ### lists by places -/
theorem keptD_list {α : Type} (l : List α) (d : α) (p : α → Bool) (e : α → PyData) : keptD l.length (fun i => p (l.getD i d)) (fun i => e (l.getD i d)) = (l.filter p).map e := by
  have hl : (List.range l.length).map (fun i => l.getD i d) = l := by
    refine List.ext_getElem (by simp) fun i h1 h2 => ?_
    rw [List.getElem_map, List.getElem_range, List.getD_eq_getElem?_getD, List.getElem?_eq_getElem h2]
    rfl
  unfold keptD
  have h1 : (List.range l.length).filter (fun i => p (l.getD i d)) = (List.range l.length).filter (p ∘ fun i => l.getD i d) := rfl
  have h2 : ∀ q : List Nat, q.map (fun i => e (l.getD i d)) = (q.map fun i => l.getD i d).map e := fun q => by rw [List.map_map]; rfl
  rw [h1, h2, ← List.filter_map, hl]
theorem mapD_list {α : Type} (l : List α) (d : α) (e : α → PyData) : keptD l.length (fun _ => true) (fun i => e (l.getD i d)) = l.map e := by
  have := keptD_list l d (fun _ => true) e
  rw [List.filter_eq_self.mpr fun _ _ => rfl] at this
  exact this
theorem getD_of {α : Type} {l : List α} {i : Nat} {x d : α} (h : l[i]? = some x) : l.getD i d = x := by
  rw [List.getD_eq_getElem?_getD, h]
  rfl
theorem map_get {α β : Type} {l : List α} {f : α → β} {i : Nat} {y : β} (h : (l.map f)[i]? = some y) : ∃ x, l[i]? = some x ∧ y = f x := by
  rw [List.getElem?_map] at h
  obtain ⟨x, h1, h2⟩ := Option.map_eq_some_iff.mp h
  exact ⟨x, h1, h2.symm⟩
/-- the built-in names that the text leaves as they are -/
structure Bi (mg : Str → Option Value) : Prop where
  len : mg "len" = none
  list : mg "list" = none
  tuple : mg "tuple" = none
  sorted : mg "sorted" = none
  set : mg "set" = none
  range : mg "range" = none
  enumerate : mg "enumerate" = none
  zip : mg "zip" = none
  any : mg "any" = none
  all : mg "all" = none
  int : mg "int" = none
  abs : mg "abs" = none
  isinstance : mg "isinstance" = none
  str : mg "str" = none
/-! ### attributes -/
theorem lk_at {k : Str} {v : V} {r : List (Str × V)} : List.lookup k ((k, v) :: r) = some v := by
  have e : (k == k) = true := beq_self_eq_true k
  simp only [List.lookup, e]
theorem lk_by {k g : Str} {v : V} {r : List (Str × V)} (h : (k == g) = false) : List.lookup k ((g, v) :: r) = List.lookup k r := by
  simp only [List.lookup, h]
theorem dps_all {K : PySem.W.Frag} {H : Hp} {α : Type} {f : α → PyData} {l : List α} {vs : List V} {i : Nat} {v : V} (h : DpAll K H vs (l.map f)) (e : vs[i]? = some v) : ∃ x, l[i]? = some x ∧ Dp K H v (f x) := by
  obtain ⟨d, h1, h2⟩ := dps_get h e
  obtain ⟨x, h3, rfl⟩ := map_get h1
  exact ⟨x, h3, h2⟩
theorem take_succ_get {α : Type} {l : List α} {i : Nat} {x : α} (h : l[i]? = some x) : l.take (i + 1) = l.take i ++ [x] := by
  rw [List.take_add_one, h]
  rfl
end MW

/-! Rules whose reading names its frag by itself: for the insides of comprehensions. -/
namespace MW
open PySem PySem.Spec PyProof.Rows L2
section
variable {X : Cx}
theorem in_seqK (K : PySem.W.Frag) (h : X.K = K := by rfl) : OpR X (compareOp .In) (rIn K false) := h ▸ op_in_seq
theorem notIn_seqK (K : PySem.W.Frag) (h : X.K = K := by rfl) : OpR X (compareOp .NotIn) (rIn K true) := h ▸ op_notIn_seq
theorem eqDK (K : PySem.W.Frag) (hu : X.A.units + 64 < cLine) (h : X.K = K := by rfl) : OpR X (compareOp .Eq) (rEqD K) := h ▸ op_eqD hu
theorem neDK (K : PySem.W.Frag) (hu : X.A.units + 64 < cLine) (h : X.K = K := by rfl) : OpR X (compareOp .NotEq) (rNeD K) := h ▸ op_neD hu
theorem sl_listK (K : PySem.W.Frag) (h : X.K = K := by rfl) : SlR X (rSlL K) := h ▸ sl_list
theorem sl_tupK (K : PySem.W.Frag) (h : X.K = K := by rfl) : SlR X (rSlT K) := h ▸ sl_tup
theorem ix_listK (K : PySem.W.Frag) (h : X.K = K := by rfl) : IxR X (rIxL K) := h ▸ ix_list
theorem ix_tupK (K : PySem.W.Frag) (h : X.K = K := by rfl) : IxR X (rIxT K) := h ▸ ix_tup
/-- len of a list or tuple -/
def rLenK (K : PySem.W.Frag) : List V → Hp → VK → Prop := fun xs H Q => ∃ p ys, xs = [.ref p] ∧ (SqL K H p ys ∨ SqT K H p ys) ∧ Q (.int ys.length) H
theorem lenK (K : PySem.W.Frag) (h : X.K = K := by rfl) : CallR X (.builtin "len") (rLenK K) := h ▸ call_len_seq
theorem inNK (P : Program) (w : World) (K : PySem.W.Frag) (hu : X.A.units + 64 < cLine) (h1 : X.prog = P := by rfl) (h2 : X.w = w := by rfl) (h : X.K = K := by rfl) : OpR X (compareOp .In) (rInN P w K) := by
  subst h h1 h2
  exact op_inN hu
end
end MW

/-! Several locks at once; comprehensions with two for; keys of a dict within a comprehension. -/
namespace MW
open PySem PySem.Spec PyProof.Rows L2

def tLockN : Nat → TE → TE
  | 0, t => t
  | k + 1, t => tLockE (tLockN k t)
section
variable {X : Cx} {e : Expr} {t : TE}
theorem pe_lockN (h : PE X e t) : ∀ k, PE X e (tLockN k t)
  | 0 => h
  | k + 1 => pe_lock (pe_lockN h k)
/-- as many locks as the reading wants -/
def tLocks (t : TE) : TE := fun σ H Q => ∃ k, tLockN k t σ H Q
theorem pe_locks (h : PE X e t) : PE X e (tLocks t) := ⟨fun pins s σ H Q I ⟨k, a⟩ => (pe_lockN h k).run pins s σ H Q I a⟩
end
theorem locks_of {t : TE} {σ : L2.St} (R : V → Hp → Prop) : ∀ (ds : List Addr) (H : Hp) (Q : VK), ds.Nodup → (∀ d ∈ ds, ∃ u, H d = some u ∧ Mut (some u)) →
    (∀ Hl, (∀ d ∈ ds, ∃ o u, H d = some u ∧ Hl d = some (.frz o u)) → (∀ a, a ∉ ds → Hl a = H a) → Ep t σ Hl fun v H' => Same Hl H' ∧ R v H') →
    (∀ v Hf H', Same H Hf → R v H' → (∀ a, a ∉ ds → Hf a = H' a) → Q v Hf) → tLockN ds.length t σ H Q
  | [], H, Q, _, _, h, q => h H (fun _ h => nomatch h) (fun _ _ => rfl) _ fun v H' ⟨e, r⟩ => q v H' H' e r fun _ _ => rfl
  | d :: ds, H, Q, hn, hm, h, q => by
    rw [List.nodup_cons] at hn
    obtain ⟨u, hd, mu⟩ := hm d List.mem_cons_self
    refine ⟨d, u, hd, mu, fun od => locks_of R ds (upd H d (.frz od u)) _ hn.2 (fun d' hd' => ?_) (fun Hl h1 h2 => h Hl (fun d' hd' => ?_) (fun a ha => ?_)) fun v Hf H' e r fr => ?_⟩
    · have ne : d' ≠ d := fun z => hn.1 (z ▸ hd')
      obtain ⟨u', h1, h2⟩ := hm d' (List.mem_cons_of_mem _ hd')
      exact ⟨u', by rw [upd_ne ne]; exact h1, h2⟩
    · rcases List.mem_cons.mp hd' with c | c
      · subst c
        exact ⟨od, u, hd, by rw [h2 _ hn.1, upd_same]⟩
      · have ne : d' ≠ d := fun z => hn.1 (z ▸ c)
        obtain ⟨o, u', h3, h4⟩ := h1 d' c
        rw [upd_ne ne] at h3
        exact ⟨o, u', h3, h4⟩
    · have ne : a ≠ d := fun z => ha (z ▸ List.mem_cons_self)
      rw [h2 a fun z => ha (List.mem_cons_of_mem _ z), upd_ne ne]
    · refine ⟨e _ _ upd_same, q v _ H' (fun a w' hw' => ?_) r fun a ha => ?_⟩
      · by_cases c : a = d
        · subst c
          rw [upd_same, ← hd]
          exact hw'
        · rw [upd_ne c]
          exact e a w' (by rw [upd_ne c]; exact hw')
      · have ne : a ≠ d := fun z => ha (z ▸ List.mem_cons_self)
        rw [upd_ne ne]
        exact fr a fun z => ha (List.mem_cons_of_mem _ z)

/-! ### two for -/
section
variable {J : It} {n : Nat} {G : Hp → Prop} {Y : Nat → Hp → V → Hp → Prop}
theorem lc2_it (w : Walk J n G Y) {B : (Hp → Prop) → L2.St → Hp → Prop} {g : TG} {tt : TT} {vs : List Nat} {σ : L2.St} {H0 : Hp} {Qd : Hp → Prop} (Pv : Nat → Hp → Prop) (h0 : Pv 0 H0) (hG : ∀ i H, i ≤ n → Pv i H → G H)
    (hs : ∀ i x H H', i < n → Pv i H → Y i H x H' → g x (wipe σ vs) H' fun σ2 H2 => wipe σ2 vs = wipe σ vs ∧ tt σ2 H2 fun b H3 => if b = true then B (Pv (i + 1)) σ2 H3 else Pv (i + 1) H3) (hd : ∀ H, Pv n H → Qd H) :
    ∃ W : Nat → Nat → Hp → Prop, (∃ m, W 0 m H0) ∧ ∀ i m H, W i m H →
      (J.stop i H ∧ Qd H) ∨ (J.go i H ∧ ∃ Nx : Hp → Prop, (∀ H', Nx H' → ∃ m', m' < m ∧ W (i + 1) m' H') ∧ ∀ x H', J.yld i H x H' → g x (wipe σ vs) H' fun σ2 H2 => wipe σ2 vs = wipe σ vs ∧ tt σ2 H2 fun b H3 =>
        if b = true then B Nx σ2 H3 else Nx H3) := by
  refine ⟨fun i m H => m = n - i ∧ i ≤ n ∧ Pv i H, ⟨n, by simp, Nat.zero_le _, h0⟩, ?_⟩
  rintro i m H ⟨rfl, hi, p⟩
  have q := hG i H hi p
  by_cases hlt : i < n
  · refine .inr ⟨w.goes i H hlt q, Pv (i + 1), fun H' p' => ⟨n - (i + 1), by omega, rfl, hlt, p'⟩, fun x H' y => hs i x H H' hlt p (w.yields i H x H' hlt q y)⟩
  · have e : i = n := by omega
    subst e
    exact .inl ⟨w.stops H q, hd H p⟩
end
/-- for k in d, within a comprehension -/
theorem pi_NKK {X : Cx} {tg e : Expr} {td : TE} (P : Program) (w : World) (he : PE X e td) (h1 : X.prog = P := by rfl) (h2 : X.w = w := by rfl) : PI X tg e (iNK P w td) := by
  subst h1 h2
  exact pi_NK he
end MW

/-! sorted of tuples, told by what they encode; keys of a dict with tuple keys. -/
namespace MW
open PySem PySem.Spec PyProof.Rows L2

theorem lt_tupI (a b : List Int) : PySem.W.dataLt (tupI a) (tupI b) = decide (a < b) := by
  unfold tupI
  rw [PySem.W.dataLt_tuple]
  exact PySem.W.dataLt_ints a b
theorem alike_ints : ∀ a b : List Int, PySem.W.alikeAll (a.map PyData.int) (b.map PyData.int) = true
  | [], _ => by simp only [List.map_nil, PySem.W.alikeAll]
  | _ :: _, [] => by simp only [List.map_nil, List.map_cons, PySem.W.alikeAll]
  | x :: a, y :: b => by
    rw [List.map_cons, List.map_cons]
    simp only [PySem.W.alikeAll, PySem.W.alike]
    rw [alike_ints a b]
    rfl
theorem alike_tupI (a b : List Int) : PySem.W.alike (tupI a) (tupI b) = true := by
  unfold tupI
  simp only [PySem.W.alike]
  exact alike_ints a b
/-- a row: a trail and how many -/
def rowD (p : List Int × Int) : PyData := .tuple [tupI p.1, .int p.2]
theorem alike_row (p q : List Int × Int) : PySem.W.alike (rowD p) (rowD q) = true := by
  unfold rowD
  simp only [PySem.W.alike, PySem.W.alikeAll, alike_tupI]
  rfl
theorem lt_row {p q : List Int × Int} (h : p.1 ≠ q.1) : PySem.W.dataLt (rowD p) (rowD q) = decide (p.1 < q.1) := by
  unfold rowD
  rw [PySem.W.dataLt_pair (alike_tupI _ _) rfl]
  have e : PyData.eqv (tupI p.1) (tupI q.1) = false := by
    cases c : PyData.eqv (tupI p.1) (tupI q.1) with
    | false => rfl
    | true =>
      exfalso
      apply h
      have : ∀ a b : List Int, PyData.eqvAll (a.map PyData.int) (b.map PyData.int) = true → a = b := by
        intro a
        induction a with
        | nil =>
          intro b hb
          cases b with
          | nil => rfl
          | cons y b => simp [PyData.eqvAll] at hb
        | cons x a ih =>
          intro b hb
          cases b with
          | nil => simp [PyData.eqvAll] at hb
          | cons y b =>
            rw [List.map_cons, List.map_cons, PySem.W.eqv_all_cons, Bool.and_eq_true] at hb
            have hx : x = y := by simpa [PyData.eqv] using hb.1
            rw [hx, ih b hb.2]
      unfold tupI at c
      exact this _ _ (by simpa [PyData.eqv] using c)
  rw [e, if_neg Bool.false_ne_true]
  exact lt_tupI _ _
theorem flat_row (p : List Int × Int) : flatD (rowD p) = true := by
  show (flatD (tupI p.1) && (true && true)) = true
  rw [flat_tupI]
  rfl
theorem depth_row (p : List Int × Int) : (rowD p).depth ≤ 8 := by
  unfold rowD
  rw [depth_tup, depths_cons, depth_tupI, depths_cons, depth_int, depths_nil]
  decide
/-- sorted, of tuples -/
theorem sort_use {α : Type} {K : PySem.W.Frag} {σ : L2.St} {H : Hp} {Q : VK} {a : Addr} (f : α → V) (enc : α → PyData) (kl : List α) (h1 : SqL K H a (kl.map f)) (h2 : ∀ x ∈ kl, Dp K H (f x) (enc x)) (al : ∀ x y, PySem.W.alike (enc x) (enc y) = true)
    (tp : ∀ x ∈ kl, ∃ y r, enc x = .tuple (y :: r)) (dp : ∀ x, (enc x).depth ≤ 8) (k : ∀ (p : Addr) (kl' : List α), H p = none → kl'.Perm kl → kl'.Pairwise (fun x y => PySem.W.dataLt (enc y) (enc x) = false) → Q (.ref p) (upd H p (.lst (kl'.map f)))) :
    tNil σ H fun xs H1 => rSortD K (V.ref a :: xs) H1 Q := by
  have m1 : (kl.map fun x => (f x, enc x)).map (·.1) = kl.map f := by rw [List.map_map]; rfl
  have m2 : (kl.map fun x => (f x, enc x)).map (·.2) = kl.map enc := by rw [List.map_map]; rfl
  refine ⟨a, kl.map fun x => (f x, enc x), rfl, by rw [m1]; exact h1, fun b hb => ?_, by rw [m2]; exact PySem.W.AllAlike.of al, by rw [m2]; exact .inl fun d hd => (by obtain ⟨x, hx, rfl⟩ := List.mem_map.mp hd; exact tp x hx), fun b hb => ?_, fun p hp => ?_⟩
  · obtain ⟨x, hx, rfl⟩ := List.mem_map.mp hb
    exact h2 x hx
  · obtain ⟨x, hx, rfl⟩ := List.mem_map.mp hb
    exact dp x
  · have e : (kl.mergeSort (PySem.W.dataLe false enc)).map (fun x => (f x, enc x)) = (kl.map fun x => (f x, enc x)).mergeSort (PySem.W.dataLe false fun b => b.2) := List.map_mergeSort fun x _ y _ => rfl
    have e2 : ((kl.map fun x => (f x, enc x)).mergeSort (PySem.W.dataLe false fun b => b.2)).map (·.1) = (kl.mergeSort (PySem.W.dataLe false enc)).map f := by
      rw [← e, List.map_map]
      rfl
    rw [e2]
    refine k p _ hp (List.mergeSort_perm _ _) ((PySem.W.sort_pairwise (PySem.W.sortLe_total _ false _) kl).imp fun {x y} h => ?_)
    have h' : (!PySem.W.dataLt (enc y) (enc x)) = true := h
    rw [Bool.not_eq_true'] at h'
    exact h'
/-- a trail as a key -/
def trK (t : List Int) : List L2.Key := t.map Sum.inl
theorem trK_inj (a b : List Int) (h : trK a = trK b) : a = b := by
  unfold trK at h
  exact List.map_inj_right (fun x y e => by injection e) |>.mp h
theorem trK_kV (t : List Int) : (trK t).map kV = t.map V.int := by
  unfold trK
  rw [List.map_map]
  rfl
end MW

/-! The text by places; schemes: belongs, bound_holds, takes. -/
namespace MW
open PySem PySem.Spec PyProof.Rows L2
def top (i : Nat) : Stmt := PySem.Challenge.pw_movedstates_k56_whole_owners_and_comings.main.body.getD i (.Pass ⟨0, 0, 0, 0⟩)

/-! ### the data of a scheme -/
inductive Grp where
  | any
  | mk (x : Str)
deriving DecidableEq
def nameOk (x : Str) : Bool := x.cps.toList.all (fun c => decide (97 ≤ c ∧ c ≤ 122)) && decide (1 ≤ x.length) && decide (x.length ≤ 8)
theorem nameOk_str {x : Str} (h : nameOk x = true) : PyData.strOk x = true := by
  unfold nameOk at h
  rw [Bool.and_eq_true, Bool.and_eq_true, List.all_eq_true] at h
  unfold PyData.strOk
  rw [Array.all_eq_true_iff_forall_mem]
  intro c hc
  have := h.1.1 c (Array.mem_toList_iff.mpr hc)
  rw [decide_eq_true_eq] at this ⊢
  omega
def okG : Grp → Prop
  | .any => True
  | .mk x => nameOk x = true
structure Bnd where
  g : Grp
  ge : Bool
  n : Int
structure Rul where
  g : Grp
  bs : List Bnd
def gD : Grp → PyData
  | .any => .tuple [.str "any"]
  | .mk x => .tuple [.str "make", .str x]
def bD (b : Bnd) : PyData := .tuple [gD b.g, .str (if b.ge then ">=" else "<"), .int b.n]
def rD (r : Rul) : PyData := .tuple [gD r.g, .tuple (r.bs.map bD)]
def inG (m : Str) : Grp → Bool
  | .any => true
  | .mk x => decide (x = m)
def holdsB (b : Bnd) (seen : List Str) : Bool := if b.ge then decide (b.n ≤ ((seen.filter fun m => inG m b.g).length : Int)) else decide (((seen.filter fun m => inG m b.g).length : Int) < b.n)
def takesR (rs : List Rul) (m : Str) (seen : List Str) : Bool := rs.any fun r => inG m r.g && r.bs.all fun b => holdsB b seen

abbrev sBelongs : Stmt := top 48
abbrev sBound : Stmt := top 49
abbrev sTakes : Stmt := inClass (top 55) 5
def spBelongs (K : PySem.W.Frag) : Sp := fun vs H Q _ => ∃ (m : Str) (x : V) (g : Grp), vs = [.str m, x] ∧ okG g ∧ Dp K H x (gD g) ∧ ∀ H', Same H H' → Q (.bl (inG m g)) H'
def spBound (K : PySem.W.Frag) : Sp := fun vs H Q _ => ∃ (x y : V) (b : Bnd) (ss : List Str), vs = [x, y] ∧ okG b.g ∧ Dp K H x (bD b) ∧ Dp K H y (.list (ss.map .str)) ∧ ss.length ≤ 100 ∧ ∀ H', Same H H' → Q (.bl (holdsB b ss)) H'
section
variable {P : Program} {w : World} {K : PySem.W.Frag} {mg : Str → Option Value} {base : Heap}
theorem flat_g (g : Grp) : flatD (gD g) = true := by cases g <;> rfl
theorem depth_g (g : Grp) : (gD g).depth ≤ 1 := by
  cases g
  · show (PyData.tuple [.str "any"]).depth ≤ 1
    rw [depth_tup, depths_cons, depth_str, depths_nil]
    decide
  · show (PyData.tuple [.str "make", .str _]).depth ≤ 1
    rw [depth_tup, depths_cons, depth_str, depths_cons, depth_str, depths_nil]
    decide
theorem lay_g {g : Grp} (h : okG g) : (gD g).canLay0 = true := by
  cases g with
  | any =>
    show (PyData.tuple [.str "any"]).canLay0 = true
    rw [lay_tup]
    exact lays_of fun d hd => by
      rw [List.mem_singleton] at hd
      subst hd
      exact lay_str (by decide +kernel)
  | mk x =>
    show (PyData.tuple [.str "make", .str x]).canLay0 = true
    rw [lay_tup]
    refine lays_of fun d hd => ?_
    rcases List.mem_cons.mp hd with e | e
    · subst e
      exact lay_str (by decide +kernel)
    · rw [List.mem_singleton] at e
      subst e
      exact lay_str (nameOk_str h)
theorem shaped_g {g : Grp} (h : okG g) : SeqAt.shaped (gD g) = true := shaped_of (lay_g h) (Nat.le_trans (depth_g g) (by decide))
theorem eqv_any (g : Grp) : PyData.eqv (gD g) (gD .any) = decide (g = .any) := by
  cases g with
  | any => rfl
  | mk x => rfl
theorem sc_belongs : FnScope ["make", "group"] ["make", "group"] (defScope sBelongs) := ⟨rfl, rfl, rfl, by decide +kernel, rfl, by decide +kernel, by decide +kernel⟩
theorem ok_belongs {f : Addr} {fd : FuncData} (F : Fun K "belongs" "belongs" sBelongs f fd) : FnOk P w K mg base CX0 1 f fd ["make", "group"] (spBelongs K) := by
  refine F.ok sc_belongs (fun vs H Q E h => ?_) (fun cdv A outer s H vs Q E hr h => ?_)
  · obtain ⟨m, x, g, rfl, _⟩ := h
    rfl
  · obtain ⟨m, x, g, rfl, og, hg, k⟩ := h
    -- return group == ("any",) or group[1] == make
    refine ⟨_, pss_one (ps_ret (pe_or (pe_cmpR (op_eqD hr.units) (pv 1) (pe_tup (pa_cons pe_str pa_nil)) (nomark _)) (pe_one (pe_cmpR op_eq (pe_ix ix_tup (pv 1) pe_int (fun _ _ => rfl)) (pv 0) (nomark _))))), ?_⟩
    refine ⟨_, rfl, small_le (by decide), fun p hp => ?_⟩
    have e : Same H (upd H p (.tup [V.str "any"])) := same_new hp
    refine ⟨gD g, gD .any, dp_same e hg, .tup (SqT.of upd_same) (.cons (.str _) .nil), shaped_g og, shaped_g (g := .any) trivial, _, rfl, ?_⟩
    rw [eqv_any]
    cases g with
    | any => exact k _ e
    | mk y =>
      refine iteF ?_
      obtain ⟨a, xs, rfl, ha, t⟩ := dp_tup hg
      cases t with
      | cons h1 t =>
        cases t with
        | cons h2 t =>
          cases t
          cases h2
          refine ⟨_, rfl, a, _, 1, _, rfl, rfl, same_seqT e ha, rfl, _, rfl, rfl, ?_⟩
          have : decide (V.str y = V.str m) = inG m (.mk y) := by
            show _ = decide (y = m)
            rw [decide_eq_decide]
            exact ⟨fun z => by injection z, fun z => by rw [z]⟩
          rw [this]
          exact k _ e
theorem dps_strs' {H : Hp} : ∀ {vs : List V} {ss : List Str}, DpAll K H vs (ss.map PyData.str) → vs = ss.map V.str
  | _, [], .nil => rfl
  | _, n :: r, .cons h t => by
    cases h
    rw [List.map_cons, dps_strs' t]
theorem dps_strs {H : Hp} : ∀ ss : List Str, DpAll K H (ss.map V.str) (ss.map PyData.str)
  | [] => .nil
  | n :: r => .cons (.str n) (dps_strs r)
theorem dp_tup3 {H : Hp} {v : V} {a b c : PyData} (h : Dp K H v (.tuple [a, b, c])) : ∃ t x y z, v = .ref t ∧ SqT K H t [x, y, z] ∧ Dp K H x a ∧ Dp K H y b ∧ Dp K H z c := by
  obtain ⟨t, xs, e, h, q⟩ := dp_tup h
  cases q with
  | cons h1 q =>
    cases q with
    | cons h2 q =>
      cases q with
      | cons h3 q =>
        cases q
        exact ⟨_, _, _, _, e, h, h1, h2, h3⟩
theorem dp_tup2 {H : Hp} {v : V} {a b : PyData} (h : Dp K H v (.tuple [a, b])) : ∃ t x y, v = .ref t ∧ SqT K H t [x, y] ∧ Dp K H x a ∧ Dp K H y b := by
  obtain ⟨t, xs, e, h, q⟩ := dp_tup h
  cases q with
  | cons h1 q =>
    cases q with
    | cons h2 q =>
      cases q
      exact ⟨_, _, _, e, h, h1, h2⟩
abbrev nBound : List Str := ["bound", "seen", "group", "sign", "number", "count", "make"]
theorem sc_bound : FnScope nBound ["bound", "seen"] (defScope sBound) := ⟨rfl, rfl, rfl, by decide +kernel, rfl, by decide +kernel, by decide +kernel⟩
theorem ok_bound {f : Addr} {fd : FuncData} (F : Fun K "bound_holds" "bound_holds" sBound f fd) (B : Bi mg) (F1 : Fn P w K mg base 1 "belongs" (spBelongs K)) : FnOk P w K mg base CX0 2 f fd ["bound", "seen"] (spBound K) := by
  refine F.ok sc_bound (fun vs H Q E h => ?_) (fun cdv A outer s H vs Q E hr h => ?_)
  · obtain ⟨x, y, b, ss, rfl, _⟩ := h
    rfl
  · obtain ⟨x, y, b, ss, rfl, og, hb, hs, hl, k⟩ := h
    obtain ⟨ta, gx, sx, nx, rfl, ht, hg, hsg, hn⟩ := dp_tup3 hb
    cases hsg
    cases hn
    obtain ⟨la, xs, rfl, hla, hxs⟩ := dp_lst hs
    obtain rfl := dps_strs' hxs
    have nd := sc_bound.nd
    -- group, sign, number = bound; count = len([make for make in seen if belongs(make, group)]); if sign == "<": return count < number; return count >= number
    refine ⟨_, pss_cons (ps_asg (pv 0) (pg_tup rfl (pgs_cons (pg_name (i := 2) nd rfl (Or.inr rfl)) (pgs_cons (pg_name (i := 3) nd rfl (Or.inl rfl)) (pgs_cons (pg_name (i := 4) nd rfl (Or.inl rfl)) pgs_nil)))))
      (pss_cons (ps_set (i := 5) nd rfl (Or.inl rfl) (pe_callB call_len_seq (by rfl) B.len PySem.boot_len (pa_cons
        (pe_lc (own := [("make", 6)]) (g := gName 6) (by rfl) nd (pi_list (pv 1)) (blkOk_by (own := [("make", 6)]) (N := nBound) (sc := defScope sBound) (by decide +kernel)) (fun _ _ _ _ _ => pg_name (i := 6) nd rfl (Or.inl rfl))
          (fun _ _ _ _ _ => pts_one (pt_val (pe_fn F1 hr (by decide) (pa_cons (pv 6) (pa_cons (pv 2) pa_nil))))) (fun _ _ _ _ _ => pv 6)) pa_nil)))
      (pss_cons (ps_if (pt_cmpR op_eq (pv 3) pe_str (nomark _)) (pss_one (ps_ret (pe_cmpR op_lt (pv 5) (pv 4) (nomark _)))) pss_nil)
      (pss_one (ps_ret (pe_cmpR op_ge (pv 5) (pv 4) (nomark _)))))), ?_⟩
    refine ⟨_, rfl, ta, _, rfl, ht, rfl, _, _, rfl, _, _, rfl, _, _, rfl, rfl, ?_⟩
    refine ⟨_, rfl, la, rfl, ⟨_, hla⟩, fun D hD => lc_data (K := K) walk_list (fun i => inG (ss.getD i default) b.g) (fun i => .str (ss.getD i default)) (fun i _ => rfl) (by rw [List.length_map]; omega) hD (fun H' e => e.seq hla) ?_ ?_⟩
    · rintro i y H1 H' hi e ⟨rfl, hy⟩
      obtain ⟨m, hm, rfl⟩ := map_get hy
      have em : ss.getD i default = m := getD_of hm
      refine ⟨Same.refl _, _, eg_name, rfl, ?_, ?_⟩
      · intro Q q
        rw [em] at q
        exact ⟨_, rfl, _, rfl, m, gx, b.g, rfl, og, dp_same e hg, fun H3 e3 => ⟨_, rfl, q _ _ ⟨rfl, e3⟩⟩⟩
      · intro _ H3 e3 Q q
        rw [em] at q
        exact ⟨_, rfl, q _ _ ⟨Same.refl _, .str m⟩⟩
    · intro H1 acc e1 ha hda
      have hlen : ((acc.length : Nat) : Int) = ((ss.filter fun m => inG m b.g).length : Int) := by
        rw [dps_len hda, List.length_map, keptD_list ss default (fun m => inG m b.g) PyData.str, List.length_map]
      refine ⟨D, acc, rfl, .inl (SqL.of ha), ?_⟩
      refine ⟨_, rfl, rfl, _, rfl, ?_⟩
      have hne : ¬ ((">=" : Str) = "<") := by decide +kernel
      cases hge : b.ge with
      | true =>
        have : decide (V.str (if true = true then (">=" : Str) else "<") = V.str "<") = false := by
          rw [if_pos rfl]
          exact decide_eq_false fun z => hne (by injection z)
        rw [this]
        refine iteF ?_
        refine ⟨_, rfl, _, rfl, _, _, rfl, rfl, ?_⟩
        have := k H1 e1
        unfold holdsB at this
        rw [hge, if_pos rfl, ← hlen] at this
        exact this
      | false =>
        have : decide (V.str (if false = true then (">=" : Str) else "<") = V.str "<") = true := by
          rw [if_neg Bool.false_ne_true]
          exact decide_eq_true rfl
        rw [this]
        refine iteT ?_
        refine ⟨_, rfl, _, rfl, _, _, rfl, rfl, ?_⟩
        have := k H1 e1
        unfold holdsB at this
        rw [hge, if_neg Bool.false_ne_true, ← hlen] at this
        exact this
/-! ### Scheme.takes -/
def okR (r : Rul) : Prop := okG r.g ∧ r.bs.length ≤ 3 ∧ ∀ b ∈ r.bs, okG b.g
def SchAt (K : PySem.W.Frag) (C : Addr) (H : Hp) (v : V) (rs : List Rul) : Prop := ∃ a dx l, v = .ref a ∧ H a = some (.ins C dx [("rules", .ref l)]) ∧ Dp K H (.ref l) (.list (rs.map rD)) ∧ rs.length ≤ 4 ∧ ∀ r ∈ rs, okR r
theorem SchAt.same {C : Addr} {H H' : Hp} {v : V} {rs : List Rul} (e : Same H H') (h : SchAt K C H v rs) : SchAt K C H' v rs := by
  obtain ⟨a, dx, l, h1, h2, h3, h4⟩ := h
  exact ⟨a, dx, l, h1, e _ _ h2, dp_same e h3, h4⟩
structure SchT (K : PySem.W.Frag) (C : Addr) : Prop where
  cl : Cls K C
  nR : NoAttr K C "rules"
def spTakes (K : PySem.W.Frag) (C : Addr) : Sp := fun vs H Q _ => ∃ (x y : V) (rs : List Rul) (m : Str) (ss : List Str), vs = [x, .str m, y] ∧ SchAt K C H x rs ∧ Dp K H y (.list (ss.map .str)) ∧ ss.length ≤ 100 ∧ ∀ H', Same H H' → Q (.bl (takesR rs m ss)) H'
abbrev nTakes : List Str := ["self", "make", "seen", "group", "bounds", "bound"]
theorem sc_takes : FnScope nTakes ["self", "make", "seen"] (defScope sTakes) := ⟨rfl, rfl, rfl, by decide +kernel, rfl, by decide +kernel, by decide +kernel⟩
theorem dps_bools' {H : Hp} : ∀ {vs : List V} {bs : List Bool}, DpAll K H vs (bs.map PyData.bool) → vs = bs.map V.bl
  | _, [], .nil => rfl
  | _, n :: r, .cons h t => by
    cases h
    rw [List.map_cons, dps_bools' t]
theorem ok_takes {C : Addr} {f : Addr} {fd : FuncData} (F : Fun K "takes" "Scheme.takes" sTakes f fd) (B : Bi mg) (T : SchT K C) (F1 : Fn P w K mg base 1 "belongs" (spBelongs K)) (F2 : Fn P w K mg base 2 "bound_holds" (spBound K)) :
    FnOk P w K mg base CX0 3 f fd ["self", "make", "seen"] (spTakes K C) := by
  refine F.ok sc_takes (fun vs H Q E h => ?_) (fun cdv A outer s H vs Q E hr h => ?_)
  · obtain ⟨x, y, rs, m, ss, rfl, _⟩ := h
    rfl
  · obtain ⟨x, y, rs, m, ss, rfl, ⟨a, dx, l, rfl, ha, hl, hn, ok⟩, hs, hz, k⟩ := h
    have nd := sc_takes.nd
    obtain ⟨l', xs, e', hla, hxs⟩ := dp_lst hl
    cases e'
    have hlen : xs.length = rs.length := by rw [dps_len hxs, List.length_map]
    -- for group, bounds in self.rules: if belongs(make, group) and all([bound_holds(bound, seen) for bound in bounds]): return True; return False
    refine ⟨_, pss_cons (ps_for PassesOwn.never rfl (pi_list (pe_fld (pv 0) rfl)) (pg_tup rfl (pgs_cons (pg_name (i := 3) nd rfl (Or.inl rfl)) (pgs_cons (pg_name (i := 4) nd rfl (Or.inl rfl)) pgs_nil)))
        (pss_one (ps_if (PW.pt (pw_and (pt_val (pe_fn F1 hr (by decide) (pa_cons (pv 1) (pa_cons (pv 3) pa_nil)))) (pw_and1 (pt_val (pe_callB (cr_all rfl) (by rfl) B.all (by decide +kernel) (pa_cons
          (pe_lc (own := [("bound", 5)]) (g := gName 5) (tt := tYes) rfl nd (pi_tup (pv 4)) (blkOk_by (own := [("bound", 5)]) (N := nTakes) (sc := defScope sTakes) (by decide +kernel)) (fun _ _ _ _ _ => pg_name (i := 5) nd rfl (Or.inl rfl)) (fun _ _ _ _ _ => pts_nil)
            (fun _ _ _ _ _ => pe_fn F2 hr (by decide) (pa_cons (pv 5) (pa_cons (pv 2) pa_nil)))) pa_nil))))))
          (pss_one (ps_ret pe_bl)) pss_nil)))
      (pss_one (ps_ret pe_bl)), ?_⟩
    refine ⟨_, rfl, a, C, dx, _, _, rfl, ha, T.cl, T.nR, lk_at, l, rfl, ⟨_, hla⟩, for_list (K := K) (a := l) (xs := xs) (fun i σ H' => ∃ v3 v4 : Option V, σ = [some (.ref a), some (.str m), some y, v3, v4, none] ∧ Same H H' ∧ ((rs.take i).any fun r => inG m r.g && r.bs.all fun b => holdsB b ss) = false)
      ⟨none, none, rfl, Same.refl H, rfl⟩ (fun i σ H' _ ⟨_, _, _, e, _⟩ => e.seq hla) ?_ ?_⟩
    · rintro i v σ H' hi ⟨v3, v4, rfl, e, hno⟩
      obtain ⟨r, hr1, hd⟩ := dps_all hxs hi
      obtain ⟨og, ob, obs⟩ := ok r (List.mem_of_getElem? hr1)
      obtain ⟨t, gx, bx, rfl, ht, hg, hb⟩ := dp_tup2 (dp_same e hd)
      have step : ((rs.take (i + 1)).any fun r => inG m r.g && r.bs.all fun b => holdsB b ss) = (inG m r.g && r.bs.all fun b => holdsB b ss) := by
        rw [take_succ_get hr1, List.any_append, hno]
        simp
      refine ⟨t, _, rfl, ht, rfl, _, _, rfl, _, _, rfl, rfl, ?_⟩
      refine ⟨_, rfl, _, rfl, m, gx, r.g, rfl, og, hg, fun H1 e1 => ⟨_, rfl, ?_⟩⟩
      cases hin : inG m r.g with
      | false =>
        refine iteF (iteF ⟨_, _, rfl, e.trans e1, ?_⟩)
        rw [step, hin]
        rfl
      | true =>
        refine iteT ?_
        obtain ⟨bt, bxs, rfl, hbt, hbx⟩ := dp_tup (dp_same e1 hb)
        have hbl : bxs.length = r.bs.length := by rw [dps_len hbx, List.length_map]
        refine ⟨_, rfl, bt, rfl, ⟨_, hbt⟩, fun D hD => lc_data (K := K) walk_tup (fun _ => true) (fun i => .bool (holdsB (r.bs.getD i ⟨.any, true, 0⟩) ss)) (fun i _ => rfl) (by omega) hD (fun H2 e2 => same_seqT e2 hbt) ?_ ?_⟩
        · rintro j v2 H2 H2' hj e2 ⟨rfl, hv2⟩
          obtain ⟨b, hb1, hb2⟩ := dps_all hbx hv2
          refine ⟨Same.refl _, _, eg_name, rfl, et_yes.weak fun b' H3 h3 => ⟨h3.1, h3.2 ▸ Same.refl _⟩, fun _ H3 e3 Q' q => ?_⟩
          refine ⟨_, rfl, _, rfl, v2, y, b, ss, rfl, obs b (List.mem_of_getElem? hb1), dp_same (e2.trans e3) hb2, dp_same (((e.trans e1).trans e2).trans e3) hs, hz, fun H4 e4 => q _ _ ⟨e4, ?_⟩⟩
          rw [getD_of hb1]
          exact .bl _
        · intro H2 acc e2 hacc hda
          have hk : keptD bxs.length (fun _ => true) (fun i => PyData.bool (holdsB (r.bs.getD i ⟨.any, true, 0⟩) ss)) = (r.bs.map fun b => holdsB b ss).map PyData.bool := by
            rw [hbl, List.map_map]
            exact mapD_list r.bs ⟨.any, true, 0⟩ (fun b => PyData.bool (holdsB b ss))
          rw [hk] at hda
          obtain rfl := dps_bools' hda
          refine ⟨D, _, rfl, SqL.of hacc, _, rfl, ?_⟩
          have ha2 : (r.bs.map fun b => holdsB b ss).all id = r.bs.all fun b => holdsB b ss := by
            rw [List.all_map]
            rfl
          rw [ha2]
          cases hall : r.bs.all fun b => holdsB b ss with
          | true =>
            refine iteT ?_
            have := k H2 ((e.trans e1).trans e2)
            have ht : takesR rs m ss = true := by
              unfold takesR
              rw [List.any_eq_true]
              exact ⟨r, List.mem_of_getElem? hr1, by rw [hin, hall]; rfl⟩
            rw [ht] at this
            exact this
          | false =>
            refine iteF ⟨_, _, rfl, (e.trans e1).trans e2, ?_⟩
            rw [step, hin, hall]
            rfl
    · rintro σ H' ⟨v3, v4, rfl, e, hno⟩
      have := k H' e
      have ht : takesR rs m ss = false := by
        unfold takesR
        rw [hlen, List.take_length] at hno
        exact hno
      rw [ht] at this
      exact this
end
end MW

/-! Crews' lookups and holders. -/
namespace MW
open PySem PySem.Spec PyProof.Rows L2
open MS (ws free begs perms lineup own owns hldL hldOf fstOf pick Bagged mem_ws mem_perms mem_lineup)

/-! ### crews -/
def cD (c : Str × Str) : PyData := .tuple [.str c.1, .str c.2]
def CrewAt (K : PySem.W.Frag) (C : Addr) (H : Hp) (v : V) (cs : List (Str × Str)) : Prop := ∃ a dx l, v = .ref a ∧ H a = some (.ins C dx [("_workers", .ref l)]) ∧ Dp K H (.ref l) (.list (cs.map cD)) ∧ 1 ≤ cs.length ∧ cs.length ≤ 6
theorem CrewAt.same {K : PySem.W.Frag} {C : Addr} {H H' : Hp} {v : V} {cs : List (Str × Str)} (e : Same H H') (h : CrewAt K C H v cs) : CrewAt K C H' v cs := by
  obtain ⟨a, dx, l, h1, h2, h3, h4⟩ := h
  exact ⟨a, dx, l, h1, e _ _ h2, dp_same e h3, h4⟩
structure CrewT (K : PySem.W.Frag) (C : Addr) : Prop where
  cl : Cls K C
  nW : NoAttr K C "_workers"
def mkOf (cs : List (Str × Str)) (w : Int) : Str := (cs.getD w.toNat default).2
/-- does the scheme take w behind the workers seen -/
def tkM (cs : List (Str × Str)) (rs : List Rul) (w : Int) (seen : List Int) : Bool := takesR rs (mkOf cs w) (seen.map (mkOf cs))
theorem holdsB_perm {b : Bnd} {s s' : List Str} (h : s.Perm s') : holdsB b s = holdsB b s' := by
  unfold holdsB
  rw [(h.filter _).length_eq]
theorem takesR_perm {rs : List Rul} {m : Str} {s s' : List Str} (h : s.Perm s') : takesR rs m s = takesR rs m s' := by
  unfold takesR
  have : (fun b : Bnd => holdsB b s) = fun b => holdsB b s' := funext fun b => holdsB_perm h
  rw [this]
theorem bagged (cs : List (Str × Str)) (rs : List Rul) : Bagged (tkM cs rs) := fun _ _ _ h => takesR_perm (h.map _)

abbrev sMakeOf : Stmt := inClass (top 44) 9
abbrev sLen : Stmt := inClass (top 44) 4
def spMakeOf (K : PySem.W.Frag) (C : Addr) : Sp := fun vs H Q _ => ∃ (x : V) (cs : List (Str × Str)) (w : Int), vs = [x, .int w] ∧ CrewAt K C H x cs ∧ w ∈ ws cs.length ∧ ∀ H', Same H H' → Q (.str (mkOf cs w)) H'
def spLen (K : PySem.W.Frag) (C : Addr) : Sp := fun vs H Q _ => ∃ (x : V) (cs : List (Str × Str)), vs = [x] ∧ CrewAt K C H x cs ∧ ∀ H', Same H H' → Q (.int cs.length) H'
section
variable {P : Program} {w : World} {K : PySem.W.Frag} {mg : Str → Option Value} {base : Heap} {C : Addr}
theorem sc_makeOf : FnScope ["self", "worker"] ["self", "worker"] (defScope sMakeOf) := ⟨rfl, rfl, rfl, by decide +kernel, rfl, by decide +kernel, by decide +kernel⟩
theorem atI_w {xs : List V} {n : Nat} (h : xs.length = n) {w : Int} (hw : w ∈ ws n) : ∃ v, xs[w.toNat]? = some v ∧ atI xs w = some v := by
  obtain ⟨h0, h1⟩ := mem_ws.mp hw
  have hl : w.toNat < xs.length := by omega
  refine ⟨xs[w.toNat], List.getElem?_eq_getElem hl, ?_⟩
  have := atI_nat (List.getElem?_eq_getElem hl)
  have e : ((w.toNat : Nat) : Int) = w := by omega
  rw [e] at this
  exact this
theorem ok_makeOf {f : Addr} {fd : FuncData} (F : Fun K "make_of" "Crew.make_of" sMakeOf f fd) (T : CrewT K C) : FnOk P w K mg base CX0 1 f fd ["self", "worker"] (spMakeOf K C) := by
  refine F.ok sc_makeOf (fun vs H Q E h => ?_) (fun cdv A outer s H vs Q E hr h => ?_)
  · obtain ⟨x, cs, i, rfl, _⟩ := h
    rfl
  · obtain ⟨x, cs, i, rfl, ⟨a, dx, l, rfl, ha, hl, h1, h6⟩, hw, k⟩ := h
    obtain ⟨l', xs, e', hla, hxs⟩ := dp_lst hl
    cases e'
    have hlen : xs.length = cs.length := by rw [dps_len hxs, List.length_map]
    obtain ⟨v, hv, hv2⟩ := atI_w hlen hw
    obtain ⟨c, hc, hd⟩ := dps_all hxs hv
    obtain ⟨t, n, m, rfl, ht, hn, hm⟩ := dp_tup2 hd
    cases hm
    have hmk : mkOf cs i = c.2 := by unfold mkOf; rw [getD_of hc]
    -- return self._workers[worker][1]
    refine ⟨_, pss_one (ps_ret (pe_ix ix_tup (pe_ix ix_list (pe_fld (pv 0) rfl) (pv 1) (fun _ _ => rfl)) pe_int (fun _ _ => rfl))), ?_⟩
    refine ⟨_, rfl, a, C, dx, _, _, rfl, ha, T.cl, T.nW, lk_at, _, rfl, l, xs, i, _, rfl, rfl, hla, hv2, t, _, 1, _, rfl, rfl, ht, rfl, ?_⟩
    rw [← hmk]
    exact k H (Same.refl H)
theorem sc_len : FnScope ["self"] ["self"] (defScope sLen) := ⟨rfl, rfl, rfl, by decide +kernel, rfl, by decide +kernel, by decide +kernel⟩
theorem ok_len {f : Addr} {fd : FuncData} (F : Fun K "__len__" "Crew.__len__" sLen f fd) (B : Bi mg) (T : CrewT K C) : FnOk P w K mg base CX0 1 f fd ["self"] (spLen K C) := by
  refine F.ok sc_len (fun vs H Q E h => ?_) (fun cdv A outer s H vs Q E hr h => ?_)
  · obtain ⟨x, cs, rfl, _⟩ := h
    rfl
  · obtain ⟨x, cs, rfl, ⟨a, dx, l, rfl, ha, hl, h1, h6⟩, k⟩ := h
    obtain ⟨l', xs, e', hla, hxs⟩ := dp_lst hl
    cases e'
    have hlen : xs.length = cs.length := by rw [dps_len hxs, List.length_map]
    refine ⟨_, pss_one (ps_ret (pe_callB call_len_seq (by rfl) B.len PySem.boot_len (pa_cons (pe_fld (pv 0) rfl) pa_nil))), ?_⟩
    refine ⟨_, rfl, a, C, dx, _, _, rfl, ha, T.cl, T.nW, lk_at, l, xs, rfl, .inl hla, ?_⟩
    rw [hlen]
    exact k H (Same.refl H)
/-- len(crew) -/
theorem len_use {σ : L2.St} {H : Hp} {x : V} {cs : List (Str × Str)} {Q : VK} (h : CrewAt K C H x cs) (k : ∀ H', Same H H' → Q (.int cs.length) H') : tNil σ H fun xs H1 => rLenO C (spLen K C) (x :: xs) H1 Q := by
  have h' := h
  obtain ⟨a, dx, l, rfl, ha, _, _, h6⟩ := h
  exact ⟨a, dx, _, rfl, ha, V.ref a, cs, rfl, h', fun H' e => ⟨_, rfl, by omega, by omega, k H' e⟩⟩

/-! ### present, walked, first_taken -/
abbrev sPresent : Stmt := top 13
abbrev sWalked : Stmt := top 14
abbrev sFirst : Stmt := top 15
def spPresent (K : PySem.W.Frag) : Sp := fun vs H Q _ => ∃ (x y : V) (r yd : List Int), vs = [x, y] ∧ Dp K H x (lstI r) ∧ Dp K H y (tupI yd) ∧ r.length ≤ 100 ∧ ∀ v H', Same H H' → Dp K H' v (lstI (lineup r yd)) → Q v H'
abbrev nPresent : List Str := ["ranking", "yard", "worker"]
theorem sc_present : FnScope nPresent ["ranking", "yard"] (defScope sPresent) := ⟨rfl, rfl, rfl, by decide +kernel, rfl, by decide +kernel, by decide +kernel⟩
theorem ok_present {f : Addr} {fd : FuncData} (F : Fun K "present" "present" sPresent f fd) : FnOk P w K mg base CX0 1 f fd ["ranking", "yard"] (spPresent K) := by
  refine F.ok sc_present (fun vs H Q E h => ?_) (fun cdv A outer s H vs Q E hr h => ?_)
  · obtain ⟨x, y, r, yd, rfl, _⟩ := h
    rfl
  · obtain ⟨x, y, r, yd, rfl, hx, hy, hz, k⟩ := h
    obtain ⟨la, rfl, hla⟩ := dp_lstI hx
    obtain ⟨ya, rfl, hya⟩ := dp_tupI hy
    have nd := sc_present.nd
    refine ⟨_, pss_one (ps_ret (pe_lc (own := [("worker", 2)]) (g := gName 2) rfl nd (pi_list (pv 0)) (blkOk_by (own := [("worker", 2)]) (N := nPresent) (sc := defScope sPresent) (by decide +kernel)) (fun _ _ _ _ _ => pg_name (i := 2) nd rfl (Or.inl rfl))
      (fun _ _ _ _ _ => pts_one (pt_cmpR (in_seqK K) (pv 2) (pv 1) (by rfl))) (fun _ _ _ _ _ => pv 2))), ?_⟩
    refine ⟨_, rfl, la, rfl, ⟨_, hla⟩, fun D hD => lc_data (K := K) walk_list (fun i => decide (r.getD i 0 ∈ yd)) (fun i => .int (r.getD i 0)) (fun i _ => rfl) (by rw [List.length_map]; omega) hD (fun H' e => e.seq hla) ?_ ?_⟩
    · rintro i v H1 H' hi e ⟨rfl, hv⟩
      obtain ⟨n, hn, rfl⟩ := map_get hv
      have en : r.getD i 0 = n := getD_of hn
      refine ⟨Same.refl _, _, eg_name, rfl, ?_, ?_⟩
      · intro Q' q
        rw [en] at q
        refine ⟨_, rfl, _, rfl, ya, _, rfl, .inr (same_seqT e hya), rfl, flatV_ints yd, decide (n ∈ yd), ?_, q _ _ ⟨rfl, Same.refl _⟩⟩
        show V.bl (inV (V.int n) (yd.map V.int)) = _
        rw [inV_ints]
      · intro _ H3 e3 Q' q
        rw [en] at q
        exact ⟨_, rfl, q _ _ ⟨Same.refl _, .int n⟩⟩
    · intro H1 acc e1 ha hda
      rw [List.length_map, keptD_list r 0 (fun n => decide (n ∈ yd)) PyData.int] at hda
      exact k _ _ e1 (.lst (SqL.of ha) hda)
def stD (p : Int × Bool) : PyData := .tuple [.int p.1, .bool p.2]
/-- a lineup, each with whether it is taken -/
def walkL (tk : Int → List Int → Bool) (l : List Int) : List (Int × Bool) := (List.range l.length).map fun i => (l.getD i 0, tk (l.getD i 0) (l.take i))
def spWalked (K : PySem.W.Frag) (CC CS : Addr) : Sp := fun vs H Q _ => ∃ (x y z : V) (cs : List (Str × Str)) (rs : List Rul) (l : List Int), vs = [x, y, z] ∧ CrewAt K CC H x cs ∧ SchAt K CS H y rs ∧ Dp K H z (lstI l) ∧ l.length ≤ 6 ∧ (∀ w ∈ l, w ∈ ws cs.length) ∧
  ∀ v H', Same H H' → Dp K H' v (.list ((walkL (tkM cs rs) l).map stD)) → Q v H'
abbrev nWalked : List Str := ["crew", "scheme", "lineup", "makes", "worker", "at"]
theorem sc_walked : FnScope nWalked ["crew", "scheme", "lineup"] (defScope sWalked) := ⟨rfl, rfl, rfl, by decide +kernel, rfl, by decide +kernel, by decide +kernel⟩
theorem cutV_take (xs : List V) (j : Nat) : cutV xs none (some (j : Int)) = xs.take j := by
  unfold cutV
  rw [HT.sIx_none, HT.sIx_nat, List.drop_zero, Nat.sub_zero]
  rw [← List.take_take, List.take_of_length_le (Nat.le_refl xs.length)]
theorem ok_walked {CS : Addr} {f : Addr} {fd : FuncData} (F : Fun K "walked" "walked" sWalked f fd) (B : Bi mg) (F1 : Mt P w K mg base 1 C "make_of" (spMakeOf K C)) (F2 : Mt P w K mg base 3 CS "takes" (spTakes K CS)) :
    FnOk P w K mg base CX0 4 f fd ["crew", "scheme", "lineup"] (spWalked K C CS) := by
  refine F.ok sc_walked (fun vs H Q E h => ?_) (fun cdv A outer s H vs Q E hr h => ?_)
  · obtain ⟨x, y, z, cs, rs, l, rfl, _⟩ := h
    rfl
  · obtain ⟨x, y, z, cs, rs, l, rfl, hc, hs, hz, hl, hw, k⟩ := h
    obtain ⟨la, rfl, hla⟩ := dp_lstI hz
    have nd := sc_walked.nd
    refine ⟨_, pss_cons (ps_set (i := 3) nd rfl (Or.inr rfl) (pe_lc (own := [("worker", 4)]) (g := gName 4) (tt := tYes) rfl nd (pi_list (pv 2)) (blkOk_by (own := [("worker", 4)]) (N := nWalked) (sc := defScope sWalked) (by decide +kernel)) (fun _ _ _ _ _ => pg_name (i := 4) nd rfl (Or.inl rfl))
        (fun _ _ _ _ _ => pts_nil) (fun _ _ _ _ _ => pe_m F1 hr (by decide) (pv 0) (pa_cons (pv 4) pa_nil))))
      (pss_one (ps_ret (pe_lc (own := [("at", 5), ("worker", 4)]) (g := gTup K 2 (gCons (gName 5) (gCons (gName 4) gNil))) (tt := tYes) rfl nd (pi_enum (by rfl) B.enumerate (pa_cons (pv 2) pa_nil)) (blkOk_by (own := [("at", 5), ("worker", 4)]) (N := nWalked) (sc := defScope sWalked) (by decide +kernel))
        (fun _ _ _ _ _ => pg_tup rfl (pgs_cons (pg_name (i := 5) nd rfl (Or.inl rfl)) (pgs_cons (pg_name (i := 4) nd rfl (Or.inl rfl)) pgs_nil))) (fun _ _ _ _ _ => pts_nil)
        (fun _ _ _ _ _ => pe_tup (pa_cons (pv 4) (pa_cons (pe_m F2 hr (by decide) (pv 1) (pa_cons (pe_ix (ix_listK K) (pv 3) (pv 5) (fun _ _ => rfl)) (pa_cons (pe_slice (sl_listK K) (pv 3) po_none (po_some (pv 5))) pa_nil))) pa_nil)))))), ?_⟩
    refine ⟨_, rfl, la, rfl, ⟨_, hla⟩, fun D hD => lc_data (K := K) walk_list (fun _ => true) (fun i => .str (mkOf cs (l.getD i 0))) (fun i _ => rfl) (by rw [List.length_map]; omega) hD (fun H' e => e.seq hla) ?_ ?_⟩
    · rintro i v H1 H' hi e ⟨rfl, hv⟩
      obtain ⟨n, hn, rfl⟩ := map_get hv
      have en : l.getD i 0 = n := getD_of hn
      refine ⟨Same.refl _, _, eg_name, rfl, et_yes.weak fun b' H3 h3 => ⟨h3.1, h3.2 ▸ Same.refl _⟩, fun _ H3 e3 Q' q => ?_⟩
      rw [en] at q
      have hc3 := hc.same (e.trans e3)
      obtain ⟨a, dx, lw, rfl, ha, _⟩ := id hc3
      exact ⟨_, rfl, a, dx, _, rfl, ha, by rw [lk_by (by decide +kernel)]; rfl, _, rfl, V.ref a, cs, n, rfl, hc3, hw n (List.mem_of_getElem? hn), fun H4 e4 => q _ _ ⟨e4, .str _⟩⟩
    · intro H1 acc e1 hacc hda
      rw [List.length_map, mapD_list l 0 (fun n => PyData.str (mkOf cs n))] at hda
      have hmm : l.map (fun n => PyData.str (mkOf cs n)) = (l.map (mkOf cs)).map PyData.str := by rw [List.map_map]; rfl
      rw [hmm] at hda
      obtain rfl := dps_strs' hda
      refine ⟨_, rfl, la, _, rfl, e1.seq hla, fun D2 hD2 => lc_data (K := K) walk_enum (fun _ => true) (fun i => stD (l.getD i 0, tkM cs rs (l.getD i 0) (l.take i))) (fun i _ => rfl) (by rw [List.length_map]; omega) hD2 (fun H' e => (e1.trans e).seq hla) ?_ ?_⟩
      · rintro i v H2 H' hi e ⟨T, x1, y1, rfl, hT, rfl, h1, h2⟩
        cases h1
        obtain ⟨n, hn, rfl⟩ := map_get h2
        have en : l.getD i 0 = n := getD_of hn
        refine ⟨same_new hT, _, eg_pair (SqT.of upd_same), rfl, et_yes.weak fun b' H3 h3 => ⟨h3.1, h3.2 ▸ Same.refl _⟩, fun _ H3 e3 Q' q => ?_⟩
        have e13 : Same H1 H3 := (e.trans (same_new hT)).trans e3
        have hs3 := hs.same (e1.trans e13)
        obtain ⟨a, dx, lr, rfl, ha, _⟩ := id hs3
        have hi' : i < l.length := by rw [List.length_map] at hi; exact hi
        have hmi : (l.map (mkOf cs))[i]? = some (mkOf cs n) := by rw [List.getElem?_map, hn]; rfl
        have hsm : ((l.map (mkOf cs)).map V.str)[i]? = some (V.str (mkOf cs n)) := by rw [List.getElem?_map, hmi]; rfl
        refine ⟨_, rfl, _, rfl, a, dx, _, rfl, ha, by rw [lk_by (by decide +kernel)]; rfl, _, rfl, _, rfl, D, _, (i : Int), _, rfl, rfl, SqL.of (e13 _ _ hacc), atI_nat hsm, ?_⟩
        refine ⟨_, rfl, _, rfl, (i : Int), rfl, D, _, rfl, SqL.of (e13 _ _ hacc), fun p hp => ?_⟩
        rw [cutV_take, ← List.map_take]
        refine ⟨V.ref a, _, rs, mkOf cs n, (l.map (mkOf cs)).take i, rfl, hs3.same (same_new hp), .lst (SqL.of upd_same) (dps_strs _), by rw [List.length_take, List.length_map]; omega, fun H4 e4 => ?_⟩
        refine ⟨small_le (show 2 ≤ 100000 by decide), fun p2 hp2 => ?_⟩
        refine q _ _ ⟨((same_new hp).trans e4).trans (same_new hp2), ?_⟩
        rw [en]
        refine .tup (SqT.of upd_same) (.cons (.int n) (.cons ?_ .nil))
        have : takesR rs (mkOf cs n) ((l.map (mkOf cs)).take i) = tkM cs rs n (l.take i) := by unfold tkM; rw [List.map_take]
        rw [this]
        exact .bl _
      · intro H2 acc2 e2 hacc2 hda2
        rw [List.length_map, keptD_all] at hda2
        refine k _ _ (e1.trans e2) (.lst (SqL.of hacc2) ?_)
        have hw2 : (walkL (tkM cs rs) l).map stD = (List.range l.length).map fun i => stD (l.getD i 0, tkM cs rs (l.getD i 0) (l.take i)) := by
          unfold walkL
          rw [List.map_map]
          rfl
        rw [hw2]
        exact hda2
end
end MW

/-! first_taken, check_ranking, check_yards, holders. -/
namespace MW
open PySem PySem.Spec PyProof.Rows L2
open MS (ws free begs perms lineup own owns hldL hldOf fstOf pick Bagged mem_ws mem_perms mem_lineup)

structure GoodY (n : Nat) (y : List Int) : Prop where
  ne : y ≠ []
  inc : y.Pairwise (· < ·)
  mem : ∀ w ∈ y, w ∈ ws n
theorem GoodY.len {n : Nat} {y : List Int} (g : GoodY n y) : y.length ≤ n := by
  have hnd : y.Nodup := g.inc.imp fun h => by omega
  have := List.Nodup.length_le_of_subset hnd (fun w hw => g.mem w hw)
  rw [MS.ws_length] at this
  exact this
def firstT (l : List (Int × Bool)) : Int := ((l.find? (·.2)).map (·.1)).getD ((l.head?.map (·.1)).getD 0)
theorem walkL_cons (tk : Int → List Int → Bool) (seen l : List Int) : ((List.range l.length).map fun i => (l.getD i 0, tk (l.getD i 0) (seen ++ l.take i))) = match l with
    | [] => []
    | w :: r => (w, tk w seen) :: (List.range r.length).map fun i => (r.getD i 0, tk (r.getD i 0) ((seen ++ [w]) ++ r.take i)) := by
  cases l with
  | nil => rfl
  | cons w r =>
    show (List.range (r.length + 1)).map _ = _
    rw [List.range_succ_eq_map, List.map_cons, List.map_map]
    simp
theorem find_walk (tk : Int → List Int → Bool) : ∀ (l seen : List Int), (∀ w ∈ l, 0 ≤ w) → (((List.range l.length).map fun i => (l.getD i 0, tk (l.getD i 0) (seen ++ l.take i))).find? (·.2)).map (·.1) = if hldL tk seen l = -1 then none else some (hldL tk seen l)
  | [], _, _ => rfl
  | w :: r, seen, h => by
    rw [walkL_cons]
    show (List.find? _ ((w, tk w seen) :: _)).map _ = _
    unfold hldL
    cases e : tk w seen with
    | true =>
      rw [List.find?_cons_of_pos (by rfl), if_pos rfl]
      have := h w List.mem_cons_self
      rw [if_neg (by omega)]
      rfl
    | false =>
      rw [List.find?_cons_of_neg (by exact Bool.false_ne_true), if_neg Bool.false_ne_true]
      exact find_walk tk r (seen ++ [w]) fun v hv => h v (List.mem_cons_of_mem _ hv)
theorem first_own {tk : Int → List Int → Bool} {r y : List Int} (h : ∀ w ∈ r, 0 ≤ w) (hne : lineup r y ≠ []) : firstT (walkL tk (lineup r y)) = own tk r y := by
  have hl : ∀ w ∈ lineup r y, 0 ≤ w := fun w hw => h w (mem_lineup.mp hw).1
  have := find_walk tk (lineup r y) [] hl
  simp only [List.nil_append] at this
  unfold firstT walkL own hldOf pick
  rw [this]
  by_cases c : hldL tk [] (lineup r y) = -1
  · rw [if_pos c, if_pos c]
    unfold fstOf
    cases e : lineup r y with
    | nil => exact absurd e hne
    | cons w q =>
      show ((Option.map _ (List.head? (List.map _ (List.range (q.length + 1))))).getD 0) = w
      rw [List.range_succ_eq_map]
      rfl
  · rw [if_neg c, if_neg c]
    rfl
theorem ws_rise (n : Nat) : (ws n).Pairwise (· < ·) := by
  unfold ws
  rw [List.pairwise_map]
  exact List.pairwise_lt_range.imp fun h => by omega
theorem ws_sorted (n : Nat) : (ws n).Pairwise (· ≤ ·) := (ws_rise n).imp fun h => by omega
theorem rg_ws (n : Nat) : rgV 0 (n : Int) = (ws n).map V.int := by
  unfold rgV ws
  rw [List.map_map]
  have : ((n : Int) - 0).toNat = n := by omega
  rw [this]
  exact List.map_congr_left fun i _ => by show V.int (0 + (i : Int)) = V.int (i : Int); rw [Int.zero_add]
theorem lay_lstI (ns : List Int) : (lstI ns).canLay0 = true := by
  unfold lstI
  rw [lay_lst]
  exact lays_of fun d hd => by
    obtain ⟨n, _, rfl⟩ := List.mem_map.mp hd
    exact lay_int n
theorem eqv_lstI (ns : List Int) : PyData.eqv (lstI ns) (lstI ns) = true := SeqAt.eqv_refl _ (lay_lstI ns)
theorem shaped_lstI (ns : List Int) : SeqAt.shaped (lstI ns) = true := by
  refine shaped_of (lay_lstI ns) ?_
  unfold lstI
  rw [depth_lst]
  have : PyData.depthAll (ns.map PyData.int) ≤ 0 := depths_le fun d hd => by
    obtain ⟨n, _, rfl⟩ := List.mem_map.mp hd
    rw [depth_int]
    exact Nat.le_refl _
  omega
theorem shaped_tupI (ns : List Int) : SeqAt.shaped (tupI ns) = true := shaped_of (lay_tupI ns) (by rw [depth_tupI]; decide)
theorem list_zero {α : Type} {l : List α} {n : Nat} (h : l.length = n) (hp : 0 < n) : ∃ x, l[0]? = some x := ⟨l[0], List.getElem?_eq_getElem (by omega)⟩
theorem nodup_len {y : List Int} (h : y.Pairwise (· < ·)) : y.Nodup := h.imp fun h => by omega
/-- rising lists with the same members -/
theorem rise_eq {a b : List Int} (ha : a.Pairwise (· < ·)) (hb : b.Pairwise (· < ·)) (h : ∀ k, k ∈ a ↔ k ∈ b) : a = b := by
  have p : a.Perm b := (List.perm_ext_iff_of_nodup (nodup_len ha) (nodup_len hb)).mpr h
  exact MS.sorted_unique (ha.imp fun h => by omega) (hb.imp fun h => by omega) p

def spFirst (K : PySem.W.Frag) : Sp := fun vs H Q _ => ∃ (x : V) (l : List (Int × Bool)), vs = [x] ∧ Dp K H x (.list (l.map stD)) ∧ l ≠ [] ∧ l.length ≤ 100 ∧ ∀ H', Same H H' → Q (.int (firstT l)) H'
abbrev sChkR : Stmt := top 11
abbrev sChkY : Stmt := top 12
abbrev sHolders : Stmt := top 16
def YdAt (K : PySem.W.Frag) (H : Hp) (v : V) (ys : List (List Int)) (n : Nat) : Prop := Dp K H v (.list (ys.map tupI)) ∧ 1 ≤ ys.length ∧ ys.length ≤ 8 ∧ ∀ y ∈ ys, GoodY n y
theorem YdAt.same {K : PySem.W.Frag} {H H' : Hp} {v : V} {ys : List (List Int)} {n : Nat} (e : Same H H') (h : YdAt K H v ys n) : YdAt K H' v ys n := ⟨dp_same e h.1, h.2⟩
def spChkR (K : PySem.W.Frag) (C : Addr) : Sp := fun vs H Q _ => ∃ (x y : V) (cs : List (Str × Str)) (r : List Int), vs = [x, y] ∧ CrewAt K C H x cs ∧ Dp K H y (lstI r) ∧ r ∈ perms cs.length ∧ ∀ H', Same H H' → Q .non H'
def spChkY (K : PySem.W.Frag) (C : Addr) : Sp := fun vs H Q _ => ∃ (x y : V) (cs : List (Str × Str)) (ys : List (List Int)), vs = [x, y] ∧ CrewAt K C H x cs ∧ YdAt K H y ys cs.length ∧ ∀ H', Same H H' → Q .non H'
section
variable {P : Program} {w : World} {K : PySem.W.Frag} {mg : Str → Option Value} {base : Heap} {C : Addr}
abbrev nFirst : List Str := ["steps", "worker", "taken"]
theorem sc_first : FnScope nFirst ["steps"] (defScope sFirst) := ⟨rfl, rfl, rfl, by decide +kernel, rfl, by decide +kernel, by decide +kernel⟩
theorem ok_first {f : Addr} {fd : FuncData} (F : Fun K "first_taken" "first_taken" sFirst f fd) : FnOk P w K mg base CX0 1 f fd ["steps"] (spFirst K) := by
  refine F.ok sc_first (fun vs H Q E h => ?_) (fun cdv A outer s H vs Q E hr h => ?_)
  · obtain ⟨x, l, rfl, _⟩ := h
    rfl
  · obtain ⟨x, l, rfl, hx, hne, hl, k⟩ := h
    obtain ⟨la, xs, rfl, hla, hxs⟩ := dp_lst hx
    have hlen : xs.length = l.length := by rw [dps_len hxs, List.length_map]
    have nd := sc_first.nd
    refine ⟨_, pss_cons (ps_for PassesOwn.never rfl (pi_list (pv 0)) (pg_tup rfl (pgs_cons (pg_name (i := 1) nd rfl (Or.inl rfl)) (pgs_cons (pg_name (i := 2) nd rfl (Or.inl rfl)) pgs_nil)))
        (pss_one (ps_if (pt_val (pv 2)) (pss_one (ps_ret (pv 1))) pss_nil)))
      (pss_one (ps_ret (pe_ix ix_tup (pe_ix ix_list (pv 0) pe_int (fun _ _ => rfl)) pe_int (fun _ _ => rfl)))), ?_⟩
    refine ⟨_, rfl, la, rfl, ⟨_, hla⟩, for_list (K := K) (a := la) (xs := xs) (fun i σ H' => ∃ v3 v4 : Option V, σ = [some (.ref la), v3, v4] ∧ H' = H ∧ ((l.take i).find? (·.2)) = none)
      ⟨none, none, rfl, rfl, rfl⟩ (fun i σ H' _ ⟨_, _, _, e, _⟩ => e ▸ hla) ?_ ?_⟩
    · rintro i v σ H' hi ⟨v3, v4, rfl, rfl, hno⟩
      obtain ⟨p, hp, hd⟩ := dps_all hxs hi
      obtain ⟨t, gx, bx, rfl, ht, hg, hb⟩ := dp_tup2 hd
      cases hg
      cases hb
      refine ⟨t, _, rfl, ht, rfl, _, _, rfl, _, _, rfl, rfl, _, rfl, _, rfl, ?_⟩
      cases e : p.2 with
      | true =>
        refine iteT ⟨_, rfl, ?_⟩
        have hf : firstT l = p.1 := by
          unfold firstT
          have : l.find? (·.2) = some p := by
            have hs : l = l.take i ++ (p :: l.drop (i + 1)) := by
              obtain ⟨h, e2⟩ := List.getElem?_eq_some_iff.mp hp
              rw [← e2, List.getElem_cons_drop, List.take_append_drop]
            rw [hs, List.find?_append, hno, List.find?_cons_of_pos (by exact e)]
            rfl
          rw [this]
          rfl
        rw [← hf]
        exact k H' (Same.refl _)
      | false =>
        refine iteF ⟨_, _, rfl, rfl, ?_⟩
        rw [take_succ_get hp, List.find?_append, hno, List.find?_cons_of_neg (by show ¬ _; rw [e]; decide)]
        rfl
    · rintro σ H' ⟨v3, v4, rfl, rfl, hno⟩
      rw [hlen, List.take_length] at hno
      cases l with
      | nil => exact absurd rfl hne
      | cons p q =>
        obtain ⟨v, hv⟩ := list_zero hlen (Nat.succ_pos _)
        obtain ⟨p', hp', hd⟩ := dps_all hxs hv
        cases hp'
        obtain ⟨t, gx, bx, rfl, ht, hg, hb⟩ := dp_tup2 hd
        cases hg
        refine ⟨_, rfl, la, xs, 0, _, rfl, rfl, hla, atI_nat hv, t, _, 0, _, rfl, rfl, ht, rfl, ?_⟩
        have hf : firstT (p :: q) = p.1 := by
          unfold firstT
          rw [hno]
          rfl
        rw [← hf]
        exact k H' (Same.refl _)
theorem sc_chkR : FnScope ["crew", "ranking"] ["crew", "ranking"] (defScope sChkR) := ⟨rfl, rfl, rfl, by decide +kernel, rfl, by decide +kernel, by decide +kernel⟩
theorem ok_chkR {f : Addr} {fd : FuncData} (F : Fun K "check_ranking" "check_ranking" sChkR f fd) (B : Bi mg) (L : LenOf P w K mg base 1 C (spLen K C)) : FnOk P w K mg base CX0 3 f fd ["crew", "ranking"] (spChkR K C) := by
  refine F.ok sc_chkR (fun vs H Q E h => ?_) (fun cdv A outer s H vs Q E hr h => ?_)
  · obtain ⟨x, y, cs, r, rfl, _⟩ := h
    rfl
  · obtain ⟨x, y, cs, r, rfl, hc, hy, hrk, k⟩ := h
    obtain ⟨la, rfl, hla⟩ := dp_lstI hy
    have hp := mem_perms.mp hrk
    have hlen : r.length ≤ 6 := by rw [hp.length_eq, MS.ws_length]; exact (id hc).elim fun _ ⟨_, _, _, _, _, _, h6⟩ => h6
    refine ⟨_, pss_one (ps_if (pt_cmpR (op_neD hr.units) (pe_callB cr_sorted (by rfl) B.sorted (by decide +kernel) (pa_cons (pv 1) pa_nil))
      (pe_listRg rfl rfl B.list (prg_1 rfl B.range (pe_callB (cr_lenO L hr) (by rfl) B.len PySem.boot_len (pa_cons (pv 0) pa_nil)))) (nomark _)) (pss_one ps_never) pss_nil), ?_⟩
    refine ⟨_, rfl, la, r, rfl, hla, by omega, fun ns p perm so hp1 => ?_⟩
    refine ⟨_, rfl, len_use (hc.same (same_new hp1)) fun H2 e2 => ⟨_, rfl, RgOk.of_le (by omega) ?_ (by omega) (by omega), fun q hq => ?_⟩⟩
    · obtain ⟨_, _, _, _, _, _, _, h6⟩ := hc
      omega
    · have hns : ns = ws cs.length := MS.sorted_unique so (ws_sorted _) (perm.trans hp)
      subst hns
      rw [rg_ws]
      refine ⟨_, _, .lst (SqL.of ((e2.trans (same_new hq)) _ _ upd_same)) (dps_ints _), .lst (SqL.of upd_same) (dps_ints _), shaped_lstI _, shaped_lstI _, _, rfl, ?_⟩
      rw [show PyData.eqv (.list ((ws cs.length).map .int)) (.list ((ws cs.length).map .int)) = true from eqv_lstI _]
      exact iteF (k _ (((same_new hp1).trans e2).trans (same_new hq)))
abbrev nChkY : List Str := ["crew", "yards", "yard"]
theorem sc_chkY : FnScope nChkY ["crew", "yards"] (defScope sChkY) := ⟨rfl, rfl, rfl, by decide +kernel, rfl, by decide +kernel, by decide +kernel⟩
theorem ok_chkY {f : Addr} {fd : FuncData} (F : Fun K "check_yards" "check_yards" sChkY f fd) (B : Bi mg) (L : LenOf P w K mg base 1 C (spLen K C)) : FnOk P w K mg base CX0 3 f fd ["crew", "yards"] (spChkY K C) := by
  refine F.ok sc_chkY (fun vs H Q E h => ?_) (fun cdv A outer s H vs Q E hr h => ?_)
  · obtain ⟨x, y, cs, ys, rfl, _⟩ := h
    rfl
  · obtain ⟨x, y, cs, ys, rfl, hc, ⟨hy, h1, h8, hg⟩, k⟩ := h
    obtain ⟨la, xs, rfl, hla, hxs⟩ := dp_lst hy
    have nd := sc_chkY.nd
    refine ⟨_, pss_one (ps_for PassesOwn.never rfl (pi_list (pv 1)) (pg_name (i := 2) nd rfl (Or.inl rfl))
      (pss_one (ps_if (PW.pt (pw_or (pt_not (pt_truth (pv 2) (by intro _; rfl)))
        (pw_or (pt_cmpR (op_neD hr.units) (pe_callTy call_list_of (by rfl) B.list (by decide +kernel) (pa_cons (pv 2) pa_nil))
            (pe_callB (cr_sortedSet rfl) (by rfl) B.sorted (by decide +kernel) (pa_cons (pe_callTy (cr_setI rfl) (by rfl) B.set (by decide +kernel) (pa_cons (pv 2) pa_nil)) pa_nil)) (nomark _))
        (pw_or (pt_cmpR op_lt (pe_ix ix_tup (pv 2) pe_int (fun _ _ => rfl)) pe_int (nomark _))
        (pw_or1 (pt_cmpR op_ge (pe_ix ix_tup (pv 2) (pe_un un_neg pe_int) (fun _ _ => rfl)) (pe_callB (cr_lenO L hr) (by rfl) B.len PySem.boot_len (pa_cons (pv 0) pa_nil)) (nomark _)))))))
        (pss_one ps_never) pss_nil))), ?_⟩
    refine ⟨_, rfl, la, rfl, ⟨_, hla⟩, for_list (K := K) (a := la) (xs := xs) (fun i σ H' => ∃ v3 : Option V, σ = [some x, some (.ref la), v3] ∧ Same H H')
      ⟨none, rfl, Same.refl _⟩ (fun i σ H' _ ⟨_, _, e⟩ => e.seq hla) ?_ (fun σ H' ⟨_, _, e⟩ => k _ e)⟩
    rintro i v σ H' hi ⟨v3, rfl, e⟩
    obtain ⟨yd, hp, hd⟩ := dps_all hxs hi
    obtain ⟨ta, rfl, hta⟩ := dp_tupI (dp_same e hd)
    have gy := hg yd (List.mem_of_getElem? hp)
    have hc6 : cs.length ≤ 6 := (id hc).elim fun _ ⟨_, _, _, _, _, _, h6⟩ => h6
    have hyl := gy.len
    refine ⟨_, rfl, _, .inr (.inl ⟨_, hta, rfl⟩), ?_⟩
    have hne : (!(yd.map V.int).isEmpty) = true := by
      cases e : yd with
      | nil => exact absurd e gy.ne
      | cons a b => rfl
    rw [hne]
    refine iteF ?_
    refine ⟨_, rfl, ta, _, rfl, .inr hta, fun l hl => ?_⟩
    have e1 := same_new (o := .lst (yd.map V.int)) hl
    refine ⟨_, rfl, ta, yd, rfl, same_seqT e1 hta, by omega, fun p c hp1 hcl => ?_⟩
    have e2 := e1.trans (same_new (o := SetO w p (fun j => decide (j ∈ yd)) c) hp1)
    refine ⟨p, _, c, rfl, upd_same, by omega, fun ns q hinc hns hnl hq => ?_⟩
    have hns' : ns = yd := rise_eq hinc gy.inc fun k => by rw [hns k, decide_eq_true_eq]
    subst hns'
    have e3 := e2.trans (same_new (o := .lst (ns.map V.int)) hq)
    have hl3 := ((same_new (o := SetO w p (fun j => decide (j ∈ ns)) c) hp1).trans (same_new (o := .lst (ns.map V.int)) hq)) _ _ (upd_same (H := H') (a := l) (o := .lst (ns.map V.int)))
    refine ⟨lstI ns, lstI ns, lstI_of (SqL.of hl3), lstI_of (SqL.of upd_same), shaped_lstI _, shaped_lstI _, _, rfl, ?_⟩
    rw [eqv_lstI]
    refine iteF ?_
    obtain ⟨v0, hv0⟩ := list_zero (l := ns) rfl (List.length_pos_iff.mpr gy.ne)
    have h0 : (ns.map V.int)[0]? = some (V.int v0) := by rw [List.getElem?_map, hv0]; rfl
    have m0 := mem_ws.mp (gy.mem v0 (List.mem_of_getElem? hv0))
    refine ⟨_, rfl, ta, _, 0, _, rfl, rfl, same_seqT e3 hta, atI_nat h0, _, _, rfl, rfl, _, rfl, ?_⟩
    rw [decide_eq_false (by omega : ¬ v0 < 0)]
    refine iteF ?_
    have hd : ns.map V.int = (ns.dropLast.map V.int) ++ [V.int (ns.getLast gy.ne)] := by
      rw [show [V.int (ns.getLast gy.ne)] = [ns.getLast gy.ne].map V.int from rfl, ← List.map_append, List.dropLast_concat_getLast]
    have ml := mem_ws.mp (gy.mem _ (List.getLast_mem gy.ne))
    refine ⟨_, rfl, _, rfl, ta, _, _, _, rfl, rfl, same_seqT e3 hta, by rw [hd]; exact atI_last _ _, _, rfl, len_use (hc.same (e.trans e3)) fun H4 e4 => ⟨_, _, rfl, rfl, _, rfl, ?_⟩⟩
    rw [decide_eq_false (by omega)]
    exact iteF ⟨_, rfl, (e.trans e3).trans e4⟩
end
end MW

/-! holders; nodes: start_node, next_node, settled, nodes_behind. -/
namespace MW
open PySem PySem.Spec PyProof.Rows L2
open MS (ws free begs perms lineup own owns hldL hldOf fstOf pick Bagged mem_ws mem_perms mem_lineup mem_free Nd hAt fAt nxt st0 settle)

theorem none_back {G H : Hp} {p : Addr} (e : Same G H) (h : H p = none) : G p = none := by
  cases c : G p with
  | none => rfl
  | some u => rw [e _ _ c] at h; cases h
theorem dec_int (a b : Int) : decide (V.int a = V.int b) = decide (a = b) := by
  rw [decide_eq_decide]
  exact ⟨fun z => by injection z, fun z => by rw [z]⟩
theorem nnR {n : Nat} {r : List Int} (h : r ∈ perms n) : ∀ w ∈ r, 0 ≤ w := fun w hw => (mem_ws.mp ((mem_perms.mp h).mem_iff.mp hw)).1
theorem lineup_ne {n : Nat} {r y : List Int} (h : r ∈ perms n) (g : GoodY n y) : lineup r y ≠ [] := by
  cases e : y with
  | nil => exact absurd e g.ne
  | cons w q =>
    have hw : w ∈ y := e ▸ List.mem_cons_self
    have : w ∈ lineup r y := mem_lineup.mpr ⟨(mem_perms.mp h).mem_iff.mpr (g.mem w hw), hw⟩
    intro z
    rw [e] at this
    rw [z] at this
    cases this
theorem len_perm {n : Nat} {r : List Int} (h : r ∈ perms n) : r.length = n := by rw [(mem_perms.mp h).length_eq, MS.ws_length]
theorem lineup_le (r y : List Int) : (lineup r y).length ≤ r.length := List.length_filter_le _ _

abbrev sStart : Stmt := top 19
abbrev sNext : Stmt := top 20
abbrev sSettled : Stmt := top 21
abbrev sBehind : Stmt := top 22
def spHolders (K : PySem.W.Frag) (CC CS : Addr) : Sp := fun vs H Q _ => ∃ (x y z u : V) (cs : List (Str × Str)) (rs : List Rul) (r : List Int) (ys : List (List Int)), vs = [x, y, z, u] ∧ CrewAt K CC H x cs ∧ SchAt K CS H y rs ∧ Dp K H z (lstI r) ∧ r ∈ perms cs.length ∧ YdAt K H u ys cs.length ∧
  ∀ v H', Same H H' → Dp K H' v (lstI (owns (tkM cs rs) ys r)) → Q v H'
section
variable {P : Program} {w : World} {K : PySem.W.Frag} {mg : Str → Option Value} {base : Heap} {C CS : Addr}
abbrev nHolders : List Str := ["crew", "scheme", "ranking", "yards", "yard"]
theorem sc_holders : FnScope nHolders ["crew", "scheme", "ranking", "yards"] (defScope sHolders) := ⟨rfl, rfl, rfl, by decide +kernel, rfl, by decide +kernel, by decide +kernel⟩
theorem ok_holders {f : Addr} {fd : FuncData} (F : Fun K "holders" "holders" sHolders f fd) (F1 : Fn P w K mg base 3 "check_ranking" (spChkR K C)) (F2 : Fn P w K mg base 3 "check_yards" (spChkY K C)) (F3 : Fn P w K mg base 1 "present" (spPresent K))
    (F4 : Fn P w K mg base 4 "walked" (spWalked K C CS)) (F5 : Fn P w K mg base 1 "first_taken" (spFirst K)) : FnOk P w K mg base CX0 5 f fd ["crew", "scheme", "ranking", "yards"] (spHolders K C CS) := by
  refine F.ok sc_holders (fun vs H Q E h => ?_) (fun cdv A outer s H vs Q E hr h => ?_)
  · obtain ⟨x, y, z, u, cs, rs, r, ys, rfl, _⟩ := h
    rfl
  · obtain ⟨x, y, z, u, cs, rs, r, ys, rfl, hc, hs, hz, hrk, hy, k⟩ := h
    have nd := sc_holders.nd
    have hc6 : cs.length ≤ 6 := (id hc).elim fun _ ⟨_, _, _, _, _, _, h6⟩ => h6
    refine ⟨_, pss_cons (ps_expr (pe_fn F1 hr (by decide) (pa_cons (pv 0) (pa_cons (pv 2) pa_nil))))
      (pss_cons (ps_expr (pe_fn F2 hr (by decide) (pa_cons (pv 0) (pa_cons (pv 3) pa_nil))))
      (pss_one (ps_ret (pe_lc (own := [("yard", 4)]) (g := gName 4) (tt := tYes) rfl nd (pi_list (pv 3)) (blkOk_by (own := [("yard", 4)]) (N := nHolders) (sc := defScope sHolders) (by decide +kernel)) (fun _ _ _ _ _ => pg_name (i := 4) nd rfl (Or.inl rfl))
        (fun _ _ _ _ _ => pts_nil) (fun _ _ _ _ _ => pe_fn F5 hr (by decide) (pa_cons (pe_fn F4 hr (by decide) (pa_cons (pv 0) (pa_cons (pv 1) (pa_cons (pe_fn F3 hr (by decide) (pa_cons (pv 2) (pa_cons (pv 4) pa_nil))) pa_nil)))) pa_nil)))))), ?_⟩
    refine ⟨_, rfl, _, rfl, x, z, cs, r, rfl, hc, hz, hrk, fun H1 e1 => ?_⟩
    refine ⟨_, rfl, _, rfl, x, u, cs, ys, rfl, hc.same e1, hy.same e1, fun H2 e2 => ?_⟩
    have e12 := e1.trans e2
    obtain ⟨hyd, hy1, hy8, hyg⟩ := hy
    obtain ⟨la, xs, rfl, hla, hxs⟩ := dp_lst hyd
    have hlen : xs.length = ys.length := by rw [dps_len hxs, List.length_map]
    refine ⟨_, rfl, la, rfl, ⟨_, e12.seq hla⟩, fun D hD => lc_data (K := K) walk_list (fun _ => true) (fun i => .int (own (tkM cs rs) r (ys.getD i []))) (fun i _ => rfl) (by omega) hD (fun H' e => (e12.trans e).seq hla) ?_ ?_⟩
    · rintro i v H1 H' hi e ⟨rfl, hv⟩
      obtain ⟨yd, hyi, hd⟩ := dps_all hxs hv
      have en : ys.getD i [] = yd := getD_of hyi
      have gy := hyg yd (List.mem_of_getElem? hyi)
      refine ⟨Same.refl _, _, eg_name, rfl, et_yes.weak fun b' H3 h3 => ⟨h3.1, h3.2 ▸ Same.refl _⟩, fun _ H3 e3 Q' q => ?_⟩
      have e03 := (e12.trans e).trans e3
      have hrl := len_perm hrk
      have hll := lineup_le r yd
      refine ⟨_, rfl, _, rfl, _, rfl, _, rfl, z, v, r, yd, rfl, dp_same e03 hz, dp_same e03 hd, by omega, fun v1 H4 e4 hd1 => ?_⟩
      refine ⟨x, y, v1, cs, rs, lineup r yd, rfl, hc.same (e03.trans e4), hs.same (e03.trans e4), hd1, by omega, fun w hw => (mem_perms.mp hrk).mem_iff.mp (mem_lineup.mp hw).1, fun v2 H5 e5 hd2 => ?_⟩
      have hwl : (walkL (tkM cs rs) (lineup r yd)).length = (lineup r yd).length := by unfold walkL; rw [List.length_map, List.length_range]
      refine ⟨v2, _, rfl, hd2, ?_, by omega, fun H6 e6 => ?_⟩
      · intro z
        rw [z] at hwl
        exact lineup_ne hrk gy (List.length_eq_zero_iff.mp hwl.symm)
      · refine q _ _ ⟨(e4.trans e5).trans e6, ?_⟩
        rw [en, first_own (nnR hrk) (lineup_ne hrk gy)]
        exact .int _
    · intro H3 acc e3 hacc hda
      rw [hlen, mapD_list ys [] (fun y => PyData.int (own (tkM cs rs) r y))] at hda
      refine k _ _ (e12.trans e3) (.lst (SqL.of hacc) ?_)
      unfold owns
      rw [List.map_map]
      exact hda
/-! ### nodes -/
def ndD (nd : Nd) : PyData := .tuple [tupI nd.pl, tupI nd.hd, tupI nd.fs]
def nkT (ns : List Int) : NestedKey := .tup (ns.map .num)
def nkOf (nd : Nd) : NestedKey := .tup [nkT nd.pl, nkT nd.hd, nkT nd.fs]
theorem data_nkT (ns : List Int) : (nkT ns).data = tupI ns := by
  show PyData.tuple (NestedKey.datas (ns.map NestedKey.num)) = _
  rw [datas_nums]
  rfl
theorem data_nk (nd : Nd) : (nkOf nd).data = ndD nd := by
  show PyData.tuple [(nkT nd.pl).data, (nkT nd.hd).data, (nkT nd.fs).data] = _
  rw [data_nkT, data_nkT, data_nkT]
  rfl
structure NdOk (n : Nat) (m : Nat) (nd : Nd) : Prop where
  h : nd.hd.length = m
  f : nd.fs.length = m
  d : nd.pl.Nodup
  s : ∀ w ∈ nd.pl, w ∈ ws n
theorem NdOk.len {n m : Nat} {nd : Nd} (o : NdOk n m nd) : nd.pl.length ≤ n := by
  have := List.Nodup.length_le_of_subset o.d (fun w hw => o.s w hw)
  rw [MS.ws_length] at this
  exact this
theorem ok_st0 (n : Nat) (ys : List (List Int)) : NdOk n ys.length (st0 ys) := ⟨List.length_map _, List.length_map _, .nil, fun _ h => nomatch h⟩
theorem ok_nxt {tk : Int → List Int → Bool} {ys : List (List Int)} {n : Nat} {nd : Nd} {w : Int} (o : NdOk n ys.length nd) (hw : w ∈ free n nd.pl) : NdOk n ys.length (nxt tk ys nd w) := by
  have hf := mem_free.mp hw
  refine ⟨?_, ?_, ?_, ?_⟩
  · show (List.zipWith _ ys nd.hd).length = _
    rw [List.length_zipWith, o.h, Nat.min_self]
  · show (List.zipWith _ ys nd.fs).length = _
    rw [List.length_zipWith, o.f, Nat.min_self]
  · refine (MS.srt_perm (nd.pl ++ [w])).nodup_iff.mpr (List.nodup_append.mpr ⟨o.d, .cons (fun _ h => nomatch h) .nil, fun a ha b hb => ?_⟩)
    rw [List.mem_singleton] at hb
    subst hb
    intro z
    exact hf.2 (z ▸ ha)
  · intro v hv
    rcases List.mem_append.mp ((MS.srt_perm (nd.pl ++ [w])).mem_iff.mp hv) with h | h
    · exact o.s v h
    · rw [List.mem_singleton] at h
      exact h ▸ hf.1
def spStart (K : PySem.W.Frag) : Sp := fun vs H Q _ => ∃ (x : V) (ys : List (List Int)), vs = [x] ∧ Dp K H x (.list (ys.map tupI)) ∧ ys.length ≤ 8 ∧ ∀ v H', Same H H' → Dp K H' v (ndD (st0 ys)) → Q v H'
abbrev nStart : List Str := ["yards", "nobody", "yard"]
theorem sc_start : FnScope nStart ["yards"] (defScope sStart) := ⟨rfl, rfl, rfl, by decide +kernel, rfl, by decide +kernel, by decide +kernel⟩
theorem dps_const {H : Hp} (i : Int) : ∀ n, DpAll K H (List.replicate n (V.int i)) (List.replicate n (PyData.int i))
  | 0 => .nil
  | n + 1 => .cons (.int i) (dps_const i n)
theorem ok_start {f : Addr} {fd : FuncData} (F : Fun K "start_node" "start_node" sStart f fd) (B : Bi mg) : FnOk P w K mg base CX0 1 f fd ["yards"] (spStart K) := by
  refine F.ok sc_start (fun vs H Q E h => ?_) (fun cdv A outer s H vs Q E hr h => ?_)
  · obtain ⟨x, ys, rfl, _⟩ := h
    rfl
  · obtain ⟨x, ys, rfl, hx, h8, k⟩ := h
    obtain ⟨la, xs, rfl, hla, hxs⟩ := dp_lst hx
    have hlen : xs.length = ys.length := by rw [dps_len hxs, List.length_map]
    have nd := sc_start.nd
    refine ⟨_, pss_cons (ps_set (i := 1) nd rfl (Or.inl rfl) (pe_callTy call_tuple_of (by rfl) B.tuple (by decide +kernel) (pa_cons (pe_lc (own := [("yard", 2)]) (g := gName 2) (tt := tYes) rfl nd (pi_list (pv 0)) (blkOk_by (own := [("yard", 2)]) (N := nStart) (sc := defScope sStart) (by decide +kernel)) (fun _ _ _ _ _ => pg_name (i := 2) nd rfl (Or.inl rfl))
        (fun _ _ _ _ _ => pts_nil) (fun _ _ _ _ _ => pe_un un_neg pe_int)) pa_nil)))
      (pss_one (ps_ret (pe_tup (pa_cons (pe_tup pa_nil) (pa_cons (pv 1) (pa_cons (pv 1) pa_nil)))))), ?_⟩
    refine ⟨_, rfl, la, rfl, ⟨_, hla⟩, fun D hD => lc_data (K := K) walk_list (fun _ => true) (fun i => .int (-1)) (fun i _ => rfl) (by omega) hD (fun H' e => e.seq hla) ?_ ?_⟩
    · rintro i v H1 H' hi e ⟨rfl, hv⟩
      exact ⟨Same.refl _, _, eg_name, rfl, et_yes.weak fun b' H3 h3 => ⟨h3.1, h3.2 ▸ Same.refl _⟩, fun _ H3 e3 Q' q => ⟨_, rfl, q _ _ ⟨Same.refl _, .int _⟩⟩⟩
    · intro H1 acc e1 hacc hda
      rw [keptD_all] at hda
      have hm : (List.range xs.length).map (fun _ => PyData.int (-1)) = (ys.map fun _ => (-1 : Int)).map PyData.int := by
        rw [hlen, List.map_map]
        refine List.ext_getElem (by simp) fun i h1 h2 => ?_
        simp
      rw [hm] at hda
      obtain rfl := dps_ints' hda
      refine ⟨D, _, rfl, .inl ⟨SqL.of hacc, fun p hp => ?_⟩⟩
      refine ⟨by show 0 ≤ sizeLine; exact Nat.zero_le _, fun q hq => ?_⟩
      refine ⟨_, rfl, _, rfl, small_le (show 3 ≤ 100000 by decide), fun t ht => ?_⟩
      have e2 := same_new (o := .tup []) hq
      refine k _ _ (((e1.trans (same_new hp)).trans e2).trans (same_new ht)) (.tup (SqT.of upd_same) (.cons ?_ (.cons ?_ (.cons ?_ .nil))))
      · exact tupI_of (ns := []) (SqT.of ((same_new ht) _ _ upd_same))
      · exact tupI_of (SqT.of ((e2.trans (same_new ht)) _ _ upd_same))
      · exact tupI_of (SqT.of ((e2.trans (same_new ht)) _ _ upd_same))
end
end MW

/-! next_node, settled, nodes_behind. -/
namespace MW
open PySem PySem.Spec PyProof.Rows L2
open MS (ws free begs perms lineup own owns hldL hldOf fstOf pick Bagged mem_ws mem_perms mem_lineup mem_free Nd hAt fAt nxt st0 settle)

/-- the first i of z, then h -/
def mixL (z h : List Int) (i : Nat) : List Int := z.take i ++ h.drop i
theorem mix_zero (z h : List Int) : mixL z h 0 = h := rfl
theorem mix_all {z h : List Int} (e : z.length = h.length) : mixL z h h.length = z := by
  unfold mixL
  rw [List.drop_length, List.append_nil, ← e, List.take_length]
theorem mix_len {z h : List Int} (e : z.length = h.length) (i : Nat) : (mixL z h i).length = h.length := by
  unfold mixL
  rw [List.length_append, List.length_take, List.length_drop]
  omega
theorem mix_get {z h : List Int} (e : z.length = h.length) {i : Nat} (hi : i < h.length) : (mixL z h i)[i]? = h[i]? := by
  unfold mixL
  rw [List.getElem?_append_right (by rw [List.length_take]; omega), List.length_take, Nat.min_eq_left (by omega), Nat.sub_self, List.getElem?_drop, Nat.add_zero]
theorem mix_set {z h : List Int} (e : z.length = h.length) {i : Nat} (hi : i < h.length) {v : Int} (hv : z[i]? = some v) : (mixL z h i).set i v = mixL z h (i + 1) := by
  refine List.ext_getElem? fun j => ?_
  unfold mixL
  rw [List.getElem?_set, List.getElem?_append, List.getElem?_append, List.length_append, List.length_take, List.length_take, List.length_drop, Nat.min_eq_left (by omega), Nat.min_eq_left (by omega)]
  by_cases c : i = j
  · subst c
    rw [if_pos rfl, if_pos (by omega), if_pos (by omega), List.getElem?_take, if_pos (by omega), hv]
  · rw [if_neg c]
    by_cases c2 : j < i
    · rw [if_pos c2, if_pos (by omega), List.getElem?_take, if_pos c2, List.getElem?_take, if_pos (by omega)]
    · rw [if_neg c2, if_neg (by omega), List.getElem?_drop, List.getElem?_drop]
      congr 1
      omega
theorem mix_same {z h : List Int} (e : z.length = h.length) {i : Nat} (hi : i < h.length) (hv : z[i]? = h[i]?) : mixL z h i = mixL z h (i + 1) := by
  have hz : z[i]? = some z[i] := List.getElem?_eq_getElem (by omega)
  rw [← mix_set e hi hz]
  refine (List.ext_getElem? fun j => ?_).symm
  rw [List.getElem?_set]
  by_cases c : i = j
  · subst c
    rw [if_pos rfl, if_pos (by rw [mix_len e]; exact hi), mix_get e hi, ← hv, hz]
  · rw [if_neg c]
theorem map_set_int (l : List Int) (i : Nat) (v : Int) : (l.map V.int).set i (V.int v) = (l.set i v).map V.int := by rw [List.map_set]
theorem ixN_at {n i : Nat} (h : i < n) : ixN n (i : Int) = some i := by
  unfold ixN
  rw [if_pos (by omega)]
  have : ((i : Nat) : Int).toNat = i := by omega
  rw [this]
  first | rw [if_pos (by omega)] | simp [h]
/-- one way for what several paths come to: G is found at the first of them -/
theorem via {I G : Hp → Prop} {A : Prop} (a : (∀ H, I H → G H) → A) (b : ∀ H, I H → G H) : A := a b
def spNext (K : PySem.W.Frag) (CC CS : Addr) : Sp := fun vs H Q _ => ∃ (x y z u : V) (cs : List (Str × Str)) (rs : List Rul) (ys : List (List Int)) (nd : Nd) (w : Int), vs = [x, y, z, u, .int w] ∧ CrewAt K CC H x cs ∧ SchAt K CS H y rs ∧ YdAt K H z ys cs.length ∧ Dp K H u (ndD nd) ∧
  NdOk cs.length ys.length nd ∧ w ∈ ws cs.length ∧ ∀ v H', Same H H' → Dp K H' v (ndD (nxt (tkM cs rs) ys nd w)) → Q v H'
section
variable {P : Program} {w : World} {K : PySem.W.Frag} {mg : Str → Option Value} {base : Heap} {C CS : Addr}
theorem zip_get {f : List Int → Int → Int} {ys : List (List Int)} {hs : List Int} {i : Nat} {y : List Int} {h : Int} (h1 : ys[i]? = some y) (h2 : hs[i]? = some h) : (List.zipWith f ys hs)[i]? = some (f y h) := by
  rw [List.getElem?_zipWith, h1, h2]
theorem dp_nd {H : Hp} {v : V} {nd : Nd} (h : Dp K H v (ndD nd)) : ∃ t a b c, v = .ref t ∧ SqT K H t [.ref a, .ref b, .ref c] ∧ SqT K H a (nd.pl.map V.int) ∧ SqT K H b (nd.hd.map V.int) ∧ SqT K H c (nd.fs.map V.int) := by
  obtain ⟨t, x, y, z, rfl, ht, hx, hy, hz⟩ := dp_tup3 h
  obtain ⟨a, rfl, ha⟩ := dp_tupI hx
  obtain ⟨b, rfl, hb⟩ := dp_tupI hy
  obtain ⟨c, rfl, hc⟩ := dp_tupI hz
  exact ⟨t, a, b, c, rfl, ht, ha, hb, hc⟩
abbrev nNext : List Str := ["crew", "scheme", "yards", "node", "worker", "placed", "held", "firsts", "make", "at", "yard", "seen", "other"]
theorem sc_next : FnScope nNext ["crew", "scheme", "yards", "node", "worker"] (defScope sNext) := ⟨rfl, rfl, rfl, by decide +kernel, rfl, by decide +kernel, by decide +kernel⟩
theorem ok_next {f : Addr} {fd : FuncData} (F : Fun K "next_node" "next_node" sNext f fd) (B : Bi mg) (F1 : Mt P w K mg base 1 C "make_of" (spMakeOf K C)) (F2 : Mt P w K mg base 3 CS "takes" (spTakes K CS)) :
    FnOk P w K mg base CX0 4 f fd ["crew", "scheme", "yards", "node", "worker"] (spNext K C CS) := by
  refine F.ok sc_next (fun vs H Q E h => ?_) (fun cdv A outer s H vs Q E hr h => ?_)
  · obtain ⟨x, y, z, u, cs, rs, ys, nd, w, rfl, _⟩ := h
    rfl
  · obtain ⟨x, y, z, u, cs, rs, ys, nod, wk, rfl, hc, hs, ⟨hyd, hy1, hy8, hyg⟩, hn, ok, hw, k⟩ := h
    have nd := sc_next.nd
    have hc6 : cs.length ≤ 6 := (id hc).elim fun _ ⟨_, _, _, _, _, _, h6⟩ => h6
    obtain ⟨na, pa, pb, pc, rfl, hna, hpa, hpb, hpc⟩ := dp_nd hn
    obtain ⟨la, xs, rfl, hla, hxs⟩ := dp_lst hyd
    have hlen : xs.length = ys.length := by rw [dps_len hxs, List.length_map]
    have hpl := ok.len
    refine ⟨_, pss_cons (ps_par3 (i := 5) (j := 6) (l := 7) rfl nd rfl rfl rfl (by decide) (by decide) (by decide) rfl rfl rfl
        (pa_cons (pe_callTy call_list_of (by rfl) B.list (by decide +kernel) (pa_cons (pe_ix ix_tup (pv 3) pe_int (fun _ _ => rfl)) pa_nil))
        (pa_cons (pe_callTy call_list_of (by rfl) B.list (by decide +kernel) (pa_cons (pe_ix ix_tup (pv 3) pe_int (fun _ _ => rfl)) pa_nil))
        (pa_cons (pe_callTy call_list_of (by rfl) B.list (by decide +kernel) (pa_cons (pe_ix ix_tup (pv 3) pe_int (fun _ _ => rfl)) pa_nil)) pa_nil))) (by rfl))
      (pss_cons (ps_set (i := 8) nd rfl (Or.inl rfl) (pe_m F1 hr (by decide) (pv 0) (pa_cons (pv 4) pa_nil)))
      (pss_cons (ps_for PassesOwn.never rfl (pi_enum (by rfl) B.enumerate (pa_cons (pv 2) pa_nil)) (pg_tup rfl (pgs_cons (pg_name (i := 9) nd rfl (Or.inl rfl)) (pgs_cons (pg_name (i := 10) nd rfl (Or.inr rfl)) pgs_nil)))
        (pss_one (ps_if (pt_cmpR op_in_seq (pv 4) (pv 10) (by rfl))
          (pss_cons (ps_setLc (i := 11) (own := [("other", 12)]) (g := gName 12) rfl nd rfl rfl (sw_true rfl rfl rfl (by decide +kernel)) (pi_list (pv 5)) (blkOk_by (own := [("other", 12)]) (N := nNext) (sc := defScope sNext) (by decide +kernel)) (fun _ _ _ _ _ => pg_name (i := 12) nd rfl (Or.inl rfl))
              (fun _ _ _ _ _ => pts_one (pt_cmpR (in_seqK K) (pv 12) (pv 10) (by rfl))) (fun _ _ _ _ _ => pe_m F1 hr (by decide) (pv 0) (pa_cons (pv 12) pa_nil)))
          (pss_cons (ps_if (PW.pt (pw_and (pt_cmpR op_eq (pe_ix ix_list (pv 6) (pv 9) (fun _ _ => rfl)) (pe_un un_neg pe_int) (nomark _)) (pw_and1 (pt_val (pe_m F2 hr (by decide) (pv 1) (pa_cons (pv 8) (pa_cons (pv 11) pa_nil)))))))
              (pss_one (ps_asg (pv 4) (pg_sub (pv 6) (pv 9) set_list))) pss_nil)
          (pss_one (ps_if (pt_cmpR op_eq (pe_ix ix_list (pv 7) (pv 9) (fun _ _ => rfl)) (pe_un un_neg pe_int) (nomark _)) (pss_one (ps_asg (pv 4) (pg_sub (pv 7) (pv 9) set_list))) pss_nil)))) pss_nil)))
      (pss_one (ps_ret (pe_tup (pa_cons (pe_callTy call_tuple_of (by rfl) B.tuple (by decide +kernel) (pa_cons (pe_callB cr_sorted (by rfl) B.sorted (by decide +kernel) (pa_cons (pe_op op_cat (pv 5) (pe_lst (pa_cons (pv 4) pa_nil))) pa_nil)) pa_nil))
        (pa_cons (pe_callTy call_tuple_of (by rfl) B.tuple (by decide +kernel) (pa_cons (pv 6) pa_nil))
        (pa_cons (pe_callTy call_tuple_of (by rfl) B.tuple (by decide +kernel) (pa_cons (pv 7) pa_nil)) pa_nil)))))))), ?_⟩
    -- placed, held, firsts
    refine ⟨_, rfl, na, _, 0, _, rfl, rfl, hna, rfl, pa, _, rfl, .inr hpa, fun p1 hp1 => ?_⟩
    have e1 := same_new (o := .lst (nod.pl.map V.int)) hp1
    refine ⟨_, rfl, na, _, 1, _, rfl, rfl, same_seqT e1 hna, rfl, pb, _, rfl, .inr (same_seqT e1 hpb), fun p2 hp2 => ?_⟩
    have e2 := e1.trans (same_new (o := .lst (nod.hd.map V.int)) hp2)
    refine ⟨_, rfl, na, _, 2, _, rfl, rfl, same_seqT e2 hna, rfl, pc, _, rfl, .inr (same_seqT e2 hpc), fun p3 hp3 => ?_⟩
    have e3 := e2.trans (same_new (o := .lst (nod.fs.map V.int)) hp3)
    refine ⟨_, _, _, rfl, ?_⟩
    have n2 : H p2 = none := none_back e1 hp2
    have n3 : H p3 = none := none_back e2 hp3
    have d12 : p1 ≠ p2 := ne_of_none upd_same hp2
    have d13 : p1 ≠ p3 := ne_of_none ((same_new hp2) _ _ upd_same) hp3
    have d23 : p2 ≠ p3 := ne_of_none upd_same hp3
    -- make
    have hc3 := hc.same e3
    obtain ⟨ca, cdx, clw, rfl, hca, _⟩ := id hc3
    refine ⟨_, rfl, ca, cdx, _, rfl, hca, by rw [lk_by (by decide +kernel)]; rfl, _, rfl, V.ref ca, cs, wk, rfl, hc3, hw, fun H4 e4 => ?_⟩
    have e04 := e3.trans e4
    have i1 : H4 p1 = some (.lst (nod.pl.map V.int)) := e4 _ _ (by rw [upd_ne d13, upd_ne d12]; exact upd_same)
    have i2 : H4 p2 = some (.lst (nod.hd.map V.int)) := e4 _ _ (by rw [upd_ne d23]; exact upd_same)
    have i3 : H4 p3 = some (.lst (nod.fs.map V.int)) := e4 _ _ upd_same
    have lz : (List.zipWith (hAt (tkM cs rs) nod.pl wk) ys nod.hd).length = nod.hd.length := by rw [List.length_zipWith, ok.h, Nat.min_self]
    have lf : (List.zipWith (fAt wk) ys nod.fs).length = nod.fs.length := by rw [List.length_zipWith, ok.f, Nat.min_self]
    refine ⟨_, rfl, la, _, rfl, e04.seq hla, for_it walk_enum (fun i σ H' => ∃ v9 v10 v11 : Option V, σ = [some (.ref ca), some y, some (.ref la), some (.ref na), some (.int wk), some (.ref p1), some (.ref p2), some (.ref p3), some (.str (mkOf cs wk)), v9, v10, v11, none] ∧ Same H H' ∧
        H' p1 = some (.lst (nod.pl.map V.int)) ∧ H' p2 = some (.lst ((mixL (List.zipWith (hAt (tkM cs rs) nod.pl wk) ys nod.hd) nod.hd i).map V.int)) ∧ H' p3 = some (.lst ((mixL (List.zipWith (fAt wk) ys nod.fs) nod.fs i).map V.int)))
      ⟨none, none, none, rfl, e04, i1, i2, i3⟩ (fun i σ H' _ ⟨_, _, _, _, e, _⟩ => e.seq hla) ?_ ?_⟩
    · rintro i v σ H5 H6 hi ⟨v9, v10, v11, rfl, e05, j1, j2, j3⟩ ⟨T, a1, b1, rfl, hT, rfl, h1, h2⟩
      cases h1
      obtain ⟨yd, hyi, hd⟩ := dps_all hxs h2
      have hi' : i < ys.length := by omega
      have e56 := same_new (o := .tup [.int (i : Nat), b1]) hT
      have e06 := e05.trans e56
      have nT1 : p1 ≠ T := ne_of_none j1 hT
      have nT2 : p2 ≠ T := ne_of_none j2 hT
      have nT3 : p3 ≠ T := ne_of_none j3 hT
      obtain ⟨ta, rfl, hta⟩ := dp_tupI (dp_same e06 hd)
      refine ⟨T, _, rfl, SqT.of upd_same, rfl, _, _, rfl, _, _, rfl, rfl, ?_⟩
      obtain ⟨hv, hhv⟩ : ∃ hv, nod.hd[i]? = some hv := ⟨nod.hd[i]'(by rw [ok.h]; exact hi'), List.getElem?_eq_getElem _⟩
      obtain ⟨fv, hfv⟩ : ∃ fv, nod.fs[i]? = some fv := ⟨nod.fs[i]'(by rw [ok.f]; exact hi'), List.getElem?_eq_getElem _⟩
      have zh := zip_get (f := hAt (tkM cs rs) nod.pl wk) hyi hhv
      have zf := zip_get (f := fAt wk) hyi hfv
      refine ⟨_, rfl, _, rfl, ta, _, rfl, .inr hta, rfl, flatV_ints yd, decide (wk ∈ yd), ?_, ?_⟩
      · show V.bl (inV (V.int wk) (yd.map V.int)) = _
        rw [inV_ints]
      by_cases hin : wk ∈ yd
      · rw [decide_eq_true hin]
        refine iteT ?_
        -- seen
        refine ⟨_, rfl, p1, rfl, ⟨_, SqL.of (e56 _ _ j1)⟩, fun D hD => lc_data (K := K) walk_list (fun j => decide (nod.pl.getD j 0 ∈ yd)) (fun j => .str (mkOf cs (nod.pl.getD j 0))) (fun _ _ => rfl) (by rw [List.length_map]; omega) hD (fun H' e => SqL.of (e _ _ (e56 _ _ j1))) ?_ ?_⟩
        · rintro j v2 H7 H8 hj e67 ⟨rfl, hv2⟩
          obtain ⟨n, hn2, rfl⟩ := map_get hv2
          have en : nod.pl.getD j 0 = n := getD_of hn2
          refine ⟨Same.refl _, _, eg_name, rfl, ?_, ?_⟩
          · intro Q' q
            rw [en] at q
            refine ⟨_, rfl, _, rfl, ta, _, rfl, .inr (same_seqT e67 hta), rfl, flatV_ints yd, decide (n ∈ yd), ?_, q _ _ ⟨rfl, Same.refl _⟩⟩
            show V.bl (inV (V.int n) (yd.map V.int)) = _
            rw [inV_ints]
          · intro _ H9 e9 Q' q
            rw [en] at q
            have hc9 := hc.same ((e06.trans e67).trans e9)
            obtain ⟨ca', cdx', _, h10, hca', _⟩ := id hc9
            cases h10
            exact ⟨_, rfl, ca, cdx', _, rfl, hca', by rw [lk_by (by decide +kernel)]; rfl, _, rfl, V.ref ca, cs, n, rfl, hc9, ok.s n (List.mem_of_getElem? hn2), fun H10 e10 => q _ _ ⟨e10, .str _⟩⟩
        · intro H7 acc e67 hacc hda
          rw [List.length_map, keptD_list nod.pl 0 (fun n => decide (n ∈ yd)) (fun n => PyData.str (mkOf cs n))] at hda
          have hmm : (nod.pl.filter fun n => decide (n ∈ yd)).map (fun n => PyData.str (mkOf cs n)) = ((nod.pl.filter fun n => decide (n ∈ yd)).map (mkOf cs)).map PyData.str := by rw [List.map_map]; rfl
          rw [hmm] at hda
          obtain rfl := dps_strs' hda
          have e07 := e06.trans e67
          have j17 := e67 _ _ (e56 _ _ j1)
          have j27 := e67 _ _ (e56 _ _ j2)
          have j37 := e67 _ _ (e56 _ _ j3)
          have g2 := mix_get lz (i := i) (by rw [ok.h]; exact hi')
          rw [hhv] at g2
          have g3 := mix_get lf (i := i) (by rw [ok.f]; exact hi')
          rw [hfv] at g3
          have m2 : ((mixL (List.zipWith (hAt (tkM cs rs) nod.pl wk) ys nod.hd) nod.hd i).map V.int)[i]? = some (V.int hv) := by rw [List.getElem?_map, g2]; rfl
          have m3 : ((mixL (List.zipWith (fAt wk) ys nod.fs) nod.fs i).map V.int)[i]? = some (V.int fv) := by rw [List.getElem?_map, g3]; rfl
          -- the firsts, from any heap behind the held
          have hs7 := hs.same e07
          obtain ⟨sa, sdx, _, rfl, hsa, _⟩ := id hs7
          apply via (I := fun H8 => Same H H8 ∧ H8 p1 = some (.lst (nod.pl.map V.int)) ∧ H8 p2 = some (.lst ((mixL (List.zipWith (hAt (tkM cs rs) nod.pl wk) ys nod.hd) nod.hd (i + 1)).map V.int)) ∧ H8 p3 = some (.lst ((mixL (List.zipWith (fAt wk) ys nod.fs) nod.fs i).map V.int)))
          · intro rest
            refine ⟨_, rfl, _, rfl, p2, _, (i : Int), _, rfl, rfl, SqL.of j27, atI_nat m2, _, rfl, rfl, _, rfl, ?_⟩
            rw [dec_int]
            by_cases c : hv = -1
            · rw [decide_eq_true c]
              refine iteT ?_
              refine ⟨_, rfl, sa, sdx, _, rfl, hsa, by rw [lk_by (by decide +kernel)]; rfl, _, rfl, _, rfl, V.ref sa, _, rs, mkOf cs wk, (nod.pl.filter fun n => decide (n ∈ yd)).map (mkOf cs), rfl, hs7, .lst (SqL.of hacc) (dps_strs _), ?_, fun H8 e8 => ⟨_, rfl, ?_⟩⟩
              · rw [List.length_map]
                have := List.length_filter_le (fun n => decide (n ∈ yd)) nod.pl
                omega
              have hz : (List.zipWith (hAt (tkM cs rs) nod.pl wk) ys nod.hd)[i]? = some (if takesR rs (mkOf cs wk) ((nod.pl.filter fun n => decide (n ∈ yd)).map (mkOf cs)) = true then wk else hv) := by
                rw [zh]
                unfold hAt
                by_cases t : takesR rs (mkOf cs wk) ((nod.pl.filter fun n => decide (n ∈ yd)).map (mkOf cs)) = true
                · rw [if_pos t, if_pos ⟨hin, c, t⟩]
                · rw [if_neg t, if_neg fun z => t z.2.2]
              cases ht : takesR rs (mkOf cs wk) ((nod.pl.filter fun n => decide (n ∈ yd)).map (mkOf cs)) with
              | false =>
                rw [ht, if_neg Bool.false_ne_true, ← hhv] at hz
                refine iteF (rest H8 ⟨e07.trans e8, e8 _ _ j17, ?_, e8 _ _ j37⟩)
                rw [← mix_same lz (by rw [ok.h]; exact hi') hz]
                exact e8 _ _ j27
              | true =>
                rw [ht, if_pos rfl] at hz
                refine iteT ⟨_, rfl, _, rfl, _, rfl, p2, _, (i : Int), i, rfl, rfl, e8 _ _ j27, ixN_at (by rw [List.length_map, mix_len lz, ok.h]; exact hi'), rest _ ⟨same_mut (e07.trans e8) n2, ?_, ?_, ?_⟩⟩
                · rw [upd_ne d12]
                  exact e8 _ _ j17
                · rw [map_set_int, mix_set lz (by rw [ok.h]; exact hi') hz]
                  exact upd_same
                · rw [upd_ne (Ne.symm d23)]
                  exact e8 _ _ j37
            · rw [decide_eq_false c]
              refine iteF (rest _ ⟨e07, j17, ?_, j37⟩)
              rw [← mix_same lz (by rw [ok.h]; exact hi') (by rw [zh, hhv]; unfold hAt; rw [if_neg fun z => c z.2.1])]
              exact j27
          · rintro H8 ⟨e8, a1, a2, a3⟩
            refine ⟨_, rfl, _, rfl, p3, _, (i : Int), _, rfl, rfl, SqL.of a3, atI_nat m3, _, rfl, rfl, _, rfl, ?_⟩
            rw [dec_int]
            by_cases c : fv = -1
            · rw [decide_eq_true c]
              refine iteT ⟨_, rfl, _, rfl, _, rfl, p3, _, (i : Int), i, rfl, rfl, a3, ixN_at (by rw [List.length_map, mix_len lf, ok.f]; exact hi'), _, _, _, rfl, same_mut e8 n3, ?_, ?_, ?_⟩
              · rw [upd_ne d13]
                exact a1
              · rw [upd_ne d23]
                exact a2
              · rw [map_set_int, mix_set lf (by rw [ok.f]; exact hi') (by rw [zf]; unfold fAt; rw [if_pos ⟨hin, c⟩])]
                exact upd_same
            · rw [decide_eq_false c]
              refine iteF ⟨_, _, _, rfl, e8, a1, a2, ?_⟩
              rw [← mix_same lf (by rw [ok.f]; exact hi') (by rw [zf, hfv]; unfold fAt; rw [if_neg fun z => c z.2])]
              exact a3
      · rw [decide_eq_false hin]
        refine iteF ⟨_, _, _, rfl, e06, e56 _ _ j1, ?_, ?_⟩
        · rw [← mix_same lz (by rw [ok.h]; exact hi') (by rw [zh, hhv]; unfold hAt; rw [if_neg fun z => hin z.1])]
          exact e56 _ _ j2
        · rw [← mix_same lf (by rw [ok.f]; exact hi') (by rw [zf, hfv]; unfold fAt; rw [if_neg fun z => hin z.1])]
          exact e56 _ _ j3
    · rintro σ H5 ⟨v9, v10, v11, rfl, e05, j1, j2, j3⟩
      rw [hlen, ← ok.h, mix_all lz] at j2
      rw [hlen, ← ok.f, mix_all lf] at j3
      refine ⟨_, rfl, _, rfl, small_le (show 1 ≤ 100000 by decide), fun q hq => ?_⟩
      have f1 := same_new (o := .lst [V.int wk]) hq
      refine ⟨p1, q, _, [V.int wk], rfl, rfl, f1 _ _ j1, upd_same, small_le (by rw [List.length_map]; show nod.pl.length + 1 ≤ _; omega), fun q2 hq2 => ?_⟩
      have hap : nod.pl.map V.int ++ [V.int wk] = (nod.pl ++ [wk]).map V.int := by rw [List.map_append]; rfl
      rw [hap]
      have f2 := f1.trans (same_new (o := .lst ((nod.pl ++ [wk]).map V.int)) hq2)
      refine ⟨q2, nod.pl ++ [wk], rfl, SqL.of upd_same, by rw [List.length_append]; show nod.pl.length + 1 < 64; omega, fun ns q3 perm so hq3 => ?_⟩
      have hns : ns = MS.srt (nod.pl ++ [wk]) := MS.srt_is perm so
      subst hns
      have f3 := f2.trans (same_new (o := .lst ((MS.srt (nod.pl ++ [wk])).map V.int)) hq3)
      refine ⟨q3, _, rfl, .inl ⟨SqL.of upd_same, fun q4 hq4 => ?_⟩⟩
      have f34 := same_new (o := .tup ((MS.srt (nod.pl ++ [wk])).map V.int)) hq4
      have f4 := f3.trans f34
      refine ⟨_, rfl, p2, _, rfl, .inl ⟨SqL.of (f4 _ _ j2), fun q5 hq5 => ?_⟩⟩
      have f45 := same_new (o := .tup ((List.zipWith (hAt (tkM cs rs) nod.pl wk) ys nod.hd).map V.int)) hq5
      have f5 := f4.trans f45
      refine ⟨_, rfl, p3, _, rfl, .inl ⟨SqL.of (f5 _ _ j3), fun q6 hq6 => ?_⟩⟩
      have f56 := same_new (o := .tup ((List.zipWith (fAt wk) ys nod.fs).map V.int)) hq6
      refine ⟨small_le (show 3 ≤ 100000 by decide), fun q7 hq7 => ?_⟩
      have f67 := same_new (o := .tup [V.ref q4, V.ref q5, V.ref q6]) hq7
      refine k _ _ (e05.trans ((f5.trans f56).trans f67)) (.tup (SqT.of upd_same) (.cons ?_ (.cons ?_ (.cons ?_ .nil))))
      · exact tupI_of (SqT.of (((f45.trans f56).trans f67) _ _ upd_same))
      · exact tupI_of (SqT.of ((f56.trans f67) _ _ upd_same))
      · exact tupI_of (SqT.of (f67 _ _ upd_same))
end
end MW

/-! settled, nodes_behind. -/
namespace MW
open PySem PySem.Spec PyProof.Rows L2
open MS (ws free begs perms lineup own owns hldL hldOf fstOf pick Bagged mem_ws mem_perms mem_lineup mem_free Nd hAt fAt nxt st0 settle)

theorem walk_zipT {K : PySem.W.Frag} {a b : Addr} {xs ys : List V} {n : Nat} (hn : n = min xs.length ys.length) : Walk (RZ.ItzT K a b) n (fun H => SqT K H a xs ∧ SqT K H b ys) (YPair (fun i => xs[i]?) (fun i => ys[i]?)) := by
  subst hn
  refine ⟨fun i _ hi q => ?_, fun _ q => ⟨xs, ys, q.1, q.2, by omega⟩, fun i H v H' _ q y => ?_⟩
  · have h1 : i < xs.length := by omega
    have h2 : i < ys.length := by omega
    exact ⟨xs, ys, xs[i], ys[i], q.1, q.2, by simp [h1], by simp [h2]⟩
  · obtain ⟨T, x, z, h1, h2, h3, h4, h5⟩ := y
    exact ⟨T, x, z, h1, h2, h3, h4 xs q.1, h5 ys q.2⟩
def spSettled (K : PySem.W.Frag) : Sp := fun vs H Q _ => ∃ (x : V) (nd : Nd), vs = [x] ∧ Dp K H x (ndD nd) ∧ nd.hd.length = nd.fs.length ∧ nd.fs.length ≤ 8 ∧ ∀ a H', Same H H' → H' a = some (.tup ((settle nd).map V.int)) → Q (.ref a) H'
def bhD (tk : Int → List Int → Bool) (ys : List (List Int)) (nd : Nd) (w : Int) : PyData := .tuple [.int w, ndD (nxt tk ys nd w)]
def spBehind (K : PySem.W.Frag) (CC CS : Addr) : Sp := fun vs H Q _ => ∃ (x y z u : V) (cs : List (Str × Str)) (rs : List Rul) (ys : List (List Int)) (nd : Nd), vs = [x, y, z, u] ∧ CrewAt K CC H x cs ∧ SchAt K CS H y rs ∧ YdAt K H z ys cs.length ∧ Dp K H u (ndD nd) ∧
  NdOk cs.length ys.length nd ∧ ∀ v H', Same H H' → Dp K H' v (.list ((free cs.length nd.pl).map (bhD (tkM cs rs) ys nd))) → Q v H'
section
variable {P : Program} {w : World} {K : PySem.W.Frag} {mg : Str → Option Value} {base : Heap} {C CS : Addr}
abbrev nSettled : List Str := ["node", "worker", "first"]
theorem sc_settled : FnScope nSettled ["node"] (defScope sSettled) := ⟨rfl, rfl, rfl, by decide +kernel, rfl, by decide +kernel, by decide +kernel⟩
theorem ok_settled {f : Addr} {fd : FuncData} (F : Fun K "settled" "settled" sSettled f fd) (B : Bi mg) : FnOk P w K mg base CX0 1 f fd ["node"] (spSettled K) := by
  refine F.ok sc_settled (fun vs H Q E h => ?_) (fun cdv A outer s H vs Q E hr h => ?_)
  · obtain ⟨x, ys, rfl, _⟩ := h
    rfl
  · obtain ⟨x, nod, rfl, hx, hl, h8, k⟩ := h
    obtain ⟨na, pa, pb, pc, rfl, hna, hpa, hpb, hpc⟩ := dp_nd hx
    have nd := sc_settled.nd
    refine ⟨_, pss_one (ps_ret (pe_callTy call_tuple_of (by rfl) B.tuple (by decide +kernel) (pa_cons (pe_lc (own := [("worker", 1), ("first", 2)]) (g := gTup K 2 (gCons (gName 1) (gCons (gName 2) gNil))) (tt := tYes) rfl nd
        (RZ.pi_zipA (by rfl) B.zip (pa_cons (pe_ix ix_tup (pv 0) pe_int (fun _ _ => rfl)) (pa_cons (pe_ix ix_tup (pv 0) pe_int (fun _ _ => rfl)) pa_nil)))
        (blkOk_by (own := [("worker", 1), ("first", 2)]) (N := nSettled) (sc := defScope sSettled) (by decide +kernel)) (fun _ _ _ _ _ => pg_tup rfl (pgs_cons (pg_name (i := 1) nd rfl (Or.inl rfl)) (pgs_cons (pg_name (i := 2) nd rfl (Or.inl rfl)) pgs_nil)))
        (fun _ _ _ _ _ => pts_nil) (fun _ _ _ _ _ => pe_ifExp (pt_cmpR op_eq (pv 1) (pe_un un_neg pe_int) (nomark _)) (pv 2) (pv 1))) pa_nil))), ?_⟩
    have hw := walk_zipT (K := K) (a := pb) (b := pc) (xs := nod.hd.map V.int) (ys := nod.fs.map V.int) (n := nod.fs.length) (by rw [List.length_map, List.length_map, hl, Nat.min_self])
    refine ⟨_, rfl, na, _, 1, _, rfl, rfl, hna, rfl, _, rfl, na, _, 2, _, rfl, rfl, hna, rfl, pb, pc, _, _, rfl, .inr ⟨hpb, hpc, fun D hD => lc_data (K := K) hw (fun _ => true) (fun i => .int ((settle nod).getD i 0)) (fun i _ => rfl) (by omega) hD (fun H' e => ⟨same_seqT e hpb, same_seqT e hpc⟩) ?_ ?_⟩⟩
    · rintro i v H1 H' hi e ⟨T, a1, b1, rfl, hT, rfl, h1, h2⟩
      obtain ⟨hv, hhv, rfl⟩ := map_get h1
      obtain ⟨fv, hfv, rfl⟩ := map_get h2
      refine ⟨same_new hT, _, eg_pair (SqT.of upd_same), rfl, et_yes.weak fun b' H3 h3 => ⟨h3.1, h3.2 ▸ Same.refl _⟩, fun _ H3 e3 Q' q => ?_⟩
      have hs : (settle nod).getD i 0 = pick hv fv := by
        refine getD_of ?_
        unfold MS.settle
        rw [List.getElem?_zipWith, hhv, hfv]
      rw [hs] at q
      refine ⟨_, rfl, _, rfl, rfl, _, rfl, ?_⟩
      rw [dec_int]
      unfold pick at q
      by_cases c : hv = -1
      · rw [if_pos c] at q
        rw [decide_eq_true c]
        exact iteT ⟨_, rfl, q _ _ ⟨Same.refl _, .int _⟩⟩
      · rw [if_neg c] at q
        rw [decide_eq_false c]
        exact iteF ⟨_, rfl, q _ _ ⟨Same.refl _, .int _⟩⟩
    · intro H3 acc e3 hacc hda
      have hsl : (settle nod).length = nod.fs.length := by
        unfold MS.settle
        rw [List.length_zipWith, hl, Nat.min_self]
      rw [← hsl, mapD_list (settle nod) 0 PyData.int] at hda
      obtain rfl := dps_ints' hda
      exact ⟨D, _, rfl, .inl ⟨SqL.of hacc, fun p hp => k _ _ (e3.trans (same_new hp)) upd_same⟩⟩
abbrev nBehind : List Str := ["crew", "scheme", "yards", "node", "free", "worker"]
theorem sc_behind : FnScope nBehind ["crew", "scheme", "yards", "node"] (defScope sBehind) := ⟨rfl, rfl, rfl, by decide +kernel, rfl, by decide +kernel, by decide +kernel⟩
theorem dps_ints2 {H : Hp} {f : Nat → Int} : ∀ ls : List Nat, DpAll K H ((ls.map f).map V.int) (ls.map fun i => PyData.int (f i))
  | [] => .nil
  | _ :: r => .cons (.int _) (dps_ints2 r)
theorem free_kept (n : Nat) (pl : List Int) : keptD n (fun i => decide ((i : Int) ∉ pl)) (fun i => PyData.int (i : Int)) = (free n pl).map PyData.int := by
  unfold keptD free ws
  rw [List.filter_map, List.map_map]
  rfl
theorem free_le (n : Nat) (pl : List Int) : (free n pl).length ≤ n := by
  have := List.length_filter_le (fun w => decide (w ∉ pl)) (ws n)
  rw [MS.ws_length] at this
  exact this
theorem flatDs_ints' : ∀ ns : List Int, flatDs (ns.map PyData.int) = true := flatDs_ints
theorem flat_nd (nd : Nd) : flatD (ndD nd) = true := by
  show flatDs [tupI nd.pl, tupI nd.hd, tupI nd.fs] = true
  show (flatD (tupI nd.pl) && (flatD (tupI nd.hd) && (flatD (tupI nd.fs) && true))) = true
  rw [flat_tupI, flat_tupI, flat_tupI]
  rfl
theorem flat_bh (tk : Int → List Int → Bool) (ys : List (List Int)) (nd : Nd) (w : Int) : flatD (bhD tk ys nd w) = true := by
  show (true && (flatD (ndD (nxt tk ys nd w)) && true)) = true
  rw [flat_nd]
  rfl
theorem ok_behind {f : Addr} {fd : FuncData} (F : Fun K "nodes_behind" "nodes_behind" sBehind f fd) (B : Bi mg) (L : LenOf P w K mg base 1 C (spLen K C)) (F1 : Fn P w K mg base 4 "next_node" (spNext K C CS)) :
    FnOk P w K mg base CX0 5 f fd ["crew", "scheme", "yards", "node"] (spBehind K C CS) := by
  refine F.ok sc_behind (fun vs H Q E h => ?_) (fun cdv A outer s H vs Q E hr h => ?_)
  · obtain ⟨x, y, z, u, cs, rs, ys, nd, rfl, _⟩ := h
    rfl
  · obtain ⟨x, y, z, u, cs, rs, ys, nod, rfl, hc, hs, hy, hn, ok, k⟩ := h
    have nd := sc_behind.nd
    have hc6 : cs.length ≤ 6 := (id hc).elim fun _ ⟨_, _, _, _, _, _, h6⟩ => h6
    refine ⟨_, pss_cons (ps_setLc (i := 4) (own := [("worker", 5)]) (g := gName 5) rfl nd rfl rfl (sw_true rfl rfl rfl (by decide +kernel)) (pi_range1 rfl B.range (pa_cons (pe_callB (cr_lenO L (hr.mono (by decide))) (by rfl) B.len PySem.boot_len (pa_cons (pv 0) pa_nil)) pa_nil))
        (blkOk_by (own := [("worker", 5)]) (N := nBehind) (sc := defScope sBehind) (by decide +kernel)) (fun _ _ _ _ _ => pg_name (i := 5) nd rfl (Or.inl rfl))
        (fun _ _ _ _ _ => pts_one (pt_cmpR (notIn_seqK K) (pv 5) (pe_ix (ix_tupK K) (pv 3) pe_int (fun _ _ => rfl)) (by rfl))) (fun _ _ _ _ _ => pv 5))
      (pss_one (ps_ret (pe_lc (own := [("worker", 5)]) (g := gName 5) (tt := tYes) rfl nd (pi_list (pv 4)) (blkOk_by (own := [("worker", 5)]) (N := nBehind) (sc := defScope sBehind) (by decide +kernel)) (fun _ _ _ _ _ => pg_name (i := 5) nd rfl (Or.inl rfl))
        (fun _ _ _ _ _ => pts_nil) (fun _ _ _ _ _ => pe_tup (pa_cons (pv 5) (pa_cons (pe_fn F1 hr (by decide) (pa_cons (pv 0) (pa_cons (pv 1) (pa_cons (pv 2) (pa_cons (pv 3) (pa_cons (pv 5) pa_nil)))))) pa_nil)))))), ?_⟩
    refine ⟨_, rfl, len_use hc fun H1 e1 => ⟨_, rfl, by omega, by omega, fun D hD => ?_⟩⟩
    have hcl : ((cs.length : Nat) : Int).toNat = cs.length := by omega
    rw [hcl]
    refine lc_data (K := K) (walk_range (lo := 0) (n := cs.length)) (fun i => decide ((i : Int) ∉ nod.pl)) (fun i => .int (i : Int)) (fun i _ => rfl) (by omega) hD (fun _ _ => trivial) ?_ ?_
    · rintro i v H2 H' hi e ⟨rfl, rfl⟩
      obtain ⟨na, pa, pb, pc, rfl, hna, hpa, _⟩ := dp_nd (dp_same (e1.trans e) hn)
      have ei : V.int (0 + (i : Int)) = V.int (i : Int) := by rw [Int.zero_add]
      refine ⟨Same.refl _, ((wipe (L2.start nBehind [x, y, z, V.ref na]) [5]).set 5 (some (V.int (i : Int)))), (ei ▸ eg_name), rfl, fun Q' q => ?_, fun _ H3 e3 Q' q => ⟨_, rfl, q _ _ ⟨Same.refl _, .int _⟩⟩⟩
      refine ⟨_, rfl, _, rfl, na, _, 0, _, rfl, rfl, hna, rfl, pa, _, rfl, .inr hpa, rfl, flatV_ints _, decide ((i : Int) ∉ nod.pl), ?_, q _ _ ⟨rfl, Same.refl _⟩⟩
      show V.bl (!inV (V.int (i : Int)) (nod.pl.map V.int)) = _
      rw [inV_ints, decide_not]
    · intro H2 acc e2 hacc hda
      rw [free_kept] at hda
      obtain rfl := dps_ints' hda
      have e02 := e1.trans e2
      have hfl := free_le cs.length nod.pl
      refine ⟨_, rfl, D, rfl, ⟨_, SqL.of hacc⟩, fun D2 hD2 => lc_data (K := K) walk_list (fun _ => true) (fun i => bhD (tkM cs rs) ys nod ((free cs.length nod.pl).getD i 0)) (fun i _ => flat_bh _ _ _ _) (by rw [List.length_map]; omega) hD2 (fun H' e => SqL.of (e _ _ hacc)) ?_ ?_⟩
      · rintro i v H3 H' hi e ⟨rfl, hv⟩
        obtain ⟨wk, hwk, rfl⟩ := map_get hv
        have en : (free cs.length nod.pl).getD i 0 = wk := getD_of hwk
        have hmf := mem_free.mp (List.mem_of_getElem? hwk)
        refine ⟨Same.refl _, _, eg_name, rfl, et_yes.weak fun b' H3 h3 => ⟨h3.1, h3.2 ▸ Same.refl _⟩, fun _ H4 e4 Q' q => ?_⟩
        rw [en] at q
        have e04 := (e02.trans e).trans e4
        refine ⟨_, rfl, _, rfl, _, rfl, _, rfl, _, rfl, _, rfl, x, y, z, u, cs, rs, ys, nod, wk, rfl, hc.same e04, hs.same e04, hy.same e04, dp_same e04 hn, ok, hmf.1, fun v5 H5 e5 hd5 => ?_⟩
        exact ⟨small_le (show 2 ≤ 100000 by decide), fun p hp => q _ _ ⟨e5.trans (same_new hp), .tup (SqT.of upd_same) (.cons (.int _) (.cons (dp_same (same_new hp) hd5) .nil))⟩⟩
      · intro H3 acc3 e3 hacc3 hda3
        rw [List.length_map, mapD_list (free cs.length nod.pl) 0 (bhD (tkM cs rs) ys nod)] at hda3
        exact k _ _ (e02.trans e3) (.lst (SqL.of hacc3) hda3)
end
end MW

/-! Tables on the heap; levels_of. -/
namespace MW
open PySem PySem.Spec PyProof.Rows L2
open MS (ws free begs perms lineup own owns hldL hldOf fstOf pick Bagged mem_ws mem_perms mem_lineup mem_free Nd hAt fAt nxt st0 settle lookC putC addC addNode stepL lvl)

/-! ### heaps that keep all but dicts -/
def isExt : HO → Bool
  | .ext _ => true
  | .dK _ => true
  | .dT _ => true
  | .frz _ (.ext _) => true
  | .frz _ (.dK _) => true
  | .frz _ (.dT _) => true
  | _ => false
def Kq (G H : Hp) : Prop := ∀ a u, isExt u = false → G a = some u → H a = some u
theorem Kq.refl (H : Hp) : Kq H H := fun _ _ _ h => h
theorem Kq.of {G H : Hp} (e : Same G H) : Kq G H := fun a u _ h => e a u h
theorem Kq.trans {A B C : Hp} (h : Kq A B) (k : Kq B C) : Kq A C := fun a u n q => k a u n (h a u n q)
theorem Kq.upd {G H : Hp} {d : Addr} {u o : HO} (h : Kq G H) (hd : H d = some u) (n : isExt u = true) : Kq G (upd H d o) := fun a v m q => by
  have q' := h a v m q
  have : a ≠ d := by
    rintro rfl
    rw [hd] at q'
    cases q'
    rw [n] at m
    cases m
  rw [upd_ne this]
  exact q'
theorem Kq.rd {G H : Hp} {a : Addr} {u : HO} (h : Kq G H) (n : isExt u = false) (m : ∀ o, isExt (.frz o u) = false) (q : Rd G a u) : Rd H a u := by
  rcases q with q | ⟨o, q⟩
  · exact .inl (h _ _ n q)
  · exact .inr ⟨o, h _ _ (m o) q⟩
theorem Kq.sqL {K : PySem.W.Frag} {G H : Hp} {a : Addr} {xs : List V} (h : Kq G H) (q : SqL K G a xs) : SqL K H a xs := by
  rcases q with q | q
  · exact .inl (h.rd rfl (fun _ => rfl) q)
  · exact .inr q
theorem Kq.sqT {K : PySem.W.Frag} {G H : Hp} {a : Addr} {xs : List V} (h : Kq G H) (q : SqT K G a xs) : SqT K H a xs := by
  rcases q with q | q
  · exact .inl (h.rd rfl (fun _ => rfl) q)
  · exact .inr q
theorem Kq.tp {G H : Hp} (h : Kq G H) : Tp G H := fun a xs q => h.rd rfl (fun _ => rfl) q
mutual
theorem dp_kq {K : PySem.W.Frag} {G H : Hp} (e : Kq G H) : ∀ {v : V} {d : PyData}, Dp K G v d → Dp K H v d
  | _, _, .non => .non
  | _, _, .bl b => .bl b
  | _, _, .int i => .int i
  | _, _, .str x => .str x
  | _, _, .lst h t => .lst (e.sqL h) (dps_kq e t)
  | _, _, .tup h t => .tup (e.sqT h) (dps_kq e t)
theorem dps_kq {K : PySem.W.Frag} {G H : Hp} (e : Kq G H) : ∀ {vs : List V} {ds : List PyData}, DpAll K G vs ds → DpAll K H vs ds
  | _, _, .nil => .nil
  | _, _, .cons h t => .cons (dp_kq e h) (dps_kq e t)
end
theorem CrewAt.kq {K : PySem.W.Frag} {C : Addr} {H H' : Hp} {v : V} {cs : List (Str × Str)} (e : Kq H H') (h : CrewAt K C H v cs) : CrewAt K C H' v cs := by
  obtain ⟨a, dx, l, h1, h2, h3, h4⟩ := h
  exact ⟨a, dx, l, h1, e _ _ rfl h2, dp_kq e h3, h4⟩
theorem SchAt.kq {K : PySem.W.Frag} {C : Addr} {H H' : Hp} {v : V} {rs : List Rul} (e : Kq H H') (h : SchAt K C H v rs) : SchAt K C H' v rs := by
  obtain ⟨a, dx, l, h1, h2, h3, h4⟩ := h
  exact ⟨a, dx, l, h1, e _ _ rfl h2, dp_kq e h3, h4⟩
theorem YdAt.kq {K : PySem.W.Frag} {H H' : Hp} {v : V} {ys : List (List Int)} {n : Nat} (e : Kq H H') (h : YdAt K H v ys n) : YdAt K H' v ys n := ⟨dp_kq e h.1, h.2⟩

/-! ### counts as dict pairs -/
section
variable {α κ : Type} [DecidableEq α] [DecidableEq κ]
def entG (f : α → κ) (kvs : List (α × Int)) : List (κ × V) := kvs.map fun p => (f p.1, V.int p.2)
theorem valV_ent {f : α → κ} (hf : ∀ a b, f a = f b → a = b) (k : α) : ∀ kvs : List (α × Int), valV (entG f kvs) (f k) = (lookC kvs k).map V.int
  | [] => rfl
  | p :: r => by
    unfold entG
    rw [List.map_cons]
    by_cases e : p.1 = k
    · rw [valV_pos (by show f p.1 = f k; rw [e])]
      unfold lookC
      rw [List.find?_cons_of_pos (by simpa using e)]
      rfl
    · rw [valV_neg (by show ¬ f p.1 = f k; exact fun z => e (hf _ _ z))]
      have := valV_ent hf k r
      unfold entG at this
      rw [this]
      unfold lookC
      rw [List.find?_cons_of_neg (by simpa using e)]
theorem put_ent {f : α → κ} (hf : ∀ a b, f a = f b → a = b) (k : α) (v : Int) (kvs : List (α × Int)) : putK (entG f kvs) (f k) (.int v) = entG f (putC kvs k v) := by
  unfold putK putC
  have e : ((entG f kvs).any fun kv => decide (kv.1 = f k)) = decide (k ∈ kvs.map (·.1)) := by
    unfold entG
    rw [List.any_map]
    induction kvs with
    | nil => rfl
    | cons p r ih =>
      rw [List.any_cons, ih, List.map_cons]
      show (decide (f p.1 = f k) || _) = _
      by_cases c : p.1 = k
      · rw [decide_eq_true (by rw [c] : f p.1 = f k), Bool.true_or]
        exact (decide_eq_true (c ▸ List.mem_cons_self)).symm
      · rw [decide_eq_false fun z => c (hf _ _ z), Bool.false_or, decide_eq_decide]
        exact ⟨fun h => List.mem_cons_of_mem _ h, fun h => (List.mem_cons.mp h).elim (fun z => absurd z.symm c) id⟩
  rw [e]
  by_cases c : k ∈ kvs.map (·.1)
  · rw [if_pos (decide_eq_true c), if_pos c]
    unfold entG
    rw [List.map_map, List.map_map]
    refine List.map_congr_left fun p _ => ?_
    simp only [Function.comp_apply]
    by_cases d : p.1 = k
    · rw [if_pos d, if_pos (by rw [d])]
    · rw [if_neg d, if_neg fun z => d (hf _ _ z)]
  · rw [if_neg (by rw [decide_eq_false c]; exact Bool.false_ne_true), if_neg c]
    unfold entG
    rw [List.map_append]
    rfl
theorem putC_len (kvs : List (α × Int)) (k : α) (v : Int) : (putC kvs k v).length ≤ kvs.length + 1 := by
  unfold putC
  split
  · rw [List.length_map]
    omega
  · rw [List.length_append]
    exact Nat.le_refl _
theorem putC_all {P : α → Prop} {kvs : List (α × Int)} {k : α} {v : Int} (h : ∀ p ∈ kvs, P p.1) (hk : P k) : ∀ p ∈ putC kvs k v, P p.1 := by
  intro p hp
  unfold putC at hp
  split at hp
  · obtain ⟨q, hq, rfl⟩ := List.mem_map.mp hp
    by_cases c : q.1 = k
    · rw [if_pos c]
      exact h q hq
    · rw [if_neg c]
      exact h q hq
  · rcases List.mem_append.mp hp with z | z
    · exact h p z
    · rw [List.mem_singleton] at z
      subst z
      exact hk
theorem fold_len {β : Type} (F : β → List (α × Int) → List (α × Int)) (c : Nat) (hF : ∀ b acc, (F b acc).length ≤ acc.length + c) : ∀ (l : List β) (acc : List (α × Int)), (l.foldl (fun acc b => F b acc) acc).length ≤ acc.length + c * l.length
  | [], acc => by simp
  | b :: l, acc => by
    rw [List.foldl_cons, List.length_cons]
    have h1 := fold_len F c hF l (F b acc)
    have h2 := hF b acc
    rw [Nat.mul_add]
    omega
theorem fold_all {β : Type} {P : α → Prop} (F : β → List (α × Int) → List (α × Int)) : ∀ (l : List β) (acc : List (α × Int)), (∀ b ∈ l, ∀ acc, (∀ p ∈ acc, P p.1) → ∀ p ∈ F b acc, P p.1) → (∀ p ∈ acc, P p.1) → ∀ p ∈ l.foldl (fun acc b => F b acc) acc, P p.1
  | [], _, _, h => h
  | b :: l, acc, hF, h => by
    rw [List.foldl_cons]
    exact fold_all F l (F b acc) (fun c hc => hF c (List.mem_cons_of_mem _ hc)) (hF b List.mem_cons_self acc h)
end
section
variable {tk : Int → List Int → Bool} {ys : List (List Int)} {n : Nat}
theorem addNode_len (hn : n ≤ 6) (p : Nd × Int) (acc : List (Nd × Int)) : (addNode tk ys n p acc).length ≤ acc.length + 6 := by
  unfold addNode
  have := fold_len (fun (w : Int) (acc : List (Nd × Int)) => addC acc (nxt tk ys p.1 w) p.2) 1 (fun b acc => putC_len _ _ _) (free n p.1.pl) acc
  have h2 := free_le n p.1.pl
  omega
theorem stepL_len (hn : n ≤ 6) (kvs : List (Nd × Int)) : (stepL tk ys n kvs).length ≤ 6 * kvs.length := by
  unfold stepL
  have := fold_len (fun (p : Nd × Int) (acc : List (Nd × Int)) => addNode tk ys n p acc) 6 (fun b acc => addNode_len hn b acc) kvs []
  simpa using this
theorem lvl_len (hn : n ≤ 6) : ∀ k, (lvl tk ys n k).length ≤ 6 ^ k
  | 0 => Nat.le_refl _
  | k + 1 => by
    have h1 := stepL_len (tk := tk) (ys := ys) hn (lvl tk ys n k)
    have h2 := lvl_len hn k
    have : (lvl tk ys n (k + 1)).length = (stepL tk ys n (lvl tk ys n k)).length := rfl
    rw [this, Nat.pow_succ]
    omega
theorem lvl_big (hn : n ≤ 6) {k : Nat} (hk : k ≤ n) : (lvl tk ys n k).length ≤ 46656 :=
  Nat.le_trans (lvl_len hn k) (Nat.le_trans (Nat.pow_le_pow_right (by decide) (Nat.le_trans hk hn)) (by decide))
theorem addNode_ok {p : Nd × Int} (o : NdOk n ys.length p.1) {acc : List (Nd × Int)} (h : ∀ q ∈ acc, NdOk n ys.length q.1) : ∀ q ∈ addNode tk ys n p acc, NdOk n ys.length q.1 := by
  unfold addNode
  exact fold_all (P := NdOk n ys.length) (fun (w : Int) (acc : List (Nd × Int)) => addC acc (nxt tk ys p.1 w) p.2) _ _ (fun w hw acc ha => putC_all ha (ok_nxt o hw)) h
theorem lvl_ok : ∀ k, ∀ p ∈ lvl tk ys n k, NdOk n ys.length p.1
  | 0 => fun p hp => by
    have : p ∈ [(st0 ys, (1 : Int))] := hp
    rw [List.mem_singleton] at this
    subst this
    exact ok_st0 n ys
  | k + 1 => by
    show ∀ p ∈ stepL tk ys n (lvl tk ys n k), _
    unfold stepL
    exact fold_all (P := NdOk n ys.length) (fun (p : Nd × Int) (acc : List (Nd × Int)) => addNode tk ys n p acc) _ _ (fun p hp acc ha => addNode_ok (lvl_ok k p hp) ha) (fun _ h => nomatch h)
end
theorem num_inj : ∀ {a b : List Int}, a.map NestedKey.num = b.map NestedKey.num → a = b
  | [], [], _ => rfl
  | [], _ :: _, h => by cases h
  | _ :: _, [], h => by cases h
  | x :: a, y :: b, h => by
    rw [List.map_cons, List.map_cons] at h
    injection h with h1 h2
    injection h1 with h1
    rw [h1, num_inj h2]
theorem nkT_inj {a b : List Int} (h : nkT a = nkT b) : a = b := by
  unfold nkT at h
  injection h with h
  exact num_inj h
theorem nkOf_inj (a b : Nd) (h : nkOf a = nkOf b) : a = b := by
  unfold nkOf at h
  injection h with h
  injection h with h1 h
  injection h with h2 h
  injection h with h3 h
  cases a
  cases b
  cases nkT_inj h1
  cases nkT_inj h2
  cases nkT_inj h3
  rfl
theorem depth_nums : ∀ ns : List Int, NestedKey.depthAll (ns.map NestedKey.num) = 0
  | [] => by simp only [List.map_nil, NestedKey.depthAll]
  | n :: r => by
    rw [List.map_cons]
    simp only [NestedKey.depthAll, NestedKey.depth]
    rw [depth_nums r]
    rfl
theorem depth_nk (nd : Nd) : (nkOf nd).depth ≤ 8 := by
  unfold nkOf nkT
  simp only [NestedKey.depth, NestedKey.depthAll, depth_nums]
  decide

/-- a level's dict -/
def LvD (P : Program) (w : World) (K : PySem.W.Frag) (H : Hp) (d : Addr) (kvs : List (Nd × Int)) : Prop := ∃ xs, H d = some (ndO P w d xs) ∧ KeysAt K H xs ∧ kvOf xs = entG nkOf kvs
theorem LvD.same {P : Program} {w : World} {K : PySem.W.Frag} {G H : Hp} {d : Addr} {kvs : List (Nd × Int)} (e : Same G H) (h : LvD P w K G d kvs) : LvD P w K H d kvs := by
  obtain ⟨xs, h1, h2, h3⟩ := h
  exact ⟨xs, e _ _ h1, h2.tp (Tp.of e), h3⟩
/-- the list of levels -/
def LvAt (P : Program) (w : World) (K : PySem.W.Frag) (H : Hp) (v : V) (tk : Int → List Int → Bool) (ys : List (List Int)) (n : Nat) : Prop :=
  ∃ (L : Addr) (ds : List Addr), v = .ref L ∧ H L = some (.lst (ds.map V.ref)) ∧ (ds.length = n + 1 ∧ ds.Nodup) ∧ ∀ j d, ds[j]? = some d → LvD P w K H d (lvl tk ys n j)
theorem LvAt.same {P : Program} {w : World} {K : PySem.W.Frag} {G H : Hp} {v : V} {tk : Int → List Int → Bool} {ys : List (List Int)} {n : Nat} (e : Same G H) (h : LvAt P w K G v tk ys n) : LvAt P w K H v tk ys n := by
  obtain ⟨L, ds, h1, h2, h3, h4⟩ := h
  exact ⟨L, ds, h1, e _ _ h2, h3, fun j d q => (h4 j d q).same e⟩
theorem ent_at {xs : List Ent} {kvs : List (Nd × Int)} (h : kvOf xs = entG nkOf kvs) {i : Nat} {e : Ent} (he : xs[i]? = some e) : ∃ p, kvs[i]? = some p ∧ e.1 = nkOf p.1 ∧ e.2.2 = V.int p.2 := by
  have h1 : (kvOf xs)[i]? = some (e.1, e.2.2) := by
    unfold kvOf
    rw [List.getElem?_map, he]
    rfl
  rw [h] at h1
  unfold entG at h1
  obtain ⟨p, hp, hq⟩ := map_get h1
  injection hq with h3 h4
  exact ⟨p, hp, h3, h4⟩
theorem ent_len {xs : List Ent} {kvs : List (Nd × Int)} (h : kvOf xs = entG nkOf kvs) : xs.length = kvs.length := by
  have := congrArg List.length h
  unfold kvOf entG at this
  rw [List.length_map, List.length_map] at this
  exact this
abbrev sLevels : Stmt := top 23
def spLevels (P : Program) (w : World) (K : PySem.W.Frag) (CC CS : Addr) : Sp := fun vs H Q _ => ∃ (x y z : V) (cs : List (Str × Str)) (rs : List Rul) (ys : List (List Int)), vs = [x, y, z] ∧ CrewAt K CC H x cs ∧ SchAt K CS H y rs ∧ YdAt K H z ys cs.length ∧
  ∀ v H', Same H H' → LvAt P w K H' v (tkM cs rs) ys cs.length → Q v H'
theorem same_lock {G H : Hp} {d : Addr} {o : HO} (e : Same G H) : Same (upd G d o) (upd H d o) := fun a u q => by
  by_cases c : a = d
  · subst c
    rw [upd_same] at q ⊢
    exact q
  · rw [upd_ne c] at q ⊢
    exact e a u q
theorem same_unlock {G H : Hp} {d : Addr} {o u : HO} (e : Same (upd G d o) H) (hd : G d = some u) : Same G (upd H d u) := fun a v q => by
  by_cases c : a = d
  · subst c
    rw [upd_same, ← hd]
    exact q
  · rw [upd_ne c]
    exact e a v (by rw [upd_ne c]; exact q)
section
variable {P : Program} {w : World} {K : PySem.W.Frag} {mg : Str → Option Value} {base : Heap} {C CS : Addr}
abbrev nLevels : List Str := ["crew", "scheme", "yards", "levels", "_", "level", "node", "many", "worker", "after"]
theorem sc_levels : FnScope nLevels ["crew", "scheme", "yards"] (defScope sLevels) := ⟨rfl, rfl, rfl, by decide +kernel, rfl, by decide +kernel, by decide +kernel⟩
theorem ok_levels {f : Addr} {fd : FuncData} (F : Fun K "levels_of" "levels_of" sLevels f fd) (B : Bi mg) (L : LenOf P w K mg base 1 C (spLen K C)) (F1 : Fn P w K mg base 1 "start_node" (spStart K)) (F2 : Fn P w K mg base 5 "nodes_behind" (spBehind K C CS)) :
    FnOk P w K mg base CX0 6 f fd ["crew", "scheme", "yards"] (spLevels P w K C CS) := by
  refine F.ok sc_levels (fun vs H Q E h => ?_) (fun cdv A outer s H vs Q E hr h => ?_)
  · obtain ⟨x, y, z, cs, rs, ys, rfl, _⟩ := h
    rfl
  · obtain ⟨x, y, z, cs, rs, ys, rfl, hc, hs, hy, k⟩ := h
    have nd := sc_levels.nd
    have hc6 : cs.length ≤ 6 := (id hc).elim fun _ ⟨_, _, _, _, _, _, h6⟩ => h6
    have hu := hr.units
    refine ⟨_, pss_cons (ps_set (i := 3) nd rfl (Or.inl rfl) (pe_lst (pa_cons (pe_oneN hu (pe_fn F1 hr (by decide) (pa_cons (pv 2) pa_nil)) pe_int) pa_nil)))
      (pss_cons (ps_for PassesOwn.never rfl (pi_range1 rfl B.range (pa_cons (pe_callB (cr_lenO L (hr.mono (by decide))) (by rfl) B.len PySem.boot_len (pa_cons (pv 0) pa_nil)) pa_nil)) (pg_name (i := 4) nd rfl (Or.inl rfl))
        (pss_cons (ps_set (i := 5) nd rfl (Or.inl rfl) pe_newN)
        (pss_cons (ps_lock (ps_for PassesOwn.never rfl (pi_NI (pe_ix ix_list (pv 3) (pe_un un_neg pe_int) (fun _ _ => rfl))) (pg_tup rfl (pgs_cons (pg_name (i := 6) nd rfl (Or.inl rfl)) (pgs_cons (pg_name (i := 7) nd rfl (Or.inl rfl)) pgs_nil)))
          (pss_one (ps_for PassesOwn.never rfl (pi_list (pe_fn F2 hr (by decide) (pa_cons (pv 0) (pa_cons (pv 1) (pa_cons (pv 2) (pa_cons (pv 6) pa_nil)))))) (pg_tup rfl (pgs_cons (pg_name (i := 8) nd rfl (Or.inl rfl)) (pgs_cons (pg_name (i := 9) nd rfl (Or.inl rfl)) pgs_nil)))
            (pss_one (ps_asg (pe_op op_add (pe_getN hu (pv 5) (pv 9) pe_int ⟨rfl, rfl, rfl, rfl⟩) (pv 7)) (pg_sub (pv 5) (pv 9) (set_N hu))))))))
        (pss_one (ps_expr (pe_bm PySem.F.plainAttrs_list PySem.F.slot_list_append PySem.F.type_list_append mt_append (pv 3) (pa_cons (pv 5) pa_nil)))))))
      (pss_one (ps_ret (pv 3)))), ?_⟩
    intro d0 hd0
    have e0 := same_new (o := ndO P w d0 []) hd0
    refine ⟨_, rfl, z, ys, rfl, dp_same e0 hy.1, hy.2.2.1, fun v H1 e1 hv => ?_⟩
    obtain ⟨sa, _, _, _, rfl, _⟩ := dp_nd hv
    have i0 : H1 d0 = some (ndO P w d0 []) := e1 _ _ upd_same
    refine ⟨sa, nkOf (st0 ys), rfl, i0, by rw [data_nk]; exact hv, depth_nk _, small_le (show 1 ≤ 100000 by decide), fun L hL => ?_⟩
    have nL : H L = none := by
      have h2 : upd H1 d0 (ndO P w d0 [(nkOf (st0 ys), sa, V.int 1)]) L = none := hL
      have ne : L ≠ d0 := by
        rintro rfl
        rw [upd_same] at h2
        cases h2
      rw [upd_ne ne] at h2
      exact none_back (e0.trans e1) h2
    have e2 : Same H (upd (upd H1 d0 (ndO P w d0 [(nkOf (st0 ys), sa, V.int 1)])) L (.lst [V.ref d0])) := same_mut (same_mut (e0.trans e1) hd0) nL
    have ne0 : d0 ≠ L := ne_of_none upd_same hL
    refine ⟨_, rfl, len_use (hc.same e2) fun H2 e3 => ⟨_, rfl, by omega, by omega, ?_⟩⟩
    have hcl : ((cs.length : Nat) : Int).toNat = cs.length := by omega
    rw [hcl]
    refine for_range (lo := 0) (n := cs.length) (fun i σ H' => ∃ (v4 v5 v6 v7 v8 v9 : Option V) (ds : List Addr), σ = [some x, some y, some z, some (.ref L), v4, v5, v6, v7, v8, v9] ∧ Same H H' ∧ H' L = some (.lst (ds.map V.ref)) ∧ ds.length = i + 1 ∧ ds.Nodup ∧ (∀ d ∈ ds, H d = none) ∧
        ∀ j d, ds[j]? = some d → LvD P w K H' d (lvl (tkM cs rs) ys cs.length j)) ⟨none, none, none, none, none, none, [d0], rfl, e2.trans e3, e3 _ _ upd_same, rfl, .cons (fun _ h => nomatch h) .nil, fun d hd => ?_, fun j d hj => ?_⟩ ?_ ?_
    · rw [List.mem_singleton] at hd
      exact hd ▸ hd0
    · cases j with
      | succ j => simp at hj
      | zero =>
        simp at hj
        subst hj
        refine ⟨[(nkOf (st0 ys), sa, V.int 1)], e3 _ _ (by rw [upd_ne ne0]; exact upd_same), fun en hen => ?_, rfl⟩
        rw [List.mem_singleton] at hen
        subst hen
        refine ⟨?_, depth_nk _⟩
        show Dp K H2 (V.ref sa) (nkOf (st0 ys)).data
        rw [data_nk]
        exact dp_tp ((Tp.upd i0 rfl).trans ((Tp.of (same_new hL)).trans (Tp.of e3))) (flat_nd _) hv
    · rintro i σ B1 hi ⟨v4, v5, v6, v7, v8, v9, ds, rfl, e1', hLl, hdl, hnd, hdn, hlv⟩
      intro dl hdlN
      -- the last level
      obtain ⟨ds', d, rfl⟩ : ∃ ds' d, ds = ds' ++ [d] := ⟨ds.dropLast, ds.getLast (by intro z; rw [z] at hdl; cases hdl), (List.dropLast_concat_getLast _).symm⟩
      have hdl' : ds'.length = i := by rw [List.length_append] at hdl; simpa using hdl
      have hdj : (ds' ++ [d])[i]? = some d := by rw [← hdl', List.getElem?_append_right (Nat.le_refl _), Nat.sub_self]; rfl
      obtain ⟨xs, hxd, hxk, hxv⟩ := hlv i d hdj
      have nd1 : d ≠ dl := ne_of_none hxd hdlN
      have nL1 : L ≠ dl := ne_of_none hLl hdlN
      have nHd : H d = none := hdn d (by simp)
      have nHdl : H dl = none := none_back e1' hdlN
      have nLd : L ≠ d := by
        rintro rfl
        rw [hLl] at hxd
        cases hxd
      refine ⟨d, ndO P w d xs, by rw [upd_ne nd1]; exact hxd, trivial, fun od => ?_⟩
      have s1 : Same (upd B1 d (.frz od (ndO P w d xs))) (upd (upd B1 dl (ndO P w dl [])) d (.frz od (ndO P w d xs))) := same_lock (same_new hdlN)
      have sH : Same H (upd B1 d (.frz od (ndO P w d xs))) := same_mut e1' nHd
      have kB : KeysAt K (upd B1 d (.frz od (ndO P w d xs))) xs := hxk.tp (Tp.upd hxd rfl)
      have hlen := ent_len hxv
      refine ⟨_, rfl, _, rfl, L, (ds' ++ [d]).map V.ref, -1, V.ref d, rfl, rfl, SqL.of (s1 _ _ (by rw [upd_ne nLd]; exact hLl)), by rw [List.map_append]; exact atI_last _ _, d, od, xs, rfl, upd_same, ?_⟩
      refine for_it walk_ni (fun i2 σ H' => ∃ (v4 v6 v7 v8 v9 : Option V) (xl : List Ent), σ = [some x, some y, some z, some (.ref L), v4, some (.ref dl), v6, v7, v8, v9] ∧ Same (upd B1 d (.frz od (ndO P w d xs))) H' ∧ H' dl = some (ndO P w dl xl) ∧ KeysAt K H' xl ∧
          kvOf xl = entG nkOf (((lvl (tkM cs rs) ys cs.length i).take i2).foldl (fun acc p => addNode (tkM cs rs) ys cs.length p acc) []))
        ⟨_, _, _, _, _, [], rfl, s1, by rw [upd_ne (Ne.symm nd1)]; exact upd_same, (fun _ h => nomatch h), rfl⟩ (fun i σ H' _ ⟨_, _, _, _, _, _, _, e, _⟩ => e _ _ upd_same) ?_ ?_
      · rintro i2 v2 σ H3 H4 hi2 ⟨v4, v6, v7, v8, v9, xl, rfl, e13, hxl, hkl, hvl⟩ ⟨T, en, hen, rfl, hT, rfl⟩
        obtain ⟨p, hp, hp1, hp2⟩ := ent_at hxv hen
        have ok := lvl_ok i p (List.mem_of_getElem? hp)
        have e34 := same_new (o := .tup [.ref en.2.1, en.2.2]) hT
        have e14 := e13.trans e34
        have nTl : dl ≠ T := ne_of_none hxl hT
        have hnode : Dp K (upd H3 T (.tup [.ref en.2.1, en.2.2])) (V.ref en.2.1) (ndD p.1) := by
          have := (kB en (List.mem_of_getElem? hen)).1
          rw [hp1, data_nk] at this
          exact dp_same e14 this
        refine ⟨T, _, rfl, SqT.of upd_same, rfl, _, _, rfl, _, _, rfl, rfl, ?_⟩
        refine ⟨_, rfl, _, rfl, _, rfl, _, rfl, x, y, z, V.ref en.2.1, cs, rs, ys, p.1, rfl, hc.same (sH.trans e14), hs.same (sH.trans e14), hy.same (sH.trans e14), hnode, ok, fun vq H5 e45 hvq => ?_⟩
        obtain ⟨qa, qs, rfl, hqa, hqs⟩ := dp_lst hvq
        have hql : qs.length = (free cs.length p.1.pl).length := by rw [dps_len hqs, List.length_map]
        have hf6 := free_le cs.length p.1.pl
        have hxl5 : H5 dl = some (ndO P w dl xl) := e45 _ _ (by rw [upd_ne nTl]; exact hxl)
        have hp2' : en.2.2 = V.int p.2 := hp2
        rw [hp2']
        refine ⟨qa, rfl, ⟨_, hqa⟩, for_list (K := K) (a := qa) (xs := qs) (fun j σ H' => ∃ (v8 v9 : Option V) (xl' : List Ent), σ = [some x, some y, some z, some (.ref L), v4, some (.ref dl), some (V.ref en.2.1), some (V.int p.2), v8, v9] ∧ Same (upd B1 d (.frz od (ndO P w d xs))) H' ∧ Kq H5 H' ∧
            H' dl = some (ndO P w dl xl') ∧ KeysAt K H' xl' ∧ kvOf xl' = entG nkOf (((free cs.length p.1.pl).take j).foldl (fun acc w => addC acc (nxt (tkM cs rs) ys p.1 w) p.2) (((lvl (tkM cs rs) ys cs.length i).take i2).foldl (fun acc p => addNode (tkM cs rs) ys cs.length p acc) [])))
          ⟨_, _, xl, rfl, e14.trans e45, Kq.refl _, hxl5, hkl.tp (Tp.of (e34.trans e45)), hvl⟩ (fun j σ H' _ ⟨_, _, _, _, _, kq, _⟩ => kq.sqL hqa) ?_ ?_⟩
        · rintro j vj σ H6 hj ⟨v8, v9, xl', rfl, e16, k56, hxl6, hk6, hv6⟩
          obtain ⟨wk, hwk, hwd⟩ := dps_all hqs hj
          obtain ⟨t2, vw, vn, rfl, ht2, hvw, hvn⟩ := dp_tup2 (dp_kq k56 hwd)
          cases hvw
          obtain ⟨na, _, _, _, rfl, _⟩ := dp_nd hvn
          refine ⟨t2, _, rfl, ht2, rfl, _, _, rfl, _, _, rfl, rfl, ?_⟩
          have hkn : Dp K H6 (V.ref na) (nkOf (nxt (tkM cs rs) ys p.1 wk)).data := by rw [data_nk]; exact hvn
          refine ⟨_, rfl, dl, xl', rfl, ⟨.inl hxl6, hk6⟩, _, rfl, na, nkOf (nxt (tkM cs rs) ys p.1 wk), xl', rfl, ⟨.inl hxl6, hk6⟩, hkn, depth_nk _, _, rfl, ?_⟩
          rw [hv6, valV_ent nkOf_inj]
          have hgd : ∀ o : Option Int, (o.map V.int).getD (V.int 0) = V.int (o.getD 0) := fun o => by cases o <;> rfl
          rw [hgd]
          refine ⟨_, _, rfl, rfl, _, rfl, _, rfl, dl, na, nkOf (nxt (tkM cs rs) ys p.1 wk), xl', rfl, rfl, hxl6, hk6, hkn, depth_nk _, ?_, _, _, _, rfl, ?_, ?_, upd_same, ?_, ?_⟩
          · have h1 := ent_len hv6
            have h2 := fold_len (fun (w : Int) (acc : List (Nd × Int)) => addC acc (nxt (tkM cs rs) ys p.1 w) p.2) 1 (fun b acc => putC_len _ _ _) ((free cs.length p.1.pl).take j) (((lvl (tkM cs rs) ys cs.length i).take i2).foldl (fun acc p => addNode (tkM cs rs) ys cs.length p acc) [])
            have h3 := fold_len (fun (p : Nd × Int) (acc : List (Nd × Int)) => addNode (tkM cs rs) ys cs.length p acc) 6 (fun b acc => addNode_len hc6 b acc) ((lvl (tkM cs rs) ys cs.length i).take i2) []
            have h4 := lvl_big (tk := tkM cs rs) (ys := ys) hc6 (Nat.le_of_lt hi)
            rw [List.length_take] at h2 h3
            have h5 : ([] : List (Nd × Int)).length = 0 := rfl
            rw [sizeLine_eq]
            omega
          · exact fun a u q => by
              have := e16 a u q
              have ne : a ≠ dl := by
                rintro rfl
                rw [upd_ne (Ne.symm nd1), hdlN] at q
                cases q
              rw [upd_ne ne]
              exact this
          · exact k56.upd hxl6 rfl
          · exact (keys_store hk6 hkn (depth_nk _)).tp (Tp.upd hxl6 rfl)
          · rw [kvOf_store, hv6, put_ent nkOf_inj, take_succ_get hwk, List.foldl_append]
            rfl
        · rintro σ H6 ⟨v8, v9, xl', rfl, e16, k56, hxl6, hk6, hv6⟩
          rw [hql, List.take_length] at hv6
          refine ⟨_, _, _, _, _, xl', rfl, e16, hxl6, hk6, ?_⟩
          rw [hv6, take_succ_get hp, List.foldl_append]
          rfl
      · rintro σ H3 ⟨v4, v6, v7, v8, v9, xl, rfl, e13, hxl, hkl, hvl⟩
        have hfr : H3 d = some (.frz od (ndO P w d xs)) := e13 _ _ upd_same
        refine ⟨hfr, ?_⟩
        have e1u : Same B1 (upd H3 d (ndO P w d xs)) := same_unlock e13 hxd
        have hLu : (upd H3 d (ndO P w d xs)) L = some (.lst ((ds' ++ [d]).map V.ref)) := e1u _ _ hLl
        refine ⟨_, rfl, .inl ⟨rfl, _, SqL.of hLu⟩, _, rfl, L, _, V.ref dl, rfl, rfl, hLu, small_lt (by rw [List.length_map, List.length_append, hdl']; show i + 1 ≤ _; omega), ?_⟩
        have hap : (ds' ++ [d]).map V.ref ++ [V.ref dl] = (ds' ++ [d] ++ [dl]).map V.ref := by
          rw [List.map_append (l₁ := ds' ++ [d])]
          rfl
        rw [hap]
        have tpU : Tp (upd H3 d (ndO P w d xs)) (upd (upd H3 d (ndO P w d xs)) L (.lst ((ds' ++ [d] ++ [dl]).map V.ref))) := Tp.upd hLu rfl
        refine ⟨_, _, _, _, _, _, ds' ++ [d] ++ [dl], rfl, same_mut (e1'.trans e1u) nL, upd_same, by rw [List.length_append, hdl]; rfl, ?_, fun d' hd' => ?_, fun j d' hj => ?_⟩
        · refine List.nodup_append.mpr ⟨hnd, .cons (fun _ h => nomatch h) .nil, fun a ha c hc => ?_⟩
          rw [List.mem_singleton] at hc
          subst hc
          rintro rfl
          obtain ⟨j, hj⟩ := List.mem_iff_getElem?.mp ha
          obtain ⟨_, hj1, _⟩ := hlv j a hj
          rw [hdlN] at hj1
          cases hj1
        · rcases List.mem_append.mp hd' with h | h
          · exact hdn d' h
          · rw [List.mem_singleton] at h
            exact h ▸ nHdl
        · rw [List.getElem?_append] at hj
          split at hj
          next hlt =>
            obtain ⟨xj, hj1, hj2, hj3⟩ := (hlv j d' hj).same e1u
            have ne : d' ≠ L := by
              rintro rfl
              rw [hLu] at hj1
              cases hj1
            exact ⟨xj, by rw [upd_ne ne]; exact hj1, hj2.tp tpU, hj3⟩
          next hge =>
            rw [hdl] at hj hge
            have hj0 : j - (i + 1) = 0 := by
              cases hq : j - (i + 1) with
              | zero => rfl
              | succ q => rw [hq] at hj; simp at hj
            rw [hj0] at hj
            simp at hj
            subst hj
            have hji : j = i + 1 := by omega
            subst hji
            refine ⟨xl, ?_, (hkl.tp (Tp.upd hfr rfl)).tp tpU, ?_⟩
            · rw [upd_ne (Ne.symm nL1), upd_ne (Ne.symm nd1)]
              exact hxl
            · rw [hvl, hlen, List.take_length]
              rfl
    · rintro σ H' ⟨v4, v5, v6, v7, v8, v9, ds, rfl, e1', hLl, hdl, hnd, hdn, hlv⟩
      exact ⟨_, rfl, k _ _ e1' ⟨L, ds, rfl, hLl, ⟨hdl, hnd⟩, hlv⟩⟩
end
end MW

/-! moves_of, comes_back, fails. -/
namespace MW
open PySem PySem.Spec PyProof.Rows L2
open MS (ws free begs perms tg yg MovesP NeedP RetP FailP moveAt movesL)

theorem atT {t : List Int} {i : Nat} (h : i < t.length) : (t.map V.int)[i]? = some (V.int (tg t i)) := by
  rw [List.getElem?_map, List.getElem?_eq_getElem h]
  unfold MS.tg
  rw [getD_of (List.getElem?_eq_getElem h)]
  rfl
theorem atI_t {t : List Int} {i : Nat} {j : Int} (h : i < t.length) (hj : j = (i : Int)) : atI (t.map V.int) j = some (V.int (tg t i)) := hj ▸ atI_nat (atT h)
theorem yd_at {K : PySem.W.Frag} {H : Hp} {xs : List V} {ys : List (List Int)} (h : DpAll K H xs (ys.map tupI)) {i : Nat} {j : Int} (hi : i < ys.length) (hj : j = (i : Int)) : ∃ v, atI xs j = some v ∧ Dp K H v (tupI (yg ys i)) := by
  have e : (ys.map tupI)[i]? = some (tupI (yg ys i)) := by
    rw [List.getElem?_map, List.getElem?_eq_getElem hi]
    unfold MS.yg
    rw [getD_of (List.getElem?_eq_getElem hi)]
    rfl
  obtain ⟨v, h1, h2⟩ := dps_get' h e
  exact ⟨v, hj ▸ atI_nat h1, h2⟩
theorem viaB {α : Type} {I G : α → Prop} {A : Prop} (a : (∀ b, I b → G b) → A) (b : ∀ b, I b → G b) : A := a b
def mvS (b : Bool) : Str := if b then "needless" else "needed"
def mvD (b : Bool) : PyData := .str (mvS b)
abbrev sMoves : Stmt := top 24
abbrev sBack : Stmt := top 25
abbrev sFails : Stmt := top 26
def spMoves (K : PySem.W.Frag) : Sp := fun vs H Q _ => ∃ (x y : V) (t : List Int) (ys : List (List Int)), vs = [x, y] ∧ Dp K H x (tupI t) ∧ Dp K H y (.list (ys.map tupI)) ∧ t.length = ys.length ∧ ys.length ≤ 8 ∧ ∀ v H', Same H H' → Dp K H' v (.list ((movesL ys t).map mvD)) → Q v H'
def spBack (K : PySem.W.Frag) : Sp := fun vs H Q _ => ∃ (x : V) (t : List Int), vs = [x] ∧ Dp K H x (tupI t) ∧ t.length ≤ 8 ∧ ∀ b H', Same H H' → (b = true ↔ RetP t) → Q (.bl b) H'
def qName (q : Nat) : Str := if q = 0 then "moving" else if q = 1 then "returning" else "needless"
def spFails (K : PySem.W.Frag) : Sp := fun vs H Q _ => ∃ (x y : V) (t : List Int) (ys : List (List Int)) (q : Nat), vs = [x, y, .str (qName q)] ∧ Dp K H x (tupI t) ∧ Dp K H y (.list (ys.map tupI)) ∧ t.length = ys.length ∧ ys.length ≤ 8 ∧ ∀ b H', Same H H' → (b = true ↔ FailP ys q t) → Q (.bl b) H'
theorem inV_strs {n : Str} : ∀ {ns : List Str}, inV (.str n) (ns.map V.str) = decide (n ∈ ns)
  | [] => rfl
  | m :: r => by
    have ih := inV_strs (n := n) (ns := r)
    unfold inV at ih ⊢
    rw [List.map_cons, List.any_cons, ih]
    have e : eqV (.str m) (.str n) = decide (m = n) := by
      show (m == n) = _
      exact Bool.beq_eq_decide_eq m n
    rw [e]
    by_cases c : m = n
    · rw [decide_eq_true c, decide_eq_true (c ▸ List.mem_cons_self : n ∈ m :: r)]
      rfl
    · rw [decide_eq_false c, Bool.false_or, decide_eq_decide]
      exact ⟨fun h => List.mem_cons_of_mem _ h, fun h => (List.mem_cons.mp h).elim (fun z => absurd z.symm c) id⟩
theorem flatV_strs (ns : List Str) : (ns.map V.str).all flatV = true := by
  rw [List.all_map, List.all_eq_true]
  intro x _
  rfl
section
variable {P : Program} {w : World} {K : PySem.W.Frag} {mg : Str → Option Value} {base : Heap} {C CS : Addr}
abbrev nMoves : List Str := ["trail", "yards", "moves", "at", "needless_one"]
theorem sc_moves : FnScope nMoves ["trail", "yards"] (defScope sMoves) := ⟨rfl, rfl, rfl, by decide +kernel, rfl, by decide +kernel, by decide +kernel⟩
theorem ok_moves {f : Addr} {fd : FuncData} (F : Fun K "moves_of" "moves_of" sMoves f fd) (B : Bi mg) : FnOk P w K mg base CX0 1 f fd ["trail", "yards"] (spMoves K) := by
  refine F.ok sc_moves (fun vs H Q E h => ?_) (fun cdv A outer s H vs Q E hr h => ?_)
  · obtain ⟨x, y, t, ys, rfl, _⟩ := h
    rfl
  · obtain ⟨x, y, t, ys, rfl, hx, hy, hl, h8, k⟩ := h
    have nd := sc_moves.nd
    obtain ⟨ta, rfl, hta⟩ := dp_tupI hx
    obtain ⟨la, xs, rfl, hla, hxs⟩ := dp_lst hy
    refine ⟨_, pss_cons (ps_set (i := 2) nd rfl (Or.inl rfl) (pe_lst pa_nil))
      (pss_cons (ps_for PassesOwn.never rfl (pi_range1 rfl B.range (pa_cons (pe_op op_sub (pe_callB call_len_seq (by rfl) B.len PySem.boot_len (pa_cons (pv 0) pa_nil)) pe_int) pa_nil)) (pg_name (i := 3) nd rfl (Or.inl rfl))
        (pss_one (ps_if (pt_cmpR op_ne (pe_ix ix_tup (pv 0) (pv 3) (fun _ _ => rfl)) (pe_ix ix_tup (pv 0) (pe_op op_add (pv 3) pe_int) (fun _ _ => rfl)) (nomark _))
          (pss_cons (ps_set (i := 4) nd rfl (Or.inl rfl) (pe_and (pe_cmpR op_in_seq (pe_ix ix_tup (pv 0) (pv 3) (fun _ _ => rfl)) (pe_ix ix_list (pv 1) (pe_op op_add (pv 3) pe_int) (fun _ _ => rfl)) (by rfl))
              (pe_one (pe_cmpR op_in_seq (pe_ix ix_tup (pv 0) (pe_op op_add (pv 3) pe_int) (fun _ _ => rfl)) (pe_ix ix_list (pv 1) (pv 3) (fun _ _ => rfl)) (by rfl)))))
          (pss_one (ps_expr (pe_bm PySem.F.plainAttrs_list PySem.F.slot_list_append PySem.F.type_list_append mt_append (pv 2) (pa_cons (pe_ifExp (pt_val (pv 4)) pe_str pe_str) pa_nil))))) pss_nil)))
      (pss_one (ps_ret (pv 2)))), ?_⟩
    refine ⟨Nat.zero_le _, fun M hM => ?_⟩
    have e0 := same_new (o := .lst []) hM
    refine ⟨_, rfl, ta, _, rfl, .inr (same_seqT e0 hta), _, _, rfl, rfl, _, rfl, by rw [List.length_map]; omega, by rw [List.length_map]; omega, ?_⟩
    have hn : (((t.map V.int).length : Nat) - 1 : Int).toNat = t.length - 1 := by rw [List.length_map]; omega
    rw [hn]
    refine for_range (lo := 0) (n := t.length - 1) (fun i σ H' => ∃ v3 v4 : Option V, σ = [some (.ref ta), some (.ref la), some (.ref M), v3, v4] ∧ Same H H' ∧ H' M = some (.lst ((((List.range i).filterMap (moveAt ys t)).map mvS).map V.str)))
      ⟨none, none, rfl, e0, upd_same⟩ ?_ ?_
    · rintro i σ H1 hi ⟨v3, v4, rfl, e1, hm⟩
      have i0 : i < t.length := by omega
      have i1 : i + 1 < t.length := by omega
      have hta1 := same_seqT e1 hta
      have hla1 := e1.seq hla
      have hxs1 := dps_same e1 hxs
      obtain ⟨u0, hu0, hd0⟩ := yd_at hxs1 (i := i) (j := 0 + (i : Int)) (by omega) (by omega)
      obtain ⟨u1, hu1, hd1⟩ := yd_at hxs1 (i := i + 1) (j := 0 + (i : Int) + 1) (by omega) (by omega)
      obtain ⟨y0, rfl, hy0⟩ := dp_tupI hd0
      obtain ⟨y1, rfl, hy1⟩ := dp_tupI hd1
      have a0 := atI_t (t := t) (j := 0 + (i : Int)) i0 (by omega)
      have a1 := atI_t (t := t) (j := 0 + (i : Int) + 1) i1 (by omega)
      refine ⟨_, rfl, _, rfl, ta, _, 0 + (i : Int), _, rfl, rfl, hta1, a0, _, rfl, _, rfl, _, _, rfl, rfl, ta, _, 0 + (i : Int) + 1, _, rfl, rfl, hta1, a1, rfl, _, rfl, ?_⟩
      have hstep : (List.range (i + 1)).filterMap (moveAt ys t) = (List.range i).filterMap (moveAt ys t) ++ (moveAt ys t i).toList := by
        rw [List.range_succ, List.filterMap_append]
        congr 1
      rw [dec_int]
      by_cases c : tg t i = tg t (i + 1)
      · rw [decide_eq_true c]
        refine iteF ⟨_, _, rfl, e1, ?_⟩
        have : moveAt ys t i = none := by unfold MS.moveAt; rw [if_neg (fun z => z c)]
        rw [hstep, this]
        rw [show (none : Option Bool).toList = [] from rfl, List.append_nil]
        exact hm
      · rw [decide_eq_false c]
        refine iteT ?_
        have hmv : moveAt ys t i = some (decide (tg t i ∈ yg ys (i + 1)) && decide (tg t (i + 1) ∈ yg ys i)) := by unfold MS.moveAt; rw [if_pos c]
        -- needless_one, then the append
        apply viaB (I := fun b : Bool => moveAt ys t i = some b)
        · intro rest
          refine ⟨_, rfl, _, rfl, ta, _, 0 + (i : Int), _, rfl, rfl, hta1, a0, _, rfl, _, rfl, _, _, rfl, rfl, la, _, 0 + (i : Int) + 1, _, rfl, rfl, hla1, hu1, y1, _, rfl, .inr hy1, rfl, flatV_ints _, ?_⟩
          refine ⟨decide (tg t i ∈ yg ys (i + 1)), ?_, ?_⟩
          · show V.bl (inV (V.int (tg t i)) ((yg ys (i + 1)).map V.int)) = _
            rw [inV_ints]
          cases c1 : decide (tg t i ∈ yg ys (i + 1)) with
          | true =>
            refine iteT ⟨_, rfl, _, rfl, _, _, rfl, rfl, ta, _, 0 + (i : Int) + 1, _, rfl, rfl, hta1, a1, _, rfl, _, rfl, la, _, 0 + (i : Int), _, rfl, rfl, hla1, hu0, y0, _, rfl, .inr hy0, rfl, flatV_ints _, ?_⟩
            obtain ⟨b2, hb2⟩ : ∃ b2, inV (V.int (tg t (i + 1))) ((yg ys i).map V.int) = b2 := ⟨_, rfl⟩
            rw [if_neg Bool.false_ne_true, hb2]
            refine rest b2 ?_
            rw [hmv, c1, Bool.true_and, ← hb2, inV_ints]
          | false =>
            refine iteF (rest false ?_)
            rw [hmv, c1, Bool.false_and]
        · intro b hb
          have hml : ((List.range i).filterMap (moveAt ys t)).length ≤ i := by
            have := List.length_filterMap_le (moveAt ys t) (List.range i)
            rw [List.length_range] at this
            exact this
          have hz : (((((List.range i).filterMap (moveAt ys t)).map mvS).map V.str).length < sizeLine) := small_lt (by rw [List.length_map, List.length_map]; omega)
          have hnew : (((List.range i).filterMap (moveAt ys t)).map mvS).map V.str ++ [V.str (mvS b)] = (((List.range (i + 1)).filterMap (moveAt ys t)).map mvS).map V.str := by
            rw [hstep, hb, List.map_append, List.map_append]
            rfl
          refine ⟨_, rfl, .inl ⟨rfl, _, SqL.of hm⟩, _, rfl, b, rfl, ?_⟩
          cases b with
          | true => exact iteT ⟨M, _, V.str (mvS true), rfl, rfl, hm, hz, _, _, rfl, same_mut e1 hM, by rw [hnew]; exact upd_same⟩
          | false => exact iteF ⟨M, _, V.str (mvS false), rfl, rfl, hm, hz, _, _, rfl, same_mut e1 hM, by rw [hnew]; exact upd_same⟩
    · rintro σ H1 ⟨v3, v4, rfl, e1, hm⟩
      refine ⟨_, rfl, k _ _ e1 ?_⟩
      have : (movesL ys t).map mvD = ((movesL ys t).map mvS).map PyData.str := by rw [List.map_map]; rfl
      rw [this]
      exact .lst (SqL.of hm) (dps_strs _)
theorem seg_mem {t : List Int} {i j : Nat} {o : Int} (h : i ≤ t.length) : o ∈ (t.drop j).take (i - j) ↔ ∃ q, j ≤ q ∧ q < i ∧ o = tg t q := by
  rw [List.mem_iff_getElem?]
  constructor
  · rintro ⟨k, hk⟩
    rw [List.getElem?_take] at hk
    split at hk
    next hlt =>
      rw [List.getElem?_drop] at hk
      exact ⟨j + k, by omega, by omega, (getD_of hk).symm⟩
    next => cases hk
  · rintro ⟨q, h1, h2, rfl⟩
    refine ⟨q - j, ?_⟩
    rw [List.getElem?_take, if_pos (by omega), List.getElem?_drop, show j + (q - j) = q by omega, List.getElem?_eq_getElem (by omega)]
    unfold MS.tg
    rw [getD_of (List.getElem?_eq_getElem (by omega))]
theorem cut_seg {t : List Int} {i j : Nat} {a b : Int} (ha : a = (j : Int)) (hb : b = (i : Int)) (hj : j ≤ i) (h : i ≤ t.length) : cutV (t.map V.int) (some a) (some b) = ((t.drop j).take (i - j)).map V.int := by
  subst ha hb
  unfold cutV
  rw [HT.sIx_nat, HT.sIx_nat, List.length_map, Nat.min_eq_left h, Nat.min_eq_left (show j ≤ t.length by omega), ← List.map_drop, ← List.map_take]
def RetAt (t : List Int) (l a : Nat) : Prop := tg t a = tg t l ∧ ∃ q, a < q ∧ q < l ∧ tg t q ≠ tg t l
abbrev nBack : List Str := ["trail", "last", "at", "other"]
theorem sc_back : FnScope nBack ["trail"] (defScope sBack) := ⟨rfl, rfl, rfl, by decide +kernel, rfl, by decide +kernel, by decide +kernel⟩
theorem ok_back {f : Addr} {fd : FuncData} (F : Fun K "comes_back" "comes_back" sBack f fd) (B : Bi mg) : FnOk P w K mg base CX0 1 f fd ["trail"] (spBack K) := by
  refine F.ok sc_back (fun vs H Q E h => ?_) (fun cdv A outer s H vs Q E hr h => ?_)
  · obtain ⟨x, t, rfl, _⟩ := h
    rfl
  · obtain ⟨x, t, rfl, hx, h8, k⟩ := h
    have nd := sc_back.nd
    obtain ⟨ta, rfl, hta⟩ := dp_tupI hx
    refine ⟨_, pss_cons (ps_for PassesOwn.never rfl (pi_range1 rfl B.range (pa_cons (pe_callB call_len_seq (by rfl) B.len PySem.boot_len (pa_cons (pv 0) pa_nil)) pa_nil)) (pg_name (i := 1) nd rfl (Or.inl rfl))
        (pss_one (ps_for PassesOwn.never rfl (pi_range1 rfl B.range (pa_cons (pv 1) pa_nil)) (pg_name (i := 2) nd rfl (Or.inr rfl))
          (pss_one (ps_if (PW.pt (pw_and (pt_cmpR op_eq (pe_ix ix_tup (pv 0) (pv 2) (fun _ _ => rfl)) (pe_ix ix_tup (pv 0) (pv 1) (fun _ _ => rfl)) (nomark _)) (pw_and1 (pt_val (pe_callB (cr_any rfl) (by rfl) B.any (by decide +kernel) (pa_cons
              (pe_lc (own := [("other", 3)]) (g := gName 3) (tt := tYes) rfl nd (pi_tup (pe_slice sl_tup (pv 0) (po_some (pv 2)) (po_some (pv 1)))) (blkOk_by (own := [("other", 3)]) (N := nBack) (sc := defScope sBack) (by decide +kernel)) (fun _ _ _ _ _ => pg_name (i := 3) nd rfl (Or.inl rfl)) (fun _ _ _ _ _ => pts_nil)
                (fun _ _ _ _ _ => pe_cmpR op_ne (pv 3) (pe_ix (ix_tupK K) (pv 0) (pv 2) (fun _ _ => rfl)) (nomark _))) pa_nil))))))
            (pss_one (ps_ret pe_bl)) pss_nil)))))
      (pss_one (ps_ret pe_bl)), ?_⟩
    refine ⟨_, rfl, ta, _, rfl, .inr hta, _, rfl, by rw [List.length_map]; omega, by rw [List.length_map]; omega, ?_⟩
    have hn : (((t.map V.int).length : Nat) : Int).toNat = t.length := by rw [List.length_map]; omega
    rw [hn]
    refine for_range (lo := 0) (n := t.length) (fun i σ H' => ∃ v1 v2 : Option V, σ = [some (.ref ta), v1, v2, none] ∧ Same H H' ∧ ∀ l a, l < i → a < l → ¬ RetAt t l a) ⟨none, none, rfl, Same.refl _, fun l _ h => absurd h (Nat.not_lt_zero l)⟩ ?_ ?_
    · rintro i σ H1 hi ⟨v1, v2, rfl, e1, hno⟩
      refine ⟨_, rfl, _, rfl, by omega, by omega, ?_⟩
      have hn2 : (0 + (i : Int)).toNat = i := by omega
      rw [hn2]
      refine for_range (lo := 0) (n := i) (fun j σ H' => ∃ v2 : Option V, σ = [some (.ref ta), some (.int (0 + (i : Int))), v2, none] ∧ Same H H' ∧ ∀ a, a < j → ¬ RetAt t i a) ⟨_, rfl, e1, fun a h => absurd h (Nat.not_lt_zero a)⟩ ?_ ?_
      · rintro j σ H2 hj ⟨v2, rfl, e2, hno2⟩
        have hta2 := same_seqT e2 hta
        refine ⟨_, rfl, _, rfl, ta, _, 0 + (j : Int), _, rfl, rfl, hta2, atI_t (i := j) (by omega) (by omega), _, rfl, _, rfl, ta, _, 0 + (i : Int), _, rfl, rfl, hta2, atI_t (i := i) hi (by omega), rfl, _, rfl, ?_⟩
        rw [dec_int]
        by_cases c : tg t j = tg t i
        · rw [decide_eq_true c]
          refine iteT ?_
          refine ⟨_, rfl, _, rfl, 0 + (j : Int), rfl, _, rfl, 0 + (i : Int), rfl, ta, _, rfl, hta2, ?_, fun p hp => ?_⟩
          · rintro ⟨_, h2⟩
            have : (0 + (i : Int)) = ((i : Nat) : Int) := by omega
            rw [this, HT.sIx_nat, List.length_map] at h2
            omega
          rw [cut_seg (i := i) (j := j) (by omega) (by omega) (by omega) (by omega)]
          have e3 := e2.trans (same_new (o := .tup (((t.drop j).take (i - j)).map V.int)) hp)
          refine ⟨p, rfl, ⟨_, SqT.of upd_same⟩, fun D hD => lc_data (K := K) walk_tup (fun _ => true) (fun q => .bool (!decide (((t.drop j).take (i - j)).getD q 0 = tg t j))) (fun _ _ => rfl) ?_ hD (fun H' e => SqT.of (e _ _ upd_same)) ?_ ?_⟩
          · rw [List.length_map, List.length_take]
            omega
          · rintro q v H3 H4 hq e ⟨rfl, hv⟩
            obtain ⟨n, hn3, rfl⟩ := map_get hv
            have en : ((t.drop j).take (i - j)).getD q 0 = n := getD_of hn3
            refine ⟨Same.refl _, _, eg_name, rfl, et_yes.weak fun b' H5 h5 => ⟨h5.1, h5.2 ▸ Same.refl _⟩, fun _ H5 e5 Q' qq => ?_⟩
            rw [en] at qq
            refine ⟨_, rfl, _, rfl, _, rfl, ta, _, 0 + (j : Int), _, rfl, rfl, same_seqT ((e3.trans e).trans e5) hta, atI_t (i := j) (by omega) (by omega), rfl, ?_⟩
            rw [dec_int]
            exact qq _ _ ⟨Same.refl _, .bl _⟩
          · intro H3 acc e3' hacc hda
            rw [List.length_map, mapD_list ((t.drop j).take (i - j)) 0 (fun o => PyData.bool (!decide (o = tg t j)))] at hda
            have hmm : ((t.drop j).take (i - j)).map (fun o => PyData.bool (!decide (o = tg t j))) = (((t.drop j).take (i - j)).map fun o => !decide (o = tg t j)).map PyData.bool := by rw [List.map_map]; rfl
            rw [hmm] at hda
            obtain rfl := dps_bools' hda
            have e03 := e3.trans e3'
            refine ⟨D, _, rfl, SqL.of hacc, _, rfl, ?_⟩
            cases hb : (((t.drop j).take (i - j)).map fun o => !decide (o = tg t j)).any id with
            | true =>
              refine iteT (k true _ e03 ⟨fun _ => ?_, fun _ => rfl⟩)
              rw [List.any_map, List.any_eq_true] at hb
              obtain ⟨o, ho, h2⟩ := hb
              obtain ⟨q, q1, q2, rfl⟩ := (seg_mem (by omega)).mp ho
              have hne : tg t q ≠ tg t j := by simpa using h2
              have : q ≠ j := fun z => hne (by rw [z])
              exact ⟨i, j, hi, hj, c, q, by omega, q2, fun z => hne (z.trans c.symm)⟩
            | false =>
              refine iteF ⟨_, rfl, e03, fun a ha => ?_⟩
              by_cases haj : a = j
              · subst haj
                rintro ⟨_, q, q1, q2, q3⟩
                rw [List.any_map, List.any_eq_false] at hb
                have := hb (tg t q) ((seg_mem (by omega)).mpr ⟨q, by omega, q2, rfl⟩)
                simp at this
                exact q3 (this.trans c)
              · exact hno2 a (by omega)
        · rw [decide_eq_false c]
          refine iteF ⟨_, rfl, e2, fun a ha => ?_⟩
          by_cases haj : a = j
          · subst haj
            exact fun z => c z.1
          · exact hno2 a (by omega)
      · rintro σ H2 ⟨v2, rfl, e2, hno2⟩
        refine ⟨_, _, rfl, e2, fun l a hl ha => ?_⟩
        by_cases hli : l = i
        · subst hli
          exact hno2 a ha
        · exact hno l a (by omega) ha
    · rintro σ H1 ⟨v1, v2, rfl, e1, hno⟩
      refine k false _ e1 ⟨fun z => (by cases z), fun ⟨l, a, hl, ha, h1, h2⟩ => absurd ⟨h1, h2⟩ (hno l a hl ha)⟩
abbrev nFails : List Str := ["trail", "yards", "question", "moves"]
theorem sc_fails : FnScope nFails ["trail", "yards", "question"] (defScope sFails) := ⟨rfl, rfl, rfl, by decide +kernel, rfl, by decide +kernel, by decide +kernel⟩
theorem dec_str (a b : Str) : decide (V.str a = V.str b) = decide (a = b) := by
  rw [decide_eq_decide]
  exact ⟨fun z => by injection z, fun z => by rw [z]⟩
theorem qn0 : qName 0 = "moving" := rfl
theorem mvS_true (b : Bool) : ("needless" : Str) = mvS b ↔ b = true := by
  have h : ¬ (("needless" : Str) = "needed") := by decide +kernel
  cases b with
  | true => exact ⟨fun _ => rfl, fun _ => rfl⟩
  | false => exact ⟨fun z => absurd z h, fun z => by cases z⟩
theorem ok_fails {f : Addr} {fd : FuncData} (F : Fun K "fails" "fails" sFails f fd) (B : Bi mg) (F1 : Fn P w K mg base 1 "comes_back" (spBack K)) (F2 : Fn P w K mg base 1 "moves_of" (spMoves K)) :
    FnOk P w K mg base CX0 2 f fd ["trail", "yards", "question"] (spFails K) := by
  refine F.ok sc_fails (fun vs H Q E h => ?_) (fun cdv A outer s H vs Q E hr h => ?_)
  · obtain ⟨x, y, t, ys, q, rfl, _⟩ := h
    rfl
  · obtain ⟨x, y, t, ys, q, rfl, hx, hy, hl, h8, k⟩ := h
    have nd := sc_fails.nd
    refine ⟨_, pss_cons (ps_if (pt_cmpR op_eq (pv 2) pe_str (nomark _)) (pss_one (ps_ret (pe_fn F1 hr (by decide) (pa_cons (pv 0) pa_nil)))) pss_nil)
      (pss_cons (ps_set (i := 3) nd rfl (Or.inl rfl) (pe_fn F2 hr (by decide) (pa_cons (pv 0) (pa_cons (pv 1) pa_nil))))
      (pss_cons (ps_if (pt_cmpR op_eq (pv 2) pe_str (nomark _)) (pss_one (ps_ret (pe_cmpR op_gt (pe_callB call_len_seq (by rfl) B.len PySem.boot_len (pa_cons (pv 3) pa_nil)) pe_int (nomark _)))) pss_nil)
      (pss_one (ps_ret (pe_cmpR op_in_seq pe_str (pv 3) (by rfl)))))), ?_⟩
    refine ⟨_, rfl, rfl, _, rfl, ?_⟩
    rw [dec_str]
    have d1 : ¬ (("moving" : Str) = "returning") := by decide +kernel
    have d2 : ¬ (("needless" : Str) = "returning") := by decide +kernel
    have d3 : ¬ (("needless" : Str) = "moving") := by decide +kernel
    by_cases q1 : q = 1
    · subst q1
      rw [show decide (qName 1 = "returning") = true from decide_eq_true rfl]
      exact iteT ⟨_, rfl, x, t, rfl, hx, by omega, fun b H1 e1 hb => k b _ e1 hb⟩
    · have hq : ¬ qName q = "returning" := by
        unfold qName
        by_cases q0 : q = 0
        · rw [if_pos q0]
          exact d1
        · rw [if_neg q0, if_neg q1]
          exact d2
      rw [decide_eq_false hq]
      refine iteF ⟨_, rfl, _, rfl, x, y, t, ys, rfl, hx, hy, hl, h8, fun v H1 e1 hv => ?_⟩
      have hmm : (movesL ys t).map mvD = ((movesL ys t).map mvS).map PyData.str := by rw [List.map_map]; rfl
      rw [hmm] at hv
      obtain ⟨la, xs, rfl, hla, hxs⟩ := dp_lst hv
      obtain rfl := dps_strs' hxs
      refine ⟨_, rfl, rfl, _, rfl, ?_⟩
      rw [dec_str]
      by_cases q0 : q = 0
      · subst q0
        rw [show decide (qName 0 = "moving") = true from decide_eq_true rfl]
        refine iteT ⟨_, rfl, la, _, rfl, .inl hla, _, _, rfl, rfl, ?_⟩
        refine k _ _ e1 ?_
        rw [decide_eq_true_eq, List.length_map, List.length_map]
        show _ ↔ MovesP t
        rw [← MS.moves_any (ys := ys)]
        omega
      · have hq2 : qName q = "needless" := by
          unfold qName
          rw [if_neg q0, if_neg q1]
        rw [hq2, decide_eq_false d3]
        refine iteF ⟨_, rfl, la, _, rfl, .inl hla, rfl, flatV_strs _, ?_⟩
        rw [if_neg Bool.false_ne_true, inV_strs]
        refine k _ _ e1 ?_
        rw [decide_eq_true_eq]
        have : FailP ys q t = NeedP ys t := by
          unfold MS.FailP
          rw [if_neg q0, if_neg q1]
        rw [this, ← MS.needless_in, List.mem_map]
        constructor
        · rintro ⟨b, hb, e⟩
          exact ((mvS_true b).mp e.symm) ▸ hb
        · intro h
          exact ⟨true, h, rfl⟩
end
end MW

/-! failing_nodes, first_failing. -/
namespace MW
open PySem PySem.Spec PyProof.Rows L2
open MS (ws free begs perms lineup own owns Bagged mem_ws mem_perms mem_begs mem_free Nd nxt st0 ndOf settle lookC putC addC addNode stepL lvl canF FailP)

section
variable {tk : Int → List Int → Bool} {ys : List (List Int)} {n : Nat}
theorem srt_len (l : List Int) : (MS.srt l).length = l.length := (MS.srt_perm l).length_eq
theorem lvl_pl : ∀ k, ∀ p ∈ lvl tk ys n k, p.1.pl.length = k
  | 0 => fun p hp => by
    have : p ∈ [(st0 ys, (1 : Int))] := hp
    rw [List.mem_singleton] at this
    subst this
    rfl
  | k + 1 => by
    show ∀ p ∈ stepL tk ys n (lvl tk ys n k), _
    unfold stepL
    refine fold_all (P := fun nd : Nd => nd.pl.length = k + 1) (fun (p : Nd × Int) (acc : List (Nd × Int)) => addNode tk ys n p acc) _ _ (fun p hp acc ha => ?_) (fun _ h => nomatch h)
    unfold addNode
    refine fold_all (P := fun nd : Nd => nd.pl.length = k + 1) (fun (w : Int) (acc : List (Nd × Int)) => addC acc (nxt tk ys p.1 w) p.2) _ _ (fun w hw acc ha => putC_all (P := fun nd : Nd => nd.pl.length = k + 1) ha ?_) ha
    show (MS.srt (p.1.pl ++ [w])).length = k + 1
    rw [srt_len, List.length_append, lvl_pl k p hp]
    rfl
theorem lvl_mem (hb : Bagged tk) {k : Nat} {nd : Nd} : nd ∈ (lvl tk ys n k).map (·.1) ↔ ∃ b ∈ begs n k, ndOf tk ys b = nd := by
  rw [(MS.lvl_tal hb k).mem nd, List.mem_map]
theorem snoc_begs {k : Nat} {b : List Int} {w : Int} (hb : b ∈ begs n k) (hw : w ∈ free n b) : b ++ [w] ∈ begs n (k + 1) := by
  obtain ⟨h1, h2, h3⟩ := mem_begs.mp hb
  have hf := mem_free.mp hw
  refine mem_begs.mpr ⟨by rw [List.length_append, h1]; rfl, List.nodup_append.mpr ⟨h2, .cons (fun _ h => nomatch h) .nil, fun a ha c hc => ?_⟩, fun v hv => ?_⟩
  · rw [List.mem_singleton] at hc
    subst hc
    rintro rfl
    exact hf.2 ha
  · rcases List.mem_append.mp hv with h | h
    · exact h3 v h
    · rw [List.mem_singleton] at h
      exact h ▸ hf.1
theorem lvl_next (hb : Bagged tk) {k : Nat} {nd : Nd} (h : nd ∈ (lvl tk ys n k).map (·.1)) {w : Int} (hw : w ∈ free n nd.pl) : nxt tk ys nd w ∈ (lvl tk ys n (k + 1)).map (·.1) := by
  obtain ⟨b, hb1, rfl⟩ := (lvl_mem hb).mp h
  rw [MS.free_ndOf hb hb1] at hw
  refine (lvl_mem hb).mpr ⟨b ++ [w], snoc_begs hb1 hw, MS.ndOf_snoc b w⟩
/-- what failing_nodes has found when it has looked at the levels above s and at the first i nodes of s -/
def Done (tk : Int → List Int → Bool) (ys : List (List Int)) (n : Nat) (P : List Int → Prop) (s i : Nat) (nd : Nd) : Prop :=
  (∃ k, s < k ∧ k ≤ n ∧ nd ∈ (lvl tk ys n k).map (·.1) ∧ canF tk ys n P (n - k) nd) ∨ (∃ p ∈ (lvl tk ys n s).take i, p.1 = nd ∧ canF tk ys n P (n - s) nd)
theorem done_start {P : List Int → Prop} {nd : Nd} : ¬ Done tk ys n P n 0 nd := by
  rintro (⟨k, h1, h2, _⟩ | ⟨p, hp, _⟩)
  · omega
  · cases hp
theorem done_down {P : List Int → Prop} {s : Nat} (hs : s + 1 ≤ n) {nd : Nd} : Done tk ys n P (s + 1) (lvl tk ys n (s + 1)).length nd ↔ Done tk ys n P s 0 nd := by
  unfold Done
  rw [List.take_length]
  constructor
  · rintro (⟨k, h1, h2, h3⟩ | ⟨p, hp, rfl, h3⟩)
    · exact .inl ⟨k, by omega, h2, h3⟩
    · exact .inl ⟨s + 1, by omega, hs, List.mem_map.mpr ⟨p, hp, rfl⟩, h3⟩
  · rintro (⟨k, h1, h2, h3, h4⟩ | ⟨p, hp, _⟩)
    · by_cases c : k = s + 1
      · subst c
        obtain ⟨p, hp, rfl⟩ := List.mem_map.mp h3
        exact .inr ⟨p, hp, rfl, h4⟩
      · exact .inl ⟨k, by omega, h2, h3, h4⟩
    · cases hp
theorem done_next {P : List Int → Prop} {s i : Nat} {p : Nd × Int} (hp : (lvl tk ys n s)[i]? = some p) {nd : Nd} : Done tk ys n P s (i + 1) nd ↔ Done tk ys n P s i nd ∨ (p.1 = nd ∧ canF tk ys n P (n - s) nd) := by
  unfold Done
  rw [take_succ_get hp]
  constructor
  · rintro (h | ⟨q, hq, h⟩)
    · exact .inl (.inl h)
    · rcases List.mem_append.mp hq with hq | hq
      · exact .inl (.inr ⟨q, hq, h⟩)
      · rw [List.mem_singleton] at hq
        subst hq
        exact .inr h
  · rintro ((h | ⟨q, hq, h⟩) | h)
    · exact .inl h
    · exact .inr ⟨q, List.mem_append_left _ hq, h⟩
    · exact .inr ⟨p, List.mem_append_right _ (List.mem_singleton.mpr rfl), h⟩
theorem done_behind (hb : Bagged tk) {P : List Int → Prop} {s i : Nat} (hs : s < n) {p : Nd × Int} (hp : p ∈ lvl tk ys n s) {w : Int} (hw : w ∈ free n p.1.pl) : Done tk ys n P s i (nxt tk ys p.1 w) ↔ canF tk ys n P (n - s - 1) (nxt tk ys p.1 w) := by
  have hl : (nxt tk ys p.1 w).pl.length = s + 1 := by
    show (MS.srt (p.1.pl ++ [w])).length = s + 1
    rw [srt_len, List.length_append, lvl_pl s p hp]
    rfl
  constructor
  · rintro (⟨k, h1, h2, h3, h4⟩ | ⟨q, hq, h3, _⟩)
    · obtain ⟨q, hq, e⟩ := List.mem_map.mp h3
      have := lvl_pl k q hq
      rw [e, hl] at this
      subst this
      rw [show n - s - 1 = n - (s + 1) by omega]
      exact h4
    · have := lvl_pl s q (List.mem_of_mem_take hq)
      rw [h3, hl] at this
      omega
  · intro h
    refine .inl ⟨s + 1, by omega, by omega, lvl_next hb (List.mem_map.mpr ⟨p, hp, rfl⟩) hw, ?_⟩
    rw [show n - (s + 1) = n - s - 1 by omega]
    exact h
theorem done_all {P : List Int → Prop} {k : Nat} (hk : k ≤ n) {nd : Nd} (h : nd ∈ (lvl tk ys n k).map (·.1)) : Done tk ys n P 0 (lvl tk ys n 0).length nd ↔ canF tk ys n P (n - k) nd := by
  obtain ⟨q, hq, rfl⟩ := List.mem_map.mp h
  have hl := lvl_pl k q hq
  constructor
  · rintro (⟨k', h1, h2, h3, h4⟩ | ⟨q', hq', h3, h4⟩)
    · obtain ⟨q', hq', e⟩ := List.mem_map.mp h3
      have := lvl_pl k' q' hq'
      rw [e, hl] at this
      subst this
      exact h4
    · have := lvl_pl 0 q' (List.mem_of_mem_take hq')
      rw [h3, hl] at this
      subst this
      exact h4
  · intro hc
    by_cases c : k = 0
    · subst c
      exact .inr ⟨q, by rw [List.take_length]; exact hq, rfl, hc⟩
    · exact .inl ⟨k, by omega, hk, h, hc⟩
end
/-- the keys that stand in a dict -/
def InF (xs : List Ent) (S : Nd → Prop) : Prop := ∀ nd : Nd, (valV (kvOf xs) (nkOf nd)).isSome = true ↔ S nd
theorem InF.put {xs : List Ent} {S : Nd → Prop} (h : InF xs S) {nd : Nd} {b : Addr} {v : V} : InF (storeX xs (nkOf nd) b v) (fun m => S m ∨ nd = m) := fun m => by
  rw [kvOf_store, valV_put]
  by_cases c : nkOf m = nkOf nd
  · rw [if_pos c]
    exact ⟨fun _ => .inr (nkOf_inj _ _ c).symm, fun _ => rfl⟩
  · rw [if_neg c, h m]
    exact ⟨.inl, fun z => z.elim id fun e => absurd (by rw [e]) c⟩
theorem InF.iff {xs : List Ent} {S S' : Nd → Prop} (h : InF xs S) (e : ∀ nd, S nd ↔ S' nd) : InF xs S' := fun m => (h m).trans (e m)
/-- what failing_nodes gives -/
def FlAt (P : Program) (w : World) (K : PySem.W.Frag) (H : Hp) (v : V) (tk : Int → List Int → Bool) (ys : List (List Int)) (n : Nat) (q : Nat) : Prop :=
  ∃ (d : Addr) (xs : List Ent), v = .ref d ∧ H d = some (ndO P w d xs) ∧ KeysAt K H xs ∧ InF xs (Done tk ys n (FailP ys q) 0 (lvl tk ys n 0).length)
theorem FlAt.same {P : Program} {w : World} {K : PySem.W.Frag} {G H : Hp} {v : V} {tk : Int → List Int → Bool} {ys : List (List Int)} {n q : Nat} (e : Same G H) (h : FlAt P w K G v tk ys n q) : FlAt P w K H v tk ys n q := by
  obtain ⟨d, xs, h1, h2, h3, h4⟩ := h
  exact ⟨d, xs, h1, e _ _ h2, h3.tp (Tp.of e), h4⟩
abbrev sFailing : Stmt := top 27
abbrev sFirstF : Stmt := top 28
def spFailing (P : Program) (w : World) (K : PySem.W.Frag) (CC CS : Addr) : Sp := fun vs H Q _ => ∃ (x y z l : V) (cs : List (Str × Str)) (rs : List Rul) (ys : List (List Int)) (q : Nat), vs = [x, y, z, l, .str (qName q)] ∧ CrewAt K CC H x cs ∧ SchAt K CS H y rs ∧ YdAt K H z ys cs.length ∧ LvAt P w K H l (tkM cs rs) ys cs.length ∧
  ∀ v H', Same H H' → FlAt P w K H' v (tkM cs rs) ys cs.length q → Q v H'
section
variable {P : Program} {w : World} {K : PySem.W.Frag} {mg : Str → Option Value} {base : Heap} {C CS : Addr}
theorem dps_keptB {H : Hp} {acc : List V} {m : Nat} {f : Nat → Bool} (h : DpAll K H acc (keptD m (fun _ => true) fun i => .bool (f i))) : acc = ((List.range m).map f).map V.bl := by
  rw [keptD_all] at h
  have : (List.range m).map (fun i => PyData.bool (f i)) = ((List.range m).map f).map PyData.bool := by rw [List.map_map]; rfl
  rw [this] at h
  exact dps_bools' h
abbrev nFailing : List Str := ["crew", "scheme", "yards", "levels", "question", "failing", "node", "size", "worker", "after"]
theorem sc_failing : FnScope nFailing ["crew", "scheme", "yards", "levels", "question"] (defScope sFailing) := ⟨rfl, rfl, rfl, by decide +kernel, rfl, by decide +kernel, by decide +kernel⟩
theorem ok_failing {f : Addr} {fd : FuncData} (F : Fun K "failing_nodes" "failing_nodes" sFailing f fd) (B : Bi mg) (LO : LenOf P w K mg base 1 C (spLen K C)) (F1 : Fn P w K mg base 1 "settled" (spSettled K)) (F2 : Fn P w K mg base 2 "fails" (spFails K)) (F3 : Fn P w K mg base 5 "nodes_behind" (spBehind K C CS)) :
    FnOk P w K mg base CX0 6 f fd ["crew", "scheme", "yards", "levels", "question"] (spFailing P w K C CS) := by
  refine F.ok sc_failing (fun vs H Q E h => ?_) (fun cdv A outer s H vs Q E hr h => ?_)
  · obtain ⟨x, y, z, l, cs, rs, ys, q, rfl, _⟩ := h
    rfl
  · obtain ⟨x, y, z, l, cs, rs, ys, q, rfl, hc, hs, hy, ⟨L, ds, rfl, hL, ⟨hdl, hnd⟩, hlv⟩, k⟩ := h
    have nd := sc_failing.nd
    have hc6 : cs.length ≤ 6 := (id hc).elim fun _ ⟨_, _, _, _, _, _, h6⟩ => h6
    have hc1 : 1 ≤ cs.length := (id hc).elim fun _ ⟨_, _, _, _, _, h1, _⟩ => h1
    have hu := hr.units
    have hbag := bagged cs rs
    refine ⟨_, pss_cons (ps_set (i := 5) nd rfl (Or.inr rfl) pe_newN)
      (pss_cons (ps_lock (ps_for PassesOwn.never rfl (pi_NK (pe_ix ix_list (pv 3) (pe_un un_neg pe_int) (fun _ _ => rfl))) (pg_name (i := 6) nd rfl (Or.inl rfl))
        (pss_one (ps_if (pt_val (pe_fn F2 hr (by decide) (pa_cons (pe_fn F1 hr (by decide) (pa_cons (pv 6) pa_nil)) (pa_cons (pv 2) (pa_cons (pv 4) pa_nil)))))
          (pss_one (ps_asg pe_bl (pg_sub (pv 5) (pv 6) (set_N hu)))) pss_nil))))
      (pss_cons (ps_for PassesOwn.never rfl (pi_range3 rfl B.range (pa_cons (pe_op op_sub (pe_callB (cr_lenO LO (hr.mono (by decide))) (by rfl) B.len PySem.boot_len (pa_cons (pv 0) pa_nil)) pe_int) (pa_cons (pe_un un_neg pe_int) (pa_cons (pe_un un_neg pe_int) pa_nil)))) (pg_name (i := 7) nd rfl (Or.inl rfl))
        (pss_one (ps_lock (ps_for PassesOwn.never rfl (pi_NK (pe_ix ix_list (pv 3) (pv 7) (fun _ _ => rfl))) (pg_name (i := 6) nd rfl (Or.inl rfl))
          (pss_one (ps_if (pt_val (pe_callB (cr_any rfl) (by rfl) B.any (by decide +kernel) (pa_cons
              (pe_lc (own := [("worker", 8), ("after", 9)]) (g := gTup K 2 (gCons (gName 8) (gCons (gName 9) gNil))) (tt := tYes) rfl nd (pi_list (pe_fn F3 hr (by decide) (pa_cons (pv 0) (pa_cons (pv 1) (pa_cons (pv 2) (pa_cons (pv 6) pa_nil))))))
                (blkOk_by (own := [("worker", 8), ("after", 9)]) (N := nFailing) (sc := defScope sFailing) (by decide +kernel)) (fun _ _ _ _ _ => pg_tup rfl (pgs_cons (pg_name (i := 8) nd rfl (Or.inl rfl)) (pgs_cons (pg_name (i := 9) nd rfl (Or.inl rfl)) pgs_nil))) (fun _ _ _ _ _ => pts_nil)
                (fun _ _ _ _ _ => pe_cmpR (inNK P w K hu) (pv 9) (pv 5) (by rfl))) pa_nil)))
            (pss_one (ps_asg pe_bl (pg_sub (pv 5) (pv 6) (set_N hu)))) pss_nil))))))
      (pss_one (ps_ret (pv 5))))), ?_⟩
    intro df hdf
    have n0 := same_new (o := ndO P w df []) hdf
    -- the last level
    obtain ⟨dn, hdn⟩ : ∃ d, ds[cs.length]? = some d := ⟨ds[cs.length]'(by omega), List.getElem?_eq_getElem _⟩
    obtain ⟨xs, hxd, hxk, hxv⟩ := hlv _ dn hdn
    have nfd : dn ≠ df := ne_of_none hxd hdf
    have nLd : L ≠ dn := by
      rintro rfl
      rw [hL] at hxd
      cases hxd
    refine ⟨dn, ndO P w dn xs, n0 _ _ hxd, trivial, fun od => ?_⟩
    have hds : ds.map V.ref = (ds.dropLast.map V.ref) ++ [V.ref dn] := by
      have h1 : ds ≠ [] := by
        intro z
        rw [z] at hdl
        cases hdl
      have h2 : ds.getLast h1 = dn := by
        rw [List.getLast_eq_getElem]
        have := (List.getElem?_eq_some_iff.mp hdn).2
        simp only [hdl]
        exact this
      rw [← h2, show [V.ref (ds.getLast h1)] = [ds.getLast h1].map V.ref from rfl, ← List.map_append, List.dropLast_concat_getLast]
    have s1 : Same (upd H dn (.frz od (ndO P w dn xs))) (upd (upd H df (ndO P w df [])) dn (.frz od (ndO P w dn xs))) := same_lock n0
    have kqH : Kq H (upd H dn (.frz od (ndO P w dn xs))) := (Kq.refl H).upd hxd rfl
    have kB : KeysAt K (upd H dn (.frz od (ndO P w dn xs))) xs := hxk.tp (Tp.upd hxd rfl)
    have nfB : (upd H dn (.frz od (ndO P w dn xs))) df = none := by rw [upd_ne (Ne.symm nfd)]; exact hdf
    have hlen := ent_len hxv
    refine ⟨_, rfl, _, rfl, L, ds.map V.ref, -1, V.ref dn, rfl, rfl, SqL.of (s1 _ _ (by rw [upd_ne nLd]; exact hL)), by rw [hds]; exact atI_last _ _, dn, od, xs, rfl, upd_same, ?_⟩
    refine for_it walk_nk (fun i σ H' => ∃ (v6 : Option V) (xl : List Ent), σ = [some x, some y, some z, some (.ref L), some (.str (qName q)), some (.ref df), v6, none, none, none] ∧ Same (upd H dn (.frz od (ndO P w dn xs))) H' ∧ H' df = some (ndO P w df xl) ∧ KeysAt K H' xl ∧ xl.length ≤ i ∧
        InF xl (Done (tkM cs rs) ys cs.length (FailP ys q) cs.length i))
      ⟨_, [], rfl, s1, by rw [upd_ne (Ne.symm nfd)]; exact upd_same, (fun _ h => nomatch h), Nat.le_refl _, fun m => ⟨(fun h => nomatch h), fun h => absurd h done_start⟩⟩ (fun i σ H' _ ⟨_, _, _, e, _⟩ => e _ _ upd_same) ?_ ?_
    · rintro i v σ H1 H1' hi ⟨v6, xl, rfl, e1, hxl, hkl, hln, hin⟩ ⟨rfl, en, hen, rfl⟩
      obtain ⟨p, hp, hp1, hp2⟩ := ent_at hxv hen
      have ok := lvl_ok cs.length p (List.mem_of_getElem? hp)
      have hnode : Dp K H1' (V.ref en.2.1) (ndD p.1) := by
        have := (kB en (List.mem_of_getElem? hen)).1
        rw [hp1, data_nk] at this
        exact dp_same e1 this
      have kq1 := kqH.trans (Kq.of e1)
      have hy1 := hy.kq kq1
      refine ⟨_, rfl, V.ref en.2.1, p.1, rfl, hnode, by rw [ok.h, ok.f], by rw [ok.f]; exact hy.2.2.1, fun a2 H2 e2 ha2 => ?_⟩
      have hv2 : Dp K H2 (V.ref a2) (tupI (settle p.1)) := tupI_of (SqT.of ha2)
      refine ⟨_, rfl, _, rfl, V.ref a2, z, settle p.1, ys, q, rfl, hv2, dp_same e2 hy1.1, ?_, hy.2.2.1, fun b H3 e3 hb => ⟨_, rfl, ?_⟩⟩
      · unfold MS.settle
        rw [List.length_zipWith, ok.h, ok.f, Nat.min_self]
      have e13 := e2.trans e3
      have hx3 : H3 df = some (ndO P w df xl) := e13 _ _ hxl
      have hdn' : ∀ m, Done (tkM cs rs) ys cs.length (FailP ys q) cs.length (i + 1) m ↔ Done (tkM cs rs) ys cs.length (FailP ys q) cs.length i m ∨ (p.1 = m ∧ b = true) := by
        intro m
        rw [done_next hp]
        have h0 : cs.length - cs.length = 0 := Nat.sub_self _
        rw [h0]
        constructor
        · rintro (h | ⟨rfl, h⟩)
          · exact .inl h
          · exact .inr ⟨rfl, hb.mpr h⟩
        · rintro (h | ⟨rfl, h⟩)
          · exact .inl h
          · exact .inr ⟨rfl, hb.mp h⟩
      cases hbb : b with
      | true =>
        refine iteT ⟨_, rfl, _, rfl, df, en.2.1, nkOf p.1, xl, rfl, rfl, hx3, hkl.tp (Tp.of e13), by rw [data_nk]; exact dp_same e13 hnode, depth_nk _, ?_, _, _, rfl, same_mut (e1.trans e13) nfB, upd_same, ?_, ?_, ?_⟩
        · have := lvl_big (tk := tkM cs rs) (ys := ys) hc6 (Nat.le_refl cs.length)
          have h2 : i < xs.length := hi
          exact small_lt (by omega)
        · exact (keys_store (hkl.tp (Tp.of e13)) (by rw [data_nk]; exact dp_same e13 hnode) (depth_nk _)).tp (Tp.upd hx3 rfl)
        · have := store_len xl (nkOf p.1) en.2.1 (V.bl true)
          omega
        · refine hin.put.iff fun m => ?_
          rw [hdn' m, hbb]
          exact ⟨fun h => h.imp id fun e => ⟨e, rfl⟩, fun h => h.imp id fun e => e.1⟩
      | false =>
        refine iteF ⟨_, xl, rfl, e1.trans e13, hx3, hkl.tp (Tp.of e13), by omega, hin.iff fun m => ?_⟩
        rw [hdn' m, hbb]
        exact ⟨.inl, fun h => h.elim id fun z => nomatch z.2⟩
    · rintro σ H1 ⟨v6, xl, rfl, e1, hxl, hkl, hln, hin⟩
      refine ⟨e1 _ _ upd_same, ?_⟩
      have e1u : Same H (upd H1 dn (ndO P w dn xs)) := same_unlock e1 hxd
      have hx2 : (upd H1 dn (ndO P w dn xs)) df = some (ndO P w df xl) := by rw [upd_ne (Ne.symm nfd)]; exact hxl
      have hk2 : KeysAt K (upd H1 dn (ndO P w dn xs)) xl := hkl.tp (Tp.upd (e1 _ _ upd_same) rfl)
      refine ⟨_, rfl, len_use (hc.same e1u) fun H2 e2 => ⟨_, _, rfl, rfl, _, rfl, _, rfl, (cs.length : Int) - 1, -1, -1, ((cs.length : Int) - 1 - (-1)).toNat, rfl, RgC.neg (by omega) (by omega) (by omega) (by omega), ?_⟩⟩
      have hcl : ((cs.length : Int) - 1 - (-1)).toNat = cs.length := by omega
      rw [hcl]
      have hm1 := lvl_big (tk := tkM cs rs) (ys := ys) hc6 (Nat.le_refl cs.length)
      refine for_rangeC (lo := (cs.length : Int) - 1) (c := -1) (n := cs.length) (fun t σ H' => ∃ (v6 v7 : Option V) (xl : List Ent), σ = [some x, some y, some z, some (.ref L), some (.str (qName q)), some (.ref df), v6, v7, none, none] ∧ Same H H' ∧ H' df = some (ndO P w df xl) ∧ KeysAt K H' xl ∧ xl.length ≤ 46656 * (t + 1) ∧
          InF xl (Done (tkM cs rs) ys cs.length (FailP ys q) (cs.length - t) (lvl (tkM cs rs) ys cs.length (cs.length - t)).length))
        ⟨_, _, xl, rfl, e1u.trans e2, e2 _ _ hx2, hk2.tp (Tp.of e2), by omega, by rw [Nat.sub_zero, ← hlen]; exact hin⟩ ?_ ?_
      · rintro t σ B1 ht ⟨v6, v7, xl, rfl, eB, hxl, hkl, hln, hin⟩
        obtain ⟨s, hsn, hss⟩ : ∃ s, s + 1 = cs.length - t ∧ s < cs.length := ⟨cs.length - t - 1, by omega, by omega⟩
        rw [← hsn] at hin
        have hin := hin.iff fun m => done_down (by omega)
        obtain ⟨d, hd⟩ : ∃ d, ds[s]? = some d := ⟨ds[s]'(by omega), List.getElem?_eq_getElem _⟩
        obtain ⟨xs, hxd, hxk, hxv⟩ := hlv _ d hd
        have hxB := eB _ _ hxd
        have nfd : d ≠ df := ne_of_none hxd hdf
        have nLd : L ≠ d := by
          rintro rfl
          rw [hL] at hxd
          cases hxd
        have hlen := ent_len hxv
        refine ⟨d, ndO P w d xs, hxB, trivial, fun od => ?_⟩
        have s1 : Same (upd H d (.frz od (ndO P w d xs))) (upd B1 d (.frz od (ndO P w d xs))) := same_lock eB
        have kqH : Kq H (upd H d (.frz od (ndO P w d xs))) := (Kq.refl H).upd hxd rfl
        have kB : KeysAt K (upd H d (.frz od (ndO P w d xs))) xs := hxk.tp (Tp.upd hxd rfl)
        have nfB : (upd H d (.frz od (ndO P w d xs))) df = none := by rw [upd_ne (Ne.symm nfd)]; exact hdf
        have hsz : (cs.length : Int) - 1 + (t : Nat) * -1 = (s : Int) := by omega
        have hat : atI (ds.map V.ref) ((cs.length : Int) - 1 + (t : Nat) * -1) = some (V.ref d) := by
          rw [hsz]
          exact atI_nat (by rw [List.getElem?_map, hd]; rfl)
        refine ⟨_, rfl, _, rfl, L, ds.map V.ref, _, V.ref d, rfl, rfl, SqL.of (s1 _ _ (by rw [upd_ne nLd]; exact hL)), hat, d, od, xs, rfl, upd_same, ?_⟩
        refine for_it walk_nk (fun i σ H' => ∃ (v6 v7 : Option V) (xl : List Ent), σ = [some x, some y, some z, some (.ref L), some (.str (qName q)), some (.ref df), v6, v7, none, none] ∧ Same (upd H d (.frz od (ndO P w d xs))) H' ∧ H' df = some (ndO P w df xl) ∧ KeysAt K H' xl ∧ xl.length ≤ 46656 * (t + 1) + i ∧
            InF xl (Done (tkM cs rs) ys cs.length (FailP ys q) s i))
          ⟨_, _, xl, rfl, s1, by rw [upd_ne (Ne.symm nfd)]; exact hxl, hkl.tp (Tp.upd hxB rfl), by omega, hin⟩ (fun i σ H' _ ⟨_, _, _, _, e, _⟩ => e _ _ upd_same) ?_ ?_
        · rintro i v σ H1 H1' hi ⟨v6, v7, xl, rfl, e1, hxl, hkl, hln, hin⟩ ⟨rfl, en, hen, rfl⟩
          obtain ⟨p, hp, hp1, hp2⟩ := ent_at hxv hen
          have ok := lvl_ok s p (List.mem_of_getElem? hp)
          have hnode : Dp K H1' (V.ref en.2.1) (ndD p.1) := by
            have := (kB en (List.mem_of_getElem? hen)).1
            rw [hp1, data_nk] at this
            exact dp_same e1 this
          have kq1 := kqH.trans (Kq.of e1)
          have hi2 : i < xs.length := hi
          have hm2 := lvl_big (tk := tkM cs rs) (ys := ys) hc6 (Nat.le_of_lt hss)
          refine ⟨_, rfl, _, rfl, _, rfl, _, rfl, x, y, z, V.ref en.2.1, cs, rs, ys, p.1, rfl, hc.kq kq1, hs.kq kq1, hy.kq kq1, hnode, ok, fun vq H2 e2 hvq => ?_⟩
          obtain ⟨qa, qs, rfl, hqa, hqs⟩ := dp_lst hvq
          have hql : qs.length = (free cs.length p.1.pl).length := by rw [dps_len hqs, List.length_map]
          have hf6 := free_le cs.length p.1.pl
          refine ⟨qa, rfl, ⟨_, hqa⟩, fun D hD => lc_data (K := K) walk_list (fun _ => true) (fun j => .bool (valV (kvOf xl) (nkOf (nxt (tkM cs rs) ys p.1 ((free cs.length p.1.pl).getD j 0)))).isSome) (fun _ _ => rfl) (by omega) hD (fun H' e => e.seq hqa) ?_ ?_⟩
          · rintro j vj H3 H3' hj e23 ⟨rfl, hvj⟩
            obtain ⟨wk, hwk, hwd⟩ := dps_all hqs hvj
            have enw : (free cs.length p.1.pl).getD j 0 = wk := getD_of hwk
            obtain ⟨t2, vw, vn, rfl, ht2, hvw, hvn⟩ := dp_tup2 (dp_same e23 hwd)
            cases hvw
            obtain ⟨na, _, _, _, rfl, _⟩ := dp_nd hvn
            refine ⟨Same.refl _, _, eg_pair ht2, rfl, et_yes.weak fun b' H5 h5 => ⟨h5.1, h5.2 ▸ Same.refl _⟩, fun _ H5 e5 Q' qq => ?_⟩
            rw [enw] at qq
            have e15 := (e2.trans e23).trans e5
            refine ⟨_, rfl, _, rfl, na, df, nkOf (nxt (tkM cs rs) ys p.1 wk), xl, rfl, rfl, ⟨.inl (e15 _ _ hxl), hkl.tp (Tp.of e15)⟩, by rw [data_nk]; exact dp_same e5 hvn, depth_nk _, qq _ _ ⟨Same.refl _, .bl _⟩⟩
          · intro H3 acc e3 hacc hda
            obtain rfl := dps_keptB hda
            have e13 := e2.trans e3
            refine ⟨D, _, rfl, SqL.of hacc, _, rfl, ?_⟩
            have hx3 : H3 df = some (ndO P w df xl) := e13 _ _ hxl
            have hany : ((List.range qs.length).map fun j => (valV (kvOf xl) (nkOf (nxt (tkM cs rs) ys p.1 ((free cs.length p.1.pl).getD j 0)))).isSome).any id = true ↔ canF (tkM cs rs) ys cs.length (FailP ys q) (cs.length - s) p.1 := by
              rw [List.any_map, List.any_eq_true, show cs.length - s = (cs.length - s - 1) + 1 by omega]
              show _ ↔ ∃ w ∈ free cs.length p.1.pl, canF (tkM cs rs) ys cs.length (FailP ys q) (cs.length - s - 1) (nxt (tkM cs rs) ys p.1 w)
              constructor
              · rintro ⟨j, hj, h⟩
                rw [List.mem_range, hql] at hj
                have hwk := List.getElem?_eq_getElem hj
                refine ⟨_, List.getElem_mem hj, ?_⟩
                have h' : (valV (kvOf xl) (nkOf (nxt (tkM cs rs) ys p.1 ((free cs.length p.1.pl).getD j 0)))).isSome = true := h
                rw [getD_of hwk] at h'
                exact (done_behind hbag hss (List.mem_of_getElem? hp) (List.getElem_mem hj)).mp ((hin _).mp h')
              · rintro ⟨wk, hwk, h⟩
                obtain ⟨j, hj⟩ := List.mem_iff_getElem?.mp hwk
                refine ⟨j, List.mem_range.mpr (by rw [hql]; exact (List.getElem?_eq_some_iff.mp hj).1), ?_⟩
                show (valV (kvOf xl) (nkOf (nxt (tkM cs rs) ys p.1 ((free cs.length p.1.pl).getD j 0)))).isSome = true
                rw [getD_of hj]
                exact (hin _).mpr ((done_behind hbag hss (List.mem_of_getElem? hp) hwk).mpr h)
            cases hbb : ((List.range qs.length).map fun j => (valV (kvOf xl) (nkOf (nxt (tkM cs rs) ys p.1 ((free cs.length p.1.pl).getD j 0)))).isSome).any id with
            | true =>
              refine iteT ⟨_, rfl, _, rfl, df, en.2.1, nkOf p.1, xl, rfl, rfl, hx3, hkl.tp (Tp.of e13), by rw [data_nk]; exact dp_same e13 hnode, depth_nk _, ?_, _, _, _, rfl, same_mut (e1.trans e13) nfB, upd_same, ?_, ?_, ?_⟩
              · rw [sizeLine_eq]
                omega
              · exact (keys_store (hkl.tp (Tp.of e13)) (by rw [data_nk]; exact dp_same e13 hnode) (depth_nk _)).tp (Tp.upd hx3 rfl)
              · have := store_len xl (nkOf p.1) en.2.1 (V.bl true)
                omega
              · refine hin.put.iff fun m => ?_
                rw [done_next hp]
                constructor
                · rintro (h | rfl)
                  · exact .inl h
                  · exact .inr ⟨rfl, hany.mp hbb⟩
                · exact fun h => h.imp id fun e => e.1
            | false =>
              refine iteF ⟨_, _, xl, rfl, e1.trans e13, hx3, hkl.tp (Tp.of e13), by omega, hin.iff fun m => ?_⟩
              rw [done_next hp]
              constructor
              · exact .inl
              · rintro (h | ⟨rfl, h⟩)
                · exact h
                · rw [hany.mpr h] at hbb
                  cases hbb
        · rintro σ H1 ⟨v6, v7, xl, rfl, e1, hxl, hkl, hln, hin⟩
          refine ⟨e1 _ _ upd_same, _, _, xl, rfl, same_unlock e1 hxd, by rw [upd_ne (Ne.symm nfd)]; exact hxl, hkl.tp (Tp.upd (e1 _ _ upd_same) rfl), ?_, ?_⟩
          · have hm2 := lvl_big (tk := tkM cs rs) (ys := ys) hc6 (Nat.le_of_lt hss)
            omega
          · rw [show cs.length - (t + 1) = s by omega, ← hlen]
            exact hin
      · rintro σ H3 ⟨v6, v7, xl, rfl, e3, hxl, hkl, hln, hin⟩
        rw [Nat.sub_self] at hin
        exact ⟨_, rfl, k _ _ e3 ⟨df, xl, rfl, hxl, hkl, hin⟩⟩
end
end MW

/-! first_failing; Verdict; sorted of nodes. -/
namespace MW
open PySem PySem.Spec PyProof.Rows L2
open MS (ws free begs perms lineup own owns Bagged mem_ws mem_perms mem_begs mem_free Nd nxt st0 ndOf settle lookC putC addC addNode stepL lvl canF FailP)

def spFirstF (P : Program) (w : World) (K : PySem.W.Frag) (CC CS : Addr) : Sp := fun vs H Q _ => ∃ (x y z l : V) (cs : List (Str × Str)) (rs : List Rul) (ys : List (List Int)) (q : Nat), vs = [x, y, z, l] ∧ CrewAt K CC H x cs ∧ SchAt K CS H y rs ∧ YdAt K H z ys cs.length ∧ FlAt P w K H l (tkM cs rs) ys cs.length q ∧
  canF (tkM cs rs) ys cs.length (FailP ys q) cs.length (st0 ys) ∧ ∀ v r H', Same H H' → Dp K H' v (lstI r) → r ∈ perms cs.length → FailP ys q (owns (tkM cs rs) ys r) → Q v H'
section
variable {P : Program} {w : World} {K : PySem.W.Frag} {mg : Str → Option Value} {base : Heap} {C CS : Addr}
abbrev nFirstF : List Str := ["crew", "scheme", "yards", "failing", "ranking", "node", "_", "ways", "step"]
theorem sc_firstF : FnScope nFirstF ["crew", "scheme", "yards", "failing"] (defScope sFirstF) := ⟨rfl, rfl, rfl, by decide +kernel, rfl, by decide +kernel, by decide +kernel⟩
theorem ok_firstF {f : Addr} {fd : FuncData} (F : Fun K "first_failing" "first_failing" sFirstF f fd) (B : Bi mg) (LO : LenOf P w K mg base 1 C (spLen K C)) (F1 : Fn P w K mg base 1 "start_node" (spStart K)) (F3 : Fn P w K mg base 5 "nodes_behind" (spBehind K C CS)) :
    FnOk P w K mg base CX0 6 f fd ["crew", "scheme", "yards", "failing"] (spFirstF P w K C CS) := by
  refine F.ok sc_firstF (fun vs H Q E h => ?_) (fun cdv A outer s H vs Q E hr h => ?_)
  · obtain ⟨x, y, z, l, cs, rs, ys, q, rfl, _⟩ := h
    rfl
  · obtain ⟨x, y, z, l, cs, rs, ys, q, rfl, hc, hs, hy, ⟨df, xl, rfl, hxl, hkl, hin⟩, hcan, k⟩ := h
    have nd := sc_firstF.nd
    have hc6 : cs.length ≤ 6 := (id hc).elim fun _ ⟨_, _, _, _, _, _, h6⟩ => h6
    have hu := hr.units
    have hbag := bagged cs rs
    refine ⟨_, pss_cons (ps_set (i := 4) nd rfl (Or.inl rfl) (pe_lst pa_nil))
      (pss_cons (ps_set (i := 5) nd rfl (Or.inl rfl) (pe_fn F1 hr (by decide) (pa_cons (pv 2) pa_nil)))
      (pss_cons (ps_for PassesOwn.never rfl (pi_range1 rfl B.range (pa_cons (pe_callB (cr_lenO LO (hr.mono (by decide))) (by rfl) B.len PySem.boot_len (pa_cons (pv 0) pa_nil)) pa_nil)) (pg_name (i := 6) nd rfl (Or.inl rfl))
        (pss_cons (ps_setLc (i := 7) (own := [("step", 8)]) (g := gName 8) rfl nd rfl rfl (sw_true rfl rfl rfl (by decide +kernel)) (pi_list (pe_fn F3 hr (by decide) (pa_cons (pv 0) (pa_cons (pv 1) (pa_cons (pv 2) (pa_cons (pv 5) pa_nil))))))
            (blkOk_by (own := [("step", 8)]) (N := nFirstF) (sc := defScope sFirstF) (by decide +kernel)) (fun _ _ _ _ _ => pg_name (i := 8) nd rfl (Or.inl rfl))
            (fun _ _ _ _ _ => pts_one (pt_cmpR (inNK P w K hu) (pe_ix (ix_tupK K) (pv 8) pe_int (fun _ _ => rfl)) (pv 3) (by rfl))) (fun _ _ _ _ _ => pv 8))
        (pss_cons (ps_expr (pe_bm PySem.F.plainAttrs_list PySem.F.slot_list_append PySem.F.type_list_append mt_append (pv 4) (pa_cons (pe_ix ix_tup (pe_ix ix_list (pv 7) pe_int (fun _ _ => rfl)) pe_int (fun _ _ => rfl)) pa_nil)))
        (pss_one (ps_set (i := 5) nd rfl (Or.inl rfl) (pe_ix ix_tup (pe_ix ix_list (pv 7) pe_int (fun _ _ => rfl)) pe_int (fun _ _ => rfl)))))))
      (pss_one (ps_ret (pv 4))))), ?_⟩
    refine ⟨Nat.zero_le _, fun M hM => ?_⟩
    have e0 := same_new (o := .lst []) hM
    refine ⟨_, rfl, z, ys, rfl, dp_same e0 hy.1, hy.2.2.1, fun vn H1 e1 hvn => ?_⟩
    have e01 := e0.trans e1
    refine ⟨_, rfl, len_use (hc.same e01) fun H2 e2 => ⟨_, rfl, by omega, by omega, ?_⟩⟩
    have hcl : ((cs.length : Nat) : Int).toNat = cs.length := by omega
    rw [hcl]
    refine for_range (lo := 0) (n := cs.length) (fun i σ H' => ∃ (v5 : V) (v6 v7 : Option V) (r : List Int), σ = [some x, some y, some z, some (.ref df), some (.ref M), some v5, v6, v7, none] ∧ Same H H' ∧ H' M = some (.lst (r.map V.int)) ∧ r ∈ begs cs.length i ∧ Dp K H' v5 (ndD (ndOf (tkM cs rs) ys r)) ∧
        canF (tkM cs rs) ys cs.length (FailP ys q) (cs.length - i) (ndOf (tkM cs rs) ys r))
      ⟨vn, _, _, [], rfl, e01.trans e2, (e1.trans e2) _ _ upd_same, List.mem_singleton.mpr rfl, dp_same e2 hvn, hcan⟩ ?_ ?_
    · rintro i σ H3 hi ⟨v5, v6, v7, r, rfl, e3, hM3, hrb, hv5, hcf⟩
      have hnl : ndOf (tkM cs rs) ys r ∈ (lvl (tkM cs rs) ys cs.length i).map (·.1) := (lvl_mem hbag).mpr ⟨r, hrb, rfl⟩
      obtain ⟨p, hp, hpe⟩ := List.mem_map.mp hnl
      have ok : NdOk cs.length ys.length (ndOf (tkM cs rs) ys r) := hpe ▸ lvl_ok i p hp
      refine ⟨_, rfl, _, rfl, _, rfl, _, rfl, x, y, z, v5, cs, rs, ys, ndOf (tkM cs rs) ys r, rfl, hc.same e3, hs.same e3, hy.same e3, hv5, ok, fun vq H4 e4 hvq => ?_⟩
      obtain ⟨qa, qs, rfl, hqa, hqs⟩ := dp_lst hvq
      have hql : qs.length = (free cs.length (ndOf (tkM cs rs) ys r).pl).length := by rw [dps_len hqs, List.length_map]
      have hf6 := free_le cs.length (ndOf (tkM cs rs) ys r).pl
      have e04 := e3.trans e4
      refine ⟨qa, rfl, ⟨_, hqa⟩, fun D hD => lc_data (K := K) walk_list (fun j => (valV (kvOf xl) (nkOf (nxt (tkM cs rs) ys (ndOf (tkM cs rs) ys r) ((free cs.length (ndOf (tkM cs rs) ys r).pl).getD j 0)))).isSome)
        (fun j => bhD (tkM cs rs) ys (ndOf (tkM cs rs) ys r) ((free cs.length (ndOf (tkM cs rs) ys r).pl).getD j 0)) (fun _ _ => flat_bh _ _ _ _) (by omega) hD (fun H' e => e.seq hqa) ?_ ?_⟩
      · rintro j vj H5 H5' hj e5 ⟨rfl, hvj⟩
        obtain ⟨wk, hwk, hwd⟩ := dps_all hqs hvj
        have enw : (free cs.length (ndOf (tkM cs rs) ys r).pl).getD j 0 = wk := getD_of hwk
        obtain ⟨t2, vw, vn2, rfl, ht2, hvw, hvn2⟩ := dp_tup2 (dp_same e5 hwd)
        have hwd5 := dp_same e5 hwd
        obtain ⟨na, _, _, _, rfl, _⟩ := dp_nd hvn2
        refine ⟨Same.refl _, _, eg_name, rfl, fun Q' qq => ?_, fun _ H6 e6 Q' qq => ?_⟩
        · rw [enw] at qq
          have e45 := e04.trans e5
          exact ⟨_, rfl, t2, _, 1, _, rfl, rfl, ht2, rfl, _, rfl, na, df, nkOf (nxt (tkM cs rs) ys (ndOf (tkM cs rs) ys r) wk), xl, rfl, rfl, ⟨.inl (e45 _ _ hxl), hkl.tp (Tp.of e45)⟩, by rw [data_nk]; exact hvn2, depth_nk _, _, rfl, qq _ _ ⟨rfl, Same.refl _⟩⟩
        · rw [enw] at qq
          exact ⟨_, rfl, qq _ _ ⟨Same.refl _, dp_same e6 hwd5⟩⟩
      · intro H5 acc e5 hacc hda
        rw [hql, keptD_list (free cs.length (ndOf (tkM cs rs) ys r).pl) 0 (fun w => (valV (kvOf xl) (nkOf (nxt (tkM cs rs) ys (ndOf (tkM cs rs) ys r) w))).isSome) (bhD (tkM cs rs) ys (ndOf (tkM cs rs) ys r))] at hda
        -- the first way
        have hstep : ∀ w ∈ free cs.length (ndOf (tkM cs rs) ys r).pl, (valV (kvOf xl) (nkOf (nxt (tkM cs rs) ys (ndOf (tkM cs rs) ys r) w))).isSome = true ↔ canF (tkM cs rs) ys cs.length (FailP ys q) (cs.length - (i + 1)) (nxt (tkM cs rs) ys (ndOf (tkM cs rs) ys r) w) := fun w hw =>
          (hin _).trans (done_all (by omega) (lvl_next hbag hnl hw))
        rw [show cs.length - i = (cs.length - (i + 1)) + 1 by omega] at hcf
        obtain ⟨w1, hw1, hc1⟩ := hcf
        have hmem : w1 ∈ (free cs.length (ndOf (tkM cs rs) ys r).pl).filter fun w => (valV (kvOf xl) (nkOf (nxt (tkM cs rs) ys (ndOf (tkM cs rs) ys r) w))).isSome := List.mem_filter.mpr ⟨hw1, (hstep w1 hw1).mpr hc1⟩
        obtain ⟨w0, hw0⟩ : ∃ w0, ((free cs.length (ndOf (tkM cs rs) ys r).pl).filter fun w => (valV (kvOf xl) (nkOf (nxt (tkM cs rs) ys (ndOf (tkM cs rs) ys r) w))).isSome)[0]? = some w0 := list_zero rfl (List.length_pos_of_mem hmem)
        obtain ⟨hw0f, hw0s⟩ := List.mem_filter.mp (List.mem_of_getElem? hw0)
        obtain ⟨u, hu0, hud⟩ := dps_get' hda (i := 0) (d := bhD (tkM cs rs) ys (ndOf (tkM cs rs) ys r) w0) (by rw [List.getElem?_map, hw0]; rfl)
        obtain ⟨t2, vw, vn2, rfl, ht2, hvw, hvn2⟩ := dp_tup2 hud
        cases hvw
        have e05 := e04.trans e5
        have hM5 : H5 M = some (.lst (r.map V.int)) := (e4.trans e5) _ _ hM3
        have hrl := (mem_begs.mp hrb).1
        refine ⟨_, rfl, .inl ⟨rfl, _, SqL.of hM5⟩, _, rfl, D, acc, 0, _, rfl, rfl, SqL.of hacc, atI_nat hu0, t2, _, 0, _, rfl, rfl, ht2, rfl, M, _, V.int w0, rfl, rfl, hM5, small_lt (by rw [List.length_map]; omega), ?_⟩
        have nMD : D ≠ M := by
          have hM4 : H4 M = some (.lst (r.map V.int)) := e4 _ _ hM3
          exact (ne_of_none hM4 hD).symm
        have hap : r.map V.int ++ [V.int w0] = (r ++ [w0]).map V.int := by rw [List.map_append]; rfl
        rw [hap]
        have tpM : Tp H5 (upd H5 M (.lst ((r ++ [w0]).map V.int))) := Tp.upd hM5 rfl
        refine ⟨_, rfl, D, acc, 0, _, rfl, rfl, SqL.of (by rw [upd_ne nMD]; exact hacc), atI_nat hu0, t2, _, 1, _, rfl, rfl, tpM.seqT ht2, rfl, ?_⟩
        refine ⟨vn2, _, _, r ++ [w0], rfl, same_mut e05 hM, upd_same, ?_, ?_, ?_⟩
        · rw [MS.free_ndOf hbag hrb] at hw0f
          exact snoc_begs hrb hw0f
        · rw [MS.ndOf_snoc]
          exact dp_tp tpM (flat_nd _) hvn2
        · rw [MS.ndOf_snoc]
          exact (hstep w0 hw0f).mp hw0s
    · rintro σ H3 ⟨v5, v6, v7, r, rfl, e3, hM3, hrb, hv5, hcf⟩
      rw [Nat.sub_self] at hcf
      refine ⟨_, rfl, k _ r _ e3 (lstI_of (SqL.of hM3)) hrb ?_⟩
      have hcf' : FailP ys q (settle (ndOf (tkM cs rs) ys r)) := hcf
      rw [MS.settle_ndOf hbag (MS.begs_nn hrb)] at hcf'
      exact hcf'
end
end MW

/-! Verdict, verdict_on, moving, returning, needless. -/
namespace MW
open PySem PySem.Spec PyProof.Rows L2
open MS (ws free begs perms lineup own owns Bagged mem_ws mem_perms mem_begs mem_free Nd nxt st0 ndOf settle lookC putC addC addNode stepL lvl canF FailP)

theorem alike_nd (a b : Nd) : PySem.W.alike (ndD a) (ndD b) = true := by
  unfold ndD
  simp only [PySem.W.alike, PySem.W.alikeAll, alike_tupI]
  rfl
theorem depth_nd (a : Nd) : (ndD a).depth ≤ 8 := by
  unfold ndD
  rw [depth_tup]
  have : PyData.depthAll [tupI a.pl, tupI a.hd, tupI a.fs] ≤ 1 := depths_le fun d hd => by
    simp only [List.mem_cons, List.not_mem_nil, or_false] at hd
    rcases hd with rfl | rfl | rfl <;> rw [depth_tupI] <;> exact Nat.le_refl _
  omega
structure VerT (K : PySem.W.Frag) (C : Addr) : Prop where
  cl : Cls K C
  nT : NoAttr K C "table"
  nR : NoAttr K C "ranking"
abbrev sVInit : Stmt := inClass (top 18) 0
abbrev sVHolds : Stmt := inClass (top 18) 1
abbrev sVerdict : Stmt := top 29
def verF (t r : V) : List (Str × V) := [("table", t), ("ranking", r)]
def spVInit (CV : Addr) : Sp := fun vs H Q _ => ∃ (a dx : Addr) (t r : V), vs = [.ref a, t, r] ∧ H a = some (.ins CV dx []) ∧ ∀ H', H' a = some (.ins CV dx (verF t r)) → (∀ b, b ≠ a → H' b = H b) → Q .non H'
def spVHolds (CV : Addr) : Sp := fun vs H Q _ => ∃ (a dx : Addr) (t r : V), vs = [.ref a] ∧ H a = some (.ins CV dx (verF t r)) ∧ Q (.bl (decide (r = .non))) H
def VdAt (K : PySem.W.Frag) (CV : Addr) (H : Hp) (v : V) (tk : Int → List Int → Bool) (ys : List (List Int)) (n q : Nat) : Prop :=
  ∃ (a dx : Addr) (t rv : V), v = .ref a ∧ H a = some (.ins CV dx (verF t rv)) ∧ ((rv = .non ∧ ∀ r ∈ perms n, ¬ FailP ys q (owns tk ys r)) ∨ ∃ r, Dp K H rv (lstI r) ∧ r ∈ perms n ∧ FailP ys q (owns tk ys r))
theorem VdAt.same {K : PySem.W.Frag} {CV : Addr} {H H' : Hp} {v : V} {tk : Int → List Int → Bool} {ys : List (List Int)} {n q : Nat} (e : Same H H') (h : VdAt K CV H v tk ys n q) : VdAt K CV H' v tk ys n q := by
  obtain ⟨a, dx, t, rv, h1, h2, h3⟩ := h
  exact ⟨a, dx, t, rv, h1, e _ _ h2, h3.imp id fun ⟨r, h4, h5⟩ => ⟨r, dp_same e h4, h5⟩⟩
def spVerdict (K : PySem.W.Frag) (CC CS CV : Addr) : Sp := fun vs H Q _ => ∃ (x y z : V) (cs : List (Str × Str)) (rs : List Rul) (ys : List (List Int)) (q : Nat), vs = [x, y, z, .str (qName q)] ∧ CrewAt K CC H x cs ∧ SchAt K CS H y rs ∧ YdAt K H z ys cs.length ∧
  ∀ v H', Same H H' → VdAt K CV H' v (tkM cs rs) ys cs.length q → Q v H'
def spAsk (K : PySem.W.Frag) (CC CS CV : Addr) (q : Nat) : Sp := fun vs H Q _ => ∃ (x y z : V) (cs : List (Str × Str)) (rs : List Rul) (ys : List (List Int)), vs = [x, y, z] ∧ CrewAt K CC H x cs ∧ SchAt K CS H y rs ∧ YdAt K H z ys cs.length ∧
  ∀ v H', Same H H' → VdAt K CV H' v (tkM cs rs) ys cs.length q → Q v H'
section
variable {P : Program} {w : World} {K : PySem.W.Frag} {mg : Str → Option Value} {base : Heap} {C CS CV : Addr}
theorem sc_vinit : FnScope ["self", "table", "ranking"] ["self", "table", "ranking"] (defScope sVInit) := ⟨rfl, rfl, rfl, by decide +kernel, rfl, by decide +kernel, by decide +kernel⟩
theorem ok_vinit {f : Addr} {fd : FuncData} (F : Fun K "__init__" "Verdict.__init__" sVInit f fd) (T : VerT K CV) : FnOk P w K mg base CX0 1 f fd ["self", "table", "ranking"] (spVInit CV) := by
  refine F.ok sc_vinit (fun vs H Q E h => ?_) (fun cdv A outer s H vs Q E hr h => ?_)
  · obtain ⟨a, dx, t, r, rfl, _⟩ := h
    rfl
  · obtain ⟨a, dx, t, r, rfl, ha, k⟩ := h
    refine ⟨_, pss_cons (ps_fld (pv 0) (pv 1) rfl) (pss_one (ps_fld (pv 0) (pv 2) rfl)), ?_⟩
    refine ⟨_, rfl, _, rfl, a, CV, dx, [], rfl, ha, T.cl, T.nT, (by decide), ?_⟩
    refine ⟨_, rfl, _, rfl, a, CV, dx, [("table", t)], rfl, upd_same, T.cl, T.nR, (by show 1 < 1000; decide), ?_⟩
    exact k _ upd_same fun b hb => by rw [upd_ne hb, upd_ne hb]
theorem sc_vholds : FnScope ["self"] ["self"] (defScope sVHolds) := ⟨rfl, rfl, rfl, by decide +kernel, rfl, by decide +kernel, by decide +kernel⟩
theorem ok_vholds {f : Addr} {fd : FuncData} (F : Fun K "holds" "Verdict.holds" sVHolds f fd) (T : VerT K CV) : FnOk P w K mg base CX0 1 f fd ["self"] (spVHolds CV) := by
  refine F.ok sc_vholds (fun vs H Q E h => ?_) (fun cdv A outer s H vs Q E hr h => ?_)
  · obtain ⟨a, dx, t, r, rfl, _⟩ := h
    rfl
  · obtain ⟨a, dx, t, r, rfl, ha, k⟩ := h
    refine ⟨_, pss_one (ps_ret (pe_cmpR op_isN (pe_fld (pv 0) rfl) pe_non (nomark _))), ?_⟩
    refine ⟨_, rfl, a, CV, dx, _, r, rfl, ha, T.cl, T.nR, ?_, rfl, k⟩
    unfold verF
    rw [lk_by (by decide +kernel)]
    exact lk_at
abbrev nVerdict : List Str := ["crew", "scheme", "yards", "question", "levels", "failing", "level", "node"]
theorem sc_verdict : FnScope nVerdict ["crew", "scheme", "yards", "question"] (defScope sVerdict) := ⟨rfl, rfl, rfl, by decide +kernel, rfl, by decide +kernel, by decide +kernel⟩
/-- the list of all nodes, the levels locked -/
theorem all_nodes {σ : L2.St} {H : Hp} {L : Addr} {tk : Int → List Int → Bool} {ys : List (List Int)} {n : Nat} (hn : n ≤ 6) (hs : σ = [σ[0]?.join, σ[1]?.join, σ[2]?.join, σ[3]?.join, some (.ref L), σ[5]?.join, none, none]) {ds : List Addr} (hL : H L = some (.lst (ds.map V.ref))) (hdl : ds.length = n + 1)
    (hlv : ∀ j d, ds[j]? = some d → LvD P w K H d (lvl tk ys n j)) (Hl : Hp) (h1 : ∀ d ∈ ds, ∃ o u, H d = some u ∧ Hl d = some (.frz o u)) (h2 : ∀ a, a ∉ ds → Hl a = H a) :
    Ep (tLc2 (iList K (tVar 4)) (gName 6) tYes (iNK P w (tVar 6)) (gName 7) tYes (tVar 7) [6, 7] [7]) σ Hl fun v H' => Same Hl H' ∧ ∀ Hf, (∀ a, a ∉ ds → Hf a = H' a) → ∃ (D : Addr) (bs : List (V × Nd)), v = .ref D ∧ H D = none ∧ Hf D = some (.lst (bs.map (·.1))) ∧ ∀ b ∈ bs, Dp K Hf b.1 (ndD b.2) := by
  intro Q q
  have hmem : ∀ d ∈ ds, ∃ j, ds[j]? = some d := fun d hd => List.mem_iff_getElem?.mp hd
  have hLn : L ∉ ds := fun z => by
    obtain ⟨j, hj⟩ := hmem L z
    obtain ⟨xs, hx, _⟩ := hlv j L hj
    rw [hL] at hx
    cases hx
  have kq : Kq H Hl := fun a u nu ha => by
    have : a ∉ ds := fun z => by
      obtain ⟨j, hj⟩ := hmem a z
      obtain ⟨xs, hx, _⟩ := hlv j a hj
      rw [ha] at hx
      cases hx
      cases nu
    rw [h2 a this]
    exact ha
  have hLl : Hl L = some (.lst (ds.map V.ref)) := by rw [h2 L hLn]; exact hL
  rw [hs]
  refine ⟨_, rfl, L, rfl, ⟨_, SqL.of hLl⟩, fun D hD => ?_⟩
  have hDn : D ∉ ds := fun z => by
    obtain ⟨o, u, _, h3⟩ := h1 D z
    rw [hD] at h3
    cases h3
  have hDH : H D = none := by rw [← h2 D hDn]; exact hD
  refine lc2_it (n := ds.length) (walk_list.mono (G' := fun H' => SqL K H' L (ds.map V.ref)) (Y' := YAt (ds.map V.ref)) (fun _ h => h) (fun _ _ _ _ _ _ h => h) |> fun w => by rw [List.length_map] at w; exact w)
    (B := fun Nx σ2 H3 => (iNK P w (tVar 6)) σ2 H3 fun J1 H4 => ∃ W1 : Nat → Nat → Hp → Prop, (∃ m, W1 0 m H4) ∧ ∀ j k H, W1 j k H →
      (J1.stop j H ∧ Nx H) ∨ (J1.go j H ∧ ∃ Nx1 : Hp → Prop, (∀ H', Nx1 H' → ∃ k', k' < k ∧ W1 (j + 1) k' H') ∧ ∀ x H', J1.yld j H x H' → gName 7 x (wipe σ2 [7]) H' fun σ3 H5 => wipe σ3 [7] = wipe σ2 [7] ∧ tYes σ3 H5 fun b H6 =>
        if b = true then tVar 7 σ3 H6 fun y H7 => ∃ acc, H7 D = some (.lst acc) ∧ acc.length < sizeLine ∧ Nx1 (upd H7 D (.lst (acc ++ [y]))) else Nx1 H6))
    (fun i H' => Same Hl H' ∧ ∃ bs : List (V × Nd), H' D = some (.lst (bs.map (·.1))) ∧ (∀ b ∈ bs, Dp K H' b.1 (ndD b.2)) ∧ bs.length ≤ 46656 * i)
    ⟨same_new hD, [], upd_same, (fun _ h => nomatch h), Nat.zero_le _⟩ (fun i H' _ h => SqL.of (h.1 _ _ hLl)) ?_ ?_
  · rintro i x H3 H3' hi ⟨e3, bs, hb1, hb2, hb3⟩ ⟨rfl, hx⟩
    obtain ⟨d, hd, rfl⟩ := map_get hx
    obtain ⟨xs, hxd, hxk, hxv⟩ := hlv i d hd
    obtain ⟨o, u, hu1, hu2⟩ := h1 d (List.mem_of_getElem? hd)
    rw [hxd] at hu1
    cases hu1
    have hxl : xs.length ≤ 46656 := by
      rw [ent_len hxv]
      exact lvl_big hn (by omega)
    have hkB : KeysAt K Hl xs := hxk.tp kq.tp
    refine ⟨rfl, ?_⟩
    unfold tYes
    dsimp only
    first | rw [if_pos rfl] | skip
    refine ⟨_, rfl, d, o, xs, rfl, e3 _ _ hu2, ?_⟩
    refine lc2_it (g := gName 7) (tt := tYes) (Qd := fun H' => Same Hl H' ∧ ∃ bs : List (V × Nd), H' D = some (.lst (bs.map (·.1))) ∧ (∀ b ∈ bs, Dp K H' b.1 (ndD b.2)) ∧ bs.length ≤ 46656 * (i + 1)) (σ := [σ[0]?.join, σ[1]?.join, σ[2]?.join, σ[3]?.join, some (.ref L), σ[5]?.join, some (.ref d), none]) (vs := [7]) walk_nk (B := fun Nx1 σ3 H6 => tVar 7 σ3 H6 fun y H7 => ∃ acc, H7 D = some (.lst acc) ∧ acc.length < sizeLine ∧ Nx1 (upd H7 D (.lst (acc ++ [y]))))
      (fun j H' => Same Hl H' ∧ ∃ bs : List (V × Nd), H' D = some (.lst (bs.map (·.1))) ∧ (∀ b ∈ bs, Dp K H' b.1 (ndD b.2)) ∧ bs.length ≤ 46656 * i + j)
      ⟨e3, bs, hb1, hb2, by omega⟩ (fun j H' _ h => h.1 _ _ hu2) ?_ ?_
    · rintro j x2 H4 H4' hj ⟨e4, bs, hb1, hb2, hb3⟩ ⟨rfl, en, hen, rfl⟩
      obtain ⟨p, hp, hp1, hp2⟩ := ent_at hxv hen
      refine ⟨rfl, ⟨_, rfl, _, hb1, ?_, same_mut e4 hD, bs ++ [(V.ref en.2.1, p.1)], ?_, ?_, ?_⟩⟩
      · rw [List.length_map, sizeLine_eq]
        have : i < 7 := by omega
        omega
      · rw [List.map_append]
        exact upd_same
      · intro b hb
        have tp : Tp H4' (upd H4' D (.lst (bs.map (·.1) ++ [V.ref en.2.1]))) := Tp.upd hb1 rfl
        rcases List.mem_append.mp hb with h | h
        · exact dp_tp tp (flat_nd _) (hb2 b h)
        · rw [List.mem_singleton] at h
          subst h
          have := (hkB en (List.mem_of_getElem? hen)).1
          rw [hp1, data_nk] at this
          exact dp_tp tp (flat_nd _) (dp_same e4 this)
      · rw [List.length_append]
        show bs.length + 1 ≤ _
        omega
    · rintro H4 ⟨e4, bs, hb1, hb2, hb3⟩
      exact ⟨e4, bs, hb1, hb2, by omega⟩
  · rintro H3 ⟨e3, bs, hb1, hb2, hb3⟩
    refine q _ _ ⟨e3, fun Hf hf => ⟨D, bs, rfl, hDH, by rw [hf D hDn]; exact hb1, fun b hb => ?_⟩⟩
    have tp : Tp H3 Hf := fun a zs ha => by
      have : a ∉ ds := fun z => by
        obtain ⟨o, u, hu1, hu2⟩ := h1 a z
        have h4 := e3 _ _ hu2
        obtain ⟨j, hj⟩ := hmem a z
        obtain ⟨xs, hx, _⟩ := hlv j a hj
        rw [hu1] at hx
        cases hx
        rcases ha with ha | ⟨o2, ha⟩ <;> rw [h4] at ha <;> cases ha
      rcases ha with ha | ⟨o2, ha⟩
      · exact .inl (by rw [hf a this]; exact ha)
      · exact .inr ⟨o2, by rw [hf a this]; exact ha⟩
    exact dp_tp tp (flat_nd _) (hb2 b hb)
theorem ok_verdict {f : Addr} {fd : FuncData} (F : Fun K "verdict_on" "verdict_on" sVerdict f fd) (B : Bi mg) (hm : mg "Verdict" = some (.ref CV)) (NV : Cn P w K mg base 1 CV (spVInit CV)) (F1 : Fn P w K mg base 1 "start_node" (spStart K)) (F2 : Fn P w K mg base 3 "check_yards" (spChkY K C))
    (F3 : Fn P w K mg base 6 "levels_of" (spLevels P w K C CS)) (F4 : Fn P w K mg base 6 "failing_nodes" (spFailing P w K C CS)) (F5 : Fn P w K mg base 6 "first_failing" (spFirstF P w K C CS)) :
    FnOk P w K mg base CX0 7 f fd ["crew", "scheme", "yards", "question"] (spVerdict K C CS CV) := by
  refine F.ok sc_verdict (fun vs H Q E h => ?_) (fun cdv A outer s H vs Q E hr h => ?_)
  · obtain ⟨x, y, z, cs, rs, ys, q, rfl, _⟩ := h
    rfl
  · obtain ⟨x, y, z, cs, rs, ys, q, rfl, hc, hs, hy, k⟩ := h
    have nd := sc_verdict.nd
    have hc6 : cs.length ≤ 6 := (id hc).elim fun _ ⟨_, _, _, _, _, _, h6⟩ => h6
    have hu := hr.units
    have hbag := bagged cs rs
    refine ⟨_, pss_cons (ps_expr (pe_fn F2 hr (by decide) (pa_cons (pv 0) (pa_cons (pv 2) pa_nil))))
      (pss_cons (ps_set (i := 4) nd rfl (Or.inl rfl) (pe_fn F3 hr (by decide) (pa_cons (pv 0) (pa_cons (pv 1) (pa_cons (pv 2) pa_nil)))))
      (pss_cons (ps_set (i := 5) nd rfl (Or.inl rfl) (pe_fn F4 hr (by decide) (pa_cons (pv 0) (pa_cons (pv 1) (pa_cons (pv 2) (pa_cons (pv 4) (pa_cons (pv 3) pa_nil)))))))
      (pss_cons (ps_if (pt_cmpR (op_inN hu) (pe_fn F1 hr (by decide) (pa_cons (pv 2) pa_nil)) (pv 5) (by rfl))
        (pss_one (ps_ret (pe_new NV hr (by decide) hm (pa_cons (pe_lst pa_nil) (pa_cons (pe_fn F5 hr (by decide) (pa_cons (pv 0) (pa_cons (pv 1) (pa_cons (pv 2) (pa_cons (pv 5) pa_nil))))) pa_nil))))) pss_nil)
      (pss_one (ps_ret (pe_new NV hr (by decide) hm (pa_cons (pe_callB (cr_sortD hu) (by rfl) B.sorted (by decide +kernel) (pa_cons (pe_locks
          (pe_lc2 (own := [("level", 6), ("node", 7)]) (vs1 := [7]) (g := gName 6) (g1 := gName 7) (tt := tYes) (tt1 := tYes) rfl nd (pi_list (pv 4)) (blkOk_by (own := [("level", 6), ("node", 7)]) (N := nVerdict) (sc := defScope sVerdict) (by decide +kernel)) (by decide)
            (fun _ _ _ _ _ => pg_name (i := 6) nd rfl (Or.inl rfl)) (fun _ _ _ _ _ => pts_nil) (fun _ _ _ _ _ => pi_NKK P w (pv 6)) (fun _ _ _ _ _ => pg_name (i := 7) nd rfl (Or.inl rfl)) (fun _ _ _ _ _ => pts_nil) (fun _ _ _ _ _ => pv 7))) pa_nil)) (pa_cons pe_non pa_nil)))))))), ?_⟩
    refine ⟨_, rfl, _, rfl, x, z, cs, ys, rfl, hc, hy, fun H1 e1 => ?_⟩
    refine ⟨_, rfl, _, rfl, _, rfl, x, y, z, cs, rs, ys, rfl, hc.same e1, hs.same e1, hy.same e1, fun vl H2 e2 hl2 => ?_⟩
    have e12 := e1.trans e2
    refine ⟨_, rfl, _, rfl, _, rfl, _, rfl, _, rfl, x, y, z, vl, cs, rs, ys, q, rfl, hc.same e12, hs.same e12, hy.same e12, hl2, fun vf H3 e3 hf3 => ?_⟩
    have e13 := e12.trans e3
    refine ⟨_, rfl, z, ys, rfl, (hy.same e13).1, hy.2.2.1, fun vn H4 e4 hvn => ?_⟩
    have e14 := e13.trans e4
    have hf4 := hf3.same e4
    obtain ⟨df, xl, rfl, hxl, hkl, hin⟩ := id hf4
    obtain ⟨na, _, _, _, rfl, _⟩ := dp_nd hvn
    refine ⟨_, rfl, na, df, nkOf (st0 ys), xl, rfl, rfl, ⟨.inl hxl, hkl⟩, by rw [data_nk]; exact hvn, depth_nk _, _, rfl, ?_⟩
    have hst : (valV (kvOf xl) (nkOf (st0 ys))).isSome = true ↔ canF (tkM cs rs) ys cs.length (FailP ys q) cs.length (st0 ys) := by
      rw [hin]
      exact done_all (k := 0) (Nat.zero_le _) (List.mem_map.mpr ⟨(st0 ys, 1), List.mem_singleton.mpr rfl, rfl⟩)
    cases hb : (valV (kvOf xl) (nkOf (st0 ys))).isSome with
    | true =>
      refine iteT ⟨Nat.zero_le _, fun p hp => ?_⟩
      have e5 := same_new (o := .lst []) hp
      have e15 := e14.trans e5
      refine ⟨_, rfl, _, rfl, _, rfl, _, rfl, x, y, z, V.ref df, cs, rs, ys, q, rfl, hc.same e15, hs.same e15, hy.same e15, hf4.same e5, hst.mp hb, fun v r H6 e6 hv hr1 hr2 => ?_⟩
      intro a dx ha hdx ne
      refine ⟨a, dx, V.ref p, v, rfl, upd_same, fun H7 h7 fr => ⟨rfl, ?_⟩⟩
      have e67 : Same H6 H7 := fun b u hb' => by
        have n1 := ne_of_none hb' ha
        have n2 := ne_of_none hb' hdx
        rw [fr b n1, upd_ne n1, upd_ne n2]
        exact hb'
      exact k _ _ ((e15.trans e6).trans e67) ⟨a, dx, V.ref p, v, rfl, h7, .inr ⟨r, dp_same e67 hv, hr1, hr2⟩⟩
    | false =>
      obtain ⟨L, ds, rfl, hL, ⟨hdl, hnd⟩, hlv⟩ := hl2.same (e3.trans e4)
      refine iteF ⟨ds.length, locks_of (fun v H' => ∀ Hf : Hp, (∀ a, a ∉ ds → Hf a = H' a) → ∃ (D : Addr) (bs : List (V × Nd)), v = .ref D ∧ H4 D = none ∧ Hf D = some (.lst (bs.map (·.1))) ∧ ∀ b ∈ bs, Dp K Hf b.1 (ndD b.2)) ds H4 _ hnd (fun d hd => ?_)
        (fun Hl h1 h2 => all_nodes hc6 (by rfl) hL hdl hlv Hl h1 h2) fun v Hf H' e5 R fr => ?_⟩
      · obtain ⟨j, hj⟩ := List.mem_iff_getElem?.mp hd
        obtain ⟨xs, hx, _⟩ := hlv j d hj
        exact ⟨_, hx, trivial⟩
      obtain ⟨D, bs, rfl, _, hD, hbs⟩ := R Hf fr
      have hm1 : (bs.map fun b => (b.1, ndD b.2)).map (·.1) = bs.map (·.1) := by rw [List.map_map]; rfl
      have hm2 : (bs.map fun b => (b.1, ndD b.2)).map (·.2) = bs.map fun b => ndD b.2 := by rw [List.map_map]; rfl
      refine ⟨D, bs.map fun b => (b.1, ndD b.2), rfl, by rw [hm1]; exact SqL.of hD, fun b hb' => ?_, ?_, ?_, fun b hb' => ?_, fun p hp => ?_⟩
      · obtain ⟨c, hc', rfl⟩ := List.mem_map.mp hb'
        exact hbs c hc'
      · rw [hm2]
        exact PySem.W.AllAlike.of fun b b' => alike_nd _ _
      · rw [hm2]
        exact PySem.W.Sortable.tuples fun b => ⟨_, _, rfl⟩
      · obtain ⟨c, hc', rfl⟩ := List.mem_map.mp hb'
        exact depth_nd _
      intro a dx ha hdx ne
      refine ⟨a, dx, V.ref p, V.non, rfl, upd_same, fun H7 h7 fr2 => ⟨rfl, ?_⟩⟩
      have e6 := same_new (o := .lst (((bs.map fun b => (b.1, ndD b.2)).mergeSort (PySem.W.dataLe false fun b => b.2)).map (·.1))) hp
      have e67 : Same (upd Hf p (.lst (((bs.map fun b => (b.1, ndD b.2)).mergeSort (PySem.W.dataLe false fun b => b.2)).map (·.1)))) H7 := fun b u hb' => by
        have n1 := ne_of_none hb' ha
        have n2 := ne_of_none hb' hdx
        rw [fr2 b n1, upd_ne n1, upd_ne n2]
        exact hb'
      refine k _ _ (((e14.trans e5).trans e6).trans e67) ⟨a, dx, V.ref p, V.non, rfl, h7, .inl ⟨rfl, fun r hr1 hr2 => ?_⟩⟩
      have := hst.mpr (MS.canF_start hbag hr1 hr2)
      rw [hb] at this
      cases this
theorem sc_ask {i : Nat} (h : i = 30 ∨ i = 31 ∨ i = 32) : FnScope ["crew", "scheme", "yards"] ["crew", "scheme", "yards"] (defScope (top i)) := by
  rcases h with rfl | rfl | rfl <;> exact ⟨rfl, rfl, rfl, by decide +kernel, rfl, by decide +kernel, by decide +kernel⟩
theorem ask_of {x y z : V} {H : Hp} {Q : VK} {q : Nat} {E : XK} (h : spAsk K C CS CV q [x, y, z] H Q E) : spVerdict K C CS CV [x, y, z, .str (qName q)] H Q E0 := by
  obtain ⟨x, y, z, cs, rs, ys, e, h⟩ := h
  cases e
  exact ⟨x, y, z, cs, rs, ys, q, rfl, h⟩
theorem ok_moving {f : Addr} {fd : FuncData} (F : Fun K "moving" "moving" (top 30) f fd) (F1 : Fn P w K mg base 7 "verdict_on" (spVerdict K C CS CV)) : FnOk P w K mg base CX0 8 f fd ["crew", "scheme", "yards"] (spAsk K C CS CV 0) := by
  refine F.ok (sc_ask (.inl rfl)) (fun vs H Q E h => ?_) (fun cdv A outer s H vs Q E hr h => ?_)
  · obtain ⟨x, y, z, cs, rs, ys, rfl, _⟩ := h
    rfl
  · obtain ⟨x, y, z, cs, rs, ys, rfl, h2⟩ := h
    exact ⟨_, pss_one (ps_ret (pe_fn F1 hr (by decide) (pa_cons (pv 0) (pa_cons (pv 1) (pa_cons (pv 2) (pa_cons pe_str pa_nil)))))), _, rfl, _, rfl, _, rfl, x, y, z, cs, rs, ys, 0, rfl, h2⟩
theorem ok_returning {f : Addr} {fd : FuncData} (F : Fun K "returning" "returning" (top 31) f fd) (F1 : Fn P w K mg base 7 "verdict_on" (spVerdict K C CS CV)) : FnOk P w K mg base CX0 8 f fd ["crew", "scheme", "yards"] (spAsk K C CS CV 1) := by
  refine F.ok (sc_ask (.inr (.inl rfl))) (fun vs H Q E h => ?_) (fun cdv A outer s H vs Q E hr h => ?_)
  · obtain ⟨x, y, z, cs, rs, ys, rfl, _⟩ := h
    rfl
  · obtain ⟨x, y, z, cs, rs, ys, rfl, h2⟩ := h
    exact ⟨_, pss_one (ps_ret (pe_fn F1 hr (by decide) (pa_cons (pv 0) (pa_cons (pv 1) (pa_cons (pv 2) (pa_cons pe_str pa_nil)))))), _, rfl, _, rfl, _, rfl, x, y, z, cs, rs, ys, 1, rfl, h2⟩
theorem ok_needless {f : Addr} {fd : FuncData} (F : Fun K "needless" "needless" (top 32) f fd) (F1 : Fn P w K mg base 7 "verdict_on" (spVerdict K C CS CV)) : FnOk P w K mg base CX0 8 f fd ["crew", "scheme", "yards"] (spAsk K C CS CV 2) := by
  refine F.ok (sc_ask (.inr (.inr rfl))) (fun vs H Q E h => ?_) (fun cdv A outer s H vs Q E hr h => ?_)
  · obtain ⟨x, y, z, cs, rs, ys, rfl, _⟩ := h
    rfl
  · obtain ⟨x, y, z, cs, rs, ys, rfl, h2⟩ := h
    exact ⟨_, pss_one (ps_ret (pe_fn F1 hr (by decide) (pa_cons (pv 0) (pa_cons (pv 1) (pa_cons (pv 2) (pa_cons pe_str pa_nil)))))), _, rfl, _, rfl, _, rfl, x, y, z, cs, rs, ys, 2, rfl, h2⟩
end
end MW

/-! tally. -/
namespace MW
open PySem PySem.Spec PyProof.Rows L2
open MS (ws free begs perms lineup own owns Bagged mem_ws mem_perms mem_begs mem_free Nd nxt st0 ndOf settle lookC putC addC addNode stepL lvl cnts Tal)

abbrev sTally : Stmt := top 34
def spTally (K : PySem.W.Frag) (CC CS : Addr) : Sp := fun vs H Q _ => ∃ (x y z : V) (cs : List (Str × Str)) (rs : List Rul) (ys : List (List Int)), vs = [x, y, z] ∧ CrewAt K CC H x cs ∧ SchAt K CS H y rs ∧ YdAt K H z ys cs.length ∧
  ∀ v rows H', Same H H' → Dp K H' v (.list (rows.map rowD)) → MS.Rows rows ((perms cs.length).map (owns (tkM cs rs) ys)) → rows.length ≤ 46656 → Q v H'
theorem cnts_len (l : List (Nd × Int)) : (l.foldl (fun acc (p : Nd × Int) => addC acc (MS.settle p.1) p.2) ([] : List (List Int × Int))).length ≤ l.length := by
  have := fold_len (fun (p : Nd × Int) (acc : List (List Int × Int)) => addC acc (MS.settle p.1) p.2) 1 (fun b acc => putC_len _ _ _) l []
  simpa using this
theorem keys_kl {H : Hp} : ∀ {c : List (List Int × Int)} {bs : List Addr}, IsKeys H (entG trK c) bs → ∃ kl : List (Addr × List Int), kl.map (fun q => V.ref q.1) = bs.map V.ref ∧ kl.map (·.2) = c.map (·.1) ∧ ∀ q ∈ kl, H q.1 = some (.tup (q.2.map V.int))
  | [], bs, h => by
    cases h
    exact ⟨[], rfl, rfl, fun _ h => nomatch h⟩
  | p :: c, bs, h => by
    unfold entG at h
    rw [List.map_cons] at h
    cases h with
    | @cons _ b _ bs h t =>
      obtain ⟨kl, h1, h2, h3⟩ := keys_kl (c := c) t
      refine ⟨(b, p.1) :: kl, by rw [List.map_cons, List.map_cons, h1], by rw [List.map_cons, List.map_cons, h2], fun q hq => ?_⟩
      rcases List.mem_cons.mp hq with e | e
      · subst e
        have h' : H b = some (.tup ((trK p.1).map kV)) := h
        rw [trK_kV] at h'
        exact h'
      · exact h3 q e
section
variable {P : Program} {w : World} {K : PySem.W.Frag} {mg : Str → Option Value} {base : Heap} {C CS CV : Addr}
abbrev nTally : List Str := ["crew", "scheme", "yards", "counts", "full", "node", "many", "trail"]
theorem sc_tally : FnScope nTally ["crew", "scheme", "yards"] (defScope sTally) := ⟨rfl, rfl, rfl, by decide +kernel, rfl, by decide +kernel, by decide +kernel⟩
theorem ok_tally {f : Addr} {fd : FuncData} (F : Fun K "tally" "tally" sTally f fd) (B : Bi mg) (F1 : Fn P w K mg base 1 "settled" (spSettled K)) (F2 : Fn P w K mg base 3 "check_yards" (spChkY K C)) (F3 : Fn P w K mg base 6 "levels_of" (spLevels P w K C CS)) :
    FnOk P w K mg base CX0 7 f fd ["crew", "scheme", "yards"] (spTally K C CS) := by
  refine F.ok sc_tally (fun vs H Q E h => ?_) (fun cdv A outer s H vs Q E hr h => ?_)
  · obtain ⟨x, y, z, cs, rs, ys, rfl, _⟩ := h
    rfl
  · obtain ⟨x, y, z, cs, rs, ys, rfl, hc, hs, hy, k⟩ := h
    have nd := sc_tally.nd
    have hc6 : cs.length ≤ 6 := (id hc).elim fun _ ⟨_, _, _, _, _, _, h6⟩ => h6
    have hu := hr.units
    have hu1 := hu_of hr
    have hbag := bagged cs rs
    refine ⟨_, pss_cons (ps_expr (pe_fn F2 hr (by decide) (pa_cons (pv 0) (pa_cons (pv 2) pa_nil))))
      (pss_cons (ps_set (i := 3) nd rfl (Or.inr rfl) pe_dnewT)
      (pss_cons (ps_set (i := 4) nd rfl (Or.inl rfl) (pe_ix ix_list (pe_fn F3 hr (by decide) (pa_cons (pv 0) (pa_cons (pv 1) (pa_cons (pv 2) pa_nil)))) (pe_un un_neg pe_int) (fun _ _ => rfl)))
      (pss_cons (ps_lock (ps_for PassesOwn.never rfl (pi_NI (pv 4)) (pg_tup rfl (pgs_cons (pg_name (i := 5) nd rfl (Or.inl rfl)) (pgs_cons (pg_name (i := 6) nd rfl (Or.inl rfl)) pgs_nil)))
        (pss_cons (ps_set (i := 7) nd rfl (Or.inl rfl) (pe_fn F1 hr (by decide) (pa_cons (pv 5) pa_nil)))
        (pss_one (ps_dput hu1 (pv 3) (pv 7) (pe_op op_add (pe_dget2 hu1 (pv 3) (pv 7) pe_int ⟨rfl, rfl, rfl, rfl⟩) (pv 6)) rfl)))))
      (pss_one (ps_ret (pe_lc (own := [("trail", 7)]) (g := gName 7) (tt := tYes) rfl nd (pi_list (pe_callB (cr_sortD hu) (by rfl) B.sorted (by decide +kernel) (pa_cons (pe_callTy (call_list_dT rfl) (by rfl) B.list (by decide +kernel) (pa_cons (pv 3) pa_nil)) pa_nil)))
        (blkOk_by (own := [("trail", 7)]) (N := nTally) (sc := defScope sTally) (by decide +kernel)) (fun _ _ _ _ _ => pg_name (i := 7) nd rfl (Or.inl rfl)) (fun _ _ _ _ _ => pts_nil)
        (fun _ _ _ _ _ => pe_tup (pa_cons (pv 7) (pa_cons (pe_dget hu1 (pv 3) (pv 7) (fun _ _ => rfl)) pa_nil))))))))), ?_⟩
    refine ⟨_, rfl, _, rfl, x, z, cs, ys, rfl, hc, hy, fun H1 e1 => ?_⟩
    intro cd hcd
    have ncd : H cd = none := none_back e1 hcd
    have e2 := same_new (o := .dT []) hcd
    have e02 := e1.trans e2
    refine ⟨_, rfl, _, rfl, _, rfl, x, y, z, cs, rs, ys, rfl, hc.same e02, hs.same e02, hy.same e02, fun vl H3 e3 hl3 => ?_⟩
    have e03 := e02.trans e3
    obtain ⟨L, ds, rfl, hL, ⟨hdl, hnd⟩, hlv⟩ := hl3
    obtain ⟨dn, hdn⟩ : ∃ d, ds[cs.length]? = some d := ⟨ds[cs.length]'(by omega), List.getElem?_eq_getElem _⟩
    have hds : ds.map V.ref = (ds.dropLast.map V.ref) ++ [V.ref dn] := by
      have h1 : ds ≠ [] := by
        intro z
        rw [z] at hdl
        cases hdl
      have h2 : ds.getLast h1 = dn := by
        rw [List.getLast_eq_getElem]
        have := (List.getElem?_eq_some_iff.mp hdn).2
        simp only [hdl]
        exact this
      rw [← h2, show [V.ref (ds.getLast h1)] = [ds.getLast h1].map V.ref from rfl, ← List.map_append, List.dropLast_concat_getLast]
    obtain ⟨xs, hxd, hxk, hxv⟩ := hlv _ dn hdn
    have hcd3 : H3 cd = some (.dT []) := e3 _ _ upd_same
    have ncn : cd ≠ dn := by
      rintro rfl
      rw [hcd3] at hxd
      cases hxd
    have hlen := ent_len hxv
    have hbig := lvl_big (tk := tkM cs rs) (ys := ys) hc6 (Nat.le_refl cs.length)
    refine ⟨_, rfl, L, ds.map V.ref, -1, V.ref dn, rfl, rfl, SqL.of hL, by rw [hds]; exact atI_last _ _, ?_⟩
    refine ⟨dn, ndO P w dn xs, hxd, trivial, fun od => ?_⟩
    refine ⟨_, rfl, dn, od, xs, rfl, upd_same, ?_⟩
    refine for_it walk_ni (fun i σ H' => ∃ v5 v6 v7 : Option V, σ = [some x, some y, some z, some (.ref cd), some (.ref dn), v5, v6, v7] ∧ (∀ a v, a ≠ dn → H a = some v → H' a = some v) ∧ H' dn = some (.frz od (ndO P w dn xs)) ∧ KeysAt K H' xs ∧
        H' cd = some (.dT (entG trK (((lvl (tkM cs rs) ys cs.length cs.length).take i).foldl (fun acc (p : Nd × Int) => addC acc (MS.settle p.1) p.2) ([] : List (List Int × Int))))))
      ⟨_, _, _, rfl, fun a v ne h => by rw [upd_ne ne]; exact e03 _ _ h, upd_same, hxk.tp (Tp.upd hxd rfl), by rw [upd_ne ncn]; exact hcd3⟩ (fun i σ H' _ ⟨_, _, _, _, _, e, _⟩ => e) ?_ ?_
    · rintro i v σ H4 H5 hi ⟨v5, v6, v7, rfl, e4, hfr, hk4, hc4⟩ ⟨T, en, hen, rfl, hT, rfl⟩
      obtain ⟨p, hp, hp1, hp2⟩ := ent_at hxv hen
      have ok := lvl_ok cs.length p (List.mem_of_getElem? hp)
      have s45 := same_new (o := .tup [.ref en.2.1, en.2.2]) hT
      have hnode : Dp K (upd H4 T (.tup [.ref en.2.1, en.2.2])) (V.ref en.2.1) (ndD p.1) := by
        have := (hk4 en (List.mem_of_getElem? hen)).1
        rw [hp1, data_nk] at this
        exact dp_same s45 this
      refine ⟨T, _, rfl, SqT.of upd_same, rfl, _, _, rfl, _, _, rfl, rfl, ?_⟩
      refine ⟨_, rfl, V.ref en.2.1, p.1, rfl, hnode, by rw [ok.h, ok.f], by rw [ok.f]; exact hy.2.2.1, fun ta H6 e6 hta => ?_⟩
      have s46 := s45.trans e6
      have hc6' := s46 _ _ hc4
      have hp2' : en.2.2 = V.int p.2 := hp2
      rw [hp2']
      have hta' : H6 ta = some (.tup ((trK (MS.settle p.1)).map kV)) := by rw [trK_kV]; exact hta
      refine ⟨_, rfl, cd, rfl, .inr ⟨_, .inl hc6'⟩, _, rfl, _, DGet.t (k := trK (MS.settle p.1)) hc6' hta', ?_⟩
      rw [valV_ent trK_inj]
      have hgd : ∀ o : Option Int, (o.map V.int).getD (V.int 0) = V.int (o.getD 0) := fun o => by cases o <;> rfl
      rw [hgd]
      refine ⟨_, rfl, _, _, rfl, rfl, _, rfl, _, rfl, cd, _, rfl, DPut.t (k := trK (MS.settle p.1)) hc6' hta' ?_, ?_⟩
      · unfold entG
        rw [List.length_map]
        have := cnts_len ((lvl (tkM cs rs) ys cs.length cs.length).take i)
        rw [List.length_take] at this
        exact small_lt (by omega)
      refine ⟨_, _, _, rfl, fun a v ne h => ?_, by rw [upd_ne (Ne.symm ncn)]; exact s46 _ _ hfr, (hk4.tp (Tp.of s46)).tp (Tp.upd hc6' rfl), ?_⟩
      · have : a ≠ cd := by
          rintro rfl
          rw [ncd] at h
          cases h
        rw [upd_ne this]
        exact s46 _ _ (e4 a v ne h)
      · rw [put_ent trK_inj, take_succ_get hp, List.foldl_append]
        exact upd_same
    · rintro σ H4 ⟨v5, v6, v7, rfl, e4, hfr, hk4, hc4⟩
      refine ⟨hfr, ?_⟩
      have e04 : Same H (upd H4 dn (ndO P w dn xs)) := fun a v h => by
        by_cases c : a = dn
        · subst c
          rw [upd_same, ← hxd]
          exact e03 _ _ h
        · rw [upd_ne c]
          exact e4 a v c h
      have hc5 : (upd H4 dn (ndO P w dn xs)) cd = some (.dT (entG trK (cnts (lvl (tkM cs rs) ys cs.length cs.length)))) := by
        rw [upd_ne ncn, hc4, hlen, List.take_length]
        rfl
      refine ⟨_, rfl, cd, _, rfl, .inl hc5, fun p bs hp hk => ?_⟩
      obtain ⟨kl, hk1, hk2, hk3⟩ := keys_kl hk
      have e5 := same_new (o := .lst (bs.map V.ref)) hp
      refine sort_use (fun q : Addr × List Int => V.ref q.1) (fun q => tupI q.2) kl (by rw [hk1]; exact SqL.of upd_same) (fun q hq => tupI_of (SqT.of (e5 _ _ (hk3 q hq)))) (fun _ _ => alike_tupI _ _) (fun q hq => ?_) (fun q => by rw [depth_tupI]; decide) fun p2 kl' hp2 perm pw => ?_
      · have hkey : q.2 ∈ (cnts (lvl (tkM cs rs) ys cs.length cs.length)).map (·.1) := hk2 ▸ List.mem_map.mpr ⟨q, hq, rfl⟩
        obtain ⟨p', hp', hpe⟩ := List.mem_map.mp hkey
        have hl2 := fold_all (P := fun t : List Int => t.length = ys.length) (fun (p : Nd × Int) (acc : List (List Int × Int)) => addC acc (MS.settle p.1) p.2) (lvl (tkM cs rs) ys cs.length cs.length) [] (fun p hp acc ha => putC_all (P := fun t : List Int => t.length = ys.length) ha (by
          have ok := lvl_ok cs.length p hp
          unfold MS.settle
          rw [List.length_zipWith, ok.h, ok.f, Nat.min_self])) (fun _ h => nomatch h) p' hp'
        rw [hpe] at hl2
        have h1 := hy.2.1
        cases e : q.2 with
        | nil =>
          rw [e] at hl2
          have : 0 = ys.length := hl2
          omega
        | cons n r => exact ⟨_, _, rfl⟩
      have e6 := same_new (o := .lst (kl'.map fun q => V.ref q.1)) hp2
      have e56 := e5.trans e6
      have e06 := e04.trans e56
      have hkl' : ∀ q ∈ kl', q ∈ kl := fun q hq => perm.mem_iff.mp hq
      have hrl : kl'.length = (cnts (lvl (tkM cs rs) ys cs.length cs.length)).length := by
        rw [perm.length_eq]
        have := congrArg List.length hk2
        rw [List.length_map, List.length_map] at this
        exact this
      have hcl := cnts_len (lvl (tkM cs rs) ys cs.length cs.length)
      have hcl' : (cnts (lvl (tkM cs rs) ys cs.length cs.length)).length ≤ 46656 := Nat.le_trans hcl hbig
      refine ⟨p2, rfl, ⟨_, SqL.of upd_same⟩, fun D hD => lc_data (K := K) walk_list (fun _ => true) (fun i => rowD ((kl'.getD i (0, [])).2, (lookC (cnts (lvl (tkM cs rs) ys cs.length cs.length)) (kl'.getD i (0, [])).2).getD 0)) (fun i _ => flat_row _) (by rw [List.length_map]; omega) hD (fun H' e => SqL.of (e _ _ upd_same)) ?_ ?_⟩
      · rintro i v H7 H7' hi e7 ⟨rfl, hv⟩
        obtain ⟨q, hq, rfl⟩ := map_get hv
        have en : kl'.getD i (0, []) = q := getD_of hq
        have hqm := hkl' q (List.mem_of_getElem? hq)
        refine ⟨Same.refl _, _, eg_name, rfl, et_yes.weak fun b' H8 h8 => ⟨h8.1, h8.2 ▸ Same.refl _⟩, fun _ H8 e8 Q' qq => ?_⟩
        rw [en] at qq
        have e58 := (e56.trans e7).trans e8
        have ht8 := e58 _ _ (hk3 q hqm)
        have hc8 := e58 _ _ hc5
        have hkey : q.2 ∈ (cnts (lvl (tkM cs rs) ys cs.length cs.length)).map (·.1) := hk2 ▸ List.mem_map.mpr ⟨q, hqm, rfl⟩
        obtain ⟨p', hp', hpe⟩ := List.mem_map.mp hkey
        have ht := (MS.full_tal (tk := tkM cs rs) (ys := ys) (n := cs.length) hbag).nd
        have hlk : lookC (cnts (lvl (tkM cs rs) ys cs.length cs.length)) q.2 = some p'.2 := MS.lookC_some ht (by rw [← hpe]; exact hp')
        have hlk2 : valV (entG trK (cnts (lvl (tkM cs rs) ys cs.length cs.length))) (trK q.2) = some (V.int p'.2) := by
          rw [valV_ent trK_inj, hlk]
          rfl
        have hdg := DGet.t (k := trK q.2) hc8 (by rw [trK_kV]; exact ht8)
        rw [hlk2] at hdg
        refine ⟨_, rfl, _, rfl, _, rfl, cd, _, rfl, hdg, small_le (show 2 ≤ 100000 by decide), fun p3 hp3 => qq _ _ ⟨same_new hp3, ?_⟩⟩
        rw [hlk]
        exact .tup (SqT.of upd_same) (.cons (tupI_of (SqT.of ((same_new hp3) _ _ ht8))) (.cons (.int _) .nil))
      · intro H7 acc e7 hacc hda
        rw [List.length_map, mapD_list kl' (0, []) (fun q => rowD (q.2, (lookC (cnts (lvl (tkM cs rs) ys cs.length cs.length)) q.2).getD 0))] at hda
        have hrows : kl'.map (fun q => rowD (q.2, (lookC (cnts (lvl (tkM cs rs) ys cs.length cs.length)) q.2).getD 0)) = (((kl'.map (·.2)).map fun t => (t, (lookC (cnts (lvl (tkM cs rs) ys cs.length cs.length)) t).getD 0))).map rowD := by
          rw [List.map_map, List.map_map]
          rfl
        rw [hrows] at hda
        refine k _ _ _ (e06.trans e7) (.lst (SqL.of hacc) hda) (MS.Rows.of_keys (MS.full_tal hbag) ?_ ?_) (by rw [List.length_map, List.length_map]; omega)
        · rw [← hk2]
          exact perm.map _
        · rw [List.pairwise_map]
          refine pw.imp fun {a b} h => ?_
          rw [lt_tupI] at h
          exact of_decide_eq_false h
end
end MW

/-! moved_counts. -/
namespace MW
open PySem PySem.Spec PyProof.Rows L2
open MS (ws free begs perms lineup own owns Bagged mem_ws mem_perms movesL cnt)

theorem row_len {tk : Int → List Int → Bool} {ys : List (List Int)} {n : Nat} {rows : List (List Int × Int)} (h : MS.Rows rows ((perms n).map (owns tk ys))) {p : List Int × Int} (hp : p ∈ rows) : p.1.length = ys.length := by
  obtain ⟨r, _, e⟩ := List.mem_map.mp ((h.tal.mem p.1).mp (List.mem_map.mpr ⟨p, hp, rfl⟩))
  rw [← e]
  exact List.length_map _
def mcK (a b : Int) : List (L2.Key × V) := [(.inr "needed", .int a), (.inr "needless", .int b)]
theorem ne_need : ¬ (("needed" : Str) = "needless") := by decide +kernel
theorem ne_nk : ¬ ((Sum.inr ("needed" : Str) : L2.Key) = Sum.inr ("needless" : Str)) := by
  intro z
  injection z with z
  exact ne_need z
theorem mc_val (k : Bool) (a b : Int) : valV (mcK a b) (.inr (mvS k)) = some (.int (if k = true then b else a)) := by
  cases k with
  | true => exact (valV_neg ne_nk).trans (valV_pos rfl)
  | false => exact valV_pos rfl
theorem mc_put (k : Bool) (a b v : Int) : putK (mcK a b) (.inr (mvS k)) (.int v) = mcK (if k = true then a else v) (if k = true then v else b) := by
  have h2 : ¬ ((Sum.inr ("needless" : Str) : L2.Key) = Sum.inr ("needed" : Str)) := fun z => ne_nk z.symm
  unfold putK
  rw [valV_any, mc_val]
  cases k with
  | true =>
    unfold mcK
    show List.map _ _ = _
    rw [List.map_cons, List.map_cons, List.map_nil]
    have e1 : ¬ ((Sum.inr ("needed" : Str) : L2.Key) = Sum.inr (mvS true)) := ne_nk
    have e2 : (Sum.inr ("needless" : Str) : L2.Key) = Sum.inr (mvS true) := rfl
    show [if (Sum.inr ("needed" : Str) : L2.Key) = Sum.inr (mvS true) then _ else _, if (Sum.inr ("needless" : Str) : L2.Key) = Sum.inr (mvS true) then _ else _] = _
    rw [if_neg e1, if_pos e2]
    rfl
  | false =>
    unfold mcK
    show List.map _ _ = _
    rw [List.map_cons, List.map_cons, List.map_nil]
    have e1 : (Sum.inr ("needed" : Str) : L2.Key) = Sum.inr (mvS false) := rfl
    have e2 : ¬ ((Sum.inr ("needless" : Str) : L2.Key) = Sum.inr (mvS false)) := h2
    show [if (Sum.inr ("needed" : Str) : L2.Key) = Sum.inr (mvS false) then _ else _, if (Sum.inr ("needless" : Str) : L2.Key) = Sum.inr (mvS false) then _ else _] = _
    rw [if_pos e1, if_neg e2]
    rfl
theorem cnt_step {k : Bool} {ys : List (List Int)} {rows : List (List Int × Int)} {i : Nat} {p : List Int × Int} (h : rows[i]? = some p) : cnt k ys (rows.take (i + 1)) = cnt k ys (rows.take i) + p.2 * ((movesL ys p.1).count k : Int) := by
  unfold MS.cnt
  rw [take_succ_get h, List.map_append, List.sum_append]
  simp
theorem count_step {k m : Bool} {l : List Bool} {j : Nat} (h : l[j]? = some m) : (l.take (j + 1)).count k = (l.take j).count k + if m = k then 1 else 0 := by
  rw [take_succ_get h, List.count_append]
  congr 1
  cases m <;> cases k <;> rfl
abbrev sMoved : Stmt := top 35
def spMoved (K : PySem.W.Frag) (CC CS : Addr) : Sp := fun vs H Q _ => ∃ (x y b a : V) (cs : List (Str × Str)) (rs : List Rul) (few more : List Int), vs = [x, y, b, a] ∧ CrewAt K CC H x cs ∧ SchAt K CS H y rs ∧ Dp K H b (tupI few) ∧ Dp K H a (tupI more) ∧ GoodY cs.length few ∧ GoodY cs.length more ∧
  ∀ v rows H', Same H H' → MS.Rows rows ((perms cs.length).map (owns (tkM cs rs) [few, more])) → Dp K H' v (tupI [cnt false [few, more] rows + cnt true [few, more] rows, cnt false [few, more] rows, cnt true [few, more] rows]) → Q v H'
section
variable {P : Program} {w : World} {K : PySem.W.Frag} {mg : Str → Option Value} {base : Heap} {C CS CV : Addr}
abbrev nMoved : List Str := ["crew", "scheme", "before", "after", "yards", "counts", "trail", "many", "move"]
theorem sc_moved : FnScope nMoved ["crew", "scheme", "before", "after"] (defScope sMoved) := ⟨rfl, rfl, rfl, by decide +kernel, rfl, by decide +kernel, by decide +kernel⟩
theorem ok_moved {f : Addr} {fd : FuncData} (F : Fun K "moved_counts" "moved_counts" sMoved f fd) (F1 : Fn P w K mg base 7 "tally" (spTally K C CS)) (F2 : Fn P w K mg base 1 "moves_of" (spMoves K)) :
    FnOk P w K mg base CX0 8 f fd ["crew", "scheme", "before", "after"] (spMoved K C CS) := by
  refine F.ok sc_moved (fun vs H Q E h => ?_) (fun cdv A outer s H vs Q E hr h => ?_)
  · obtain ⟨x, y, b, a, cs, rs, few, more, rfl, _⟩ := h
    rfl
  · obtain ⟨x, y, b, a, cs, rs, few, more, rfl, hc, hs, hb, ha, gb, ga, k⟩ := h
    have nd := sc_moved.nd
    have hc6 : cs.length ≤ 6 := (id hc).elim fun _ ⟨_, _, _, _, _, _, h6⟩ => h6
    have hu1 := hu_of hr
    refine ⟨_, pss_cons (ps_set (i := 4) nd rfl (Or.inl rfl) (pe_lst (pa_cons (pv 2) (pa_cons (pv 3) pa_nil))))
      (pss_cons (ps_set (i := 5) nd rfl (Or.inl rfl) (pe_disp (pps_cons pe_str pe_int (pps_cons pe_str pe_int pps_nil)) (by rfl) (by rfl) (fun z => by cases z) (by decide)))
      (pss_cons (ps_for PassesOwn.never rfl (pi_list (pe_fn F1 hr (by decide) (pa_cons (pv 0) (pa_cons (pv 1) (pa_cons (pv 4) pa_nil))))) (pg_tup rfl (pgs_cons (pg_name (i := 6) nd rfl (Or.inl rfl)) (pgs_cons (pg_name (i := 7) nd rfl (Or.inl rfl)) pgs_nil)))
        (pss_one (ps_for PassesOwn.never rfl (pi_list (pe_fn F2 hr (by decide) (pa_cons (pv 6) (pa_cons (pv 4) pa_nil)))) (pg_name (i := 8) nd rfl (Or.inl rfl))
          (pss_one (ps_dput hu1 (pv 5) (pv 8) (pe_op op_add (pe_dget hu1 (pv 5) (pv 8) (fun _ _ => rfl)) (pv 7)) rfl)))))
      (pss_one (ps_ret (pe_tup (pa_cons (pe_op op_add (pe_dget hu1 (pv 5) pe_str (fun _ _ => rfl)) (pe_dget hu1 (pv 5) pe_str (fun _ _ => rfl))) (pa_cons (pe_dget hu1 (pv 5) pe_str (fun _ _ => rfl)) (pa_cons (pe_dget hu1 (pv 5) pe_str (fun _ _ => rfl)) pa_nil)))))))), ?_⟩
    refine ⟨_, rfl, _, rfl, small_le (show 2 ≤ 100000 by decide), fun L hL => ?_⟩
    have e1 := same_new (o := .lst [b, a]) hL
    intro cd hcd
    have e2 := e1.trans (same_new (o := .dK []) hcd)
    have ncd : H cd = none := none_back e1 hcd
    refine ⟨upd_same, mcK 0 0, rfl, by show 2 ≤ 15; decide, ?_⟩
    have hmk : mergeK [] (mcK 0 0) = mcK 0 0 := by decide +kernel
    rw [hmk]
    have e3 : Same H (upd (upd (upd H L (.lst [b, a])) cd (.dK [])) cd (.dK (mcK 0 0))) := same_mut e2 ncd
    have hLc : L ≠ cd := ne_of_none upd_same hcd
    have hyL : Dp K (upd (upd (upd H L (.lst [b, a])) cd (.dK [])) cd (.dK (mcK 0 0))) (V.ref L) (.list ([few, more].map tupI)) :=
      .lst (SqL.of (by rw [upd_ne hLc, upd_ne hLc]; exact upd_same)) (.cons (dp_same e3 hb) (.cons (dp_same e3 ha) .nil))
    have hY : YdAt K (upd (upd (upd H L (.lst [b, a])) cd (.dK [])) cd (.dK (mcK 0 0))) (V.ref L) [few, more] cs.length := ⟨hyL, (show 1 ≤ 2 by decide), (show 2 ≤ 8 by decide), fun y hy => by
      rcases List.mem_cons.mp hy with rfl | hy
      · exact gb
      · rw [List.mem_singleton] at hy
        exact hy ▸ ga⟩
    refine ⟨_, rfl, _, rfl, _, rfl, x, y, V.ref L, cs, rs, [few, more], rfl, hc.same e3, hs.same e3, hY, fun v rows H4 e4 hv hrows hrl => ?_⟩
    obtain ⟨la, xs, rfl, hla, hxs⟩ := dp_lst hv
    have hlen : xs.length = rows.length := by rw [dps_len hxs, List.length_map]
    have e04 := e3.trans e4
    refine ⟨la, rfl, ⟨_, hla⟩, for_list (K := K) (a := la) (xs := xs) (fun i σ H' => ∃ v6 v7 v8 : Option V, σ = [some x, some y, some b, some a, some (.ref L), some (.ref cd), v6, v7, v8] ∧ Same H H' ∧ Kq H4 H' ∧
        H' cd = some (.dK (mcK (cnt false [few, more] (rows.take i)) (cnt true [few, more] (rows.take i)))))
      ⟨_, _, _, rfl, e04, Kq.refl _, e4 _ _ upd_same⟩ (fun i σ H' _ ⟨_, _, _, _, _, h, _⟩ => h.sqL hla) ?_ ?_⟩
    · rintro i v σ H5 hi ⟨v6, v7, v8, rfl, e5, k5, hc5⟩
      obtain ⟨p, hp, hpd⟩ := dps_all hxs hi
      obtain ⟨t, vt, vm, rfl, ht, hvt, hvm⟩ := dp_tup2 (dp_kq k5 hpd)
      cases hvm
      have hpl := row_len hrows (List.mem_of_getElem? hp)
      have hy5 := dp_kq k5 (dp_same e4 hyL)
      refine ⟨t, _, rfl, ht, rfl, _, _, rfl, _, _, rfl, rfl, ?_⟩
      refine ⟨_, rfl, _, rfl, vt, V.ref L, p.1, [few, more], rfl, hvt, hy5, hpl, (show 2 ≤ 8 by decide), fun vq H6 e6 hvq => ?_⟩
      obtain ⟨qa, qs, rfl, hqa, hqs⟩ := dp_lst hvq
      have hql : qs.length = (movesL [few, more] p.1).length := by rw [dps_len hqs, List.length_map]
      refine ⟨qa, rfl, ⟨_, hqa⟩, for_list (K := K) (a := qa) (xs := qs) (fun j σ H' => ∃ v8 : Option V, σ = [some x, some y, some b, some a, some (.ref L), some (.ref cd), some vt, some (.int p.2), v8] ∧ Same H H' ∧ Kq H6 H' ∧
          H' cd = some (.dK (mcK (cnt false [few, more] (rows.take i) + p.2 * (((movesL [few, more] p.1).take j).count false : Int)) (cnt true [few, more] (rows.take i) + p.2 * (((movesL [few, more] p.1).take j).count true : Int)))))
        ⟨_, rfl, e5.trans e6, Kq.refl _, ?_⟩ (fun j σ H' _ ⟨_, _, _, h, _⟩ => h.sqL hqa) ?_ ?_⟩
      · have := e6 _ _ hc5
        simpa using this
      · rintro j vj σ H7 hj ⟨v8, rfl, e7, k7, hc7⟩
        obtain ⟨m, hm, hmd⟩ := dps_all hqs hj
        cases hmd
        have hdg := DGet.k (k := Sum.inr (mvS m)) hc7
        rw [mc_val] at hdg
        refine ⟨_, rfl, _, rfl, cd, _, rfl, hdg, _, rfl, _, _, rfl, rfl, _, rfl, _, rfl, cd, _, rfl, DPut.k (k := Sum.inr (mvS m)) hc7 (small_lt (show 2 ≤ 100000 by decide)), ?_⟩
        rw [mc_put]
        have e8 : Same H (upd H7 cd (.dK (mcK (cnt false [few, more] (rows.take i) + p.2 * (((movesL [few, more] p.1).take (j + 1)).count false : Int)) (cnt true [few, more] (rows.take i) + p.2 * (((movesL [few, more] p.1).take (j + 1)).count true : Int))))) := same_mut e7 ncd
        have hst : mcK (if m = true then cnt false [few, more] (rows.take i) + p.2 * (((movesL [few, more] p.1).take j).count false : Int) else (if m = true then cnt true [few, more] (rows.take i) + p.2 * (((movesL [few, more] p.1).take j).count true : Int) else cnt false [few, more] (rows.take i) + p.2 * (((movesL [few, more] p.1).take j).count false : Int)) + p.2)
            (if m = true then (if m = true then cnt true [few, more] (rows.take i) + p.2 * (((movesL [few, more] p.1).take j).count true : Int) else cnt false [few, more] (rows.take i) + p.2 * (((movesL [few, more] p.1).take j).count false : Int)) + p.2 else cnt true [few, more] (rows.take i) + p.2 * (((movesL [few, more] p.1).take j).count true : Int)) =
            mcK (cnt false [few, more] (rows.take i) + p.2 * (((movesL [few, more] p.1).take (j + 1)).count false : Int)) (cnt true [few, more] (rows.take i) + p.2 * (((movesL [few, more] p.1).take (j + 1)).count true : Int)) := by
          rw [count_step (k := false) hm, count_step (k := true) hm]
          cases m with
          | true =>
            rw [if_pos rfl, if_pos rfl, if_pos rfl, if_neg (by decide), if_pos rfl, Nat.add_zero]
            congr 1
            rw [Int.natCast_add, Int.mul_add]
            omega
          | false =>
            rw [if_neg Bool.false_ne_true, if_neg Bool.false_ne_true, if_neg Bool.false_ne_true, if_pos rfl, if_neg (by decide), Nat.add_zero]
            congr 1
            rw [Int.natCast_add, Int.mul_add]
            omega
        rw [hst]
        exact ⟨_, rfl, e8, k7.upd hc7 rfl, upd_same⟩
      · rintro σ H7 ⟨v8, rfl, e7, k7, hc7⟩
        rw [hql, List.take_length, ← cnt_step hp, ← cnt_step hp] at hc7
        exact ⟨_, _, _, rfl, e7, (k5.trans (Kq.of e6)).trans k7, hc7⟩
    · rintro σ H5 ⟨v6, v7, v8, rfl, e5, k5, hc5⟩
      rw [hlen, List.take_length] at hc5
      have g1 := DGet.k (k := Sum.inr (mvS false)) hc5
      have g2 := DGet.k (k := Sum.inr (mvS true)) hc5
      rw [mc_val] at g1 g2
      refine ⟨_, rfl, cd, _, rfl, g1, _, rfl, cd, _, rfl, g2, _, _, rfl, rfl, _, rfl, cd, _, rfl, g1, _, rfl, cd, _, rfl, g2, small_le (show 3 ≤ 100000 by decide), fun p hp => ?_⟩
      exact k _ rows _ (e5.trans (same_new hp)) hrows (.tup (SqT.of upd_same) (.cons (.int _) (.cons (.int _) (.cons (.int _) .nil))))
end
end MW

/-! Names, and a crew's lines. -/
namespace MW
open PySem PySem.Spec PyProof.Rows L2

abbrev sIsName : Stmt := top 39
abbrev sChkN : Stmt := top 40
abbrev sLines : Stmt := top 41
abbrev sRdW : Stmt := top 43
structure TokT (mg : Str → Option Value) : Prop where
  letters : ∃ t, mg "LETTERS" = some (.str "abcdefghijklmnopqrstuvwxyz" t)
  longest : ∃ t, mg "LONGEST_NAME" = some (.int 8 t)
def spIsName : Sp := fun vs H Q _ => ∃ x : Str, vs = [.str x] ∧ nameOk x = true ∧ Q (.bl true) H
def spChkN : Sp := fun vs H Q _ => ∃ x : Str, vs = [.str x] ∧ nameOk x = true ∧ Q .non H
theorem name_sign {x : Str} (h : nameOk x = true) : ∀ c ∈ x.cps.toList, 97 ≤ c ∧ c ≤ 122 := by
  unfold nameOk at h
  rw [Bool.and_eq_true, Bool.and_eq_true, List.all_eq_true] at h
  intro c hc
  exact of_decide_eq_true (h.1.1 c hc)
theorem name_len {x : Str} (h : nameOk x = true) : 1 ≤ x.length ∧ x.length ≤ 8 := by
  unfold nameOk at h
  rw [Bool.and_eq_true, Bool.and_eq_true] at h
  exact ⟨of_decide_eq_true h.1.2, of_decide_eq_true h.2⟩
theorem letters_all : ∀ c : Nat, 97 ≤ c → c ≤ 122 → c ∈ ("abcdefghijklmnopqrstuvwxyz" : Str).cps.toList := by
  have h : ((List.range 26).all fun i => decide (97 + i ∈ ("abcdefghijklmnopqrstuvwxyz" : Str).cps.toList)) = true := by decide +kernel
  rw [List.all_eq_true] at h
  intro c h1 h2
  have := of_decide_eq_true (h (c - 97) (List.mem_range.mpr (by omega)))
  rw [show 97 + (c - 97) = c by omega] at this
  exact this
theorem len_app (a b : Str) : (a ++ b).length = a.length + b.length := by rw [TL.len_tl, TL.len_tl a, TL.len_tl b, TL.tl_append, List.length_append]
section
variable {P : Program} {w : World} {K : PySem.W.Frag} {mg : Str → Option Value} {base : Heap}
theorem sc_isName : FnScope ["text", "char"] ["text"] (defScope sIsName) := ⟨rfl, rfl, rfl, by decide +kernel, rfl, by decide +kernel, by decide +kernel⟩
theorem ok_isName {f : Addr} {fd : FuncData} (F : Fun K "is_name" "is_name" sIsName f fd) (B : Bi mg) (T : TokT mg) : FnOk P w K mg base CX0 1 f fd ["text"] spIsName := by
  refine F.ok sc_isName (fun vs H Q E h => ?_) (fun cdv A outer s H vs Q E hr h => ?_)
  · obtain ⟨x, rfl, _⟩ := h
    rfl
  · obtain ⟨x, rfl, hx, k⟩ := h
    have nd := sc_isName.nd
    obtain ⟨t1, hl⟩ := T.letters
    obtain ⟨t2, hm⟩ := T.longest
    refine ⟨_, pss_cons (ps_if (pt_not (pt_val (pe_callB RZ.call_isTy (by rfl) B.isinstance (by decide +kernel) (pa_cons (pv 0) (pa_cons (pe_bltn (v := .ty "str") (by rfl) B.str PyProof.Rows.boot_str rfl) pa_nil))))) (pss_one (ps_ret pe_bl)) pss_nil)
      (pss_cons (ps_for PassesOwn.never rfl (pi_str (pv 0)) (pg_name (i := 1) nd rfl (Or.inl rfl)) (pss_one (ps_if (pt_cmpR op_notIn_sign (pv 1) (pe_glob (v := .str "abcdefghijklmnopqrstuvwxyz") rfl hl ⟨_, rfl⟩) (by rfl)) (pss_one (ps_ret pe_bl)) pss_nil)))
      (pss_one (ps_ret (pe_and (pe_cmpR op_ne (pv 0) pe_str (nomark _)) (pe_one (pe_cmpR op_le (pe_callB call_len_str (by rfl) B.len PySem.boot_len (pa_cons (pv 0) pa_nil)) (pe_glob (v := .int 8) rfl hm ⟨_, rfl⟩) (nomark _))))))), ?_⟩
    refine ⟨_, rfl, V.str x, "str", rfl, .str x, _, rfl, ?_⟩
    refine iteF ⟨_, rfl, x, rfl, ?_⟩
    refine for_it walk_str (fun i σ H' => ∃ v1 : Option V, σ = [some (.str x), v1] ∧ H' = H) ⟨none, rfl, rfl⟩ (fun _ _ _ _ _ => trivial) ?_ ?_
    · rintro i v σ H1 H1' hi ⟨v1, rfl, rfl⟩ ⟨rfl, c, hc, rfl⟩
      have hcm : c ∈ x.cps.toList := by
        rw [← Array.getElem?_toList] at hc
        exact List.mem_of_getElem? hc
      obtain ⟨h1, h2⟩ := name_sign hx c hcm
      refine ⟨_, rfl, c, _, rfl, rfl, _, rfl, ?_⟩
      rw [decide_eq_true (letters_all c h1 h2)]
      exact iteF ⟨_, rfl, rfl⟩
    · rintro σ H1 ⟨v1, rfl, rfl⟩
      obtain ⟨h1, h2⟩ := name_len hx
      have hne : ¬ x = ("" : Str) := by
        intro z
        rw [z] at h1
        exact absurd h1 (by decide)
      refine ⟨_, rfl, rfl, !decide (V.str x = V.str ""), rfl, ?_⟩
      rw [dec_str, decide_eq_false hne]
      refine iteT ⟨_, rfl, x, rfl, small_le (by omega), _, _, rfl, rfl, ?_⟩
      show Q (.bl (decide (((x.length : Nat) : Int) ≤ 8))) H1
      rw [decide_eq_true (by omega : ((x.length : Nat) : Int) ≤ 8)]
      exact k
theorem sc_chkN : FnScope ["text"] ["text"] (defScope sChkN) := ⟨rfl, rfl, rfl, by decide +kernel, rfl, by decide +kernel, by decide +kernel⟩
theorem ok_chkN {f : Addr} {fd : FuncData} (F : Fun K "check_name" "check_name" sChkN f fd) (F1 : Fn P w K mg base 1 "is_name" spIsName) : FnOk P w K mg base CX0 2 f fd ["text"] spChkN := by
  refine F.ok sc_chkN (fun vs H Q E h => ?_) (fun cdv A outer s H vs Q E hr h => ?_)
  · obtain ⟨x, rfl, _⟩ := h
    rfl
  · obtain ⟨x, rfl, hx, k⟩ := h
    exact ⟨_, pss_one (ps_if (pt_not (pt_val (pe_fn F1 hr (by decide) (pa_cons (pv 0) pa_nil)))) (pss_one ps_never) pss_nil), _, rfl, x, rfl, hx, _, rfl, iteF k⟩
/-! ### the lines of a crew -/
def crewLine (c : Str × Str) : Str := Txt.join " " ["worker", c.1, "make", c.2]
def nm2 (c : Str × Str) : Prop := nameOk c.1 = true ∧ nameOk c.2 = true
theorem tl_line (c : Str × Str) : TL.tl (crewLine c) = TL.tl "worker" ++ (TL.tl " " ++ (TL.tl c.1 ++ (TL.tl " " ++ (TL.tl "make" ++ (TL.tl " " ++ TL.tl c.2))))) := by
  unfold crewLine
  rw [TL.join_eq, TL.tl_join]
  rfl
theorem line_parts (c : Str × Str) : Str.empty ++ ("worker " : Str) ++ c.1 ++ (" make " : Str) ++ c.2 = crewLine c := by
  refine TL.ext_tl ?_
  rw [tl_line, TL.tl_append, TL.tl_append, TL.tl_append, TL.tl_append]
  have e1 : TL.tl ("worker " : Str) = TL.tl "worker" ++ TL.tl " " := by decide +kernel
  have e2 : TL.tl (" make " : Str) = TL.tl " " ++ (TL.tl "make" ++ TL.tl " ") := by decide +kernel
  have e3 : TL.tl Str.empty = [] := rfl
  rw [e1, e2, e3, List.nil_append]
  simp only [List.append_assoc]
theorem line_len {c : Str × Str} (h : nm2 c) : (crewLine c).length ≤ 40 := by
  have h1 := (name_len h.1).2
  have h2 := (name_len h.2).2
  rw [← line_parts, len_app, len_app, len_app, len_app]
  have e1 : (Str.empty).length = 0 := rfl
  have e2 : ("worker " : Str).length = 7 := by decide +kernel
  have e3 : (" make " : Str).length = 6 := by decide +kernel
  omega
theorem name_no {x : Str} (h : nameOk x = true) {c : Nat} (hc : c < 97) : c ∉ TL.tl x := fun z => by
  have := name_sign h c z
  omega
theorem line_split {c : Str × Str} (h : nm2 c) : Txt.split (crewLine c) " " = [("worker" : Str), c.1, "make", c.2] := by
  unfold crewLine
  refine TL.split_join (s := 32) (S := []) (by decide +kernel) (by decide +kernel) (List.cons_ne_nil _ _) fun p hp => ?_
  simp only [List.mem_cons, List.not_mem_nil, or_false] at hp
  rcases hp with rfl | rfl | rfl | rfl
  · decide +kernel
  · exact name_no h.1 (by decide)
  · decide +kernel
  · exact name_no h.2 (by decide)
theorem line_no {c : Str × Str} (h : nm2 c) : 10 ∉ TL.tl (crewLine c) := by
  rw [tl_line]
  intro z
  have d1 : 10 ∉ TL.tl ("worker" : Str) := by decide +kernel
  have d2 : 10 ∉ TL.tl (" " : Str) := by decide +kernel
  have d3 : 10 ∉ TL.tl ("make" : Str) := by decide +kernel
  simp only [List.mem_append] at z
  rcases z with z | z | z | z | z | z | z
  · exact d1 z
  · exact d2 z
  · exact name_no h.1 (by decide) z
  · exact d2 z
  · exact d3 z
  · exact d2 z
  · exact name_no h.2 (by decide) z
theorem lines_split {cs : List (Str × Str)} (h : ∀ c ∈ cs, nm2 c) (hne : cs ≠ []) : Txt.split (Txt.join "\n" (cs.map crewLine)) "\n" = cs.map crewLine := by
  refine TL.split_join (s := 10) (S := []) (by decide +kernel) (by decide +kernel) (fun z => hne (List.map_eq_nil_iff.mp z)) fun p hp => ?_
  obtain ⟨c, hc, rfl⟩ := List.mem_map.mp hp
  exact line_no (h c hc)
theorem sum_le {l : List Nat} {m : Nat} (h : ∀ n ∈ l, n ≤ m) : l.sum ≤ m * l.length := by
  induction l with
  | nil => exact Nat.zero_le _
  | cons a r ih =>
    rw [List.sum_cons, List.length_cons, Nat.mul_add]
    have h1 := h a List.mem_cons_self
    have h2 := ih fun n hn => h n (List.mem_cons_of_mem _ hn)
    omega
theorem joinL_len (S : List Nat) : ∀ l : List (List Nat), (TL.joinL S l).length ≤ (l.map List.length).sum + S.length * l.length
  | [] => Nat.zero_le _
  | [p] => by simp [TL.joinL]
  | p :: q :: r => by
    have ih := joinL_len S (q :: r)
    show (p ++ (S ++ TL.joinL S (q :: r))).length ≤ _
    rw [List.length_append, List.length_append, List.map_cons, List.sum_cons, List.length_cons, Nat.mul_add]
    omega
theorem join_len (y : Str) (ps : List Str) : (Txt.join y ps).length ≤ (ps.map (·.length)).sum + y.length * ps.length := by
  rw [TL.len_tl, TL.join_eq, TL.tl_join]
  have := joinL_len (TL.tl y) (ps.map TL.tl)
  rw [List.map_map, List.length_map] at this
  have e : ps.map (List.length ∘ TL.tl) = ps.map (·.length) := List.map_congr_left fun p _ => (TL.len_tl p).symm
  rw [e] at this
  rw [TL.len_tl y]
  exact this
def spRdW (K : PySem.W.Frag) : Sp := fun vs H Q _ => ∃ c : Str × Str, vs = [.str (crewLine c)] ∧ nm2 c ∧ ∀ v H', Same H H' → Dp K H' v (cD c) → Q v H'
theorem sc_rdW : FnScope ["line", "tokens"] ["line"] (defScope sRdW) := ⟨rfl, rfl, rfl, by decide +kernel, rfl, by decide +kernel, by decide +kernel⟩
theorem ok_rdW {f : Addr} {fd : FuncData} (F : Fun K "read_worker" "read_worker" sRdW f fd) (B : Bi mg) (F1 : Fn P w K mg base 1 "is_name" spIsName) : FnOk P w K mg base CX0 2 f fd ["line"] (spRdW K) := by
  refine F.ok sc_rdW (fun vs H Q E h => ?_) (fun cdv A outer s H vs Q E hr h => ?_)
  · obtain ⟨x, rfl, _⟩ := h
    rfl
  · obtain ⟨c, rfl, hc, k⟩ := h
    have nd := sc_rdW.nd
    refine ⟨_, pss_cons (ps_set (i := 1) nd rfl (Or.inl rfl) (pe_split (pv 0) pe_str))
      (pss_cons (ps_if (PW.pt (pw_or (pt_cmpR op_ne (pe_callB call_len_seq (by rfl) B.len PySem.boot_len (pa_cons (pv 1) pa_nil)) pe_int (nomark _))
          (pw_or (pt_cmpR op_ne (pe_ix ix_list (pv 1) pe_int (fun _ _ => rfl)) pe_str (nomark _)) (pw_or1 (pt_cmpR op_ne (pe_ix ix_list (pv 1) pe_int (fun _ _ => rfl)) pe_str (nomark _)))))) (pss_one (ps_ret pe_non)) pss_nil)
      (pss_cons (ps_if (PW.pt (pw_or (pt_not (pt_val (pe_fn F1 hr (by decide) (pa_cons (pe_ix ix_list (pv 1) pe_int (fun _ _ => rfl)) pa_nil)))) (pw_or1 (pt_not (pt_val (pe_fn F1 hr (by decide) (pa_cons (pe_ix ix_list (pv 1) pe_int (fun _ _ => rfl)) pa_nil))))))) (pss_one (ps_ret pe_non)) pss_nil)
      (pss_one (ps_ret (pe_tup (pa_cons (pe_ix ix_list (pv 1) pe_int (fun _ _ => rfl)) (pa_cons (pe_ix ix_list (pv 1) pe_int (fun _ _ => rfl)) pa_nil))))))), ?_⟩
    have hln := line_len hc
    refine ⟨_, rfl, ⟨_, rfl⟩, _, _, rfl, rfl, by decide +kernel, by rw [sizeLine_eq]; omega, fun p hp => ?_⟩
    rw [line_split hc]
    have e1 := same_new (o := .lst ([("worker" : Str), c.1, "make", c.2].map V.str)) hp
    have hL : SqL K (upd H p (.lst ([("worker" : Str), c.1, "make", c.2].map V.str))) p ([("worker" : Str), c.1, "make", c.2].map V.str) := SqL.of upd_same
    refine ⟨_, rfl, p, _, rfl, .inl hL, rfl, _, rfl, ?_⟩
    refine iteF ⟨_, rfl, p, _, 0, _, rfl, rfl, hL, rfl, rfl, _, rfl, ?_⟩
    rw [dec_str, decide_eq_true rfl]
    refine iteF ⟨_, rfl, p, _, 2, _, rfl, rfl, hL, rfl, rfl, _, rfl, ?_⟩
    rw [dec_str, decide_eq_true rfl]
    refine iteF ⟨_, rfl, p, _, 1, _, rfl, rfl, hL, rfl, c.1, rfl, hc.1, _, rfl, iteF ⟨_, rfl, p, _, 3, _, rfl, rfl, hL, rfl, c.2, rfl, hc.2, _, rfl, iteF ?_⟩⟩
    refine ⟨_, rfl, p, _, 1, _, rfl, rfl, hL, rfl, _, rfl, p, _, 3, _, rfl, rfl, hL, rfl, small_le (show 2 ≤ 100000 by decide), fun q hq => ?_⟩
    exact k _ _ (e1.trans (same_new hq)) (.tup (SqT.of upd_same) (.cons (.str _) (.cons (.str _) .nil)))
end
end MW

/-! The class Crew. -/
namespace MW
open PySem PySem.Spec PyProof.Rows L2

/-! ### heaps that keep all but one instance -/
def Off (a : Addr) (H H' : Hp) : Prop := ∀ b u, b ≠ a → H b = some u → H' b = some u
theorem Off.refl (a : Addr) (H : Hp) : Off a H H := fun _ _ _ h => h
theorem Off.trans {a : Addr} {A B C : Hp} (h : Off a A B) (k : Off a B C) : Off a A C := fun b u n q => k b u n (h b u n q)
theorem Off.of {a : Addr} {G H : Hp} (e : Same G H) : Off a G H := fun b u _ q => e b u q
theorem Off.put {a : Addr} {G H : Hp} (e : Off a G H) (o : HO) : Off a G (upd H a o) := fun b u n q => by
  rw [upd_ne n]
  exact e b u n q
theorem Off.mut {a l : Addr} {G H : Hp} (e : Off a G H) (hl : G l = none) (o : HO) : Off a G (upd H l o) := fun b u n q => by
  have : b ≠ l := by
    rintro rfl
    rw [hl] at q
    cases q
  rw [upd_ne this]
  exact e b u n q
/-- an instance's address, or one that isn't there -/
def insOr : Option HO → Prop
  | none => True
  | some (.ins _ _ _) => True
  | _ => False
theorem Off.rd {a b : Addr} {G H : Hp} {u : HO} (e : Off a G H) (h : insOr (G a)) (n : ∀ C dx fs, u ≠ .ins C dx fs) (q : Rd G b u) : Rd H b u := by
  have ne : b ≠ a := by
    rintro rfl
    rcases q with q | ⟨o, q⟩
    · rw [q] at h
      cases u with
      | ins C dx fs => exact n C dx fs rfl
      | _ => exact h
    · rw [q] at h
      exact h
  rcases q with q | ⟨o, q⟩
  · exact .inl (e b _ ne q)
  · exact .inr ⟨o, e b _ ne q⟩
theorem Off.sqL {K : PySem.W.Frag} {a b : Addr} {G H : Hp} {xs : List V} (e : Off a G H) (h : insOr (G a)) (q : SqL K G b xs) : SqL K H b xs := by
  rcases q with q | q
  · exact .inl (e.rd h (fun _ _ _ z => nomatch z) q)
  · exact .inr q
theorem Off.sqT {K : PySem.W.Frag} {a b : Addr} {G H : Hp} {xs : List V} (e : Off a G H) (h : insOr (G a)) (q : SqT K G b xs) : SqT K H b xs := by
  rcases q with q | q
  · exact .inl (e.rd h (fun _ _ _ z => nomatch z) q)
  · exact .inr q
mutual
theorem dp_off {K : PySem.W.Frag} {a : Addr} {G H : Hp} (e : Off a G H) (n : insOr (G a)) : ∀ {v : V} {d : PyData}, Dp K G v d → Dp K H v d
  | _, _, .non => .non
  | _, _, .bl b => .bl b
  | _, _, .int i => .int i
  | _, _, .str x => .str x
  | _, _, .lst h t => .lst (e.sqL n h) (dps_off e n t)
  | _, _, .tup h t => .tup (e.sqT n h) (dps_off e n t)
theorem dps_off {K : PySem.W.Frag} {a : Addr} {G H : Hp} (e : Off a G H) (n : insOr (G a)) : ∀ {vs : List V} {ds : List PyData}, DpAll K G vs ds → DpAll K H vs ds
  | _, _, .nil => .nil
  | _, _, .cons h t => .cons (dp_off e n h) (dps_off e n t)
end

/-- f'..' -/
def tJoin (ts : List TE) : TE := fun σ H Q => tJs ts Str.empty σ H fun out H1 => Q (.str out) H1
theorem pe_joinT {X : Cx} {v1 v2 : Expr} {rest : List Expr} {ts : List TE} {pos : Pos} (h : PJ X (v1 :: v2 :: rest) ts) : PE X (.JoinedStr (v1 :: v2 :: rest) pos) (tJoin ts) := pe_joined h
abbrev sCInit : Stmt := inClass (top 44) 1
abbrev sCRead : Stmt := inClass (top 44) 2
abbrev sCWrite : Stmt := inClass (top 44) 3
abbrev sHas : Stmt := inClass (top 44) 7
structure CrewC (K : PySem.W.Frag) (C : Addr) (mc : Value) : Prop where
  most : ∃ t, Con K C "MOST" (.int 6) (.int 6 t)
  rd : ClX.CRead K C mc
  mostC : ∃ t, ClX.CVal K C mc "MOST" (.int 6) (.int 6 t)
def spHas (K : PySem.W.Frag) (C : Addr) : Sp := fun vs H Q _ => ∃ (a dx l : Addr) (cs : List (Str × Str)) (nm : Str), vs = [.ref a, .str nm] ∧ H a = some (.ins C dx [("_workers", .ref l)]) ∧ Dp K H (.ref l) (.list (cs.map cD)) ∧ cs.length ≤ 100 ∧ ∀ H', Same H H' → Q (.bl (decide (nm ∈ cs.map (·.1)))) H'
structure CrewOk (cs : List (Str × Str)) : Prop where
  ge : 1 ≤ cs.length
  le : cs.length ≤ 6
  nm : ∀ c ∈ cs, nm2 c
  nd : (cs.map (·.1)).Nodup
def spCInit (K : PySem.W.Frag) (C : Addr) : Sp := fun vs H Q _ => ∃ (a dx : Addr) (x : V) (cs : List (Str × Str)), vs = [.ref a, x] ∧ H a = some (.ins C dx []) ∧ Dp K H x (.list (cs.map cD)) ∧ CrewOk cs ∧ ∀ H', CrewAt K C H' (.ref a) cs → Off a H H' → Q .non H'
def spCWrite (K : PySem.W.Frag) (C : Addr) : Sp := fun vs H Q _ => ∃ (x : V) (cs : List (Str × Str)), vs = [x] ∧ CrewAt K C H x cs ∧ (∀ c ∈ cs, nm2 c) ∧ ∀ H', Same H H' → Q (.str (Txt.join "\n" (cs.map crewLine))) H'
def spCRead (K : PySem.W.Frag) (C : Addr) : Sp := fun vs H Q _ => ∃ cs : List (Str × Str), vs = [.ref C, .str (Txt.join "\n" (cs.map crewLine))] ∧ CrewOk cs ∧ ∀ v H', Same H H' → CrewAt K C H' v cs → Q v H'
section
variable {P : Program} {w : World} {K : PySem.W.Frag} {mg : Str → Option Value} {base : Heap} {C : Addr} {mc : Value}
abbrev nHas : List Str := ["self", "name", "row"]
theorem sc_has : FnScope nHas ["self", "name"] (defScope sHas) := ⟨rfl, rfl, rfl, by decide +kernel, rfl, by decide +kernel, by decide +kernel⟩
theorem ok_has {f : Addr} {fd : FuncData} (F : Fun K "_has" "Crew._has" sHas f fd) (T : CrewT K C) : FnOk P w K mg base CX0 1 f fd ["self", "name"] (spHas K C) := by
  refine F.ok sc_has (fun vs H Q E h => ?_) (fun cdv A outer s H vs Q E hr h => ?_)
  · obtain ⟨a, dx, l, cs, nm, rfl, _⟩ := h
    rfl
  · obtain ⟨a, dx, l, cs, nm, rfl, ha, hl, h6, k⟩ := h
    have nd := sc_has.nd
    obtain ⟨l', xs, e', hla, hxs⟩ := dp_lst hl
    cases e'
    refine ⟨_, pss_one (ps_ret (pe_cmpR op_in_seq (pv 1) (pe_lc (own := [("row", 2)]) (g := gName 2) (tt := tYes) rfl nd (pi_list (pe_fld (pv 0) rfl)) (blkOk_by (own := [("row", 2)]) (N := nHas) (sc := defScope sHas) (by decide +kernel)) (fun _ _ _ _ _ => pg_name (i := 2) nd rfl (Or.inl rfl))
      (fun _ _ _ _ _ => pts_nil) (fun _ _ _ _ _ => pe_ix (ix_tupK K) (pv 2) pe_int (fun _ _ => rfl))) (by rfl))), ?_⟩
    refine ⟨_, rfl, _, rfl, a, C, dx, _, _, rfl, ha, T.cl, T.nW, lk_at, l, rfl, ⟨_, hla⟩, fun D hD => lc_data (K := K) walk_list (fun _ => true) (fun i => .str (cs.getD i default).1) (fun _ _ => rfl) (by rw [dps_len hxs, List.length_map]; omega) hD (fun H' e => e.seq hla) ?_ ?_⟩
    · rintro i v H1 H1' hi e ⟨rfl, hv⟩
      obtain ⟨c, hc, hd⟩ := dps_all hxs hv
      have en : cs.getD i default = c := getD_of hc
      obtain ⟨t, n, m, rfl, ht, hn, hm⟩ := dp_tup2 (dp_same e hd)
      cases hn
      refine ⟨Same.refl _, _, eg_name, rfl, et_yes.weak fun b' H3 h3 => ⟨h3.1, h3.2 ▸ Same.refl _⟩, fun _ H3 e3 Q' q => ?_⟩
      rw [en] at q
      exact ⟨_, rfl, t, _, 0, _, rfl, rfl, same_seqT e3 ht, rfl, q _ _ ⟨Same.refl _, .str _⟩⟩
    · intro H1 acc e1 hacc hda
      rw [dps_len hxs, List.length_map, mapD_list cs default (fun c => PyData.str c.1)] at hda
      have hmm : cs.map (fun c => PyData.str c.1) = (cs.map (·.1)).map PyData.str := by rw [List.map_map]; rfl
      rw [hmm] at hda
      obtain rfl := dps_strs' hda
      refine ⟨D, _, rfl, .inl (SqL.of hacc), rfl, flatV_strs _, ?_⟩
      rw [if_neg Bool.false_ne_true, inV_strs]
      exact k _ e1
abbrev nCInit : List Str := ["self", "workers", "name", "make"]
theorem sc_cinit : FnScope nCInit ["self", "workers"] (defScope sCInit) := ⟨rfl, rfl, rfl, by decide +kernel, rfl, by decide +kernel, by decide +kernel⟩
theorem ok_cinit {f : Addr} {fd : FuncData} (F : Fun K "__init__" "Crew.__init__" sCInit f fd) (B : Bi mg) (T : CrewT K C) (TC : CrewC K C mc) (F1 : Fn P w K mg base 2 "check_name" spChkN) (F2 : Mt P w K mg base 1 C "_has" (spHas K C)) : FnOk P w K mg base CX0 3 f fd ["self", "workers"] (spCInit K C) := by
  refine F.ok sc_cinit (fun vs H Q E h => ?_) (fun cdv A outer s H vs Q E hr h => ?_)
  · obtain ⟨a, dx, x, cs, rfl, _⟩ := h
    rfl
  · obtain ⟨a, dx, x, cs, rfl, ha, hx, ok, k⟩ := h
    have nd := sc_cinit.nd
    obtain ⟨t6, con⟩ := TC.most
    obtain ⟨wa, xs, rfl, hwa, hxs⟩ := dp_lst hx
    have hlen : xs.length = cs.length := by rw [dps_len hxs, List.length_map]
    refine ⟨_, pss_cons (ps_if (PW.pt (pw_or (pt_cmpR op_eq (pe_callB call_len_seq (by rfl) B.len PySem.boot_len (pa_cons (pv 1) pa_nil)) pe_int (nomark _)) (pw_or1 (pt_cmpR op_gt (pe_callB call_len_seq (by rfl) B.len PySem.boot_len (pa_cons (pv 1) pa_nil)) (pe_con (pv 0) rfl) (nomark _))))) (pss_one ps_never) pss_nil)
      (pss_cons (ps_fld (pv 0) (pe_lst pa_nil) rfl)
      (pss_one (ps_for PassesOwn.never rfl (pi_list (pv 1)) (pg_tup rfl (pgs_cons (pg_name (i := 2) nd rfl (Or.inl rfl)) (pgs_cons (pg_name (i := 3) nd rfl (Or.inl rfl)) pgs_nil)))
        (pss_cons (ps_expr (pe_fn F1 hr (by decide) (pa_cons (pv 2) pa_nil)))
        (pss_cons (ps_expr (pe_fn F1 hr (by decide) (pa_cons (pv 3) pa_nil)))
        (pss_cons (ps_if (pt_val (pe_m F2 hr (by decide) (pv 0) (pa_cons (pv 2) pa_nil))) (pss_one ps_never) pss_nil)
        (pss_one (ps_expr (pe_bm PySem.F.plainAttrs_list PySem.F.slot_list_append PySem.F.type_list_append mt_append (pe_fld (pv 0) rfl) (pa_cons (pe_tup (pa_cons (pv 2) (pa_cons (pv 3) pa_nil))) pa_nil)))))))))), ?_⟩
    have hge := ok.ge
    have hle := ok.le
    refine ⟨_, rfl, wa, xs, rfl, .inl hwa, rfl, _, rfl, ?_⟩
    rw [dec_int, decide_eq_false (by omega)]
    refine iteF ⟨_, rfl, wa, xs, rfl, .inl hwa, _, rfl, a, C, dx, _, _, _, rfl, ha, T.cl, con, rfl, _, _, rfl, rfl, _, rfl, ?_⟩
    rw [decide_eq_false (by omega)]
    refine iteF ⟨Nat.zero_le _, fun l hl => ?_⟩
    have hla : a ≠ l := ne_of_none ha hl
    have nal : H l = none := hl
    refine ⟨_, rfl, a, C, dx, [], rfl, by rw [upd_ne hla]; exact ha, T.cl, T.nW, (by decide), ?_⟩
    have o1 : Off a H (upd (upd H l (.lst [])) a (.ins C dx (putF "_workers" (.ref l) []))) := ((Off.refl a H).mut nal _).put _
    have hins : insOr (H a) := by rw [ha]; trivial
    refine ⟨_, rfl, wa, rfl, ⟨_, o1.sqL hins hwa⟩, for_list (K := K) (a := wa) (xs := xs) (fun i σ H' => ∃ (v2 v3 : Option V) (acc : List V), σ = [some (.ref a), some (.ref wa), v2, v3] ∧ Off a H H' ∧ H' a = some (.ins C dx [("_workers", .ref l)]) ∧ H' l = some (.lst acc) ∧ DpAll K H' acc ((cs.take i).map cD))
      ⟨none, none, [], rfl, o1, upd_same, by rw [upd_ne (Ne.symm hla)]; exact upd_same, .nil⟩ (fun i σ H' _ ⟨_, _, _, _, o, _⟩ => o.sqL hins hwa) ?_ ?_⟩
    · rintro i v σ H1 hi ⟨v2, v3, acc, rfl, o, h1, h2, h3⟩
      obtain ⟨c, hc, hd⟩ := dps_all hxs hi
      have hi' : i < cs.length := (List.getElem?_eq_some_iff.mp hc).1
      obtain ⟨t, n, m, rfl, ht, hn, hm⟩ := dp_tup2 (dp_off o hins hd)
      cases hn
      cases hm
      have hnm := ok.nm c (List.mem_of_getElem? hc)
      refine ⟨t, _, rfl, ht, rfl, _, _, rfl, _, _, rfl, rfl, ?_⟩
      refine ⟨_, rfl, c.1, rfl, hnm.1, _, rfl, c.2, rfl, hnm.2, ?_⟩
      have htl : (cs.take i).length = i := by rw [List.length_take]; omega
      refine ⟨_, rfl, a, dx, _, rfl, h1, by rw [lk_by (by decide +kernel)]; rfl, _, rfl, a, dx, l, cs.take i, c.1, rfl, h1, .lst (SqL.of h2) h3, by omega, fun H2 e2 => ⟨_, rfl, ?_⟩⟩
      have hno : c.1 ∉ (cs.take i).map (·.1) := by
        intro z
        rw [List.mem_map] at z
        obtain ⟨c', hc', e⟩ := z
        obtain ⟨j, hj⟩ := List.mem_iff_getElem?.mp hc'
        rw [List.getElem?_take] at hj
        split at hj
        next hji =>
          have h4 : (cs.map (·.1))[j]? = some c'.1 := by rw [List.getElem?_map, hj]; rfl
          have h5 : (cs.map (·.1))[i]? = some c.1 := by rw [List.getElem?_map, hc]; rfl
          obtain ⟨l4, g4⟩ := List.getElem?_eq_some_iff.mp h4
          obtain ⟨l5, g5⟩ := List.getElem?_eq_some_iff.mp h5
          exact (List.pairwise_iff_getElem.mp ok.nd j i l4 l5 hji) (g4.trans (e.trans g5.symm))
        next => cases hj
      rw [decide_eq_false hno]
      have h12 := e2 _ _ h1
      have h22 := e2 _ _ h2
      refine iteF ⟨_, rfl, a, C, dx, _, _, rfl, h12, T.cl, T.nW, lk_at, .inl ⟨rfl, _, SqL.of h22⟩, _, rfl, _, rfl, small_le (show 2 ≤ 100000 by decide), fun p hp => ?_⟩
      have e3 := e2.trans (same_new (o := .tup [.str c.1, .str c.2]) hp)
      have h23 := e3 _ _ h2
      refine ⟨l, acc, V.ref p, rfl, rfl, h23, small_lt (by rw [dps_len h3, List.length_map]; omega), ?_⟩
      have nla : l ≠ a := Ne.symm hla
      have tp := Tp.upd (o' := .lst (acc ++ [V.ref p])) h23 rfl
      have fl : flatDs ((cs.take i).map cD) = true := by
        have : ∀ q : List (Str × Str), flatDs (q.map cD) = true := by
          intro q
          induction q with
          | nil => rfl
          | cons _ _ ih =>
            show (true && flatDs _) = true
            rw [ih]
            rfl
        exact this _
      refine ⟨_, _, acc ++ [V.ref p], rfl, (o.trans (Off.of e3)).mut nal _, by rw [upd_ne hla]; exact e3 _ _ h1, upd_same, ?_⟩
      rw [take_succ_get hc, List.map_append]
      refine dps_append (dps_tp tp fl (dps_same e3 h3)) (.cons ?_ .nil)
      exact dp_tp tp rfl (.tup (SqT.of upd_same) (.cons (.str _) (.cons (.str _) .nil)))
    · rintro σ H1 ⟨v2, v3, acc, rfl, o, h1, h2, h3⟩
      rw [hlen, List.take_length] at h3
      exact k _ ⟨a, dx, l, rfl, h1, .lst (SqL.of h2) h3, ok.ge, ok.le⟩ o
abbrev nCWrite : List Str := ["self", "name", "make"]
theorem sc_cwrite : FnScope nCWrite ["self"] (defScope sCWrite) := ⟨rfl, rfl, rfl, by decide +kernel, rfl, by decide +kernel, by decide +kernel⟩
theorem ok_cwrite {f : Addr} {fd : FuncData} (F : Fun K "write" "Crew.write" sCWrite f fd) (T : CrewT K C) : FnOk P w K mg base CX0 1 f fd ["self"] (spCWrite K C) := by
  refine F.ok sc_cwrite (fun vs H Q E h => ?_) (fun cdv A outer s H vs Q E hr h => ?_)
  · obtain ⟨x, cs, rfl, _⟩ := h
    rfl
  · obtain ⟨x, cs, rfl, ⟨a, dx, l, rfl, ha, hl, h1, h6⟩, hnm, k⟩ := h
    have nd := sc_cwrite.nd
    obtain ⟨l', xs, e', hla, hxs⟩ := dp_lst hl
    cases e'
    have hlen : xs.length = cs.length := by rw [dps_len hxs, List.length_map]
    refine ⟨_, pss_one (ps_ret (pe_join pe_str (pe_lc (own := [("name", 1), ("make", 2)]) (g := gTup K 2 (gCons (gName 1) (gCons (gName 2) gNil))) (tt := tYes) rfl nd (pi_list (pe_fld (pv 0) rfl)) (blkOk_by (own := [("name", 1), ("make", 2)]) (N := nCWrite) (sc := defScope sCWrite) (by decide +kernel))
      (fun _ _ _ _ _ => pg_tup rfl (pgs_cons (pg_name (i := 1) nd rfl (Or.inl rfl)) (pgs_cons (pg_name (i := 2) nd rfl (Or.inl rfl)) pgs_nil))) (fun _ _ _ _ _ => pts_nil)
      (fun _ _ _ _ _ => pe_joinT (.cons pe_str (.cons (pe_fmt (pv 1)) (.cons pe_str (.cons (pe_fmt (pv 2)) .nil)))))))), ?_⟩
    refine ⟨⟨_, rfl⟩, _, rfl, a, C, dx, _, _, rfl, ha, T.cl, T.nW, lk_at, l, rfl, ⟨_, hla⟩, fun D hD => lc_data (K := K) walk_list (fun _ => true) (fun i => .str (crewLine (cs.getD i default))) (fun _ _ => rfl) (by omega) hD (fun H' e => e.seq hla) ?_ ?_⟩
    · rintro i v H1 H1' hi e ⟨rfl, hv⟩
      obtain ⟨c, hc, hd⟩ := dps_all hxs hv
      have en : cs.getD i default = c := getD_of hc
      have hcn := hnm c (List.mem_of_getElem? hc)
      obtain ⟨t, n, m, rfl, ht, hn, hm⟩ := dp_tup2 (dp_same e hd)
      cases hn
      cases hm
      refine ⟨Same.refl _, _, eg_pair ht, rfl, et_yes.weak fun b' H3 h3 => ⟨h3.1, h3.2 ▸ Same.refl _⟩, fun _ H3 e3 Q' q => ?_⟩
      rw [en] at q
      have l1 := (name_len hcn.1).2
      have l2 := (name_len hcn.2).2
      have w1 : ("worker " : Str).length = 7 := by decide +kernel
      have w2 : (" make " : Str).length = 6 := by decide +kernel
      have w0 : (Str.empty).length = 0 := rfl
      refine ⟨_, rfl, ?_, _, rfl, .inl ⟨_, rfl, small_le (by omega), ?_⟩⟩
      · simp only [len_app]
        exact small_le (by omega)
      refine ⟨_, rfl, ?_, _, rfl, ?_, _, rfl, .inl ⟨_, rfl, small_le (by omega), ?_⟩⟩
      · simp only [len_app]
        exact small_le (by omega)
      · simp only [len_app]
        exact small_le (by omega)
      refine ⟨_, rfl, ?_, ?_⟩
      · simp only [len_app]
        exact small_le (by omega)
      · show Q' (.str (Str.empty ++ ("worker " : Str) ++ c.1 ++ (" make " : Str) ++ c.2)) _
        rw [line_parts]
        exact q _ _ ⟨Same.refl _, .str _⟩
    · intro H1 acc e1 hacc hda
      rw [hlen, mapD_list cs default (fun c => PyData.str (crewLine c))] at hda
      have hmm : cs.map (fun c => PyData.str (crewLine c)) = (cs.map crewLine).map PyData.str := by rw [List.map_map]; rfl
      rw [hmm] at hda
      obtain rfl := dps_strs' hda
      refine ⟨_, D, _, rfl, rfl, .inl (SqL.of hacc), ?_, k _ e1⟩
      have hb : ((cs.map crewLine).map (·.length)).sum ≤ 40 * ((cs.map crewLine).map (·.length)).length := sum_le fun n hn => by
        obtain ⟨x, hx, rfl⟩ := List.mem_map.mp hn
        obtain ⟨c, hc, rfl⟩ := List.mem_map.mp hx
        exact line_len (hnm c hc)
      have w3 : ("\n" : Str).length = 1 := by decide +kernel
      rw [List.length_map, List.length_map] at hb
      rw [List.length_map, w3]
      omega
end
end MW

/-! Crew.read. -/
namespace MW
open PySem PySem.Spec PyProof.Rows L2

theorem names_ne {cs : List (Str × Str)} (nd : (cs.map (·.1)).Nodup) {j i : Nat} {c d : Str × Str} (hj : cs[j]? = some c) (hi : cs[i]? = some d) (h : j < i) : c.1 ≠ d.1 := by
  have h4 : (cs.map (·.1))[j]? = some c.1 := by rw [List.getElem?_map, hj]; rfl
  have h5 : (cs.map (·.1))[i]? = some d.1 := by rw [List.getElem?_map, hi]; rfl
  obtain ⟨l4, g4⟩ := List.getElem?_eq_some_iff.mp h4
  obtain ⟨l5, g5⟩ := List.getElem?_eq_some_iff.mp h5
  intro e
  exact (List.pairwise_iff_getElem.mp nd j i l4 l5 h) (g4.trans (e.trans g5.symm))
theorem flat_cDs (q : List (Str × Str)) : flatDs (q.map cD) = true := by
  induction q with
  | nil => rfl
  | cons _ _ ih =>
    show (true && flatDs _) = true
    rw [ih]
    rfl
theorem text_len {cs : List (Str × Str)} (h : ∀ c ∈ cs, nm2 c) : (Txt.join "\n" (cs.map crewLine)).length ≤ 41 * cs.length := by
  have h1 := join_len "\n" (cs.map crewLine)
  have hb : ((cs.map crewLine).map (·.length)).sum ≤ 40 * ((cs.map crewLine).map (·.length)).length := sum_le fun n hn => by
    obtain ⟨x, hx, rfl⟩ := List.mem_map.mp hn
    obtain ⟨c, hc, rfl⟩ := List.mem_map.mp hx
    exact line_len (h c hc)
  have w3 : ("\n" : Str).length = 1 := by decide +kernel
  rw [List.length_map, List.length_map] at hb
  rw [List.length_map, w3] at h1
  omega
/-- a new instance hides nothing -/
theorem same_ins {H : Hp} {x dx C : Addr} (h1 : H x = none) (h2 : H dx = none) : Same H (upd (upd H dx (.own x)) x (.ins C dx [])) := same_mut (same_new h2) h1
theorem same_off {G H H' : Hp} {x : Addr} (e : Same G H) (o : Off x H H') (hx : G x = none) : Same G H' := fun b u q => o b u (ne_of_none q hx) (e b u q)
section
variable {P : Program} {w : World} {K : PySem.W.Frag} {mg : Str → Option Value} {base : Heap} {C : Addr} {mc : Value}
abbrev nCRead : List Str := ["cls", "text", "workers", "at", "line", "worker", "name", "make"]
theorem sc_cread : FnScope nCRead ["cls", "text"] (defScope sCRead) := ⟨rfl, rfl, rfl, by decide +kernel, rfl, by decide +kernel, by decide +kernel⟩
theorem ok_cread {f : Addr} {fd : FuncData} (F : Fun K "read" "Crew.read" sCRead f fd) (B : Bi mg) (TC : CrewC K C mc) (F1 : Fn P w K mg base 2 "read_worker" (spRdW K)) (N : Cn P w K mg base 3 C (spCInit K C)) : FnOk P w K mg base CX0 5 f fd ["cls", "text"] (spCRead K C) := by
  refine F.ok sc_cread (fun vs H Q E h => ?_) (fun cdv A outer s H vs Q E hr h => ?_)
  · obtain ⟨cs, rfl, _⟩ := h
    rfl
  · obtain ⟨cs, rfl, ok, k⟩ := h
    have nd := sc_cread.nd
    obtain ⟨t6, cv⟩ := TC.mostC
    have hge := ok.ge
    have hle := ok.le
    refine ⟨_, pss_cons (ps_set (i := 2) nd rfl (Or.inl rfl) (pe_lst pa_nil))
      (pss_cons (ps_for PassesOwn.never rfl (pi_enum (by rfl) B.enumerate (pa_cons (pe_split (pv 1) pe_str) pa_nil)) (pg_tup rfl (pgs_cons (pg_name (i := 3) nd rfl (Or.inl rfl)) (pgs_cons (pg_name (i := 4) nd rfl (Or.inl rfl)) pgs_nil)))
        (pss_cons (ps_set (i := 5) nd rfl (Or.inl rfl) (pe_fn F1 hr (by decide) (pa_cons (pv 4) pa_nil)))
        (pss_cons (ps_if (PW.pt (pw_or (pt_cmpR op_isN (pv 5) pe_non (nomark _)) (pw_or1 (pt_cmpR op_ge (pv 3) (ClX.pe_cval (pv 0)) (nomark _))))) (pss_one ps_never) pss_nil)
        (pss_cons (ps_for PassesOwn.never rfl (pi_list (pv 2)) (pg_tup rfl (pgs_cons (pg_name (i := 6) nd rfl (Or.inl rfl)) (pgs_cons (pg_name (i := 7) nd rfl (Or.inl rfl)) pgs_nil)))
          (pss_one (ps_if (pt_cmpR op_eq (pv 6) (pe_ix ix_tup (pv 5) pe_int (fun _ _ => rfl)) (nomark _)) (pss_one ps_never) pss_nil)))
        (pss_one (ps_expr (pe_bm PySem.F.plainAttrs_list PySem.F.slot_list_append PySem.F.type_list_append mt_append (pv 2) (pa_cons (pv 5) pa_nil))))))))
      (pss_one (ps_ret (pe_newL (i := 0) N hr (by decide) (pa_cons (pv 2) pa_nil))))), ?_⟩
    refine ⟨Nat.zero_le _, fun M hM => ?_⟩
    have e1 := same_new (o := .lst []) hM
    have htx := text_len ok.nm
    refine ⟨_, rfl, ⟨_, rfl⟩, _, _, rfl, rfl, by decide +kernel, by rw [sizeLine_eq]; omega, fun p hp => ?_⟩
    rw [lines_split ok.nm (fun z => by rw [z] at hge; exact absurd hge (by decide))]
    have e2 := e1.trans (same_new (o := .lst ((cs.map crewLine).map V.str)) hp)
    have nMp : M ≠ p := ne_of_none upd_same hp
    refine ⟨p, _, rfl, SqL.of upd_same, for_it walk_enum (fun i σ H' => ∃ (v3 v4 v5 v6 v7 : Option V) (acc : List V), σ = [some (.ref C), some (.str (Txt.join "\n" (cs.map crewLine))), some (.ref M), v3, v4, v5, v6, v7] ∧ Same H H' ∧ H' p = some (.lst ((cs.map crewLine).map V.str)) ∧ H' M = some (.lst acc) ∧ DpAll K H' acc ((cs.take i).map cD))
      ⟨none, none, none, none, none, [], rfl, e2, upd_same, by rw [upd_ne nMp]; exact upd_same, .nil⟩ (fun i σ H' _ ⟨_, _, _, _, _, _, _, _, h, _⟩ => SqL.of h) ?_ ?_⟩
    · rintro i v σ H1 H2 hi ⟨v3, v4, v5, v6, v7, acc, rfl, e01, hp1, hM1, ha1⟩ ⟨T, a1, b1, rfl, hT, rfl, h1, h2⟩
      cases h1
      obtain ⟨ln, hln, rfl⟩ := map_get h2
      obtain ⟨c, hc, rfl⟩ := map_get hln
      have hi' : i < cs.length := (List.getElem?_eq_some_iff.mp hc).1
      have hcn := ok.nm c (List.mem_of_getElem? hc)
      have e12 := same_new (o := .tup [.int (i : Nat), V.str (crewLine c)]) hT
      refine ⟨T, _, rfl, SqT.of upd_same, rfl, _, _, rfl, _, _, rfl, rfl, ?_⟩
      refine ⟨_, rfl, c, rfl, hcn, fun vw H3 e3 hvw => ?_⟩
      obtain ⟨t, n, m, rfl, ht, hn, hm⟩ := dp_tup2 hvw
      cases hn
      cases hm
      have e13 := e12.trans e3
      have e03 := e01.trans e13
      refine ⟨_, rfl, rfl, _, rfl, iteF ?_⟩
      refine ⟨_, rfl, _, rfl, C, mc, _, _, rfl, TC.rd, cv, _, _, rfl, rfl, _, rfl, ?_⟩
      rw [decide_eq_false (by omega)]
      refine iteF ?_
      have hM3 := e13 _ _ hM1
      have ha3 := dps_same e13 ha1
      have hal : acc.length = i := by rw [dps_len ha3, List.length_map, List.length_take]; omega
      refine ⟨_, rfl, M, rfl, ⟨_, SqL.of hM3⟩, for_list (K := K) (a := M) (xs := acc) (fun j σ H' => ∃ v6 v7 : Option V, σ = [some (.ref C), some (.str (Txt.join "\n" (cs.map crewLine))), some (.ref M), some (.int (i : Nat)), some (.str (crewLine c)), some (.ref t), v6, v7] ∧ H' = H3)
        ⟨_, _, rfl, rfl⟩ (fun j σ H' _ ⟨_, _, _, e⟩ => e ▸ SqL.of hM3) ?_ ?_⟩
      · rintro j v2 σ H4 hj ⟨v6, v7, rfl, rfl⟩
        obtain ⟨d, hd, hdd⟩ := dps_all ha3 hj
        rw [List.getElem?_take] at hd
        split at hd
        next hji =>
          obtain ⟨t2, n2, m2, rfl, ht2, hn2, hm2⟩ := dp_tup2 hdd
          cases hn2
          cases hm2
          refine ⟨t2, _, rfl, ht2, rfl, _, _, rfl, _, _, rfl, rfl, ?_⟩
          refine ⟨_, rfl, _, rfl, t, _, 0, _, rfl, rfl, ht, rfl, rfl, _, rfl, ?_⟩
          rw [dec_str, decide_eq_false (names_ne ok.nd hd hc hji)]
          exact iteF ⟨_, _, rfl, rfl⟩
        next => cases hd
      · rintro σ H4 ⟨v6, v7, rfl, rfl⟩
        refine ⟨_, rfl, .inl ⟨rfl, _, SqL.of hM3⟩, _, rfl, M, acc, V.ref t, rfl, rfl, hM3, small_lt (by omega), ?_⟩
        have tp := Tp.upd (o' := .lst (acc ++ [V.ref t])) hM3 rfl
        have nM : H M = none := hM
        refine ⟨_, _, _, _, _, acc ++ [V.ref t], rfl, same_mut e03 nM, by rw [upd_ne (Ne.symm nMp)]; exact e13 _ _ hp1, upd_same, ?_⟩
        rw [take_succ_get hc, List.map_append]
        exact dps_append (dps_tp tp (flat_cDs _) ha3) (.cons (dp_tp tp rfl (.tup ht (.cons (.str _) (.cons (.str _) .nil)))) .nil)
    · rintro σ H1 ⟨v3, v4, v5, v6, v7, acc, rfl, e01, hp1, hM1, ha1⟩
      have hl : ((cs.map crewLine).map V.str).length = cs.length := by rw [List.length_map, List.length_map]
      rw [hl, List.take_length] at ha1
      refine ⟨rfl, _, rfl, fun x dx hx hdx ne => ?_⟩
      have e2 := same_ins (C := C) hx hdx
      refine ⟨x, dx, V.ref M, cs, rfl, upd_same, dp_same e2 (.lst (SqL.of hM1) ha1), ok, fun H2 hcr ho => ⟨rfl, ?_⟩⟩
      exact k _ _ (e01.trans (same_off e2 ho hx)) hcr
end
end MW

/-! A scheme's words: groups. -/
namespace MW
open PySem PySem.Spec PyProof.Rows L2

abbrev sRdG : Stmt := top 50
abbrev sWrG : Stmt := top 51
def grpW : Grp → List Str
  | .any => ["any"]
  | .mk x => ["make", x]
def wordOk (x : Str) : Prop := PyData.strOk x = true ∧ 32 ∉ TL.tl x ∧ 10 ∉ TL.tl x ∧ x.length ≤ 8
theorem word_name {x : Str} (h : nameOk x = true) : wordOk x := ⟨nameOk_str h, name_no h (by decide), name_no h (by decide), (name_len h).2⟩
theorem word_any : wordOk "any" := ⟨by decide +kernel, by decide +kernel, by decide +kernel, by decide +kernel⟩
theorem word_make : wordOk "make" := ⟨by decide +kernel, by decide +kernel, by decide +kernel, by decide +kernel⟩
theorem grp_words {g : Grp} (h : okG g) : ∀ x ∈ grpW g, wordOk x := by
  cases g with
  | any =>
    intro x hx
    rw [List.mem_singleton.mp hx]
    exact word_any
  | mk y =>
    intro x hx
    rcases List.mem_cons.mp hx with e | e
    · rw [e]
      exact word_make
    · rw [List.mem_singleton.mp e]
      exact word_name h
/-! ### data of words -/
theorem lay_strs {ss : List Str} (h : ∀ x ∈ ss, wordOk x) : (PyData.list (ss.map .str)).canLay0 = true := by
  rw [lay_lst]
  exact lays_of fun d hd => by
    obtain ⟨x, hx, rfl⟩ := List.mem_map.mp hd
    exact lay_str (h x hx).1
theorem shaped_strs {ss : List Str} (h : ∀ x ∈ ss, wordOk x) : SeqAt.shaped (.list (ss.map .str)) = true := by
  refine shaped_of (lay_strs h) ?_
  rw [depth_lst]
  have : PyData.depthAll (ss.map PyData.str) ≤ 0 := depths_le fun d hd => by
    obtain ⟨x, _, rfl⟩ := List.mem_map.mp hd
    rw [depth_str]
    exact Nat.le_refl _
  omega
theorem eqvs_strs : ∀ a b : List Str, PyData.eqvAll (a.map PyData.str) (b.map PyData.str) = decide (a = b)
  | [], [] => by simp [PyData.eqvAll]
  | [], _ :: _ => by simp [PyData.eqvAll]
  | _ :: _, [] => by simp [PyData.eqvAll]
  | x :: a, y :: b => by
    rw [List.map_cons, List.map_cons, PySem.W.eqv_all_cons, eqvs_strs a b]
    have : PyData.eqv (.str x) (.str y) = decide (x = y) := by
      simp only [PyData.eqv]
      first | exact Bool.beq_eq_decide_eq x y | rfl
    rw [this, ← Bool.decide_and, decide_eq_decide]
    exact ⟨fun h => by rw [h.1, h.2], fun h => List.cons.inj h⟩
theorem eqv_strs (a b : List Str) : PyData.eqv (.list (a.map PyData.str)) (.list (b.map PyData.str)) = decide (a = b) := by
  simp only [PyData.eqv]
  exact eqvs_strs a b
theorem cutV_drop (xs : List V) (j : Nat) : cutV xs (some (j : Int)) none = xs.drop j := by
  unfold cutV
  rw [HT.sIx_none, HT.sIx_nat]
  by_cases c : j ≤ xs.length
  · rw [Nat.min_eq_left c, List.take_of_length_le (by rw [List.length_drop]; exact Nat.le_refl _)]
  · rw [Nat.min_eq_right (by omega), List.drop_of_length_le (Nat.le_refl _), List.drop_of_length_le (by omega), List.take_nil]
theorem cutV_mid (xs : List V) {i j : Nat} (hi : i ≤ j) (hj : j ≤ xs.length) : cutV xs (some (i : Int)) (some (j : Int)) = (xs.drop i).take (j - i) := by
  unfold cutV
  rw [HT.sIx_nat, HT.sIx_nat, Nat.min_eq_left hj, Nat.min_eq_left (Nat.le_trans hi hj)]
def spRdG (K : PySem.W.Frag) : Sp := fun vs H Q _ => ∃ (x : V) (g : Grp) (rest : List Str), vs = [x] ∧ okG g ∧ (∀ y ∈ rest, wordOk y) ∧ Dp K H x (.list ((grpW g ++ rest).map .str)) ∧ ∀ v H', Same H H' → Dp K H' v (gD g) → Q v H'
def spWrG (K : PySem.W.Frag) : Sp := fun vs H Q _ => ∃ (x : V) (g : Grp), vs = [x] ∧ okG g ∧ Dp K H x (gD g) ∧ Q (.str (Txt.join " " (grpW g))) H
section
variable {P : Program} {w : World} {K : PySem.W.Frag} {mg : Str → Option Value} {base : Heap}
theorem gD_strs (g : Grp) : gD g = .tuple ((grpW g).map .str) := by cases g <;> rfl
theorem dp_g {H : Hp} {v : V} {g : Grp} (h : Dp K H v (gD g)) : ∃ a, v = .ref a ∧ SqT K H a ((grpW g).map V.str) := by
  rw [gD_strs] at h
  obtain ⟨a, xs, e, h1, h2⟩ := dp_tup h
  exact ⟨a, e, dps_strs' h2 ▸ h1⟩
theorem dp_words {H : Hp} {v : V} {ss : List Str} (h : Dp K H v (.list (ss.map .str))) : ∃ a, v = .ref a ∧ SqL K H a (ss.map V.str) := by
  obtain ⟨a, xs, e, h1, h2⟩ := dp_lst h
  exact ⟨a, e, dps_strs' h2 ▸ h1⟩
theorem words_of {H : Hp} {a : Addr} {ss : List Str} (h : SqL K H a (ss.map V.str)) : Dp K H (.ref a) (.list (ss.map .str)) := .lst h (dps_strs _)
theorem sc_rdG : FnScope ["tokens"] ["tokens"] (defScope sRdG) := ⟨rfl, rfl, rfl, by decide +kernel, rfl, by decide +kernel, by decide +kernel⟩
theorem ok_rdG {f : Addr} {fd : FuncData} (F : Fun K "read_group" "read_group" sRdG f fd) (B : Bi mg) (F1 : Fn P w K mg base 1 "is_name" spIsName) : FnOk P w K mg base CX0 2 f fd ["tokens"] (spRdG K) := by
  refine F.ok sc_rdG (fun vs H Q E h => ?_) (fun cdv A outer s H vs Q E hr h => ?_)
  · obtain ⟨x, g, rest, rfl, _⟩ := h
    rfl
  · obtain ⟨x, g, rest, rfl, og, hrest, hx, k⟩ := h
    obtain ⟨la, rfl, hla⟩ := dp_words hx
    have hu := hr.units
    refine ⟨_, pss_cons (ps_if (pt_cmpR (op_eqD hu) (pe_slice sl_list (pv 0) po_none (po_some pe_int)) (pe_lst (pa_cons pe_str pa_nil)) (nomark _)) (pss_one (ps_ret (pe_tup (pa_cons pe_str pa_nil)))) pss_nil)
      (pss_cons (ps_if (PW.pt (pw_and (pt_cmpR (op_eqD hu) (pe_slice sl_list (pv 0) po_none (po_some pe_int)) (pe_lst (pa_cons pe_str pa_nil)) (nomark _)) (pw_and (pt_cmpR op_gt (pe_callB call_len_seq (by rfl) B.len PySem.boot_len (pa_cons (pv 0) pa_nil)) pe_int (nomark _))
          (pw_and1 (pt_val (pe_fn F1 hr (by decide) (pa_cons (pe_ix ix_list (pv 0) pe_int (fun _ _ => rfl)) pa_nil)))))))
        (pss_one (ps_ret (pe_tup (pa_cons pe_str (pa_cons (pe_ix ix_list (pv 0) pe_int (fun _ _ => rfl)) pa_nil))))) pss_nil)
      (pss_one (ps_ret pe_non))), ?_⟩
    have w1 : ∀ y ∈ [("any" : Str)], wordOk y := fun y hy => by rw [List.mem_singleton.mp hy]; exact word_any
    have w2 : ∀ y ∈ [("make" : Str)], wordOk y := fun y hy => by rw [List.mem_singleton.mp hy]; exact word_make
    have ct : ∀ g : Grp, cutV ((grpW g ++ rest).map V.str) none (some 1) = ((grpW g).take 1).map V.str := fun g => by
      rw [show (some (1 : Int)) = some ((1 : Nat) : Int) from rfl, cutV_take, ← List.map_take]
      cases g <;> rfl
    have wt : ∀ y ∈ (grpW g).take 1, wordOk y := fun y hy => grp_words og y (List.mem_of_mem_take hy)
    refine ⟨_, rfl, _, rfl, la, _, rfl, hla, fun p hp => ?_⟩
    rw [ct]
    have e1 := same_new (o := .lst (((grpW g).take 1).map V.str)) hp
    refine ⟨small_le (show 1 ≤ 100000 by decide), fun q hq => ?_⟩
    have e2 := same_new (o := .lst [V.str "any"]) hq
    refine ⟨_, _, words_of (SqL.of (e2 _ _ upd_same)), words_of (ss := ["any"]) (SqL.of upd_same), shaped_strs wt, shaped_strs w1, _, rfl, ?_⟩
    rw [eqv_strs]
    cases g with
    | any =>
      rw [show decide ((grpW Grp.any).take 1 = [("any" : Str)]) = true from decide_eq_true rfl]
      exact iteT ⟨small_le (show 1 ≤ 100000 by decide), fun t ht => k _ _ ((e1.trans e2).trans (same_new ht)) (.tup (SqT.of upd_same) (.cons (.str _) .nil))⟩
    | mk y =>
      have nd : ¬ (grpW (.mk y)).take 1 = [("any" : Str)] := by
        show ¬ [("make" : Str)] = [("any" : Str)]
        decide +kernel
      rw [decide_eq_false nd]
      refine iteF ?_
      have e12 := e1.trans e2
      refine ⟨_, rfl, _, rfl, la, _, rfl, e12.seq hla, fun p2 hp2 => ?_⟩
      rw [ct]
      have e3 := same_new (o := .lst (((grpW (.mk y)).take 1).map V.str)) hp2
      refine ⟨small_le (show 1 ≤ 100000 by decide), fun q2 hq2 => ?_⟩
      have e4 := same_new (o := .lst [V.str "make"]) hq2
      refine ⟨_, _, words_of (SqL.of (e4 _ _ upd_same)), words_of (ss := ["make"]) (SqL.of upd_same), shaped_strs wt, shaped_strs w2, _, rfl, ?_⟩
      rw [eqv_strs, show decide ((grpW (Grp.mk y)).take 1 = [("make" : Str)]) = true from decide_eq_true rfl]
      have e14 := (e12.trans e3).trans e4
      have hla4 := e14.seq hla
      refine iteT ⟨_, rfl, la, _, rfl, .inl hla4, _, _, rfl, rfl, _, rfl, ?_⟩
      have hl : ((grpW (.mk y) ++ rest).map V.str).length = rest.length + 2 := by
        rw [List.length_map, List.length_append]
        show 2 + rest.length = _
        omega
      rw [hl, decide_eq_true (by omega)]
      refine iteT ⟨_, rfl, la, _, 1, _, rfl, rfl, hla4, atI_nat (j := 1) rfl, y, rfl, og, _, rfl, iteT ?_⟩
      exact ⟨_, rfl, la, _, 1, _, rfl, rfl, hla4, atI_nat (j := 1) rfl, small_le (show 2 ≤ 100000 by decide), fun t ht => k _ _ (e14.trans (same_new ht)) (.tup (SqT.of upd_same) (.cons (.str _) (.cons (.str _) .nil)))⟩
theorem sc_wrG : FnScope ["group"] ["group"] (defScope sWrG) := ⟨rfl, rfl, rfl, by decide +kernel, rfl, by decide +kernel, by decide +kernel⟩
theorem grp_sum {g : Grp} (h : okG g) : ((grpW g).map (·.length)).sum + (grpW g).length * 1 ≤ 100 := by
  have hb : ((grpW g).map (·.length)).sum ≤ 8 * ((grpW g).map (·.length)).length := sum_le fun n hn => by
    obtain ⟨x, hx, rfl⟩ := List.mem_map.mp hn
    exact (grp_words h x hx).2.2.2
  rw [List.length_map] at hb
  have : (grpW g).length ≤ 2 := by
    cases g with
    | any => exact (show 1 ≤ 2 by decide)
    | mk y => exact (show 2 ≤ 2 by decide)
  omega
theorem ok_wrG {f : Addr} {fd : FuncData} (F : Fun K "write_group" "write_group" sWrG f fd) : FnOk P w K mg base CX0 1 f fd ["group"] (spWrG K) := by
  refine F.ok sc_wrG (fun vs H Q E h => ?_) (fun cdv A outer s H vs Q E hr h => ?_)
  · obtain ⟨x, g, rfl, _⟩ := h
    rfl
  · obtain ⟨x, g, rfl, og, hx, k⟩ := h
    obtain ⟨ta, rfl, hta⟩ := dp_g hx
    have hs := grp_sum og
    have w1 : (" " : Str).length = 1 := by decide +kernel
    exact ⟨_, pss_one (ps_ret (pe_join pe_str (pv 0))), ⟨_, rfl⟩, _, rfl, _, ta, _, rfl, rfl, .inr hta, by rw [w1]; omega, k⟩
end
end MW

/-! read_bounds. -/
namespace MW
open PySem PySem.Spec PyProof.Rows L2

abbrev sRdB : Stmt := top 52
def signS (b : Bool) : Str := if b then ">=" else "<"
def numS (n : Int) : Str := Str.ofString (toString n)
def okB (b : Bnd) : Prop := okG b.g ∧ 1 ≤ b.n ∧ b.n ≤ 4
def bndW (b : Bnd) : List Str := "seen" :: (grpW b.g ++ [signS b.ge, numS b.n])
def joinW : Str → List Bnd → List Str
  | _, [] => []
  | j, b :: r => j :: (bndW b ++ joinW "and" r)
theorem four {n : Int} (h1 : 1 ≤ n) (h2 : n ≤ 4) : n = 1 ∨ n = 2 ∨ n = 3 ∨ n = 4 := by omega
def numbers : List Str := ["1", "2", "3", "4"]
theorem num_facts {n : Int} (h1 : 1 ≤ n) (h2 : n ≤ 4) : wordOk (numS n) ∧ numS n ∈ numbers ∧ PySem.intText? (numS n) = some n ∧ (numS n).length ≤ 640 := by
  rcases four h1 h2 with rfl | rfl | rfl | rfl <;> exact ⟨⟨by decide +kernel, by decide +kernel, by decide +kernel, by decide +kernel⟩, by decide +kernel, by decide +kernel, by decide +kernel⟩
theorem sign_word (b : Bool) : wordOk (signS b) := by
  cases b <;> exact ⟨by decide +kernel, by decide +kernel, by decide +kernel, by decide +kernel⟩
theorem word_seen : wordOk "seen" := ⟨by decide +kernel, by decide +kernel, by decide +kernel, by decide +kernel⟩
theorem word_and : wordOk "and" := ⟨by decide +kernel, by decide +kernel, by decide +kernel, by decide +kernel⟩
theorem word_if : wordOk "if" := ⟨by decide +kernel, by decide +kernel, by decide +kernel, by decide +kernel⟩
theorem bnd_words {b : Bnd} (h : okB b) : ∀ x ∈ bndW b, wordOk x := by
  intro x hx
  rcases List.mem_cons.mp hx with e | hx
  · rw [e]
    exact word_seen
  rcases List.mem_append.mp hx with hx | hx
  · exact grp_words h.1 x hx
  rcases List.mem_cons.mp hx with e | hx
  · rw [e]
    exact sign_word _
  · rw [List.mem_singleton.mp hx]
    exact (num_facts h.2.1 h.2.2).1
theorem join_words : ∀ {j : Str} {bs : List Bnd}, wordOk j → (∀ b ∈ bs, okB b) → ∀ x ∈ joinW j bs, wordOk x
  | _, [], _, _, _, h => nomatch h
  | j, b :: r, hj, hb, x, hx => by
    rcases List.mem_cons.mp hx with e | hx
    · rw [e]
      exact hj
    rcases List.mem_append.mp hx with hx | hx
    · exact bnd_words (hb b List.mem_cons_self) x hx
    · exact join_words word_and (fun c hc => hb c (List.mem_cons_of_mem _ hc)) x hx
structure SignT (K : PySem.W.Frag) (mg : Str → Option Value) : Prop where
  signs : ∃ a, mg "SIGNS" = some (.ref a) ∧ ∀ H, SqT K H a ([("<" : Str), ">="].map V.str)
  numbers : ∃ a, mg "NUMBERS" = some (.ref a) ∧ ∀ H, SqT K H a (numbers.map V.str)
def spRdB (K : PySem.W.Frag) : Sp := fun vs H Q _ => ∃ (x : V) (bs : List Bnd), vs = [x] ∧ (∀ b ∈ bs, okB b) ∧ bs.length ≤ 3 ∧ Dp K H x (.list ((joinW "if" bs).map .str)) ∧ ∀ v H', Same H H' → Dp K H' v (.tuple (bs.map bD)) → Q v H'
theorem bD_eq (b : Bnd) : bD b = .tuple [gD b.g, .str (signS b.ge), .int b.n] := rfl
theorem flat_b (b : Bnd) : flatD (bD b) = true := by
  show (flatD (gD b.g) && (true && (true && true))) = true
  rw [flat_g]
  rfl
theorem flat_bs (q : List Bnd) : flatDs (q.map bD) = true := by
  induction q with
  | nil => rfl
  | cons b r ih =>
    show (flatD (bD b) && flatDs (r.map bD)) = true
    rw [ih, flat_b]
    rfl
section
variable {P : Program} {w : World} {K : PySem.W.Frag} {mg : Str → Option Value} {base : Heap}
abbrev nRdB : List Str := ["tokens", "bounds", "joint", "group", "end", "tail"]
theorem sc_rdB : FnScope nRdB ["tokens"] (defScope sRdB) := ⟨rfl, rfl, rfl, by decide +kernel, rfl, by decide +kernel, by decide +kernel⟩
theorem ok_rdB {f : Addr} {fd : FuncData} (F : Fun K "read_bounds" "read_bounds" sRdB f fd) (B : Bi mg) (TS : SignT K mg) (F1 : Fn P w K mg base 2 "read_group" (spRdG K)) : FnOk P w K mg base CX0 3 f fd ["tokens"] (spRdB K) := by
  refine F.ok sc_rdB (fun vs H Q E h => ?_) (fun cdv A outer s H vs Q E hr h => ?_)
  · obtain ⟨x, bs, rfl, _⟩ := h
    rfl
  · obtain ⟨x, bs, rfl, ob, h3, hx, k⟩ := h
    obtain ⟨tk0, rfl, htk0⟩ := dp_words hx
    have nd := sc_rdB.nd
    have hu := hr.units
    obtain ⟨sa, mgS, sS⟩ := TS.signs
    obtain ⟨na, mgN, sN⟩ := TS.numbers
    refine ⟨_, pss_cons (ps_set (i := 1) nd rfl (Or.inl rfl) (pe_lst pa_nil))
      (pss_cons (ps_set (i := 2) nd rfl (Or.inl rfl) pe_str)
      (pss_cons (ps_while PassesOwn.never (pt_truth (pv 0) (by intro _; rfl))
        (pss_cons (ps_set (i := 3) nd rfl (Or.inl rfl) (pe_fn F1 hr (by decide) (pa_cons (pe_slice sl_list (pv 0) (po_some pe_int) po_none) pa_nil)))
        (pss_cons (ps_if (PW.pt (pw_or (pt_cmpR (op_neD hu) (pe_slice sl_list (pv 0) po_none (po_some pe_int)) (pe_lst (pa_cons (pv 2) (pa_cons pe_str pa_nil))) (nomark _)) (pw_or1 (pt_cmpR op_isN (pv 3) pe_non (nomark _))))) (pss_one ps_never) pss_nil)
        (pss_cons (ps_set (i := 4) nd rfl (Or.inl rfl) (pe_op op_add (pe_callB call_len_seq (by rfl) B.len PySem.boot_len (pa_cons (pv 3) pa_nil)) pe_int))
        (pss_cons (ps_set (i := 5) nd rfl (Or.inl rfl) (pe_slice sl_list (pv 0) (po_some (pe_op op_sub (pv 4) pe_int)) (po_some (pv 4))))
        (pss_cons (ps_if (PW.pt (pw_or (pt_cmpR op_lt (pe_callB call_len_seq (by rfl) B.len PySem.boot_len (pa_cons (pv 5) pa_nil)) pe_int (nomark _))
            (pw_or (pt_cmpR op_notIn_seq (pe_ix ix_list (pv 5) pe_int (fun _ _ => rfl)) (pe_glob (v := .ref sa) rfl mgS rfl) (by rfl)) (pw_or1 (pt_cmpR op_notIn_seq (pe_ix ix_list (pv 5) pe_int (fun _ _ => rfl)) (pe_glob (v := .ref na) rfl mgN rfl) (by rfl)))))) (pss_one ps_never) pss_nil)
        (pss_cons (ps_expr (pe_bm PySem.F.plainAttrs_list PySem.F.slot_list_append PySem.F.type_list_append mt_append (pv 1) (pa_cons (pe_tup (pa_cons (pv 3) (pa_cons (pe_ix ix_list (pv 5) pe_int (fun _ _ => rfl)) (pa_cons (pe_callTy call_int_str (by rfl) B.int (by decide +kernel) (pa_cons (pe_ix ix_list (pv 5) pe_int (fun _ _ => rfl)) pa_nil)) pa_nil)))) pa_nil)))
        (pss_cons (ps_set (i := 0) nd rfl (Or.inl rfl) (pe_slice sl_list (pv 0) (po_some (pv 4)) po_none))
        (pss_one (ps_set (i := 2) nd rfl (Or.inl rfl) pe_str))))))))))
      (pss_one (ps_ret (pe_callTy call_tuple_of (by rfl) B.tuple (by decide +kernel) (pa_cons (pv 1) pa_nil)))))), ?_⟩
    refine ⟨Nat.zero_le _, fun M hM => ?_⟩
    have e1 := same_new (o := .lst []) hM
    have nM : H M = none := hM
    refine ⟨fun m σ H' => ∃ (i : Nat) (jn : Str) (tk : Addr) (acc : List V) (v3 v4 v5 : Option V), m = bs.length - i ∧ i ≤ bs.length ∧ σ = [some (.ref tk), some (.ref M), some (.str jn), v3, v4, v5] ∧ wordOk jn ∧ Same H H' ∧
        (∀ H'', Same H' H'' → SqL K H'' tk ((joinW jn (bs.drop i)).map V.str) ∧ ∀ o, SqL K (upd H'' M o) tk ((joinW jn (bs.drop i)).map V.str)) ∧ H' M = some (.lst acc) ∧ DpAll K H' acc ((bs.take i).map bD),
      ⟨bs.length, 0, "if", tk0, [], none, none, none, by omega, Nat.zero_le _, rfl, word_if, e1, fun H'' e => ⟨(e1.trans e).seq htk0, fun o => (same_mut (e1.trans e) nM).seq htk0⟩, upd_same, .nil⟩, ?_⟩
    rintro m σ H1 ⟨i, jn, tk, acc, v3, v4, v5, rfl, hil, rfl, hjn, e01, hk, hM1, ha1⟩
    have hk1 := (hk H1 (Same.refl _)).1
    refine ⟨_, rfl, !((joinW jn (bs.drop i)).map V.str).isEmpty, .inl ⟨_, hk1, rfl⟩, ?_⟩
    by_cases hi : i < bs.length
    · have hb : bs[i]? = some bs[i] := List.getElem?_eq_getElem hi
      have hdr : bs.drop i = bs[i] :: bs.drop (i + 1) := List.drop_eq_getElem_cons hi
      obtain ⟨b, hbe⟩ : ∃ b, b = bs[i] := ⟨_, rfl⟩
      rw [← hbe] at hb hdr
      have okb := ob b (List.mem_of_getElem? hb)
      obtain ⟨nw, nin, nint, nlen⟩ := num_facts okb.2.1 okb.2.2
      rw [hdr] at hk hk1 ⊢
      have htoks : joinW jn (b :: bs.drop (i + 1)) = (jn :: "seen" :: grpW b.g) ++ ([signS b.ge, numS b.n] ++ joinW "and" (bs.drop (i + 1))) := by
        show jn :: (("seen" : Str) :: (grpW b.g ++ [signS b.ge, numS b.n]) ++ joinW "and" (bs.drop (i + 1))) = _
        simp
      have hrw : ∀ y ∈ [signS b.ge, numS b.n] ++ joinW "and" (bs.drop (i + 1)), wordOk y := by
        intro y hy
        rcases List.mem_append.mp hy with hy | hy
        · rcases List.mem_cons.mp hy with e | hy
          · rw [e]
            exact sign_word _
          · rw [List.mem_singleton.mp hy]
            exact nw
        · exact join_words word_and (fun c hc => ob c (List.mem_of_mem_drop hc)) y hy
      refine iteT ⟨fun σ' H' => ∃ m', m' < bs.length - i ∧ ∃ (i : Nat) (jn : Str) (tk : Addr) (acc : List V) (v3 v4 v5 : Option V), m' = bs.length - i ∧ i ≤ bs.length ∧ σ' = [some (.ref tk), some (.ref M), some (.str jn), v3, v4, v5] ∧ wordOk jn ∧ Same H H' ∧
        (∀ H'', Same H' H'' → SqL K H'' tk ((joinW jn (bs.drop i)).map V.str) ∧ ∀ o, SqL K (upd H'' M o) tk ((joinW jn (bs.drop i)).map V.str)) ∧ H' M = some (.lst acc) ∧ DpAll K H' acc ((bs.take i).map bD), fun _ _ h => h, ?_⟩
      generalize htk' : joinW jn (b :: bs.drop (i + 1)) = toks at hk hk1 htoks ⊢
      have hlen : toks.length = (grpW b.g).length + 2 + ([signS b.ge, numS b.n] ++ joinW "and" (bs.drop (i + 1))).length := by
        rw [htoks, List.length_append, List.length_cons, List.length_cons]
      -- group
      refine ⟨_, rfl, (2 : Nat), rfl, tk, _, rfl, hk1, fun p hp => ?_⟩
      rw [cutV_drop, ← List.map_drop]
      have hd2 : toks.drop 2 = grpW b.g ++ ([signS b.ge, numS b.n] ++ joinW "and" (bs.drop (i + 1))) := by
        rw [htoks]
        rfl
      rw [hd2]
      have e2 := same_new (o := .lst ((grpW b.g ++ ([signS b.ge, numS b.n] ++ joinW "and" (bs.drop (i + 1)))).map V.str)) hp
      refine ⟨V.ref p, b.g, _, rfl, okb.1, hrw, words_of (SqL.of upd_same), fun vg H3 e3 hvg => ?_⟩
      obtain ⟨ga, rfl, hga⟩ := dp_g hvg
      have e13 := e2.trans e3
      -- tokens[:2] != [joint, 'seen'] or group is None
      refine ⟨_, rfl, (2 : Nat), rfl, tk, _, rfl, (hk H3 e13).1, fun p2 hp2 => ?_⟩
      rw [cutV_take, ← List.map_take]
      have ht2 : toks.take 2 = [jn, "seen"] := by
        rw [htoks]
        rfl
      rw [ht2]
      have e4 := same_new (o := .lst ([jn, ("seen" : Str)].map V.str)) hp2
      refine ⟨_, rfl, small_le (show 2 ≤ 100000 by decide), fun p3 hp3 => ?_⟩
      have e5 := same_new (o := .lst [V.str jn, V.str "seen"]) hp3
      have hw2 : ∀ y ∈ [jn, ("seen" : Str)], wordOk y := fun y hy => by
        rcases List.mem_cons.mp hy with e | hy
        · rw [e]
          exact hjn
        · rw [List.mem_singleton.mp hy]
          exact word_seen
      refine ⟨_, _, words_of (SqL.of (e5 _ _ upd_same)), words_of (ss := [jn, "seen"]) (SqL.of upd_same), shaped_strs hw2, shaped_strs hw2, _, rfl, ?_⟩
      rw [eqv_strs, decide_eq_true rfl]
      refine iteF ⟨_, rfl, rfl, _, rfl, iteF ?_⟩
      have e35 := e4.trans e5
      -- end
      refine ⟨_, rfl, ga, _, rfl, .inr (same_seqT e35 hga), _, _, rfl, rfl, ?_⟩
      dsimp only
      rw [List.length_map]
      have hend : ((grpW b.g).length : Int) + 4 = (((grpW b.g).length + 4 : Nat) : Int) := by omega
      rw [hend]
      have hend2 : (((grpW b.g).length + 4 : Nat) : Int) - 2 = (((grpW b.g).length + 2 : Nat) : Int) := by omega
      have e15 := e13.trans e35
      -- tail
      refine ⟨_, rfl, _, rfl, _, _, rfl, rfl, _, rfl, _, rfl, _, rfl, tk, _, rfl, (hk _ e15).1, fun p4 hp4 => ?_⟩
      dsimp only
      rw [hend2]
      have hll : ([signS b.ge, numS b.n] ++ joinW "and" (bs.drop (i + 1))).length = 2 + (joinW "and" (bs.drop (i + 1))).length := List.length_append
      rw [cutV_mid _ (by omega) (by rw [List.length_map]; omega), ← List.map_drop, ← List.map_take]
      have htl : (toks.drop ((grpW b.g).length + 2)).take ((grpW b.g).length + 4 - ((grpW b.g).length + 2)) = [signS b.ge, numS b.n] := by
        rw [htoks, show (grpW b.g).length + 2 = (jn :: ("seen" : Str) :: grpW b.g).length from rfl, List.drop_left, show (grpW b.g).length + 4 - (jn :: ("seen" : Str) :: grpW b.g).length = 2 from by rw [List.length_cons, List.length_cons]; omega]
        rfl
      rw [htl]
      have e6 := same_new (o := .lst ([signS b.ge, numS b.n].map V.str)) hp4
      have e16 := e15.trans e6
      have ht4 : SqL K (upd (upd (upd H3 p2 (.lst ([jn, ("seen" : Str)].map V.str))) p3 (.lst [V.str jn, V.str "seen"])) p4 (.lst ([signS b.ge, numS b.n].map V.str))) p4 ([signS b.ge, numS b.n].map V.str) := SqL.of upd_same
      refine ⟨_, rfl, p4, _, rfl, .inl ht4, _, _, rfl, rfl, _, rfl, ?_⟩
      refine iteF ⟨_, rfl, p4, _, 0, _, rfl, rfl, ht4, rfl, sa, _, rfl, .inr (sS _), rfl, flatV_strs _, ?_⟩
      rw [if_pos rfl, inV_strs, show decide (signS b.ge ∈ [("<" : Str), ">="]) = true from by cases b.ge <;> decide +kernel]
      refine ⟨_, rfl, iteF ⟨_, rfl, p4, _, 1, _, rfl, rfl, ht4, rfl, na, _, rfl, .inr (sN _), rfl, flatV_strs _, ?_⟩⟩
      rw [if_pos rfl, inV_strs, decide_eq_true nin]
      refine ⟨_, rfl, iteF ?_⟩
      -- bounds.append
      have hM6 := e16 _ _ hM1
      refine ⟨_, rfl, .inl ⟨rfl, _, SqL.of hM6⟩, _, rfl, _, rfl, p4, _, 0, _, rfl, rfl, ht4, rfl, _, rfl, p4, _, 1, _, rfl, rfl, ht4, rfl, _, b.n, rfl, nint, nlen, small_le (show 3 ≤ 100000 by decide), fun p5 hp5 => ?_⟩
      have e7 := same_new (o := .tup [V.ref ga, V.str (signS b.ge), V.int b.n]) hp5
      have e17 := e16.trans e7
      have hM7 := e7 _ _ hM6
      have htp : (bs.take i).length = i := by rw [List.length_take]; omega
      refine ⟨M, acc, V.ref p5, rfl, rfl, hM7, small_lt (by rw [dps_len ha1, List.length_map]; omega), ?_⟩
      have e67 := (e35.trans e6).trans e7
      have tp := Tp.upd (o' := .lst (acc ++ [V.ref p5])) hM7 rfl
      -- tokens = tokens[end:]
      refine ⟨_, rfl, _, rfl, _, rfl, tk, _, rfl, (hk _ e17).2 _, fun p6 hp6 => ?_⟩
      rw [cutV_drop, ← List.map_drop]
      have hdr2 : toks.drop ((grpW b.g).length + 4) = joinW "and" (bs.drop (i + 1)) := by
        rw [htoks, ← List.append_assoc, show (grpW b.g).length + 4 = ((jn :: ("seen" : Str) :: grpW b.g) ++ [signS b.ge, numS b.n]).length from by rw [List.length_append, List.length_cons, List.length_cons]; rfl, List.drop_left]
      rw [hdr2]
      have nMp : M ≠ p6 := ne_of_none upd_same hp6
      refine ⟨bs.length - (i + 1), by omega, i + 1, "and", p6, acc ++ [V.ref p5], _, _, _, rfl, hi, rfl, word_and, ?_, fun H'' e => ?_, ?_, ?_⟩
      · exact (same_mut (e01.trans e17) nM).trans (same_new hp6)
      · have h6 := e _ _ (upd_same (a := p6))
        exact ⟨SqL.of h6, fun o => SqL.of (by rw [upd_ne (Ne.symm nMp)]; exact h6)⟩
      · rw [upd_ne nMp]
        exact upd_same
      · rw [take_succ_get hb, List.map_append]
        refine dps_same (same_new hp6) (dps_append (dps_tp tp (flat_bs _) (dps_same e17 ha1)) (.cons (dp_tp tp (flat_b b) ?_) .nil))
        exact .tup (SqT.of upd_same) (.cons (dp_same e67 hvg) (.cons (.str _) (.cons (.int _) .nil)))
    · have hie : i = bs.length := by omega
      subst hie
      rw [List.drop_length]
      rw [List.take_length] at ha1
      refine iteF ⟨_, rfl, M, acc, rfl, .inl ⟨SqL.of hM1, fun p hp => ?_⟩⟩
      exact k _ _ (e01.trans (same_new hp)) (.tup (SqT.of upd_same) (dps_same (same_new hp) ha1))
end
end MW

/-! read_rule, write_rule, text_lines. -/
namespace MW
open PySem PySem.Spec PyProof.Rows L2

abbrev sRdR : Stmt := top 53
abbrev sWrR : Stmt := top 54
def ruleW (r : Rul) : List Str := "take" :: (grpW r.g ++ joinW "if" r.bs)
def ruleLine (r : Rul) : Str := Txt.join " " (ruleW r)
def okR2 (r : Rul) : Prop := okG r.g ∧ r.bs.length ≤ 3 ∧ ∀ b ∈ r.bs, okB b
theorem okR2.ok {r : Rul} (h : okR2 r) : okR r := ⟨h.1, h.2.1, fun b hb => (h.2.2 b hb).1⟩
theorem word_take : wordOk "take" := ⟨by decide +kernel, by decide +kernel, by decide +kernel, by decide +kernel⟩
theorem rule_words {r : Rul} (h : okR2 r) : ∀ x ∈ ruleW r, wordOk x := by
  intro x hx
  rcases List.mem_cons.mp hx with e | hx
  · rw [e]
    exact word_take
  rcases List.mem_append.mp hx with hx | hx
  · exact grp_words h.1 x hx
  · exact join_words word_if h.2.2 x hx
theorem words_split {ws : List Str} (h : ∀ x ∈ ws, wordOk x) (hne : ws ≠ []) : Txt.split (Txt.join " " ws) " " = ws :=
  TL.split_join (s := 32) (S := []) (by decide +kernel) (by decide +kernel) hne fun p hp => (h p hp).2.1
def W (ws : List Str) : List Nat := TL.joinL (TL.tl " ") (ws.map TL.tl)
theorem tl_W (ws : List Str) : TL.tl (Txt.join " " ws) = W ws := by rw [TL.join_eq, TL.tl_join]; rfl
theorem joinL_app (S : List Nat) : ∀ {a b : List (List Nat)}, a ≠ [] → b ≠ [] → TL.joinL S (a ++ b) = TL.joinL S a ++ (S ++ TL.joinL S b)
  | [], _, h, _ => absurd rfl h
  | [p], b, _, hb => by
    cases b with
    | nil => exact absurd rfl hb
    | cons q r => rfl
  | p :: q :: r, b, _, hb => by
    have ih := joinL_app S (a := q :: r) (b := b) (List.cons_ne_nil _ _) hb
    show p ++ (S ++ TL.joinL S ((q :: r) ++ b)) = (p ++ (S ++ TL.joinL S (q :: r))) ++ _
    rw [ih]
    simp only [List.append_assoc]
theorem W_app {a b : List Str} (ha : a ≠ []) (hb : b ≠ []) : W (a ++ b) = W a ++ (TL.tl " " ++ W b) := by
  unfold W
  rw [List.map_append]
  exact joinL_app _ (fun z => ha (List.map_eq_nil_iff.mp z)) (fun z => hb (List.map_eq_nil_iff.mp z))
theorem W_one (x : Str) : W [x] = TL.tl x := rfl
theorem grp_ne (g : Grp) : grpW g ≠ [] := by cases g <;> exact List.cons_ne_nil _ _
theorem no10_join {ws : List Str} (h : ∀ x ∈ ws, wordOk x) : 10 ∉ W ws := by
  unfold W
  have : ∀ l : List (List Nat), (∀ x ∈ l, 10 ∉ x) → 10 ∉ TL.joinL (TL.tl " ") l := by
    intro l
    induction l with
    | nil => intro _ z; cases z
    | cons p r ih =>
      intro hl
      cases r with
      | nil => exact hl p (List.mem_singleton.mpr rfl)
      | cons q r =>
        show 10 ∉ p ++ (TL.tl " " ++ TL.joinL (TL.tl " ") (q :: r))
        have d : 10 ∉ TL.tl (" " : Str) := by decide +kernel
        intro z
        rcases List.mem_append.mp z with z | z
        · exact hl p List.mem_cons_self z
        rcases List.mem_append.mp z with z | z
        · exact d z
        · exact ih (fun x hx => hl x (List.mem_cons_of_mem _ hx)) z
  refine this _ fun x hx => ?_
  obtain ⟨y, hy, rfl⟩ := List.mem_map.mp hx
  exact (h y hy).2.2.1
theorem words_len {ws : List Str} (h : ∀ x ∈ ws, wordOk x) : (Txt.join " " ws).length ≤ 9 * ws.length := by
  have h1 := join_len " " ws
  have hb : (ws.map (·.length)).sum ≤ 8 * (ws.map (·.length)).length := sum_le fun n hn => by
    obtain ⟨x, hx, rfl⟩ := List.mem_map.mp hn
    exact (h x hx).2.2.2
  have w3 : (" " : Str).length = 1 := by decide +kernel
  rw [List.length_map] at hb
  rw [w3] at h1
  omega
theorem grp_two (g : Grp) : (grpW g).length ≤ 2 := by
  cases g with
  | any => exact (show 1 ≤ 2 by decide)
  | mk y => exact (show 2 ≤ 2 by decide)
theorem join_len6 : ∀ (j : Str) (bs : List Bnd), (joinW j bs).length ≤ 6 * bs.length
  | _, [] => Nat.le_refl _
  | j, b :: r => by
    have ih := join_len6 "and" r
    have h2 := grp_two b.g
    show (j :: (bndW b ++ joinW "and" r)).length ≤ 6 * (r.length + 1)
    rw [List.length_cons, List.length_append]
    show (("seen" : Str) :: (grpW b.g ++ [signS b.ge, numS b.n])).length + _ + 1 ≤ _
    rw [List.length_cons, List.length_append, List.length_cons, List.length_singleton]
    omega
theorem rule_len {r : Rul} (h : okR2 r) : (ruleW r).length ≤ 21 := by
  have h1 := join_len6 "if" r.bs
  have h2 := grp_two r.g
  have h3 := h.2.1
  show (("take" : Str) :: (grpW r.g ++ joinW "if" r.bs)).length ≤ 21
  rw [List.length_cons, List.length_append]
  omega
theorem line_len2 {r : Rul} (h : okR2 r) : (ruleLine r).length ≤ 200 := by
  have h1 := words_len (rule_words h)
  have h2 := rule_len h
  unfold ruleLine
  omega
/-! ### the writer's texts -/
def bndT (b : Bnd) : Str := Txt.join " " (bndW b)
theorem bnd_text (b : Bnd) : Str.empty ++ ("seen " : Str) ++ Txt.join " " (grpW b.g) ++ (" " : Str) ++ signS b.ge ++ (" " : Str) ++ numS b.n = bndT b := by
  refine TL.ext_tl ?_
  unfold bndT
  rw [tl_W]
  simp only [TL.tl_append]
  rw [tl_W]
  have e0 : TL.tl Str.empty = [] := rfl
  have e1 : TL.tl ("seen " : Str) = TL.tl "seen" ++ TL.tl " " := by decide +kernel
  have h : W (bndW b) = W ["seen"] ++ (TL.tl " " ++ (W (grpW b.g) ++ (TL.tl " " ++ (W [signS b.ge] ++ (TL.tl " " ++ W [numS b.n]))))) := by
    show W ([("seen" : Str)] ++ (grpW b.g ++ ([signS b.ge] ++ [numS b.n]))) = _
    rw [W_app (by simp) (by simp), W_app (grp_ne _) (by simp), W_app (by simp) (by simp)]
  rw [h, W_one, W_one, W_one, e0, e1]
  simp only [List.append_assoc, List.nil_append]
theorem head_text (g : Grp) : Str.empty ++ ("take " : Str) ++ Txt.join " " (grpW g) = Txt.join " " ("take" :: grpW g) := by
  refine TL.ext_tl ?_
  rw [tl_W]
  simp only [TL.tl_append]
  rw [tl_W]
  have e0 : TL.tl Str.empty = [] := rfl
  have e1 : TL.tl ("take " : Str) = TL.tl "take" ++ TL.tl " " := by decide +kernel
  have h : W (("take" : Str) :: grpW g) = W ["take"] ++ (TL.tl " " ++ W (grpW g)) := W_app (a := ["take"]) (by simp) (grp_ne g)
  rw [h, W_one, e0, e1]
  simp only [List.append_assoc, List.nil_append]
theorem bnd_ne (b : Bnd) : bndW b ≠ [] := List.cons_ne_nil _ _
theorem and_text : ∀ (b : Bnd) (r : List Bnd), W (bndW b ++ joinW "and" r) = TL.joinL (TL.tl " and ") ((b :: r).map fun c => TL.tl (bndT c))
  | b, [] => by
    show W (bndW b ++ []) = TL.tl (bndT b)
    rw [List.append_nil]
    exact (tl_W _).symm
  | b, c :: r => by
    have ih := and_text c r
    have e1 : TL.tl (" and " : Str) = TL.tl " " ++ (TL.tl "and" ++ TL.tl " ") := by decide +kernel
    show W (bndW b ++ ([("and" : Str)] ++ (bndW c ++ joinW "and" r))) = TL.tl (bndT b) ++ (TL.tl " and " ++ TL.joinL (TL.tl " and ") ((c :: r).map fun c => TL.tl (bndT c)))
    rw [W_app (bnd_ne b) (by simp), W_app (by simp) (by simp [bndW]), ih, W_one, e1]
    have : TL.tl (bndT b) = W (bndW b) := tl_W _
    rw [this]
    simp only [List.append_assoc]
theorem rule_text (g : Grp) (b : Bnd) (r : List Bnd) : Txt.join " " (("take" : Str) :: grpW g) ++ (" if " : Str) ++ Txt.join " and " ((b :: r).map bndT) = ruleLine ⟨g, b :: r⟩ := by
  refine TL.ext_tl ?_
  unfold ruleLine
  rw [tl_W]
  simp only [TL.tl_append]
  rw [tl_W, TL.join_eq, TL.tl_join, List.map_map]
  have e1 : TL.tl (" if " : Str) = TL.tl " " ++ (TL.tl "if" ++ TL.tl " ") := by decide +kernel
  have h : W (ruleW ⟨g, b :: r⟩) = W (("take" : Str) :: grpW g) ++ (TL.tl " " ++ (W ["if"] ++ (TL.tl " " ++ W (bndW b ++ joinW "and" r)))) := by
    show W ((("take" : Str) :: grpW g) ++ ([("if" : Str)] ++ (bndW b ++ joinW "and" r))) = _
    rw [W_app (by simp) (by simp), W_app (by simp) (by simp [bndW])]
  rw [h, W_one, and_text, e1]
  simp only [List.append_assoc]
  rfl
def spRdR (K : PySem.W.Frag) : Sp := fun vs H Q _ => ∃ r : Rul, vs = [.str (ruleLine r)] ∧ okR2 r ∧ ∀ v H', Same H H' → Dp K H' v (rD r) → Q v H'
def spWrR (K : PySem.W.Frag) : Sp := fun vs H Q _ => ∃ (x : V) (r : Rul), vs = [x] ∧ okR2 r ∧ Dp K H x (rD r) ∧ ∀ H', Same H H' → Q (.str (ruleLine r)) H'
section
variable {P : Program} {w : World} {K : PySem.W.Frag} {mg : Str → Option Value} {base : Heap}
abbrev nRdR : List Str := ["line", "tokens", "group", "bounds"]
theorem sc_rdR : FnScope nRdR ["line"] (defScope sRdR) := ⟨rfl, rfl, rfl, by decide +kernel, rfl, by decide +kernel, by decide +kernel⟩
theorem ok_rdR {f : Addr} {fd : FuncData} (F : Fun K "read_rule" "read_rule" sRdR f fd) (B : Bi mg) (F1 : Fn P w K mg base 2 "read_group" (spRdG K)) (F2 : Fn P w K mg base 3 "read_bounds" (spRdB K)) : FnOk P w K mg base CX0 4 f fd ["line"] (spRdR K) := by
  refine F.ok sc_rdR (fun vs H Q E h => ?_) (fun cdv A outer s H vs Q E hr h => ?_)
  · obtain ⟨r, rfl, _⟩ := h
    rfl
  · obtain ⟨r, rfl, ok, k⟩ := h
    have nd := sc_rdR.nd
    refine ⟨_, pss_cons (ps_set (i := 1) nd rfl (Or.inl rfl) (pe_split (pv 0) pe_str))
      (pss_cons (ps_set (i := 2) nd rfl (Or.inl rfl) (pe_fn F1 hr (by decide) (pa_cons (pe_slice sl_list (pv 1) (po_some pe_int) po_none) pa_nil)))
      (pss_cons (ps_if (PW.pt (pw_or (pt_cmpR op_ne (pe_ix ix_list (pv 1) pe_int (fun _ _ => rfl)) pe_str (nomark _)) (pw_or1 (pt_cmpR op_isN (pv 2) pe_non (nomark _))))) (pss_one ps_never) pss_nil)
      (pss_cons (ps_set (i := 3) nd rfl (Or.inl rfl) (pe_fn F2 hr (by decide) (pa_cons (pe_slice sl_list (pv 1) (po_some (pe_op op_add (pe_callB call_len_seq (by rfl) B.len PySem.boot_len (pa_cons (pv 2) pa_nil)) pe_int)) po_none) pa_nil)))
      (pss_cons (ps_if (pt_cmpR op_isN (pv 3) pe_non (nomark _)) (pss_one ps_never) pss_nil)
      (pss_one (ps_ret (pe_tup (pa_cons (pv 2) (pa_cons (pv 3) pa_nil))))))))), ?_⟩
    have hln := line_len2 ok
    refine ⟨_, rfl, ⟨_, rfl⟩, _, _, rfl, rfl, by decide +kernel, by rw [sizeLine_eq]; omega, fun p hp => ?_⟩
    rw [show Txt.split (ruleLine r) " " = ruleW r from words_split (rule_words ok) (List.cons_ne_nil _ _)]
    have e1 := same_new (o := .lst ((ruleW r).map V.str)) hp
    have hp1 : (upd H p (.lst ((ruleW r).map V.str))) p = some (.lst ((ruleW r).map V.str)) := upd_same
    refine ⟨_, rfl, (1 : Nat), rfl, p, _, rfl, SqL.of hp1, fun p2 hp2 => ?_⟩
    rw [cutV_drop, ← List.map_drop, show (ruleW r).drop 1 = grpW r.g ++ joinW "if" r.bs from rfl]
    have e2 := same_new (o := .lst ((grpW r.g ++ joinW "if" r.bs).map V.str)) hp2
    refine ⟨V.ref p2, r.g, joinW "if" r.bs, rfl, ok.1, join_words word_if ok.2.2, words_of (SqL.of upd_same), fun vg H3 e3 hvg => ?_⟩
    obtain ⟨ga, rfl, hga⟩ := dp_g hvg
    have e13 := e2.trans e3
    have hp3 := e13 _ _ hp1
    refine ⟨_, rfl, p, _, 0, V.str "take", rfl, rfl, SqL.of hp3, atI_nat (j := 0) rfl, rfl, _, rfl, ?_⟩
    rw [dec_str, decide_eq_true rfl]
    refine iteF ⟨_, rfl, rfl, _, rfl, iteF ?_⟩
    refine ⟨_, rfl, _, rfl, ga, _, rfl, .inr hga, _, _, rfl, rfl, _, rfl, p, _, rfl, SqL.of hp3, fun p4 hp4 => ?_⟩
    dsimp only
    rw [List.length_map, show ((grpW r.g).length : Int) + 1 = (((grpW r.g).length + 1 : Nat) : Int) by omega, cutV_drop, ← List.map_drop, show (ruleW r).drop ((grpW r.g).length + 1) = joinW "if" r.bs from by
      show (grpW r.g ++ joinW "if" r.bs).drop (grpW r.g).length = _
      exact List.drop_left]
    have e4 := same_new (o := .lst ((joinW "if" r.bs).map V.str)) hp4
    refine ⟨V.ref p4, r.bs, rfl, ok.2.2, ok.2.1, words_of (SqL.of upd_same), fun vb H5 e5 hvb => ?_⟩
    obtain ⟨ba, bxs, rfl, hba, hbx⟩ := dp_tup hvb
    refine ⟨_, rfl, rfl, _, rfl, iteF ?_⟩
    refine ⟨_, rfl, _, rfl, small_le (show 2 ≤ 100000 by decide), fun p6 hp6 => ?_⟩
    have e6 := same_new (o := .tup [V.ref ga, V.ref ba]) hp6
    exact k _ _ ((((e1.trans e13).trans e4).trans e5).trans e6) (.tup (SqT.of upd_same) (.cons (dp_same ((e4.trans e5).trans e6) hvg) (.cons (dp_same e6 hvb) .nil)))
theorem eg_triple {i j l : Nat} {a : Addr} {x y z : V} {σ : L2.St} {H : Hp} (h : SqT K H a [x, y, z]) : Eg (gTup K 3 (gCons (gName i) (gCons (gName j) (gCons (gName l) gNil)))) (.ref a) σ H (((σ.set i (some x)).set j (some y)).set l (some z)) :=
  fun _ q => ⟨a, [x, y, z], rfl, h, rfl, x, [y, z], rfl, y, [z], rfl, z, [], rfl, rfl, q⟩
abbrev nWrR : List Str := ["rule", "head", "bounds", "group", "sign", "number"]
theorem sc_wrR : FnScope nWrR ["rule"] (defScope sWrR) := ⟨rfl, rfl, rfl, by decide +kernel, rfl, by decide +kernel, by decide +kernel⟩
theorem num_log {n : Int} (h1 : 1 ≤ n) (h2 : n ≤ 4) : n.natAbs.log2 < 1920 := by
  rcases four h1 h2 with rfl | rfl | rfl | rfl <;> decide
theorem join_wlen {ws : List Str} (h : ∀ x ∈ ws, wordOk x) (hl : ws.length ≤ 21) : (Txt.join " " ws).length ≤ 200 := by
  have := words_len h
  omega
theorem ok_wrR {f : Addr} {fd : FuncData} (F : Fun K "write_rule" "write_rule" sWrR f fd) (F1 : Fn P w K mg base 1 "write_group" (spWrG K)) : FnOk P w K mg base CX0 2 f fd ["rule"] (spWrR K) := by
  refine F.ok sc_wrR (fun vs H Q E h => ?_) (fun cdv A outer s H vs Q E hr h => ?_)
  · obtain ⟨x, r, rfl, _⟩ := h
    rfl
  · obtain ⟨x, r, rfl, ok, hx, k⟩ := h
    have nd := sc_wrR.nd
    obtain ⟨ta, vg, vb, rfl, hta, hvg, hvb⟩ := dp_tup2 hx
    obtain ⟨ba, bxs, rfl, hba, hbx⟩ := dp_tup hvb
    have hblen : bxs.length = r.bs.length := by rw [dps_len hbx, List.length_map]
    have hb3 := ok.2.1
    refine ⟨_, pss_cons (ps_set (i := 1) nd rfl (Or.inl rfl) (pe_joinT (.cons pe_str (.cons (pe_fmt (pe_fn F1 hr (by decide) (pa_cons (pe_ix ix_tup (pv 0) pe_int (fun _ _ => rfl)) pa_nil))) .nil))))
      (pss_cons (ps_setLc (i := 2) (own := [("group", 3), ("sign", 4), ("number", 5)]) (g := gTup K 3 (gCons (gName 3) (gCons (gName 4) (gCons (gName 5) gNil)))) (tt := tYes) rfl nd rfl rfl (sw_true rfl rfl rfl (by decide +kernel)) (pi_tup (pe_ix ix_tup (pv 0) pe_int (fun _ _ => rfl)))
          (blkOk_by (own := [("group", 3), ("sign", 4), ("number", 5)]) (N := nWrR) (sc := defScope sWrR) (by decide +kernel)) (fun _ _ _ _ _ => pg_tup rfl (pgs_cons (pg_name (i := 3) nd rfl (Or.inl rfl)) (pgs_cons (pg_name (i := 4) nd rfl (Or.inl rfl)) (pgs_cons (pg_name (i := 5) nd rfl (Or.inl rfl)) pgs_nil)))) (fun _ _ _ _ _ => pts_nil)
          (fun _ _ _ _ _ => pe_joinT (.cons pe_str (.cons (pe_fmt (pe_fn F1 hr (by decide) (pa_cons (pv 3) pa_nil))) (.cons pe_str (.cons (pe_fmt (pv 4)) (.cons pe_str (.cons (pe_fmt (pv 5)) .nil))))))))
      (pss_cons (ps_if (pt_not (pt_truth (pv 2) (by intro _; rfl))) (pss_one (ps_ret (pv 1))) pss_nil)
      (pss_one (ps_ret (pe_op op_add_str (pe_op op_add_str (pv 1) pe_str) (pe_join pe_str (pv 2))))))), ?_⟩
    have gw := grp_words ok.1
    have gl := join_wlen gw (Nat.le_trans (grp_two r.g) (by decide))
    have w0 : (Str.empty).length = 0 := rfl
    have w1 : ("take " : Str).length = 5 := by decide +kernel
    have w2 : ("seen " : Str).length = 5 := by decide +kernel
    have w3 : (" " : Str).length = 1 := by decide +kernel
    have w4 : (" if " : Str).length = 4 := by decide +kernel
    have w5 : (" and " : Str).length = 5 := by decide +kernel
    refine ⟨_, rfl, by simp only [len_app]; exact small_le (by omega), ?_⟩
    refine ⟨_, rfl, ta, _, 0, _, rfl, rfl, hta, rfl, vg, r.g, rfl, ok.1, hvg, .inl ⟨_, rfl, small_le (by omega), ?_⟩⟩
    refine ⟨_, rfl, by simp only [len_app]; exact small_le (by omega), ?_⟩
    rw [head_text]
    refine ⟨_, rfl, ta, _, 1, _, rfl, rfl, hta, rfl, ba, rfl, ⟨_, hba⟩, fun D hD => lc_data (K := K) walk_tup (fun _ => true) (fun i => .str (bndT (r.bs.getD i ⟨.any, true, 0⟩))) (fun _ _ => rfl) (by omega) hD (fun H' e => same_seqT e hba) ?_ ?_⟩
    · rintro i v H1 H1' hi e ⟨rfl, hv⟩
      obtain ⟨b, hb, hd⟩ := dps_all hbx hv
      have en : r.bs.getD i ⟨.any, true, 0⟩ = b := getD_of hb
      have okb := ok.2.2 b (List.mem_of_getElem? hb)
      obtain ⟨t, gv, sv, nv, rfl, ht, hgv, hsv, hnv⟩ := dp_tup3 (dp_same e hd)
      cases hsv
      cases hnv
      refine ⟨Same.refl _, _, eg_triple ht, rfl, et_yes.weak fun b' H3 h3 => ⟨h3.1, h3.2 ▸ Same.refl _⟩, fun _ H3 e3 Q' q => ?_⟩
      rw [en] at q
      have bgl := join_wlen (grp_words okb.1) (Nat.le_trans (grp_two b.g) (by decide))
      have sl := (sign_word b.ge).2.2.2
      have nl := (num_facts okb.2.1 okb.2.2).1.2.2.2
      refine ⟨_, rfl, by simp only [len_app]; exact small_le (by omega), ?_⟩
      refine ⟨_, rfl, gv, b.g, rfl, okb.1, dp_same e3 hgv, .inl ⟨_, rfl, small_le (by omega), ?_⟩⟩
      refine ⟨_, rfl, by simp only [len_app]; exact small_le (by omega), ?_⟩
      refine ⟨_, rfl, by simp only [len_app]; exact small_le (by omega), ?_⟩
      refine ⟨_, rfl, .inl ⟨signS b.ge, rfl, small_le (by omega), ?_⟩⟩
      refine ⟨_, rfl, by simp only [len_app]; exact small_le (by omega), ?_⟩
      refine ⟨_, rfl, by simp only [len_app]; exact small_le (by omega), ?_⟩
      refine ⟨_, rfl, .inr ⟨b.n, rfl, num_log okb.2.1 okb.2.2, ?_⟩⟩
      refine ⟨numS b.n, rfl, by simp only [len_app]; exact small_le (by omega), ?_⟩
      show Q' (.str (Str.empty ++ ("seen " : Str) ++ Txt.join " " (grpW b.g) ++ (" " : Str) ++ signS b.ge ++ (" " : Str) ++ numS b.n)) _
      rw [bnd_text]
      exact q _ _ ⟨Same.refl _, .str _⟩
    · intro H1 acc e1 hacc hda
      rw [hblen, mapD_list r.bs ⟨.any, true, 0⟩ (fun b => PyData.str (bndT b))] at hda
      have hmm : r.bs.map (fun b => PyData.str (bndT b)) = (r.bs.map bndT).map PyData.str := by rw [List.map_map]; rfl
      rw [hmm] at hda
      obtain rfl := dps_strs' hda
      refine ⟨_, rfl, _, .inl ⟨_, SqL.of hacc, rfl⟩, ?_⟩
      cases hbs : r.bs with
      | nil =>
        refine iteT ⟨_, rfl, ?_⟩
        have : ruleLine r = Txt.join " " ("take" :: grpW r.g) := by
          unfold ruleLine ruleW
          rw [hbs]
          show Txt.join " " ("take" :: (grpW r.g ++ [])) = _
          rw [List.append_nil]
        rw [← this]
        exact k _ e1
      | cons b rest =>
        have hw2 : ∀ x ∈ (("take" : Str) :: grpW r.g), wordOk x := fun x hx => (List.mem_cons.mp hx).elim (fun e => e ▸ word_take) fun h => gw x h
        have hl1 := join_wlen hw2 (by have := grp_two r.g; rw [List.length_cons]; omega)
        rw [hbs] at hacc hb3
        have hbl : ∀ c ∈ b :: rest, (bndT c).length ≤ 200 := fun c hc => join_wlen (bnd_words (ok.2.2 c (hbs ▸ hc))) (by
          have := grp_two c.g
          show (("seen" : Str) :: (grpW c.g ++ [signS c.ge, numS c.n])).length ≤ 21
          rw [List.length_cons, List.length_append, List.length_cons, List.length_singleton]
          omega)
        have hsum : (((b :: rest).map bndT).map (·.length)).sum ≤ 200 * (((b :: rest).map bndT).map (·.length)).length := sum_le fun n hn => by
          obtain ⟨x, hx, rfl⟩ := List.mem_map.mp hn
          obtain ⟨c, hc, rfl⟩ := List.mem_map.mp hx
          exact hbl c hc
        rw [List.length_map, List.length_map] at hsum
        have hjl := join_len " and " ((b :: rest).map bndT)
        rw [List.length_map, w5] at hjl
        refine iteF ?_
        refine ⟨_, rfl, _, _, rfl, rfl, by rw [w4, sizeLine_eq]; omega, ⟨_, rfl⟩, _, rfl, _, D, (b :: rest).map bndT, rfl, rfl, .inl (SqL.of hacc), by rw [List.length_map, w5]; omega, _, _, rfl, rfl, ?_, ?_⟩
        · rw [len_app, w4, sizeLine_eq]
          omega
        · rw [rule_text]
          have : ruleLine ⟨r.g, b :: rest⟩ = ruleLine r := by rw [← hbs]
          rw [this]
          exact k _ e1
end
end MW

/-! text_lines; the class Scheme. -/
namespace MW
open PySem PySem.Spec PyProof.Rows L2

abbrev sSInit : Stmt := inClass (top 55) 2
abbrev sSRead : Stmt := inClass (top 55) 3
abbrev sSWrite : Stmt := inClass (top 55) 4
def schText (rs : List Rul) : Str := Txt.join "\n" (rs.map ruleLine)
structure SchOk (rs : List Rul) : Prop where
  le : rs.length ≤ 4
  ok : ∀ r ∈ rs, okR2 r
structure SchC (K : PySem.W.Frag) (C : Addr) (mc : Value) : Prop where
  most : ∃ t, Con K C "MOST" (.int 4) (.int 4 t)
  bounds : ∃ t, Con K C "MOST_BOUNDS" (.int 3) (.int 3 t)
  rd : ClX.CRead K C mc
  mostC : ∃ t, ClX.CVal K C mc "MOST" (.int 4) (.int 4 t)
  boundsC : ∃ t, ClX.CVal K C mc "MOST_BOUNDS" (.int 3) (.int 3 t)
theorem rules_split {rs : List Rul} (h : ∀ r ∈ rs, okR2 r) (hne : rs ≠ []) : Txt.split (schText rs) "\n" = rs.map ruleLine := by
  unfold schText
  refine TL.split_join (s := 10) (S := []) (by decide +kernel) (by decide +kernel) (fun z => hne (List.map_eq_nil_iff.mp z)) fun p hp => ?_
  obtain ⟨r, hr, rfl⟩ := List.mem_map.mp hp
  unfold ruleLine
  rw [tl_W]
  exact no10_join (rule_words (h r hr))
theorem sch_len {rs : List Rul} (h : SchOk rs) : (schText rs).length ≤ 1000 := by
  have h1 := join_len "\n" (rs.map ruleLine)
  have hb : ((rs.map ruleLine).map (·.length)).sum ≤ 200 * ((rs.map ruleLine).map (·.length)).length := sum_le fun n hn => by
    obtain ⟨x, hx, rfl⟩ := List.mem_map.mp hn
    obtain ⟨r, hr, rfl⟩ := List.mem_map.mp hx
    exact line_len2 (h.ok r hr)
  have w3 : ("\n" : Str).length = 1 := by decide +kernel
  have := h.le
  rw [List.length_map, List.length_map] at hb
  rw [List.length_map, w3] at h1
  unfold schText
  omega
theorem sch_ne {r : Rul} {q : List Rul} : ¬ schText (r :: q) = ("" : Str) := by
  intro z
  have h := congrArg TL.tl z
  unfold schText at h
  rw [TL.join_eq, TL.tl_join] at h
  have e : TL.tl ("" : Str) = [] := by decide +kernel
  rw [e] at h
  have hl : TL.tl (ruleLine r) ≠ [] := by
    unfold ruleLine
    rw [tl_W]
    have : W (ruleW r) = W ["take"] ++ (TL.tl " " ++ W (grpW r.g ++ joinW "if" r.bs)) := W_app (a := ["take"]) (by simp) (by
      have := grp_ne r.g
      simp [this])
    rw [this, W_one]
    have : TL.tl ("take" : Str) ≠ [] := by decide +kernel
    intro z
    exact this (List.append_eq_nil_iff.mp z).1
  cases q with
  | nil => exact hl h
  | cons s t =>
    have h' : TL.tl (ruleLine r) ++ (TL.tl "\n" ++ TL.joinL (TL.tl "\n") (((s :: t).map ruleLine).map TL.tl)) = [] := h
    exact hl (List.append_eq_nil_iff.mp h').1
theorem sch_nil : schText [] = ("" : Str) := by decide +kernel
def spLines (K : PySem.W.Frag) : Sp := fun vs H Q _ => ∃ rs : List Rul, vs = [.str (schText rs)] ∧ SchOk rs ∧ ∀ p H', Same H H' → H' p = some (.lst ((rs.map ruleLine).map V.str)) → Q (.ref p) H'
/-- the rules' list is new -/
def SchNw (C : Addr) (H H' : Hp) (v : V) : Prop := ∃ (a dx l : Addr), v = .ref a ∧ H' a = some (.ins C dx [("rules", .ref l)]) ∧ H l = none
def spSInit (K : PySem.W.Frag) (C : Addr) : Sp := fun vs H Q _ => ∃ (a dx : Addr) (x : V) (rs : List Rul), vs = [.ref a, x] ∧ H a = some (.ins C dx []) ∧ Dp K H x (.list (rs.map rD)) ∧ rs.length ≤ 4 ∧ (∀ r ∈ rs, okR r) ∧ ∀ H', SchAt K C H' (.ref a) rs → SchNw C H H' (.ref a) → Off a H H' → Q .non H'
def spSWrite (K : PySem.W.Frag) (C : Addr) : Sp := fun vs H Q _ => ∃ (x : V) (rs : List Rul), vs = [x] ∧ SchAt K C H x rs ∧ SchOk rs ∧ ∀ H', Same H H' → Q (.str (schText rs)) H'
def spSRead (K : PySem.W.Frag) (C : Addr) : Sp := fun vs H Q _ => ∃ rs : List Rul, vs = [.ref C, .str (schText rs)] ∧ SchOk rs ∧ ∀ v H', Same H H' → SchAt K C H' v rs → SchNw C H H' v → Q v H'
section
variable {P : Program} {w : World} {K : PySem.W.Frag} {mg : Str → Option Value} {base : Heap} {C : Addr} {mc : Value}
theorem sc_lines : FnScope ["text"] ["text"] (defScope sLines) := ⟨rfl, rfl, rfl, by decide +kernel, rfl, by decide +kernel, by decide +kernel⟩
theorem ok_lines {f : Addr} {fd : FuncData} (F : Fun K "text_lines" "text_lines" sLines f fd) : FnOk P w K mg base CX0 1 f fd ["text"] (spLines K) := by
  refine F.ok sc_lines (fun vs H Q E h => ?_) (fun cdv A outer s H vs Q E hr h => ?_)
  · obtain ⟨r, rfl, _⟩ := h
    rfl
  · obtain ⟨rs, rfl, ok, k⟩ := h
    refine ⟨_, pss_cons (ps_if (pt_cmpR op_eq (pv 0) pe_str (nomark _)) (pss_one (ps_ret (pe_lst pa_nil))) pss_nil) (pss_one (ps_ret (pe_split (pv 0) pe_str))), ?_⟩
    refine ⟨_, rfl, rfl, _, rfl, ?_⟩
    rw [dec_str]
    cases rs with
    | nil =>
      rw [show decide (schText [] = ("" : Str)) = true from decide_eq_true sch_nil]
      exact iteT ⟨Nat.zero_le _, fun p hp => k p _ (same_new hp) upd_same⟩
    | cons r q =>
      rw [decide_eq_false sch_ne]
      have hl := sch_len ok
      refine iteF ⟨_, rfl, ⟨_, rfl⟩, _, _, rfl, rfl, by decide +kernel, by rw [sizeLine_eq]; omega, fun p hp => ?_⟩
      rw [rules_split ok.ok (List.cons_ne_nil _ _)]
      exact k p _ (same_new hp) upd_same
abbrev nSInit : List Str := ["self", "rules", "group", "bounds"]
theorem sc_sinit : FnScope nSInit ["self", "rules"] (defScope sSInit) := ⟨rfl, rfl, rfl, by decide +kernel, rfl, by decide +kernel, by decide +kernel⟩
theorem ok_sinit {f : Addr} {fd : FuncData} (F : Fun K "__init__" "Scheme.__init__" sSInit f fd) (B : Bi mg) (T : SchT K C) (TC : SchC K C mc) : FnOk P w K mg base CX0 1 f fd ["self", "rules"] (spSInit K C) := by
  refine F.ok sc_sinit (fun vs H Q E h => ?_) (fun cdv A outer s H vs Q E hr h => ?_)
  · obtain ⟨a, dx, x, rs, rfl, _⟩ := h
    rfl
  · obtain ⟨a, dx, x, rs, rfl, ha, hx, hle, ok, k⟩ := h
    have nd := sc_sinit.nd
    obtain ⟨t4, con4⟩ := TC.most
    obtain ⟨t3, con3⟩ := TC.bounds
    obtain ⟨wa, xs, rfl, hwa, hxs⟩ := dp_lst hx
    have hlen : xs.length = rs.length := by rw [dps_len hxs, List.length_map]
    refine ⟨_, pss_cons (ps_fld (pv 0) (pe_callTy call_list_of (by rfl) B.list (by decide +kernel) (pa_cons (pv 1) pa_nil)) rfl)
      (pss_cons (ps_if (pt_cmpR op_gt (pe_callB call_len_seq (by rfl) B.len PySem.boot_len (pa_cons (pe_fld (pv 0) rfl) pa_nil)) (pe_con (pv 0) rfl) (nomark _)) (pss_one ps_never) pss_nil)
      (pss_one (ps_for PassesOwn.never rfl (pi_list (pe_fld (pv 0) rfl)) (pg_tup rfl (pgs_cons (pg_name (i := 2) nd rfl (Or.inl rfl)) (pgs_cons (pg_name (i := 3) nd rfl (Or.inl rfl)) pgs_nil)))
        (pss_one (ps_if (pt_cmpR op_gt (pe_callB call_len_seq (by rfl) B.len PySem.boot_len (pa_cons (pv 3) pa_nil)) (pe_con (pv 0) rfl) (nomark _)) (pss_one ps_never) pss_nil))))), ?_⟩
    refine ⟨_, rfl, wa, xs, rfl, .inl hwa, fun l hl => ?_⟩
    have hla : a ≠ l := ne_of_none ha hl
    refine ⟨_, rfl, a, C, dx, [], rfl, by rw [upd_ne hla]; exact ha, T.cl, T.nR, (by decide), ?_⟩
    have o1 : Off a H (upd (upd H l (.lst xs)) a (.ins C dx (putF "rules" (.ref l) []))) := ((Off.refl a H).mut hl _).put _
    have hins : insOr (H a) := by rw [ha]; trivial
    have h1 : (upd (upd H l (.lst xs)) a (.ins C dx (putF "rules" (.ref l) []))) a = some (.ins C dx [("rules", .ref l)]) := upd_same
    have h2 : (upd (upd H l (.lst xs)) a (.ins C dx (putF "rules" (.ref l) []))) l = some (.lst xs) := by rw [upd_ne (Ne.symm hla)]; exact upd_same
    have h3 := dps_off o1 hins hxs
    refine ⟨_, rfl, a, C, dx, _, _, rfl, h1, T.cl, T.nR, lk_at, l, xs, rfl, .inl (SqL.of h2), _, rfl, a, C, dx, _, _, _, rfl, h1, T.cl, con4, by rw [lk_by (by decide +kernel)]; rfl, _, _, rfl, rfl, _, rfl, ?_⟩
    rw [decide_eq_false (by omega)]
    refine iteF ⟨_, rfl, a, C, dx, _, _, rfl, h1, T.cl, T.nR, lk_at, l, rfl, ⟨_, SqL.of h2⟩, for_list (K := K) (a := l) (xs := xs) (fun i σ H' => ∃ v2 v3 : Option V, σ = [some (.ref a), some (.ref wa), v2, v3] ∧ H' = upd (upd H l (.lst xs)) a (.ins C dx (putF "rules" (.ref l) [])))
      ⟨none, none, rfl, rfl⟩ (fun i σ H' _ ⟨_, _, _, e⟩ => e ▸ SqL.of h2) ?_ ?_⟩
    · rintro i v σ H1 hi ⟨v2, v3, rfl, rfl⟩
      obtain ⟨r, hr1, hd⟩ := dps_all h3 hi
      obtain ⟨t, gv, bv, rfl, ht, hgv, hbv⟩ := dp_tup2 hd
      obtain ⟨ba, bxs, rfl, hba, hbx⟩ := dp_tup hbv
      have hbl : bxs.length = r.bs.length := by rw [dps_len hbx, List.length_map]
      have := (ok r (List.mem_of_getElem? hr1)).2.1
      refine ⟨t, _, rfl, ht, rfl, _, _, rfl, _, _, rfl, rfl, ?_⟩
      refine ⟨_, rfl, ba, bxs, rfl, .inr hba, _, rfl, a, C, dx, _, _, _, rfl, h1, T.cl, con3, by rw [lk_by (by decide +kernel)]; rfl, _, _, rfl, rfl, _, rfl, ?_⟩
      rw [decide_eq_false (by omega)]
      exact iteF ⟨_, _, rfl, rfl⟩
    · rintro σ H1 ⟨v2, v3, rfl, rfl⟩
      exact k _ ⟨a, dx, l, rfl, h1, .lst (SqL.of h2) h3, hle, ok⟩ ⟨a, dx, l, rfl, h1, hl⟩ o1
abbrev nSWrite : List Str := ["self", "rule"]
theorem sc_swrite : FnScope nSWrite ["self"] (defScope sSWrite) := ⟨rfl, rfl, rfl, by decide +kernel, rfl, by decide +kernel, by decide +kernel⟩
theorem ok_swrite {f : Addr} {fd : FuncData} (F : Fun K "write" "Scheme.write" sSWrite f fd) (T : SchT K C) (F1 : Fn P w K mg base 2 "write_rule" (spWrR K)) : FnOk P w K mg base CX0 3 f fd ["self"] (spSWrite K C) := by
  refine F.ok sc_swrite (fun vs H Q E h => ?_) (fun cdv A outer s H vs Q E hr h => ?_)
  · obtain ⟨x, rs, rfl, _⟩ := h
    rfl
  · obtain ⟨x, rs, rfl, ⟨a, dx, l, rfl, ha, hl, h4, okr⟩, ok, k⟩ := h
    have nd := sc_swrite.nd
    obtain ⟨l', xs, e', hla, hxs⟩ := dp_lst hl
    cases e'
    have hlen : xs.length = rs.length := by rw [dps_len hxs, List.length_map]
    refine ⟨_, pss_one (ps_ret (pe_join pe_str (pe_lc (own := [("rule", 1)]) (g := gName 1) (tt := tYes) rfl nd (pi_list (pe_fld (pv 0) rfl)) (blkOk_by (own := [("rule", 1)]) (N := nSWrite) (sc := defScope sSWrite) (by decide +kernel)) (fun _ _ _ _ _ => pg_name (i := 1) nd rfl (Or.inl rfl)) (fun _ _ _ _ _ => pts_nil)
      (fun _ _ _ _ _ => pe_fn F1 hr (by decide) (pa_cons (pv 1) pa_nil))))), ?_⟩
    refine ⟨⟨_, rfl⟩, _, rfl, a, C, dx, _, _, rfl, ha, T.cl, T.nR, lk_at, l, rfl, ⟨_, hla⟩, fun D hD => lc_data (K := K) walk_list (fun _ => true) (fun i => .str (ruleLine (rs.getD i ⟨.any, []⟩))) (fun _ _ => rfl) (by omega) hD (fun H' e => e.seq hla) ?_ ?_⟩
    · rintro i v H1 H1' hi e ⟨rfl, hv⟩
      obtain ⟨r, hr1, hd⟩ := dps_all hxs hv
      have en : rs.getD i ⟨.any, []⟩ = r := getD_of hr1
      refine ⟨Same.refl _, _, eg_name, rfl, et_yes.weak fun b' H3 h3 => ⟨h3.1, h3.2 ▸ Same.refl _⟩, fun _ H3 e3 Q' q => ?_⟩
      rw [en] at q
      exact ⟨_, rfl, v, r, rfl, ok.ok r (List.mem_of_getElem? hr1), dp_same (e.trans e3) hd, fun H4 e4 => q _ _ ⟨e4, .str _⟩⟩
    · intro H1 acc e1 hacc hda
      rw [hlen, mapD_list rs ⟨.any, []⟩ (fun r => PyData.str (ruleLine r))] at hda
      have hmm : rs.map (fun r => PyData.str (ruleLine r)) = (rs.map ruleLine).map PyData.str := by rw [List.map_map]; rfl
      rw [hmm] at hda
      obtain rfl := dps_strs' hda
      refine ⟨_, D, _, rfl, rfl, .inl (SqL.of hacc), ?_, k _ e1⟩
      have hb : ((rs.map ruleLine).map (·.length)).sum ≤ 200 * ((rs.map ruleLine).map (·.length)).length := sum_le fun n hn => by
        obtain ⟨x, hx, rfl⟩ := List.mem_map.mp hn
        obtain ⟨r, hr1, rfl⟩ := List.mem_map.mp hx
        exact line_len2 (ok.ok r hr1)
      have w3 : ("\n" : Str).length = 1 := by decide +kernel
      rw [List.length_map, List.length_map] at hb
      rw [List.length_map, w3]
      omega
theorem flat_r (r : Rul) : flatD (rD r) = true := by
  show (flatD (gD r.g) && (flatDs (r.bs.map bD) && true)) = true
  rw [flat_g, flat_bs]
  rfl
theorem flat_rs (q : List Rul) : flatDs (q.map rD) = true := by
  induction q with
  | nil => rfl
  | cons b r ih =>
    show (flatD (rD b) && flatDs (r.map rD)) = true
    rw [ih, flat_r]
    rfl
abbrev nSRead : List Str := ["cls", "text", "rules", "at", "line", "rule"]
theorem sc_sread : FnScope nSRead ["cls", "text"] (defScope sSRead) := ⟨rfl, rfl, rfl, by decide +kernel, rfl, by decide +kernel, by decide +kernel⟩
theorem ok_sread {f : Addr} {fd : FuncData} (F : Fun K "read" "Scheme.read" sSRead f fd) (B : Bi mg) (TC : SchC K C mc) (F1 : Fn P w K mg base 4 "read_rule" (spRdR K)) (F2 : Fn P w K mg base 1 "text_lines" (spLines K)) (N : Cn P w K mg base 1 C (spSInit K C)) : FnOk P w K mg base CX0 5 f fd ["cls", "text"] (spSRead K C) := by
  refine F.ok sc_sread (fun vs H Q E h => ?_) (fun cdv A outer s H vs Q E hr h => ?_)
  · obtain ⟨rs, rfl, _⟩ := h
    rfl
  · obtain ⟨rs, rfl, ok, k⟩ := h
    have nd := sc_sread.nd
    obtain ⟨t4, cv4⟩ := TC.mostC
    obtain ⟨t3, cv3⟩ := TC.boundsC
    have hle := ok.le
    refine ⟨_, pss_cons (ps_set (i := 2) nd rfl (Or.inl rfl) (pe_lst pa_nil))
      (pss_cons (ps_for PassesOwn.never rfl (pi_enum (by rfl) B.enumerate (pa_cons (pe_fn F2 hr (by decide) (pa_cons (pv 1) pa_nil)) pa_nil)) (pg_tup rfl (pgs_cons (pg_name (i := 3) nd rfl (Or.inl rfl)) (pgs_cons (pg_name (i := 4) nd rfl (Or.inl rfl)) pgs_nil)))
        (pss_cons (ps_set (i := 5) nd rfl (Or.inl rfl) (pe_fn F1 hr (by decide) (pa_cons (pv 4) pa_nil)))
        (pss_cons (ps_if (PW.pt (pw_or (pt_cmpR op_isN (pv 5) pe_non (nomark _)) (pw_or (pt_cmpR op_gt (pe_callB call_len_seq (by rfl) B.len PySem.boot_len (pa_cons (pe_ix ix_tup (pv 5) pe_int (fun _ _ => rfl)) pa_nil)) (ClX.pe_cval (pv 0)) (nomark _))
            (pw_or1 (pt_cmpR op_ge (pv 3) (ClX.pe_cval (pv 0)) (nomark _)))))) (pss_one ps_never) pss_nil)
        (pss_one (ps_expr (pe_bm PySem.F.plainAttrs_list PySem.F.slot_list_append PySem.F.type_list_append mt_append (pv 2) (pa_cons (pv 5) pa_nil)))))))
      (pss_one (ps_ret (pe_newL (i := 0) N hr (by decide) (pa_cons (pv 2) pa_nil))))), ?_⟩
    refine ⟨Nat.zero_le _, fun M hM => ?_⟩
    have e1 := same_new (o := .lst []) hM
    have nM : H M = none := hM
    refine ⟨_, rfl, rs, rfl, ok, fun p H2 e2 hp => ?_⟩
    have hM2 : H2 M = some (.lst []) := e2 _ _ upd_same
    refine ⟨p, _, rfl, SqL.of hp, for_it walk_enum (fun i σ H' => ∃ (v3 v4 v5 : Option V) (acc : List V), σ = [some (.ref C), some (.str (schText rs)), some (.ref M), v3, v4, v5] ∧ Same H H' ∧ SqL K H' p ((rs.map ruleLine).map V.str) ∧ H' M = some (.lst acc) ∧ DpAll K H' acc ((rs.take i).map rD) ∧ (p ≠ M ∨ rs = []))
      ⟨none, none, none, [], rfl, e1.trans e2, SqL.of hp, hM2, .nil, ?_⟩ (fun i σ H' _ ⟨_, _, _, _, _, _, h, _⟩ => h) ?_ ?_⟩
    · cases rs with
      | nil => exact .inr rfl
      | cons r q =>
        refine .inl ?_
        rintro rfl
        rw [hM2] at hp
        cases hp
    · rintro i v σ H1 H1' hi ⟨v3, v4, v5, acc, rfl, e01, hp1, hM1, ha1, hne⟩ ⟨T, a1, b1, rfl, hT, rfl, h1, h2⟩
      cases h1
      obtain ⟨ln, hln, rfl⟩ := map_get h2
      obtain ⟨r, hr1, rfl⟩ := map_get hln
      have hi' : i < rs.length := (List.getElem?_eq_some_iff.mp hr1).1
      have okr := ok.ok r (List.mem_of_getElem? hr1)
      have hpM : p ≠ M := hne.elim id fun z => by rw [z] at hi'; exact absurd hi' (Nat.not_lt_zero _)
      have e12 := same_new (o := .tup [.int (i : Nat), V.str (ruleLine r)]) hT
      refine ⟨T, _, rfl, SqT.of upd_same, rfl, _, _, rfl, _, _, rfl, rfl, ?_⟩
      refine ⟨_, rfl, r, rfl, okr, fun vw H3 e3 hvw => ?_⟩
      obtain ⟨t, gv, bv, rfl, ht, hgv, hbv⟩ := dp_tup2 hvw
      obtain ⟨ba, bxs, rfl, hba, hbx⟩ := dp_tup hbv
      have hbl : bxs.length = r.bs.length := by rw [dps_len hbx, List.length_map]
      have hb3 := okr.2.1
      have e13 := e12.trans e3
      refine ⟨_, rfl, rfl, _, rfl, iteF ?_⟩
      refine ⟨_, rfl, t, _, 1, _, rfl, rfl, ht, rfl, ba, bxs, rfl, .inr hba, _, rfl, C, mc, _, _, rfl, TC.rd, cv3, _, _, rfl, rfl, _, rfl, ?_⟩
      rw [decide_eq_false (by omega)]
      refine iteF ⟨_, rfl, _, rfl, C, mc, _, _, rfl, TC.rd, cv4, _, _, rfl, rfl, _, rfl, ?_⟩
      rw [decide_eq_false (by omega)]
      refine iteF ?_
      have hM3 := e13 _ _ hM1
      have ha3 := dps_same e13 ha1
      have hal : acc.length = i := by rw [dps_len ha3, List.length_map, List.length_take]; omega
      refine ⟨_, rfl, .inl ⟨rfl, _, SqL.of hM3⟩, _, rfl, M, acc, V.ref t, rfl, rfl, hM3, small_lt (by omega), ?_⟩
      have tp := Tp.upd (o' := .lst (acc ++ [V.ref t])) hM3 rfl
      refine ⟨_, _, _, acc ++ [V.ref t], rfl, same_mut (e01.trans e13) nM, ?_, upd_same, ?_, .inl hpM⟩
      · rcases e13.seq hp1 with h | h
        · refine .inl ?_
          rcases h with h | ⟨o, h⟩
          · exact .inl (by rw [upd_ne hpM]; exact h)
          · exact .inr ⟨o, by rw [upd_ne hpM]; exact h⟩
        · exact .inr h
      · rw [take_succ_get hr1, List.map_append]
        exact dps_append (dps_tp tp (flat_rs _) ha3) (.cons (dp_tp tp (flat_r r) hvw) .nil)
    · rintro σ H1 ⟨v3, v4, v5, acc, rfl, e01, hp1, hM1, ha1, _⟩
      have hl : ((rs.map ruleLine).map V.str).length = rs.length := by rw [List.length_map, List.length_map]
      rw [hl, List.take_length] at ha1
      refine ⟨rfl, _, rfl, fun x dx hx hdx ne => ?_⟩
      have e2 := same_ins (C := C) hx hdx
      refine ⟨x, dx, V.ref M, rs, rfl, upd_same, dp_same e2 (.lst (SqL.of hM1) ha1), ok.le, fun r hr1 => (ok.ok r hr1).ok, fun H2 hcr hnw ho => ⟨rfl, ?_⟩⟩
      refine k _ _ (e01.trans (same_off e2 ho hx)) hcr ?_
      obtain ⟨a', dx', l', q1, q2, q3⟩ := hnw
      exact ⟨a', dx', l', q1, q2, none_back (e01.trans e2) q3⟩
end
end MW

/-! The law's helpers: the stream, draws, sizes, makes, workers. -/
namespace MW
open PySem PySem.Spec PyProof.Rows L2
open MS (ws free begs perms mem_ws mem_perms mem_begs)

abbrev sStream : Stmt := top 57
abbrev sDraw : Stmt := top 58
abbrev sSize : Stmt := top 59
abbrev sMakes : Stmt := top 60
abbrev sWorkers : Stmt := top 61
def St (p : Addr) (H : Hp) : Prop := ∃ ds : List Int, H p = some (.lst (ds.map V.int))
theorem St.same {p : Addr} {H H' : Hp} (e : Same H H') (h : St p H) : St p H' := by
  obtain ⟨ds, h⟩ := h
  exact ⟨ds, e _ _ h⟩
theorem St.mut {p l : Addr} {H : Hp} {o : HO} (h : St p H) (ne : p ≠ l) : St p (upd H l o) := by
  obtain ⟨ds, h⟩ := h
  exact ⟨ds, by rw [upd_ne ne]; exact h⟩
def spStream (K : PySem.W.Frag) : Sp := fun vs H Q _ => ∃ (a : Addr) (ns : List Int), vs = [.ref a] ∧ SqL K H a (ns.map V.int) ∧ ns.length ≤ 63 ∧ ∀ p H', Same H H' → H p = none → St p H' → Q (.ref p) H'
def spDraw : Sp := fun vs H Q _ => ∃ (p : Addr) (m : Int), vs = [.ref p, .int m] ∧ St p H ∧ 0 < m ∧ ∀ v H', 0 ≤ v → v < m → Off p H H' → St p H' → Q (.int v) H'
section
variable {P : Program} {w : World} {K : PySem.W.Frag} {mg : Str → Option Value} {base : Heap}
abbrev nStream : List Str := ["_law_script", "_law_pairs", "_law_at", "_law_cell", "_law_rest", "_law_k"]
theorem sc_stream : FnScope nStream ["_law_script"] (defScope sStream) := ⟨rfl, rfl, rfl, by decide +kernel, rfl, by decide +kernel, by decide +kernel⟩
theorem ok_stream {f : Addr} {fd : FuncData} (F : Fun K "_law_stream" "_law_stream" sStream f fd) (B : Bi mg) : FnOk P w K mg base CX0 1 f fd ["_law_script"] (spStream K) := by
  refine F.ok sc_stream (fun vs H Q E h => ?_) (fun cdv A outer s H vs Q E hr h => ?_)
  · obtain ⟨a, ns, rfl, _⟩ := h
    rfl
  · obtain ⟨a, ns, rfl, ha, h63, k⟩ := h
    have nd := sc_stream.nd
    refine ⟨_, pss_cons (ps_set (i := 1) nd rfl (Or.inl rfl) (pe_lst pa_nil))
      (pss_cons (ps_for PassesOwn.never rfl (pi_enum (by rfl) B.enumerate (pa_cons (pe_slice sl_list (pv 0) po_none (po_some pe_int)) pa_nil)) (pg_tup rfl (pgs_cons (pg_name (i := 2) nd rfl (Or.inl rfl)) (pgs_cons (pg_name (i := 3) nd rfl (Or.inl rfl)) pgs_nil)))
        (pss_cons (ps_set (i := 4) nd rfl (Or.inl rfl) (pe_callB call_abs (by rfl) B.abs (by decide +kernel) (pa_cons (pv 3) pa_nil)))
        (pss_cons (ps_if (pt_cmpR op_lt (pv 4) pe_int (nomark _))
          (pss_cons (ps_set (i := 4) nd rfl (Or.inl rfl) (pe_op op_mod (pe_callTy call_int1 (by rfl) B.int (by decide +kernel) (pa_cons (pe_op op_mul (pv 4) (pe_op op_add (pe_op op_add pe_int (pe_op op_mul pe_int (pv 2))) (pe_callTy call_int1 (by rfl) B.int (by decide +kernel) (pa_cons (pe_cmpR op_lt (pv 3) pe_int (nomark _)) pa_nil)))) pa_nil)) pe_int))
          (pss_one (ps_set (i := 4) nd rfl (Or.inl rfl) (pe_op op_mod (pe_callTy call_int1 (by rfl) B.int (by decide +kernel) (pa_cons (pe_op op_mul (pv 4) (pe_op op_add (pv 4) pe_int)) pa_nil)) pe_int)))) pss_nil)
        (pss_one (ps_for PassesOwn.never rfl (pi_range1 rfl B.range (pa_cons pe_int pa_nil)) (pg_name (i := 5) nd rfl (Or.inl rfl))
          (pss_cons (ps_expr (pe_bm PySem.F.plainAttrs_list PySem.F.slot_list_append PySem.F.type_list_append mt_append (pv 1) (pa_cons (pe_op op_mod (pe_callTy call_int1 (by rfl) B.int (by decide +kernel) (pa_cons (pv 4) pa_nil)) pe_int) pa_nil)))
          (pss_cons (ps_set (i := 4) nd rfl (Or.inl rfl) (pe_op op_fdiv (pv 4) pe_int))
          (pss_one (ps_if (pt_cmpR op_eq (pv 4) pe_int (nomark _)) (pss_one ps_break) pss_nil)))))))))
      (pss_cons (ps_expr (pe_bm0 PySem.F.plainAttrs_list PySem.F.slot_list_reverse PySem.F.type_list_reverse mt_reverse (pv 1)))
      (pss_one (ps_ret (pv 1))))), ?_⟩
    refine ⟨Nat.zero_le _, fun p hp => ?_⟩
    have e1 := same_new (o := .lst []) hp
    have np : H p = none := hp
    refine ⟨_, rfl, (63 : Nat), rfl, a, _, rfl, e1.seq ha, fun q hq => ?_⟩
    rw [cutV_take, List.take_of_length_le (by rw [List.length_map]; exact h63)]
    have e2 := e1.trans (same_new (o := .lst (ns.map V.int)) hq)
    have nq : H q = none := none_back e1 hq
    have npq : p ≠ q := ne_of_none upd_same hq
    refine ⟨q, _, rfl, SqL.of upd_same, for_it walk_enum (fun i σ H' => ∃ (v2 v3 v4 v5 : Option V) (ds : List Int), σ = [some (.ref a), some (.ref p), v2, v3, v4, v5] ∧ Same H H' ∧ H' q = some (.lst (ns.map V.int)) ∧ H' p = some (.lst (ds.map V.int)) ∧ ds.length ≤ 60 * i)
      ⟨none, none, none, none, [], rfl, e2, upd_same, by rw [upd_ne npq]; exact upd_same, Nat.zero_le _⟩ (fun i σ H' _ ⟨_, _, _, _, _, _, _, h, _⟩ => SqL.of h) ?_ ?_⟩
    · rintro i v σ H1 H1' hi ⟨v2, v3, v4, v5, ds, rfl, e01, hq1, hp1, hdl⟩ ⟨T, a1, b1, rfl, hT, rfl, h1, h2⟩
      cases h1
      obtain ⟨c, hc, rfl⟩ := map_get h2
      have hi63 : i < 63 := by
        have := (List.getElem?_eq_some_iff.mp hc).1
        omega
      have eT := same_new (o := .tup [.int (i : Nat), V.int c]) hT
      have e02 := e01.trans eT
      have hq2 := eT _ _ hq1
      have hp2 := eT _ _ hp1
      refine ⟨T, _, rfl, SqT.of upd_same, rfl, _, _, rfl, _, _, rfl, rfl, ?_⟩
      refine ⟨_, rfl, c, rfl, ?_⟩
      -- the rest, whatever it is
      apply viaB (I := fun b : Int => True)
      · intro rest
        refine ⟨_, rfl, _, _, rfl, rfl, _, rfl, ?_⟩
        obtain ⟨r0, hr0⟩ : ∃ r0, (if c < 0 then -c else c) = r0 := ⟨_, rfl⟩
        have h0 : 0 ≤ r0 := by rw [← hr0]; split <;> omega
        rw [hr0]
        refine ite2 (fun hlt => ?yes) (fun _ => ?no)
        case no => exact rest r0 trivial
        case yes =>
          have hlt' : r0 < 1000000000000000000 := of_decide_eq_true hlt
          refine ⟨_, rfl, _, rfl, _, _, rfl, rfl, .inl ⟨by decide, by decide⟩, _, _, rfl, rfl, _, rfl, _, _, rfl, rfl, .inr ⟨_, rfl, ?_⟩⟩
          refine ⟨_, _, rfl, rfl, _, _, rfl, rfl, .inl ⟨by omega, by omega⟩, .inl ⟨_, rfl, _, _, rfl, rfl, (by show (0 : Int) < 1000000000000000003; decide), ?_⟩⟩
          obtain ⟨r1, hr1⟩ : ∃ r1, (r0 * (6364136223846793005 + 2 * ((i : Nat) : Int) + if decide (c < 0) = true then 1 else 0)) % 1000000000000000003 = r1 := ⟨_, rfl⟩
          have h1 : 0 ≤ r1 ∧ r1 < 1000000000000000003 := by
            rw [← hr1]
            exact ⟨Int.emod_nonneg _ (by decide), Int.emod_lt_of_pos _ (by decide)⟩
          dsimp only
          rw [hr1]
          refine ⟨_, rfl, _, rfl, _, _, rfl, rfl, _, _, rfl, rfl, .inl ⟨by omega, by omega⟩, .inl ⟨_, rfl, _, _, rfl, rfl, (by show (0 : Int) < 1000000000000000009; decide), ?_⟩⟩
          exact rest _ trivial
      · intro b _
        refine ⟨60, rfl, by decide, by decide, ?_⟩
        refine for_range (lo := 0) (n := 60) (fun j σ H' => ∃ (b : Int) (v5 : Option V) (ds' : List Int), σ = [some (.ref a), some (.ref p), some (.int (i : Nat)), some (.int c), some (.int b), v5] ∧ Same H H' ∧ H' q = some (.lst (ns.map V.int)) ∧ H' p = some (.lst (ds'.map V.int)) ∧ ds'.length ≤ 60 * i + j)
          ⟨b, _, ds, rfl, e02, hq2, hp2, hdl⟩ ?_ ?_
        · rintro j σ H3 hj ⟨b, v5, ds', rfl, e03, hq3, hp3, hdl3⟩
          refine ⟨_, rfl, .inl ⟨rfl, _, SqL.of hp3⟩, _, rfl, .inl ⟨_, rfl, _, _, rfl, rfl, (by show (0 : Int) < 100; decide), p, _, V.int (b % 100), rfl, rfl, hp3, small_lt (by rw [List.length_map]; omega), ?_⟩⟩
          have hap : ds'.map V.int ++ [V.int (b % 100)] = (ds' ++ [b % 100]).map V.int := by rw [List.map_append]; rfl
          rw [hap]
          refine ⟨_, rfl, _, _, rfl, rfl, ⟨by decide, by decide⟩, _, rfl, rfl, _, rfl, ?_⟩
          have hlen : (ds' ++ [b % 100]).length ≤ 60 * i + (j + 1) := by
            rw [List.length_append]
            show ds'.length + 1 ≤ _
            omega
          refine ite2 (fun _ => ?_) (fun _ => ?_)
          · exact ⟨_, _, _, _, ds' ++ [b % 100], rfl, same_mut e03 np, by rw [upd_ne (Ne.symm npq)]; exact hq3, upd_same, by omega⟩
          · exact ⟨_, _, ds' ++ [b % 100], rfl, same_mut e03 np, by rw [upd_ne (Ne.symm npq)]; exact hq3, upd_same, by omega⟩
        · rintro σ H3 ⟨b, v5, ds', rfl, e03, hq3, hp3, hdl3⟩
          exact ⟨_, _, _, _, ds', rfl, e03, hq3, hp3, by omega⟩
    · rintro σ H1 ⟨v2, v3, v4, v5, ds, rfl, e01, hq1, hp1, hdl⟩
      refine ⟨_, rfl, .inl ⟨rfl, _, SqL.of hp1⟩, p, _, rfl, rfl, hp1, _, rfl, k p _ (same_mut e01 np) np ⟨ds.reverse, ?_⟩⟩
      rw [List.map_reverse]
      exact upd_same
theorem sc_draw : FnScope ["_law_stream_here", "_law_many"] ["_law_stream_here", "_law_many"] (defScope sDraw) := ⟨rfl, rfl, rfl, by decide +kernel, rfl, by decide +kernel, by decide +kernel⟩
theorem ok_draw {f : Addr} {fd : FuncData} (F : Fun K "_law_draw" "_law_draw" sDraw f fd) (B : Bi mg) : FnOk P w K mg base CX0 1 f fd ["_law_stream_here", "_law_many"] spDraw := by
  refine F.ok sc_draw (fun vs H Q E h => ?_) (fun cdv A outer s H vs Q E hr h => ?_)
  · obtain ⟨p, m, rfl, _⟩ := h
    rfl
  · obtain ⟨p, m, rfl, ⟨ds, hp⟩, hm, k⟩ := h
    refine ⟨_, pss_cons (ps_if (pt_cmpR op_eq (pe_callB call_len_seq (by rfl) B.len PySem.boot_len (pa_cons (pv 0) pa_nil)) pe_int (nomark _)) (pss_one (ps_ret pe_int)) pss_nil)
      (pss_one (ps_ret (pe_op op_mod (pe_callTy call_int1 (by rfl) B.int (by decide +kernel) (pa_cons (pe_bm0 PySem.F.plainAttrs_list PySem.F.slot_list_pop PySem.F.type_list_pop mt_pop (pv 0)) pa_nil)) (pv 1)))), ?_⟩
    refine ⟨_, rfl, p, _, rfl, .inl (SqL.of hp), rfl, _, rfl, ?_⟩
    rw [dec_int, List.length_map]
    by_cases c : ds.length = 0
    · rw [decide_eq_true (by omega)]
      exact iteT (k 0 H (by decide) hm (Off.refl _ _) ⟨ds, hp⟩)
    · rw [decide_eq_false (by omega)]
      have hl : ds.length - 1 < ds.length := by omega
      have hx : (ds.map V.int)[(ds.map V.int).length - 1]? = some (V.int ds[ds.length - 1]) := by
        rw [List.length_map, List.getElem?_map, List.getElem?_eq_getElem hl]
        rfl
      refine iteF ⟨_, rfl, .inl ⟨rfl, _, SqL.of hp⟩, p, _, _, rfl, rfl, hp, hx, .inl ⟨_, rfl, _, rfl, _, _, rfl, rfl, hm, ?_⟩⟩
      refine k _ _ (Int.emod_nonneg _ (by omega)) (Int.emod_lt_of_pos _ hm) ((Off.refl p H).put _) ⟨ds.dropLast, ?_⟩
      rw [List.map_dropLast]
      exact upd_same
/-- an item of a written list of ints -/
theorem pick_int {l : List Int} {v : Int} (h0 : 0 ≤ v) (h1 : v < l.length) : ∃ x ∈ l, atI (l.map V.int) v = some (V.int x) := by
  have hl : v.toNat < l.length := by omega
  refine ⟨l[v.toNat], List.getElem_mem hl, ?_⟩
  have := atI_nat (xs := l.map V.int) (j := v.toNat) (v := V.int l[v.toNat]) (by rw [List.getElem?_map, List.getElem?_eq_getElem hl]; rfl)
  rw [show ((v.toNat : Nat) : Int) = v by omega] at this
  exact this
theorem pick_str {l : List Str} {v : Int} (h0 : 0 ≤ v) (h1 : v < l.length) : ∃ x ∈ l, atI (l.map V.str) v = some (V.str x) := by
  have hl : v.toNat < l.length := by omega
  refine ⟨l[v.toNat], List.getElem_mem hl, ?_⟩
  have := atI_nat (xs := l.map V.str) (j := v.toNat) (v := V.str l[v.toNat]) (by rw [List.getElem?_map, List.getElem?_eq_getElem hl]; rfl)
  rw [show ((v.toNat : Nat) : Int) = v by omega] at this
  exact this
def spSize : Sp := fun vs H Q _ => ∃ p : Addr, vs = [.ref p] ∧ St p H ∧ ∀ (n : Nat) H', 1 ≤ n → n ≤ 5 → Off p H H' → St p H' → Q (.int n) H'
theorem sc_size : FnScope ["_law_stream_here"] ["_law_stream_here"] (defScope sSize) := ⟨rfl, rfl, rfl, by decide +kernel, rfl, by decide +kernel, by decide +kernel⟩
theorem st_ne {p l : Addr} {H : Hp} (h : St p H) (hl : H l = none) : p ≠ l := by
  obtain ⟨ds, h⟩ := h
  exact ne_of_none h hl
theorem ok_size {f : Addr} {fd : FuncData} (F : Fun K "_law_size" "_law_size" sSize f fd) (F1 : Fn P w K mg base 1 "_law_draw" spDraw) : FnOk P w K mg base CX0 2 f fd ["_law_stream_here"] spSize := by
  refine F.ok sc_size (fun vs H Q E h => ?_) (fun cdv A outer s H vs Q E hr h => ?_)
  · obtain ⟨p, rfl, _⟩ := h
    rfl
  · obtain ⟨p, rfl, hp, k⟩ := h
    refine ⟨_, pss_one (ps_ret (pe_ix ix_list (pe_lst (pa_cons pe_int (pa_cons pe_int (pa_cons pe_int (pa_cons pe_int (pa_cons pe_int (pa_cons pe_int (pa_cons pe_int (pa_cons pe_int (pa_cons pe_int (pa_cons pe_int pa_nil)))))))))))
      (pe_fn F1 hr (by decide) (pa_cons (pv 0) (pa_cons pe_int pa_nil))) (fun _ _ => rfl))), ?_⟩
    refine ⟨small_le (show 10 ≤ 100000 by decide), fun l hl => ?_⟩
    have hpl := st_ne hp hl
    refine ⟨_, rfl, p, 10, rfl, hp.mut hpl, by decide, fun v H2 h0 h1 o2 st2 => ?_⟩
    have hL : H2 l = some (.lst ([1, 2, 3, 3, 4, 4, 4, 4, 4, 5].map V.int)) := o2 l _ (Ne.symm hpl) upd_same
    obtain ⟨x, hx, hat⟩ := pick_int (l := [1, 2, 3, 3, 4, 4, 4, 4, 4, 5]) h0 (by show v < 10; exact h1)
    have hx2 : 1 ≤ x ∧ x ≤ 5 := by
      have : ∀ y ∈ [(1 : Int), 2, 3, 3, 4, 4, 4, 4, 4, 5], 1 ≤ y ∧ y ≤ 5 := by decide
      exact this x hx
    refine ⟨l, _, v, _, rfl, rfl, SqL.of hL, hat, ?_⟩
    have := k x.toNat H2 (by omega) (by omega) ((Off.of (same_new hl)).trans o2) st2
    rw [show ((x.toNat : Nat) : Int) = x by omega] at this
    exact this
def makeOk (m : Str) : Prop := m = "a" ∨ m = "b" ∨ m = "any"
theorem makeOk.nm {m : Str} (h : makeOk m) : nameOk m = true := by
  rcases h with rfl | rfl | rfl <;> decide +kernel
def spMakes : Sp := fun vs H Q _ => ∃ (p : Addr) (n : Nat), vs = [.ref p, .int n] ∧ St p H ∧ n ≤ 6 ∧ ∀ (l : Addr) (ms : List Str) (H' : Hp), ms.length = n → (∀ m ∈ ms, makeOk m) → H l = none → H' l = some (.lst (ms.map V.str)) → Off p H H' → St p H' → Q (.ref l) H'
abbrev nMakes : List Str := ["_law_stream_here", "_law_size_here", "_law_makes_here", "_law_worker"]
theorem sc_makes : FnScope nMakes ["_law_stream_here", "_law_size_here"] (defScope sMakes) := ⟨rfl, rfl, rfl, by decide +kernel, rfl, by decide +kernel, by decide +kernel⟩
theorem ok_makes {f : Addr} {fd : FuncData} (F : Fun K "_law_makes" "_law_makes" sMakes f fd) (B : Bi mg) (F1 : Fn P w K mg base 1 "_law_draw" spDraw) : FnOk P w K mg base CX0 2 f fd ["_law_stream_here", "_law_size_here"] spMakes := by
  refine F.ok sc_makes (fun vs H Q E h => ?_) (fun cdv A outer s H vs Q E hr h => ?_)
  · obtain ⟨p, n, rfl, _⟩ := h
    rfl
  · obtain ⟨p, n, rfl, hp, hn, k⟩ := h
    have nd := sc_makes.nd
    refine ⟨_, pss_cons (ps_set (i := 2) nd rfl (Or.inl rfl) (pe_lst pa_nil))
      (pss_cons (ps_for PassesOwn.never rfl (pi_range1 rfl B.range (pa_cons (pv 1) pa_nil)) (pg_name (i := 3) nd rfl (Or.inl rfl))
        (pss_one (ps_expr (pe_bm PySem.F.plainAttrs_list PySem.F.slot_list_append PySem.F.type_list_append mt_append (pv 2) (pa_cons (pe_ix ix_list (pe_lst (pa_cons pe_str (pa_cons pe_str (pa_cons pe_str (pa_cons pe_str (pa_cons pe_str pa_nil)))))) (pe_fn F1 hr (by decide) (pa_cons (pv 0) (pa_cons pe_int pa_nil))) (fun _ _ => rfl)) pa_nil)))))
      (pss_one (ps_ret (pv 2)))), ?_⟩
    refine ⟨Nat.zero_le _, fun M hM => ?_⟩
    have hpM := st_ne hp hM
    have nM : H M = none := hM
    refine ⟨_, rfl, _, rfl, by omega, by omega, ?_⟩
    have hnn : ((n : Nat) : Int).toNat = n := by omega
    rw [hnn]
    refine for_range (lo := 0) (n := n) (fun i σ H' => ∃ (v3 : Option V) (ms : List Str), σ = [some (.ref p), some (.int n), some (.ref M), v3] ∧ ms.length = i ∧ (∀ m ∈ ms, makeOk m) ∧ H' M = some (.lst (ms.map V.str)) ∧ Off p H H' ∧ St p H')
      ⟨none, [], rfl, rfl, (fun _ h => nomatch h), upd_same, Off.of (same_new hM), hp.mut hpM⟩ ?_ ?_
    · rintro i σ H1 hi ⟨v3, ms, rfl, hml, hmo, hM1, o1, st1⟩
      refine ⟨_, rfl, .inl ⟨rfl, _, SqL.of hM1⟩, small_le (show 5 ≤ 100000 by decide), fun l hl => ?_⟩
      have hpl := st_ne st1 hl
      have hMl : M ≠ l := ne_of_none hM1 hl
      refine ⟨_, rfl, p, 5, rfl, st1.mut hpl, by decide, fun v H2 h0 h1 o2 st2 => ?_⟩
      have hL : H2 l = some (.lst ([("a" : Str), "b", "a", "b", "any"].map V.str)) := o2 l _ (Ne.symm hpl) upd_same
      have hM2 : H2 M = some (.lst (ms.map V.str)) := o2 M _ (Ne.symm hpM) (by rw [upd_ne hMl]; exact hM1)
      obtain ⟨x, hx, hat⟩ := pick_str (l := [("a" : Str), "b", "a", "b", "any"]) h0 (by show v < 5; exact h1)
      have hx2 : makeOk x := by
        simp only [List.mem_cons, List.not_mem_nil, or_false] at hx
        rcases hx with h | h | h | h | h
        · exact .inl h
        · exact .inr (.inl h)
        · exact .inl h
        · exact .inr (.inl h)
        · exact .inr (.inr h)
      refine ⟨l, _, v, _, rfl, rfl, SqL.of hL, hat, M, _, V.str x, rfl, rfl, hM2, small_lt (by rw [List.length_map]; omega), ?_⟩
      have hap : ms.map V.str ++ [V.str x] = (ms ++ [x]).map V.str := by rw [List.map_append]; rfl
      rw [hap]
      refine ⟨_, ms ++ [x], rfl, by rw [List.length_append, hml]; rfl, fun m hm => ?_, upd_same, ((o1.trans (Off.of (same_new hl))).trans o2).mut nM _, st2.mut hpM⟩
      rcases List.mem_append.mp hm with h | h
      · exact hmo m h
      · rw [List.mem_singleton.mp h]
        exact hx2
    · rintro σ H1 ⟨v3, ms, rfl, hml, hmo, hM1, o1, st1⟩
      exact ⟨_, rfl, k M ms _ hml hmo nM hM1 o1 st1⟩
def lawNames : List Str := ["m", "kb", "a", "zzz", "if", "any"]
def workersL (ms : List Str) (t : Nat) : List (Str × Str) := (List.range ms.length).map fun i => (lawNames.getD ((i * 5 + t) % 6) "", ms.getD i "")
theorem workers_ok {ms : List Str} {t : Nat} (h : ∀ m ∈ ms, makeOk m) (h1 : 1 ≤ ms.length) (h6 : ms.length ≤ 6) (ht : t < 6) : CrewOk (workersL ms t) := by
  have hl : (workersL ms t).length = ms.length := by unfold workersL; rw [List.length_map, List.length_range]
  have hN : ∀ n < 7, ∀ t < 6, ((List.range n).map fun i => lawNames.getD ((i * 5 + t) % 6) "").Nodup := by decide +kernel
  have hO : ∀ j < 6, nameOk (lawNames.getD j "") = true := by decide +kernel
  refine ⟨by omega, by omega, fun c hc => ?_, ?_⟩
  · unfold workersL at hc
    obtain ⟨i, hi, rfl⟩ := List.mem_map.mp hc
    rw [List.mem_range] at hi
    refine ⟨hO _ (Nat.mod_lt _ (by decide)), ?_⟩
    rw [getD_of (List.getElem?_eq_getElem hi)]
    exact (h _ (List.getElem_mem hi)).nm
  · unfold workersL
    rw [List.map_map]
    exact hN ms.length (by omega) t ht
def spWorkers (K : PySem.W.Frag) : Sp := fun vs H Q _ => ∃ (x : V) (ms : List Str) (t : Nat), vs = [x, .int t] ∧ Dp K H x (.list (ms.map .str)) ∧ ms.length ≤ 6 ∧ t < 6 ∧ ∀ v H', Same H H' → Dp K H' v (.list ((workersL ms t).map cD)) → Q v H'
abbrev nWorkers : List Str := ["_law_makes_here", "_law_turn", "_law_names", "_law_workers_here", "_law_worker"]
theorem sc_workers : FnScope nWorkers ["_law_makes_here", "_law_turn"] (defScope sWorkers) := ⟨rfl, rfl, rfl, by decide +kernel, rfl, by decide +kernel, by decide +kernel⟩
theorem ok_workers {f : Addr} {fd : FuncData} (F : Fun K "_law_workers" "_law_workers" sWorkers f fd) (B : Bi mg) : FnOk P w K mg base CX0 1 f fd ["_law_makes_here", "_law_turn"] (spWorkers K) := by
  refine F.ok sc_workers (fun vs H Q E h => ?_) (fun cdv A outer s H vs Q E hr h => ?_)
  · obtain ⟨x, ms, t, rfl, _⟩ := h
    rfl
  · obtain ⟨x, ms, t, rfl, hx, h6, ht, k⟩ := h
    obtain ⟨la, rfl, hla⟩ := dp_words hx
    have nd := sc_workers.nd
    refine ⟨_, pss_cons (ps_set (i := 2) nd rfl (Or.inl rfl) (pe_lst (pa_cons pe_str (pa_cons pe_str (pa_cons pe_str (pa_cons pe_str (pa_cons pe_str (pa_cons pe_str pa_nil))))))))
      (pss_cons (ps_set (i := 3) nd rfl (Or.inl rfl) (pe_lst pa_nil))
      (pss_cons (ps_for PassesOwn.never rfl (pi_range1 rfl B.range (pa_cons (pe_callB call_len_seq (by rfl) B.len PySem.boot_len (pa_cons (pv 0) pa_nil)) pa_nil)) (pg_name (i := 4) nd rfl (Or.inl rfl))
        (pss_one (ps_expr (pe_bm PySem.F.plainAttrs_list PySem.F.slot_list_append PySem.F.type_list_append mt_append (pv 3) (pa_cons (pe_tup (pa_cons (pe_ix ix_list (pv 2) (pe_op op_mod (pe_callTy call_int1 (by rfl) B.int (by decide +kernel) (pa_cons (pe_op op_add (pe_op op_mul (pv 4) pe_int) (pv 1)) pa_nil)) pe_int) (fun _ _ => rfl)) (pa_cons (pe_ix ix_list (pv 0) (pv 4) (fun _ _ => rfl)) pa_nil))) pa_nil)))))
      (pss_one (ps_ret (pv 3))))), ?_⟩
    refine ⟨small_le (show 6 ≤ 100000 by decide), fun N hN => ?_⟩
    have e1 := same_new (o := .lst (lawNames.map V.str)) hN
    refine ⟨Nat.zero_le _, fun M hM => ?_⟩
    have e2 := e1.trans (same_new (o := .lst []) hM)
    have nM : H M = none := none_back e1 hM
    have nNM : N ≠ M := ne_of_none upd_same hM
    refine ⟨_, rfl, la, _, rfl, .inl (e2.seq hla), _, rfl, by rw [List.length_map]; omega, by rw [List.length_map]; omega, ?_⟩
    have hnn : (((ms.map V.str).length : Nat) : Int).toNat = ms.length := by rw [List.length_map]; omega
    rw [hnn]
    refine for_range (lo := 0) (n := ms.length) (fun i σ H' => ∃ (v4 : Option V) (acc : List V), σ = [some (.ref la), some (.int t), some (.ref N), some (.ref M), v4] ∧ Same H H' ∧ H' N = some (.lst (lawNames.map V.str)) ∧ H' M = some (.lst acc) ∧ DpAll K H' acc (((List.range i).map fun j => (lawNames.getD ((j * 5 + t) % 6) "", ms.getD j "")).map cD))
      ⟨none, [], rfl, e2, by rw [upd_ne nNM]; exact upd_same, upd_same, .nil⟩ ?_ ?_
    · rintro i σ H1 hi ⟨v4, acc, rfl, e01, hN1, hM1, ha1⟩
      have hidx : (0 + (i : Int)) * 5 + (t : Int) = ((i * 5 + t : Nat) : Int) := by omega
      have hmod : ((i * 5 + t : Nat) : Int) % 6 = (((i * 5 + t) % 6 : Nat) : Int) := by omega
      have hj : (i * 5 + t) % 6 < 6 := Nat.mod_lt _ (by decide)
      have hat1 : atI (lawNames.map V.str) (((0 + (i : Int)) * 5 + (t : Int)) % 6) = some (V.str (lawNames.getD ((i * 5 + t) % 6) "")) := by
        rw [hidx, hmod]
        refine atI_nat ?_
        have hl : (i * 5 + t) % 6 < lawNames.length := hj
        rw [List.getElem?_map, List.getElem?_eq_getElem hl, getD_of (List.getElem?_eq_getElem hl)]
        rfl
      have hat2 : atI (ms.map V.str) (0 + (i : Int)) = some (V.str (ms.getD i "")) := by
        rw [Int.zero_add]
        refine atI_nat ?_
        rw [List.getElem?_map, List.getElem?_eq_getElem hi, getD_of (List.getElem?_eq_getElem hi)]
        rfl
      refine ⟨_, rfl, .inl ⟨rfl, _, SqL.of hM1⟩, _, rfl, _, rfl, _, _, rfl, rfl, .inl ⟨by omega, by omega⟩, _, rfl, _, _, rfl, rfl, .inl ⟨_, rfl, _, _, rfl, rfl, (by show (0 : Int) < 6; decide), N, _, _, _, rfl, rfl, SqL.of hN1, hat1, ?_⟩⟩
      refine ⟨_, rfl, _, rfl, la, _, _, _, rfl, rfl, e01.seq hla, hat2, small_le (show 2 ≤ 100000 by decide), fun p hp => ?_⟩
      have e3 := same_new (o := .tup [V.str (lawNames.getD ((i * 5 + t) % 6) ""), V.str (ms.getD i "")]) hp
      have hM2 := e3 _ _ hM1
      have hal : acc.length = i := by rw [dps_len ha1, List.length_map, List.length_map, List.length_range]
      refine ⟨M, acc, V.ref p, rfl, rfl, hM2, small_lt (by omega), ?_⟩
      have tp := Tp.upd (o' := .lst (acc ++ [V.ref p])) hM2 rfl
      refine ⟨_, acc ++ [V.ref p], rfl, same_mut (e01.trans e3) nM, by rw [upd_ne nNM]; exact e3 _ _ hN1, upd_same, ?_⟩
      rw [List.range_succ, List.map_append, List.map_append]
      refine dps_append (dps_tp tp (flat_cDs _) (dps_same e3 ha1)) (.cons (dp_tp tp rfl ?_) .nil)
      exact .tup (SqT.of upd_same) (.cons (.str _) (.cons (.str _) .nil))
    · rintro σ H1 ⟨v4, acc, rfl, e01, hN1, hM1, ha1⟩
      exact ⟨_, rfl, k _ _ e01 (.lst (SqL.of hM1) ha1)⟩
end
end MW

/-! The law's helpers: groups, rules. -/
namespace MW
open PySem PySem.Spec PyProof.Rows L2
open MS (ws free begs perms mem_ws mem_perms mem_begs)

abbrev sLGroup : Stmt := top 62
abbrev sLRule : Stmt := top 63
abbrev sLRules : Stmt := top 64
theorem off_tp {p : Addr} {H H' : Hp} (o : Off p H H') (st : St p H) : Tp H H' := fun a xs q => by
  obtain ⟨ds, h⟩ := st
  have ne : a ≠ p := by
    rintro rfl
    rcases q with q | ⟨u, q⟩ <;> rw [h] at q <;> cases q
  rcases q with q | ⟨u, q⟩
  · exact .inl (o a _ ne q)
  · exact .inr ⟨u, o a _ ne q⟩
def spLGroup (K : PySem.W.Frag) : Sp := fun vs H Q _ => ∃ p : Addr, vs = [.ref p] ∧ St p H ∧ ∀ v g H', okG g → Off p H H' → St p H' → Dp K H' v (gD g) → Q v H'
def spLRule (K : PySem.W.Frag) : Sp := fun vs H Q _ => ∃ p : Addr, vs = [.ref p] ∧ St p H ∧ ∀ v r H', okR2 r → Off p H H' → St p H' → Dp K H' v (rD r) → Q v H'
def spLRules (K : PySem.W.Frag) : Sp := fun vs H Q _ => ∃ p : Addr, vs = [.ref p] ∧ St p H ∧ ∀ (l : Addr) (acc : List V) (rs : List Rul) (H' : Hp), SchOk rs → H l = none → H' l = some (.lst acc) → DpAll K H' acc (rs.map rD) → Off p H H' → St p H' → Q (.ref l) H'
section
variable {P : Program} {w : World} {K : PySem.W.Frag} {mg : Str → Option Value} {base : Heap}
theorem sc_lgroup : FnScope ["_law_stream_here", "_law_pick"] ["_law_stream_here"] (defScope sLGroup) := ⟨rfl, rfl, rfl, by decide +kernel, rfl, by decide +kernel, by decide +kernel⟩
theorem ok_lgroup {f : Addr} {fd : FuncData} (F : Fun K "_law_group" "_law_group" sLGroup f fd) (F1 : Fn P w K mg base 1 "_law_draw" spDraw) : FnOk P w K mg base CX0 2 f fd ["_law_stream_here"] (spLGroup K) := by
  refine F.ok sc_lgroup (fun vs H Q E h => ?_) (fun cdv A outer s H vs Q E hr h => ?_)
  · obtain ⟨p, rfl, _⟩ := h
    rfl
  · obtain ⟨p, rfl, hp, k⟩ := h
    have nd := sc_lgroup.nd
    refine ⟨_, pss_cons (ps_set (i := 1) nd rfl (Or.inl rfl) (pe_fn F1 hr (by decide) (pa_cons (pv 0) (pa_cons pe_int pa_nil))))
      (pss_cons (ps_if (PW.pt (pw_or (pt_cmpR op_eq (pv 1) pe_int (nomark _)) (pw_or1 (pt_cmpR op_eq (pv 1) pe_int (nomark _))))) (pss_one (ps_ret (pe_tup (pa_cons pe_str pa_nil)))) pss_nil)
      (pss_one (ps_ret (pe_tup (pa_cons pe_str (pa_cons (pe_ix ix_list (pe_lst (pa_cons pe_str (pa_cons pe_str (pa_cons pe_str (pa_cons pe_str pa_nil))))) (pe_op op_sub (pv 1) pe_int) (fun _ _ => rfl)) pa_nil)))))), ?_⟩
    refine ⟨_, rfl, p, 6, rfl, hp, by decide, fun v H1 h0 h1 o1 st1 => ?_⟩
    refine ⟨_, rfl, rfl, _, rfl, ?_⟩
    rw [dec_int]
    have any : ∀ t, H1 t = none → Dp K (upd H1 t (.tup [V.str "any"])) (.ref t) (gD .any) := fun t ht => .tup (SqT.of upd_same) (.cons (.str _) .nil)
    by_cases c0 : v = 0
    · rw [decide_eq_true c0]
      exact iteT ⟨small_le (show 1 ≤ 100000 by decide), fun t ht => k _ .any _ trivial (o1.trans (Off.of (same_new ht))) (st1.mut (st_ne st1 ht)) (any t ht)⟩
    rw [decide_eq_false c0]
    refine iteF ⟨_, rfl, rfl, _, rfl, ?_⟩
    rw [dec_int]
    by_cases c5 : v = 5
    · rw [decide_eq_true c5]
      exact iteT ⟨small_le (show 1 ≤ 100000 by decide), fun t ht => k _ .any _ trivial (o1.trans (Off.of (same_new ht))) (st1.mut (st_ne st1 ht)) (any t ht)⟩
    rw [decide_eq_false c5]
    refine iteF ⟨small_le (show 4 ≤ 100000 by decide), fun l hl => ?_⟩
    have e2 := same_new (o := .lst ([("a" : Str), "b", "any", "c"].map V.str)) hl
    obtain ⟨x, hx, hat⟩ := pick_str (l := [("a" : Str), "b", "any", "c"]) (v := v - 1) (by omega) (by show v - 1 < 4; omega)
    have hx2 : nameOk x = true := by
      simp only [List.mem_cons, List.not_mem_nil, or_false] at hx
      rcases hx with rfl | rfl | rfl | rfl <;> decide +kernel
    refine ⟨_, rfl, _, _, rfl, rfl, l, _, v - 1, _, rfl, rfl, SqL.of upd_same, hat, small_le (show 2 ≤ 100000 by decide), fun t ht => ?_⟩
    have st2 := st1.mut (o := .lst ([("a" : Str), "b", "any", "c"].map V.str)) (st_ne st1 hl)
    exact k _ (.mk x) _ hx2 (o1.trans (Off.of (e2.trans (same_new ht)))) (st2.mut (st_ne st2 ht)) (.tup (SqT.of upd_same) (.cons (.str _) (.cons (.str _) .nil)))
abbrev nLRule : List Str := ["_law_stream_here", "_law_group_here", "_law_bounds", "_law_turn", "_law_seen", "_law_sign"]
theorem sc_lrule : FnScope nLRule ["_law_stream_here"] (defScope sLRule) := ⟨rfl, rfl, rfl, by decide +kernel, rfl, by decide +kernel, by decide +kernel⟩
theorem ok_lrule {f : Addr} {fd : FuncData} (F : Fun K "_law_rule" "_law_rule" sLRule f fd) (B : Bi mg) (F1 : Fn P w K mg base 1 "_law_draw" spDraw) (F2 : Fn P w K mg base 2 "_law_group" (spLGroup K)) : FnOk P w K mg base CX0 3 f fd ["_law_stream_here"] (spLRule K) := by
  refine F.ok sc_lrule (fun vs H Q E h => ?_) (fun cdv A outer s H vs Q E hr h => ?_)
  · obtain ⟨p, rfl, _⟩ := h
    rfl
  · obtain ⟨p, rfl, hp, k⟩ := h
    have nd := sc_lrule.nd
    refine ⟨_, pss_cons (ps_set (i := 1) nd rfl (Or.inl rfl) (pe_fn F2 hr (by decide) (pa_cons (pv 0) pa_nil)))
      (pss_cons (ps_set (i := 2) nd rfl (Or.inl rfl) (pe_lst pa_nil))
      (pss_cons (ps_for PassesOwn.never rfl (pi_range1 rfl B.range (pa_cons (pe_ix ix_list (pe_lst (pa_cons pe_int (pa_cons pe_int (pa_cons pe_int (pa_cons pe_int (pa_cons pe_int (pa_cons pe_int (pa_cons pe_int (pa_cons pe_int pa_nil))))))))) (pe_fn F1 hr (by decide) (pa_cons (pv 0) (pa_cons pe_int pa_nil))) (fun _ _ => rfl)) pa_nil)) (pg_name (i := 3) nd rfl (Or.inl rfl))
        (pss_cons (ps_set (i := 4) nd rfl (Or.inl rfl) (pe_fn F2 hr (by decide) (pa_cons (pv 0) pa_nil)))
        (pss_cons (ps_set (i := 5) nd rfl (Or.inl rfl) (pe_ix ix_list (pe_lst (pa_cons pe_str (pa_cons pe_str pa_nil))) (pe_fn F1 hr (by decide) (pa_cons (pv 0) (pa_cons pe_int pa_nil))) (fun _ _ => rfl)))
        (pss_one (ps_expr (pe_bm PySem.F.plainAttrs_list PySem.F.slot_list_append PySem.F.type_list_append mt_append (pv 2) (pa_cons (pe_tup (pa_cons (pv 4) (pa_cons (pv 5) (pa_cons (pe_ix ix_list (pe_lst (pa_cons pe_int (pa_cons pe_int (pa_cons pe_int (pa_cons pe_int (pa_cons pe_int (pa_cons pe_int (pa_cons pe_int (pa_cons pe_int pa_nil))))))))) (pe_fn F1 hr (by decide) (pa_cons (pv 0) (pa_cons pe_int pa_nil))) (fun _ _ => rfl)) pa_nil)))) pa_nil)))))))
      (pss_one (ps_ret (pe_tup (pa_cons (pv 1) (pa_cons (pe_callTy call_tuple_of (by rfl) B.tuple (by decide +kernel) (pa_cons (pv 2) pa_nil)) pa_nil))))))), ?_⟩
    refine ⟨_, rfl, p, rfl, hp, fun vg g H1 og o1 st1 hg1 => ?_⟩
    refine ⟨Nat.zero_le _, fun M hM => ?_⟩
    have hpM := st_ne st1 hM
    have e2 := same_new (o := .lst []) hM
    have st2 : St p (upd H1 M (.lst [])) := st1.mut hpM
    have nM : H M = none := by
      cases c : H M with
      | none => rfl
      | some u =>
        have := o1 M u (Ne.symm hpM) c
        rw [hM] at this
        cases this
    refine ⟨small_le (show 8 ≤ 100000 by decide), fun l hl => ?_⟩
    have hpl := st_ne st2 hl
    have hMl : M ≠ l := ne_of_none upd_same hl
    refine ⟨_, rfl, p, 8, rfl, st2.mut hpl, by decide, fun v H3 h0 h1 o3 st3 => ?_⟩
    have hL : H3 l = some (.lst ([0, 0, 1, 1, 1, 2, 2, 3].map V.int)) := o3 l _ (Ne.symm hpl) upd_same
    have hM3 : H3 M = some (.lst []) := o3 M _ (Ne.symm hpM) (by rw [upd_ne hMl]; exact upd_same)
    have tp23 := off_tp o3 (st2.mut hpl)
    obtain ⟨n, hn, hat⟩ := pick_int (l := [0, 0, 1, 1, 1, 2, 2, 3]) h0 (by show v < 8; exact h1)
    have hn2 : 0 ≤ n ∧ n ≤ 3 := by
      have : ∀ y ∈ [(0 : Int), 0, 1, 1, 1, 2, 2, 3], 0 ≤ y ∧ y ≤ 3 := by decide
      exact this n hn
    have hg3 : Dp K H3 vg (gD g) := dp_tp tp23 (flat_g g) (dp_same (e2.trans (same_new hl)) hg1)
    refine ⟨l, _, v, _, rfl, rfl, SqL.of hL, hat, _, rfl, by omega, by omega, ?_⟩
    have o03 : Off p H H3 := (o1.trans (Off.of (e2.trans (same_new hl)))).trans o3
    refine for_range (lo := 0) (n := n.toNat) (fun i σ H' => ∃ (v3 v4 v5 : Option V) (bs : List Bnd) (acc : List V), σ = [some (.ref p), some vg, some (.ref M), v3, v4, v5] ∧ bs.length = i ∧ (∀ b ∈ bs, okB b) ∧ H' M = some (.lst acc) ∧ DpAll K H' acc (bs.map bD) ∧ Dp K H' vg (gD g) ∧ Off p H H' ∧ St p H')
      ⟨none, none, none, [], [], rfl, rfl, (fun _ h => nomatch h), hM3, .nil, hg3, o03, st3⟩ ?_ ?_
    · rintro i σ H4 hi ⟨v3, v4, v5, bs, acc, rfl, hbl, hbo, hM4, ha4, hg4, o4, st4⟩
      refine ⟨_, rfl, p, rfl, st4, fun vs' g' H5 og' o5 st5 hg5 => ?_⟩
      have tp45 := off_tp o5 st4
      have hM5 := o5 M _ (Ne.symm hpM) hM4
      refine ⟨small_le (show 2 ≤ 100000 by decide), fun l2 hl2 => ?_⟩
      have hpl2 := st_ne st5 hl2
      have hMl2 : M ≠ l2 := ne_of_none hM5 hl2
      refine ⟨_, rfl, p, 2, rfl, st5.mut hpl2, by decide, fun v2 H6 h20 h21 o6 st6 => ?_⟩
      have hL6 : H6 l2 = some (.lst ([("<" : Str), ">="].map V.str)) := o6 l2 _ (Ne.symm hpl2) upd_same
      have hM6 : H6 M = some (.lst acc) := o6 M _ (Ne.symm hpM) (by rw [upd_ne hMl2]; exact hM5)
      have tp56 := (Tp.of (same_new hl2)).trans (off_tp o6 (st5.mut hpl2))
      obtain ⟨sg, hsg, hat2⟩ := pick_str (l := [("<" : Str), ">="]) h20 (by show v2 < 2; exact h21)
      have hsg2 : ∃ b : Bool, sg = signS b := by
        simp only [List.mem_cons, List.not_mem_nil, or_false] at hsg
        rcases hsg with rfl | rfl
        · exact ⟨false, rfl⟩
        · exact ⟨true, rfl⟩
      obtain ⟨ge, rfl⟩ := hsg2
      refine ⟨l2, _, v2, _, rfl, rfl, SqL.of hL6, hat2, ?_⟩
      refine ⟨_, rfl, .inl ⟨rfl, _, SqL.of hM6⟩, _, rfl, _, rfl, small_le (show 8 ≤ 100000 by decide), fun l3 hl3 => ?_⟩
      have hpl3 := st_ne st6 hl3
      have hMl3 : M ≠ l3 := ne_of_none hM6 hl3
      refine ⟨_, rfl, p, 8, rfl, st6.mut hpl3, by decide, fun v3 H7 h30 h31 o7 st7 => ?_⟩
      have hL7 : H7 l3 = some (.lst ([1, 1, 2, 2, 3, 1, 2, 4].map V.int)) := o7 l3 _ (Ne.symm hpl3) upd_same
      have hM7 : H7 M = some (.lst acc) := o7 M _ (Ne.symm hpM) (by rw [upd_ne hMl3]; exact hM6)
      have tp67 := (Tp.of (same_new hl3)).trans (off_tp o7 (st6.mut hpl3))
      obtain ⟨nn, hnn, hat3⟩ := pick_int (l := [1, 1, 2, 2, 3, 1, 2, 4]) h30 (by show v3 < 8; exact h31)
      have hnn2 : 1 ≤ nn ∧ nn ≤ 4 := by
        have : ∀ y ∈ [(1 : Int), 1, 2, 2, 3, 1, 2, 4], 1 ≤ y ∧ y ≤ 4 := by decide
        exact this nn hnn
      refine ⟨l3, _, v3, _, rfl, rfl, SqL.of hL7, hat3, small_le (show 3 ≤ 100000 by decide), fun q hq => ?_⟩
      have e8 := same_new (o := .tup [vs', V.str (signS ge), V.int nn]) hq
      have hM8 := e8 _ _ hM7
      refine ⟨M, acc, V.ref q, rfl, rfl, hM8, small_lt (by rw [dps_len ha4, List.length_map]; omega), ?_⟩
      have tp9 := Tp.upd (o' := .lst (acc ++ [V.ref q])) hM8 rfl
      have tp57 : Tp H5 (upd H7 q (.tup [vs', V.str (signS ge), V.int nn])) := (tp56.trans tp67).trans (Tp.of e8)
      have o47 : Off p H4 (upd H7 q (.tup [vs', V.str (signS ge), V.int nn])) := (((((o5.trans (Off.of (same_new hl2))).trans o6).trans (Off.of (same_new hl3))).trans o7)).trans (Off.of e8)
      have st8 : St p (upd H7 q (.tup [vs', V.str (signS ge), V.int nn])) := st7.same e8
      refine ⟨_, _, _, bs ++ [⟨g', ge, nn⟩], acc ++ [V.ref q], rfl, by rw [List.length_append, hbl]; rfl, fun b hb => ?_, upd_same, ?_, dp_tp ((tp45.trans tp57).trans tp9) (flat_g g) hg4, (o4.trans o47).mut nM _, st8.mut hpM⟩
      · rcases List.mem_append.mp hb with h | h
        · exact hbo b h
        · rw [List.mem_singleton.mp h]
          exact ⟨og', hnn2.1, hnn2.2⟩
      · rw [List.map_append]
        refine dps_append (dps_tp ((tp45.trans tp57).trans tp9) (flat_bs _) ha4) (.cons ?_ .nil)
        exact dp_tp tp9 (flat_b _) (.tup (SqT.of upd_same) (.cons (dp_tp tp57 (flat_g g') hg5) (.cons (.str _) (.cons (.int _) .nil))))
    · rintro σ H4 ⟨v3, v4, v5, bs, acc, rfl, hbl, hbo, hM4, ha4, hg4, o4, st4⟩
      refine ⟨_, rfl, _, rfl, M, acc, rfl, .inl ⟨SqL.of hM4, fun q hq => ?_⟩⟩
      refine ⟨small_le (show 2 ≤ 100000 by decide), fun q2 hq2 => ?_⟩
      have e5 := same_new (o := .tup acc) hq
      have e6 := same_new (o := .tup [vg, V.ref q]) hq2
      have st5 := st4.same e5
      exact k _ ⟨g, bs⟩ _ ⟨og, by show bs.length ≤ 3; omega, hbo⟩ (o4.trans (Off.of (e5.trans e6))) (st5.same e6) (.tup (SqT.of upd_same) (.cons (dp_same (e5.trans e6) hg4) (.cons (.tup (SqT.of (e6 _ _ upd_same)) (dps_same (e5.trans e6) ha4)) .nil)))
abbrev nLRules : List Str := ["_law_stream_here", "_law_rules_here", "_law_turn"]
theorem sc_lrules : FnScope nLRules ["_law_stream_here"] (defScope sLRules) := ⟨rfl, rfl, rfl, by decide +kernel, rfl, by decide +kernel, by decide +kernel⟩
theorem ok_lrules {f : Addr} {fd : FuncData} (F : Fun K "_law_rules" "_law_rules" sLRules f fd) (B : Bi mg) (F1 : Fn P w K mg base 1 "_law_draw" spDraw) (F2 : Fn P w K mg base 3 "_law_rule" (spLRule K)) : FnOk P w K mg base CX0 4 f fd ["_law_stream_here"] (spLRules K) := by
  refine F.ok sc_lrules (fun vs H Q E h => ?_) (fun cdv A outer s H vs Q E hr h => ?_)
  · obtain ⟨p, rfl, _⟩ := h
    rfl
  · obtain ⟨p, rfl, hp, k⟩ := h
    have nd := sc_lrules.nd
    refine ⟨_, pss_cons (ps_set (i := 1) nd rfl (Or.inl rfl) (pe_lst pa_nil))
      (pss_cons (ps_for PassesOwn.never rfl (pi_range1 rfl B.range (pa_cons (pe_ix ix_list (pe_lst (pa_cons pe_int (pa_cons pe_int (pa_cons pe_int (pa_cons pe_int (pa_cons pe_int (pa_cons pe_int (pa_cons pe_int (pa_cons pe_int (pa_cons pe_int (pa_cons pe_int pa_nil))))))))))) (pe_fn F1 hr (by decide) (pa_cons (pv 0) (pa_cons pe_int pa_nil))) (fun _ _ => rfl)) pa_nil)) (pg_name (i := 2) nd rfl (Or.inl rfl))
        (pss_one (ps_expr (pe_bm PySem.F.plainAttrs_list PySem.F.slot_list_append PySem.F.type_list_append mt_append (pv 1) (pa_cons (pe_fn F2 hr (by decide) (pa_cons (pv 0) pa_nil)) pa_nil)))))
      (pss_one (ps_ret (pv 1)))), ?_⟩
    refine ⟨Nat.zero_le _, fun M hM => ?_⟩
    have hpM := st_ne hp hM
    have e2 := same_new (o := .lst []) hM
    have nM : H M = none := hM
    have st2 : St p (upd H M (.lst [])) := hp.mut hpM
    refine ⟨small_le (show 10 ≤ 100000 by decide), fun l hl => ?_⟩
    have hpl := st_ne st2 hl
    have hMl : M ≠ l := ne_of_none upd_same hl
    refine ⟨_, rfl, p, 10, rfl, st2.mut hpl, by decide, fun v H3 h0 h1 o3 st3 => ?_⟩
    have hL : H3 l = some (.lst ([0, 1, 1, 2, 2, 2, 3, 3, 4, 1].map V.int)) := o3 l _ (Ne.symm hpl) upd_same
    have hM3 : H3 M = some (.lst []) := o3 M _ (Ne.symm hpM) (by rw [upd_ne hMl]; exact upd_same)
    obtain ⟨n, hn, hat⟩ := pick_int (l := [0, 1, 1, 2, 2, 2, 3, 3, 4, 1]) h0 (by show v < 10; exact h1)
    have hn2 : 0 ≤ n ∧ n ≤ 4 := by
      have : ∀ y ∈ [(0 : Int), 1, 1, 2, 2, 2, 3, 3, 4, 1], 0 ≤ y ∧ y ≤ 4 := by decide
      exact this n hn
    refine ⟨l, _, v, _, rfl, rfl, SqL.of hL, hat, _, rfl, by omega, by omega, ?_⟩
    refine for_range (lo := 0) (n := n.toNat) (fun i σ H' => ∃ (v2 : Option V) (rs : List Rul) (acc : List V), σ = [some (.ref p), some (.ref M), v2] ∧ rs.length = i ∧ (∀ r ∈ rs, okR2 r) ∧ H' M = some (.lst acc) ∧ DpAll K H' acc (rs.map rD) ∧ Off p H H' ∧ St p H')
      ⟨none, [], [], rfl, rfl, (fun _ h => nomatch h), hM3, .nil, (Off.of (e2.trans (same_new hl))).trans o3, st3⟩ ?_ ?_
    · rintro i σ H4 hi ⟨v2, rs, acc, rfl, hrl, hro, hM4, ha4, o4, st4⟩
      refine ⟨_, rfl, .inl ⟨rfl, _, SqL.of hM4⟩, _, rfl, p, rfl, st4, fun vr r H5 okr o5 st5 hr5 => ?_⟩
      have tp45 := off_tp o5 st4
      have hM5 := o5 M _ (Ne.symm hpM) hM4
      refine ⟨M, acc, vr, rfl, rfl, hM5, small_lt (by rw [dps_len ha4, List.length_map]; omega), ?_⟩
      have tp6 := Tp.upd (o' := .lst (acc ++ [vr])) hM5 rfl
      refine ⟨_, rs ++ [r], acc ++ [vr], rfl, by rw [List.length_append, hrl]; rfl, fun x hx => ?_, upd_same, ?_, (o4.trans o5).mut nM _, st5.mut hpM⟩
      · rcases List.mem_append.mp hx with h | h
        · exact hro x h
        · rw [List.mem_singleton.mp h]
          exact okr
      · rw [List.map_append]
        exact dps_append (dps_tp (tp45.trans tp6) (flat_rs _) ha4) (.cons (dp_tp tp6 (flat_r r) hr5) .nil)
    · rintro σ H4 ⟨v2, rs, acc, rfl, hrl, hro, hM4, ha4, o4, st4⟩
      exact ⟨_, rfl, k M acc rs _ ⟨by omega, hro⟩ nM hM4 ha4 o4 st4⟩
end
end MW

/-! The law's helpers: spots, rankings, growing yards. -/
namespace MW
open PySem PySem.Spec PyProof.Rows L2
open MS (ws free begs perms mem_ws mem_perms mem_begs)

abbrev sSpot : Stmt := top 65
abbrev sRank : Stmt := top 66
abbrev sGrow : Stmt := top 67
/-- the workers of a mask -/
def spotL (n m : Nat) : List Int := (ws n).filter fun w => decide ((m / 2 ^ w.toNat) % 2 = 1)
theorem spot_good {n m : Nat} (h5 : n ≤ 5) (h1 : 1 ≤ m) (h2 : m < 2 ^ n) : GoodY n (spotL n m) := by
  refine ⟨?_, (ws_rise n).filter _, fun w hw => (List.mem_filter.mp hw).1⟩
  have : ∀ n < 6, ∀ m < 2 ^ n, 1 ≤ m → spotL n m ≠ [] := by decide +kernel
  exact this n (by omega) m h2 h1
theorem bit_add {n m j : Nat} (h5 : n ≤ 5) (h2 : m < 2 ^ n) (hj : j < n) (h0 : (m / 2 ^ j) % 2 = 0) : m + 2 ^ j < 2 ^ n ∧ ∀ i, i < n → (m / 2 ^ i) % 2 = 1 → ((m + 2 ^ j) / 2 ^ i) % 2 = 1 := by
  have h : ((List.range 6).all fun n => (List.range (2 ^ n)).all fun m => (List.range n).all fun j => !decide ((m / 2 ^ j) % 2 = 0) || (decide (m + 2 ^ j < 2 ^ n) && (List.range n).all fun i => !decide ((m / 2 ^ i) % 2 = 1) || decide (((m + 2 ^ j) / 2 ^ i) % 2 = 1))) = true := by decide +kernel
  rw [List.all_eq_true] at h
  have h := h n (List.mem_range.mpr (by omega))
  rw [List.all_eq_true] at h
  have h := h m (List.mem_range.mpr h2)
  rw [List.all_eq_true] at h
  have h := h j (List.mem_range.mpr hj)
  rw [decide_eq_true h0, Bool.not_true, Bool.false_or, Bool.and_eq_true, List.all_eq_true] at h
  refine ⟨of_decide_eq_true h.1, fun i hi h1 => ?_⟩
  have h := h.2 i (List.mem_range.mpr hi)
  rw [decide_eq_true h1, Bool.not_true, Bool.false_or] at h
  exact of_decide_eq_true h
def powers : List Int := [1, 2, 4, 8, 16, 32]
theorem pow_at {j : Nat} (h : j < 6) : atI (powers.map V.int) (j : Int) = some (V.int ((2 ^ j : Nat) : Int)) := by
  have : ∀ j < 6, (powers.map V.int)[j]? = some (V.int ((2 ^ j : Nat) : Int)) := by decide
  exact atI_nat (this j h)
def spSpot (K : PySem.W.Frag) : Sp := fun vs H Q _ => ∃ n m : Nat, vs = [.int n, .int m] ∧ n ≤ 6 ∧ ∀ v H', Same H H' → Dp K H' v (tupI (spotL n m)) → Q v H'
section
variable {P : Program} {w : World} {K : PySem.W.Frag} {mg : Str → Option Value} {base : Heap}
theorem spot_kept (n m : Nat) : keptD n (fun i => decide ((m / 2 ^ i) % 2 = 1)) (fun i => PyData.int (i : Int)) = (spotL n m).map PyData.int := by
  unfold keptD spotL ws
  rw [List.filter_map, List.map_map]
  congr 1
abbrev nSpot : List Str := ["_law_size_here", "_law_mask", "_law_powers", "_law_at"]
theorem sc_spot : FnScope nSpot ["_law_size_here", "_law_mask"] (defScope sSpot) := ⟨rfl, rfl, rfl, by decide +kernel, rfl, by decide +kernel, by decide +kernel⟩
theorem pow_small {j : Nat} (h : j < 6) : 1 ≤ 2 ^ j ∧ 2 ^ j ≤ 32 := by
  have : ∀ j < 6, 1 ≤ 2 ^ j ∧ 2 ^ j ≤ 32 := by decide
  exact this j h
theorem ok_spot {f : Addr} {fd : FuncData} (F : Fun K "_law_spot" "_law_spot" sSpot f fd) (B : Bi mg) : FnOk P w K mg base CX0 1 f fd ["_law_size_here", "_law_mask"] (spSpot K) := by
  refine F.ok sc_spot (fun vs H Q E h => ?_) (fun cdv A outer s H vs Q E hr h => ?_)
  · obtain ⟨n, m, rfl, _⟩ := h
    rfl
  · obtain ⟨n, m, rfl, h6, k⟩ := h
    have nd := sc_spot.nd
    refine ⟨_, pss_cons (ps_set (i := 2) nd rfl (Or.inr rfl) (pe_lst (pa_cons pe_int (pa_cons pe_int (pa_cons pe_int (pa_cons pe_int (pa_cons pe_int (pa_cons pe_int pa_nil))))))))
      (pss_one (ps_ret (pe_callTy call_tuple_of (by rfl) B.tuple (by decide +kernel) (pa_cons (pe_lc (own := [("_law_at", 3)]) (g := gName 3) rfl nd (pi_range1 rfl B.range (pa_cons (pv 0) pa_nil)) (blkOk_by (own := [("_law_at", 3)]) (N := nSpot) (sc := defScope sSpot) (by decide +kernel)) (fun _ _ _ _ _ => pg_name (i := 3) nd rfl (Or.inl rfl))
        (fun _ _ _ _ _ => pts_one (pt_cmpR op_eq (pe_op op_mod (pe_callTy call_int1 (by rfl) B.int (by decide +kernel) (pa_cons (pe_op op_fdivN (pv 1) (pe_ix (ix_listK K) (pv 2) (pv 3) (fun _ _ => rfl))) pa_nil)) pe_int) pe_int (nomark _))) (fun _ _ _ _ _ => pv 3)) pa_nil)))), ?_⟩
    refine ⟨small_le (show 6 ≤ 100000 by decide), fun L hL => ?_⟩
    have e1 := same_new (o := .lst (powers.map V.int)) hL
    have hL1 : (upd H L (.lst (powers.map V.int))) L = some (.lst (powers.map V.int)) := upd_same
    refine ⟨_, rfl, _, rfl, by omega, by omega, fun D hD => ?_⟩
    have hnn : ((n : Nat) : Int).toNat = n := by omega
    rw [hnn]
    refine lc_data (K := K) (walk_range (lo := 0) (n := n)) (fun i => decide ((m / 2 ^ i) % 2 = 1)) (fun i => .int (i : Int)) (fun i _ => rfl) (by omega) hD (fun _ _ => trivial) ?_ ?_
    · rintro i v H1 H1' hi e ⟨rfl, rfl⟩
      have ei : V.int (0 + (i : Int)) = V.int (i : Int) := by rw [Int.zero_add]
      refine ⟨Same.refl _, ((wipe ((L2.start nSpot [.int n, .int m]).set 2 (some (.ref L))) [3]).set 3 (some (V.int (i : Int)))), (ei ▸ eg_name), rfl, fun Q' q => ?_, fun _ H3 e3 Q' q => ⟨_, rfl, q _ _ ⟨Same.refl _, .int _⟩⟩⟩
      obtain ⟨p1, p2⟩ := pow_small (j := i) (by omega)
      refine ⟨_, rfl, _, rfl, _, rfl, L, _, (i : Int), _, rfl, rfl, SqL.of (e _ _ hL1), pow_at (by omega), _, _, rfl, rfl, ⟨by omega, by omega⟩, .inl ⟨_, rfl, _, _, rfl, rfl, (by show (0 : Int) < 2; decide), rfl, _, rfl, ?_⟩⟩
      refine q _ _ ⟨?_, Same.refl _⟩
      show decide (V.int (((m : Nat) : Int).fdiv ((2 ^ i : Nat) : Int) % 2) = V.int 1) = _
      rw [dec_int, Int.fdiv_eq_ediv_of_nonneg _ (by omega), decide_eq_decide]
      have : ((m : Int) / ((2 ^ i : Nat) : Int)) % 2 = (((m / 2 ^ i) % 2 : Nat) : Int) := by
        rw [← Int.natCast_ediv]
        exact (Int.natCast_emod _ 2).symm
      rw [this]
      omega
    · intro H1 acc e2 hacc hda
      rw [spot_kept] at hda
      obtain rfl := dps_ints' hda
      exact ⟨D, _, rfl, .inl ⟨SqL.of hacc, fun p hp => k _ _ ((e1.trans e2).trans (same_new hp)) (tupI_of (SqT.of upd_same))⟩⟩
def spRank : Sp := fun vs H Q _ => ∃ (p : Addr) (n : Nat), vs = [.ref p, .int n] ∧ St p H ∧ n ≤ 6 ∧ ∀ (l : Addr) (r : List Int) (H' : Hp), r ∈ perms n → H l = none → H' l = some (.lst (r.map V.int)) → Off p H H' → St p H' → Q (.ref l) H'
abbrev nRank : List Str := ["_law_stream_here", "_law_size_here", "_law_left", "_law_ranking_here", "_law_turn"]
theorem sc_rank : FnScope nRank ["_law_stream_here", "_law_size_here"] (defScope sRank) := ⟨rfl, rfl, rfl, by decide +kernel, rfl, by decide +kernel, by decide +kernel⟩
theorem seq_at {n : Nat} {v : Int} (h0 : 0 ≤ v) (h1 : v < n) : seqIndex? v n = some v.toNat := by
  have h := ixN_at (n := n) (i := v.toNat) (by omega)
  rw [show ((v.toNat : Nat) : Int) = v by omega] at h
  exact (ixN_seq h).1
theorem ok_rank {f : Addr} {fd : FuncData} (F : Fun K "_law_ranking" "_law_ranking" sRank f fd) (B : Bi mg) (F1 : Fn P w K mg base 1 "_law_draw" spDraw) : FnOk P w K mg base CX0 2 f fd ["_law_stream_here", "_law_size_here"] spRank := by
  refine F.ok sc_rank (fun vs H Q E h => ?_) (fun cdv A outer s H vs Q E hr h => ?_)
  · obtain ⟨p, n, rfl, _⟩ := h
    rfl
  · obtain ⟨p, n, rfl, hp, hn, k⟩ := h
    have nd := sc_rank.nd
    refine ⟨_, pss_cons (ps_set (i := 2) nd rfl (Or.inl rfl) (pe_listRg rfl rfl B.list (prg_1 rfl B.range (pv 1))))
      (pss_cons (ps_set (i := 3) nd rfl (Or.inl rfl) (pe_lst pa_nil))
      (pss_cons (ps_for PassesOwn.never rfl (pi_range1 rfl B.range (pa_cons (pv 1) pa_nil)) (pg_name (i := 4) nd rfl (Or.inl rfl))
        (pss_one (ps_expr (pe_bm PySem.F.plainAttrs_list PySem.F.slot_list_append PySem.F.type_list_append mt_append (pv 3) (pa_cons (pe_bm PySem.F.plainAttrs_list PySem.F.slot_list_pop PySem.F.type_list_pop mt_popAt (pv 2) (pa_cons (pe_fn F1 hr (by decide) (pa_cons (pv 0) (pa_cons (pe_callB call_len_seq (by rfl) B.len PySem.boot_len (pa_cons (pv 2) pa_nil)) pa_nil))) pa_nil)) pa_nil)))))
      (pss_one (ps_ret (pv 3))))), ?_⟩
    refine ⟨_, rfl, _, rfl, RgOk.of_le (by omega) (by omega) (by omega) (by omega), fun L hL => ?_⟩
    rw [rg_ws]
    have hpL := st_ne hp hL
    have e1 := same_new (o := .lst ((ws n).map V.int)) hL
    have nL : H L = none := hL
    have st1 : St p (upd H L (.lst ((ws n).map V.int))) := hp.mut hpL
    refine ⟨Nat.zero_le _, fun M hM => ?_⟩
    have hpM := st_ne st1 hM
    have nM : H M = none := none_back e1 hM
    have nLM : L ≠ M := ne_of_none upd_same hM
    have e2 := e1.trans (same_new (o := .lst []) hM)
    refine ⟨_, rfl, _, rfl, by omega, by omega, ?_⟩
    have hnn : ((n : Nat) : Int).toNat = n := by omega
    rw [hnn]
    refine for_range (lo := 0) (n := n) (fun i σ H' => ∃ (v4 : Option V) (lf rk : List Int), σ = [some (.ref p), some (.int n), some (.ref L), some (.ref M), v4] ∧ rk.length = i ∧ (rk ++ lf).Perm (ws n) ∧ H' L = some (.lst (lf.map V.int)) ∧ H' M = some (.lst (rk.map V.int)) ∧ Off p H H' ∧ St p H')
      ⟨none, ws n, [], rfl, rfl, List.Perm.refl _, by rw [upd_ne nLM]; exact upd_same, upd_same, Off.of e2, st1.mut hpM⟩ ?_ ?_
    · rintro i σ H1 hi ⟨v4, lf, rk, rfl, hrk, hpm, hL1, hM1, o1, st1⟩
      have hll : lf.length = n - i := by
        have := hpm.length_eq
        rw [List.length_append, MS.ws_length] at this
        omega
      refine ⟨_, rfl, .inl ⟨rfl, _, SqL.of hM1⟩, _, rfl, .inl ⟨rfl, _, SqL.of hL1⟩, _, rfl, _, rfl, L, _, rfl, .inl (SqL.of hL1), p, _, rfl, st1, by rw [List.length_map]; omega, fun v H2 h0 h1 o2 st2 => ?_⟩
      rw [List.length_map] at h1
      have hL2 := o2 L _ (Ne.symm hpL) hL1
      have hM2 := o2 M _ (Ne.symm hpM) hM1
      have hvl : v.toNat < lf.length := by omega
      have hx : (lf.map V.int)[v.toNat]? = some (V.int lf[v.toNat]) := by rw [List.getElem?_map, List.getElem?_eq_getElem hvl]; rfl
      refine ⟨L, _, v, v.toNat, _, rfl, rfl, hL2, by omega, by omega, by rw [List.length_map]; exact seq_at h0 h1, hx, M, _, V.int lf[v.toNat], rfl, rfl, by rw [upd_ne (Ne.symm nLM)]; exact hM2, small_lt (by rw [List.length_map]; omega), ?_⟩
      have hap : rk.map V.int ++ [V.int lf[v.toNat]] = (rk ++ [lf[v.toNat]]).map V.int := by rw [List.map_append]; rfl
      have her : (lf.map V.int).eraseIdx v.toNat = (lf.eraseIdx v.toNat).map V.int := by
        rw [List.eraseIdx_eq_take_drop_succ, List.eraseIdx_eq_take_drop_succ, List.map_append, List.map_take, List.map_drop]
      rw [hap, her]
      refine ⟨_, lf.eraseIdx v.toNat, rk ++ [lf[v.toNat]], rfl, by rw [List.length_append, hrk]; rfl, ?_, by rw [upd_ne nLM]; exact upd_same, upd_same, ((o1.trans o2).mut nL _).mut nM _, (st2.mut hpL).mut hpM⟩
      refine List.Perm.trans ?_ hpm
      rw [List.append_assoc]
      refine List.Perm.append_left rk ?_
      show (lf[v.toNat] :: lf.eraseIdx v.toNat).Perm lf
      rw [List.eraseIdx_eq_take_drop_succ]
      refine List.Perm.trans List.perm_middle.symm ?_
      rw [List.getElem_cons_drop, List.take_append_drop]
    · rintro σ H1 ⟨v4, lf, rk, rfl, hrk, hpm, hL1, hM1, o1, st1⟩
      have hlf : lf = [] := by
        have := hpm.length_eq
        rw [List.length_append, MS.ws_length] at this
        exact List.length_eq_zero_iff.mp (by omega)
      subst hlf
      rw [List.append_nil] at hpm
      exact ⟨_, rfl, k M rk _ (mem_perms.mpr hpm) nM hM1 o1 st1⟩
end
end MW

/-! The law's helpers: growing yards, what is against. -/
namespace MW
open PySem PySem.Spec PyProof.Rows L2
open MS (ws free begs perms mem_ws mem_perms mem_begs tg yg MovesP NeedP RetP FailP)

theorem viaC {α β : Type} {I G : α → β → Prop} {A : Prop} (a : (∀ x y, I x y → G x y) → A) (b : ∀ x y, I x y → G x y) : A := a b
def spGrow (K : PySem.W.Frag) : Sp := fun vs H Q _ => ∃ (p : Addr) (n m : Nat), vs = [.ref p, .int n, .int m] ∧ St p H ∧ 1 ≤ n ∧ n ≤ 5 ∧ 1 ≤ m ∧ m ≤ 3 ∧ ∀ (l : Addr) (acc : List V) (ys : List (List Int)) (H' : Hp), ys.length = m → (∀ y ∈ ys, GoodY n y) → ys.Pairwise (fun a b => ∀ w ∈ a, w ∈ b) →
  H l = none → H' l = some (.lst acc) → DpAll K H' acc (ys.map tupI) → Off p H H' → St p H' → Q (.ref l) H'
theorem spot_mono {n m j : Nat} (h5 : n ≤ 5) (h2 : m < 2 ^ n) (hj : j < n) (h0 : (m / 2 ^ j) % 2 = 0) : ∀ w ∈ spotL n m, w ∈ spotL n (m + 2 ^ j) := by
  intro w hw
  obtain ⟨h1, h3⟩ := List.mem_filter.mp hw
  have hm := mem_ws.mp h1
  exact List.mem_filter.mpr ⟨h1, decide_eq_true ((bit_add h5 h2 hj h0).2 w.toNat (by omega) (of_decide_eq_true h3))⟩
theorem flat_tups (q : List (List Int)) : flatDs (q.map tupI) = true := by
  induction q with
  | nil => rfl
  | cons b r ih =>
    show (flatD (tupI b) && flatDs (r.map tupI)) = true
    rw [ih, flat_tupI]
    rfl
theorem fulls_at {n : Nat} (h1 : 1 ≤ n) (h5 : n ≤ 5) : atI ([1, 3, 7, 15, 31, 63].map V.int) ((n : Int) - 1) = some (V.int (((2 ^ n : Nat) : Int) - 1)) := by
  have : ∀ n : Nat, n < 6 → 1 ≤ n → atI (([1, 3, 7, 15, 31, 63] : List Int).map V.int) ((n : Int) - 1) = some (V.int (((2 ^ n : Nat) : Int) - 1)) := by decide
  exact this n (by omega) h1
section
variable {P : Program} {w : World} {K : PySem.W.Frag} {mg : Str → Option Value} {base : Heap}
abbrev nGrow : List Str := ["_law_stream_here", "_law_size_here", "_law_many", "_law_powers", "_law_mask", "_law_spots", "_law_turn", "_law_bit"]
theorem sc_grow : FnScope nGrow ["_law_stream_here", "_law_size_here", "_law_many"] (defScope sGrow) := ⟨rfl, rfl, rfl, by decide +kernel, rfl, by decide +kernel, by decide +kernel⟩
theorem pow2_ge {n : Nat} (h1 : 1 ≤ n) (h5 : n ≤ 5) : 2 ≤ 2 ^ n ∧ 2 ^ n ≤ 32 := by
  have : ∀ n < 6, 1 ≤ n → 2 ≤ 2 ^ n ∧ 2 ^ n ≤ 32 := by decide
  exact this n (by omega) h1
theorem pow_lt {n j : Nat} (h5 : n ≤ 5) (hj : j < n) : 2 ^ j < 2 ^ n := Nat.pow_lt_pow_right (by decide) hj
theorem ok_grow {f : Addr} {fd : FuncData} (F : Fun K "_law_growing" "_law_growing" sGrow f fd) (B : Bi mg) (F1 : Fn P w K mg base 1 "_law_draw" spDraw) (F2 : Fn P w K mg base 1 "_law_spot" (spSpot K)) : FnOk P w K mg base CX0 2 f fd ["_law_stream_here", "_law_size_here", "_law_many"] (spGrow K) := by
  refine F.ok sc_grow (fun vs H Q E h => ?_) (fun cdv A outer s H vs Q E hr h => ?_)
  · obtain ⟨p, n, m, rfl, _⟩ := h
    rfl
  · obtain ⟨p, n, m, rfl, hp, n1, n5, m1, m3, k⟩ := h
    have nd := sc_grow.nd
    obtain ⟨g1, g2⟩ := pow2_ge n1 n5
    refine ⟨_, pss_cons (ps_set (i := 3) nd rfl (Or.inl rfl) (pe_lst (pa_cons pe_int (pa_cons pe_int (pa_cons pe_int (pa_cons pe_int (pa_cons pe_int (pa_cons pe_int pa_nil))))))))
      (pss_cons (ps_set (i := 4) nd rfl (Or.inl rfl) (pe_op op_add pe_int (pe_fn F1 hr (by decide) (pa_cons (pv 0) (pa_cons (pe_ix ix_list (pe_lst (pa_cons pe_int (pa_cons pe_int (pa_cons pe_int (pa_cons pe_int (pa_cons pe_int (pa_cons pe_int pa_nil))))))) (pe_op op_sub (pv 1) pe_int) (fun _ _ => rfl)) pa_nil)))))
      (pss_cons (ps_if (pt_cmpR op_eq (pe_fn F1 hr (by decide) (pa_cons (pv 0) (pa_cons pe_int pa_nil))) pe_int (nomark _)) (pss_one (ps_set (i := 4) nd rfl (Or.inl rfl) (pe_ix ix_list (pv 3) (pe_fn F1 hr (by decide) (pa_cons (pv 0) (pa_cons (pv 1) pa_nil))) (fun _ _ => rfl)))) pss_nil)
      (pss_cons (ps_set (i := 5) nd rfl (Or.inl rfl) (pe_lst (pa_cons (pe_fn F2 hr (by decide) (pa_cons (pv 1) (pa_cons (pv 4) pa_nil))) pa_nil)))
      (pss_cons (ps_for PassesOwn.never rfl (pi_range1 rfl B.range (pa_cons (pe_op op_sub (pv 2) pe_int) pa_nil)) (pg_name (i := 6) nd rfl (Or.inl rfl))
        (pss_cons (ps_set (i := 7) nd rfl (Or.inl rfl) (pe_ix ix_list (pv 3) (pe_fn F1 hr (by decide) (pa_cons (pv 0) (pa_cons (pv 1) pa_nil))) (fun _ _ => rfl)))
        (pss_cons (ps_if (pt_cmpR op_eq (pe_op op_mod (pe_callTy call_int1 (by rfl) B.int (by decide +kernel) (pa_cons (pe_op op_fdivN (pv 4) (pv 7)) pa_nil)) pe_int) pe_int (nomark _)) (pss_one (ps_set (i := 4) nd rfl (Or.inl rfl) (pe_op op_add (pv 4) (pv 7)))) pss_nil)
        (pss_one (ps_expr (pe_bm PySem.F.plainAttrs_list PySem.F.slot_list_append PySem.F.type_list_append mt_append (pv 5) (pa_cons (pe_fn F2 hr (by decide) (pa_cons (pv 1) (pa_cons (pv 4) pa_nil))) pa_nil)))))))
      (pss_one (ps_ret (pv 5))))))), ?_⟩
    refine ⟨small_le (show 6 ≤ 100000 by decide), fun L hL => ?_⟩
    have hpL := st_ne hp hL
    have nL : H L = none := hL
    have st1 : St p (upd H L (.lst (powers.map V.int))) := hp.mut hpL
    have o1 : Off p H (upd H L (.lst (powers.map V.int))) := Off.of (same_new hL)
    -- the first mask
    refine ⟨_, rfl, small_le (show 6 ≤ 100000 by decide), fun l2 hl2 => ?_⟩
    have hp2 := st_ne st1 hl2
    have hL2 : L ≠ l2 := ne_of_none upd_same hl2
    have hl22 : (upd (upd H L (.lst (powers.map V.int))) l2 (.lst ([1, 3, 7, 15, 31, 63].map V.int))) l2 = some (.lst ([1, 3, 7, 15, 31, 63].map V.int)) := upd_same
    refine ⟨_, rfl, _, _, rfl, rfl, l2, _, (n : Int) - 1, _, rfl, rfl, SqL.of hl22, fulls_at n1 n5, p, _, rfl, st1.mut hp2, by omega, fun v H2 h0 h1 o2 st2 => ?_⟩
    have hLL2 : H2 L = some (.lst (powers.map V.int)) := o2 L _ (Ne.symm hpL) (by rw [upd_ne hL2]; exact upd_same)
    have o02 : Off p H H2 := (o1.trans (Off.of (same_new hl2))).trans o2
    refine ⟨_, _, rfl, rfl, ?_⟩
    refine ⟨_, rfl, p, 2, rfl, st2, by decide, fun v2 H3 h20 h21 o3 st3 => ⟨rfl, _, rfl, ?_⟩⟩
    have hLL3 := o3 L _ (Ne.symm hpL) hLL2
    have o03 := o02.trans o3
    -- whatever the mask is
    apply viaC (I := fun (b : Nat) (Hb : Hp) => 1 ≤ b ∧ b < 2 ^ n ∧ Off p H Hb ∧ St p Hb ∧ Hb L = some (.lst (powers.map V.int)))
    · intro rest
      obtain ⟨mk, hmk⟩ : ∃ mk : Nat, (mk : Int) = 1 + v := ⟨(1 + v).toNat, by omega⟩
      dsimp only
      rw [← hmk]
      refine ite2 (fun _ => ?yes) (fun _ => ?no)
      case no => exact rest mk H3 ⟨by omega, by omega, o03, st3, hLL3⟩
      case yes =>
        refine ⟨_, rfl, _, rfl, _, rfl, p, n, rfl, st3, by omega, fun v3 H4 h30 h31 o4 st4 => ?_⟩
        have hLL4 := o4 L _ (Ne.symm hpL) hLL3
        have hat := pow_at (j := v3.toNat) (by omega)
        rw [show ((v3.toNat : Nat) : Int) = v3 by omega] at hat
        have hp3 := pow_small (j := v3.toNat) (by omega)
        have hp4 := pow_lt n5 (j := v3.toNat) (by omega)
        refine ⟨L, _, v3, _, rfl, rfl, SqL.of hLL4, hat, ?_⟩
        exact rest (2 ^ v3.toNat) H4 ⟨hp3.1, hp4, o03.trans o4, st4, hLL4⟩
    · rintro mk H4 ⟨k1, k2, o04, st4, hLL4⟩
      refine ⟨_, rfl, _, rfl, n, mk, rfl, by omega, fun vy H5 e5 hvy => ⟨small_le (show 1 ≤ 100000 by decide), fun S hS => ?_⟩⟩
      have st5 := st4.same e5
      have hpS := st_ne st5 hS
      have nS : H S = none := by
        have h4 := none_back e5 hS
        cases c : H S with
        | none => rfl
        | some u =>
          have := o04 S u (Ne.symm hpS) c
          rw [h4] at this
          cases this
      have hLS : L ≠ S := ne_of_none (e5 _ _ hLL4) hS
      have e6 := same_new (o := .lst [vy]) hS
      refine ⟨_, rfl, _, _, rfl, rfl, _, rfl, by omega, by omega, ?_⟩
      have hmm : ((m : Nat) - 1 : Int).toNat = m - 1 := by omega
      rw [hmm]
      refine for_range (lo := 0) (n := m - 1) (fun i σ H' => ∃ (v6 v7 : Option V) (mk : Nat) (ys : List (List Int)) (acc : List V), σ = [some (.ref p), some (.int n), some (.int m), some (.ref L), some (.int mk), some (.ref S), v6, v7] ∧ 1 ≤ mk ∧ mk < 2 ^ n ∧ ys.length = i + 1 ∧ (∀ y ∈ ys, GoodY n y) ∧
          ys.Pairwise (fun a b => ∀ w ∈ a, w ∈ b) ∧ (∀ y ∈ ys, ∀ w ∈ y, w ∈ spotL n mk) ∧ H' S = some (.lst acc) ∧ DpAll K H' acc (ys.map tupI) ∧ H' L = some (.lst (powers.map V.int)) ∧ Off p H H' ∧ St p H')
        ⟨none, none, mk, [spotL n mk], [vy], rfl, k1, k2, rfl, fun y hy => by rw [List.mem_singleton.mp hy]; exact spot_good n5 k1 k2, .cons (fun _ h => nomatch h) .nil, fun y hy w hw => by rw [List.mem_singleton.mp hy] at hw; exact hw, upd_same, .cons (dp_same e6 hvy) .nil, e6 _ _ (e5 _ _ hLL4), o04.trans (Off.of (e5.trans e6)), st5.same e6⟩ ?_ ?_
      · rintro i σ H6 hi ⟨v6, v7, mk, ys, acc, rfl, q1, q2, hyl, hyg, hyp, hym, hS6, ha6, hL6, o6, st6⟩
        refine ⟨_, rfl, _, rfl, _, rfl, p, n, rfl, st6, by omega, fun v3 H7 h30 h31 o7 st7 => ?_⟩
        have tp67 := off_tp o7 st6
        have hL7 := o7 L _ (Ne.symm hpL) hL6
        have hS7 := o7 S _ (Ne.symm hpS) hS6
        have hat := pow_at (j := v3.toNat) (by omega)
        rw [show ((v3.toNat : Nat) : Int) = v3 by omega] at hat
        have hp3 := pow_small (j := v3.toNat) (by omega)
        refine ⟨L, _, v3, _, rfl, rfl, SqL.of hL7, hat, ?_⟩
        refine ⟨_, rfl, _, rfl, _, _, rfl, rfl, ⟨by omega, by omega⟩, .inl ⟨_, rfl, _, _, rfl, rfl, (by show (0 : Int) < 2; decide), rfl, _, rfl, ?_⟩⟩
        have hdm : (((mk : Nat) : Int).fdiv ((2 ^ v3.toNat : Nat) : Int)) % 2 = (((mk / 2 ^ v3.toNat) % 2 : Nat) : Int) := by
          rw [Int.fdiv_eq_ediv_of_nonneg _ (by omega), ← Int.natCast_ediv]
          exact (Int.natCast_emod _ 2).symm
        apply viaB (α := Nat) (I := fun b => 1 ≤ b ∧ b < 2 ^ n ∧ ∀ w ∈ spotL n mk, w ∈ spotL n b)
        · intro rest
          rw [dec_int]
          dsimp only
          rw [hdm]
          obtain ⟨mk3, hm3⟩ : ∃ x, x = mk := ⟨_, rfl⟩
          rw [← hm3]
          refine ite2 (fun hc => ?yes) (fun _ => ?no)
          case no => exact rest mk3 ⟨by omega, by omega, fun _ h => hm3 ▸ h⟩
          case yes =>
            rw [hm3] at hc
            rw [hm3]
            have h0 : (mk / 2 ^ v3.toNat) % 2 = 0 := by
              have := of_decide_eq_true hc
              omega
            have hb := bit_add n5 q2 (j := v3.toNat) (by omega) h0
            refine ⟨_, rfl, _, rfl, _, _, rfl, rfl, ?_⟩
            dsimp only
            rw [show ((mk : Nat) : Int) + ((2 ^ v3.toNat : Nat) : Int) = ((mk + 2 ^ v3.toNat : Nat) : Int) from (Int.natCast_add _ _).symm]
            exact rest _ ⟨by omega, hb.1, spot_mono n5 q2 (by omega) h0⟩
        · rintro mk2 ⟨r1, r2, r3⟩
          refine ⟨_, rfl, .inl ⟨rfl, _, SqL.of hS7⟩, _, rfl, _, rfl, n, mk2, rfl, by omega, fun vy2 H8 e8 hvy2 => ?_⟩
          have hS8 := e8 _ _ hS7
          refine ⟨S, acc, vy2, rfl, rfl, hS8, small_lt (by rw [dps_len ha6, List.length_map]; omega), ?_⟩
          have tp9 := Tp.upd (o' := .lst (acc ++ [vy2])) hS8 rfl
          refine ⟨_, _, mk2, ys ++ [spotL n mk2], acc ++ [vy2], rfl, r1, r2, by rw [List.length_append, hyl]; rfl, fun y hy => ?_, ?_, fun y hy w hw => ?_, upd_same, ?_, by rw [upd_ne hLS]; exact e8 _ _ hL7, ((o6.trans o7).trans (Off.of e8)).mut nS _, (st7.same e8).mut hpS⟩
          · rcases List.mem_append.mp hy with h | h
            · exact hyg y h
            · rw [List.mem_singleton.mp h]
              exact spot_good n5 r1 r2
          · refine List.pairwise_append.mpr ⟨hyp, .cons (fun _ h => nomatch h) .nil, fun a ha b hb w hw => ?_⟩
            rw [List.mem_singleton.mp hb]
            exact r3 w (hym a ha w hw)
          · rcases List.mem_append.mp hy with h | h
            · exact r3 w (hym y h w hw)
            · rw [List.mem_singleton.mp h] at hw
              exact hw
          · rw [List.map_append]
            exact dps_append (dps_tp ((tp67.trans (Tp.of e8)).trans tp9) (flat_tups _) ha6) (.cons (dp_tp tp9 (flat_tupI _) hvy2) .nil)
      · rintro σ H6 ⟨v6, v7, mk, ys, acc, rfl, q1, q2, hyl, hyg, hyp, hym, hS6, ha6, hL6, o6, st6⟩
        exact ⟨_, rfl, k S acc ys _ (by omega) hyg hyp nS hS6 ha6 o6 st6⟩
end
end MW

/-! The law's helpers: what is against; a row turned round. -/
namespace MW
open PySem PySem.Spec PyProof.Rows L2
open MS (ws free begs perms mem_ws mem_perms mem_begs tg yg MovesP NeedP RetP FailP)

abbrev sLMoves : Stmt := top 68
abbrev sLRet : Stmt := top 69
abbrev sLNeed : Stmt := top 70
abbrev sAgainst : Stmt := top 71
abbrev sTurned : Stmt := top 75
def spLMoves (K : PySem.W.Frag) : Sp := fun vs H Q _ => ∃ (x : V) (t : List Int), vs = [x] ∧ Dp K H x (tupI t) ∧ t.length ≤ 8 ∧ ∀ b, (b = true ↔ MovesP t) → Q (.bl b) H
def spLRet (K : PySem.W.Frag) : Sp := fun vs H Q _ => ∃ (x : V) (t : List Int), vs = [x] ∧ Dp K H x (tupI t) ∧ t.length ≤ 8 ∧ ∀ b, (b = true ↔ RetP t) → Q (.bl b) H
def spLNeed (K : PySem.W.Frag) : Sp := fun vs H Q _ => ∃ (x y : V) (t : List Int) (ys : List (List Int)), vs = [x, y] ∧ Dp K H x (tupI t) ∧ Dp K H y (.list (ys.map tupI)) ∧ t.length = ys.length ∧ t.length ≤ 8 ∧ ∀ b, (b = true ↔ NeedP ys t) → Q (.bl b) H
def spAgainst (K : PySem.W.Frag) : Sp := fun vs H Q _ => ∃ (x y : V) (t : List Int) (ys : List (List Int)) (q : Nat), vs = [x, y, .int q] ∧ Dp K H x (tupI t) ∧ Dp K H y (.list (ys.map tupI)) ∧ t.length = ys.length ∧ t.length ≤ 8 ∧ ∀ b, (b = true ↔ FailP ys q t) → Q (.bl b) H
section
variable {P : Program} {w : World} {K : PySem.W.Frag} {mg : Str → Option Value} {base : Heap}
theorem sc_lmoves : FnScope ["_law_trail", "_law_place"] ["_law_trail"] (defScope sLMoves) := ⟨rfl, rfl, rfl, by decide +kernel, rfl, by decide +kernel, by decide +kernel⟩
theorem ok_lmoves {f : Addr} {fd : FuncData} (F : Fun K "_law_moves" "_law_moves" sLMoves f fd) (B : Bi mg) : FnOk P w K mg base CX0 1 f fd ["_law_trail"] (spLMoves K) := by
  refine F.ok sc_lmoves (fun vs H Q E h => ?_) (fun cdv A outer s H vs Q E hr h => ?_)
  · obtain ⟨x, t, rfl, _⟩ := h
    rfl
  · obtain ⟨x, t, rfl, hx, h8, k⟩ := h
    have nd := sc_lmoves.nd
    obtain ⟨ta, rfl, hta⟩ := dp_tupI hx
    refine ⟨_, pss_cons (ps_for PassesOwn.never rfl (pi_range1 rfl B.range (pa_cons (pe_op op_sub (pe_callB call_len_seq (by rfl) B.len PySem.boot_len (pa_cons (pv 0) pa_nil)) pe_int) pa_nil)) (pg_name (i := 1) nd rfl (Or.inl rfl))
        (pss_one (ps_if (pt_cmpR op_ne (pe_ix ix_tup (pv 0) (pv 1) (fun _ _ => rfl)) (pe_ix ix_tup (pv 0) (pe_op op_add (pv 1) pe_int) (fun _ _ => rfl)) (nomark _)) (pss_one (ps_ret pe_bl)) pss_nil)))
      (pss_one (ps_ret pe_bl)), ?_⟩
    refine ⟨_, rfl, ta, _, rfl, .inr hta, _, _, rfl, rfl, _, rfl, by rw [List.length_map]; omega, by rw [List.length_map]; omega, ?_⟩
    have hn : (((t.map V.int).length : Nat) - 1 : Int).toNat = t.length - 1 := by rw [List.length_map]; omega
    rw [hn]
    refine for_range (lo := 0) (n := t.length - 1) (fun i σ H' => ∃ v1 : Option V, σ = [some (.ref ta), v1] ∧ H' = H ∧ ∀ j, j < i → tg t j = tg t (j + 1)) ⟨none, rfl, rfl, fun j h => absurd h (Nat.not_lt_zero j)⟩ ?_ ?_
    · rintro i σ H1 hi ⟨v1, rfl, rfl, hno⟩
      refine ⟨_, rfl, _, rfl, ta, _, 0 + (i : Int), _, rfl, rfl, hta, atI_t (i := i) (by omega) (by omega), _, rfl, _, rfl, _, _, rfl, rfl, ta, _, 0 + (i : Int) + 1, _, rfl, rfl, hta, atI_t (i := i + 1) (by omega) (by omega), rfl, _, rfl, ?_⟩
      rw [dec_int]
      by_cases c : tg t i = tg t (i + 1)
      · rw [decide_eq_true c]
        refine iteF ⟨_, rfl, rfl, fun j hj => ?_⟩
        by_cases e : j = i
        · exact e ▸ c
        · exact hno j (by omega)
      · rw [decide_eq_false c]
        exact iteT (k true ⟨fun _ => ⟨i, by omega, c⟩, fun _ => rfl⟩)
    · rintro σ H1 ⟨v1, rfl, rfl, hno⟩
      exact k false ⟨fun z => (by cases z), fun ⟨i, h1, h2⟩ => absurd (hno i (by omega)) h2⟩
abbrev nLRet : List Str := ["_law_trail", "_law_last", "_law_parted", "_law_place"]
theorem sc_lret : FnScope nLRet ["_law_trail"] (defScope sLRet) := ⟨rfl, rfl, rfl, by decide +kernel, rfl, by decide +kernel, by decide +kernel⟩
theorem ok_lret {f : Addr} {fd : FuncData} (F : Fun K "_law_returns" "_law_returns" sLRet f fd) (B : Bi mg) : FnOk P w K mg base CX0 1 f fd ["_law_trail"] (spLRet K) := by
  refine F.ok sc_lret (fun vs H Q E h => ?_) (fun cdv A outer s H vs Q E hr h => ?_)
  · obtain ⟨x, t, rfl, _⟩ := h
    rfl
  · obtain ⟨x, t, rfl, hx, h8, k⟩ := h
    have nd := sc_lret.nd
    obtain ⟨ta, rfl, hta⟩ := dp_tupI hx
    refine ⟨_, pss_cons (ps_for PassesOwn.never rfl (pi_range1 rfl B.range (pa_cons (pe_callB call_len_seq (by rfl) B.len PySem.boot_len (pa_cons (pv 0) pa_nil)) pa_nil)) (pg_name (i := 1) nd rfl (Or.inl rfl))
        (pss_cons (ps_set (i := 2) nd rfl (Or.inl rfl) pe_bl)
        (pss_one (ps_for PassesOwn.never rfl (pi_range3 rfl B.range (pa_cons (pe_op op_sub (pv 1) pe_int) (pa_cons (pe_un un_neg pe_int) (pa_cons (pe_un un_neg pe_int) pa_nil)))) (pg_name (i := 3) nd rfl (Or.inl rfl))
          (pss_one (ps_if (pt_cmpR op_ne (pe_ix ix_tup (pv 0) (pv 3) (fun _ _ => rfl)) (pe_ix ix_tup (pv 0) (pv 1) (fun _ _ => rfl)) (nomark _)) (pss_one (ps_set (i := 2) nd rfl (Or.inl rfl) pe_bl))
            (pss_one (ps_if (pt_val (pv 2)) (pss_one (ps_ret pe_bl)) pss_nil))))))))
      (pss_one (ps_ret pe_bl)), ?_⟩
    refine ⟨_, rfl, ta, _, rfl, .inr hta, _, rfl, by rw [List.length_map]; omega, by rw [List.length_map]; omega, ?_⟩
    have hn : (((t.map V.int).length : Nat) : Int).toNat = t.length := by rw [List.length_map]; omega
    rw [hn]
    refine for_range (lo := 0) (n := t.length) (fun i σ H' => ∃ v1 v2 v3 : Option V, σ = [some (.ref ta), v1, v2, v3] ∧ H' = H ∧ ∀ l a, l < i → a < l → ¬ RetAt t l a) ⟨none, none, none, rfl, rfl, fun l _ h => absurd h (Nat.not_lt_zero l)⟩ ?_ ?_
    · rintro i σ H1 hi ⟨v1, v2, v3, rfl, rfl, hno⟩
      refine ⟨_, rfl, _, _, rfl, rfl, _, rfl, _, rfl, 0 + (i : Int) - 1, -1, -1, (0 + (i : Int) - 1 - (-1)).toNat, rfl, RgC.neg (by omega) (by omega) (by omega) (by omega), ?_⟩
      have hn2 : (0 + (i : Int) - 1 - (-1)).toNat = i := by omega
      rw [hn2]
      refine for_rangeC (lo := 0 + (i : Int) - 1) (c := -1) (n := i) (fun j σ H' => ∃ (pb : Bool) (v3 : Option V), σ = [some (.ref ta), some (.int (0 + (i : Int))), some (.bl pb), v3] ∧ H' = H1 ∧ (pb = true ↔ ∃ q, i - j ≤ q ∧ q < i ∧ tg t q ≠ tg t i) ∧ ∀ a, i - j ≤ a → a < i → ¬ RetAt t i a)
        ⟨false, _, rfl, rfl, ⟨fun z => (by cases z), fun ⟨q, h1, h2, _⟩ => by omega⟩, fun a h1 h2 => by omega⟩ ?_ ?_
      · rintro j σ H2 hj ⟨pb, v3, rfl, rfl, hpb, hno2⟩
        refine ⟨_, rfl, _, rfl, ta, _, 0 + (i : Int) - 1 + (j : Nat) * -1, _, rfl, rfl, hta, atI_t (i := i - 1 - j) (by omega) (by omega), _, rfl, _, rfl, ta, _, 0 + (i : Int), _, rfl, rfl, hta, atI_t (i := i) hi (by omega), rfl, _, rfl, ?_⟩
        rw [dec_int]
        by_cases c : tg t (i - 1 - j) = tg t i
        · rw [decide_eq_true c]
          refine iteF ⟨_, rfl, pb, rfl, ?_⟩
          cases hb : pb with
          | true =>
            obtain ⟨q, q1, q2, q3⟩ := hpb.mp hb
            exact iteT (k true ⟨fun _ => ⟨i, i - 1 - j, hi, by omega, c, q, by omega, q2, q3⟩, fun _ => rfl⟩)
          | false =>
            refine iteF ⟨_, _, rfl, rfl, ⟨fun z => (by cases z), fun ⟨q, q1, q2, q3⟩ => ?_⟩, fun a h1 h2 => ?_⟩
            · by_cases e : q = i - 1 - j
              · subst e
                exact absurd c q3
              · rw [hpb.mpr ⟨q, by omega, q2, q3⟩] at hb
                cases hb
            · by_cases e : a = i - 1 - j
              · subst e
                rintro ⟨_, q, q1, q2, q3⟩
                rw [hpb.mpr ⟨q, by omega, q2, q3⟩] at hb
                cases hb
              · exact hno2 a (by omega) h2
        · rw [decide_eq_false c]
          refine iteT ⟨_, _, rfl, rfl, ⟨fun _ => ⟨i - 1 - j, by omega, by omega, c⟩, fun _ => rfl⟩, fun a h1 h2 => ?_⟩
          by_cases e : a = i - 1 - j
          · subst e
            exact fun z => c z.1
          · exact hno2 a (by omega) h2
      · rintro σ H2 ⟨pb, v3, rfl, rfl, hpb, hno2⟩
        refine ⟨_, _, _, rfl, rfl, fun l a hl ha => ?_⟩
        by_cases e : l = i
        · subst e
          exact hno2 a (by omega) ha
        · exact hno l a (by omega) ha
    · rintro σ H1 ⟨v1, v2, v3, rfl, rfl, hno⟩
      exact k false ⟨fun z => (by cases z), fun ⟨l, a, hl, ha, h1, h2⟩ => absurd ⟨h1, h2⟩ (hno l a hl ha)⟩
abbrev nLNeed : List Str := ["_law_trail", "_law_spots", "_law_place", "_law_old", "_law_new"]
theorem sc_lneed : FnScope nLNeed ["_law_trail", "_law_spots"] (defScope sLNeed) := ⟨rfl, rfl, rfl, by decide +kernel, rfl, by decide +kernel, by decide +kernel⟩
theorem ok_lneed {f : Addr} {fd : FuncData} (F : Fun K "_law_needless" "_law_needless" sLNeed f fd) (B : Bi mg) : FnOk P w K mg base CX0 1 f fd ["_law_trail", "_law_spots"] (spLNeed K) := by
  refine F.ok sc_lneed (fun vs H Q E h => ?_) (fun cdv A outer s H vs Q E hr h => ?_)
  · obtain ⟨x, y, t, ys, rfl, _⟩ := h
    rfl
  · obtain ⟨x, y, t, ys, rfl, hx, hy, hl, h8, k⟩ := h
    have nd := sc_lneed.nd
    obtain ⟨ta, rfl, hta⟩ := dp_tupI hx
    obtain ⟨la, xs, rfl, hla, hxs⟩ := dp_lst hy
    refine ⟨_, pss_cons (ps_for PassesOwn.never rfl (pi_range1 rfl B.range (pa_cons (pe_op op_sub (pe_callB call_len_seq (by rfl) B.len PySem.boot_len (pa_cons (pv 0) pa_nil)) pe_int) pa_nil)) (pg_name (i := 2) nd rfl (Or.inl rfl))
        (pss_cons (ps_set (i := 3) nd rfl (Or.inl rfl) (pe_ix ix_tup (pv 0) (pv 2) (fun _ _ => rfl)))
        (pss_cons (ps_set (i := 4) nd rfl (Or.inl rfl) (pe_ix ix_tup (pv 0) (pe_op op_add (pv 2) pe_int) (fun _ _ => rfl)))
        (pss_one (ps_if (PW.pt (pw_and (pt_cmpR op_ne (pv 3) (pv 4) (nomark _)) (pw_and (pt_cmpR op_in_seq (pv 3) (pe_ix ix_list (pv 1) (pe_op op_add (pv 2) pe_int) (fun _ _ => rfl)) (by rfl)) (pw_and1 (pt_cmpR op_in_seq (pv 4) (pe_ix ix_list (pv 1) (pv 2) (fun _ _ => rfl)) (by rfl)))))) (pss_one (ps_ret pe_bl)) pss_nil)))))
      (pss_one (ps_ret pe_bl)), ?_⟩
    refine ⟨_, rfl, ta, _, rfl, .inr hta, _, _, rfl, rfl, _, rfl, by rw [List.length_map]; omega, by rw [List.length_map]; omega, ?_⟩
    have hn : (((t.map V.int).length : Nat) - 1 : Int).toNat = t.length - 1 := by rw [List.length_map]; omega
    rw [hn]
    refine for_range (lo := 0) (n := t.length - 1) (fun i σ H' => ∃ v2 v3 v4 : Option V, σ = [some (.ref ta), some (.ref la), v2, v3, v4] ∧ H' = H ∧ ∀ j, j < i → ¬ (tg t j ≠ tg t (j + 1) ∧ tg t j ∈ yg ys (j + 1) ∧ tg t (j + 1) ∈ yg ys j)) ⟨none, none, none, rfl, rfl, fun j h => absurd h (Nat.not_lt_zero j)⟩ ?_ ?_
    · rintro i σ H1 hi ⟨v2, v3, v4, rfl, rfl, hno⟩
      obtain ⟨u0, hu0, hd0⟩ := yd_at hxs (i := i) (j := 0 + (i : Int)) (by omega) (by omega)
      obtain ⟨u1, hu1, hd1⟩ := yd_at hxs (i := i + 1) (j := 0 + (i : Int) + 1) (by omega) (by omega)
      obtain ⟨y0, rfl, hy0⟩ := dp_tupI hd0
      obtain ⟨y1, rfl, hy1⟩ := dp_tupI hd1
      have next : ¬ (tg t i ≠ tg t (i + 1) ∧ tg t i ∈ yg ys (i + 1) ∧ tg t (i + 1) ∈ yg ys i) → ∀ j, j < i + 1 → ¬ (tg t j ≠ tg t (j + 1) ∧ tg t j ∈ yg ys (j + 1) ∧ tg t (j + 1) ∈ yg ys j) := fun h j hj => by
        by_cases e : j = i
        · exact e ▸ h
        · exact hno j (by omega)
      refine ⟨_, rfl, _, rfl, ta, _, 0 + (i : Int), _, rfl, rfl, hta, atI_t (i := i) (by omega) (by omega), ?_⟩
      refine ⟨_, rfl, _, rfl, _, _, rfl, rfl, ta, _, 0 + (i : Int) + 1, _, rfl, rfl, hta, atI_t (i := i + 1) (by omega) (by omega), ?_⟩
      refine ⟨_, rfl, _, rfl, rfl, _, rfl, ?_⟩
      rw [dec_int]
      by_cases c : tg t i = tg t (i + 1)
      · rw [decide_eq_true c]
        exact iteF ⟨_, _, _, rfl, rfl, next fun z => z.1 c⟩
      rw [decide_eq_false c]
      refine iteT ⟨_, rfl, _, rfl, _, rfl, _, _, rfl, rfl, la, _, 0 + (i : Int) + 1, _, rfl, rfl, hla, hu1, y1, _, rfl, .inr hy1, rfl, flatV_ints _, ?_⟩
      rw [if_neg Bool.false_ne_true, inV_ints]
      refine ⟨_, rfl, ?_⟩
      by_cases c1 : tg t i ∈ yg ys (i + 1)
      · rw [decide_eq_true c1]
        refine iteT ⟨_, rfl, _, rfl, _, rfl, la, _, 0 + (i : Int), _, rfl, rfl, hla, hu0, y0, _, rfl, .inr hy0, rfl, flatV_ints _, ?_⟩
        rw [if_neg Bool.false_ne_true, inV_ints]
        refine ⟨_, rfl, ?_⟩
        by_cases c2 : tg t (i + 1) ∈ yg ys i
        · rw [decide_eq_true c2]
          exact iteT (k true ⟨fun _ => ⟨i, by omega, c, c1, c2⟩, fun _ => rfl⟩)
        · rw [decide_eq_false c2]
          exact iteF ⟨_, _, _, rfl, rfl, next fun z => c2 z.2.2⟩
      · rw [decide_eq_false c1]
        exact iteF ⟨_, _, _, rfl, rfl, next fun z => c1 z.2.1⟩
    · rintro σ H1 ⟨v2, v3, v4, rfl, rfl, hno⟩
      exact k false ⟨fun z => (by cases z), fun ⟨i, h1, h2⟩ => absurd h2 (hno i (by omega))⟩
theorem sc_against : FnScope ["_law_trail", "_law_spots", "_law_which"] ["_law_trail", "_law_spots", "_law_which"] (defScope sAgainst) := ⟨rfl, rfl, rfl, by decide +kernel, rfl, by decide +kernel, by decide +kernel⟩
theorem ok_against {f : Addr} {fd : FuncData} (F : Fun K "_law_is_against" "_law_is_against" sAgainst f fd) (F1 : Fn P w K mg base 1 "_law_moves" (spLMoves K)) (F2 : Fn P w K mg base 1 "_law_returns" (spLRet K)) (F3 : Fn P w K mg base 1 "_law_needless" (spLNeed K)) :
    FnOk P w K mg base CX0 2 f fd ["_law_trail", "_law_spots", "_law_which"] (spAgainst K) := by
  refine F.ok sc_against (fun vs H Q E h => ?_) (fun cdv A outer s H vs Q E hr h => ?_)
  · obtain ⟨x, y, t, ys, q, rfl, _⟩ := h
    rfl
  · obtain ⟨x, y, t, ys, q, rfl, hx, hy, hl, h8, k⟩ := h
    refine ⟨_, pss_cons (ps_if (pt_cmpR op_eq (pv 2) pe_int (nomark _)) (pss_one (ps_ret (pe_fn F1 hr (by decide) (pa_cons (pv 0) pa_nil)))) pss_nil)
      (pss_cons (ps_if (pt_cmpR op_eq (pv 2) pe_int (nomark _)) (pss_one (ps_ret (pe_fn F2 hr (by decide) (pa_cons (pv 0) pa_nil)))) pss_nil)
      (pss_one (ps_ret (pe_fn F3 hr (by decide) (pa_cons (pv 0) (pa_cons (pv 1) pa_nil)))))), ?_⟩
    refine ⟨_, rfl, rfl, _, rfl, ?_⟩
    rw [dec_int]
    by_cases c0 : q = 0
    · rw [decide_eq_true (by omega)]
      refine iteT ⟨_, rfl, x, t, rfl, hx, h8, fun b hb => k b ?_⟩
      unfold MS.FailP
      rw [if_pos c0]
      exact hb
    rw [decide_eq_false (by omega)]
    refine iteF ⟨_, rfl, rfl, _, rfl, ?_⟩
    rw [dec_int]
    by_cases c1 : q = 1
    · rw [decide_eq_true (by omega)]
      refine iteT ⟨_, rfl, x, t, rfl, hx, h8, fun b hb => k b ?_⟩
      unfold MS.FailP
      rw [if_neg c0, if_pos c1]
      exact hb
    rw [decide_eq_false (by omega)]
    refine iteF ⟨_, rfl, _, rfl, x, y, t, ys, rfl, hx, hy, hl, h8, fun b hb => k b ?_⟩
    unfold MS.FailP
    rw [if_neg c0, if_neg c1]
    exact hb
/-! ### a row turned round -/
def spTurned (K : PySem.W.Frag) : Sp := fun vs H Q _ => ∃ (a : Addr) (xs : List V), vs = [.ref a] ∧ (SqL K H a xs ∨ SqT K H a xs) ∧ xs.length ≤ 50000 ∧ ∀ t H', Same H H' → H' t = some (.tup xs.reverse) → Q (.ref t) H'
theorem ix_seqK {X : Cx} (K : PySem.W.Frag) (h : X.K = K := by rfl) : IxR X (rIx K) := h ▸ ix_seq
abbrev nTurned : List Str := ["_law_row", "_law_k"]
theorem sc_turned : FnScope nTurned ["_law_row"] (defScope sTurned) := ⟨rfl, rfl, rfl, by decide +kernel, rfl, by decide +kernel, by decide +kernel⟩
theorem rev_get {α : Type} {xs : List α} {i : Nat} (h : i < xs.length) : xs.reverse[i]? = xs[xs.length - 1 - i]? := List.getElem?_reverse h
theorem ok_turned {f : Addr} {fd : FuncData} (F : Fun K "_law_turned" "_law_turned" sTurned f fd) (B : Bi mg) : FnOk P w K mg base CX0 1 f fd ["_law_row"] (spTurned K) := by
  refine F.ok sc_turned (fun vs H Q E h => ?_) (fun cdv A outer s H vs Q E hr h => ?_)
  · obtain ⟨a, xs, rfl, _⟩ := h
    rfl
  · obtain ⟨a, xs, rfl, ha, hz, k⟩ := h
    have nd := sc_turned.nd
    refine ⟨_, pss_one (ps_ret (pe_callTy call_tuple_of (by rfl) B.tuple (by decide +kernel) (pa_cons (pe_lc (own := [("_law_k", 1)]) (g := gName 1) (tt := tYes) rfl nd (pi_range1 rfl B.range (pa_cons (pe_callB call_len_seq (by rfl) B.len PySem.boot_len (pa_cons (pv 0) pa_nil)) pa_nil))
      (blkOk_by (own := [("_law_k", 1)]) (N := nTurned) (sc := defScope sTurned) (by decide +kernel)) (fun _ _ _ _ _ => pg_name (i := 1) nd rfl (Or.inl rfl)) (fun _ _ _ _ _ => pts_nil)
      (fun _ _ _ _ _ => pe_ix (ix_seqK K) (pv 0) (pe_op op_sub (pe_op op_sub (pe_callB (lenK K) (by rfl) B.len PySem.boot_len (pa_cons (pv 0) pa_nil)) pe_int) (pv 1)) (fun _ _ => rfl))) pa_nil))), ?_⟩
    refine ⟨_, rfl, a, xs, rfl, ha, _, rfl, by omega, by omega, fun D hD => ?_⟩
    have hnn : ((xs.length : Nat) : Int).toNat = xs.length := by omega
    rw [hnn]
    refine lc_range (lo := 0) (n := xs.length) (fun i H' => Same H H' ∧ H' D = some (.lst (xs.reverse.take i))) ⟨same_new hD, upd_same⟩ ?_ ?_
    · rintro i H1 hi ⟨e1, hD1⟩
      have ha1 : SqL K H1 a xs ∨ SqT K H1 a xs := ha.imp (fun h => e1.seq h) fun h => same_seqT e1 h
      obtain ⟨v, hv⟩ : ∃ v, xs[xs.length - 1 - i]? = some v := ⟨xs[xs.length - 1 - i]'(by omega), List.getElem?_eq_getElem _⟩
      have hat : atI xs (((xs.length : Nat) : Int) - 1 - (0 + (i : Int))) = some v := by
        rw [show ((xs.length : Nat) : Int) - 1 - (0 + (i : Int)) = ((xs.length - 1 - i : Nat) : Int) by omega]
        exact atI_nat hv
      refine ⟨rfl, iteT (B := True) ⟨_, rfl, _, rfl, a, xs, rfl, ha1, _, _, rfl, rfl, _, rfl, _, _, rfl, rfl, ?_⟩⟩
      have fin : ∃ acc, H1 D = some (.lst acc) ∧ acc.length < sizeLine ∧ (Same H (upd H1 D (.lst (acc ++ [v]))) ∧ (upd H1 D (.lst (acc ++ [v]))) D = some (.lst (xs.reverse.take (i + 1)))) := by
        refine ⟨_, hD1, small_lt (by rw [List.length_take, List.length_reverse]; omega), same_mut e1 hD, ?_⟩
        rw [take_succ_get (x := v) (by rw [rev_get hi]; exact hv)]
        exact upd_same
      rcases ha1 with h | h
      · exact .inl ⟨a, xs, _, v, rfl, rfl, h, hat, fin⟩
      · exact .inr (.inl ⟨a, xs, _, v, rfl, rfl, h, hat, fin⟩)
    · rintro H1 ⟨e1, hD1⟩
      rw [show xs.length = xs.reverse.length from List.length_reverse.symm, List.take_length] at hD1
      exact ⟨D, _, rfl, .inl ⟨SqL.of hD1, fun p hp => k p _ (e1.trans (same_new hp)) upd_same⟩⟩
end
end MW

/-! The law's parts: comings, equal shares. -/
namespace MW
open PySem PySem.Spec PyProof.Rows L2
open MS (ws free begs perms own owns mem_ws mem_perms mem_begs tg yg NeedP FailP came cnt)

abbrev sComing : Stmt := top 72
abbrev sShares : Stmt := top 73
def totals : List Int := [1, 2, 6, 24, 120]
theorem total_at {n : Nat} (h1 : 1 ≤ n) (h5 : n ≤ 5) : atI (totals.map V.int) ((n : Int) - 1) = some (V.int ((perms n).length : Int)) ∧ (1 : Int) ≤ (perms n).length ∧ ((perms n).length : Int) ≤ 120 := by
  have : ∀ n : Nat, n < 6 → 1 ≤ n → atI (totals.map V.int) ((n : Int) - 1) = some (V.int ((perms n).length : Int)) ∧ (1 : Int) ≤ (perms n).length ∧ ((perms n).length : Int) ≤ 120 := by decide +kernel
  exact this n (by omega) h1
theorem came_step {few : List Int} {rows : List (List Int × Int)} {i : Nat} {p : List Int × Int} (h : rows[i]? = some p) : came few (rows.take (i + 1)) = came few (rows.take i) + p.2 * (if tg p.1 0 ∉ few then 1 else 0) := by
  unfold MS.came
  rw [take_succ_get h, List.map_append, List.sum_append]
  simp
/-! ### data of rows -/
theorem lay_row (p : List Int × Int) : (rowD p).canLay0 = true := by
  unfold rowD
  rw [lay_tup]
  exact lays_of fun d hd => by
    rcases List.mem_cons.mp hd with e | hd
    · rw [e]
      exact lay_tupI _
    · rw [List.mem_singleton.mp hd]
      exact lay_int _
theorem lay_rows (rows : List (List Int × Int)) : (PyData.list (rows.map rowD)).canLay0 = true := by
  rw [lay_lst]
  exact lays_of fun d hd => by
    obtain ⟨p, _, rfl⟩ := List.mem_map.mp hd
    exact lay_row p
theorem shaped_rows (rows : List (List Int × Int)) : SeqAt.shaped (.list (rows.map rowD)) = true := by
  refine shaped_of (lay_rows rows) ?_
  rw [depth_lst]
  have : PyData.depthAll (rows.map rowD) ≤ 8 := depths_le fun d hd => by
    obtain ⟨p, _, rfl⟩ := List.mem_map.mp hd
    exact depth_row p
  omega
theorem eqv_rows (rows : List (List Int × Int)) : PyData.eqv (.list (rows.map rowD)) (.list (rows.map rowD)) = true := SeqAt.eqv_refl _ (lay_rows rows)
theorem flat_rows (q : List (List Int × Int)) : flatDs (q.map rowD) = true := by
  induction q with
  | nil => rfl
  | cons b r ih =>
    show (flatD (rowD b) && flatDs (r.map rowD)) = true
    rw [ih, flat_row]
    rfl
theorem b01 (c : Prop) [Decidable c] : -(2 ^ 64) < (if c then (1 : Int) else 0) ∧ (if c then (1 : Int) else 0) < 2 ^ 64 := by
  split <;> exact ⟨by decide, by decide⟩
theorem dec_bl (a b : Bool) : decide (V.bl a = V.bl b) = decide (a = b) := by
  rw [decide_eq_decide]
  exact ⟨fun z => by injection z, fun z => by rw [z]⟩
def spComing (K : PySem.W.Frag) (CC CS : Addr) : Sp := fun vs H Q _ => ∃ (x y b a : V) (cs : List (Str × Str)) (rs : List Rul) (few more : List Int), vs = [x, y, b, a] ∧ CrewAt K CC H x cs ∧ cs.length ≤ 5 ∧ SchAt K CS H y rs ∧ Dp K H b (tupI few) ∧ Dp K H a (tupI more) ∧ GoodY cs.length few ∧ GoodY cs.length more ∧ (∀ w ∈ few, w ∈ more) ∧
  ∀ H', Same H H' → Q (.bl true) H'
section
variable {P : Program} {w : World} {K : PySem.W.Frag} {mg : Str → Option Value} {base : Heap} {C CS CV : Addr}
abbrev nComing : List Str := ["_law_hands", "_law_plan", "_law_few", "_law_more", "_law_total", "_law_shares", "_law_came", "_law_even", "_law_trail", "_law_many", "_law_moved", "_law_needed", "_law_idle", "_law_stays", "_law_least"]
theorem sc_coming : FnScope nComing ["_law_hands", "_law_plan", "_law_few", "_law_more"] (defScope sComing) := ⟨rfl, rfl, rfl, by decide +kernel, rfl, by decide +kernel, by decide +kernel⟩
/-- what the verdict says -/
theorem stays_iff {H : Hp} {v : V} {tk : Int → List Int → Bool} {ys : List (List Int)} {n : Nat} {q : Nat} {a dx : Addr} {t rv : V} (h3 : (rv = .non ∧ ∀ r ∈ perms n, ¬ FailP ys q (owns tk ys r)) ∨ ∃ r, Dp K H rv (lstI r) ∧ r ∈ perms n ∧ FailP ys q (owns tk ys r)) :
    decide (rv = V.non) = true ↔ ∀ r ∈ perms n, ¬ FailP ys q (owns tk ys r) := by
  rw [decide_eq_true_eq]
  constructor
  · intro e
    rcases h3 with h | ⟨r, hd, hr, hf⟩
    · exact h.2
    · rw [e] at hd
      cases hd
  · intro h
    rcases h3 with h' | ⟨r, hd, hr, hf⟩
    · exact h'.1
    · exact absurd hf (h r hr)
theorem fail2 {ys : List (List Int)} {t : List Int} : FailP ys 2 t ↔ NeedP ys t := Iff.rfl
theorem ok_coming {f : Addr} {fd : FuncData} (F : Fun K "_law_coming_fits" "_law_coming_fits" sComing f fd) (B : Bi mg) (LO : LenOf P w K mg base 1 C (spLen K C)) (F1 : Fn P w K mg base 7 "tally" (spTally K C CS)) (F2 : Fn P w K mg base 8 "moved_counts" (spMoved K C CS))
    (F3 : Fn P w K mg base 8 "needless" (spAsk K C CS CV 2)) (R : Pr P w K mg base 1 CV "holds" (spVHolds CV)) : FnOk P w K mg base CX0 9 f fd ["_law_hands", "_law_plan", "_law_few", "_law_more"] (spComing K C CS) := by
  refine F.ok sc_coming (fun vs H Q E h => ?_) (fun cdv A outer s H vs Q E hr h => ?_)
  · obtain ⟨x, y, b, a, cs, rs, few, more, rfl, _⟩ := h
    rfl
  · obtain ⟨x, y, b, a, cs, rs, few, more, rfl, hc, h5, hs, hb, ha, gb, ga, sub, k⟩ := h
    have nd := sc_coming.nd
    have hc1 : 1 ≤ cs.length := (id hc).elim fun _ ⟨_, _, _, _, _, h1, _⟩ => h1
    refine ⟨_, pss_cons (ps_set (i := 4) nd rfl (Or.inl rfl) (pe_ix ix_list (pe_lst (pa_cons pe_int (pa_cons pe_int (pa_cons pe_int (pa_cons pe_int (pa_cons pe_int pa_nil)))))) (pe_op op_sub (pe_callB (cr_lenO LO (hr.mono (by decide))) (by rfl) B.len PySem.boot_len (pa_cons (pv 0) pa_nil)) pe_int) (fun _ _ => rfl)))
      (pss_cons (ps_set (i := 5) nd rfl (Or.inl rfl) (pe_fn F1 hr (by decide) (pa_cons (pv 0) (pa_cons (pv 1) (pa_cons (pe_lst (pa_cons (pv 3) pa_nil)) pa_nil)))))
      (pss_cons (ps_set (i := 6) nd rfl (Or.inl rfl) pe_int)
      (pss_cons (ps_set (i := 7) nd rfl (Or.inl rfl) (pe_cmpR op_eq (pe_callB call_len_seq (by rfl) B.len PySem.boot_len (pa_cons (pv 5) pa_nil)) (pe_callB call_len_seq (by rfl) B.len PySem.boot_len (pa_cons (pv 3) pa_nil)) (nomark _)))
      (pss_cons (ps_for PassesOwn.never rfl (pi_list (pv 5)) (pg_tup rfl (pgs_cons (pg_name (i := 8) nd rfl (Or.inl rfl)) (pgs_cons (pg_name (i := 9) nd rfl (Or.inl rfl)) pgs_nil)))
        (pss_cons (ps_set (i := 6) nd rfl (Or.inl rfl) (pe_op op_add (pv 6) (pe_op op_mul (pv 9) (pe_callTy call_int1 (by rfl) B.int (by decide +kernel) (pa_cons (pe_cmpR op_notIn_seq (pe_ix ix_tup (pv 8) pe_int (fun _ _ => rfl)) (pv 2) (by rfl)) pa_nil)))))
        (pss_one (ps_set (i := 7) nd rfl (Or.inl rfl) (pe_and (pv 7) (pe_one (pe_cmpR op_eq (pe_op op_mul (pv 9) (pe_callB call_len_seq (by rfl) B.len PySem.boot_len (pa_cons (pv 3) pa_nil))) (pv 4) (nomark _))))))))
      (pss_cons (ps_asg (pe_fn F2 hr (by decide) (pa_cons (pv 0) (pa_cons (pv 1) (pa_cons (pv 2) (pa_cons (pv 3) pa_nil))))) (pg_tup rfl (pgs_cons (pg_name (i := 10) nd rfl (Or.inl rfl)) (pgs_cons (pg_name (i := 11) nd rfl (Or.inl rfl)) (pgs_cons (pg_name (i := 12) nd rfl (Or.inl rfl)) pgs_nil)))))
      (pss_cons (ps_if (PW.pt (pw_or (pt_cmpR op_ne (pv 11) (pv 6) (nomark _)) (pw_or1 (pt_cmpR op_ne (pv 10) (pe_op op_add (pv 6) (pv 12)) (nomark _))))) (pss_one ps_never) pss_nil)
      (pss_cons (ps_set (i := 13) nd rfl (Or.inl rfl) (pe_pr R hr (by decide) (pe_fn F3 hr (by decide) (pa_cons (pv 0) (pa_cons (pv 1) (pa_cons (pe_lst (pa_cons (pv 2) (pa_cons (pv 3) pa_nil))) pa_nil))))))
      (pss_cons (ps_if (pt_cmpR op_ne (pv 13) (pe_cmpR op_eq (pv 12) pe_int (nomark _)) (nomark _)) (pss_one ps_never) pss_nil)
      (pss_cons (ps_if (pt_not (pt_val (pv 7))) (pss_one (ps_ret pe_bl)) pss_nil)
      (pss_cons (ps_set (i := 14) nd rfl (Or.inl rfl) (pe_op op_fdiv (pe_op op_mul (pv 4) (pe_op op_sub (pe_callB call_len_seq (by rfl) B.len PySem.boot_len (pa_cons (pv 3) pa_nil)) (pe_callB call_len_seq (by rfl) B.len PySem.boot_len (pa_cons (pv 2) pa_nil)))) (pe_callB call_len_seq (by rfl) B.len PySem.boot_len (pa_cons (pv 3) pa_nil))))
      (pss_one (ps_ret (pe_and (pe_cmpR op_eq (pv 6) (pv 14) (nomark _)) (pe_and (pe_cmpR op_ge (pv 10) (pv 14) (nomark _)) (pe_one (pe_cmpR op_eq (pv 13) (pe_cmpR op_eq (pv 10) (pv 14) (nomark _)) (nomark _))))))))))))))))), ?_⟩
    obtain ⟨tat, tl, tu⟩ := total_at hc1 h5
    obtain ⟨T, hT⟩ : ∃ T : Int, T = ((perms cs.length).length : Int) := ⟨_, rfl⟩
    rw [← hT] at tat tl tu
    -- total
    refine ⟨small_le (show 5 ≤ 100000 by decide), fun l hl => ?_⟩
    have e1 := same_new (o := .lst (totals.map V.int)) hl
    refine ⟨_, rfl, len_use (hc.same e1) fun H2 e2 => ⟨_, _, rfl, rfl, l, _, (cs.length : Int) - 1, _, rfl, rfl, SqL.of (e2 _ _ upd_same), tat, ?_⟩⟩
    have e02 := e1.trans e2
    -- shares
    refine ⟨_, rfl, _, rfl, _, rfl, small_le (show 1 ≤ 100000 by decide), fun l3 hl3 => ?_⟩
    have e03 := e02.trans (same_new (o := .lst [a]) hl3)
    have hY : YdAt K (upd H2 l3 (.lst [a])) (V.ref l3) [more] cs.length := ⟨.lst (SqL.of upd_same) (.cons (dp_same e03 ha) .nil), (show 1 ≤ 1 by decide), (show 1 ≤ 8 by decide), fun y hy => by rw [List.mem_singleton.mp hy]; exact ga⟩
    refine ⟨x, y, V.ref l3, cs, rs, [more], rfl, hc.same e03, hs.same e03, hY, fun v1 r1 H4 e4 hv1 hr1 hrl => ?_⟩
    have e04 := e03.trans e4
    obtain ⟨sa, xs, rfl, hsa, hxs⟩ := dp_lst hv1
    have hlen : xs.length = r1.length := by rw [dps_len hxs, List.length_map]
    obtain ⟨ma, rfl, hma⟩ := dp_tupI ha
    obtain ⟨fa, rfl, hfa⟩ := dp_tupI hb
    have hml := ga.len
    have hfl := gb.len
    have hml0 : 1 ≤ more.length := List.length_pos_iff.mpr ga.ne
    refine ⟨_, rfl, sa, xs, rfl, .inl hsa, _, rfl, ma, _, rfl, .inr (same_seqT e04 hma), rfl, ?_⟩
    dsimp only
    rw [dec_int, hlen, List.length_map]
    -- the loop over the shares
    refine ⟨_, rfl, sa, rfl, ⟨_, hsa⟩, for_list (K := K) (a := sa) (xs := xs) (fun i σ H' => ∃ v8 v9 : Option V, σ = [some x, some y, some (.ref fa), some (.ref ma), some (.int T), some (.ref sa), some (.int (came few (r1.take i))), some (.bl (decide ((r1.length : Int) = (more.length : Int)) && (r1.take i).all fun p => decide (p.2 * (more.length : Int) = T))), v8, v9, none, none, none, none, none] ∧ H' = H4)
      ⟨none, none, by rw [show (r1.take 0).all (fun p => decide (p.2 * (more.length : Int) = T)) = true from rfl, Bool.and_true]; rfl, rfl⟩ (fun i σ H' _ ⟨_, _, _, e⟩ => e ▸ hsa) ?_ ?_⟩
    · rintro i v σ H5 hi ⟨v8, v9, rfl, rfl⟩
      obtain ⟨p, hp, hpd⟩ := dps_all hxs hi
      have hpl := row_len hr1 (List.mem_of_getElem? hp)
      obtain ⟨t, vt, vm, rfl, ht, hvt, hvm⟩ := dp_tup2 hpd
      cases hvm
      obtain ⟨tt, rfl, htt⟩ := dp_tupI hvt
      have hpl' : p.1.length = 1 := hpl
      refine ⟨t, _, rfl, ht, rfl, _, _, rfl, _, _, rfl, rfl, ?_⟩
      have hst := came_step (few := few) hp
      have hall : (r1.take (i + 1)).all (fun p => decide (p.2 * (more.length : Int) = T)) = ((r1.take i).all (fun p => decide (p.2 * (more.length : Int) = T)) && decide (p.2 * (more.length : Int) = T)) := by
        rw [take_succ_get hp, List.all_append]
        simp
      refine ⟨_, rfl, _, rfl, _, rfl, tt, _, 0, _, rfl, rfl, htt, atI_t (i := 0) (by omega) rfl, _, rfl, fa, _, rfl, .inr (same_seqT e04 hfa), rfl, flatV_ints _, .inr ⟨_, rfl, _, _, rfl, rfl, .inr (b01 _), _, _, rfl, rfl, ?_⟩⟩
      rw [if_pos rfl, inV_ints]
      have hca : came few (r1.take i) + p.2 * (if (!decide (tg p.1 0 ∈ few)) = true then 1 else 0) = came few (r1.take (i + 1)) := by
        rw [hst]
        congr 2
        by_cases c : tg p.1 0 ∈ few
        · have h1 : (if tg p.1 0 ∉ few then (1 : Int) else 0) = 0 := if_neg (fun z => z c)
          rw [h1, decide_eq_true c]
          rfl
        · have h1 : (if tg p.1 0 ∉ few then (1 : Int) else 0) = 1 := if_pos c
          rw [h1, decide_eq_false c]
          rfl
      dsimp only
      rw [hca]
      refine ⟨_, rfl, _, rfl, ?_⟩
      cases hev : (decide ((r1.length : Int) = (more.length : Int)) && (r1.take i).all fun p => decide (p.2 * (more.length : Int) = T)) with
      | true =>
        refine iteT ⟨_, rfl, _, rfl, ma, _, rfl, .inr (same_seqT e04 hma), _, _, rfl, rfl, .inr ?_, _, rfl, rfl, some (V.ref tt), some (V.int p.2), ?_, rfl⟩
        · rw [List.length_map]
          exact ⟨by omega, by omega⟩
        · dsimp only
          rw [dec_int, List.length_map, hall, ← Bool.and_assoc, hev, Bool.true_and]
          rfl
      | false =>
        refine iteF ⟨some (V.ref tt), some (V.int p.2), ?_, rfl⟩
        rw [hall, ← Bool.and_assoc, hev, Bool.false_and]
        rfl
    · rintro σ H5 ⟨v8, v9, rfl, rfl⟩
      rw [hlen, List.take_length]
      -- moved, needed, idle
      refine ⟨_, rfl, _, rfl, _, rfl, _, rfl, x, y, V.ref fa, V.ref ma, cs, rs, few, more, rfl, hc.same e04, hs.same e04, dp_same e04 hb, dp_same e04 ha, gb, ga, fun v2 r2 H6 e6 hr2 hv2 => ?_⟩
      obtain ⟨t3, rfl, ht3⟩ := dp_tupI hv2
      refine ⟨t3, _, rfl, ht3, rfl, _, _, rfl, _, _, rfl, _, _, rfl, rfl, ?_⟩
      have hcame : cnt false [few, more] r2 = came few r1 := MS.came_eq hr1 hr2 sub ga.mem gb.ne
      obtain ⟨I, hI⟩ : ∃ I : Int, I = cnt true [few, more] r2 := ⟨_, rfl⟩
      have hI0 : 0 ≤ I := by rw [hI]; exact MS.idle_nonneg hr2.tal true
      have hIz : I = 0 ↔ ∀ r ∈ perms cs.length, ¬ NeedP [few, more] (owns (tkM cs rs) [few, more] r) := by
        rw [hI, MS.idle_zero hr2.tal]
        exact ⟨fun h r hr => h _ (List.mem_map.mpr ⟨r, hr, rfl⟩), fun h z hz => by obtain ⟨r, hr, rfl⟩ := List.mem_map.mp hz; exact h r hr⟩
      obtain ⟨D, hD⟩ : ∃ D : Int, D = came few r1 := ⟨_, rfl⟩
      rw [hcame, ← hI, ← hD]
      refine ⟨_, rfl, _, rfl, rfl, _, rfl, ?_⟩
      rw [decide_eq_true rfl]
      refine iteF ⟨_, rfl, _, rfl, _, rfl, _, _, rfl, rfl, rfl, _, rfl, ?_⟩
      rw [decide_eq_true rfl]
      refine iteF ?_
      -- stays
      have e06 := e04.trans e6
      refine ⟨_, rfl, _, rfl, _, rfl, _, rfl, small_le (show 2 ≤ 100000 by decide), fun l7 hl7 => ?_⟩
      have e07 := e06.trans (same_new (o := .lst [V.ref fa, V.ref ma]) hl7)
      have hY2 : YdAt K (upd H6 l7 (.lst [V.ref fa, V.ref ma])) (V.ref l7) [few, more] cs.length := ⟨.lst (SqL.of upd_same) (.cons (dp_same e07 hb) (.cons (dp_same e07 ha) .nil)), (show 1 ≤ 2 by decide), (show 2 ≤ 8 by decide), fun y hy => by
        rcases List.mem_cons.mp hy with rfl | hy
        · exact gb
        · rw [List.mem_singleton.mp hy]
          exact ga⟩
      refine ⟨x, y, V.ref l7, cs, rs, [few, more], rfl, hc.same e07, hs.same e07, hY2, fun vv H8 e8 hvd => ?_⟩
      obtain ⟨va, vdx, vt, rv, rfl, hva, hvr⟩ := hvd
      have e08 := e07.trans e8
      have hst := stays_iff (v := .non) (a := 0) (dx := 0) (t := .non) hvr
      obtain ⟨sb, hsb⟩ : ∃ sb, sb = decide (rv = V.non) := ⟨_, rfl⟩
      rw [← hsb] at hst
      have hsI : sb = decide (I = 0) := by
        rw [Bool.eq_iff_iff, hst, decide_eq_true_eq, hIz]
        exact Iff.rfl
      refine ⟨va, vdx, _, rfl, hva, va, vdx, vt, rv, rfl, hva, ?_⟩
      rw [← hsb]
      refine ⟨_, rfl, _, rfl, rfl, rfl, _, rfl, ?_⟩
      rw [dec_int, dec_bl, hsI, decide_eq_true rfl]
      refine iteF ⟨_, rfl, _, rfl, ?_⟩
      cases hev : (decide ((r1.length : Int) = (more.length : Int)) && r1.all fun p => decide (p.2 * (more.length : Int) = T)) with
      | false => exact iteT (k _ e08)
      | true =>
        rw [Bool.and_eq_true, decide_eq_true_eq, List.all_eq_true] at hev
        have hev2 : came few r1 * (more.length : Int) = T * ((more.length : Int) - (few.length : Int)) := MS.came_even hr1 sub ga.mem gb.ne (nodup_len gb.inc) (nodup_len ga.inc) (by have := hev.1; omega) fun p hp => of_decide_eq_true (hev.2 p hp)
        rw [← hD] at hev2
        refine iteF ⟨_, rfl, _, rfl, ma, _, rfl, .inr (same_seqT e08 hma), _, rfl, fa, _, rfl, .inr (same_seqT e08 hfa), _, _, rfl, rfl, _, _, rfl, rfl, .inl ⟨by omega, by omega⟩, _, rfl, ma, _, rfl, .inr (same_seqT e08 hma), _, _, rfl, rfl, ⟨?_, ?_⟩, ?_⟩
        · rw [List.length_map]
          omega
        · rw [List.length_map]
          omega
        have hdiv : T * ((more.length : Int) - (few.length : Int)) / (more.length : Int) = D := by
          rw [← hev2]
          exact Int.mul_ediv_cancel _ (by omega)
        dsimp only
        rw [List.length_map, List.length_map, hdiv]
        refine ⟨_, rfl, _, rfl, rfl, _, rfl, ?_⟩
        rw [decide_eq_true rfl]
        refine iteT ⟨_, rfl, _, rfl, _, _, rfl, rfl, _, rfl, ?_⟩
        dsimp only
        rw [decide_eq_true (by omega)]
        refine iteT ⟨_, rfl, _, rfl, _, rfl, rfl, rfl, ?_⟩
        rw [dec_int, dec_bl, show decide (D + I = D) = decide (I = 0) from by rw [decide_eq_decide]; omega, decide_eq_true rfl]
        exact k _ e08
end
end MW

/-! The law's parts: equal shares, the yards turned round, a worker beside. -/
namespace MW
open PySem PySem.Spec PyProof.Rows L2
open MS (ws free begs perms own owns mem_ws mem_perms mem_begs anyTk)

abbrev sSameT : Stmt := top 76
abbrev sBeside : Stmt := top 78
theorem any_tk (cs : List (Str × Str)) : tkM cs [⟨.any, []⟩] = anyTk := by
  funext w s
  rfl
theorem rows_back {ys : List (List Int)} : (ys.map tupI).reverse = ys.reverse.map tupI := (List.map_reverse ..).symm
theorem dps_rev {K : PySem.W.Frag} {H : Hp} {vs : List V} {ds : List PyData} (h : DpAll K H vs ds) : DpAll K H vs.reverse ds.reverse := by
  induction vs generalizing ds with
  | nil =>
    cases h
    exact .nil
  | cons v r ih =>
    cases h with
    | cons h t =>
      rw [List.reverse_cons, List.reverse_cons]
      exact dps_append (ih t) (.cons h .nil)
def spShares (K : PySem.W.Frag) (CC : Addr) : Sp := fun vs H Q _ => ∃ (x a : V) (cs : List (Str × Str)) (y : List Int), vs = [x, a] ∧ CrewAt K CC H x cs ∧ cs.length ≤ 5 ∧ Dp K H a (tupI y) ∧ GoodY cs.length y ∧ ∀ H', Same H H' → Q (.bl true) H'
def spSameT (K : PySem.W.Frag) (CC CS : Addr) : Sp := fun vs H Q _ => ∃ (x y z u : V) (cs : List (Str × Str)) (rs : List Rul) (ys : List (List Int)) (rows : List (List Int × Int)), vs = [x, y, z, u] ∧ CrewAt K CC H x cs ∧ SchAt K CS H y rs ∧ YdAt K H z ys cs.length ∧ Dp K H u (.list (rows.map rowD)) ∧
  MS.Rows rows ((perms cs.length).map (owns (tkM cs rs) ys)) ∧ rows.length ≤ 46656 ∧ ∀ H', Same H H' → Q (.bl true) H'
section
variable {P : Program} {w : World} {K : PySem.W.Frag} {mg : Str → Option Value} {base : Heap} {C CS CV : Addr}
abbrev nShares : List Str := ["_law_hands", "_law_spot_here", "_law_total", "_law_rows", "_law_worker"]
theorem sc_shares : FnScope nShares ["_law_hands", "_law_spot_here"] (defScope sShares) := ⟨rfl, rfl, rfl, by decide +kernel, rfl, by decide +kernel, by decide +kernel⟩
theorem ok_shares {f : Addr} {fd : FuncData} (F : Fun K "_law_shares_equally" "_law_shares_equally" sShares f fd) (B : Bi mg) (LO : LenOf P w K mg base 1 C (spLen K C)) (mgS : mg "Scheme" = some (.ref CS)) (NS : Cn P w K mg base 1 CS (spSInit K CS)) (F1 : Fn P w K mg base 7 "tally" (spTally K C CS)) :
    FnOk P w K mg base CX0 8 f fd ["_law_hands", "_law_spot_here"] (spShares K C) := by
  refine F.ok sc_shares (fun vs H Q E h => ?_) (fun cdv A outer s H vs Q E hr h => ?_)
  · obtain ⟨x, a, cs, y, rfl, _⟩ := h
    rfl
  · obtain ⟨x, a, cs, y, rfl, hc, h5, ha, gy, k⟩ := h
    have nd := sc_shares.nd
    have hu := hr.units
    have hc1 : 1 ≤ cs.length := (id hc).elim fun _ ⟨_, _, _, _, _, h1, _⟩ => h1
    refine ⟨_, pss_cons (ps_set (i := 2) nd rfl (Or.inr rfl) (pe_ix ix_list (pe_lst (pa_cons pe_int (pa_cons pe_int (pa_cons pe_int (pa_cons pe_int (pa_cons pe_int pa_nil)))))) (pe_op op_sub (pe_callB (cr_lenO LO (hr.mono (by decide))) (by rfl) B.len PySem.boot_len (pa_cons (pv 0) pa_nil)) pe_int) (fun _ _ => rfl)))
      (pss_cons (ps_setLc (i := 3) (own := [("_law_worker", 4)]) (g := gName 4) (tt := tYes) rfl nd rfl rfl (sw_true rfl rfl rfl (by decide +kernel)) (pi_tup (pv 1)) (blkOk_by (own := [("_law_worker", 4)]) (N := nShares) (sc := defScope sShares) (by decide +kernel)) (fun _ _ _ _ _ => pg_name (i := 4) nd rfl (Or.inl rfl))
          (fun _ _ _ _ _ => pts_nil) (fun _ _ _ _ _ => pe_tup (pa_cons (pe_tup (pa_cons (pv 4) pa_nil)) (pa_cons (pe_op op_fdiv (pv 2) (pe_callB (lenK K) (by rfl) B.len PySem.boot_len (pa_cons (pv 1) pa_nil))) pa_nil))))
      (pss_one (ps_ret (pe_cmpR (op_eqD hu) (pe_fn F1 hr (by decide) (pa_cons (pv 0) (pa_cons (pe_new NS hr (by decide) mgS (pa_cons (pe_lst (pa_cons (pe_tup (pa_cons (pe_tup (pa_cons pe_str pa_nil)) (pa_cons (pe_tup pa_nil) pa_nil))) pa_nil)) pa_nil)) (pa_cons (pe_lst (pa_cons (pv 1) pa_nil)) pa_nil)))) (pv 3) (nomark _))))), ?_⟩
    obtain ⟨tat, tl, tu⟩ := total_at hc1 h5
    obtain ⟨ma, rfl, hma⟩ := dp_tupI ha
    have hyl := gy.len
    have hy0 : 1 ≤ y.length := List.length_pos_iff.mpr gy.ne
    refine ⟨small_le (show 5 ≤ 100000 by decide), fun l hl => ?_⟩
    have e1 := same_new (o := .lst (totals.map V.int)) hl
    refine ⟨_, rfl, len_use (hc.same e1) fun H2 e2 => ⟨_, _, rfl, rfl, l, _, (cs.length : Int) - 1, _, rfl, rfl, SqL.of (e2 _ _ upd_same), tat, ?_⟩⟩
    have e02 := e1.trans e2
    -- the rows that are due
    refine ⟨_, rfl, ma, rfl, ⟨_, same_seqT e02 hma⟩, fun D hD => lc_data (K := K) walk_tup (fun _ => true) (fun i => rowD ([y.getD i 0], ((perms cs.length).length : Int) / (y.length : Int))) (fun i _ => flat_row _) (by rw [List.length_map]; omega) hD (fun H' e => same_seqT (e02.trans e) hma) ?_ ?_⟩
    · rintro i v H3 H3' hi e ⟨rfl, hv⟩
      obtain ⟨n, hn, rfl⟩ := map_get hv
      have en : y.getD i 0 = n := getD_of hn
      refine ⟨Same.refl _, _, eg_name, rfl, et_yes.weak fun b' H5 h5 => ⟨h5.1, h5.2 ▸ Same.refl _⟩, fun _ H5 e5 Q' q => ?_⟩
      rw [en] at q
      refine ⟨_, rfl, small_le (show 1 ≤ 100000 by decide), fun t ht => ?_⟩
      have e6 := same_new (o := .tup [V.int n]) ht
      refine ⟨_, rfl, _, rfl, ma, _, rfl, .inr (same_seqT (((e02.trans e).trans e5).trans e6) hma), _, _, rfl, rfl, ⟨by rw [List.length_map]; omega, by rw [List.length_map]; omega⟩, ?_⟩
      dsimp only
      rw [List.length_map]
      refine ⟨small_le (show 2 ≤ 100000 by decide), fun t2 ht2 => q _ _ ⟨e6.trans (same_new ht2), .tup (SqT.of upd_same) (.cons (tupI_of (ns := [n]) (SqT.of ((same_new ht2) _ _ upd_same))) (.cons (.int _) .nil))⟩⟩
    · intro H3 acc e3 hacc hda
      rw [List.length_map, mapD_list y 0 (fun n => rowD ([n], ((perms cs.length).length : Int) / (y.length : Int)))] at hda
      have e03 := e02.trans e3
      -- Scheme([(('any',), ())])
      refine ⟨_, rfl, small_le (show 1 ≤ 100000 by decide), fun t ht => ?_⟩
      have e4 := same_new (o := .tup [V.str "any"]) ht
      refine ⟨Nat.zero_le _, fun t2 ht2 => ?_⟩
      have e5 := same_new (o := .tup []) ht2
      refine ⟨small_le (show 2 ≤ 100000 by decide), fun t3 ht3 => ?_⟩
      have e6 := same_new (o := .tup [V.ref t, V.ref t2]) ht3
      refine ⟨small_le (show 1 ≤ 100000 by decide), fun l4 hl4 => ?_⟩
      have e7 := same_new (o := .lst [V.ref t3]) hl4
      intro ix dx hix hdx ne
      have e8 := same_ins (C := CS) hix hdx
      have e58 := ((e5.trans e6).trans e7).trans e8
      have e68 := (e6.trans e7).trans e8
      have e78 := e7.trans e8
      have hrs : Dp K _ (V.ref l4) (.list ([(⟨.any, []⟩ : Rul)].map rD)) := .lst (SqL.of (e8 _ _ upd_same)) (.cons (.tup (SqT.of (e78 _ _ upd_same)) (.cons (.tup (SqT.of (e58 _ _ upd_same)) (.cons (.str _) .nil)) (.cons (.tup (xs := []) (SqT.of (e68 _ _ upd_same)) .nil) .nil))) .nil)
      refine ⟨ix, dx, V.ref l4, [⟨.any, []⟩], rfl, upd_same, hrs, (show 1 ≤ 4 by decide), fun r hr1 => by rw [List.mem_singleton.mp hr1]; exact ⟨trivial, Nat.zero_le _, fun _ h => nomatch h⟩, fun H9 hsc _ ho => ⟨rfl, ?_⟩⟩
      have e9 : Same H9 H9 := Same.refl _
      have e49 := same_off ((e4.trans e58)) ho (none_back (((e4.trans e5).trans e6).trans e7) hix)
      have e09 := e03.trans e49
      refine ⟨_, rfl, small_le (show 1 ≤ 100000 by decide), fun l5 hl5 => ?_⟩
      have e10 := same_new (o := .lst [V.ref ma]) hl5
      have e010 := e09.trans e10
      have hY : YdAt K (upd H9 l5 (.lst [V.ref ma])) (V.ref l5) [y] cs.length := ⟨.lst (SqL.of upd_same) (.cons (dp_same e010 ha) .nil), (show 1 ≤ 1 by decide), (show 1 ≤ 8 by decide), fun z hz => by rw [List.mem_singleton.mp hz]; exact gy⟩
      refine ⟨x, V.ref ix, V.ref l5, cs, [⟨.any, []⟩], [y], rfl, hc.same e010, hsc.same e10, hY, fun v1 r1 H11 e11 hv1 hr1 hrl => ?_⟩
      rw [any_tk] at hr1
      have heq := MS.shares_rows ⟨gy.ne, gy.mem⟩ gy.inc hr1
      have hdue : Dp K H11 (V.ref D) (.list (r1.map rowD)) := by
        rw [heq, List.map_map]
        exact dp_same ((e49.trans e10).trans e11) (.lst (SqL.of hacc) hda)
      refine ⟨_, rfl, _, _, hv1, hdue, shaped_rows _, shaped_rows _, ?_⟩
      rw [eqv_rows]
      exact k _ (e010.trans e11)
abbrev nSameT : List Str := ["_law_hands", "_law_plan", "_law_spots", "_law_rows", "_law_back", "_law_trail", "_law_many"]
theorem sc_sameT : FnScope nSameT ["_law_hands", "_law_plan", "_law_spots", "_law_rows"] (defScope sSameT) := ⟨rfl, rfl, rfl, by decide +kernel, rfl, by decide +kernel, by decide +kernel⟩
theorem ok_sameT {f : Addr} {fd : FuncData} (F : Fun K "_law_same_turned" "_law_same_turned" sSameT f fd) (B : Bi mg) (F1 : Fn P w K mg base 7 "tally" (spTally K C CS)) (F2 : Fn P w K mg base 1 "_law_turned" (spTurned K)) :
    FnOk P w K mg base CX0 8 f fd ["_law_hands", "_law_plan", "_law_spots", "_law_rows"] (spSameT K C CS) := by
  refine F.ok sc_sameT (fun vs H Q E h => ?_) (fun cdv A outer s H vs Q E hr h => ?_)
  · obtain ⟨x, y, z, u, cs, rs, ys, rows, rfl, _⟩ := h
    rfl
  · obtain ⟨x, y, z, u, cs, rs, ys, rows, rfl, hc, hs, hy, hu0, hrows, hrl, k⟩ := h
    have nd := sc_sameT.nd
    have hu := hr.units
    refine ⟨_, pss_cons (ps_set (i := 4) nd rfl (Or.inl rfl) (pe_callB (cr_sortD hu) (by rfl) B.sorted (by decide +kernel) (pa_cons (pe_lc (own := [("_law_trail", 5), ("_law_many", 6)]) (g := gTup K 2 (gCons (gName 5) (gCons (gName 6) gNil))) (tt := tYes) rfl nd (pi_list (pv 3))
        (blkOk_by (own := [("_law_trail", 5), ("_law_many", 6)]) (N := nSameT) (sc := defScope sSameT) (by decide +kernel)) (fun _ _ _ _ _ => pg_tup rfl (pgs_cons (pg_name (i := 5) nd rfl (Or.inl rfl)) (pgs_cons (pg_name (i := 6) nd rfl (Or.inl rfl)) pgs_nil))) (fun _ _ _ _ _ => pts_nil)
        (fun _ _ _ _ _ => pe_tup (pa_cons (pe_fn F2 hr (by decide) (pa_cons (pv 5) pa_nil)) (pa_cons (pv 6) pa_nil)))) pa_nil)))
      (pss_one (ps_ret (pe_cmpR (op_eqD hu) (pe_fn F1 hr (by decide) (pa_cons (pv 0) (pa_cons (pv 1) (pa_cons (pe_callTy call_list_of (by rfl) B.list (by decide +kernel) (pa_cons (pe_fn F2 hr (by decide) (pa_cons (pv 2) pa_nil)) pa_nil)) pa_nil)))) (pv 4) (nomark _)))), ?_⟩
    obtain ⟨ua, xs, rfl, hua, hxs⟩ := dp_lst hu0
    have hlen : xs.length = rows.length := by rw [dps_len hxs, List.length_map]
    refine ⟨_, rfl, ua, rfl, ⟨_, hua⟩, fun D hD => lc_data (K := K) walk_list (fun _ => true) (fun i => rowD ((rows.getD i ([], 0)).1.reverse, (rows.getD i ([], 0)).2)) (fun i _ => flat_row _) (by omega) hD (fun H' e => e.seq hua) ?_ ?_⟩
    · rintro i v H1 H1' hi e ⟨rfl, hv⟩
      obtain ⟨p, hp, hd⟩ := dps_all hxs hv
      have en : rows.getD i ([], 0) = p := getD_of hp
      have hpl := row_len hrows (List.mem_of_getElem? hp)
      have hy8 := hy.2.2.1
      obtain ⟨t, vt, vm, rfl, ht, hvt, hvm⟩ := dp_tup2 (dp_same e hd)
      cases hvm
      obtain ⟨tt, rfl, htt⟩ := dp_tupI hvt
      refine ⟨Same.refl _, _, eg_pair ht, rfl, et_yes.weak fun b' H3 h3 => ⟨h3.1, h3.2 ▸ Same.refl _⟩, fun _ H3 e3 Q' q => ?_⟩
      rw [en] at q
      refine ⟨_, rfl, tt, _, rfl, .inr (same_seqT e3 htt), by rw [List.length_map]; omega, fun t4 H4 e4 ht4 => ⟨_, rfl, small_le (show 2 ≤ 100000 by decide), fun t5 ht5 => ?_⟩⟩
      rw [← List.map_reverse] at ht4
      have e5 := same_new (o := .tup [V.ref t4, V.int p.2]) ht5
      exact q _ _ ⟨e4.trans e5, .tup (SqT.of upd_same) (.cons (tupI_of (SqT.of (e5 _ _ ht4))) (.cons (.int _) .nil))⟩
    · intro H1 acc e1 hacc hda
      rw [hlen, mapD_list rows ([], 0) (fun p => rowD (p.1.reverse, p.2))] at hda
      -- the items with what they are
      obtain ⟨kl, hk1, hk2, hk3⟩ : ∃ kl : List (V × (List Int × Int)), kl.map (·.1) = acc ∧ kl.map (·.2) = rows.map (fun p => (p.1.reverse, p.2)) ∧ ∀ q ∈ kl, Dp K H1 q.1 (rowD q.2) := by
        have : ∀ (l : List (List Int × Int)) (acc : List V), DpAll K H1 acc (l.map rowD) → ∃ kl : List (V × (List Int × Int)), kl.map (·.1) = acc ∧ kl.map (·.2) = l ∧ ∀ q ∈ kl, Dp K H1 q.1 (rowD q.2) := by
          intro l
          induction l with
          | nil =>
            intro acc h
            cases h
            exact ⟨[], rfl, rfl, fun _ h => nomatch h⟩
          | cons p l ih =>
            intro acc h
            cases h with
            | @cons v _ _ _ h t =>
              obtain ⟨kl, h1, h2, h3⟩ := ih _ t
              refine ⟨(v, p) :: kl, by rw [List.map_cons, h1], by rw [List.map_cons, h2], fun q hq => ?_⟩
              rcases List.mem_cons.mp hq with e | e
              · rw [e]
                exact h
              · exact h3 q e
        refine this _ acc ?_
        rw [List.map_map]
        exact hda
      refine sort_use (fun q : V × (List Int × Int) => q.1) (fun q => rowD q.2) kl (by rw [hk1]; exact SqL.of hacc) hk3 (fun _ _ => alike_row _ _) (fun _ _ => ⟨_, _, rfl⟩) (fun _ => depth_row _) fun p kl' hp perm pw => ?_
      have e2 := same_new (o := .lst (kl'.map fun q : V × (List Int × Int) => q.1)) hp
      have hback : Dp K (upd H1 p (.lst (kl'.map fun q : V × (List Int × Int) => q.1))) (V.ref p) (.list ((kl'.map (·.2)).map rowD)) := by
        refine .lst (SqL.of upd_same) ?_
        have : ∀ l : List (V × (List Int × Int)), (∀ q ∈ l, q ∈ kl) → DpAll K (upd H1 p (.lst (kl'.map fun q : V × (List Int × Int) => q.1))) (l.map fun q => q.1) ((l.map (·.2)).map rowD) := by
          intro l
          induction l with
          | nil => intro _; exact .nil
          | cons q l ih => exact fun h => .cons (dp_same e2 (hk3 q (h q List.mem_cons_self))) (ih fun q' hq' => h q' (List.mem_cons_of_mem _ hq'))
        exact this kl' fun q hq => perm.mem_iff.mp hq
      have e02 := e1.trans e2
      -- tally of the yards turned
      obtain ⟨hyd, hy1, hy8, hyg⟩ := id hy
      obtain ⟨za, zs, rfl, hza, hzs⟩ := dp_lst hyd
      have hzl : zs.length = ys.length := by rw [dps_len hzs, List.length_map]
      refine ⟨_, rfl, _, rfl, _, rfl, za, zs, rfl, .inl (e02.seq hza), by omega, fun t H3 e3 ht3 => ?_⟩
      refine ⟨t, _, rfl, .inr (SqT.of ht3), fun l hl => ?_⟩
      have e4 := same_new (o := .lst zs.reverse) hl
      have e34 := e3.trans e4
      have e04 := e02.trans e34
      have hY : YdAt K (upd H3 l (.lst zs.reverse)) (V.ref l) ys.reverse cs.length := by
        refine ⟨.lst (SqL.of upd_same) ?_, by rw [List.length_reverse]; exact hy1, by rw [List.length_reverse]; exact hy8, fun y hy => hyg y (List.mem_reverse.mp hy)⟩
        rw [← rows_back]
        exact dps_rev (dps_same e04 hzs)
      refine ⟨x, y, V.ref l, cs, rs, ys.reverse, rfl, hc.same e04, hs.same e04, hY, fun v1 r1 H5 e5 hv1 hr1 hrl1 => ?_⟩
      have heq : r1 = kl'.map (·.2) := by
        refine MS.turned_rows hrows hr1 ?_ ?_
        · rw [← hk2]
          exact perm.map _
        · rw [List.pairwise_map]
          refine pw.imp fun {a b} h hne => ?_
          rw [lt_row (Ne.symm hne)] at h
          exact of_decide_eq_false h
      refine ⟨_, rfl, _, _, hv1, dp_same (e34.trans e5) (heq ▸ hback), shaped_rows _, shaped_rows _, ?_⟩
      rw [eqv_rows]
      exact k _ (e04.trans e5)
end
end MW

/-! The law's parts: a worker beside; the verdicts fit the tally. -/
namespace MW
open PySem PySem.Spec PyProof.Rows L2
open MS (ws free begs perms own owns mem_ws mem_perms mem_begs FailP)

theorem mk_workers {ms : List Str} {t : Nat} {w : Int} (hw : w ∈ ws ms.length) : mkOf (workersL ms t) w = ms.getD w.toNat "" := by
  have hm := mem_ws.mp hw
  have hl : w.toNat < ms.length := by omega
  unfold mkOf workersL
  rw [getD_of (x := (lawNames.getD ((w.toNat * 5 + t) % 6) "", ms.getD w.toNat ""))]
  rw [List.getElem?_map, List.getElem?_range hl]
  rfl
theorem workers_len (ms : List Str) (t : Nat) : (workersL ms t).length = ms.length := by unfold workersL; rw [List.length_map, List.length_range]
theorem GoodY.mono {n m : Nat} {y : List Int} (h : n ≤ m) (g : GoodY n y) : GoodY m y := ⟨g.ne, g.inc, fun w hw => by
  have := mem_ws.mp (g.mem w hw)
  exact mem_ws.mpr ⟨this.1, by omega⟩⟩
def spBeside (K : PySem.W.Frag) (CS : Addr) : Sp := fun vs H Q _ => ∃ (ml : Addr) (y z u : V) (ms : List Str) (cs : List (Str × Str)) (rs : List Rul) (ys : List (List Int)) (rows : List (List Int × Int)), vs = [.ref ml, y, z, u] ∧ H ml = some (.lst (ms.map V.str)) ∧ (∀ m ∈ ms, makeOk m) ∧ 1 ≤ ms.length ∧ ms.length ≤ 4 ∧
  (∀ w ∈ ws ms.length, mkOf cs w = ms.getD w.toNat "") ∧ SchAt K CS H y rs ∧ YdAt K H z ys ms.length ∧ Dp K H u (.list (rows.map rowD)) ∧ MS.Rows rows ((perms ms.length).map (owns (tkM cs rs) ys)) ∧ rows.length ≤ 46656 ∧ ∀ H', Same H H' → Q (.bl true) H'
section
variable {P : Program} {w : World} {K : PySem.W.Frag} {mg : Str → Option Value} {base : Heap} {C CS CV : Addr}
abbrev nBeside : List Str := ["_law_makes_here", "_law_plan", "_law_spots", "_law_rows", "_law_hands", "_law_due", "_law_row"]
theorem sc_beside : FnScope nBeside ["_law_makes_here", "_law_plan", "_law_spots", "_law_rows"] (defScope sBeside) := ⟨rfl, rfl, rfl, by decide +kernel, rfl, by decide +kernel, by decide +kernel⟩
theorem ok_beside {f : Addr} {fd : FuncData} (F : Fun K "_law_same_beside" "_law_same_beside" sBeside f fd) (B : Bi mg) (LO : LenOf P w K mg base 1 C (spLen K C)) (mgC : mg "Crew" = some (.ref C)) (NC : Cn P w K mg base 3 C (spCInit K C)) (F1 : Fn P w K mg base 7 "tally" (spTally K C CS)) (F2 : Fn P w K mg base 1 "_law_workers" (spWorkers K)) :
    FnOk P w K mg base CX0 8 f fd ["_law_makes_here", "_law_plan", "_law_spots", "_law_rows"] (spBeside K CS) := by
  refine F.ok sc_beside (fun vs H Q E h => ?_) (fun cdv A outer s H vs Q E hr h => ?_)
  · obtain ⟨ml, y, z, u, ms, cs, rs, ys, rows, rfl, _⟩ := h
    rfl
  · obtain ⟨ml, y, z, u, ms, cs, rs, ys, rows, rfl, hml, hmo, h1, h4, hmk, hs, hy, hu0, hrows, hrl, k⟩ := h
    have nd := sc_beside.nd
    have hu := hr.units
    refine ⟨_, pss_cons (ps_set (i := 4) nd rfl (Or.inr rfl) (pe_new NC hr (by decide) mgC (pa_cons (pe_fn F2 hr (by decide) (pa_cons (pe_op op_cat (pv 0) (pe_lst (pa_cons pe_str pa_nil))) (pa_cons pe_int pa_nil))) pa_nil)))
      (pss_cons (ps_setLc (i := 5) (own := [("_law_row", 6)]) (g := gName 6) (tt := tYes) rfl nd rfl rfl (sw_true rfl rfl rfl (by decide +kernel)) (pi_list (pv 3)) (blkOk_by (own := [("_law_row", 6)]) (N := nBeside) (sc := defScope sBeside) (by decide +kernel)) (fun _ _ _ _ _ => pg_name (i := 6) nd rfl (Or.inl rfl))
          (fun _ _ _ _ _ => pts_nil) (fun _ _ _ _ _ => pe_tup (pa_cons (pe_ix (ix_tupK K) (pv 6) pe_int (fun _ _ => rfl)) (pa_cons (pe_op op_mul (pe_ix (ix_tupK K) (pv 6) pe_int (fun _ _ => rfl)) (pe_callB (cr_lenO LO (hr.mono (by decide))) (by rfl) B.len PySem.boot_len (pa_cons (pv 4) pa_nil))) pa_nil))))
      (pss_one (ps_ret (pe_cmpR (op_eqD hu) (pe_fn F1 hr (by decide) (pa_cons (pv 4) (pa_cons (pv 1) (pa_cons (pv 2) pa_nil)))) (pv 5) (nomark _))))), ?_⟩
    refine ⟨_, rfl, small_le (show 1 ≤ 100000 by decide), fun l hl => ?_⟩
    have e1 := same_new (o := .lst [V.str "b"]) hl
    refine ⟨ml, l, _, [V.str "b"], rfl, rfl, e1 _ _ hml, upd_same, small_le (by rw [List.length_map, List.length_singleton]; omega), fun l2 hl2 => ?_⟩
    have hap : ms.map V.str ++ [V.str "b"] = (ms ++ [("b" : Str)]).map V.str := by rw [List.map_append]; rfl
    rw [hap]
    have e2 := e1.trans (same_new (o := .lst ((ms ++ [("b" : Str)]).map V.str)) hl2)
    have hml2 : (ms ++ [("b" : Str)]).length = ms.length + 1 := by rw [List.length_append]; rfl
    have hmo2 : ∀ m ∈ ms ++ [("b" : Str)], makeOk m := fun m hm => by
      rcases List.mem_append.mp hm with h | h
      · exact hmo m h
      · rw [List.mem_singleton.mp h]
        exact .inr (.inl rfl)
    refine ⟨V.ref l2, ms ++ [("b" : Str)], 3, rfl, words_of (SqL.of upd_same), by omega, by decide, fun vw H3 e3 hvw => ?_⟩
    intro ix dx hix hdx ne
    have e4 := same_ins (C := C) hix hdx
    obtain ⟨cs', hcs'⟩ : ∃ cs', cs' = workersL (ms ++ [("b" : Str)]) 3 := ⟨_, rfl⟩
    rw [← hcs'] at hvw
    have hcl : cs'.length = ms.length + 1 := by rw [hcs', workers_len, hml2]
    refine ⟨ix, dx, vw, cs', rfl, upd_same, dp_same e4 hvw, hcs' ▸ workers_ok hmo2 (by omega) (by omega) (by decide), fun H5 hcr ho => ⟨rfl, ?_⟩⟩
    have e03 := e2.trans e3
    have e05 := e03.trans (same_off e4 ho hix)
    obtain ⟨ua, xs, rfl, hua, hxs⟩ := dp_lst hu0
    have hlen : xs.length = rows.length := by rw [dps_len hxs, List.length_map]
    refine ⟨_, rfl, ua, rfl, ⟨_, e05.seq hua⟩, fun D hD => lc_data (K := K) walk_list (fun _ => true) (fun i => rowD ((rows.getD i ([], 0)).1, (rows.getD i ([], 0)).2 * ((ms.length : Int) + 1))) (fun i _ => flat_row _) (by omega) hD (fun H' e => (e05.trans e).seq hua) ?_ ?_⟩
    · rintro i v H6 H6' hi e ⟨rfl, hv⟩
      obtain ⟨p, hp, hd⟩ := dps_all hxs hv
      have en : rows.getD i ([], 0) = p := getD_of hp
      obtain ⟨t, vt, vm, rfl, ht, hvt, hvm⟩ := dp_tup2 (dp_same (e05.trans e) hd)
      cases hvm
      refine ⟨Same.refl _, _, eg_name, rfl, et_yes.weak fun b' H7 h7 => ⟨h7.1, h7.2 ▸ Same.refl _⟩, fun _ H7 e7 Q' q => ?_⟩
      rw [en] at q
      have ht7 := same_seqT e7 ht
      refine ⟨_, rfl, t, _, 0, _, rfl, rfl, ht7, rfl, _, rfl, t, _, 1, _, rfl, rfl, ht7, rfl, _, rfl, len_use (hcr.same (e.trans e7)) fun H8 e8 => ⟨_, _, rfl, rfl, .inr ⟨by omega, by omega⟩, small_le (show 2 ≤ 100000 by decide), fun t9 ht9 => ?_⟩⟩
      dsimp only
      rw [show ((cs'.length : Nat) : Int) = (ms.length : Int) + 1 by omega]
      exact q _ _ ⟨e8.trans (same_new ht9), .tup (SqT.of upd_same) (.cons (dp_same ((e7.trans e8).trans (same_new ht9)) hvt) (.cons (.int _) .nil))⟩
    · intro H6 acc e6 hacc hda
      rw [hlen, mapD_list rows ([], 0) (fun p => rowD (p.1, p.2 * ((ms.length : Int) + 1)))] at hda
      have e06 := e05.trans e6
      have hY : YdAt K H6 z ys cs'.length := ⟨dp_same e06 hy.1, hy.2.1, hy.2.2.1, fun y hyy => (hy.2.2.2 y hyy).mono (by omega)⟩
      refine ⟨_, rfl, _, rfl, _, rfl, V.ref ix, y, z, cs', rs, ys, rfl, hcr.same e6, hs.same e06, hY, fun v1 r1 H7 e7 hv1 hr1 hrl1 => ?_⟩
      rw [hcl] at hr1
      have hmk2 : ∀ w ∈ ws ms.length, mkOf cs' w = mkOf cs w := fun w hw => by
        have hm := mem_ws.mp hw
        rw [hmk w hw, hcs', mk_workers (by rw [hml2]; exact mem_ws.mpr ⟨hm.1, by omega⟩)]
        have hl : w.toNat < ms.length := by omega
        rw [List.getD_eq_getElem?_getD, List.getD_eq_getElem?_getD, List.getElem?_append_left hl]
      have heq : r1 = rows.map fun q => (q.1, q.2 * ((ms.length : Int) + 1)) := by
        refine MS.beside_rows (by omega) (tk := tkM cs rs) (tk' := tkM cs' rs) (fun w s hw hs => ?_) (fun y hyy => (hy.2.2.2 y hyy).mem) hrows hr1
        unfold tkM
        rw [hmk2 w hw, List.map_congr_left fun v hv => hmk2 v (hs v hv)]
      have hdue : Dp K H7 (V.ref D) (.list (r1.map rowD)) := by
        rw [heq, List.map_map]
        exact dp_same e7 (.lst (SqL.of hacc) hda)
      refine ⟨_, rfl, _, _, hv1, hdue, shaped_rows _, shaped_rows _, ?_⟩
      rw [eqv_rows]
      exact k _ (e06.trans e7)
end
/-! ### the verdicts fit -/
abbrev sVFit : Stmt := top 74
def spVFit (K : PySem.W.Frag) (CC CS : Addr) : Sp := fun vs H Q _ => ∃ (x y z u : V) (cs : List (Str × Str)) (rs : List Rul) (ys : List (List Int)) (rows : List (List Int × Int)), vs = [x, y, z, u] ∧ CrewAt K CC H x cs ∧ SchAt K CS H y rs ∧ YdAt K H z ys cs.length ∧ Dp K H u (.list (rows.map rowD)) ∧
  MS.Rows rows ((perms cs.length).map (owns (tkM cs rs) ys)) ∧ rows.length ≤ 46656 ∧ ∀ H', Same H H' → Q (.bl true) H'
theorem VdAt.mut {K : PySem.W.Frag} {CV : Addr} {H : Hp} {v : V} {tk : Int → List Int → Bool} {ys : List (List Int)} {n q : Nat} {l a : Addr} {xs : List V} {o : HO} (h : VdAt K CV H v tk ys n q) (hl : H l = some (.lst (V.ref a :: xs))) : VdAt K CV (upd H l o) v tk ys n q := by
  obtain ⟨b, dx, t, rv, h1, h2, h3⟩ := h
  have nb : b ≠ l := by
    rintro rfl
    rw [hl] at h2
    cases h2
  refine ⟨b, dx, t, rv, h1, by rw [upd_ne nb]; exact h2, h3.imp id fun ⟨r, hd, hr⟩ => ⟨r, ?_, hr⟩⟩
  obtain ⟨la, rfl, hla⟩ := dp_lstI hd
  refine lstI_of ?_
  rcases hla with hla | hla
  · have nl : la ≠ l := by
      rintro rfl
      rcases hla with hla | ⟨o2, hla⟩
      · rw [hl] at hla
        cases r with
        | nil => cases hla
        | cons i r => cases hla
      · rw [hl] at hla
        cases hla
    refine .inl ?_
    rcases hla with hla | ⟨o2, hla⟩
    · exact .inl (by rw [upd_ne nl]; exact hla)
    · exact .inr ⟨o2, by rw [upd_ne nl]; exact hla⟩
  · exact .inr hla
theorem shaped_tups (ts : List (List Int)) : SeqAt.shaped (.list (ts.map tupI)) = true := by
  refine shaped_of ?_ ?_
  · rw [lay_lst]
    exact lays_of fun d hd => by
      obtain ⟨p, _, rfl⟩ := List.mem_map.mp hd
      exact lay_tupI p
  · rw [depth_lst]
    have : PyData.depthAll (ts.map tupI) ≤ 1 := depths_le fun d hd => by
      obtain ⟨p, _, rfl⟩ := List.mem_map.mp hd
      rw [depth_tupI]
      exact Nat.le_refl _
    omega
section
variable {P : Program} {w : World} {K : PySem.W.Frag} {mg : Str → Option Value} {base : Heap} {C CS CV : Addr}
abbrev nVFit : List Str := ["_law_hands", "_law_plan", "_law_spots", "_law_rows", "_law_verdicts", "_law_which", "_law_against", "_law_trail", "_law_many", "_law_verdict", "_law_shown"]
theorem sc_vfit : FnScope nVFit ["_law_hands", "_law_plan", "_law_spots", "_law_rows"] (defScope sVFit) := ⟨rfl, rfl, rfl, by decide +kernel, rfl, by decide +kernel, by decide +kernel⟩
theorem ok_vfit {f : Addr} {fd : FuncData} (F : Fun K "_law_verdicts_fit" "_law_verdicts_fit" sVFit f fd) (B : Bi mg) (TV : VerT K CV) (F0 : Fn P w K mg base 8 "moving" (spAsk K C CS CV 0)) (F1 : Fn P w K mg base 8 "returning" (spAsk K C CS CV 1)) (F2 : Fn P w K mg base 8 "needless" (spAsk K C CS CV 2))
    (F3 : Fn P w K mg base 2 "_law_is_against" (spAgainst K)) (R : Pr P w K mg base 1 CV "holds" (spVHolds CV)) (F4 : Fn P w K mg base 5 "holders" (spHolders K C CS)) : FnOk P w K mg base CX0 9 f fd ["_law_hands", "_law_plan", "_law_spots", "_law_rows"] (spVFit K C CS) := by
  refine F.ok sc_vfit (fun vs H Q E h => ?_) (fun cdv A outer s H vs Q E hr h => ?_)
  · obtain ⟨x, y, z, u, cs, rs, ys, rows, rfl, _⟩ := h
    rfl
  · obtain ⟨x, y, z, u, cs, rs, ys, rows, rfl, hc, hs, hy, hu0, hrows, hrl, k⟩ := h
    have nd := sc_vfit.nd
    have hu65 : (A.deeper (envOfC "_law_verdicts_fit" (defScope sVFit) s.heap.objs.size f cdv)).units + 65 < cLine := by
      have := hr.un
      omega
    refine ⟨_, pss_cons (ps_set (i := 4) nd rfl (Or.inl rfl) (pe_lst (pa_cons (pe_fn F0 hr (by decide) (pa_cons (pv 0) (pa_cons (pv 1) (pa_cons (pv 2) pa_nil)))) (pa_cons (pe_fn F1 hr (by decide) (pa_cons (pv 0) (pa_cons (pv 1) (pa_cons (pv 2) pa_nil)))) pa_nil))))
      (pss_cons (ps_expr (pe_bm PySem.F.plainAttrs_list PySem.F.slot_list_append PySem.F.type_list_append mt_append (pv 4) (pa_cons (pe_fn F2 hr (by decide) (pa_cons (pv 0) (pa_cons (pv 1) (pa_cons (pv 2) pa_nil)))) pa_nil)))
      (pss_cons (ps_for PassesOwn.never rfl (pi_range1 rfl B.range (pa_cons pe_int pa_nil)) (pg_name (i := 5) nd rfl (Or.inl rfl))
        (pss_cons (ps_set (i := 6) nd rfl (Or.inl rfl) (pe_lst pa_nil))
        (pss_cons (ps_for PassesOwn.never rfl (pi_list (pv 3)) (pg_tup rfl (pgs_cons (pg_name (i := 7) nd rfl (Or.inl rfl)) (pgs_cons (pg_name (i := 8) nd rfl (Or.inl rfl)) pgs_nil)))
          (pss_one (ps_if (pt_val (pe_fn F3 hr (by decide) (pa_cons (pv 7) (pa_cons (pv 2) (pa_cons (pv 5) pa_nil))))) (pss_one (ps_expr (pe_bm PySem.F.plainAttrs_list PySem.F.slot_list_append PySem.F.type_list_append mt_append (pv 6) (pa_cons (pv 7) pa_nil)))) pss_nil)))
        (pss_cons (ps_set (i := 9) nd rfl (Or.inl rfl) (pe_ix ix_list (pv 4) (pv 5) (fun _ _ => rfl)))
        (pss_cons (ps_if (pt_cmpR op_ne (pe_pr R hr (by decide) (pv 9)) (pe_cmpR op_eq (pe_callB call_len_seq (by rfl) B.len PySem.boot_len (pa_cons (pv 6) pa_nil)) pe_int (nomark _)) (nomark _)) (pss_one ps_never) pss_nil)
        (pss_one (ps_if (pt_not (pt_val (pe_pr R hr (by decide) (pv 9))))
          (pss_cons (ps_set (i := 10) nd rfl (Or.inl rfl) (pe_callTy call_tuple_of (by rfl) B.tuple (by decide +kernel) (pa_cons (pe_fn F4 hr (by decide) (pa_cons (pv 0) (pa_cons (pv 1) (pa_cons (pe_callTy call_list_of (by rfl) B.list (by decide +kernel) (pa_cons (pe_fld (pv 9) rfl) pa_nil)) (pa_cons (pv 2) pa_nil))))) pa_nil)))
          (pss_one (ps_if (pt_cmpR (op_notInD hu65) (pv 10) (pv 6) (by rfl)) (pss_one ps_never) pss_nil))) pss_nil)))))))
      (pss_one (ps_ret pe_bl)))), ?_⟩
    -- the three verdicts
    refine ⟨_, rfl, _, rfl, _, rfl, x, y, z, cs, rs, ys, rfl, hc, hs, hy, fun v0 H1 e1 hv0 => ?_⟩
    refine ⟨_, rfl, _, rfl, _, rfl, x, y, z, cs, rs, ys, rfl, hc.same e1, hs.same e1, hy.same e1, fun v1 H2 e2 hv1 => ?_⟩
    have e02 := e1.trans e2
    refine ⟨small_le (show 2 ≤ 100000 by decide), fun VL hV => ?_⟩
    have e3 := same_new (o := .lst [v0, v1]) hV
    have e03 := e02.trans e3
    have nV : H VL = none := none_back e02 hV
    have hV3 : (upd H2 VL (.lst [v0, v1])) VL = some (.lst [v0, v1]) := upd_same
    refine ⟨_, rfl, .inl ⟨rfl, _, SqL.of hV3⟩, _, rfl, _, rfl, _, rfl, x, y, z, cs, rs, ys, rfl, hc.same e03, hs.same e03, hy.same e03, fun v2 H4 e4 hv2 => ?_⟩
    have hV4 := e4 _ _ hV3
    obtain ⟨a0, hva0⟩ : ∃ a0, v0 = V.ref a0 := by
      obtain ⟨a, _, _, _, h, _⟩ := id hv0
      exact ⟨a, h⟩
    refine ⟨VL, _, v2, rfl, rfl, hV4, small_lt (show 2 ≤ 100000 by decide), ?_⟩
    obtain ⟨H5, hH5⟩ : ∃ H5, H5 = upd H4 VL (.lst ([v0, v1] ++ [v2])) := ⟨_, rfl⟩
    rw [← hH5]
    have w0 : VdAt K CV H5 v0 (tkM cs rs) ys cs.length 0 := hH5 ▸ (((hv0.same e2).same e3).same e4).mut (a := a0) (xs := [v1]) (hva0 ▸ hV4)
    have w1 : VdAt K CV H5 v1 (tkM cs rs) ys cs.length 1 := hH5 ▸ ((hv1.same e3).same e4).mut (a := a0) (xs := [v1]) (hva0 ▸ hV4)
    have w2 : VdAt K CV H5 v2 (tkM cs rs) ys cs.length 2 := hH5 ▸ hv2.mut (a := a0) (xs := [v1]) (hva0 ▸ hV4)
    have e05 : Same H H5 := hH5 ▸ same_mut (e03.trans e4) nV
    have hV5 : H5 VL = some (.lst [v0, v1, v2]) := by rw [hH5]; exact upd_same
    refine ⟨3, rfl, by decide, by decide, ?_⟩
    refine for_range (lo := 0) (n := 3) (fun i σ H' => ∃ v5 v6 v7 v8 v9 v10 : Option _root_.L2.V, σ = [some x, some y, some z, some u, some (.ref VL), v5, v6, v7, v8, v9, v10] ∧ Same H5 H') ⟨none, none, none, none, none, none, rfl, Same.refl _⟩ ?_ ?_
    · rintro i σ H6 hi ⟨v5, v6, v7, v8, v9, v10, rfl, e56⟩
      have e06 := e05.trans e56
      refine ⟨Nat.zero_le _, fun M hM => ?_⟩
      have e7 := same_new (o := .lst []) hM
      have nM5 : H5 M = none := none_back e56 hM
      have e57 := e56.trans e7
      have e07 := e05.trans e57
      obtain ⟨ua, xs, rfl, hua, hxs⟩ := dp_lst hu0
      have hlen : xs.length = rows.length := by rw [dps_len hxs, List.length_map]
      refine ⟨_, rfl, ua, rfl, ⟨_, e07.seq hua⟩, for_list (K := K) (a := ua) (xs := xs) (fun j σ H' => ∃ (v7 v8 : Option _root_.L2.V) (sel : List (List Int)) (acc : List _root_.L2.V), σ = [some x, some y, some z, some (.ref ua), some (.ref VL), some (.int (0 + (i : Int))), some (.ref M), v7, v8, v9, v10] ∧ Same H5 H' ∧ H' M = some (.lst acc) ∧ DpAll K H' acc (sel.map tupI) ∧ sel.length ≤ j ∧
          ∀ t, t ∈ sel ↔ ∃ p ∈ rows.take j, p.1 = t ∧ FailP ys i t)
        ⟨_, _, [], [], rfl, e57, upd_same, .nil, Nat.le_refl _, fun t => ⟨(fun h => nomatch h), fun ⟨p, hp, _⟩ => nomatch hp⟩⟩ (fun j σ H' _ ⟨_, _, _, _, _, e, _⟩ => (e05.trans e).seq hua) ?_ ?_⟩
      · rintro j v σ H8 hj ⟨v7, v8, sel, acc, rfl, e58, hM8, ha8, hsl, hsel⟩
        have e08 := e05.trans e58
        obtain ⟨p, hp, hpd⟩ := dps_all hxs hj
        have hjl : j < rows.length := (List.getElem?_eq_some_iff.mp hp).1
        have hpl := row_len hrows (List.mem_of_getElem? hp)
        have hy8 := hy.2.2.1
        obtain ⟨t, vt, vm, rfl, ht, hvt, hvm⟩ := dp_tup2 (dp_same e08 hpd)
        cases hvm
        refine ⟨t, _, rfl, ht, rfl, _, _, rfl, _, _, rfl, rfl, ?_⟩
        refine ⟨_, rfl, _, rfl, _, rfl, vt, z, p.1, ys, i, by rw [Int.zero_add], hvt, (hy.same e08).1, hpl, by omega, fun b hb => ⟨_, rfl, ?_⟩⟩
        cases hbb : b with
        | true =>
          have hf := hb.mp hbb
          refine iteT ⟨_, rfl, .inl ⟨rfl, _, SqL.of hM8⟩, _, rfl, M, acc, vt, rfl, rfl, hM8, small_lt (by rw [dps_len ha8, List.length_map]; omega), ?_⟩
          have tp := Tp.upd (o' := .lst (acc ++ [vt])) hM8 rfl
          refine ⟨_, _, sel ++ [p.1], acc ++ [vt], rfl, same_mut e58 nM5, upd_same, ?_, by rw [List.length_append]; show sel.length + 1 ≤ _; omega, fun t' => ?_⟩
          · rw [List.map_append]
            exact dps_append (dps_tp tp (flat_tups _) ha8) (.cons (dp_tp tp (flat_tupI _) hvt) .nil)
          · rw [List.mem_append, List.mem_singleton, hsel t', take_succ_get hp]
            constructor
            · rintro (⟨p', h1, h2⟩ | rfl)
              · exact ⟨p', List.mem_append_left _ h1, h2⟩
              · exact ⟨p, List.mem_append_right _ (List.mem_singleton.mpr rfl), rfl, hf⟩
            · rintro ⟨p', h1, h2⟩
              rcases List.mem_append.mp h1 with h1 | h1
              · exact .inl ⟨p', h1, h2⟩
              · rw [List.mem_singleton.mp h1] at h2
                exact .inr h2.1.symm
        | false =>
          refine iteF ⟨_, _, sel, acc, rfl, e58, hM8, ha8, by omega, fun t' => ?_⟩
          rw [hsel t', take_succ_get hp]
          constructor
          · rintro ⟨p', h1, h2⟩
            exact ⟨p', List.mem_append_left _ h1, h2⟩
          · rintro ⟨p', h1, h2⟩
            rcases List.mem_append.mp h1 with h1 | h1
            · exact ⟨p', h1, h2⟩
            · rw [List.mem_singleton.mp h1] at h2
              rw [hb.mpr (h2.1 ▸ h2.2)] at hbb
              cases hbb
      · rintro σ H8 ⟨v7, v8, sel, acc, rfl, e58, hM8, ha8, hsl, hsel⟩
        rw [hlen] at hsel hsl
        rw [List.take_length] at hsel
        have e08 := e05.trans e58
        have hV8 := e58 _ _ hV5
        -- the verdict of this question
        obtain ⟨vv, hvv, hvd⟩ : ∃ vv, [v0, v1, v2][i]? = some vv ∧ VdAt K CV H8 vv (tkM cs rs) ys cs.length i := by
          rcases (by omega : i = 0 ∨ i = 1 ∨ i = 2) with rfl | rfl | rfl
          · exact ⟨v0, rfl, w0.same e58⟩
          · exact ⟨v1, rfl, w1.same e58⟩
          · exact ⟨v2, rfl, w2.same e58⟩
        refine ⟨_, rfl, _, rfl, VL, _, 0 + (i : Int), _, rfl, rfl, SqL.of hV8, by rw [Int.zero_add]; exact atI_nat hvv, ?_⟩
        obtain ⟨va, vdx, vt, rv, rfl, hva, hvr⟩ := hvd
        have hst := stays_iff (v := .non) (a := 0) (dx := 0) (t := .non) hvr
        have hmem : ∀ t, t ∈ sel ↔ ∃ r ∈ perms cs.length, owns (tkM cs rs) ys r = t ∧ FailP ys i t := by
          intro t
          rw [hsel t]
          constructor
          · rintro ⟨p, hp, e, hf⟩
            obtain ⟨r, hr1, hr2⟩ := List.mem_map.mp ((hrows.tal.mem p.1).mp (List.mem_map.mpr ⟨p, hp, rfl⟩))
            exact ⟨r, hr1, hr2.trans e, hf⟩
          · rintro ⟨r, hr1, e, hf⟩
            obtain ⟨p, hp, hpe⟩ := List.mem_map.mp ((hrows.tal.mem t).mpr (List.mem_map.mpr ⟨r, hr1, e⟩))
            exact ⟨p, hp, hpe, hf⟩
        have hal : acc.length = sel.length := by rw [dps_len ha8, List.length_map]
        have hsb : decide (rv = _root_.L2.V.non) = decide (((acc.length : Nat) : Int) = 0) := by
          rw [Bool.eq_iff_iff, hst, decide_eq_true_eq, hal]
          constructor
          · intro h
            cases hsn : sel with
            | nil => rfl
            | cons t q =>
              obtain ⟨r, hr1, e, hf⟩ := (hmem t).mp (hsn ▸ List.mem_cons_self)
              exact absurd (e ▸ hf) (h r hr1)
          · intro h r hr1 hf
            have := (hmem _).mpr ⟨r, hr1, rfl, hf⟩
            have hz : sel = [] := List.length_eq_zero_iff.mp (by omega)
            rw [hz] at this
            cases this
        refine ⟨_, rfl, va, vdx, _, rfl, hva, va, vdx, vt, rv, rfl, hva, ?_⟩
        refine ⟨_, rfl, M, acc, rfl, .inl (SqL.of hM8), rfl, rfl, _, rfl, ?_⟩
        rw [dec_int, dec_bl, hsb, decide_eq_true rfl]
        refine iteF ⟨_, rfl, va, vdx, _, rfl, hva, va, vdx, vt, rv, rfl, hva, _, rfl, ?_⟩
        rcases hvr with ⟨hn, _⟩ | ⟨r, hd, hr1, hf⟩
        · rw [hn, decide_eq_true rfl]
          exact iteF ⟨_, _, _, _, _, _, rfl, e58⟩
        · obtain ⟨la, rfl, hla⟩ := dp_lstI hd
          rw [decide_eq_false (fun z => by cases z)]
          refine iteT ?_
          refine ⟨_, rfl, _, rfl, _, rfl, va, CV, vdx, _, _, rfl, hva, TV.cl, TV.nR, by unfold verF; rw [lk_by (by decide +kernel)]; exact lk_at, la, _, rfl, .inl hla, fun l9 hl9 => ?_⟩
          have e9 := same_new (o := .lst (r.map _root_.L2.V.int)) hl9
          have e09 := e08.trans e9
          refine ⟨_, rfl, x, y, _, z, cs, rs, r, ys, rfl, hc.same e09, hs.same e09, lstI_of (SqL.of upd_same), hr1, hy.same e09, fun vh H10 e10 hvh => ?_⟩
          obtain ⟨lh, rfl, hlh⟩ := dp_lstI hvh
          refine ⟨lh, _, rfl, .inl ⟨hlh, fun t11 ht11 => ?_⟩⟩
          have e11 := same_new (o := .tup ((owns (tkM cs rs) ys r).map _root_.L2.V.int)) ht11
          have e811 := (e9.trans e10).trans e11
          refine ⟨_, rfl, _, rfl, tupI (owns (tkM cs rs) ys r), sel.map tupI, tupI_of (SqT.of upd_same), .lst (SqL.of (e811 _ _ hM8)) (dps_same e811 ha8), shaped_tupI _, shaped_tups _, _, rfl, ?_⟩
          have hany : ((sel.map tupI).any fun z => PyData.eqv z (tupI (owns (tkM cs rs) ys r))) = true := by
            rw [List.any_eq_true]
            exact ⟨_, List.mem_map.mpr ⟨_, (hmem _).mpr ⟨r, hr1, rfl, hf⟩, rfl⟩, SeqAt.eqv_refl _ (lay_tupI _)⟩
          rw [hany]
          exact iteF ⟨_, _, _, _, _, _, rfl, e58.trans e811⟩
    · rintro σ H6 ⟨v5, v6, v7, v8, v9, v10, rfl, e56⟩
      exact k _ (e05.trans e56)
end
end MW

/-! The law's parts: the workers numbered anew. -/
namespace MW
open PySem PySem.Spec PyProof.Rows L2
open MS (ws free begs perms own owns mem_ws mem_perms mem_begs pi srt)

abbrev sRen : Stmt := top 77
/-- the scope of the outer of the two comprehensions of the places -/
abbrev scPl : Scope := { kind := ScopeKind.function, names := [(".0", NameKind.local), ("_law_spot_here", NameKind.local), ("tuple", NameKind.globalImplicit), ("sorted", NameKind.globalImplicit), ("_law_order", NameKind.cell)], isGenerator := false, isCoroutine := false }
section
variable {X : Cx}
def rTupK (K : PySem.W.Frag) : List V → Hp → VK → Prop := fun xs H Q => ∃ p ys, xs = [.ref p] ∧ ((SqL K H p ys ∧ ∀ l, H l = none → Q (.ref l) (upd H l (.tup ys))) ∨ (SqT K H p ys ∧ Q (.ref p) H))
theorem tupleK (K : PySem.W.Frag) (h : X.K = K := by rfl) : CallR X (.type "tuple") (rTupK K) := h ▸ call_tuple_of
theorem sortedK (K : PySem.W.Frag) (h : X.K = K := by rfl) : CallR X (.builtin "sorted") (rSorted K) := h ▸ cr_sorted
theorem pi_tupK (K : PySem.W.Frag) {tg e : Expr} {te : TE} (he : PE X e te) (h : X.K = K := by rfl) : PI X tg e (iTup K te) := h ▸ pi_tup he
end
theorem pi_at {n : Nat} {o : List Int} (ho : o ∈ perms n) {w : Int} (hw : w ∈ ws n) : atI (o.map V.int) w = some (V.int (pi o w)) := by
  have hm := mem_ws.mp hw
  have hl : w.toNat < o.length := by rw [len_perm ho]; omega
  have := atI_nat (xs := o.map V.int) (j := w.toNat) (v := V.int (pi o w)) (by
    rw [List.getElem?_map, List.getElem?_eq_getElem hl]
    unfold MS.pi
    rw [getD_of (List.getElem?_eq_getElem hl)]
    rfl)
  rw [show ((w.toNat : Nat) : Int) = w by omega] at this
  exact this
theorem pi_onto {n : Nat} {o : List Int} (ho : o ∈ perms n) {j : Int} (hj : j ∈ ws n) : ∃ w ∈ ws n, pi o w = j := by
  have hjo : j ∈ o := (mem_perms.mp ho).mem_iff.mpr hj
  obtain ⟨i, hi⟩ := List.mem_iff_getElem?.mp hjo
  have hl := (List.getElem?_eq_some_iff.mp hi).1
  rw [len_perm ho] at hl
  refine ⟨(i : Int), mem_ws.mpr ⟨by omega, by omega⟩, ?_⟩
  unfold MS.pi
  rw [show ((i : Nat) : Int).toNat = i by omega]
  exact getD_of hi
theorem good_ren {n : Nat} {o y : List Int} (ho : o ∈ perms n) (g : GoodY n y) : GoodY n (srt (y.map (pi o))) := by
  have hnd : (y.map (pi o)).Nodup := by
    refine List.Pairwise.map _ (fun a b h => h) ?_
    have h1 := nodup_len g.inc
    exact h1.imp_of_mem fun {a b} ha hb hne e => hne (MS.pi_inj ho (g.mem a ha) (g.mem b hb) e)
  refine ⟨fun z => ?_, ?_, fun w hw => ?_⟩
  · have := (MS.srt_perm (y.map (pi o))).length_eq
    rw [z, List.length_map] at this
    exact g.ne (List.length_eq_zero_iff.mp this.symm)
  · have h1 := MS.srt_sorted (y.map (pi o))
    have h2 : (srt (y.map (pi o))).Nodup := (MS.srt_perm _).nodup_iff.mpr hnd
    exact h1.imp₂ (fun a b h k => by omega) h2
  · obtain ⟨v, hv, rfl⟩ := List.mem_map.mp ((MS.srt_perm _).mem_iff.mp hw)
    exact MS.pi_mem ho (g.mem v hv)
def spRen (K : PySem.W.Frag) (CS : Addr) : Sp := fun vs H Q _ => ∃ (ml ol : Addr) (y z u : V) (ms : List Str) (o : List Int) (cs : List (Str × Str)) (rs : List Rul) (ys : List (List Int)) (rows : List (List Int × Int)), vs = [.ref ml, y, z, u, .ref ol] ∧ H ml = some (.lst (ms.map V.str)) ∧ (∀ m ∈ ms, makeOk m) ∧ 1 ≤ ms.length ∧ ms.length ≤ 5 ∧
  H ol = some (.lst (o.map V.int)) ∧ o ∈ perms ms.length ∧ (∀ w ∈ ws ms.length, mkOf cs w = ms.getD w.toNat "") ∧ SchAt K CS H y rs ∧ YdAt K H z ys ms.length ∧ Dp K H u (.list (rows.map rowD)) ∧ MS.Rows rows ((perms ms.length).map (owns (tkM cs rs) ys)) ∧ rows.length ≤ 46656 ∧ ∀ H', Same H H' → Q (.bl true) H'
section
variable {P : Program} {w : World} {K : PySem.W.Frag} {mg : Str → Option Value} {base : Heap} {C CS CV : Addr}
abbrev nRen : List Str := ["_law_makes_here", "_law_plan", "_law_spots", "_law_rows", "_law_order", "_law_renamed", "_law_worker", "_law_hands", "_law_places", "_law_due", "_law_trail", "_law_many", "_law_spot_here", "_law_at"]
theorem sc_ren : FnScope nRen ["_law_makes_here", "_law_plan", "_law_spots", "_law_rows", "_law_order"] (defScope sRen) := ⟨rfl, rfl, rfl, by decide +kernel, rfl, by decide +kernel, by decide +kernel⟩
theorem kl_of {H : Hp} : ∀ (l : List (List Int × Int)) (acc : List V), DpAll K H acc (l.map rowD) → ∃ kl : List (V × (List Int × Int)), kl.map (·.1) = acc ∧ kl.map (·.2) = l ∧ ∀ q ∈ kl, Dp K H q.1 (rowD q.2)
  | [], acc, h => by
    cases h
    exact ⟨[], rfl, rfl, fun _ h => nomatch h⟩
  | p :: l, acc, h => by
    cases h with
    | @cons v _ _ _ h t =>
      obtain ⟨kl, h1, h2, h3⟩ := kl_of l _ t
      refine ⟨(v, p) :: kl, by rw [List.map_cons, h1], by rw [List.map_cons, h2], fun q hq => ?_⟩
      rcases List.mem_cons.mp hq with e | e
      · rw [e]
        exact h
      · exact h3 q e
theorem kl_back {H : Hp} : ∀ l : List (V × (List Int × Int)), (∀ q ∈ l, Dp K H q.1 (rowD q.2)) → DpAll K H (l.map fun q => q.1) ((l.map (·.2)).map rowD)
  | [], _ => .nil
  | q :: l, h => .cons (h q List.mem_cons_self) (kl_back l fun q' hq' => h q' (List.mem_cons_of_mem _ hq'))
theorem rep_str (n : Nat) (x : Str) : (List.replicate n [V.str x]).flatten = (List.replicate n x).map V.str := by
  induction n with
  | zero => rfl
  | succ n ih =>
    rw [List.replicate_succ, List.replicate_succ, List.flatten_cons, ih]
    rfl
theorem getD_set {l : List Str} {i j : Nat} {v : Str} (hi : i < l.length) : (l.set i v).getD j "" = if i = j then v else l.getD j "" := by
  rw [List.getD_eq_getElem?_getD, List.getD_eq_getElem?_getD, List.getElem?_set]
  by_cases c : i = j
  · subst c
    rw [if_pos rfl, if_pos rfl, if_pos hi]
    rfl
  · rw [if_neg c, if_neg c]
theorem set_str (l : List Str) (i : Nat) (v : Str) : (l.map V.str).set i (V.str v) = (l.set i v).map V.str := by rw [List.map_set]
theorem ok_ren {f : Addr} {fd : FuncData} (F : Fun K "_law_same_renamed" "_law_same_renamed" sRen f fd) (B : Bi mg) (mgC : mg "Crew" = some (.ref C)) (NC : Cn P w K mg base 3 C (spCInit K C)) (F1 : Fn P w K mg base 7 "tally" (spTally K C CS)) (F2 : Fn P w K mg base 1 "_law_workers" (spWorkers K)) :
    FnOk P w K mg base CX0 8 f fd ["_law_makes_here", "_law_plan", "_law_spots", "_law_rows", "_law_order"] (spRen K CS) := by
  refine F.ok sc_ren (fun vs H Q E h => ?_) (fun cdv A outer s H vs Q E hr h => ?_)
  · obtain ⟨ml, ol, y, z, u, ms, o, cs, rs, ys, rows, rfl, _⟩ := h
    rfl
  · obtain ⟨ml, ol, y, z, u, ms, o, cs, rs, ys, rows, rfl, hml, hmo, h1, h5, hol, ho, hmk, hs, hy, hu0, hrows, hrl, k⟩ := h
    have nd := sc_ren.nd
    have hu := hr.units
    refine ⟨_, pss_cons (ps_set (i := 5) nd rfl (Or.inl rfl) (pe_op op_rep (pe_lst (pa_cons pe_str pa_nil)) (pe_callB call_len_seq (by rfl) B.len PySem.boot_len (pa_cons (pv 0) pa_nil))))
      (pss_cons (ps_for PassesOwn.never rfl (pi_range1 rfl B.range (pa_cons (pe_callB call_len_seq (by rfl) B.len PySem.boot_len (pa_cons (pv 0) pa_nil)) pa_nil)) (pg_name (i := 6) nd rfl (Or.inl rfl))
        (pss_one (ps_asg (pe_ix ix_list (pv 0) (pv 6) (fun _ _ => rfl)) (pg_sub (pv 5) (pe_ix ix_list (pv 4) (pv 6) (fun _ _ => rfl)) set_list))))
      (pss_cons (ps_set (i := 7) nd rfl (Or.inl rfl) (pe_new NC hr (by decide) mgC (pa_cons (pe_fn F2 hr (by decide) (pa_cons (pv 5) (pa_cons pe_int pa_nil))) pa_nil)))
      (pss_cons (ps_setLc (i := 8) (own := [("_law_spot_here", 12)]) (g := gName 12) (tt := tYes) rfl nd rfl rfl (sw_true rfl rfl rfl (by decide +kernel)) (pi_list (pv 2)) (blkOk_by (own := [("_law_spot_here", 12)]) (N := nRen) (sc := defScope sRen) (by decide +kernel)) (fun _ _ _ _ _ => pg_name (i := 12) nd rfl (Or.inl rfl))
          (fun _ _ _ _ _ => pts_nil) (fun _ _ _ _ _ => pe_callTy (tupleK K) (by rfl) B.tuple (by decide +kernel) (pa_cons (pe_callB (sortedK K) (by rfl) B.sorted (by decide +kernel) (pa_cons
            (pe_lc (own := [("_law_at", 13)]) (g := gName 13) (tt := tYes) rfl nd (pi_tupK K (pv 12)) (blkOk_by (own := [("_law_at", 13)]) (N := nRen) (sc := scPl) (by decide +kernel)) (fun _ _ _ _ _ => pg_name (i := 13) nd rfl (Or.inl rfl)) (fun _ _ _ _ _ => pts_nil) (fun _ _ _ _ _ => pe_ix (ix_listK K) (pv 4) (pv 13) (fun _ _ => rfl))) pa_nil)) pa_nil)))
      (pss_cons (ps_set (i := 9) nd rfl (Or.inl rfl) (pe_lst pa_nil))
      (pss_cons (ps_for PassesOwn.never rfl (pi_list (pv 3)) (pg_tup rfl (pgs_cons (pg_name (i := 10) nd rfl (Or.inl rfl)) (pgs_cons (pg_name (i := 11) nd rfl (Or.inl rfl)) pgs_nil)))
        (pss_one (ps_expr (pe_bm PySem.F.plainAttrs_list PySem.F.slot_list_append PySem.F.type_list_append mt_append (pv 9) (pa_cons (pe_tup (pa_cons (pe_callTy call_tuple_of (by rfl) B.tuple (by decide +kernel) (pa_cons
          (pe_lc (own := [("_law_worker", 6)]) (g := gName 6) (tt := tYes) rfl nd (pi_tup (pv 10)) (blkOk_by (own := [("_law_worker", 6)]) (N := nRen) (sc := defScope sRen) (by decide +kernel)) (fun _ _ _ _ _ => pg_name (i := 6) nd rfl (Or.inl rfl)) (fun _ _ _ _ _ => pts_nil) (fun _ _ _ _ _ => pe_ix (ix_listK K) (pv 4) (pv 6) (fun _ _ => rfl))) pa_nil)) (pa_cons (pv 11) pa_nil))) pa_nil)))))
      (pss_one (ps_ret (pe_cmpR (op_eqD hu) (pe_fn F1 hr (by decide) (pa_cons (pv 7) (pa_cons (pv 1) (pa_cons (pv 8) pa_nil)))) (pe_callB (cr_sortD hu) (by rfl) B.sorted (by decide +kernel) (pa_cons (pv 9) pa_nil)) (nomark _))))))))), ?_⟩
    obtain ⟨n, hn⟩ : ∃ n, n = ms.length := ⟨_, rfl⟩
    rw [← hn] at h1 h5 ho hmk hy hrows
    have hren := MS.ren_pi ho
    have hol2 := len_perm ho
    -- renamed
    refine ⟨small_le (show 1 ≤ 100000 by decide), fun l hl => ?_⟩
    have e1 := same_new (o := .lst [V.str ""]) hl
    refine ⟨_, rfl, ml, _, rfl, .inl (SqL.of (e1 _ _ hml)), l, _, _, rfl, rfl, upd_same, by rw [List.length_map]; omega, by rw [List.length_map]; omega, small_le (by rw [List.length_map, List.length_singleton]; omega), fun R hR => ?_⟩
    have hnn : (((ms.map V.str).length : Nat) : Int).toNat = n := by rw [List.length_map]; omega
    rw [hnn, rep_str]
    have e2 := e1.trans (same_new (o := .lst ((List.replicate n ("" : Str)).map V.str)) hR)
    have nR : H R = none := none_back e1 hR
    refine ⟨_, rfl, ml, _, rfl, .inl (SqL.of (e2 _ _ hml)), _, rfl, by rw [List.length_map]; omega, by rw [List.length_map]; omega, ?_⟩
    rw [hnn]
    refine for_range (lo := 0) (n := n) (fun i σ H' => ∃ (v6 : Option V) (rl : List Str), σ = [some (.ref ml), some y, some z, some u, some (.ref ol), some (.ref R), v6, none, none, none, none, none, none, none] ∧ Same H H' ∧ H' R = some (.lst (rl.map V.str)) ∧ rl.length = n ∧ ∀ w ∈ ws n, w < i → rl.getD (pi o w).toNat "" = ms.getD w.toNat "")
      ⟨none, List.replicate n "", rfl, e2, upd_same, List.length_replicate .., fun w hw h => absurd h (by have := (mem_ws.mp hw).1; omega)⟩ ?_ ?_
    · rintro i σ H1 hi ⟨v6, rl, rfl, e01, hR1, hrl1, hrw⟩
      have hwi : (i : Int) ∈ ws n := mem_ws.mpr ⟨by omega, by omega⟩
      have hpm := mem_ws.mp (MS.pi_mem ho hwi)
      have hat2 : atI (ms.map V.str) (0 + (i : Int)) = some (V.str (ms.getD i "")) := by
        rw [Int.zero_add]
        refine atI_nat ?_
        have hl : i < ms.length := by omega
        rw [List.getElem?_map, List.getElem?_eq_getElem hl, getD_of (List.getElem?_eq_getElem hl)]
        rfl
      have hat3 : atI (o.map V.int) (0 + (i : Int)) = some (V.int (pi o (i : Int))) := by
        rw [Int.zero_add]
        exact pi_at ho hwi
      have hlt : (pi o (i : Int)).toNat < rl.length := by omega
      refine ⟨_, rfl, _, rfl, ml, _, _, _, rfl, rfl, SqL.of (e01 _ _ hml), hat2, ?_⟩
      refine ⟨_, rfl, _, rfl, _, rfl, ol, _, _, _, rfl, rfl, SqL.of (e01 _ _ hol), hat3, R, _, _, (pi o (i : Int)).toNat, rfl, rfl, hR1, ?_, ?_⟩
      · have := ixN_at (n := (rl.map V.str).length) (i := (pi o (i : Int)).toNat) (by rw [List.length_map]; exact hlt)
        rw [show (((pi o (i : Int)).toNat : Nat) : Int) = pi o (i : Int) by omega] at this
        exact this
      · rw [set_str]
        refine ⟨_, rl.set (pi o (i : Int)).toNat (ms.getD i ""), rfl, same_mut e01 nR, upd_same, by rw [List.length_set]; exact hrl1, fun w hw hlw => ?_⟩
        rw [getD_set hlt]
        by_cases c : w = (i : Int)
        · subst c
          rw [if_pos rfl]
          rfl
        · have hpw := mem_ws.mp (MS.pi_mem ho hw)
          rw [if_neg (fun z => c (MS.pi_inj ho hw hwi (by omega)))]
          exact hrw w hw (by omega)
    · rintro σ H1 ⟨v6, rl, rfl, e01, hR1, hrl1, hrw⟩
      have hro : ∀ m ∈ rl, makeOk m := fun m hm => by
        obtain ⟨j, hj⟩ := List.mem_iff_getElem?.mp hm
        have hjl := (List.getElem?_eq_some_iff.mp hj).1
        obtain ⟨w, hw, hpw⟩ := pi_onto ho (j := (j : Int)) (mem_ws.mpr ⟨by omega, by omega⟩)
        have hww := mem_ws.mp hw
        have h := hrw w hw (by omega)
        rw [hpw, show ((j : Nat) : Int).toNat = j by omega, getD_of hj] at h
        have hl : w.toNat < ms.length := by omega
        rw [h, getD_of (List.getElem?_eq_getElem hl)]
        exact hmo _ (List.getElem_mem hl)
      -- hands
      refine ⟨_, rfl, V.ref R, rl, 0, rfl, words_of (SqL.of hR1), by omega, by decide, fun vw H2 e2 hvw => ?_⟩
      intro ix dx hix hdx ne
      have e3 := same_ins (C := C) hix hdx
      obtain ⟨cs', hcs'⟩ : ∃ cs', cs' = workersL rl 0 := ⟨_, rfl⟩
      rw [← hcs'] at hvw
      have hcl : cs'.length = n := by rw [hcs', workers_len, hrl1]
      refine ⟨ix, dx, vw, cs', rfl, upd_same, dp_same e3 hvw, hcs' ▸ workers_ok hro (by omega) (by omega) (by decide), fun H4 hcr hoff => ⟨rfl, ?_⟩⟩
      have e04 := (e01.trans e2).trans (same_off e3 hoff hix)
      have hmk2 : ∀ w ∈ ws n, mkOf cs' (pi o w) = mkOf cs w := fun w hw => by
        have hww := mem_ws.mp hw
        rw [hmk w hw, hcs', mk_workers (by rw [hrl1]; exact MS.pi_mem ho hw)]
        exact hrw w hw (by omega)
      -- places
      obtain ⟨hyd, hy1, hy8, hyg⟩ := id hy
      obtain ⟨za, zs, rfl, hza, hzs⟩ := dp_lst hyd
      have hzl : zs.length = ys.length := by rw [dps_len hzs, List.length_map]
      refine ⟨_, rfl, za, rfl, ⟨_, e04.seq hza⟩, fun D hD => lc_data (K := K) walk_list (fun _ => true) (fun i => tupI (srt ((ys.getD i []).map (pi o)))) (fun i _ => flat_tupI _) (by omega) hD (fun H' e => (e04.trans e).seq hza) ?_ ?_⟩
      · rintro i v H5 H5' hi e ⟨rfl, hv⟩
        obtain ⟨yd, hyi, hd⟩ := dps_all hzs hv
        have en : ys.getD i [] = yd := getD_of hyi
        have gy := hyg yd (List.mem_of_getElem? hyi)
        have hyl := gy.len
        obtain ⟨ta, rfl, hta⟩ := dp_tupI (dp_same (e04.trans e) hd)
        refine ⟨Same.refl _, _, eg_name, rfl, et_yes.weak fun b' H6 h6 => ⟨h6.1, h6.2 ▸ Same.refl _⟩, fun _ H6 e6 Q' q => ?_⟩
        rw [en] at q
        have hta6 := same_seqT e6 hta
        refine ⟨_, rfl, ta, rfl, ⟨_, hta6⟩, fun D2 hD2 => lc_data (K := K) walk_tup (fun _ => true) (fun j => .int (pi o (yd.getD j 0))) (fun _ _ => rfl) (by rw [List.length_map]; omega) hD2 (fun H' e7 => same_seqT e7 hta6) ?_ ?_⟩
        · rintro j v2 H7 H7' hj e7 ⟨rfl, hv2⟩
          obtain ⟨wk, hwk, rfl⟩ := map_get hv2
          have en2 : yd.getD j 0 = wk := getD_of hwk
          refine ⟨Same.refl _, _, eg_name, rfl, et_yes.weak fun b' H8 h8 => ⟨h8.1, h8.2 ▸ Same.refl _⟩, fun _ H8 e8 Q2 q2 => ?_⟩
          rw [en2] at q2
          exact ⟨_, rfl, _, rfl, ol, _, wk, _, rfl, rfl, SqL.of ((((e04.trans e).trans e6).trans (e7.trans e8)) _ _ hol), pi_at ho (gy.mem wk (List.mem_of_getElem? hwk)), q2 _ _ ⟨Same.refl _, .int _⟩⟩
        · intro H7 acc7 e7 hacc7 hda7
          rw [List.length_map, mapD_list yd 0 (fun w => PyData.int (pi o w))] at hda7
          have hmm : yd.map (fun w => PyData.int (pi o w)) = (yd.map (pi o)).map PyData.int := by rw [List.map_map]; rfl
          rw [hmm] at hda7
          obtain rfl := dps_ints' hda7
          refine ⟨D2, yd.map (pi o), rfl, SqL.of hacc7, by rw [List.length_map]; omega, fun ns' p8 perm so hp8 => ?_⟩
          have hns : ns' = srt (yd.map (pi o)) := MS.srt_is perm so
          subst hns
          have e8 := same_new (o := .lst ((srt (yd.map (pi o))).map V.int)) hp8
          exact ⟨p8, _, rfl, .inl ⟨SqL.of upd_same, fun t9 ht9 => q _ _ ⟨(e7.trans e8).trans (same_new ht9), tupI_of (SqT.of upd_same)⟩⟩⟩
      · intro H5 acc e5 hacc hda
        rw [hzl, mapD_list ys [] (fun y => tupI (srt (y.map (pi o))))] at hda
        have hplm : ys.map (fun y => tupI (srt (y.map (pi o)))) = (ys.map fun y => srt (y.map (pi o))).map tupI := by rw [List.map_map]; rfl
        rw [hplm] at hda
        have e05 := e04.trans e5
        -- due
        refine ⟨Nat.zero_le _, fun M hM => ?_⟩
        have e6 := same_new (o := .lst []) hM
        obtain ⟨ua, xs, rfl, hua, hxs⟩ := dp_lst hu0
        have hlen : xs.length = rows.length := by rw [dps_len hxs, List.length_map]
        refine ⟨_, rfl, ua, rfl, ⟨_, (e05.trans e6).seq hua⟩, for_list (K := K) (a := ua) (xs := xs) (fun j σ H' => ∃ (v6 v10 v11 v12 v13 : Option V) (acc2 : List V), σ = [some (.ref ml), some y, some (.ref za), some (.ref ua), some (.ref ol), some (.ref R), v6, some (.ref ix), some (.ref D), some (.ref M), v10, v11, v12, v13] ∧ Same H5 H' ∧ H' M = some (.lst acc2) ∧
            DpAll K H' acc2 (((rows.take j).map fun p => (p.1.map (pi o), p.2)).map rowD))
          ⟨_, _, _, _, _, [], rfl, e6, upd_same, .nil⟩ (fun j σ H' _ ⟨_, _, _, _, _, _, _, e, _⟩ => (e05.trans e).seq hua) ?_ ?_⟩
        · rintro j v σ H7 hj ⟨v6, v10, v11, v12, v13, acc2, rfl, e57, hM7, ha7⟩
          have e07 := e05.trans e57
          obtain ⟨p, hp, hpd⟩ := dps_all hxs hj
          have hjl : j < rows.length := (List.getElem?_eq_some_iff.mp hp).1
          have hpl := row_len hrows (List.mem_of_getElem? hp)
          have hpm : ∀ w ∈ p.1, w ∈ ws n := by
            obtain ⟨r, hr1, hr2⟩ := List.mem_map.mp ((hrows.tal.mem p.1).mp (List.mem_map.mpr ⟨p, List.mem_of_getElem? hp, rfl⟩))
            rw [← hr2]
            exact MS.trail_mem (fun y hy => ⟨(hyg y hy).ne, (hyg y hy).mem⟩) hr1
          obtain ⟨t, vt, vm, rfl, ht, hvt, hvm⟩ := dp_tup2 (dp_same e07 hpd)
          cases hvm
          obtain ⟨tt, rfl, htt⟩ := dp_tupI hvt
          refine ⟨t, _, rfl, ht, rfl, _, _, rfl, _, _, rfl, rfl, ?_⟩
          refine ⟨_, rfl, .inl ⟨rfl, _, SqL.of hM7⟩, _, rfl, tt, rfl, ⟨_, htt⟩, fun D3 hD3 => lc_data (K := K) walk_tup (fun _ => true) (fun k => .int (pi o (p.1.getD k 0))) (fun _ _ => rfl) (by rw [List.length_map]; omega) hD3 (fun H' e8 => same_seqT e8 htt) ?_ ?_⟩
          · rintro k2 v2 H8 H8' hk2 e8 ⟨rfl, hv2⟩
            obtain ⟨wk, hwk, rfl⟩ := map_get hv2
            have en2 : p.1.getD k2 0 = wk := getD_of hwk
            refine ⟨Same.refl _, _, eg_name, rfl, et_yes.weak fun b' H9 h9 => ⟨h9.1, h9.2 ▸ Same.refl _⟩, fun _ H9 e9 Q2 q2 => ?_⟩
            rw [en2] at q2
            exact ⟨_, rfl, _, rfl, ol, _, wk, _, rfl, rfl, SqL.of ((e07.trans (e8.trans e9)) _ _ hol), pi_at ho (hpm wk (List.mem_of_getElem? hwk)), q2 _ _ ⟨Same.refl _, .int _⟩⟩
          · intro H8 acc8 e8 hacc8 hda8
            rw [List.length_map, mapD_list p.1 0 (fun w => PyData.int (pi o w))] at hda8
            have hmm : p.1.map (fun w => PyData.int (pi o w)) = (p.1.map (pi o)).map PyData.int := by rw [List.map_map]; rfl
            rw [hmm] at hda8
            obtain rfl := dps_ints' hda8
            refine ⟨D3, _, rfl, .inl ⟨SqL.of hacc8, fun t9 ht9 => ?_⟩⟩
            have e9 := same_new (o := .tup ((p.1.map (pi o)).map V.int)) ht9
            refine ⟨_, rfl, small_le (show 2 ≤ 100000 by decide), fun t10 ht10 => ?_⟩
            have e10 := same_new (o := .tup [V.ref t9, V.int p.2]) ht10
            have e710 := (e8.trans e9).trans e10
            have hM10 := e710 _ _ hM7
            refine ⟨M, acc2, V.ref t10, rfl, rfl, hM10, small_lt (by rw [dps_len ha7, List.length_map, List.length_map, List.length_take]; omega), ?_⟩
            have tp := Tp.upd (o' := .lst (acc2 ++ [V.ref t10])) hM10 rfl
            refine ⟨_, _, _, _, _, acc2 ++ [V.ref t10], rfl, same_mut (e57.trans e710) hM, upd_same, ?_⟩
            rw [take_succ_get hp, List.map_append, List.map_append]
            refine dps_append (dps_tp tp (flat_rows _) (dps_same e710 ha7)) (.cons (dp_tp tp (flat_row _) ?_) .nil)
            exact .tup (SqT.of upd_same) (.cons (tupI_of (SqT.of (e10 _ _ upd_same))) (.cons (.int _) .nil))
        · rintro σ H7 ⟨v6, v10, v11, v12, v13, acc2, rfl, e57, hM7, ha7⟩
          rw [hlen, List.take_length] at ha7
          have e07 := e05.trans e57
          have hY : YdAt K H7 (V.ref D) (ys.map fun y => srt (y.map (pi o))) cs'.length := by
            refine ⟨.lst (SqL.of (e57 _ _ hacc)) (dps_same e57 hda), by rw [List.length_map]; exact hy1, by rw [List.length_map]; exact hy8, fun y' hy' => ?_⟩
            obtain ⟨y0, hy0, rfl⟩ := List.mem_map.mp hy'
            rw [hcl]
            exact good_ren ho (hyg y0 hy0)
          refine ⟨_, rfl, _, rfl, _, rfl, V.ref ix, y, V.ref D, cs', rs, _, rfl, hcr.same (e5.trans e57), hs.same e07, hY, fun v1 r1 H8 e8 hv1 hr1 hrl1 => ?_⟩
          rw [hcl] at hr1
          obtain ⟨kl, hk1, hk2, hk3⟩ := kl_of _ acc2 (dps_same e8 ha7)
          refine ⟨_, rfl, sort_use (fun q : V × (List Int × Int) => q.1) (fun q => rowD q.2) kl (by rw [hk1]; exact SqL.of (e8 _ _ hM7)) hk3 (fun _ _ => alike_row _ _) (fun _ _ => ⟨_, _, rfl⟩) (fun _ => depth_row _) fun p kl' hp perm pw => ?_⟩
          have e9 := same_new (o := .lst (kl'.map fun q : V × (List Int × Int) => q.1)) hp
          have hback : Dp K (upd H8 p (.lst (kl'.map fun q : V × (List Int × Int) => q.1))) (V.ref p) (.list ((kl'.map (·.2)).map rowD)) :=
            .lst (SqL.of upd_same) (kl_back kl' fun q hq => dp_same e9 (hk3 q (perm.mem_iff.mp hq)))
          have heq : r1 = kl'.map (·.2) := by
            refine MS.renamed_rows hren (tk := tkM cs rs) (tk' := tkM cs' rs) (fun w s hw hs2 => ?_) (fun y hyy => ⟨(hyg y hyy).ne, (hyg y hyy).mem⟩) (List.length_map ..) (fun i y0 y' h1 h2 w => ?_) hrows hr1 ?_ ?_
            · unfold tkM
              rw [hmk2 w hw, List.map_map]
              congr 1
              exact List.map_congr_left fun v hv => hmk2 v (hs2 v hv)
            · rw [List.getElem?_map, h1] at h2
              injection h2 with h2
              rw [← h2]
              exact (MS.srt_perm _).mem_iff
            · rw [← hk2]
              exact perm.map _
            · rw [List.pairwise_map]
              refine pw.imp fun {a b} h hne => ?_
              rw [lt_row (Ne.symm hne)] at h
              exact of_decide_eq_false h
          refine ⟨_, _, dp_same e9 hv1, heq ▸ hback, shaped_rows _, shaped_rows _, ?_⟩
          rw [eqv_rows]
          exact k _ ((e07.trans e8).trans e9)
end
end MW

/-! The law. -/
namespace MW
open PySem PySem.Spec PyProof.Rows L2
open MS (ws free begs perms own owns mem_ws mem_perms mem_begs)

abbrev sLaw : Stmt := top 79
/-- the heap without p -/
def rm (p : Addr) (H : Hp) : Hp := fun b => if b = p then none else H b
theorem rm_at (p : Addr) (H : Hp) : rm p H p = none := if_pos rfl
theorem rm_ne {p b : Addr} {H : Hp} (h : b ≠ p) : rm p H b = H b := if_neg h
theorem rm_same (p : Addr) (H : Hp) : Same (rm p H) H := fun b u h => by
  by_cases c : b = p
  · subst c
    rw [rm_at] at h
    cases h
  · rw [rm_ne c] at h
    exact h
theorem rm_off (p : Addr) (H : Hp) : Off p H (rm p H) := fun b u c h => by rw [rm_ne c]; exact h
theorem dp_off_list {K : PySem.W.Frag} {p : Addr} {H H' : Hp} {v : V} {ds : List PyData} (st : St p H) (o : Off p H H') (h : Dp K H v (.list ds)) (fl : flatDs ds = true) (hne : ∃ d r, ds = .tuple d :: r) : Dp K H' v (.list ds) := by
  obtain ⟨a, xs, rfl, hla, hxs⟩ := dp_lst h
  refine .lst ?_ (dps_tp (off_tp o st) fl hxs)
  rcases hla with hla | hla
  · have ne : a ≠ p := by
      rintro rfl
      obtain ⟨is, hp⟩ := st
      obtain ⟨d, r, rfl⟩ := hne
      rcases hla with hla | ⟨u, hla⟩
      · rw [hp] at hla
        cases hxs with
        | cons h1 h2 =>
          cases h1
          cases is with
          | nil => cases hla
          | cons i is => cases hla
      · rw [hp] at hla
        cases hla
    rcases hla with hla | ⟨u, hla⟩
    · exact .inl (.inl (o a _ ne hla))
    · exact .inl (.inr ⟨u, o a _ ne hla⟩)
  · exact .inr hla
theorem crew_off {K : PySem.W.Frag} {C p : Addr} {H H' : Hp} {v : V} {cs : List (Str × Str)} (st : St p H) (o : Off p H H') (h : CrewAt K C H v cs) : CrewAt K C H' v cs := by
  obtain ⟨a, dx, l, h1, h2, h3, h4, h5⟩ := h
  have ne : a ≠ p := by
    rintro rfl
    obtain ⟨is, hp⟩ := st
    rw [hp] at h2
    cases h2
  refine ⟨a, dx, l, h1, o a _ ne h2, dp_off_list st o h3 (flat_cDs cs) ?_, h4, h5⟩
  cases cs with
  | nil => exact absurd h4 (by decide)
  | cons c r => exact ⟨_, _, rfl⟩
theorem sch_off {K : PySem.W.Frag} {C p : Addr} {Hb H H' : Hp} {v : V} {rs : List Rul} (st : St p H) (hb : St p Hb) (o : Off p H H') (h : SchAt K C H v rs) (nw : SchNw C Hb H v) : SchAt K C H' v rs := by
  obtain ⟨a, dx, l, h1, h2, h3, h4⟩ := h
  obtain ⟨a', dx', l', q1, q2, q3⟩ := nw
  rw [h1] at q1
  cases q1
  rw [h2] at q2
  cases q2
  have nl : l ≠ p := by
    rintro rfl
    obtain ⟨is, hp⟩ := hb
    rw [q3] at hp
    cases hp
  have ne : a ≠ p := by
    rintro rfl
    obtain ⟨is, hp⟩ := st
    rw [hp] at h2
    cases h2
  obtain ⟨l2, xs, e, hla, hxs⟩ := dp_lst h3
  cases e
  refine ⟨a, dx, l, h1, o a _ ne h2, .lst ?_ (dps_tp (off_tp o st) (flat_rs rs) hxs), h4⟩
  rcases hla with hla | hla
  · rcases hla with hla | ⟨u, hla⟩
    · exact .inl (.inl (o l _ nl hla))
    · exact .inl (.inr ⟨u, o l _ nl hla⟩)
  · exact .inr hla
def spLaw (K : PySem.W.Frag) : Sp := fun vs H Q _ => ∃ (a : Addr) (ns : List Int), vs = [.ref a] ∧ SqL K H a (ns.map V.int) ∧ ns.length ≤ 63 ∧ ∀ H', Q (.bl true) H'
structure LawF (P : Program) (w : World) (K : PySem.W.Frag) (mg : Str → Option Value) (base : Heap) (C CS CV : Addr) : Prop where
  stream : Fn P w K mg base 1 "_law_stream" (spStream K)
  draw : Fn P w K mg base 1 "_law_draw" spDraw
  size : Fn P w K mg base 2 "_law_size" spSize
  makes : Fn P w K mg base 2 "_law_makes" spMakes
  rules : Fn P w K mg base 4 "_law_rules" (spLRules K)
  workers : Fn P w K mg base 1 "_law_workers" (spWorkers K)
  spot : Fn P w K mg base 1 "_law_spot" (spSpot K)
  grow : Fn P w K mg base 2 "_law_growing" (spGrow K)
  rank : Fn P w K mg base 2 "_law_ranking" spRank
  coming : Fn P w K mg base 9 "_law_coming_fits" (spComing K C CS)
  shares : Fn P w K mg base 8 "_law_shares_equally" (spShares K C)
  tally : Fn P w K mg base 7 "tally" (spTally K C CS)
  vfit : Fn P w K mg base 9 "_law_verdicts_fit" (spVFit K C CS)
  sameT : Fn P w K mg base 8 "_law_same_turned" (spSameT K C CS)
  ren : Fn P w K mg base 8 "_law_same_renamed" (spRen K CS)
  beside : Fn P w K mg base 8 "_law_same_beside" (spBeside K CS)
  crew : Cn P w K mg base 3 C (spCInit K C)
  scheme : Cn P w K mg base 1 CS (spSInit K CS)
  cwrite : Mt P w K mg base 1 C "write" (spCWrite K C)
  swrite : Mt P w K mg base 3 CS "write" (spSWrite K CS)
  cread : Cm P w K mg base 5 C "read" (spCRead K C)
  sread : Cm P w K mg base 5 CS "read" (spSRead K CS)
  mgC : mg "Crew" = some (.ref C)
  mgS : mg "Scheme" = some (.ref CS)
section
variable {P : Program} {w : World} {K : PySem.W.Frag} {mg : Str → Option Value} {base : Heap} {C CS CV : Addr}
abbrev nLaw : List Str := ["_law_script", "_law_stream_here", "_law_size_here", "_law_makes_here", "_law_rules_here", "_law_hands", "_law_plan", "_law_spots", "_law_place", "_law_few", "_law_full", "_law_rows", "_law_rule_here"]
theorem sc_law : FnScope nLaw ["_law_script"] (defScope sLaw) := ⟨rfl, rfl, rfl, by decide +kernel, rfl, by decide +kernel, by decide +kernel⟩
theorem workers_crew {ms : List Str} {t : Nat} {w : Int} (hw : w ∈ ws ms.length) : mkOf (workersL ms t) w = ms.getD w.toNat "" := mk_workers hw
theorem ok_law {f : Addr} {fd : FuncData} (F : Fun K "law" "law" sLaw f fd) (B : Bi mg) (L : LawF P w K mg base C CS CV) : FnOk P w K mg base CX0 10 f fd ["_law_script"] (spLaw K) := by
  refine F.ok sc_law (fun vs H Q E h => ?_) (fun cdv A outer s H vs Q E hr h => ?_)
  · obtain ⟨a, ns, rfl, _⟩ := h
    rfl
  · obtain ⟨a, ns, rfl, ha, h63, k⟩ := h
    have nd := sc_law.nd
    refine ⟨_, pss_cons (ps_set (i := 1) nd rfl (Or.inl rfl) (pe_fn L.stream hr (by decide) (pa_cons (pv 0) pa_nil)))
      (pss_cons (ps_set (i := 2) nd rfl (Or.inl rfl) (pe_fn L.size hr (by decide) (pa_cons (pv 1) pa_nil)))
      (pss_cons (ps_set (i := 3) nd rfl (Or.inl rfl) (pe_fn L.makes hr (by decide) (pa_cons (pv 1) (pa_cons (pv 2) pa_nil))))
      (pss_cons (ps_set (i := 4) nd rfl (Or.inl rfl) (pe_fn L.rules hr (by decide) (pa_cons (pv 1) pa_nil)))
      (pss_cons (ps_if (pt_cmpR op_eq (pe_fn L.draw hr (by decide) (pa_cons (pv 1) (pa_cons pe_int pa_nil))) pe_int (nomark _))
        (pss_one (ps_setLc (i := 4) (own := [("_law_rule_here", 12)]) (g := gName 12) (tt := tYes) rfl nd rfl rfl (sw_true rfl rfl rfl (by decide +kernel)) (pi_list (pv 4)) (blkOk_by (own := [("_law_rule_here", 12)]) (N := nLaw) (sc := defScope sLaw) (by decide +kernel)) (fun _ _ _ _ _ => pg_name (i := 12) nd rfl (Or.inl rfl))
          (fun _ _ _ _ _ => pts_nil) (fun _ _ _ _ _ => pe_tup (pa_cons (pe_ix (ix_tupK K) (pv 12) pe_int (fun _ _ => rfl)) (pa_cons (pe_tup pa_nil) pa_nil))))) pss_nil)
      (pss_cons (ps_set (i := 5) nd rfl (Or.inl rfl) (pe_cm L.cread hr (by decide) (pe_glob (v := .ref C) rfl L.mgC rfl) (pa_cons (pe_m0 L.cwrite hr (by decide) (pe_new L.crew hr (by decide) L.mgC (pa_cons (pe_fn L.workers hr (by decide) (pa_cons (pv 3) (pa_cons (pe_fn L.draw hr (by decide) (pa_cons (pv 1) (pa_cons pe_int pa_nil))) pa_nil))) pa_nil))) pa_nil)))
      (pss_cons (ps_set (i := 6) nd rfl (Or.inl rfl) (pe_cm L.sread hr (by decide) (pe_glob (v := .ref CS) rfl L.mgS rfl) (pa_cons (pe_m0 L.swrite hr (by decide) (pe_new L.scheme hr (by decide) L.mgS (pa_cons (pe_callTy call_list_of (by rfl) B.list (by decide +kernel) (pa_cons (pv 4) pa_nil)) pa_nil))) pa_nil)))
      (pss_cons (ps_set (i := 7) nd rfl (Or.inl rfl) (pe_fn L.grow hr (by decide) (pa_cons (pv 1) (pa_cons (pv 2) (pa_cons (pe_op op_add pe_int (pe_fn L.draw hr (by decide) (pa_cons (pv 1) (pa_cons (pe_op op_sub pe_int (pe_op op_fdiv (pv 2) pe_int)) pa_nil)))) pa_nil)))))
      (pss_cons (ps_for PassesOwn.never rfl (pi_range2 rfl B.range (pa_cons pe_int (pa_cons (pe_callB call_len_seq (by rfl) B.len PySem.boot_len (pa_cons (pv 7) pa_nil)) pa_nil))) (pg_name (i := 8) nd rfl (Or.inl rfl))
        (pss_one (ps_for PassesOwn.never rfl (pi_list (pe_slice sl_list (pv 7) po_none (po_some (pv 8)))) (pg_name (i := 9) nd rfl (Or.inl rfl))
          (pss_one (ps_if (pt_not (pt_val (pe_fn L.coming hr (by decide) (pa_cons (pv 5) (pa_cons (pv 6) (pa_cons (pv 9) (pa_cons (pe_ix ix_list (pv 7) (pv 8) (fun _ _ => rfl)) pa_nil))))))) (pss_one ps_never) pss_nil)))))
      (pss_cons (ps_if (pt_not (pt_val (pe_fn L.shares hr (by decide) (pa_cons (pv 5) (pa_cons (pe_ix ix_list (pv 7) (pe_un un_neg pe_int) (fun _ _ => rfl)) pa_nil))))) (pss_one ps_never) pss_nil)
      (pss_cons (ps_if (pt_cmpR op_eq (pe_fn L.draw hr (by decide) (pa_cons (pv 1) (pa_cons pe_int pa_nil))) pe_int (nomark _))
        (pss_cons (ps_set (i := 10) nd rfl (Or.inl rfl) (pe_ix ix_list (pe_lst (pa_cons pe_int (pa_cons pe_int (pa_cons pe_int (pa_cons pe_int (pa_cons pe_int (pa_cons pe_int pa_nil))))))) (pe_op op_sub (pv 2) pe_int) (fun _ _ => rfl)))
        (pss_one (ps_expr (pe_bm PySem.F.plainAttrs_list PySem.F.slot_list_append PySem.F.type_list_append mt_append (pv 7) (pa_cons (pe_fn L.spot hr (by decide) (pa_cons (pv 2) (pa_cons (pe_op op_add pe_int (pe_fn L.draw hr (by decide) (pa_cons (pv 1) (pa_cons (pv 10) pa_nil)))) pa_nil))) pa_nil))))) pss_nil)
      (pss_cons (ps_set (i := 11) nd rfl (Or.inl rfl) (pe_fn L.tally hr (by decide) (pa_cons (pv 5) (pa_cons (pv 6) (pa_cons (pe_callTy call_list_of (by rfl) B.list (by decide +kernel) (pa_cons (pv 7) pa_nil)) pa_nil)))))
      (pss_cons (ps_if (pt_not (pt_val (pe_fn L.vfit hr (by decide) (pa_cons (pv 5) (pa_cons (pv 6) (pa_cons (pv 7) (pa_cons (pv 11) pa_nil))))))) (pss_one ps_never) pss_nil)
      (pss_cons (ps_if (pt_not (pt_val (pe_fn L.sameT hr (by decide) (pa_cons (pv 5) (pa_cons (pv 6) (pa_cons (pv 7) (pa_cons (pv 11) pa_nil))))))) (pss_one ps_never) pss_nil)
      (pss_cons (ps_if (pt_not (pt_val (pe_fn L.ren hr (by decide) (pa_cons (pv 3) (pa_cons (pv 6) (pa_cons (pv 7) (pa_cons (pv 11) (pa_cons (pe_fn L.rank hr (by decide) (pa_cons (pv 1) (pa_cons (pv 2) pa_nil))) pa_nil)))))))) (pss_one ps_never) pss_nil)
      (pss_one (ps_ret (pe_or (pe_cmpR op_eq (pv 2) pe_int (nomark _)) (pe_one (pe_fn L.beside hr (by decide) (pa_cons (pv 3) (pa_cons (pv 6) (pa_cons (pv 7) (pa_cons (pv 11) pa_nil))))))))))))))))))))))), ?_⟩
    -- stream, size, makes, rules
    refine ⟨_, rfl, a, ns, rfl, ha, h63, fun p H1 e1 np st1 => ?_⟩
    refine ⟨_, rfl, p, rfl, st1, fun n H2 n1 n5 o2 st2 => ?_⟩
    refine ⟨_, rfl, _, rfl, p, n, rfl, st2, by omega, fun ml ms H3 hml hmo nml hm3 o3 st3 => ?_⟩
    have hpm : ml ≠ p := (st_ne st2 nml).symm
    refine ⟨_, rfl, p, rfl, st3, fun rl0 acc0 rs0 H4 ok0 nrl0 hr4 ha4 o4 st4 => ?_⟩
    have hpr : rl0 ≠ p := (st_ne st3 nrl0).symm
    have hm4 := o4 ml _ hpm hm3
    -- the rules, with bounds or without
    apply viaC (I := fun (rl : Addr) (H6 : Hp) => ∃ (rs : List Rul) (acc : List V), SchOk rs ∧ rl ≠ p ∧ H6 rl = some (.lst acc) ∧ DpAll K H6 acc (rs.map rD) ∧ St p H6 ∧ H6 ml = some (.lst (ms.map V.str)))
    · intro rest
      refine ⟨_, rfl, p, 3, rfl, st4, by decide, fun v H5 h0 h1 o5 st5 => ⟨rfl, _, rfl, ?_⟩⟩
      obtain ⟨rl1, hrl1⟩ : ∃ x, x = rl0 := ⟨_, rfl⟩
      rw [← hrl1]
      have hr5 : H5 rl1 = some (.lst acc0) := by rw [hrl1]; exact o5 rl0 _ hpr hr4
      have ha5 := dps_tp (off_tp o5 st4) (flat_rs rs0) ha4
      have hm5 := o5 ml _ hpm hm4
      have hal : acc0.length = rs0.length := by rw [dps_len ha4, List.length_map]
      have hle := ok0.le
      refine ite2 (fun _ => ?yes) (fun _ => ?no)
      case no => exact rest rl1 H5 ⟨rs0, acc0, ok0, hrl1 ▸ hpr, hr5, ha5, st5, hm5⟩
      case yes =>
        refine ⟨_, rfl, rl1, rfl, ⟨_, SqL.of hr5⟩, fun D hD => lc_data (K := K) walk_list (fun _ => true) (fun i => rD ⟨(rs0.getD i ⟨.any, []⟩).g, []⟩) (fun i _ => flat_r _) (by omega) hD (fun H' e => SqL.of (e _ _ hr5)) ?_ ?_⟩
        · rintro i v2 H7 H7' hi e ⟨rfl, hv⟩
          obtain ⟨r, hr1, hd⟩ := dps_all ha5 hv
          have en : rs0.getD i ⟨.any, []⟩ = r := getD_of hr1
          obtain ⟨t, gv, bv, rfl, ht, hgv, hbv⟩ := dp_tup2 (dp_same e hd)
          refine ⟨Same.refl _, _, eg_name, rfl, et_yes.weak fun b' H8 h8 => ⟨h8.1, h8.2 ▸ Same.refl _⟩, fun _ H8 e8 Q' q => ?_⟩
          rw [en] at q
          refine ⟨_, rfl, t, _, 0, _, rfl, rfl, same_seqT e8 ht, rfl, Nat.zero_le _, fun t2 ht2 => ?_⟩
          have e9 := same_new (o := .tup []) ht2
          refine ⟨small_le (show 2 ≤ 100000 by decide), fun t3 ht3 => ?_⟩
          have e10 := same_new (o := .tup [gv, V.ref t2]) ht3
          exact q _ _ ⟨e9.trans e10, .tup (SqT.of upd_same) (.cons (dp_same (e8.trans (e9.trans e10)) hgv) (.cons (.tup (xs := []) (SqT.of (e10 _ _ upd_same)) .nil) .nil))⟩
        · intro H7 acc e7 hacc hda
          rw [hal, mapD_list rs0 ⟨.any, []⟩ (fun r => rD ⟨r.g, []⟩)] at hda
          refine rest D H7 ⟨rs0.map fun r => ⟨r.g, []⟩, acc, ⟨by rw [List.length_map]; exact hle, fun r hr1 => ?_⟩, (st_ne st5 hD).symm, hacc, ?_, st5.same e7, e7 _ _ hm5⟩
          · obtain ⟨r0, hr0, rfl⟩ := List.mem_map.mp hr1
            exact ⟨(ok0.ok r0 hr0).1, Nat.zero_le _, fun _ h => nomatch h⟩
          · rw [List.map_map]
            exact hda
    · rintro rl H6 ⟨rs, acc, ok, hrp, hrl, hac, st6, hm6⟩
      -- hands
      refine ⟨rfl, _, rfl, _, rfl, p, 6, rfl, st6, by decide, fun t H7 t0 t1 o7 st7 => ?_⟩
      have hm7 := o7 ml _ hpm hm6
      have hrl7 := o7 rl _ hrp hrl
      have hac7 := dps_tp (off_tp o7 st6) (flat_rs rs) hac
      have htt : ((t.toNat : Nat) : Int) = t := by omega
      obtain ⟨cs, hcs⟩ : ∃ cs, cs = workersL ms t.toNat := ⟨_, rfl⟩
      have cok : CrewOk cs := hcs ▸ workers_ok hmo (by omega) (by omega) (by omega)
      have hcl : cs.length = n := by rw [hcs, workers_len, hml]
      refine ⟨V.ref ml, ms, t.toNat, by rw [htt], words_of (SqL.of hm7), by omega, by omega, fun vw H8 e8 hvw => ?_⟩
      rw [← hcs] at hvw
      intro ix dx hix hdx ne
      have e9 := same_ins (C := C) hix hdx
      refine ⟨ix, dx, vw, cs, rfl, upd_same, dp_same e9 hvw, cok, fun H9 hcr ho => ⟨rfl, ?_⟩⟩
      have e79 := e8.trans (same_off e9 ho hix)
      obtain ⟨ca, cdx, cl, hca, hci, _⟩ := id hcr
      cases hca
      refine ⟨ix, cdx, _, rfl, hci, by rw [lk_by (by decide +kernel)]; rfl, V.ref ix, cs, rfl, hcr, cok.nm, fun H10 e10 => ⟨cs, rfl, cok, fun hv H11 e11 hcr11 => ?_⟩⟩
      have e711 := e79.trans (e10.trans e11)
      have st11 := st7.same e711
      have hm11 := e711 _ _ hm7
      -- plan
      refine ⟨rfl, _, rfl, rl, acc, rfl, .inl (SqL.of (e711 _ _ hrl7)), fun l hl => ?_⟩
      have e12 := same_new (o := .lst acc) hl
      intro ix2 dx2 hix2 hdx2 ne2
      have e13 := same_ins (C := CS) hix2 hdx2
      refine ⟨ix2, dx2, V.ref l, rs, rfl, upd_same, .lst (SqL.of (e13 _ _ upd_same)) (dps_same (e711.trans (e12.trans e13)) hac7), ok.le, fun r hr1 => (ok.ok r hr1).ok, fun H14 hsc _ ho2 => ⟨rfl, ?_⟩⟩
      have e1114 := e12.trans (same_off e13 ho2 hix2)
      obtain ⟨sa, sdx, sl0, hsa, hsi, _⟩ := id hsc
      cases hsa
      refine ⟨ix2, sdx, _, rfl, hsi, by rw [lk_by (by decide +kernel)]; rfl, V.ref ix2, rs, rfl, hsc, ok, fun H15 e15 => ⟨rs, rfl, ok, fun pv H16 e16 hsc16 hnw => ?_⟩⟩
      have e1115 := e1114.trans e15
      have e1116 := e1115.trans e16
      have st16 := st11.same e1116
      have hm16 := e1116 _ _ hm11
      -- what stays, at the heap without the stream
      obtain ⟨G, hG⟩ : ∃ G, G = rm p H16 := ⟨_, rfl⟩
      have gp : G p = none := by rw [hG]; exact rm_at p H16
      have gC : CrewAt K C G hv cs := hG ▸ crew_off st16 (rm_off p H16) (hcr11.same e1116)
      have gS : SchAt K CS G pv rs := hG ▸ sch_off st16 (st11.same e1115) (rm_off p H16) hsc16 hnw
      have gM : G ml = some (.lst (ms.map V.str)) := by rw [hG, rm_ne hpm]; exact hm16
      have gs : Same G H16 := by rw [hG]; exact rm_same p H16
      -- spots
      refine ⟨_, rfl, _, rfl, _, rfl, _, rfl, _, _, rfl, rfl, ⟨by decide, by decide⟩, _, _, rfl, rfl, p, _, rfl, st16, ?_, fun v H17 v0 v1 o17 st17 => ⟨_, _, rfl, rfl, p, n, (1 + v).toNat, ?_, st17, n1, n5, by omega, ?_, fun sl acc7 ys H18 hyl hyg hyp nsl hsl hac18 o18 st18 => ?_⟩⟩
      · show (0 : Int) < 3 - (n : Int) / 5
        omega
      · rw [show (((1 + v).toNat : Nat) : Int) = 1 + v by omega]
      · have : v < 3 - (n : Int) / 5 := v1
        omega
      have gs17 := same_off gs o17 gp
      have gs18 := same_off gs17 o18 gp
      have gsl : G sl = none := none_back gs17 nsl
      have hslp : sl ≠ p := (st_ne st17 nsl).symm
      have hyl1 : 1 ≤ ys.length := by omega
      have hyl3 : ys.length ≤ 3 := by
        have : v < 3 - (n : Int) / 5 := v1
        omega
      have hacl : acc7.length = ys.length := by rw [dps_len hac18, List.length_map]
      have hyg' : ∀ y ∈ ys, GoodY cs.length y := fun y hy => hcl ▸ hyg y hy
      -- the comings
      refine ⟨_, rfl, sl, acc7, rfl, .inl (SqL.of hsl), 1, (acc7.length : Int), rfl, ⟨by decide, by decide, by omega, by omega⟩, ?_⟩
      refine for_range (lo := 1) (n := ((acc7.length : Int) - 1).toNat) (fun i σ H' => ∃ v8 v9 v10 v11 v12 : Option V, σ = [some (.ref a), some (.ref p), some (.int n), some (.ref ml), some (.ref rl), some hv, some pv, some (.ref sl), v8, v9, v10, v11, v12] ∧ Same H18 H')
        ⟨_, _, _, _, _, rfl, Same.refl _⟩ ?_ ?_
      · rintro i σ H19 hi ⟨v8, v9, v10, v11, v12, rfl, e19⟩
        have hi2 : i + 1 < ys.length := by omega
        refine ⟨_, rfl, _, rfl, _, rfl, sl, acc7, rfl, SqL.of (e19 _ _ hsl), fun q hq => ?_⟩
        rw [show (1 + (i : Int)) = ((i + 1 : Nat) : Int) by omega, cutV_take]
        have e20 := same_new (o := .lst (acc7.take (i + 1))) hq
        refine ⟨q, rfl, ⟨_, SqL.of upd_same⟩, for_list (K := K) (a := q) (xs := acc7.take (i + 1)) (fun j σ H' => ∃ v9 v10 v11 v12 : Option V, σ = [some (.ref a), some (.ref p), some (.int n), some (.ref ml), some (.ref rl), some hv, some pv, some (.ref sl), some (.int ((i + 1 : Nat) : Int)), v9, v10, v11, v12] ∧ Same (upd H19 q (.lst (acc7.take (i + 1)))) H')
          ⟨_, _, _, _, rfl, Same.refl _⟩ (fun j σ H' _ ⟨_, _, _, _, _, e⟩ => SqL.of (e _ _ upd_same)) ?_ ?_⟩
        · rintro j vj σ H21 hj ⟨v9, v10, v11, v12, rfl, e21⟩
          have hj0 := hj
          rw [List.getElem?_take] at hj
          split at hj
          next hji =>
            have e1821 := (e19.trans e20).trans e21
            obtain ⟨few, hfew, hfd⟩ := dps_all hac18 hj
            obtain ⟨vm, hvm, hmd⟩ : ∃ vm, acc7[i + 1]? = some vm ∧ ∃ more, ys[i + 1]? = some more ∧ Dp K H18 vm (tupI more) := by
              refine ⟨acc7[i + 1]'(by omega), List.getElem?_eq_getElem _, ?_⟩
              exact dps_all hac18 (List.getElem?_eq_getElem _)
            obtain ⟨more, hmore, hmd⟩ := hmd
            have hsub : ∀ w ∈ few, w ∈ more := by
              obtain ⟨l1, g1⟩ := List.getElem?_eq_some_iff.mp hfew
              obtain ⟨l2, g2⟩ := List.getElem?_eq_some_iff.mp hmore
              have := List.pairwise_iff_getElem.mp hyp j (i + 1) l1 l2 hji
              rw [g1, g2] at this
              exact this
            have gs21 := gs18.trans e1821
            refine ⟨_, rfl, _, rfl, _, rfl, _, rfl, _, rfl, sl, acc7, _, vm, rfl, rfl, SqL.of (e1821 _ _ hsl), atI_nat hvm, hv, pv, vj, vm, cs, rs, few, more, rfl, gC.same gs21, by omega, gS.same gs21, dp_same e1821 hfd, dp_same e1821 hmd, hyg' few (List.mem_of_getElem? hfew), hyg' more (List.mem_of_getElem? hmore), hsub, fun H22 e22 => ⟨_, rfl, iteF ⟨_, _, _, _, rfl, e21.trans e22⟩⟩⟩
          next => cases hj
        · rintro σ H21 ⟨v9, v10, v11, v12, rfl, e21⟩
          exact ⟨_, _, _, _, _, rfl, (e19.trans e20).trans e21⟩
      · rintro σ H19 ⟨v8, v9, v10, v11, v12, rfl, e19⟩
        have gs19 := gs18.trans e19
        -- equal shares
        obtain ⟨acc', vl, hal⟩ : ∃ acc' vl, acc7 = acc' ++ [vl] := ⟨acc7.dropLast, acc7.getLast (by intro z; rw [z] at hacl; simp at hacl; omega), (List.dropLast_concat_getLast _).symm⟩
        obtain ⟨yl, hyl2, hyld⟩ : ∃ yl, yl ∈ ys ∧ Dp K H18 vl (tupI yl) := by
          have hx : acc7[acc'.length]? = some vl := by rw [hal, List.getElem?_append_right (Nat.le_refl _), Nat.sub_self]; rfl
          obtain ⟨yl, h1, h2⟩ := dps_all hac18 hx
          exact ⟨yl, List.mem_of_getElem? h1, h2⟩
        have hsl19 := e19 _ _ hsl
        refine ⟨_, rfl, _, rfl, _, rfl, sl, acc7, -1, vl, rfl, rfl, SqL.of hsl19, by rw [hal]; exact atI_last _ _, hv, vl, cs, yl, rfl, gC.same gs19, by omega, dp_same e19 hyld, hyg' yl hyl2, fun H20 e20 => ⟨_, rfl, iteF ?_⟩⟩
        have e1820 := e19.trans e20
        have gs20 := gs18.trans e1820
        have st20 := st18.same e1820
        have hsl20 := e1820 _ _ hsl
        have hac20 := dps_same e1820 hac18
        -- one more yard, or none
        apply viaC (I := fun (_ : Option V) (H' : Hp) => ∃ (ys' : List (List Int)) (acc' : List V), Same G H' ∧ St p H' ∧ H' sl = some (.lst acc') ∧ DpAll K H' acc' (ys'.map tupI) ∧ (∀ y ∈ ys', GoodY cs.length y) ∧ 1 ≤ ys'.length ∧ ys'.length ≤ 4)
        · intro rest
          refine ⟨_, rfl, p, 2, rfl, st20, by decide, fun v2 H21 h20 h21 o21 st21 => ⟨rfl, _, rfl, ?_⟩⟩
          obtain ⟨v10', hv10⟩ : ∃ x, x = v10 := ⟨_, rfl⟩
          rw [← hv10]
          have gs21 := same_off gs20 o21 gp
          have hsl21 := o21 sl _ hslp hsl20
          have hac21 := dps_tp (off_tp o21 st20) (flat_tups _) hac20
          refine ite2 (fun _ => ?yes) (fun _ => ?no)
          case no => exact rest v10' H21 ⟨ys, acc7, gs21, st21, hsl21, hac21, hyg', hyl1, by omega⟩
          case yes =>
            obtain ⟨g1, g2⟩ := pow2_ge n1 n5
            refine ⟨small_le (show 6 ≤ 100000 by decide), fun l22 hl22 => ?_⟩
            have e22 := same_new (o := .lst ([1, 3, 7, 15, 31, 63].map V.int)) hl22
            refine ⟨_, rfl, _, _, rfl, rfl, l22, _, (n : Int) - 1, _, rfl, rfl, SqL.of upd_same, fulls_at n1 n5, ?_⟩
            have st22 := st21.same e22
            refine ⟨_, rfl, .inl ⟨rfl, _, SqL.of (e22 _ _ hsl21)⟩, _, rfl, _, rfl, _, rfl, p, _, rfl, st22, by omega, fun v3 H23 h30 h31 o23 st23 => ⟨_, _, rfl, rfl, n, (1 + v3).toNat, ?_, by omega, fun vy H24 e24 hvy => ?_⟩⟩
            · rw [show (((1 + v3).toNat : Nat) : Int) = 1 + v3 by omega]
            have hsl23 := o23 sl _ hslp (e22 _ _ hsl21)
            have hsl24 := e24 _ _ hsl23
            have hac24 := dps_tp ((Tp.of e22).trans ((off_tp o23 st22).trans (Tp.of e24))) (flat_tups _) hac21
            have gs24 := (same_off (gs21.trans e22) o23 gp).trans e24
            refine ⟨sl, acc7, vy, rfl, rfl, hsl24, small_lt (by omega), ?_⟩
            have tp := Tp.upd (o' := .lst (acc7 ++ [vy])) hsl24 rfl
            refine rest _ _ ⟨ys ++ [spotL n (1 + v3).toNat], acc7 ++ [vy], same_mut gs24 gsl, (st23.same e24).mut (Ne.symm hslp), upd_same, ?_, fun y hy => ?_, by rw [List.length_append]; omega, by rw [List.length_append]; show ys.length + 1 ≤ 4; omega⟩
            · rw [List.map_append]
              exact dps_append (dps_tp tp (flat_tups _) hac24) (.cons (dp_tp tp (flat_tupI _) hvy) .nil)
            · rcases List.mem_append.mp hy with h | h
              · exact hyg' y h
              · rw [List.mem_singleton.mp h, hcl]
                exact spot_good n5 (by omega) (by omega)
        · rintro v10 H21 ⟨ys', acc', gs21, st21, hsl21, hac21, hyg2, hy1, hy4⟩
          -- rows
          refine ⟨_, rfl, _, rfl, _, rfl, sl, acc', rfl, .inl (SqL.of hsl21), fun l22 hl22 => ?_⟩
          have e22 := same_new (o := .lst acc') hl22
          have gs22 := gs21.trans e22
          have hY22 : YdAt K (upd H21 l22 (.lst acc')) (V.ref l22) ys' cs.length := ⟨.lst (SqL.of upd_same) (dps_same e22 hac21), hy1, by omega, hyg2⟩
          refine ⟨hv, pv, V.ref l22, cs, rs, ys', rfl, gC.same gs22, gS.same gs22, hY22, fun vr rows H23 e23 hrd hrows hrl2 => ?_⟩
          have e2123 := e22.trans e23
          have gs23 := gs21.trans e2123
          have hY23 : YdAt K H23 (V.ref sl) ys' cs.length := ⟨.lst (SqL.of (e2123 _ _ hsl21)) (dps_same e2123 hac21), hy1, by omega, hyg2⟩
          refine ⟨_, rfl, _, rfl, _, rfl, _, rfl, hv, pv, V.ref sl, vr, cs, rs, ys', rows, rfl, gC.same gs23, gS.same gs23, hY23, hrd, hrows, hrl2, fun H24 e24 => ⟨_, rfl, iteF ?_⟩⟩
          have gs24 := gs23.trans e24
          refine ⟨_, rfl, _, rfl, _, rfl, _, rfl, hv, pv, V.ref sl, vr, cs, rs, ys', rows, rfl, gC.same gs24, gS.same gs24, hY23.same e24, dp_same e24 hrd, hrows, hrl2, fun H25 e25 => ⟨_, rfl, iteF ?_⟩⟩
          have e2325 := e24.trans e25
          have gs25 := gs23.trans e2325
          have st25 := st21.same (e2123.trans e2325)
          -- numbered anew
          refine ⟨_, rfl, _, rfl, _, rfl, _, rfl, _, rfl, _, rfl, p, n, rfl, st25, by omega, fun ol o H26 hop nol hol o26 st26 => ?_⟩
          have gs26 := same_off gs25 o26 gp
          have hmk : ∀ w ∈ ws ms.length, mkOf cs w = ms.getD w.toNat "" := fun w hw => by rw [hcs]; exact mk_workers hw
          have hsl25 : H25 sl = some (.lst acc') := (e2123.trans e2325) _ _ hsl21
          have hac25 := dps_same (e2123.trans e2325) hac21
          have hY26 : YdAt K H26 (V.ref sl) ys' cs.length := ⟨.lst (SqL.of (o26 sl _ hslp hsl25)) (dps_tp (off_tp o26 st25) (flat_tups _) hac25), hy1, by omega, hyg2⟩
          have hrne : ∃ d r, rows.map rowD = .tuple d :: r := by
            cases hrr : rows with
            | nil =>
              have hmem := hrows.tal.mem (owns (tkM cs rs) ys' (ws cs.length))
              have := hmem.mpr (List.mem_map.mpr ⟨ws cs.length, mem_perms.mpr (List.Perm.refl _), rfl⟩)
              rw [hrr] at this
              cases this
            | cons q r => exact ⟨_, _, rfl⟩
          have hrd26 : Dp K H26 vr (.list (rows.map rowD)) := dp_off_list st25 o26 (dp_same e2325 hrd) (flat_rows rows) hrne
          have hcm : cs.length = ms.length := by omega
          refine ⟨ml, ol, pv, V.ref sl, vr, ms, o, cs, rs, ys', rows, rfl, gs26 _ _ gM, hmo, by omega, by omega, hol, by rw [hml]; exact hop, hmk, gS.same gs26, hcm ▸ hY26, hrd26, hcm ▸ hrows, hrl2, fun H27 e27 => ⟨_, rfl, iteF ?_⟩⟩
          have gs27 := gs26.trans e27
          -- beside
          refine ⟨_, rfl, rfl, _, rfl, ?_⟩
          rw [dec_int]
          by_cases c5 : n = 5
          · rw [decide_eq_true (by omega)]
            exact iteT (k _)
          · rw [decide_eq_false (by omega)]
            exact iteF ⟨_, rfl, _, rfl, _, rfl, _, rfl, ml, pv, V.ref sl, vr, ms, cs, rs, ys', rows, rfl, gs27 _ _ gM, hmo, by omega, by omega, hmk, gS.same gs27, hcm ▸ hY26.same e27, dp_same e27 hrd26, hcm ▸ hrows, hrl2, fun H28 _ => k H28⟩
end
end MW

set_option Elab.async false
set_option linter.all false
set_option maxRecDepth 100000
set_option maxHeartbeats 8000000
/-! What the top has written, as facts; all promises from them. -/
namespace MW
open PySem PySem.Spec PyProof.Rows L2

structure FnFact (K : PySem.W.Frag) (x : Str) (st : Stmt) : Prop where
  ex : ∃ (f : Addr) (od an : Option Addr) (sl : Array (Option Value)) (oc kV dc pm cd ct : Value), PySem.W.nsIn K mainGlobals x = some (some (.ref f)) ∧ K.lookup f = some ⟨oc, od, .func (PySem.W.fnOf x x (defArgs st) (defBody st) (defScope st) .none kV dc pm an cd ct), sl⟩ ∧
    PySem.W.codeIn K cd x = true ∧ PySem.W.keepIn K (.ref f) = true
theorem fn_fact {K : PySem.W.Frag} {x : Str} {st : Stmt} {f : Addr} {od an : Option Addr} {sl : Array (Option Value)} {oc kV dc pm cd ct : Value} (a : PySem.W.nsIn K mainGlobals x = some (some (.ref f)))
    (l : K.lookup f = some ⟨oc, od, .func (PySem.W.fnOf x x (defArgs st) (defBody st) (defScope st) .none kV dc pm an cd ct), sl⟩) (c : PySem.W.codeIn K cd x = true) (k : PySem.W.keepIn K (.ref f) = true) : FnFact K x st := ⟨⟨f, od, an, sl, oc, kV, dc, pm, cd, ct, a, l, c, k⟩⟩
structure MtFact (K : PySem.W.Frag) (C : Addr) (x q : Str) (st : Stmt) : Prop where
  ex : ∃ (f : Addr) (od an : Option Addr) (sl : Array (Option Value)) (oc kV dc pm cd ct : Value), PySem.W.findIn K (.ref C) x = some (some (.ref f)) ∧ PySem.W.isFn K (.ref f) = true ∧ K.lookup f = some ⟨oc, od, .func (PySem.W.fnOf x q (defArgs st) (defBody st) (defScope st) .none kV dc pm an cd ct), sl⟩ ∧
    PySem.W.codeIn K cd q = true ∧ PySem.W.keepIn K (.ref f) = true
theorem mt_fact {K : PySem.W.Frag} {C : Addr} {x q : Str} {st : Stmt} {f : Addr} {od an : Option Addr} {sl : Array (Option Value)} {oc kV dc pm cd ct : Value} (a : PySem.W.findIn K (.ref C) x = some (some (.ref f))) (i : PySem.W.isFn K (.ref f) = true)
    (l : K.lookup f = some ⟨oc, od, .func (PySem.W.fnOf x q (defArgs st) (defBody st) (defScope st) .none kV dc pm an cd ct), sl⟩) (c : PySem.W.codeIn K cd q = true) (k : PySem.W.keepIn K (.ref f) = true) : MtFact K C x q st := ⟨⟨f, od, an, sl, oc, kV, dc, pm, cd, ct, a, i, l, c, k⟩⟩
/-- a def behind a record (property, classmethod) -/
structure RcFact (K : PySem.W.Frag) (g : Addr) (x q : Str) (st : Stmt) : Prop where
  ex : ∃ (od an : Option Addr) (sl : Array (Option Value)) (oc kV dc pm cd ct : Value), K.lookup g = some ⟨oc, od, .func (PySem.W.fnOf x q (defArgs st) (defBody st) (defScope st) .none kV dc pm an cd ct), sl⟩ ∧ PySem.W.codeIn K cd q = true ∧ PySem.W.keepIn K (.ref g) = true
theorem rc_fact {K : PySem.W.Frag} {x q : Str} {st : Stmt} {g : Addr} {od an : Option Addr} {sl : Array (Option Value)} {oc kV dc pm cd ct : Value} (l : K.lookup g = some ⟨oc, od, .func (PySem.W.fnOf x q (defArgs st) (defBody st) (defScope st) .none kV dc pm an cd ct), sl⟩)
    (c : PySem.W.codeIn K cd q = true) (k : PySem.W.keepIn K (.ref g) = true) : RcFact K g x q st := ⟨⟨od, an, sl, oc, kV, dc, pm, cd, ct, l, c, k⟩⟩
structure PrFact (K : PySem.W.Frag) (C : Addr) (x q : Str) (st : Stmt) : Prop where
  ex : ∃ p g : Addr, PropOf K C x p g ∧ RcFact K g x q st
theorem pr_fact {K : PySem.W.Frag} {C p g : Addr} {x q : Str} {st : Stmt} {rest : List Value} (a : PySem.W.findIn K (.ref C) x = some (some (.ref p))) (b : PySem.W.specialIn K (.ref p) "__get__" = some (some (.builtin "property.__get__"))) (c : PySem.W.takesIn K (.ref p) = some true)
    (d : PySem.W.recIn K p "property" = some (.ref g :: rest)) (r : RcFact K g x q st) : PrFact K C x q st := ⟨⟨p, g, ⟨a, b, c, rest, d⟩, r⟩⟩
structure CmFact (K : PySem.W.Frag) (C : Addr) (x q : Str) (st : Stmt) : Prop where
  ex : ∃ p g : Addr, ClX.CMet K C (.type "type") x p g ∧ RcFact K g x q st
theorem cm_fact {K : PySem.W.Frag} {C p g : Addr} {x q : Str} {st : Stmt} {rest : List Value} (a : PySem.W.findCls K (.ref C) (.type "type") x = some (.get (.builtin "classmethod.__get__") (.ref p) .none (.ref C))) (b : PySem.W.recIn K p "classmethod" = some (.ref g :: rest)) (c : PySem.W.fnIn K g = true)
    (r : RcFact K g x q st) : CmFact K C x q st := ⟨⟨p, g, ⟨a, ⟨rest, b⟩, c⟩, r⟩⟩
structure ClFact (K : PySem.W.Frag) (C : Addr) (x : Str) : Prop where
  at_ : PySem.W.nsIn K mainGlobals x = some (some (.ref C))
  cl : Cls K C
  mks : PySem.W.makesIn K C = true
  kp : PySem.W.keepIn K (.ref C) = true
structure TpFact (K : PySem.W.Frag) (x : Str) (ss : List Str) : Prop where
  ex : ∃ a : Addr, PySem.W.nsIn K mainGlobals x = some (some (.ref a)) ∧ ∀ H, SqT K H a (ss.map V.str)
theorem tp_fact {K : PySem.W.Frag} {x : Str} {ss : List Str} {a : Addr} {od : Option Addr} {its : Array Value} {n : Nat} {sl : Array (Option Value)} (h : PySem.W.nsIn K mainGlobals x = some (some (.ref a))) (l : K.lookup a = some ⟨.type "tuple", od, .seq its n, sl⟩) (z : its.size ≤ 100) (v : Vals (ss.map V.str) its.toList) : TpFact K x ss :=
  ⟨⟨a, h, fun H => .inr ⟨_, its, n, l, rfl, rfl, small_le (by omega), v⟩⟩⟩
section
variable {P : Program} {w : World} {K : PySem.W.Frag} {mg : Str → Option Value} {base h : Heap} {C : Addr}
theorem mk_fn {x : Str} {st : Stmt} {k : Nat} {ps : List Str} {sp : Sp} (X : K.In h) (G : h.Ns mainGlobals mg) (q : FnFact K x st) (ok : ∀ (f : Addr) (fd : FuncData), Fun K x x st f fd → FnOk P w K mg base CX0 k f fd ps sp)
    (hb : ∀ (kV doc pm : Value) (an : Option Addr) (cdv ct : Value) (us : List Value), us.length = ps.length → bindArgs (PySem.W.fnOf x x (defArgs st) (defBody st) (defScope st) .none kV doc pm an cdv ct) ⟨us, []⟩ = pure (ps.zip us)) : Fn P w K mg base k x sp := by
  obtain ⟨f, od, an, sl, oc, kV, dc, pm, cd, ct, a, l, c, kp⟩ := q.ex
  have F := fun_mk (st := st) l c kp
  exact ⟨⟨f, _, ps, ok f _ F, PySem.W.mg_of X G a, kp, F.binds hb⟩⟩
theorem mk_mt {x qn : Str} {st : Stmt} {k : Nat} {ps : List Str} {sp : Sp} (cl : Cls K C) (q : MtFact K C x qn st) (ok : ∀ (f : Addr) (fd : FuncData), Fun K x qn st f fd → FnOk P w K mg base CX0 k f fd ps sp)
    (hb : ∀ (kV doc pm : Value) (an : Option Addr) (cdv ct : Value) (us : List Value), us.length = ps.length → bindArgs (PySem.W.fnOf x qn (defArgs st) (defBody st) (defScope st) .none kV doc pm an cdv ct) ⟨us, []⟩ = pure (ps.zip us)) : Mt P w K mg base k C x sp := by
  obtain ⟨f, od, an, sl, oc, kV, dc, pm, cd, ct, a, i, l, c, kp⟩ := q.ex
  have F := fun_mk (st := st) l c kp
  exact ⟨⟨f, _, ps, cl, ⟨a, i, kp⟩, ok f _ F, F.binds hb⟩⟩
theorem mk_len {qn : Str} {st : Stmt} {k : Nat} {ps : List Str} {sp : Sp} (q : MtFact K C "__len__" qn st) (ok : ∀ (f : Addr) (fd : FuncData), Fun K "__len__" qn st f fd → FnOk P w K mg base CX0 k f fd ps sp)
    (hb : ∀ (kV doc pm : Value) (an : Option Addr) (cdv ct : Value) (us : List Value), us.length = ps.length → bindArgs (PySem.W.fnOf "__len__" qn (defArgs st) (defBody st) (defScope st) .none kV doc pm an cdv ct) ⟨us, []⟩ = pure (ps.zip us)) : LenOf P w K mg base k C sp := by
  obtain ⟨f, od, an, sl, oc, kV, dc, pm, cd, ct, a, i, l, c, kp⟩ := q.ex
  have F := fun_mk (st := st) l c kp
  exact ⟨⟨f, _, ps, a, i, ok f _ F, F.binds hb⟩⟩
theorem mk_cn {x qn : Str} {st : Stmt} {k : Nat} {ps : List Str} {sp : Sp} (cf : ClFact K C x) (q : MtFact K C "__init__" qn st) (ok : ∀ (f : Addr) (fd : FuncData), Fun K "__init__" qn st f fd → FnOk P w K mg base CX0 k f fd ps sp)
    (hb : ∀ (kV doc pm : Value) (an : Option Addr) (cdv ct : Value) (us : List Value), us.length = ps.length → bindArgs (PySem.W.fnOf "__init__" qn (defArgs st) (defBody st) (defScope st) .none kV doc pm an cdv ct) ⟨us, []⟩ = pure (ps.zip us)) : Cn P w K mg base k C sp := by
  obtain ⟨f, od, an, sl, oc, kV, dc, pm, cd, ct, a, i, l, c, kp⟩ := q.ex
  have F := fun_mk (st := st) l c kp
  exact ⟨⟨f, _, ps, ⟨cf.mks, a, i, cf.kp⟩, ok f _ F, F.binds hb⟩⟩
theorem mk_pr {x qn : Str} {st : Stmt} {k : Nat} {ps : List Str} {sp : Sp} (cl : Cls K C) (q : PrFact K C x qn st) (ok : ∀ (f : Addr) (fd : FuncData), Fun K x qn st f fd → FnOk P w K mg base CX0 k f fd ps sp)
    (hb : ∀ (kV doc pm : Value) (an : Option Addr) (cdv ct : Value) (us : List Value), us.length = ps.length → bindArgs (PySem.W.fnOf x qn (defArgs st) (defBody st) (defScope st) .none kV doc pm an cdv ct) ⟨us, []⟩ = pure (ps.zip us)) : Pr P w K mg base k C x sp := by
  obtain ⟨p, g, po, r⟩ := q.ex
  obtain ⟨od, an, sl, oc, kV, dc, pm, cd, ct, l, c, kp⟩ := r.ex
  have F := fun_mk (st := st) l c kp
  exact ⟨⟨p, g, _, ps, cl, po, ok g _ F, F.binds hb⟩⟩
theorem mk_cm {x qn : Str} {st : Stmt} {k : Nat} {ps : List Str} {sp : Sp} (rd : ClX.CRead K C (.type "type")) (q : CmFact K C x qn st) (ok : ∀ (f : Addr) (fd : FuncData), Fun K x qn st f fd → FnOk P w K mg base CX0 k f fd ps sp)
    (hb : ∀ (kV doc pm : Value) (an : Option Addr) (cdv ct : Value) (us : List Value), us.length = ps.length → bindArgs (PySem.W.fnOf x qn (defArgs st) (defBody st) (defScope st) .none kV doc pm an cdv ct) ⟨us, []⟩ = pure (ps.zip us)) : Cm P w K mg base k C x sp := by
  obtain ⟨p, g, cm, r⟩ := q.ex
  obtain ⟨od, an, sl, oc, kV, dc, pm, cd, ct, l, c, kp⟩ := r.ex
  have F := fun_mk (st := st) l c kp
  refine ⟨⟨_, p, g, rd, cm, FnR.imp ((ok g _ F).raw (F.binds hb) .nil) fun vs H Q E hs => ?_⟩⟩
  rw [List.append_nil]
  exact hs
end
/-- constants: what k_is finds, then what it is -/
theorem con_fact {K : PySem.W.Frag} {C : Addr} {n : Str} {i : Int} {u : Value} (x : PySem.W.findIn K (.ref C) n = some (some u)) (y : PySem.W.specialIn K u "__get__" = some none) (e : ∃ t, u = .int i t) : ∃ t, PySem.W.findIn K (.ref C) n = some (some (.int i t)) ∧ PySem.W.specialIn K (.int i t) "__get__" = some none := by
  obtain ⟨t, rfl⟩ := e
  exact ⟨t, x, y⟩
theorem val_fact {K : PySem.W.Frag} {C : Addr} {n : Str} {i : Int} {u : Value} (x : PySem.W.findCls K (.ref C) (.type "type") n = some (.val u)) (e : ∃ t, u = .int i t) : ∃ t, PySem.W.findCls K (.ref C) (.type "type") n = some (.val (.int i t)) := by
  obtain ⟨t, rfl⟩ := e
  exact ⟨t, x⟩
theorem int_fact {K : PySem.W.Frag} {n : Str} {i : Int} {u : Value} (x : PySem.W.nsIn K mainGlobals n = some (some u)) (e : ∃ t, u = .int i t) : ∃ t, PySem.W.nsIn K mainGlobals n = some (some (.int i t)) := by
  obtain ⟨t, rfl⟩ := e
  exact ⟨t, x⟩
theorem str_fact {K : PySem.W.Frag} {n : Str} {y z : Str} {t : Tok} {u : Value} (x : PySem.W.nsIn K mainGlobals n = some (some u)) (e : u = .str z t) (c : z = y) : ∃ t, PySem.W.nsIn K mainGlobals n = some (some (.str y t)) := by
  subst e c
  exact ⟨t, x⟩
/-- all that k_is finds -/
structure Facts (K : PySem.W.Frag) (C CS CV : Addr) : Prop where
  f_belongs : FnFact K "belongs" sBelongs
  f_bound_holds : FnFact K "bound_holds" sBound
  f_present : FnFact K "present" sPresent
  f_first_taken : FnFact K "first_taken" sFirst
  f_check_ranking : FnFact K "check_ranking" sChkR
  f_check_yards : FnFact K "check_yards" sChkY
  f_walked : FnFact K "walked" sWalked
  f_holders : FnFact K "holders" sHolders
  f_start_node : FnFact K "start_node" sStart
  f_next_node : FnFact K "next_node" sNext
  f_settled : FnFact K "settled" sSettled
  f_nodes_behind : FnFact K "nodes_behind" sBehind
  f_levels_of : FnFact K "levels_of" sLevels
  f_moves_of : FnFact K "moves_of" sMoves
  f_comes_back : FnFact K "comes_back" sBack
  f_fails : FnFact K "fails" sFails
  f_failing_nodes : FnFact K "failing_nodes" sFailing
  f_first_failing : FnFact K "first_failing" sFirstF
  f_verdict_on : FnFact K "verdict_on" sVerdict
  f_moving : FnFact K "moving" (top 30)
  f_returning : FnFact K "returning" (top 31)
  f_needless : FnFact K "needless" (top 32)
  f_tally : FnFact K "tally" sTally
  f_moved_counts : FnFact K "moved_counts" sMoved
  f_is_name : FnFact K "is_name" sIsName
  f_check_name : FnFact K "check_name" sChkN
  f_text_lines : FnFact K "text_lines" sLines
  f_read_worker : FnFact K "read_worker" sRdW
  f_read_group : FnFact K "read_group" sRdG
  f_write_group : FnFact K "write_group" sWrG
  f_read_bounds : FnFact K "read_bounds" sRdB
  f_read_rule : FnFact K "read_rule" sRdR
  f_write_rule : FnFact K "write_rule" sWrR
  f__law_stream : FnFact K "_law_stream" sStream
  f__law_draw : FnFact K "_law_draw" sDraw
  f__law_size : FnFact K "_law_size" sSize
  f__law_makes : FnFact K "_law_makes" sMakes
  f__law_workers : FnFact K "_law_workers" sWorkers
  f__law_group : FnFact K "_law_group" sLGroup
  f__law_rule : FnFact K "_law_rule" sLRule
  f__law_rules : FnFact K "_law_rules" sLRules
  f__law_spot : FnFact K "_law_spot" sSpot
  f__law_ranking : FnFact K "_law_ranking" sRank
  f__law_growing : FnFact K "_law_growing" sGrow
  f__law_moves : FnFact K "_law_moves" sLMoves
  f__law_returns : FnFact K "_law_returns" sLRet
  f__law_needless : FnFact K "_law_needless" sLNeed
  f__law_is_against : FnFact K "_law_is_against" sAgainst
  f__law_coming_fits : FnFact K "_law_coming_fits" sComing
  f__law_shares_equally : FnFact K "_law_shares_equally" sShares
  f__law_verdicts_fit : FnFact K "_law_verdicts_fit" sVFit
  f__law_turned : FnFact K "_law_turned" sTurned
  f__law_same_turned : FnFact K "_law_same_turned" sSameT
  f__law_same_renamed : FnFact K "_law_same_renamed" sRen
  f__law_same_beside : FnFact K "_law_same_beside" sBeside
  f_law : FnFact K "law" sLaw
  cC : ClFact K C "Crew"
  cS : ClFact K CS "Scheme"
  cV : ClFact K CV "Verdict"
  iC : MtFact K C "__init__" "Crew.__init__" sCInit
  iS : MtFact K CS "__init__" "Scheme.__init__" sSInit
  iV : MtFact K CV "__init__" "Verdict.__init__" sVInit
  lenC : MtFact K C "__len__" "Crew.__len__" sLen
  m_make_of : MtFact K C "make_of" "Crew.make_of" sMakeOf
  m_has : MtFact K C "_has" "Crew._has" sHas
  m_cwrite : MtFact K C "write" "Crew.write" sCWrite
  m_takes : MtFact K CS "takes" "Scheme.takes" sTakes
  m_swrite : MtFact K CS "write" "Scheme.write" sSWrite
  rC : CmFact K C "read" "Crew.read" sCRead
  rS : CmFact K CS "read" "Scheme.read" sSRead
  hV : PrFact K CV "holds" "Verdict.holds" sVHolds
  nW : PySem.W.findIn K (.ref C) "_workers" = some none
  nR : PySem.W.findIn K (.ref CS) "rules" = some none
  nVT : PySem.W.findIn K (.ref CV) "table" = some none
  nVR : PySem.W.findIn K (.ref CV) "ranking" = some none
  mC : ∃ t, PySem.W.findIn K (.ref C) "MOST" = some (some (.int 6 t)) ∧ PySem.W.specialIn K (.int 6 t) "__get__" = some none
  mS : ∃ t, PySem.W.findIn K (.ref CS) "MOST" = some (some (.int 4 t)) ∧ PySem.W.specialIn K (.int 4 t) "__get__" = some none
  mB : ∃ t, PySem.W.findIn K (.ref CS) "MOST_BOUNDS" = some (some (.int 3 t)) ∧ PySem.W.specialIn K (.int 3 t) "__get__" = some none
  rdC : ClX.CRead K C (.type "type")
  rdS : ClX.CRead K CS (.type "type")
  vC : ∃ t, PySem.W.findCls K (.ref C) (.type "type") "MOST" = some (.val (.int 6 t))
  vS : ∃ t, PySem.W.findCls K (.ref CS) (.type "type") "MOST" = some (.val (.int 4 t))
  vB : ∃ t, PySem.W.findCls K (.ref CS) (.type "type") "MOST_BOUNDS" = some (.val (.int 3 t))
  gL : ∃ t, PySem.W.nsIn K mainGlobals "LETTERS" = some (some (.str "abcdefghijklmnopqrstuvwxyz" t))
  gN : ∃ t, PySem.W.nsIn K mainGlobals "LONGEST_NAME" = some (some (.int 8 t))
  tS : TpFact K "SIGNS" [("<" : Str), ">="]
  tN : TpFact K "NUMBERS" numbers
  z_len : PySem.W.nsIn K mainGlobals "len" = some none
  z_list : PySem.W.nsIn K mainGlobals "list" = some none
  z_tuple : PySem.W.nsIn K mainGlobals "tuple" = some none
  z_sorted : PySem.W.nsIn K mainGlobals "sorted" = some none
  z_set : PySem.W.nsIn K mainGlobals "set" = some none
  z_range : PySem.W.nsIn K mainGlobals "range" = some none
  z_enumerate : PySem.W.nsIn K mainGlobals "enumerate" = some none
  z_zip : PySem.W.nsIn K mainGlobals "zip" = some none
  z_any : PySem.W.nsIn K mainGlobals "any" = some none
  z_all : PySem.W.nsIn K mainGlobals "all" = some none
  z_int : PySem.W.nsIn K mainGlobals "int" = some none
  z_abs : PySem.W.nsIn K mainGlobals "abs" = some none
  z_isinstance : PySem.W.nsIn K mainGlobals "isinstance" = some none
  z_str : PySem.W.nsIn K mainGlobals "str" = some none
section
variable {P : Program} {w : World} {K : PySem.W.Frag} {mg : Str → Option Value} {base h : Heap} {C CS CV : Addr}
theorem Facts.bi (A : Facts K C CS CV) (X : K.In h) (G : h.Ns mainGlobals mg) : Bi mg := ⟨PySem.W.mg_none_of X G A.z_len, PySem.W.mg_none_of X G A.z_list, PySem.W.mg_none_of X G A.z_tuple, PySem.W.mg_none_of X G A.z_sorted, PySem.W.mg_none_of X G A.z_set, PySem.W.mg_none_of X G A.z_range, PySem.W.mg_none_of X G A.z_enumerate, PySem.W.mg_none_of X G A.z_zip, PySem.W.mg_none_of X G A.z_any, PySem.W.mg_none_of X G A.z_all, PySem.W.mg_none_of X G A.z_int, PySem.W.mg_none_of X G A.z_abs, PySem.W.mg_none_of X G A.z_isinstance, PySem.W.mg_none_of X G A.z_str⟩
theorem Facts.law (A : Facts K C CS CV) (X : K.In h) (G : h.Ns mainGlobals mg) : LawF P w K mg base C CS CV := by
  have B := A.bi X G
  have mgC := PySem.W.mg_of X G A.cC.at_
  have mgS := PySem.W.mg_of X G A.cS.at_
  have mgV := PySem.W.mg_of X G A.cV.at_
  have TCr : CrewT K C := ⟨A.cC.cl, A.nW⟩
  have TS : SchT K CS := ⟨A.cS.cl, A.nR⟩
  have TV : VerT K CV := ⟨A.cV.cl, A.nVT, A.nVR⟩
  have TC : CrewC K C (.type "type") := ⟨A.mC.imp fun t h => ⟨h.1, ⟨t, rfl⟩, h.2, by decide +kernel⟩, A.rdC, A.vC.imp fun t h => ⟨h, ⟨t, rfl⟩⟩⟩
  have TSc : SchC K CS (.type "type") := ⟨A.mS.imp fun t h => ⟨h.1, ⟨t, rfl⟩, h.2, by decide +kernel⟩, A.mB.imp fun t h => ⟨h.1, ⟨t, rfl⟩, h.2, by decide +kernel⟩, A.rdS, A.vS.imp fun t h => ⟨h, ⟨t, rfl⟩⟩, A.vB.imp fun t h => ⟨h, ⟨t, rfl⟩⟩⟩
  have TT : TokT mg := ⟨A.gL.imp fun t h => PySem.W.mg_of X G h, A.gN.imp fun t h => PySem.W.mg_of X G h⟩
  have TSg : SignT K mg := ⟨A.tS.ex.imp fun a h => ⟨PySem.W.mg_of X G h.1, h.2⟩, A.tN.ex.imp fun a h => ⟨PySem.W.mg_of X G h.1, h.2⟩⟩
  have LO : LenOf P w K mg base 1 C (spLen K C) := mk_len A.lenC (fun f fd F => ok_len F B TCr) fun _ _ _ _ _ _ us hl => match us, hl with | [_], _ => rfl
  have n_belongs : Fn P w K mg base 1 "belongs" (spBelongs K) := mk_fn X G A.f_belongs (fun f fd F => ok_belongs F) fun _ _ _ _ _ _ us hl => match us, hl with | [_, _], _ => rfl
  have n_bound_holds : Fn P w K mg base 2 "bound_holds" (spBound K) := mk_fn X G A.f_bound_holds (fun f fd F => ok_bound F B n_belongs) fun _ _ _ _ _ _ us hl => match us, hl with | [_, _], _ => rfl
  have m_make_of : Mt P w K mg base 1 C "make_of" (spMakeOf K C) := mk_mt A.cC.cl A.m_make_of (fun f fd F => ok_makeOf F TCr) fun _ _ _ _ _ _ us hl => match us, hl with | [_, _], _ => rfl
  have m_has : Mt P w K mg base 1 C "_has" (spHas K C) := mk_mt A.cC.cl A.m_has (fun f fd F => ok_has F TCr) fun _ _ _ _ _ _ us hl => match us, hl with | [_, _], _ => rfl
  have m_cwrite : Mt P w K mg base 1 C "write" (spCWrite K C) := mk_mt A.cC.cl A.m_cwrite (fun f fd F => ok_cwrite F TCr) fun _ _ _ _ _ _ us hl => match us, hl with | [_], _ => rfl
  have m_takes : Mt P w K mg base 3 CS "takes" (spTakes K CS) := mk_mt A.cS.cl A.m_takes (fun f fd F => ok_takes F B TS n_belongs n_bound_holds) fun _ _ _ _ _ _ us hl => match us, hl with | [_, _, _], _ => rfl
  have n_present : Fn P w K mg base 1 "present" (spPresent K) := mk_fn X G A.f_present (fun f fd F => ok_present F) fun _ _ _ _ _ _ us hl => match us, hl with | [_, _], _ => rfl
  have n_first_taken : Fn P w K mg base 1 "first_taken" (spFirst K) := mk_fn X G A.f_first_taken (fun f fd F => ok_first F) fun _ _ _ _ _ _ us hl => match us, hl with | [_], _ => rfl
  have n_check_ranking : Fn P w K mg base 3 "check_ranking" (spChkR K C) := mk_fn X G A.f_check_ranking (fun f fd F => ok_chkR F B LO) fun _ _ _ _ _ _ us hl => match us, hl with | [_, _], _ => rfl
  have n_check_yards : Fn P w K mg base 3 "check_yards" (spChkY K C) := mk_fn X G A.f_check_yards (fun f fd F => ok_chkY F B LO) fun _ _ _ _ _ _ us hl => match us, hl with | [_, _], _ => rfl
  have n_walked : Fn P w K mg base 4 "walked" (spWalked K C CS) := mk_fn X G A.f_walked (fun f fd F => ok_walked F B m_make_of m_takes) fun _ _ _ _ _ _ us hl => match us, hl with | [_, _, _], _ => rfl
  have n_holders : Fn P w K mg base 5 "holders" (spHolders K C CS) := mk_fn X G A.f_holders (fun f fd F => ok_holders F n_check_ranking n_check_yards n_present n_walked n_first_taken) fun _ _ _ _ _ _ us hl => match us, hl with | [_, _, _, _], _ => rfl
  have n_start_node : Fn P w K mg base 1 "start_node" (spStart K) := mk_fn X G A.f_start_node (fun f fd F => ok_start F B) fun _ _ _ _ _ _ us hl => match us, hl with | [_], _ => rfl
  have n_next_node : Fn P w K mg base 4 "next_node" (spNext K C CS) := mk_fn X G A.f_next_node (fun f fd F => ok_next F B m_make_of m_takes) fun _ _ _ _ _ _ us hl => match us, hl with | [_, _, _, _, _], _ => rfl
  have n_settled : Fn P w K mg base 1 "settled" (spSettled K) := mk_fn X G A.f_settled (fun f fd F => ok_settled F B) fun _ _ _ _ _ _ us hl => match us, hl with | [_], _ => rfl
  have n_nodes_behind : Fn P w K mg base 5 "nodes_behind" (spBehind K C CS) := mk_fn X G A.f_nodes_behind (fun f fd F => ok_behind F B LO n_next_node) fun _ _ _ _ _ _ us hl => match us, hl with | [_, _, _, _], _ => rfl
  have n_levels_of : Fn P w K mg base 6 "levels_of" (spLevels P w K C CS) := mk_fn X G A.f_levels_of (fun f fd F => ok_levels F B LO n_start_node n_nodes_behind) fun _ _ _ _ _ _ us hl => match us, hl with | [_, _, _], _ => rfl
  have n_moves_of : Fn P w K mg base 1 "moves_of" (spMoves K) := mk_fn X G A.f_moves_of (fun f fd F => ok_moves F B) fun _ _ _ _ _ _ us hl => match us, hl with | [_, _], _ => rfl
  have n_comes_back : Fn P w K mg base 1 "comes_back" (spBack K) := mk_fn X G A.f_comes_back (fun f fd F => ok_back F B) fun _ _ _ _ _ _ us hl => match us, hl with | [_], _ => rfl
  have n_fails : Fn P w K mg base 2 "fails" (spFails K) := mk_fn X G A.f_fails (fun f fd F => ok_fails F B n_comes_back n_moves_of) fun _ _ _ _ _ _ us hl => match us, hl with | [_, _, _], _ => rfl
  have n_failing_nodes : Fn P w K mg base 6 "failing_nodes" (spFailing P w K C CS) := mk_fn X G A.f_failing_nodes (fun f fd F => ok_failing F B LO n_settled n_fails n_nodes_behind) fun _ _ _ _ _ _ us hl => match us, hl with | [_, _, _, _, _], _ => rfl
  have n_first_failing : Fn P w K mg base 6 "first_failing" (spFirstF P w K C CS) := mk_fn X G A.f_first_failing (fun f fd F => ok_firstF F B LO n_start_node n_nodes_behind) fun _ _ _ _ _ _ us hl => match us, hl with | [_, _, _, _], _ => rfl
  have NV : Cn P w K mg base 1 CV (spVInit CV) := mk_cn A.cV A.iV (fun f fd F => ok_vinit F TV) fun _ _ _ _ _ _ us hl => match us, hl with | [_, _, _], _ => rfl
  have n_verdict_on : Fn P w K mg base 7 "verdict_on" (spVerdict K C CS CV) := mk_fn X G A.f_verdict_on (fun f fd F => ok_verdict F B mgV NV n_start_node n_check_yards n_levels_of n_failing_nodes n_first_failing) fun _ _ _ _ _ _ us hl => match us, hl with | [_, _, _, _], _ => rfl
  have n_moving : Fn P w K mg base 8 "moving" (spAsk K C CS CV 0) := mk_fn X G A.f_moving (fun f fd F => ok_moving F n_verdict_on) fun _ _ _ _ _ _ us hl => match us, hl with | [_, _, _], _ => rfl
  have n_returning : Fn P w K mg base 8 "returning" (spAsk K C CS CV 1) := mk_fn X G A.f_returning (fun f fd F => ok_returning F n_verdict_on) fun _ _ _ _ _ _ us hl => match us, hl with | [_, _, _], _ => rfl
  have n_needless : Fn P w K mg base 8 "needless" (spAsk K C CS CV 2) := mk_fn X G A.f_needless (fun f fd F => ok_needless F n_verdict_on) fun _ _ _ _ _ _ us hl => match us, hl with | [_, _, _], _ => rfl
  have n_tally : Fn P w K mg base 7 "tally" (spTally K C CS) := mk_fn X G A.f_tally (fun f fd F => ok_tally F B n_settled n_check_yards n_levels_of) fun _ _ _ _ _ _ us hl => match us, hl with | [_, _, _], _ => rfl
  have n_moved_counts : Fn P w K mg base 8 "moved_counts" (spMoved K C CS) := mk_fn X G A.f_moved_counts (fun f fd F => ok_moved F n_tally n_moves_of) fun _ _ _ _ _ _ us hl => match us, hl with | [_, _, _, _], _ => rfl
  have n_is_name : Fn P w K mg base 1 "is_name" (spIsName) := mk_fn X G A.f_is_name (fun f fd F => ok_isName F B TT) fun _ _ _ _ _ _ us hl => match us, hl with | [_], _ => rfl
  have n_check_name : Fn P w K mg base 2 "check_name" (spChkN) := mk_fn X G A.f_check_name (fun f fd F => ok_chkN F n_is_name) fun _ _ _ _ _ _ us hl => match us, hl with | [_], _ => rfl
  have n_text_lines : Fn P w K mg base 1 "text_lines" (spLines K) := mk_fn X G A.f_text_lines (fun f fd F => ok_lines F) fun _ _ _ _ _ _ us hl => match us, hl with | [_], _ => rfl
  have n_read_worker : Fn P w K mg base 2 "read_worker" (spRdW K) := mk_fn X G A.f_read_worker (fun f fd F => ok_rdW F B n_is_name) fun _ _ _ _ _ _ us hl => match us, hl with | [_], _ => rfl
  have n_read_group : Fn P w K mg base 2 "read_group" (spRdG K) := mk_fn X G A.f_read_group (fun f fd F => ok_rdG F B n_is_name) fun _ _ _ _ _ _ us hl => match us, hl with | [_], _ => rfl
  have n_write_group : Fn P w K mg base 1 "write_group" (spWrG K) := mk_fn X G A.f_write_group (fun f fd F => ok_wrG F) fun _ _ _ _ _ _ us hl => match us, hl with | [_], _ => rfl
  have n_read_bounds : Fn P w K mg base 3 "read_bounds" (spRdB K) := mk_fn X G A.f_read_bounds (fun f fd F => ok_rdB F B TSg n_read_group) fun _ _ _ _ _ _ us hl => match us, hl with | [_], _ => rfl
  have n_read_rule : Fn P w K mg base 4 "read_rule" (spRdR K) := mk_fn X G A.f_read_rule (fun f fd F => ok_rdR F B n_read_group n_read_bounds) fun _ _ _ _ _ _ us hl => match us, hl with | [_], _ => rfl
  have n_write_rule : Fn P w K mg base 2 "write_rule" (spWrR K) := mk_fn X G A.f_write_rule (fun f fd F => ok_wrR F n_write_group) fun _ _ _ _ _ _ us hl => match us, hl with | [_], _ => rfl
  have m_swrite : Mt P w K mg base 3 CS "write" (spSWrite K CS) := mk_mt A.cS.cl A.m_swrite (fun f fd F => ok_swrite F TS n_write_rule) fun _ _ _ _ _ _ us hl => match us, hl with | [_], _ => rfl
  have NC : Cn P w K mg base 3 C (spCInit K C) := mk_cn A.cC A.iC (fun f fd F => ok_cinit F B TCr TC n_check_name m_has) fun _ _ _ _ _ _ us hl => match us, hl with | [_, _], _ => rfl
  have NS : Cn P w K mg base 1 CS (spSInit K CS) := mk_cn A.cS A.iS (fun f fd F => ok_sinit F B TS TSc) fun _ _ _ _ _ _ us hl => match us, hl with | [_, _], _ => rfl
  have pHolds : Pr P w K mg base 1 CV "holds" (spVHolds CV) := mk_pr A.cV.cl A.hV (fun f fd F => ok_vholds F TV) fun _ _ _ _ _ _ us hl => match us, hl with | [_], _ => rfl
  have cRead : Cm P w K mg base 5 C "read" (spCRead K C) := mk_cm A.rdC A.rC (fun f fd F => ok_cread F B TC n_read_worker NC) fun _ _ _ _ _ _ us hl => match us, hl with | [_, _], _ => rfl
  have sRead : Cm P w K mg base 5 CS "read" (spSRead K CS) := mk_cm A.rdS A.rS (fun f fd F => ok_sread F B TSc n_read_rule n_text_lines NS) fun _ _ _ _ _ _ us hl => match us, hl with | [_, _], _ => rfl
  have n__law_stream : Fn P w K mg base 1 "_law_stream" (spStream K) := mk_fn X G A.f__law_stream (fun f fd F => ok_stream F B) fun _ _ _ _ _ _ us hl => match us, hl with | [_], _ => rfl
  have n__law_draw : Fn P w K mg base 1 "_law_draw" (spDraw) := mk_fn X G A.f__law_draw (fun f fd F => ok_draw F B) fun _ _ _ _ _ _ us hl => match us, hl with | [_, _], _ => rfl
  have n__law_size : Fn P w K mg base 2 "_law_size" (spSize) := mk_fn X G A.f__law_size (fun f fd F => ok_size F n__law_draw) fun _ _ _ _ _ _ us hl => match us, hl with | [_], _ => rfl
  have n__law_makes : Fn P w K mg base 2 "_law_makes" (spMakes) := mk_fn X G A.f__law_makes (fun f fd F => ok_makes F B n__law_draw) fun _ _ _ _ _ _ us hl => match us, hl with | [_, _], _ => rfl
  have n__law_workers : Fn P w K mg base 1 "_law_workers" (spWorkers K) := mk_fn X G A.f__law_workers (fun f fd F => ok_workers F B) fun _ _ _ _ _ _ us hl => match us, hl with | [_, _], _ => rfl
  have n__law_group : Fn P w K mg base 2 "_law_group" (spLGroup K) := mk_fn X G A.f__law_group (fun f fd F => ok_lgroup F n__law_draw) fun _ _ _ _ _ _ us hl => match us, hl with | [_], _ => rfl
  have n__law_rule : Fn P w K mg base 3 "_law_rule" (spLRule K) := mk_fn X G A.f__law_rule (fun f fd F => ok_lrule F B n__law_draw n__law_group) fun _ _ _ _ _ _ us hl => match us, hl with | [_], _ => rfl
  have n__law_rules : Fn P w K mg base 4 "_law_rules" (spLRules K) := mk_fn X G A.f__law_rules (fun f fd F => ok_lrules F B n__law_draw n__law_rule) fun _ _ _ _ _ _ us hl => match us, hl with | [_], _ => rfl
  have n__law_spot : Fn P w K mg base 1 "_law_spot" (spSpot K) := mk_fn X G A.f__law_spot (fun f fd F => ok_spot F B) fun _ _ _ _ _ _ us hl => match us, hl with | [_, _], _ => rfl
  have n__law_ranking : Fn P w K mg base 2 "_law_ranking" (spRank) := mk_fn X G A.f__law_ranking (fun f fd F => ok_rank F B n__law_draw) fun _ _ _ _ _ _ us hl => match us, hl with | [_, _], _ => rfl
  have n__law_growing : Fn P w K mg base 2 "_law_growing" (spGrow K) := mk_fn X G A.f__law_growing (fun f fd F => ok_grow F B n__law_draw n__law_spot) fun _ _ _ _ _ _ us hl => match us, hl with | [_, _, _], _ => rfl
  have n__law_moves : Fn P w K mg base 1 "_law_moves" (spLMoves K) := mk_fn X G A.f__law_moves (fun f fd F => ok_lmoves F B) fun _ _ _ _ _ _ us hl => match us, hl with | [_], _ => rfl
  have n__law_returns : Fn P w K mg base 1 "_law_returns" (spLRet K) := mk_fn X G A.f__law_returns (fun f fd F => ok_lret F B) fun _ _ _ _ _ _ us hl => match us, hl with | [_], _ => rfl
  have n__law_needless : Fn P w K mg base 1 "_law_needless" (spLNeed K) := mk_fn X G A.f__law_needless (fun f fd F => ok_lneed F B) fun _ _ _ _ _ _ us hl => match us, hl with | [_, _], _ => rfl
  have n__law_is_against : Fn P w K mg base 2 "_law_is_against" (spAgainst K) := mk_fn X G A.f__law_is_against (fun f fd F => ok_against F n__law_moves n__law_returns n__law_needless) fun _ _ _ _ _ _ us hl => match us, hl with | [_, _, _], _ => rfl
  have n__law_coming_fits : Fn P w K mg base 9 "_law_coming_fits" (spComing K C CS) := mk_fn X G A.f__law_coming_fits (fun f fd F => ok_coming F B LO n_tally n_moved_counts n_needless pHolds) fun _ _ _ _ _ _ us hl => match us, hl with | [_, _, _, _], _ => rfl
  have n__law_shares_equally : Fn P w K mg base 8 "_law_shares_equally" (spShares K C) := mk_fn X G A.f__law_shares_equally (fun f fd F => ok_shares F B LO mgS NS n_tally) fun _ _ _ _ _ _ us hl => match us, hl with | [_, _], _ => rfl
  have n__law_verdicts_fit : Fn P w K mg base 9 "_law_verdicts_fit" (spVFit K C CS) := mk_fn X G A.f__law_verdicts_fit (fun f fd F => ok_vfit F B TV n_moving n_returning n_needless n__law_is_against pHolds n_holders) fun _ _ _ _ _ _ us hl => match us, hl with | [_, _, _, _], _ => rfl
  have n__law_turned : Fn P w K mg base 1 "_law_turned" (spTurned K) := mk_fn X G A.f__law_turned (fun f fd F => ok_turned F B) fun _ _ _ _ _ _ us hl => match us, hl with | [_], _ => rfl
  have n__law_same_turned : Fn P w K mg base 8 "_law_same_turned" (spSameT K C CS) := mk_fn X G A.f__law_same_turned (fun f fd F => ok_sameT F B n_tally n__law_turned) fun _ _ _ _ _ _ us hl => match us, hl with | [_, _, _, _], _ => rfl
  have n__law_same_renamed : Fn P w K mg base 8 "_law_same_renamed" (spRen K CS) := mk_fn X G A.f__law_same_renamed (fun f fd F => ok_ren F B mgC NC n_tally n__law_workers) fun _ _ _ _ _ _ us hl => match us, hl with | [_, _, _, _, _], _ => rfl
  have n__law_same_beside : Fn P w K mg base 8 "_law_same_beside" (spBeside K CS) := mk_fn X G A.f__law_same_beside (fun f fd F => ok_beside F B LO mgC NC n_tally n__law_workers) fun _ _ _ _ _ _ us hl => match us, hl with | [_, _, _, _], _ => rfl
  exact ⟨n__law_stream, n__law_draw, n__law_size, n__law_makes, n__law_rules, n__law_workers, n__law_spot, n__law_growing, n__law_ranking, n__law_coming_fits, n__law_shares_equally, n_tally, n__law_verdicts_fit, n__law_same_turned, n__law_same_renamed, n__law_same_beside, NC, NS, m_cwrite, m_swrite, cRead, sRead, mgC, mgS⟩
theorem all_mk {l : PySem.W.OpenLaw} {w : World} {K : PySem.W.Frag} {h : Heap} {mg : Str → Option Value} {fa C CS CV : Addr} (X : K.In h) (G : h.Ns mainGlobals mg) (hfa : mg "law" = some (.ref fa)) (A : Facts K C CS CV) :
    ∃ fd : FuncData, (∀ (s : Shared) (v : Value), BindsTo s fd ⟨[v], []⟩ [("_law_script", v)]) ∧ ∀ base : Heap, K.In base → base.Ns mainGlobals mg → FnOk l.prog w K mg base CX0 10 fa fd ["_law_script"] (spLaw K) := by
  obtain ⟨f, od, an, sl, oc, kV, dc, pm, cd, ct, a, lk, c, kp⟩ := A.f_law.ex
  have e := hfa.symm.trans (PySem.W.mg_of X G a)
  cases e
  have F := fun_mk (st := sLaw) lk c kp
  exact ⟨PySem.W.fnOf "law" "law" (defArgs sLaw) (defBody sLaw) (defScope sLaw) .none kV dc pm an cd ct, fun s v => .of_eq rfl, fun base XB GB => ok_law F (A.bi XB GB) (CV := CV) (A.law XB GB)⟩
theorem walk {l : PySem.W.OpenLaw} {q : Program} {loose : List Str} {XP : (Str → Option Value) → Heap → Prop} {YP : World → Heap → Prop} {d : DefRec} {K : Params → PySem.W.Frag} (hn : l.most = some 63) (hdf : d.params.defaults = [])
    (hY : ∀ (w : World) (h : Heap), YP w h → (K w.params).In h)
    (F : ∀ (w : World) (mg : Str → Option Value) (fa : Addr) (h : Heap), (K w.params).In h → h.Ns mainGlobals mg → mg d.name = some (.ref fa) →
      ∃ fd : FuncData, (∀ (s : Shared) (u : Value), BindsTo s fd ⟨[u], []⟩ [("_law_script", u)]) ∧ ∀ base : Heap, (K w.params).In base → base.Ns mainGlobals mg → FnOk l.prog w (K w.params) mg base CX0 10 fa fd ["_law_script"] (spLaw (K w.params))) :
    PySem.W.WalkO q loose XP YP l.row.toRowW d [] (fun f vs => PySem.call f vs) :=
  L2.walk_of (n := 63) (k := 10) (x := "_law_script") (CX := fun _ => CX0) (sp := fun w => spLaw (K w.params)) hn (by decide) hdf ⟨rfl, by decide, by decide⟩ hY F (fun _ _ a ns hl _ hS => ⟨a, ns, rfl, hS, hl, fun _ => rfl⟩) fun _ _ _ _ _ z => z
end
end MW

open PySem PySem.W PyProof.Rows
set_option maxRecDepth 100000 in
set_option maxHeartbeats 0 in
theorem PySem.Challenge.cw_movedstates_k56_whole_owners_and_comings_holds : PySem.Challenge.rw_movedstates_k56_whole_owners_and_comings.Holds := by
  w_on; o_law; k_head; (case hw => w_witness2)
  k_fill
  refine MW.walk (l := PySem.Challenge.rw_movedstates_k56_whole_owners_and_comings) rfl rfl (fun w h Y => PySem.W.kIn_of Y) ?F
  case F =>
    intro w mg fa h KX G hmg
    refine' MW.all_mk KX G hmg ⟨?f_belongs, ?f_bound_holds, ?f_present, ?f_first_taken, ?f_check_ranking, ?f_check_yards, ?f_walked, ?f_holders, ?f_start_node, ?f_next_node, ?f_settled, ?f_nodes_behind, ?f_levels_of, ?f_moves_of, ?f_comes_back, ?f_fails, ?f_failing_nodes, ?f_first_failing, ?f_verdict_on, ?f_moving, ?f_returning, ?f_needless, ?f_tally, ?f_moved_counts, ?f_is_name, ?f_check_name, ?f_text_lines, ?f_read_worker, ?f_read_group, ?f_write_group, ?f_read_bounds, ?f_read_rule, ?f_write_rule, ?f__law_stream, ?f__law_draw, ?f__law_size, ?f__law_makes, ?f__law_workers, ?f__law_group, ?f__law_rule, ?f__law_rules, ?f__law_spot, ?f__law_ranking, ?f__law_growing, ?f__law_moves, ?f__law_returns, ?f__law_needless, ?f__law_is_against, ?f__law_coming_fits, ?f__law_shares_equally, ?f__law_verdicts_fit, ?f__law_turned, ?f__law_same_turned, ?f__law_same_renamed, ?f__law_same_beside, ?f_law, ?cC, ?cS, ?cV, ?iC, ?iS, ?iV, ?lenC, ?m_make_of, ?m_has, ?m_cwrite, ?m_takes, ?m_swrite, ?rC, ?rS, ?hV, ?nW, ?nR, ?nVT, ?nVR, ?mC, ?mS, ?mB, ?rdC, ?rdS, ?vC, ?vS, ?vB, ?gL, ?gN, ?tS, ?tN, ?z_len, ?z_list, ?z_tuple, ?z_sorted, ?z_set, ?z_range, ?z_enumerate, ?z_zip, ?z_any, ?z_all, ?z_int, ?z_abs, ?z_isinstance, ?z_str⟩
    (case cC => refine' ⟨?q0, ⟨?pg, ?hd, ?po, ?sa⟩, ?mk, ?kp⟩; (case q0 => k_is); (case pg => k_is); (case hd => k_is); (case po => k_is); (case sa => k_is); (case mk => k_is); (case kp => k_is))
    (case cS => refine' ⟨?q0, ⟨?pg, ?hd, ?po, ?sa⟩, ?mk, ?kp⟩; (case q0 => k_is); (case pg => k_is); (case hd => k_is); (case po => k_is); (case sa => k_is); (case mk => k_is); (case kp => k_is))
    (case cV => refine' ⟨?q0, ⟨?pg, ?hd, ?po, ?sa⟩, ?mk, ?kp⟩; (case q0 => k_is); (case pg => k_is); (case hd => k_is); (case po => k_is); (case sa => k_is); (case mk => k_is); (case kp => k_is))
    (case f_belongs => refine' MW.fn_fact ?a ?l ?c ?k; (case a => k_is); (case l => k_is); (case c => k_is); (case k => k_is))
    (case f_bound_holds => refine' MW.fn_fact ?a ?l ?c ?k; (case a => k_is); (case l => k_is); (case c => k_is); (case k => k_is))
    (case f_present => refine' MW.fn_fact ?a ?l ?c ?k; (case a => k_is); (case l => k_is); (case c => k_is); (case k => k_is))
    (case f_first_taken => refine' MW.fn_fact ?a ?l ?c ?k; (case a => k_is); (case l => k_is); (case c => k_is); (case k => k_is))
    (case f_check_ranking => refine' MW.fn_fact ?a ?l ?c ?k; (case a => k_is); (case l => k_is); (case c => k_is); (case k => k_is))
    (case f_check_yards => refine' MW.fn_fact ?a ?l ?c ?k; (case a => k_is); (case l => k_is); (case c => k_is); (case k => k_is))
    (case f_walked => refine' MW.fn_fact ?a ?l ?c ?k; (case a => k_is); (case l => k_is); (case c => k_is); (case k => k_is))
    (case f_holders => refine' MW.fn_fact ?a ?l ?c ?k; (case a => k_is); (case l => k_is); (case c => k_is); (case k => k_is))
    (case f_start_node => refine' MW.fn_fact ?a ?l ?c ?k; (case a => k_is); (case l => k_is); (case c => k_is); (case k => k_is))
    (case f_next_node => refine' MW.fn_fact ?a ?l ?c ?k; (case a => k_is); (case l => k_is); (case c => k_is); (case k => k_is))
    (case f_settled => refine' MW.fn_fact ?a ?l ?c ?k; (case a => k_is); (case l => k_is); (case c => k_is); (case k => k_is))
    (case f_nodes_behind => refine' MW.fn_fact ?a ?l ?c ?k; (case a => k_is); (case l => k_is); (case c => k_is); (case k => k_is))
    (case f_levels_of => refine' MW.fn_fact ?a ?l ?c ?k; (case a => k_is); (case l => k_is); (case c => k_is); (case k => k_is))
    (case f_moves_of => refine' MW.fn_fact ?a ?l ?c ?k; (case a => k_is); (case l => k_is); (case c => k_is); (case k => k_is))
    (case f_comes_back => refine' MW.fn_fact ?a ?l ?c ?k; (case a => k_is); (case l => k_is); (case c => k_is); (case k => k_is))
    (case f_fails => refine' MW.fn_fact ?a ?l ?c ?k; (case a => k_is); (case l => k_is); (case c => k_is); (case k => k_is))
    (case f_failing_nodes => refine' MW.fn_fact ?a ?l ?c ?k; (case a => k_is); (case l => k_is); (case c => k_is); (case k => k_is))
    (case f_first_failing => refine' MW.fn_fact ?a ?l ?c ?k; (case a => k_is); (case l => k_is); (case c => k_is); (case k => k_is))
    (case f_verdict_on => refine' MW.fn_fact ?a ?l ?c ?k; (case a => k_is); (case l => k_is); (case c => k_is); (case k => k_is))
    (case f_moving => refine' MW.fn_fact ?a ?l ?c ?k; (case a => k_is); (case l => k_is); (case c => k_is); (case k => k_is))
    (case f_returning => refine' MW.fn_fact ?a ?l ?c ?k; (case a => k_is); (case l => k_is); (case c => k_is); (case k => k_is))
    (case f_needless => refine' MW.fn_fact ?a ?l ?c ?k; (case a => k_is); (case l => k_is); (case c => k_is); (case k => k_is))
    (case f_tally => refine' MW.fn_fact ?a ?l ?c ?k; (case a => k_is); (case l => k_is); (case c => k_is); (case k => k_is))
    (case f_moved_counts => refine' MW.fn_fact ?a ?l ?c ?k; (case a => k_is); (case l => k_is); (case c => k_is); (case k => k_is))
    (case f_is_name => refine' MW.fn_fact ?a ?l ?c ?k; (case a => k_is); (case l => k_is); (case c => k_is); (case k => k_is))
    (case f_check_name => refine' MW.fn_fact ?a ?l ?c ?k; (case a => k_is); (case l => k_is); (case c => k_is); (case k => k_is))
    (case f_text_lines => refine' MW.fn_fact ?a ?l ?c ?k; (case a => k_is); (case l => k_is); (case c => k_is); (case k => k_is))
    (case f_read_worker => refine' MW.fn_fact ?a ?l ?c ?k; (case a => k_is); (case l => k_is); (case c => k_is); (case k => k_is))
    (case f_read_group => refine' MW.fn_fact ?a ?l ?c ?k; (case a => k_is); (case l => k_is); (case c => k_is); (case k => k_is))
    (case f_write_group => refine' MW.fn_fact ?a ?l ?c ?k; (case a => k_is); (case l => k_is); (case c => k_is); (case k => k_is))
    (case f_read_bounds => refine' MW.fn_fact ?a ?l ?c ?k; (case a => k_is); (case l => k_is); (case c => k_is); (case k => k_is))
    (case f_read_rule => refine' MW.fn_fact ?a ?l ?c ?k; (case a => k_is); (case l => k_is); (case c => k_is); (case k => k_is))
    (case f_write_rule => refine' MW.fn_fact ?a ?l ?c ?k; (case a => k_is); (case l => k_is); (case c => k_is); (case k => k_is))
    (case f__law_stream => refine' MW.fn_fact ?a ?l ?c ?k; (case a => k_is); (case l => k_is); (case c => k_is); (case k => k_is))
    (case f__law_draw => refine' MW.fn_fact ?a ?l ?c ?k; (case a => k_is); (case l => k_is); (case c => k_is); (case k => k_is))
    (case f__law_size => refine' MW.fn_fact ?a ?l ?c ?k; (case a => k_is); (case l => k_is); (case c => k_is); (case k => k_is))
    (case f__law_makes => refine' MW.fn_fact ?a ?l ?c ?k; (case a => k_is); (case l => k_is); (case c => k_is); (case k => k_is))
    (case f__law_workers => refine' MW.fn_fact ?a ?l ?c ?k; (case a => k_is); (case l => k_is); (case c => k_is); (case k => k_is))
    (case f__law_group => refine' MW.fn_fact ?a ?l ?c ?k; (case a => k_is); (case l => k_is); (case c => k_is); (case k => k_is))
    (case f__law_rule => refine' MW.fn_fact ?a ?l ?c ?k; (case a => k_is); (case l => k_is); (case c => k_is); (case k => k_is))
    (case f__law_rules => refine' MW.fn_fact ?a ?l ?c ?k; (case a => k_is); (case l => k_is); (case c => k_is); (case k => k_is))
    (case f__law_spot => refine' MW.fn_fact ?a ?l ?c ?k; (case a => k_is); (case l => k_is); (case c => k_is); (case k => k_is))
    (case f__law_ranking => refine' MW.fn_fact ?a ?l ?c ?k; (case a => k_is); (case l => k_is); (case c => k_is); (case k => k_is))
    (case f__law_growing => refine' MW.fn_fact ?a ?l ?c ?k; (case a => k_is); (case l => k_is); (case c => k_is); (case k => k_is))
    (case f__law_moves => refine' MW.fn_fact ?a ?l ?c ?k; (case a => k_is); (case l => k_is); (case c => k_is); (case k => k_is))
    (case f__law_returns => refine' MW.fn_fact ?a ?l ?c ?k; (case a => k_is); (case l => k_is); (case c => k_is); (case k => k_is))
    (case f__law_needless => refine' MW.fn_fact ?a ?l ?c ?k; (case a => k_is); (case l => k_is); (case c => k_is); (case k => k_is))
    (case f__law_is_against => refine' MW.fn_fact ?a ?l ?c ?k; (case a => k_is); (case l => k_is); (case c => k_is); (case k => k_is))
    (case f__law_coming_fits => refine' MW.fn_fact ?a ?l ?c ?k; (case a => k_is); (case l => k_is); (case c => k_is); (case k => k_is))
    (case f__law_shares_equally => refine' MW.fn_fact ?a ?l ?c ?k; (case a => k_is); (case l => k_is); (case c => k_is); (case k => k_is))
    (case f__law_verdicts_fit => refine' MW.fn_fact ?a ?l ?c ?k; (case a => k_is); (case l => k_is); (case c => k_is); (case k => k_is))
    (case f__law_turned => refine' MW.fn_fact ?a ?l ?c ?k; (case a => k_is); (case l => k_is); (case c => k_is); (case k => k_is))
    (case f__law_same_turned => refine' MW.fn_fact ?a ?l ?c ?k; (case a => k_is); (case l => k_is); (case c => k_is); (case k => k_is))
    (case f__law_same_renamed => refine' MW.fn_fact ?a ?l ?c ?k; (case a => k_is); (case l => k_is); (case c => k_is); (case k => k_is))
    (case f__law_same_beside => refine' MW.fn_fact ?a ?l ?c ?k; (case a => k_is); (case l => k_is); (case c => k_is); (case k => k_is))
    (case f_law => refine' MW.fn_fact ?a ?l ?c ?k; (case a => k_is); (case l => k_is); (case c => k_is); (case k => k_is))
    (case iC => refine' MW.mt_fact ?a ?i ?l ?c ?k; (case a => k_is); (case i => k_is); (case l => k_is); (case c => k_is); (case k => k_is))
    (case iS => refine' MW.mt_fact ?a ?i ?l ?c ?k; (case a => k_is); (case i => k_is); (case l => k_is); (case c => k_is); (case k => k_is))
    (case iV => refine' MW.mt_fact ?a ?i ?l ?c ?k; (case a => k_is); (case i => k_is); (case l => k_is); (case c => k_is); (case k => k_is))
    (case lenC => refine' MW.mt_fact ?a ?i ?l ?c ?k; (case a => k_is); (case i => k_is); (case l => k_is); (case c => k_is); (case k => k_is))
    (case m_make_of => refine' MW.mt_fact ?a ?i ?l ?c ?k; (case a => k_is); (case i => k_is); (case l => k_is); (case c => k_is); (case k => k_is))
    (case m_has => refine' MW.mt_fact ?a ?i ?l ?c ?k; (case a => k_is); (case i => k_is); (case l => k_is); (case c => k_is); (case k => k_is))
    (case m_cwrite => refine' MW.mt_fact ?a ?i ?l ?c ?k; (case a => k_is); (case i => k_is); (case l => k_is); (case c => k_is); (case k => k_is))
    (case m_takes => refine' MW.mt_fact ?a ?i ?l ?c ?k; (case a => k_is); (case i => k_is); (case l => k_is); (case c => k_is); (case k => k_is))
    (case m_swrite => refine' MW.mt_fact ?a ?i ?l ?c ?k; (case a => k_is); (case i => k_is); (case l => k_is); (case c => k_is); (case k => k_is))
    (case rC => refine' MW.cm_fact ?a ?b ?d (MW.rc_fact ?l ?c ?k); (case a => k_is); (case b => k_is); (case d => k_is); (case l => k_is); (case c => k_is); (case k => k_is))
    (case rS => refine' MW.cm_fact ?a ?b ?d (MW.rc_fact ?l ?c ?k); (case a => k_is); (case b => k_is); (case d => k_is); (case l => k_is); (case c => k_is); (case k => k_is))
    (case hV => refine' MW.pr_fact ?a ?b ?d ?e (MW.rc_fact ?l ?c ?k); (case a => k_is); (case b => k_is); (case d => k_is); (case e => k_is); (case l => k_is); (case c => k_is); (case k => k_is))
    (case nW => k_is)
    (case nR => k_is)
    (case nVT => k_is)
    (case nVR => k_is)
    (case mC => refine' MW.con_fact ?x ?y ?e; (case x => k_is); (case y => k_is); (case e => exact ⟨_, rfl⟩))
    (case mS => refine' MW.con_fact ?x ?y ?e; (case x => k_is); (case y => k_is); (case e => exact ⟨_, rfl⟩))
    (case mB => refine' MW.con_fact ?x ?y ?e; (case x => k_is); (case y => k_is); (case e => exact ⟨_, rfl⟩))
    (case rdC => refine' ⟨?x, ?y⟩; (case x => k_is); (case y => k_is))
    (case rdS => refine' ⟨?x, ?y⟩; (case x => k_is); (case y => k_is))
    (case vC => refine' MW.val_fact ?x ?e; (case x => k_is); (case e => exact ⟨_, rfl⟩))
    (case vS => refine' MW.val_fact ?x ?e; (case x => k_is); (case e => exact ⟨_, rfl⟩))
    (case vB => refine' MW.val_fact ?x ?e; (case x => k_is); (case e => exact ⟨_, rfl⟩))
    (case gL => refine' MW.str_fact ?x ?e ?c; (case x => k_is); (case e => exact rfl); (case c => decide +kernel))
    (case gN => refine' MW.int_fact ?x ?e; (case x => k_is); (case e => exact ⟨_, rfl⟩))
    (case tS => refine' MW.tp_fact ?h ?l ?z ?v; (case h => k_is); (case l => k_is); (case z => exact (by decide)); (case v => exact .cons ⟨_, rfl⟩ (.cons ⟨_, rfl⟩ .nil)))
    (case tN => refine' MW.tp_fact ?h ?l ?z ?v; (case h => k_is); (case l => k_is); (case z => exact (by decide)); (case v => exact .cons ⟨_, rfl⟩ (.cons ⟨_, rfl⟩ (.cons ⟨_, rfl⟩ (.cons ⟨_, rfl⟩ .nil)))))
    (case z_len => k_is)
    (case z_list => k_is)
    (case z_tuple => k_is)
    (case z_sorted => k_is)
    (case z_set => k_is)
    (case z_range => k_is)
    (case z_enumerate => k_is)
    (case z_zip => k_is)
    (case z_any => k_is)
    (case z_all => k_is)
    (case z_int => k_is)
    (case z_abs => k_is)
    (case z_isinstance => k_is)
    (case z_str => k_is)
#print axioms PySem.Challenge.cw_movedstates_k56_whole_owners_and_comings_holds
