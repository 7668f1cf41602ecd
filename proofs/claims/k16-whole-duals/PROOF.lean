import PyProof.Rows.All
import Wide.All
import OpenK.AllK
import Wide.FinOn
import HandS.ForMost
import HandS.GenBody
import HandS.GenYield
import PyProof.GenComp
import HandS.Slots
import HandS.SlotsOwn
import HandS.Zip
import KE.GoesMore
import KE.GoesEnum
import HandS.SortOrd
import HandS.SortInts
import HandS.DictTup
import HandS.Conv
import HandS.List
import HandS.NamedTupSort
import HandS.Star
import KE.KDictWalk
import KE.KDictDisplayH
import HandS.Iter
import HandS.Comp
import HandS.Words
import HandS.Codes
import HandS.IsInst
import HandS.Gcd
import HandS.TupAny
import HandS.Defaults
import HandS.Wide
import HandS.Style
import HandS.DictComp
import HandS.GenList
import HandS.GenCall
import KE.KMathGC
import PySem.Challenge.RW_slantways_k16_whole_duals
set_option Elab.async false
set_option linter.all false
set_option maxRecDepth 100000
set_option maxHeartbeats 4000000

namespace KW

theorem ltAsc_ext : ∀ {l l' : List Int}, l.Pairwise (· < ·) → l'.Pairwise (· < ·) → (∀ x, x ∈ l ↔ x ∈ l') → l = l'
  | [], [], _, _, _ => rfl
  | [], y :: r, _, _, h => absurd ((h y).mpr List.mem_cons_self) (by simp)
  | x :: l, [], _, _, h => absurd ((h x).mp List.mem_cons_self) (by simp)
  | x :: l, y :: r, h1, h2, h => by
    obtain ⟨a1, b1⟩ := List.pairwise_cons.mp h1
    obtain ⟨a2, b2⟩ := List.pairwise_cons.mp h2
    have exy : x = y := by
      have m1 := (h x).mp List.mem_cons_self
      have m2 := (h y).mpr List.mem_cons_self
      rcases List.mem_cons.mp m1 with e | m1
      · exact e
      · rcases List.mem_cons.mp m2 with e | m2
        · exact e.symm
        · have q1 := a2 x m1
          have q2 := a1 y m2
          omega
    subst exy
    have e : l = r := ltAsc_ext b1 b2 fun z => by
      constructor
      · intro m
        rcases List.mem_cons.mp ((h z).mp (List.mem_cons_of_mem _ m)) with e | m'
        · have := a1 z m; omega
        · exact m'
      · intro m
        rcases List.mem_cons.mp ((h z).mpr (List.mem_cons_of_mem _ m)) with e | m'
        · have := a2 z m; omega
        · exact m'
    rw [e]
theorem ltAsc_of {l : List Int} (h : l.Pairwise (· ≤ ·)) (n : l.Nodup) : l.Pairwise (· < ·) := by
  have n' : l.Pairwise (· ≠ ·) := n
  exact (h.and n').imp fun {a b} ⟨p, q⟩ => by omega
theorem ltAsc_nodup {l : List Int} (h : l.Pairwise (· < ·)) : l.Nodup := h.imp fun {a b} q => by omega
/-- what sorted gives of a list without repeats -/
theorem sorted_is {ns L D : List Int} (p : ns.Perm L) (s : ns.Pairwise (· ≤ ·)) (nd : L.Nodup) (hD : D.Pairwise (· < ·)) (hm : ∀ x, x ∈ D ↔ x ∈ L) : ns = D :=
  ltAsc_ext (ltAsc_of s (p.nodup_iff.mpr nd)) hD fun x => p.mem_iff.trans (hm x).symm

structure Good (a b : Int) (G : List Int) : Prop where
  asc : G.Pairwise (· < ·)
  pos : ∀ x ∈ G, 0 < x
  small : ∀ x ∈ G, x < 1000
  na : a ∉ G
  nb : b ∉ G
  da : ∀ x ∈ G, a ≤ x → x - a ∈ G
  db : ∀ x ∈ G, b ≤ x → x - b ∈ G
theorem Good.swap {a b : Int} {G : List Int} (h : Good a b G) : Good b a G := ⟨h.asc, h.pos, h.small, h.nb, h.na, h.db, h.da⟩
theorem Good.nil (a b : Int) : Good a b [] := ⟨.nil, by simp, by simp, by simp, by simp, by simp, by simp⟩
theorem asc_len {lo hi : Int} : ∀ {l : List Int}, l.Pairwise (· < ·) → (∀ x ∈ l, lo ≤ x ∧ x < hi) → (l.length : Int) ≤ max 0 (hi - lo)
  | [], _, _ => by simp; omega
  | x :: l, h, m => by
    obtain ⟨a1, b1⟩ := List.pairwise_cons.mp h
    have hx := m x List.mem_cons_self
    have ih := asc_len (lo := x + 1) (hi := hi) b1 fun y hy => ⟨by have := a1 y hy; omega, (m y (List.mem_cons_of_mem _ hy)).2⟩
    rw [List.length_cons]
    omega
theorem Good.len {a b : Int} {G : List Int} (h : Good a b G) : G.length ≤ 1000 := by
  have q := asc_len (lo := 1) (hi := 1000) h.asc fun x hx => ⟨h.pos x hx, h.small x hx⟩
  omega
theorem Good.nodup {a b : Int} {G : List Int} (h : Good a b G) : G.Nodup := ltAsc_nodup h.asc

def stepL (a : Int) (acc : List Int) (g : Int) : List Int := acc.set (g % a).toNat (acc.getD (g % a).toNat 0 + a)
def startL (a : Int) : List Int := (List.range a.toNat).map fun n : Nat => (n : Int)
def leastL (G : List Int) (a : Int) : List Int := G.foldl (stepL a) (startL a)
theorem startL_len (a : Int) : (startL a).length = a.toNat := by unfold startL; rw [List.length_map, List.length_range]
theorem stepL_len (a : Int) (acc : List Int) (g : Int) : (stepL a acc g).length = acc.length := by unfold stepL; rw [List.length_set]
theorem foldL_len (a : Int) : ∀ (G acc : List Int), (G.foldl (stepL a) acc).length = acc.length
  | [], _ => rfl
  | g :: G, acc => by rw [List.foldl_cons, foldL_len a G, stepL_len]
theorem leastL_len (G : List Int) (a : Int) : (leastL G a).length = a.toNat := by unfold leastL; rw [foldL_len, startL_len]
/-- the invariant of least_by: P is what has been taken -/
structure LInv (a : Int) (P acc : List Int) : Prop where
  len : acc.length = a.toNat
  cong : ∀ r : Nat, (r : Int) < a → (acc.getD r 0) % a = r
  nn : ∀ r : Nat, (r : Int) < a → 0 ≤ acc.getD r 0
  mem : ∀ x : Int, 0 ≤ x → (x ∈ P ↔ x < acc.getD (x % a).toNat 0)
theorem LInv.start {a : Int} (h : 0 < a) : LInv a [] (startL a) := by
  have g : ∀ r : Nat, (r : Int) < a → (startL a).getD r 0 = r := fun r hr => by
    unfold startL
    rw [List.getD_eq_getElem?_getD, List.getElem?_map, List.getElem?_range (by omega)]
    rfl
  refine ⟨startL_len a, fun r hr => ?_, fun r hr => ?_, fun x hx => ?_⟩
  · rw [g r hr]; exact Int.emod_eq_of_lt (by omega) hr
  · rw [g r hr]; omega
  · have h1 := Int.emod_nonneg x (show a ≠ 0 by omega)
    have h2 := Int.emod_lt_of_pos x h
    rw [g _ (by omega)]
    have h3 : x % a ≤ x := by
      have e := Int.mul_ediv_add_emod x a
      have q : 0 ≤ a * (x / a) := Int.mul_nonneg (by omega) (Int.ediv_nonneg hx (by omega))
      omega
    simp
    omega
/-- two numbers with one rest that differ by less than a are one -/
theorem mod_close {a x y : Int} (h : 0 < a) (e : x % a = y % a) (h1 : y ≤ x) (h2 : x < y + a) : x = y := by
  have e1 := Int.mul_ediv_add_emod x a
  have e2 := Int.mul_ediv_add_emod y a
  have e3 : a * (x / a) - a * (y / a) = x - y := by omega
  rw [← Int.mul_sub] at e3
  rcases Int.lt_trichotomy (x / a - y / a) 0 with q | q | q
  · have q2 : x / a - y / a ≤ -1 := by omega
    have q3 := Int.mul_le_mul_of_nonneg_left q2 (show 0 ≤ a by omega)
    omega
  · rw [q] at e3; omega
  · have q2 : 1 ≤ x / a - y / a := by omega
    have q3 := Int.mul_le_mul_of_nonneg_left q2 (show 0 ≤ a by omega)
    omega
theorem LInv.step {a : Int} {P acc : List Int} {g : Int} (h : 0 < a) (I : LInv a P acc) (hg : 0 ≤ g) (hn : g ∉ P) (hd : a ≤ g → g - a ∈ P) : LInv a (P ++ [g]) (stepL a acc g) := by
  have r1 := Int.emod_nonneg g (show a ≠ 0 by omega)
  have r2 := Int.emod_lt_of_pos g h
  have hlt : (g % a).toNat < acc.length := by rw [I.len]; omega
  have key : acc.getD (g % a).toNat 0 = g := by
    have n1 : ¬ g < acc.getD (g % a).toNat 0 := fun q => hn ((I.mem g hg).mpr q)
    have c := I.cong (g % a).toNat (by omega)
    have c2 : ((g % a).toNat : Int) = g % a := by omega
    rw [c2] at c
    by_cases ha : a ≤ g
    · have m := (I.mem (g - a) (by omega)).mp (hd ha)
      have e : (g - a) % a = g % a := by rw [Int.sub_emod]; simp
      rw [e] at m
      exact (mod_close h c.symm (by omega) (by omega)).symm
    · have q := I.nn (g % a).toNat (by omega)
      exact (mod_close h c.symm (by omega) (by omega)).symm
  have gs : ∀ r : Nat, (stepL a acc g).getD r 0 = if r = (g % a).toNat then g + a else acc.getD r 0 := fun r => by
    unfold stepL
    rw [key]
    by_cases e : r = (g % a).toNat
    · rw [if_pos e, e, List.getD_eq_getElem?_getD, List.getElem?_set_self hlt]; rfl
    · rw [if_neg e, List.getD_eq_getElem?_getD, List.getElem?_set_ne (Ne.symm e), ← List.getD_eq_getElem?_getD]
  refine ⟨by rw [stepL_len]; exact I.len, fun r hr => ?_, fun r hr => ?_, fun x hx => ?_⟩
  · rw [gs]
    by_cases e : r = (g % a).toNat
    · rw [if_pos e, Int.add_emod]; simp; omega
    · rw [if_neg e]; exact I.cong r hr
  · rw [gs]
    by_cases e : r = (g % a).toNat
    · rw [if_pos e]; omega
    · rw [if_neg e]; exact I.nn r hr
  · rw [gs, List.mem_append, List.mem_singleton]
    have s1 := Int.emod_nonneg x (show a ≠ 0 by omega)
    have s2 := Int.emod_lt_of_pos x h
    by_cases e : (x % a).toNat = (g % a).toNat
    · rw [if_pos e, I.mem x hx, e, key]
      have e2 : x % a = g % a := by omega
      constructor
      · rintro (q | q) <;> omega
      · intro q
        by_cases q2 : x < g
        · exact .inl q2
        · exact .inr (mod_close h e2 (by omega) q)
    · rw [if_neg e, I.mem x hx]
      constructor
      · rintro (q | q)
        · exact q
        · exact absurd (by rw [q]) e
      · exact .inl
theorem LInv.fold {a : Int} (h : 0 < a) : ∀ (S P acc : List Int), LInv a P acc → (P ++ S).Pairwise (· < ·) → (∀ x ∈ S, 0 ≤ x) → (∀ x ∈ S, a ≤ x → x - a ∈ P ++ S) → LInv a (P ++ S) (S.foldl (stepL a) acc)
  | [], P, acc, I, _, _, _ => by rw [List.append_nil]; exact I
  | g :: S, P, acc, I, hp, hn, hd => by
    have e : P ++ g :: S = (P ++ [g]) ++ S := by simp
    rw [List.foldl_cons, e]
    have hpg := (List.pairwise_append.mp hp).2.2
    have hgS := (List.pairwise_cons.mp (List.pairwise_append.mp hp).2.1).1
    refine LInv.fold h S (P ++ [g]) _ (I.step h (hn g List.mem_cons_self) (fun m => ?_) fun ha => ?_) (by rw [← e]; exact hp) (fun x hx => hn x (List.mem_cons_of_mem _ hx)) fun x hx => by rw [← e]; exact hd x (List.mem_cons_of_mem _ hx)
    · have q := hpg g m g List.mem_cons_self
      omega
    · rcases List.mem_append.mp (hd g List.mem_cons_self ha) with m | m
      · exact m
      · rcases List.mem_cons.mp m with q | m
        · omega
        · have q := hgS _ m
          omega
theorem least_inv {a b : Int} {G : List Int} (h : 0 < a) (g : Good a b G) : LInv a G (leastL G a) :=
  LInv.fold h G [] _ (LInv.start h) g.asc (fun x hx => by have := g.pos x hx; omega) g.da
/-- membership as is_member tells it -/
theorem member_iff {a b : Int} {G : List Int} (h : 0 < a) (g : Good a b G) (x : Int) (hx : 0 ≤ x) : (leastL G a).getD (x % a).toNat 0 ≤ x ↔ x ∉ G := by
  rw [(least_inv h g).mem x hx]
  omega

def lastG (G : List Int) : Int := G.getLast?.getD (-1)
def dualL (G : List Int) : List Int := ((List.range (lastG G + 1).toNat).map fun n : Nat => (n : Int)).filter fun i => decide (lastG G - i ∉ G)
theorem rangeI_asc (n : Nat) : ((List.range n).map fun k : Nat => (k : Int)).Pairwise (· < ·) := by
  refine List.pairwise_map.mpr (List.pairwise_lt_range.imp fun {a b} h => by omega)
theorem mem_rangeI {n : Nat} {x : Int} : x ∈ ((List.range n).map fun k : Nat => (k : Int)) ↔ 0 ≤ x ∧ x < n := by
  rw [List.mem_map]
  constructor
  · rintro ⟨k, hk, rfl⟩
    have := List.mem_range.mp hk
    omega
  · rintro ⟨h1, h2⟩
    exact ⟨x.toNat, List.mem_range.mpr (by omega), by omega⟩
theorem lastG_nil : lastG [] = -1 := rfl
theorem lastG_mem {G : List Int} (h : G ≠ []) : lastG G ∈ G := by
  unfold lastG
  rw [List.getLast?_eq_some_getLast h]
  exact List.getLast_mem h
theorem lastG_max : ∀ {G : List Int}, G.Pairwise (· < ·) → ∀ x ∈ G, x ≤ lastG G
  | [], _, x, hx => absurd hx (by simp)
  | [y], _, x, hx => by rw [List.mem_singleton.mp hx]; exact Int.le_refl _
  | y :: z :: r, h, x, hx => by
    obtain ⟨a1, b1⟩ := List.pairwise_cons.mp h
    have e : lastG (y :: z :: r) = lastG (z :: r) := by unfold lastG; rw [List.getLast?_cons_cons]
    rw [e]
    rcases List.mem_cons.mp hx with q | q
    · have := a1 _ (lastG_mem (G := z :: r) (by simp))
      omega
    · exact lastG_max b1 x q
theorem lastG_ge {a b : Int} {G : List Int} (g : Good a b G) : -1 ≤ lastG G ∧ lastG G < 1000 := by
  by_cases h : G = []
  · subst h; decide
  · have := g.pos _ (lastG_mem h)
    have := g.small _ (lastG_mem h)
    omega
theorem lastG_eq {G : List Int} {f : Int} (h : G.Pairwise (· < ·)) (hm : f ∈ G) (hx : ∀ x ∈ G, x ≤ f) : lastG G = f := by
  have h1 := lastG_max h f hm
  have h2 := hx _ (lastG_mem (G := G) (by intro e; rw [e] at hm; simp at hm))
  omega
theorem mem_dual {G : List Int} {x : Int} : x ∈ dualL G ↔ 0 ≤ x ∧ x ≤ lastG G ∧ lastG G - x ∉ G := by
  unfold dualL
  rw [List.mem_filter, mem_rangeI, decide_eq_true_eq]
  constructor
  · rintro ⟨⟨h1, h2⟩, h3⟩; exact ⟨h1, by omega, h3⟩
  · rintro ⟨h1, h2, h3⟩; exact ⟨⟨h1, by omega⟩, h3⟩
theorem dual_asc (G : List Int) : (dualL G).Pairwise (· < ·) := (rangeI_asc _).filter _
theorem dual_nil : dualL [] = [] := rfl
theorem zero_not {a b : Int} {G : List Int} (g : Good a b G) : (0 : Int) ∉ G := fun h => by have := g.pos 0 h; omega
/-- the greatest gap of the dual -/
theorem dual_last {a b : Int} {G : List Int} (g : Good a b G) (h : G ≠ []) : lastG G ∈ dualL G := by
  have := g.pos _ (lastG_mem h)
  exact mem_dual.mpr ⟨by omega, Int.le_refl _, by rw [Int.sub_self]; exact zero_not g⟩
theorem dual_eq_nil {a b : Int} {G : List Int} (g : Good a b G) : dualL G = [] ↔ G = [] := by
  constructor
  · intro e
    by_cases h : G = []
    · exact h
    · have := dual_last g h
      rw [e] at this
      simp at this
  · intro e; rw [e]; rfl
theorem dual_lastG {a b : Int} {G : List Int} (g : Good a b G) : lastG (dualL G) = lastG G := by
  by_cases h : G = []
  · rw [h]; rfl
  · exact lastG_eq (dual_asc G) (dual_last g h) fun x hx => (mem_dual.mp hx).2.1
theorem dual_good {a b : Int} {G : List Int} (ha : 0 < a) (hb : 0 < b) (g : Good a b G) : Good a b (dualL G) := by
  have step : ∀ c : Int, 0 < c → (∀ x ∈ G, c ≤ x → x - c ∈ G) → c ∉ G → (c ∉ dualL G) ∧ ∀ x ∈ dualL G, c ≤ x → x - c ∈ dualL G := fun c hc dc nc => by
    have up : ∀ x ∈ dualL G, c ≤ x → x - c ∈ dualL G := fun x hx hcx => by
      obtain ⟨h1, h2, h3⟩ := mem_dual.mp hx
      refine mem_dual.mpr ⟨by omega, by omega, fun m => h3 ?_⟩
      have e : lastG G - x = lastG G - (x - c) - c := by omega
      rw [e]
      exact dc _ m (by omega)
    refine ⟨fun m => ?_, up⟩
    have q := up c m (Int.le_refl _)
    rw [Int.sub_self] at q
    obtain ⟨h1, h2, h3⟩ := mem_dual.mp q
    rw [Int.sub_zero] at h3
    refine h3 (lastG_mem fun e => ?_)
    rw [e] at h2
    exact absurd h2 (by decide)
  obtain ⟨na, da⟩ := step a ha g.da g.na
  obtain ⟨nb, db⟩ := step b hb g.db g.nb
  refine ⟨dual_asc G, fun x hx => ?_, fun x hx => ?_, na, nb, da, db⟩
  · obtain ⟨h1, h2, h3⟩ := mem_dual.mp hx
    by_cases e : x = 0
    · rw [e, Int.sub_zero] at h3
      refine absurd (lastG_mem fun e' => ?_) h3
      rw [e'] at h2
      have : lastG [] = -1 := rfl
      omega
    · omega
  · obtain ⟨_, h2, _⟩ := mem_dual.mp hx
    have := (lastG_ge g).2
    omega
theorem dual_dual {a b : Int} {G : List Int} (g : Good a b G) : dualL (dualL G) = G := by
  refine ltAsc_ext (dual_asc _) g.asc fun x => ?_
  rw [mem_dual, dual_lastG g]
  constructor
  · rintro ⟨h1, h2, h3⟩
    by_cases m : x ∈ G
    · exact m
    · refine absurd (mem_dual.mpr ⟨by omega, by omega, ?_⟩) h3
      rw [Int.sub_sub_self]
      exact m
  · intro m
    have h1 := g.pos x m
    have h2 := lastG_max g.asc x m
    refine ⟨by omega, h2, fun q => ?_⟩
    obtain ⟨_, _, h3⟩ := mem_dual.mp q
    rw [Int.sub_sub_self] at h3
    exact h3 m
/-- what the law takes for the dual: the greatest gap less each lesser member, sorted -/
def dueL (G : List Int) : List Int := (((List.range (lastG G).toNat).map fun n : Nat => (n : Int)).filter fun i => decide (i ∉ G)).map fun i => lastG G - i
theorem mem_due {a b : Int} {G : List Int} (g : Good a b G) (x : Int) : x ∈ dualL G ↔ x ∈ dueL G := by
  unfold dueL
  rw [mem_dual, List.mem_map]
  constructor
  · rintro ⟨h1, h2, h3⟩
    refine ⟨lastG G - x, List.mem_filter.mpr ⟨mem_rangeI.mpr ⟨by omega, ?_⟩, decide_eq_true h3⟩, by omega⟩
    by_cases e : x = 0
    · rw [e, Int.sub_zero] at h3
      refine absurd (lastG_mem fun e' => ?_) h3
      rw [e'] at h2
      have : lastG [] = -1 := rfl
      omega
    · omega
  · rintro ⟨i, hi, rfl⟩
    obtain ⟨m, d⟩ := List.mem_filter.mp hi
    have := mem_rangeI.mp m
    have d := of_decide_eq_true d
    exact ⟨by omega, by omega, by rw [Int.sub_sub_self]; exact d⟩
theorem due_nodup (G : List Int) : (dueL G).Nodup := by
  unfold dueL
  refine List.pairwise_map.mpr ?_
  exact ((rangeI_asc _).filter _).imp fun {a b} h => by omega
theorem due_sorted {a b : Int} {G ns : List Int} (g : Good a b G) (p : ns.Perm (dueL G)) (s : ns.Pairwise (· ≤ ·)) : ns = dualL G :=
  sorted_is p s (due_nodup G) (dual_asc G) (mem_due g)
theorem filter_len {α : Type} (p : α → Bool) : ∀ l : List α, (l.filter p).length + (l.filter fun x => !p x).length = l.length
  | [] => rfl
  | x :: l => by
    have ih := filter_len p l
    rw [List.filter_cons, List.filter_cons, List.length_cons]
    cases p x <;> simp <;> omega
theorem dual_len {a b : Int} {G : List Int} (g : Good a b G) (h : G ≠ []) : ((dualL G).length : Int) + G.length = lastG G + 1 := by
  have f0 := g.pos _ (lastG_mem h)
  -- the members below the greatest gap, the gaps
  have e1 : ((List.range (lastG G + 1).toNat).map fun n : Nat => (n : Int)).filter (fun i => decide (i ∈ G)) = G :=
    ltAsc_ext ((rangeI_asc _).filter _) g.asc fun x => by
      rw [List.mem_filter, mem_rangeI, decide_eq_true_eq]
      constructor
      · exact fun z => z.2
      · intro m
        have h1 := g.pos x m
        have h2 := lastG_max g.asc x m
        exact ⟨⟨by omega, by omega⟩, m⟩
  have e2 : ((List.range (lastG G + 1).toNat).map fun n : Nat => (n : Int)).filter (fun i => !decide (i ∈ G)) = ((dualL G).reverse).map fun i => lastG G - i := by
    refine ltAsc_ext ((rangeI_asc _).filter _) ?_ fun x => ?_
    · refine List.pairwise_map.mpr (List.pairwise_reverse.mpr ((dual_asc G).imp fun {a b} q => by omega))
    · rw [List.mem_filter, mem_rangeI, List.mem_map]
      constructor
      · rintro ⟨⟨h1, h2⟩, h3⟩
        refine ⟨lastG G - x, List.mem_reverse.mpr (mem_dual.mpr ⟨by omega, by omega, ?_⟩), by omega⟩
        rw [Int.sub_sub_self]
        simpa using h3
      · rintro ⟨i, hi, rfl⟩
        obtain ⟨h1, h2, h3⟩ := mem_dual.mp (List.mem_reverse.mp hi)
        refine ⟨⟨by omega, by omega⟩, ?_⟩
        simpa using h3
  have q := filter_len (fun i => decide (i ∈ G)) ((List.range (lastG G + 1).toNat).map fun n : Nat => (n : Int))
  rw [e1, e2, List.length_map, List.length_reverse, List.length_map, List.length_range] at q
  omega
end KW

namespace KW

/-- the levels ahead of the rises, from the level l on -/
def mkL (a b : Int) : Int → List Bool → List Int
  | _, [] => []
  | l, true :: bs => l :: mkL a b (l + b) bs
  | l, false :: bs => mkL a b (l - a) bs
/-- the levels ahead of all letters -/
def lvL (a b : Int) : Int → List Bool → List Int
  | _, [] => []
  | l, c :: bs => l :: lvL a b (if c = true then l + b else l - a) bs
/-- the level behind a text -/
def endL (a b : Int) : Int → List Bool → Int
  | l, [] => l
  | l, c :: bs => endL a b (if c = true then l + b else l - a) bs
theorem endL_eq (a b : Int) : ∀ (bs : List Bool) (l : Int), endL a b l bs = l + b * (bs.count true : Nat) - a * (bs.count false : Nat)
  | [], l => by simp [endL]
  | true :: bs, l => by
    show endL a b (if true = true then l + b else l - a) bs = _
    rw [if_pos rfl, endL_eq a b bs]
    rw [List.count_cons_self, List.count_cons_of_ne (show true ≠ false by decide)]
    have e1 : ((bs.count true + 1 : Nat) : Int) = (bs.count true : Nat) + 1 := by omega
    rw [e1, Int.mul_add]
    omega
  | false :: bs, l => by
    show endL a b (if false = true then l + b else l - a) bs = _
    rw [if_neg (by decide), endL_eq a b bs]
    rw [List.count_cons_self, List.count_cons_of_ne (show false ≠ true by decide)]
    have e1 : ((bs.count false + 1 : Nat) : Int) = (bs.count false : Nat) + 1 := by omega
    rw [e1, Int.mul_add]
    omega
theorem endL_snoc (a b : Int) (c : Bool) : ∀ (bs : List Bool) (l : Int), endL a b l (bs ++ [c]) = if c = true then endL a b l bs + b else endL a b l bs - a
  | [], l => rfl
  | d :: bs, l => endL_snoc a b c bs _
theorem lvL_snoc (a b : Int) (c : Bool) : ∀ (bs : List Bool) (l : Int), lvL a b l (bs ++ [c]) = lvL a b l bs ++ [endL a b l bs]
  | [], l => rfl
  | d :: bs, l => by
    show l :: lvL a b _ (bs ++ [c]) = l :: (lvL a b _ bs ++ [endL a b _ bs])
    rw [lvL_snoc a b c bs]
theorem lvL_len (a b : Int) : ∀ (bs : List Bool) (l : Int), (lvL a b l bs).length = bs.length
  | [], _ => rfl
  | _ :: bs, l => by
    show (lvL a b _ bs).length + 1 = _
    rw [lvL_len a b bs]
    rfl
/-- no level below 0, the one behind the last letter too -/
def NonNeg (a b : Int) : Int → List Bool → Prop
  | l, [] => 0 ≤ l
  | l, c :: bs => 0 ≤ l ∧ NonNeg a b (if c = true then l + b else l - a) bs
theorem NonNeg.snoc {a b : Int} {c : Bool} : ∀ {bs : List Bool} {l : Int}, NonNeg a b l bs → 0 ≤ (if c = true then endL a b l bs + b else endL a b l bs - a) → NonNeg a b l (bs ++ [c])
  | [], l, h, h2 => ⟨h, h2⟩
  | d :: bs, l, ⟨h0, h⟩, h2 => ⟨h0, NonNeg.snoc h h2⟩
theorem NonNeg.at_end {a b : Int} : ∀ {bs : List Bool} {l : Int}, NonNeg a b l bs → 0 ≤ endL a b l bs
  | [], _, h => h
  | _ :: bs, _, h => NonNeg.at_end (bs := bs) h.2
/-- the makers by the levels -/
theorem mkL_filter (a b : Int) : ∀ (bs : List Bool) (l : Int), mkL a b l bs = (((lvL a b l bs).zip bs).filter fun p => p.2).map (·.1)
  | [], _ => rfl
  | true :: bs, l => by
    show l :: mkL a b (l + b) bs = l :: (((lvL a b (l + b) bs).zip bs).filter fun p => p.2).map (·.1)
    rw [mkL_filter a b bs]
  | false :: bs, l => mkL_filter a b bs _
theorem mkL_len (a b : Int) : ∀ (bs : List Bool) (l : Int), (mkL a b l bs).length = bs.count true
  | [], _ => rfl
  | true :: bs, l => by
    show (mkL a b _ bs).length + 1 = _
    rw [mkL_len a b bs, List.count_cons_self]
  | false :: bs, l => by
    show (mkL a b _ bs).length = _
    rw [mkL_len a b bs, List.count_cons_of_ne (by decide)]
/-- a maker: the first, or behind another -/
theorem mk_prev {a b : Int} : ∀ {bs : List Bool} {l m : Int}, m ∈ mkL a b l bs → (∃ j : Nat, m = l - a * j) ∨ ∃ m' ∈ mkL a b l bs, ∃ j : Nat, m = m' + b - a * j
  | [], _, _, h => by simp [mkL] at h
  | true :: bs, l, m, h => by
    rcases List.mem_cons.mp (show m ∈ l :: mkL a b (l + b) bs from h) with e | h
    · exact .inl ⟨0, by rw [e]; simp⟩
    · rcases mk_prev h with ⟨j, e⟩ | ⟨m', hm, j, e⟩
      · exact .inr ⟨l, List.mem_cons_self, j, e⟩
      · exact .inr ⟨m', List.mem_cons_of_mem _ hm, j, e⟩
  | false :: bs, l, m, h => by
    rcases mk_prev (show m ∈ mkL a b (l - a) bs from h) with ⟨j, e⟩ | ⟨m', hm, j, e⟩
    · refine .inl ⟨j + 1, ?_⟩
      have e1 : ((j + 1 : Nat) : Int) = j + 1 := by omega
      rw [e, e1, Int.mul_add]
      omega
    · exact .inr ⟨m', hm, j, e⟩
theorem mk_nonneg {a b : Int} : ∀ {bs : List Bool} {l m : Int}, NonNeg a b l bs → m ∈ mkL a b l bs → 0 ≤ m
  | [], _, _, _, h => by simp [mkL] at h
  | true :: bs, l, m, n, h => by
    rcases List.mem_cons.mp (show m ∈ l :: mkL a b (l + b) bs from h) with e | h
    · rw [e]; exact n.1
    · exact mk_nonneg n.2 h
  | false :: bs, l, m, n, h => mk_nonneg n.2 (show m ∈ mkL a b (l - a) bs from h)
theorem mk_le {a b : Int} (ha : 0 ≤ a) (hb : 0 ≤ b) : ∀ {bs : List Bool} {l m : Int}, m ∈ mkL a b l bs → m ≤ l + b * (bs.count true : Nat)
  | [], _, _, h => by simp [mkL] at h
  | true :: bs, l, m, h => by
    rw [List.count_cons_self]
    have e1 : ((bs.count true + 1 : Nat) : Int) = (bs.count true : Nat) + 1 := by omega
    have q : 0 ≤ b * ((bs.count true : Nat) : Int) := Int.mul_nonneg hb (by omega)
    rw [e1, Int.mul_add]
    rcases List.mem_cons.mp (show m ∈ l :: mkL a b (l + b) bs from h) with e | h
    · rw [e]; omega
    · have := mk_le ha hb h
      omega
  | false :: bs, l, m, h => by
    rw [List.count_cons_of_ne (by decide)]
    have := mk_le ha hb (show m ∈ mkL a b (l - a) bs from h)
    omega
/-- the i-th maker's rest by a -/
theorem mk_at {a b : Int} : ∀ {bs : List Bool} {l m : Int} {i : Nat}, (mkL a b l bs)[i]? = some m → ∃ t : Int, m = l + b * i - a * t
  | [], _, _, _, h => by simp [mkL] at h
  | true :: bs, l, m, 0, h => by
    have e : l = m := by simpa [mkL] using h
    exact ⟨0, by rw [e]; simp⟩
  | true :: bs, l, m, i + 1, h => by
    obtain ⟨t, e⟩ := mk_at (bs := bs) (l := l + b) (m := m) (i := i) (by simpa [mkL] using h)
    refine ⟨t, ?_⟩
    have e1 : ((i + 1 : Nat) : Int) = i + 1 := by omega
    rw [e, e1, Int.mul_add]
    omega
  | false :: bs, l, m, i, h => by
    obtain ⟨t, e⟩ := mk_at (bs := bs) (l := l - a) (m := m) (i := i) (by simpa [mkL] using h)
    refine ⟨t + 1, ?_⟩
    rw [e, Int.mul_add]
    omega
theorem dvd_of_cop {a b k : Int} (h : Int.gcd a b = 1) (d : a ∣ b * k) : a ∣ k := by
  have d' : a.natAbs ∣ b.natAbs * k.natAbs := by
    rw [← Int.natAbs_mul]
    exact Int.natAbs_dvd_natAbs.mpr d
  have h' : Nat.Coprime a.natAbs b.natAbs := h
  exact Int.natAbs_dvd_natAbs.mp (h'.dvd_of_dvd_mul_left d')
/-- makers have unlike rests -/
theorem mk_rests {a b : Int} {bs : List Bool} {l : Int} (hg : Int.gcd a b = 1) (ha : 0 < a) (hc : ((bs.count true : Nat) : Int) ≤ a) : (mkL a b l bs).Pairwise fun x y => x % a ≠ y % a := by
  rw [List.pairwise_iff_getElem]
  intro i j hi hj hij e
  obtain ⟨t, e1⟩ := mk_at (List.getElem?_eq_getElem hi)
  obtain ⟨u, e2⟩ := mk_at (List.getElem?_eq_getElem hj)
  have hj' := hj
  rw [mkL_len] at hj'
  have d : a ∣ (mkL a b l bs)[j] - (mkL a b l bs)[i] := Int.dvd_of_emod_eq_zero (by rw [Int.sub_emod, e]; simp)
  have e3 : (mkL a b l bs)[j] - (mkL a b l bs)[i] = b * ((j : Int) - i) + a * (t - u) := by
    rw [e1, e2, Int.mul_sub, Int.mul_sub]
    omega
  rw [e3] at d
  have d2 : a ∣ b * ((j : Int) - i) := by
    have z := Int.dvd_sub d (Int.dvd_mul_right a (t - u))
    rwa [Int.add_sub_cancel] at z
  have d3 := dvd_of_cop hg d2
  have := Int.le_of_dvd (by omega) d3
  omega
/-- the gaps by one maker -/
def gapsOf (a m : Int) : List Int := (List.range (m / a).toNat).map fun k : Nat => m - a * (1 + (k : Int))
theorem mem_gapsOf {a m x : Int} (ha : 0 < a) (hm : 0 ≤ m) : x ∈ gapsOf a m ↔ 0 ≤ x ∧ x < m ∧ x % a = m % a := by
  unfold gapsOf
  rw [List.mem_map]
  have e0 := Int.mul_ediv_add_emod m a
  have r1 := Int.emod_nonneg m (show a ≠ 0 by omega)
  constructor
  · rintro ⟨k, hk, rfl⟩
    have hk := List.mem_range.mp hk
    have q : a * (1 + (k : Int)) ≤ a * (m / a) := Int.mul_le_mul_of_nonneg_left (by omega) (by omega)
    have q2 : 0 < a * (1 + (k : Int)) := Int.mul_pos ha (by omega)
    refine ⟨by omega, by omega, ?_⟩
    rw [Int.sub_emod, Int.mul_emod_right]
    simp
  · rintro ⟨h1, h2, h3⟩
    have ex := Int.mul_ediv_add_emod x a
    have x1 := Int.ediv_nonneg h1 (show 0 ≤ a by omega)
    have lt : x / a < m / a := by
      by_cases q : x / a < m / a
      · exact q
      · have := Int.mul_le_mul_of_nonneg_left (show m / a ≤ x / a by omega) (show 0 ≤ a by omega)
        omega
    refine ⟨(m / a - x / a - 1).toNat, List.mem_range.mpr (by omega), ?_⟩
    have e : (((m / a - x / a - 1).toNat : Nat) : Int) = m / a - x / a - 1 := by omega
    rw [e]
    have e2 : 1 + (m / a - x / a - 1) = m / a - x / a := by omega
    rw [e2, Int.mul_sub]
    omega
theorem gapsOf_nodup {a m : Int} (ha : 0 < a) : (gapsOf a m).Nodup := by
  unfold gapsOf
  refine List.pairwise_map.mpr (List.pairwise_lt_range.imp fun {i j} h e => ?_)
  have e' : a * (1 + (i : Int)) = a * (1 + (j : Int)) := by omega
  have := Int.eq_of_mul_eq_mul_left (by omega) e'
  omega
/-- the gaps of all makers, one maker's behind another's -/
def gapsL (a : Int) (M : List Int) : List Int := (M.map (gapsOf a)).flatten
theorem gapsL_nil (a : Int) : gapsL a [] = [] := rfl
theorem gapsL_snoc (a m : Int) (M : List Int) : gapsL a (M ++ [m]) = gapsL a M ++ gapsOf a m := by
  unfold gapsL
  rw [List.map_append, List.flatten_append]
  simp
theorem mem_gapsL {a x : Int} {M : List Int} (ha : 0 < a) (hM : ∀ m ∈ M, 0 ≤ m) : x ∈ gapsL a M ↔ 0 ≤ x ∧ ∃ m ∈ M, x < m ∧ x % a = m % a := by
  unfold gapsL
  rw [List.mem_flatten]
  constructor
  · rintro ⟨l, hl, hx⟩
    obtain ⟨m, hm, rfl⟩ := List.mem_map.mp hl
    obtain ⟨h1, h2⟩ := (mem_gapsOf ha (hM m hm)).mp hx
    exact ⟨h1, m, hm, h2⟩
  · rintro ⟨h1, m, hm, h2⟩
    exact ⟨_, List.mem_map.mpr ⟨m, hm, rfl⟩, (mem_gapsOf ha (hM m hm)).mpr ⟨h1, h2⟩⟩
theorem gapsL_nodup {a : Int} (ha : 0 < a) : ∀ {M : List Int}, (∀ m ∈ M, 0 ≤ m) → (M.Pairwise fun x y => x % a ≠ y % a) → (gapsL a M).Nodup
  | [], _, _ => List.Pairwise.nil
  | m :: M, h, p => by
    obtain ⟨p1, p2⟩ := List.pairwise_cons.mp p
    show (gapsOf a m ++ gapsL a M).Nodup
    refine List.nodup_append.mpr ⟨gapsOf_nodup ha, gapsL_nodup ha (fun x hx => h x (List.mem_cons_of_mem _ hx)) p2, fun x hx y hy e => ?_⟩
    obtain ⟨_, _, e1⟩ := (mem_gapsOf ha (h m List.mem_cons_self)).mp hx
    obtain ⟨_, m', hm', _, e2⟩ := (mem_gapsL ha (fun x hx => h x (List.mem_cons_of_mem _ hx))).mp hy
    rw [e] at e1
    exact p1 m' hm' (e1.symm.trans e2)
/-- a way: its text -/
structure IsWay (a b : Int) (bs : List Bool) : Prop where
  rises : ((bs.count true : Nat) : Int) = a
  steps : ((bs.count false : Nat) : Int) = b
  nn : NonNeg a b 0 bs
theorem way_good {a b : Int} {bs : List Bool} {M ns : List Int} (hg : Int.gcd a b = 1) (ha : 0 < a) (hb : 0 < b) (hab : a * b < 1000) (W : IsWay a b bs) (pM : M.Perm (mkL a b 0 bs)) (p : ns.Perm (gapsL a M)) (s : ns.Pairwise (· ≤ ·)) :
    Good a b ns := by
  have hM : ∀ m ∈ M, 0 ≤ m := fun m hm => mk_nonneg W.nn (pM.mem_iff.mp hm)
  have hr : M.Pairwise fun x y => x % a ≠ y % a := (List.Perm.pairwise_iff (fun {x y} (h : x % a ≠ y % a) => Ne.symm h) pM).mpr (mk_rests hg ha (by rw [W.rises]; exact Int.le_refl a))
  have mem : ∀ x, x ∈ ns ↔ 0 ≤ x ∧ ∃ m ∈ M, x < m ∧ x % a = m % a := fun x => p.mem_iff.trans (mem_gapsL ha hM)
  -- the maker 0
  have one : ∀ m ∈ M, ∀ m' ∈ M, m % a = m' % a → m = m' := fun m hm m' hm' e => by
    obtain ⟨i, hi, ei⟩ := List.getElem_of_mem hm
    obtain ⟨j, hj, ej⟩ := List.getElem_of_mem hm'
    have pw := List.pairwise_iff_getElem.mp hr
    rcases Nat.lt_trichotomy i j with q | q | q
    · exact absurd (by rw [ei, ej]; exact e) (pw i j hi hj q)
    · subst q; exact ei.symm.trans ej
    · exact absurd (by rw [ei, ej]; exact e.symm) (pw j i hj hi q)
  have prev : ∀ m ∈ M, m = 0 ∨ ∃ m' ∈ M, m ≤ m' + b ∧ (m' + b) % a = m % a := fun m hm => by
    have n0 := hM m hm
    rcases mk_prev (pM.mem_iff.mp hm) with ⟨j, e⟩ | ⟨m', hm', j, e⟩
    · have q : 0 ≤ a * (j : Int) := Int.mul_nonneg (by omega) (by omega)
      exact .inl (by omega)
    · have q : 0 ≤ a * (j : Int) := Int.mul_nonneg (by omega) (by omega)
      refine .inr ⟨m', pM.mem_iff.mpr hm', by omega, ?_⟩
      rw [e, Int.sub_emod, Int.mul_emod_right]
      simp
  -- some maker is 0
  have zero : (0 : Int) ∈ M := by
    refine pM.mem_iff.mpr ?_
    have hr := W.rises
    have hn := W.nn
    match bs, hr, hn with
    | [], hr, _ => simp at hr; omega
    | true :: bs, _, _ => exact List.mem_cons_self
    | false :: bs, _, hn =>
      have hn : NonNeg a b (0 - a) bs := hn.2
      cases bs with
      | nil => have : 0 ≤ 0 - a := hn; omega
      | cons c bs => have : 0 ≤ 0 - a := hn.1; omega
  have no0 : ∀ x ∈ ns, x % a ≠ 0 := fun x hx e => by
    obtain ⟨h1, m, hm, h2, h3⟩ := (mem x).mp hx
    have q := one m hm 0 zero (by rw [← h3, e]; simp)
    omega
  have da : ∀ x ∈ ns, a ≤ x → x - a ∈ ns := fun x hx hax => by
    obtain ⟨h1, m, hm, h2, h3⟩ := (mem x).mp hx
    exact (mem _).mpr ⟨by omega, m, hm, by omega, by rw [Int.sub_emod, Int.emod_self, Int.sub_zero, Int.emod_emod]; exact h3⟩
  have db : ∀ x ∈ ns, b ≤ x → x - b ∈ ns := fun x hx hbx => by
    obtain ⟨h1, m, hm, h2, h3⟩ := (mem x).mp hx
    rcases prev m hm with e | ⟨m', hm', h4, h5⟩
    · omega
    · refine (mem _).mpr ⟨by omega, m', hm', by omega, ?_⟩
      rw [Int.sub_emod, h3, ← h5, ← Int.sub_emod, Int.add_sub_cancel]
  refine ⟨ltAsc_of s (p.nodup_iff.mpr (gapsL_nodup ha hM hr)), fun x hx => ?_, fun x hx => ?_, fun h => no0 a h (by simp), fun h => ?_, da, db⟩
  · have h1 := ((mem x).mp hx).1
    have h2 := no0 x hx
    rcases Int.lt_or_eq_of_le h1 with q | q
    · exact q
    · rw [← q] at h2; simp at h2
  · obtain ⟨h1, m, hm, h2, h3⟩ := (mem x).mp hx
    have := mk_le (by omega) (by omega) (pM.mem_iff.mp hm)
    rw [W.rises, Int.zero_add, Int.mul_comm] at this
    omega
  · have q := db b h (Int.le_refl _)
    rw [Int.sub_self] at q
    exact no0 0 q (by simp)
end KW

namespace KW

def insI (x : Int) : List Int → List Int
  | [] => [x]
  | y :: l => if x ≤ y then x :: y :: l else y :: insI x l
def sortI : List Int → List Int
  | [] => []
  | x :: l => insI x (sortI l)
theorem insI_perm (x : Int) : ∀ l : List Int, (insI x l).Perm (x :: l)
  | [] => List.Perm.refl _
  | y :: l => by
    unfold insI
    split
    · exact List.Perm.refl _
    · exact ((insI_perm x l).cons y).trans (List.Perm.swap x y l)
theorem sortI_perm : ∀ l : List Int, (sortI l).Perm l
  | [] => List.Perm.refl _
  | x :: l => (insI_perm x _).trans ((sortI_perm l).cons x)
theorem insI_srt (x : Int) : ∀ {l : List Int}, l.Pairwise (· ≤ ·) → (insI x l).Pairwise (· ≤ ·)
  | [], _ => List.pairwise_singleton _ _
  | y :: l, h => by
    obtain ⟨h1, h2⟩ := List.pairwise_cons.mp h
    unfold insI
    split
    · rename_i q
      refine List.pairwise_cons.mpr ⟨fun z hz => ?_, h⟩
      rcases List.mem_cons.mp hz with e | hz
      · rw [e]; exact q
      · have := h1 z hz; omega
    · rename_i q
      refine List.pairwise_cons.mpr ⟨fun z hz => ?_, insI_srt x h2⟩
      rcases List.mem_cons.mp ((insI_perm x l).mem_iff.mp hz) with e | hz
      · rw [e]; omega
      · exact h1 z hz
theorem sortI_srt : ∀ l : List Int, (sortI l).Pairwise (· ≤ ·)
  | [] => List.Pairwise.nil
  | x :: l => insI_srt x (sortI_srt l)
theorem srt_uniq : ∀ {l l' : List Int}, l.Perm l' → l.Pairwise (· ≤ ·) → l'.Pairwise (· ≤ ·) → l = l'
  | [], l', p, _, _ => p.nil_eq
  | x :: l, [], p, _, _ => absurd p.length_eq (by simp)
  | x :: l, y :: l', p, h, h' => by
    obtain ⟨h1, h2⟩ := List.pairwise_cons.mp h
    obtain ⟨h3, h4⟩ := List.pairwise_cons.mp h'
    have e : x = y := by
      have m1 := p.mem_iff.mp (List.mem_cons_self (a := x) (l := l))
      have m2 := p.mem_iff.mpr (List.mem_cons_self (a := y) (l := l'))
      rcases List.mem_cons.mp m1 with e | m1
      · exact e
      · rcases List.mem_cons.mp m2 with e | m2
        · exact e.symm
        · have := h1 y m2
          have := h3 x m1
          omega
    subst e
    rw [srt_uniq (List.Perm.cons_inv p) h2 h4]
theorem sortI_of {ns l : List Int} (p : ns.Perm l) (s : ns.Pairwise (· ≤ ·)) : ns = sortI l := srt_uniq (p.trans (sortI_perm l).symm) s (sortI_srt l)

def memB (G : List Int) (x : Int) : Bool := decide (0 ≤ x ∧ x ∉ G)
def makersL (a b : Int) (G : List Int) : List Int := (sortI (leastL G a)).filter fun m => !memB G (m - b)
def removL (a b : Int) (G : List Int) : List Int := (makersL a b G).drop 1
def withGap (G : List Int) (m : Int) : List Int := sortI (G ++ [m])
def addK (ks : List (List Int)) (k : List Int) : List (List Int) := if k ∈ ks then ks else ks ++ [k]
def growOne (a b : Int) (acc : List (List Int)) (G : List Int) : List (List Int) := (removL a b G).foldl (fun acc m => addK acc (withGap G m)) acc
def grownK (a b : Int) (ks : List (List Int)) : List (List Int) := ks.foldl (growOne a b) []
def goodB (a b : Int) (G : List Int) : Bool :=
  decide (G.Pairwise (· < ·)) && G.all (fun x => decide (0 < x)) && G.all (fun x => decide (x < 1000)) && !G.contains a && !G.contains b && G.all (fun x => !decide (a ≤ x) || G.contains (x - a)) && G.all fun x => !decide (b ≤ x) || G.contains (x - b)
theorem goodB_good {a b : Int} {G : List Int} (h : goodB a b G = true) : Good a b G := by
  unfold goodB at h
  simp only [Bool.and_eq_true, decide_eq_true_eq, List.all_eq_true, Bool.not_eq_true', Bool.or_eq_true, List.contains_eq_mem, decide_eq_false_iff_not] at h
  obtain ⟨⟨⟨⟨⟨⟨h1, h2⟩, h3⟩, h4⟩, h5⟩, h6⟩, h7⟩ := h
  exact ⟨h1, h2, h3, h4, h5, fun x hx ha => (h6 x hx).resolve_left fun z => z ha, fun x hx ha => (h7 x hx).resolve_left fun z => z ha⟩
def layerB (a b : Int) (ks : List (List Int)) : Bool := ks.all (goodB a b) && decide (ks.length < 64) && (decide (ks.length < 2) || ks.all fun G => decide (G ≠ []))
/-- all layers from one on, while they are as is asked -/
def runK (a b : Int) : Nat → List (List Int) → Option (List (List Int))
  | 0, _ => none
  | n + 1, ks => if ks = [] then some [] else if layerB a b ks = true then (runK a b n (grownK a b ks)).map (ks ++ ·) else none
def chkK (a b : Int) : Bool := match runK a b 40 [[]] with
  | some L => (L.map dualL).isPerm L && decide (L.length < 64)
  | none => false
theorem chk_nat : ∀ a : Fin 9, ∀ b : Fin 9, (1 ≤ a.val ∧ 1 ≤ b.val ∧ a.val + b.val ≤ 9 ∧ Nat.gcd a.val b.val = 1) → chkK (a.val : Int) (b.val : Int) = true := by decide +kernel
theorem chk_all {a b : Int} (ha : 1 ≤ a) (hb : 1 ≤ b) (h : a + b ≤ 9) (hg : Int.gcd a b = 1) : chkK a b = true := by
  have q := chk_nat ⟨a.toNat, by omega⟩ ⟨b.toNat, by omega⟩ ⟨by show 1 ≤ a.toNat; omega, by show 1 ≤ b.toNat; omega, by show a.toNat + b.toNat ≤ 9; omega, by
    show Nat.gcd a.toNat b.toNat = 1
    have e1 : a.toNat = a.natAbs := by omega
    have e2 : b.toNat = b.natAbs := by omega
    rw [e1, e2]
    exact hg⟩
  have e1 : ((a.toNat : Nat) : Int) = a := by omega
  have e2 : ((b.toNat : Nat) : Int) = b := by omega
  have q' : chkK ((a.toNat : Nat) : Int) ((b.toNat : Nat) : Int) = true := q
  rw [e1, e2] at q'
  exact q'
/-- what a small slope's shelves are -/
theorem all_shelves {a b : Int} (ha : 1 ≤ a) (hb : 1 ≤ b) (h : a + b ≤ 9) (hg : Int.gcd a b = 1) : ∃ L, runK a b 40 [[]] = some L ∧ (L.map dualL).Perm L ∧ L.length < 64 := by
  have q := chk_all ha hb h hg
  unfold chkK at q
  cases e : runK a b 40 [[]] with
  | none => rw [e] at q; cases q
  | some L =>
    rw [e] at q
    simp only [Bool.and_eq_true, decide_eq_true_eq] at q
    exact ⟨L, rfl, List.isPerm_iff.mp q.1, q.2⟩
theorem runK_good {a b : Int} : ∀ {n : Nat} {ks L : List (List Int)}, runK a b n ks = some L → ∀ G ∈ L, Good a b G
  | 0, ks, L, h => by cases h
  | n + 1, ks, L, h => by
    unfold runK at h
    split at h
    · cases h
      intro G hG
      simp at hG
    · split at h
      · rename_i h2
        cases e : runK a b n (grownK a b ks) with
        | none => rw [e] at h; cases h
        | some L' =>
          rw [e] at h
          have e2 : ks ++ L' = L := Option.some.inj h
          intro G hG
          rw [← e2] at hG
          rcases List.mem_append.mp hG with m | m
          · unfold layerB at h2
            simp only [Bool.and_eq_true] at h2
            exact goodB_good (List.all_eq_true.mp h2.1.1 G m)
          · exact runK_good e G m
      · cases h
/-- one layer of a run -/
theorem runK_step {a b : Int} {n : Nat} {ks L : List (List Int)} (h : runK a b n ks = some L) (hk : ks ≠ []) :
    ∃ m L', n = m + 1 ∧ runK a b m (grownK a b ks) = some L' ∧ L = ks ++ L' ∧ (∀ G ∈ ks, Good a b G) ∧ ks.length < 64 ∧ (ks.length < 2 ∨ ∀ G ∈ ks, G ≠ []) := by
  cases n with
  | zero => cases h
  | succ n =>
    have hg := runK_good h
    unfold runK at h
    rw [if_neg hk] at h
    split at h
    · rename_i h2
      cases e : runK a b n (grownK a b ks) with
      | none => rw [e] at h; cases h
      | some L' =>
        rw [e] at h
        have e2 : ks ++ L' = L := Option.some.inj h
        unfold layerB at h2
        simp only [Bool.and_eq_true, Bool.or_eq_true, decide_eq_true_eq, List.all_eq_true] at h2
        exact ⟨n, L', rfl, e, e2.symm, fun G hG => hg G (by rw [← e2]; exact List.mem_append_left _ hG), h2.1.2, h2.2⟩
    · cases h
theorem runK_nil {a b : Int} {n : Nat} {L : List (List Int)} (h : runK a b n [] = some L) : L = [] := by
  cases n with
  | zero => cases h
  | succ n =>
    unfold runK at h
    rw [if_pos rfl] at h
    exact (Option.some.inj h).symm
end KW

namespace PySem
section
variable {M : Model} {A : Around} {R : GenEnd} {Y : Protocol} {n : Nat} {s₀ : Shared} {c : Code} {fs : List Frame} {s : Shared} {env : Env}
  {K : Flow → Sem Fin} {H : Value → Sem Fin} {gd : Bool → Bool} {lv : List Value → List Value}
theorem kseg_For {target iter : Expr} {body orelse : List Stmt} {pos : Pos}
    (h : wpAny M (A.over c fs) (eval iter env) (fun x s₁ => wpAny M (A.over c fs) (pyIter x) (fun it s₂ => ∀ p, Seg M A R Y n s₀ (.forLoop target it body orelse env) (M.den (.forLoop target it body orelse env))
      (.ret (fun r => ((match r with | .ok f => (.pure f : Sem Flow) | .error e => .raise e).onRaise fun (x : Value) => do
        if (← field x 1) == Value.none then unsupported "frame.own-activation:exception-without-traceback"
        setFlight x env.frame).wrap K H gd lv) none (gd false) (lv []) c p [] :: fs) s₂) (fun x s' => Seg M A R Y n s₀ c (H x) fs s') s₁) (fun x s' => Seg M A R Y n s₀ c (H x) fs s') s)
    (hs : ∀ x, foldedSetIterable iter env x = pure x := by intro _; rfl) :
    Seg M A R Y n s₀ c ((exec (.For target iter body orelse pos) env).wrap K H gd lv) fs s := by
  rw [exec_For]
  refine seg_bind_wrap (wpAny_standAt ?_)
  refine seg_bind_wrap (wpAny_mono h (fun x s₁ h₁ => ?_) fun _ _ x => x)
  rw [hs x]
  refine seg_bind_wrap (wpAny_pure ?_)
  refine seg_bind_wrap (wpAny_standAt ?_)
  refine seg_bind_wrap (wpAny_holding (wpAny_mono h₁ (fun it s₂ h₂ => ?_) fun _ _ x => x))
  exact seg_call h₂
end
section
variable {prog : Program} {w : World} {A : Around} {R : GenEnd} {Y : Protocol} {n : Nat} {s₀ : Shared} {fs : List Frame} {s : Shared} {env : Env}
/-- an exception leaves the loop's code -/
abbrev KOut (prog : Program) (w : World) (A : Around) (R : GenEnd) (Y : Protocol) (n : Nat) (s₀ : Shared) (c : Code) (env : Env) (fs : List Frame) (x : Value) (s' : Shared) : Prop :=
  Seg (model prog w) A R Y n s₀ c ((do noteFrame x env; theTreesLotGoes x : Sem Unit).wrap (fun _ => .raise x) .raise id id) fs s'
theorem kseg_forLoop {target : Expr} {it : Value} {body : List Stmt}
    (h : wpAny (model prog w) (A.over (.forLoop target it body [] env) fs) (pyNext it) (fun r s₁ => match r with
      | none => Seg (model prog w) A R Y n s₀ (.forLoop target it body [] env) (.pure (.again (.block [] env))) fs s₁
      | some v => wpAny (model prog w) (A.over (.forLoop target it body [] env) fs) (letOwnedTupleGo target it v) (fun _ s₂ => wpAny (model prog w) (A.over (.forLoop target it body [] env) fs) (assign target env v) (fun _ s₃ =>
          Seg (model prog w) A R Y n s₀ (.forLoop target it body [] env) ((execs body env).wrap (fun f => match f with
            | .next | .cont => .pure (.again (.forLoop target it body [] env))
            | .brk => .pure (.done .next)
            | .ret v => .pure (.done (.ret v))) (fun e => (do noteFrame e env; theTreesLotGoes e : Sem Unit).wrap (fun _ => .raise e) .raise id id) id id) fs s₃)
            (KOut prog w A R Y n s₀ (.forLoop target it body [] env) env fs) s₂) (KOut prog w A R Y n s₀ (.forLoop target it body [] env) env fs) s₁)
      (KOut prog w A R Y n s₀ (.forLoop target it body [] env) env fs) s) :
    Seg (model prog w) A R Y n s₀ (.forLoop target it body [] env) ((model prog w).den (.forLoop target it body [] env)) fs s := by
  have out : ∀ (x : Value) (s' : Shared), KOut prog w A R Y n s₀ (.forLoop target it body [] env) env fs x s' → Seg (model prog w) A R Y n s₀ (.forLoop target it body [] env) (((do noteFrame x env; theTreesLotGoes x : Sem Unit).bind fun _ => .raise x)) fs s' := fun x s' hx => by
    rw [Sem.bind_eq_wrap]
    exact hx
  show Seg _ A R Y n s₀ _ ((forTurn target it body [] env).onRaise (fun x => do noteFrame x env; theTreesLotGoes x)) fs s
  unfold forTurn
  rw [Sem.onRaise_eq_wrap]
  refine seg_bind_wrap (wpAny_standAt ?_)
  refine seg_bind_wrap (wpAny_onRaise (wpAny_mono h (fun r s₁ h₁ => ?_) fun x s' hx => wpAny_standAt (out x s' hx)))
  cases r with
  | none => exact h₁
  | some v =>
    refine seg_bind_wrap (wpAny_mono h₁ (fun _ s₂ h₂ => ?_) fun x s' hx => out x s' hx)
    refine seg_bind_wrap (wpAny_mono h₂ (fun _ s₃ h₃ => ?_) fun x s' hx => out x s' hx)
    rw [Sem.bind_eq_wrap', Sem.wrap_wrap]
    rw [Sem.wrap_congr (execs body env) _ _ (K' := fun f => match f with
            | .next | .cont => .pure (.again (.forLoop target it body [] env))
            | .brk => .pure (.done .next)
            | .ret v => .pure (.done (.ret v))) (H' := (fun e => (do noteFrame e env; theTreesLotGoes e : Sem Unit).wrap (fun _ => .raise e) .raise id id))
        (fun f => by cases f <;> rfl)
        (fun e => by first | exact Sem.bind_eq_wrap _ _ | (show (do noteFrame e env; theTreesLotGoes e : Sem Unit).bind (fun _ => .raise e) = _; rw [Sem.bind_eq_wrap]))]
    exact h₃
theorem kseg_block_nil {c : Code} (h : ∀ r, r = .ok .next → Seg (model prog w) A R Y n s₀ (.block [] env) (leafOf r) fs s) : Seg (model prog w) A R Y n s₀ c (.pure (.again (.block [] env))) fs s := by
  refine seg_again rfl ?_
  exact h _ rfl
end
end PySem
namespace L2
open PySem PySem.Spec PyProof.Rows GenW
section
variable {X : Cx}
/-- for target in iter, with yields in its body -/
def tGFor (wi : TI) (g : TG) (tb : TGn) : TGn := fun D ys σ H => wi σ H fun J H1 => ∃ W : Nat → Nat → List V → St → Hp → Prop, (∃ m, W 0 m ys σ H1) ∧ ∀ i m ys σ H, W i m ys σ H →
  (J.stop i H ∧ D.nx ys σ H) ∨ (J.go i H ∧ ∃ N : List V → St → Hp → Prop, (∀ ys' σ' H', N ys' σ' H' → ∃ m', m' < m ∧ W (i + 1) m' ys' σ' H') ∧ ∀ x H', J.yld i H x H' → g x σ H' fun σ2 H2 => tb { D with nx := N, ct := N, bk := D.nx } ys σ2 H2)
theorem gs_for {tg iter : Expr} {body : List Stmt} {wi : TI} {g : TG} {tb : TGn} {pos : Pos} (hp : PassesOwn (model X.prog X.w) X.A X.env X.xe) (hc : X.calm = true) (hi : PI X tg iter wi) (hg : PG X tg g) (hb : GSs X body tb)
    (hs : ∀ x, foldedSetIterable iter X.env x = pure x := by intro _; rfl) : GS X (.For tg iter body [] pos) (tGFor wi g tb) := by
  refine ⟨fun A S ip R n ys s₀ c fs K J gd lv s σ H D gc hn k hI ht => ?_⟩
  obtain ⟨acc, cc, r, I⟩ := hI
  refine kseg_For ?_ hs
  rw [gc.over]
  refine wpAny_mono (hi.run _ s σ H _ I ht) (fun v s1 h1 => wpAny_mono h1 (fun itv s2 h2 => ?_) fun x s' hx => k.exc n s₀ x s' hx) fun x s' hx => k.exc n s₀ x s' hx
  obtain ⟨it, fp, tn, J', H2, e, I2, T, st2, f2, W, ⟨m0, w0⟩, turn⟩ := h2
  subst e
  intro p
  -- the iterator's own objects: not the consumer's list
  have fpS : ∀ b ∈ fp, b ≠ S := fun b hb z => by
    obtain ⟨_, _, _, _, _, q⟩ := f2 b hb
    exact q (S, lstObj acc cc) (List.mem_append_right _ List.mem_cons_self) z.symm
  have stat : ∀ {H' : Hp} {acc' : Array Value} {c' : Nat}, (∀ b ∈ fp, H' b = none) → ∀ b ∈ fp, FpOk X ((S, lstObj acc' c') :: ip) H' b := fun {H' acc' c'} hn b hb => by
    obtain ⟨_, q1, q2, q3, q4, q5⟩ := f2 b hb
    refine ⟨hn b hb, q1, q2, q3, q4, fun p hp => ?_⟩
    rcases List.mem_append.mp hp with hp | hp
    · exact q5 p (List.mem_append_left _ hp)
    · rcases List.mem_cons.mp hp with hp | hp
      · rw [hp]; exact Ne.symm (fpS b hb)
      · exact q5 p (List.mem_append_right _ (List.mem_cons_of_mem _ hp))
  have gl := fun (kk : Result → Sem PySem.Fin) => gc_loop (k := kk) (c' := .forLoop tg (.ref it) body [] X.env) (l := lv []) (kp := []) (p := p) gc rfl rfl
  have loop : ∀ (m i n : Nat) (ys : List V) (s₀ s : Shared) (σ : St) (H : Hp), n + ys.length = sizeLine → W i m ys σ H → GI X S ip ys σ H s → tn i s.heap → (∀ b ∈ fp, H b = none) →
      Seg (model X.prog X.w) A R (GY X S) n s₀ (.forLoop tg (.ref it) body [] X.env) ((model X.prog X.w).den (.forLoop tg (.ref it) body [] X.env))
        (.ret (fun r => ((match r with | .ok f => (.pure f : Sem Flow) | .error e => .raise e).onRaise (cameBack X.env)).wrap K J gd lv) none (gd false) (lv []) c p [] :: fs) s := by
    intro m
    induction m using Nat.strongRecOn with
    | ind m ih =>
      intro i n ys s₀ s3 σ3 H3 hn w3 hI3 st3 fr3
      have ee : ∀ (n : Nat) (s₀ : Shared) (x : Value) (s' : Shared), X.xe x s' → Seg (model X.prog X.w) A R (GY X S) n s₀ (.forLoop tg (.ref it) body [] X.env)
          ((do noteFrame x X.env; theTreesLotGoes x : Sem Unit).wrap (fun _ => .raise x) .raise id id)
          (.ret (fun r => ((match r with | .ok f => (.pure f : Sem Flow) | .error e => .raise e).onRaise (cameBack X.env)).wrap K J gd lv) none (gd false) (lv []) c p [] :: fs) s' := fun n s₀ x s' hx => by
        refine seg_wrap ?_
        rw [(gl _).over]
        refine wpAny_bind (wpAny_mono (hp x s' hx) (fun _ s'' hcb => wpAny_theTreesLotGoes ?_) fun y s'' hcb => ?_)
        · exact seg_leaf (.error x) (seg_cameBack gc k hcb)
        · exact seg_leaf (.error y) (seg_cameBack gc k hcb)
      refine kseg_forLoop ?_
      rw [(gl _).over]
      obtain ⟨acc3, c3, r3, I3⟩ := hI3
      rcases turn i m ys σ3 H3 w3 with ⟨stop, qn⟩ | ⟨go, N, hN, step⟩
      · refine wpAny_mono (T.done X rfl rfl rfl hc i _ s3 σ3 H3 X.xe I3 (stat fr3) st3 stop) (fun r s4 ⟨hr, I4⟩ => ?_) fun x s' hx => ee n s₀ x s' hx
        subst hr
        refine kseg_block_nil fun r hr => ?_
        subst hr
        exact seg_leaf (.ok .next) (k.ok n ys s₀ s4 .next hn ⟨σ3, H3, ⟨acc3, c3, r3, I4⟩, qn⟩)
      · refine wpAny_mono (T.item X rfl rfl rfl hc i _ s3 σ3 H3 X.xe I3 (stat fr3) st3 go) (fun r s4 ⟨u, hr, h4⟩ => ?_) fun x s' hx => ee n s₀ x s' hx
        subst hr
        refine wpAny_mono h4 (fun _ s5 ⟨x, H5, I5, r5, y5, st5, fr5⟩ => ?_) fun x s' hx => ee n s₀ x s' hx
        have I5' := I5.pinned (stat fr5) (T.obj _ _ st5)
        refine wpAny_mono (hg.run _ s5 σ3 H5 x u _ I5' r5 (step x H5 y5)) (fun _ s6 ⟨σ6, H6, I6, q6⟩ => ?_) fun x s' hx => ee n s₀ x s' hx
        have g2 : GC X S (ip ++ pinsAt fp s5.heap) A (.forLoop tg (.ref it) body [] X.env) (.ret (fun r => ((match r with | .ok f => (.pure f : Sem Flow) | .error e => .raise e).onRaise (cameBack X.env)).wrap K J gd lv) none (gd false) (lv []) c p [] :: fs) id :=
          ⟨gc.pn, fun q hq => (List.mem_append.mp hq).elim (fun z => gc.ip q z) fun z => fpS _ (of_pinsAt z).1, gc.apart, (gl _).over, (gl _).split, (gl _).guard, rfl⟩
        have I6' : Inv X ((S, lstObj acc3 c3) :: (ip ++ pinsAt fp s5.heap)) σ6 H6 s6 := I6
        refine hb.run A S _ R n ys s₀ _ _ _ _ id id s6 σ6 H6 { D with nx := N, ct := N, bk := D.nx } g2 hn ⟨fun n' ys' s₀' s7 f hn' hs7 => ?_, fun n' s₀' x s7 hx => ee n' s₀' x s7 hx⟩ ⟨acc3, c3, r3, I6'⟩ q6
        have back : ∀ {ys' : List V} {σ7 : St} {H7 : Hp} {s7 : Shared}, GI X S (ip ++ pinsAt fp s5.heap) ys' σ7 H7 s7 → GI X S ip ys' σ7 H7 s7 ∧ tn (i + 1) s7.heap ∧ ∀ b ∈ fp, H7 b = none := fun {ys' σ7 H7 s7} hI7 => by
          obtain ⟨acc7, c7, r7, I7⟩ := hI7
          have I7' : Inv X (((S, lstObj acc7 c7) :: ip) ++ pinsAt fp s5.heap) σ7 H7 s7 := I7
          have at_ : ∀ b ∈ fp, ∀ o, s5.heap.get? b = some o → s7.heap.get? b = some o ∧ H7 b = none := fun b hb o e => by
            have q := I7'.pin (b, o) (List.mem_append_right _ (List.mem_append_right _ (mem_pinsAt hb e)))
            exact ⟨q.1, q.2.1⟩
          refine ⟨⟨acc7, c7, r7, I7'.unpinned⟩, T.keep _ _ _ st5 fun b hb o e => (at_ b hb o e).1, fun b hb => ?_⟩
          obtain ⟨o, e, d⟩ := T.obj _ _ st5 b hb
          exact (at_ b hb o e).2
        have again : ∀ {σ7 : St} {H7 : Hp}, GI X S (ip ++ pinsAt fp s5.heap) ys' σ7 H7 s7 → N ys' σ7 H7 → Seg (model X.prog X.w) A R (GY X S) n' s₀' (.forLoop tg (.ref it) body [] X.env) ((model X.prog X.w).den (.forLoop tg (.ref it) body [] X.env))
            (.ret (fun r => ((match r with | .ok f => (.pure f : Sem Flow) | .error e => .raise e).onRaise (cameBack X.env)).wrap K J gd lv) none (gd false) (lv []) c p [] :: fs) s7 := fun {σ7 H7} hI7 n7 => by
          obtain ⟨m', hm, w7⟩ := hN ys' σ7 H7 n7
          obtain ⟨b1, b2, b3⟩ := back hI7
          exact ih m' hm (i + 1) n' ys' s₀' s7 σ7 H7 hn' w7 b1 b2 b3
        cases f with
        | next => obtain ⟨σ7, H7, I7, n7⟩ := hs7; exact seg_again rfl (again I7 n7)
        | cont => obtain ⟨σ7, H7, I7, n7⟩ := hs7; exact seg_again rfl (again I7 n7)
        | brk => obtain ⟨σ7, H7, I7, q7⟩ := hs7; exact seg_leaf (.ok .next) (k.ok n' ys' s₀' s7 .next hn' ⟨σ7, H7, (back I7).1, q7⟩)
        | ret v => obtain ⟨x7, σ7, H7, I7, r7, q7⟩ := hs7; exact seg_leaf (.ok (.ret v)) (k.ok n' ys' s₀' s7 (.ret v) hn' ⟨x7, σ7, H7, (back I7).1, r7, q7⟩)
  exact loop m0 0 n ys s₀ s2 σ H2 hn w0 ⟨acc, cc, r, I2⟩ st2 fun b hb => (f2 b hb).1
/-- over a list that stands still -/
theorem gfor_list {K : PySem.W.Frag} {a : Addr} {xs : List V} {g : TG} {tb : TGn} {D : GEnds} {ys : List V} {σ : St} {H : Hp} (Pv : Nat → List V → St → Hp → Prop) (h0 : Pv 0 ys σ H) (hl : ∀ i ys σ H, i ≤ xs.length → Pv i ys σ H → SqL K H a xs)
    (hs : ∀ i x ys σ H, xs[i]? = some x → Pv i ys σ H → g x σ H fun σ2 H2 => tb { D with nx := Pv (i + 1), ct := Pv (i + 1), bk := D.nx } ys σ2 H2) (hd : ∀ ys σ H, Pv xs.length ys σ H → D.nx ys σ H) :
    ∃ W : Nat → Nat → List V → St → Hp → Prop, (∃ m, W 0 m ys σ H) ∧ ∀ i m ys σ H, W i m ys σ H →
      ((Itl K a).stop i H ∧ D.nx ys σ H) ∨ ((Itl K a).go i H ∧ ∃ N : List V → St → Hp → Prop, (∀ ys' σ' H', N ys' σ' H' → ∃ m', m' < m ∧ W (i + 1) m' ys' σ' H') ∧ ∀ x H', (Itl K a).yld i H x H' → g x σ H' fun σ2 H2 => tb { D with nx := N, ct := N, bk := D.nx } ys σ2 H2) := by
  refine ⟨fun i m ys σ H => m = xs.length - i ∧ i ≤ xs.length ∧ Pv i ys σ H, ⟨xs.length, by simp, Nat.zero_le _, h0⟩, ?_⟩
  rintro i m ys σ H ⟨rfl, hi, p⟩
  have q := hl i ys σ H hi p
  by_cases hlt : i < xs.length
  · refine .inr ⟨⟨xs, xs[i], q, by simp [hlt]⟩, Pv (i + 1), fun ys' σ' H' p' => ⟨xs.length - (i + 1), by omega, rfl, hlt, p'⟩, fun x H' y => ?_⟩
    obtain ⟨e, y⟩ := y
    subst e
    exact hs i x ys σ _ (y xs q) p
  · have e : i = xs.length := by omega
    subst e
    exact .inl ⟨⟨xs, q, Nat.le_refl _⟩, hd ys σ H p⟩
end
end L2

namespace KNe
open PySem PySem.Spec PyProof.Rows L2
section
variable {M : Model} {prog : Program} {w : World} {A : Around} {E : Value → Shared → Prop} {s : Shared} {K : PySem.W.Frag} {x C f : Addr} {ox : Obj} {od : Option Obj}
theorem ifBound_objNe {args : List Value} {Q : Option Value → Shared → Prop} (X : K.In s.heap) (I : PySem.W.InstAt s.heap x ox C od) (hs : PySem.W.findIn K (.ref C) "__ne__" = some (some (.builtin "object.__ne__")))
    (h : wpAny M A (call (.builtin "object.__ne__") (.ref x :: args)) (fun v => Q (some v)) E s) : wpAny M A (callSpecialIfBound? (.ref x) "__ne__" args) Q E s := by
  simp only [callSpecialIfBound?, bindSpecialIfBound?]
  refine wpAny_holding (wpAny_bind (wpAny_bind (wpAny_bind (I.type.here ((PySem.W.looks_findIn X hs).here ?_)))))
  refine wpAny_bind (wpAny_askSetting (wpAny_ite ?_))
  have fin : wpAny M A (call (.builtin "object.__ne__") ([.ref x] ++ args) >>= fun v => pure (some v)) Q E s := wpAny_bind (wpAny_mono h (fun v s' h' => wpAny_pure h') fun _ _ h' => h')
  split
  · exact wpAny_bind (wpAny_of_eq (F.cmp_object.ne.bind _) (wpAny_pure (by exact fin)))
  · exact wpAny_tryCatch (wpAny_bind (wpAny_of_eq (F.cmp_object.ne.bind _) (wpAny_pure (by exact fin))))
/-- what comes back is a bool -/
def BB (Q : Bool → Shared → Prop) (v : Value) (s' : Shared) : Prop := ∃ b, v = .bool b ∧ Q b s'
theorem objNe_entry {y : Value} {Q : PySem.Fin → Shared → Prop} (hu : A.units < cLine) (X : K.In s.heap) (I : PySem.W.InstAt s.heap x ox C od) (hs : PySem.W.findIn K (.ref C) "__eq__" = some (some (.ref f))) (hf : PySem.W.isFn K (.ref f) = true)
    (h : wpAny (model prog w) A (call (.ref f) [.ref x, y]) (BB fun b s' => Q (.done (.ret (.bool (!b)))) s') E s) : wpAny (model prog w) A (Builtin.«object.__ne__» ⟨[.ref x, y], []⟩) Q E s := by
  have one : wpAny (model prog w) A (callSpecialIfBound? (.ref x) "__eq__" [y]) (fun r s' => ∃ b, r = some (.bool b) ∧ Q (.done (.ret (.bool (!b)))) s') E s :=
    PySem.W.ifBound_K X I hs hf (wpAny_mono h (fun v s' hv => by obtain ⟨b, rfl, hq⟩ := hv; exact ⟨b, rfl, hq⟩) fun _ _ e => e)
  unfold Builtin.«object.__ne__»
  repeat (first
    | with_reducible refine wpAny_cRoomFor hu ?_
    | (refine wpAny_bind (m := callSpecialIfBound? (.ref x) (Str.ofString "__eq__") [y]) (wpAny_mono one (fun r s' hr => by
          obtain ⟨b, rfl, hq⟩ := hr
          repeat (first | exact hq | exact wpAny_pure hq | exact wpAny_truthy_bool hq | (refine wpAny_bind (m := truthy (.bool _)) (wpAny_truthy_bool ?_)) | wp_step)) fun _ _ e => e))
    | wp_step)
theorem rc_ne {y tb : Value} {Q : Value → Shared → Prop} (hu : A.units + 1 < cLine) (X : K.In s.heap) (I : PySem.W.InstAt s.heap x ox C od) (hb : PySem.W.Looks (model prog w) s.heap (typeOf y) tb) (hn : PySem.W.notFirst K C tb = true)
    (hm : PySem.W.mroIn K C (.type "object") = some true) (hne : PySem.W.findIn K (.ref C) "__ne__" = some (some (.builtin "object.__ne__"))) (hs : PySem.W.findIn K (.ref C) "__eq__" = some (some (.ref f))) (hf : PySem.W.isFn K (.ref f) = true)
    (h : wpAny (model prog w) A.in1 (call (.ref f) [.ref x, y]) (BB fun b s' => Q (.bool (!b)) s') E s) : wpAny (model prog w) A (richCompare .NotEq (.ref x) y) Q E s := by
  have hu1 : A.in1.units < cLine := by show A.units + 1 < cLine; exact hu
  have callNe : ∀ {R : Value → Shared → Prop}, (∀ b s', Q (.bool (!b)) s' → R (.bool (!b)) s') → wpAny (model prog w) A (call (.builtin "object.__ne__") [.ref x, y]) R E s := fun {R} hR =>
    wpAny_call (codeAny_call_builtin F.cmp_object.ne.plain F.cmpEntry_ne (PySem.W.check_slot F.cmpKind_ne F.cmpSplit_ne (I.type.andThen (PySem.W.looks_mroIn X hm)) (F.cmpArgs_ne _ _) (objNe_entry (A := A.in1) hu1 X I hs hf (wpAny_mono h (fun v s' hv => by
      obtain ⟨b, rfl, hq⟩ := hv
      first | exact ⟨b, rfl, hR b s' hq⟩ | exact ⟨b, rfl, wpAny_pure (hR b s' hq)⟩) fun _ _ e => e))))
  have one : wpAny (model prog w) A (tryCompare (.ref x) (cmpInfo .NotEq).2.1 y) (fun r s' => ∃ v, r = some v ∧ Q v s') E s := by
    unfold tryCompare
    refine wpAny_bind (ifBound_objNe X I hne (callNe fun b s' hq => ?_))
    exact wpAny_pure ⟨_, rfl, hq⟩
  unfold richCompare
  simp only [oneThing_ref]
  refine wpAny_holding (wpAny_bind (wpAny_cRoomFor (Nat.lt_of_succ_lt hu) ?_))
  refine wpAny_bind (I.type.here (wpAny_bind (hb.here ?_)))
  split
  · rename_i q
    have e : PySem.W.subIn K tb (.ref C) = some false := by
      rcases Bool.or_eq_true_iff.mp hn with e | e
      · rw [beq_iff_eq.mp e] at q; simp at q
      · exact beq_iff_eq.mp e
    refine wpAny_bind ((PySem.W.looks_subIn X e).here ?_)
    simp only [Bool.false_eq_true, if_false]
    refine wpAny_bind (wpAny_mono one (fun r s' z => ?_) fun _ _ e => e)
    obtain ⟨v, rfl, hq⟩ := z
    exact wpAny_pure hq
  · refine wpAny_bind (wpAny_pure ?_)
    simp only [Bool.false_eq_true, if_false]
    refine wpAny_bind (wpAny_mono one (fun r s' z => ?_) fun _ _ e => e)
    obtain ⟨v, rfl, hq⟩ := z
    exact wpAny_pure hq
end
end KNe
namespace SlX
open PySem PySem.Spec PyProof.Rows L2
section
variable {X : Cx} {CX : CXT} {C g : Addr} {n : Nat} {sp : Sp} {E : XK}
/-- x != y, instances with slots of the class at C, whose own __eq__ at g says a bool -/
def rOwnNe (K : PySem.W.Frag) (C : Addr) (sp : Sp) (E : XK) : R2 := fun x y H Q => ∃ a dx vs b C' dy ws, x = .ref a ∧ y = .ref b ∧ Slt H a C dx vs ∧ Slt H b C' dy ws ∧ PySem.W.notFirst K C (.ref C') = true ∧ sp [x, y] H (fun z H' => ∃ k, z = .bl k ∧ Q (.bl (!k)) H') E
theorem op_ownNe (hm : PySem.W.mroIn X.K C (.type "object") = some true) (hne : PySem.W.findIn X.K (.ref C) "__ne__" = some (some (.builtin "object.__ne__"))) (hs : PySem.W.findIn X.K (.ref C) "__eq__" = some (some (.ref g))) (hf : PySem.W.isFn X.K (.ref g) = true)
    (F : FnR X.prog X.w X.K X.mg X.base CX n g sp) (hr : Room (n + 1) X.A) (hx : Passes CX X E) : OpR X (compareOp .NotEq) (rOwnNe X.K C sp E) := by
  intro pins s σ H x y v u Q I rx ry h
  obtain ⟨a, dx, vs, b, C', dy, ws, rfl, rfl, ha, hb, hn, q⟩ := h
  cases (show v = Value.ref a from rx)
  cases (show u = Value.ref b from ry)
  obtain ⟨sl, od, _, J, _⟩ := slt_inst I ha
  obtain ⟨sl', od', _, J', _⟩ := slt_inst I hb
  refine KNe.rc_ne (tb := .ref C') (Nat.lt_of_le_of_lt (Nat.add_le_add_left (by decide : 1 ≤ 64) _) hr.units) I.kIn J J'.type hn hm hne hs hf ?_
  refine wpAny_mono (wpAny_call (run_at (A := X.A.in1) (us := [.ref a, .ref b]) (ws := [.ref a, .ref b]) F hr.in1 I.env0.in1 hx I (.cons rfl (.cons rfl .nil)) q)) (fun w s' z => ?_) fun _ _ x => x
  obtain ⟨z', H', I', rz, k, e, qz⟩ := z
  subst e
  cases (show w = Value.bool k from rz)
  exact ⟨k, rfl, .bl (!k), H', I', rfl, qz⟩
end
end SlX

namespace KZs
open PySem PySem.Spec PyProof.Rows L2
/-- the list at a as it stands at each turn, the signs of x; the two in new pairs -/
def ItzS (K : PySem.W.Frag) (a : Addr) (x : Str) : It :=
  ⟨fun i H => ∃ (xs : List V) (y : V) (c : Nat), SqL K H a xs ∧ xs[i]? = some y ∧ x.cps[i]? = some c,
    fun i H v H' => ∃ T y c, v = .ref T ∧ H T = none ∧ H' = upd H T (.tup [y, .str ⟨#[c]⟩]) ∧ (∀ xs, SqL K H a xs → xs[i]? = some y) ∧ x.cps[i]? = some c,
    fun i H => ∃ xs : List V, SqL K H a xs ∧ i ≤ xs.length ∧ i ≤ x.cps.size ∧ (i = xs.length ∨ i = x.cps.size)⟩
theorem turn_zipS {P : Program} {w : World} {K : PySem.W.Frag} {elts : List Expr} {kk : Nat} {tpos : Pos} {a z TI TO i1 i2 : Addr} {x : Str} {t : Tok} (D : ZipSep2 z TI TO i1 i2 [i1, a] [i2]) (hne : a ≠ i1) :
    Turn P w K (.Tuple elts kk tpos) (ItzS K a x) [z, TI, TO, i1, i2] z (fun i h => IsZip h z TI TO .none ∧ IsTupOf2 h TI (.ref i1) (.ref i2) ∧ (∃ u v, IsTupOf2 h TO u v) ∧ h.IsListIter i1 a i ∧ h.IsStrIter i2 (strIterType x) x t i) where
  mem := by simp
  obj := fun i h st c hc => by
    obtain ⟨hz, hTI, ⟨u, v, hTO⟩, ⟨o1, e1, _, d1⟩, ⟨o2, e2, _, d2⟩⟩ := st
    have e' : c = z ∨ c = TI ∨ c = TO ∨ c = i1 ∨ c = i2 := by simpa using hc
    rcases e' with q | q | q | q | q
    · rw [q]; exact ⟨_, hz, fun v q => nomatch q⟩
    · rw [q]; exact ⟨_, hTI, fun v q => nomatch q⟩
    · rw [q]; exact ⟨_, hTO, fun v q => nomatch q⟩
    · rw [q]; exact ⟨o1, e1, fun v q => by rw [d1] at q; cases q⟩
    · rw [q]; exact ⟨o2, e2, fun v q => by rw [d2] at q; cases q⟩
  keep := fun i h h' st k => by
    obtain ⟨hz, hTI, ⟨u, v, hTO⟩, h1, h2⟩ := st
    refine ⟨k z (by simp) _ hz, k TI (by simp) _ hTI, ⟨u, v, k TO (by simp) _ hTO⟩, h1.at fun o q => k i1 (by simp) o q, ?_⟩
    obtain ⟨o, ho, r⟩ := h2
    exact ⟨o, k i2 (by simp) o ho, r⟩
  item := by
    intro X hP hw hK hc i pins s σ H E I hf st hg
    subst hP hw hK
    obtain ⟨hz, hTI, ⟨u0, v0, hTO⟩, h1, h2⟩ := st
    obtain ⟨xs, y, c, hqx, hy, hcx⟩ := hg
    obtain ⟨its, rv, p, _⟩ := I.list hqx
    obtain ⟨u, hu, ru⟩ := rv.get hy
    have hh : X.A.in1.handled = none := I.ok.hd hc
    have hzl : z < s.heap.objs.size := Heap.lt_size hz
    have hi1 : i < its.toArray.size := by
      have q := (List.getElem?_eq_some_iff.mp hu).1
      simpa using q
    have hi2 : i < x.cps.size := (Array.getElem?_eq_some_iff.mp hcx).1
    refine wpAny_pyNext_zipD2_item D (Draws.list hh i1 a hne its.toArray) (Draws.text hh i2 x t) hz hTI hTO ⟨h1, p.isList⟩ h2 hi1 hi2 fun x1 x2 h' tk q1 q2 z' TO' sn1 sn2 hT hsz hk => ?_
    have e1 : x1 = u := by
      have q : its.toArray[i]? = some u := by simpa using hu
      rw [q] at q1
      exact (Option.some.inj q1).symm
    subst e1
    obtain ⟨c', u', q3, e2⟩ := q2
    rw [hcx] at q3
    obtain rfl := Option.some.inj q3
    subst e2
    refine ⟨_, rfl, wpAny_letOwnedTupleGo_zip (s := { s with heap := h', toks := tk }) z' fun h'' z'' sb => ?_⟩
    have hT2 : h''.get? s.heap.objs.size = some { cls := .type "tuple", data := .seq #[x1, .str ⟨#[c]⟩ u'] } := (sb.2 _ (Nat.ne_of_gt hzl)).trans hT
    have new : ObjOk X.prog X.w (upd H s.heap.objs.size (.tup [y, .str ⟨#[c]⟩])) h'' s.heap.objs.size (.tup [y, .str ⟨#[c]⟩]) :=
      ⟨by show 2 ≤ sizeLine; decide, [x1, .str ⟨#[c]⟩ u'], .cons ru (.cons ⟨u', rfl⟩ .nil), ⟨_, hT2, rfl, _, rfl⟩⟩
    have I1 : Inv X pins σ (upd H s.heap.objs.size (.tup [y, .str ⟨#[c]⟩])) { s with heap := h'', toks := tk } :=
      I.turnedNew (t' := tk) (ch := [z, TI, TO, i1, i2]) (fun c o hb q => (sb.2 c (fun q' => hb (by simp [q']))).trans (hk c o (fun q' => hb (by simp [q'])) (fun q' => hb (by simp [q'])) (fun q' => hb (by simp [q'])) (fun q' => hb (by simp [q'])) q)) hf (Nat.le_refl _) new
    refine ⟨.ref s.heap.objs.size, _, I1, rfl, ⟨_, y, c, rfl, I.hok.fresh (Nat.le_refl _), rfl, fun l hl => by rw [I.list_inj hl hqx]; exact hy, hcx⟩, ⟨z'', ?_, ⟨x1, .str ⟨#[c]⟩ u', ?_⟩, ?_, ?_⟩, fun b hcm => ?_⟩
    · exact (sb.2 _ D.TIz).trans (hk _ _ D.TIz D.TITO D.TIi1 D.TIi2 hTI)
    · exact (sb.2 _ D.TOz).trans TO'
    · exact sn1.1.at fun o q => (sb.2 _ (Ne.symm D.zi1)).trans q
    · obtain ⟨o, ho, r⟩ := sn2
      exact ⟨o, (sb.2 _ (Ne.symm D.zi2)).trans ho, r⟩
    · have hlt : b < s.heap.objs.size := by
        have e' : b = z ∨ b = TI ∨ b = TO ∨ b = i1 ∨ b = i2 := by simpa using hcm
        rcases e' with q | q | q | q | q
        · rw [q]; exact hzl
        · rw [q]; exact Heap.lt_size hTI
        · rw [q]; exact Heap.lt_size hTO
        · rw [q]; obtain ⟨_, e1, _⟩ := h1; exact Heap.lt_size e1
        · rw [q]; obtain ⟨_, e2, _⟩ := h2; exact Heap.lt_size e2
      rw [upd_ne (Nat.ne_of_lt hlt)]
      exact (hf b hcm).1
  done := by
    intro X hP hw hK hc i pins s σ H E I hf st hg
    subst hP hw hK
    obtain ⟨hz, hTI, ⟨x0, y0, hTO⟩, h1, h2⟩ := st
    obtain ⟨xs, hqx, hl1, hl2, hend⟩ := hg
    obtain ⟨its, rv, p, _⟩ := I.list hqx
    have l1 : xs.length = its.toArray.size := by rw [List.size_toArray]; exact rv.length
    have hh : X.A.in1.handled = none := I.ok.hd hc
    exact wpAny_pyNext_zipD2_end D (Draws.list hh i1 a hne its.toArray) (Draws.text hh i2 x t) hz hTI hTO ⟨h1, p.isList⟩ h2 (by omega) hl2 (by omega) fun h' tk hk => ⟨rfl, I.turnedL (t' := tk) (ch := [z, TI, TO, i1, i2]) (fun c o hb q =>
      hk c o (fun q' => hb (by simp [q'])) (fun q' => hb (by simp [q'])) (fun q' => hb (by simp [q'])) (fun q' => hb (by simp [q'])) q) hf⟩
  self := fun A i s Q E st h => wpAny_pyIter_zip st.1 h
def iZipS (K : PySem.W.Frag) (ta : TA) : TI := fun σ H R => ta σ H fun vs H1 => ∃ a xs x, vs = [.ref a, .str x] ∧ SqL K H1 a xs ∧ R (ItzS K a x) H1
theorem pi_zipS {X : Cx} {e e2 : Expr} {ta : TA} {p pos tpos : Pos} {elts : List Expr} {kk : Nat} (hg : Gl X "zip") (hm : X.mg "zip" = none) (ha : PA X [e, e2] ta)
    (hs : starEach [e, e2] X.env = (false, eval e X.env) :: starEach [e2] X.env := by rfl) (hpl : (backTo pos (starEach [e2] X.env)).any (·.1) = false := by rfl) :
    PI X (.Tuple elts kk tpos) (.Call (.Name "zip" p) [e, e2] [] pos) (iZipS X.K ta) := by
  refine ⟨fun pins s σ H R I h => ?_⟩
  refine Call_ (ld_blt I hg hm PyProof.Rows.boot_zip (PyProof.Rows.callWith_type1 (thn (ha.run pos pins s σ H _ I h) fun us s1 ⟨vs, H1, I1, r1, q1⟩ => ?_) hs hpl))
  obtain ⟨a, xs, x, ex, hqx, q⟩ := q1
  subst ex
  cases r1 with
  | cons r rr =>
    cases rr with
    | cons r' rr =>
      cases rr
      cases r
      obtain ⟨t, rfl⟩ := r'
      have fresh5 : ∀ c, c ∈ [s1.heap.objs.size + 4, s1.heap.objs.size + 2, s1.heap.objs.size + 3, s1.heap.objs.size, s1.heap.objs.size + 1] → FpOk X pins H1 c := fun c hcm => by
        have e' : c = s1.heap.objs.size + 4 ∨ c = s1.heap.objs.size + 2 ∨ c = s1.heap.objs.size + 3 ∨ c = s1.heap.objs.size ∨ c = s1.heap.objs.size + 1 := by simpa using hcm
        have hle : s1.heap.objs.size ≤ c := by
          rcases e' with z | z | z | z | z
          · rw [z]; exact Nat.le_add_right _ _
          · rw [z]; exact Nat.le_add_right _ _
          · rw [z]; exact Nat.le_add_right _ _
          · rw [z]; exact Nat.le_refl _
          · rw [z]; exact Nat.le_add_right _ _
        exact I1.fpOk hle (I1.hok.fresh hle)
      obtain ⟨its, rv, p1, _⟩ := I1.list hqx
      have hlt : a < s1.heap.objs.size := p1.lt
      refine zip_begins2 (begins_list a its.toArray) (begins_text x t) p1.isList trivial fun h' hz hTI hTO g1 g2 hsz hk => wpAny_pyIter_zip hz ?_
      have I2 : Inv X pins σ H1 { s1 with heap := h' } := I1.kept (t' := s1.toks) hk
      have D : ZipSep2 (s1.heap.objs.size + 4) (s1.heap.objs.size + 2) (s1.heap.objs.size + 3) s1.heap.objs.size (s1.heap.objs.size + 1) [s1.heap.objs.size, a] [s1.heap.objs.size + 1] :=
        zip_sep2 (N := s1.heap.objs.size) (fp1 := [a]) (fp2 := []) (fun b hb => by rw [List.mem_singleton.mp hb]; exact hlt) (fun b hb => nomatch hb)
      exact ⟨s1.heap.objs.size + 4, [s1.heap.objs.size + 4, s1.heap.objs.size + 2, s1.heap.objs.size + 3, s1.heap.objs.size, s1.heap.objs.size + 1], _, _, H1, rfl, I2, turn_zipS (t := t) D (Nat.ne_of_lt hlt), ⟨hz, hTI, ⟨_, _, hTO⟩, ⟨_, g1, rfl, rfl⟩, ⟨_, g2, rfl, rfl⟩⟩, fresh5, q⟩
end KZs

namespace KSr
open PySem PySem.Spec PyProof.Rows L2 SrtO Srt

theorem lex_asym : ∀ (a b : List Int), HT.lexLt a b = true → HT.lexLt b a = false
  | [], [], h => by simp [HT.lexLt] at h
  | [], _ :: _, _ => rfl
  | _ :: _, [], h => by simp [HT.lexLt] at h
  | x :: xs, y :: ys, h => by
    rw [HT.lexLt_cons] at h ⊢
    by_cases e : x = y
    · rw [if_pos e] at h
      rw [if_pos e.symm]
      exact lex_asym xs ys h
    · rw [if_neg e, decide_eq_true_eq] at h
      rw [if_neg (fun z => e z.symm)]
      exact decide_eq_false (by omega)
theorem lex_tr : ∀ (x y z : List Int), HT.lexLt y x = false → HT.lexLt z y = false → HT.lexLt z x = false
  | _, _, [], h1, h2 => by
    rename_i x y
    cases y with
    | nil => exact h1
    | cons a r => simp [HT.lexLt] at h2
  | [], _, _ :: _, _, _ => rfl
  | x :: xs, [], z :: zs, h1, h2 => by simp [HT.lexLt] at h1
  | x :: xs, y :: ys, z :: zs, h1, h2 => by
    rw [HT.lexLt_cons] at h1 h2 ⊢
    by_cases e1 : y = x
    · by_cases e2 : z = y
      · rw [if_pos e1] at h1
        rw [if_pos e2] at h2
        rw [if_pos (e2.trans e1)]
        exact lex_tr xs ys zs h1 h2
      · rw [if_neg e2, decide_eq_false_iff_not] at h2
        rw [if_neg (by omega)]
        exact decide_eq_false (by omega)
    · rw [if_neg e1, decide_eq_false_iff_not] at h1
      by_cases e2 : z = y
      · rw [if_neg (by omega)]
        exact decide_eq_false (by omega)
      · rw [if_neg e2, decide_eq_false_iff_not] at h2
        rw [if_neg (by omega)]
        exact decide_eq_false (by omega)
theorem lex_tot : ∀ (a b : List Int), HT.lexLt a b = false → HT.lexLt b a = false → a = b
  | [], [], _, _ => rfl
  | [], _ :: _, h, _ => by simp [HT.lexLt] at h
  | _ :: _, [], _, h => by simp [HT.lexLt] at h
  | x :: xs, y :: ys, h1, h2 => by
    rw [HT.lexLt_cons] at h1 h2
    by_cases e : x = y
    · rw [if_pos e] at h1
      rw [if_pos e.symm] at h2
      rw [e, lex_tot xs ys h1 h2]
    · rw [if_neg e, decide_eq_false_iff_not] at h1
      rw [if_neg (fun z => e z.symm), decide_eq_false_iff_not] at h2
      omega
theorem swo_lexL (k : Value → List Int) : Swo fun v u => HT.lexLt (k v) (k u) :=
  ⟨fun x y => lex_asym _ _, fun x y z => lex_tr _ _ _⟩
/-- two sorted lists of the same multiset are one list -/
theorem lex_uniq : ∀ {l m : List (List Int)}, l.Perm m → l.Pairwise (fun a b => HT.lexLt b a = false) → m.Pairwise (fun a b => HT.lexLt b a = false) → l = m
  | [], m, p, _, _ => (List.nil_perm.mp p).symm
  | a :: l, [], p, _, _ => (nomatch (List.perm_nil.mp p))
  | a :: l, b :: m, p, h1, h2 => by
    have e : a = b := by
      have h3 := List.pairwise_cons.mp h1
      have h4 := List.pairwise_cons.mp h2
      have ha : a ∈ b :: m := p.mem_iff.mp List.mem_cons_self
      have hb : b ∈ a :: l := p.mem_iff.mpr List.mem_cons_self
      rcases List.mem_cons.mp ha with e | ha
      · exact e
      · rcases List.mem_cons.mp hb with e | hb
        · exact e.symm
        · exact lex_tot _ _ (h4.1 _ ha) (h3.1 _ hb)
    subst e
    rw [lex_uniq (List.Perm.cons_inv p) (List.pairwise_cons.mp h1).2 (List.pairwise_cons.mp h2).2]

def IsIT (h : Heap) (v : Value) (ns : List Int) : Prop := ∃ a o xs n, v = .ref a ∧ h.get? a = some o ∧ o.cls = .type "tuple" ∧ o.data = .seq xs n ∧ IntsAre xs.toList ns
theorem IsIT.keeps {h h' : Heap} {v : Value} {ns : List Int} (p : IsIT h v ns) (k : ∀ b o, h.get? b = some o → o.cls = .type "tuple" → h'.get? b = some o) : IsIT h' v ns :=
  let ⟨a, o, xs, n, e, ho, hc, hd, hi⟩ := p
  ⟨a, o, xs, n, e, k a o ho hc, hc, hd, hi⟩
section
variable {prog : Program} {w : World} {A : Around} {E : Value → Shared → Prop} {s : Shared}
theorem katlex_ints {fin : Bool} : ∀ {xs ys : List Value} {ns ms : List Int} {i : Nat}, IntsAre xs ns → IntsAre ys ms → fin = decide (ns.length < ms.length) →
    PySem.W.KatLex prog w A true fin (fun r s' => s' = s ∧ r = HT.lexLt ns ms) (xs.zip ys) i s
  | [], [], _, _, i, .nil, .nil, hf => PySem.W.kat_nil ⟨rfl, by rw [hf]; rfl⟩
  | [], _ :: _, _, _, i, .nil, .cons c u h2, hf => by
    rw [List.zip_nil_left]
    exact PySem.W.kat_nil ⟨rfl, by rw [hf]; simp [HT.lexLt]⟩
  | _ :: _, [], _, _, i, .cons a t h1, .nil, hf => by
    rw [List.zip_nil_right]
    exact PySem.W.kat_nil ⟨rfl, by rw [hf]; simp [HT.lexLt]⟩
  | _ :: xs, _ :: ys, _, _, i, .cons (ns := ns) a t h1, .cons (ns := ms) c u h2, hf => by
    rw [List.zip_cons_cons]
    refine PySem.W.kat_cons (SeqAt.EqAt.int_int a t c u prog w _ _ ?_)
    refine PySem.W.kat_go (fun e => ?_) (fun e => ?_)
    · have ex : a = c := by simpa using e
      rw [HT.lexLt_cons, if_pos ex]
      exact PySem.W.kat_yes (katlex_ints h1 h2 (by rw [hf]; simp))
    · have ex : ¬ a = c := by simpa using e
      rw [HT.lexLt_cons, if_neg ex]
      refine PySem.W.kat_no ?_
      by_cases hb : (true && i == 0) = true
      · rw [hb]; exact oneLt_int ⟨rfl, rfl⟩
      · rw [Bool.eq_false_iff.mpr hb]
        exact PySem.W.kat_one _ _ (PyProof.Rows.lt_int (show s = s ∧ decide (a < c) = decide (a < c) from ⟨rfl, rfl⟩))
theorem IntsAre.length' {xs : List Value} {ns : List Int} (h : IntsAre xs ns) : xs.length = ns.length := h.length
theorem lt_kinds {κ : SortKind} (hκ : κ = tuples' true ∨ κ = oneType' ∨ κ = general') (hu : A.units < cLine) {v u : Value} {ns ms : List Int} (p : IsIT s.heap v ns) (q : IsIT s.heap u ms) :
    wpAny (model prog w) A (keyLt' κ v u) (fun r s' => s' = s ∧ r = HT.lexLt ns ms) (fun _ _ => False) s := by
  obtain ⟨a, o, xs, n, rfl, ho, hc, hd, hi⟩ := p
  obtain ⟨a', o', xs', n', rfl, ho', hc', hd', hi'⟩ := q
  have l1 := hi.length
  have l2 := hi'.length
  rw [Array.length_toList] at l1 l2
  have t1 : IsTup s.heap a xs := ⟨o, ho, hc, n, hd⟩
  have t2 : IsTup s.heap a' xs' := ⟨o', ho', hc', n', hd'⟩
  rcases hκ with rfl | rfl | rfl
  · exact PySem.W.kat_lt ho hd ho' hd' (katlex_ints hi hi' (by rw [l1, l2]))
  · rw [keyLt'_oneType, oneLt'_eq]
    simp only [if_true]
    refine wpAny_bind (wpAny_cRoomFor hu ?_)
    refine wpAny_bind (wpAny_callSpecialIfBound?_slot (T := "tuple") ⟨_, ho, hc⟩ F.slot_tuple_lt ?_)
    obtain ⟨cls, dd, data, sl⟩ := o
    obtain ⟨cls2, dd2, data2, sl2⟩ := o'
    simp only at hc hd hc' hd'
    subst hc hd hc' hd'
    refine call_meets F.slot_tuple_lt ⟨_, ho, rfl⟩ F.entry_tuple_lt (F.args_tuple_lt_2 _ _) (HT.tuple_lt_ints a a' xs xs' n n' dd dd2 sl sl2 ns ms hi hi') ⟨ho, ho', ?_⟩
    exact wpAny_truthy_bool ⟨rfl, rfl⟩
  · show wpAny (model prog w) A (oneLt' false (.ref a) (.ref a')) _ _ s
    exact PySem.W.kat_one _ _ (HT.lt_tupInts t1 t2 hi hi' hu (show s = s ∧ HT.lexLt ns ms = HT.lexLt ns ms from ⟨rfl, rfl⟩))

def fstO (s : Shared) (v : Value) (f : Option Value) : Prop := ∀ {M : Model} {A : Around} {E : Value → Shared → Prop} {Q : Option Value → Shared → Prop}, Q f s → wpAny M A (firstOfTuple' v) Q E s
theorem fst_of {v : Value} {ns : List Int} (p : IsIT s.heap v ns) : ∃ f, fstO s v f ∧ (f.isSome = true ↔ ns ≠ []) := by
  obtain ⟨a, o, xs, n, rfl, ho, hc, hd, hi⟩ := p
  refine ⟨xs[0]?, fun {M A E Q} h => ?_, ?_⟩
  · rw [PySem.W.kas_first_eq]
    refine wpAny_bind (PySem.W.Looks.here (show PySem.W.Looks M s.heap (typeOf (.ref a)) o.cls from (PySem.W.Looks.ld ho).andThen .now) ?_)
    rw [hc, if_neg (by first | decide | simp)]
    exact wpAny_bind (listItems_at ho hd (wpAny_pure h))
  · have l1 := hi.length
    rw [Array.length_toList] at l1
    cases ns with
    | nil =>
      have : xs.size = 0 := l1
      simp [this]
    | cons x r =>
      have : 0 < xs.size := by rw [l1]; simp
      simp [this]
theorem firsts_all : ∀ {vs : List Value} {k : Value → List Int}, (∀ v ∈ vs, IsIT s.heap v (k v)) → ∃ fs : List (Option Value), (∀ (M : Model) (A : Around) (E : Value → Shared → Prop) (Q : List (Option Value) → Shared → Prop), Q fs s → wpAny M A (vs.mapM firstOfTuple') Q E s) ∧ (fs.all (·.isSome) = true ↔ ∀ v ∈ vs, k v ≠ [])
  | [], k, _ => ⟨[], fun M A E Q h => by rw [List.mapM_nil]; exact wpAny_pure h, by simp⟩
  | v :: vs, k, h => by
    obtain ⟨f, h1, h2⟩ := fst_of (h v List.mem_cons_self)
    obtain ⟨fs, h3, h4⟩ := firsts_all fun v' m => h v' (List.mem_cons_of_mem _ m)
    refine ⟨f :: fs, fun M A E Q q => ?_, ?_⟩
    · rw [List.mapM_cons]
      exact wpAny_bind (h1 (wpAny_bind (h3 _ _ _ _ (wpAny_pure q))))
    · rw [List.all_cons, Bool.and_eq_true, h2, h4, List.forall_mem_cons]
theorem katTups_of : ∀ {vs : List Value} {k : Value → List Int}, (∀ v ∈ vs, IsIT s.heap v (k v)) → (∀ v ∈ vs, k v ≠ []) → ∃ fs, PySem.W.KatTups s.heap vs fs ∧ fs.length = vs.length ∧ ∀ f ∈ fs, ∃ (x : Int) (t : Tok), f = Value.int x t
  | [], k, _, _ => ⟨[], PySem.W.KatTups.nil, rfl, fun f m => nomatch m⟩
  | v :: vs, k, h, hn => by
    obtain ⟨fs, h1, h2, h3⟩ := katTups_of (fun v' m => h v' (List.mem_cons_of_mem _ m)) fun v' m => hn v' (List.mem_cons_of_mem _ m)
    obtain ⟨a, o, xs, n, rfl, ho, hc, hd, hi⟩ := h v List.mem_cons_self
    have hv := hn _ List.mem_cons_self
    generalize k (Value.ref a) = ns at hi hv
    cases e : xs.toList with
    | nil =>
      rw [e] at hi
      cases hi
      exact absurd rfl hv
    | cons f r =>
      rw [e] at hi
      cases hi with
      | cons x t hi =>
        refine ⟨_ :: fs, PySem.W.KatTups.cons ho hc hd (by rw [← Array.getElem?_toList, e]; rfl) h1, by simp [h2], fun g m => ?_⟩
        rcases List.mem_cons.mp m with rfl | m
        · exact ⟨x, t, rfl⟩
        · exact h3 g m
theorem kind_of {vs : List Value} {k : Value → List Int} (h0 : 0 < vs.length) (h : ∀ v ∈ vs, IsIT s.heap v (k v)) :
    ∃ κ : SortKind, (κ = tuples' true ∨ κ = oneType' ∨ κ = general') ∧ ∀ (Q : SortKind → Shared → Prop) (E : Value → Shared → Prop), Q κ s → wpAny (model prog w) A (keyKind' vs.toArray) Q E s := by
  by_cases hn : ∀ v ∈ vs, k v ≠ []
  · obtain ⟨fs, h1, h2, h3⟩ := katTups_of h hn
    refine ⟨tuples' true, .inl rfl, fun Q E hq => ?_⟩
    refine PySem.W.kat_kind (T := .type "int") h1 (by omega) (fun f hm => ?_) (by rfl) ?_
    · obtain ⟨x, t, rfl⟩ := h3 f hm
      exact PySem.W.Looks.now
    · have e : (Value.type "int" != Value.type "tuple") = true := by first | decide +kernel | rfl | decide
      rw [e]
      exact hq
  · obtain ⟨fs, h1, h2⟩ := firsts_all h
    have hall : (fs.toArray.all fun x => x.isSome) = false := by
      rw [List.all_toArray, Bool.eq_false_iff]
      exact fun z => hn (h2.mp z)
    refine ⟨if ((fs.toArray)[0]?.bind id).isSome then general' else oneType', ?_, fun Q E hq => ?_⟩
    · split
      · exact .inr (.inr rfl)
      · exact .inr (.inl rfl)
    · rw [PyProof.Rows.kat_kind_eq, List.mapM_toArray, map_eq_pure_bind]
      refine wpAny_bind (wpAny_bind (h1 _ _ _ _ (wpAny_pure ?_)))
      rw [hall]
      simp only [Bool.false_eq_true, if_false]
      by_cases hb : ((fs.toArray)[0]?.bind id).isSome = true
      · rw [if_pos hb] at hq ⊢
        exact wpAny_pure hq
      · rw [if_neg hb] at hq ⊢
        rw [oneTypeOnly'_eq, List.mapM_toArray, map_eq_pure_bind]
        refine wpAny_bind (wpAny_bind (wpAny_bind (PySem.W.kas_mapM (r := .type "tuple") _ (fun v hv Q' hq => ?_) (wpAny_pure ?_))))
        · obtain ⟨a, o, xs, n, rfl, ho, hc, hd, hi⟩ := h v hv
          exact (show PySem.W.Looks _ s.heap (typeOf (.ref a)) (.type "tuple") from hc ▸ (PySem.W.Looks.ld ho).andThen .now).here hq
        · obtain ⟨v0, r, rfl⟩ : ∃ v0 r, vs = v0 :: r := by
            match vs, h0 with
            | v0 :: r, _ => exact ⟨v0, r, rfl⟩
          have hall2 : ((List.map (fun _ => Value.type "tuple") (v0 :: r)).toArray.all fun x => x == Value.type "tuple") = true := by
            simp only [List.all_toArray, List.all_map, List.all_eq_true]
            intro _ _
            rfl
          have h00 : (List.map (fun _ => Value.type "tuple") (v0 :: r)).toArray[0]? = some (Value.type "tuple") := by simp
          rw [h00]
          simp only [hall2, if_true]
          exact wpAny_pure (wpAny_pure hq)
theorem sortableL {a : Addr} {vs : List Value} {k : Value → List Int} (h0 : 0 < vs.length) (hu : A.units < cLine) (hp : ∀ v ∈ vs, IsIT s.heap v (k v)) (ha : ∀ o, s.heap.get? a = some o → o.cls ≠ .type "tuple") : SortableO prog w A s a vs fun v u => HT.lexLt (k v) (k u) := by
  intro h' keep
  have hp' : ∀ v ∈ vs, IsIT h' v (k v) := fun v hm => (hp v hm).keeps fun b o e c => keep b o (fun z => by subst z; exact ha o e c) e
  obtain ⟨κ, h1, h2⟩ := kind_of (prog := prog) (w := w) (A := A) (s := { s with heap := h' }) h0 hp'
  exact ⟨κ, fun Q E hq => h2 Q E hq, fun p q hm hm' => lt_kinds h1 hu (hp' _ hm) (hp' _ hm')⟩
end

/-- sorted(xs) of int tuples -/
def rSortL (K : PySem.W.Frag) : List V → Hp → VK → Prop := fun vs H Q => ∃ (a : Addr) (ys : List V) (k : V → List Int), vs = [V.ref a] ∧ SqL K H a ys ∧ (∀ y ∈ ys, ∃ t, y = V.ref t ∧ SqT K H t ((k y).map V.int)) ∧
  ∀ (zs : List V) (p : Addr), zs.Perm ys → zs.Pairwise (fun x y => HT.lexLt (k y) (k x) = false) → H p = none → Q (.ref p) (upd H p (.lst zs))
theorem perm_back {out its : List Value} {ys : List V} (e1 : ys = its.map backV) (p : out.Perm its) : (out.map backV).Perm ys := by rw [e1]; exact p.map _
section
variable {X : Cx}
theorem units_in {A : Around} (hu : A.units + 64 < cLine) : A.in1.in1.units < cLine := by
  show A.units + 1 + 1 < cLine
  omega
theorem cr_sortedL (hu : X.A.units + 64 < cLine) : CallR X (.builtin "sorted") (rSortL X.K) := by
  intro pins s σ H vs us Q I r h
  obtain ⟨a, ys, k, rfl, hs, hx, q⟩ := h
  obtain ⟨its, rv, hl, hz⟩ := I.list hs
  rw [Vals.ref1 r]
  obtain ⟨e1, e2⟩ := refs_back rv fun x m => by
    obtain ⟨t, e, _⟩ := hx x m
    exact ⟨t, e⟩
  have hp : ∀ v ∈ its, IsIT s.heap v (k (backV v)) := fun v hv => by
    obtain ⟨t, rfl⟩ := e2 v hv
    have hm : V.ref t ∈ ys := by rw [e1]; exact List.mem_map.mpr ⟨_, hv, rfl⟩
    obtain ⟨t', e, ht⟩ := hx _ hm
    cases e
    obtain ⟨its2, r2, ⟨o, ho, hc, n, hd⟩, _⟩ := I.tuple ht
    exact ⟨t, o, _, n, rfl, ho, hc, hd, show IntsAre its2.toArray.toList (k (V.ref t)) from intsAre_of r2⟩
  refine SrtO.sorted_ord (swo_lexL fun u => k (backV u)) hl.isList (by rw [← rv.length]; exact hz) (fun h2 h₁ a' ha' kk => ?_) fun out h1 h2 => ?_
  · refine sortableL (s := { s with heap := h₁ }) (by omega) (units_in hu) (fun v hm => (hp v hm).keeps fun b o e _ => (kk b o e).2) fun o e => ?_
    have e' : some o = some (seqObj "list" its.toArray 0) := e.symm.trans ha'
    cases e'
    intro c
    exact absurd (Value.type.inj c) (by decide)
  · obtain ⟨ep, he'⟩ := PyProof.Rows.sortedAll_at s.heap its out.toArray
    have h3 : ∀ u ∈ out, ∃ a, u = Value.ref a := fun u hu => e2 u (h2.perm.mem_iff.mp hu)
    have hb := perm_back e1 h2.perm
    have hlen : (out.map backV).length ≤ sizeLine := by rw [hb.length_eq]; exact hz
    exact ⟨.ref _, upd H (s.heap.objs.size + 1) (.lst (out.map backV)), I.laid (t' := s.toks) (fun _ _ => PyProof.Rows.sortedAll_old) (Nat.le_succ _) ⟨hlen, out, ep, vals_back h3, he'⟩, rfl,
      q _ _ hb (List.pairwise_map.mpr h1) (I.hok.fresh (Nat.le_succ _))⟩
end

def intsOf (xs : List V) : List Int := xs.filterMap fun | .int i => some i | _ => none
theorem intsOf_map : ∀ ns : List Int, intsOf (ns.map V.int) = ns
  | [] => rfl
  | n :: r => by
    show n :: intsOf (r.map V.int) = n :: r
    rw [intsOf_map r]
def kH (H : Hp) : V → List Int
  | .ref b => match H b with
    | some (.tup xs) => intsOf xs
    | _ => []
  | _ => []
theorem kH_of {H : Hp} {b : Addr} {ns : List Int} (h : H b = some (.tup (ns.map V.int))) : kH H (.ref b) = ns := by
  show (match H b with | some (.tup xs) => intsOf xs | _ => []) = ns
  rw [h]
  exact intsOf_map ns
theorem kV_ints : ∀ ns : List Int, (ns.map Sum.inl).map kV = ns.map V.int
  | [] => rfl
  | n :: r => by
    show V.int n :: ((r.map Sum.inl).map kV) = _
    rw [kV_ints r] <;> rfl
/-- sorted(d) of a dict with int tuple keys -/
def rSortD : List V → Hp → VK → Prop := fun vs H Q => ∃ (d : Addr) (kvs : List (List Key × V)), vs = [V.ref d] ∧ Rd H d (.dT kvs) ∧ (∀ p ∈ kvs, ∃ ns : List Int, p.1 = ns.map Sum.inl) ∧
  ∀ (bs cs : List Addr) (p : Addr), IsKeys H kvs bs → cs.Perm bs → H p = none → Q (.ref p) (upd H p (.lst (cs.map V.ref)))
theorem isKeys_ints {H : Hp} : ∀ {kvs : List (List Key × V)} {bs : List Addr}, IsKeys H kvs bs → (∀ p ∈ kvs, ∃ ns : List Int, p.1 = ns.map Sum.inl) → ∀ b ∈ bs, ∃ ns : List Int, H b = some (.tup (ns.map V.int))
  | [], _, h, _, b, m => by cases h; cases m
  | p :: kvs, _, h, hi, b, m => by
    cases h with
    | cons h t =>
      rcases List.mem_cons.mp m with rfl | m
      · obtain ⟨ns, e⟩ := hi _ List.mem_cons_self
        exact ⟨ns, by rw [h, e, kV_ints]⟩
      · exact isKeys_ints t (fun p m => hi p (List.mem_cons_of_mem _ m)) b m
theorem backs : ∀ {out : List Value}, (∀ u ∈ out, ∃ a, u = Value.ref a) → ∃ cs : List Addr, out = cs.map Value.ref
  | [], _ => ⟨[], rfl⟩
  | u :: r, h => by
    obtain ⟨a, rfl⟩ := h u List.mem_cons_self
    obtain ⟨cs, rfl⟩ := backs fun v m => h v (List.mem_cons_of_mem _ m)
    exact ⟨a :: cs, rfl⟩
theorem ref_inj_perm {cs bs : List Addr} (p : (cs.map Value.ref).Perm (bs.map Value.ref)) : cs.Perm bs := by
  have e : ∀ l : List Addr, (l.map Value.ref).map (fun v => match v with | .ref a => a | _ => 0) = l := fun l => by
    rw [List.map_map]
    exact List.map_id _
  have q := p.map (fun v => match v with | Value.ref a => a | _ => 0)
  rwa [e, e] at q
section
variable {X : Cx}
theorem cr_sortedD (hcalm : X.calm = true) (hu : X.A.units + 64 < cLine) : CallR X (.builtin "sorted") (rSortD) := by
  intro pins s σ H xs us Q I r q
  obtain ⟨d, kvs, rfl, hd, hin, q⟩ := q
  obtain ⟨u, rfl, rx⟩ := r.one
  cases rx
  obtain ⟨z, hs, ks, pr, o, es, ep, ho, hx, hdt, he, hn⟩ := (show ObjOk X.prog X.w H s.heap d (.dT kvs) from hd.ok I.hok)
  have l1 : es.size = ks.length := size_of_entries he
  have l2 : kvs.length = ks.length := Paired.length pr
  have hik := isKeys_of pr
  refine Calls.call_function_entry PyProof.Rows.kind_sorted PyProof.Rows.plain_sorted PyProof.Rows.entry_sorted (PyProof.Rows.args_sorted1 _) ?_
  unfold Builtin.«sorted»
  refine wpAny_bind (m := checkCount "sorted" 1 1 _) (wpAny_pure ?_)
  refine wpAny_bind (PySem.W.kdu_collect (A := X.A.in1) (kdl_raw hs hx hdt) (I.ok.hd hcalm) ho (by omega) fun h' tk acc' hk it => ?_)
  have ea : acc'.toList = ks.map fun x => Value.ref x.2.1 := by
    have hl : acc'.toList.length = ks.length := by rw [Array.length_toList, it.1]; exact l1
    apply List.ext_getElem?
    intro j
    rw [List.getElem?_map]
    cases hj : acc'.toList[j]? with
    | none =>
      have h1 := List.getElem?_eq_none_iff.mp hj
      rw [List.getElem?_eq_none (by omega)]
      all_goals rfl
    | some v =>
      obtain ⟨en, hen, hv⟩ := it.2 j v (by rw [← Array.getElem?_toList]; exact hj)
      have qe := entry_at he j
      rw [hen] at qe
      cases hb : ks[j]? with
      | none =>
        rw [hb] at qe
        exact nomatch (show some en = none from qe)
      | some b =>
        rw [hb] at qe
        have e2 : en = entryOfKey (tupleKind (mixKind X.prog X.w)) b := Option.some.inj qe
        rw [hv, e2]
        all_goals rfl
  have eb : acc'.toList = (ks.map fun x => x.2.1).map Value.ref := by rw [ea, List.map_map]; all_goals rfl
  generalize ks.map (fun x => x.2.1) = bs at eb hik
  have lb : bs.length = kvs.length := (Paired.length hik).symm
  generalize acc'.toList = its at eb
  subst eb
  have I1 : Inv X pins σ H { s with heap := h', toks := tk } := I.kept hk
  have hal : (bs.map Value.ref).length ≤ sizeLine := by rw [List.length_map]; omega
  refine wpAny_bind (wpAny_newList ?_ hal)
  have hoL : (h'.push (seqObj "list" (bs.map Value.ref).toArray 0)).get? h'.objs.size = some (seqObj "list" (bs.map Value.ref).toArray 0) := Heap.get?_push_size _ rfl
  show wpAny _ _ _ _ _ { s with heap := h'.push (seqObj "list" (bs.map Value.ref).toArray 0), toks := tk }
  have hp : ∀ v ∈ bs.map Value.ref, IsIT (h'.push (seqObj "list" (bs.map Value.ref).toArray 0)) v (kH H (backV v)) := fun v hv => by
    obtain ⟨b, hb, rfl⟩ := List.mem_map.mp hv
    obtain ⟨ns, e⟩ := isKeys_ints hik hin b hb
    obtain ⟨its2, r2, ⟨o, ho, hc, n, hd⟩, _⟩ := I.tuple (SqT.of e)
    refine ⟨b, o, _, n, rfl, Heap.get?_push_of_some _ (hk _ _ ho), hc, hd, ?_⟩
    rw [show backV (Value.ref b) = V.ref b from rfl, kH_of e]
    exact intsAre_of r2
  refine wpAny_bind (wpAny_holding (wpAny_call_entry PyProof.Rows.slot_list_sort ⟨_, hoL, rfl⟩ PyProof.Rows.entry_list_sort
    (SrtO.list_sort_ord (s := { s with heap := h'.push (seqObj "list" (bs.map Value.ref).toArray 0), toks := tk }) (swo_lexL fun u => kH H (backV u)) hoL hal (fun h2 => sortableL (by omega) (units_in hu) hp fun o e => ?_) fun out g1 g2 => ⟨_, rfl, ?_⟩) (PyProof.Rows.args_list_sort _)))
  · have e' : some o = some (seqObj "list" (bs.map Value.ref).toArray 0) := e.symm.trans hoL
    cases e'
    intro c
    exact absurd (Value.type.inj c) (by decide)
  · obtain ⟨cs, rfl⟩ := backs fun u hu => by
      obtain ⟨b, _, e⟩ := List.mem_map.mp (g2.perm.mem_iff.mp hu)
      exact ⟨b, e.symm⟩
    have hpm := ref_inj_perm g2.perm
    obtain ⟨e', he'⟩ := PyProof.Rows.sortedHeap_at (vs := bs.map Value.ref) (out := (cs.map Value.ref).toArray) hoL
    have hlen : (cs.map V.ref).length ≤ sizeLine := by
      rw [List.length_map, hpm.length_eq]; omega
    refine wpAny_pure ⟨_, rfl, .ref h'.objs.size, upd H h'.objs.size (.lst (cs.map V.ref)), I1.laid (t' := tk) (fun b u e => ?_) (Nat.le_refl _)
      (show ObjOk X.prog X.w _ _ _ (.lst (cs.map V.ref)) from ⟨hlen, cs.map Value.ref, e', vals_refs _, he'⟩), rfl, q _ _ _ hik hpm (I1.hok.fresh (Nat.le_refl _))⟩
    have hb : b < h'.objs.size := Heap.lt_size e
    rw [PyProof.Rows.sortedHeap_old (Nat.ne_of_lt hb) (by rw [size_push']; exact Nat.lt_succ_of_lt hb)]
    exact Heap.get?_push_of_some _ e
end
end KSr

namespace KSr
open PySem PySem.Spec PyProof.Rows L2 SrtO Srt
def rSortTI (K : PySem.W.Frag) : List V → Hp → VK → Prop := fun vs H Q => ∃ (a : Addr) (ns : List Int), vs = [V.ref a] ∧ SqT K H a (ns.map V.int) ∧
  ∀ (ns' : List Int) (p : Addr), ns'.Perm ns → ns'.Pairwise (· ≤ ·) → H p = none → Q (.ref p) (upd H p (.lst (ns'.map V.int)))
section
variable {X : Cx}
theorem cr_sortedTI : CallR X (.builtin "sorted") (rSortTI X.K) := by
  intro pins s σ H xs us Q I r q
  obtain ⟨a, ns, rfl, hs, q⟩ := q
  obtain ⟨u, rfl, rx⟩ := r.one
  cases rx
  obtain ⟨its, rv, ⟨o, ho, hc, n, hd⟩, hz⟩ := I.tuple hs
  have hi := rv.ints
  have hl := rv.length
  refine Calls.call_function_entry PyProof.Rows.kind_sorted PyProof.Rows.plain_sorted PyProof.Rows.entry_sorted (PyProof.Rows.args_sorted1 _) ?_
  unfold Builtin.«sorted»
  refine wpAny_bind (m := checkCount "sorted" 1 1 _) (wpAny_pure ?_)
  refine wpAny_bind (wpAny_collect_seq a (.inr rfl) ho hc hd (fun h' hk => ?_) (by rw [List.size_toArray]; omega))
  have e : its.toArray.toList = its := by simp
  rw [e]
  have I1 : Inv X pins σ H { s with heap := h' } := I.kept (t' := s.toks) hk
  have hal : its.length ≤ sizeLine := by rw [← hl]; exact hz
  refine wpAny_bind (wpAny_newList ?_ hal)
  have hoL : (h'.push (seqObj "list" its.toArray 0)).get? h'.objs.size = some (seqObj "list" its.toArray 0) := Heap.get?_push_size _ rfl
  show wpAny _ _ _ _ _ { s with heap := h'.push (seqObj "list" its.toArray 0) }
  refine wpAny_bind (wpAny_holding (wpAny_call_entry PyProof.Rows.slot_list_sort ⟨_, hoL, rfl⟩ PyProof.Rows.entry_list_sort
    (SrtO.list_sort_ord (s := { s with heap := h'.push (seqObj "list" its.toArray 0) }) SrtO.swo_int hoL hal (fun h2 => SrtO.ints_sortable hi h2) fun out g1 g2 => ⟨_, rfl, ?_⟩) (PyProof.Rows.args_list_sort _)))
  obtain ⟨k1, k2, k3⟩ := SrtO.ints_out hi g1 g2
  obtain ⟨ep, he'⟩ := PyProof.Rows.sortedHeap_at (vs := its) (out := out.toArray) hoL
  have hlen : ((out.map SrtO.iv).map V.int).length ≤ sizeLine := by
    rw [List.length_map, k2.length_eq]
    rw [List.length_map] at hz
    exact hz
  refine wpAny_pure ⟨_, rfl, .ref h'.objs.size, upd H h'.objs.size (.lst ((out.map SrtO.iv).map V.int)), I1.laid (t' := s.toks) (fun b u e => ?_) (Nat.le_refl _)
    (show ObjOk X.prog X.w _ _ _ (.lst ((out.map SrtO.iv).map V.int)) from ⟨hlen, out, ep, vals_of_ints k1, he'⟩), rfl, q _ _ k2 k3 (I1.hok.fresh (Nat.le_refl _))⟩
  have hb : b < h'.objs.size := Heap.lt_size e
  rw [PyProof.Rows.sortedHeap_old (Nat.ne_of_lt hb) (by rw [size_push']; exact Nat.lt_succ_of_lt hb)]
  exact Heap.get?_push_of_some _ e
end
end KSr

namespace KDt
open PySem PySem.Spec PyProof.Rows L2
section
variable {X : Cx} {pins : List (Addr × Obj)} {σ : L2.St} {H : Hp} {s : Shared} {d : Addr} {o : Obj}
theorem frzT2 {kvs : List (List Key × V)} (I : Inv X pins σ H s) (h : H d = some (.frz o (.dT kvs))) :
    (d == sysModules) = false ∧ s.heap.get? d = some o ∧ o.ExactDict ∧ ∃ (es : Array DictEntry) (ep : Nat), o.data = .dict es ep ∧ es.size = kvs.length ∧
      ∀ (i : Nat) (k : List Key) (v : V), kvs[i]? = some (k, v) → ∃ (en : DictEntry) (q : Addr), es[i]? = some en ∧ en.key = .ref q ∧ H q = some (.tup (k.map kV)) ∧ RelV v en.val := by
  obtain ⟨hd, z, hs, xs, pr, o', es, ep, ho, hx, hdt, he, _⟩ := I.hok d _ h
  rw [hd] at ho
  cases ho
  refine ⟨hs, hd, hx, es, ep, hdt, ?_, fun i k v e => ?_⟩
  · have l1 : es.size = xs.length := size_of_entries he
    have l2 : kvs.length = xs.length := Paired.length pr
    omega
  · obtain ⟨b, hb, e1, e2, e3⟩ := paired_get pr e
    have q := entry_at he i
    rw [hb] at q
    exact ⟨_, b.2.1, q, rfl, e2, e3⟩
end
/-- the items of the locked dict at d, each in a new pair -/
def ItiT (d : Addr) (o : Obj) (kvs : List (List Key × V)) : It :=
  ⟨fun i H => H d = some (.frz o (.dT kvs)) ∧ i < kvs.length, fun i H x H' => ∃ (T : Addr) (k : List Key) (v : V) (q : Addr), kvs[i]? = some (k, v) ∧ x = .ref T ∧ H q = some (.tup (k.map kV)) ∧ H T = none ∧ H' = upd H T (.tup [.ref q, v]), fun i H => H d = some (.frz o (.dT kvs)) ∧ kvs.length ≤ i⟩
section
variable {P : Program} {w : World} {K : PySem.W.Frag} {d : Addr} {o : Obj} {es : Array DictEntry} {ep : Nat}
theorem turn_itemsT {kvs : List (List Key × V)} {elts : List Expr} {kk : Nat} {tpos : Pos} (it : Addr) (hod : o.data = .dict es ep) :
    Turn P w K (.Tuple elts kk tpos) (ItiT d o kvs) [it] it (fun i h => ∃ ok ov, IsItemIter h it d i kvs.length ep ok ov) where
  mem := by simp
  obj := fun i h st b hb => by
    have e : b = it := by simpa using hb
    subst e
    obtain ⟨ok, ov, e⟩ := st
    exact ⟨_, e, fun v z => nomatch z⟩
  keep := fun i h h' st k => let ⟨ok, ov, e⟩ := st; ⟨ok, ov, k it (by simp) _ e⟩
  item := by
    intro X hP hw hK hc i pins s σ H E I hf st hg
    subst hP hw hK
    obtain ⟨hd, hi⟩ := hg
    obtain ⟨hs, hgd, hx, es', ep', hdt, hsz, ent⟩ := frzT2 I hd
    obtain ⟨rfl, rfl⟩ := dict_ep hod hdt
    obtain ⟨⟨k, v⟩, hkv⟩ : ∃ p, kvs[i]? = some p := ⟨kvs[i], List.getElem?_eq_getElem hi⟩
    obtain ⟨en, q, hen, hkey, hq, ru⟩ := ent i k v hkv
    obtain ⟨ok, ov, he⟩ := st
    rw [← hsz] at he
    have hi' : i < es'.size := by omega
    have een : es'[i] = en := by
      rw [Array.getElem?_eq_getElem hi'] at hen
      exact Option.some.inj hen
    have hlt : it < s.heap.objs.size := Heap.lt_size he
    refine wpAny_pyNext_items_item_raw he ⟨o, hgd, hx, hdt⟩ hi' fun h' ho hT hz hk => ?_
    refine ⟨_, rfl, wpAny_letOwnedTupleGo_items (s := { s with heap := h' }) ho fun h'' he' sb => ?_⟩
    have hT2 : h''.get? s.heap.objs.size = some { cls := .type "tuple", data := .seq #[es'[i].key, es'[i].val] } := (sb.2 _ (Nat.ne_of_gt hlt)).trans hT
    have new : ObjOk X.prog X.w (upd H s.heap.objs.size (.tup [.ref q, v])) h'' s.heap.objs.size (.tup [.ref q, v]) :=
      ⟨by show 2 ≤ sizeLine; decide, [es'[i].key, es'[i].val], .cons (by rw [een, hkey]; rfl) (.cons (by rw [een]; exact ru) .nil), ⟨_, hT2, rfl, _, rfl⟩⟩
    have I1 : Inv X pins σ (upd H s.heap.objs.size (.tup [.ref q, v])) { s with heap := h'' } :=
      I.turnedNew (t' := s.toks) (ch := [it]) (fun b ob hb e => (sb.2 b (by simpa using hb)).trans (hk b ob (by simpa using hb) e)) hf (Nat.le_refl _) new
    refine ⟨.ref s.heap.objs.size, _, I1, rfl, ⟨_, k, v, q, hkv, rfl, hq, I.hok.fresh (Nat.le_refl _), rfl⟩, ⟨es'[i].key, es'[i].val, ?_⟩, fun b hb => ?_⟩
    · rw [← hsz]; exact he'
    · have e : b = it := by simpa using hb
      rw [e, upd_ne (Nat.ne_of_lt hlt)]
      exact (hf it (by simp)).1
  done := by
    intro X hP hw hK hc i pins s σ H E I hf st hg
    subst hP hw hK
    obtain ⟨hd, hi⟩ := hg
    obtain ⟨f0, f1, f2, f3, f4, f5⟩ := hf it (by simp)
    obtain ⟨hs, hgd, hx, es', ep', hdt, hsz, ent⟩ := frzT2 I hd
    obtain ⟨rfl, rfl⟩ := dict_ep hod hdt
    obtain ⟨ok, ov, he⟩ := st
    rw [← hsz] at he
    exact wpAny_pyNext_items_end_raw (I.ok.hd hc) he ⟨o, hgd, hx, hdt⟩ (by omega) fun h' eb => ⟨rfl, I.turned (t' := s.toks) (fun b ob hb e => eb b ob hb e) f0 f1 f3 f4 f5⟩
  self := fun A i s Q E st h => let ⟨_, _, e⟩ := st; PySem.W.kcp_self e h
end
/-- the dict is locked -/
def iItemsT (td : TE) : TI := fun σ H R => td σ H fun x H1 => ∃ d o kvs, x = .ref d ∧ H1 d = some (.frz o (.dT kvs)) ∧ R (ItiT d o kvs) H1
theorem pi_itemsT {X : Cx} {e : Expr} {td : TE} {apos cpos : Pos} {elts : List Expr} {kk : Nat} {tpos : Pos} (he : PE X e td) (hbase : attributeBase e "items" X.env (eval e X.env) = eval e X.env := by rfl) (hline : (apos.endLine == cpos.line) = true := by rfl) :
    PI X (.Tuple elts kk tpos) (.Call (.Attribute e "items" apos) [] [] cpos) (iItemsT td) := by
  refine ⟨fun pins s σ H R I h => ?_⟩
  refine wpAny_Call_method (T := "dict") (id := "dict.items") hbase rfl hline F.plainAttrs_dict F.slot_dict_items F.type_dict_items (thn (he.run pins s σ H _ I h) fun u s1 ⟨x, H1, I1, rx, d, o, kvs, ex, hd, q⟩ => ?_)
  subst ex
  obtain rfl : u = Value.ref d := rx
  obtain ⟨hs, hgd, hx, es, ep, hdt, hsz, ent⟩ := frzT2 I1 hd
  have hm : s1.heap.DictRaw d es ep := ⟨o, hgd, hx, hdt⟩
  refine ⟨hm.typeIs, fun b z => ?_, ?_⟩
  · cases z
    exact ⟨o, hgd, hx.2.1⟩
  have I2 : Inv X pins σ H1 { s1 with heap := s1.heap.push { cls := .type "dict_items", data := .fields #[.ref d] } } := I1.kept (t' := s1.toks) fun b ob q => Heap.get?_push_of_some _ q
  have fin : wpAny (model X.prog X.w) X.A (pyIter (.ref s1.heap.objs.size)) (PIE X pins σ (.Tuple elts kk tpos) R) X.xe { s1 with heap := s1.heap.push { cls := .type "dict_items", data := .fields #[.ref d] } } := by
    refine wpAny_pyIter_items_raw (d := d) ⟨_, Heap.get?_push_size _ rfl, rfl, rfl⟩ (hm.at fun ob z => Heap.get?_push_of_some _ z) (pi_one (tk := s1.toks) I2 _ (turn_itemsT _ hdt) ⟨.none, .none, ?_⟩ q)
    rw [← hsz]
    exact Heap.get?_push_size _ rfl
  show wpAny _ _ (callWith cpos (.builtin "dict.items") [.ref d] [] []) _ X.xe s1
  exact method_meetsIn F.slot_dict_items F.entry_dict_items rfl (PySem.evalArgs_none ⟨rfl, hm.typeIs, F.args_dict_items_1 _, _, meets_dict_items_raw d hs, ⟨es, ep, hm⟩, fin⟩)

section
variable {prog : Program} {w : World} {A : Around} {E : Value → Shared → Prop} {s : Shared}
theorem samePairs_raw {nm : String} {a b : Addr} {es es' : Array DictEntry} {ep ep' : Nat} {Q : Bool → Shared → Prop} (ha : (a == sysModules) = false) (hb : (b == sysModules) = false)
    (da : s.heap.DictRaw a es ep) (db : s.heap.DictRaw b es' ep') (he : es'.size = 0) (h : Q (decide (es.size = 0)) s) : wpAny (model prog w) A (Builtin.Dict.samePairs nm a b) Q E s := by
  obtain ⟨oa, hoa, _, hda⟩ := da
  obtain ⟨ob, hob, _, hdb⟩ := db
  unfold Builtin.Dict.samePairs Builtin.Dict.showsAll
  rw [if_neg (show ¬ (a == sysModules) = true by rw [ha]; exact Bool.false_ne_true), if_neg (show ¬ (b == sysModules) = true by rw [hb]; exact Bool.false_ne_true)]
  refine wpAny_bind (wpAny_pure (wpAny_bind (wpAny_pure ?_)))
  refine wpAny_bind (wpAny_dictEntries hoa hda ?_)
  dsimp only
  refine wpAny_bind (wpAny_dictEntries hob hdb ?_)
  by_cases hsz : es.size = 0
  · rw [if_neg (by rw [hsz, he]; simp)]
    refine wpAny_bind (wpAny_dictEpoch hoa hda ?_)
    rw [decide_eq_true hsz] at h
    refine wpAny_bind ?_
    rw [Std.Legacy.Range.forIn_eq_forIn_range']
    simp only [Std.Legacy.Range.size, Nat.sub_zero, Nat.add_sub_cancel, Nat.div_one, hsz]
    exact wpAny_pure (wpAny_pure h)
  · rw [if_pos (by rw [he]; simpa using hsz)]
    rw [decide_eq_false hsz] at h
    exact wpAny_bind (wpAny_rule (wpAny_pure h))
theorem ne_raw {a b : Addr} {es es' : Array DictEntry} {ep ep' : Nat} {Q : Value → Shared → Prop} (ha : (a == sysModules) = false) (hb : (b == sysModules) = false)
    (da : s.heap.DictRaw a es ep) (db : s.heap.DictRaw b es' ep') (he : es'.size = 0) (hu : A.units < cLine) (h : Q (.bool (!decide (es.size = 0))) s) :
    wpAny (model prog w) A (compareOp .NotEq (.ref a) (.ref b)) Q E s := by
  refine wpAny_richCompare_same_room (op := .NotEq) da.typeIs db.typeIs PySem.F.slot_dict_ne (wpAny_call_entry PySem.F.slot_dict_ne da.typeIs PySem.F.entry_dict_ne ?_ (PySem.F.args_dict_ne_2 _ _)) hu
  show wpAny _ _ (Builtin.Dict.dictSlotArgs "__ne__" ⟨[.ref a, .ref b], []⟩ >>= _) _ _ s
  refine wpAny_bind ?_
  unfold Builtin.Dict.dictSlotArgs
  refine wpAny_bind (wpAny_notOrdered_dict da.typeIs ?_)
  show wpAny _ _ (pure (Value.ref a, Value.ref b)) _ _ s
  refine wpAny_pure ?_
  refine wpAny_bind (wpAny_isInstance (T := "dict") db.typeIs PySem.F.sub_dict_dict ?_)
  simp only [Bool.not_true, Bool.false_eq_true, if_false]
  refine wpAny_bind (wpAny_pure (wpAny_bind (wpAny_pure ?_)))
  refine wpAny_bind (samePairs_raw ha hb da db he ?_)
  refine wpAny_pure ⟨_, rfl, ?_, ?_⟩
  · exact fun x => nomatch x
  · simpa using h
end
theorem raw_dT {P : Program} {w : World} {H : Hp} {h : Heap} {a : Addr} {kvs : List (List Key × V)} (ok : HOk P w H h) (e : H a = some (.dT kvs)) : (a == sysModules) = false ∧ ∃ es ep, h.DictRaw a es ep ∧ es.size = kvs.length := by
  obtain ⟨z, hs, xs, pr, o', es, ep, ho, hx, hdt, he, _⟩ := ok a _ e
  have l1 : es.size = xs.length := size_of_entries he
  have l2 : kvs.length = xs.length := Paired.length pr
  exact ⟨hs, es, ep, ⟨o', ho, hx, hdt⟩, by omega⟩
/-- d != e, e without entries -/
def rNeT : R2 := fun x y H Q => ∃ a b kvs, x = .ref a ∧ y = .ref b ∧ H a = some (.dT kvs) ∧ H b = some (.dT []) ∧ Q (.bl (!decide (kvs = []))) H
theorem op_neT {X : Cx} (hu : X.A.units < cLine) : OpR X (compareOp .NotEq) rNeT := by
  intro pins s σ H x y v u Q I rx ry h
  obtain ⟨a, b, kvs, rfl, rfl, ha, hb, q⟩ := h
  cases (show v = Value.ref a from rx)
  cases (show u = Value.ref b from ry)
  obtain ⟨sa, es, ep, da, la⟩ := raw_dT I.hok ha
  obtain ⟨sb, es', ep', db, lb⟩ := raw_dT I.hok hb
  refine ne_raw sa sb da db lb hu ⟨.bl _, H, I, rfl, ?_⟩
  have e : decide (es.size = 0) = decide (kvs = []) := by
    rw [la]
    cases kvs <;> simp
  rw [e]
  exact q

section
variable {prog : Program} {w : World} {K : Type} [DecidableEq K] {knd : HeapKind prog w K} {A : Around} {E : Value → Shared → Prop} {s : Shared}
theorem wpAny_Dict_pairsH1 {env : Env} {keys : List (Option Expr)} {values : List Expr} {pos : Pos} {pairs : List (Sem Value × Sem Value)} {Q : Value → Shared → Prop} (hu : knd.room A)
    (hshape : (evalEachOpt keys env).zip ((evalEach values env).map fun v => do let x ← v; standAt pos; pure x) = pairs.map fun p => (some p.1, p.2)) (h0 : pairs ≠ []) (hlen : pairs.length ≤ 15)
    (h : wpAny (model prog w) A (evalPairs pairs) (fun vs s₁ => ∃ ps, CarriesH knd s₁.heap vs ps ∧ s₁.heap.DictOfH knd s.heap.objs.size [] ∧
      ∀ h' tk, h'.DictOfH knd s.heap.objs.size (storedAllH [] ps) → Heap.SameBut s.heap.objs.size s₁.heap h' → Q (.ref s.heap.objs.size) { s₁ with heap := h', toks := tk }) E
      { s with heap := s.heap.push { cls := .type "dict", data := .dict #[] } }) :
    wpAny (model prog w) A (eval (.Dict keys values pos) env) Q E s := by
  rw [arm_eval_Dict, hshape, dictDisplay_pairs pairs h0 (by omega)]
  exact wpAny_bind (wpAny_standAt (wpAny_bind (wpAny_subDictH (knd := knd) (Q := fun d s' => wpAny (model prog w) A (pure (Value.ref d)) Q E s') hu hlen
    (wpAny_mono h (fun vs s₁ h₁ => by obtain ⟨ps, hc, hm, hq⟩ := h₁; exact ⟨ps, hc, hm, fun h' tk a b => wpAny_pure (hq h' tk a b)⟩) fun _ _ e => e))))
end
def tDispT (tk tv : TE) : TE := fun σ H Q => ∀ p, H p = none → tk σ (upd H p (.dT [])) fun x H1 => tv σ H1 fun y H2 => H2 p = some (.dT []) ∧ ∃ b k, x = .ref b ∧ H2 b = some (.tup (k.map kV)) ∧ Q (.ref p) (upd H2 p (.dT [(k, y)]))
theorem pe_dispT {X : Cx} {pos : Pos} {k v : Expr} {tk tv : TE} (hu : X.A.units + 1 < cLine) (hk : PE X k tk) (hv : PE X v tv) : PE X (.Dict [some k] [v] pos) (tDispT tk tv) := by
  refine ⟨fun pins s σ H Q I q => ?_⟩
  have hn := I.hok.fresh (Nat.le_refl s.heap.objs.size)
  have I1 := I.laid (a := s.heap.objs.size) (o := .dT []) (h' := s.heap.push { cls := .type "dict", data := .dict #[] }) (t' := s.toks) (fun _ _ q => Heap.get?_push_of_some _ q) (Nat.le_refl _) (dt_empty s.heap I.big)
  refine wpAny_Dict_pairsH1 (knd := tupleKind (mixKind X.prog X.w)) (pairs := pairTrees [some k] [v] X.env pos) (show X.A.units < cLine from Nat.lt_of_succ_lt hu) (zip_pairTrees [some k] [v] X.env pos rfl rfl) (by simp [pairTrees]) (by simp [pairTrees]) ?_
  refine pairTrees_cons_walk (thn (hk.run pins _ σ _ _ I1 (q _ hn)) fun kv s2 ⟨x, H2, I2, rx, q2⟩ => ?_)
  refine thn (hv.run pins _ σ _ _ I2 q2) fun vv s3 ⟨y, H3, I3, ry, e, b, ks, ex, hb, q3⟩ => ?_
  subst ex
  cases (show kv = Value.ref b from rx)
  refine pairTrees_nil_walk ?_
  obtain ⟨z, hd, xs0, r0, dd⟩ := dt_of I3.hok e
  cases r0
  refine ⟨[(ks, b, vv)], ⟨rfl, rfl, key_of I3.hok hb, trivial⟩, dd, fun h' tk dd' hs => ⟨.ref s.heap.objs.size, _, ?_, rfl, q3⟩⟩
  obtain ⟨o, es, ep, ho, h2, h3, h4, _, h5⟩ := dd'
  have hbp : b ≠ s.heap.objs.size := ne_of hb e (fun z => nomatch z)
  refine d_write (t' := tk) I3 (by rw [e]; exact True.intro) hs ⟨o, ho⟩ ⟨by show 1 ≤ sizeLine; decide, hd, [(ks, b, vv)], .cons ⟨rfl, by rw [upd_ne hbp]; exact hb, ry⟩ .nil, o, es, ep, ho, h2, h3, h4, h5⟩
end KDt

namespace KC
open PySem L2
theorem same_new {H : Hp} {p : Addr} {o : HO} (h : H p = none) : Same H (upd H p o) := fun b u e => by
  rw [upd_ne (ne_of_none e h)]; exact e
theorem same_mut {H H' : Hp} {p : Addr} {o : HO} (e : Same H H') (h : H p = none) : Same H (upd H' p o) := fun b u q => by
  rw [upd_ne (ne_of_none q h)]; exact e b u q
theorem Same.tup {K : PySem.W.Frag} {H H' : Hp} {a : Addr} {xs : List V} (e : Same H H') (h : SqT K H a xs) : SqT K H' a xs := by
  rcases h with h | h
  · rcases h with h | ⟨o, h⟩
    · exact .inl (.inl (e _ _ h))
    · exact .inl (.inr ⟨o, e _ _ h⟩)
  · exact .inr h
/-- all but lists stays -/
def Keep (H H' : Hp) : Prop := ∀ b o, H b = some o → (∀ l, o ≠ .lst l) → H' b = some o
theorem Same.keep {H H' : Hp} (e : Same H H') : Keep H H' := fun b o h _ => e b o h
theorem keep_lst {H : Hp} {D : Addr} {l m : List V} (h : H D = some (.lst l)) : Keep H (upd H D (.lst m)) := fun b o e n => by
  have hb : b ≠ D := fun z => by
    subst z
    rw [h] at e
    cases e
    exact n _ rfl
  rw [upd_ne hb]; exact e
theorem paired_snoc {α β : Type} {R : α → β → Prop} : ∀ {as : List α} {bs : List β} {a : α} {b : β}, Paired R as bs → R a b → Paired R (as ++ [a]) (bs ++ [b])
  | _, _, _, _, .nil, h => .cons h .nil
  | _, _, _, _, .cons h t, q => .cons h (paired_snoc t q)
theorem pmap {α β : Type} {F G : α → β → Prop} : ∀ {l₁ : List α} {l₂ : List β}, Paired F l₁ l₂ → (∀ a b, F a b → G a b) → Paired G l₁ l₂
  | _, _, .nil, _ => .nil
  | _, _, .cons h t, k => .cons (k _ _ h) (pmap t k)
theorem paired_len {α β : Type} {R : α → β → Prop} {as : List α} {bs : List β} (h : Paired R as bs) : as.length = bs.length := Paired.length h
theorem take_snoc {α : Type} {l : List α} {i : Nat} {a : α} (h : l[i]? = some a) : l.take (i + 1) = l.take i ++ [a] := by
  rw [List.take_add_one, h]; rfl
theorem lc_gen {α : Type} {J : It} {src : List α} {g : TG} {tt : TT} {te : TE} {vs : List Nat} {σ : L2.St} {H1 : Hp} {Q : Addr → Hp → Prop} (p : α → Bool) (R : α → V → Hp → Prop) (hz : src.length ≤ 100000)
    (hR : ∀ a v H H', Keep H H' → R a v H → R a v H') (hgo : ∀ i H, Same H1 H → i < src.length → J.go i H) (hstop : ∀ H, Same H1 H → J.stop src.length H)
    (hs : ∀ i a x H H', src[i]? = some a → Same H1 H → J.yld i H x H' → Same H H' ∧ ∀ (Ky : V → Hp → Prop) (Kn : Hp → Prop), (∀ v H4, Same H' H4 → R a v H4 → p a = true → Ky v H4) → (∀ H4, Same H' H4 → p a = false → Kn H4) →
      g x (wipe σ vs) H' fun σ2 H2 => wipe σ2 vs = wipe σ vs ∧ tt σ2 H2 fun b H3 => if b = true then te σ2 H3 Ky else Kn H3)
    (hq : ∀ D acc H, H1 D = none → Same H1 H → H D = some (.lst acc) → Paired (fun a v => R a v H) (src.filter p) acc → Q D H) :
    ∀ D, H1 D = none → ∃ W : Nat → Nat → Hp → Prop, (∃ m, W 0 m (upd H1 D (.lst []))) ∧ ∀ i m H, W i m H →
      (J.stop i H ∧ Q D H) ∨ (J.go i H ∧ ∃ Nx : Hp → Prop, (∀ H', Nx H' → ∃ m', m' < m ∧ W (i + 1) m' H') ∧ ∀ x H', J.yld i H x H' → g x (wipe σ vs) H' fun σ2 H2 => wipe σ2 vs = wipe σ vs ∧ tt σ2 H2 fun b H3 =>
        if b = true then te σ2 H3 fun y H4 => ∃ acc, H4 D = some (.lst acc) ∧ acc.length < sizeLine ∧ Nx (upd H4 D (.lst (acc ++ [y]))) else Nx H3) := by
  intro D hD
  refine ⟨fun i m H => m = src.length - i ∧ i ≤ src.length ∧ Same H1 H ∧ ∃ acc, H D = some (.lst acc) ∧ Paired (fun a v => R a v H) ((src.take i).filter p) acc, ⟨src.length, by simp, Nat.zero_le _, same_new hD, [], upd_same, by rw [List.take_zero]; exact Paired.nil⟩, ?_⟩
  rintro i m H ⟨rfl, hi, sm, acc, hacc, pr⟩
  by_cases hlt : i < src.length
  · have hsrc : src[i]? = some src[i] := List.getElem?_eq_getElem hlt
    have et := take_snoc hsrc
    generalize src[i] = a at hsrc et
    refine .inr ⟨hgo i H sm hlt, fun H' => i + 1 ≤ src.length ∧ Same H1 H' ∧ ∃ acc, H' D = some (.lst acc) ∧ Paired (fun a v => R a v H') ((src.take (i + 1)).filter p) acc, fun H' q => ⟨src.length - (i + 1), by omega, rfl, q⟩, fun x H' y => ?_⟩
    obtain ⟨s1, h1⟩ := hs i a x H H' hsrc sm y
    refine h1 _ _ (fun v H4 s4 r ep => ?_) (fun H4 s4 ep => ?_)
    · have hacc4 : H4 D = some (.lst acc) := s4 _ _ (s1 _ _ hacc)
      have k4 : Keep H (upd H4 D (.lst (acc ++ [v]))) := fun b o e n => keep_lst hacc4 b o (s4 _ _ (s1 _ _ e)) n
      refine ⟨acc, hacc4, ?_, hlt, same_mut ((sm.trans s1).trans s4) hD, acc ++ [v], upd_same, ?_⟩
      · have l := paired_len pr
        have l2 : ((src.take i).filter p).length ≤ i := Nat.le_trans (List.length_filter_le _ _) (by rw [List.length_take]; omega)
        exact Nat.lt_of_lt_of_le (show acc.length < 100001 by omega) (by decide)
      · rw [et, List.filter_append, List.filter_cons_of_pos ep, List.filter_nil]
        exact paired_snoc (pmap pr fun a' v' r' => hR _ _ _ _ k4 r') (hR _ _ _ _ (keep_lst hacc4) r)
    · have hacc4 : H4 D = some (.lst acc) := s4 _ _ (s1 _ _ hacc)
      refine ⟨hlt, (sm.trans s1).trans s4, acc, hacc4, ?_⟩
      rw [et, List.filter_append, List.filter_cons_of_neg (by rw [ep]; exact Bool.false_ne_true), List.filter_nil, List.append_nil]
      exact pmap pr fun a' v' r' => hR _ _ _ _ (Same.keep (s1.trans s4)) r'
  · have e : i = src.length := by omega
    subst e
    rw [List.take_length] at pr
    exact .inl ⟨hstop H sm, hq D acc H hD sm hacc pr⟩
theorem paired_map {α : Type} {f : α → V} : ∀ {as : List α} {vs : List V}, Paired (fun a v => v = f a) as vs → vs = as.map f
  | _, _, .nil => rfl
  | _, _, .cons h t => by
    cases h
    rw [paired_map t]
    rfl
section
variable {α β : Type} {K : PySem.W.Frag} {g : TG} {tt : TT} {te : TE} {vs : List Nat} {σ : L2.St} {H1 : Hp} {Q : Addr → Hp → Prop}
/-- one turn at the heap H with the item x -/
abbrev Turn1 (g : TG) (tt : TT) (te : TE) (vs : List Nat) (σ : L2.St) (x : V) (H' : Hp) (pa : Bool) (R : V → Hp → Prop) : Prop := ∀ (Ky : V → Hp → Prop) (Kn : Hp → Prop), (∀ v H4, Same H' H4 → R v H4 → pa = true → Ky v H4) → (∀ H4, Same H' H4 → pa = false → Kn H4) →
      g x (wipe σ vs) H' fun σ2 H2 => wipe σ2 vs = wipe σ vs ∧ tt σ2 H2 fun b H3 => if b = true then te σ2 H3 Ky else Kn H3
abbrev LcR (J : It) (g : TG) (tt : TT) (te : TE) (vs : List Nat) (σ : L2.St) (H1 : Hp) (Q : Addr → Hp → Prop) : Prop := ∀ D, H1 D = none → ∃ W : Nat → Nat → Hp → Prop, (∃ m, W 0 m (upd H1 D (.lst []))) ∧ ∀ i m H, W i m H →
      (J.stop i H ∧ Q D H) ∨ (J.go i H ∧ ∃ Nx : Hp → Prop, (∀ H', Nx H' → ∃ m', m' < m ∧ W (i + 1) m' H') ∧ ∀ x H', J.yld i H x H' → g x (wipe σ vs) H' fun σ2 H2 => wipe σ2 vs = wipe σ vs ∧ tt σ2 H2 fun b H3 =>
        if b = true then te σ2 H3 fun y H4 => ∃ acc, H4 D = some (.lst acc) ∧ acc.length < sizeLine ∧ Nx (upd H4 D (.lst (acc ++ [y]))) else Nx H3)
theorem lcr_list {a : Addr} {src : List α} (w : α → V) (p : α → Bool) (R : α → V → Hp → Prop) (ha : SqL K H1 a (src.map w)) (hz : src.length ≤ 100000) (hR : ∀ a v H H', Keep H H' → R a v H → R a v H')
    (hs : ∀ (i : Nat) (a : α) (H : Hp), src[i]? = some a → Same H1 H → Turn1 g tt te vs σ (w a) H (p a) (R a)) (hq : ∀ D acc H, H1 D = none → Same H1 H → H D = some (.lst acc) → Paired (fun a v => R a v H) (src.filter p) acc → Q D H) : LcR (Itl K a) g tt te vs σ H1 Q :=
  lc_gen p R hz hR (fun i H sm hi => ⟨_, w src[i], sm.seq ha, by rw [List.getElem?_map, List.getElem?_eq_getElem hi]; rfl⟩) (fun H sm => ⟨_, sm.seq ha, by rw [List.length_map]; exact Nat.le_refl _⟩)
    (fun i b x H H' hb sm y => by
      obtain ⟨rfl, hy⟩ := y
      have q := hy _ (sm.seq ha)
      rw [List.getElem?_map, hb] at q
      obtain rfl := Option.some.inj q
      exact ⟨Same.refl _, hs i b H' hb sm⟩) hq
theorem lcr_tup {a : Addr} {src : List α} (w : α → V) (p : α → Bool) (R : α → V → Hp → Prop) (ha : SqT K H1 a (src.map w)) (hz : src.length ≤ 100000) (hR : ∀ a v H H', Keep H H' → R a v H → R a v H')
    (hs : ∀ (i : Nat) (a : α) (H : Hp), src[i]? = some a → Same H1 H → Turn1 g tt te vs σ (w a) H (p a) (R a)) (hq : ∀ D acc H, H1 D = none → Same H1 H → H D = some (.lst acc) → Paired (fun a v => R a v H) (src.filter p) acc → Q D H) : LcR (Itt K a) g tt te vs σ H1 Q :=
  lc_gen p R hz hR (fun i H sm hi => ⟨_, w src[i], Same.tup sm ha, by rw [List.getElem?_map, List.getElem?_eq_getElem hi]; rfl⟩) (fun H sm => ⟨_, Same.tup sm ha, by rw [List.length_map]; exact Nat.le_refl _⟩)
    (fun i b x H H' hb sm y => by
      obtain ⟨rfl, hy⟩ := y
      have q := hy _ (Same.tup sm ha)
      rw [List.getElem?_map, hb] at q
      obtain rfl := Option.some.inj q
      exact ⟨Same.refl _, hs i b H' hb sm⟩) hq
theorem lcr_range {lo : Int} {n : Nat} (p : Nat → Bool) (R : Nat → V → Hp → Prop) (hz : n ≤ 100000) (hR : ∀ a v H H', Keep H H' → R a v H → R a v H')
    (hs : ∀ i H, i < n → Same H1 H → Turn1 g tt te vs σ (.int (lo + i)) H (p i) (R i)) (hq : ∀ D acc H, H1 D = none → Same H1 H → H D = some (.lst acc) → Paired (fun a v => R a v H) ((List.range n).filter p) acc → Q D H) : LcR (Itr lo n) g tt te vs σ H1 Q :=
  lc_gen p R (by rw [List.length_range]; exact hz) hR (fun i H sm hi => by rw [List.length_range] at hi; exact hi) (fun H sm => by show n ≤ _; rw [List.length_range]; exact Nat.le_refl _)
    (fun i b x H H' hb sm y => by
      obtain ⟨rfl, rfl⟩ := y
      have hi := (List.getElem?_eq_some_iff.mp hb).1
      rw [List.length_range] at hi
      rw [List.getElem?_range hi] at hb
      obtain rfl := Option.some.inj hb
      exact ⟨Same.refl _, hs i H' hi sm⟩) hq
theorem lcr_rangeC {lo c : Int} {n : Nat} (p : Nat → Bool) (R : Nat → V → Hp → Prop) (hz : n ≤ 100000) (hR : ∀ a v H H', Keep H H' → R a v H → R a v H')
    (hs : ∀ i H, i < n → Same H1 H → Turn1 g tt te vs σ (.int (lo + (i : Nat) * c)) H (p i) (R i)) (hq : ∀ D acc H, H1 D = none → Same H1 H → H D = some (.lst acc) → Paired (fun a v => R a v H) ((List.range n).filter p) acc → Q D H) : LcR (Itc lo c n) g tt te vs σ H1 Q :=
  lc_gen p R (by rw [List.length_range]; exact hz) hR (fun i H sm hi => by rw [List.length_range] at hi; exact hi) (fun H sm => by show n ≤ _; rw [List.length_range]; exact Nat.le_refl _)
    (fun i b x H H' hb sm y => by
      obtain ⟨rfl, rfl⟩ := y
      have hi := (List.getElem?_eq_some_iff.mp hb).1
      rw [List.length_range] at hi
      rw [List.getElem?_range hi] at hb
      obtain rfl := Option.some.inj hb
      exact ⟨Same.refl _, hs i H' hi sm⟩) hq
theorem lcr_zipT {a b : Addr} {xs : List α} {ys : List β} (w : α → V) (w' : β → V) (p : α × β → Bool) (R : α × β → V → Hp → Prop) (ha : SqT K H1 a (xs.map w)) (hb : SqT K H1 b (ys.map w')) (hz : (xs.zip ys).length ≤ 100000) (hR : ∀ a v H H', Keep H H' → R a v H → R a v H')
    (hs : ∀ (i : Nat) c (T : Addr) (H : Hp), (xs.zip ys)[i]? = some c → Same H1 H → H T = none → Turn1 g tt te vs σ (.ref T) (upd H T (.tup [w c.1, w' c.2])) (p c) (R c))
    (hq : ∀ D acc H, H1 D = none → Same H1 H → H D = some (.lst acc) → Paired (fun a v => R a v H) ((xs.zip ys).filter p) acc → Q D H) : LcR (RZ.ItzT K a b) g tt te vs σ H1 Q :=
  lc_gen p R hz hR (fun i H sm hi => by
      rw [List.length_zip] at hi
      have h1 : i < xs.length := by omega
      have h2 : i < ys.length := by omega
      exact ⟨_, _, w xs[i], w' ys[i], Same.tup sm ha, Same.tup sm hb, by rw [List.getElem?_map, List.getElem?_eq_getElem h1]; rfl, by rw [List.getElem?_map, List.getElem?_eq_getElem h2]; rfl⟩)
    (fun H sm => ⟨_, _, Same.tup sm ha, Same.tup sm hb, by rw [List.length_map, List.length_map, List.length_zip]; omega⟩)
    (fun i c x H H' hc sm y => by
      obtain ⟨T, u, v, rfl, hT, rfl, h1, h2⟩ := y
      have q1 := h1 _ (Same.tup sm ha)
      have q2 := h2 _ (Same.tup sm hb)
      obtain ⟨c1, c2⟩ := c
      rw [List.getElem?_zip_eq_some] at hc
      rw [List.getElem?_map, hc.1] at q1
      rw [List.getElem?_map, hc.2] at q2
      obtain rfl := Option.some.inj q1
      obtain rfl := Option.some.inj q2
      exact ⟨same_new hT, hs i (c1, c2) T H (List.getElem?_zip_eq_some.mpr hc) sm hT⟩) hq
theorem lcr_zipS {a : Addr} {xs : List α} {x : Str} (w : α → V) (p : α × Nat → Bool) (R : α × Nat → V → Hp → Prop) (ha : SqL K H1 a (xs.map w)) (hl : xs.length = x.cps.size) (hz : xs.length ≤ 100000) (hR : ∀ a v H H', Keep H H' → R a v H → R a v H')
    (hs : ∀ (i : Nat) c (T : Addr) (H : Hp), (xs.zip x.cps.toList)[i]? = some c → Same H1 H → H T = none → Turn1 g tt te vs σ (.ref T) (upd H T (.tup [w c.1, .str ⟨#[c.2]⟩])) (p c) (R c))
    (hq : ∀ D acc H, H1 D = none → Same H1 H → H D = some (.lst acc) → Paired (fun a v => R a v H) ((xs.zip x.cps.toList).filter p) acc → Q D H) : LcR (KZs.ItzS K a x) g tt te vs σ H1 Q :=
  lc_gen p R (by rw [List.length_zip]; omega) hR (fun i H sm hi => by
      have hn : x.cps.toList.length = x.cps.size := Array.length_toList
      rw [List.length_zip] at hi
      have h1 : i < xs.length := by omega
      have h2 : i < x.cps.size := by omega
      exact ⟨_, w xs[i], x.cps[i], sm.seq ha, by rw [List.getElem?_map, List.getElem?_eq_getElem h1]; rfl, Array.getElem?_eq_getElem h2⟩)
    (fun H sm => by
      have hn : x.cps.toList.length = x.cps.size := Array.length_toList
      exact ⟨_, sm.seq ha, by rw [List.length_map, List.length_zip]; omega, by rw [List.length_zip]; omega, by rw [List.length_map, List.length_zip]; omega⟩)
    (fun i c y H H' hc sm q => by
      obtain ⟨T, u, v, rfl, hT, rfl, h1, h2⟩ := q
      have q1 := h1 _ (sm.seq ha)
      obtain ⟨c1, c2⟩ := c
      rw [List.getElem?_zip_eq_some] at hc
      rw [List.getElem?_map, hc.1] at q1
      obtain rfl := Option.some.inj q1
      rw [← Array.getElem?_toList, hc.2] at h2
      obtain rfl := Option.some.inj h2
      exact ⟨same_new hT, hs i (c1, c2) T H (List.getElem?_zip_eq_some.mpr hc) sm hT⟩) hq
end
/-- the answers are values -/
def RV {α : Type} (f : α → V) : α → V → Hp → Prop := fun a v _ => v = f a
theorem rv_keep {α : Type} (f : α → V) : ∀ a v H H', Keep H H' → RV f a v H → RV f a v H' := fun _ _ _ _ _ h => h
theorem rv_all {α : Type} {f : α → V} {H : Hp} {src : List α} {acc : List V} (h : Paired (fun a v => RV f a v H) (src.filter fun _ => true) acc) : acc = src.map f := by
  have e := paired_map h
  rwa [List.filter_eq_self.mpr fun _ _ => rfl] at e
theorem rv_some {α : Type} {f : α → V} {p : α → Bool} {H : Hp} {src : List α} {acc : List V} (h : Paired (fun a v => RV f a v H) (src.filter p) acc) : acc = (src.filter p).map f := paired_map h
/-- the answers are tuples of ints -/
def RT {α : Type} (f : α → List Int) : α → V → Hp → Prop := fun a v H => ∃ t, v = .ref t ∧ H t = some (.tup ((f a).map V.int))
theorem rt_keep {α : Type} (f : α → List Int) : ∀ a v H H', Keep H H' → RT f a v H → RT f a v H' := fun _ _ _ _ k ⟨t, e, h⟩ => ⟨t, e, k _ _ h fun l z => nomatch z⟩
end KC

namespace KP
open PySem PySem.Spec PyProof.Rows L2
def topS (i : Nat) : Stmt := PySem.Challenge.pw_slantways_k16_whole_duals.main.body.getD i (.Pass ⟨0, 0, 0, 0⟩)
abbrev mS (i : Nat) : Stmt := inClass (topS 18) i
abbrev mH (i : Nat) : Stmt := inClass (topS 27) i
/-- a def of the module, every parameter given -/
def DefB (K : PySem.W.Frag) (mg : Str → Option Value) (x : Str) (st : Stmt) (ps : List Str) : Prop := ∃ f fd, C8.Def K mg x st f fd ∧ Binds K fd ps []
/-- a method of the class at C -/
def MetB (K : PySem.W.Frag) (C : Addr) (m qual : Str) (st : Stmt) (ps : List Str) (f : Addr) : Prop := ∃ fd, PySem.W.findIn K (.ref C) m = some (some (.ref f)) ∧ PySem.W.isFn K (.ref f) = true ∧ PySem.W.keepIn K (.ref f) = true ∧ C8.Fun K m qual st f fd ∧ Binds K fd ps []
/-- a property of the class at C, its getter at f -/
def PropB (K : PySem.W.Frag) (C : Addr) (m qual : Str) (st : Stmt) (f : Addr) : Prop := ∃ p fd, PySem.W.findIn K (.ref C) m = some (some (.ref p)) ∧ PySem.W.specialIn K (.ref p) "__get__" = some (some (.builtin "property.__get__")) ∧ PySem.W.takesIn K (.ref p) = some true ∧
  (∃ rest, PySem.W.recIn K p "property" = some (.ref f :: rest)) ∧ C8.Fun K m qual st f fd ∧ Binds K fd ["self"] []
section
variable {P : Program} {w : World} {K : PySem.W.Frag} {mg : Str → Option Value} {base : Heap}
theorem def_cal {x : Str} {st : Stmt} {N ps : List Str} {k : Nat} {sp : Sp} (F : DefB K mg x st ps) (S : FnScope N ps (C8.fnScope st)) (len : ∀ vs H Q E, sp vs H Q E → vs.length = ps.length)
    (hbody : ∀ (f cdv : Value) (A : Around) (outer : List Env) (s : Shared) (H : Hp) (vs : List V) (Q : VK) (E : XK) (g : Addr), Room k (A.deeper (envOfC x (C8.fnScope st) s.heap.objs.size g cdv)) → sp vs H Q E →
      ∃ t, PSs (cxOf CX0 P w K mg base N x (C8.fnScope st) g cdv A outer s H E).nox (C8.fnBody st) t ∧ t { nx := fun _ H' => Q .non H', rt := Q } (start N vs) H) : C8.Cal P w K mg base (k + 1) x sp [] := by
  obtain ⟨f, fd, D, b⟩ := F
  exact C8.cal0 D b .nil S len fun cdv A outer s H vs Q E hr h => hbody cdv cdv A outer s H vs Q E f hr h
theorem fun_raw {m qual : Str} {st : Stmt} {N ps : List Str} {k : Nat} {sp : Sp} {f : Addr} {fd : FuncData} (F : C8.Fun K m qual st f fd) (b : Binds K fd ps []) (S : FnScope N ps (C8.fnScope st)) (len : ∀ vs H Q E, sp vs H Q E → vs.length = ps.length)
    (hbody : ∀ (cdv : Value) (A : Around) (outer : List Env) (s : Shared) (H : Hp) (vs : List V) (Q : VK) (E : XK), Room k (A.deeper (envOfC qual (C8.fnScope st) s.heap.objs.size f cdv)) → sp vs H Q E →
      ∃ t, PSs (cxOf CX0 P w K mg base N qual (C8.fnScope st) f cdv A outer s H E).nox (C8.fnBody st) t ∧ t { nx := fun _ H' => Q .non H', rt := Q } (start N vs) H) : FnR P w K mg base CX0 (k + 1) f sp :=
  ((C8.fn0 F S len hbody).raw b .nil).imp fun vs H Q E h => by rw [List.append_nil]; exact h
end
/-- what the proofs use of the module's names -/
structure Nm (mg : Str → Option Value) (C D : Addr) : Prop where
  isi : mg "isinstance" = none
  int : mg "int" = none
  bool : mg "bool" = none
  tuple : mg "tuple" = none
  list : mg "list" = none
  all : mg "all" = none
  zip : mg "zip" = none
  range : mg "range" = none
  sum : mg "sum" = none
  sorted : mg "sorted" = none
  len : mg "len" = none
  max : mg "max" = none
  min : mg "min" = none
  abs : mg "abs" = none
  gcd : mg "gcd" = some (.builtin "math.gcd")
  comb : mg "comb" = some (.builtin "math.comb")
  great : ∃ t, mg "GREATEST" = some (.int (10 ^ 60) t)
  side : ∃ t, mg "MAX_SIDE" = some (.int 60 t)
  listed : ∃ t, mg "MAX_LISTED" = some (.int 5000 t)
  slope : mg "Slope" = some (.ref C)
  shelf : mg "Shelf" = some (.ref D)
theorem dbg (x : Str) (h : (x == ("__debug__" : Str)) = false) : (x == ("__debug__" : Str)) = false := h

theorem gi {X : Cx} {x : Str} {n : Int} {t : Tok} {pos : Pos} (h : X.mg x = some (.int n t)) (hg : Gl X x := by rfl) (hd : (x == ("__debug__" : Str)) = false := by decide) : PE X (.Name x pos) (tC (.int n)) := pe_glob hg h ⟨t, rfl⟩ hd
theorem q_bl {Q : VK} {H : Hp} {b c : Bool} (h : Q (.bl b) H) (e : c = b) : Q (.bl c) H := by rw [e]; exact h
section
variable {P : Program} {w : World} {K : PySem.W.Frag} {mg : Str → Option Value} {base : Heap} {C D : Addr}
abbrev Bnd (n : Int) : Prop := -(10 ^ 60) < n ∧ n < 10 ^ 60
def spIsInt : Sp := fun vs H Q _ => ∃ n : Int, vs = [.int n] ∧ Bnd n ∧ Q (.bl true) H
theorem sc_isint : FnScope ["value"] ["value"] (C8.fnScope (topS 11)) := C8.fnScope_by (by decide +kernel)
theorem kb_ii {K : PySem.W.Frag} : PySem.W.kitOne K (.type "int") (.type "int") = some true := kit_ty (by decide +kernel)
theorem kb_ib {K : PySem.W.Frag} : PySem.W.kitOne K (.type "int") (.type "bool") = some false := kit_ty (by decide +kernel)
theorem kb_tt {K : PySem.W.Frag} : PySem.W.kitOne K (.type "tuple") (.type "tuple") = some true := kit_ty (by decide +kernel)
theorem ok_isint (F : DefB K mg "is_integer" (topS 11) ["value"]) (T : Nm mg C D) : C8.Cal P w K mg base 1 "is_integer" spIsInt [] := by
  refine def_cal F sc_isint (fun vs H Q E h => ?_) (fun f cdv A outer s H vs Q E g hr h => ?_)
  · obtain ⟨n, rfl, _⟩ := h
    rfl
  · obtain ⟨n, rfl, ⟨h1, h2⟩, q⟩ := h
    obtain ⟨tG, hG⟩ := T.great
    refine ⟨_, pss_one (ps_ret (pe_and (pe_callB call_isi rfl T.isi (by decide +kernel) (pa_cons (pv 0) (pa_cons (pe_bltn rfl T.int (by decide +kernel) (v := .ty "int") rfl) pa_nil)))
      (pe_and (pe_not (pe_callB call_isi rfl T.isi (by decide +kernel) (pa_cons (pv 0) (pa_cons (pe_bltn rfl T.bool (by decide +kernel) (v := .ty "bool") rfl) pa_nil))))
        (pe_one (pe_chain op_lt op_lt (pe_un un_neg (gi hG)) (pv 0) (gi hG)))))), ?_⟩
    refine ⟨_, rfl, .int n, _, _, _, true, rfl, .ty "int", .base (.int n), kb_ii, true, rfl, ?_⟩
    refine iteT ⟨_, rfl, .int n, _, _, _, false, rfl, .ty "bool", .base (.int n), kb_ib, false, rfl, true, rfl, ?_⟩
    refine iteT ⟨_, rfl, _, rfl, _, _, rfl, rfl, _, rfl, ?_⟩
    rw [decide_eq_true h1]
    refine iteT ⟨_, _, rfl, rfl, ?_⟩
    exact q_bl q (decide_eq_true h2)
def spIsFrom : Sp := fun vs H Q _ => ∃ n l m : Int, vs = [.int n, .int l, .int m] ∧ Bnd n ∧ l ≤ n ∧ n ≤ m ∧ Q (.bl true) H
theorem sc_isfrom : FnScope ["value", "least", "most"] ["value", "least", "most"] (C8.fnScope (topS 12)) := C8.fnScope_by (by decide +kernel)
theorem ok_isfrom (F : DefB K mg "is_from" (topS 12) ["value", "least", "most"]) (c1 : C8.Cal P w K mg base 1 "is_integer" spIsInt []) : C8.Cal P w K mg base 2 "is_from" spIsFrom [] := by
  refine def_cal F sc_isfrom (fun vs H Q E h => ?_) (fun f cdv A outer s H vs Q E g hr h => ?_)
  · obtain ⟨n, l, m, rfl, _⟩ := h
    rfl
  · obtain ⟨n, l, m, rfl, hb, h1, h2, q⟩ := h
    refine ⟨_, pss_one (ps_ret (pe_and (C8.pe_c c1 hr (by decide) rfl (pa_cons (pv 0) pa_nil)) (pe_one (pe_chain op_le op_le (pv 1) (pv 0) (pv 2))))), ?_⟩
    refine ⟨_, rfl, n, rfl, hb, true, rfl, ?_⟩
    refine iteT ⟨_, rfl, _, rfl, _, _, rfl, rfl, _, rfl, ?_⟩
    rw [decide_eq_true h1]
    refine iteT ⟨_, rfl, _, _, rfl, rfl, ?_⟩
    exact q_bl q (decide_eq_true h2)
def spReqFrom : Sp := fun vs H Q _ => ∃ n l m : Int, vs = [.int n, .int l, .int m] ∧ Bnd n ∧ l ≤ n ∧ n ≤ m ∧ Q .non H
theorem sc_reqfrom : FnScope ["value", "least", "most"] ["value", "least", "most"] (C8.fnScope (topS 13)) := C8.fnScope_by (by decide +kernel)
theorem ok_reqfrom (F : DefB K mg "require_from" (topS 13) ["value", "least", "most"]) (c1 : C8.Cal P w K mg base 2 "is_from" spIsFrom []) : C8.Cal P w K mg base 3 "require_from" spReqFrom [] := by
  refine def_cal F sc_reqfrom (fun vs H Q E h => ?_) (fun f cdv A outer s H vs Q E g hr h => ?_)
  · obtain ⟨n, l, m, rfl, _⟩ := h
    rfl
  · obtain ⟨n, l, m, rfl, hb, h1, h2, q⟩ := h
    refine ⟨_, pss_one (ps_if (pt_not (pt_val (C8.pe_c c1 hr (by decide) rfl (pa_cons (pv 0) (pa_cons (pv 1) (pa_cons (pv 2) pa_nil)))))) pss_never pss_nil), ?_⟩
    exact ⟨_, rfl, _, rfl, _, rfl, n, l, m, rfl, hb, h1, h2, true, rfl, iteF q⟩
/-- a tuple of ints that stands in the heap -/
def spAreInts : Sp := fun vs H Q _ => ∃ (t : Addr) (ns : List Int), vs = [.ref t] ∧ H t = some (.tup (ns.map V.int)) ∧ ns.length ≤ 1000 ∧ (∀ n ∈ ns, Bnd n) ∧ ∀ H', Same H H' → Q (.bl true) H'
theorem sc_areints : FnScope ["value", "one"] ["value"] (C8.fnScope (topS 14)) := C8.fnScope_by (by decide +kernel)
theorem ok_areints (F : DefB K mg "are_integers" (topS 14) ["value"]) (T : Nm mg C D) (c1 : C8.Cal P w K mg base 1 "is_integer" spIsInt []) : C8.Cal P w K mg base 2 "are_integers" spAreInts [] := by
  refine def_cal F sc_areints (fun vs H Q E h => ?_) (fun f cdv A outer s H vs Q E g hr h => ?_)
  · obtain ⟨t, ns, rfl, _⟩ := h
    rfl
  · obtain ⟨t, ns, rfl, ht, hl, hb, q⟩ := h
    refine ⟨_, pss_one (ps_ret (pe_and (pe_callB call_isi rfl T.isi (by decide +kernel) (pa_cons (pv 0) (pa_cons (pe_bltn rfl T.tuple (by decide +kernel) (v := .ty "tuple") rfl) pa_nil)))
      (pe_one (pe_callB (cr_all rfl) rfl T.all (by decide +kernel) (pa_cons (pe_lc (own := [("one", 1)]) (g := gName 1) rfl sc_areints.nd (pi_tup (pv 0)) (blkOk_by (N := ["value", "one"]) (sc := C8.fnScope (topS 14)) (by decide +kernel))
        (fun _ _ _ _ _ => pg_name (i := 1) sc_areints.nd rfl (Or.inl rfl)) (fun _ _ _ _ _ => pts_nil) (fun _ _ _ _ _ => C8.pe_c c1 hr (by decide) rfl (pa_cons (pv 1) pa_nil))) pa_nil))))), ?_⟩
    refine ⟨_, rfl, .ref t, _, _, _, true, rfl, .ty "tuple", .base (.tup ht), kb_tt, true, rfl, ?_⟩
    refine iteT ⟨_, rfl, t, rfl, ⟨_, SqT.of ht⟩, KC.lcr_tup (K := K) (src := ns) V.int (fun _ => true) (KC.RV fun _ => .bl true) (SqT.of ht) (by omega) (KC.rv_keep _) (fun i n H1 hn sm Ky Kn hy hk => ?_) (fun Dl acc H1 h0 sm hD pr => ?_)⟩
    · exact ⟨rfl, _, rfl, n, rfl, hb n (List.mem_of_getElem? hn), hy _ _ (Same.refl _) rfl rfl⟩
    · have e := KC.rv_all pr
      refine ⟨Dl, ns.map fun _ => true, rfl, SqL.of (by rw [hD, e, List.map_map]; rfl), ?_⟩
      exact q_bl (q _ sm) (by simp)
def spAreAsc : Sp := fun vs H Q _ => ∃ (t : Addr) (ns : List Int), vs = [.ref t] ∧ H t = some (.tup (ns.map V.int)) ∧ ns.length ≤ 1000 ∧ ns.Pairwise (· < ·) ∧ ∀ H', Same H H' → Q (.bl true) H'
theorem sc_areasc : FnScope ["items", "one", "other"] ["items"] (C8.fnScope (topS 15)) := C8.fnScope_by (by decide +kernel)
theorem asc_zip : ∀ {ns : List Int}, ns.Pairwise (· < ·) → ∀ p ∈ ns.zip (ns.drop 1), p.1 < p.2
  | [], _, p, h => by simp at h
  | [x], _, p, h => by simp at h
  | x :: y :: r, a, p, h => by
    have a2 := List.pairwise_cons.mp a
    have e : (x :: y :: r).zip ((x :: y :: r).drop 1) = (x, y) :: (y :: r).zip ((y :: r).drop 1) := rfl
    rw [e] at h
    rcases List.mem_cons.mp h with rfl | h
    · exact a2.1 y List.mem_cons_self
    · exact asc_zip a2.2 p h
theorem cut1 (x : V) (r : List V) : cutV (x :: r) (some 1) none = r ∧ ¬ (HT.sIx (x :: r).length 0 (some 1) = 0 ∧ HT.sIx (x :: r).length (x :: r).length none = (x :: r).length) := by
  have e : HT.sIx (x :: r).length 0 (some 1) = 1 := by
    show HT.sIx (r.length + 1) 0 (some 1) = 1
    simp [HT.sIx]
  have e2 : HT.sIx (x :: r).length (x :: r).length none = (x :: r).length := rfl
  refine ⟨?_, fun h => by rw [e] at h; omega⟩
  unfold cutV
  rw [e, e2]
  show (r.take (r.length + 1 - 1)) = r
  rw [Nat.add_sub_cancel, List.take_length]
theorem ok_areasc (F : DefB K mg "are_ascending" (topS 15) ["items"]) (T : Nm mg C D) : C8.Cal P w K mg base 1 "are_ascending" spAreAsc [] := by
  refine def_cal F sc_areasc (fun vs H Q E h => ?_) (fun f cdv A outer s H vs Q E g hr h => ?_)
  · obtain ⟨t, ns, rfl, _⟩ := h
    rfl
  · obtain ⟨t, ns, rfl, ht, hl, hb, q⟩ := h
    refine ⟨_, pss_one (ps_ret (pe_callB (cr_all rfl) rfl T.all (by decide +kernel) (pa_cons (pe_lc (own := [("one", 1), ("other", 2)]) (g := gTup K 2 (gCons (gName 1) (gCons (gName 2) gNil))) rfl sc_areasc.nd
      (RZ.pi_zipA rfl T.zip (pa_cons (pv 0) (pa_cons (pe_slice sl_tupA (pv 0) (po_some pe_int) po_none) pa_nil))) (blkOk_by (N := ["items", "one", "other"]) (sc := C8.fnScope (topS 15)) (by decide +kernel))
        (fun _ _ _ _ _ => pg_tup rfl (pgs_cons (pg_name (i := 1) sc_areasc.nd rfl (Or.inl rfl)) (pgs_cons (pg_name (i := 2) sc_areasc.nd rfl (Or.inl rfl)) pgs_nil))) (fun _ _ _ _ _ => pts_nil) (fun _ _ _ _ _ => pe_cmpR op_lt (pv 1) (pv 2) (nomark _))) pa_nil))), ?_⟩
    have main : ∀ (t2 : Addr) (H1 : Hp), Same H H1 → H1 t2 = some (.tup ((ns.drop 1).map V.int)) → ∀ (Qz : Addr → Hp → Prop), (∀ Dl H2, Same H1 H2 → H2 Dl = some (.lst ((ns.zip (ns.drop 1)).map fun _ => V.bl true)) → Qz Dl H2) →
        KC.LcR (RZ.ItzT K t t2) (gTup K 2 (gCons (gName 1) (gCons (gName 2) gNil))) tYes (tOp (rI0 fun i j => .bl (decide (i < j))) (tVar 1) (tVar 2)) [1, 2] [some (.ref t), none, none] H1 Qz := fun t2 H1 sm0 h2 Qz hq => by
      refine KC.lcr_zipT (xs := ns) (ys := ns.drop 1) V.int V.int (fun _ => true) (KC.RV fun _ => .bl true) (SqT.of (sm0 _ _ ht)) (SqT.of h2) (by rw [List.length_zip]; omega) (KC.rv_keep _) (fun i p T H2 hp sm hT Ky Kn hy hk => ?_) (fun Dl acc H2 h0 sm hD pr => ?_)
      · refine ⟨T, _, rfl, SqT.of upd_same, rfl, _, _, rfl, _, _, rfl, rfl, rfl, _, rfl, _, rfl, _, _, rfl, rfl, hy _ _ (Same.refl _) ?_ rfl⟩
        have := asc_zip hb p (List.mem_of_getElem? hp)
        show V.bl (decide (p.1 < p.2)) = V.bl true
        rw [decide_eq_true this]
      · have e := KC.rv_all pr
        exact hq Dl H2 sm (by rw [hD, e])
    have fin : ∀ (Dl : Addr) (H2 : Hp), Same H H2 → H2 Dl = some (.lst ((ns.zip (ns.drop 1)).map fun _ => V.bl true)) → rAll K [.ref Dl] H2 Q := fun Dl H2 sm hD =>
      ⟨Dl, (ns.zip (ns.drop 1)).map fun _ => true, rfl, SqL.of (by rw [hD, List.map_map]; rfl), q_bl (q _ sm) (by simp)⟩
    refine ⟨_, rfl, _, rfl, 1, rfl, t, _, rfl, SqT.of ht, fun hw => ?_, fun hw p hp => ?_⟩
    · cases ns with
      | nil => exact ⟨t, t, _, _, rfl, .inr ⟨SqT.of ht, SqT.of ht, main t H (Same.refl _) ht _ fun Dl H2 sm hD => fin Dl H2 sm hD⟩⟩
      | cons x r => exact absurd hw (cut1 (.int x) (r.map V.int)).2
    · cases ns with
      | nil => exact absurd ⟨rfl, rfl⟩ hw
      | cons x r =>
        have e : cutV ((x :: r).map V.int) (some 1) none = r.map V.int := (cut1 (.int x) (r.map V.int)).1
        rw [e]
        have sm0 := KC.same_new (o := .tup (r.map V.int)) hp
        exact ⟨t, p, _, _, rfl, .inr ⟨SqT.of (sm0 _ _ ht), SqT.of upd_same, main p _ sm0 upd_same _ fun Dl H2 sm hD => fin Dl H2 (sm0.trans sm) hD⟩⟩
end
end KP

namespace KP
open PySem PySem.Spec PyProof.Rows L2
/-- what is asked of a class with slots -/
structure ClsF (K : PySem.W.Frag) (C : Addr) : Prop where
  sc : SlX.SCls K C
  si : SlX.SIsi K C
  ne : PySem.W.findIn K (.ref C) "__ne__" = some (some (.builtin "object.__ne__"))
  nf : PySem.W.notFirst K C (.ref C) = true
  makes : PySem.W.makesIn K C = true
  kp : PySem.W.keepIn K (.ref C) = true
structure SlpF (K : PySem.W.Frag) (C : Addr) : Prop where
  c : ClsF K C
  common : ∃ p, SlX.Slot1 K C "own_common" p 0
  rises : ∃ p, SlX.Slot1 K C "own_rises" p 1
  steps : ∃ p, SlX.Slot1 K C "own_steps" p 2
structure ShlF (K : PySem.W.Frag) (D : Addr) : Prop where
  c : ClsF K D
  gaps : ∃ p, SlX.Slot1 K D "own_gaps" p 0
  least : ∃ p, SlX.Slot1 K D "own_least" p 1
  slope : ∃ p, SlX.Slot1 K D "own_slope" p 2
abbrev slv (r s : Int) : List (Option V) := [some (.int 1), some (.int r), some (.int s)]
/-- a coprime slope at x -/
def SlopeAt (C : Addr) (H : Hp) (x : Addr) (r s : Int) : Prop := ∃ dx, H x = some (SlX.SlO x C dx (slv r s)) ∧ H dx = some (.xd [])
theorem SlopeAt.slt {C x : Addr} {H : Hp} {r s : Int} (h : SlopeAt C H x r s) : ∃ dx, SlX.Slt H x C dx (slv r s) := let ⟨dx, a, b⟩ := h; ⟨dx, .inr ⟨a, b⟩⟩
theorem SlopeAt.same {C x : Addr} {H H' : Hp} {r s : Int} (e : Same H H') (h : SlopeAt C H x r s) : SlopeAt C H' x r s := let ⟨dx, a, b⟩ := h; ⟨dx, e _ _ a, e _ _ b⟩
theorem same_slH {H : Hp} {x dx C : Addr} {vs : List (Option V)} (nx : H x = none) (nd : H dx = none) (H1 : Hp) (e : Same H H1) : Same H (SlX.slH H1 x C dx vs) := fun b o q => by
  rw [SlX.slH_ne (ne_of_none q nx) (ne_of_none q nd)]; exact e b o q
section
variable {P : Program} {w : World} {K : PySem.W.Frag} {mg : Str → Option Value} {base : Heap} {C D : Addr}
abbrev Side (n : Int) : Prop := 1 ≤ n ∧ n ≤ 60
theorem Side.bnd {n : Int} (h : Side n) : Bnd n := ⟨by have : (0 : Int) < 10 ^ 60 := by decide
                                                       omega, by have : (60 : Int) < 10 ^ 60 := by decide
                                                                 omega⟩
abbrev Cop (r s : Int) : Prop := Nat.gcd r.natAbs s.natAbs = 1
def spSInit (C : Addr) : Sp := fun vs H Q _ => ∃ (H0 : Hp) (x dx : Addr) (r s : Int), vs = [.ref x, .int r, .int s] ∧ H0 x = none ∧ H0 dx = none ∧ dx ≠ x ∧ H = upd (upd H0 dx (.own x)) x (.ins C dx []) ∧ Side r ∧ Side s ∧ Cop r s ∧ ∀ H', Same H0 H' → SlopeAt C H' x r s → Q .non H'
theorem sc_sinit : FnScope ["self", "rises", "steps"] ["self", "rises", "steps"] (C8.fnScope (mS 1)) := C8.fnScope_by (by decide +kernel)
theorem ok_sinit {f : Addr} (F : MetB K C "__init__" "Slope.__init__" (mS 1) ["self", "rises", "steps"] f) (T : Nm mg C D) (S : SlpF K C) (c1 : C8.Cal P w K mg base 3 "require_from" spReqFrom []) : C8.Mak P w K mg base 4 "Slope" C (spSInit C) [] := by
  obtain ⟨fd, m1, m2, m3, F1, b⟩ := F
  refine C8.mak0 ⟨S.c.makes, m1, m2, S.c.kp⟩ T.slope F1 b .nil sc_sinit (fun vs H Q E h => ?_) (fun cdv A outer s H vs Q E hr h => ?_)
  · obtain ⟨H0, x, dx, r, s, rfl, _⟩ := h
    rfl
  · obtain ⟨H0, x, dx, r, t, rfl, nx, nd, ne, rfl, hr1, hs1, hc, q⟩ := h
    obtain ⟨tS, hS⟩ := T.side
    obtain ⟨p0, h0⟩ := S.common
    obtain ⟨p1, h1⟩ := S.rises
    obtain ⟨p2, h2⟩ := S.steps
    refine ⟨_, pss_cons (ps_expr (C8.pe_c c1 hr (by decide) rfl (pa_cons (pv 1) (pa_cons pe_int (pa_cons (gi hS) pa_nil))))) (pss_cons (ps_expr (C8.pe_c c1 hr (by decide) rfl (pa_cons (pv 2) (pa_cons pe_int (pa_cons (gi hS) pa_nil)))))
      (pss_cons (SlX.ps_sl (pv 0) (pv 1)) (pss_cons (SlX.ps_sl (pv 0) (pv 2)) (pss_one (SlX.ps_sl (pv 0) (pe_callBfun cr_gcd rfl T.gcd (pa_cons (pv 1) (pa_cons (pv 2) pa_nil)))))))), ?_⟩
    refine ⟨_, rfl, r, 1, 60, rfl, hr1.bnd, hr1.1, hr1.2, _, rfl, t, 1, 60, rfl, hs1.bnd, hs1.1, hs1.2, ?_⟩
    refine ⟨_, rfl, _, rfl, x, C, dx, p1, [], 1, rfl, .inl ⟨upd_same, rfl⟩, S.c.sc, h1, ?_⟩
    refine ⟨_, rfl, _, rfl, x, C, dx, p2, _, 2, rfl, SlX.slH_slt ne, S.c.sc, h2, ?_⟩
    refine ⟨_, rfl, _, rfl, r, t, rfl, _, rfl, x, C, dx, p0, _, 0, rfl, SlX.slH_slt ne, S.c.sc, h0, ?_⟩
    refine q _ ?_ ⟨dx, ?_, ?_⟩
    · exact same_slH nx nd _ (same_slH nx nd _ (same_slH nx nd _ fun b o e => by rw [upd_ne (ne_of_none e nx), upd_ne (ne_of_none e nd)]; exact e))
    · show upd _ x _ x = _
      rw [upd_same, hc]
      rfl
    · show upd _ x _ dx = _
      rw [upd_ne ne, upd_same]
def spSExch (C : Addr) : Sp := fun vs H Q _ => ∃ (x : Addr) (r s : Int), vs = [.ref x] ∧ SlopeAt C H x r s ∧ Side r ∧ Side s ∧ Cop r s ∧ ∀ y H', Same H H' → SlopeAt C H' y s r → Q (.ref y) H'
theorem sc_sexch : FnScope ["self"] ["self"] (C8.fnScope (mS 8)) := C8.fnScope_by (by decide +kernel)
theorem ok_sexch {f : Addr} (F : MetB K C "exchanged" "Slope.exchanged" (mS 8) ["self"] f) (S : SlpF K C) (c1 : C8.Mak P w K mg base 4 "Slope" C (spSInit C) []) : FnR P w K mg base CX0 6 f (spSExch C) := by
  obtain ⟨fd, m1, m2, m3, F1, b⟩ := F
  refine fun_raw F1 b sc_sexch (fun vs H Q E h => ?_) (fun cdv A outer s H vs Q E hr h => ?_)
  · obtain ⟨x, r, s, rfl, _⟩ := h
    rfl
  · obtain ⟨x, r, t, rfl, hx, hr1, hs1, hc, q⟩ := h
    obtain ⟨dx, hsl⟩ := hx.slt
    obtain ⟨p1, h1⟩ := S.rises
    obtain ⟨p2, h2⟩ := S.steps
    refine ⟨_, pss_one (ps_ret (C8.pe_mk c1 hr (by decide) rfl (pa_cons (SlX.pe_sl (pv 0)) (pa_cons (SlX.pe_sl (pv 0)) pa_nil)))), ?_⟩
    refine ⟨_, rfl, x, C, dx, p2, _, 2, _, rfl, hsl, S.c.sc, h2, rfl, _, rfl, x, C, dx, p1, _, 1, _, rfl, hsl, S.c.sc, h1, rfl, fun y dy ny nd ne => ?_⟩
    exact ⟨H, y, dy, t, r, rfl, ny, nd, ne, rfl, hs1, hr1, by rw [Cop, Nat.gcd_comm]; exact hc, fun H' sm hs => ⟨rfl, q y H' sm hs⟩⟩
def spSEq (C : Addr) : Sp := fun vs H Q _ => ∃ (x y : Addr) (r s r' s' : Int), vs = [.ref x, .ref y] ∧ SlopeAt C H x r s ∧ SlopeAt C H y r' s' ∧ Q (.bl (decide (r = r') && decide (s = s'))) H
theorem sc_seq : FnScope ["self", "other"] ["self", "other"] (C8.fnScope (mS 9)) := C8.fnScope_by (by decide +kernel)
theorem kit_self {K : PySem.W.Frag} {C : Addr} : PySem.W.kitOne K (.ref C) (.ref C) = some true := by
  unfold PySem.W.kitOne
  rw [if_pos (beq_self_eq_true _)]
theorem ok_seq {f : Addr} (F : MetB K C "__eq__" "Slope.__eq__" (mS 9) ["self", "other"] f) (T : Nm mg C D) (S : SlpF K C) : FnR P w K mg base CX0 1 f (spSEq C) := by
  obtain ⟨fd, m1, m2, m3, F1, b⟩ := F
  refine fun_raw F1 b sc_seq (fun vs H Q E h => ?_) (fun cdv A outer s H vs Q E hr h => ?_)
  · obtain ⟨x, y, r, s, r', s', rfl, _⟩ := h
    rfl
  · obtain ⟨x, y, r, t, r', t', rfl, hx, hy, q⟩ := h
    obtain ⟨dx, hsx⟩ := hx.slt
    obtain ⟨dy, hsy⟩ := hy.slt
    obtain ⟨p1, h1⟩ := S.rises
    obtain ⟨p2, h2⟩ := S.steps
    refine ⟨_, pss_one (ps_ret (pe_and (pe_callB (SlX.call_isiSl (.ref C)) rfl T.isi (by decide +kernel) (pa_cons (pv 1) (pa_cons (pe_glob rfl T.slope (v := .ref C) rfl) pa_nil)))
      (pe_and (pe_cmpR op_eq (SlX.pe_sl (pv 0)) (SlX.pe_sl (pv 1)) (nomark _)) (pe_one (pe_cmpR op_eq (SlX.pe_sl (pv 0)) (SlX.pe_sl (pv 1)) (nomark _)))))), ?_⟩
    refine ⟨_, rfl, y, C, dy, _, .ref C, true, rfl, rfl, fun w z => z, hsy, S.c.sc, S.c.si, kit_self, true, rfl, ?_⟩
    refine ⟨_, rfl, x, C, dx, p1, _, 1, _, rfl, hsx, S.c.sc, h1, rfl, _, rfl, y, C, dy, p1, _, 1, _, rfl, hsy, S.c.sc, h1, rfl, rfl, _, rfl, ?_⟩
    refine ite2 (fun e => ?_) (fun e => ?_)
    · refine ⟨_, rfl, x, C, dx, p2, _, 2, _, rfl, hsx, S.c.sc, h2, rfl, _, rfl, y, C, dy, p2, _, 2, _, rfl, hsy, S.c.sc, h2, rfl, rfl, ?_⟩
      have er : r = r' := by simpa using e
      exact q_bl q (by simp [er])
    · have er : ¬ r = r' := by simpa using e
      exact q_bl q (by simp [er])
def spReqSlope (C : Addr) : Sp := fun vs H Q _ => ∃ (x : Addr) (r s : Int), vs = [.ref x] ∧ SlopeAt C H x r s ∧ Q .non H
theorem sc_rs : FnScope ["value"] ["value"] (C8.fnScope (topS 19)) := C8.fnScope_by (by decide +kernel)
theorem ok_rs (F : DefB K mg "require_slope" (topS 19) ["value"]) (T : Nm mg C D) (S : SlpF K C) : C8.Cal P w K mg base 1 "require_slope" (spReqSlope C) [] := by
  refine def_cal F sc_rs (fun vs H Q E h => ?_) (fun f cdv A outer s H vs Q E g hr h => ?_)
  · obtain ⟨x, r, s, rfl, _⟩ := h
    rfl
  · obtain ⟨x, r, t, rfl, hx, q⟩ := h
    obtain ⟨dx, hsx⟩ := hx.slt
    refine ⟨_, pss_one (ps_if (pt_not (pt_val (pe_callB (SlX.call_isiSl (.ref C)) rfl T.isi (by decide +kernel) (pa_cons (pv 0) (pa_cons (pe_glob rfl T.slope (v := .ref C) rfl) pa_nil))))) pss_never pss_nil), ?_⟩
    exact ⟨_, rfl, x, C, dx, _, .ref C, true, rfl, rfl, fun w z => z, hsx, S.c.sc, S.c.si, kit_self, true, rfl, iteF q⟩
theorem sc_rc : FnScope ["slope"] ["slope"] (C8.fnScope (topS 20)) := C8.fnScope_by (by decide +kernel)
theorem ok_rc (F : DefB K mg "require_coprime" (topS 20) ["slope"]) (S : SlpF K C) : C8.Cal P w K mg base 1 "require_coprime" (spReqSlope C) [] := by
  refine def_cal F sc_rc (fun vs H Q E h => ?_) (fun f cdv A outer s H vs Q E g hr h => ?_)
  · obtain ⟨x, r, s, rfl, _⟩ := h
    rfl
  · obtain ⟨x, r, t, rfl, hx, q⟩ := h
    obtain ⟨dx, hsx⟩ := hx.slt
    obtain ⟨p0, h0⟩ := S.common
    refine ⟨_, pss_one (ps_if (pt_cmpR op_gt (SlX.pe_sl (pv 0)) pe_int (nomark _)) pss_never pss_nil), ?_⟩
    exact ⟨_, rfl, x, C, dx, p0, _, 0, _, rfl, hsx, S.c.sc, h0, rfl, _, _, rfl, rfl, _, rfl, iteF q⟩
end
end KP

namespace KP
open PySem PySem.Spec PyProof.Rows L2
section
variable {X : Cx}
def rComb : List V → Hp → VK → Prop := fun vs H Q => ∃ a b : Int, vs = [.int a, .int b] ∧ 0 ≤ a ∧ 0 ≤ b ∧ a ≤ 1000 ∧ Q (.int (PySem.W.mcComb a b)) H
theorem cr_comb : CallR X (.builtin "math.comb") rComb := by
  intro pins s σ H vs us Q I r h
  obtain ⟨a, b, rfl, ha, hb, h2, q⟩ := h
  obtain ⟨t, u, rfl⟩ := Vals.int2 r
  exact PySem.W.mc_comb ha hb (by omega) (.inr (by omega)) fun _ => ⟨.int _, H, I.tok _, ⟨_, rfl⟩, q⟩
end
section
variable {P : Program} {w : World} {K : PySem.W.Frag} {mg : Str → Option Value} {base : Heap} {C D : Addr}
theorem comb_all : ∀ r ∈ List.range 9, ∀ t ∈ List.range 10, 1 ≤ r → r < t → PySem.W.mcComb (t : Int) (r : Int) / (t : Int) ≤ 5000 := by decide +kernel
theorem comb_le {r t : Int} (h1 : 1 ≤ r) (h2 : r < t) (h3 : t ≤ 9) : PySem.W.mcComb t r / t ≤ 5000 := by
  obtain ⟨a, rfl⟩ := Int.eq_ofNat_of_zero_le (show 0 ≤ r by omega)
  obtain ⟨b, rfl⟩ := Int.eq_ofNat_of_zero_le (show 0 ≤ t by omega)
  exact comb_all a (List.mem_range.mpr (by omega)) b (List.mem_range.mpr (by omega)) (by omega) (by omega)
def spCount (C : Addr) : Sp := fun vs H Q _ => ∃ (x : Addr) (r s : Int), vs = [.ref x] ∧ SlopeAt C H x r s ∧ Side r ∧ Side s ∧ r + s ≤ 9 ∧ ∀ n H', Same H H' → n ≤ 5000 → Q (.int n) H'
abbrev nCount : List Str := ["slope", "common", "rises", "both", "found", "many", "parts", "part"]
theorem sc_count : FnScope nCount ["slope"] (C8.fnScope (topS 21)) := C8.fnScope_by (by decide +kernel)
theorem ok_count (F : DefB K mg "count_of_ways" (topS 21) ["slope"]) (T : Nm mg C D) (S : SlpF K C) : C8.Cal P w K mg base 1 "count_of_ways" (spCount C) [] := by
  refine def_cal F sc_count (fun vs H Q E h => ?_) (fun f cdv A outer s H vs Q E g hr h => ?_)
  · obtain ⟨x, r, s, rfl, _⟩ := h
    rfl
  · obtain ⟨x, r, t, rfl, hx, hr1, hs1, h9, q⟩ := h
    obtain ⟨dx, hsx⟩ := hx.slt
    obtain ⟨p0, h0⟩ := S.common
    obtain ⟨p1, h1⟩ := S.rises
    obtain ⟨p2, h2⟩ := S.steps
    have nd := sc_count.nd
    refine ⟨_, pss_cons (ps_set (i := 1) nd rfl (Or.inl rfl) (SlX.pe_sl (pv 0)))
      (pss_cons (ps_asg (pe_tup (pa_cons (pe_op op_fdiv (SlX.pe_sl (pv 0)) (pv 1)) (pa_cons (pe_op op_fdiv (pe_op op_add (SlX.pe_sl (pv 0)) (SlX.pe_sl (pv 0))) (pv 1)) pa_nil)))
        (pg_tup rfl (pgs_cons (pg_name (i := 2) nd rfl (Or.inr rfl)) (pgs_cons (pg_name (i := 3) nd rfl (Or.inr rfl)) pgs_nil))))
      (pss_cons (ps_set (i := 4) nd rfl (Or.inr rfl) (pe_lst (pa_cons pe_int pa_nil)))
      (pss_cons (ps_for PassesOwn.never rfl (pi_range2 rfl T.range (pa_cons pe_int (pa_cons (pe_op op_add (pv 1) pe_int) pa_nil))) (pg_name (i := 5) nd rfl (Or.inr rfl))
        (pss_cons (ps_setLc (i := 6) (own := [("part", 7)]) (g := gName 7) rfl nd rfl rfl (sw_true rfl rfl rfl (by decide +kernel)) (pi_range2 rfl T.range (pa_cons pe_int (pa_cons (pe_op op_add (pv 5) pe_int) pa_nil)))
            (blkOk_by (N := nCount) (sc := C8.fnScope (topS 21)) (by decide +kernel)) (fun _ _ _ _ _ => pg_name (i := 7) nd rfl (Or.inl rfl)) (fun _ _ _ _ _ => pts_nil)
            (fun _ _ _ _ _ => pe_op op_mul (pe_ix (r := rIxL K) ix_list (pv 4) (pe_op op_sub (pv 5) (pv 7)) (fun _ _ => rfl)) (pe_op op_fdiv (pe_callBfun cr_comb rfl T.comb (pa_cons (pe_op op_mul (pv 7) (pv 3)) (pa_cons (pe_op op_mul (pv 7) (pv 2)) pa_nil))) (pv 3))))
        (pss_one (ps_expr (pe_bm PySem.F.plainAttrs_list PySem.F.slot_list_append PySem.F.type_list_append mt_append (pv 4) (pa_cons (pe_op op_fdiv (pe_callB (cr_sum rfl) rfl T.sum (by decide +kernel) (pa_cons (pv 6) pa_nil)) (pv 5)) pa_nil))))))
      (pss_one (ps_ret (pe_ix ix_list (pv 4) (pv 1) (fun _ _ => rfl))))))), ?_⟩
    refine ⟨_, rfl, x, C, dx, p0, _, 0, _, rfl, hsx, S.c.sc, h0, rfl, ?_⟩
    refine ⟨_, rfl, x, C, dx, p1, _, 1, _, rfl, hsx, S.c.sc, h1, rfl, _, rfl, _, _, rfl, rfl, ⟨by decide, by decide⟩, _, rfl, x, C, dx, p1, _, 1, _, rfl, hsx, S.c.sc, h1, rfl, _, rfl, x, C, dx, p2, _, 2, _, rfl, hsx, S.c.sc, h2, rfl, _, _, rfl, rfl, _, rfl, _, _, rfl, rfl, ⟨by decide, by decide⟩, (by show 2 ≤ sizeLine; decide), fun tp htp => ?_⟩
    have e1 : r / 1 = r := Int.ediv_one r
    have e2 : (r + t) / 1 = r + t := Int.ediv_one _
    refine ⟨tp, _, rfl, SqT.of upd_same, rfl, _, _, rfl, _, _, rfl, rfl, (by show 1 ≤ sizeLine; decide), fun fd hfd => ?_⟩
    have sm0 : Same H (upd (upd H tp (.tup [.int (r / 1), .int ((r + t) / 1)])) fd (.lst [.int 1])) := KC.same_mut (KC.same_new htp) (Same.free (KC.same_new htp) hfd)
    have fd0 : H fd = none := Same.free (KC.same_new htp) hfd
    refine ⟨_, rfl, _, _, rfl, rfl, _, _, rfl, ⟨by decide, by decide, by decide, by decide⟩, for_range (lo := 1) (n := 1) (fun i σ H' => ∃ u v n, Same H H' ∧ σ = [some (.ref x), some (.int 1), some (.int (r / 1)), some (.int ((r + t) / 1)), some (.ref fd), u, v, none] ∧ n ≤ 5000 ∧ H' fd = some (.lst (if i = 0 then [.int 1] else [.int 1, .int n])))
      ⟨none, none, 0, sm0, rfl, by decide, upd_same⟩ ?_ ?_⟩
    · rintro i σ H' hi ⟨u, v, n, sm, rfl, _, hf⟩
      obtain rfl : i = 0 := by omega
      rw [if_pos rfl] at hf
      refine ⟨_, rfl, _, _, rfl, rfl, _, _, rfl, ⟨by decide, by decide, by decide, by decide⟩, KC.lcr_range (lo := 1) (n := 1) (fun _ => true) (KC.RV fun _ => .int (1 * (PySem.W.mcComb ((1 + (0 : Nat)) * ((r + t) / 1)) ((1 + (0 : Nat)) * (r / 1)) / ((r + t) / 1)))) (by decide) (KC.rv_keep _) (fun i H2 hi2 sm2 Ky Kn hy hk => ?_) (fun Dl acc H2 h0 sm2 hD pr => ?_)⟩
      · obtain rfl : i = 0 := by omega
        refine ⟨rfl, _, rfl, _, rfl, _, rfl, _, _, rfl, rfl, fd, _, _, _, rfl, rfl, SqL.of (sm2 _ _ hf), (show atI [V.int 1] ((0 : Nat) : Int) = some (V.int 1) from atI_nat rfl), ?_⟩
        refine ⟨_, rfl, _, rfl, _, _, rfl, rfl, .inl ⟨by decide, by decide⟩, _, rfl, _, rfl, _, _, rfl, rfl, .inl ⟨by decide, by decide⟩, _, _, rfl, ?_, ?_, ?_, _, rfl, _, _, rfl, rfl, ⟨?_, ?_⟩, _, _, rfl, rfl, .inl ⟨by decide, by decide⟩, ?_⟩
        · rw [e2]; omega
        · rw [e1]; omega
        · rw [e2]; omega
        · rw [e2]; omega
        · rw [e2]; omega
        · exact hy _ _ (Same.refl _) rfl rfl
      · have e := KC.rv_all pr
        refine ⟨_, rfl, .inl ⟨rfl, _, SqL.of (sm2 _ _ hf)⟩, _, rfl, Dl, [1 * (PySem.W.mcComb ((1 + (0 : Nat)) * ((r + t) / 1)) ((1 + (0 : Nat)) * (r / 1)) / ((r + t) / 1))], rfl, SqL.of (by rw [hD, e]; rfl), _, rfl, _, _, rfl, rfl, ⟨by decide, by decide⟩, fd, _, _, rfl, rfl, sm2 _ _ hf, (by show 1 < sizeLine; decide), ?_⟩
        have sm3 := KC.same_mut (o := .lst ([V.int 1] ++ [V.int (([1 * (PySem.W.mcComb ((1 + (0 : Nat)) * ((r + t) / 1)) ((1 + (0 : Nat)) * (r / 1)) / ((r + t) / 1))] : List Int).sum / (1 + (0 : Nat)))])) (sm.trans sm2) fd0
        refine ⟨_, _, ([1 * (PySem.W.mcComb ((1 + (0 : Nat)) * ((r + t) / 1)) ((1 + (0 : Nat)) * (r / 1)) / ((r + t) / 1))] : List Int).sum / (1 + (0 : Nat)), sm3, rfl, ?_, upd_same⟩
        have hc := comb_le (r := r) (t := r + t) hr1.1 (by omega) h9
        have e3 : (1 + ((0 : Nat) : Int)) * ((r + t) / 1) = r + t := by rw [e2]; omega
        have e4 : (1 + ((0 : Nat) : Int)) * (r / 1) = r := by rw [e1]; omega
        rw [e3, e4, e2]
        generalize PySem.W.mcComb (r + t) r / (r + t) = z at hc
        show (1 * z + 0) / (1 + ((0 : Nat) : Int)) ≤ 5000
        omega
    · rintro σ H' ⟨u, v, n, sm, rfl, hn, hf⟩
      refine ⟨_, rfl, _, rfl, fd, _, _, _, rfl, rfl, SqL.of hf, (show atI [V.int 1, V.int n] ((1 : Nat) : Int) = some (V.int n) from atI_nat rfl), q n H' sm hn⟩
def spListed (C : Addr) : Sp := fun vs H Q _ => ∃ (x : Addr) (r s : Int), vs = [.ref x] ∧ SlopeAt C H x r s ∧ Side r ∧ Side s ∧ r + s ≤ 9 ∧ ∀ H', Same H H' → Q .non H'
theorem sc_listed : FnScope ["slope"] ["slope"] (C8.fnScope (topS 32)) := C8.fnScope_by (by decide +kernel)
theorem ok_listed (F : DefB K mg "require_listed" (topS 32) ["slope"]) (T : Nm mg C D) (c1 : C8.Cal P w K mg base 1 "count_of_ways" (spCount C) []) : C8.Cal P w K mg base 2 "require_listed" (spListed C) [] := by
  refine def_cal F sc_listed (fun vs H Q E h => ?_) (fun f cdv A outer s H vs Q E g hr h => ?_)
  · obtain ⟨x, r, s, rfl, _⟩ := h
    rfl
  · obtain ⟨x, r, t, rfl, hx, hr1, hs1, h9, q⟩ := h
    obtain ⟨tL, hL⟩ := T.listed
    refine ⟨_, pss_one (ps_if (pt_cmpR op_gt (C8.pe_c c1 hr (by decide) rfl (pa_cons (pv 0) pa_nil)) (gi hL) (nomark _)) pss_never pss_nil), ?_⟩
    refine ⟨_, rfl, x, r, t, rfl, hx, hr1, hs1, h9, fun n H' sm hn => ⟨_, _, rfl, rfl, _, rfl, ?_⟩⟩
    rw [decide_eq_false (by omega)]
    exact iteF (q H' sm)
end
end KP

namespace KP
open PySem PySem.Spec PyProof.Rows L2
theorem inV_ints (x : Int) : ∀ ns : List Int, inV (.int x) (ns.map V.int) = decide (x ∈ ns)
  | [] => rfl
  | n :: r => by
    have e := inV_ints x r
    show (eqV (.int n) (.int x) || inV (.int x) (r.map V.int)) = _
    rw [e]
    show ((n == x) || decide (x ∈ r)) = _
    by_cases h : n = x
    · subst h; simp
    · have h2 : ¬ x = n := fun z => h z.symm
      simp [h, h2]
theorem flat_ints (ns : List Int) : (ns.map V.int).all flatV = true := by
  rw [List.all_eq_true]
  intro v hv
  obtain ⟨n, _, rfl⟩ := List.mem_map.mp hv
  rfl
theorem putK_len {κ : Type} [DecidableEq κ] (kvs : List (κ × V)) (k : κ) (v : V) : (putK kvs k v).length ≤ kvs.length + 1 := by
  unfold putK
  split
  · rw [List.length_map]; omega
  · rw [List.length_append]; exact Nat.le_refl _
section
variable {P : Program} {w : World} {K : PySem.W.Frag} {mg : Str → Option Value} {base : Heap} {C D : Addr}
abbrev GoodP (r s : Int) (G : List Int) : Prop := KW.Good r s G
theorem bnd_good {r s : Int} {G : List Int} (g : KW.Good r s G) : ∀ n ∈ G, Bnd n := fun n hn => by
  have h1 := g.pos n hn
  have h2 := g.small n hn
  have : (1000 : Int) < 10 ^ 60 := by decide
  exact ⟨by omega, by omega⟩
def spAreGaps (C : Addr) : Sp := fun vs H Q _ => ∃ (x t : Addr) (r s : Int) (G : List Int), vs = [.ref x, .ref t] ∧ SlopeAt C H x r s ∧ H t = some (.tup (G.map V.int)) ∧ Side r ∧ Side s ∧ KW.Good r s G ∧ ∀ H', Same H H' → Q (.bl true) H'
abbrev nGaps : List Str := ["slope", "value", "known", "sides", "gap", "side"]
theorem sc_gaps : FnScope nGaps ["slope", "value"] (C8.fnScope (topS 24)) := C8.fnScope_by (by decide +kernel)
theorem ok_gaps (F : DefB K mg "are_gaps" (topS 24) ["slope", "value"]) (T : Nm mg C D) (S : SlpF K C) (c1 : C8.Cal P w K mg base 2 "are_integers" spAreInts []) (c2 : C8.Cal P w K mg base 1 "are_ascending" spAreAsc []) : C8.Cal P w K mg base 3 "are_gaps" (spAreGaps C) [] := by
  refine def_cal F sc_gaps (fun vs H Q E h => ?_) (fun f cdv A outer s H vs Q E g hr h => ?_)
  · obtain ⟨x, t, r, s, G, rfl, _⟩ := h
    rfl
  · obtain ⟨x, t, r, u, G, rfl, hx, ht, hr1, hs1, hG, q⟩ := h
    obtain ⟨dx, hsx⟩ := id hx.slt
    obtain ⟨p1, h1⟩ := S.rises
    obtain ⟨p2, h2⟩ := S.steps
    have nd := sc_gaps.nd
    have hlen := hG.len
    refine ⟨_, pss_cons (ps_if (PW.pt (pw_or (pt_not (pt_val (C8.pe_c c1 hr (by decide) rfl (pa_cons (pv 1) pa_nil)))) (pw_or1 (pt_not (pt_val (C8.pe_c c2 hr (by decide) rfl (pa_cons (pv 1) pa_nil))))))) pss_never pss_nil)
      (pss_cons (ps_asg (pe_tup (pa_cons (pe_dc (own := [("gap", 4)]) (g := gName 4) rfl nd (pi_tup (pv 1)) (blkOk_by (N := nGaps) (sc := C8.fnScope (topS 24)) (by decide +kernel)) (fun _ _ _ _ _ => pg_name (i := 4) nd rfl (Or.inl rfl)) (fun _ _ _ _ _ => pts_nil) (fun _ _ _ _ _ => pv 4) (fun _ _ _ _ _ => pe_bl))
          (pa_cons (pe_tup (pa_cons (SlX.pe_sl (pv 0)) (pa_cons (SlX.pe_sl (pv 0)) pa_nil))) pa_nil)))
        (pg_tup rfl (pgs_cons (pg_name (i := 2) nd rfl (Or.inr rfl)) (pgs_cons (pg_name (i := 3) nd rfl (Or.inl rfl)) pgs_nil))))
      (pss_cons (ps_for PassesOwn.never rfl (pi_tup (pv 1)) (pg_name (i := 4) nd rfl (Or.inr rfl))
        (pss_one (ps_if (PW.pt (pw_or (pt_cmpR op_lt (pv 4) pe_int (nomark _)) (pw_or (pt_cmpR op_in_seq (pv 4) (pv 3) (by with_unfolding_all rfl)) (pw_or1 (pt_not (pt_val (pe_callB (cr_all rfl) rfl T.all (by decide +kernel)
          (pa_cons (pe_lc (own := [("side", 5)]) (g := gName 5) rfl nd (pi_tup (pv 3)) (blkOk_by (N := nGaps) (sc := C8.fnScope (topS 24)) (by decide +kernel)) (fun _ _ _ _ _ => pg_name (i := 5) nd rfl (Or.inl rfl)) (fun _ _ _ _ _ => pts_nil)
            (fun _ _ _ _ _ => pe_or (pe_cmpR op_lt (pv 4) (pv 5) (nomark _)) (pe_one (pe_cmp (pc_din (hu_of hr) (pe_op op_sub (pv 4) (pv 5)) (pv 2)))))) pa_nil)))))))) pss_never pss_nil)))
      (pss_one (ps_ret pe_bl)))), ?_⟩
    refine ⟨_, rfl, t, G, rfl, ht, hlen, bnd_good hG, fun H1 sm1 => ⟨true, rfl, ?_⟩⟩
    refine iteF ⟨_, rfl, t, G, rfl, sm1 _ _ ht, hlen, hG.asc, fun H2 sm2 => ⟨true, rfl, iteF ?_⟩⟩
    have sm12 := sm1.trans sm2
    have ht2 := sm12 _ _ ht
    have hget : ∀ {i : Nat} {y : V}, (G.map V.int)[i]? = some y → ∃ n, G[i]? = some n ∧ y = .int n := fun {i y} e => by
      rw [List.getElem?_map] at e
      cases h : G[i]? with
      | none => rw [h] at e; cases e
      | some n => rw [h] at e; exact ⟨n, rfl, (Option.some.inj e).symm⟩
    refine ⟨_, rfl, t, rfl, ⟨_, SqT.of ht2⟩, fun Dl hDl => dc_tup (K := K) (a := t) (xs := G.map V.int) (fun i H' => Same H2 H' ∧ ∃ kvs, H' Dl = some (.dK kvs) ∧ kvs.length ≤ i ∧ ∀ n : Int, (valV kvs (Sum.inl n)).isSome = decide (n ∈ G.take i))
      ⟨KC.same_new hDl, [], upd_same, Nat.zero_le _, fun n => by rw [List.take_zero]; rfl⟩ (fun i H' _ hP => SqT.of (hP.1 _ _ ht2)) (fun i y H' hy hP => ?_) (fun H' hP => ?_)⟩
    · obtain ⟨n, hn, rfl⟩ := hget hy
      obtain ⟨sm, kvs, hk, hkl, hv⟩ := hP
      have hi : i < G.length := (List.getElem?_eq_some_iff.mp hn).1
      refine ⟨rfl, _, rfl, kvs, Sum.inl n, rfl, hk, Nat.lt_of_le_of_lt (show kvs.length ≤ 1000 by omega) (by decide), KC.same_mut sm hDl, _, upd_same, ?_, fun m => ?_⟩
      · exact Nat.le_trans (putK_len kvs (Sum.inl n) (.bl true)) (by omega)
      · rw [valV_put, KC.take_snoc hn]
        by_cases e : m = n
        · subst e
          rw [if_pos rfl]
          simp
        · rw [if_neg (fun z => e (Sum.inl.inj z)), hv m]
          simp [e]
    · obtain ⟨sm3, kvs, hk, _, hv⟩ := hP
      rw [List.length_map, List.take_length] at hv
      have hD0 : H Dl = none := Same.free sm12 hDl
      have smH3 := sm12.trans sm3
      obtain ⟨dx3, hsx3⟩ := (hx.same smH3).slt
      refine ⟨_, rfl, x, C, dx3, p1, _, 1, _, rfl, hsx3, S.c.sc, h1, rfl, _, rfl, x, C, dx3, p2, _, 2, _, rfl, hsx3, S.c.sc, h2, rfl, (by show 2 ≤ sizeLine; decide), fun sd hsd => ⟨(by show 2 ≤ sizeLine; decide), fun tp htp => ?_⟩⟩
      have sm4 := KC.same_new (o := .tup [V.int r, V.int u]) hsd
      have sm5 := KC.same_new (o := .tup [V.ref Dl, V.ref sd]) htp
      have sm45 := sm4.trans sm5
      refine ⟨tp, _, rfl, SqT.of upd_same, rfl, _, _, rfl, _, _, rfl, rfl, ?_⟩
      have hk5 := sm45 _ _ hk
      have ht5 := (smH3.trans sm45) _ _ ht
      have hs5 := sm5 _ _ (upd_same (H := H') (a := sd) (o := .tup [V.int r, V.int u]))
      generalize upd (upd H' sd _) tp _ = H5 at sm45 hk5 ht5 hs5
      have smH5 := smH3.trans sm45
      refine ⟨_, rfl, t, rfl, ⟨_, SqT.of ht5⟩, for_tup (K := K) (a := t) (xs := G.map V.int) (fun i σ H' => Same H5 H' ∧ ∃ v, σ = [some (.ref x), some (.ref t), some (.ref Dl), some (.ref sd), v, none]) ⟨Same.refl _, none, rfl⟩ (fun i σ H' _ hP => SqT.of (hP.1 _ _ ht5)) ?_ ?_⟩
      · rintro i y σ H6 hy ⟨sm6, v, rfl⟩
        obtain ⟨n, hn, rfl⟩ := hget hy
        have hnG := List.mem_of_getElem? hn
        refine ⟨_, rfl, _, _, rfl, rfl, _, rfl, ?_⟩
        have hpos := hG.pos n hnG
        rw [decide_eq_false (show ¬ n < 1 by omega)]
        refine iteF ⟨_, rfl, _, rfl, sd, _, rfl, .inr (SqT.of (sm6 _ _ hs5)), rfl, rfl, _, rfl, ?_⟩
        have e1 : inV (.int n) [V.int r, V.int u] = false := by
          rw [show [V.int r, V.int u] = ([r, u] : List Int).map V.int from rfl, inV_ints]
          refine decide_eq_false fun z => ?_
          have na := hG.na
          have nb := hG.nb
          simp only [List.mem_cons, List.not_mem_nil, or_false] at z
          rcases z with e | e
          · exact na (e ▸ hnG)
          · exact nb (e ▸ hnG)
        show if (inV (.int n) [V.int r, V.int u]) = true then _ else _
        rw [e1]
        refine iteF ⟨_, rfl, sd, rfl, ⟨_, SqT.of (sm6 _ _ hs5)⟩, KC.lcr_tup (K := K) (src := [r, u]) V.int (fun _ => true) (KC.RV fun _ => .bl true) (SqT.of (sm6 _ _ hs5)) (by show 2 ≤ 100000; decide) (KC.rv_keep _) (fun j m H7 hm sm7 Ky Kn hky hkn => ?_) (fun D2 acc H7 h0 sm7 hD2 pr => ?_)⟩
        · refine ⟨rfl, _, rfl, _, rfl, _, _, rfl, rfl, _, rfl, ?_⟩
          by_cases hlt : n < m
          · rw [decide_eq_true hlt]
            exact iteT (hky _ _ (Same.refl _) rfl rfl)
          · rw [decide_eq_false hlt]
            refine iteF ⟨_, rfl, _, rfl, _, _, rfl, rfl, _, rfl, Dl, _, rfl, DGet.k (k := Sum.inl (n - m)) (sm7 _ _ (sm6 _ _ hk5)), hky _ _ (Same.refl _) ?_ rfl⟩
            have hmem : n - m ∈ G := by
              have hm2 : m = r ∨ m = u := by
                have q := List.mem_of_getElem? hm
                simpa using q
              rcases hm2 with rfl | rfl
              · exact hG.da n hnG (by omega)
              · exact hG.db n hnG (by omega)
            show V.bl _ = V.bl true
            rw [hv, decide_eq_true hmem]
        · have e := KC.rv_all pr
          refine ⟨D2, [true, true], rfl, SqL.of (by rw [hD2, e]; rfl), true, rfl, iteF ⟨sm6.trans sm7, _, rfl⟩⟩
      · rintro σ H6 ⟨sm6, v, rfl⟩
        exact q _ (smH5.trans sm6)
end
end KP

namespace KP
open PySem PySem.Spec PyProof.Rows L2
theorem map_get {α : Type} {f : α → V} {l : List α} {i : Nat} {y : V} (e : (l.map f)[i]? = some y) : ∃ n, l[i]? = some n ∧ y = f n := by
  rw [List.getElem?_map] at e
  cases h : l[i]? with
  | none => rw [h] at e; cases e
  | some n => rw [h] at e; exact ⟨n, rfl, (Option.some.inj e).symm⟩
theorem mod_place {a g : Int} (h : 0 < a) : 0 ≤ g % a ∧ (g % a).toNat < a.toNat := by
  have h1 := Int.emod_nonneg g (show a ≠ 0 by omega)
  have h2 := Int.emod_lt_of_pos g h
  exact ⟨h1, by omega⟩
theorem atI_mod {acc : List Int} {a g : Int} (h : 0 < a) (hl : acc.length = a.toNat) : atI (acc.map V.int) (g % a) = some (.int (acc.getD (g % a).toNat 0)) := by
  obtain ⟨h1, h2⟩ := mod_place (g := g) h
  have e : g % a = (((g % a).toNat : Nat) : Int) := by omega
  rw [e]
  refine atI_nat ?_
  rw [List.getElem?_map]
  have e2 : (((g % a).toNat : Nat) : Int).toNat = (g % a).toNat := by omega
  rw [e2, List.getD_eq_getElem?_getD, List.getElem?_eq_getElem (by omega)]
  rfl
section
variable {P : Program} {w : World} {K : PySem.W.Frag} {mg : Str → Option Value} {base : Heap} {C D : Addr}
def spLeast : Sp := fun vs H Q _ => ∃ (t : Addr) (a : Int) (G : List Int), vs = [.ref t, .int a] ∧ H t = some (.tup (G.map V.int)) ∧ Side a ∧ ∀ p H', Same H H' → H' p = some (.tup ((KW.leastL G a).map V.int)) → Q (.ref p) H'
abbrev nLeast : List Str := ["gaps", "side", "found", "gap", "rest"]
theorem sc_least : FnScope nLeast ["gaps", "side"] (C8.fnScope (topS 25)) := C8.fnScope_by (by decide +kernel)
theorem ok_least (F : DefB K mg "least_by" (topS 25) ["gaps", "side"]) (T : Nm mg C D) : C8.Cal P w K mg base 1 "least_by" spLeast [] := by
  refine def_cal F sc_least (fun vs H Q E h => ?_) (fun f cdv A outer s H vs Q E g hr h => ?_)
  · obtain ⟨t, a, G, rfl, _⟩ := h
    rfl
  · obtain ⟨t, a, G, rfl, ht, ha, q⟩ := h
    have nd := sc_least.nd
    have ha0 : 0 < a := by have := ha.1; omega
    refine ⟨_, pss_cons (ps_setLc (i := 2) (own := [("rest", 4)]) (g := gName 4) rfl nd rfl rfl (sw_true rfl rfl rfl (by decide +kernel)) (pi_range1 rfl T.range (pa_cons (pv 1) pa_nil))
            (blkOk_by (N := nLeast) (sc := C8.fnScope (topS 25)) (by decide +kernel)) (fun _ _ _ _ _ => pg_name (i := 4) nd rfl (Or.inl rfl)) (fun _ _ _ _ _ => pts_nil) (fun _ _ _ _ _ => pv 4))
      (pss_cons (ps_for PassesOwn.never rfl (pi_tup (pv 0)) (pg_name (i := 3) nd rfl (Or.inl rfl))
        (pss_one (ps_asg (pe_op op_add (pe_ix ix_list (pv 2) (pe_op op_mod (pv 3) (pv 1)) (fun _ _ => rfl)) (pv 1)) (pg_sub (pv 2) (pe_op op_mod (pv 3) (pv 1)) set_list (fun _ => rfl)))))
      (pss_one (ps_ret (pe_callTy call_tuple_of rfl T.tuple (by decide +kernel) (pa_cons (pv 2) pa_nil))))), ?_⟩
    refine ⟨_, rfl, a, rfl, by omega, by have := ha.2; omega, KC.lcr_range (lo := 0) (n := a.toNat) (fun _ => true) (KC.RV fun i => .int (0 + (i : Int))) (by have := ha.2; omega) (KC.rv_keep _) (fun i H1 hi sm Ky Kn hy hk => ?_) (fun Dl acc H1 hDl sm1 hD pr => ?_)⟩
    · exact ⟨rfl, _, rfl, hy _ _ (Same.refl _) rfl rfl⟩
    · have e := KC.rv_all pr
      have e2 : acc = (KW.startL a).map V.int := by
        rw [e]
        unfold KW.startL
        rw [List.map_map]
        refine List.map_congr_left fun i _ => ?_
        show V.int (0 + (i : Int)) = V.int (i : Int)
        rw [Int.zero_add]
      rw [e2] at hD
      have ht1 := sm1 _ _ ht
      refine ⟨_, rfl, t, rfl, ⟨_, SqT.of ht1⟩, for_tup (K := K) (a := t) (xs := G.map V.int) (fun i σ H' => Same H H' ∧ ∃ v, σ = [some (.ref t), some (.int a), some (.ref Dl), v, none] ∧ H' Dl = some (.lst (((G.take i).foldl (KW.stepL a) (KW.startL a)).map V.int)))
        ⟨sm1, none, rfl, by rw [List.take_zero]; exact hD⟩ (fun i σ H' _ hP => SqT.of (hP.1 _ _ ht)) ?_ ?_⟩
      · rintro i y σ H2 hy ⟨sm2, v, rfl, hf⟩
        obtain ⟨n, hn, rfl⟩ := map_get hy
        have hl : ((G.take i).foldl (KW.stepL a) (KW.startL a)).length = a.toNat := by rw [KW.foldL_len, KW.startL_len]
        have et := KC.take_snoc hn
        generalize hac : (G.take i).foldl (KW.stepL a) (KW.startL a) = ac at hf hl
        refine ⟨_, rfl, _, rfl, _, rfl, n, a, rfl, rfl, ha0, Dl, _, _, _, rfl, rfl, SqL.of hf, atI_mod ha0 hl, _, rfl, _, _, rfl, rfl, ?_⟩
        refine ⟨_, rfl, _, rfl, _, rfl, n, a, rfl, rfl, ha0, Dl, _, _, (n % a).toNat, rfl, rfl, hf, ?_, KC.same_mut sm2 hDl, _, rfl, ?_⟩
        · obtain ⟨h1, h2⟩ := mod_place (g := n) ha0
          unfold ixN
          rw [if_pos h1, if_pos (by rw [List.length_map, hl]; omega)]
        · rw [upd_same, et, List.foldl_append, hac]
          show some (HO.lst _) = some (HO.lst ((KW.stepL a ac n).map V.int))
          unfold KW.stepL
          rw [List.map_set]
      · rintro σ H2 ⟨sm2, v, rfl, hf⟩
        rw [List.length_map, List.take_length] at hf
        refine ⟨_, rfl, Dl, _, rfl, .inl ⟨SqL.of hf, fun p hp => ?_⟩⟩
        exact q p _ (sm2.trans (KC.same_new hp)) upd_same
/-- a shelf over a coprime slope, its gaps G -/
def ShelfAt (C D : Addr) (H : Hp) (y : Addr) (r s : Int) (G : List Int) : Prop := ∃ dy t l p, H y = some (SlX.SlO y D dy [some (.ref t), some (.ref l), some (.ref p)]) ∧ H dy = some (.xd []) ∧ H t = some (.tup (G.map V.int)) ∧ H l = some (.tup ((KW.leastL G r).map V.int)) ∧ SlopeAt C H p r s
theorem ShelfAt.same {y : Addr} {H H' : Hp} {r s : Int} {G : List Int} (e : Same H H') (h : ShelfAt C D H y r s G) : ShelfAt C D H' y r s G :=
  let ⟨dy, t, l, p, h1, h2, h3, h4, h5⟩ := h
  ⟨dy, t, l, p, e _ _ h1, e _ _ h2, e _ _ h3, e _ _ h4, h5.same e⟩
def spMember (C D : Addr) : Sp := fun vs H Q _ => ∃ (y : Addr) (r s n : Int) (G : List Int), vs = [.ref y, .int n] ∧ ShelfAt C D H y r s G ∧ Side r ∧ KW.Good r s G ∧ Q (.bl (KW.memB G n)) H
theorem sc_member : FnScope ["shelf", "number"] ["shelf", "number"] (C8.fnScope (topS 28)) := C8.fnScope_by (by decide +kernel)
theorem ok_member (F : DefB K mg "is_member" (topS 28) ["shelf", "number"]) (S : SlpF K C) (Z : ShlF K D) : C8.Cal P w K mg base 1 "is_member" (spMember C D) [] := by
  refine def_cal F sc_member (fun vs H Q E h => ?_) (fun f cdv A outer s H vs Q E g hr h => ?_)
  · obtain ⟨y, r, s, n, G, rfl, _⟩ := h
    rfl
  · obtain ⟨y, r, u, n, G, rfl, ⟨dy, t, l, p, h1, h2, h3, h4, h5⟩, hr1, hG, q⟩ := h
    obtain ⟨dx, hsx⟩ := h5.slt
    obtain ⟨p1, k1⟩ := S.rises
    obtain ⟨p2, k2⟩ := Z.least
    obtain ⟨p3, k3⟩ := Z.slope
    have ha0 : 0 < r := by have := hr1.1; omega
    refine ⟨_, pss_one (ps_ret (pe_and (pe_cmpR op_ge (pv 1) pe_int (nomark _)) (pe_one (pe_cmpR op_ge (pv 1) (pe_ix ix_tup (SlX.pe_sl (pv 0)) (pe_op op_mod (pv 1) (SlX.pe_sl (SlX.pe_sl (pv 0)))) (fun _ _ => rfl)) (nomark _))))), ?_⟩
    refine ⟨_, rfl, _, _, rfl, rfl, _, rfl, ?_⟩
    refine ite2 (fun e => ?_) (fun e => ?_)
    · have h0 : 0 ≤ n := by simpa using e
      refine ⟨_, rfl, _, rfl, y, D, dy, p2, _, 1, _, rfl, .inr ⟨h1, h2⟩, Z.c.sc, k2, rfl, _, rfl, _, rfl, y, D, dy, p3, _, 2, _, rfl, .inr ⟨h1, h2⟩, Z.c.sc, k3, rfl, p, C, dx, p1, _, 1, _, rfl, hsx, S.c.sc, k1, rfl, n, r, rfl, rfl, ha0, l, _, _, _, rfl, rfl, SqT.of h4, atI_mod ha0 (KW.leastL_len G r), _, _, rfl, rfl, ?_⟩
      have hm := KW.member_iff ha0 hG n h0
      refine q_bl q ?_
      unfold KW.memB
      exact decide_eq_decide.mpr ⟨fun z => ⟨h0, hm.mp z⟩, fun z => hm.mpr z.2⟩
    · have h0 : ¬ 0 ≤ n := by simpa using e
      refine q_bl q ?_
      unfold KW.memB
      exact (decide_eq_false fun z => h0 z.1).symm
def spWith : Sp := fun vs H Q _ => ∃ (t : Addr) (m : Int) (G : List Int), vs = [.ref t, .int m] ∧ H t = some (.tup (G.map V.int)) ∧ G.length ≤ 1000 ∧ ∀ p H', Same H H' → H' p = some (.tup ((KW.withGap G m).map V.int)) → Q (.ref p) H'
theorem sc_with : FnScope ["gaps", "number"] ["gaps", "number"] (C8.fnScope (topS 29)) := C8.fnScope_by (by decide +kernel)
theorem ok_with (F : DefB K mg "with_gap" (topS 29) ["gaps", "number"]) (T : Nm mg C D) : C8.Cal P w K mg base 1 "with_gap" spWith [] := by
  refine def_cal F sc_with (fun vs H Q E h => ?_) (fun f cdv A outer s H vs Q E g hr h => ?_)
  · obtain ⟨t, m, G, rfl, _⟩ := h
    rfl
  · obtain ⟨t, m, G, rfl, ht, hl, q⟩ := h
    refine ⟨_, pss_one (ps_ret (pe_callTy call_tuple_of rfl T.tuple (by decide +kernel) (pa_cons (pe_callB cr_sortedI rfl T.sorted (by decide +kernel) (pa_cons (pe_lst (StX.pa_star (pv 0) (pa_cons (pv 1) pa_nil))) pa_nil)) pa_nil))), ?_⟩
    refine ⟨_, rfl, t, _, rfl, .inl (SqT.of ht), _, rfl, ?_, fun Dl hDl => ⟨Dl, G ++ [m], rfl, SqL.of (by rw [upd_same, List.map_append]; rfl), fun ns p pm srt hp => ?_⟩⟩
    · rw [List.length_append, List.length_map]
      exact Nat.le_trans (Nat.add_le_add_right hl 1) (by decide)
    · refine ⟨p, _, rfl, .inl ⟨SqL.of upd_same, fun p2 hp2 => ?_⟩⟩
      have e : ns = KW.withGap G m := KW.sortI_of pm srt
      subst e
      exact q p2 _ (((KC.same_new hDl).trans (KC.same_new hp)).trans (KC.same_new hp2)) upd_same
end
end KP

namespace KP
open PySem PySem.Spec PyProof.Rows L2
section
variable {P : Program} {w : World} {K : PySem.W.Frag} {mg : Str → Option Value} {base : Heap} {C D : Addr}
def spHInit (C D : Addr) : Sp := fun vs H Q _ => ∃ (H0 : Hp) (y dy x t : Addr) (r s : Int) (G : List Int), vs = [.ref y, .ref x, .ref t] ∧ H0 y = none ∧ H0 dy = none ∧ dy ≠ y ∧ H = upd (upd H0 dy (.own y)) y (.ins D dy []) ∧
  SlopeAt C H0 x r s ∧ H0 t = some (.tup (G.map V.int)) ∧ Side r ∧ Side s ∧ KW.Good r s G ∧ ∀ H', Same H0 H' → ShelfAt C D H' y r s G → Q .non H'
theorem sc_hinit : FnScope ["self", "slope", "gaps"] ["self", "slope", "gaps"] (C8.fnScope (mH 1)) := C8.fnScope_by (by decide +kernel)
theorem ok_hinit {f : Addr} (F : MetB K D "__init__" "Shelf.__init__" (mH 1) ["self", "slope", "gaps"] f) (T : Nm mg C D) (S : SlpF K C) (Z : ShlF K D) (c1 : C8.Cal P w K mg base 1 "require_slope" (spReqSlope C) []) (c2 : C8.Cal P w K mg base 1 "require_coprime" (spReqSlope C) [])
    (c3 : C8.Cal P w K mg base 3 "are_gaps" (spAreGaps C) []) (c4 : C8.Cal P w K mg base 1 "least_by" spLeast []) : C8.Mak P w K mg base 4 "Shelf" D (spHInit C D) [] := by
  obtain ⟨fd, m1, m2, m3, F1, b⟩ := F
  refine C8.mak0 ⟨Z.c.makes, m1, m2, Z.c.kp⟩ T.shelf F1 b .nil sc_hinit (fun vs H Q E h => ?_) (fun cdv A outer s H vs Q E hr h => ?_)
  · obtain ⟨H0, y, dy, x, t, r, s, G, rfl, _⟩ := h
    rfl
  · obtain ⟨H0, y, dy, x, t, r, u, G, rfl, ny, nd, ne, rfl, hx, ht, hr1, hs1, hG, q⟩ := h
    have sm0 : Same H0 (upd (upd H0 dy (.own y)) y (.ins D dy [])) := fun b o e => by rw [upd_ne (ne_of_none e ny), upd_ne (ne_of_none e nd)]; exact e
    have hy0 : upd (upd H0 dy (.own y)) y (.ins D dy []) y = some (.ins D dy []) := upd_same
    obtain ⟨p1, k1⟩ := S.rises
    obtain ⟨q0, z0⟩ := Z.gaps
    obtain ⟨q1, z1⟩ := Z.least
    obtain ⟨q2, z2⟩ := Z.slope
    refine ⟨_, pss_cons (ps_expr (C8.pe_c c1 hr (by decide) rfl (pa_cons (pv 1) pa_nil))) (pss_cons (ps_expr (C8.pe_c c2 hr (by decide) rfl (pa_cons (pv 1) pa_nil)))
      (pss_cons (ps_if (pt_not (pt_val (C8.pe_c c3 hr (by decide) rfl (pa_cons (pv 1) (pa_cons (pv 2) pa_nil))))) pss_never pss_nil)
      (pss_cons (SlX.ps_sl (pv 0) (pv 1)) (pss_cons (SlX.ps_sl (pv 0) (pv 2)) (pss_one (SlX.ps_sl (pv 0) (C8.pe_c c4 hr (by decide) rfl (pa_cons (pv 2) (pa_cons (SlX.pe_sl (pv 1)) pa_nil))))))))), ?_⟩
    refine ⟨_, rfl, x, r, u, rfl, hx.same sm0, _, rfl, x, r, u, rfl, hx.same sm0, _, rfl, _, rfl, x, t, r, u, G, rfl, hx.same sm0, sm0 _ _ ht, hr1, hs1, hG, fun H1 sm1 => ⟨true, rfl, iteF ?_⟩⟩
    have sm01 := sm0.trans sm1
    have hy1 := sm1 _ _ hy0
    refine ⟨_, rfl, _, rfl, y, D, dy, q2, [], 2, rfl, .inl ⟨hy1, rfl⟩, Z.c.sc, z2, ?_⟩
    refine ⟨_, rfl, _, rfl, y, D, dy, q0, _, 0, rfl, SlX.slH_slt ne, Z.c.sc, z0, ?_⟩
    have sm3 := same_slH (C := D) (vs := SlX.putS 0 (.ref t) (SlX.putS 2 (.ref x) [])) ny nd _ (same_slH (C := D) (vs := SlX.putS 2 (.ref x) []) ny nd _ sm01)
    have hy3 : SlX.Slt (SlX.slH (SlX.slH H1 y D dy (SlX.putS 2 (V.ref x) [])) y D dy (SlX.putS 0 (V.ref t) (SlX.putS 2 (V.ref x) []))) y D dy _ := SlX.slH_slt ne
    generalize SlX.slH (SlX.slH H1 y D dy (SlX.putS 2 (V.ref x) [])) y D dy (SlX.putS 0 (V.ref t) (SlX.putS 2 (V.ref x) [])) = H3 at sm3 hy3
    obtain ⟨dx, hsx⟩ := (hx.same sm3).slt
    refine ⟨_, rfl, _, rfl, x, C, dx, p1, _, 1, _, rfl, hsx, S.c.sc, k1, rfl, t, r, G, rfl, sm3 _ _ ht, hr1, fun l H4 sm4 hl => ?_⟩
    have hy4 : H4 y = some (SlX.SlO y D dy (SlX.putS 0 (.ref t) (SlX.putS 2 (.ref x) []))) ∧ H4 dy = some (.xd []) := by
      rcases hy3 with ⟨_, e⟩ | ⟨a, b⟩
      · exact absurd e (by show ¬ ([some (V.ref t), none, some (V.ref x)] : List (Option V)) = []; simp)
      · exact ⟨sm4 _ _ a, sm4 _ _ b⟩
    refine ⟨_, rfl, y, D, dy, q1, _, 1, rfl, .inr hy4, Z.c.sc, z1, ?_⟩
    have sm5 := same_slH (C := D) (vs := SlX.putS 1 (.ref l) (SlX.putS 0 (.ref t) (SlX.putS 2 (.ref x) []))) ny nd _ (sm3.trans sm4)
    refine q _ sm5 ⟨dy, t, l, x, ?_, ?_, sm5 _ _ ht, ?_, hx.same sm5⟩
    · show upd _ y _ y = _
      rw [upd_same]
      rfl
    · show upd _ y _ dy = _
      rw [upd_ne ne, upd_same]
    · rw [SlX.slH_ne (ne_of hl hy4.1 (fun z => nomatch z)) (ne_of hl hy4.2 (fun z => nomatch z))]
      exact hl
theorem ShelfAt.slt {y : Addr} {H : Hp} {r s : Int} {G : List Int} (h : ShelfAt C D H y r s G) : ∃ dy t l p, SlX.Slt H y D dy [some (.ref t), some (.ref l), some (.ref p)] ∧ H t = some (.tup (G.map V.int)) ∧ H l = some (.tup ((KW.leastL G r).map V.int)) ∧ SlopeAt C H p r s :=
  let ⟨dy, t, l, p, h1, h2, h3, h4, h5⟩ := h
  ⟨dy, t, l, p, .inr ⟨h1, h2⟩, h3, h4, h5⟩
def spHSlope (C D : Addr) : Sp := fun vs H Q _ => ∃ (y : Addr) (r s : Int) (G : List Int), vs = [.ref y] ∧ ShelfAt C D H y r s G ∧ ∀ p, SlopeAt C H p r s → Q (.ref p) H
def spHGaps (C D : Addr) : Sp := fun vs H Q _ => ∃ (y : Addr) (r s : Int) (G : List Int), vs = [.ref y] ∧ ShelfAt C D H y r s G ∧ ∀ t, H t = some (.tup (G.map V.int)) → Q (.ref t) H
theorem sc_hslope : FnScope ["self"] ["self"] (C8.fnScope (mH 4)) := C8.fnScope_by (by decide +kernel)
theorem sc_hgaps : FnScope ["self"] ["self"] (C8.fnScope (mH 5)) := C8.fnScope_by (by decide +kernel)
theorem ok_hslope {f : Addr} {fd : FuncData} (F1 : C8.Fun K "slope" "Shelf.slope" (mH 4) f fd) (b : Binds K fd ["self"] []) (Z : ShlF K D) : FnR P w K mg base CX0 1 f (spHSlope C D) := by
  refine fun_raw F1 b sc_hslope (fun vs H Q E h => ?_) (fun cdv A outer s H vs Q E hr h => ?_)
  · obtain ⟨y, r, s, G, rfl, _⟩ := h
    rfl
  · obtain ⟨y, r, u, G, rfl, hy, q⟩ := h
    obtain ⟨dy, t, l, p, hsl, ht, hl, hp⟩ := hy.slt
    obtain ⟨q2, z2⟩ := Z.slope
    exact ⟨_, pss_one (ps_ret (SlX.pe_sl (pv 0))), _, rfl, y, D, dy, q2, _, 2, _, rfl, hsl, Z.c.sc, z2, rfl, q p hp⟩
theorem ok_hgaps {f : Addr} {fd : FuncData} (F1 : C8.Fun K "gaps" "Shelf.gaps" (mH 5) f fd) (b : Binds K fd ["self"] []) (Z : ShlF K D) : FnR P w K mg base CX0 1 f (spHGaps C D) := by
  refine fun_raw F1 b sc_hgaps (fun vs H Q E h => ?_) (fun cdv A outer s H vs Q E hr h => ?_)
  · obtain ⟨y, r, s, G, rfl, _⟩ := h
    rfl
  · obtain ⟨y, r, u, G, rfl, hy, q⟩ := h
    obtain ⟨dy, t, l, p, hsl, ht, hl, hp⟩ := hy.slt
    obtain ⟨q2, z2⟩ := Z.gaps
    exact ⟨_, pss_one (ps_ret (SlX.pe_sl (pv 0))), _, rfl, y, D, dy, q2, _, 0, _, rfl, hsl, Z.c.sc, z2, rfl, q t ht⟩
def spHMak (C D : Addr) : Sp := fun vs H Q _ => ∃ (y : Addr) (r s : Int) (G : List Int), vs = [.ref y] ∧ ShelfAt C D H y r s G ∧ Side r ∧ KW.Good r s G ∧ ∀ t H', Same H H' → H' t = some (.tup ((KW.makersL r s G).map V.int)) → Q (.ref t) H'
abbrev nMak : List Str := ["self", "steps", "member"]
theorem sc_hmak : FnScope nMak ["self"] (C8.fnScope (mH 8)) := C8.fnScope_by (by decide +kernel)
theorem ok_hmak {f : Addr} {fd : FuncData} (F1 : C8.Fun K "makers" "Shelf.makers" (mH 8) f fd) (b : Binds K fd ["self"] []) (T : Nm mg C D) (S : SlpF K C) (Z : ShlF K D) (c1 : C8.Cal P w K mg base 1 "is_member" (spMember C D) []) : FnR P w K mg base CX0 2 f (spHMak C D) := by
  refine fun_raw F1 b sc_hmak (fun vs H Q E h => ?_) (fun cdv A outer s H vs Q E hr h => ?_)
  · obtain ⟨y, r, s, G, rfl, _⟩ := h
    rfl
  · obtain ⟨y, r, u, G, rfl, hy, hr1, hG, q⟩ := h
    obtain ⟨dy, t, l, p, hsl, ht, hl, hp⟩ := hy.slt
    obtain ⟨dx, hsx⟩ := hp.slt
    obtain ⟨p2, k2⟩ := S.steps
    obtain ⟨q1, z1⟩ := Z.least
    obtain ⟨q2, z2⟩ := Z.slope
    have nd := sc_hmak.nd
    have ll := KW.leastL_len G r
    have hr2 := hr1.2
    refine ⟨_, pss_cons (ps_set (i := 1) nd rfl (Or.inr rfl) (SlX.pe_sl (SlX.pe_sl (pv 0))))
      (pss_one (ps_ret (pe_callTy call_tuple_of rfl T.tuple (by decide +kernel) (pa_cons (pe_lc (own := [("member", 2)]) (g := gName 2) (tt := tNot (tB (tCall (spMember C D) [] C8.E0 (tCons (tVar 0) (tCons (tOp (rI0 fun i j => .int (i - j)) (tVar 2) (tVar 1)) tNil))))) rfl nd
        (pi_list (pe_callB KSr.cr_sortedTI rfl T.sorted (by decide +kernel) (pa_cons (SlX.pe_sl (pv 0)) pa_nil))) (blkOk_by (N := nMak) (sc := C8.fnScope (mH 8)) (by decide +kernel)) (fun _ _ _ _ _ => pg_name (i := 2) nd rfl (Or.inl rfl))
        (fun _ _ _ _ _ => pts_one (pt_not (pt_val (C8.pe_c c1 hr (by decide) rfl (pa_cons (pv 0) (pa_cons (pe_op op_sub (pv 2) (pv 1)) pa_nil)))))) (fun _ _ _ _ _ => pv 2)) pa_nil)))), ?_⟩
    refine ⟨_, rfl, y, D, dy, q2, _, 2, _, rfl, hsl, Z.c.sc, z2, rfl, p, C, dx, p2, _, 2, _, rfl, hsx, S.c.sc, k2, rfl, ?_⟩
    refine ⟨_, rfl, y, D, dy, q1, _, 1, _, rfl, hsl, Z.c.sc, z1, rfl, l, KW.leastL G r, rfl, SqT.of hl, fun ns a pm srt ha => ?_⟩
    have e : ns = KW.sortI (KW.leastL G r) := KW.sortI_of pm srt
    have lns : ns.length = r.toNat := by rw [pm.length_eq, ll]
    have sm1 := KC.same_new (o := .lst (ns.map V.int)) ha
    refine ⟨a, rfl, ⟨_, SqL.of upd_same⟩, KC.lcr_list (K := K) (src := ns) V.int (fun m => !KW.memB G (m - u)) (KC.RV fun m => .int m) (SqL.of upd_same) (by omega) (KC.rv_keep _) (fun i m H1 hm sm Ky Kn hyy hkn => ?_) (fun Dl acc H1 h0 sm hD pr => ?_)⟩
    · refine ⟨rfl, _, rfl, _, rfl, _, rfl, _, _, rfl, rfl, y, r, u, m - u, G, rfl, hy.same (sm1.trans sm), hr1, hG, _, rfl, ?_⟩
      refine ite2 (fun e => ⟨_, rfl, hyy _ _ (Same.refl _) rfl e⟩) (fun e => hkn _ (Same.refl _) (by simpa using e))
    · have ea := KC.rv_some pr
      refine ⟨Dl, _, rfl, .inl ⟨SqL.of hD, fun t2 ht2 => q t2 _ ((sm1.trans sm).trans (KC.same_new ht2)) ?_⟩⟩
      rw [upd_same, ea, e]
      rfl
end
end KP

namespace KP
open PySem PySem.Spec PyProof.Rows L2
abbrev dT (ns : List Int) : PyData := .tuple (ns.map PyData.int)
abbrev dL (ks : List (List Int)) : PyData := .list (ks.map dT)
theorem lay_ints : ∀ ns : List Int, PyData.canLayAll0 (ns.map PyData.int) = true
  | [] => by simp only [List.map_nil, PyData.canLayAll0]
  | n :: r => by
    rw [List.map_cons, PyData.canLayAll0, lay_ints r, PyData.canLay0]
    rfl
theorem dep_ints : ∀ ns : List Int, PyData.depthAll (ns.map PyData.int) = 0
  | [] => by simp only [List.map_nil, PyData.depthAll]
  | n :: r => by
    rw [List.map_cons, PyData.depthAll, dep_ints r, PyData.depth]
    rfl
theorem shp_T (ns : List Int) : SeqAt.shaped (dT ns) = true := by
  unfold SeqAt.shaped
  rw [show (dT ns).canLay0 = true by rw [PyData.canLay0]; exact lay_ints ns, show (dT ns).depth = 1 by rw [PyData.depth, dep_ints]]
  rfl
theorem lay_tups : ∀ ks : List (List Int), PyData.canLayAll0 (ks.map dT) = true
  | [] => by simp only [List.map_nil, PyData.canLayAll0]
  | n :: r => by
    rw [List.map_cons, PyData.canLayAll0, lay_tups r, PyData.canLay0, lay_ints]
    rfl
theorem dep_tups : ∀ ks : List (List Int), PyData.depthAll (ks.map dT) ≤ 1
  | [] => by simp only [List.map_nil, PyData.depthAll]; omega
  | n :: r => by
    rw [List.map_cons, PyData.depthAll, PyData.depth, dep_ints]
    have := dep_tups r
    omega
theorem shp_L (ks : List (List Int)) : SeqAt.shaped (dL ks) = true := by
  unfold SeqAt.shaped
  rw [show (dL ks).canLay0 = true by rw [PyData.canLay0]; exact lay_tups ks]
  have h : (dL ks).depth ≤ 64 := by
    rw [PyData.depth]
    have := dep_tups ks
    omega
  rw [decide_eq_true h]
  rfl
theorem eqv_ints : ∀ ns ms : List Int, PyData.eqvAll (ns.map PyData.int) (ms.map PyData.int) = decide (ns = ms)
  | [], [] => by simp [PyData.eqvAll]
  | [], _ :: _ => by simp [PyData.eqvAll]
  | _ :: _, [] => by simp [PyData.eqvAll]
  | n :: r, m :: q => by
    rw [List.map_cons, List.map_cons, PyData.eqvAll, eqv_ints r q, PyData.eqv]
    by_cases h : n = m
    · subst h; simp
    · simp [h]
theorem eqv_T (ns ms : List Int) : PyData.eqv (dT ns) (dT ms) = decide (ns = ms) := by
  rw [PyData.eqv]; exact eqv_ints ns ms
theorem eqv_L_refl (ks : List (List Int)) : PyData.eqv (dL ks) (dL ks) = true := by
  rw [PyData.eqv]
  induction ks with
  | nil => simp [PyData.eqvAll]
  | cons n r ih => rw [List.map_cons, PyData.eqvAll, ih, eqv_T]; simp
section
variable {K : PySem.W.Frag} {H : Hp}
theorem dp_ints : ∀ ns : List Int, DpAll K H (ns.map V.int) (ns.map PyData.int)
  | [] => .nil
  | n :: r => .cons (.int n) (dp_ints r)
theorem dp_T {t : Addr} {ns : List Int} (h : SqT K H t (ns.map V.int)) : Dp K H (.ref t) (dT ns) := .tup h (dp_ints ns)
theorem dp_tups : ∀ {ks : List (List Int)} {vs : List V}, Paired (fun ns v => ∃ t, v = V.ref t ∧ H t = some (.tup (ns.map V.int))) ks vs → DpAll K H vs (ks.map dT)
  | _, _, .nil => .nil
  | _, _, .cons ⟨t, e, h⟩ r => by
    subst e
    exact .cons (dp_T (SqT.of h)) (dp_tups r)
theorem dp_L {l : Addr} {ks : List (List Int)} {vs : List V} (h : SqL K H l vs) (p : Paired (fun ns v => ∃ t, v = V.ref t ∧ H t = some (.tup (ns.map V.int))) ks vs) : Dp K H (.ref l) (dL ks) := .lst h (dp_tups p)
end
end KP

namespace KP
open PySem PySem.Spec PyProof.Rows L2
theorem atI_lastG {G : List Int} (h : G ≠ []) : atI (G.map V.int) (-1) = some (.int (KW.lastG G)) := by
  obtain ⟨M, z, rfl⟩ := SrtO.snoc_of (l := G) (by cases G with | nil => exact absurd rfl h | cons x r => simp)
  rw [List.map_append]
  refine (atI_last (M.map V.int) (.int z)).trans ?_
  unfold KW.lastG
  rw [List.getLast?_append]
  rfl
theorem cut_if {c : Bool} {A B : TE} {σ : L2.St} {H : Hp} {Q : VK} (v : V) (h1 : c = true → ∀ Q' : VK, Q' v H → A σ H Q') (h2 : c = false → ∀ Q' : VK, Q' v H → B σ H Q') (q : Q v H) : if c = true then A σ H Q else B σ H Q := by
  cases c with
  | true => exact iteT (h1 rfl Q q)
  | false => exact iteF (h2 rfl Q q)
theorem dual_range (G : List Int) : ((List.range (KW.lastG G - -1).toNat).filter fun i : Nat => KW.memB G (KW.lastG G + (i : Int) * -1)).map (fun i : Nat => V.int (KW.lastG G - (KW.lastG G + (i : Int) * -1))) = (KW.dualL G).map V.int := by
  unfold KW.dualL
  rw [List.filter_map, List.map_map]
  have e : (KW.lastG G - -1).toNat = (KW.lastG G + 1).toNat := by omega
  rw [e]
  have e2 : (List.range (KW.lastG G + 1).toNat).filter (fun i : Nat => KW.memB G (KW.lastG G + (i : Int) * -1)) = (List.range (KW.lastG G + 1).toNat).filter ((fun i => decide (KW.lastG G - i ∉ G)) ∘ fun n : Nat => (n : Int)) := by
    refine List.filter_congr fun i hi => ?_
    have hl := List.mem_range.mp hi
    have e3 : KW.lastG G + (i : Int) * -1 = KW.lastG G - i := by omega
    rw [e3]
    unfold KW.memB
    refine decide_eq_decide.mpr ⟨fun z => z.2, fun z => ⟨by omega, z⟩⟩
  rw [e2]
  refine List.map_congr_left fun i _ => ?_
  show V.int (KW.lastG G - (KW.lastG G + (i : Int) * -1)) = V.int (i : Int)
  congr 1
  omega
section
variable {P : Program} {w : World} {K : PySem.W.Frag} {mg : Str → Option Value} {base : Heap} {C D : Addr}
def spHDual (C D : Addr) : Sp := fun vs H Q _ => ∃ (y : Addr) (r s : Int) (G : List Int), vs = [.ref y] ∧ ShelfAt C D H y r s G ∧ Side r ∧ Side s ∧ KW.Good r s G ∧ ∀ z H', Same H H' → ShelfAt C D H' z r s (KW.dualL G) → Q (.ref z) H'
abbrev nDual : List Str := ["self", "greatest", "found", "member"]
theorem sc_hdual : FnScope nDual ["self"] (C8.fnScope (mH 10)) := C8.fnScope_by (by decide +kernel)
theorem ok_hdual {f : Addr} (F : MetB K D "dual" "Shelf.dual" (mH 10) ["self"] f) (T : Nm mg C D) (S : SlpF K C) (Z : ShlF K D) (c1 : C8.Cal P w K mg base 1 "is_member" (spMember C D) []) (c2 : C8.Mak P w K mg base 4 "Shelf" D (spHInit C D) []) : FnR P w K mg base CX0 6 f (spHDual C D) := by
  obtain ⟨fd, m1, m2, m3, F1, b⟩ := F
  refine fun_raw F1 b sc_hdual (fun vs H Q E h => ?_) (fun cdv A outer s H vs Q E hr h => ?_)
  · obtain ⟨y, r, s, G, rfl, _⟩ := h
    rfl
  · obtain ⟨y, r, u, G, rfl, hy, hr1, hs1, hG, q⟩ := h
    obtain ⟨dy, t, l, p, hsl, ht, hl, hp⟩ := hy.slt
    obtain ⟨q0, z0⟩ := Z.gaps
    obtain ⟨q2, z2⟩ := Z.slope
    have nd := sc_hdual.nd
    have hge := KW.lastG_ge hG
    refine ⟨_, pss_cons (ps_set (i := 1) nd rfl (Or.inr rfl) (pe_ifExp (pt_cmpR (op_neD hr.units) (SlX.pe_sl (pv 0)) (pe_tup pa_nil) (nomark _)) (pe_ix ix_tup (SlX.pe_sl (pv 0)) (pe_un un_neg pe_int) (fun _ _ => rfl)) (pe_un un_neg pe_int)))
      (pss_cons (ps_setLc (i := 2) (own := [("member", 3)]) (g := gName 3) rfl nd rfl rfl (sw_true rfl rfl rfl (by decide +kernel)) (pi_range3 rfl T.range (pa_cons (pv 1) (pa_cons (pe_un un_neg pe_int) (pa_cons (pe_un un_neg pe_int) pa_nil))))
            (blkOk_by (N := nDual) (sc := C8.fnScope (mH 10)) (by decide +kernel)) (fun _ _ _ _ _ => pg_name (i := 3) nd rfl (Or.inl rfl)) (fun _ _ _ _ _ => pts_one (pt_val (C8.pe_c c1 hr (by decide) rfl (pa_cons (pv 0) (pa_cons (pv 3) pa_nil))))) (fun _ _ _ _ _ => pe_op op_sub (pv 1) (pv 3)))
      (pss_one (ps_ret (C8.pe_mk c2 hr (by decide) rfl (pa_cons (SlX.pe_sl (pv 0)) (pa_cons (pe_callTy call_tuple_of rfl T.tuple (by decide +kernel) (pa_cons (pv 2) pa_nil)) pa_nil)))))), ?_⟩
    refine ⟨_, rfl, y, D, dy, q0, _, 0, _, rfl, hsl, Z.c.sc, z0, rfl, (by show 0 ≤ sizeLine; decide), fun e0 he0 => ⟨_, dT [], dp_T (SqT.of (KC.same_new he0 _ _ ht)), dp_T (SqT.of upd_same), shp_T _, shp_T _, _, rfl, ?_⟩⟩
    have sm0 := KC.same_new (o := .tup ([] : List V)) he0
    rw [eqv_T]
    have hsl0 : SlX.Slt (upd H e0 (.tup [])) y D dy [some (.ref t), some (.ref l), some (.ref p)] := by
      obtain ⟨dy', t', l', p', h1, h2, _⟩ := hy
      rcases hsl with ⟨_, e⟩ | ⟨a, b⟩
      · cases e
      · exact .inr ⟨sm0 _ _ a, sm0 _ _ b⟩
    refine cut_if (.int (KW.lastG G)) (fun hc Q' k => ?_) (fun hc Q' k => ?_) ?_
    · have hn : G ≠ [] := by simpa using hc
      exact ⟨_, rfl, y, D, dy, q0, _, 0, _, rfl, hsl0, Z.c.sc, z0, rfl, _, rfl, t, _, _, _, rfl, rfl, SqT.of (sm0 _ _ ht), atI_lastG hn, k⟩
    · have hn : G = [] := by simpa using hc
      subst hn
      exact ⟨_, rfl, k⟩
    · refine ⟨_, rfl, _, rfl, _, rfl, _, _, _, _, rfl, RgC.neg (by omega) (by omega) (by decide) (by decide), KC.lcr_rangeC (lo := KW.lastG G) (c := -1) (fun i => KW.memB G (KW.lastG G + (i : Int) * -1)) (KC.RV fun i => .int (KW.lastG G - (KW.lastG G + (i : Int) * -1))) (by omega) (KC.rv_keep _) (fun i H2 hi sm2 Ky Kn hyy hkn => ?_) (fun Dl acc H2 hDl sm2 hD pr => ?_)⟩
      · refine ⟨rfl, _, rfl, _, rfl, y, r, u, _, G, rfl, (hy.same sm0).same sm2, hr1, hG, _, rfl, ?_⟩
        exact ite2 (fun e => ⟨_, rfl, _, rfl, _, _, rfl, rfl, hyy _ _ (Same.refl _) rfl e⟩) (fun e => hkn _ (Same.refl _) (by simpa using e))
      · have ea : acc = (KW.dualL G).map V.int := (KC.rv_some pr).trans (dual_range G)
        rw [ea] at hD
        have sm3 := sm0.trans sm2
        obtain ⟨dy3, t3, l3, p3, hsl3, ht3, hl3, hp3⟩ := (hy.same sm3).slt
        refine ⟨_, rfl, y, D, dy3, q2, _, 2, _, rfl, hsl3, Z.c.sc, z2, rfl, _, rfl, Dl, _, rfl, .inl ⟨SqL.of hD, fun t4 ht4 z dz nz ndz ne => ?_⟩⟩
        have sm4 := KC.same_new (o := .tup ((KW.dualL G).map V.int)) ht4
        exact ⟨_, z, dz, p3, t4, r, u, KW.dualL G, rfl, nz, ndz, ne, rfl, hp3.same sm4, upd_same, hr1, hs1, KW.dual_good (by have := hr1.1; omega) (by have := hs1.1; omega) hG, fun H' sm5 hz => ⟨rfl, q z H' ((sm3.trans sm4).trans sm5) hz⟩⟩
def spHExch (C D : Addr) : Sp := fun vs H Q _ => ∃ (y : Addr) (r s : Int) (G : List Int), vs = [.ref y] ∧ ShelfAt C D H y r s G ∧ Side r ∧ Side s ∧ Cop r s ∧ KW.Good r s G ∧ ∀ z H', Same H H' → ShelfAt C D H' z s r G → Q (.ref z) H'
theorem sc_hexch : FnScope ["self"] ["self"] (C8.fnScope (mH 11)) := C8.fnScope_by (by decide +kernel)
theorem ok_hexch {f g1 : Addr} (F : MetB K D "exchanged" "Shelf.exchanged" (mH 11) ["self"] f) (S : SlpF K C) (Z : ShlF K D) (M1 : Meth K C "exchanged" g1) (c1 : FnR P w K mg base CX0 6 g1 (spSExch C)) (c2 : C8.Mak P w K mg base 4 "Shelf" D (spHInit C D) []) : FnR P w K mg base CX0 7 f (spHExch C D) := by
  obtain ⟨fd, m1, m2, m3, F1, b⟩ := F
  refine fun_raw F1 b sc_hexch (fun vs H Q E h => ?_) (fun cdv A outer s H vs Q E hr h => ?_)
  · obtain ⟨y, r, s, G, rfl, _⟩ := h
    rfl
  · obtain ⟨y, r, u, G, rfl, hy, hr1, hs1, hcp, hG, q⟩ := h
    obtain ⟨dy, t, l, p, hsl, ht, hl, hp⟩ := hy.slt
    obtain ⟨dx, hsx⟩ := hp.slt
    obtain ⟨q0, z0⟩ := Z.gaps
    obtain ⟨q2, z2⟩ := Z.slope
    refine ⟨_, pss_one (ps_ret (C8.pe_mk c2 hr (by decide) rfl (pa_cons (SlX.pe_methSl0 (E := E0) (SlX.pe_sl (pv 0)) S.c.sc M1 c1 hr pass0) (pa_cons (SlX.pe_sl (pv 0)) pa_nil)))), ?_⟩
    refine ⟨_, rfl, y, D, dy, q2, _, 2, _, rfl, hsl, Z.c.sc, z2, rfl, p, dx, _, rfl, hsx, p, r, u, rfl, hp, hr1, hs1, hcp, fun p2 H1 sm1 hp2 => ?_⟩
    obtain ⟨dy1, t1, l1, p1, hsl1, ht1, hl1, hp1⟩ := (hy.same sm1).slt
    refine ⟨_, rfl, y, D, dy1, q0, _, 0, _, rfl, hsl1, Z.c.sc, z0, rfl, fun z dz nz ndz ne => ?_⟩
    exact ⟨H1, z, dz, p2, t1, u, r, G, rfl, nz, ndz, ne, rfl, hp2, ht1, hs1, hr1, hG.swap, fun H' sm5 hz => ⟨rfl, q z H' (sm1.trans sm5) hz⟩⟩
def spHRem (C D : Addr) : Sp := fun vs H Q _ => ∃ (y : Addr) (r s : Int) (G : List Int), vs = [.ref y] ∧ ShelfAt C D H y r s G ∧ Side r ∧ KW.Good r s G ∧ ∀ t H', Same H H' → H' t = some (.tup ((KW.removL r s G).map V.int)) → Q (.ref t) H'
theorem sc_hrem : FnScope ["self"] ["self"] (C8.fnScope (mH 13)) := C8.fnScope_by (by decide +kernel)
theorem ok_hrem {f g1 : Addr} (F : MetB K D "removable" "Shelf.removable" (mH 13) ["self"] f) (Z : ShlF K D) (M1 : PropB K D "makers" "Shelf.makers" (mH 8) g1) (c1 : FnR P w K mg base CX0 2 g1 (spHMak C D)) : FnR P w K mg base CX0 4 f (spHRem C D) := by
  obtain ⟨fd, m1, m2, m3, F1, b⟩ := F
  obtain ⟨pp, fdp, n1, n2, n3, n4, _, _⟩ := M1
  refine fun_raw F1 b sc_hrem (fun vs H Q E h => ?_) (fun cdv A outer s H vs Q E hr h => ?_)
  · obtain ⟨y, r, s, G, rfl, _⟩ := h
    rfl
  · obtain ⟨y, r, u, G, rfl, hy, hr1, hG, q⟩ := h
    obtain ⟨dy, t, l, p, hsl, ht, hl, hp⟩ := hy.slt
    refine ⟨_, pss_one (ps_ret (pe_slice sl_tupA (SlX.pe_propSl (E := E0) (pv 0) Z.c.sc n1 n2 n3 n4 c1 hr (fun _ _ _ _ z => z.elim)) (po_some pe_int) po_none)), ?_⟩
    refine ⟨_, rfl, y, dy, _, rfl, hsl, y, r, u, G, rfl, hy, hr1, hG, fun t1 H1 sm1 ht1 => ⟨1, rfl, t1, _, rfl, SqT.of ht1, fun hw => ?_, fun hw p2 hp2 => ?_⟩⟩
    · cases em : KW.makersL r u G with
      | nil => exact q t1 H1 sm1 (by unfold KW.removL; rw [ht1, em]; rfl)
      | cons x xs =>
        rw [em] at hw
        exact absurd hw (cut1 (.int x) (xs.map V.int)).2
    · cases em : KW.makersL r u G with
      | nil =>
        rw [em] at hw
        exact absurd ⟨rfl, rfl⟩ hw
      | cons x xs =>
        have e : cutV ((x :: xs).map V.int) (some 1) none = xs.map V.int := (cut1 (.int x) (xs.map V.int)).1
        rw [e]
        refine q p2 _ (sm1.trans (KC.same_new hp2)) ?_
        unfold KW.removL
        rw [upd_same, em]
        rfl
def spHEq (C D : Addr) : Sp := fun vs H Q _ => ∃ (y z : Addr) (r s : Int) (G G' : List Int), vs = [.ref y, .ref z] ∧ ShelfAt C D H y r s G ∧ ShelfAt C D H z r s G' ∧ Q (.bl (decide (G = G'))) H
theorem sc_heq : FnScope ["self", "other"] ["self", "other"] (C8.fnScope (mH 20)) := C8.fnScope_by (by decide +kernel)
theorem ok_heq {f g1 : Addr} (F : MetB K D "__eq__" "Shelf.__eq__" (mH 20) ["self", "other"] f) (T : Nm mg C D) (S : SlpF K C) (Z : ShlF K D) (e1 : PySem.W.findIn K (.ref C) "__eq__" = some (some (.ref g1))) (e2 : PySem.W.isFn K (.ref g1) = true) (c1 : FnR P w K mg base CX0 1 g1 (spSEq C)) : FnR P w K mg base CX0 2 f (spHEq C D) := by
  obtain ⟨fd, m1, m2, m3, F1, b⟩ := F
  refine fun_raw F1 b sc_heq (fun vs H Q E h => ?_) (fun cdv A outer s H vs Q E hr h => ?_)
  · obtain ⟨y, z, r, s, G, G', rfl, _⟩ := h
    rfl
  · obtain ⟨y, z, r, u, G, G', rfl, hy, hz, q⟩ := h
    obtain ⟨dy, t, l, p, hsl, ht, hl, hp⟩ := hy.slt
    obtain ⟨dz, t', l', p', hsl', ht', hl', hp'⟩ := hz.slt
    obtain ⟨dx, hsx⟩ := hp.slt
    obtain ⟨dx', hsx'⟩ := hp'.slt
    obtain ⟨q0, z0⟩ := Z.gaps
    obtain ⟨q2, z2⟩ := Z.slope
    refine ⟨_, pss_one (ps_ret (pe_and (pe_callB (SlX.call_isiSl (.ref D)) rfl T.isi (by decide +kernel) (pa_cons (pv 1) (pa_cons (pe_glob rfl T.shelf (v := .ref D) rfl) pa_nil)))
      (pe_and (pe_cmpR (SlX.op_own (E := E0) (fun _ _ => rfl) e1 e2 c1 hr pass0) (SlX.pe_sl (pv 0)) (SlX.pe_sl (pv 1)) (nomark _)) (pe_one (pe_cmpR (op_eqD hr.units) (SlX.pe_sl (pv 0)) (SlX.pe_sl (pv 1)) (nomark _)))))), ?_⟩
    refine ⟨_, rfl, z, D, dz, _, .ref D, true, rfl, rfl, fun w z => z, hsl', Z.c.sc, Z.c.si, kit_self, true, rfl, ?_⟩
    refine ⟨_, rfl, y, D, dy, q2, _, 2, _, rfl, hsl, Z.c.sc, z2, rfl, _, rfl, z, D, dz, q2, _, 2, _, rfl, hsl', Z.c.sc, z2, rfl, p, dx, _, p', C, dx', _, rfl, rfl, hsx, hsx', S.c.nf, p, p', r, u, r, u, rfl, hp, hp', _, rfl, ?_⟩
    rw [decide_eq_true rfl, decide_eq_true rfl]
    refine iteT ⟨_, rfl, y, D, dy, q0, _, 0, _, rfl, hsl, Z.c.sc, z0, rfl, _, rfl, z, D, dz, q0, _, 0, _, rfl, hsl', Z.c.sc, z0, rfl, dT G, dT G', dp_T (SqT.of ht), dp_T (SqT.of ht'), shp_T _, shp_T _, ?_⟩
    exact q_bl q (eqv_T G G')
theorem sc_isg : FnScope ["slope", "value"] ["slope", "value"] (C8.fnScope (topS 31)) := C8.fnScope_by (by decide +kernel)
theorem ok_isg (F : DefB K mg "is_gaps" (topS 31) ["slope", "value"]) (c1 : C8.Cal P w K mg base 1 "require_slope" (spReqSlope C) []) (c2 : C8.Cal P w K mg base 1 "require_coprime" (spReqSlope C) []) (c3 : C8.Cal P w K mg base 3 "are_gaps" (spAreGaps C) []) : C8.Cal P w K mg base 4 "is_gaps" (spAreGaps C) [] := by
  refine def_cal F sc_isg (fun vs H Q E h => ?_) (fun f cdv A outer s H vs Q E g hr h => ?_)
  · obtain ⟨x, t, r, s, G, rfl, _⟩ := h
    rfl
  · obtain ⟨x, t, r, u, G, rfl, hx, ht, hr1, hs1, hG, q⟩ := h
    refine ⟨_, pss_cons (ps_expr (C8.pe_c c1 hr (by decide) rfl (pa_cons (pv 0) pa_nil))) (pss_cons (ps_expr (C8.pe_c c2 hr (by decide) rfl (pa_cons (pv 0) pa_nil))) (pss_one (ps_ret (C8.pe_c c3 hr (by decide) rfl (pa_cons (pv 0) (pa_cons (pv 1) pa_nil)))))), ?_⟩
    exact ⟨_, rfl, x, r, u, rfl, hx, _, rfl, x, r, u, rfl, hx, _, rfl, _, rfl, x, t, r, u, G, rfl, hx, ht, hr1, hs1, hG, q⟩
end
end KP

namespace KP
open PySem PySem.Spec PyProof.Rows L2
/-- a loop of n turns -/
theorem for_gen {J : It} {n : Nat} {g : TG} {tb : TS} {D : Ends} {σ : L2.St} {H : Hp} (Pv : Nat → L2.St → Hp → Prop) (h0 : Pv 0 σ H) (hgo : ∀ i σ H, i < n → Pv i σ H → J.go i H) (hstop : ∀ σ H, Pv n σ H → J.stop n H)
    (hs : ∀ i x σ H H', i < n → Pv i σ H → J.yld i H x H' → g x σ H' fun σ2 H2 => tb { D with nx := Pv (i + 1), ct := Pv (i + 1), bk := D.nx } σ2 H2) (hd : ∀ σ H, Pv n σ H → D.nx σ H) :
    ∃ W : Nat → Nat → L2.St → Hp → Prop, (∃ m, W 0 m σ H) ∧ ∀ i m σ H, W i m σ H →
      (J.stop i H ∧ D.nx σ H) ∨ (J.go i H ∧ ∃ N : L2.St → Hp → Prop, (∀ σ' H', N σ' H' → ∃ m', m' < m ∧ W (i + 1) m' σ' H') ∧ ∀ x H', J.yld i H x H' → g x σ H' fun σ2 H2 => tb { D with nx := N, ct := N, bk := D.nx } σ2 H2) := by
  refine ⟨fun i m σ H => m = n - i ∧ i ≤ n ∧ Pv i σ H, ⟨n, by simp, Nat.zero_le _, h0⟩, ?_⟩
  rintro i m σ H ⟨rfl, hi, p⟩
  by_cases hlt : i < n
  · exact .inr ⟨hgo i σ H hlt p, Pv (i + 1), fun σ' H' p' => ⟨n - (i + 1), by omega, rfl, hlt, p'⟩, fun x H' y => hs i x σ H H' hlt p y⟩
  · have e : i = n := by omega
    subst e
    exact .inl ⟨hstop σ H p, hd σ H p⟩
/-- the keys of a layer and its dict -/
def Lay (ks : List (List Int)) (kvs : List (List Key × V)) : Prop := Paired (fun (G : List Int) (p : List Key × V) => p.1 = G.map Sum.inl ∧ ∃ n, p.2 = V.int n) ks kvs
theorem inl_inj {G G' : List Int} (h : (G.map Sum.inl : List Key) = G'.map Sum.inl) : G = G' := by
  induction G generalizing G' with
  | nil => cases G' with
    | nil => rfl
    | cons _ _ => cases h
  | cons x r ih => cases G' with
    | nil => cases h
    | cons y q =>
      rw [List.map_cons, List.map_cons] at h
      injection h with h1 h2
      rw [Sum.inl.inj h1, ih h2]
theorem lay_val : ∀ {ks : List (List Int)} {kvs : List (List Key × V)}, Lay ks kvs → ∀ G : List Int, (G ∈ ks → ∃ n, valV kvs (G.map Sum.inl) = some (.int n)) ∧ (G ∉ ks → valV kvs (G.map Sum.inl) = none)
  | _, _, .nil, G => ⟨fun h => by simp at h, fun _ => rfl⟩
  | _, _, .cons (a := G0) (b := p) ⟨h1, n, h2⟩ t, G => by
    obtain ⟨i1, i2⟩ := lay_val t G
    by_cases e : G = G0
    · subst e
      refine ⟨fun _ => ⟨n, ?_⟩, fun z => absurd List.mem_cons_self z⟩
      rw [valV_pos h1, h2]
    · have hne : ¬ p.1 = G.map Sum.inl := fun z => e (inl_inj (z.symm.trans h1))
      refine ⟨fun z => ?_, fun z => ?_⟩
      · rw [valV_neg hne]
        rcases List.mem_cons.mp z with z | z
        · exact absurd z e
        · exact i1 z
      · rw [valV_neg hne]
        exact i2 fun y => z (List.mem_cons_of_mem _ y)
theorem lay_map {G : List Int} {n : Int} : ∀ {ks : List (List Int)} {kvs : List (List Key × V)}, Lay ks kvs → Lay ks (kvs.map fun kv => if kv.1 = G.map Sum.inl then (kv.1, V.int n) else kv)
  | _, _, .nil => .nil
  | _, _, .cons (b := p) ⟨h1, m, h2⟩ t => by
    refine .cons ?_ (lay_map t)
    dsimp only
    split
    · exact ⟨h1, n, rfl⟩
    · exact ⟨h1, m, h2⟩
theorem lay_put {ks : List (List Int)} {kvs : List (List Key × V)} (h : Lay ks kvs) (G : List Int) (n : Int) : Lay (KW.addK ks G) (putK kvs (G.map Sum.inl) (.int n)) := by
  obtain ⟨i1, i2⟩ := lay_val h G
  unfold KW.addK
  by_cases e : G ∈ ks
  · rw [if_pos e]
    unfold putK
    obtain ⟨m, hm⟩ := i1 e
    rw [valV_any, hm]
    exact lay_map h
  · rw [if_neg e, putK_new _ (i2 e)]
    exact KC.paired_snoc h ⟨rfl, n, rfl⟩
theorem lay_len {ks : List (List Int)} {kvs : List (List Key × V)} (h : Lay ks kvs) : ks.length = kvs.length := Paired.length h
theorem lay_get : ∀ {ks : List (List Int)} {kvs : List (List Key × V)} {i : Nat} {k : List Key} {v : V}, Lay ks kvs → kvs[i]? = some (k, v) → ∃ G n, ks[i]? = some G ∧ k = G.map Sum.inl ∧ v = V.int n
  | _, _, i, k, v, .nil, e => by simp at e
  | _, _, 0, k, v, .cons (a := G) ⟨h1, n, h2⟩ t, e => by
    obtain rfl := Option.some.inj e
    exact ⟨G, n, rfl, h1, h2⟩
  | _, _, i + 1, k, v, .cons h t, e => lay_get (i := i) t e
theorem addK_mono (acc : List (List Int)) (G : List Int) : acc.length ≤ (KW.addK acc G).length := by
  unfold KW.addK
  split
  · exact Nat.le_refl _
  · rw [List.length_append]; omega
theorem addF_mono (f : Int → List Int) : ∀ (l : List Int) (acc : List (List Int)), acc.length ≤ (l.foldl (fun acc m => KW.addK acc (f m)) acc).length
  | [], _ => Nat.le_refl _
  | m :: l, acc => Nat.le_trans (addK_mono acc (f m)) (addF_mono f l _)
theorem growF_mono (r s : Int) : ∀ (l : List (List Int)) (acc : List (List Int)), acc.length ≤ (l.foldl (KW.growOne r s) acc).length
  | [], _ => Nat.le_refl _
  | G :: l, acc => Nat.le_trans (addF_mono _ _ acc) (growF_mono r s l _)
theorem fold_part {α β : Type} (f : β → α → β) (l : List α) (i : Nat) (a : β) : l.foldl f a = (l.drop i).foldl f ((l.take i).foldl f a) := by
  rw [← List.foldl_append, List.take_append_drop]
section
variable {P : Program} {w : World} {K : PySem.W.Frag} {mg : Str → Option Value} {base : Heap} {C D : Addr}
def spGrown (C : Addr) : Sp := fun vs H Q _ => ∃ (x d : Addr) (r s : Int) (ks : List (List Int)) (kvs : List (List Key × V)), vs = [.ref x, .ref d] ∧ SlopeAt C H x r s ∧ H d = some (.dT kvs) ∧ Lay ks kvs ∧ Side r ∧ Side s ∧ (∀ G ∈ ks, KW.Good r s G) ∧ (KW.grownK r s ks).length ≤ 1000 ∧
  ∀ d' H' kvs', Same H H' → H' d' = some (.dT kvs') → Lay (KW.grownK r s ks) kvs' → Q (.ref d') H'
abbrev nGrown : List Str := ["slope", "layer", "found", "gaps", "number", "member", "grown"]
theorem sc_grown : FnScope nGrown ["slope", "layer"] (C8.fnScope (topS 33)) := C8.fnScope_by (by decide +kernel)
theorem ok_grown {g1 : Addr} (F : DefB K mg "grown_from" (topS 33) ["slope", "layer"]) (Z : ShlF K D) (M1 : Meth K D "removable" g1) (c1 : FnR P w K mg base CX0 4 g1 (spHRem C D)) (c2 : C8.Mak P w K mg base 4 "Shelf" D (spHInit C D) []) (c3 : C8.Cal P w K mg base 1 "with_gap" spWith []) :
    C8.Cal P w K mg base 6 "grown_from" (spGrown C) [] := by
  refine def_cal F sc_grown (fun vs H Q E h => ?_) (fun f cdv A outer s H vs Q E g hr h => ?_)
  · obtain ⟨x, d, r, s, ks, kvs, rfl, _⟩ := h
    rfl
  · obtain ⟨x, d, r, u, ks, kvs, rfl, hx, hd, hL, hr1, hs1, hG, hlen, q⟩ := h
    have nd := sc_grown.nd
    refine ⟨_, pss_cons (ps_set (i := 2) nd rfl (Or.inl rfl) pe_dnewT)
      (pss_cons (ps_lock (ps_for PassesOwn.never rfl (KDt.pi_itemsT (pv 1)) (pg_tup rfl (pgs_cons (pg_name (i := 3) nd rfl (Or.inl rfl)) (pgs_cons (pg_name (i := 4) nd rfl (Or.inl rfl)) pgs_nil)))
        (pss_one (ps_for PassesOwn.never rfl (pi_tup (SlX.pe_methSl0 (E := E0) (C8.pe_mk c2 hr (by decide) rfl (pa_cons (pv 0) (pa_cons (pv 3) pa_nil))) Z.c.sc M1 c1 (hr.mono (by decide)) pass0)) (pg_name (i := 5) nd rfl (Or.inl rfl))
          (pss_cons (ps_set (i := 6) nd rfl (Or.inl rfl) (C8.pe_c c3 hr (by decide) rfl (pa_cons (pv 3) (pa_cons (pv 5) pa_nil))))
            (pss_one (ps_dput (hu_of hr) (pv 2) (pv 6) (pe_op op_add (pe_dget2 (hu_of hr) (pv 2) (pv 6) pe_int ⟨rfl, rfl, rfl, rfl⟩) (pv 4)) rfl)))))))
      (pss_one (ps_ret (pv 2)))), ?_⟩
    intro fd hfd
    have ndf : d ≠ fd := ne_of_none hd hfd
    refine ⟨d, .dT kvs, (by show upd H fd _ d = _; rw [upd_ne ndf]; exact hd), trivial, fun od => ?_⟩
    -- all but found, the layer locked
    have hB : ∀ b o, upd H d (.frz od (.dT kvs)) b = some o → upd (upd H fd (.dT [])) d (.frz od (.dT kvs)) b = some o := fun b o e => by
      by_cases hb : b = d
      · subst hb; rw [upd_same] at e ⊢; exact e
      · rw [upd_ne hb] at e ⊢
        rw [upd_ne (ne_of_none e hfd)]
        exact e
    have hfB : upd H d (.frz od (.dT kvs)) fd = none := by rw [upd_ne (Ne.symm ndf)]; exact hfd
    have hdB : upd H d (.frz od (.dT kvs)) d = some (.frz od (.dT kvs)) := upd_same
    have hxB : SlopeAt C (upd H d (.frz od (.dT kvs))) x r u := by
      obtain ⟨dx, h1, h2⟩ := hx
      exact ⟨dx, by rw [upd_ne (ne_of h1 hd (fun z => nomatch z))]; exact h1, by rw [upd_ne (ne_of h2 hd (fun z => nomatch z))]; exact h2⟩
    have hback : ∀ H', Same (upd H d (.frz od (.dT kvs))) H' → Same H (upd H' d (.dT kvs)) := fun H' sm b o e => by
      by_cases hb : b = d
      · subst hb; rw [hd] at e; rw [upd_same]; exact e
      · rw [upd_ne hb]
        exact sm b o (by rw [upd_ne hb]; exact e)
    generalize upd H d (.frz od (.dT kvs)) = HB at hB hfB hdB hxB hback
    refine ⟨_, rfl, d, od, kvs, rfl, hB _ _ hdB, for_gen (n := kvs.length) (fun i σ H' => Same HB H' ∧ ∃ (kf : List (List Key × V)) (a b c e : Option V), σ = [some (.ref x), some (.ref d), some (.ref fd), a, b, c, e] ∧ H' fd = some (.dT kf) ∧ Lay ((ks.take i).foldl (KW.growOne r u) []) kf)
      ⟨hB, [], none, none, none, none, rfl, (by rw [upd_ne (Ne.symm ndf), upd_same]), by rw [List.take_zero]; exact Paired.nil⟩ (fun i σ H' hi hP => ⟨hP.1 _ _ hdB, hi⟩) (fun σ H' hP => ⟨hP.1 _ _ hdB, Nat.le_refl _⟩) ?_ ?_⟩
    · rintro i y σ H1 H2 hi ⟨sm1, kf, a, b, c, e, rfl, hkf, hLf⟩ ⟨T, k, v, qa, hkv, rfl, hqa, hT, rfl⟩
      obtain ⟨G, n, hks, rfl, rfl⟩ := lay_get hL hkv
      rw [KSr.kV_ints] at hqa
      have hGG := hG G (List.mem_of_getElem? hks)
      have smT := KC.same_new (o := .tup [V.ref qa, V.int n]) hT
      refine ⟨T, _, rfl, SqT.of upd_same, rfl, _, _, rfl, _, _, rfl, rfl, ?_⟩
      have hxT := (hxB.same sm1).same smT
      have hqT := smT _ _ hqa
      have hfT := smT _ _ hkf
      have smT' := sm1.trans smT
      generalize upd H1 T (.tup [V.ref qa, V.int n]) = H2 at smT hxT hqT hfT smT'
      have et := KC.take_snoc hks
      have hlen2 : ∀ j, (((KW.removL r u G).take j).foldl (fun acc m => KW.addK acc (KW.withGap G m)) ((ks.take i).foldl (KW.growOne r u) [])).length ≤ 1000 := fun j => by
        refine Nat.le_trans ?_ hlen
        unfold KW.grownK
        rw [fold_part (KW.growOne r u) ks (i + 1), et, List.foldl_append]
        refine Nat.le_trans ?_ (growF_mono r u _ _)
        show _ ≤ (KW.growOne r u ((ks.take i).foldl (KW.growOne r u) []) G).length
        unfold KW.growOne
        rw [fold_part (fun acc m => KW.addK acc (KW.withGap G m)) (KW.removL r u G) j]
        exact addF_mono _ _ _
      refine ⟨_, rfl, _, rfl, fun z dz nz ndz ne => ⟨H2, z, dz, x, qa, r, u, G, rfl, nz, ndz, ne, rfl, hxT, hqT, hr1, hs1, hGG, fun H3 sm3 hz => ⟨rfl, ?_⟩⟩⟩
      obtain ⟨dz3, t3, l3, p3, hsz, _, _, _⟩ := hz.slt
      refine ⟨z, dz3, _, rfl, hsz, z, r, u, G, rfl, hz, hr1, hGG, fun t1 H4 sm4 ht1 => ⟨t1, rfl, ⟨_, SqT.of ht1⟩, ?_⟩⟩
      have sm34 := sm3.trans sm4
      refine for_tup (K := K) (a := t1) (xs := (KW.removL r u G).map V.int) (fun j σ H' => Same HB H' ∧ H' qa = some (.tup (G.map V.int)) ∧ H' t1 = some (.tup ((KW.removL r u G).map V.int)) ∧ ∃ (kf : List (List Key × V)) (c e : Option V), σ = [some (.ref x), some (.ref d), some (.ref fd), some (.ref qa), some (.int n), c, e] ∧ H' fd = some (.dT kf) ∧ Lay (((KW.removL r u G).take j).foldl (fun acc m => KW.addK acc (KW.withGap G m)) ((ks.take i).foldl (KW.growOne r u) [])) kf)
        ⟨smT'.trans sm34, sm34 _ _ hqT, ht1, kf, _, _, rfl, sm34 _ _ hfT, by rw [List.take_zero]; exact hLf⟩ (fun j σ H' _ hP => SqT.of hP.2.2.1) ?_ ?_
      · rintro j y σ H5 hj ⟨sm5, hq5, ht5, kf5, c5, e5, rfl, hf5, hL5⟩
        obtain ⟨m, hm, rfl⟩ := map_get hj
        have hl5 := hlen2 j
        refine ⟨_, rfl, _, rfl, qa, m, G, rfl, hq5, hGG.len, fun tw H6 sm6 htw => ?_⟩
        have hf6 := sm6 _ _ hf5
        have hget := DGet.t (k := (KW.withGap G m).map Sum.inl) hf6 (by rw [KSr.kV_ints]; exact htw)
        have hval : ∃ v : Int, (valV kf5 ((KW.withGap G m).map Sum.inl)).getD (.int 0) = .int v := by
          obtain ⟨i1, i2⟩ := lay_val hL5 (KW.withGap G m)
          by_cases hmem : KW.withGap G m ∈ ((KW.removL r u G).take j).foldl (fun acc m => KW.addK acc (KW.withGap G m)) ((ks.take i).foldl (KW.growOne r u) [])
          · obtain ⟨v, e⟩ := i1 hmem
            exact ⟨v, by rw [e]; rfl⟩
          · exact ⟨0, by rw [i2 hmem]; rfl⟩
        obtain ⟨v, hv⟩ := hval
        refine ⟨_, rfl, fd, rfl, .inr ⟨_, .inl hf6⟩, _, rfl, _, hget, _, rfl, v, n, hv, rfl, _, rfl, _, rfl, fd, _, rfl, DPut.t (k := (KW.withGap G m).map Sum.inl) hf6 (by rw [KSr.kV_ints]; exact htw) ?_, ?_⟩
        · rw [← lay_len hL5]
          exact Nat.lt_of_le_of_lt hl5 (by decide)
        · have nq : qa ≠ fd := ne_of hq5 hf5 (fun z => nomatch z)
          have nt : t1 ≠ fd := ne_of ht5 hf5 (fun z => nomatch z)
          refine ⟨KC.same_mut (sm5.trans sm6) hfB, by rw [upd_ne nq]; exact sm6 _ _ hq5, by rw [upd_ne nt]; exact sm6 _ _ ht5, _, _, _, rfl, upd_same, ?_⟩
          rw [KC.take_snoc hm, List.foldl_append]
          exact lay_put hL5 _ _
      · rintro σ H5 ⟨sm5, hq5, ht5, kf5, c5, e5, rfl, hf5, hL5⟩
        rw [List.length_map, List.take_length] at hL5
        refine ⟨sm5, kf5, _, _, _, _, rfl, hf5, ?_⟩
        rw [et, List.foldl_append]
        exact hL5
    · rintro σ H1 ⟨sm1, kf, a, b, c, e, rfl, hkf, hLf⟩
      rw [← lay_len hL, List.take_length] at hLf
      refine ⟨sm1 _ _ hdB, _, rfl, ?_⟩
      exact q fd _ kf (hback _ sm1) (by rw [upd_ne (Ne.symm ndf)]; exact hkf) hLf
end
end KP

namespace KP
open PySem PySem.Spec PyProof.Rows L2
theorem paired_perm {α β : Type} {R : α → β → Prop} {cs bs : List β} (p : cs.Perm bs) : ∀ {as : List α}, Paired R as bs → ∃ as', as'.Perm as ∧ Paired R as' cs := by
  induction p with
  | nil => intro as h; exact ⟨as, List.Perm.refl _, h⟩
  | cons x _ ih =>
    intro as h
    cases h with
    | cons h t =>
      obtain ⟨as', p', q'⟩ := ih t
      exact ⟨_ :: as', p'.cons _, .cons h q'⟩
  | swap x y l =>
    intro as h
    cases h with
    | cons h t =>
      cases t with
      | cons h2 t =>
        exact ⟨_, List.Perm.swap _ _ _, .cons h2 (.cons h t)⟩
  | trans _ _ ih1 ih2 =>
    intro as h
    obtain ⟨as1, p1, q1⟩ := ih2 h
    obtain ⟨as2, p2, q2⟩ := ih1 q1
    exact ⟨as2, p2.trans p1, q2⟩
theorem paired_get {α β : Type} {R : α → β → Prop} : ∀ {as : List α} {bs : List β} {i : Nat} {b : β}, Paired R as bs → bs[i]? = some b → ∃ a, as[i]? = some a ∧ R a b
  | _, _, i, b, .nil, e => by simp at e
  | _, _, 0, b, .cons h t, e => by
    obtain rfl := Option.some.inj e
    exact ⟨_, rfl, h⟩
  | _, _, i + 1, b, .cons h t, e => paired_get (i := i) t e
theorem lay_keys {H : Hp} : ∀ {ks : List (List Int)} {kvs : List (List Key × V)} {bs : List Addr}, Lay ks kvs → IsKeys H kvs bs → Paired (fun (G : List Int) b => H b = some (.tup (G.map V.int))) ks bs
  | _, _, _, .nil, .nil => .nil
  | _, _, _, .cons ⟨h1, n, h2⟩ t, .cons h q => .cons (by rw [h, h1, KSr.kV_ints]) (lay_keys t q)
theorem lay_ints' : ∀ {ks : List (List Int)} {kvs : List (List Key × V)}, Lay ks kvs → ∀ p ∈ kvs, ∃ ns : List Int, p.1 = ns.map Sum.inl
  | _, _, .nil, p, h => by simp at h
  | _, _, .cons ⟨h1, n, h2⟩ t, p, h => by
    rcases List.mem_cons.mp h with rfl | h
    · exact ⟨_, h1⟩
    · exact lay_ints' t p h
theorem lay_nil {ks : List (List Int)} {kvs : List (List Key × V)} (h : Lay ks kvs) : kvs = [] ↔ ks = [] := by
  cases h <;> simp
section
variable {P : Program} {w : World} {K : PySem.W.Frag} {mg : Str → Option Value} {base : Heap} {C D : Addr}
/-- the shelves at the values vs -/
def Shelves (C D : Addr) (r s : Int) (H : Hp) (Gs : List (List Int)) (vs : List V) : Prop := Paired (fun G v => ∃ y, v = V.ref y ∧ ShelfAt C D H y r s G) Gs vs
theorem Shelves.same {r s : Int} {H H' : Hp} {Gs : List (List Int)} {vs : List V} (e : Same H H') (h : Shelves C D r s H Gs vs) : Shelves C D r s H' Gs vs := KC.pmap h fun G v ⟨y, e1, e2⟩ => ⟨y, e1, e2.same e⟩
def spShelves (C D : Addr) : SpG := fun vs H Q _ => ∃ (x : Addr) (r s : Int) (L : List (List Int)), vs = [.ref x] ∧ SlopeAt C H x r s ∧ Side r ∧ Side s ∧ r + s ≤ 9 ∧ KW.runK r s 40 [[]] = some L ∧ L.length < 64 ∧
  ∀ out H' Gs, Same H H' → Shelves C D r s H' Gs out → Gs.Perm L → Q out H'
structure CalG (P : Program) (w : World) (K : PySem.W.Frag) (mg : Str → Option Value) (base : Heap) (k : Nat) (x : Str) (sp : SpG) : Prop where
  ex : ∃ (f : Addr) (fd : FuncData) (ps : List Str), GFn P w K mg base k f fd ps sp ∧ mg x = some (.ref f) ∧ PySem.W.keepIn K (.ref f) = true ∧ Binds K fd ps []
abbrev nShelves : List Str := ["slope", "layer", "gaps"]
theorem sc_shelves : GScope nShelves ["slope"] (C8.fnScope (topS 34)) := ⟨rfl, rfl, rfl, by decide +kernel, rfl, by decide +kernel, by decide +kernel⟩
theorem grown_len {r s : Int} {m : Nat} {ks L' : List (List Int)} (h : KW.runK r s m (KW.grownK r s ks) = some L') : (KW.grownK r s ks).length ≤ 1000 := by
  by_cases e : KW.grownK r s ks = []
  · rw [e]; exact Nat.zero_le _
  · obtain ⟨_, _, _, _, _, _, h1, _⟩ := KW.runK_step h e
    omega
theorem ok_shelves (F : DefB K mg "shelves" (topS 34) ["slope"]) (T : Nm mg C D) (c1 : C8.Cal P w K mg base 1 "require_slope" (spReqSlope C) []) (c2 : C8.Cal P w K mg base 1 "require_coprime" (spReqSlope C) []) (c3 : C8.Cal P w K mg base 2 "require_listed" (spListed C) [])
    (c4 : C8.Mak P w K mg base 4 "Shelf" D (spHInit C D) []) (c5 : C8.Cal P w K mg base 6 "grown_from" (spGrown C) []) : CalG P w K mg base 7 "shelves" (spShelves C D) := by
  obtain ⟨f, fd, DD, b⟩ := F
  obtain ⟨oc, od, dV, kV, doc, pm, an, cdv, ct, osl, rfl, lk, hcd⟩ := DD.fn.ex
  refine ⟨f, _, _, gfn_of (N := nShelves) lk hcd sc_shelves (fun vs H Q E h => ?_) (fun A outer s H vs Q E pn hr h => ?_), DD.mgf, DD.kp, b⟩
  · obtain ⟨x, r, s, L, rfl, _⟩ := h
    rfl
  · obtain ⟨x, r, u, L, rfl, hx, hr1, hs1, h9, hL, hLl, q⟩ := h
    have nd := sc_shelves.nd
    refine ⟨_, gss_cons (gs_ps (ps_expr (C8.pe_c c1 hr (by decide) rfl (pa_cons (pv 0) pa_nil)))) (gss_cons (gs_ps (ps_expr (C8.pe_c c2 hr (by decide) rfl (pa_cons (pv 0) pa_nil)))) (gss_cons (gs_ps (ps_expr (C8.pe_c c3 hr (by decide) rfl (pa_cons (pv 0) pa_nil))))
      (gss_cons (gs_ps (ps_set (i := 1) nd rfl (Or.inl rfl) (KDt.pe_dispT (hu_of hr) (pe_tup pa_nil) pe_int)))
      (gss_cons (gs_while owns_gcx (pt_cmpR (KDt.op_neT hr.units0) (pv 1) pe_dnewT (nomark _))
        (gss_cons (gs_for owns_gcx rfl (pi_list (pe_callB (KSr.cr_sortedD rfl hr.units) rfl T.sorted (by decide +kernel) (pa_cons (pv 1) pa_nil))) (pg_name (i := 2) nd rfl (Or.inl rfl))
            (gss_cons (gs_yield (C8.pe_mk c4 hr (by decide) rfl (pa_cons (pv 0) (pa_cons (pv 2) pa_nil)))) gss_nil))
        (gss_cons (gs_ps (ps_set (i := 1) nd rfl (Or.inl rfl) (C8.pe_c c5 hr (by decide) rfl (pa_cons (pv 0) (pa_cons (pv 1) pa_nil))))) gss_nil))) gss_nil)))), ?_⟩
    refine ⟨_, rfl, x, r, u, rfl, hx, _, rfl, x, r, u, rfl, hx, _, rfl, x, r, u, rfl, hx, hr1, hs1, h9, fun H1 sm1 d hd => ⟨(by show 0 ≤ sizeLine; decide), fun e he => ?_⟩⟩
    have nde : d ≠ e := fun z => by rw [← z, upd_same] at he; cases he
    have he1 : H1 e = none := by rw [upd_ne (Ne.symm nde)] at he; exact he
    refine ⟨by rw [upd_ne nde, upd_same], e, [], rfl, upd_same, ?_⟩
    have sm2 : Same H (upd (upd (upd H1 d (.dT [])) e (.tup [])) d (.dT [([], .int 1)])) := sm1.trans (KC.same_mut (KC.same_mut (KC.same_new hd) he1) hd)
    refine ⟨fun m ys σ H' => ∃ (ks : List (List Int)) (kvs : List (List Key × V)) (Ld : List (List Int)) (d : Addr) (c : Option V) (Gs : List (List Int)), σ = [some (.ref x), some (.ref d), c] ∧ Same H H' ∧ H' d = some (.dT kvs) ∧ Lay ks kvs ∧ KW.runK r u m ks = some Ld ∧ Shelves C D r u H' Gs ys ∧ (Gs ++ Ld).Perm L,
      ⟨40, [[]], [([], .int 1)], L, d, none, [], rfl, sm2, upd_same, .cons ⟨rfl, 1, rfl⟩ .nil, hL, .nil, List.Perm.refl _⟩, ?_⟩
    rintro m ys σ H3 ⟨ks, kvs, Ld, d3, c, Gs, rfl, sm3, hd3, hLay, hrun, hsh, hperm⟩
    refine ⟨_, rfl, fun n hn => ⟨d3, n, kvs, rfl, rfl, (by rw [upd_ne (ne_of_none hd3 hn)]; exact hd3), upd_same, _, rfl, ?_⟩⟩
    have sm4 := KC.same_new (o := .dT []) hn
    have hd4 := sm4 _ _ hd3
    have sm34 := sm3.trans sm4
    have hsh4 := hsh.same sm4
    generalize upd H3 n (.dT []) = H4 at hd4 sm34 hsh4
    refine ite2 (fun hne => ?_) (fun hne => ?_)
    · have hkne : ks ≠ [] := fun z => by
        rw [(lay_nil hLay).mpr z] at hne
        simp at hne
      obtain ⟨m', L', rfl, hrun', rfl, hgood, hk64, _⟩ := KW.runK_step hrun hkne
      have hlen : Gs.length + (ks.length + L'.length) < 64 := by
        have e := hperm.length_eq
        rw [List.length_append, List.length_append] at e
        omega
      refine ⟨fun ys' σ' H' => ∃ (ks : List (List Int)) (kvs : List (List Key × V)) (Ld : List (List Int)) (d : Addr) (c : Option V) (Gs : List (List Int)), σ' = [some (.ref x), some (.ref d), c] ∧ Same H H' ∧ H' d = some (.dT kvs) ∧ Lay ks kvs ∧ KW.runK r u m' ks = some Ld ∧ Shelves C D r u H' Gs ys' ∧ (Gs ++ Ld).Perm L,
        fun ys' σ' H' hw => ⟨m', Nat.lt_succ_self _, hw⟩, ?_⟩
      refine ⟨_, rfl, d3, kvs, rfl, .inl hd4, lay_ints' hLay, fun bs cs p hk hpm hp => ?_⟩
      obtain ⟨Ks, hKs, hKp⟩ := paired_perm hpm (lay_keys hLay hk)
      have sm5 := KC.same_new (o := .lst (cs.map V.ref)) hp
      have hcs : (upd H4 p (.lst (cs.map V.ref))) p = some (.lst (cs.map V.ref)) := upd_same
      have hd5 := sm5 _ _ hd4
      have sm35 := sm34.trans sm5
      have hsh5 := hsh4.same sm5
      have hKp5 := KC.pmap hKp fun G b h => sm5 _ _ h
      generalize upd H4 p (.lst (cs.map V.ref)) = H5 at hcs hd5 sm35 hsh5 hKp5
      have hKl : Ks.length = cs.length := KC.paired_len hKp5
      have hKk : Ks.length = ks.length := hKs.length_eq
      refine ⟨p, rfl, ⟨_, SqL.of hcs⟩, gfor_list (K := K) (a := p) (xs := cs.map V.ref) (fun i ys' σ' H' => Same H5 H' ∧ (∃ c, σ' = [some (.ref x), some (.ref d3), c]) ∧ Shelves C D r u H' (Gs ++ Ks.take i) ys') ⟨Same.refl _, ⟨_, rfl⟩, by rw [List.take_zero, List.append_nil]; exact hsh5⟩ (fun i ys' σ' H' _ hP => SqL.of (hP.1 _ _ hcs)) ?_ ?_⟩
      · rintro i y ys' σ' H6 hi ⟨sm6, ⟨c6, rfl⟩, hsh6⟩
        obtain ⟨bA, hb, rfl⟩ := map_get hi
        obtain ⟨G, hG, htG⟩ := paired_get hKp5 hb
        have hGk : G ∈ ks := hKs.mem_iff.mp (List.mem_of_getElem? hG)
        have hi' : i < Ks.length := (List.getElem?_eq_some_iff.mp hG).1
        have hyl : ys'.length < sizeLine := by
          have e := KC.paired_len hsh6
          rw [List.length_append, List.length_take] at e
          exact Nat.lt_of_lt_of_le (show ys'.length < 64 by omega) (by decide)
        refine ⟨hyl, _, rfl, _, rfl, fun z dz nz ndz ne => ⟨H6, z, dz, x, bA, r, u, G, rfl, nz, ndz, ne, rfl, (hx.same sm35).same sm6, sm6 _ _ htG, hr1, hs1, hgood G hGk, fun H7 sm7 hz => ⟨rfl, sm6.trans sm7, ⟨_, rfl⟩, ?_⟩⟩⟩
        rw [KC.take_snoc hG, ← List.append_assoc]
        exact KC.paired_snoc (hsh6.same sm7) ⟨z, rfl, hz⟩
      · rintro ys' σ' H6 ⟨sm6, ⟨c6, rfl⟩, hsh6⟩
        rw [List.length_map, ← hKl, List.take_length] at hsh6
        refine ⟨_, rfl, _, rfl, x, d3, r, u, ks, kvs, rfl, (hx.same sm35).same sm6, sm6 _ _ hd5, hLay, hr1, hs1, hgood, grown_len hrun', fun d' H7 kvs' sm7 hd7 hLay7 => ?_⟩
        refine ⟨KW.grownK r u ks, kvs', L', d', _, Gs ++ Ks, rfl, (sm35.trans sm6).trans sm7, hd7, hLay7, hrun', hsh6.same sm7, ?_⟩
        rw [List.append_assoc]
        exact (List.Perm.append_left Gs (List.Perm.append_right L' hKs)).trans hperm
    · have hk : ks = [] := (lay_nil hLay).mp (by simpa using hne)
      subst hk
      have hLd := KW.runK_nil hrun
      subst hLd
      rw [List.append_nil] at hperm
      exact q ys H4 Gs sm34 hsh4 hperm
end
end KP

namespace KP
open PySem PySem.Spec PyProof.Rows L2
section
variable {P : Program} {w : World} {K : PySem.W.Frag} {mg : Str → Option Value} {base : Heap} {C D : Addr}
/-- three ints at l -/
def DiceAt (H : Hp) (l : Addr) : Prop := ∃ a b c : Int, H l = some (.lst [.int a, .int b, .int c])
/-- all but l stays -/
def But (l : Addr) (H H' : Hp) : Prop := ∀ b o, b ≠ l → H b = some o → H' b = some o
theorem But.of {l : Addr} {H H' : Hp} (e : Same H H') : But l H H' := fun b o _ h => e b o h
theorem But.trans {l : Addr} {H H1 H2 : Hp} (a : But l H H1) (b : But l H1 H2) : But l H H2 := fun c o n h => b c o n (a c o n h)
theorem But.upd (l : Addr) (H : Hp) (o : HO) : But l H (upd H l o) := fun b u n h => by rw [upd_ne n]; exact h
def spDice (K : PySem.W.Frag) : Sp := fun vs H Q _ => ∃ (t : Addr) (ns : List Int) (k : Nat), vs = [.ref t, .int (k : Int)] ∧ SqL K H t (ns.map V.int) ∧ ∀ l H', H l = none → Same H H' → DiceAt H' l → Q (.ref l) H'
abbrev nDice : List Str := ["_law_script", "_law_spot", "_law_cell", "_law_left"]
theorem sc_dice : FnScope nDice ["_law_script", "_law_spot"] (C8.fnScope (topS 36)) := C8.fnScope_by (by decide +kernel)
theorem ok_dice (F : DefB K mg "_law_dice" (topS 36) ["_law_script", "_law_spot"]) (T : Nm mg C D) : C8.Cal P w K mg base 1 "_law_dice" (spDice K) [] := by
  refine def_cal F sc_dice (fun vs H Q E h => ?_) (fun f cdv A outer s H vs Q E g hr h => ?_)
  · obtain ⟨t, ns, k, rfl, _⟩ := h
    rfl
  · obtain ⟨t, ns, k, rfl, ht, q⟩ := h
    have nd := sc_dice.nd
    refine ⟨_, pss_cons (ps_set (i := 2) nd rfl (Or.inl rfl) (pe_ifExp (pt_cmpR op_lt (pv 1) (pe_callB call_len_seq rfl T.len PySem.boot_len (pa_cons (pv 0) pa_nil)) (nomark _))
        (pe_callTy call_int1 rfl T.int (by decide +kernel) (pa_cons (pe_ix ix_list (pv 0) (pv 1) (fun _ _ => rfl)) pa_nil)) (pe_op op_add (pe_op op_mul pe_int (pv 1)) pe_int)))
      (pss_cons (ps_set (i := 3) nd rfl (Or.inl rfl) (pe_op op_mod (pe_callB (call_max2 rfl) rfl T.max (by decide +kernel) (pa_cons pe_int (pa_cons (pe_op op_sub (pe_callB call_abs rfl T.abs (by decide +kernel) (pa_cons (pv 2) pa_nil)) (pe_op op_pow pe_int pe_int)) pa_nil)))
        (pe_op op_mulW (pe_op op_pow pe_int pe_int) (pe_op op_pow pe_int pe_int))))
      (pss_one (ps_ret (pe_lst (pa_cons (pv 3) (pa_cons (pe_op op_add (pe_op op_add (pe_op op_add (pe_op op_mul (pe_op op_mod (pe_callB call_abs rfl T.abs (by decide +kernel) (pa_cons (pv 2) pa_nil)) pe_int) pe_int) (pe_op op_mul pe_int (pv 1)))
        (pe_op op_mul pe_int (pe_callTy call_int1 rfl T.int (by decide +kernel) (pa_cons (pe_cmpR op_lt (pv 2) pe_int (nomark _)) pa_nil)))) pe_int) (pa_cons pe_int pa_nil))))))), ?_⟩
    refine ⟨_, rfl, _, rfl, t, _, rfl, .inl ht, _, _, rfl, rfl, _, rfl, ?_⟩
    rw [List.length_map]
    refine cut_if (.int (ns.getD k (97 * (k : Int) + 53))) (fun hc Q' kk => ?_) (fun hc Q' kk => ?_) ?_
    · have hk : k < ns.length := by simpa using hc
      refine ⟨_, rfl, _, rfl, t, _, _, _, rfl, rfl, ht, atI_nat (v := V.int (ns.getD k (97 * (k : Int) + 53))) ?_, .inl ⟨_, rfl, kk⟩⟩
      rw [List.getElem?_map, List.getElem?_eq_getElem hk, List.getD_eq_getElem?_getD, List.getElem?_eq_getElem hk]
      rfl
    · have hk : ¬ k < ns.length := by simpa using hc
      rw [List.getD_eq_getElem?_getD, List.getElem?_eq_none (by omega)] at kk
      exact ⟨_, rfl, _, _, rfl, rfl, .inl ⟨by decide, by decide⟩, _, _, rfl, rfl, kk⟩
    · generalize ns.getD k (97 * (k : Int) + 53) = z
      refine ⟨_, rfl, _, rfl, _, _, rfl, rfl, ⟨by decide, by decide, by decide⟩, _, _, rfl, rfl, _, _, rfl, ?_⟩
      refine ⟨_, _, rfl, rfl, ⟨by decide, by decide, by decide⟩, _, _, rfl, rfl, ⟨by decide, by decide, by decide⟩, _, _, rfl, rfl, wide_mul (a := 250) (b := 250) (by decide) (by decide) (by decide) (by decide) (by decide), _, _, rfl, rfl, (by show (0 : Int) < 10 ^ Int.toNat 60 * 10 ^ Int.toNat 60; decide), ?_⟩
      refine ⟨_, rfl, _, rfl, _, rfl, _, _, rfl, rfl, (by show (0 : Int) < 1152921504606846577; decide), _, _, rfl, rfl, .inr ⟨by decide, by decide⟩, _, rfl, _, _, rfl, rfl, .inl ⟨by decide, by decide⟩, _, _, rfl, rfl, _, rfl, _, _, rfl, rfl, .inr ⟨_, rfl, _, _, rfl, rfl, .inl ⟨by decide, by decide⟩, _, _, rfl, rfl, _, _, rfl, rfl, ?_⟩⟩
      refine ⟨(by show 3 ≤ sizeLine; decide), fun l hl => q l _ hl (KC.same_new hl) ⟨_, _, _, upd_same⟩⟩
def spRoll : Sp := fun vs H Q _ => ∃ (l : Addr) (t : Int), vs = [.ref l, .int t] ∧ DiceAt H l ∧ 1 ≤ t ∧ t ≤ 100 ∧ ∀ v H', But l H H' → DiceAt H' l → 0 ≤ v → v < t → Q (.int v) H'
abbrev nRoll : List Str := ["_law_dice_here", "_law_total", "_law_found", "_law_one", "_law_two"]
theorem sc_roll : FnScope nRoll ["_law_dice_here", "_law_total"] (C8.fnScope (topS 37)) := C8.fnScope_by (by decide +kernel)
theorem ok_roll (F : DefB K mg "_law_roll" (topS 37) ["_law_dice_here", "_law_total"]) (T : Nm mg C D) : C8.Cal P w K mg base 1 "_law_roll" spRoll [] := by
  refine def_cal F sc_roll (fun vs H Q E h => ?_) (fun f cdv A outer s H vs Q E g hr h => ?_)
  · obtain ⟨l, t, rfl, _⟩ := h
    rfl
  · obtain ⟨l, t, rfl, ⟨a, b, c, hl⟩, h1, h2, q⟩ := h
    have nd := sc_roll.nd
    refine ⟨_, pss_cons (ps_if (pt_cmpR op_gt (pe_ix ix_list (pv 0) pe_int (fun _ _ => rfl)) pe_int (nomark _))
        (pss_cons (ps_set (i := 2) nd rfl (Or.inl rfl) (pe_op op_mod (pe_callTy call_int1 rfl T.int (by decide +kernel) (pa_cons (pe_ix ix_list (pv 0) pe_int (fun _ _ => rfl)) pa_nil)) (pv 1)))
        (pss_cons (ps_asg (pe_op op_fdiv (pe_ix ix_list (pv 0) pe_int (fun _ _ => rfl)) (pv 1)) (pg_sub (pv 0) pe_int set_list (fun _ => rfl)))
        (pss_one (ps_ret (pv 2))))) pss_nil)
      (pss_cons (ps_asg (pe_op op_add (pe_ix ix_list (pv 0) pe_int (fun _ _ => rfl)) pe_int) (pg_sub (pv 0) pe_int set_list (fun _ => rfl)))
      (pss_cons (ps_set (i := 3) nd rfl (Or.inl rfl) (pe_op op_mod (pe_callTy call_int1 rfl T.int (by decide +kernel) (pa_cons (pe_op op_add (pe_ix ix_list (pv 0) pe_int (fun _ _ => rfl)) (pe_op op_mul pe_int (pe_ix ix_list (pv 0) pe_int (fun _ _ => rfl)))) pa_nil)) pe_int))
      (pss_cons (ps_set (i := 4) nd rfl (Or.inl rfl) (pe_op op_add (pe_op op_mul (pe_op op_mod (pe_callTy call_int1 rfl T.int (by decide +kernel) (pa_cons (pe_op op_add (pe_op op_mul (pv 3) (pv 3)) (pe_op op_mul pe_int (pe_ix ix_list (pv 0) pe_int (fun _ _ => rfl)))) pa_nil)) pe_int) pe_int) (pv 3)))
      (pss_one (ps_ret (pe_op op_mod (pe_callTy call_int1 rfl T.int (by decide +kernel) (pa_cons (pe_op op_fdiv (pv 4) pe_int) pa_nil)) (pv 1))))))), ?_⟩
    have g0 : ∀ x y z : Int, atI [V.int x, V.int y, V.int z] 0 = some (.int x) := fun x y z => atI_nat (j := 0) rfl
    have g1 : ∀ x y z : Int, atI [V.int x, V.int y, V.int z] 1 = some (.int y) := fun x y z => atI_nat (j := 1) rfl
    have g2 : ∀ x y z : Int, atI [V.int x, V.int y, V.int z] 2 = some (.int z) := fun x y z => atI_nat (j := 2) rfl
    have ht : 0 < t := by omega
    refine ⟨_, rfl, l, _, _, _, rfl, rfl, SqL.of hl, g0 _ _ _, _, _, rfl, rfl, _, rfl, ?_⟩
    refine ite2 (fun _ => ?_) (fun _ => ?_)
    · refine ⟨_, rfl, l, _, _, _, rfl, rfl, SqL.of hl, g0 _ _ _, .inl ⟨_, rfl, _, rfl, _, _, rfl, rfl, ht, ?_⟩⟩
      refine ⟨_, rfl, l, _, _, _, rfl, rfl, SqL.of hl, g0 _ _ _, _, rfl, _, _, rfl, rfl, ⟨ht, by omega⟩, _, rfl, l, _, _, 0, rfl, rfl, hl, rfl, _, rfl, ?_⟩
      exact q _ _ (But.upd _ _ _) ⟨_, _, _, upd_same⟩ (Int.emod_nonneg _ (by omega)) (Int.emod_lt_of_pos _ ht)
    · refine ⟨_, rfl, l, _, _, _, rfl, rfl, SqL.of hl, g2 _ _ _, _, _, rfl, rfl, _, rfl, l, _, _, 2, rfl, rfl, hl, rfl, ?_⟩
      have hl2 : upd H l (.lst [V.int a, V.int b, V.int (c + 1)]) l = some (.lst [V.int a, V.int b, V.int (c + 1)]) := upd_same
      have bt := But.upd l H (.lst [V.int a, V.int b, V.int (c + 1)])
      show tSeq _ _ _ _ (upd H l (.lst [V.int a, V.int b, V.int (c + 1)]))
      generalize upd H l (.lst [V.int a, V.int b, V.int (c + 1)]) = H2 at hl2 bt
      refine ⟨_, rfl, l, _, _, _, rfl, rfl, SqL.of hl2, g1 _ _ _, _, rfl, l, _, _, _, rfl, rfl, SqL.of hl2, g2 _ _ _, _, _, rfl, rfl, .inl ⟨by decide, by decide⟩, _, _, rfl, rfl, .inl ⟨_, rfl, _, _, rfl, rfl, (by show (0 : Int) < 2305843009213693613; decide), ?_⟩⟩
      have z0 := Int.emod_nonneg (b + 104395301 * (c + 1)) (show (2305843009213693613 : Int) ≠ 0 by decide)
      have z1 := Int.emod_lt_of_pos (b + 104395301 * (c + 1)) (show (0 : Int) < 2305843009213693613 by decide)
      refine ⟨_, rfl, _, rfl, _, _, rfl, rfl, .inl ⟨by omega, by omega⟩, _, rfl, l, _, _, _, rfl, rfl, SqL.of hl2, g2 _ _ _, _, _, rfl, rfl, .inl ⟨by decide, by decide⟩, _, _, rfl, rfl, .inl ⟨_, rfl, _, _, rfl, rfl, (by show (0 : Int) < 2305843009213693519; decide), _, _, rfl, rfl, .inr ⟨by decide, by decide⟩, _, rfl, _, _, rfl, rfl, ?_⟩⟩
      refine ⟨_, rfl, _, _, rfl, rfl, ⟨by decide, by decide⟩, .inl ⟨_, rfl, _, rfl, _, _, rfl, rfl, ht, ?_⟩⟩
      exact q _ _ bt ⟨_, _, _, hl2⟩ (Int.emod_nonneg _ (by omega)) (Int.emod_lt_of_pos _ ht)
end
end KP

namespace KP
open PySem PySem.Spec PyProof.Rows L2
theorem gcd_step {a b : Int} (ha : 0 < a) (hb : 0 < b) : Int.gcd b (a - a / b * b) = Int.gcd a b := by
  have e : a - a / b * b = a % b := by
    have := Int.emod_add_mul_ediv a b
    rw [Int.mul_comm] at this
    omega
  rw [e]
  obtain ⟨x, rfl⟩ := Int.eq_ofNat_of_zero_le (show 0 ≤ a by omega)
  obtain ⟨y, rfl⟩ := Int.eq_ofNat_of_zero_le (show 0 ≤ b by omega)
  show Nat.gcd y (x % y) = Nat.gcd x y
  rw [Nat.gcd_comm y (x % y), ← Nat.gcd_rec y x, Nat.gcd_comm]
theorem cop_div {r s g : Int} (hr : 0 < r) (hs : 0 < s) (hg : 0 < g) (e : Int.gcd g 0 = Int.gcd r s) : 1 ≤ r / g ∧ r / g ≤ r ∧ 1 ≤ s / g ∧ s / g ≤ s ∧ Cop (r / g) (s / g) := by
  obtain ⟨x, rfl⟩ := Int.eq_ofNat_of_zero_le (show 0 ≤ r by omega)
  obtain ⟨y, rfl⟩ := Int.eq_ofNat_of_zero_le (show 0 ≤ s by omega)
  obtain ⟨z, rfl⟩ := Int.eq_ofNat_of_zero_le (show 0 ≤ g by omega)
  have e' : z = Nat.gcd x y := by
    have : Nat.gcd z 0 = Nat.gcd x y := e
    rwa [Nat.gcd_zero_right] at this
  have hx : 0 < x := by omega
  have hy : 0 < y := by omega
  have hz : 0 < z := by omega
  have dx : z ∣ x := by rw [e']; exact Nat.gcd_dvd_left x y
  have dy : z ∣ y := by rw [e']; exact Nat.gcd_dvd_right x y
  have ex : ((x : Int) / (z : Int)) = ((x / z : Nat) : Int) := rfl
  have ey : ((y : Int) / (z : Int)) = ((y / z : Nat) : Int) := rfl
  have x1 : 1 ≤ x / z := Nat.div_pos (Nat.le_of_dvd hx dx) hz
  have y1 : 1 ≤ y / z := Nat.div_pos (Nat.le_of_dvd hy dy) hz
  have x2 := Nat.div_le_self x z
  have y2 := Nat.div_le_self y z
  rw [ex, ey]
  refine ⟨by omega, by omega, by omega, by omega, ?_⟩
  show Nat.gcd (x / z) (y / z) = 1
  rw [Nat.gcd_div dx dy, ← e']
  exact Nat.div_self hz
section
variable {P : Program} {w : World} {K : PySem.W.Frag} {mg : Str → Option Value} {base : Heap} {C D : Addr}
def spLSlope : Sp := fun vs H Q _ => ∃ (l : Addr) (t : Int), vs = [.ref l, .int t] ∧ DiceAt H l ∧ 2 ≤ t ∧ t ≤ 60 ∧ ∀ p H' r s, But l H H' → DiceAt H' l → H' p = some (.tup [.int r, .int s]) → Side r → Side s → Cop r s → r + s ≤ t → Q (.ref p) H'
abbrev nLSlope : List Str := ["_law_dice_here", "_law_total", "_law_rises", "_law_steps", "_law_one", "_law_other"]
theorem sc_lslope : FnScope nLSlope ["_law_dice_here", "_law_total"] (C8.fnScope (topS 38)) := C8.fnScope_by (by decide +kernel)
theorem ok_lslope (F : DefB K mg "_law_slope" (topS 38) ["_law_dice_here", "_law_total"]) (c1 : C8.Cal P w K mg base 1 "_law_roll" spRoll []) : C8.Cal P w K mg base 2 "_law_slope" spLSlope [] := by
  refine def_cal F sc_lslope (fun vs H Q E h => ?_) (fun f cdv A outer s H vs Q E g hr h => ?_)
  · obtain ⟨l, t, rfl, _⟩ := h
    rfl
  · obtain ⟨l, t, rfl, hl, h1, h2, q⟩ := h
    have nd := sc_lslope.nd
    refine ⟨_, pss_cons (ps_set (i := 2) nd rfl (Or.inl rfl) (pe_op op_add pe_int (C8.pe_c c1 hr (by decide) rfl (pa_cons (pv 0) (pa_cons (pe_op op_sub (pv 1) pe_int) pa_nil)))))
      (pss_cons (ps_set (i := 3) nd rfl (Or.inl rfl) (pe_op op_add pe_int (C8.pe_c c1 hr (by decide) rfl (pa_cons (pv 0) (pa_cons (pe_op op_sub (pv 1) (pv 2)) pa_nil)))))
      (pss_cons (ps_par (i := 4) (j := 5) rfl nd rfl rfl (by decide) rfl rfl (pa_cons (pv 2) (pa_cons (pv 3) pa_nil)) rfl)
      (pss_cons (ps_while PassesOwn.never (pt_cmpR op_gt (pv 5) pe_int (nomark _))
        (pss_one (ps_par (i := 4) (j := 5) rfl nd rfl rfl (by decide) rfl rfl (pa_cons (pv 5) (pa_cons (pe_op op_sub (pv 4) (pe_op op_mul (pe_op op_fdiv (pv 4) (pv 5)) (pv 5))) pa_nil)) rfl)))
      (pss_one (ps_ret (pe_tup (pa_cons (pe_op op_fdiv (pv 2) (pv 4)) (pa_cons (pe_op op_fdiv (pv 3) (pv 4)) pa_nil)))))))), ?_⟩
    refine ⟨_, rfl, _, rfl, _, _, rfl, rfl, l, t - 1, rfl, hl, by omega, by omega, fun v H1 b1 d1 v0 v1 => ⟨_, _, rfl, rfl, ?_⟩⟩
    refine ⟨_, rfl, _, rfl, _, rfl, _, _, rfl, rfl, l, t - (1 + v), rfl, d1, by omega, by omega, fun v2 H2 b2 d2 w0 w1 => ⟨_, _, rfl, rfl, ?_⟩⟩
    generalize hr0 : 1 + v = r
    generalize hs0 : 1 + v2 = u
    refine ⟨_, rfl, _, rfl, _, _, rfl, ?_⟩
    refine ⟨fun m σ H' => ∃ one other : Int, σ = [some (.ref l), some (.int t), some (.int (1 + v)), some (.int (1 + v2)), some (.int one), some (.int other)] ∧ H' = H2 ∧ m = other.toNat ∧ 0 < one ∧ one ≤ 100 ∧ 0 ≤ other ∧ other ≤ 100 ∧ Int.gcd one other = Int.gcd r u,
      ⟨_, 1 + v, 1 + v2, rfl, rfl, rfl, by omega, by omega, by omega, by omega, by rw [hr0, hs0]⟩, ?_⟩
    rintro m σ H3 ⟨one, other, rfl, rfl, rfl, o1, o2, o3, o4, hg⟩
    refine ⟨_, rfl, _, _, rfl, rfl, _, rfl, ?_⟩
    refine ite2 (fun hlt => ?_) (fun hlt => ?_)
    · have hp : 0 < other := by simpa using hlt
      have e1 := Int.emod_add_mul_ediv one other
      have e2 := Int.emod_nonneg one (show other ≠ 0 by omega)
      have e3 := Int.emod_lt_of_pos one hp
      have e4 : one - one / other * other = one % other := by
        rw [Int.mul_comm] at e1
        omega
      have e5 : 0 ≤ one / other := Int.ediv_nonneg (by omega) (by omega)
      have e6 : one / other ≤ one := Int.ediv_le_self other (by omega)
      refine ⟨fun σ' H' => ∃ one' other' : Int, σ' = [some (.ref l), some (.int t), some (.int (1 + v)), some (.int (1 + v2)), some (.int one'), some (.int other')] ∧ H' = H3 ∧ other'.toNat < other.toNat ∧ 0 < one' ∧ one' ≤ 100 ∧ 0 ≤ other' ∧ other' ≤ 100 ∧ Int.gcd one' other' = Int.gcd r u,
        fun σ' H' ⟨one', other', a1, a2, a3, a4⟩ => ⟨_, a3, one', other', a1, a2, rfl, a4⟩, ?_⟩
      refine ⟨_, rfl, _, rfl, _, rfl, _, rfl, _, _, rfl, rfl, ⟨hp, by omega⟩, _, rfl, _, _, rfl, rfl, .inl ⟨by omega, by omega⟩, _, _, rfl, rfl, _, _, rfl, ?_⟩
      exact ⟨other, one - one / other * other, rfl, rfl, by omega, by omega, by omega, by omega, by omega, (gcd_step o1 hp).trans hg⟩
    · have hp : other = 0 := by
        have : ¬ 0 < other := by simpa using hlt
        omega
      subst hp
      obtain ⟨k1, k2, k3, k4, k5⟩ := cop_div (r := r) (s := u) (by omega) (by omega) o1 hg
      refine ⟨_, rfl, _, rfl, _, _, rfl, rfl, ⟨o1, by omega⟩, _, rfl, _, rfl, _, _, rfl, rfl, ⟨o1, by omega⟩, (by show 2 ≤ sizeLine; decide), fun p hp => ?_⟩
      rw [hr0, hs0]
      exact q p _ _ _ ((b1.trans b2).trans (But.of (KC.same_new hp))) (by
        obtain ⟨a, b, c, e⟩ := d2
        exact ⟨a, b, c, KC.same_new hp _ _ e⟩) upd_same ⟨k1, by omega⟩ ⟨k3, by omega⟩ k5 (by omega)
end
end KP

namespace KP
open PySem PySem.Spec PyProof.Rows L2
/-- the letters of a way -/
def sgn (b : Bool) : Nat := if b = true then 114 else 115
def txt (bs : List Bool) : Str := ⟨(bs.map sgn).toArray⟩
theorem txt_nil : (Str.ofString "" : Str) = txt [] := rfl
theorem str_eq {x y : Str} (h : x.cps.toList = y.cps.toList) : x = y := by
  cases x
  cases y
  simp only [Str.mk.injEq]
  exact Array.toList_inj.mp h
theorem txt_snoc (bs : List Bool) (b : Bool) : txt bs ++ (if b = true then (Str.ofString "r" : Str) else Str.ofString "s") = txt (bs ++ [b]) := by
  apply str_eq
  have e : ∀ x y : Str, (x ++ y).cps = x.cps ++ y.cps := fun _ _ => rfl
  rw [e, Array.toList_append]
  unfold txt
  cases b <;> simp [sgn] <;> rfl
theorem txt_len (bs : List Bool) : (txt bs).length = bs.length := by
  show (bs.map sgn).toArray.size = bs.length
  simp
theorem count_sum : ∀ bs : List Bool, bs.count true + bs.count false = bs.length
  | [] => rfl
  | true :: bs => by have := count_sum bs; simp; omega
  | false :: bs => by have := count_sum bs; simp; omega
section
variable {P : Program} {w : World} {K : PySem.W.Frag} {mg : Str → Option Value} {base : Heap} {C D : Addr}
def spWay : Sp := fun vs H Q _ => ∃ (l : Addr) (r s : Int), vs = [.ref l, .int r, .int s] ∧ DiceAt H l ∧ Side r ∧ Side s ∧ ∀ H' bs, But l H H' → DiceAt H' l → KW.IsWay r s bs → Q (.str (txt bs)) H'
abbrev nWay : List Str := ["_law_dice_here", "_law_rises", "_law_steps", "_law_found", "_law_level", "_law_left", "_law_more", "_law_turn"]
theorem sc_way : FnScope nWay ["_law_dice_here", "_law_rises", "_law_steps"] (C8.fnScope (topS 39)) := C8.fnScope_by (by decide +kernel)
theorem way_test {σ : L2.St} {H : Hp} {Kb : Bool → Hp → Prop} {l : Addr} {r level left more : Int} (s0 : σ[0]? = some (some (.ref l))) (s1 : σ[1]? = some (some (.int r))) (s4 : σ[4]? = some (some (.int level))) (s5 : σ[5]? = some (some (.int left))) (s6 : σ[6]? = some (some (.int more))) (hd : DiceAt H l)
    (hT : ∀ H', But l H H' → DiceAt H' l → 0 < left → Kb true H') (hF : ∀ H', But l H H' → DiceAt H' l → (¬ 0 < left ∨ (¬ level < r ∧ ¬ more = 0)) → Kb false H') :
    tAnd (tTest (tOp (rI0 fun i j => .bl (decide (j < i))) (tVar 5) (tC (.int 0)))) (tOr (tTest (tOp (rI0 fun i j => .bl (decide (i < j))) (tVar 4) (tVar 1))) (tOr (tTest (tOp rEq (tVar 6) (tC (.int 0)))) (tTest (tOp rEq (tCall spRoll [] C8.E0 (tCons (tVar 0) (tCons (tC (.int 2)) tNil))) (tC (.int 0)))))) σ H Kb := by
  refine ⟨_, s5, _, _, rfl, rfl, _, rfl, ?_⟩
  refine ite2 (fun h0 => ?_) (fun h0 => hF H (But.of (Same.refl _)) hd (.inl (by simpa using h0)))
  have hl : 0 < left := by simpa using h0
  refine ⟨_, s4, _, s1, _, _, rfl, rfl, _, rfl, ?_⟩
  refine ite2 (fun _ => hT H (But.of (Same.refl _)) hd hl) (fun h1 => ?_)
  refine ⟨_, s6, rfl, _, rfl, ?_⟩
  refine ite2 (fun _ => hT H (But.of (Same.refl _)) hd hl) (fun h2 => ?_)
  refine ⟨_, s0, l, 2, rfl, hd, by decide, by decide, fun v H' b d v0 v1 => ⟨rfl, _, rfl, ?_⟩⟩
  by_cases hv : v = 0
  · subst hv
    exact hT H' b d hl
  · have e : decide (V.int v = V.int 0) = false := decide_eq_false fun z => hv (V.int.inj z)
    rw [e]
    exact hF H' b d (.inr ⟨by simpa using h1, by simpa using h2⟩)
theorem ok_way (F : DefB K mg "_law_way" (topS 39) ["_law_dice_here", "_law_rises", "_law_steps"]) (T : Nm mg C D) (c1 : C8.Cal P w K mg base 1 "_law_roll" spRoll []) : C8.Cal P w K mg base 2 "_law_way" spWay [] := by
  refine def_cal F sc_way (fun vs H Q E h => ?_) (fun f cdv A outer s H vs Q E g hr h => ?_)
  · obtain ⟨l, r, s, rfl, _⟩ := h
    rfl
  · obtain ⟨l, r, u, rfl, hl, hr1, hs1, q⟩ := h
    have nd := sc_way.nd
    have r0 := hr1.1
    have r9 := hr1.2
    have u0 := hs1.1
    have u9 := hs1.2
    refine ⟨_, pss_cons (ps_asg (pe_tup (pa_cons pe_str (pa_cons pe_int (pa_cons (pv 1) (pa_cons (pv 2) pa_nil))))) (pg_tup rfl (pgs_cons (pg_name (i := 3) nd rfl (Or.inl rfl)) (pgs_cons (pg_name (i := 4) nd rfl (Or.inl rfl)) (pgs_cons (pg_name (i := 5) nd rfl (Or.inl rfl)) (pgs_cons (pg_name (i := 6) nd rfl (Or.inl rfl)) pgs_nil))))))
      (pss_cons (ps_for PassesOwn.never rfl (pi_range1 rfl T.range (pa_cons (pe_op op_add (pv 1) (pv 2)) pa_nil)) (pg_name (i := 7) nd rfl (Or.inl rfl))
        (pss_one (ps_if (PW.pt (pw_and (pt_cmpR op_gt (pv 5) pe_int (nomark _)) (pw_and1 (PW.pt (pw_or (pt_cmpR op_lt (pv 4) (pv 1) (nomark _)) (pw_or (pt_cmpR op_eq (pv 6) pe_int (nomark _)) (pw_or1 (pt_cmpR op_eq (C8.pe_c c1 hr (by decide) rfl (pa_cons (pv 0) (pa_cons pe_int pa_nil))) pe_int (nomark _)))))))))
          (pss_one (ps_par3 (i := 3) (j := 4) (l := 5) rfl nd rfl rfl rfl (by decide) (by decide) (by decide) rfl rfl rfl (pa_cons (pe_op op_add_str (pv 3) pe_str) (pa_cons (pe_op op_add (pv 4) (pv 2)) (pa_cons (pe_op op_sub (pv 5) pe_int) pa_nil))) rfl))
          (pss_one (ps_par3 (i := 3) (j := 4) (l := 6) rfl nd rfl rfl rfl (by decide) (by decide) (by decide) rfl rfl rfl (pa_cons (pe_op op_add_str (pv 3) pe_str) (pa_cons (pe_op op_sub (pv 4) (pv 1)) (pa_cons (pe_op op_sub (pv 6) pe_int) pa_nil))) rfl)))))
      (pss_one (ps_ret (pv 3)))), ?_⟩
    refine ⟨_, rfl, _, rfl, (by show 4 ≤ sizeLine; decide), fun tp htp => ⟨tp, _, rfl, SqT.of upd_same, rfl, _, _, rfl, _, _, rfl, _, _, rfl, _, _, rfl, rfl, ?_⟩⟩
    have sm0 := KC.same_new (o := .tup [V.str (Str.ofString ""), V.int 0, V.int r, V.int u]) htp
    have hl0 : DiceAt (upd H tp (.tup [V.str (Str.ofString ""), V.int 0, V.int r, V.int u])) l := by
      obtain ⟨a, b, c, e⟩ := hl
      exact ⟨a, b, c, sm0 _ _ e⟩
    refine ⟨_, rfl, _, rfl, _, _, rfl, rfl, _, rfl, by omega, by omega, for_range (lo := 0) (n := (r + u).toNat) (fun i σ H' => But l H H' ∧ DiceAt H' l ∧ ∃ bs left more v, σ = [some (.ref l), some (.int r), some (.int u), some (.str (txt bs)), some (.int (KW.endL r u 0 bs)), some (.int left), some (.int more), v] ∧ bs.length = i ∧
        left = r - (bs.count true : Nat) ∧ more = u - (bs.count false : Nat) ∧ 0 ≤ left ∧ 0 ≤ more ∧ KW.NonNeg r u 0 bs)
      ⟨But.of sm0, hl0, [], r, u, none, rfl, rfl, by simp, by simp, by omega, by omega, by simp [KW.NonNeg]⟩ ?_ ?_⟩
    · rintro i σ H1 hi ⟨b1, d1, bs, left, more, v, rfl, hbl, e1, e2, p1, p2, hnn⟩
      have hcs := count_sum bs
      have hend := KW.endL_eq r u bs 0
      have hE := hnn.at_end
      have hln : (txt bs).length + 1 ≤ sizeLine := by
        rw [txt_len]
        exact Nat.le_trans (show bs.length + 1 ≤ 1000 by omega) (by decide)
      refine way_test (r := r) (level := KW.endL r u 0 bs) (left := left) (more := more) rfl rfl rfl rfl rfl d1 (fun H2 b2 d2 hpos => ?_) (fun H2 b2 d2 hc => ?_)
      · refine ⟨_, rfl, _, _, rfl, rfl, hln, _, rfl, _, rfl, _, _, rfl, rfl, _, rfl, _, _, rfl, rfl, _, _, _, rfl, ?_⟩
        have es := KW.endL_snoc r u true bs 0
        refine ⟨b1.trans b2, d2, bs ++ [true], left - 1, more, some (.int (0 + (i : Int))), ?_, by simp [hbl], ?_, ?_, by omega, by omega, hnn.snoc (c := true) ?_⟩
        · rw [es, if_pos rfl, ← txt_snoc bs true, if_pos rfl]
          rfl
        · rw [e1, List.count_append]; simp; omega
        · rw [e2, List.count_append]; simp
        · rw [if_pos rfl]; omega
      · have hmore : 1 ≤ more ∧ r ≤ KW.endL r u 0 bs := by
          rcases hc with hc | ⟨hc1, hc2⟩
          · have hl0 : left = 0 := by omega
            have hm1 : 1 ≤ more := by omega
            refine ⟨hm1, ?_⟩
            have ect : ((bs.count true : Nat) : Int) = r := by omega
            have ecf : ((bs.count false : Nat) : Int) = u - more := by omega
            rw [hend, ect, ecf]
            have : u * r - r * (u - more) = r * more := by
              rw [Int.mul_sub, Int.mul_comm u r]; omega
            have h5 : r * 1 ≤ r * more := Int.mul_le_mul_of_nonneg_left hm1 (by omega)
            omega
          · exact ⟨by omega, by omega⟩
        refine ⟨_, rfl, _, _, rfl, rfl, hln, _, rfl, _, rfl, _, _, rfl, rfl, _, rfl, _, _, rfl, rfl, _, _, _, rfl, ?_⟩
        have es := KW.endL_snoc r u false bs 0
        refine ⟨b1.trans b2, d2, bs ++ [false], left, more - 1, some (.int (0 + (i : Int))), ?_, by simp [hbl], ?_, ?_, by omega, by omega, hnn.snoc (c := false) ?_⟩
        · rw [es, if_neg (by decide), ← txt_snoc bs false, if_neg (by decide)]
          rfl
        · rw [e1, List.count_append]; simp
        · rw [e2, List.count_append]; simp; omega
        · rw [if_neg (by decide)]; omega
    · rintro σ H1 ⟨b1, d1, bs, left, more, v, rfl, hbl, e1, e2, p1, p2, hnn⟩
      have hcs := count_sum bs
      refine ⟨_, rfl, q H1 bs b1 d1 ⟨?_, ?_, hnn⟩⟩
      · omega
      · omega
end
end KP

namespace KP
open PySem PySem.Spec PyProof.Rows L2
theorem txt_size (bs : List Bool) : (txt bs).cps.size = bs.length := txt_len bs
theorem txt_at {bs : List Bool} {i c : Nat} (h : (txt bs).cps[i]? = some c) : ∃ b, bs[i]? = some b ∧ c = sgn b := by
  rw [← Array.getElem?_toList] at h
  have e : (txt bs).cps.toList = bs.map sgn := rfl
  rw [e, List.getElem?_map] at h
  cases hb : bs[i]? with
  | none => rw [hb] at h; cases h
  | some b => rw [hb] at h; exact ⟨b, rfl, (Option.some.inj h).symm⟩
theorem sgn_r (b : Bool) : decide (V.str ⟨#[sgn b]⟩ = V.str (Str.ofString "r")) = b := by
  cases b <;> decide +kernel
section
variable {P : Program} {w : World} {K : PySem.W.Frag} {mg : Str → Option Value} {base : Heap} {C D : Addr}
def spLevels : Sp := fun vs H Q _ => ∃ (r s : Int) (bs : List Bool), vs = [.int r, .int s, .str (txt bs)] ∧ bs.length ≤ 1000 ∧ ∀ p H', Same H H' → H' p = some (.lst ((KW.lvL r s 0 bs).map V.int)) → Q (.ref p) H'
abbrev nLevels : List Str := ["_law_rises", "_law_steps", "_law_text", "_law_found", "_law_level", "_law_sign"]
theorem sc_levels : FnScope nLevels ["_law_rises", "_law_steps", "_law_text"] (C8.fnScope (topS 40)) := C8.fnScope_by (by decide +kernel)
theorem ok_levels (F : DefB K mg "_law_levels" (topS 40) ["_law_rises", "_law_steps", "_law_text"]) : C8.Cal P w K mg base 1 "_law_levels" spLevels [] := by
  refine def_cal F sc_levels (fun vs H Q E h => ?_) (fun f cdv A outer s H vs Q E g hr h => ?_)
  · obtain ⟨r, s, bs, rfl, _⟩ := h
    rfl
  · obtain ⟨r, u, bs, rfl, hb, q⟩ := h
    have nd := sc_levels.nd
    refine ⟨_, pss_cons (ps_par (i := 3) (j := 4) rfl nd rfl rfl (by decide) rfl rfl (pa_cons (pe_lst pa_nil) (pa_cons pe_int pa_nil)) rfl)
      (pss_cons (ps_for PassesOwn.never rfl (pi_str (pv 2)) (pg_name (i := 5) nd rfl (Or.inl rfl))
        (pss_cons (ps_expr (pe_bm PySem.F.plainAttrs_list PySem.F.slot_list_append PySem.F.type_list_append mt_append (pv 3) (pa_cons (pv 4) pa_nil)))
        (pss_one (ps_set (i := 4) nd rfl (Or.inl rfl) (pe_op op_add (pv 4) (pe_ifExp (pt_cmpR op_eq (pv 5) pe_str (nomark _)) (pv 1) (pe_un un_neg (pv 0))))))))
      (pss_one (ps_ret (pv 3)))), ?_⟩
    refine ⟨(by show 0 ≤ sizeLine; decide), fun fd hfd => ⟨_, _, rfl, _, rfl, txt bs, rfl, for_gen (n := bs.length) (fun i σ H' => Same H H' ∧ ∃ v, σ = [some (.int r), some (.int u), some (.str (txt bs)), some (.ref fd), some (.int (KW.endL r u 0 (bs.take i))), v] ∧ H' fd = some (.lst ((KW.lvL r u 0 (bs.take i)).map V.int)))
      ⟨KC.same_new hfd, none, rfl, upd_same⟩ (fun i σ H' hi _ => by show i < (txt bs).cps.size; rw [txt_size]; exact hi) (fun σ H' _ => by show (txt bs).cps.size ≤ _; rw [txt_size]; exact Nat.le_refl _) ?_ ?_⟩⟩
    · rintro i y σ H1 H2 hi ⟨sm1, v, rfl, hf⟩ ⟨rfl, c, hc, rfl⟩
      obtain ⟨b, hbi, rfl⟩ := txt_at hc
      have hz : ((KW.lvL r u 0 (bs.take i)).map V.int).length < sizeLine := by
        rw [List.length_map, KW.lvL_len, List.length_take]
        exact Nat.lt_of_le_of_lt (show min i bs.length ≤ 1000 by omega) (by decide)
      refine ⟨_, rfl, .inl ⟨rfl, _, SqL.of hf⟩, _, rfl, fd, _, _, rfl, rfl, hf, hz, ?_⟩
      refine ⟨_, rfl, _, rfl, rfl, _, rfl, ?_⟩
      rw [sgn_r]
      have es := KW.endL_snoc r u b (bs.take i) 0
      refine cut_if (.int (if b = true then u else -r)) (fun e Q' k => ⟨_, rfl, by rw [e, if_pos rfl] at k; exact k⟩) (fun e Q' k => ⟨_, rfl, _, rfl, by rw [e, if_neg (by decide)] at k; exact k⟩) ?_
      refine ⟨_, _, rfl, rfl, KC.same_mut sm1 hfd, some (.str ⟨#[sgn b]⟩), ?_, ?_⟩
      · rw [KC.take_snoc hbi, es]
        cases b with
        | true => rfl
        | false => rfl
      · rw [upd_same, KC.take_snoc hbi, KW.lvL_snoc, List.map_append]
        rfl
    · rintro σ H1 ⟨sm1, v, rfl, hf⟩
      rw [List.take_length] at hf
      exact ⟨_, rfl, q fd H1 sm1 hf⟩
theorem zip_sgn : ∀ (xs : List Int) (bs : List Bool), ((xs.zip (bs.map sgn)).filter fun c => decide (c.2 = 114)).map (fun c => V.int c.1) = (((xs.zip bs).filter fun p => p.2).map (·.1)).map V.int
  | [], _ => rfl
  | _ :: _, [] => rfl
  | x :: xs, true :: bs => by
    have ih := zip_sgn xs bs
    show ((((x, sgn true) :: xs.zip (bs.map sgn)).filter fun c => decide (c.2 = 114)).map fun c => V.int c.1) = ((((x, true) :: xs.zip bs).filter fun p => p.2).map (·.1)).map V.int
    rw [List.filter_cons_of_pos (by rfl), List.filter_cons_of_pos (by rfl), List.map_cons, List.map_cons, List.map_cons, ih]
  | x :: xs, false :: bs => by
    have ih := zip_sgn xs bs
    show ((((x, sgn false) :: xs.zip (bs.map sgn)).filter fun c => decide (c.2 = 114)).map fun c => V.int c.1) = ((((x, false) :: xs.zip bs).filter fun p => p.2).map (·.1)).map V.int
    rw [List.filter_cons_of_neg (by simp [sgn]), List.filter_cons_of_neg (by simp), ih]
def spLMakers : Sp := fun vs H Q _ => ∃ (r s : Int) (bs : List Bool), vs = [.int r, .int s, .str (txt bs)] ∧ bs.length ≤ 1000 ∧ ∀ p H' (M : List Int), Same H H' → M.Perm (KW.mkL r s 0 bs) → H' p = some (.lst (M.map V.int)) → Q (.ref p) H'
abbrev nLMakers : List Str := ["_law_rises", "_law_steps", "_law_text", "_law_level", "_law_sign"]
theorem sc_lmakers : FnScope nLMakers ["_law_rises", "_law_steps", "_law_text"] (C8.fnScope (topS 41)) := C8.fnScope_by (by decide +kernel)
theorem ok_lmakers (F : DefB K mg "_law_makers" (topS 41) ["_law_rises", "_law_steps", "_law_text"]) (T : Nm mg C D) (c1 : C8.Cal P w K mg base 1 "_law_levels" spLevels []) : C8.Cal P w K mg base 2 "_law_makers" spLMakers [] := by
  refine def_cal F sc_lmakers (fun vs H Q E h => ?_) (fun f cdv A outer s H vs Q E g hr h => ?_)
  · obtain ⟨r, s, bs, rfl, _⟩ := h
    rfl
  · obtain ⟨r, u, bs, rfl, hb, q⟩ := h
    have nd := sc_lmakers.nd
    refine ⟨_, pss_one (ps_ret (pe_callB cr_sortedI rfl T.sorted (by decide +kernel) (pa_cons (pe_lc (own := [("_law_level", 3), ("_law_sign", 4)]) (g := gTup K 2 (gCons (gName 3) (gCons (gName 4) gNil))) rfl nd
      (KZs.pi_zipS rfl T.zip (pa_cons (C8.pe_c c1 hr (by decide) rfl (pa_cons (pv 0) (pa_cons (pv 1) (pa_cons (pv 2) pa_nil)))) (pa_cons (pv 2) pa_nil))) (blkOk_by (N := nLMakers) (sc := C8.fnScope (topS 41)) (by decide +kernel))
      (fun _ _ _ _ _ => pg_tup rfl (pgs_cons (pg_name (i := 3) nd rfl (Or.inl rfl)) (pgs_cons (pg_name (i := 4) nd rfl (Or.inl rfl)) pgs_nil))) (fun _ _ _ _ _ => pts_one (pt_cmpR op_eq (pv 4) pe_str (nomark _))) (fun _ _ _ _ _ => pv 3)) pa_nil))), ?_⟩
    refine ⟨_, rfl, _, rfl, _, rfl, r, u, bs, rfl, hb, fun p0 H1 sm1 hp0 => ⟨_, rfl, p0, _, txt bs, rfl, SqL.of hp0, KC.lcr_zipS (xs := KW.lvL r u 0 bs) (x := txt bs) V.int (fun c => decide (c.2 = 114)) (KC.RV fun c => .int c.1) (SqL.of hp0) ?_ ?_ (KC.rv_keep _) (fun i c T1 H2 hc sm2 hT1 Ky Kn hyy hkn => ?_) (fun Dl acc H2 hDl sm2 hD pr => ?_)⟩⟩
    · rw [KW.lvL_len, txt_size]
    · rw [KW.lvL_len]; omega
    · obtain ⟨c1v, c2v⟩ := c
      have hc2 := (List.getElem?_zip_eq_some.mp hc).2
      obtain ⟨b, hbi, rfl⟩ := txt_at (bs := bs) (i := i) (by rw [← Array.getElem?_toList]; exact hc2)
      refine ⟨T1, _, rfl, SqT.of upd_same, rfl, _, _, rfl, _, _, rfl, rfl, ⟨rfl, _, rfl, rfl, _, rfl, ?_⟩⟩
      rw [sgn_r]
      refine ite2 (fun e => ⟨_, rfl, hyy _ _ (Same.refl _) rfl ?_⟩) (fun e => hkn _ (Same.refl _) ?_)
      · rw [e]; rfl
      · rw [show b = false by simpa using e]; rfl
    · have ea : acc = (KW.mkL r u 0 bs).map V.int := by
        rw [KC.rv_some pr, KW.mkL_filter]
        exact zip_sgn _ bs
      rw [ea] at hD
      exact ⟨Dl, KW.mkL r u 0 bs, rfl, SqL.of hD, fun ns p pm _ hp => q p _ ns ((sm1.trans sm2).trans (KC.same_new hp)) pm upd_same⟩
/-- the gaps below the makers -/
def spLGaps : Sp := fun vs H Q _ => ∃ (r : Int) (t : Addr) (M : List Int), vs = [.int r, .ref t] ∧ H t = some (.lst (M.map V.int)) ∧ Side r ∧ M.length ≤ 60 ∧ (∀ m ∈ M, 0 ≤ m ∧ m ≤ 3600) ∧ ∀ p H' (ns : List Int), Same H H' → ns.Perm (KW.gapsL r M) → ns.Pairwise (· ≤ ·) → H' p = some (.lst (ns.map V.int)) → Q (.ref p) H'
abbrev nLGaps : List Str := ["_law_rises", "_law_makers_here", "_law_found", "_law_maker", "_law_back"]
theorem sc_lgaps : FnScope nLGaps ["_law_rises", "_law_makers_here"] (C8.fnScope (topS 42)) := C8.fnScope_by (by decide +kernel)
theorem gapsOf_len {r m : Int} (h0 : 0 ≤ m) (h1 : m ≤ 3600) (hr : 0 < r) : (KW.gapsOf r m).length ≤ 3600 := by
  unfold KW.gapsOf
  rw [List.length_map, List.length_range]
  have := Int.ediv_le_self r h0
  omega
theorem gapsL_len {r : Int} (hr : 0 < r) : ∀ {M : List Int}, (∀ m ∈ M, 0 ≤ m ∧ m ≤ 3600) → (KW.gapsL r M).length ≤ 3600 * M.length
  | [], _ => by simp [KW.gapsL]
  | m :: M, h => by
    have ih := gapsL_len hr (M := M) fun x hx => h x (List.mem_cons_of_mem _ hx)
    have h1 := h m List.mem_cons_self
    have h2 := gapsOf_len h1.1 h1.2 hr
    unfold KW.gapsL at ih ⊢
    rw [List.map_cons, List.flatten_cons, List.length_append, List.length_cons]
    omega
theorem ok_lgaps (F : DefB K mg "_law_gaps" (topS 42) ["_law_rises", "_law_makers_here"]) (T : Nm mg C D) : C8.Cal P w K mg base 1 "_law_gaps" spLGaps [] := by
  refine def_cal F sc_lgaps (fun vs H Q E h => ?_) (fun f cdv A outer s H vs Q E g hr h => ?_)
  · obtain ⟨r, t, M, rfl, _⟩ := h
    rfl
  · obtain ⟨r, t, M, rfl, ht, hr1, hM, hm, q⟩ := h
    have nd := sc_lgaps.nd
    have r0 : 0 < r := by have := hr1.1; omega
    have r9 := hr1.2
    refine ⟨_, pss_cons (ps_set (i := 2) nd rfl (Or.inl rfl) (pe_lst pa_nil))
      (pss_cons (ps_for PassesOwn.never rfl (pi_list (pv 1)) (pg_name (i := 3) nd rfl (Or.inr rfl))
        (pss_one (ps_expr (pe_bm PySem.F.plainAttrs_list PySem.F.slot_list_extend PySem.F.type_list_extend mt_extend (pv 2) (pa_cons (pe_lc (own := [("_law_back", 4)]) (g := gName 4) rfl nd
          (pi_range2 rfl T.range (pa_cons pe_int (pa_cons (pe_op op_add (pe_op op_fdiv (pv 3) (pv 0)) pe_int) pa_nil))) (blkOk_by (N := nLGaps) (sc := C8.fnScope (topS 42)) (by decide +kernel)) (fun _ _ _ _ _ => pg_name (i := 4) nd rfl (Or.inl rfl)) (fun _ _ _ _ _ => pts_nil)
          (fun _ _ _ _ _ => pe_op op_sub (pv 3) (pe_op op_mul (pv 0) (pv 4)))) pa_nil)))))
      (pss_one (ps_ret (pe_callB cr_sortedI rfl T.sorted (by decide +kernel) (pa_cons (pv 2) pa_nil))))), ?_⟩
    refine ⟨(by show 0 ≤ sizeLine; decide), fun fd hfd => ⟨_, rfl, t, rfl, ⟨_, SqL.of (KC.same_new hfd _ _ ht)⟩, for_list (K := K) (a := t) (xs := M.map V.int) (fun i σ H' => Same H H' ∧ ∃ v, σ = [some (.int r), some (.ref t), some (.ref fd), v, none] ∧ H' fd = some (.lst ((KW.gapsL r (M.take i)).map V.int)))
      ⟨KC.same_new hfd, none, rfl, by rw [upd_same, List.take_zero]; rfl⟩ (fun i σ H' _ hP => SqL.of (hP.1 _ _ ht)) ?_ ?_⟩⟩
    · rintro i y σ H1 hi ⟨sm1, v, rfl, hf⟩
      obtain ⟨m, hmi, rfl⟩ := map_get hi
      obtain ⟨m0, m1⟩ := hm m (List.mem_of_getElem? hmi)
      have hd0 := Int.ediv_nonneg m0 (show 0 ≤ r by omega)
      have hd1 := Int.ediv_le_self r m0
      refine ⟨_, rfl, .inl ⟨rfl, _, SqL.of hf⟩, _, rfl, _, rfl, _, _, rfl, rfl, ⟨r0, by omega⟩, _, _, rfl, rfl, _, _, rfl, ⟨by decide, by decide, by omega, by omega⟩, KC.lcr_range (lo := 1) (n := (m / r + 1 - 1).toNat) (fun _ => true) (KC.RV fun i => .int (m - r * (1 + (i : Int)))) (by omega) (KC.rv_keep _) (fun j H2 hj sm2 Ky Kn hyy hkn => ?_) (fun Dl acc H2 hDl sm2 hD pr => ?_)⟩
      · exact ⟨rfl, _, rfl, _, rfl, _, rfl, _, _, rfl, rfl, .inl ⟨by omega, by omega⟩, _, _, rfl, rfl, hyy _ _ (Same.refl _) rfl rfl⟩
      · have ea : acc = (KW.gapsOf r m).map V.int := by
          rw [KC.rv_all pr]
          unfold KW.gapsOf
          rw [List.map_map, show m / r + 1 - 1 = m / r by omega]
          rfl
        rw [ea] at hD
        have hl1 := gapsL_len r0 (M := M.take i) fun x hx => hm x (List.mem_of_mem_take hx)
        have hl2 := gapsOf_len m0 m1 r0
        rw [List.length_take] at hl1
        refine ⟨fd, Dl, _, _, rfl, rfl, sm2 _ _ hf, hD, ?_, KC.same_mut (sm1.trans sm2) hfd, _, rfl, ?_⟩
        · rw [List.length_map, List.length_map]
          exact Nat.le_trans (show (KW.gapsL r (M.take i)).length + (KW.gapsOf r m).length ≤ 300000 by omega) (by decide)
        · rw [upd_same, KC.take_snoc hmi, KW.gapsL_snoc, List.map_append]
    · rintro σ H1 ⟨sm1, v, rfl, hf⟩
      rw [List.length_map, List.take_length] at hf
      exact ⟨_, rfl, fd, _, rfl, SqL.of hf, fun ns p pm srt hp => q p _ ns (sm1.trans (KC.same_new hp)) pm srt upd_same⟩
/-- .. of a way -/
def spGot : Sp := fun vs H Q _ => ∃ (r s : Int) (bs : List Bool), vs = [.int r, .int s, .str (txt bs)] ∧ Side r ∧ Side s ∧ Cop r s ∧ r + s ≤ 60 ∧ r * s < 1000 ∧ KW.IsWay r s bs ∧ ∀ p H' (G : List Int), Same H H' → H' p = some (.tup (G.map V.int)) → KW.Good r s G → Q (.ref p) H'
theorem sc_got : FnScope ["_law_rises", "_law_steps", "_law_text"] ["_law_rises", "_law_steps", "_law_text"] (C8.fnScope (topS 43)) := C8.fnScope_by (by decide +kernel)
theorem ok_got (F : DefB K mg "_law_gaps_of_text" (topS 43) ["_law_rises", "_law_steps", "_law_text"]) (T : Nm mg C D) (c1 : C8.Cal P w K mg base 2 "_law_makers" spLMakers []) (c2 : C8.Cal P w K mg base 1 "_law_gaps" spLGaps []) : C8.Cal P w K mg base 3 "_law_gaps_of_text" spGot [] := by
  refine def_cal F sc_got (fun vs H Q E h => ?_) (fun f cdv A outer s H vs Q E g hr h => ?_)
  · obtain ⟨r, s, bs, rfl, _⟩ := h
    rfl
  · obtain ⟨r, u, bs, rfl, hr1, hs1, hc, h60, hru, hW, q⟩ := h
    have r0 : 0 < r := by have := hr1.1; omega
    have u0 : 0 < u := by have := hs1.1; omega
    have hcs := count_sum bs
    have hbl : bs.length ≤ 1000 := by
      have e1 := hW.rises
      have e2 := hW.steps
      omega
    refine ⟨_, pss_one (ps_ret (pe_callTy call_tuple_of rfl T.tuple (by decide +kernel) (pa_cons (C8.pe_c c2 hr (by decide) rfl (pa_cons (pv 0) (pa_cons (C8.pe_c c1 hr (by decide) rfl (pa_cons (pv 0) (pa_cons (pv 1) (pa_cons (pv 2) pa_nil)))) pa_nil))) pa_nil))), ?_⟩
    refine ⟨_, rfl, _, rfl, _, rfl, _, rfl, r, u, bs, rfl, hbl, fun p1 H1 M sm1 hM hp1 => ⟨r, p1, M, rfl, hp1, hr1, ?_, ?_, fun p2 H2 ns sm2 pm srt hp2 => ⟨p2, _, rfl, .inl ⟨SqL.of hp2, fun p3 hp3 => ?_⟩⟩⟩⟩
    · rw [hM.length_eq, KW.mkL_len]
      have e1 := hW.rises
      have e2 := hr1.2
      omega
    · intro m hm
      have hm' := hM.mem_iff.mp hm
      refine ⟨KW.mk_nonneg hW.nn hm', ?_⟩
      have h2 := KW.mk_le (a := r) (b := u) (by omega) (by omega) hm'
      rw [hW.rises, Int.mul_comm u r] at h2
      omega
    · exact q p3 _ ns ((sm1.trans sm2).trans (KC.same_new hp3)) upd_same (KW.way_good (show Int.gcd r u = 1 from hc) r0 u0 hru hW hM pm srt)
end
end KP

namespace KP
open PySem PySem.Spec PyProof.Rows L2
theorem most_is {r s m : Int} {G : List Int} (g : KW.Good r s G) (hm : m ∈ (-1 : Int) :: G) (hx : ∀ y, y ∈ (-1 : Int) :: G → y ≤ m) : m = KW.lastG G := by
  by_cases hn : G = []
  · subst hn
    have : m = -1 := by simpa using hm
    rw [this]; rfl
  · rcases List.mem_cons.mp hm with e | h
    · have h1 := KW.lastG_mem hn
      have h2 := hx _ (List.mem_cons_of_mem _ h1)
      have h3 := g.pos _ h1
      omega
    · exact (KW.lastG_eq g.asc h fun x hxG => hx x (List.mem_cons_of_mem _ hxG)).symm
theorem due_range (G : List Int) : ((List.range (KW.lastG G).toNat).filter fun i : Nat => !decide (((0 : Int) + (i : Int)) ∈ G)).map (fun i : Nat => V.int (KW.lastG G - (0 + (i : Int)))) = (KW.dueL G).map V.int := by
  unfold KW.dueL
  rw [List.filter_map, List.map_map, List.map_map]
  have e2 : (List.range (KW.lastG G).toNat).filter (fun i : Nat => !decide (((0 : Int) + (i : Int)) ∈ G)) = (List.range (KW.lastG G).toNat).filter ((fun i => decide (i ∉ G)) ∘ fun n : Nat => (n : Int)) := by
    refine List.filter_congr fun i _ => ?_
    rw [Int.zero_add]
    show (!decide ((i : Int) ∈ G)) = decide ((i : Int) ∉ G)
    by_cases h : (i : Int) ∈ G <;> simp [h]
  rw [e2]
  refine List.map_congr_left fun i _ => ?_
  show V.int (KW.lastG G - (0 + (i : Int))) = V.int (KW.lastG G - (i : Int))
  rw [Int.zero_add]
section
variable {P : Program} {w : World} {K : PySem.W.Frag} {mg : Str → Option Value} {base : Heap} {C D : Addr}
def spDue : Sp := fun vs H Q _ => ∃ (t : Addr) (r s : Int) (G : List Int), vs = [.ref t] ∧ H t = some (.tup (G.map V.int)) ∧ KW.Good r s G ∧ ∀ p H', Same H H' → H' p = some (.tup ((KW.dualL G).map V.int)) → Q (.ref p) H'
abbrev nDue : List Str := ["_law_gaps_here", "_law_most", "_law_number"]
theorem sc_due : FnScope nDue ["_law_gaps_here"] (C8.fnScope (topS 44)) := C8.fnScope_by (by decide +kernel)
theorem ok_due (F : DefB K mg "_law_dual_gaps" (topS 44) ["_law_gaps_here"]) (T : Nm mg C D) : C8.Cal P w K mg base 1 "_law_dual_gaps" spDue [] := by
  refine def_cal F sc_due (fun vs H Q E h => ?_) (fun f cdv A outer s H vs Q E g hr h => ?_)
  · obtain ⟨t, r, s, G, rfl, _⟩ := h
    rfl
  · obtain ⟨t, r, u, G, rfl, ht, hG, q⟩ := h
    have nd := sc_due.nd
    have hge := KW.lastG_ge hG
    have hlen := hG.len
    refine ⟨_, pss_cons (ps_set (i := 1) nd rfl (Or.inr rfl) (pe_callB (cr_max rfl) rfl T.max (by decide +kernel) (pa_cons (pe_op op_cat (pe_lst (pa_cons (pe_un un_neg pe_int) pa_nil)) (pe_callTy call_list_of rfl T.list (by decide +kernel) (pa_cons (pv 0) pa_nil))) pa_nil)))
      (pss_one (ps_ret (pe_callTy call_tuple_of rfl T.tuple (by decide +kernel) (pa_cons (pe_callB cr_sortedI rfl T.sorted (by decide +kernel) (pa_cons (pe_lc (own := [("_law_number", 2)]) (g := gName 2) rfl nd (pi_range1 rfl T.range (pa_cons (pv 1) pa_nil))
          (blkOk_by (N := nDue) (sc := C8.fnScope (topS 44)) (by decide +kernel)) (fun _ _ _ _ _ => pg_name (i := 2) nd rfl (Or.inl rfl)) (fun _ _ _ _ _ => pts_one (pt_cmpR (r := rIn K true) op_notIn_seq (pv 2) (pv 0) (by with_unfolding_all rfl)))
          (fun _ _ _ _ _ => pe_op op_sub (pv 1) (pv 2))) pa_nil)) pa_nil)))), ?_⟩
    refine ⟨_, rfl, (by show 1 ≤ sizeLine; decide), fun l1 hl1 => ?_⟩
    have sm1 := KC.same_new (o := .lst [V.int (-1)]) hl1
    refine ⟨_, rfl, t, _, rfl, .inr (SqT.of (sm1 _ _ ht)), fun l2 hl2 => ?_⟩
    have sm2 := KC.same_new (o := .lst (G.map V.int)) hl2
    refine ⟨l1, l2, _, _, rfl, rfl, sm2 _ _ upd_same, upd_same, ?_, fun l3 hl3 => ?_⟩
    · rw [List.length_map]
      exact Nat.le_trans (show [V.int (-1)].length + G.length ≤ 2000 by show 1 + G.length ≤ 2000; omega) (by decide)
    have sm3 := KC.same_new (o := .lst ([V.int (-1)] ++ G.map V.int)) hl3
    refine ⟨l3, (-1 : Int) :: G, rfl, SqL.of upd_same, by simp, fun m hm hx => ?_⟩
    have em := most_is hG hm hx
    subst em
    have sm := (sm1.trans sm2).trans sm3
    have ht3 := sm _ _ ht
    generalize upd (upd (upd H l1 (.lst [V.int (-1)])) l2 (.lst (G.map V.int))) l3 (.lst ([V.int (-1)] ++ G.map V.int)) = H3 at sm ht3
    refine ⟨_, rfl, _, rfl, by omega, by omega, KC.lcr_range (lo := 0) (n := (KW.lastG G).toNat) (fun i => !decide (((0 : Int) + (i : Int)) ∈ G)) (KC.RV fun i => .int (KW.lastG G - (0 + (i : Int)))) (by omega) (KC.rv_keep _) (fun i H4 hi sm4 Ky Kn hyy hkn => ?_) (fun Dl acc H4 hDl sm4 hD pr => ?_)⟩
    · refine ⟨rfl, _, rfl, _, rfl, t, _, rfl, .inr (SqT.of (sm4 _ _ ht3)), rfl, flat_ints G, _, rfl, ?_⟩
      show if (!inV (V.int (0 + (i : Int))) (G.map V.int)) = true then _ else _
      rw [inV_ints]
      exact ite2 (fun e => ⟨_, rfl, _, rfl, _, _, rfl, rfl, hyy _ _ (Same.refl _) rfl e⟩) (fun e => hkn _ (Same.refl _) (by simpa using e))
    · have ea : acc = (KW.dueL G).map V.int := (KC.rv_some pr).trans (due_range G)
      rw [ea] at hD
      refine ⟨Dl, KW.dueL G, rfl, SqL.of hD, fun ns p pm srt hp => ⟨p, _, rfl, .inl ⟨SqL.of upd_same, fun p2 hp2 => ?_⟩⟩⟩
      have e := KW.due_sorted hG pm srt
      subst e
      exact q p2 _ (((sm.trans sm4).trans (KC.same_new hp)).trans (KC.same_new hp2)) upd_same
end
end KP

namespace KP
open PySem PySem.Spec PyProof.Rows L2
def PropAt (K : PySem.W.Frag) (C : Addr) (m : Str) (f : Addr) : Prop := ∃ p, PySem.W.findIn K (.ref C) m = some (some (.ref p)) ∧ PySem.W.specialIn K (.ref p) "__get__" = some (some (.builtin "property.__get__")) ∧ PySem.W.takesIn K (.ref p) = some true ∧ (∃ rest, PySem.W.recIn K p "property" = some (.ref f :: rest))
structure EqAt' (K : PySem.W.Frag) (C : Addr) (g : Addr) : Prop where
  at_ : PySem.W.findIn K (.ref C) "__eq__" = some (some (.ref g))
  fn : PySem.W.isFn K (.ref g) = true
/-- the defs of the two classes, proved -/
structure Ops (P : Program) (w : World) (K : PySem.W.Frag) (mg : Str → Option Value) (base : Heap) (C D : Addr) : Prop where
  mkS : C8.Mak P w K mg base 4 "Slope" C (spSInit C) []
  mkH : C8.Mak P w K mg base 4 "Shelf" D (spHInit C D) []
  dual : ∃ g, Meth K D "dual" g ∧ FnR P w K mg base CX0 6 g (spHDual C D)
  exch : ∃ g, Meth K D "exchanged" g ∧ FnR P w K mg base CX0 7 g (spHExch C D)
  gaps : ∃ g, PropAt K D "gaps" g ∧ FnR P w K mg base CX0 1 g (spHGaps C D)
  slope : ∃ g, PropAt K D "slope" g ∧ FnR P w K mg base CX0 1 g (spHSlope C D)
  eqS : ∃ g, EqAt' K C g ∧ FnR P w K mg base CX0 1 g (spSEq C)
  eqH : ∃ g, EqAt' K D g ∧ FnR P w K mg base CX0 2 g (spHEq C D)
theorem ifF {c : Bool} {A B : Prop} (h : c = false) (k : B) : if c = true then A else B := by rw [h]; exact iteF k
theorem ifT {c : Bool} {A B : Prop} (h : c = true) (k : A) : if c = true then A else B := by rw [h]; exact iteT k
theorem cut_tt {c : Bool} {A : TT} {σ : L2.St} {H : Hp} {Kb : Bool → Hp → Prop} (h1 : c = true → ∀ Kb' : Bool → Hp → Prop, Kb' false H → A σ H Kb') (q : Kb false H) : if c = true then A σ H Kb else Kb false H := by
  cases c with
  | true => exact iteT (h1 rfl Kb q)
  | false => exact iteF q
section
variable {P : Program} {w : World} {K : PySem.W.Frag} {mg : Str → Option Value} {base : Heap} {C D : Addr}
theorem bl_ne (a b : Bool) : (!decide (V.bl a = V.bl b)) = (a != b) := by cases a <;> cases b <;> decide
def spOne (C : Addr) : Sp := fun vs H Q _ => ∃ (x t : Addr) (r s : Int) (G : List Int), vs = [.ref x, .ref t] ∧ SlopeAt C H x r s ∧ H t = some (.tup (G.map V.int)) ∧ Side r ∧ Side s ∧ Cop r s ∧ KW.Good r s G ∧ ∀ H', Same H H' → Q (.bl true) H'
abbrev nOne : List Str := ["_law_slope_here", "_law_gaps_here", "_law_shelf", "_law_due", "_law_dual"]
theorem sc_one : FnScope nOne ["_law_slope_here", "_law_gaps_here"] (C8.fnScope (topS 45)) := C8.fnScope_by (by decide +kernel)
theorem ok_one (F : DefB K mg "_law_is_dual_right" (topS 45) ["_law_slope_here", "_law_gaps_here"]) (T : Nm mg C D) (S : SlpF K C) (Z : ShlF K D) (O : Ops P w K mg base C D) (c1 : C8.Cal P w K mg base 1 "_law_dual_gaps" spDue []) (c2 : C8.Cal P w K mg base 4 "is_gaps" (spAreGaps C) []) :
    C8.Cal P w K mg base 9 "_law_is_dual_right" (spOne C) [] := by
  refine def_cal F sc_one (fun vs H Q E h => ?_) (fun f cdv A outer s H vs Q E g hr h => ?_)
  · obtain ⟨x, t, r, s, G, rfl, _⟩ := h
    rfl
  · obtain ⟨x, t, r, u, G, rfl, hx, ht, hr1, hs1, hcp, hG, q⟩ := h
    have nd := sc_one.nd
    obtain ⟨gd, Md, Fd⟩ := O.dual
    obtain ⟨ge, Me, Fe⟩ := O.exch
    obtain ⟨gg, ⟨pg, pg1, pg2, pg3, pg4⟩, Fg⟩ := O.gaps
    obtain ⟨gs, ⟨pp, ps1, ps2, ps3, ps4⟩, Fs⟩ := O.slope
    obtain ⟨gq, Eq1, Fq⟩ := O.eqS
    obtain ⟨gh, Eq2, Fh⟩ := O.eqH
    have hu := hr.units
    refine ⟨_, pss_cons (ps_par (i := 2) (j := 3) rfl nd rfl rfl (by decide) rfl rfl (pa_cons (C8.pe_mk O.mkH hr (by decide) rfl (pa_cons (pv 0) (pa_cons (pv 1) pa_nil))) (pa_cons (C8.pe_c c1 hr (by decide) rfl (pa_cons (pv 1) pa_nil)) pa_nil)) rfl)
      (pss_cons (ps_set (i := 4) nd rfl (Or.inl rfl) (SlX.pe_methSl0 (E := E0) (pv 2) Z.c.sc Md Fd (hr.mono (by decide)) pass0))
      (pss_cons (ps_if (PW.pt (pw_or (pt_cmpR (op_neD hu) (SlX.pe_propSl (E := E0) (pv 4) Z.c.sc pg1 pg2 pg3 pg4 Fg (hr.mono (by decide)) (fun _ _ _ _ z => z.elim)) (pv 3) (nomark _))
          (pw_or (pt_cmpR (SlX.op_ownNe (E := E0) S.c.si.cm S.c.ne Eq1.at_ Eq1.fn Fq (hr.mono (by decide)) pass0) (SlX.pe_propSl (E := E0) (pv 4) Z.c.sc ps1 ps2 ps3 ps4 Fs (hr.mono (by decide)) (fun _ _ _ _ z => z.elim)) (pv 0) (nomark _))
          (pw_or (pt_cmpR (SlX.op_ownNe (E := E0) Z.c.si.cm Z.c.ne Eq2.at_ Eq2.fn Fh (hr.mono (by decide)) pass0) (SlX.pe_methSl0 (E := E0) (pv 4) Z.c.sc Md Fd (hr.mono (by decide)) pass0) (pv 2) (nomark _))
          (pw_or1 (pt_not (pt_val (C8.pe_c c2 hr (by decide) rfl (pa_cons (pv 0) (pa_cons (pv 3) pa_nil)))))))))) pss_never pss_nil)
      (pss_cons (ps_if (PW.pt (pw_and (pt_cmpR (op_neD hu) (pv 1) (pe_tup pa_nil) (nomark _)) (pw_and1 (PW.pt (pw_or (pt_cmpR op_ne (pe_ix ix_tup (pv 3) (pe_un un_neg pe_int) (fun _ _ => rfl)) (pe_ix ix_tup (pv 1) (pe_un un_neg pe_int) (fun _ _ => rfl)) (nomark _))
          (pw_or1 (pt_cmpR op_ne (pe_op op_add (pe_callB call_len_seq rfl T.len PySem.boot_len (pa_cons (pv 3) pa_nil)) (pe_callB call_len_seq rfl T.len PySem.boot_len (pa_cons (pv 1) pa_nil))) (pe_op op_add (pe_ix ix_tup (pv 1) (pe_un un_neg pe_int) (fun _ _ => rfl)) pe_int) (nomark _)))))))) pss_never pss_nil)
      (pss_cons (ps_if (pt_cmpR op_ne (pe_cmpR (op_eqD hu) (pv 3) (pe_tup pa_nil) (nomark _)) (pe_cmpR (op_eqD hu) (pv 1) (pe_tup pa_nil) (nomark _)) (nomark _)) pss_never pss_nil)
      (pss_one (ps_ret (pe_and (pe_cmpR (SlX.op_own (E := E0) (fun _ _ => rfl) Eq2.at_ Eq2.fn Fh (hr.mono (by decide)) pass0) (SlX.pe_methSl0 (E := E0) (pv 4) Z.c.sc Me Fe (hr.mono (by decide)) pass0)
          (SlX.pe_methSl0 (E := E0) (SlX.pe_methSl0 (E := E0) (pv 2) Z.c.sc Me Fe (hr.mono (by decide)) pass0) Z.c.sc Md Fd (hr.mono (by decide)) pass0) (nomark _))
        (pe_one (pe_cmpR (op_eqD hu) (SlX.pe_propSl (E := E0) (pv 2) Z.c.sc pg1 pg2 pg3 pg4 Fg (hr.mono (by decide)) (fun _ _ _ _ z => z.elim)) (pv 1) (nomark _)))))))))), ?_⟩
    have dgood : KW.Good r u (KW.dualL G) := KW.dual_good (by have := hr1.1; omega) (by have := hs1.1; omega) hG
    -- the shelf, what is due, the dual
    refine ⟨_, rfl, _, rfl, fun y dy ny ndy ney => ⟨H, y, dy, x, t, r, u, G, rfl, ny, ndy, ney, rfl, hx, ht, hr1, hs1, hG, fun H1 sm1 hy1 => ⟨rfl, _, rfl, t, r, u, G, rfl, sm1 _ _ ht, hG, fun td H2 sm2 htd2 => ⟨_, _, rfl, ?_⟩⟩⟩⟩
    have hy2 := hy1.same sm2
    obtain ⟨dy2, _, _, _, sy2, _, _, _⟩ := hy2.slt
    refine ⟨_, rfl, y, dy2, _, rfl, sy2, y, r, u, G, rfl, hy2, hr1, hs1, hG, fun z H3 sm3 hz3 => ?_⟩
    have sm03 := (sm1.trans sm2).trans sm3
    have hx3 := hx.same sm03
    have ht3 := sm03 _ _ ht
    have hy3 := hy2.same sm3
    have htd3 := sm3 _ _ htd2
    obtain ⟨dz3, _, _, _, sz3, _, _, _⟩ := hz3.slt
    obtain ⟨dx3, sx3⟩ := hx3.slt
    -- the first test
    refine ⟨_, rfl, z, dz3, _, rfl, sz3, z, r, u, KW.dualL G, rfl, hz3, fun tg htg => ⟨_, rfl, dT (KW.dualL G), dT (KW.dualL G), dp_T (SqT.of htg), dp_T (SqT.of htd3), shp_T _, shp_T _, _, rfl, ?_⟩⟩
    refine ifF (by rw [eqv_T]; simp) ?_
    refine ⟨_, rfl, z, dz3, _, rfl, sz3, z, r, u, KW.dualL G, rfl, hz3, fun p hp => ?_⟩
    obtain ⟨dp, sp⟩ := hp.slt
    refine ⟨_, rfl, p, dp, _, x, C, dx3, _, rfl, rfl, sp, sx3, S.c.nf, p, x, r, u, r, u, rfl, hp, hx3, _, rfl, _, rfl, ?_⟩
    refine ifF (by simp) ?_
    refine ⟨_, rfl, z, dz3, _, rfl, sz3, z, r, u, KW.dualL G, rfl, hz3, hr1, hs1, dgood, fun z2 H4 sm4 hz24 => ?_⟩
    obtain ⟨dz4, _, _, _, sz24, _, _, _⟩ := hz24.slt
    obtain ⟨dy4, _, _, _, sy4, _, _, _⟩ := (hy3.same sm4).slt
    refine ⟨_, rfl, z2, dz4, _, y, D, dy4, _, rfl, rfl, sz24, sy4, Z.c.nf, z2, y, r, u, KW.dualL (KW.dualL G), G, rfl, hz24, hy3.same sm4, _, rfl, _, rfl, ?_⟩
    refine ifF (by rw [KW.dual_dual hG]; simp) ?_
    refine ⟨_, rfl, _, rfl, x, td, r, u, KW.dualL G, rfl, hx3.same sm4, sm4 _ _ htd3, hr1, hs1, dgood, fun H5 sm5 => ⟨true, rfl, ifF (by rfl) ?_⟩⟩
    have sm35 := sm4.trans sm5
    -- the second
    refine ⟨_, rfl, (by show 0 ≤ sizeLine; decide), fun e he => ⟨dT G, dT [], dp_T (SqT.of ?_), dp_T (SqT.of upd_same), shp_T _, shp_T _, _, rfl, ?_⟩⟩
    · exact (sm35.trans (KC.same_new he)) _ _ ht3
    have sm36 := sm35.trans (KC.same_new (o := .tup ([] : List V)) he)
    have ht6 := sm36 _ _ ht3
    have htd6 := sm36 _ _ htd3
    have hz6 := hz3.same sm36
    have hy6 := hy3.same sm36
    have sm06 := sm03.trans sm36
    generalize upd H5 e (.tup ([] : List V)) = H6 at ht6 htd6 hz6 hy6 sm06
    rw [eqv_T]
    refine cut_tt (fun hc Kb kk => ?_) ?_
    · have hn : G ≠ [] := by simpa using hc
      have hdn : KW.dualL G ≠ [] := fun z => hn ((KW.dual_eq_nil hG).mp z)
      refine ⟨_, rfl, _, rfl, td, _, _, _, rfl, rfl, SqT.of htd6, atI_lastG hdn, _, rfl, _, rfl, t, _, _, _, rfl, rfl, SqT.of ht6, atI_lastG hn, rfl, _, rfl, ?_⟩
      refine ifF (by rw [KW.dual_lastG hG]; simp) ?_
      refine ⟨_, rfl, td, _, rfl, .inr (SqT.of htd6), _, rfl, t, _, rfl, .inr (SqT.of ht6), _, _, rfl, rfl, _, rfl, _, rfl, t, _, _, _, rfl, rfl, SqT.of ht6, atI_lastG hn, _, _, rfl, rfl, rfl, _, rfl, ?_⟩
      have e := KW.dual_len hG hn
      have e2 : (!decide (V.int ((((KW.dualL G).map V.int).length : Nat) + (((G.map V.int).length : Nat) : Int)) = V.int (KW.lastG G + 1))) = false := by
        rw [List.length_map, List.length_map, e]
        simp
      show Kb _ _
      rw [e2]
      exact kk
    refine ifF rfl ?_
    -- the third
    refine ⟨_, rfl, (by show 0 ≤ sizeLine; decide), fun e2 he2 => ?_⟩
    have s7 := KC.same_new (o := .tup ([] : List V)) he2
    refine ⟨dT (KW.dualL G), dT [], dp_T (SqT.of (s7 _ _ htd6)), dp_T (SqT.of upd_same), shp_T _, shp_T _, _, rfl, (by show 0 ≤ sizeLine; decide), fun e3 he3 => ?_⟩
    have s8 := KC.same_new (o := .tup ([] : List V)) he3
    have s78 := s7.trans s8
    have ht8 := s78 _ _ ht6
    have hz8 := hz6.same s78
    have hy8 := hy6.same s78
    have sm08 := sm06.trans s78
    refine ⟨dT G, dT [], dp_T (SqT.of ht8), dp_T (SqT.of upd_same), shp_T _, shp_T _, rfl, _, rfl, ?_⟩
    generalize upd (upd H6 e2 (.tup ([] : List V))) e3 (.tup ([] : List V)) = H8 at ht8 hz8 hy8 sm08
    refine ifF (by
      rw [eqv_T, eqv_T, bl_ne]
      simp [KW.dual_eq_nil hG]) ?_
    -- the answer
    obtain ⟨dz8, _, _, _, sz8, _, _, _⟩ := hz8.slt
    refine ⟨_, rfl, z, dz8, _, rfl, sz8, z, r, u, KW.dualL G, rfl, hz8, hr1, hs1, hcp, dgood, fun z9 H9 sm9 hz9 => ?_⟩
    have hy9 := hy8.same sm9
    obtain ⟨dy9, _, _, _, sy9, _, _, _⟩ := hy9.slt
    refine ⟨_, rfl, y, dy9, _, rfl, sy9, y, r, u, G, rfl, hy9, hr1, hs1, hcp, hG, fun y10 H10 sm10 hy10 => ?_⟩
    obtain ⟨dy10, _, _, _, sy10, _, _, _⟩ := hy10.slt
    refine ⟨y10, dy10, _, rfl, sy10, y10, u, r, G, rfl, hy10, hs1, hr1, hG.swap, fun y11 H11 sm11 hy11 => ?_⟩
    have s911 := sm10.trans sm11
    have hz11 := hz9.same s911
    obtain ⟨dz11, _, _, _, sz11, _, _, _⟩ := hz11.slt
    obtain ⟨dy11, _, _, _, sy11, _, _, _⟩ := hy11.slt
    refine ⟨z9, dz11, _, y11, D, dy11, _, rfl, rfl, sz11, sy11, Z.c.nf, z9, y11, u, r, KW.dualL G, KW.dualL G, rfl, hz11, hy11, _, rfl, ?_⟩
    refine ifT (by simp) ?_
    have s811 := sm9.trans s911
    have hyE := hy8.same s811
    obtain ⟨dyE, _, _, _, syE, _, _, _⟩ := hyE.slt
    refine ⟨_, rfl, y, dyE, _, rfl, syE, y, r, u, G, rfl, hyE, fun tg htg => ⟨_, rfl, dT G, dT G, dp_T (SqT.of htg), dp_T (SqT.of (s811 _ _ ht8)), shp_T _, shp_T _, ?_⟩⟩
    exact q_bl (q _ (sm08.trans s811)) (by rw [eqv_T]; simp)
end
end KP

namespace KP
open PySem PySem.Spec PyProof.Rows L2
theorem shelves_zip {C D : Addr} {r s : Int} {H : Hp} : ∀ {Gs : List (List Int)} {out : List V}, Shelves C D r s H Gs out → ∃ ps : List (List Int × Addr), ps.map (·.1) = Gs ∧ out = ps.map (fun p => V.ref p.2) ∧ ∀ p ∈ ps, ShelfAt C D H p.2 r s p.1
  | _, _, .nil => ⟨[], rfl, rfl, fun p h => nomatch h⟩
  | G :: _, _, .cons ⟨y, e, h⟩ t => by
    obtain ⟨ps, h1, h2, h3⟩ := shelves_zip t
    subst e h1 h2
    refine ⟨(G, y) :: ps, rfl, rfl, fun p hp => ?_⟩
    rcases List.mem_cons.mp hp with rfl | hp
    · exact h
    · exact h3 p hp
abbrev TupV (H : Hp) (ns : List Int) (v : V) : Prop := ∃ t, v = V.ref t ∧ H t = some (.tup (ns.map V.int))
theorem rt_all {α : Type} {f : α → List Int} {H : Hp} {src : List α} {acc : List V} (h : Paired (fun a v => KC.RT f a v H) (src.filter fun _ => true) acc) : Paired (TupV H) (src.map f) acc := by
  rw [List.filter_eq_self.mpr fun _ _ => rfl] at h
  induction h with
  | nil => exact .nil
  | cons h t ih => exact .cons h ih
theorem tups_key {H : Hp} : ∀ {ks : List (List Int)} {vs : List V}, Paired (TupV H) ks vs → vs.map (KSr.kH H) = ks ∧ ∀ v ∈ vs, TupV H (KSr.kH H v) v
  | _, _, .nil => ⟨rfl, fun v h => nomatch h⟩
  | _, _, .cons ⟨t, e, h⟩ r => by
    obtain ⟨h1, h2⟩ := tups_key r
    subst e
    refine ⟨by rw [List.map_cons, h1, KSr.kH_of h], fun v hv => ?_⟩
    rcases List.mem_cons.mp hv with rfl | hv
    · rw [KSr.kH_of h]; exact ⟨t, rfl, h⟩
    · exact h2 v hv
theorem tups_of {R : List Int → V → Prop} {k : V → List Int} : ∀ {zs : List V}, (∀ z ∈ zs, R (k z) z) → Paired R (zs.map k) zs
  | [], _ => .nil
  | z :: zs, h => .cons (h z List.mem_cons_self) (tups_of fun y hy => h y (List.mem_cons_of_mem _ hy))
theorem DiceAt.same {H H' : Hp} {l : Addr} (e : Same H H') (h : DiceAt H l) : DiceAt H' l := let ⟨a, b, c, k⟩ := h; ⟨a, b, c, e _ _ k⟩
theorem SlopeAt.but {C l x : Addr} {H H' : Hp} {r s : Int} (h : SlopeAt C H x r s) (d : DiceAt H l) (e : But l H H') : SlopeAt C H' x r s :=
  let ⟨dx, h1, h2⟩ := h
  let ⟨a, b, c, k⟩ := d
  ⟨dx, e _ _ (ne_of h1 k (fun z => nomatch z)) h1, e _ _ (ne_of h2 k (fun z => nomatch z)) h2⟩
section
variable {P : Program} {w : World} {K : PySem.W.Frag} {mg : Str → Option Value} {base : Heap} {C D : Addr}
def spRight : Sp := fun vs H Q _ => ∃ l : Addr, vs = [.ref l] ∧ DiceAt H l ∧ ∀ H', But l H H' → Q (.bl true) H'
abbrev nRight : List Str := ["_law_dice_here", "_law_rises", "_law_steps", "_law_slope_here", "_law_turn", "_law_told", "_law_shelf"]
theorem sc_right : FnScope nRight ["_law_dice_here"] (C8.fnScope (topS 46)) := C8.fnScope_by (by decide +kernel)
theorem passL {X : Cx} : Passes (L2.CX X.prog X.w) X E0 := fun pins σ H s e s' I c => by
  obtain ⟨a, B, H', cls, d, _, _, _, _, _, _, _, hE⟩ := c
  exact hE.elim
theorem ok_right (F : DefB K mg "_law_right" (topS 46) ["_law_dice_here"]) (T : Nm mg C D) (S : SlpF K C) (Z : ShlF K D) (O : Ops P w K mg base C D) (c1 : C8.Cal P w K mg base 2 "_law_slope" spLSlope []) (c2 : C8.Cal P w K mg base 9 "_law_is_dual_right" (spOne C) [])
    (c3 : C8.Cal P w K mg base 3 "_law_gaps_of_text" spGot []) (c4 : C8.Cal P w K mg base 2 "_law_way" spWay []) (c5 : CalG P w K mg base 7 "shelves" (spShelves C D)) : C8.Cal P w K mg base 11 "_law_right" spRight [] := by
  obtain ⟨fg, fdg, psg, GF, gm, gk, gb⟩ := c5.ex
  refine def_cal F sc_right (fun vs H Q E h => ?_) (fun f cdv A outer s H vs Q E g hr h => ?_)
  · obtain ⟨l, rfl, _⟩ := h
    rfl
  · obtain ⟨l, rfl, hl, q⟩ := h
    have nd := sc_right.nd
    obtain ⟨gd, Md, Fd⟩ := O.dual
    obtain ⟨gg, ⟨pg, pg1, pg2, pg3, pg4⟩, Fg⟩ := O.gaps
    have hu := hr.units
    refine ⟨_, pss_cons (ps_asg (C8.pe_c c1 hr (by decide) rfl (pa_cons (pv 0) (pa_cons pe_int pa_nil))) (pg_tup rfl (pgs_cons (pg_name (i := 1) nd rfl (Or.inl rfl)) (pgs_cons (pg_name (i := 2) nd rfl (Or.inl rfl)) pgs_nil))))
      (pss_cons (ps_set (i := 3) nd rfl (Or.inr rfl) (C8.pe_mk O.mkS hr (by decide) rfl (pa_cons (pv 1) (pa_cons (pv 2) pa_nil))))
      (pss_cons (ps_for PassesOwn.never rfl (pi_range1 rfl T.range (pa_cons pe_int pa_nil)) (pg_name (i := 4) nd rfl (Or.inl rfl))
        (pss_one (ps_if (pt_not (pt_val (C8.pe_c c2 hr (by decide) rfl (pa_cons (pv 3) (pa_cons (C8.pe_c c3 hr (by decide) rfl (pa_cons (pv 1) (pa_cons (pv 2) (pa_cons (C8.pe_c c4 hr (by decide) rfl (pa_cons (pv 0) (pa_cons (pv 1) (pa_cons (pv 2) pa_nil)))) pa_nil)))) pa_nil))))) pss_never pss_nil)))
      (pss_cons (ps_asg (C8.pe_c c1 hr (by decide) rfl (pa_cons (pv 0) (pa_cons pe_int pa_nil))) (pg_tup rfl (pgs_cons (pg_name (i := 1) nd rfl (Or.inl rfl)) (pgs_cons (pg_name (i := 2) nd rfl (Or.inl rfl)) pgs_nil))))
      (pss_cons (ps_set (i := 3) nd rfl (Or.inr rfl) (C8.pe_mk O.mkS hr (by decide) rfl (pa_cons (pv 1) (pa_cons (pv 2) pa_nil))))
      (pss_cons (ps_set (i := 5) nd rfl (Or.inl rfl) (pe_listG (E := E0) (pgen_call GF (hr.mono (by decide)) rfl gm gk gb .nil (pa_cons (pv 3) pa_nil)) passL (fun _ _ _ z => False.elim z) hr rfl T.list (by decide +kernel)))
      (pss_cons (ps_if (pt_cmpR (op_neD hu)
          (pe_callB (KSr.cr_sortedL hu) rfl T.sorted (by decide +kernel) (pa_cons (pe_lc (own := [("_law_shelf", 6)]) (g := gName 6) rfl nd (pi_list (pv 5)) (blkOk_by (N := nRight) (sc := C8.fnScope (topS 46)) (by decide +kernel)) (fun _ _ _ _ _ => pg_name (i := 6) nd rfl (Or.inl rfl)) (fun _ _ _ _ _ => pts_nil)
            (fun _ _ _ _ _ => SlX.pe_propSl (E := E0) (SlX.pe_methSl0 (E := E0) (pv 6) Z.c.sc Md Fd (hr.mono (by decide)) pass0) Z.c.sc pg1 pg2 pg3 pg4 Fg (hr.mono (by decide)) (fun _ _ _ _ z => z.elim))) pa_nil))
          (pe_callB (KSr.cr_sortedL hu) rfl T.sorted (by decide +kernel) (pa_cons (pe_lc (own := [("_law_shelf", 6)]) (g := gName 6) rfl nd (pi_list (pv 5)) (blkOk_by (N := nRight) (sc := C8.fnScope (topS 46)) (by decide +kernel)) (fun _ _ _ _ _ => pg_name (i := 6) nd rfl (Or.inl rfl)) (fun _ _ _ _ _ => pts_nil)
            (fun _ _ _ _ _ => SlX.pe_propSl (E := E0) (pv 6) Z.c.sc pg1 pg2 pg3 pg4 Fg (hr.mono (by decide)) (fun _ _ _ _ z => z.elim))) pa_nil)) (nomark _)) pss_never pss_nil)
      (pss_one (ps_ret (pe_callB (cr_all rfl) rfl T.all (by decide +kernel) (pa_cons (pe_lc (own := [("_law_shelf", 6)]) (g := gName 6) rfl nd (pi_list (pv 5)) (blkOk_by (N := nRight) (sc := C8.fnScope (topS 46)) (by decide +kernel)) (fun _ _ _ _ _ => pg_name (i := 6) nd rfl (Or.inl rfl)) (fun _ _ _ _ _ => pts_nil)
            (fun _ _ _ _ _ => C8.pe_c c2 hr (by decide) rfl (pa_cons (pv 3) (pa_cons (SlX.pe_propSl (E := E0) (pv 6) Z.c.sc pg1 pg2 pg3 pg4 Fg (hr.mono (by decide)) (fun _ _ _ _ z => z.elim)) pa_nil)))) pa_nil)))))))))), ?_⟩
    -- the first slope
    refine ⟨_, rfl, l, 20, rfl, hl, by decide, by decide, fun p H1 r u b1 d1 hp hr1 hs1 hcp hsum => ⟨p, _, rfl, SqT.of hp, rfl, _, _, rfl, _, _, rfl, rfl, ?_⟩⟩
    refine ⟨_, rfl, _, rfl, fun x dx nx ndx nex => ⟨H1, x, dx, r, u, rfl, nx, ndx, nex, rfl, hr1, hs1, hcp, fun H2 sm2 hx => ⟨rfl, ?_⟩⟩⟩
    have hru : r * u < 1000 := by
      have h1 : r * u ≤ 20 * u := Int.mul_le_mul_of_nonneg_right (by have := hs1.1; omega) (by have := hs1.1; omega)
      have h2 := hr1.1
      omega
    refine ⟨3, rfl, by decide, by decide, for_range (lo := 0) (n := 3) (fun i σ H' => But l H2 H' ∧ DiceAt H' l ∧ SlopeAt C H' x r u ∧ ∃ v, σ = [some (.ref l), some (.int r), some (.int u), some (.ref x), v, none, none])
      ⟨But.of (Same.refl _), d1.same sm2, hx, none, rfl⟩ ?_ ?_⟩
    · rintro i σ H3 hi ⟨b3, d3, hx3, v, rfl⟩
      refine ⟨_, rfl, _, rfl, _, rfl, _, rfl, _, rfl, _, rfl, l, r, u, rfl, d3, hr1, hs1, fun H4 bs b4 d4 hW => ?_⟩
      refine ⟨r, u, bs, rfl, hr1, hs1, hcp, by omega, hru, hW, fun t H5 G sm5 ht hG => ?_⟩
      have hx5 := (hx3.but d3 b4).same sm5
      refine ⟨x, t, r, u, G, rfl, hx5, ht, hr1, hs1, hcp, hG, fun H6 sm6 => ⟨true, rfl, ifF rfl ?_⟩⟩
      have sm56 := sm5.trans sm6
      exact ⟨b3.trans (b4.trans (But.of sm56)), d4.same sm56, hx5.same sm6, _, rfl⟩
    rintro σ H3 ⟨b3, d3, _, v, rfl⟩
    have bH3 := (b1.trans (But.of sm2)).trans b3
    -- the second
    refine ⟨_, rfl, l, 9, rfl, d3, by decide, by decide, fun p2 H4 r2 u2 b4 d4 hp2 hr2 hs2 hcp2 hsum2 => ⟨p2, _, rfl, SqT.of hp2, rfl, _, _, rfl, _, _, rfl, rfl, ?_⟩⟩
    refine ⟨_, rfl, _, rfl, fun x2 dx2 nx2 ndx2 nex2 => ⟨H4, x2, dx2, r2, u2, rfl, nx2, ndx2, nex2, rfl, hr2, hs2, hcp2, fun H5 sm5 hx5 => ⟨rfl, ?_⟩⟩⟩
    obtain ⟨L, hL, hLd, hLl⟩ := KW.all_shelves hr2.1 hs2.1 hsum2 (show Int.gcd r2 u2 = 1 from hcp2)
    refine ⟨_, rfl, x2, r2, u2, L, rfl, hx5, hr2, hs2, hsum2, hL, hLl, fun out H6 Gs sm6 hsh hpm tl htl => ?_⟩
    have bH5 := (bH3.trans b4).trans (But.of sm5)
    have smt := KC.same_new (o := .lst out) htl
    have htl7 : upd H6 tl (.lst out) tl = some (.lst out) := upd_same
    have hx7 := (hx5.same sm6).same smt
    have hsh7 := hsh.same smt
    have bH7 := bH5.trans (But.of (sm6.trans smt))
    generalize upd H6 tl (.lst out) = H7 at htl7 hx7 hsh7 bH7
    obtain ⟨ps, rfl, rfl, hps⟩ := shelves_zip hsh7
    have hgood : ∀ p ∈ ps, KW.Good r2 u2 p.1 := fun p hp => KW.runK_good hL p.1 (hpm.mem_iff.mp (List.mem_map.mpr ⟨p, hp, rfl⟩))
    have hpl : ps.length ≤ 100000 := by
      have e := hpm.length_eq
      rw [List.length_map] at e
      omega
    -- the duals
    refine ⟨_, rfl, tl, rfl, ⟨_, SqL.of htl7⟩, KC.lcr_list (K := K) (src := ps) (fun p => V.ref p.2) (fun _ => true) (KC.RT fun p => KW.dualL p.1) (SqL.of htl7) hpl (KC.rt_keep _) (fun i p8 H8 hp8 sm8 Ky Kn hyy hkn => ?_) (fun D1 acc1 H8 hD1 sm8 hDl1 pr1 => ?_)⟩
    · have hm := List.mem_of_getElem? hp8
      have hy8 := (hps _ hm).same sm8
      obtain ⟨dy8, _, _, _, sy8, _, _, _⟩ := hy8.slt
      refine ⟨rfl, _, rfl, p8.2, dy8, _, rfl, sy8, p8.2, r2, u2, p8.1, rfl, hy8, hr2, hs2, hgood _ hm, fun z H9 sm9 hz9 => ?_⟩
      obtain ⟨dz9, _, _, _, sz9, _, _, _⟩ := hz9.slt
      exact ⟨z, dz9, _, rfl, sz9, z, r2, u2, _, rfl, hz9, fun t ht => hyy _ _ sm9 ⟨t, rfl, ht⟩ rfl⟩
    have pk1 := rt_all pr1
    obtain ⟨ek1, fk1⟩ := tups_key pk1
    refine ⟨D1, acc1, KSr.kH H8, rfl, SqL.of hDl1, fun y hy => ?_, fun zs1 q1 pm1 srt1 hq1 => ?_⟩
    · obtain ⟨t, e, h⟩ := fk1 y hy
      exact ⟨t, e, SqT.of h⟩
    have P1 : Paired (TupV H8) (zs1.map (KSr.kH H8)) zs1 := tups_of fun z hz => fk1 z (pm1.mem_iff.mp hz)
    have S1 : (zs1.map (KSr.kH H8)).Pairwise fun a b => HT.lexLt b a = false := List.pairwise_map.mpr srt1
    have M1 : (zs1.map (KSr.kH H8)).Perm ((ps.map (·.1)).map KW.dualL) := by
      have e := pm1.map (KSr.kH H8)
      rw [ek1] at e
      rw [List.map_map]
      exact e
    have smq1 := KC.same_new (o := .lst zs1) hq1
    have hq9 : upd H8 q1 (.lst zs1) q1 = some (.lst zs1) := upd_same
    have sm79 := sm8.trans smq1
    have P9 := KC.pmap P1 fun ns v ⟨t, e, h⟩ => (⟨t, e, smq1 _ _ h⟩ : TupV (upd H8 q1 (.lst zs1)) ns v)
    generalize upd H8 q1 (.lst zs1) = H9 at hq9 sm79 P9
    -- the gaps
    refine ⟨_, rfl, tl, rfl, ⟨_, SqL.of (sm79 _ _ htl7)⟩, KC.lcr_list (K := K) (src := ps) (fun p => V.ref p.2) (fun _ => true) (KC.RT fun p => p.1) (SqL.of (sm79 _ _ htl7)) hpl (KC.rt_keep _) (fun i p8 H10 hp8 sm10 Ky Kn hyy hkn => ?_) (fun D2 acc2 H10 hD2 sm10 hDl2 pr2 => ?_)⟩
    · have hm := List.mem_of_getElem? hp8
      have hy8 := ((hps _ hm).same sm79).same sm10
      obtain ⟨dy8, _, _, _, sy8, _, _, _⟩ := hy8.slt
      exact ⟨rfl, _, rfl, p8.2, dy8, _, rfl, sy8, p8.2, r2, u2, p8.1, rfl, hy8, fun t ht => hyy _ _ (Same.refl _) ⟨t, rfl, ht⟩ rfl⟩
    have pk2 := rt_all pr2
    obtain ⟨ek2, fk2⟩ := tups_key pk2
    refine ⟨D2, acc2, KSr.kH H10, rfl, SqL.of hDl2, fun y hy => ?_, fun zs2 q2 pm2 srt2 hq2 => ?_⟩
    · obtain ⟨t, e, h⟩ := fk2 y hy
      exact ⟨t, e, SqT.of h⟩
    have P2 : Paired (TupV H10) (zs2.map (KSr.kH H10)) zs2 := tups_of fun z hz => fk2 z (pm2.mem_iff.mp hz)
    have S2 : (zs2.map (KSr.kH H10)).Pairwise fun a b => HT.lexLt b a = false := List.pairwise_map.mpr srt2
    have M2 : (zs2.map (KSr.kH H10)).Perm (ps.map (·.1)) := by
      have e := pm2.map (KSr.kH H10)
      rwa [ek2] at e
    have smq2 := KC.same_new (o := .lst zs2) hq2
    have hq11 : upd H10 q2 (.lst zs2) q2 = some (.lst zs2) := upd_same
    have sm911 := sm10.trans smq2
    have sm711 := sm79.trans sm911
    have P11 := KC.pmap P9 fun ns v ⟨t, e, h⟩ => (⟨t, e, sm911 _ _ h⟩ : TupV (upd H10 q2 (.lst zs2)) ns v)
    have P12 := KC.pmap P2 fun ns v ⟨t, e, h⟩ => (⟨t, e, smq2 _ _ h⟩ : TupV (upd H10 q2 (.lst zs2)) ns v)
    have hq1' := sm911 _ _ hq9
    generalize upd H10 q2 (.lst zs2) = H11 at hq11 sm711 P11 P12 hq1'
    have eqK : zs1.map (KSr.kH H8) = zs2.map (KSr.kH H10) := by
      refine KSr.lex_uniq (M1.trans ?_) S1 S2
      exact ((hpm.map KW.dualL).trans (hLd.trans hpm.symm)).trans M2.symm
    rw [eqK] at P11
    refine ⟨dL (zs2.map (KSr.kH H10)), dL (zs2.map (KSr.kH H10)), dp_L (SqL.of hq1') P11, dp_L (SqL.of hq11) P12, shp_L _, shp_L _, _, rfl, ifF (by rw [eqv_L_refl]; rfl) ?_⟩
    -- all of them
    refine ⟨_, rfl, tl, rfl, ⟨_, SqL.of (sm711 _ _ htl7)⟩, KC.lcr_list (K := K) (src := ps) (fun p => V.ref p.2) (fun _ => true) (KC.RV fun _ => .bl true) (SqL.of (sm711 _ _ htl7)) hpl (KC.rv_keep _) (fun i p8 H12 hp8 sm12 Ky Kn hyy hkn => ?_) (fun D3 acc3 H12 hD3 sm12 hDl3 pr3 => ?_)⟩
    · have hm := List.mem_of_getElem? hp8
      have hy8 := ((hps _ hm).same sm711).same sm12
      obtain ⟨dy8, _, _, _, sy8, _, _, _⟩ := hy8.slt
      exact ⟨rfl, _, rfl, _, rfl, p8.2, dy8, _, rfl, sy8, p8.2, r2, u2, p8.1, rfl, hy8, fun t ht => ⟨x2, t, r2, u2, p8.1, rfl, (hx7.same sm711).same sm12, ht, hr2, hs2, hcp2, hgood _ hm, fun H13 sm13 => hyy _ _ sm13 rfl rfl⟩⟩
    · have e := KC.rv_all pr3
      refine ⟨D3, ps.map fun _ => true, rfl, SqL.of (by rw [hDl3, e, List.map_map]; rfl), ?_⟩
      exact q_bl (q _ (bH7.trans (But.of (sm711.trans sm12)))) (by simp)
end
end KP

namespace KP
open PySem PySem.Spec PyProof.Rows L2
section
variable {P : Program} {w : World} {K : PySem.W.Frag} {mg : Str → Option Value} {base : Heap} {C D : Addr}
def spLaw (K : PySem.W.Frag) : Sp := fun vs H Q _ => ∃ (a : Addr) (ns : List Int), vs = [.ref a] ∧ SqL K H a (ns.map V.int) ∧ ns.length ≤ 63 ∧ ∀ H', Q (.bl true) H'
abbrev nLaw : List Str := ["_law_script", "_law_spot", "_law_told", "_law_gaps_here"]
theorem sc_law : FnScope nLaw ["_law_script"] (C8.fnScope (topS 47)) := C8.fnScope_by (by decide +kernel)
theorem good1 : KW.Good 3 5 [1, 2, 4] := KW.goodB_good (by decide +kernel)
theorem good2 : KW.Good 3 5 [1, 2, 4, 7] := KW.goodB_good (by decide +kernel)
theorem good3 : KW.Good 3 5 [1] := KW.goodB_good (by decide +kernel)
theorem four {H5 : Hp} {t1 t2 t3 t4 : Addr} (e1 : H5 t1 = some (.tup (([1, 2, 4] : List Int).map V.int))) (e2 : H5 t2 = some (.tup (([1, 2, 4, 7] : List Int).map V.int))) (e3 : H5 t3 = some (.tup (([1] : List Int).map V.int))) (e4 : H5 t4 = some (.tup (([] : List Int).map V.int))) :
    ∀ p ∈ [(t1, ([1, 2, 4] : List Int)), (t2, [1, 2, 4, 7]), (t3, [1]), (t4, [])], H5 p.1 = some (.tup (p.2.map V.int)) ∧ KW.Good 3 5 p.2 := fun p hm => by
  simp only [List.mem_cons, List.not_mem_nil, or_false] at hm
  rcases hm with rfl | rfl | rfl | rfl
  · exact ⟨e1, good1⟩
  · exact ⟨e2, good2⟩
  · exact ⟨e3, good3⟩
  · exact ⟨e4, KW.Good.nil 3 5⟩
theorem ok_law {f : Addr} {fd : FuncData} (F : C8.Fun K "law" "law" (topS 47) f fd) (T : Nm mg C D) (S : SlpF K C) (Z : ShlF K D) (O : Ops P w K mg base C D) (c1 : C8.Cal P w K mg base 1 "_law_dice" (spDice K) []) (c2 : C8.Cal P w K mg base 11 "_law_right" spRight []) :
    FnOk P w K mg base CX0 12 f fd ["_law_script"] (spLaw K) := by
  refine C8.fn0 F sc_law (fun vs H Q E h => ?_) (fun cdv A outer s H vs Q E hr h => ?_)
  · obtain ⟨a, ns, rfl, _⟩ := h
    rfl
  · obtain ⟨a, ns, rfl, ha, hl, q⟩ := h
    have nd := sc_law.nd
    obtain ⟨gd, Md, Fd⟩ := O.dual
    obtain ⟨gg, ⟨pg, pg1, pg2, pg3, pg4⟩, Fg⟩ := O.gaps
    have hu := hr.units
    refine ⟨_, pss_cons (ps_for PassesOwn.never rfl (pi_range1 rfl T.range (pa_cons (pe_callB (call_max2 rfl) rfl T.max (by decide +kernel) (pa_cons pe_int (pa_cons (pe_callB (call_min2 rfl) rfl T.min (by decide +kernel) (pa_cons pe_int (pa_cons (pe_callB call_len_seq rfl T.len PySem.boot_len (pa_cons (pv 0) pa_nil)) pa_nil))) pa_nil))) pa_nil)) (pg_name (i := 1) nd rfl (Or.inl rfl))
        (pss_one (ps_if (pt_not (pt_val (C8.pe_c c2 hr (by decide) rfl (pa_cons (C8.pe_c c1 hr (by decide) rfl (pa_cons (pv 0) (pa_cons (pv 1) pa_nil))) pa_nil)))) pss_never pss_nil)))
      (pss_cons (ps_setLc (i := 2) (own := [("_law_gaps_here", 3)]) (g := gName 3) rfl nd rfl rfl (sw_true rfl rfl rfl (by decide +kernel)) (pi_tup (pe_tup (pa_cons (pe_tup (pa_cons pe_int (pa_cons pe_int (pa_cons pe_int pa_nil)))) (pa_cons (pe_tup (pa_cons pe_int (pa_cons pe_int (pa_cons pe_int (pa_cons pe_int pa_nil))))) (pa_cons (pe_tup (pa_cons pe_int pa_nil)) (pa_cons (pe_tup pa_nil) pa_nil))))))
            (blkOk_by (N := nLaw) (sc := C8.fnScope (topS 47)) (by decide +kernel)) (fun _ _ _ _ _ => pg_name (i := 3) nd rfl (Or.inl rfl)) (fun _ _ _ _ _ => pts_nil)
            (fun _ _ _ _ _ => SlX.pe_propSl (E := E0) (SlX.pe_methSl0 (E := E0) (C8.pe_mk O.mkH hr (by decide) rfl (pa_cons (C8.pe_mk O.mkS hr (by decide) rfl (pa_cons pe_int (pa_cons pe_int pa_nil))) (pa_cons (pv 3) pa_nil))) Z.c.sc Md Fd (hr.mono (by decide)) pass0) Z.c.sc pg1 pg2 pg3 pg4 Fg (hr.mono (by decide)) (fun _ _ _ _ z => z.elim)))
      (pss_one (ps_ret (pe_cmpR (op_eqD hu) (pv 2) (pe_lst (pa_cons (pe_tup (pa_cons pe_int (pa_cons pe_int pa_nil))) (pa_cons (pe_tup (pa_cons pe_int (pa_cons pe_int (pa_cons pe_int (pa_cons pe_int pa_nil))))) (pa_cons (pe_tup (pa_cons pe_int pa_nil)) (pa_cons (pe_tup pa_nil) pa_nil))))) (nomark _))))), ?_⟩
    refine ⟨_, rfl, a, _, rfl, .inl ha, _, _, rfl, _, _, rfl, _, rfl, ?_, ?_, for_range (lo := 0) (fun i σ H' => Same H H' ∧ ∃ v, σ = [some (.ref a), v, none, none]) ⟨Same.refl _, none, rfl⟩ ?_ ?_⟩
    · show -(2 ^ 62) ≤ (if (if (((ns.map V.int).length : Nat) : Int) < 8 then (((ns.map V.int).length : Nat) : Int) else 8) > 1 then (if (((ns.map V.int).length : Nat) : Int) < 8 then (((ns.map V.int).length : Nat) : Int) else 8) else 1)
      repeat' split
      all_goals omega
    · show (if (if (((ns.map V.int).length : Nat) : Int) < 8 then (((ns.map V.int).length : Nat) : Int) else 8) > 1 then (if (((ns.map V.int).length : Nat) : Int) < 8 then (((ns.map V.int).length : Nat) : Int) else 8) else 1) < 2 ^ 62
      repeat' split
      all_goals omega
    · rintro i σ H1 hi ⟨sm1, v, rfl⟩
      refine ⟨_, rfl, _, rfl, a, ns, i, ?_, sm1.seq ha, fun l H2 hl0 sm2 d2 => ?_⟩
      · show [V.ref a, V.int (0 + (i : Int))] = _
        rw [Int.zero_add]
      · refine ⟨l, rfl, d2, fun H3 b3 => ⟨true, rfl, ifF rfl ?_⟩⟩
        refine ⟨sm1.trans fun b o e => b3 b o (ne_of_none e hl0) (sm2 _ _ e), _, rfl⟩
    · rintro σ H1 ⟨sm1, v, rfl⟩
      refine ⟨(by show 3 ≤ sizeLine; decide), fun t1 ht1 => ⟨(by show 4 ≤ sizeLine; decide), fun t2 ht2 => ⟨(by show 1 ≤ sizeLine; decide), fun t3 ht3 => ⟨(by show 0 ≤ sizeLine; decide), fun t4 ht4 => ⟨(by show 4 ≤ sizeLine; decide), fun tt htt => ?_⟩⟩⟩⟩⟩
      have s1 := KC.same_new (o := .tup (([1, 2, 4] : List Int).map V.int)) ht1
      have s2 := KC.same_new (o := .tup (([1, 2, 4, 7] : List Int).map V.int)) ht2
      have s3 := KC.same_new (o := .tup (([1] : List Int).map V.int)) ht3
      have s4 := KC.same_new (o := .tup (([] : List Int).map V.int)) ht4
      have s5 := KC.same_new (o := .tup [V.ref t1, V.ref t2, V.ref t3, V.ref t4]) htt
      have e4 := s5 _ _ (upd_same (H := upd (upd (upd H1 t1 (.tup (([1, 2, 4] : List Int).map V.int))) t2 (.tup (([1, 2, 4, 7] : List Int).map V.int))) t3 (.tup (([1] : List Int).map V.int))) (a := t4) (o := .tup (([] : List Int).map V.int)))
      have e3 := (s4.trans s5) _ _ (upd_same (H := upd (upd H1 t1 (.tup (([1, 2, 4] : List Int).map V.int))) t2 (.tup (([1, 2, 4, 7] : List Int).map V.int))) (a := t3) (o := .tup (([1] : List Int).map V.int)))
      have e2 := ((s3.trans s4).trans s5) _ _ (upd_same (H := upd H1 t1 (.tup (([1, 2, 4] : List Int).map V.int))) (a := t2) (o := .tup (([1, 2, 4, 7] : List Int).map V.int)))
      have e1 := (((s2.trans s3).trans s4).trans s5) _ _ (upd_same (H := H1) (a := t1) (o := .tup (([1, 2, 4] : List Int).map V.int)))
      have e5 : upd (upd (upd (upd (upd H1 t1 (.tup (([1, 2, 4] : List Int).map V.int))) t2 (.tup (([1, 2, 4, 7] : List Int).map V.int))) t3 (.tup (([1] : List Int).map V.int))) t4 (.tup (([] : List Int).map V.int))) tt (.tup [V.ref t1, V.ref t2, V.ref t3, V.ref t4]) tt = some (.tup [V.ref t1, V.ref t2, V.ref t3, V.ref t4]) := upd_same
      refine ⟨tt, rfl, ⟨_, SqT.of e5⟩, ?_⟩
      have hfour := four e1 e2 e3 e4
      have side3 : Side 3 := by decide
      have side5 : Side 5 := by decide
      have cop35 : Cop 3 5 := by decide
      refine KC.lcr_tup (K := K) (src := [(t1, ([1, 2, 4] : List Int)), (t2, [1, 2, 4, 7]), (t3, [1]), (t4, [])]) (fun p => V.ref p.1) (fun _ => true) (KC.RT fun p => KW.dualL p.2) (SqT.of e5) (by show 4 ≤ 100000; decide) (KC.rt_keep _) (fun i p H6 hp sm6 Ky Kn hyy hkn => ?_) (fun D1 acc H6 hD1 sm6 hDl pr => ?_)
      · have hm := List.mem_of_getElem? hp
        obtain ⟨hpt, hpg⟩ := hfour p hm
        refine ⟨rfl, fun x dx nx ndx nex => ⟨H6, x, dx, 3, 5, rfl, nx, ndx, nex, rfl, side3, side5, cop35, fun H7 sm7 hx => ⟨rfl, _, rfl, fun y dy ny ndy ney => ⟨H7, y, dy, x, p.1, 3, 5, p.2, rfl, ny, ndy, ney, rfl, hx, sm7 _ _ (sm6 _ _ hpt), side3, side5, hpg, fun H8 sm8 hy => ⟨rfl, ?_⟩⟩⟩⟩⟩
        obtain ⟨dy8, _, _, _, sy8, _, _, _⟩ := hy.slt
        refine ⟨y, dy8, _, rfl, sy8, y, 3, 5, p.2, rfl, hy, side3, side5, hpg, fun z H9 sm9 hz => ?_⟩
        obtain ⟨dz9, _, _, _, sz9, _, _, _⟩ := hz.slt
        exact ⟨z, dz9, _, rfl, sz9, z, 3, 5, _, rfl, hz, fun t ht => hyy _ _ ((sm7.trans sm8).trans sm9) ⟨t, rfl, ht⟩ rfl⟩
      · have pk := rt_all pr
        have ek : ([(t1, ([1, 2, 4] : List Int)), (t2, [1, 2, 4, 7]), (t3, [1]), (t4, [])].map fun p => KW.dualL p.2) = [[1, 4], [1, 2, 4, 7], [1], []] := by
          show [KW.dualL [1, 2, 4], KW.dualL [1, 2, 4, 7], KW.dualL [1], KW.dualL []] = _
          decide +kernel
        rw [ek] at pk
        refine ⟨_, rfl, (by show 2 ≤ sizeLine; decide), fun u1 hu1 => ⟨(by show 4 ≤ sizeLine; decide), fun u2 hu2 => ⟨(by show 1 ≤ sizeLine; decide), fun u3 hu3 => ⟨(by show 0 ≤ sizeLine; decide), fun u4 hu4 => ⟨(by show 4 ≤ sizeLine; decide), fun ul hul => ?_⟩⟩⟩⟩⟩
        have r1 := KC.same_new (o := .tup (([1, 4] : List Int).map V.int)) hu1
        have r2 := KC.same_new (o := .tup (([1, 2, 4, 7] : List Int).map V.int)) hu2
        have r3 := KC.same_new (o := .tup (([1] : List Int).map V.int)) hu3
        have r4 := KC.same_new (o := .tup (([] : List Int).map V.int)) hu4
        have r5 := KC.same_new (o := .lst [V.ref u1, V.ref u2, V.ref u3, V.ref u4]) hul
        have f4 := r5 _ _ (upd_same (H := upd (upd (upd H6 u1 (.tup (([1, 4] : List Int).map V.int))) u2 (.tup (([1, 2, 4, 7] : List Int).map V.int))) u3 (.tup (([1] : List Int).map V.int))) (a := u4) (o := .tup (([] : List Int).map V.int)))
        have f3 := (r4.trans r5) _ _ (upd_same (H := upd (upd H6 u1 (.tup (([1, 4] : List Int).map V.int))) u2 (.tup (([1, 2, 4, 7] : List Int).map V.int))) (a := u3) (o := .tup (([1] : List Int).map V.int)))
        have f2 := ((r3.trans r4).trans r5) _ _ (upd_same (H := upd H6 u1 (.tup (([1, 4] : List Int).map V.int))) (a := u2) (o := .tup (([1, 2, 4, 7] : List Int).map V.int)))
        have f1 := (((r2.trans r3).trans r4).trans r5) _ _ (upd_same (H := H6) (a := u1) (o := .tup (([1, 4] : List Int).map V.int)))
        have r15 := (((r1.trans r2).trans r3).trans r4).trans r5
        refine ⟨dL [[1, 4], [1, 2, 4, 7], [1], []], dL [[1, 4], [1, 2, 4, 7], [1], []], dp_L (SqL.of (r15 _ _ hDl)) (KC.pmap pk fun ns v ⟨t, e, h⟩ => ⟨t, e, r15 _ _ h⟩), dp_L (SqL.of upd_same) (.cons ⟨u1, rfl, f1⟩ (.cons ⟨u2, rfl, f2⟩ (.cons ⟨u3, rfl, f3⟩ (.cons ⟨u4, rfl, f4⟩ .nil)))), shp_L _, shp_L _, ?_⟩
        exact q_bl (q _) (eqv_L_refl _)
end
end KP

namespace KP
open PySem PySem.Spec PyProof.Rows L2
theorem c8_mk {K : PySem.W.Frag} {x qual : Str} {st : Stmt} {f : Addr} {oc : Value} {od an : Option Addr} {osl : Array (Option Value)} {dV kV doc pm cdv ct : Value} (l : K.lookup f = some ⟨oc, od, .func (PySem.W.fnOf x qual (C8.fnArgs st) (C8.fnBody st) (C8.fnScope st) dV kV doc pm an cdv ct), osl⟩)
    (c : PySem.W.codeIn K cdv qual = true) : C8.Fun K x qual st f (PySem.W.fnOf x qual (C8.fnArgs st) (C8.fnBody st) (C8.fnScope st) dV kV doc pm an cdv ct) := ⟨⟨oc, od, dV, kV, doc, pm, an, cdv, ct, osl, rfl, l, c⟩⟩
theorem init_binds {K : PySem.W.Frag} {f uT uE : Addr} {oc ocT : Value} {od an odT : Option Addr} {osl slT : Array (Option Value)} {nT : Nat} {kV doc pm cdv ct : Value} (l : K.lookup f = some ⟨oc, od, .func (PySem.W.fnOf "__init__" "Shelf.__init__" (C8.fnArgs (mH 1)) (C8.fnBody (mH 1)) (C8.fnScope (mH 1)) (.ref uT) kV doc pm an cdv ct), osl⟩)
    (c : PySem.W.codeIn K cdv "Shelf.__init__" = true) (k : PySem.W.keepIn K (.ref f) = true) (lT : K.lookup uT = some ⟨ocT, odT, .seq #[.ref uE] nT, slT⟩) : Binds K (PySem.W.fnOf "__init__" "Shelf.__init__" (C8.fnArgs (mH 1)) (C8.fnBody (mH 1)) (C8.fnScope (mH 1)) (.ref uT) kV doc pm an cdv ct) ["self", "slope", "gaps"] [] := by
  have F : FunD K "__init__" "Shelf.__init__" (C8.fnArgs (mH 1)) (C8.fnBody (mH 1)) (C8.fnScope (mH 1)) [.ref uE] [] f (PySem.W.fnOf "__init__" "Shelf.__init__" (C8.fnArgs (mH 1)) (C8.fnBody (mH 1)) (C8.fnScope (mH 1)) (.ref uT) kV doc pm an cdv ct) :=
    ⟨⟨oc, od, .ref uT, kV, doc, pm, an, cdv, ct, osl, rfl, l, c, .inr ⟨by simp, uT, _, [.ref uE], nT, rfl, lT, rfl, .cons rfl .nil⟩, .inl rfl⟩, k⟩
  obtain ⟨ds, hd, hb⟩ := F.binds1 (ps := ["self", "slope", "gaps"]) 3 1 (by simp) rfl fun T kV doc pm an cdv ct us its h1 h2 => match us, its, h1, h2 with
    | [_, _, _], [_], _, _ => ⟨_, rfl, rfl⟩
  cases hd
  exact hb
structure Txt (K : PySem.W.Frag) (mg : Str → Option Value) (C D : Addr) : Prop where
  T : Nm mg C D
  S : SlpF K C
  Z : ShlF K D
  d11 : DefB K mg "is_integer" (topS 11) ["value"]
  d12 : DefB K mg "is_from" (topS 12) ["value", "least", "most"]
  d13 : DefB K mg "require_from" (topS 13) ["value", "least", "most"]
  d14 : DefB K mg "are_integers" (topS 14) ["value"]
  d15 : DefB K mg "are_ascending" (topS 15) ["items"]
  d19 : DefB K mg "require_slope" (topS 19) ["value"]
  d20 : DefB K mg "require_coprime" (topS 20) ["slope"]
  d21 : DefB K mg "count_of_ways" (topS 21) ["slope"]
  d24 : DefB K mg "are_gaps" (topS 24) ["slope", "value"]
  d25 : DefB K mg "least_by" (topS 25) ["gaps", "side"]
  d28 : DefB K mg "is_member" (topS 28) ["shelf", "number"]
  d29 : DefB K mg "with_gap" (topS 29) ["gaps", "number"]
  d31 : DefB K mg "is_gaps" (topS 31) ["slope", "value"]
  d32 : DefB K mg "require_listed" (topS 32) ["slope"]
  d33 : DefB K mg "grown_from" (topS 33) ["slope", "layer"]
  d34 : DefB K mg "shelves" (topS 34) ["slope"]
  d36 : DefB K mg "_law_dice" (topS 36) ["_law_script", "_law_spot"]
  d37 : DefB K mg "_law_roll" (topS 37) ["_law_dice_here", "_law_total"]
  d38 : DefB K mg "_law_slope" (topS 38) ["_law_dice_here", "_law_total"]
  d39 : DefB K mg "_law_way" (topS 39) ["_law_dice_here", "_law_rises", "_law_steps"]
  d40 : DefB K mg "_law_levels" (topS 40) ["_law_rises", "_law_steps", "_law_text"]
  d41 : DefB K mg "_law_makers" (topS 41) ["_law_rises", "_law_steps", "_law_text"]
  d42 : DefB K mg "_law_gaps" (topS 42) ["_law_rises", "_law_makers_here"]
  d43 : DefB K mg "_law_gaps_of_text" (topS 43) ["_law_rises", "_law_steps", "_law_text"]
  d44 : DefB K mg "_law_dual_gaps" (topS 44) ["_law_gaps_here"]
  d45 : DefB K mg "_law_is_dual_right" (topS 45) ["_law_slope_here", "_law_gaps_here"]
  d46 : DefB K mg "_law_right" (topS 46) ["_law_dice_here"]
  mmS1 : ∃ f, MetB K C "__init__" "Slope.__init__" (mS 1) ["self", "rises", "steps"] f
  mmS8 : ∃ f, MetB K C "exchanged" "Slope.exchanged" (mS 8) ["self"] f
  mmS9 : ∃ f, MetB K C "__eq__" "Slope.__eq__" (mS 9) ["self", "other"] f
  mmH10 : ∃ f, MetB K D "dual" "Shelf.dual" (mH 10) ["self"] f
  mmH11 : ∃ f, MetB K D "exchanged" "Shelf.exchanged" (mH 11) ["self"] f
  mmH13 : ∃ f, MetB K D "removable" "Shelf.removable" (mH 13) ["self"] f
  mmH20 : ∃ f, MetB K D "__eq__" "Shelf.__eq__" (mH 20) ["self", "other"] f
  mmH1 : ∃ f, MetB K D "__init__" "Shelf.__init__" (mH 1) ["self", "slope", "gaps"] f
  pmH4 : ∃ f, PropB K D "slope" "Shelf.slope" (mH 4) f
  pmH5 : ∃ f, PropB K D "gaps" "Shelf.gaps" (mH 5) f
  pmH8 : ∃ f, PropB K D "makers" "Shelf.makers" (mH 8) f
section
variable {P : Program} {w : World} {K : PySem.W.Frag} {mg : Str → Option Value} {base : Heap} {C D : Addr}
theorem met_meth {m qual : Str} {st : Stmt} {ps : List Str} {f : Addr} (h : MetB K C m qual st ps f) : Meth K C m f := let ⟨_, a, b, c, _⟩ := h; ⟨a, b, c⟩
theorem all_ok (X : Txt K mg C D) {f : Addr} {fd : FuncData} (F : C8.Fun K "law" "law" (topS 47) f fd) : FnOk P w K mg base CX0 12 f fd ["_law_script"] (spLaw K) := by
  have T := X.T
  have S := X.S
  have Z := X.Z
  have o11 := ok_isint (P := P) (w := w) (base := base) X.d11 T
  have o12 := ok_isfrom X.d12 o11
  have o13 := ok_reqfrom X.d13 o12
  have o14 := ok_areints X.d14 T o11
  have o15 := ok_areasc (P := P) (w := w) (base := base) X.d15 T
  obtain ⟨g1, m1⟩ := X.mmS1
  obtain ⟨g8, m8⟩ := X.mmS8
  obtain ⟨g9, m9⟩ := X.mmS9
  have mkS := ok_sinit m1 T S o13
  have exS := ok_sexch m8 S mkS
  have eqS := ok_seq (P := P) (w := w) (base := base) m9 T S
  have o19 := ok_rs (P := P) (w := w) (base := base) X.d19 T S
  have o20 := ok_rc (P := P) (w := w) (base := base) X.d20 S
  have o21 := ok_count (P := P) (w := w) (base := base) X.d21 T S
  have o32 := ok_listed X.d32 T o21
  have o24 := ok_gaps X.d24 T S o14 o15
  have o25 := ok_least (P := P) (w := w) (base := base) X.d25 T
  have o28 := ok_member (P := P) (w := w) (base := base) X.d28 S Z
  have o29 := ok_with (P := P) (w := w) (base := base) X.d29 T
  obtain ⟨hI, mI⟩ := X.mmH1
  have mkH := ok_hinit mI T S Z o19 o20 o24 o25
  obtain ⟨hs, ps⟩ := X.pmH4
  obtain ⟨hg, pg⟩ := X.pmH5
  obtain ⟨hm, pm⟩ := X.pmH8
  obtain ⟨hd, md⟩ := X.mmH10
  obtain ⟨he, me⟩ := X.mmH11
  obtain ⟨hr, mr⟩ := X.mmH13
  obtain ⟨hq, mq⟩ := X.mmH20
  have fS : FnR P w K mg base CX0 1 hs (spHSlope C D) := by
    obtain ⟨_, _, _, _, _, _, F1, b⟩ := ps
    exact ok_hslope F1 b Z
  have fG : FnR P w K mg base CX0 1 hg (spHGaps C D) := by
    obtain ⟨_, _, _, _, _, _, F1, b⟩ := pg
    exact ok_hgaps F1 b Z
  have fM : FnR P w K mg base CX0 2 hm (spHMak C D) := by
    obtain ⟨_, _, _, _, _, _, F1, b⟩ := pm
    exact ok_hmak F1 b T S Z o28
  have fD := ok_hdual md T S Z o28 mkH
  have fE := ok_hexch me S Z (met_meth m8) exS mkH
  have fR := ok_hrem mr Z pm fM
  obtain ⟨_, e91, e92, _⟩ := id m9
  have fQ := ok_heq mq T S Z e91 e92 eqS
  obtain ⟨_, q91, q92, _⟩ := id mq
  have o31 := ok_isg X.d31 o19 o20 o24
  have o33 := ok_grown X.d33 Z (met_meth mr) fR mkH o29
  have o34 := ok_shelves X.d34 T o19 o20 o32 mkH o33
  have o36 := ok_dice (P := P) (w := w) (base := base) X.d36 T
  have o37 := ok_roll (P := P) (w := w) (base := base) X.d37 T
  have o38 := ok_lslope X.d38 o37
  have o39 := ok_way X.d39 T o37
  have o40 := ok_levels (P := P) (w := w) (base := base) X.d40
  have o41 := ok_lmakers X.d41 T o40
  have o42 := ok_lgaps (P := P) (w := w) (base := base) X.d42 T
  have o43 := ok_got X.d43 T o41 o42
  have o44 := ok_due (P := P) (w := w) (base := base) X.d44 T
  have pgA : PropAt K D "gaps" hg := let ⟨p, _, a, b, c, d, _⟩ := pg; ⟨p, a, b, c, d⟩
  have psA : PropAt K D "slope" hs := let ⟨p, _, a, b, c, d, _⟩ := ps; ⟨p, a, b, c, d⟩
  have O : Ops P w K mg base C D := ⟨mkS, mkH, ⟨hd, met_meth md, fD⟩, ⟨he, met_meth me, fE⟩, ⟨hg, pgA, fG⟩, ⟨hs, psA, fS⟩, ⟨g9, ⟨e91, e92⟩, eqS⟩, ⟨hq, ⟨q91, q92⟩, fQ⟩⟩
  have o45 := ok_one X.d45 T S Z O o44 o31
  have o46 := ok_right X.d46 T S Z O o38 o45 o43 o39 o34
  exact ok_law F T S Z O o36 o46
end
theorem all_mk {l : PySem.W.OpenLaw} {w : World} {K : PySem.W.Frag} {h : Heap} {mg : Str → Option Value} {fa : Addr} (X : K.In h) (G : h.Ns mainGlobals mg) (hfa : mg "law" = some (.ref fa))
    {C D : Addr}
    {q0 : Addr}
    {q1 : Addr}
    {q2 : Addr}
    {q3 : Addr}
    {q4 : Addr}
    {q5 : Addr}
    {tG tM tL : Tok}
    {f1 : Addr} {od1 an1 : Option Addr} {sl1 : Array (Option Value)} {oc1 kV1 dc1 pm1 cd1 ct1 : Value}
    {f2 : Addr} {od2 an2 : Option Addr} {sl2 : Array (Option Value)} {oc2 kV2 dc2 pm2 cd2 ct2 : Value}
    {f3 : Addr} {od3 an3 : Option Addr} {sl3 : Array (Option Value)} {oc3 kV3 dc3 pm3 cd3 ct3 : Value}
    {f4 : Addr} {od4 an4 : Option Addr} {sl4 : Array (Option Value)} {oc4 kV4 dc4 pm4 cd4 ct4 : Value}
    {f5 : Addr} {od5 an5 : Option Addr} {sl5 : Array (Option Value)} {oc5 kV5 dc5 pm5 cd5 ct5 : Value}
    {f6 : Addr} {od6 an6 : Option Addr} {sl6 : Array (Option Value)} {oc6 kV6 dc6 pm6 cd6 ct6 : Value}
    {f7 : Addr} {od7 an7 : Option Addr} {sl7 : Array (Option Value)} {oc7 kV7 dc7 pm7 cd7 ct7 : Value}
    {f8 : Addr} {od8 an8 : Option Addr} {sl8 : Array (Option Value)} {oc8 kV8 dc8 pm8 cd8 ct8 : Value}
    {f9 : Addr} {od9 an9 : Option Addr} {sl9 : Array (Option Value)} {oc9 kV9 dc9 pm9 cd9 ct9 : Value}
    {f10 : Addr} {od10 an10 : Option Addr} {sl10 : Array (Option Value)} {oc10 kV10 dc10 pm10 cd10 ct10 : Value}
    {f11 : Addr} {od11 an11 : Option Addr} {sl11 : Array (Option Value)} {oc11 kV11 dc11 pm11 cd11 ct11 : Value}
    {f12 : Addr} {od12 an12 : Option Addr} {sl12 : Array (Option Value)} {oc12 kV12 dc12 pm12 cd12 ct12 : Value}
    {f13 : Addr} {od13 an13 : Option Addr} {sl13 : Array (Option Value)} {oc13 kV13 dc13 pm13 cd13 ct13 : Value}
    {f14 : Addr} {od14 an14 : Option Addr} {sl14 : Array (Option Value)} {oc14 kV14 dc14 pm14 cd14 ct14 : Value}
    {f15 : Addr} {od15 an15 : Option Addr} {sl15 : Array (Option Value)} {oc15 kV15 dc15 pm15 cd15 ct15 : Value}
    {f16 : Addr} {od16 an16 : Option Addr} {sl16 : Array (Option Value)} {oc16 kV16 dc16 pm16 cd16 ct16 : Value}
    {f17 : Addr} {od17 an17 : Option Addr} {sl17 : Array (Option Value)} {oc17 kV17 dc17 pm17 cd17 ct17 : Value}
    {f18 : Addr} {od18 an18 : Option Addr} {sl18 : Array (Option Value)} {oc18 kV18 dc18 pm18 cd18 ct18 : Value}
    {f19 : Addr} {od19 an19 : Option Addr} {sl19 : Array (Option Value)} {oc19 kV19 dc19 pm19 cd19 ct19 : Value}
    {f20 : Addr} {od20 an20 : Option Addr} {sl20 : Array (Option Value)} {oc20 kV20 dc20 pm20 cd20 ct20 : Value}
    {f21 : Addr} {od21 an21 : Option Addr} {sl21 : Array (Option Value)} {oc21 kV21 dc21 pm21 cd21 ct21 : Value}
    {f22 : Addr} {od22 an22 : Option Addr} {sl22 : Array (Option Value)} {oc22 kV22 dc22 pm22 cd22 ct22 : Value}
    {f23 : Addr} {od23 an23 : Option Addr} {sl23 : Array (Option Value)} {oc23 kV23 dc23 pm23 cd23 ct23 : Value}
    {f24 : Addr} {od24 an24 : Option Addr} {sl24 : Array (Option Value)} {oc24 kV24 dc24 pm24 cd24 ct24 : Value}
    {f25 : Addr} {od25 an25 : Option Addr} {sl25 : Array (Option Value)} {oc25 kV25 dc25 pm25 cd25 ct25 : Value}
    {f26 : Addr} {od26 an26 : Option Addr} {sl26 : Array (Option Value)} {oc26 kV26 dc26 pm26 cd26 ct26 : Value}
    {f27 : Addr} {od27 an27 : Option Addr} {sl27 : Array (Option Value)} {oc27 kV27 dc27 pm27 cd27 ct27 : Value}
    {f28 : Addr} {od28 an28 : Option Addr} {sl28 : Array (Option Value)} {oc28 kV28 dc28 pm28 cd28 ct28 : Value}
    {f29 : Addr} {od29 an29 : Option Addr} {sl29 : Array (Option Value)} {oc29 kV29 dc29 pm29 cd29 ct29 : Value}
    {f30 : Addr} {od30 an30 : Option Addr} {sl30 : Array (Option Value)} {oc30 kV30 dc30 pm30 cd30 ct30 : Value}
    {f31 : Addr} {od31 an31 : Option Addr} {sl31 : Array (Option Value)} {oc31 kV31 dc31 pm31 cd31 ct31 : Value}
    {f32 : Addr} {od32 an32 : Option Addr} {sl32 : Array (Option Value)} {oc32 kV32 dc32 pm32 cd32 ct32 : Value}
    {f33 : Addr} {od33 an33 : Option Addr} {sl33 : Array (Option Value)} {oc33 kV33 dc33 pm33 cd33 ct33 : Value}
    {f34 : Addr} {od34 an34 : Option Addr} {sl34 : Array (Option Value)} {oc34 kV34 dc34 pm34 cd34 ct34 : Value}
    {uT uE : Addr} {ocT : Value} {odT : Option Addr} {slT : Array (Option Value)} {nT : Nat}
    {f35 : Addr} {od35 an35 : Option Addr} {sl35 : Array (Option Value)} {oc35 kV35 dc35 pm35 cd35 ct35 : Value}
    {f36 : Addr} {od36 an36 : Option Addr} {sl36 : Array (Option Value)} {oc36 kV36 dc36 pm36 cd36 ct36 : Value}
    {p36 : Addr} {rest36 : List Value}
    {f37 : Addr} {od37 an37 : Option Addr} {sl37 : Array (Option Value)} {oc37 kV37 dc37 pm37 cd37 ct37 : Value}
    {p37 : Addr} {rest37 : List Value}
    {f38 : Addr} {od38 an38 : Option Addr} {sl38 : Array (Option Value)} {oc38 kV38 dc38 pm38 cd38 ct38 : Value}
    {p38 : Addr} {rest38 : List Value}
    {f39 : Addr} {od39 an39 : Option Addr} {sl39 : Array (Option Value)} {oc39 kV39 dc39 pm39 cd39 ct39 : Value}
    (ac : PySem.W.nsIn K mainGlobals "Slope" = some (some (.ref C)))
    (pgc : PySem.W.plainGet K C Str.empty = true)
    (icc : PySem.W.isClsIn K C = true)
    (poc : PySem.W.plainOver K C = true)
    (sac : PySem.W.findIn K (.ref C) "__setattr__" = some (some (.builtin "object.__setattr__")))
    (cac : PySem.W.findIn K (.ref C) "__class__" = some (some (.builtin "object.__class__")))
    (mrc : PySem.W.mroIn K C (.type "object") = some true)
    (nec : PySem.W.findIn K (.ref C) "__ne__" = some (some (.builtin "object.__ne__")))
    (nfc : PySem.W.notFirst K C (.ref C) = true)
    (mkc : PySem.W.makesIn K C = true)
    (kpc : PySem.W.keepIn K (.ref C) = true)
    (ad : PySem.W.nsIn K mainGlobals "Shelf" = some (some (.ref D)))
    (pgd : PySem.W.plainGet K D Str.empty = true)
    (icd : PySem.W.isClsIn K D = true)
    (pod : PySem.W.plainOver K D = true)
    (sad : PySem.W.findIn K (.ref D) "__setattr__" = some (some (.builtin "object.__setattr__")))
    (cad : PySem.W.findIn K (.ref D) "__class__" = some (some (.builtin "object.__class__")))
    (mrd : PySem.W.mroIn K D (.type "object") = some true)
    (ned : PySem.W.findIn K (.ref D) "__ne__" = some (some (.builtin "object.__ne__")))
    (nfd : PySem.W.notFirst K D (.ref D) = true)
    (mkd : PySem.W.makesIn K D = true)
    (kpd : PySem.W.keepIn K (.ref D) = true)
    (cn : PySem.W.specialIn K (.builtin "object.__class__") "__get__" = some (some (.builtin "getset_descriptor.__get__")))
    (ct : PySem.W.takesIn K (.builtin "object.__class__") = some true)
    (sA0 : PySem.W.findIn K (.ref C) "own_common" = some (some (.ref q0)))
    (sB0 : PySem.W.specialIn K (.ref q0) "__get__" = some (some (.builtin "member_descriptor.__get__")))
    (sC0 : PySem.W.takesIn K (.ref q0) = some true)
    (sD0 : PySem.W.typeIn K (.ref q0) = some (.type "member_descriptor"))
    (sE0 : PySem.W.slotIn K q0 C = some 0)
    (sA1 : PySem.W.findIn K (.ref C) "own_rises" = some (some (.ref q1)))
    (sB1 : PySem.W.specialIn K (.ref q1) "__get__" = some (some (.builtin "member_descriptor.__get__")))
    (sC1 : PySem.W.takesIn K (.ref q1) = some true)
    (sD1 : PySem.W.typeIn K (.ref q1) = some (.type "member_descriptor"))
    (sE1 : PySem.W.slotIn K q1 C = some 1)
    (sA2 : PySem.W.findIn K (.ref C) "own_steps" = some (some (.ref q2)))
    (sB2 : PySem.W.specialIn K (.ref q2) "__get__" = some (some (.builtin "member_descriptor.__get__")))
    (sC2 : PySem.W.takesIn K (.ref q2) = some true)
    (sD2 : PySem.W.typeIn K (.ref q2) = some (.type "member_descriptor"))
    (sE2 : PySem.W.slotIn K q2 C = some 2)
    (sA3 : PySem.W.findIn K (.ref D) "own_gaps" = some (some (.ref q3)))
    (sB3 : PySem.W.specialIn K (.ref q3) "__get__" = some (some (.builtin "member_descriptor.__get__")))
    (sC3 : PySem.W.takesIn K (.ref q3) = some true)
    (sD3 : PySem.W.typeIn K (.ref q3) = some (.type "member_descriptor"))
    (sE3 : PySem.W.slotIn K q3 D = some 0)
    (sA4 : PySem.W.findIn K (.ref D) "own_least" = some (some (.ref q4)))
    (sB4 : PySem.W.specialIn K (.ref q4) "__get__" = some (some (.builtin "member_descriptor.__get__")))
    (sC4 : PySem.W.takesIn K (.ref q4) = some true)
    (sD4 : PySem.W.typeIn K (.ref q4) = some (.type "member_descriptor"))
    (sE4 : PySem.W.slotIn K q4 D = some 1)
    (sA5 : PySem.W.findIn K (.ref D) "own_slope" = some (some (.ref q5)))
    (sB5 : PySem.W.specialIn K (.ref q5) "__get__" = some (some (.builtin "member_descriptor.__get__")))
    (sC5 : PySem.W.takesIn K (.ref q5) = some true)
    (sD5 : PySem.W.typeIn K (.ref q5) = some (.type "member_descriptor"))
    (sE5 : PySem.W.slotIn K q5 D = some 2)
    (z_isi : PySem.W.nsIn K mainGlobals "isinstance" = some none)
    (z_int : PySem.W.nsIn K mainGlobals "int" = some none)
    (z_bool : PySem.W.nsIn K mainGlobals "bool" = some none)
    (z_tuple : PySem.W.nsIn K mainGlobals "tuple" = some none)
    (z_list : PySem.W.nsIn K mainGlobals "list" = some none)
    (z_all : PySem.W.nsIn K mainGlobals "all" = some none)
    (z_zip : PySem.W.nsIn K mainGlobals "zip" = some none)
    (z_range : PySem.W.nsIn K mainGlobals "range" = some none)
    (z_sum : PySem.W.nsIn K mainGlobals "sum" = some none)
    (z_sorted : PySem.W.nsIn K mainGlobals "sorted" = some none)
    (z_len : PySem.W.nsIn K mainGlobals "len" = some none)
    (z_max : PySem.W.nsIn K mainGlobals "max" = some none)
    (z_min : PySem.W.nsIn K mainGlobals "min" = some none)
    (z_abs : PySem.W.nsIn K mainGlobals "abs" = some none)
    (agcd : PySem.W.nsIn K mainGlobals "gcd" = some (some (.builtin "math.gcd")))
    (acomb : PySem.W.nsIn K mainGlobals "comb" = some (some (.builtin "math.comb")))
    (ag : PySem.W.nsIn K mainGlobals "GREATEST" = some (some (.int 1000000000000000000000000000000000000000000000000000000000000 tG)))
    (am : PySem.W.nsIn K mainGlobals "MAX_SIDE" = some (some (.int 60 tM)))
    (al : PySem.W.nsIn K mainGlobals "MAX_LISTED" = some (some (.int 5000 tL)))
    (a1 : PySem.W.nsIn K mainGlobals "is_integer" = some (some (.ref f1)))
    (l1 : K.lookup f1 = some ⟨oc1, od1, .func (PySem.W.fnOf "is_integer" "is_integer" (C8.fnArgs (topS 11)) (C8.fnBody (topS 11)) (C8.fnScope (topS 11)) .none kV1 dc1 pm1 an1 cd1 ct1), sl1⟩)
    (c1 : PySem.W.codeIn K cd1 "is_integer" = true)
    (k1 : PySem.W.keepIn K (.ref f1) = true)
    (a2 : PySem.W.nsIn K mainGlobals "is_from" = some (some (.ref f2)))
    (l2 : K.lookup f2 = some ⟨oc2, od2, .func (PySem.W.fnOf "is_from" "is_from" (C8.fnArgs (topS 12)) (C8.fnBody (topS 12)) (C8.fnScope (topS 12)) .none kV2 dc2 pm2 an2 cd2 ct2), sl2⟩)
    (c2 : PySem.W.codeIn K cd2 "is_from" = true)
    (k2 : PySem.W.keepIn K (.ref f2) = true)
    (a3 : PySem.W.nsIn K mainGlobals "require_from" = some (some (.ref f3)))
    (l3 : K.lookup f3 = some ⟨oc3, od3, .func (PySem.W.fnOf "require_from" "require_from" (C8.fnArgs (topS 13)) (C8.fnBody (topS 13)) (C8.fnScope (topS 13)) .none kV3 dc3 pm3 an3 cd3 ct3), sl3⟩)
    (c3 : PySem.W.codeIn K cd3 "require_from" = true)
    (k3 : PySem.W.keepIn K (.ref f3) = true)
    (a4 : PySem.W.nsIn K mainGlobals "are_integers" = some (some (.ref f4)))
    (l4 : K.lookup f4 = some ⟨oc4, od4, .func (PySem.W.fnOf "are_integers" "are_integers" (C8.fnArgs (topS 14)) (C8.fnBody (topS 14)) (C8.fnScope (topS 14)) .none kV4 dc4 pm4 an4 cd4 ct4), sl4⟩)
    (c4 : PySem.W.codeIn K cd4 "are_integers" = true)
    (k4 : PySem.W.keepIn K (.ref f4) = true)
    (a5 : PySem.W.nsIn K mainGlobals "are_ascending" = some (some (.ref f5)))
    (l5 : K.lookup f5 = some ⟨oc5, od5, .func (PySem.W.fnOf "are_ascending" "are_ascending" (C8.fnArgs (topS 15)) (C8.fnBody (topS 15)) (C8.fnScope (topS 15)) .none kV5 dc5 pm5 an5 cd5 ct5), sl5⟩)
    (c5 : PySem.W.codeIn K cd5 "are_ascending" = true)
    (k5 : PySem.W.keepIn K (.ref f5) = true)
    (a6 : PySem.W.nsIn K mainGlobals "require_slope" = some (some (.ref f6)))
    (l6 : K.lookup f6 = some ⟨oc6, od6, .func (PySem.W.fnOf "require_slope" "require_slope" (C8.fnArgs (topS 19)) (C8.fnBody (topS 19)) (C8.fnScope (topS 19)) .none kV6 dc6 pm6 an6 cd6 ct6), sl6⟩)
    (c6 : PySem.W.codeIn K cd6 "require_slope" = true)
    (k6 : PySem.W.keepIn K (.ref f6) = true)
    (a7 : PySem.W.nsIn K mainGlobals "require_coprime" = some (some (.ref f7)))
    (l7 : K.lookup f7 = some ⟨oc7, od7, .func (PySem.W.fnOf "require_coprime" "require_coprime" (C8.fnArgs (topS 20)) (C8.fnBody (topS 20)) (C8.fnScope (topS 20)) .none kV7 dc7 pm7 an7 cd7 ct7), sl7⟩)
    (c7 : PySem.W.codeIn K cd7 "require_coprime" = true)
    (k7 : PySem.W.keepIn K (.ref f7) = true)
    (a8 : PySem.W.nsIn K mainGlobals "count_of_ways" = some (some (.ref f8)))
    (l8 : K.lookup f8 = some ⟨oc8, od8, .func (PySem.W.fnOf "count_of_ways" "count_of_ways" (C8.fnArgs (topS 21)) (C8.fnBody (topS 21)) (C8.fnScope (topS 21)) .none kV8 dc8 pm8 an8 cd8 ct8), sl8⟩)
    (c8 : PySem.W.codeIn K cd8 "count_of_ways" = true)
    (k8 : PySem.W.keepIn K (.ref f8) = true)
    (a9 : PySem.W.nsIn K mainGlobals "are_gaps" = some (some (.ref f9)))
    (l9 : K.lookup f9 = some ⟨oc9, od9, .func (PySem.W.fnOf "are_gaps" "are_gaps" (C8.fnArgs (topS 24)) (C8.fnBody (topS 24)) (C8.fnScope (topS 24)) .none kV9 dc9 pm9 an9 cd9 ct9), sl9⟩)
    (c9 : PySem.W.codeIn K cd9 "are_gaps" = true)
    (k9 : PySem.W.keepIn K (.ref f9) = true)
    (a10 : PySem.W.nsIn K mainGlobals "least_by" = some (some (.ref f10)))
    (l10 : K.lookup f10 = some ⟨oc10, od10, .func (PySem.W.fnOf "least_by" "least_by" (C8.fnArgs (topS 25)) (C8.fnBody (topS 25)) (C8.fnScope (topS 25)) .none kV10 dc10 pm10 an10 cd10 ct10), sl10⟩)
    (c10 : PySem.W.codeIn K cd10 "least_by" = true)
    (k10 : PySem.W.keepIn K (.ref f10) = true)
    (a11 : PySem.W.nsIn K mainGlobals "is_member" = some (some (.ref f11)))
    (l11 : K.lookup f11 = some ⟨oc11, od11, .func (PySem.W.fnOf "is_member" "is_member" (C8.fnArgs (topS 28)) (C8.fnBody (topS 28)) (C8.fnScope (topS 28)) .none kV11 dc11 pm11 an11 cd11 ct11), sl11⟩)
    (c11 : PySem.W.codeIn K cd11 "is_member" = true)
    (k11 : PySem.W.keepIn K (.ref f11) = true)
    (a12 : PySem.W.nsIn K mainGlobals "with_gap" = some (some (.ref f12)))
    (l12 : K.lookup f12 = some ⟨oc12, od12, .func (PySem.W.fnOf "with_gap" "with_gap" (C8.fnArgs (topS 29)) (C8.fnBody (topS 29)) (C8.fnScope (topS 29)) .none kV12 dc12 pm12 an12 cd12 ct12), sl12⟩)
    (c12 : PySem.W.codeIn K cd12 "with_gap" = true)
    (k12 : PySem.W.keepIn K (.ref f12) = true)
    (a13 : PySem.W.nsIn K mainGlobals "is_gaps" = some (some (.ref f13)))
    (l13 : K.lookup f13 = some ⟨oc13, od13, .func (PySem.W.fnOf "is_gaps" "is_gaps" (C8.fnArgs (topS 31)) (C8.fnBody (topS 31)) (C8.fnScope (topS 31)) .none kV13 dc13 pm13 an13 cd13 ct13), sl13⟩)
    (c13 : PySem.W.codeIn K cd13 "is_gaps" = true)
    (k13 : PySem.W.keepIn K (.ref f13) = true)
    (a14 : PySem.W.nsIn K mainGlobals "require_listed" = some (some (.ref f14)))
    (l14 : K.lookup f14 = some ⟨oc14, od14, .func (PySem.W.fnOf "require_listed" "require_listed" (C8.fnArgs (topS 32)) (C8.fnBody (topS 32)) (C8.fnScope (topS 32)) .none kV14 dc14 pm14 an14 cd14 ct14), sl14⟩)
    (c14 : PySem.W.codeIn K cd14 "require_listed" = true)
    (k14 : PySem.W.keepIn K (.ref f14) = true)
    (a15 : PySem.W.nsIn K mainGlobals "grown_from" = some (some (.ref f15)))
    (l15 : K.lookup f15 = some ⟨oc15, od15, .func (PySem.W.fnOf "grown_from" "grown_from" (C8.fnArgs (topS 33)) (C8.fnBody (topS 33)) (C8.fnScope (topS 33)) .none kV15 dc15 pm15 an15 cd15 ct15), sl15⟩)
    (c15 : PySem.W.codeIn K cd15 "grown_from" = true)
    (k15 : PySem.W.keepIn K (.ref f15) = true)
    (a16 : PySem.W.nsIn K mainGlobals "shelves" = some (some (.ref f16)))
    (l16 : K.lookup f16 = some ⟨oc16, od16, .func (PySem.W.fnOf "shelves" "shelves" (C8.fnArgs (topS 34)) (C8.fnBody (topS 34)) (C8.fnScope (topS 34)) .none kV16 dc16 pm16 an16 cd16 ct16), sl16⟩)
    (c16 : PySem.W.codeIn K cd16 "shelves" = true)
    (k16 : PySem.W.keepIn K (.ref f16) = true)
    (a17 : PySem.W.nsIn K mainGlobals "_law_dice" = some (some (.ref f17)))
    (l17 : K.lookup f17 = some ⟨oc17, od17, .func (PySem.W.fnOf "_law_dice" "_law_dice" (C8.fnArgs (topS 36)) (C8.fnBody (topS 36)) (C8.fnScope (topS 36)) .none kV17 dc17 pm17 an17 cd17 ct17), sl17⟩)
    (c17 : PySem.W.codeIn K cd17 "_law_dice" = true)
    (k17 : PySem.W.keepIn K (.ref f17) = true)
    (a18 : PySem.W.nsIn K mainGlobals "_law_roll" = some (some (.ref f18)))
    (l18 : K.lookup f18 = some ⟨oc18, od18, .func (PySem.W.fnOf "_law_roll" "_law_roll" (C8.fnArgs (topS 37)) (C8.fnBody (topS 37)) (C8.fnScope (topS 37)) .none kV18 dc18 pm18 an18 cd18 ct18), sl18⟩)
    (c18 : PySem.W.codeIn K cd18 "_law_roll" = true)
    (k18 : PySem.W.keepIn K (.ref f18) = true)
    (a19 : PySem.W.nsIn K mainGlobals "_law_slope" = some (some (.ref f19)))
    (l19 : K.lookup f19 = some ⟨oc19, od19, .func (PySem.W.fnOf "_law_slope" "_law_slope" (C8.fnArgs (topS 38)) (C8.fnBody (topS 38)) (C8.fnScope (topS 38)) .none kV19 dc19 pm19 an19 cd19 ct19), sl19⟩)
    (c19 : PySem.W.codeIn K cd19 "_law_slope" = true)
    (k19 : PySem.W.keepIn K (.ref f19) = true)
    (a20 : PySem.W.nsIn K mainGlobals "_law_way" = some (some (.ref f20)))
    (l20 : K.lookup f20 = some ⟨oc20, od20, .func (PySem.W.fnOf "_law_way" "_law_way" (C8.fnArgs (topS 39)) (C8.fnBody (topS 39)) (C8.fnScope (topS 39)) .none kV20 dc20 pm20 an20 cd20 ct20), sl20⟩)
    (c20 : PySem.W.codeIn K cd20 "_law_way" = true)
    (k20 : PySem.W.keepIn K (.ref f20) = true)
    (a21 : PySem.W.nsIn K mainGlobals "_law_levels" = some (some (.ref f21)))
    (l21 : K.lookup f21 = some ⟨oc21, od21, .func (PySem.W.fnOf "_law_levels" "_law_levels" (C8.fnArgs (topS 40)) (C8.fnBody (topS 40)) (C8.fnScope (topS 40)) .none kV21 dc21 pm21 an21 cd21 ct21), sl21⟩)
    (c21 : PySem.W.codeIn K cd21 "_law_levels" = true)
    (k21 : PySem.W.keepIn K (.ref f21) = true)
    (a22 : PySem.W.nsIn K mainGlobals "_law_makers" = some (some (.ref f22)))
    (l22 : K.lookup f22 = some ⟨oc22, od22, .func (PySem.W.fnOf "_law_makers" "_law_makers" (C8.fnArgs (topS 41)) (C8.fnBody (topS 41)) (C8.fnScope (topS 41)) .none kV22 dc22 pm22 an22 cd22 ct22), sl22⟩)
    (c22 : PySem.W.codeIn K cd22 "_law_makers" = true)
    (k22 : PySem.W.keepIn K (.ref f22) = true)
    (a23 : PySem.W.nsIn K mainGlobals "_law_gaps" = some (some (.ref f23)))
    (l23 : K.lookup f23 = some ⟨oc23, od23, .func (PySem.W.fnOf "_law_gaps" "_law_gaps" (C8.fnArgs (topS 42)) (C8.fnBody (topS 42)) (C8.fnScope (topS 42)) .none kV23 dc23 pm23 an23 cd23 ct23), sl23⟩)
    (c23 : PySem.W.codeIn K cd23 "_law_gaps" = true)
    (k23 : PySem.W.keepIn K (.ref f23) = true)
    (a24 : PySem.W.nsIn K mainGlobals "_law_gaps_of_text" = some (some (.ref f24)))
    (l24 : K.lookup f24 = some ⟨oc24, od24, .func (PySem.W.fnOf "_law_gaps_of_text" "_law_gaps_of_text" (C8.fnArgs (topS 43)) (C8.fnBody (topS 43)) (C8.fnScope (topS 43)) .none kV24 dc24 pm24 an24 cd24 ct24), sl24⟩)
    (c24 : PySem.W.codeIn K cd24 "_law_gaps_of_text" = true)
    (k24 : PySem.W.keepIn K (.ref f24) = true)
    (a25 : PySem.W.nsIn K mainGlobals "_law_dual_gaps" = some (some (.ref f25)))
    (l25 : K.lookup f25 = some ⟨oc25, od25, .func (PySem.W.fnOf "_law_dual_gaps" "_law_dual_gaps" (C8.fnArgs (topS 44)) (C8.fnBody (topS 44)) (C8.fnScope (topS 44)) .none kV25 dc25 pm25 an25 cd25 ct25), sl25⟩)
    (c25 : PySem.W.codeIn K cd25 "_law_dual_gaps" = true)
    (k25 : PySem.W.keepIn K (.ref f25) = true)
    (a26 : PySem.W.nsIn K mainGlobals "_law_is_dual_right" = some (some (.ref f26)))
    (l26 : K.lookup f26 = some ⟨oc26, od26, .func (PySem.W.fnOf "_law_is_dual_right" "_law_is_dual_right" (C8.fnArgs (topS 45)) (C8.fnBody (topS 45)) (C8.fnScope (topS 45)) .none kV26 dc26 pm26 an26 cd26 ct26), sl26⟩)
    (c26 : PySem.W.codeIn K cd26 "_law_is_dual_right" = true)
    (k26 : PySem.W.keepIn K (.ref f26) = true)
    (a27 : PySem.W.nsIn K mainGlobals "_law_right" = some (some (.ref f27)))
    (l27 : K.lookup f27 = some ⟨oc27, od27, .func (PySem.W.fnOf "_law_right" "_law_right" (C8.fnArgs (topS 46)) (C8.fnBody (topS 46)) (C8.fnScope (topS 46)) .none kV27 dc27 pm27 an27 cd27 ct27), sl27⟩)
    (c27 : PySem.W.codeIn K cd27 "_law_right" = true)
    (k27 : PySem.W.keepIn K (.ref f27) = true)
    (a28 : PySem.W.findIn K (.ref C) "__init__" = some (some (.ref f28)))
    (l28 : K.lookup f28 = some ⟨oc28, od28, .func (PySem.W.fnOf "__init__" "Slope.__init__" (C8.fnArgs (mS 1)) (C8.fnBody (mS 1)) (C8.fnScope (mS 1)) .none kV28 dc28 pm28 an28 cd28 ct28), sl28⟩)
    (c28 : PySem.W.codeIn K cd28 "Slope.__init__" = true)
    (i28 : PySem.W.isFn K (.ref f28) = true)
    (k28 : PySem.W.keepIn K (.ref f28) = true)
    (a29 : PySem.W.findIn K (.ref C) "exchanged" = some (some (.ref f29)))
    (l29 : K.lookup f29 = some ⟨oc29, od29, .func (PySem.W.fnOf "exchanged" "Slope.exchanged" (C8.fnArgs (mS 8)) (C8.fnBody (mS 8)) (C8.fnScope (mS 8)) .none kV29 dc29 pm29 an29 cd29 ct29), sl29⟩)
    (c29 : PySem.W.codeIn K cd29 "Slope.exchanged" = true)
    (i29 : PySem.W.isFn K (.ref f29) = true)
    (k29 : PySem.W.keepIn K (.ref f29) = true)
    (a30 : PySem.W.findIn K (.ref C) "__eq__" = some (some (.ref f30)))
    (l30 : K.lookup f30 = some ⟨oc30, od30, .func (PySem.W.fnOf "__eq__" "Slope.__eq__" (C8.fnArgs (mS 9)) (C8.fnBody (mS 9)) (C8.fnScope (mS 9)) .none kV30 dc30 pm30 an30 cd30 ct30), sl30⟩)
    (c30 : PySem.W.codeIn K cd30 "Slope.__eq__" = true)
    (i30 : PySem.W.isFn K (.ref f30) = true)
    (k30 : PySem.W.keepIn K (.ref f30) = true)
    (a31 : PySem.W.findIn K (.ref D) "dual" = some (some (.ref f31)))
    (l31 : K.lookup f31 = some ⟨oc31, od31, .func (PySem.W.fnOf "dual" "Shelf.dual" (C8.fnArgs (mH 10)) (C8.fnBody (mH 10)) (C8.fnScope (mH 10)) .none kV31 dc31 pm31 an31 cd31 ct31), sl31⟩)
    (c31 : PySem.W.codeIn K cd31 "Shelf.dual" = true)
    (i31 : PySem.W.isFn K (.ref f31) = true)
    (k31 : PySem.W.keepIn K (.ref f31) = true)
    (a32 : PySem.W.findIn K (.ref D) "exchanged" = some (some (.ref f32)))
    (l32 : K.lookup f32 = some ⟨oc32, od32, .func (PySem.W.fnOf "exchanged" "Shelf.exchanged" (C8.fnArgs (mH 11)) (C8.fnBody (mH 11)) (C8.fnScope (mH 11)) .none kV32 dc32 pm32 an32 cd32 ct32), sl32⟩)
    (c32 : PySem.W.codeIn K cd32 "Shelf.exchanged" = true)
    (i32 : PySem.W.isFn K (.ref f32) = true)
    (k32 : PySem.W.keepIn K (.ref f32) = true)
    (a33 : PySem.W.findIn K (.ref D) "removable" = some (some (.ref f33)))
    (l33 : K.lookup f33 = some ⟨oc33, od33, .func (PySem.W.fnOf "removable" "Shelf.removable" (C8.fnArgs (mH 13)) (C8.fnBody (mH 13)) (C8.fnScope (mH 13)) .none kV33 dc33 pm33 an33 cd33 ct33), sl33⟩)
    (c33 : PySem.W.codeIn K cd33 "Shelf.removable" = true)
    (i33 : PySem.W.isFn K (.ref f33) = true)
    (k33 : PySem.W.keepIn K (.ref f33) = true)
    (a34 : PySem.W.findIn K (.ref D) "__eq__" = some (some (.ref f34)))
    (l34 : K.lookup f34 = some ⟨oc34, od34, .func (PySem.W.fnOf "__eq__" "Shelf.__eq__" (C8.fnArgs (mH 20)) (C8.fnBody (mH 20)) (C8.fnScope (mH 20)) .none kV34 dc34 pm34 an34 cd34 ct34), sl34⟩)
    (c34 : PySem.W.codeIn K cd34 "Shelf.__eq__" = true)
    (i34 : PySem.W.isFn K (.ref f34) = true)
    (k34 : PySem.W.keepIn K (.ref f34) = true)
    (a35 : PySem.W.findIn K (.ref D) "__init__" = some (some (.ref f35)))
    (l35 : K.lookup f35 = some ⟨oc35, od35, .func (PySem.W.fnOf "__init__" "Shelf.__init__" (C8.fnArgs (mH 1)) (C8.fnBody (mH 1)) (C8.fnScope (mH 1)) (.ref uT) kV35 dc35 pm35 an35 cd35 ct35), sl35⟩)
    (c35 : PySem.W.codeIn K cd35 "Shelf.__init__" = true)
    (i35 : PySem.W.isFn K (.ref f35) = true)
    (k35 : PySem.W.keepIn K (.ref f35) = true)
    (lT : K.lookup uT = some ⟨ocT, odT, .seq #[.ref uE] nT, slT⟩)
    (a36 : PySem.W.findIn K (.ref D) "slope" = some (some (.ref p36)))
    (g36 : PySem.W.specialIn K (.ref p36) "__get__" = some (some (.builtin "property.__get__")))
    (t36 : PySem.W.takesIn K (.ref p36) = some true)
    (r36 : PySem.W.recIn K p36 "property" = some (.ref f36 :: rest36))
    (l36 : K.lookup f36 = some ⟨oc36, od36, .func (PySem.W.fnOf "slope" "Shelf.slope" (C8.fnArgs (mH 4)) (C8.fnBody (mH 4)) (C8.fnScope (mH 4)) .none kV36 dc36 pm36 an36 cd36 ct36), sl36⟩)
    (c36 : PySem.W.codeIn K cd36 "Shelf.slope" = true)
    (a37 : PySem.W.findIn K (.ref D) "gaps" = some (some (.ref p37)))
    (g37 : PySem.W.specialIn K (.ref p37) "__get__" = some (some (.builtin "property.__get__")))
    (t37 : PySem.W.takesIn K (.ref p37) = some true)
    (r37 : PySem.W.recIn K p37 "property" = some (.ref f37 :: rest37))
    (l37 : K.lookup f37 = some ⟨oc37, od37, .func (PySem.W.fnOf "gaps" "Shelf.gaps" (C8.fnArgs (mH 5)) (C8.fnBody (mH 5)) (C8.fnScope (mH 5)) .none kV37 dc37 pm37 an37 cd37 ct37), sl37⟩)
    (c37 : PySem.W.codeIn K cd37 "Shelf.gaps" = true)
    (a38 : PySem.W.findIn K (.ref D) "makers" = some (some (.ref p38)))
    (g38 : PySem.W.specialIn K (.ref p38) "__get__" = some (some (.builtin "property.__get__")))
    (t38 : PySem.W.takesIn K (.ref p38) = some true)
    (r38 : PySem.W.recIn K p38 "property" = some (.ref f38 :: rest38))
    (l38 : K.lookup f38 = some ⟨oc38, od38, .func (PySem.W.fnOf "makers" "Shelf.makers" (C8.fnArgs (mH 8)) (C8.fnBody (mH 8)) (C8.fnScope (mH 8)) .none kV38 dc38 pm38 an38 cd38 ct38), sl38⟩)
    (c38 : PySem.W.codeIn K cd38 "Shelf.makers" = true)
    (a39 : PySem.W.nsIn K mainGlobals "law" = some (some (.ref f39)))
    (l39 : K.lookup f39 = some ⟨oc39, od39, .func (PySem.W.fnOf "law" "law" (C8.fnArgs (topS 47)) (C8.fnBody (topS 47)) (C8.fnScope (topS 47)) .none kV39 dc39 pm39 an39 cd39 ct39), sl39⟩)
    (c39 : PySem.W.codeIn K cd39 "law" = true)
    (k39 : PySem.W.keepIn K (.ref f39) = true)
    : ∃ fd : FuncData, (∀ (s : Shared) (v : Value), BindsTo s fd ⟨[v], []⟩ [("_law_script", v)]) ∧ ∀ base : Heap, K.In base → base.Ns mainGlobals mg → FnOk l.prog w K mg base CX0 12 fa fd ["_law_script"] (spLaw K) := by
  have e := hfa.symm.trans (PySem.W.mg_of X G a39)
  cases e
  have eG : (10 ^ 60 : Int) = 1000000000000000000000000000000000000000000000000000000000000 := by decide +kernel
  have gG : ∃ t, mg "GREATEST" = some (.int (10 ^ 60) t) := ⟨tG, by rw [eG]; exact PySem.W.mg_of X G ag⟩
  have T : Nm mg C D := ⟨PySem.W.mg_none_of X G z_isi, PySem.W.mg_none_of X G z_int, PySem.W.mg_none_of X G z_bool, PySem.W.mg_none_of X G z_tuple, PySem.W.mg_none_of X G z_list, PySem.W.mg_none_of X G z_all, PySem.W.mg_none_of X G z_zip, PySem.W.mg_none_of X G z_range, PySem.W.mg_none_of X G z_sum, PySem.W.mg_none_of X G z_sorted, PySem.W.mg_none_of X G z_len, PySem.W.mg_none_of X G z_max, PySem.W.mg_none_of X G z_min, PySem.W.mg_none_of X G z_abs, PySem.W.mg_of X G agcd, PySem.W.mg_of X G acomb, gG, ⟨tM, PySem.W.mg_of X G am⟩, ⟨tL, PySem.W.mg_of X G al⟩, PySem.W.mg_of X G ac, PySem.W.mg_of X G ad⟩
  have S : SlpF K C := ⟨⟨⟨pgc, icc, poc, sac⟩, ⟨cac, cn, ct, mrc⟩, nec, nfc, mkc, kpc⟩, ⟨q0, sA0, sB0, sC0, sD0, sE0, by decide⟩, ⟨q1, sA1, sB1, sC1, sD1, sE1, by decide⟩, ⟨q2, sA2, sB2, sC2, sD2, sE2, by decide⟩⟩
  have Z : ShlF K D := ⟨⟨⟨pgd, icd, pod, sad⟩, ⟨cad, cn, ct, mrd⟩, ned, nfd, mkd, kpd⟩, ⟨q3, sA3, sB3, sC3, sD3, sE3, by decide⟩, ⟨q4, sA4, sB4, sC4, sD4, sE4, by decide⟩, ⟨q5, sA5, sB5, sC5, sD5, sE5, by decide⟩⟩
  have B : Txt K mg C D := ⟨T, S, Z,
    ⟨f1, _, ⟨c8_mk l1 c1, PySem.W.mg_of X G a1, k1⟩, C8.Fun.binds (c8_mk l1 c1) rfl fun _ _ _ _ _ _ us hl => match us, hl with | [_], _ => rfl⟩,
    ⟨f2, _, ⟨c8_mk l2 c2, PySem.W.mg_of X G a2, k2⟩, C8.Fun.binds (c8_mk l2 c2) rfl fun _ _ _ _ _ _ us hl => match us, hl with | [_, _, _], _ => rfl⟩,
    ⟨f3, _, ⟨c8_mk l3 c3, PySem.W.mg_of X G a3, k3⟩, C8.Fun.binds (c8_mk l3 c3) rfl fun _ _ _ _ _ _ us hl => match us, hl with | [_, _, _], _ => rfl⟩,
    ⟨f4, _, ⟨c8_mk l4 c4, PySem.W.mg_of X G a4, k4⟩, C8.Fun.binds (c8_mk l4 c4) rfl fun _ _ _ _ _ _ us hl => match us, hl with | [_], _ => rfl⟩,
    ⟨f5, _, ⟨c8_mk l5 c5, PySem.W.mg_of X G a5, k5⟩, C8.Fun.binds (c8_mk l5 c5) rfl fun _ _ _ _ _ _ us hl => match us, hl with | [_], _ => rfl⟩,
    ⟨f6, _, ⟨c8_mk l6 c6, PySem.W.mg_of X G a6, k6⟩, C8.Fun.binds (c8_mk l6 c6) rfl fun _ _ _ _ _ _ us hl => match us, hl with | [_], _ => rfl⟩,
    ⟨f7, _, ⟨c8_mk l7 c7, PySem.W.mg_of X G a7, k7⟩, C8.Fun.binds (c8_mk l7 c7) rfl fun _ _ _ _ _ _ us hl => match us, hl with | [_], _ => rfl⟩,
    ⟨f8, _, ⟨c8_mk l8 c8, PySem.W.mg_of X G a8, k8⟩, C8.Fun.binds (c8_mk l8 c8) rfl fun _ _ _ _ _ _ us hl => match us, hl with | [_], _ => rfl⟩,
    ⟨f9, _, ⟨c8_mk l9 c9, PySem.W.mg_of X G a9, k9⟩, C8.Fun.binds (c8_mk l9 c9) rfl fun _ _ _ _ _ _ us hl => match us, hl with | [_, _], _ => rfl⟩,
    ⟨f10, _, ⟨c8_mk l10 c10, PySem.W.mg_of X G a10, k10⟩, C8.Fun.binds (c8_mk l10 c10) rfl fun _ _ _ _ _ _ us hl => match us, hl with | [_, _], _ => rfl⟩,
    ⟨f11, _, ⟨c8_mk l11 c11, PySem.W.mg_of X G a11, k11⟩, C8.Fun.binds (c8_mk l11 c11) rfl fun _ _ _ _ _ _ us hl => match us, hl with | [_, _], _ => rfl⟩,
    ⟨f12, _, ⟨c8_mk l12 c12, PySem.W.mg_of X G a12, k12⟩, C8.Fun.binds (c8_mk l12 c12) rfl fun _ _ _ _ _ _ us hl => match us, hl with | [_, _], _ => rfl⟩,
    ⟨f13, _, ⟨c8_mk l13 c13, PySem.W.mg_of X G a13, k13⟩, C8.Fun.binds (c8_mk l13 c13) rfl fun _ _ _ _ _ _ us hl => match us, hl with | [_, _], _ => rfl⟩,
    ⟨f14, _, ⟨c8_mk l14 c14, PySem.W.mg_of X G a14, k14⟩, C8.Fun.binds (c8_mk l14 c14) rfl fun _ _ _ _ _ _ us hl => match us, hl with | [_], _ => rfl⟩,
    ⟨f15, _, ⟨c8_mk l15 c15, PySem.W.mg_of X G a15, k15⟩, C8.Fun.binds (c8_mk l15 c15) rfl fun _ _ _ _ _ _ us hl => match us, hl with | [_, _], _ => rfl⟩,
    ⟨f16, _, ⟨c8_mk l16 c16, PySem.W.mg_of X G a16, k16⟩, C8.Fun.binds (c8_mk l16 c16) rfl fun _ _ _ _ _ _ us hl => match us, hl with | [_], _ => rfl⟩,
    ⟨f17, _, ⟨c8_mk l17 c17, PySem.W.mg_of X G a17, k17⟩, C8.Fun.binds (c8_mk l17 c17) rfl fun _ _ _ _ _ _ us hl => match us, hl with | [_, _], _ => rfl⟩,
    ⟨f18, _, ⟨c8_mk l18 c18, PySem.W.mg_of X G a18, k18⟩, C8.Fun.binds (c8_mk l18 c18) rfl fun _ _ _ _ _ _ us hl => match us, hl with | [_, _], _ => rfl⟩,
    ⟨f19, _, ⟨c8_mk l19 c19, PySem.W.mg_of X G a19, k19⟩, C8.Fun.binds (c8_mk l19 c19) rfl fun _ _ _ _ _ _ us hl => match us, hl with | [_, _], _ => rfl⟩,
    ⟨f20, _, ⟨c8_mk l20 c20, PySem.W.mg_of X G a20, k20⟩, C8.Fun.binds (c8_mk l20 c20) rfl fun _ _ _ _ _ _ us hl => match us, hl with | [_, _, _], _ => rfl⟩,
    ⟨f21, _, ⟨c8_mk l21 c21, PySem.W.mg_of X G a21, k21⟩, C8.Fun.binds (c8_mk l21 c21) rfl fun _ _ _ _ _ _ us hl => match us, hl with | [_, _, _], _ => rfl⟩,
    ⟨f22, _, ⟨c8_mk l22 c22, PySem.W.mg_of X G a22, k22⟩, C8.Fun.binds (c8_mk l22 c22) rfl fun _ _ _ _ _ _ us hl => match us, hl with | [_, _, _], _ => rfl⟩,
    ⟨f23, _, ⟨c8_mk l23 c23, PySem.W.mg_of X G a23, k23⟩, C8.Fun.binds (c8_mk l23 c23) rfl fun _ _ _ _ _ _ us hl => match us, hl with | [_, _], _ => rfl⟩,
    ⟨f24, _, ⟨c8_mk l24 c24, PySem.W.mg_of X G a24, k24⟩, C8.Fun.binds (c8_mk l24 c24) rfl fun _ _ _ _ _ _ us hl => match us, hl with | [_, _, _], _ => rfl⟩,
    ⟨f25, _, ⟨c8_mk l25 c25, PySem.W.mg_of X G a25, k25⟩, C8.Fun.binds (c8_mk l25 c25) rfl fun _ _ _ _ _ _ us hl => match us, hl with | [_], _ => rfl⟩,
    ⟨f26, _, ⟨c8_mk l26 c26, PySem.W.mg_of X G a26, k26⟩, C8.Fun.binds (c8_mk l26 c26) rfl fun _ _ _ _ _ _ us hl => match us, hl with | [_, _], _ => rfl⟩,
    ⟨f27, _, ⟨c8_mk l27 c27, PySem.W.mg_of X G a27, k27⟩, C8.Fun.binds (c8_mk l27 c27) rfl fun _ _ _ _ _ _ us hl => match us, hl with | [_], _ => rfl⟩,
    ⟨f28, _, a28, i28, k28, c8_mk l28 c28, C8.Fun.binds (c8_mk l28 c28) rfl fun _ _ _ _ _ _ us hl => match us, hl with | [_, _, _], _ => rfl⟩,
    ⟨f29, _, a29, i29, k29, c8_mk l29 c29, C8.Fun.binds (c8_mk l29 c29) rfl fun _ _ _ _ _ _ us hl => match us, hl with | [_], _ => rfl⟩,
    ⟨f30, _, a30, i30, k30, c8_mk l30 c30, C8.Fun.binds (c8_mk l30 c30) rfl fun _ _ _ _ _ _ us hl => match us, hl with | [_, _], _ => rfl⟩,
    ⟨f31, _, a31, i31, k31, c8_mk l31 c31, C8.Fun.binds (c8_mk l31 c31) rfl fun _ _ _ _ _ _ us hl => match us, hl with | [_], _ => rfl⟩,
    ⟨f32, _, a32, i32, k32, c8_mk l32 c32, C8.Fun.binds (c8_mk l32 c32) rfl fun _ _ _ _ _ _ us hl => match us, hl with | [_], _ => rfl⟩,
    ⟨f33, _, a33, i33, k33, c8_mk l33 c33, C8.Fun.binds (c8_mk l33 c33) rfl fun _ _ _ _ _ _ us hl => match us, hl with | [_], _ => rfl⟩,
    ⟨f34, _, a34, i34, k34, c8_mk l34 c34, C8.Fun.binds (c8_mk l34 c34) rfl fun _ _ _ _ _ _ us hl => match us, hl with | [_, _], _ => rfl⟩,
    ⟨f35, _, a35, i35, k35, ⟨⟨oc35, od35, .ref uT, kV35, dc35, pm35, an35, cd35, ct35, sl35, rfl, l35, c35⟩⟩, init_binds l35 c35 k35 lT⟩,
    ⟨f36, p36, _, a36, g36, t36, ⟨rest36, r36⟩, c8_mk l36 c36, C8.Fun.binds (c8_mk l36 c36) rfl fun _ _ _ _ _ _ us hl => match us, hl with | [_], _ => rfl⟩,
    ⟨f37, p37, _, a37, g37, t37, ⟨rest37, r37⟩, c8_mk l37 c37, C8.Fun.binds (c8_mk l37 c37) rfl fun _ _ _ _ _ _ us hl => match us, hl with | [_], _ => rfl⟩,
    ⟨f38, p38, _, a38, g38, t38, ⟨rest38, r38⟩, c8_mk l38 c38, C8.Fun.binds (c8_mk l38 c38) rfl fun _ _ _ _ _ _ us hl => match us, hl with | [_], _ => rfl⟩⟩
  exact ⟨PySem.W.fnOf "law" "law" (C8.fnArgs (topS 47)) (C8.fnBody (topS 47)) (C8.fnScope (topS 47)) .none kV39 dc39 pm39 an39 cd39 ct39, fun s v => .of_eq rfl, fun base _ _ => all_ok B (c8_mk l39 c39)⟩
end KP

open PySem PySem.W PyProof.Rows in
set_option maxRecDepth 100000 in
set_option maxHeartbeats 0 in
theorem PySem.Challenge.cw_slantways_k16_whole_duals_holds : PySem.Challenge.rw_slantways_k16_whole_duals.Holds := by
  w_on; o_law; k_head; (case hw => w_witness2)
  k_fill
  refine L2.walk_of (l := PySem.Challenge.rw_slantways_k16_whole_duals) (n := 63) (k := 12) (x := "_law_script") (CX := fun _ => L2.CX0) (sp := fun w => KP.spLaw _) rfl (by decide) rfl ⟨rfl, by decide, by decide⟩ (fun w h Y => PySem.W.kIn_of Y) ?F (fun _ _ a ns hl _ hS => ⟨a, ns, rfl, hS, hl, fun _ => rfl⟩) (fun _ _ _ _ _ z => z)
  case F =>
    intro w mg fa h KX G hmg
    refine' KP.all_mk (l := PySem.Challenge.rw_slantways_k16_whole_duals) KX G hmg ?ac ?pgc ?icc ?poc ?sac ?cac ?mrc ?nec ?nfc ?mkc ?kpc ?ad ?pgd ?icd ?pod ?sad ?cad ?mrd ?ned ?nfd ?mkd ?kpd ?cn ?ct ?sA0 ?sB0 ?sC0 ?sD0 ?sE0 ?sA1 ?sB1 ?sC1 ?sD1 ?sE1 ?sA2 ?sB2 ?sC2 ?sD2 ?sE2 ?sA3 ?sB3 ?sC3 ?sD3 ?sE3 ?sA4 ?sB4 ?sC4 ?sD4 ?sE4 ?sA5 ?sB5 ?sC5 ?sD5 ?sE5 ?z_isi ?z_int ?z_bool ?z_tuple ?z_list ?z_all ?z_zip ?z_range ?z_sum ?z_sorted ?z_len ?z_max ?z_min ?z_abs ?agcd ?acomb ?ag ?am ?al ?a1 ?l1 ?c1 ?k1 ?a2 ?l2 ?c2 ?k2 ?a3 ?l3 ?c3 ?k3 ?a4 ?l4 ?c4 ?k4 ?a5 ?l5 ?c5 ?k5 ?a6 ?l6 ?c6 ?k6 ?a7 ?l7 ?c7 ?k7 ?a8 ?l8 ?c8 ?k8 ?a9 ?l9 ?c9 ?k9 ?a10 ?l10 ?c10 ?k10 ?a11 ?l11 ?c11 ?k11 ?a12 ?l12 ?c12 ?k12 ?a13 ?l13 ?c13 ?k13 ?a14 ?l14 ?c14 ?k14 ?a15 ?l15 ?c15 ?k15 ?a16 ?l16 ?c16 ?k16 ?a17 ?l17 ?c17 ?k17 ?a18 ?l18 ?c18 ?k18 ?a19 ?l19 ?c19 ?k19 ?a20 ?l20 ?c20 ?k20 ?a21 ?l21 ?c21 ?k21 ?a22 ?l22 ?c22 ?k22 ?a23 ?l23 ?c23 ?k23 ?a24 ?l24 ?c24 ?k24 ?a25 ?l25 ?c25 ?k25 ?a26 ?l26 ?c26 ?k26 ?a27 ?l27 ?c27 ?k27 ?a28 ?l28 ?c28 ?i28 ?k28 ?a29 ?l29 ?c29 ?i29 ?k29 ?a30 ?l30 ?c30 ?i30 ?k30 ?a31 ?l31 ?c31 ?i31 ?k31 ?a32 ?l32 ?c32 ?i32 ?k32 ?a33 ?l33 ?c33 ?i33 ?k33 ?a34 ?l34 ?c34 ?i34 ?k34 ?a35 ?l35 ?c35 ?i35 ?k35 ?lT ?a36 ?g36 ?t36 ?r36 ?l36 ?c36 ?a37 ?g37 ?t37 ?r37 ?l37 ?c37 ?a38 ?g38 ?t38 ?r38 ?l38 ?c38 ?a39 ?l39 ?c39 ?k39
    (case ac => k_is)
    (case pgc => k_is)
    (case icc => k_is)
    (case poc => k_is)
    (case sac => k_is)
    (case cac => k_is)
    (case mrc => k_is)
    (case nec => k_is)
    (case nfc => k_is)
    (case mkc => k_is)
    (case kpc => k_is)
    (case ad => k_is)
    (case pgd => k_is)
    (case icd => k_is)
    (case pod => k_is)
    (case sad => k_is)
    (case cad => k_is)
    (case mrd => k_is)
    (case ned => k_is)
    (case nfd => k_is)
    (case mkd => k_is)
    (case kpd => k_is)
    (case cn => k_is)
    (case ct => k_is)
    (case sA0 => k_is)
    (case sB0 => k_is)
    (case sC0 => k_is)
    (case sD0 => k_is)
    (case sE0 => k_is)
    (case sA1 => k_is)
    (case sB1 => k_is)
    (case sC1 => k_is)
    (case sD1 => k_is)
    (case sE1 => k_is)
    (case sA2 => k_is)
    (case sB2 => k_is)
    (case sC2 => k_is)
    (case sD2 => k_is)
    (case sE2 => k_is)
    (case sA3 => k_is)
    (case sB3 => k_is)
    (case sC3 => k_is)
    (case sD3 => k_is)
    (case sE3 => k_is)
    (case sA4 => k_is)
    (case sB4 => k_is)
    (case sC4 => k_is)
    (case sD4 => k_is)
    (case sE4 => k_is)
    (case sA5 => k_is)
    (case sB5 => k_is)
    (case sC5 => k_is)
    (case sD5 => k_is)
    (case sE5 => k_is)
    (case z_isi => k_is)
    (case z_int => k_is)
    (case z_bool => k_is)
    (case z_tuple => k_is)
    (case z_list => k_is)
    (case z_all => k_is)
    (case z_zip => k_is)
    (case z_range => k_is)
    (case z_sum => k_is)
    (case z_sorted => k_is)
    (case z_len => k_is)
    (case z_max => k_is)
    (case z_min => k_is)
    (case z_abs => k_is)
    (case agcd => k_is)
    (case acomb => k_is)
    (case ag => k_is)
    (case am => k_is)
    (case al => k_is)
    (case a1 => k_is)
    (case l1 => k_is)
    (case c1 => k_is)
    (case k1 => k_is)
    (case a2 => k_is)
    (case l2 => k_is)
    (case c2 => k_is)
    (case k2 => k_is)
    (case a3 => k_is)
    (case l3 => k_is)
    (case c3 => k_is)
    (case k3 => k_is)
    (case a4 => k_is)
    (case l4 => k_is)
    (case c4 => k_is)
    (case k4 => k_is)
    (case a5 => k_is)
    (case l5 => k_is)
    (case c5 => k_is)
    (case k5 => k_is)
    (case a6 => k_is)
    (case l6 => k_is)
    (case c6 => k_is)
    (case k6 => k_is)
    (case a7 => k_is)
    (case l7 => k_is)
    (case c7 => k_is)
    (case k7 => k_is)
    (case a8 => k_is)
    (case l8 => k_is)
    (case c8 => k_is)
    (case k8 => k_is)
    (case a9 => k_is)
    (case l9 => k_is)
    (case c9 => k_is)
    (case k9 => k_is)
    (case a10 => k_is)
    (case l10 => k_is)
    (case c10 => k_is)
    (case k10 => k_is)
    (case a11 => k_is)
    (case l11 => k_is)
    (case c11 => k_is)
    (case k11 => k_is)
    (case a12 => k_is)
    (case l12 => k_is)
    (case c12 => k_is)
    (case k12 => k_is)
    (case a13 => k_is)
    (case l13 => k_is)
    (case c13 => k_is)
    (case k13 => k_is)
    (case a14 => k_is)
    (case l14 => k_is)
    (case c14 => k_is)
    (case k14 => k_is)
    (case a15 => k_is)
    (case l15 => k_is)
    (case c15 => k_is)
    (case k15 => k_is)
    (case a16 => k_is)
    (case l16 => k_is)
    (case c16 => k_is)
    (case k16 => k_is)
    (case a17 => k_is)
    (case l17 => k_is)
    (case c17 => k_is)
    (case k17 => k_is)
    (case a18 => k_is)
    (case l18 => k_is)
    (case c18 => k_is)
    (case k18 => k_is)
    (case a19 => k_is)
    (case l19 => k_is)
    (case c19 => k_is)
    (case k19 => k_is)
    (case a20 => k_is)
    (case l20 => k_is)
    (case c20 => k_is)
    (case k20 => k_is)
    (case a21 => k_is)
    (case l21 => k_is)
    (case c21 => k_is)
    (case k21 => k_is)
    (case a22 => k_is)
    (case l22 => k_is)
    (case c22 => k_is)
    (case k22 => k_is)
    (case a23 => k_is)
    (case l23 => k_is)
    (case c23 => k_is)
    (case k23 => k_is)
    (case a24 => k_is)
    (case l24 => k_is)
    (case c24 => k_is)
    (case k24 => k_is)
    (case a25 => k_is)
    (case l25 => k_is)
    (case c25 => k_is)
    (case k25 => k_is)
    (case a26 => k_is)
    (case l26 => k_is)
    (case c26 => k_is)
    (case k26 => k_is)
    (case a27 => k_is)
    (case l27 => k_is)
    (case c27 => k_is)
    (case k27 => k_is)
    (case a28 => k_is)
    (case l28 => k_is)
    (case c28 => k_is)
    (case i28 => k_is)
    (case k28 => k_is)
    (case a29 => k_is)
    (case l29 => k_is)
    (case c29 => k_is)
    (case i29 => k_is)
    (case k29 => k_is)
    (case a30 => k_is)
    (case l30 => k_is)
    (case c30 => k_is)
    (case i30 => k_is)
    (case k30 => k_is)
    (case a31 => k_is)
    (case l31 => k_is)
    (case c31 => k_is)
    (case i31 => k_is)
    (case k31 => k_is)
    (case a32 => k_is)
    (case l32 => k_is)
    (case c32 => k_is)
    (case i32 => k_is)
    (case k32 => k_is)
    (case a33 => k_is)
    (case l33 => k_is)
    (case c33 => k_is)
    (case i33 => k_is)
    (case k33 => k_is)
    (case a34 => k_is)
    (case l34 => k_is)
    (case c34 => k_is)
    (case i34 => k_is)
    (case k34 => k_is)
    (case a35 => k_is)
    (case l35 => k_is)
    (case c35 => k_is)
    (case i35 => k_is)
    (case k35 => k_is)
    (case lT => k_is)
    (case a36 => k_is)
    (case g36 => k_is)
    (case t36 => k_is)
    (case r36 => k_is)
    (case l36 => k_is)
    (case c36 => k_is)
    (case a37 => k_is)
    (case g37 => k_is)
    (case t37 => k_is)
    (case r37 => k_is)
    (case l37 => k_is)
    (case c37 => k_is)
    (case a38 => k_is)
    (case g38 => k_is)
    (case t38 => k_is)
    (case r38 => k_is)
    (case l38 => k_is)
    (case c38 => k_is)
    (case a39 => k_is)
    (case l39 => k_is)
    (case c39 => k_is)
    (case k39 => k_is)
