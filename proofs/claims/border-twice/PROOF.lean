import PyProof.Rows.All
import Wide.All
import OpenK.AllK
import Wide.FinOn
import HandS.ForMost
import HandS.Conv
import HandS.Deep
import HandS.Wide
import HandS.Walk
import HandS.Codes
import KE.SortData
import PySem.Challenge.RW_rookborders_k35_whole_border_twice
set_option Elab.async false
set_option linter.all false
set_option maxRecDepth 100000
set_option autoImplicit false
/-! The mathematics: oblongs on a ring both ways, steps, border twice is nothing for boards of at most five. No program here. -/
namespace RB

/-! ### the mirror -/
/-- first, first + 1, .. round, up to the one ahead of last -/
def rf (n a b : Nat) : List Nat := (List.range ((b + n - a) % n)).map fun i => (a + i) % n
def gt (x : List Nat) (i : Nat) : Nat := x.getD i 0
def cols (x : List Nat) (a b : Nat) : List Nat := rf x.length a b
def rows (x : List Nat) (a b : Nat) : List Nat := rf x.length (gt x a) (gt x b)
def bare (x : List Nat) (a b : Nat) : Bool := !((cols x a b).drop 1).any fun c => ((rows x a b).drop 1).contains (gt x c)
def free (sq : List Nat × List Nat) (c : Nat) (rs : List Nat) : Bool := !rs.contains (gt sq.1 c) && !rs.contains (gt sq.2 c)
def clear (sq : List Nat × List Nat) (x : List Nat) (a b : Nat) : Bool := (cols x a b).all fun c => free sq c (rows x a b)
def swap (x : List Nat) (a b : Nat) : List Nat := (x.set a (gt x b)).set b (gt x a)
def okS (sq : List Nat × List Nat) (x : List Nat) (a b : Nat) : Bool := !(a == b) && (bare x a b && clear sq x a b)
def stepAt (sq : List Nat × List Nat) (x : List Nat) (a b : Nat) : List (Nat × Nat × List Nat) := if okS sq x a b = true then [(a, b, swap x a b)] else []
def steps (sq : List Nat × List Nat) (x : List Nat) : List (Nat × Nat × List Nat) :=
  (List.range x.length).flatMap fun a => (List.range x.length).flatMap fun b => stepAt sq x a b
def nxt (sq : List Nat × List Nat) (x : List Nat) : List (List Nat) := (steps sq x).map (·.2.2)
/-- columns turned by k (0 <= k) -/
def trn (x : List Nat) (k : Nat) : List Nat := (List.range x.length).map fun j => gt x ((j + x.length - k) % x.length)
def IsSt (n : Nat) (x : List Nat) : Prop := x.length = n ∧ x.Nodup ∧ ∀ h ∈ x, h < n

/-! ### marks as masks -/
def colm (n : Nat) : List Nat → Nat
  | [] => 0
  | c :: r => 2 ^ (c * n) + colm n r
def rowm : List Nat → Nat
  | [] => 0
  | c :: r => 2 ^ c + rowm r
/-- the cells of columns cs and rows rs -/
def msk (n : Nat) (cs rs : List Nat) : Nat := colm n cs * rowm rs
/-- no marked cell lies in the mask -/
def clr (sq : List Nat × List Nat) (n m : Nat) : Bool :=
  (List.range n).all fun c => (List.range n).all fun r => !(Nat.testBit m (c * n + r)) || (!(gt sq.1 c == r) && !(gt sq.2 c == r))

/-- the bare oblongs from a stand: mask, stand behind -/
def bsAt (x : List Nat) (a b : Nat) : List (Nat × List Nat) := if (!(a == b) && bare x a b) = true then [(msk x.length (cols x a b) (rows x a b), swap x a b)] else []
def bsteps (x : List Nat) : List (Nat × List Nat) := (List.range x.length).flatMap fun a => (List.range x.length).flatMap fun b => bsAt x a b
def ways (x : List Nat) : List (Nat × List Nat) := (bsteps x).flatMap fun p => (bsteps p.2).map fun q => (p.1 ||| q.1, q.2)

def eqL : List Nat → List Nat → Bool
  | [], [] => true
  | a :: x, b :: y => Nat.beq a b && eqL x y
  | _, _ => false
/-- the first one like h is taken out -/
def del (h : Nat × List Nat) : List (Nat × List Nat) → Option (List (Nat × List Nat))
  | [] => none
  | q :: t => if (Nat.beq h.1 q.1 && eqL h.2 q.2) = true then some t else (del h t).map fun t' => q :: t'
/-- they go in pairs -/
def pairOff : Nat → List (Nat × List Nat) → Bool
  | _, [] => true
  | 0, _ :: _ => false
  | k + 1, h :: t => match del h t with
    | none => false
    | some t' => pairOff k t'
def allSt (n : Nat) : Nat → List (List Nat)
  | 0 => [[]]
  | m + 1 => (allSt n m).flatMap fun x => ((List.range n).filter fun h => !x.contains h).map fun h => h :: x
/-- a whole column or a whole row -/
def ring (n m : Nat) : Bool := ((List.range n).any fun c => (List.range n).all fun r => Nat.testBit m (c * n + r)) || ((List.range n).any fun r => (List.range n).all fun c => Nat.testBit m (c * n + r))
def goodW (x : List Nat) (w : List (Nat × List Nat)) : Bool := (w.all fun p => !(eqL p.2 x) || ring x.length p.1) && pairOff w.length (w.filter fun p => !(eqL p.2 x))
def good (x : List Nat) : Bool := goodW x (ways x)
/-- all stands whose first rook is at height 0 -/
def allGood (n : Nat) : Bool := (allSt n n).all fun x => !(Nat.beq (gt x 0) 0) || good x
def mskOk (n : Nat) : Bool := (List.range n).all fun a => (List.range n).all fun b => (List.range n).all fun h => (List.range n).all fun k =>
  let m := msk n (rf n a b) (rf n h k)
  (List.range n).all fun c => (List.range n).all fun r => Nat.testBit m (c * n + r) == ((rf n a b).contains c && (rf n h k).contains r)
end RB

namespace RB
/-! ### small things -/
theorem mem_rf {n a b c : Nat} (h : c ∈ rf n a b) : c < n ∨ n = 0 := by
  unfold rf at h
  obtain ⟨i, _, rfl⟩ := List.mem_map.mp h
  rcases Nat.eq_zero_or_pos n with e | e
  · exact .inr e
  · exact .inl (Nat.mod_lt _ e)
theorem rf_len (n a b : Nat) : (rf n a b).length = (b + n - a) % n := by unfold rf; rw [List.length_map, List.length_range]
theorem rf_get {n a b i : Nat} (h : i < (b + n - a) % n) : (rf n a b)[i]? = some ((a + i) % n) := by
  unfold rf
  rw [List.getElem?_map, List.getElem?_range h]
  rfl
theorem gt_get {x : List Nat} {i v : Nat} (h : x[i]? = some v) : gt x i = v := by
  unfold gt
  rw [List.getD_eq_getElem?_getD, h]
  rfl
theorem get_gt {x : List Nat} {i : Nat} (h : i < x.length) : x[i]? = some (gt x i) := by
  unfold gt
  rw [List.getD_eq_getElem?_getD, List.getElem?_eq_getElem h]
  rfl
theorem gt_mem {x : List Nat} {i : Nat} (h : i < x.length) : gt x i ∈ x := List.mem_of_getElem? (get_gt h)
theorem gt_ext {x y : List Nat} (hl : x.length = y.length) (h : ∀ i, i < x.length → gt x i = gt y i) : x = y := by
  refine List.ext_getElem? fun i => ?_
  by_cases hi : i < x.length
  · rw [get_gt hi, get_gt (hl ▸ hi), h i hi]
  · rw [List.getElem?_eq_none (by omega), List.getElem?_eq_none (by omega)]
theorem swap_len (x : List Nat) (a b : Nat) : (swap x a b).length = x.length := by unfold swap; rw [List.length_set, List.length_set]
theorem gt_set {x : List Nat} {i j v : Nat} (h : i < x.length) : gt (x.set i v) j = if j = i then v else gt x j := by
  unfold gt
  rw [List.getD_eq_getElem?_getD, List.getElem?_set]
  by_cases e : i = j
  · subst e
    rw [if_pos rfl, if_pos h, if_pos rfl]
    rfl
  · rw [if_neg e, if_neg (Ne.symm e), List.getD_eq_getElem?_getD]
theorem gt_swap {x : List Nat} {a b j : Nat} (ha : a < x.length) (hb : b < x.length) : gt (swap x a b) j = if j = b then gt x a else if j = a then gt x b else gt x j := by
  unfold swap
  rw [gt_set (by rw [List.length_set]; exact hb), gt_set ha]
theorem swap_perm {x : List Nat} {a b : Nat} (ha : a < x.length) (hb : b < x.length) : ∀ h, h ∈ swap x a b → h ∈ x := by
  intro h hm
  obtain ⟨i, e⟩ := List.mem_iff_getElem?.mp hm
  have hi := (List.getElem?_eq_some_iff.mp e).1
  rw [get_gt hi, gt_swap ha hb] at e
  rw [swap_len] at hi
  have e := Option.some.inj e
  subst e
  split
  · exact gt_mem ha
  · split
    · exact gt_mem hb
    · exact gt_mem hi
theorem nodup_gt {x : List Nat} (h : x.Nodup) {i j : Nat} (hi : i < x.length) (hj : j < x.length) (e : gt x i = gt x j) : i = j := by
  have e1 : x[i] = x[j] := by
    have a := get_gt hi
    have b := get_gt hj
    rw [List.getElem?_eq_getElem hi] at a
    rw [List.getElem?_eq_getElem hj] at b
    rw [Option.some.inj a, Option.some.inj b, e]
  exact (List.getElem_inj h).mp e1
theorem gt_nodup {x : List Nat} (h : ∀ i j, i < x.length → j < x.length → gt x i = gt x j → i = j) : x.Nodup := by
  rw [List.nodup_iff_pairwise_ne, List.pairwise_iff_getElem]
  intro i j hi hj hij e
  have a := get_gt hi
  have b := get_gt hj
  rw [List.getElem?_eq_getElem hi] at a
  rw [List.getElem?_eq_getElem hj] at b
  have q := h i j hi hj (by rw [← Option.some.inj a, ← Option.some.inj b, e])
  omega
theorem swap_st {n : Nat} {x : List Nat} {a b : Nat} (hx : IsSt n x) (ha : a < n) (hb : b < n) : IsSt n (swap x a b) := by
  obtain ⟨hl, hn, hm⟩ := hx
  have ha' : a < x.length := by omega
  have hb' : b < x.length := by omega
  refine ⟨by rw [swap_len, hl], gt_nodup fun i j hi hj e => ?_, fun h hh => hm h (swap_perm ha' hb' h hh)⟩
  rw [swap_len] at hi hj
  rw [gt_swap ha' hb', gt_swap ha' hb'] at e
  have D := fun (i j : Nat) (hi : i < x.length) (hj : j < x.length) (e : gt x i = gt x j) => nodup_gt hn hi hj e
  by_cases i1 : i = b
  · rw [if_pos i1] at e
    by_cases j1 : j = b
    · omega
    · rw [if_neg j1] at e
      by_cases j2 : j = a
      · rw [if_pos j2] at e
        have := D _ _ ha' hb' e
        omega
      · rw [if_neg j2] at e
        have := D _ _ ha' hj e
        omega
  · rw [if_neg i1] at e
    by_cases i2 : i = a
    · rw [if_pos i2] at e
      by_cases j1 : j = b
      · rw [if_pos j1] at e
        have := D _ _ hb' ha' e
        omega
      · rw [if_neg j1] at e
        by_cases j2 : j = a
        · omega
        · rw [if_neg j2] at e
          have := D _ _ hb' hj e
          omega
    · rw [if_neg i2] at e
      by_cases j1 : j = b
      · rw [if_pos j1] at e
        have := D _ _ hi ha' e
        omega
      · rw [if_neg j1] at e
        by_cases j2 : j = a
        · rw [if_pos j2] at e
          have := D _ _ hi hb' e
          omega
        · rw [if_neg j2] at e
          exact D _ _ hi hj e
/-! ### masks -/
def MskOk (n : Nat) : Prop := ∀ a b h k c r, a < n → b < n → h < n → k < n → c < n → r < n → Nat.testBit (msk n (rf n a b) (rf n h k)) (c * n + r) = ((rf n a b).contains c && (rf n h k).contains r)
theorem mskOk_of {n : Nat} (h : mskOk n = true) : MskOk n := by
  intro a b u k c r ha hb hu hk hc hr
  unfold mskOk at h
  simp only [List.all_eq_true, List.mem_range, beq_iff_eq] at h
  exact h a ha b hb u hu k hk c hc r hr
theorem clr_iff {sq : List Nat × List Nat} {n m : Nat} : clr sq n m = true ↔ ∀ c r, c < n → r < n → Nat.testBit m (c * n + r) = true → gt sq.1 c ≠ r ∧ gt sq.2 c ≠ r := by
  unfold clr
  simp only [List.all_eq_true, List.mem_range, Bool.or_eq_true, Bool.not_eq_true', Bool.and_eq_true, beq_eq_false_iff_ne]
  constructor
  · intro h c r hc hr hb
    rcases h c hc r hr with q | q
    · rw [hb] at q
      cases q
    · exact q
  · intro h c hc r hr
    by_cases q : Nat.testBit m (c * n + r) = true
    · exact .inr (h c r hc hr q)
    · exact .inl (by simpa using q)
theorem clr_or {sq : List Nat × List Nat} {n m k : Nat} : clr sq n (m ||| k) = (clr sq n m && clr sq n k) := by
  rw [Bool.eq_iff_iff, Bool.and_eq_true, clr_iff, clr_iff, clr_iff]
  simp only [Nat.testBit_or, Bool.or_eq_true]
  constructor
  · intro h
    exact ⟨fun c r hc hr q => h c r hc hr (.inl q), fun c r hc hr q => h c r hc hr (.inr q)⟩
  · rintro ⟨h1, h2⟩ c r hc hr (q | q)
    · exact h1 c r hc hr q
    · exact h2 c r hc hr q
theorem clear_clr {sq : List Nat × List Nat} {n : Nat} (hM : MskOk n) {x : List Nat} (hx : IsSt n x) {a b : Nat} (ha : a < n) (hb : b < n) :
    clear sq x a b = clr sq n (msk n (cols x a b) (rows x a b)) := by
  obtain ⟨hl, _, hm⟩ := hx
  have ga : gt x a < n := hm _ (gt_mem (by omega))
  have gb : gt x b < n := hm _ (gt_mem (by omega))
  rw [Bool.eq_iff_iff, clr_iff]
  unfold clear free cols rows
  rw [hl]
  simp only [List.all_eq_true, Bool.and_eq_true, Bool.not_eq_true', List.contains_eq_mem, decide_eq_false_iff_not]
  constructor
  · intro h c r hc hr q
    rw [hM a b _ _ c r ha hb ga gb hc hr, Bool.and_eq_true] at q
    simp only [List.contains_eq_mem, decide_eq_true_eq] at q
    obtain ⟨q1, q2⟩ := q
    obtain ⟨h1, h2⟩ := h c q1
    exact ⟨fun e => h1 (e ▸ q2), fun e => h2 (e ▸ q2)⟩
  · intro h c hc
    have hcn : c < n := (mem_rf hc).resolve_right (by omega)
    have go : ∀ r, r ∈ rf n (gt x a) (gt x b) → gt sq.1 c ≠ r ∧ gt sq.2 c ≠ r := fun r hr => by
      have hrn : r < n := (mem_rf hr).resolve_right (by omega)
      refine h c r hcn hrn ?_
      rw [hM a b _ _ c r ha hb ga gb hcn hrn, Bool.and_eq_true]
      simp only [List.contains_eq_mem, decide_eq_true_eq]
      exact ⟨hc, hr⟩
    exact ⟨fun q => (go _ q).1 rfl, fun q => (go _ q).2 rfl⟩
/-! ### the steps by masks -/
theorem map_flatMap' {α β γ : Type} (f : β → γ) (g : α → List β) (l : List α) : (l.flatMap g).map f = l.flatMap fun a => (g a).map f := by
  induction l with
  | nil => rfl
  | cons a r ih => rw [List.flatMap_cons, List.flatMap_cons, List.map_append, ih]
theorem filter_flatMap' {α β : Type} (p : β → Bool) (g : α → List β) (l : List α) : (l.flatMap g).filter p = l.flatMap fun a => (g a).filter p := by
  induction l with
  | nil => rfl
  | cons a r ih => rw [List.flatMap_cons, List.flatMap_cons, List.filter_append, ih]
theorem flatMap_congr' {α β : Type} {f g : α → List β} {l : List α} (h : ∀ a ∈ l, f a = g a) : l.flatMap f = l.flatMap g := by
  induction l with
  | nil => rfl
  | cons a r ih => rw [List.flatMap_cons, List.flatMap_cons, h a List.mem_cons_self, ih fun b hb => h b (List.mem_cons_of_mem _ hb)]
theorem filter_one {α : Type} (p : α → Bool) (a : α) : [a].filter p = if p a = true then [a] else [] := by
  by_cases h : p a = true
  · rw [List.filter_cons_of_pos h, if_pos h]
    rfl
  · rw [List.filter_cons_of_neg h, if_neg h]
    rfl
theorem nxt_eq {sq : List Nat × List Nat} {n : Nat} (hM : MskOk n) {x : List Nat} (hx : IsSt n x) : nxt sq x = ((bsteps x).filter fun p => clr sq n p.1).map (·.2) := by
  unfold nxt steps bsteps
  rw [filter_flatMap', map_flatMap', map_flatMap']
  refine flatMap_congr' fun a ha => ?_
  rw [filter_flatMap', map_flatMap', map_flatMap']
  refine flatMap_congr' fun b hb => ?_
  have hl := hx.1
  rw [List.mem_range] at ha hb
  unfold stepAt bsAt okS
  rw [clear_clr hM hx (by omega) (by omega), hl]
  by_cases q : (!(a == b) && bare x a b) = true
  · rw [if_pos q, ← Bool.and_assoc, q, Bool.true_and]
    generalize msk n (cols x a b) (rows x a b) = m
    generalize swap x a b = y
    rw [filter_one]
    show List.map _ _ = List.map _ (if clr sq n m = true then [(m, y)] else [])
    by_cases z : clr sq n m = true
    · rw [if_pos z, if_pos z]
      rfl
    · rw [if_neg z, if_neg z]
      rfl
  · rw [if_neg q, ← Bool.and_assoc]
    have q' : (!(a == b) && bare x a b) = false := by simpa using q
    rw [q', Bool.false_and, if_neg (by decide)]
    rfl
theorem bsteps_st {n : Nat} {x : List Nat} (hx : IsSt n x) {p : Nat × List Nat} (hp : p ∈ bsteps x) : IsSt n p.2 := by
  unfold bsteps at hp
  obtain ⟨a, ha, hp⟩ := List.mem_flatMap.mp hp
  obtain ⟨b, hb, hp⟩ := List.mem_flatMap.mp hp
  rw [List.mem_range, hx.1] at ha hb
  unfold bsAt at hp
  split at hp
  · rw [List.mem_singleton] at hp
    rw [hp]
    exact swap_st hx ha hb
  · cases hp
theorem nxt_st {sq : List Nat × List Nat} {n : Nat} {x : List Nat} (hx : IsSt n x) {y : List Nat} (hy : y ∈ nxt sq x) : IsSt n y := by
  unfold nxt steps at hy
  obtain ⟨s, hs, rfl⟩ := List.mem_map.mp hy
  obtain ⟨a, ha, hp⟩ := List.mem_flatMap.mp hs
  obtain ⟨b, hb, hp⟩ := List.mem_flatMap.mp hp
  rw [List.mem_range, hx.1] at ha hb
  unfold stepAt at hp
  split at hp
  · rw [List.mem_singleton] at hp
    rw [hp]
    exact swap_st hx ha hb
  · cases hp
theorem count_flatMap' {α β : Type} (p : β → Bool) (g : α → List β) (l : List α) : (l.flatMap g).countP p = (l.map fun a => (g a).countP p).sum := by
  induction l with
  | nil => rfl
  | cons a r ih => rw [List.flatMap_cons, List.countP_append, ih, List.map_cons, List.sum_cons]
theorem countP_map' {α β : Type} (p : β → Bool) (f : α → β) (l : List α) : (l.map f).countP p = l.countP fun a => p (f a) := by
  rw [List.countP_map]
  rfl
/-- both oblongs clear, the end z -/
def wayP (sq : List Nat × List Nat) (n : Nat) (z : List Nat) (w : Nat × List Nat) : Bool := clr sq n w.1 && w.2 == z
theorem two_eq {sq : List Nat × List Nat} {n : Nat} (hM : MskOk n) {x : List Nat} (hx : IsSt n x) (z : List Nat) : ((nxt sq x).flatMap (nxt sq)).count z = (ways x).countP (wayP sq n z) := by
  unfold ways
  rw [List.count, count_flatMap', count_flatMap', nxt_eq hM hx]
  have key : ∀ l : List (Nat × List Nat), (∀ p ∈ l, IsSt n p.2) → (((l.filter fun p => clr sq n p.1).map (·.2)).map fun a => (nxt sq a).countP fun x => x == z).sum
      = (l.map fun p => ((bsteps p.2).map fun q => (p.1 ||| q.1, q.2)).countP (wayP sq n z)).sum := by
    intro l
    induction l with
    | nil => intro _; rfl
    | cons p r ih =>
      intro hl
      have ih := ih fun q hq => hl q (List.mem_cons_of_mem _ hq)
      have hp := hl p List.mem_cons_self
      rw [List.map_cons, List.sum_cons, ← ih, countP_map']
      by_cases z1 : clr sq n p.1 = true
      · rw [List.filter_cons_of_pos (p := fun p : Nat × List Nat => clr sq n p.1) z1, List.map_cons, List.map_cons, List.sum_cons]
        congr 1
        rw [nxt_eq hM hp, countP_map', List.countP_filter]
        refine List.countP_congr fun q _ => ?_
        unfold wayP
        rw [clr_or, z1, Bool.true_and, Bool.and_comm]
      · rw [List.filter_cons_of_neg (p := fun p : Nat × List Nat => clr sq n p.1) z1]
        have z0 : (bsteps p.2).countP (fun a => wayP sq n z (p.1 ||| a.1, a.2)) = 0 := by
          rw [List.countP_eq_zero]
          intro q _ h
          unfold wayP at h
          rw [clr_or] at h
          simp only [Bool.and_eq_true] at h
          exact z1 h.1.1
        rw [z0, Nat.zero_add]
  exact key _ fun p hp => bsteps_st hx hp
/-! ### what goes in pairs is even -/
theorem eqL_iff : ∀ {x y : List Nat}, eqL x y = true ↔ x = y
  | [], [] => by simp [eqL]
  | [], _ :: _ => by simp [eqL]
  | _ :: _, [] => by simp [eqL]
  | a :: x, b :: y => by
    unfold eqL
    rw [Bool.and_eq_true, eqL_iff (x := x) (y := y), List.cons.injEq, Nat.beq_eq]
theorem del_perm {h : Nat × List Nat} : ∀ {l t : List (Nat × List Nat)}, del h l = some t → l.Perm (h :: t)
  | [], _, e => by cases e
  | q :: l, t, e => by
    unfold del at e
    split at e
    · rename_i c
      rw [Bool.and_eq_true, Nat.beq_eq, eqL_iff] at c
      have e1 : h = q := Prod.ext c.1 c.2
      have e2 := Option.some.inj e
      rw [e1, e2]
    · cases d : del h l with
      | none => rw [d] at e; cases e
      | some u =>
        rw [d] at e
        have e2 : q :: u = t := Option.some.inj e
        rw [← e2]
        exact ((del_perm d).cons q).trans (List.Perm.swap _ _ _)
theorem pairOff_even (P : Nat × List Nat → Bool) : ∀ {k : Nat} {l : List (Nat × List Nat)}, pairOff k l = true → l.countP P % 2 = 0
  | 0, [], _ => rfl
  | _ + 1, [], _ => rfl
  | 0, _ :: _, e => by cases e
  | k + 1, h :: t, e => by
    unfold pairOff at e
    cases d : del h t with
    | none => rw [d] at e; cases e
    | some u =>
      rw [d] at e
      have ih := pairOff_even P (k := k) (l := u) e
      rw [List.countP_cons, (del_perm d).countP_eq, List.countP_cons]
      split <;> omega
/-! ### a whole column, a whole row -/
theorem pigeon : ∀ (m : Nat) (x : List Nat), x.Nodup → (∀ h ∈ x, h < m) → x.length ≤ m
  | 0, [], _, _ => Nat.le_refl _
  | 0, h :: _, _, q => absurd (q h List.mem_cons_self) (Nat.not_lt_zero _)
  | m + 1, x, hn, q => by
    have h1 := pigeon m (x.erase m) (hn.erase m) fun h hh => by
      have h1 := List.mem_of_mem_erase hh
      have h2 := q h h1
      have h3 : h ≠ m := fun e => by
        rw [e] at hh
        exact (List.Nodup.not_mem_erase hn) hh
      omega
    have h2 := List.length_erase (a := m) (l := x)
    split at h2 <;> omega
theorem st_onto {n : Nat} {x : List Nat} (hx : IsSt n x) {r : Nat} (hr : r < n) : ∃ i, i < n ∧ gt x i = r := by
  have hm : r ∈ x := by
    refine Classical.byContradiction fun h => ?_
    have q := pigeon n (r :: x) (List.nodup_cons.mpr ⟨h, hx.2.1⟩) fun u hu => by
      rcases List.mem_cons.mp hu with e | e
      · omega
      · exact hx.2.2 u e
    rw [List.length_cons, hx.1] at q
    omega
  obtain ⟨i, e⟩ := List.mem_iff_getElem?.mp hm
  have hi := (List.getElem?_eq_some_iff.mp e).1
  exact ⟨i, by rw [← hx.1]; exact hi, gt_get e⟩
theorem ring_clr {sq : List Nat × List Nat} {n m : Nat} (hq : IsSt n sq.1) (h : ring n m = true) : clr sq n m = false := by
  rw [Bool.eq_false_iff]
  intro c
  rw [clr_iff] at c
  unfold ring at h
  simp only [Bool.or_eq_true, List.any_eq_true, List.mem_range, List.all_eq_true] at h
  rcases h with ⟨k, hk, h⟩ | ⟨r, hr, h⟩
  · have hg : gt sq.1 k < n := hq.2.2 _ (gt_mem (by rw [hq.1]; exact hk))
    exact (c k _ hk hg (h _ hg)).1 rfl
  · obtain ⟨i, hi, e⟩ := st_onto hq hr
    exact (c i r hi hr (h i hi)).1 e
theorem good_even {sq : List Nat × List Nat} {n : Nat} (hM : MskOk n) (hq : IsSt n sq.1) {x : List Nat} (hx : IsSt n x) (hg : good x = true) (z : List Nat) : ((nxt sq x).flatMap (nxt sq)).count z % 2 = 0 := by
  rw [two_eq hM hx z]
  unfold good goodW at hg
  rw [Bool.and_eq_true, List.all_eq_true] at hg
  obtain ⟨h1, h2⟩ := hg
  have e : (ways x).countP (wayP sq n z) = ((ways x).filter fun p => !(eqL p.2 x)).countP (wayP sq n z) := by
    rw [List.countP_filter]
    refine List.countP_congr fun p hp => ?_
    have q := h1 p hp
    cases c : eqL p.2 x with
    | false => simp
    | true =>
      rw [c, hx.1] at q
      have w : wayP sq n z p = false := by
        unfold wayP
        rw [ring_clr hq (by simpa using q), Bool.false_and]
      rw [w]
      simp
  rw [e]
  exact pairOff_even _ h2
/-! ### all stands -/
theorem allSt_mem {n : Nat} : ∀ (m : Nat) (x : List Nat), x.length = m → x.Nodup → (∀ h ∈ x, h < n) → x ∈ allSt n m
  | 0, [], _, _, _ => by simp [allSt]
  | 0, _ :: _, e, _, _ => by cases e
  | m + 1, [], e, _, _ => by cases e
  | m + 1, h :: x, e, hn, hm => by
    have hn := List.nodup_cons.mp hn
    have ih := allSt_mem m x (Nat.succ.inj e) hn.2 fun u hu => hm u (List.mem_cons_of_mem _ hu)
    unfold allSt
    refine List.mem_flatMap.mpr ⟨x, ih, List.mem_map.mpr ⟨h, List.mem_filter.mpr ⟨List.mem_range.mpr (hm h List.mem_cons_self), ?_⟩, rfl⟩⟩
    simp only [List.contains_eq_mem, Bool.not_eq_true', decide_eq_false_iff_not]
    exact hn.1
theorem allGood_of {n : Nat} (h : allGood n = true) {x : List Nat} (hx : IsSt n x) (h0 : gt x 0 = 0) : good x = true := by
  unfold allGood at h
  rw [List.all_eq_true] at h
  have q := h x (allSt_mem n x hx.1 hx.2.1 hx.2.2)
  rw [h0] at q
  simpa using q
end RB

namespace RB
/-! ### turning -/
theorem mod2 {a n : Nat} (h : a < 2 * n) : a % n = if a < n then a else a - n := by
  split
  · exact Nat.mod_eq_of_lt (by assumption)
  · rw [Nat.mod_eq_sub_mod (by omega), Nat.mod_eq_of_lt (by omega)]
theorem su {n k j : Nat} (hk : k < n) (hj : j < n) : ((j + n - k) % n + k) % n = j := by
  rw [mod2 (a := j + n - k) (by omega)]
  split
  · rw [mod2 (by omega)]
    split <;> omega
  · rw [mod2 (by omega)]
    split <;> omega
theorem us {n k j : Nat} (hk : k < n) (hj : j < n) : ((j + k) % n + n - k) % n = j := by
  rw [mod2 (a := j + k) (by omega)]
  split
  · rw [mod2 (by omega)]
    split <;> omega
  · rw [mod2 (by omega)]
    split <;> omega
theorem trn_len (x : List Nat) (k : Nat) : (trn x k).length = x.length := by unfold trn; rw [List.length_map, List.length_range]
theorem gt_trn {x : List Nat} {k j : Nat} (hj : j < x.length) : gt (trn x k) j = gt x ((j + x.length - k) % x.length) := by
  refine gt_get ?_
  unfold trn
  rw [List.getElem?_map, List.getElem?_range hj]
  rfl
theorem gt_trn_s {n : Nat} {x : List Nat} (hl : x.length = n) {k j : Nat} (hk : k < n) (hj : j < n) : gt (trn x k) ((j + k) % n) = gt x j := by
  subst hl
  rw [gt_trn (Nat.mod_lt _ (by omega)), us hk hj]
theorem trn_inj {n : Nat} {x y : List Nat} (hx : x.length = n) (hy : y.length = n) {k : Nat} (hk : k < n) (e : trn x k = trn y k) : x = y := by
  refine gt_ext (hx.trans hy.symm) fun i hi => ?_
  rw [← gt_trn_s hx hk (by omega), e, gt_trn_s hy hk (by omega)]
theorem trn_st {n : Nat} {x : List Nat} (hx : IsSt n x) {k : Nat} (hk : k < n) : IsSt n (trn x k) := by
  obtain ⟨hl, hn, hm⟩ := hx
  refine ⟨by rw [trn_len, hl], gt_nodup fun i j hi hj e => ?_, fun h hh => ?_⟩
  · rw [trn_len] at hi hj
    rw [gt_trn hi, gt_trn hj] at e
    have q := nodup_gt hn (Nat.mod_lt _ (by omega)) (Nat.mod_lt _ (by omega)) e
    rw [← su (n := x.length) (k := k) (j := i) (by omega) hi, q, su (by omega) hj]
  · obtain ⟨i, e⟩ := List.mem_iff_getElem?.mp hh
    have hi := (List.getElem?_eq_some_iff.mp e).1
    rw [trn_len] at hi
    rw [← gt_get e, gt_trn hi]
    exact hm _ (gt_mem (Nat.mod_lt _ (by omega)))
theorem rf_s {n k a b : Nat} (hk : k < n) (ha : a < n) (hb : b < n) : rf n ((a + k) % n) ((b + k) % n) = (rf n a b).map fun c => (c + k) % n := by
  unfold rf
  have e : ((b + k) % n + n - (a + k) % n) % n = (b + n - a) % n := by
    rw [mod2 (a := b + k) (by omega), mod2 (a := a + k) (by omega), mod2 (a := b + n - a) (by omega)]
    split <;> split <;> split <;> (rw [mod2 (by omega)]; split <;> omega)
  rw [e, List.map_map]
  refine List.map_congr_left fun i _ => ?_
  show ((a + k) % n + i) % n = ((a + i) % n + k) % n
  rw [Nat.mod_add_mod, Nat.mod_add_mod]
  congr 1
  omega
section
variable {n : Nat} {x : List Nat} {k a b : Nat}
theorem cols_s (hl : x.length = n) (hk : k < n) (ha : a < n) (hb : b < n) : cols (trn x k) ((a + k) % n) ((b + k) % n) = (cols x a b).map fun c => (c + k) % n := by
  unfold cols
  rw [trn_len, hl, rf_s hk ha hb]
theorem rows_s (hl : x.length = n) (hk : k < n) (ha : a < n) (hb : b < n) : rows (trn x k) ((a + k) % n) ((b + k) % n) = rows x a b := by
  unfold rows
  rw [trn_len, gt_trn_s hl hk ha, gt_trn_s hl hk hb]
theorem any_congr' {α : Type} {f g : α → Bool} {l : List α} (h : ∀ a ∈ l, f a = g a) : l.any f = l.any g := by
  induction l with
  | nil => rfl
  | cons a r ih => rw [List.any_cons, List.any_cons, h a List.mem_cons_self, ih fun b hb => h b (List.mem_cons_of_mem _ hb)]
theorem all_congr' {α : Type} {f g : α → Bool} {l : List α} (h : ∀ a ∈ l, f a = g a) : l.all f = l.all g := by
  induction l with
  | nil => rfl
  | cons a r ih => rw [List.all_cons, List.all_cons, h a List.mem_cons_self, ih fun b hb => h b (List.mem_cons_of_mem _ hb)]
theorem bare_s (hl : x.length = n) (hk : k < n) (ha : a < n) (hb : b < n) : bare (trn x k) ((a + k) % n) ((b + k) % n) = bare x a b := by
  unfold bare
  rw [cols_s hl hk ha hb, rows_s hl hk ha hb, ← List.map_drop, List.any_map]
  congr 1
  refine any_congr' fun c hc => ?_
  have hcn : c < n := (mem_rf (List.mem_of_mem_drop (show c ∈ (rf x.length a b).drop 1 from hc))).elim (fun z => hl ▸ z) (fun z => by omega)
  show ((rows x a b).drop 1).contains (gt (trn x k) ((c + k) % n)) = _
  rw [gt_trn_s hl hk hcn]
theorem clear_s {sq : List Nat × List Nat} (h1 : sq.1.length = n) (h2 : sq.2.length = n) (hl : x.length = n) (hk : k < n) (ha : a < n) (hb : b < n) :
    clear (trn sq.1 k, trn sq.2 k) (trn x k) ((a + k) % n) ((b + k) % n) = clear sq x a b := by
  unfold clear
  rw [cols_s hl hk ha hb, rows_s hl hk ha hb, List.all_map]
  refine all_congr' fun c hc => ?_
  have hcn : c < n := (mem_rf (show c ∈ rf x.length a b from hc)).elim (fun z => hl ▸ z) (fun z => by omega)
  show free (trn sq.1 k, trn sq.2 k) ((c + k) % n) (rows x a b) = free sq c (rows x a b)
  unfold free
  rw [gt_trn_s h1 hk hcn, gt_trn_s h2 hk hcn]
theorem swap_s (hl : x.length = n) (hk : k < n) (ha : a < n) (hb : b < n) : swap (trn x k) ((a + k) % n) ((b + k) % n) = trn (swap x a b) k := by
  have lt : ∀ j, (j + k) % n < n := fun j => Nat.mod_lt _ (by omega)
  refine gt_ext (by rw [swap_len, trn_len, trn_len, swap_len]) fun j hj => ?_
  rw [swap_len, trn_len, hl] at hj
  have e : j = ((j + n - k) % n + k) % n := (su hk hj).symm
  have hu : (j + n - k) % n < n := Nat.mod_lt _ (by omega)
  generalize (j + n - k) % n = u at e hu
  have inj : ∀ c, c < n → (j = (c + k) % n ↔ u = c) := fun c hc => by
    constructor
    · intro q
      rw [← us hk hu, ← e, q, us hk hc]
    · intro q
      rw [e, q]
  rw [gt_swap (by rw [trn_len, hl]; exact lt a) (by rw [trn_len, hl]; exact lt b), gt_trn_s hl hk ha, gt_trn_s hl hk hb]
  have r : gt (trn (swap x a b) k) j = gt (swap x a b) u := by
    rw [e]
    exact gt_trn_s (by rw [swap_len, hl]) hk hu
  have r2 : gt (trn x k) j = gt x u := by
    rw [e]
    exact gt_trn_s hl hk hu
  rw [r, r2, gt_swap (by omega) (by omega)]
  by_cases z1 : u = b
  · rw [if_pos z1, if_pos ((inj b hb).mpr z1)]
  · rw [if_neg z1, if_neg fun q => z1 ((inj b hb).mp q)]
    by_cases z2 : u = a
    · rw [if_pos z2, if_pos ((inj a ha).mpr z2)]
    · rw [if_neg z2, if_neg fun q => z2 ((inj a ha).mp q)]
theorem range_s (hk : k < n) : ((List.range n).map fun c => (c + k) % n).Perm (List.range n) := by
  have nd : ((List.range n).map fun c => (c + k) % n).Nodup := by
    rw [List.nodup_iff_pairwise_ne, List.pairwise_map]
    have q := List.nodup_iff_pairwise_ne.mp (List.nodup_range (n := n))
    refine List.Pairwise.imp_of_mem (fun {c d} hc hd ne e => ?_) q
    rw [List.mem_range] at hc hd
    exact ne (by rw [← us hk hc, e, us hk hd])
  rw [List.perm_ext_iff_of_nodup nd List.nodup_range]
  intro c
  rw [List.mem_map, List.mem_range]
  constructor
  · rintro ⟨d, _, rfl⟩
    exact Nat.mod_lt _ (by omega)
  · intro hc
    exact ⟨(c + n - k) % n, List.mem_range.mpr (Nat.mod_lt _ (by omega)), su hk hc⟩
end
theorem perm_flatMap_left {α β : Type} {f g : α → List β} : ∀ {l : List α}, (∀ a ∈ l, (f a).Perm (g a)) → (l.flatMap f).Perm (l.flatMap g)
  | [], _ => .refl _
  | a :: r, h => by
    rw [List.flatMap_cons, List.flatMap_cons]
    exact (h a List.mem_cons_self).append (perm_flatMap_left fun b hb => h b (List.mem_cons_of_mem _ hb))
theorem flatMap_map' {α β γ : Type} (f : α → β) (g : β → List γ) (l : List α) : (l.map f).flatMap g = l.flatMap fun a => g (f a) := by
  induction l with
  | nil => rfl
  | cons a r ih => rw [List.map_cons, List.flatMap_cons, List.flatMap_cons, ih]
theorem flatMap_assoc' {α β γ : Type} (f : α → List β) (g : β → List γ) (l : List α) : (l.flatMap f).flatMap g = l.flatMap fun a => (f a).flatMap g := by
  induction l with
  | nil => rfl
  | cons a r ih => rw [List.flatMap_cons, List.flatMap_cons, List.flatMap_append, ih]
def tsq (sq : List Nat × List Nat) (k : Nat) : List Nat × List Nat := (trn sq.1 k, trn sq.2 k)
theorem nxt_s {n : Nat} {x : List Nat} {k : Nat} {sq : List Nat × List Nat} (h1 : sq.1.length = n) (h2 : sq.2.length = n) (hl : x.length = n) (hk : k < n) :
    (nxt (tsq sq k) (trn x k)).Perm ((nxt sq x).map fun y => trn y k) := by
  unfold nxt steps
  rw [map_flatMap', map_flatMap', map_flatMap', trn_len, hl]
  refine ((range_s hk).symm.flatMap_right _).trans ?_
  rw [flatMap_map']
  refine perm_flatMap_left fun a ha => ?_
  rw [map_flatMap', map_flatMap', map_flatMap']
  refine ((range_s hk).symm.flatMap_right _).trans ?_
  rw [flatMap_map']
  refine perm_flatMap_left fun b hb => ?_
  rw [List.mem_range] at ha hb
  have hne : ((a + k) % n == (b + k) % n) = (a == b) := by
    rw [Bool.eq_iff_iff, beq_iff_eq, beq_iff_eq]
    constructor
    · intro e
      rw [← us hk ha, e, us hk hb]
    · intro e
      rw [e]
  unfold stepAt okS tsq
  rw [bare_s hl hk ha hb, clear_s h1 h2 hl hk ha hb, swap_s hl hk ha hb, hne]
  split
  · exact .refl _
  · exact .refl _
/-! ### border twice is nothing -/
theorem count_trn {n k : Nat} (hk : k < n) {z : List Nat} (hz : z.length = n) : ∀ {L : List (List Nat)}, (∀ y ∈ L, y.length = n) → (L.map fun y => trn y k).count (trn z k) = L.count z
  | [], _ => rfl
  | y :: L, h => by
    rw [List.map_cons, List.count_cons, List.count_cons, count_trn hk hz fun u hu => h u (List.mem_cons_of_mem _ hu)]
    congr 1
    by_cases e : y = z
    · rw [e, beq_self_eq_true, beq_self_eq_true]
    · have e1 : (y == z) = false := beq_eq_false_iff_ne.mpr e
      have e2 : (trn y k == trn z k) = false := beq_eq_false_iff_ne.mpr fun q => e (trn_inj (h y List.mem_cons_self) hz hk q)
      rw [e1, e2]
theorem two_s {n : Nat} {x : List Nat} {k : Nat} {sq : List Nat × List Nat} (h1 : sq.1.length = n) (h2 : sq.2.length = n) (hx : IsSt n x) (hk : k < n) :
    ((nxt (tsq sq k) (trn x k)).flatMap (nxt (tsq sq k))).Perm (((nxt sq x).flatMap (nxt sq)).map fun y => trn y k) := by
  refine ((nxt_s h1 h2 hx.1 hk).flatMap_right _).trans ?_
  rw [flatMap_map', map_flatMap']
  exact perm_flatMap_left fun y hy => nxt_s h1 h2 (nxt_st hx hy).1 hk
/-- what is checked by running it -/
structure Chk (n : Nat) : Prop where
  msk : MskOk n
  all : allGood n = true
theorem dd_even {n : Nat} (c : Chk n) {sq : List Nat × List Nat} (hq : IsSt n sq.1) (h2 : sq.2.length = n) {x : List Nat} (hx : IsSt n x) (z : List Nat) : ((nxt sq x).flatMap (nxt sq)).count z % 2 = 0 := by
  have hlen : ∀ y ∈ (nxt sq x).flatMap (nxt sq), y.length = n := fun y hy => by
    obtain ⟨u, hu, hy⟩ := List.mem_flatMap.mp hy
    exact (nxt_st (nxt_st hx hu) hy).1
  by_cases hz : z.length = n
  · by_cases h0 : n = 0
    · have e0 : x = [] := List.length_eq_zero_iff.mp (hx.1.trans h0)
      rw [e0]
      rfl
    · obtain ⟨i, hi, e⟩ := st_onto hx (r := 0) (by omega)
      have hk : (n - i) % n < n := Nat.mod_lt _ (by omega)
      have z0 : (i + (n - i) % n) % n = 0 := by
        rw [Nat.add_mod_mod, show i + (n - i) = n by omega, Nat.mod_self]
      have g0 : gt (trn x ((n - i) % n)) 0 = 0 := by
        have q := gt_trn_s hx.1 hk hi
        rw [z0, e] at q
        exact q
      have ev := good_even (sq := tsq sq ((n - i) % n)) c.msk (trn_st hq hk) (trn_st hx hk) (allGood_of c.all (trn_st hx hk) g0) (trn z ((n - i) % n))
      rw [(two_s hq.1 h2 hx hk).count_eq, count_trn hk hz hlen] at ev
      exact ev
  · rw [List.count_eq_zero_of_not_mem fun q => hz (hlen z q)]
/-! ### odd ones -/
/-- R: those that stand in L an odd number of times, each once -/
structure Odd (L R : List (List Nat)) : Prop where
  nd : R.Nodup
  mem : ∀ z, z ∈ R ↔ L.count z % 2 = 1
theorem odd_sum (f : List Nat → Nat) : ∀ {L R : List (List Nat)}, Odd L R → (R.map f).sum % 2 = (L.map f).sum % 2
  | [], R, h => by
    have e : R = [] := List.eq_nil_iff_forall_not_mem.mpr fun z hz => by
      have q := (h.mem z).mp hz
      rw [List.count_nil] at q
      omega
    rw [e]
  | w :: L, R, h => by
    rw [List.map_cons, List.sum_cons]
    by_cases hw : w ∈ R
    · have o : Odd L (R.erase w) := by
        refine ⟨h.nd.erase w, fun z => ?_⟩
        have q := h.mem z
        rw [List.count_cons] at q
        by_cases e : z = w
        · subst e
          rw [beq_self_eq_true, if_pos rfl] at q
          have q1 := q.mp hw
          constructor
          · intro z1
            exact absurd z1 (List.Nodup.not_mem_erase h.nd)
          · intro z1
            omega
        · rw [beq_eq_false_iff_ne.mpr (Ne.symm e), if_neg (by decide), Nat.add_zero] at q
          rw [List.mem_erase_of_ne e]
          exact q
      have ih := odd_sum f o
      have p := ((List.perm_cons_erase hw).map f).sum_nat
      rw [List.map_cons, List.sum_cons] at p
      omega
    · have o : Odd L (w :: R) := by
        refine ⟨List.nodup_cons.mpr ⟨hw, h.nd⟩, fun z => ?_⟩
        have q := h.mem z
        rw [List.count_cons] at q
        by_cases e : z = w
        · subst e
          rw [beq_self_eq_true, if_pos rfl] at q
          constructor
          · intro _
            have q1 : ¬ (L.count z + 1) % 2 = 1 := fun u => hw (q.mpr u)
            omega
          · intro _
            exact List.mem_cons_self
        · rw [beq_eq_false_iff_ne.mpr (Ne.symm e), if_neg (by decide), Nat.add_zero] at q
          rw [List.mem_cons, or_iff_right e]
          exact q
      have ih := odd_sum f o
      rw [List.map_cons, List.sum_cons] at ih
      omega
theorem count_flatMap'' {α : Type} (g : α → List (List Nat)) (l : List α) (z : List Nat) : (l.flatMap g).count z = (l.map fun a => (g a).count z).sum := count_flatMap' _ g l
theorem sum_even {α : Type} {f : α → Nat} : ∀ {l : List α}, (∀ a ∈ l, f a % 2 = 0) → (l.map f).sum % 2 = 0
  | [], _ => rfl
  | a :: r, h => by
    have h1 := h a List.mem_cons_self
    have h2 := sum_even fun b hb => h b (List.mem_cons_of_mem _ hb)
    rw [List.map_cons, List.sum_cons]
    omega
/-- border twice is nothing -/
theorem bb {n : Nat} (c : Chk n) {sq : List Nat × List Nat} (hq : IsSt n sq.1) (h2 : sq.2.length = n) {C R Z : List (List Nat)} (hC : ∀ x ∈ C, IsSt n x) (h : Odd (C.flatMap (nxt sq)) R) (h' : Odd (R.flatMap (nxt sq)) Z) : Z = [] := by
  refine List.eq_nil_iff_forall_not_mem.mpr fun z hz => ?_
  have q := (h'.mem z).mp hz
  rw [count_flatMap'', odd_sum _ h, ← count_flatMap'', flatMap_assoc', count_flatMap'', sum_even fun x hx => dd_even c hq h2 (hC x hx) z] at q
  omega
/-! ### the order -/
def zI (x : List Nat) : List Int := x.map fun (h : Nat) => (h : Int)
theorem zI_inj {x y : List Nat} (h : zI x = zI y) : x = y := by
  refine List.map_inj_right (f := fun h : Nat => (h : Int)) (fun a b e => ?_) |>.mp h
  exact Int.ofNat.inj e
/-- sorted -/
def Up (l : List (List Nat)) : Prop := l.Pairwise fun x y => zI x ≤ zI y
theorem up_eq {l m : List (List Nat)} (hl : Up l) (hm : Up m) (p : l.Perm m) : l = m :=
  List.Perm.eq_of_pairwise (fun _ _ _ _ h1 h2 => zI_inj (List.le_antisymm h1 h2)) hl hm p
/-- the border of the square turned, of the crowd turned, is the border turned -/
theorem bt {n k : Nat} (hk : k < n) {sq : List Nat × List Nat} (h1 : sq.1.length = n) (h2 : sq.2.length = n) {C R M R' D : List (List Nat)} (hC : ∀ x ∈ C, IsSt n x) (h : Odd (C.flatMap (nxt sq)) R)
    (hM : M.Perm (C.map fun x => trn x k)) (h' : Odd (M.flatMap (nxt (tsq sq k))) R') (u' : Up R') (hD : D.Perm (R.map fun x => trn x k)) (uD : Up D) : R' = D := by
  have hlen : ∀ y ∈ C.flatMap (nxt sq), y.length = n := fun y hy => by
    obtain ⟨u, hu, hy⟩ := List.mem_flatMap.mp hy
    exact (nxt_st (hC u hu) hy).1
  have hR : ∀ y ∈ R, y.length = n := fun y hy => hlen y (Classical.byContradiction fun q => by
    have z := (h.mem y).mp hy
    rw [List.count_eq_zero_of_not_mem q] at z
    omega)
  have p : (M.flatMap (nxt (tsq sq k))).Perm ((C.flatMap (nxt sq)).map fun y => trn y k) := by
    refine (hM.flatMap_right _).trans ?_
    rw [flatMap_map', map_flatMap']
    exact perm_flatMap_left fun x hx => nxt_s h1 h2 (hC x hx).1 hk
  refine up_eq u' uD ?_
  have nd : (R.map fun x => trn x k).Nodup := by
    rw [List.nodup_iff_pairwise_ne, List.pairwise_map]
    refine List.Pairwise.imp_of_mem (fun {x y} hx hy ne e => ne (trn_inj (hR x hx) (hR y hy) hk e)) (List.nodup_iff_pairwise_ne.mp h.nd)
  refine (List.Perm.trans ?_ hD.symm)
  rw [List.perm_ext_iff_of_nodup h'.nd nd]
  intro z
  rw [h'.mem, p.count_eq]
  constructor
  · intro q
    have hz : z ∈ (C.flatMap (nxt sq)).map fun y => trn y k := Classical.byContradiction fun z0 => by
      rw [List.count_eq_zero_of_not_mem z0] at q
      omega
    obtain ⟨y, hy, rfl⟩ := List.mem_map.mp hz
    rw [count_trn hk (hlen y hy) hlen] at q
    exact List.mem_map.mpr ⟨y, (h.mem y).mpr q, rfl⟩
  · intro q
    obtain ⟨y, hy, rfl⟩ := List.mem_map.mp q
    rw [count_trn hk (hR y hy) hlen]
    exact (h.mem y).mp hy
end RB

namespace RB
theorem chk2 : Chk 2 := ⟨mskOk_of (by decide +kernel), by decide +kernel⟩
theorem chk3 : Chk 3 := ⟨mskOk_of (by decide +kernel), by decide +kernel⟩
theorem chk4 : Chk 4 := ⟨mskOk_of (by decide +kernel), by decide +kernel⟩
theorem chk5 : Chk 5 := ⟨mskOk_of (by decide +kernel), by decide +kernel⟩
theorem chk {n : Nat} (h2 : 2 ≤ n) (h5 : n ≤ 5) : Chk n := by
  rcases (show n = 2 ∨ n = 3 ∨ n = 4 ∨ n = 5 by omega) with e | e | e | e
  · rw [e]; exact chk2
  · rw [e]; exact chk3
  · rw [e]; exact chk4
  · rw [e]; exact chk5
end RB

namespace RB
open PySem PySem.Spec PyProof.Rows L2
/-! ### the text by places -/
def topS (i : Nat) : Stmt := PySem.Challenge.pw_rookborders_k35_whole_border_twice.main.body.getD i (.Pass ⟨0, 0, 0, 0⟩)
abbrev sRound : Stmt := topS 1
abbrev sCols : Stmt := topS 2
abbrev sRows : Stmt := topS 3
abbrev sBehind : Stmt := topS 4
abbrev sBare : Stmt := topS 5
abbrev sFree : Stmt := topS 6
abbrev sClear : Stmt := topS 7
abbrev sSteps : Stmt := topS 8
abbrev sOdd : Stmt := topS 10
abbrev sAdded : Stmt := topS 11
abbrev sBorder : Stmt := topS 12
abbrev sColsT : Stmt := topS 14
abbrev sStandT : Stmt := topS 16
abbrev sCell : Stmt := topS 18
abbrev sBag : Stmt := topS 19
abbrev sTake : Stmt := topS 20
abbrev sOrder : Stmt := topS 21
abbrev sSquare : Stmt := topS 22
abbrev sCrowd : Stmt := topS 23
abbrev sLaw : Stmt := topS 24
/-! ### numbers as values -/
abbrev vN (k : Nat) : V := .int (k : Int)
def vI (x : List Nat) : List V := x.map vN
theorem vI_len (x : List Nat) : (vI x).length = x.length := by unfold vI; rw [List.length_map]
theorem vI_get {x : List Nat} {i v : Nat} (h : x[i]? = some v) : (vI x)[i]? = some (vN v) := by
  unfold vI
  rw [List.getElem?_map, h]
  rfl
theorem vI_gt {x : List Nat} {i : Nat} (h : i < x.length) : (vI x)[i]? = some (vN (gt x i)) := vI_get (get_gt h)
theorem vI_flat : ∀ x : List Nat, (vI x).all flatV = true
  | [] => rfl
  | _ :: x => by
    show (flatV _ && (vI x).all flatV) = true
    rw [vI_flat x]
    rfl
theorem vI_in (h : Nat) : ∀ x : List Nat, inV (vN h) (vI x) = x.contains h
  | [] => rfl
  | a :: x => by
    have ih := vI_in h x
    unfold inV at ih ⊢
    show (eqV (vN a) (vN h) || (vI x).any fun y => eqV y (vN h)) = _
    rw [ih, List.contains_cons]
    congr 1
    show ((a : Int) == (h : Int)) = (h == a)
    rw [Bool.eq_iff_iff, beq_iff_eq, beq_iff_eq]
    omega
theorem vI_take (x : List Nat) (i : Nat) : (vI x).take i = vI (x.take i) := by unfold vI; rw [List.map_take]
theorem emodc (a n : Nat) : ((a : Int)) % (n : Int) = ((a % n : Nat) : Int) := (Int.natCast_emod a n).symm
/-! ### heaps -/
theorem same_upd {H : Hp} {p : Addr} {o : HO} (h : H p = none) : Same H (upd H p o) := fun b x e => by
  rw [upd_ne (ne_of_none e h)]
  exact e
/-- all but p is as it was, and p is new -/
theorem same_new {H0 H : Hp} {p : Addr} {o : HO} (s : Same H0 H) (h : H0 p = none) : Same H0 (upd H p o) := fun b x e => by
  rw [upd_ne (ne_of_none e h)]
  exact s b x e
section
variable {P : Program} {w : World} {K : PySem.W.Frag} {mg : Str → Option Value} {base : Heap}
/-! ### round_from -/
theorem scRound : FnScope ["first", "last", "n", "found", "at"] ["first", "last", "n"] (defScope sRound) := ⟨rfl, rfl, rfl, by decide +kernel, rfl, by decide +kernel, by decide +kernel⟩
/-- a new list of these numbers -/
def NewL (H : Hp) (Q : VK) (x : List Nat) : Prop := ∀ H' p, Same H H' → H p = none → H' p = some (.lst (vI x)) → Q (.ref p) H'
def spRound : Sp := fun vs H Q _ => ∃ a b n : Nat, vs = [vN a, vN b, vN n] ∧ a < n ∧ b < n ∧ n ≤ 6 ∧ NewL H Q (rf n a b)
theorem at_last {n a b : Nat} (ha : a < n) (hb : b < n) : (a + (b + n - a) % n) % n = b := by
  rw [mod2 (a := b + n - a) (by omega)]
  split
  · rw [mod2 (by omega)]
    split <;> omega
  · rw [mod2 (by omega)]
    split <;> omega
theorem at_early {n a b i : Nat} (ha : a < n) (hb : b < n) (hi : i < (b + n - a) % n) : (a + i) % n ≠ b := by
  rw [mod2 (a := b + n - a) (by omega)] at hi
  split at hi
  · rw [mod2 (by omega)]
    split <;> omega
  · rw [mod2 (by omega)]
    split <;> omega
theorem ok_round {f : Addr} {fd : FuncData} {k : Nat} (F : Fun K "round_from" "round_from" sRound f fd) : FnOk P w K mg base CX0 (k + 1) f fd ["first", "last", "n"] spRound := by
  refine F.ok scRound (fun vs H Q E h => ?_) (fun cdv A outer s H vs Q E hr h => ?_)
  · obtain ⟨a, b, n, rfl, _⟩ := h
    rfl
  · obtain ⟨a, b, n, rfl, ha, hb, hn, q⟩ := h
    refine ⟨_, pss_cons (ps_set (i := 3) scRound.nd rfl (.inl rfl) (pe_lst pa_nil))
      (pss_cons (ps_set (i := 4) scRound.nd rfl (.inl rfl) (pv 0))
      (pss_cons (ps_while PassesOwn.never (pt_cmpR op_ne (pv 4) (pv 1) (nomark _))
        (pss_cons (ps_expr (pe_bm PySem.F.plainAttrs_list PySem.F.slot_list_append PySem.F.type_list_append mt_append (pv 3) (pa_cons (pv 4) pa_nil)))
        (pss_one (ps_set (i := 4) scRound.nd rfl (.inl rfl) (pe_op op_mod (pe_op op_add (pv 4) pe_int) (pv 2))))))
      (pss_one (ps_ret (pv 3))))), ?_⟩
    refine ⟨Nat.zero_le _, fun o no => ?_⟩
    refine ⟨_, rfl, fun m σ H' => ∃ i, σ = [some (vN a), some (vN b), some (vN n), some (.ref o), some (vN ((a + i) % n))] ∧ i + m = (b + n - a) % n ∧ Same H H' ∧ H' o = some (.lst (vI ((rf n a b).take i))),
      ⟨(b + n - a) % n, 0, ?_, by omega, same_upd no, upd_same⟩, ?_⟩
    · rw [Nat.add_zero, Nat.mod_eq_of_lt ha]
      rfl
    · rintro m σ H' ⟨i, rfl, em, sm, eo⟩
      have hL : (b + n - a) % n < n := Nat.mod_lt _ (by omega)
      refine ⟨_, rfl, _, rfl, rfl, _, rfl, ?_⟩
      by_cases hi : i < (b + n - a) % n
      · have hne : (vN ((a + i) % n)) ≠ vN b := fun e => at_early ha hb hi (Int.ofNat.inj (V.int.inj e))
        rw [decide_eq_false hne]
        refine iteT ⟨fun σ' H' => ∃ m', m' < m ∧ ∃ i, σ' = [some (vN a), some (vN b), some (vN n), some (.ref o), some (vN ((a + i) % n))] ∧ i + m' = (b + n - a) % n ∧ Same H H' ∧ H' o = some (.lst (vI ((rf n a b).take i))), fun σ' H' z => z, ?_⟩
        refine ⟨_, rfl, .inl ⟨rfl, _, SqL.of eo⟩, _, rfl, o, _, _, rfl, rfl, eo, ?_, ?_⟩
        · refine small1000 ?_
          rw [vI_len, List.length_take, rf_len]
          omega
        refine ⟨_, rfl, _, _, rfl, rfl, _, rfl, _, _, rfl, rfl, (by show (0 : Int) < (n : Int); omega), m - 1, by omega, i + 1, ?_, by omega, same_new sm no, ?_⟩
        · have e : ((((a + i) % n : Nat) : Int) + 1) % (n : Int) = (((a + (i + 1)) % n : Nat) : Int) := by
            rw [show ((((a + i) % n : Nat) : Int) + 1) = ((((a + i) % n + 1 : Nat)) : Int) from rfl, emodc, Nat.mod_add_mod]
            rfl
          exact congrArg (fun z : Int => [some (vN a), some (vN b), some (vN n), some (V.ref o), some (V.int z)]) e
        · rw [upd_same, List.take_add_one, rf_get hi]
          unfold vI
          rw [List.map_append]
          rfl
      · have e0 : m = 0 := by omega
        have ei : i = (b + n - a) % n := by omega
        have e : (a + i) % n = b := by rw [ei]; exact at_last ha hb
        rw [e, decide_eq_true (rfl : vN b = vN b)]
        refine iteF ⟨_, rfl, ?_⟩
        rw [List.take_of_length_le (by rw [rf_len]; omega)] at eo
        exact q H' o sm no eo
end
end RB

namespace RB
open PySem PySem.Spec PyProof.Rows L2
/-- the built-ins that no name of the module hides -/
structure Txt (mg : Str → Option Value) : Prop where
  len : mg "len" = none
  lst : mg "list" = none
  tup : mg "tuple" = none
  rng : mg "range" = none
  any : mg "any" = none
  all : mg "all" = none
  srt : mg "sorted" = none
  abs : mg "abs" = none
  min : mg "min" = none
/-- a def of the module -/
structure Dm (K : PySem.W.Frag) (mg : Str → Option Value) (x : Str) (st : Stmt) (ps : List Str) (f : Addr) (fd : FuncData) : Prop where
  F : Fun K x x st f fd
  b : Binds K fd ps []
  g : mg x = some (.ref f)
theorem ixN_nat {n k : Nat} (h : k < n) : ixN n (k : Int) = some k := by
  unfold ixN
  rw [if_pos (by omega), if_pos (by omega)]
  rfl
theorem vI_set (x : List Nat) (i v : Nat) : (vI x).set i (vN v) = vI (x.set i v) := by
  unfold vI
  rw [List.map_set]
theorem vI_small {x : List Nat} {n : Nat} (h : x.length ≤ n) (hn : n ≤ 1000) : (vI x).length ≤ sizeLine := by
  rw [vI_len]
  exact Nat.le_of_lt (small1000 (by omega))
section
variable {P : Program} {w : World} {K : PySem.W.Frag} {mg : Str → Option Value} {base : Heap}
/-! ### columns_of -/
theorem scCols : FnScope ["stand", "a", "b"] ["stand", "a", "b"] (defScope sCols) := ⟨rfl, rfl, rfl, by decide +kernel, rfl, by decide +kernel, by decide +kernel⟩
def spCols : Sp := fun vs H Q _ => ∃ (t : Addr) (x : List Nat) (a b : Nat), vs = [.ref t, vN a, vN b] ∧ H t = some (.tup (vI x)) ∧ a < x.length ∧ b < x.length ∧ x.length ≤ 6 ∧ NewL H Q (cols x a b)
theorem ok_cols {f fR : Addr} {fd fdR : FuncData} (d : Dm K mg "columns_of" sCols ["stand", "a", "b"] f fd) (r : Dm K mg "round_from" sRound ["first", "last", "n"] fR fdR) (T : Txt mg) : FnOk P w K mg base CX0 2 f fd ["stand", "a", "b"] spCols := by
  have GR : FnOk P w K mg base CX0 1 fR fdR ["first", "last", "n"] spRound := ok_round r.F
  refine d.F.ok scCols (fun vs H Q E h => ?_) (fun cdv A outer s H vs Q E hr h => ?_)
  · obtain ⟨t, x, a, b, rfl, _⟩ := h
    rfl
  · obtain ⟨t, x, a, b, rfl, ht, ha, hb, hn, q⟩ := h
    refine ⟨_, pss_one (ps_ret (pe_call GR hr (by rfl) r.g r.F.kp r.b .nil pass0 (pa_cons (pv 1) (pa_cons (pv 2) (pa_cons (pe_callB call_len_seq (by rfl) T.len PySem.boot_len (pa_cons (pv 0) pa_nil)) pa_nil))))), ?_⟩
    refine ⟨_, rfl, _, rfl, _, rfl, t, vI x, rfl, .inr (SqT.of ht), a, b, (vI x).length, rfl, by rw [vI_len]; exact ha, by rw [vI_len]; exact hb, by rw [vI_len]; exact hn, ?_⟩
    rw [vI_len]
    exact q
/-! ### rows_of -/
theorem scRows : FnScope ["stand", "a", "b"] ["stand", "a", "b"] (defScope sRows) := ⟨rfl, rfl, rfl, by decide +kernel, rfl, by decide +kernel, by decide +kernel⟩
def spRows : Sp := fun vs H Q _ => ∃ (t : Addr) (x : List Nat) (n a b : Nat), vs = [.ref t, vN a, vN b] ∧ H t = some (.tup (vI x)) ∧ IsSt n x ∧ a < n ∧ b < n ∧ n ≤ 6 ∧ NewL H Q (rows x a b)
theorem ok_rows {f fR : Addr} {fd fdR : FuncData} (d : Dm K mg "rows_of" sRows ["stand", "a", "b"] f fd) (r : Dm K mg "round_from" sRound ["first", "last", "n"] fR fdR) (T : Txt mg) : FnOk P w K mg base CX0 2 f fd ["stand", "a", "b"] spRows := by
  have GR : FnOk P w K mg base CX0 1 fR fdR ["first", "last", "n"] spRound := ok_round r.F
  refine d.F.ok scRows (fun vs H Q E h => ?_) (fun cdv A outer s H vs Q E hr h => ?_)
  · obtain ⟨t, x, n, a, b, rfl, _⟩ := h
    rfl
  · obtain ⟨t, x, n, a, b, rfl, ht, hx, ha, hb, hn, q⟩ := h
    have hl := hx.1
    refine ⟨_, pss_one (ps_ret (pe_call GR hr (by rfl) r.g r.F.kp r.b .nil pass0 (pa_cons (pe_ix ix_tup (pv 0) (pv 1) (fun _ _ => rfl)) (pa_cons (pe_ix ix_tup (pv 0) (pv 2) (fun _ _ => rfl)) (pa_cons (pe_callB call_len_seq (by rfl) T.len PySem.boot_len (pa_cons (pv 0) pa_nil)) pa_nil))))), ?_⟩
    refine ⟨_, rfl, _, rfl, t, _, _, _, rfl, rfl, SqT.of ht, atI_nat (vI_gt (by omega)), _, rfl, _, rfl, t, _, _, _, rfl, rfl, SqT.of ht, atI_nat (vI_gt (by omega)), _, rfl, t, vI x, rfl, .inr (SqT.of ht), gt x a, gt x b, (vI x).length, rfl, ?_, ?_, ?_, ?_⟩
    · rw [vI_len, hl]
      exact hx.2.2 _ (gt_mem (by omega))
    · rw [vI_len, hl]
      exact hx.2.2 _ (gt_mem (by omega))
    · rw [vI_len, hl]
      exact hn
    · rw [vI_len]
      exact q
/-! ### behind -/
theorem scBehind : FnScope ["stand", "a", "b", "heights"] ["stand", "a", "b"] (defScope sBehind) := ⟨rfl, rfl, rfl, by decide +kernel, rfl, by decide +kernel, by decide +kernel⟩
/-- a new tuple of these numbers -/
def NewT (H : Hp) (Q : VK) (x : List Nat) : Prop := ∀ H' p, Same H H' → H p = none → H' p = some (.tup (vI x)) → Q (.ref p) H'
def spBehind : Sp := fun vs H Q _ => ∃ (t : Addr) (x : List Nat) (a b : Nat), vs = [.ref t, vN a, vN b] ∧ H t = some (.tup (vI x)) ∧ a < x.length ∧ b < x.length ∧ x.length ≤ 6 ∧ NewT H Q (swap x a b)
theorem ok_behind {f : Addr} {fd : FuncData} {k : Nat} (d : Dm K mg "behind" sBehind ["stand", "a", "b"] f fd) (T : Txt mg) : FnOk P w K mg base CX0 (k + 1) f fd ["stand", "a", "b"] spBehind := by
  refine d.F.ok scBehind (fun vs H Q E h => ?_) (fun cdv A outer s H vs Q E hr h => ?_)
  · obtain ⟨t, x, a, b, rfl, _⟩ := h
    rfl
  · obtain ⟨t, x, a, b, rfl, ht, ha, hb, hn, q⟩ := h
    refine ⟨_, pss_cons (ps_set (i := 3) scBehind.nd rfl (.inl rfl) (pe_callTy call_list_of (by rfl) T.lst (by decide +kernel) (pa_cons (pv 0) pa_nil)))
      (pss_cons (ps_asg (pe_tup (pa_cons (pe_ix ix_list (pv 3) (pv 2) (fun _ _ => rfl)) (pa_cons (pe_ix ix_list (pv 3) (pv 1) (fun _ _ => rfl)) pa_nil)))
        (pg_tup rfl (pgs_cons (pg_sub (pv 3) (pv 1) set_list) (pgs_cons (pg_sub (pv 3) (pv 2) set_list) pgs_nil))))
      (pss_one (ps_ret (pe_callTy call_tuple_of (by rfl) T.tup (by decide +kernel) (pa_cons (pv 3) pa_nil))))), ?_⟩
    refine ⟨_, rfl, t, vI x, rfl, .inr (SqT.of ht), fun l hl => ?_⟩
    have s1 : Same H (upd H l (.lst (vI x))) := same_upd hl
    refine ⟨_, rfl, _, rfl, l, _, _, _, rfl, rfl, SqL.of upd_same, atI_nat (vI_gt hb), _, rfl, _, rfl, l, _, _, _, rfl, rfl, SqL.of upd_same, atI_nat (vI_gt ha), (by show 2 ≤ sizeLine; decide), fun u hu => ?_⟩
    have s2 := same_new (o := .tup [vN (gt x b), vN (gt x a)]) s1 (s1.free hu)
    have nlu : l ≠ u := ne_of_none upd_same hu
    have e1 : (upd (upd H l (.lst (vI x))) u (.tup [vN (gt x b), vN (gt x a)])) l = some (.lst (vI x)) := (upd_ne nlu).trans upd_same
    refine ⟨u, _, rfl, SqT.of upd_same, rfl, _, _, rfl, _, rfl, _, rfl, l, _, _, a, rfl, rfl, e1, by rw [vI_len]; exact ixN_nat ha, _, _, rfl, _, rfl, _, rfl, l, _, _, b, rfl, rfl, upd_same, by rw [List.length_set, vI_len]; exact ixN_nat hb, rfl, ?_⟩
    rw [vI_set, vI_set]
    refine ⟨_, rfl, l, _, rfl, .inl ⟨SqL.of upd_same, fun z hz => ?_⟩⟩
    refine q _ z ?_ ?_ upd_same
    · exact same_new (same_new (same_new s2 hl) hl) (Same.free (same_new (same_new s2 hl) hl) hz)
    · exact Same.free (same_new (same_new s2 hl) hl) hz
end
end RB

namespace RB
open PySem PySem.Spec PyProof.Rows L2
theorem cut1 (xs : List V) : cutV xs (some 1) none = xs.drop 1 := by
  unfold cutV
  rw [show HT.sIx xs.length 0 (some 1) = min 1 xs.length from HT.sIx_nat xs.length 0 1, HT.sIx_none]
  cases xs with
  | nil => rfl
  | cons x r =>
    rw [show min 1 (x :: r).length = 1 by
      rw [List.length_cons]
      omega]
    show (List.take ((x :: r).length - 1) r) = r
    rw [List.length_cons, Nat.add_sub_cancel]
    exact List.take_length
/-- a comprehension without an if -/
theorem yes {σ : L2.St} {H : Hp} {A B : Hp → Prop} (h : A H) : tYes σ H fun b H3 => if b = true then A H3 else B H3 := by
  show if true = true then A H else B H
  exact iteT h
theorem ixT {X : Cx} {K : PySem.W.Frag} (h : X.K = K) : IxR X (rIxT K) := h ▸ ix_tup
theorem ixL {X : Cx} {K : PySem.W.Frag} (h : X.K = K) : IxR X (rIxL K) := h ▸ ix_list
theorem opIn {X : Cx} {K : PySem.W.Frag} (h : X.K = K) : OpR X (compareOp .In) (rIn K false) := h ▸ op_in_seq
theorem vI_drop (x : List Nat) (i : Nat) : (vI x).drop i = vI (x.drop i) := by unfold vI; rw [List.map_drop]
theorem map_take_succ {α β : Type} (f : α → β) {l : List α} {i : Nat} {a : α} (h : l[i]? = some a) : (l.take (i + 1)).map f = (l.take i).map f ++ [f a] := by
  rw [List.take_add_one, h, List.map_append]
  rfl
theorem getE_of_map {α β : Type} {f : α → β} {l : List α} {i : Nat} {y : β} (h : (l.map f)[i]? = some y) : ∃ a, l[i]? = some a ∧ y = f a := by
  rw [List.getElem?_map] at h
  cases e : l[i]? with
  | none => rw [e] at h; cases h
  | some a =>
    rw [e] at h
    exact ⟨a, rfl, (Option.some.inj h).symm⟩
theorem any_id {α : Type} (f : α → Bool) (l : List α) : (l.map f).any id = l.any f := by
  rw [List.any_map]
  rfl
theorem all_id {α : Type} (f : α → Bool) (l : List α) : (l.map f).all id = l.all f := by
  rw [List.all_map]
  rfl
section
variable {P : Program} {w : World} {K : PySem.W.Frag} {mg : Str → Option Value} {base : Heap}
/-! ### is_bare -/
theorem scBare : FnScope ["stand", "a", "b", "heights", "bar"] ["stand", "a", "b"] (defScope sBare) := ⟨rfl, rfl, rfl, by decide +kernel, rfl, by decide +kernel, by decide +kernel⟩
/-- a truth; all that was tracked stands -/
def NewB (H : Hp) (Q : VK) (b : Bool) : Prop := ∀ H', Same H H' → Q (.bl b) H'
def spBare : Sp := fun vs H Q _ => ∃ (t : Addr) (x : List Nat) (n a b : Nat), vs = [.ref t, vN a, vN b] ∧ H t = some (.tup (vI x)) ∧ IsSt n x ∧ a < n ∧ b < n ∧ n ≤ 6 ∧ NewB H Q (bare x a b)
theorem ok_bare {f fR fC fW : Addr} {fd fdR fdC fdW : FuncData} (d : Dm K mg "is_bare" sBare ["stand", "a", "b"] f fd) (r : Dm K mg "round_from" sRound ["first", "last", "n"] fR fdR)
    (c : Dm K mg "columns_of" sCols ["stand", "a", "b"] fC fdC) (ro : Dm K mg "rows_of" sRows ["stand", "a", "b"] fW fdW) (T : Txt mg) : FnOk P w K mg base CX0 3 f fd ["stand", "a", "b"] spBare := by
  have GC : FnOk P w K mg base CX0 2 fC fdC ["stand", "a", "b"] spCols := ok_cols c r T
  have GW : FnOk P w K mg base CX0 2 fW fdW ["stand", "a", "b"] spRows := ok_rows ro r T
  refine d.F.ok scBare (fun vs H Q E h => ?_) (fun cdv A outer s H vs Q E hr h => ?_)
  · obtain ⟨t, x, n, a, b, rfl, _⟩ := h
    rfl
  · obtain ⟨t, x, n, a, b, rfl, ht, hx, ha, hb, hn, q⟩ := h
    have hl := hx.1
    refine ⟨_, pss_cons (ps_set (i := 3) scBare.nd rfl (.inr rfl) (pe_slice sl_list (pe_call GW hr (by rfl) ro.g ro.F.kp ro.b .nil pass0 (pa_cons (pv 0) (pa_cons (pv 1) (pa_cons (pv 2) pa_nil)))) (po_some pe_int) po_none))
      (pss_one (ps_ret (pe_not (pe_callB (cr_any rfl) (by rfl) T.any (by decide +kernel) (pa_cons
        (pe_lc (own := [("bar", 4)]) (g := gName 4) (tt := tYes) rfl scBare.nd
          (pi_list (pe_slice sl_list (pe_call GC hr (by rfl) c.g c.F.kp c.b .nil pass0 (pa_cons (pv 0) (pa_cons (pv 1) (pa_cons (pv 2) pa_nil)))) (po_some pe_int) po_none))
          (blkOk_by (N := ["stand", "a", "b", "heights", "bar"]) (sc := defScope sBare) (by decide +kernel)) (fun _ _ _ _ _ => pg_name (i := 4) scBare.nd rfl (Or.inl rfl)) (fun _ _ _ _ _ => pts_nil)
          (fun _ _ _ _ _ => pe_cmpR (opIn (K := K) rfl) (pe_ix (ixT (K := K) rfl) (pv 0) (pv 4) (fun _ _ => rfl)) (pv 3) rfl)) pa_nil))))), ?_⟩
    refine ⟨_, rfl, _, rfl, _, rfl, t, x, n, a, b, rfl, ht, hx, ha, hb, hn, fun H1 o s1 no eo => ?_⟩
    refine ⟨1, rfl, o, _, rfl, SqL.of eo, fun r hr => ?_⟩
    rw [cut1, vI_drop]
    have s2 := same_new (o := .lst (vI ((rows x a b).drop 1))) s1 (s1.free hr)
    refine ⟨_, rfl, _, rfl, _, rfl, t, x, a, b, rfl, s2 _ _ ht, by omega, by omega, by omega, fun H3 u s3 nu eu => ?_⟩
    refine ⟨1, rfl, u, _, rfl, SqL.of eu, fun v hv => ?_⟩
    rw [cut1, vI_drop]
    have s4 := same_new (o := .lst (vI ((cols x a b).drop 1))) s3 (s3.free hv)
    refine ⟨_, rfl, ⟨_, SqL.of upd_same⟩, fun D hD => lc_list (K := K) (a := v) (xs := vI ((cols x a b).drop 1))
      (fun i H' => Same (upd H3 v (.lst (vI ((cols x a b).drop 1)))) H' ∧ H' D = some (.lst ((((cols x a b).drop 1).take i).map fun c => V.bl (((rows x a b).drop 1).contains (gt x c)))))
      ⟨same_upd hD, upd_same⟩ (fun i H' _ z => z.1.seq (SqL.of upd_same)) ?_ ?_⟩
    · rintro i y H' hi ⟨sm, eD⟩
      obtain ⟨z, hz, rfl⟩ := getE_of_map hi
      have hzn : z < n := (mem_rf (List.mem_of_mem_drop (List.mem_of_getElem? hz))).elim (fun z => hl ▸ z) (fun z => by omega)
      refine ⟨rfl, yes ?_⟩
      have et : H' t = some (.tup (vI x)) := sm _ _ (s4 _ _ (s2 _ _ ht))
      have er : H' r = some (.lst (vI ((rows x a b).drop 1))) := sm _ _ (s4 _ _ upd_same)
      refine ⟨_, rfl, _, rfl, t, _, _, _, rfl, rfl, SqT.of et, atI_nat (vI_gt (by omega)), _, rfl, r, _, rfl, .inl (SqL.of er), rfl, vI_flat _, _, eD, ?_, ?_, ?_⟩
      · rw [List.length_map, List.length_take]
        have h1 := List.length_drop (i := 1) (l := cols x a b)
        have h2 := rf_len x.length a b
        have h3 := Nat.mod_lt (b + x.length - a) (show 0 < x.length by omega)
        have h4 : (cols x a b).length = (rf x.length a b).length := rfl
        exact small1000 (by omega)
      · exact fun p o e => by
          rw [upd_ne (ne_of_none e hD)]
          exact sm _ _ e
      · rw [upd_same, map_take_succ _ hz]
        show some (HO.lst (_ ++ [V.bl (inV (vN (gt x z)) (vI ((rows x a b).drop 1)))])) = _
        rw [vI_in]
    · rintro H' ⟨sm, eD⟩
      rw [vI_len, List.take_length] at eD
      have e2 : ((cols x a b).drop 1).map (fun c => V.bl (((rows x a b).drop 1).contains (gt x c))) = (((cols x a b).drop 1).map fun c => ((rows x a b).drop 1).contains (gt x c)).map V.bl := by
        rw [List.map_map]
        rfl
      rw [e2] at eD
      refine ⟨D, _, rfl, SqL.of eD, _, rfl, ?_⟩
      rw [any_id]
      exact q H' ((s2.trans s4).trans sm)
/-! ### is_free -/
/-- a square -/
structure Sq (H : Hp) (s : Addr) (sq : List Nat × List Nat) : Prop where
  ex : ∃ p q, H s = some (.tup [.ref p, .ref q]) ∧ H p = some (.tup (vI sq.1)) ∧ H q = some (.tup (vI sq.2))
theorem Sq.same {H H' : Hp} {s : Addr} {sq : List Nat × List Nat} (h : Sq H s sq) (sm : Same H H') : Sq H' s sq := by
  obtain ⟨p, q, h1, h2, h3⟩ := h.ex
  exact ⟨p, q, sm _ _ h1, sm _ _ h2, sm _ _ h3⟩
theorem scFree : FnScope ["square", "column", "rows"] ["square", "column", "rows"] (defScope sFree) := ⟨rfl, rfl, rfl, by decide +kernel, rfl, by decide +kernel, by decide +kernel⟩
def spFree : Sp := fun vs H Q _ => ∃ (s r : Addr) (sq : List Nat × List Nat) (c : Nat) (rs : List Nat), vs = [.ref s, vN c, .ref r] ∧ Sq H s sq ∧ H r = some (.lst (vI rs)) ∧ c < sq.1.length ∧ c < sq.2.length ∧ NewB H Q (free sq c rs)
theorem ok_free {f : Addr} {fd : FuncData} {k : Nat} (d : Dm K mg "is_free" sFree ["square", "column", "rows"] f fd) : FnOk P w K mg base CX0 (k + 1) f fd ["square", "column", "rows"] spFree := by
  refine d.F.ok scFree (fun vs H Q E h => ?_) (fun cdv A outer s H vs Q E hr h => ?_)
  · obtain ⟨s, r, sq, c, rs, rfl, _⟩ := h
    rfl
  · obtain ⟨s, r, sq, c, rs, rfl, hs, hrs, h1, h2, q⟩ := h
    obtain ⟨u, v, es, eu, ev⟩ := hs.ex
    refine ⟨_, pss_one (ps_ret (pe_and (pe_cmpR op_notIn_seq (pe_ix ix_tup (pe_ix ix_tup (pv 0) pe_int (fun _ _ => rfl)) (pv 1) (fun _ _ => rfl)) (pv 2) rfl)
      (pe_one (pe_cmpR op_notIn_seq (pe_ix ix_tup (pe_ix ix_tup (pv 0) pe_int (fun _ _ => rfl)) (pv 1) (fun _ _ => rfl)) (pv 2) rfl)))), ?_⟩
    refine ⟨_, rfl, s, _, _, _, rfl, rfl, SqT.of es, atI_nat (j := 0) rfl, _, rfl, u, _, _, _, rfl, rfl, SqT.of eu, atI_nat (vI_gt h1), _, rfl, r, _, rfl, .inl (SqL.of hrs), rfl, vI_flat _, _, rfl, ?_⟩
    show if (!inV (vN (gt sq.1 c)) (vI rs)) = true then _ else _
    rw [vI_in]
    have e : free sq c rs = (!rs.contains (gt sq.1 c) && !rs.contains (gt sq.2 c)) := rfl
    rw [e] at q
    by_cases z : (!rs.contains (gt sq.1 c)) = true
    · rw [if_pos z]
      rw [z, Bool.true_and] at q
      refine ⟨_, rfl, s, _, _, _, rfl, rfl, SqT.of es, atI_nat (j := 1) rfl, _, rfl, v, _, _, _, rfl, rfl, SqT.of ev, atI_nat (vI_gt h2), _, rfl, r, _, rfl, .inl (SqL.of hrs), rfl, vI_flat _, ?_⟩
      show Q (.bl (!inV (vN (gt sq.2 c)) (vI rs))) H
      rw [vI_in]
      exact q H (Same.refl H)
    · rw [if_neg z]
      have z' : (!rs.contains (gt sq.1 c)) = false := by simpa using z
      rw [z', Bool.false_and] at q
      exact q H (Same.refl H)
/-! ### is_clear -/
theorem scClear : FnScope ["square", "stand", "a", "b", "rows", "column"] ["square", "stand", "a", "b"] (defScope sClear) := ⟨rfl, rfl, rfl, by decide +kernel, rfl, by decide +kernel, by decide +kernel⟩
def spClear : Sp := fun vs H Q _ => ∃ (s t : Addr) (sq : List Nat × List Nat) (x : List Nat) (n a b : Nat), vs = [.ref s, .ref t, vN a, vN b] ∧ Sq H s sq ∧ H t = some (.tup (vI x)) ∧ sq.1.length = n ∧ sq.2.length = n ∧ IsSt n x ∧ a < n ∧ b < n ∧ n ≤ 6 ∧ NewB H Q (clear sq x a b)
theorem ok_clear {f fR fC fW fF : Addr} {fd fdR fdC fdW fdF : FuncData} (d : Dm K mg "is_clear" sClear ["square", "stand", "a", "b"] f fd) (r : Dm K mg "round_from" sRound ["first", "last", "n"] fR fdR)
    (c : Dm K mg "columns_of" sCols ["stand", "a", "b"] fC fdC) (ro : Dm K mg "rows_of" sRows ["stand", "a", "b"] fW fdW) (fr : Dm K mg "is_free" sFree ["square", "column", "rows"] fF fdF) (T : Txt mg) : FnOk P w K mg base CX0 3 f fd ["square", "stand", "a", "b"] spClear := by
  have GC : FnOk P w K mg base CX0 2 fC fdC ["stand", "a", "b"] spCols := ok_cols c r T
  have GW : FnOk P w K mg base CX0 2 fW fdW ["stand", "a", "b"] spRows := ok_rows ro r T
  have GF : FnOk P w K mg base CX0 1 fF fdF ["square", "column", "rows"] spFree := ok_free fr
  refine d.F.ok scClear (fun vs H Q E h => ?_) (fun cdv A outer s H vs Q E hr h => ?_)
  · obtain ⟨s, t, sq, x, n, a, b, rfl, _⟩ := h
    rfl
  · obtain ⟨s, t, sq, x, n, a, b, rfl, hs, ht, h1, h2, hx, ha, hb, hn, q⟩ := h
    have hl := hx.1
    have hr1 : Room 1 _ := hr.mono (by decide)
    refine ⟨_, pss_cons (ps_set (i := 4) scClear.nd rfl (.inr rfl) (pe_call GW hr (by rfl) ro.g ro.F.kp ro.b .nil pass0 (pa_cons (pv 1) (pa_cons (pv 2) (pa_cons (pv 3) pa_nil)))))
      (pss_one (ps_ret (pe_callB (cr_all rfl) (by rfl) T.all (by decide +kernel) (pa_cons
        (pe_lc (own := [("column", 5)]) (g := gName 5) (tt := tYes) rfl scClear.nd
          (pi_list (pe_call GC hr (by rfl) c.g c.F.kp c.b .nil pass0 (pa_cons (pv 1) (pa_cons (pv 2) (pa_cons (pv 3) pa_nil)))))
          (blkOk_by (N := ["square", "stand", "a", "b", "rows", "column"]) (sc := defScope sClear) (by decide +kernel)) (fun _ _ _ _ _ => pg_name (i := 5) scClear.nd rfl (Or.inl rfl)) (fun _ _ _ _ _ => pts_nil)
          (fun _ _ _ _ _ => pe_call GF hr1 (by rfl) fr.g fr.F.kp fr.b .nil pass0 (pa_cons (pv 0) (pa_cons (pv 5) (pa_cons (pv 4) pa_nil))))) pa_nil)))), ?_⟩
    refine ⟨_, rfl, _, rfl, _, rfl, t, x, n, a, b, rfl, ht, hx, ha, hb, hn, fun H1 o s1 no eo => ?_⟩
    refine ⟨_, rfl, _, rfl, _, rfl, t, x, a, b, rfl, s1 _ _ ht, by omega, by omega, by omega, fun H3 v s3 nv ev => ?_⟩
    refine ⟨_, rfl, ⟨_, SqL.of ev⟩, fun D hD => lc_list (K := K) (a := v) (xs := vI (cols x a b))
      (fun i H' => Same H3 H' ∧ H' D = some (.lst (((cols x a b).take i).map fun c => V.bl (free sq c (rows x a b)))))
      ⟨same_upd hD, upd_same⟩ (fun i H' _ z => z.1.seq (SqL.of ev)) ?_ ?_⟩
    · rintro i y H' hi ⟨sm, eD⟩
      obtain ⟨z, hz, rfl⟩ := getE_of_map hi
      have hzn : z < n := (mem_rf (List.mem_of_getElem? hz)).elim (fun z => hl ▸ z) (fun z => by omega)
      refine ⟨rfl, yes ?_⟩
      have sH := (s1.trans s3).trans sm
      refine ⟨_, rfl, _, rfl, _, rfl, s, o, sq, z, rows x a b, rfl, hs.same sH, sm _ _ (s3 _ _ eo), by omega, by omega, fun H4 s4 => ?_⟩
      refine ⟨_, s4 _ _ eD, ?_, ?_, ?_⟩
      · rw [List.length_map, List.length_take]
        have h2 := rf_len x.length a b
        have h3 := Nat.mod_lt (b + x.length - a) (show 0 < x.length by omega)
        have h4 : (cols x a b).length = (rf x.length a b).length := rfl
        exact small1000 (by omega)
      · exact fun p o e => by
          rw [upd_ne (ne_of_none e hD)]
          exact s4 _ _ (sm _ _ e)
      · rw [upd_same, map_take_succ _ hz]
    · rintro H' ⟨sm, eD⟩
      rw [vI_len, List.take_length] at eD
      have e2 : (cols x a b).map (fun c => V.bl (free sq c (rows x a b))) = ((cols x a b).map fun c => free sq c (rows x a b)).map V.bl := by
        rw [List.map_map]
        rfl
      rw [e2] at eD
      refine ⟨D, _, rfl, SqL.of eD, ?_⟩
      rw [all_id]
      exact q H' ((s1.trans s3).trans sm)
end
end RB

namespace RB
open PySem PySem.Spec PyProof.Rows L2
/-! ### lists that go together -/
section
variable {α β : Type} {F G : α → β → Prop}
theorem pr_app : ∀ {l l' : List α} {m m' : List β}, Paired F l m → Paired F l' m' → Paired F (l ++ l') (m ++ m')
  | _, _, _, _, .nil, h => h
  | _, _, _, _, .cons a t, h => .cons a (pr_app t h)
theorem pr_getL : ∀ {l : List α} {m : List β}, Paired F l m → ∀ {i : Nat} {a : α}, l[i]? = some a → ∃ b, m[i]? = some b ∧ F a b
  | _, _, .nil, i, a, h => by simp at h
  | _, _, .cons f t, 0, a, h => ⟨_, rfl, by
    have e := Option.some.inj h
    rw [← e]
    exact f⟩
  | _, _, .cons f t, i + 1, a, h => pr_getL t (i := i) h
theorem pr_mono : ∀ {l : List α} {m : List β}, Paired F l m → (∀ a b, F a b → G a b) → Paired G l m
  | _, _, .nil, _ => .nil
  | _, _, .cons f t, h => .cons (h _ _ f) (pr_mono t h)
theorem pr_len : ∀ {l : List α} {m : List β}, Paired F l m → l.length = m.length
  | _, _, .nil => rfl
  | _, _, .cons _ t => by rw [List.length_cons, List.length_cons, pr_len t]
end
/-- a step as a tuple -/
def Trip (H : Hp) (v : V) (z : Nat × Nat × List Nat) : Prop := ∃ e t, v = .ref e ∧ H e = some (.tup [vN z.1, vN z.2.1, .ref t]) ∧ H t = some (.tup (vI z.2.2))
/-- a stand as a tuple -/
def Stv (H : Hp) (v : V) (x : List Nat) : Prop := ∃ t, v = .ref t ∧ H t = some (.tup (vI x))
/-- tuples stand -/
def Tups (H H' : Hp) : Prop := ∀ b xs, H b = some (.tup xs) → H' b = some (.tup xs)
theorem sameTups {H H' : Hp} (s : Same H H') : Tups H H' := fun b xs e => s b _ e
theorem Tups.trans {H H1 H2 : Hp} (a : Tups H H1) (b : Tups H1 H2) : Tups H H2 := fun c xs h => b c xs (a c xs h)
theorem Tups.list {H : Hp} {o : Addr} {xs : List V} {u : HO} (h : H o = some (.lst xs)) : Tups H (upd H o u) := fun b ys e => by
  rw [upd_ne (ne_of e h (by intro z; cases z))]
  exact e
theorem Trip.tups {H H' : Hp} {v : V} {z : Nat × Nat × List Nat} (h : Trip H v z) (s : Tups H H') : Trip H' v z := by
  obtain ⟨e, t, h1, h2, h3⟩ := h
  exact ⟨e, t, h1, s _ _ h2, s _ _ h3⟩
theorem Stv.tups {H H' : Hp} {v : V} {x : List Nat} (h : Stv H v x) (s : Tups H H') : Stv H' v x := by
  obtain ⟨t, h1, h2⟩ := h
  exact ⟨t, h1, s _ _ h2⟩
theorem Sq.tups {H H' : Hp} {s : Addr} {sq : List Nat × List Nat} (h : Sq H s sq) (sm : Tups H H') : Sq H' s sq := by
  obtain ⟨p, q, h1, h2, h3⟩ := h.ex
  exact ⟨p, q, sm _ _ h1, sm _ _ h2, sm _ _ h3⟩
theorem iteP {c A B : Prop} [Decidable c] (h : c) (a : A) : if c then A else B := by
  rw [if_pos h]
  exact a
theorem iteN {c A B : Prop} [Decidable c] (h : ¬ c) (b : B) : if c then A else B := by
  rw [if_neg h]
  exact b
theorem vN_ne {i j : Nat} (h : i ≠ j) : vN i ≠ vN j := fun e => h (Int.ofNat.inj (V.int.inj e))
section
variable {P : Program} {w : World} {K : PySem.W.Frag} {mg : Str → Option Value} {base : Heap}
theorem scSteps : FnScope ["square", "stand", "found", "n", "a", "b"] ["square", "stand"] (defScope sSteps) := ⟨rfl, rfl, rfl, by decide +kernel, rfl, by decide +kernel, by decide +kernel⟩
def spSteps : Sp := fun vs H Q _ => ∃ (s t : Addr) (sq : List Nat × List Nat) (x : List Nat) (n : Nat), vs = [.ref s, .ref t] ∧ Sq H s sq ∧ H t = some (.tup (vI x)) ∧ sq.1.length = n ∧ sq.2.length = n ∧ IsSt n x ∧ n ≤ 6 ∧
  ∀ H' p vs, Same H H' → H p = none → H' p = some (.lst vs) → Paired (Trip H') vs (steps sq x) → vs.length ≤ 36 → Q (.ref p) H'
/-- what steps_from rests on -/
structure Low (K : PySem.W.Frag) (mg : Str → Option Value) (fR fC fW fH fB fF fL : Addr) (dR dC dW dH dB dF dL : FuncData) : Prop where
  rd : Dm K mg "round_from" sRound ["first", "last", "n"] fR dR
  co : Dm K mg "columns_of" sCols ["stand", "a", "b"] fC dC
  ro : Dm K mg "rows_of" sRows ["stand", "a", "b"] fW dW
  be : Dm K mg "behind" sBehind ["stand", "a", "b"] fH dH
  ba : Dm K mg "is_bare" sBare ["stand", "a", "b"] fB dB
  fr : Dm K mg "is_free" sFree ["square", "column", "rows"] fF dF
  cl : Dm K mg "is_clear" sClear ["square", "stand", "a", "b"] fL dL
theorem ok_steps {f fR fC fW fH fB fF fL : Addr} {fd dR dC dW dH dB dF dL : FuncData} (d : Dm K mg "steps_from" sSteps ["square", "stand"] f fd) (L : Low K mg fR fC fW fH fB fF fL dR dC dW dH dB dF dL) (T : Txt mg) : FnOk P w K mg base CX0 4 f fd ["square", "stand"] spSteps := by
  have GB : FnOk P w K mg base CX0 3 fB dB ["stand", "a", "b"] spBare := ok_bare L.ba L.rd L.co L.ro T
  have GL : FnOk P w K mg base CX0 3 fL dL ["square", "stand", "a", "b"] spClear := ok_clear L.cl L.rd L.co L.ro L.fr T
  have GH : FnOk P w K mg base CX0 1 fH dH ["stand", "a", "b"] spBehind := ok_behind L.be T
  refine d.F.ok scSteps (fun vs H Q E h => ?_) (fun cdv A outer s H vs Q E hr h => ?_)
  · obtain ⟨s, t, sq, x, n, rfl, _⟩ := h
    rfl
  · obtain ⟨s, t, sq, x, n, rfl, hs, ht, h1, h2, hx, hn, q⟩ := h
    have hl := hx.1
    have hr1 : Room 1 _ := hr.mono (by decide)
    refine ⟨_, pss_cons (ps_set (i := 2) scSteps.nd rfl (.inl rfl) (pe_lst pa_nil))
      (pss_cons (ps_set (i := 3) scSteps.nd rfl (.inl rfl) (pe_callB call_len_seq (by rfl) T.len PySem.boot_len (pa_cons (pv 1) pa_nil)))
      (pss_cons (ps_for PassesOwn.never rfl (pi_range1 rfl T.rng (pa_cons (pv 3) pa_nil)) (pg_name (i := 4) scSteps.nd rfl (Or.inl rfl))
        (pss_one (ps_for PassesOwn.never rfl (pi_range1 rfl T.rng (pa_cons (pv 3) pa_nil)) (pg_name (i := 5) scSteps.nd rfl (Or.inl rfl))
          (pss_one (ps_if (PW.pt (pw_and (pt_cmpR op_ne (pv 4) (pv 5) (nomark _)) (pw_and (pt_val (pe_call GB hr (by rfl) L.ba.g L.ba.F.kp L.ba.b .nil pass0 (pa_cons (pv 1) (pa_cons (pv 4) (pa_cons (pv 5) pa_nil)))))
              (pw_and1 (pt_val (pe_call GL hr (by rfl) L.cl.g L.cl.F.kp L.cl.b .nil pass0 (pa_cons (pv 0) (pa_cons (pv 1) (pa_cons (pv 4) (pa_cons (pv 5) pa_nil))))))))))
            (pss_one (ps_expr (pe_bm PySem.F.plainAttrs_list PySem.F.slot_list_append PySem.F.type_list_append mt_append (pv 2)
              (pa_cons (pe_tup (pa_cons (pv 4) (pa_cons (pv 5) (pa_cons (pe_call GH hr1 (by rfl) L.be.g L.be.F.kp L.be.b .nil pass0 (pa_cons (pv 1) (pa_cons (pv 4) (pa_cons (pv 5) pa_nil)))) pa_nil)))) pa_nil))))
            pss_nil)))))
      (pss_one (ps_ret (pv 2))))), ?_⟩
    refine ⟨Nat.zero_le _, fun o no => ?_⟩
    refine ⟨_, rfl, t, vI x, rfl, .inr (SqT.of (same_upd no _ _ ht)), ?_⟩
    rw [vI_len, hl]
    refine ⟨_, rfl, (n : Int), rfl, by omega, by omega, for_range (lo := 0) (n := n)
      (fun i σ H' => ∃ y4 y5, σ = [some (.ref s), some (.ref t), some (.ref o), some (vN n), y4, y5] ∧ Same H H' ∧ ∃ vs, H' o = some (.lst vs) ∧ Paired (Trip H') vs ((List.range i).flatMap fun a => (List.range x.length).flatMap fun b => stepAt sq x a b) ∧ vs.length ≤ n * i)
      ⟨none, none, rfl, same_upd no, [], upd_same, .nil, Nat.zero_le _⟩ ?_ ?_⟩
    · rintro i σ H1 hi ⟨y4, y5, rfl, s1, vs, eo, pr, hv⟩
      rw [Int.zero_add]
      refine ⟨_, rfl, (n : Int), rfl, by omega, by omega, for_range (lo := 0) (n := n)
        (fun j σ H' => ∃ y5, σ = [some (.ref s), some (.ref t), some (.ref o), some (vN n), some (vN i), y5] ∧ Same H H' ∧ ∃ vs, H' o = some (.lst vs) ∧ Paired (Trip H') vs (((List.range i).flatMap fun a => (List.range x.length).flatMap fun b => stepAt sq x a b) ++ (List.range j).flatMap fun b => stepAt sq x i b) ∧ vs.length ≤ n * i + j)
        ⟨y5, rfl, s1, vs, eo, ?_, hv⟩ ?_ ?_⟩
      · rw [List.range_zero, List.flatMap_nil, List.append_nil]
        exact pr
      · rintro j σ H2 hj ⟨y5, rfl, s2, vs, eo, pr, hv⟩
        rw [Int.zero_add]
        have hni : n * i ≤ 6 * 6 := Nat.mul_le_mul hn (by omega)
        -- nothing new
        have no_new : ∀ {H3 : Hp}, Same H2 H3 → okS sq x i j = false → ∃ y5, ([some (.ref s), some (.ref t), some (.ref o), some (vN n), some (vN i), some (vN j)] : L2.St) = [some (.ref s), some (.ref t), some (.ref o), some (vN n), some (vN i), y5] ∧ Same H H3 ∧ ∃ vs, H3 o = some (.lst vs) ∧
            Paired (Trip H3) vs (((List.range i).flatMap fun a => (List.range x.length).flatMap fun b => stepAt sq x a b) ++ (List.range (j + 1)).flatMap fun b => stepAt sq x i b) ∧ vs.length ≤ n * i + (j + 1) := fun {H3} s3 e => by
          refine ⟨_, rfl, s2.trans s3, vs, s3 _ _ eo, ?_, by omega⟩
          rw [List.range_succ, List.flatMap_append]
          have e0 : stepAt sq x i j = [] := by
            unfold stepAt
            rw [e]
            rfl
          rw [show ([j] : List Nat).flatMap (fun b => stepAt sq x i b) = stepAt sq x i j ++ [] from rfl, e0, List.append_nil, List.append_nil]
          exact pr_mono pr fun _ _ z => z.tups (sameTups s3)
        refine ⟨_, rfl, _, rfl, rfl, _, rfl, ?_⟩
        by_cases hij : i = j
        · have e : okS sq x i j = false := by
            unfold okS
            rw [hij, beq_self_eq_true]
            rfl
          rw [hij, decide_eq_true (rfl : vN j = vN j)]
          refine iteF (iteF ?_)
          rw [hij] at no_new e
          exact no_new (Same.refl H2) e
        rw [decide_eq_false (vN_ne hij)]
        refine iteT ?_
        refine ⟨_, rfl, _, rfl, _, rfl, t, x, n, i, j, rfl, s2 _ _ ht, hx, hi, hj, hn, fun H3 s3 => ⟨_, rfl, ?_⟩⟩
        by_cases hb : bare x i j = true
        · refine iteP hb ?_
          refine ⟨_, rfl, _, rfl, _, rfl, _, rfl, s, t, sq, x, n, i, j, rfl, hs.same (s2.trans s3), s3 _ _ (s2 _ _ ht), h1, h2, hx, hi, hj, hn, fun H4 s4 => ⟨_, rfl, ?_⟩⟩
          by_cases hc : clear sq x i j = true
          · refine iteP hc ?_
            have s5 := s2.trans (s3.trans s4)
            have eo4 := s4 _ _ (s3 _ _ eo)
            refine ⟨_, rfl, .inl ⟨rfl, _, SqL.of eo4⟩, _, rfl, _, rfl, _, rfl, _, rfl, _, rfl, t, x, i, j, rfl, s5 _ _ ht, by omega, by omega, by omega, fun H6 p s6 np ep => ?_⟩
            refine ⟨(by show 3 ≤ sizeLine; decide), fun e ne => ?_⟩
            have eo6 := s6 _ _ eo4
            have eo7 : (upd H6 e (.tup [vN i, vN j, .ref p])) o = some (.lst vs) := same_upd ne _ _ eo6
            refine ⟨o, vs, _, rfl, rfl, eo7, small1000 (by omega), ?_⟩
            have s7 : Same H2 (upd H6 e (.tup [vN i, vN j, .ref p])) := (s3.trans s4).trans (same_new s6 (s6.free ne))
            refine ⟨_, rfl, same_new (s2.trans s7) no, _, upd_same, ?_, ?_⟩
            · rw [List.range_succ, List.flatMap_append, ← List.append_assoc]
              have e0 : ([j] : List Nat).flatMap (fun b => stepAt sq x i b) = [(i, j, swap x i j)] := by
                rw [show ([j] : List Nat).flatMap (fun b => stepAt sq x i b) = stepAt sq x i j ++ [] from rfl, List.append_nil]
                unfold stepAt okS
                rw [hb, hc, beq_eq_false_iff_ne.mpr hij]
                rfl
              rw [e0]
              refine pr_app (pr_mono pr fun _ _ z => z.tups ((sameTups s7).trans (Tups.list eo7))) (.cons ⟨e, p, rfl, ?_, ?_⟩ .nil)
              · exact Tups.list eo7 _ _ upd_same
              · exact Tups.list eo7 _ _ (same_upd ne _ _ ep)
            · rw [List.length_append]
              show vs.length + 1 ≤ _
              omega
          · refine iteN hc (no_new (s3.trans s4) ?_)
            unfold okS
            rw [hb, Bool.eq_false_iff.mpr hc, Bool.and_false, Bool.and_false]
        · refine iteN hb (iteF (no_new s3 ?_))
          unfold okS
          rw [Bool.eq_false_iff.mpr hb, Bool.false_and, Bool.and_false]
      · rintro σ H2 ⟨y5, rfl, s2, vs, eo, pr, hv⟩
        refine ⟨some (vN i), y5, rfl, s2, vs, eo, ?_, ?_⟩
        · rw [List.range_succ, List.flatMap_append]
          rw [show ([i] : List Nat).flatMap (fun a => (List.range x.length).flatMap fun b => stepAt sq x a b) = ((List.range x.length).flatMap fun b => stepAt sq x i b) ++ [] from rfl, List.append_nil, hl]
          rw [hl] at pr
          exact pr
        · rw [Nat.mul_succ]
          exact hv
    · rintro σ H1 ⟨y4, y5, rfl, s1, vs, eo, pr, hv⟩
      refine ⟨_, rfl, q H1 o vs s1 no eo ?_ ?_⟩
      · unfold steps
        rw [hl]
        rw [hl] at pr
        exact pr
      · have hni : n * n ≤ 6 * 6 := Nat.mul_le_mul hn hn
        omega
end
end RB

namespace RB
open PySem PySem.Spec PyProof.Rows L2
/-! ### stands as data -/
def dS (x : List Nat) : PyData := .tuple ((zI x).map .int)
theorem dp_ints {K : PySem.W.Frag} {H : Hp} : ∀ x : List Nat, DpAll K H (vI x) ((zI x).map .int)
  | [] => .nil
  | a :: x => .cons (.int (a : Int)) (dp_ints x)
theorem Stv.dp {K : PySem.W.Frag} {H : Hp} {v : V} {x : List Nat} (h : Stv H v x) : Dp K H v (dS x) := by
  obtain ⟨t, rfl, ht⟩ := h
  exact .tup (SqT.of ht) (dp_ints x)
theorem dpAll_of {K : PySem.W.Frag} {H : Hp} : ∀ {vs : List V} {xs : List (List Nat)}, Paired (Stv H) vs xs → DpAll K H vs (xs.map dS)
  | _, _, .nil => .nil
  | _, _, .cons h t => .cons h.dp (dpAll_of t)
theorem dS_depth (x : List Nat) : (dS x).depth = 1 := by
  unfold dS
  rw [PyData.depth, PySem.W.depth_ints]
theorem dS_lay (x : List Nat) : (dS x).canLay0 = true := by
  have go : ∀ l : List Int, PyData.canLayAll0 (l.map .int) = true := by
    intro l
    induction l with
    | nil => simp [PyData.canLayAll0]
    | cons a r ih => simp only [List.map_cons, PyData.canLayAll0, ih, PyData.canLay0, Bool.and_self]
  unfold dS
  simp only [PyData.canLay0]
  exact go _
theorem dS_shaped (x : List Nat) : SeqAt.shaped (dS x) = true := by
  show ((dS x).canLay0 && decide ((dS x).depth ≤ 64)) = true
  rw [dS_lay, dS_depth]
  decide
theorem dSs_depth : ∀ xs : List (List Nat), PyData.depthAll (xs.map dS) ≤ 1
  | [] => by simp [PyData.depthAll]
  | x :: xs => by
    have h1 := dSs_depth xs
    have h2 := dS_depth x
    simp only [List.map_cons, PyData.depthAll]
    omega
theorem dSs_lay : ∀ xs : List (List Nat), PyData.canLayAll0 (xs.map dS) = true
  | [] => by simp [PyData.canLayAll0]
  | x :: xs => by simp only [List.map_cons, PyData.canLayAll0, dS_lay x, dSs_lay xs, Bool.and_self]
theorem dSs_shaped (xs : List (List Nat)) : SeqAt.shaped (.list (xs.map dS)) = true := by
  have h1 := dSs_depth xs
  have h2 : PyData.depth (.list (xs.map dS)) ≤ 64 := by
    simp only [PyData.depth]
    omega
  show (PyData.canLay0 (.list (xs.map dS)) && decide (PyData.depth (.list (xs.map dS)) ≤ 64)) = true
  rw [Bool.and_eq_true]
  exact ⟨by simp only [PyData.canLay0]; exact dSs_lay xs, decide_eq_true h2⟩
theorem eqv_ints : ∀ x y : List Int, PyData.eqvAll (x.map .int) (y.map .int) = decide (x = y)
  | [], [] => by simp [PyData.eqvAll]
  | [], _ :: _ => by simp [PyData.eqvAll]
  | _ :: _, [] => by simp [PyData.eqvAll]
  | a :: x, b :: y => by
    simp only [List.map_cons, PyData.eqvAll, PyData.eqv, eqv_ints x y]
    by_cases h : a = b
    · by_cases h2 : x = y
      · subst h h2
        simp
      · simp [h, h2]
    · simp [h]
theorem dS_eqv (x y : List Nat) : PyData.eqv (dS x) (dS y) = decide (x = y) := by
  unfold dS
  rw [PyData.eqv, eqv_ints, Bool.eq_iff_iff, decide_eq_true_iff, decide_eq_true_iff]
  exact ⟨zI_inj, fun e => by rw [e]⟩
theorem dSs_eqv : ∀ xs ys : List (List Nat), PyData.eqvAll (xs.map dS) (ys.map dS) = decide (xs = ys)
  | [], [] => by simp [PyData.eqvAll]
  | [], _ :: _ => by simp [PyData.eqvAll]
  | _ :: _, [] => by simp [PyData.eqvAll]
  | a :: x, b :: y => by
    simp only [List.map_cons, PyData.eqvAll, dS_eqv, dSs_eqv x y]
    by_cases h : a = b
    · by_cases h2 : x = y
      · subst h h2
        simp
      · simp [h, h2]
    · simp [h]
theorem list_eqv (xs ys : List (List Nat)) : PyData.eqv (.list (xs.map dS)) (.list (ys.map dS)) = decide (xs = ys) := by
  rw [PyData.eqv, dSs_eqv]
/-! ### sorted of a list of stands, of any length -/
theorem each_zip {X : Cx} {pins : List (Addr × Obj)} {σ : L2.St} {H : Hp} {s : Shared} (I : Inv X pins σ H s) : ∀ {xs : List V} {its : List Value} {zs : List (List Nat)}, Vals xs its → Paired (Stv H) xs zs →
    PySem.W.EachIs (fun (v : Value) (b : V × List Nat) => RelV b.1 v) its (xs.zip zs) ∧ PySem.W.EachIs (fun v (b : V × List Nat) => ∃ as, Reads s.heap v (dS b.2) as) its (xs.zip zs)
  | _, _, _, .nil, .nil => ⟨.nil, .nil⟩
  | _, _, _, .cons r t, .cons p q => by
    obtain ⟨h1, h2⟩ := each_zip I t q
    exact ⟨.cons r h1, .cons (Dp.reads I _ _ _ p.dp r) h2⟩
theorem each_fst : ∀ {out : List Value} {bs : List (V × List Nat)}, PySem.W.EachIs (fun (v : Value) (b : V × List Nat) => RelV b.1 v) out bs → Vals (bs.map Prod.fst) out
  | _, _, .nil => .nil
  | _, _, .cons r t => .cons r (each_fst t)
theorem pr_of {α β : Type} {F : α → β → Prop} : ∀ {l : List (α × β)}, (∀ b ∈ l, F b.1 b.2) → Paired F (l.map Prod.fst) (l.map Prod.snd)
  | [], _ => .nil
  | b :: l, h => .cons (h b List.mem_cons_self) (pr_of fun c hc => h c (List.mem_cons_of_mem _ hc))
theorem pr_zip {α β : Type} {F : α → β → Prop} : ∀ {l : List α} {m : List β}, Paired F l m → (l.zip m).map Prod.snd = m ∧ (∀ b ∈ l.zip m, F b.1 b.2)
  | _, _, .nil => ⟨rfl, fun b hb => by cases hb⟩
  | _, _, .cons f t => by
    obtain ⟨h1, h2⟩ := pr_zip t
    refine ⟨by rw [List.zip_cons_cons, List.map_cons, h1], fun b hb => ?_⟩
    rcases List.mem_cons.mp hb with e | hb
    · rw [e]
      exact f
    · exact h2 b hb
theorem dS_le : PySem.W.dataLe false (fun b : V × List Nat => dS b.2) = fun p q => decide (zI p.2 ≤ zI q.2) := by
  funext p q
  show (!PySem.W.dataLt (.tuple ((zI q.2).map .int)) (.tuple ((zI p.2).map .int))) = _
  rw [PySem.W.dataLt_tuple]
  show (!PySem.W.rowLt ((zI q.2).map .int) ((zI p.2).map .int)) = _
  rw [PySem.W.dataLt_ints]
  by_cases h : zI q.2 < zI p.2
  · have h' : ¬ zI p.2 ≤ zI q.2 := fun r => List.not_lt.mpr r h
    simp [h, h']
  · have h' : zI p.2 ≤ zI q.2 := List.not_lt.mp h
    simp [h, h']
def rSortS (K : PySem.W.Frag) : List V → Hp → VK → Prop := fun vs H Q => ∃ (a : Addr) (xs : List V) (zs : List (List Nat)), vs = [V.ref a] ∧ SqL K H a xs ∧ Paired (Stv H) xs zs ∧ (∀ z ∈ zs, z ≠ []) ∧
  ∀ (ys : List V) (ws : List (List Nat)) (p : Addr), ws.Perm zs → Up ws → Paired (Stv H) ys ws → ys.length ≤ xs.length → H p = none → Q (.ref p) (upd H p (.lst ys))
theorem cr_sortS {X : Cx} (hu : X.A.units + 64 < cLine) : CallR X (.builtin "sorted") (rSortS X.K) := by
  intro pins s σ H vs us Q I r h
  obtain ⟨a, xs, zs, rfl, hs, hp, hne, q⟩ := h
  obtain ⟨its, rv, hl, hz⟩ := I.list hs
  rw [Vals.ref1 r]
  obtain ⟨e1, e2⟩ := each_zip I rv hp
  obtain ⟨z1, z2⟩ := pr_zip hp
  have hzl : (xs.zip zs).length = xs.length := by
    rw [List.length_zip, ← pr_len hp, Nat.min_self]
  refine PySem.W.sorted_data (β := V × List Nat) (enc := fun b => dS b.2) (R := fun v b => RelV b.1 v) (bs := xs.zip zs) hl.isList e1 e2 ?_ ?_ (by rw [hzl]; exact hz) ?_ fun out hlen ho => ?_
  · refine PySem.W.AllAlike.of fun b b' => ?_
    unfold dS
    rw [PySem.W.alike]
    exact PySem.W.alike_ints _ _
  · refine .inl fun d hd => ?_
    obtain ⟨b, hb, rfl⟩ := List.mem_map.mp hd
    have hm : b.2 ∈ zs := by
      rw [← z1]
      exact List.mem_map.mpr ⟨b, hb, rfl⟩
    have hn := hne _ hm
    unfold dS
    cases e : b.2 with
    | nil => exact absurd e hn
    | cons c r => exact ⟨.int (c : Int), (zI r).map .int, rfl⟩
  · intro b hb
    rw [dS_depth]
    omega
  · obtain ⟨ep, he'⟩ := PyProof.Rows.sortedAll_at s.heap its out.toArray
    rw [dS_le] at ho
    have hpm := List.mergeSort_perm (xs.zip zs) fun p q => decide (zI p.2 ≤ zI q.2)
    have hll : (((xs.zip zs).mergeSort fun p q => decide (zI p.2 ≤ zI q.2)).map Prod.fst).length = xs.length := by
      rw [List.length_map, hpm.length_eq, hzl]
    refine ⟨.ref _, upd H (s.heap.objs.size + 1) (.lst (((xs.zip zs).mergeSort fun p q => decide (zI p.2 ≤ zI q.2)).map Prod.fst)), I.laid (t' := s.toks) (fun _ _ => PyProof.Rows.sortedAll_old) (Nat.le_succ _) ⟨by rw [hll]; exact hz, out, ep, each_fst ho, he'⟩, rfl,
      q _ (((xs.zip zs).mergeSort fun p q => decide (zI p.2 ≤ zI q.2)).map Prod.snd) _ ?_ ?_ ?_ (Nat.le_of_eq hll) (I.hok.fresh (Nat.le_succ _))⟩
    · have p1 := hpm.map Prod.snd
      rw [z1] at p1
      exact p1
    · have T : PySem.W.TotalLe (fun p q : V × List Nat => decide (zI p.2 ≤ zI q.2)) := ⟨fun a b c h1 h2 => decide_eq_true (List.le_trans (of_decide_eq_true h1) (of_decide_eq_true h2)), fun a b => (List.le_total (zI a.2) (zI b.2)).imp decide_eq_true decide_eq_true⟩
      have p2 := PySem.W.sort_pairwise T (xs.zip zs)
      exact List.pairwise_map.mpr (p2.imp fun h => of_decide_eq_true h)
    · exact pr_of fun b hb => z2 b (hpm.mem_iff.mp hb)
end RB

namespace RB
open PySem PySem.Spec PyProof.Rows L2
/-! ### a table of stands -/
def kz (x : List Nat) : List Key := x.map fun (h : Nat) => Sum.inl (h : Int)
theorem kz_V (x : List Nat) : (kz x).map kV = vI x := by
  unfold kz vI
  rw [List.map_map]
  rfl
theorem kz_inj : ∀ {x y : List Nat}, kz x = kz y → x = y
  | [], [], _ => rfl
  | [], _ :: _, h => by cases h
  | _ :: _, [], h => by cases h
  | a :: x, b :: y, h => by
    obtain ⟨h1, h2⟩ := List.cons.inj h
    rw [Int.ofNat.inj (Sum.inl.inj h1), kz_inj h2]
def enK (p : List Nat × Bool) : List Key × V := (kz p.1, .bl p.2)
/-- what the table holds behind the stands zs -/
structure Tab (zs : List (List Nat)) (ks : List (List Nat × Bool)) : Prop where
  nd : (ks.map (·.1)).Nodup
  mem : ∀ x, x ∈ ks.map (·.1) ↔ x ∈ zs
  val : ∀ p ∈ ks, p.2 = decide (zs.count p.1 % 2 = 1)
  len : ks.length ≤ zs.length
theorem valV_tab (x : List Nat) : ∀ ks : List (List Nat × Bool), valV (ks.map enK) (kz x) = (ks.find? fun p => decide (p.1 = x)).map fun p => V.bl p.2
  | [] => rfl
  | p :: ks => by
    rw [List.map_cons]
    by_cases e : p.1 = x
    · rw [valV_pos (show (enK p).1 = kz x by rw [← e]; rfl), List.find?_cons_of_pos (by rw [decide_eq_true e])]
      rfl
    · rw [valV_neg (show ¬ (enK p).1 = kz x from fun q => e (kz_inj q)), List.find?_cons_of_neg (by rw [decide_eq_false e]; decide), valV_tab x ks]
theorem tab_nil : Tab [] [] := ⟨List.nodup_nil, fun _ => Iff.rfl, fun _ h => (by cases h), Nat.le_refl _⟩
theorem tab_old {zs : List (List Nat)} {ks : List (List Nat × Bool)} (t : Tab zs ks) (x : List Nat) : ((ks.find? fun p => decide (p.1 = x)).map fun p => V.bl p.2).getD (.bl false) = .bl (decide (zs.count x % 2 = 1)) := by
  cases e : ks.find? fun p => decide (p.1 = x) with
  | none =>
    have h0 : x ∉ zs := fun hx => by
      obtain ⟨p, hp, q⟩ := List.mem_map.mp ((t.mem x).mpr hx)
      have z := List.find?_eq_none.mp e p hp
      exact z (decide_eq_true q)
    rw [List.count_eq_zero_of_not_mem h0]
    rfl
  | some p =>
    have h1 : p.1 = x := of_decide_eq_true (List.find?_some (p := fun p : List Nat × Bool => decide (p.1 = x)) e)
    have h2 := t.val p (List.mem_of_find?_eq_some e)
    show V.bl p.2 = _
    rw [h2, h1]
theorem tab_put {zs : List (List Nat)} {ks : List (List Nat × Bool)} (t : Tab zs ks) (x : List Nat) :
    ∃ ks', putK (ks.map enK) (kz x) (.bl (!decide (zs.count x % 2 = 1))) = ks'.map enK ∧ Tab (zs ++ [x]) ks' := by
  have cnt : ∀ y, (zs ++ [x]).count y = zs.count y + (if y = x then 1 else 0) := fun y => by
    rw [List.count_append, List.count_singleton]
    congr 1
    by_cases e : y = x
    · rw [if_pos e, if_pos (by rw [e, beq_self_eq_true])]
    · rw [if_neg e, if_neg (by rw [beq_eq_false_iff_ne.mpr (Ne.symm e)]; decide)]
  have flip : (!decide (zs.count x % 2 = 1)) = decide ((zs.count x + 1) % 2 = 1) := by
    by_cases e : zs.count x % 2 = 1
    · rw [decide_eq_true e, decide_eq_false (by omega)]
      rfl
    · rw [decide_eq_false e, decide_eq_true (by omega)]
      rfl
  by_cases hx : x ∈ zs
  · have hany : ((ks.map enK).any fun kv => decide (kv.1 = kz x)) = true := by
      obtain ⟨p, hp, q⟩ := List.mem_map.mp ((t.mem x).mpr hx)
      rw [List.any_eq_true]
      exact ⟨enK p, List.mem_map.mpr ⟨p, hp, rfl⟩, decide_eq_true (by rw [← q]; rfl)⟩
    refine ⟨ks.map fun p => if p.1 = x then (p.1, !decide (zs.count x % 2 = 1)) else p, ?_, ?_⟩
    · unfold putK
      rw [if_pos hany, List.map_map, List.map_map]
      refine List.map_congr_left fun p _ => ?_
      show (if (enK p).1 = kz x then ((enK p).1, _) else enK p) = enK (if p.1 = x then _ else p)
      by_cases e : p.1 = x
      · rw [if_pos e, if_pos (show (enK p).1 = kz x by rw [← e]; rfl)]
        rfl
      · rw [if_neg e, if_neg (show ¬ (enK p).1 = kz x from fun q => e (kz_inj q))]
    · have hm : (ks.map fun p => if p.1 = x then (p.1, !decide (zs.count x % 2 = 1)) else p).map (·.1) = ks.map (·.1) := by
        rw [List.map_map]
        refine List.map_congr_left fun p _ => ?_
        show (if p.1 = x then _ else p).1 = p.1
        split <;> rfl
      refine ⟨by rw [hm]; exact t.nd, fun y => ?_, fun p hp => ?_, ?_⟩
      · rw [hm, t.mem, List.mem_append, List.mem_singleton]
        constructor
        · exact .inl
        · rintro (h | h)
          · exact h
          · rw [h]
            exact hx
      · obtain ⟨p0, hp0, rfl⟩ := List.mem_map.mp hp
        by_cases e : p0.1 = x
        · rw [if_pos e, cnt, if_pos e]
          show (!decide (zs.count x % 2 = 1)) = decide ((zs.count p0.1 + 1) % 2 = 1)
          rw [flip, e]
        · rw [if_neg e, cnt, if_neg e]
          exact t.val p0 hp0
      · rw [List.length_map, List.length_append]
        exact Nat.le_trans t.len (Nat.le_add_right _ _)
  · have hnone : valV (ks.map enK) (kz x) = none := by
      rw [valV_tab]
      cases e : ks.find? fun p => decide (p.1 = x) with
      | none => rfl
      | some p =>
        have h1 : p.1 = x := of_decide_eq_true (List.find?_some (p := fun p : List Nat × Bool => decide (p.1 = x)) e)
        exact absurd ((t.mem x).mp (List.mem_map.mpr ⟨p, List.mem_of_find?_eq_some e, h1⟩)) hx
    refine ⟨ks ++ [(x, !decide (zs.count x % 2 = 1))], ?_, ?_⟩
    · rw [putK_new _ hnone, List.map_append]
      rfl
    · refine ⟨?_, fun y => ?_, fun p hp => ?_, ?_⟩
      · rw [List.map_append, List.nodup_append]
        refine ⟨t.nd, by simp, fun a ha b hb e => ?_⟩
        have hb' : b = x := by simpa using hb
        rw [e, hb'] at ha
        exact hx ((t.mem x).mp ha)
      · rw [List.map_append, List.mem_append, t.mem, List.mem_append]
        rfl
      · rcases List.mem_append.mp hp with h | h
        · have ne : p.1 ≠ x := fun e => hx ((t.mem x).mp (by rw [← e]; exact List.mem_map.mpr ⟨p, h, rfl⟩))
          rw [cnt, if_neg ne]
          exact t.val p h
        · have e : p = (x, !decide (zs.count x % 2 = 1)) := List.mem_singleton.mp h
          rw [e, cnt, if_pos rfl]
          exact flip
      · rw [List.length_append, List.length_append]
        have := t.len
        show ks.length + 1 ≤ zs.length + 1
        omega
theorem tab_odd {zs ws : List (List Nat)} {ks : List (List Nat × Bool)} (t : Tab zs ks) (p : ws.Perm ((ks.filter (·.2)).map (·.1))) : Odd zs ws := by
  have nd : ((ks.filter (·.2)).map (·.1)).Nodup := (List.filter_sublist.map _).nodup t.nd
  refine ⟨p.symm.nodup nd, fun z => ?_⟩
  rw [p.mem_iff, List.mem_map]
  constructor
  · rintro ⟨q, hq, rfl⟩
    obtain ⟨h1, h2⟩ := List.mem_filter.mp hq
    rw [t.val q h1] at h2
    exact of_decide_eq_true h2
  · intro hz
    have hm : z ∈ zs := Classical.byContradiction fun h => by
      rw [List.count_eq_zero_of_not_mem h] at hz
      omega
    obtain ⟨q, hq, rfl⟩ := List.mem_map.mp ((t.mem z).mpr hm)
    refine ⟨q, List.mem_filter.mpr ⟨hq, ?_⟩, rfl⟩
    rw [t.val q hq]
    exact decide_eq_true hz
theorem mill {n : Nat} (h : n ≤ 1000000) : n < sizeLine := Nat.lt_of_le_of_lt h (by decide)
theorem Tups.other {H : Hp} {o : Addr} {u v : HO} (h : H o = some v) (hv : ∀ xs, v ≠ .tup xs) : Tups H (upd H o u) := fun b ys e => by
  rw [upd_ne (ne_of e h (fun q => hv ys q.symm))]
  exact e
section
variable {P : Program} {w : World} {K : PySem.W.Frag} {mg : Str → Option Value} {base : Heap}
theorem scOdd : FnScope ["stands", "odd", "stand"] ["stands"] (defScope sOdd) := ⟨rfl, rfl, rfl, by decide +kernel, rfl, by decide +kernel, by decide +kernel⟩
/-- a new list of stands, sorted: those that zs has an odd number of times -/
def NewO (H : Hp) (Q : VK) (zs : List (List Nat)) : Prop := ∀ H' p ys ws, Same H H' → H p = none → H' p = some (.lst ys) → Paired (Stv H') ys ws → Odd zs ws → Up ws → ws.length ≤ zs.length → Q (.ref p) H'
def spOdd : Sp := fun vs H Q _ => ∃ (l : Addr) (us : List V) (zs : List (List Nat)), vs = [.ref l] ∧ H l = some (.lst us) ∧ Paired (Stv H) us zs ∧ (∀ z ∈ zs, z ≠ []) ∧ zs.length ≤ 1000000 ∧ NewO H Q zs
theorem ok_odd {f : Addr} {fd : FuncData} {k : Nat} (d : Dm K mg "odd_ones" sOdd ["stands"] f fd) (T : Txt mg) : FnOk P w K mg base CX0 (k + 1) f fd ["stands"] spOdd := by
  refine d.F.ok scOdd (fun vs H Q E h => ?_) (fun cdv A outer s H vs Q E hr h => ?_)
  · obtain ⟨l, us, zs, rfl, _⟩ := h
    rfl
  · obtain ⟨l, us, zs, rfl, hl, hp, hne, hz, q⟩ := h
    have hu := hu_of hr
    refine ⟨_, pss_cons (ps_set (i := 1) scOdd.nd rfl (.inr rfl) pe_dnewT)
      (pss_cons (ps_for PassesOwn.never rfl (pi_list (pv 0)) (pg_name (i := 2) scOdd.nd rfl (Or.inl rfl))
        (pss_one (ps_dput hu (pv 1) (pv 2) (pe_not (pe_dget2 hu (pv 1) (pv 2) pe_bl ⟨rfl, rfl, rfl, rfl⟩)) rfl)))
      (pss_one (ps_ret (pe_callB (cr_sortS hr.units) (by rfl) T.srt (by decide +kernel) (pa_cons
        (pe_lock (pe_lc (own := [("stand", 2)]) (g := gName 2) rfl scOdd.nd (pi_keys (pv 1)) (blkOk_by (N := ["stands", "odd", "stand"]) (sc := defScope sOdd) (by decide +kernel))
          (fun _ _ _ _ _ => pg_name (i := 2) scOdd.nd rfl (Or.inl rfl)) (fun _ _ _ _ _ => pts_one (pt_val (pe_dget hu (pv 1) (pv 2) (fun _ _ => rfl)))) (fun _ _ _ _ _ => pv 2))) pa_nil))))), ?_⟩
    intro o no
    refine ⟨_, rfl, l, rfl, ⟨_, SqL.of (same_upd no _ _ hl)⟩, for_list (K := K) (a := l) (xs := us)
      (fun i σ H' => ∃ y2 ks, σ = [some (.ref l), some (.ref o), y2] ∧ Same H H' ∧ H' o = some (.dT (ks.map enK)) ∧ Tab (zs.take i) ks)
      ⟨none, [], rfl, same_upd no, upd_same, tab_nil⟩ (fun i σ H' _ ⟨_, _, _, s1, _⟩ => SqL.of (s1 _ _ hl)) ?_ ?_⟩
    · rintro i v σ H1 hi ⟨y2, ks, rfl, s1, eo, t⟩
      obtain ⟨x, hx, tv, rfl, ht⟩ := pr_getL hp hi
      have eb : H1 tv = some (.tup ((kz x).map kV)) := by
        rw [kz_V]
        exact s1 _ _ ht
      obtain ⟨ks', e', t'⟩ := tab_put t x
      have hin : i < zs.length := (List.getElem?_eq_some_iff.mp hx).1
      have hlen : (ks.map enK).length < sizeLine := by
        rw [List.length_map]
        have h1 := t.len
        rw [List.length_take] at h1
        exact mill (by omega)
      refine ⟨_, rfl, o, rfl, .inr ⟨_, .inl eo⟩, _, rfl, _, DGet.t eo eb, ?_⟩
      rw [valV_tab, tab_old t x]
      refine ⟨_, rfl, _, rfl, _, rfl, o, _, rfl, DPut.t eo eb hlen, ?_⟩
      rw [e']
      refine ⟨some (.ref tv), ks', rfl, same_new s1 no, upd_same, ?_⟩
      rw [List.take_add_one, hx]
      exact t'
    · rintro σ H1 ⟨y2, ks, rfl, s1, eo, t⟩
      have hlz : us.length = zs.length := pr_len hp
      rw [hlz, List.take_length] at t
      refine ⟨o, .dT (ks.map enK), eo, trivial, fun od => ?_⟩
      have so : Same H (upd H1 o (.frz od (.dT (ks.map enK)))) := same_new s1 no
      refine ⟨_, rfl, o, od, rfl, .inr ⟨_, upd_same, fun D hD => lc_it (walk_keysT (d := o) (o := od) (kvs := ks.map enK))
        (fun i H' => Same (upd H1 o (.frz od (.dT (ks.map enK)))) H' ∧ ∃ vs, H' D = some (.lst vs) ∧ Paired (Stv H') vs (((ks.take i).filter (·.2)).map (·.1)) ∧ vs.length ≤ i)
        ⟨same_upd hD, [], upd_same, .nil, Nat.le_refl _⟩ (fun i H' _ z => z.1 _ _ upd_same) ?_ ?_⟩⟩
      · rintro i v H2 H3 hi ⟨s2, vs, eD, pr, hv⟩ ⟨rfl, k, b, tq, hk, rfl, hq⟩
        obtain ⟨p, hpk, ep⟩ := getE_of_map hk
        have e1 : k = kz p.1 := (Prod.mk.inj ep).1
        have e2 : b = .bl p.2 := (Prod.mk.inj ep).2
        subst e1 e2
        have hpm : p ∈ ks := List.mem_of_getElem? hpk
        have hval : valV (ks.map enK) (kz p.1) = some (.bl p.2) := by
          rw [valV_tab]
          cases e : ks.find? fun r => decide (r.1 = p.1) with
          | none => exact absurd (decide_eq_true rfl) (List.find?_eq_none.mp e p hpm)
          | some r =>
            have h1 : r.1 = p.1 := of_decide_eq_true (List.find?_some (p := fun r : List Nat × Bool => decide (r.1 = p.1)) e)
            have h2 := t.val r (List.mem_of_find?_eq_some e)
            have h3 := t.val p hpm
            show some (V.bl r.2) = _
            rw [h2, h3, h1]
        have hi' : i < ks.length := by
          rw [List.length_map] at hi
          exact hi
        refine ⟨rfl, _, rfl, _, rfl, o, .bl p.2, rfl, ?_, p.2, rfl, ?_⟩
        · have g := DGet.t (H := H3) (a := o) (b := tq) (kvs := ks.map enK) (k := kz p.1)
          rw [hval] at g
          exact .inr ⟨_, _, tq, .inr ⟨od, s2 _ _ upd_same⟩, rfl, hq, hval.symm⟩
        · rw [List.take_add_one, hpk, List.filter_append, List.map_append]
          by_cases hb : p.2 = true
          · refine iteP hb ⟨_, rfl, vs, eD, mill (by have := t.len; omega), fun b o' e => ?_, _, upd_same, ?_, ?_⟩
            · rw [upd_ne (ne_of_none e hD)]
              exact s2 _ _ e
            · rw [show (some p).toList.filter (·.2) = [p] from List.filter_cons_of_pos hb]
              have tp := Tups.list (u := .lst (vs ++ [.ref tq])) eD
              refine pr_app (pr_mono pr fun _ _ z => z.tups tp) (.cons ⟨tq, rfl, tp _ _ ?_⟩ .nil)
              rw [kz_V] at hq
              exact hq
            · rw [List.length_append]
              show vs.length + 1 ≤ i + 1
              omega
          · refine iteN hb ⟨s2, vs, eD, ?_, by omega⟩
            rw [show (some p).toList.filter (·.2) = [] from List.filter_cons_of_neg hb, List.map_nil, List.append_nil]
            exact pr
      · rintro H2 ⟨s2, vs, eD, pr, hv⟩
        rw [List.length_map] at hv
        rw [List.length_map, List.take_length] at pr
        have eo2 : H2 o = some (.frz od (.dT (ks.map enK))) := s2 _ _ upd_same
        refine ⟨eo2, ?_⟩
        have nDo : D ≠ o := ne_of eD eo2 (by intro z; cases z)
        have tp := Tups.other (u := .dT (ks.map enK)) eo2 (by intro xs z; cases z)
        have sF : Same H (upd H2 o (.dT (ks.map enK))) := same_new (so.trans s2) no
        refine ⟨D, vs, _, rfl, SqL.of ((upd_ne nDo).trans eD), pr_mono pr fun _ _ z => z.tups tp, ?_, fun ys ws p hpm hup hpr hlen hfr => ?_⟩
        · intro z hzm
          obtain ⟨r, hr, rfl⟩ := List.mem_map.mp hzm
          exact hne _ ((t.mem r.1).mp (List.mem_map.mpr ⟨r, (List.mem_filter.mp hr).1, rfl⟩))
        · refine q _ p ys ws (same_new sF (sF.free hfr)) (sF.free hfr) upd_same (pr_mono hpr fun _ _ z => z.tups (sameTups (same_upd hfr))) (tab_odd t hpm) hup ?_
          rw [← pr_len hpr]
          have := t.len
          omega
end
end RB

namespace RB
open PySem PySem.Spec PyProof.Rows L2
theorem clTup {X : Cx} {K : PySem.W.Frag} (h : X.K = K) : CallR X (.type "tuple") (fun xs H Q => ∃ p ys, xs = [.ref p] ∧ ((SqL K H p ys ∧ ∀ l, H l = none → Q (.ref l) (upd H l (.tup ys))) ∨ (SqT K H p ys ∧ Q (.ref p) H))) := h ▸ call_tuple_of
theorem sub_mod {j k n : Nat} (hk : k ≤ n) : ((j : Int) - (k : Int)) % (n : Int) = (((j + n - k) % n : Nat) : Int) := by
  have e : (((j + n - k : Nat)) : Int) = ((j : Int) - (k : Int)) + (n : Int) := by omega
  rw [Int.natCast_emod, e, Int.add_emod_right]
theorem step_of {sq : List Nat × List Nat} {x : List Nat} {i : Nat} {z : Nat × Nat × List Nat} (h : (steps sq x)[i]? = some z) : (nxt sq x)[i]? = some z.2.2 := by
  unfold nxt
  rw [List.getElem?_map, h]
  rfl
section
variable {P : Program} {w : World} {K : PySem.W.Frag} {mg : Str → Option Value} {base : Heap}
/-! ### added -/
theorem scAdded : FnScope ["one", "other"] ["one", "other"] (defScope sAdded) := ⟨rfl, rfl, rfl, by decide +kernel, rfl, by decide +kernel, by decide +kernel⟩
def spAdded : Sp := fun vs H Q _ => ∃ (a b : Addr) (us us' : List V) (zs zs' : List (List Nat)), vs = [.ref a, .ref b] ∧ H a = some (.lst us) ∧ H b = some (.lst us') ∧ Paired (Stv H) us zs ∧ Paired (Stv H) us' zs' ∧ (∀ z ∈ zs, z ≠ []) ∧ (∀ z ∈ zs', z ≠ []) ∧
  zs.length ≤ 1000 ∧ zs'.length ≤ 1000 ∧ NewO H Q (zs ++ zs')
theorem ok_added {f fO : Addr} {fd dO : FuncData} (d : Dm K mg "added" sAdded ["one", "other"] f fd) (o : Dm K mg "odd_ones" sOdd ["stands"] fO dO) (T : Txt mg) : FnOk P w K mg base CX0 2 f fd ["one", "other"] spAdded := by
  have GO : FnOk P w K mg base CX0 1 fO dO ["stands"] spOdd := ok_odd o T
  refine d.F.ok scAdded (fun vs H Q E h => ?_) (fun cdv A outer s H vs Q E hr h => ?_)
  · obtain ⟨a, b, us, us', zs, zs', rfl, _⟩ := h
    rfl
  · obtain ⟨a, b, us, us', zs, zs', rfl, ha, hb, pa, pb, na, nb, la, lb, q⟩ := h
    refine ⟨_, pss_one (ps_ret (pe_call GO hr (by rfl) o.g o.F.kp o.b .nil pass0 (pa_cons (pe_op op_cat (pv 0) (pv 1)) pa_nil))), ?_⟩
    refine ⟨_, rfl, _, rfl, a, b, us, us', rfl, rfl, ha, hb, ?_, fun p np => ?_⟩
    · rw [pr_len pa, pr_len pb]
      exact Nat.le_of_lt (mill (by omega))
    · have s1 : Same H (upd H p (.lst (us ++ us'))) := same_upd np
      refine ⟨p, _, zs ++ zs', rfl, upd_same, pr_app (pr_mono pa fun _ _ z => z.tups (sameTups s1)) (pr_mono pb fun _ _ z => z.tups (sameTups s1)), ?_, ?_, ?_⟩
      · intro z hz
        rcases List.mem_append.mp hz with h | h
        · exact na z h
        · exact nb z h
      · rw [List.length_append]
        omega
      · intro H' r ys ws s2 nr er hp ho hu hl
        exact q H' r ys ws (s1.trans s2) (s1.free nr) er hp ho hu hl
/-! ### border -/
theorem scBorder : FnScope ["square", "crowd", "found", "stand", "a", "b", "after"] ["square", "crowd"] (defScope sBorder) := ⟨rfl, rfl, rfl, by decide +kernel, rfl, by decide +kernel, by decide +kernel⟩
def spBorder : Sp := fun vs H Q _ => ∃ (s c : Addr) (sq : List Nat × List Nat) (us : List V) (zs : List (List Nat)) (n : Nat), vs = [.ref s, .ref c] ∧ Sq H s sq ∧ H c = some (.lst us) ∧ Paired (Stv H) us zs ∧ (∀ z ∈ zs, IsSt n z) ∧ sq.1.length = n ∧ sq.2.length = n ∧ 1 ≤ n ∧ n ≤ 6 ∧
  zs.length ≤ 20000 ∧ ∀ H' p ys ws, Same H H' → H p = none → H' p = some (.lst ys) → Paired (Stv H') ys ws → Odd (zs.flatMap (nxt sq)) ws → Up ws → ws.length ≤ 36 * zs.length → Q (.ref p) H'
theorem ok_border {f fO fS fR fC fW fH fB fF fL : Addr} {fd dO dS dR dC dW dH dB dF dL : FuncData} (d : Dm K mg "border" sBorder ["square", "crowd"] f fd) (o : Dm K mg "odd_ones" sOdd ["stands"] fO dO) (st : Dm K mg "steps_from" sSteps ["square", "stand"] fS dS)
    (L : Low K mg fR fC fW fH fB fF fL dR dC dW dH dB dF dL) (T : Txt mg) : FnOk P w K mg base CX0 5 f fd ["square", "crowd"] spBorder := by
  have GO : FnOk P w K mg base CX0 1 fO dO ["stands"] spOdd := ok_odd o T
  have GS : FnOk P w K mg base CX0 4 fS dS ["square", "stand"] spSteps := ok_steps st L T
  refine d.F.ok scBorder (fun vs H Q E h => ?_) (fun cdv A outer s H vs Q E hr h => ?_)
  · obtain ⟨s, c, sq, us, zs, n, rfl, _⟩ := h
    rfl
  · obtain ⟨s, c, sq, us, zs, n, rfl, hs, hc, hp, hz, h1, h2, hn1, hn, hlen, q⟩ := h
    have hr1 : Room 1 _ := hr.mono (by decide)
    refine ⟨_, pss_cons (ps_set (i := 2) scBorder.nd rfl (.inl rfl) (pe_lst pa_nil))
      (pss_cons (ps_for PassesOwn.never rfl (pi_list (pv 1)) (pg_name (i := 3) scBorder.nd rfl (Or.inl rfl))
        (pss_one (ps_expr (pe_bm PySem.F.plainAttrs_list PySem.F.slot_list_extend PySem.F.type_list_extend mt_extend (pv 2) (pa_cons
          (pe_lc (own := [("a", 4), ("b", 5), ("after", 6)]) (g := gTup K 3 (gCons (gName 4) (gCons (gName 5) (gCons (gName 6) gNil)))) (tt := tYes) rfl scBorder.nd
            (pi_list (pe_call GS hr (by rfl) st.g st.F.kp st.b .nil pass0 (pa_cons (pv 0) (pa_cons (pv 3) pa_nil))))
            (blkOk_by (N := ["square", "crowd", "found", "stand", "a", "b", "after"]) (sc := defScope sBorder) (by decide +kernel))
            (fun _ _ _ _ _ => pg_tup rfl (pgs_cons (pg_name (i := 4) scBorder.nd rfl (Or.inl rfl)) (pgs_cons (pg_name (i := 5) scBorder.nd rfl (Or.inl rfl)) (pgs_cons (pg_name (i := 6) scBorder.nd rfl (Or.inl rfl)) pgs_nil)))) (fun _ _ _ _ _ => pts_nil)
            (fun _ _ _ _ _ => pv 6)) pa_nil)))))
      (pss_one (ps_ret (pe_call GO hr1 (by rfl) o.g o.F.kp o.b .nil pass0 (pa_cons (pv 2) pa_nil))))), ?_⟩
    refine ⟨Nat.zero_le _, fun o no => ?_⟩
    have hlz : us.length = zs.length := pr_len hp
    refine ⟨_, rfl, c, rfl, ⟨_, SqL.of (same_upd no _ _ hc)⟩, for_list (K := K) (a := c) (xs := us)
      (fun i σ H' => ∃ y3 y4 y5 y6, σ = [some (.ref s), some (.ref c), some (.ref o), y3, y4, y5, y6] ∧ Same H H' ∧ ∃ vs, H' o = some (.lst vs) ∧ Paired (Stv H') vs ((zs.take i).flatMap (nxt sq)) ∧ vs.length ≤ 36 * i)
      ⟨none, none, none, none, rfl, same_upd no, [], upd_same, .nil, Nat.zero_le _⟩ (fun i σ H' _ ⟨_, _, _, _, _, s1, _⟩ => SqL.of (s1 _ _ hc)) ?_ ?_⟩
    · rintro i v σ H1 hi ⟨y3, y4, y5, y6, rfl, s1, vs, eo, pr, hv⟩
      obtain ⟨x, hx, tv, rfl, ht⟩ := pr_getL hp hi
      have hiz : i < zs.length := (List.getElem?_eq_some_iff.mp hx).1
      have hxs := hz x (List.mem_of_getElem? hx)
      refine ⟨_, rfl, .inl ⟨rfl, _, SqL.of eo⟩, ?_⟩
      refine ⟨_, rfl, _, rfl, s, tv, sq, x, n, rfl, hs.same s1, s1 _ _ ht, h1, h2, hxs, hn, fun H2 p ts s2 np ep tr ltr => ?_⟩
      refine ⟨p, rfl, ⟨_, SqL.of ep⟩, fun D hD => lc_list (K := K) (a := p) (xs := ts)
        (fun j H' => Same H2 H' ∧ ∃ ws, H' D = some (.lst ws) ∧ Paired (Stv H') ws ((nxt sq x).take j) ∧ ws.length ≤ j)
        ⟨same_upd hD, [], upd_same, .nil, Nat.le_refl _⟩ (fun j H' _ z => SqL.of (z.1 _ _ ep)) ?_ ?_⟩
      · rintro j y H3 hj ⟨s3, ws, eD, pw, hw⟩
        obtain ⟨z, hzj, e, t, rfl, he, ht2⟩ := pr_getL tr hj
        have hjl : j < ts.length := (List.getElem?_eq_some_iff.mp hj).1
        refine ⟨e, _, rfl, SqT.of (s3 _ _ he), rfl, _, _, rfl, _, _, rfl, _, _, rfl, rfl, rfl, yes ?_⟩
        refine ⟨_, rfl, ws, eD, mill (by omega), fun b u e' => ?_, _, upd_same, ?_, ?_⟩
        · rw [upd_ne (ne_of_none e' hD)]
          exact s3 _ _ e'
        · rw [List.take_add_one, step_of hzj]
          have tp := Tups.list (u := .lst (ws ++ [.ref t])) eD
          exact pr_app (pr_mono pw fun _ _ z => z.tups tp) (.cons ⟨t, rfl, tp _ _ (s3 _ _ ht2)⟩ .nil)
        · rw [List.length_append]
          show ws.length + 1 ≤ j + 1
          omega
      · rintro H3 ⟨s3, ws, eD, pw, hw⟩
        have hts : ts.length = (nxt sq x).length := by
          rw [pr_len tr]
          unfold nxt
          rw [List.length_map]
        rw [hts, List.take_length] at pw
        have eo3 := s3 _ _ (s2 _ _ eo)
        refine ⟨o, D, vs, ws, rfl, rfl, eo3, eD, Nat.le_of_lt (mill (by omega)), ?_⟩
        have tp := Tups.list (u := .lst (vs ++ ws)) eo3
        refine ⟨some (.ref tv), y4, y5, y6, rfl, same_new (s1.trans (s2.trans s3)) no, _, upd_same, ?_, ?_⟩
        · rw [List.take_add_one, hx, List.flatMap_append]
          rw [show (some x).toList.flatMap (nxt sq) = nxt sq x ++ [] from rfl, List.append_nil]
          exact pr_app (pr_mono pr fun _ _ z => z.tups ((sameTups (s2.trans s3)).trans tp)) (pr_mono pw fun _ _ z => z.tups tp)
        · rw [List.length_append]
          omega
    · rintro σ H1 ⟨y3, y4, y5, y6, rfl, s1, vs, eo, pr, hv⟩
      rw [hlz, List.take_length] at pr
      have hfl := pr_len pr
      refine ⟨_, rfl, o, vs, _, rfl, eo, pr, ?_, by omega, fun H' p ys ws s2 np ep hpp ho hu hl => q H' p ys ws (s1.trans s2) (s1.free np) ep hpp ho hu (by omega)⟩
      intro z hzm
      obtain ⟨x, hx, hzx⟩ := List.mem_flatMap.mp hzm
      have hst := nxt_st (hz x hx) hzx
      intro e
      have := hst.1
      rw [e, List.length_nil] at this
      omega
/-! ### stand_turned -/
theorem scStandT : FnScope ["stand", "k", "n", "bar"] ["stand", "k"] (defScope sStandT) := ⟨rfl, rfl, rfl, by decide +kernel, rfl, by decide +kernel, by decide +kernel⟩
def spStandT : Sp := fun vs H Q _ => ∃ (t : Addr) (x : List Nat) (k : Nat), vs = [.ref t, vN k] ∧ H t = some (.tup (vI x)) ∧ k < x.length ∧ x.length ≤ 6 ∧ NewT H Q (trn x k)
theorem trn_get {x : List Nat} {k j : Nat} (hj : j < x.length) : (trn x k)[j]? = some (gt x ((j + x.length - k) % x.length)) := by
  unfold trn
  rw [List.getElem?_map, List.getElem?_range hj]
  rfl
theorem ok_standT {f : Addr} {fd : FuncData} {k : Nat} (d : Dm K mg "stand_turned" sStandT ["stand", "k"] f fd) (T : Txt mg) : FnOk P w K mg base CX0 (k + 1) f fd ["stand", "k"] spStandT := by
  refine d.F.ok scStandT (fun vs H Q E h => ?_) (fun cdv A outer s H vs Q E hr h => ?_)
  · obtain ⟨t, x, k, rfl, _⟩ := h
    rfl
  · obtain ⟨t, x, k, rfl, ht, hk, hn, q⟩ := h
    refine ⟨_, pss_cons (ps_set (i := 2) scStandT.nd rfl (.inr rfl) (pe_callB call_len_seq (by rfl) T.len PySem.boot_len (pa_cons (pv 0) pa_nil)))
      (pss_one (ps_ret (pe_callTy call_tuple_of (by rfl) T.tup (by decide +kernel) (pa_cons
        (pe_lc (own := [("bar", 3)]) (g := gName 3) (tt := tYes) rfl scStandT.nd (pi_range1 rfl T.rng (pa_cons (pv 2) pa_nil))
          (blkOk_by (N := ["stand", "k", "n", "bar"]) (sc := defScope sStandT) (by decide +kernel)) (fun _ _ _ _ _ => pg_name (i := 3) scStandT.nd rfl (Or.inl rfl)) (fun _ _ _ _ _ => pts_nil)
          (fun _ _ _ _ _ => pe_ix (ixT (K := K) rfl) (pv 0) (pe_op op_mod (pe_op op_sub (pv 3) (pv 1)) (pv 2)) (fun _ _ => rfl))) pa_nil)))), ?_⟩
    refine ⟨_, rfl, t, vI x, rfl, .inr (SqT.of ht), ?_⟩
    rw [vI_len]
    refine ⟨_, rfl, (x.length : Int), rfl, by omega, by omega, fun D hD => lc_range (lo := 0) (n := x.length)
      (fun i H' => Same H H' ∧ H' D = some (.lst (vI ((trn x k).take i)))) ⟨same_upd hD, upd_same⟩ ?_ ?_⟩
    · rintro i H1 hi ⟨s1, eD⟩
      rw [Int.zero_add]
      refine ⟨rfl, yes ?_⟩
      refine ⟨_, rfl, _, rfl, _, rfl, _, _, rfl, rfl, _, rfl, _, _, rfl, rfl, (by show (0 : Int) < (x.length : Int); omega), t, vI x, _, vN (gt x ((i + x.length - k) % x.length)), rfl, rfl, SqT.of (s1 _ _ ht), ?_, _, eD, ?_, fun b u e => ?_, ?_⟩
      · show atI (vI x) (((i : Int) - (k : Int)) % (x.length : Int)) = _
        rw [sub_mod (Nat.le_of_lt hk)]
        exact atI_nat (vI_gt (Nat.mod_lt _ (by omega)))
      · rw [vI_len, List.length_take]
        exact small1000 (by omega)
      · rw [upd_ne (ne_of_none e hD)]
        exact s1 _ _ e
      · rw [upd_same, List.take_add_one, trn_get hi]
        unfold vI
        rw [List.map_append]
        rfl
    · rintro H1 ⟨s1, eD⟩
      rw [List.take_of_length_le (by rw [trn_len]; exact Nat.le_refl _)] at eD
      refine ⟨D, _, rfl, .inl ⟨SqL.of eD, fun l hl => ?_⟩⟩
      exact q _ l (same_new s1 (s1.free hl)) (s1.free hl) upd_same
/-! ### columns_turned -/
theorem scColsT : FnScope ["square", "k", "n", "marks", "column"] ["square", "k"] (defScope sColsT) := ⟨rfl, rfl, rfl, by decide +kernel, rfl, by decide +kernel, by decide +kernel⟩
def spColsT : Sp := fun vs H Q _ => ∃ (s : Addr) (sq : List Nat × List Nat) (n k : Nat), vs = [.ref s, vN k] ∧ Sq H s sq ∧ sq.1.length = n ∧ sq.2.length = n ∧ k < n ∧ n ≤ 6 ∧ ∀ H' p, Same H H' → H p = none → Sq H' p (tsq sq k) → Q (.ref p) H'
end
end RB

namespace RB
open PySem PySem.Spec PyProof.Rows L2
/-- the scope of the comprehension that a return's call holds -/
def lcScope : Expr → Scope
  | .Call _ (.ListComp _ _ sc _ :: _) _ _ => sc
  | _ => { kind := .function, names := [], isGenerator := false, isCoroutine := false }
def retE : Stmt → Expr
  | .Return (some e) _ => e
  | _ => .Constant .none 0 ⟨0, 0, 0, 0⟩
section
variable {P : Program} {w : World} {K : PySem.W.Frag} {mg : Str → Option Value} {base : Heap}
def scOut : Scope := lcScope (retE ((defBody sColsT).getD 1 (.Pass ⟨0, 0, 0, 0⟩)))
theorem ok_colsT {f : Addr} {fd : FuncData} {k : Nat} (d : Dm K mg "columns_turned" sColsT ["square", "k"] f fd) (T : Txt mg) : FnOk P w K mg base CX0 (k + 1) f fd ["square", "k"] spColsT := by
  refine d.F.ok scColsT (fun vs H Q E h => ?_) (fun cdv A outer s H vs Q E hr h => ?_)
  · obtain ⟨s, sq, n, k, rfl, _⟩ := h
    rfl
  · obtain ⟨s, sq, n, k, rfl, hs, h1, h2, hk, hn, q⟩ := h
    refine ⟨_, pss_cons (ps_set (i := 2) scColsT.nd rfl (.inr rfl) (pe_callB call_len_seq (by rfl) T.len PySem.boot_len (pa_cons (pe_ix ix_tup (pv 0) pe_int (fun _ _ => rfl)) pa_nil)))
      (pss_one (ps_ret (pe_callTy call_tuple_of (by rfl) T.tup (by decide +kernel) (pa_cons
        (pe_lc (own := [("marks", 3)]) (g := gName 3) (tt := tYes) rfl scColsT.nd (pi_tup (pv 0))
          (blkOk_by (N := ["square", "k", "n", "marks", "column"]) (sc := defScope sColsT) (by decide +kernel)) (fun _ _ _ _ _ => pg_name (i := 3) scColsT.nd rfl (Or.inr rfl)) (fun _ _ _ _ _ => pts_nil)
          (fun _ _ _ _ _ => pe_callTy (clTup (K := K) rfl) (by rfl) T.tup (by decide +kernel) (pa_cons
            (pe_lc (own := [("column", 4)]) (g := gName 4) (tt := tYes) rfl scColsT.nd (pi_range1 rfl T.rng (pa_cons (pv 2) pa_nil))
              (blkOk_by (N := ["square", "k", "n", "marks", "column"]) (sc := relS scOut (defScope sColsT)) (by decide +kernel)) (fun _ _ _ _ _ => pg_name (i := 4) scColsT.nd rfl (Or.inl rfl)) (fun _ _ _ _ _ => pts_nil)
              (fun _ _ _ _ _ => pe_ix (ixT (K := K) rfl) (pv 3) (pe_op op_mod (pe_op op_sub (pv 4) (pv 1)) (pv 2)) (fun _ _ => rfl))) pa_nil))) pa_nil)))), ?_⟩
    obtain ⟨p, r, es, ep, er⟩ := hs.ex
    refine ⟨_, rfl, s, _, _, _, rfl, rfl, SqT.of es, atI_nat (j := 0) rfl, p, vI sq.1, rfl, .inr (SqT.of ep), ?_⟩
    rw [vI_len, h1]
    refine ⟨_, rfl, s, rfl, ⟨_, SqT.of es⟩, fun D hD => lc_tup (K := K) (a := s) (xs := [.ref p, .ref r])
      (fun i H' => Same H H' ∧ ∃ vs, H' D = some (.lst vs) ∧ Paired (Stv H') vs ([trn sq.1 k, trn sq.2 k].take i) ∧ vs.length ≤ i)
      ⟨same_upd hD, [], upd_same, .nil, Nat.le_refl _⟩ (fun i H' _ z => SqT.of (z.1 _ _ es)) ?_ ?_⟩
    · rintro i v H1 hi ⟨s1, vs, eD, pr, hv⟩
      obtain ⟨m, t, rfl, et, hm, hti⟩ : ∃ (m : List Nat) (t : Addr), v = .ref t ∧ H t = some (.tup (vI m)) ∧ m.length = n ∧ [trn sq.1 k, trn sq.2 k][i]? = some (trn m k) := by
        match i, hi with
        | 0, hi => exact ⟨sq.1, p, (Option.some.inj hi).symm, ep, h1, rfl⟩
        | 1, hi => exact ⟨sq.2, r, (Option.some.inj hi).symm, er, h2, rfl⟩
        | i + 2, hi => cases hi
      have hi2 : i < 2 := (List.getElem?_eq_some_iff.mp hi).1
      refine ⟨rfl, yes ?_⟩
      refine ⟨_, rfl, (n : Int), rfl, by omega, by omega, fun D' hD' => lc_range (lo := 0) (n := n)
        (fun j H' => Same H1 H' ∧ H' D' = some (.lst (vI ((trn m k).take j)))) ⟨same_upd hD', upd_same⟩ ?_ ?_⟩
      · rintro j H2 hj ⟨s2, eD'⟩
        rw [Int.zero_add]
        refine ⟨rfl, yes ?_⟩
        refine ⟨_, rfl, _, rfl, _, rfl, _, _, rfl, rfl, _, rfl, _, _, rfl, rfl, (by show (0 : Int) < (n : Int); omega), t, vI m, _, vN (gt m ((j + m.length - k) % m.length)), rfl, rfl, SqT.of (s2 _ _ (s1 _ _ et)), ?_, _, eD', ?_, fun b u e => ?_, ?_⟩
        · show atI (vI m) (((j : Int) - (k : Int)) % (n : Int)) = _
          rw [sub_mod (Nat.le_of_lt hk), hm]
          exact atI_nat (vI_gt (by rw [hm]; exact Nat.mod_lt _ (by omega)))
        · rw [vI_len, List.length_take]
          exact small1000 (by omega)
        · rw [upd_ne (ne_of_none e hD')]
          exact s2 _ _ e
        · rw [upd_same, List.take_add_one, trn_get (by omega)]
          unfold vI
          rw [List.map_append]
          rfl
      · rintro H2 ⟨s2, eD'⟩
        rw [List.take_of_length_le (by rw [trn_len, hm]; exact Nat.le_refl _)] at eD'
        refine ⟨D', _, rfl, .inl ⟨SqL.of eD', fun l hl => ?_⟩⟩
        have s3 := same_new (o := .tup (vI (trn m k))) s2 (s2.free hl)
        have eD3 := s3 _ _ eD
        refine ⟨vs, eD3, small1000 (by omega), fun b u e => ?_, _, upd_same, ?_, ?_⟩
        · rw [upd_ne (ne_of_none e hD)]
          exact s3 _ _ (s1 _ _ e)
        · rw [List.take_add_one, hti]
          have tp := Tups.list (u := .lst (vs ++ [.ref l])) eD3
          exact pr_app (pr_mono pr fun _ _ z => z.tups ((sameTups s3).trans tp)) (.cons ⟨l, rfl, tp _ _ upd_same⟩ .nil)
        · rw [List.length_append]
          show vs.length + 1 ≤ i + 1
          omega
    · rintro H1 ⟨s1, vs, eD, pr, hv⟩
      have pr' : Paired (Stv H1) vs [trn sq.1 k, trn sq.2 k] := pr
      cases pr' with
      | cons a t =>
        cases t with
        | cons b t =>
          cases t
          obtain ⟨ta, rfl, ea⟩ := a
          obtain ⟨tb, rfl, eb⟩ := b
          refine ⟨D, _, rfl, .inl ⟨SqL.of eD, fun l hl => ?_⟩⟩
          exact q _ l (same_new s1 (s1.free hl)) (s1.free hl) ⟨ta, tb, upd_same, same_upd hl _ _ ea, same_upd hl _ _ eb⟩
end
end RB

namespace RB
open PySem PySem.Spec PyProof.Rows L2
/-! ### the bag: two numbers, changed by each draw -/
def Bag (a b : Int) : Prop := 0 ≤ a ∧ 0 ≤ b ∧ (b ≠ 0 → a < 2147483647)
def BagAt (H : Hp) (p : Addr) : Prop := ∃ a b, H p = some (.lst [.int a, .int b]) ∧ Bag a b
/-- all but p is as it was -/
def SameB (p : Addr) (H H' : Hp) : Prop := ∀ b o, b ≠ p → H b = some o → H' b = some o
theorem SameB.refl {p : Addr} {H : Hp} : SameB p H H := fun _ _ _ e => e
theorem SameB.trans {p : Addr} {H H1 H2 : Hp} (a : SameB p H H1) (b : SameB p H1 H2) : SameB p H H2 := fun c o h e => b c o h (a c o h e)
theorem SameB.of {p : Addr} {H H1 : Hp} (a : Same H H1) : SameB p H H1 := fun c o _ e => a c o e
theorem SameB.upd {p : Addr} {H : Hp} {o : HO} : SameB p H (L2.upd H p o) := fun c u h e => by
  rw [upd_ne h]
  exact e
theorem SameB.new {p q : Addr} {H0 H : Hp} {o : HO} (s : SameB p H0 H) (h : H0 q = none) : SameB p H0 (L2.upd H q o) := fun b x hb e => by
  rw [upd_ne (ne_of_none e h)]
  exact s b x hb e
theorem SameB.free {p r : Addr} {H H' : Hp} (s : SameB p H H') (h : H' r = none) (hp : ∃ o, H' p = some o) : H r = none := by
  cases e : H r with
  | none => rfl
  | some o =>
    obtain ⟨u, hu⟩ := hp
    have ne : r ≠ p := fun z => by
      rw [z, hu] at h
      cases h
    rw [s r o ne e] at h
    cases h
theorem SameB.same {p : Addr} {H0 H H' : Hp} (s : SameB p H H') (a : Same H0 H) (h : H0 p = none) : Same H0 H' := fun b o e => s b o (ne_of_none e h) (a b o e)
theorem SameB.tups {p : Addr} {H H' : Hp} (s : SameB p H H') {xs : List V} (h : H p = some (.lst xs)) : Tups H H' := fun b ys e => s b _ (ne_of e h (by intro z; cases z)) e
theorem BagAt.ex {H : Hp} {p : Addr} (h : BagAt H p) : ∃ o, H p = some o := by
  obtain ⟨a, b, e, _⟩ := h
  exact ⟨_, e⟩
theorem BagAt.tups {H H' : Hp} {p : Addr} (h : BagAt H p) (s : SameB p H H') : Tups H H' := by
  obtain ⟨a, b, e, _⟩ := h
  exact s.tups e
theorem BagAt.same {H H' : Hp} {p : Addr} (h : BagAt H p) (s : Same H H') : BagAt H' p := by
  obtain ⟨a, b, e, g⟩ := h
  exact ⟨a, b, s _ _ e, g⟩
/-- % by a positive divisor: some number below it -/
theorem op_modZ {X : Cx} : OpR X (binaryOp .Mod) (fun x y H Q => ∃ i j, x = .int i ∧ y = .int j ∧ 0 < j ∧ ∀ z, 0 ≤ z → z < j → Q (.int z) H) := fun pins s σ H x y v u Q I rx ry ⟨i, j, ex, ey, h, q⟩ =>
  op_mod pins s σ H x y v u Q I rx ry ⟨i, j, ex, ey, h, q _ (Int.emod_nonneg _ (by omega)) (Int.emod_lt_of_pos _ h)⟩
section
variable {P : Program} {w : World} {K : PySem.W.Frag} {mg : Str → Option Value} {base : Heap}
/-! ### _law_cell -/
theorem scCell : FnScope ["_law_script", "_law_k"] ["_law_script", "_law_k"] (defScope sCell) := ⟨rfl, rfl, rfl, by decide +kernel, rfl, by decide +kernel, by decide +kernel⟩
def spCell1 (K : PySem.W.Frag) : Sp := fun vs H Q _ => ∃ (a : Addr) (ns : List Int) (k : Nat), vs = [.ref a, vN k] ∧ SqL K H a (ns.map V.int) ∧ ∀ i, Q (.int i) H
theorem ok_cell {f : Addr} {fd : FuncData} {k : Nat} (d : Dm K mg "_law_cell" sCell ["_law_script", "_law_k"] f fd) (T : Txt mg) : FnOk P w K mg base CX0 (k + 1) f fd ["_law_script", "_law_k"] (spCell1 K) := by
  refine d.F.ok scCell (fun vs H Q E h => ?_) (fun cdv A outer s H vs Q E hr h => ?_)
  · obtain ⟨a, ns, k, rfl, _⟩ := h
    rfl
  · obtain ⟨a, ns, k, rfl, hs, q⟩ := h
    refine ⟨_, pss_cons (ps_if (pt_cmpR op_lt (pv 1) (pe_callB call_len_seq (by rfl) T.len PySem.boot_len (pa_cons (pv 0) pa_nil)) (nomark _)) (pss_one (ps_ret (pe_ix ix_list (pv 0) (pv 1) (fun _ _ => rfl)))) pss_nil)
      (pss_one (ps_ret pe_int)), ?_⟩
    refine ⟨_, rfl, _, rfl, a, _, rfl, .inl hs, _, _, rfl, rfl, _, rfl, ite2 (fun e => ?_) (fun e => ?_)⟩
    · have hk : k < ns.length := by
        have z := of_decide_eq_true e
        rw [List.length_map] at z
        omega
      refine ⟨_, rfl, _, rfl, a, _, _, _, rfl, rfl, hs, atI_nat (v := .int ns[k]) ?_, q _⟩
      rw [List.getElem?_map, List.getElem?_eq_getElem hk]
      rfl
    · exact q 0
/-! ### _law_bag -/
theorem scBag : FnScope ["_law_script", "_law_at", "_law_cell_here", "_law_mix", "_law_k"] ["_law_script", "_law_at"] (defScope sBag) := ⟨rfl, rfl, rfl, by decide +kernel, rfl, by decide +kernel, by decide +kernel⟩
def spBag (K : PySem.W.Frag) : Sp := fun vs H Q _ => ∃ (a : Addr) (ns : List Int) (k : Nat), vs = [.ref a, vN k] ∧ SqL K H a (ns.map V.int) ∧ ns.length ≤ 63 ∧ ∀ H' p, Same H H' → H p = none → BagAt H' p → Q (.ref p) H'
theorem ok_bag {f fC : Addr} {fd dC : FuncData} (d : Dm K mg "_law_bag" sBag ["_law_script", "_law_at"] f fd) (c : Dm K mg "_law_cell" sCell ["_law_script", "_law_k"] fC dC) (T : Txt mg) : FnOk P w K mg base CX0 2 f fd ["_law_script", "_law_at"] (spBag K) := by
  have GC : FnOk P w K mg base CX0 1 fC dC ["_law_script", "_law_k"] (spCell1 K) := ok_cell c T
  refine d.F.ok scBag (fun vs H Q E h => ?_) (fun cdv A outer s H vs Q E hr h => ?_)
  · obtain ⟨a, ns, k, rfl, _⟩ := h
    rfl
  · obtain ⟨a, ns, k, rfl, hs, hlen, q⟩ := h
    refine ⟨_, pss_cons (ps_set (i := 2) scBag.nd rfl (.inl rfl) (pe_op op_modZ (pe_callB call_abs (by rfl) T.abs (by decide +kernel) (pa_cons (pe_call GC hr (by rfl) c.g c.F.kp c.b .nil pass0 (pa_cons (pv 0) (pa_cons (pv 1) pa_nil))) pa_nil))
        (pe_op op_mulW (pe_op op_mulW (pe_op op_pow pe_int pe_int) (pe_op op_pow pe_int pe_int)) (pe_op op_pow pe_int pe_int))))
      (pss_cons (ps_if (pt_cmpR op_ge (pv 2) (pe_op op_pow pe_int pe_int) (nomark _)) (pss_one (ps_ret (pe_lst (pa_cons (pv 2) (pa_cons pe_int pa_nil))))) pss_nil)
      (pss_cons (ps_set (i := 3) scBag.nd rfl (.inl rfl) (pe_op op_modZ (pe_op op_add (pe_op op_add (pv 2) (pe_op op_mul pe_int (pv 1))) pe_int) pe_int))
      (pss_cons (ps_for PassesOwn.never rfl (pi_range1 rfl T.rng (pa_cons (pe_callB (call_min2 rfl) (by rfl) T.min (by decide +kernel) (pa_cons (pe_callB call_len_seq (by rfl) T.len PySem.boot_len (pa_cons (pv 0) pa_nil)) (pa_cons pe_int pa_nil))) pa_nil)) (pg_name (i := 4) scBag.nd rfl (Or.inl rfl))
        (pss_one (ps_set (i := 3) scBag.nd rfl (.inl rfl) (pe_op op_modZ (pe_op op_add (pe_op op_add (pe_op op_pow (pv 3) pe_int) (pe_op op_modZ (pe_ix ix_list (pv 0) (pv 4) (fun _ _ => rfl)) pe_int)) (pe_op op_mul pe_int (pv 4))) pe_int))))
      (pss_one (ps_ret (pe_lst (pa_cons (pv 3) (pa_cons pe_int pa_nil)))))))), ?_⟩
    have p60 : CPow 10 60 := ⟨by decide, by decide, by decide⟩
    refine ⟨_, rfl, _, rfl, a, ns, k, rfl, hs, fun i => ⟨i, rfl, ?_⟩⟩
    refine ⟨_, _, rfl, rfl, p60, _, _, rfl, rfl, p60, _, _, rfl, rfl, wide_mul (a := 200) (b := 200) (by decide +kernel) (by decide +kernel) (by decide) (by decide) (by decide), _, _, rfl, rfl, p60, _, _, rfl, rfl,
      wide_mul (a := 400) (b := 200) (by decide +kernel) (by decide +kernel) (by decide) (by decide) (by decide), _, _, rfl, rfl, (by decide +kernel), fun cell hc0 _ => ?_⟩
    refine ⟨_, rfl, _, _, rfl, rfl, ⟨by decide, by decide, by decide⟩, _, _, rfl, rfl, _, rfl, ite2 (fun _ => ?_) (fun _ => ?_)⟩
    · refine ⟨_, rfl, (by show 2 ≤ sizeLine; decide), fun p np => ?_⟩
      exact q _ p (same_upd np) np ⟨cell, 0, upd_same, hc0, Int.le_refl _, fun z => absurd rfl z⟩
    · refine ⟨_, rfl, _, rfl, _, _, rfl, rfl, .inl (by decide), _, _, rfl, rfl, _, _, rfl, rfl, _, _, rfl, rfl, (by decide), fun mx hm1 hm2 => ?_⟩
      refine ⟨_, rfl, a, _, rfl, .inl hs, _, _, rfl, ?_⟩
      have em : (if (9 : Int) < (((ns.map V.int).length : Nat) : Int) then (9 : Int) else (((ns.map V.int).length : Nat) : Int)) = ((min ns.length 9 : Nat) : Int) := by
        rw [List.length_map]
        split <;> omega
      rw [em]
      refine ⟨_, rfl, by omega, by omega, for_range (lo := 0) (n := min ns.length 9)
        (fun j σ H' => ∃ (m : Int) (y : Option V), σ = [some (.ref a), some (vN k), some (.int cell), some (.int m), y] ∧ H' = H ∧ 0 ≤ m ∧ m < 2147483647)
        ⟨mx, none, rfl, rfl, hm1, hm2⟩ ?_ ?_⟩
      · rintro j σ H1 hj ⟨m, y, rfl, rfl, m0, m1⟩
        rw [Int.zero_add]
        have hj' : j < ns.length := by omega
        refine ⟨_, rfl, _, _, rfl, rfl, ⟨by decide, by decide, by omega⟩, _, rfl, _, rfl, a, _, _, .int ns[j], rfl, rfl, hs, atI_nat ?_, _, _, rfl, rfl, (by decide), fun z _ _ => ⟨_, _, rfl, rfl, _, rfl, _, _, rfl, rfl, .inl (by decide), _, _, rfl, rfl, _, _, rfl, rfl, (by decide), fun m' h1 h2 => ⟨m', _, rfl, rfl, h1, h2⟩⟩⟩
        rw [List.getElem?_map, List.getElem?_eq_getElem hj']
        rfl
      · rintro σ H1 ⟨m, y, rfl, rfl, m0, m1⟩
        refine ⟨_, rfl, (by show 2 ≤ sizeLine; decide), fun p np => ?_⟩
        exact q _ p (same_upd np) np ⟨m, 1, upd_same, m0, by decide, fun _ => m1⟩
/-! ### _law_take -/
theorem scTake : FnScope ["_law_bag_here", "_law_many", "_law_digit"] ["_law_bag_here", "_law_many"] (defScope sTake) := ⟨rfl, rfl, rfl, by decide +kernel, rfl, by decide +kernel, by decide +kernel⟩
def spTake : Sp := fun vs H Q _ => ∃ (p : Addr) (m : Nat), vs = [.ref p, vN m] ∧ 1 ≤ m ∧ m ≤ 1000 ∧ BagAt H p ∧ ∀ (H' : Hp) (r : Nat), r < m → SameB p H H' → BagAt H' p → Q (vN r) H'
theorem ok_take {f : Addr} {fd : FuncData} {k : Nat} (d : Dm K mg "_law_take" sTake ["_law_bag_here", "_law_many"] f fd) : FnOk P w K mg base CX0 (k + 1) f fd ["_law_bag_here", "_law_many"] spTake := by
  refine d.F.ok scTake (fun vs H Q E h => ?_) (fun cdv A outer s H vs Q E hr h => ?_)
  · obtain ⟨p, m, rfl, _⟩ := h
    rfl
  · obtain ⟨p, m, rfl, hm, hm2, ⟨a, b, hp, h0, h1, h2⟩, q⟩ := h
    have m0 : (0 : Int) < (m : Int) := by omega
    refine ⟨_, pss_cons (ps_if (pt_cmpR op_eq (pe_ix ix_list (pv 0) pe_int (fun _ _ => rfl)) pe_int (nomark _))
        (pss_cons (ps_set (i := 2) scTake.nd rfl (.inl rfl) (pe_op op_modZ (pe_ix ix_list (pv 0) pe_int (fun _ _ => rfl)) (pv 1)))
        (pss_cons (ps_asg (pe_op op_fdivW (pe_ix ix_list (pv 0) pe_int (fun _ _ => rfl)) (pv 1)) (pg_sub (pv 0) pe_int set_list))
        (pss_one (ps_ret (pv 2))))) pss_nil)
      (pss_cons (ps_asg (pe_op op_modZ (pe_op op_add (pe_op op_add (pe_op op_pow (pe_ix ix_list (pv 0) pe_int (fun _ _ => rfl)) pe_int) (pe_op op_mul pe_int (pe_ix ix_list (pv 0) pe_int (fun _ _ => rfl)))) pe_int) pe_int) (pg_sub (pv 0) pe_int set_list))
      (pss_cons (ps_asg (pe_op op_add (pe_ix ix_list (pv 0) pe_int (fun _ _ => rfl)) pe_int) (pg_sub (pv 0) pe_int set_list))
      (pss_one (ps_ret (pe_op op_modZ (pe_op op_fdiv (pe_op op_modZ (pe_op op_mul (pe_ix ix_list (pv 0) pe_int (fun _ _ => rfl)) pe_int) pe_int) pe_int) (pv 1)))))), ?_⟩
    refine ⟨_, rfl, p, _, _, _, rfl, rfl, SqL.of hp, atI_nat (j := 1) rfl, rfl, _, rfl, ite2 (fun e => ?_) (fun e => ?_)⟩
    · refine ⟨_, rfl, p, _, _, _, rfl, rfl, SqL.of hp, atI_nat (j := 0) rfl, _, rfl, _, _, rfl, rfl, m0, fun zr zr0 zr1 => ?_⟩
      obtain ⟨r, rfl⟩ : ∃ r : Nat, zr = (r : Int) := ⟨zr.toNat, by omega⟩
      refine ⟨_, rfl, p, _, _, _, rfl, rfl, SqL.of hp, atI_nat (j := 0) rfl, _, rfl, _, _, rfl, rfl, wide_div (b := 10) m0 (by omega) (by decide) (by decide), _, rfl, p, _, 0, 0, rfl, rfl, hp, rfl, ?_⟩
      refine ⟨_, rfl, ?_⟩
      have eb : b = 0 := V.int.inj (of_decide_eq_true e)
      refine q _ r (by omega) SameB.upd ⟨a / (m : Int), b, upd_same, Int.ediv_nonneg h0 (by omega), h1, fun z => absurd eb z⟩
    · have hb : b ≠ 0 := fun z => e (decide_eq_true (by rw [z]))
      have ha := h2 hb
      refine ⟨_, rfl, p, _, _, _, rfl, rfl, SqL.of hp, atI_nat (j := 0) rfl, _, _, rfl, rfl, ⟨by decide, by decide, by omega⟩, _, rfl, p, _, _, _, rfl, rfl, SqL.of hp, atI_nat (j := 1) rfl, _, _, rfl, rfl, .inl (by decide), _, _, rfl, rfl, _, _, rfl, rfl, _, _, rfl, rfl, (by decide), fun z hz0 hz1 => ⟨_, rfl, p, _, 0, 0, rfl, rfl, hp, rfl, ?_⟩⟩
      refine ⟨_, rfl, p, _, _, _, rfl, rfl, SqL.of upd_same, atI_nat (j := 1) rfl, _, _, rfl, rfl, _, rfl, p, _, 1, 1, rfl, rfl, upd_same, rfl, ?_⟩
      refine ⟨_, rfl, p, _, _, _, rfl, rfl, SqL.of upd_same, atI_nat (j := 0) rfl, _, _, rfl, rfl, .inr (by decide), _, _, rfl, rfl, (by decide), fun y _ _ => ⟨_, _, rfl, rfl, ⟨by decide, by decide⟩, _, rfl, _, _, rfl, rfl, m0, fun zr zr0 zr1 => ?_⟩⟩
      obtain ⟨r, rfl⟩ : ∃ r : Nat, zr = (r : Int) := ⟨zr.toNat, by omega⟩
      refine q _ r (by omega) (SameB.upd.trans SameB.upd) ⟨z, b + 1, upd_same, hz0, by omega, fun _ => hz1⟩
end
end RB

namespace RB
open PySem PySem.Spec PyProof.Rows L2
theorem rg_vI (n : Nat) : rgV 0 (n : Int) = vI (List.range n) := by
  unfold rgV vI
  rw [show ((n : Int) - 0).toNat = n by omega]
  refine List.map_congr_left fun i _ => ?_
  rw [Int.zero_add]
theorem dp_vI {K : PySem.W.Frag} {H : Hp} {l : Addr} {x : List Nat} (h : H l = some (.lst (vI x))) : Dp K H (.ref l) (.list ((zI x).map .int)) := .lst (SqL.of h) (dp_ints x)
theorem lay_ints : ∀ l : List Int, PyData.canLayAll0 (l.map .int) = true
  | [] => by simp [PyData.canLayAll0]
  | a :: r => by simp only [List.map_cons, PyData.canLayAll0, lay_ints r, PyData.canLay0, Bool.and_self]
theorem ints_shaped (x : List Nat) : SeqAt.shaped (.list ((zI x).map .int)) = true := by
  have h2 : PyData.depth (.list ((zI x).map .int)) ≤ 64 := by
    simp only [PyData.depth, PySem.W.depth_ints]
    omega
  show (PyData.canLay0 (.list ((zI x).map .int)) && decide (PyData.depth (.list ((zI x).map .int)) ≤ 64)) = true
  rw [Bool.and_eq_true]
  exact ⟨by simp only [PyData.canLay0]; exact lay_ints _, decide_eq_true h2⟩
theorem ints_nil (x : List Nat) : PyData.eqv (.list ((zI x).map .int)) (.list []) = decide (x = []) := by
  cases x with
  | nil => simp [zI, PyData.eqv, PyData.eqvAll]
  | cons a r => simp [zI, PyData.eqv, PyData.eqvAll]
theorem perm_erase {x : List Nat} {k : Nat} (h : k < x.length) : x.Perm (gt x k :: x.eraseIdx k) := by
  have e := get_gt h
  rw [List.getElem?_eq_getElem h] at e
  have e1 := Option.some.inj e
  rw [← e1, List.eraseIdx_eq_take_drop_succ]
  have h2 : x.take k ++ x[k] :: x.drop (k + 1) = x := by
    rw [List.getElem_cons_drop, List.take_append_drop]
  refine List.Perm.trans (List.Perm.of_eq h2.symm) ?_
  exact List.perm_middle
theorem vI_erase (x : List Nat) (k : Nat) : (vI x).eraseIdx k = vI (x.eraseIdx k) := by
  unfold vI
  rw [List.eraseIdx_eq_take_drop_succ, List.eraseIdx_eq_take_drop_succ, List.map_append, List.map_take, List.map_drop]
theorem vI_app (x y : List Nat) : vI x ++ vI y = vI (x ++ y) := by
  unfold vI
  rw [List.map_append]
theorem st_of_perm {n : Nat} {x : List Nat} (h : x.Perm (List.range n)) : IsSt n x :=
  ⟨by rw [h.length_eq, List.length_range], h.symm.nodup List.nodup_range, fun a ha => List.mem_range.mp (h.mem_iff.mp ha)⟩
theorem seqIx {n k : Nat} (h : k < n) : seqIndex? (k : Int) n = some k := (ixN_seq (ixN_nat h)).1
section
variable {P : Program} {w : World} {K : PySem.W.Frag} {mg : Str → Option Value} {base : Heap}
/-! ### _law_order -/
theorem scOrder : FnScope ["_law_bag_here", "_law_n", "_law_left", "_law_found"] ["_law_bag_here", "_law_n"] (defScope sOrder) := ⟨rfl, rfl, rfl, by decide +kernel, rfl, by decide +kernel, by decide +kernel⟩
def spOrder : Sp := fun vs H Q _ => ∃ (p : Addr) (n : Nat), vs = [.ref p, vN n] ∧ n ≤ 6 ∧ BagAt H p ∧ ∀ (H' : Hp) (r : Addr) (x : List Nat), SameB p H H' → H r = none → H' r = some (.lst (vI x)) → IsSt n x → BagAt H' p → Q (.ref r) H'
theorem ok_order {f fT : Addr} {fd dT : FuncData} (d : Dm K mg "_law_order" sOrder ["_law_bag_here", "_law_n"] f fd) (t : Dm K mg "_law_take" sTake ["_law_bag_here", "_law_many"] fT dT) (T : Txt mg) : FnOk P w K mg base CX0 2 f fd ["_law_bag_here", "_law_n"] spOrder := by
  have GT : FnOk P w K mg base CX0 1 fT dT ["_law_bag_here", "_law_many"] spTake := ok_take t
  refine d.F.ok scOrder (fun vs H Q E h => ?_) (fun cdv A outer s H vs Q E hr h => ?_)
  · obtain ⟨p, n, rfl, _⟩ := h
    rfl
  · obtain ⟨p, n, rfl, hn, hb, q⟩ := h
    refine ⟨_, pss_cons (ps_set (i := 2) scOrder.nd rfl (.inl rfl) (pe_listRg rfl (by rfl) T.lst (prg_1 (by rfl) T.rng (pv 1))))
      (pss_cons (ps_set (i := 3) scOrder.nd rfl (.inl rfl) (pe_lst pa_nil))
      (pss_cons (ps_while PassesOwn.never (pt_cmpR (op_neD hr.units) (pv 2) (pe_lst pa_nil) (nomark _))
        (pss_one (ps_expr (pe_bm PySem.F.plainAttrs_list PySem.F.slot_list_append PySem.F.type_list_append mt_append (pv 3) (pa_cons
          (pe_bm PySem.F.plainAttrs_list PySem.F.slot_list_pop PySem.F.type_list_pop mt_popAt (pv 2) (pa_cons
            (pe_call GT hr (by rfl) t.g t.F.kp t.b .nil pass0 (pa_cons (pv 0) (pa_cons (pe_callB call_len_seq (by rfl) T.len PySem.boot_len (pa_cons (pv 2) pa_nil)) pa_nil))) pa_nil)) pa_nil)))))
      (pss_one (ps_ret (pv 3))))), ?_⟩
    refine ⟨_, rfl, n, rfl, RgOk.of_le (by decide) (by omega) (by decide) (by omega), fun l nl => ?_⟩
    rw [rg_vI]
    have nlp : l ≠ p := fun e => by
      obtain ⟨o, ho⟩ := hb.ex
      rw [e, ho] at nl
      cases nl
    refine ⟨Nat.zero_le _, fun o no => ?_⟩
    have nol : o ≠ l := fun e => by
      rw [e, upd_same] at no
      cases no
    have no0 : H o = none := by
      rw [upd_ne nol] at no
      exact no
    refine ⟨fun m σ H' => ∃ x y : List Nat, σ = [some (.ref p), some (vN n), some (.ref l), some (.ref o)] ∧ x.length = m ∧ (x ++ y).Perm (List.range n) ∧ SameB p H H' ∧ H' l = some (.lst (vI x)) ∧ H' o = some (.lst (vI y)) ∧ BagAt H' p,
      ⟨n, List.range n, [], rfl, List.length_range, by rw [List.append_nil], ?_, ?_, upd_same, ?_⟩, ?_⟩
    · exact (SameB.of (same_upd nl)).new no0
    · rw [upd_ne (Ne.symm nol), upd_same]
    · exact (hb.same (same_upd nl)).same (same_upd no)
    · rintro m σ H1 ⟨x, y, rfl, rfl, pm, sb, el, eo, bg⟩
      refine ⟨_, rfl, Nat.zero_le _, fun z nz => ?_⟩
      have sz : Same H1 (upd H1 z (.lst [])) := same_upd nz
      refine ⟨.list ((zI x).map .int), .list [], dp_vI (sz _ _ el), .lst (SqL.of upd_same) .nil, ints_shaped x, (by decide +kernel), _, rfl, ?_⟩
      rw [ints_nil]
      by_cases hx : x = []
      · rw [decide_eq_true hx]
        refine iteF ⟨_, rfl, ?_⟩
        subst hx
        rw [List.nil_append] at pm
        exact q _ o y (sb.trans (SameB.of sz)) no0 (sz _ _ eo) (st_of_perm pm) (bg.same sz)
      · rw [decide_eq_false hx]
        have hx0 : 0 < x.length := List.length_pos_iff.mpr hx
        have hxn : x.length ≤ n := by
          have e := pm.length_eq
          rw [List.length_append, List.length_range] at e
          omega
        refine iteT ⟨fun σ' H' => ∃ m', m' < x.length ∧ ∃ x y : List Nat, σ' = [some (.ref p), some (vN n), some (.ref l), some (.ref o)] ∧ x.length = m' ∧ (x ++ y).Perm (List.range n) ∧ SameB p H H' ∧ H' l = some (.lst (vI x)) ∧ H' o = some (.lst (vI y)) ∧ BagAt H' p, fun σ' H' z => z, ?_⟩
        have el2 := sz _ _ el
        have eo2 := sz _ _ eo
        have nop : o ≠ p := fun e => by
          obtain ⟨u, hu⟩ := hb.ex
          rw [e, hu] at no0
          cases no0
        refine ⟨_, rfl, .inl ⟨rfl, _, SqL.of eo2⟩, _, rfl, .inl ⟨rfl, _, SqL.of el2⟩, _, rfl, _, rfl, l, vI x, rfl, .inl (SqL.of el2), ?_⟩
        rw [vI_len]
        refine ⟨p, x.length, rfl, hx0, by omega, bg.same sz, fun H2 r hr2 sb2 bg2 => ?_⟩
        have el3 := sb2 _ _ nlp el2
        have eo3 := sb2 _ _ nop eo2
        refine ⟨l, vI x, (r : Int), r, vN (gt x r), rfl, rfl, el3, by omega, by omega, by rw [vI_len]; exact seqIx hr2, vI_gt hr2, ?_⟩
        have eo4 : (upd H2 l (.lst ((vI x).eraseIdx r))) o = some (.lst (vI y)) := (upd_ne nol).trans eo3
        refine ⟨o, vI y, _, rfl, rfl, eo4, ?_, ?_⟩
        · have e := pm.length_eq
          rw [List.length_append, List.length_range] at e
          rw [vI_len]
          exact small1000 (by omega)
        · have le : (x.eraseIdx r).length = x.length - 1 := by rw [List.length_eraseIdx, if_pos hr2]
          refine ⟨(x.eraseIdx r).length, by omega, x.eraseIdx r, y ++ [gt x r], rfl, rfl, ?_, ?_, ?_, ?_, ?_⟩
          · refine List.Perm.trans ?_ pm
            have p1 := perm_erase hr2
            have p2 : (x ++ y).Perm (gt x r :: (x.eraseIdx r ++ y)) := p1.append_right y
            refine List.Perm.trans ?_ p2.symm
            rw [← List.append_assoc]
            exact List.perm_append_singleton _ _
          · exact (((sb.trans (SameB.of sz)).trans sb2).new nl).new no0
          · rw [upd_ne (Ne.symm nol), upd_same, vI_erase]
          · rw [upd_same]
            exact congrArg (fun z => some (HO.lst z)) (vI_app y [gt x r])
          · obtain ⟨a, b, eb, gb⟩ := bg2
            exact ⟨a, b, by rw [upd_ne (Ne.symm nop), upd_ne (Ne.symm nlp)]; exact eb, gb⟩
end
end RB

namespace RB
open PySem PySem.Spec PyProof.Rows L2
section
variable {P : Program} {w : World} {K : PySem.W.Frag} {mg : Str → Option Value} {base : Heap}
/-! ### _law_square -/
theorem scSquare : FnScope ["_law_bag_here", "_law_n", "_law_plain", "_law_by", "_law_rings", "_law_crosses", "_law_c", "_law_d", "_law_row"] ["_law_bag_here", "_law_n"] (defScope sSquare) := ⟨rfl, rfl, rfl, by decide +kernel, rfl, by decide +kernel, by decide +kernel⟩
def spSquare : Sp := fun vs H Q _ => ∃ (p : Addr) (n : Nat), vs = [.ref p, vN n] ∧ 2 ≤ n ∧ n ≤ 6 ∧ BagAt H p ∧ ∀ (H' : Hp) (s : Addr) (sq : List Nat × List Nat), SameB p H H' → H s = none → Sq H' s sq → IsSt n sq.1 → sq.2.length = n → BagAt H' p → Q (.ref s) H'
/-- two lists made since H, apart from the bag and from each other -/
structure Two (p : Addr) (H H' : Hp) (r c : Addr) (ρ χ : List Nat) : Prop where
  sb : SameB p H H'
  nr : H r = none
  nc : H c = none
  er : H' r = some (.lst (vI ρ))
  ec : H' c = some (.lst (vI χ))
  ne : r ≠ c
  bg : BagAt H' p
theorem ok_square {f fT fO : Addr} {fd dT dO : FuncData} (d : Dm K mg "_law_square" sSquare ["_law_bag_here", "_law_n"] f fd) (t : Dm K mg "_law_take" sTake ["_law_bag_here", "_law_many"] fT dT)
    (o : Dm K mg "_law_order" sOrder ["_law_bag_here", "_law_n"] fO dO) (T : Txt mg) : FnOk P w K mg base CX0 3 f fd ["_law_bag_here", "_law_n"] spSquare := by
  have GT : FnOk P w K mg base CX0 1 fT dT ["_law_bag_here", "_law_many"] spTake := ok_take t
  have GO : FnOk P w K mg base CX0 2 fO dO ["_law_bag_here", "_law_n"] spOrder := ok_order o t T
  refine d.F.ok scSquare (fun vs H Q E h => ?_) (fun cdv A outer s H vs Q E hr h => ?_)
  · obtain ⟨p, n, rfl, _⟩ := h
    rfl
  · obtain ⟨p, n, rfl, hn2, hn, hb, q⟩ := h
    have hr1 : Room 1 _ := hr.mono (by decide)
    refine ⟨_, pss_cons (ps_set (i := 2) scSquare.nd rfl (.inl rfl) (pe_call GT hr1 (by rfl) t.g t.F.kp t.b .nil pass0 (pa_cons (pv 0) (pa_cons pe_int pa_nil))))
      (pss_cons (ps_set (i := 3) scSquare.nd rfl (.inr rfl) (pe_op op_add pe_int (pe_call GT hr1 (by rfl) t.g t.F.kp t.b .nil pass0 (pa_cons (pv 0) (pa_cons (pe_op op_sub (pv 1) pe_int) pa_nil)))))
      (pss_cons (ps_set (i := 4) scSquare.nd rfl (.inl rfl) (pe_call GO hr (by rfl) o.g o.F.kp o.b .nil pass0 (pa_cons (pv 0) (pa_cons (pv 1) pa_nil))))
      (pss_cons (ps_set (i := 5) scSquare.nd rfl (.inl rfl) (pe_call GO hr (by rfl) o.g o.F.kp o.b .nil pass0 (pa_cons (pv 0) (pa_cons (pv 1) pa_nil))))
      (C8.pss_cut (ps_if (pt_cmpR op_eq (pv 2) pe_int (nomark _))
          (pss_cons (ps_set (i := 4) scSquare.nd rfl (.inl rfl) (pe_listRg rfl (by rfl) T.lst (prg_1 (by rfl) T.rng (pv 1))))
          (pss_one (ps_setLc (i := 5) (own := [("_law_row", 8)]) (g := gName 8) (tt := tYes) rfl scSquare.nd rfl rfl (sw_true rfl rfl rfl (by decide +kernel)) (pi_list (pv 4))
            (blkOk_by (N := ["_law_bag_here", "_law_n", "_law_plain", "_law_by", "_law_rings", "_law_crosses", "_law_c", "_law_d", "_law_row"]) (sc := defScope sSquare) (by decide +kernel))
            (fun _ _ _ _ _ => pg_name (i := 8) scSquare.nd rfl (Or.inl rfl)) (fun _ _ _ _ _ => pts_nil)
            (fun _ _ _ _ _ => pe_op op_mod (pe_op op_add (pv 8) (pv 3)) (pv 1))))) pss_nil)
      (pss_cons (ps_for PassesOwn.never rfl (pi_range1 rfl T.rng (pa_cons (pv 1) pa_nil)) (pg_name (i := 6) scSquare.nd rfl (Or.inl rfl))
        (pss_cons (ps_set (i := 7) scSquare.nd rfl (.inl rfl) (pe_op op_mod (pe_op op_add (pv 6) pe_int) (pv 1)))
        (pss_one (ps_if (pt_cmpR op_eq (pe_ix ix_list (pv 5) (pv 6) (fun _ _ => rfl)) (pe_ix ix_list (pv 4) (pv 6) (fun _ _ => rfl)) (nomark _))
          (pss_one (ps_asg (pe_tup (pa_cons (pe_ix ix_list (pv 5) (pv 7) (fun _ _ => rfl)) (pa_cons (pe_ix ix_list (pv 5) (pv 6) (fun _ _ => rfl)) pa_nil)))
            (pg_tup rfl (pgs_cons (pg_sub (pv 5) (pv 6) set_list) (pgs_cons (pg_sub (pv 5) (pv 7) set_list) pgs_nil))))) pss_nil))))
      (pss_one (ps_ret (pe_tup (pa_cons (pe_callTy call_tuple_of (by rfl) T.tup (by decide +kernel) (pa_cons (pv 4) pa_nil)) (pa_cons (pe_callTy call_tuple_of (by rfl) T.tup (by decide +kernel) (pa_cons (pv 5) pa_nil)) pa_nil)))))))))), ?_⟩
    refine ⟨_, rfl, p, 4, rfl, by decide, by decide, hb, fun H1 v2 _ sb1 bg1 => ?_⟩
    refine ⟨_, rfl, _, rfl, _, _, rfl, rfl, p, n - 1, ?_, by omega, by omega, bg1, fun H2 v3 _ sb2 bg2 => ⟨_, _, rfl, rfl, ?_⟩⟩
    · have e : ((n : Nat) : Int) - 1 = ((n - 1 : Nat) : Int) := by omega
      exact congrArg (fun z : Int => [V.ref p, V.int z]) e
    refine ⟨_, rfl, _, rfl, p, n, rfl, hn, bg2, fun H3 r ρ sb3 nr er hρ bg3 => ?_⟩
    refine ⟨_, rfl, _, rfl, p, n, rfl, hn, bg3, fun H4 c χ sb4 nc ec hχ bg4 => ?_⟩
    have sb24 := sb1.trans sb2
    have nr0 : H r = none := sb24.free nr bg2.ex
    have nc0 : H c = none := (sb24.trans sb3).free nc bg3.ex
    have nrp : r ≠ p := fun e => by
      obtain ⟨u, hu⟩ := bg2.ex
      rw [e, hu] at nr
      cases nr
    have nrc : r ≠ c := ne_of_none er nc
    have two0 : Two p H H4 r c ρ χ := ⟨(sb24.trans sb3).trans sb4, nr0, nc0, sb4 _ _ nrp er, ec, nrc, bg4⟩
    refine ⟨fun σ' H' => ∃ (r c : Addr) (ρ χ : List Nat) (y6 y7 y8 : Option V) (y3 : V), σ' = [some (.ref p), some (vN n), some (vN v2), some y3, some (.ref r), some (.ref c), y6, y7, y8] ∧ Two p H H' r c ρ χ ∧ IsSt n ρ ∧ χ.length = n, ?_, ?_⟩
    · refine ⟨_, rfl, rfl, _, rfl, ite2 (fun _ => ?_) (fun _ => ?_)⟩
      · refine ⟨_, rfl, n, rfl, RgOk.of_le (by decide) (by omega) (by decide) (by omega), fun l nl => ?_⟩
        rw [rg_vI]
        have sl := (SameB.of (p := p) (same_upd (o := .lst (vI (List.range n))) nl))
        have nlp : l ≠ p := fun e => by
          obtain ⟨u, hu⟩ := bg4.ex
          rw [e, hu] at nl
          cases nl
        refine ⟨_, rfl, l, rfl, ⟨_, SqL.of upd_same⟩, fun D hD => lc_list (K := K) (a := l) (xs := vI (List.range n))
          (fun i H' => Same (upd H4 l (.lst (vI (List.range n)))) H' ∧ H' D = some (.lst (vI (((List.range n).take i).map fun j => (j + (1 + v3)) % n))))
          ⟨same_upd hD, upd_same⟩ (fun i H' _ z => SqL.of (z.1 _ _ upd_same)) ?_ ?_⟩
        · rintro i v H5 hi ⟨s5, eD⟩
          obtain ⟨j, hj, rfl⟩ := getE_of_map hi
          have hin : i < n := by
            have z := (List.getElem?_eq_some_iff.mp hj).1
            rw [List.length_range] at z
            exact z
          refine ⟨rfl, yes ?_⟩
          refine ⟨_, rfl, _, rfl, _, _, rfl, rfl, _, rfl, _, _, rfl, rfl, (by show (0 : Int) < (n : Int); omega), _, eD, ?_, fun b u e => ?_, ?_⟩
          · rw [vI_len, List.length_map, List.length_take]
            exact small1000 (by omega)
          · rw [upd_ne (ne_of_none e hD)]
            exact s5 _ _ e
          · rw [upd_same, map_take_succ _ hj, ← vI_app]
            have e : ((j : Int) + (1 + (v3 : Int))) % (n : Int) = (((j + (1 + v3)) % n : Nat) : Int) := by
              rw [← emodc]
              congr 1
            exact congrArg (fun z : Int => some (HO.lst (vI (((List.range n).take i).map fun j => (j + (1 + v3)) % n) ++ [V.int z]))) e
        · rintro H5 ⟨s5, eD⟩
          rw [vI_len, List.take_length] at eD
          have nD4 : H4 D = none := by
            have ne : D ≠ l := fun e => by
              rw [e, upd_same] at hD
              cases hD
            rw [upd_ne ne] at hD
            exact hD
          have sb5 : SameB p H4 H5 := sl.trans (SameB.of s5)
          have el5 : H5 l = some (.lst (vI (List.range n))) := s5 _ _ upd_same
          refine ⟨l, D, List.range n, _, _, _, _, _, rfl, ⟨two0.sb.trans sb5, two0.sb.free nl bg4.ex, two0.sb.free nD4 bg4.ex, el5, eD, ?_, (bg4.same (same_upd nl)).same s5⟩, st_of_perm (List.Perm.refl _), by rw [List.length_map, List.length_range]⟩
          intro e
          rw [← e, upd_same] at hD
          cases hD
      · exact ⟨r, c, ρ, χ, _, _, _, _, rfl, two0, hρ, hχ.1⟩
    · rintro σ5 H5 ⟨r, c, ρ, χ, y6, y7, y8, y3, rfl, tw, hρ, hχ⟩
      refine ⟨_, rfl, (n : Int), rfl, by omega, by omega, for_range (lo := 0) (n := n)
        (fun i σ H' => ∃ (χ : List Nat) (y6 y7 : Option V), σ = [some (.ref p), some (vN n), some (vN v2), some y3, some (.ref r), some (.ref c), y6, y7, y8] ∧ Two p H H' r c ρ χ ∧ χ.length = n)
        ⟨χ, y6, y7, rfl, tw, hχ⟩ ?_ ?_⟩
      · rintro i σ H6 hi ⟨χ, y6, y7, rfl, tw, hχ⟩
        rw [Int.zero_add]
        have hi1 : (i + 1) % n < n := Nat.mod_lt _ (by omega)
        refine ⟨_, rfl, _, _, rfl, rfl, _, rfl, _, _, rfl, rfl, (by show (0 : Int) < (n : Int); omega), ?_⟩
        have ed : ((i : Int) + 1) % (n : Int) = (((i + 1) % n : Nat) : Int) := emodc (i + 1) n
        refine ⟨_, rfl, _, rfl, c, _, _, _, rfl, rfl, SqL.of tw.ec, atI_nat (vI_gt (by omega)), _, rfl, _, rfl, r, _, _, _, rfl, rfl, SqL.of tw.er, atI_nat (vI_gt (by rw [hρ.1]; exact hi)), rfl, _, rfl, ite2 (fun _ => ?_) (fun _ => ?_)⟩
        · refine ⟨_, rfl, _, rfl, c, _, _, vN (gt χ ((i + 1) % n)), rfl, rfl, SqL.of tw.ec, ?_, _, rfl, _, rfl, c, _, _, _, rfl, rfl, SqL.of tw.ec, atI_nat (vI_gt (by omega)), (by show 2 ≤ sizeLine; decide), fun u nu => ?_⟩
          · show atI (vI χ) (((i : Int) + 1) % (n : Int)) = _
            rw [ed]
            exact atI_nat (vI_gt (by omega))
          · have nup : u ≠ p := fun e => by
              obtain ⟨z, hz⟩ := tw.bg.ex
              rw [e, hz] at nu
              cases nu
            have ncu : c ≠ u := ne_of_none tw.ec nu
            have nru : r ≠ u := ne_of_none tw.er nu
            have ecu : (upd H6 u (.tup [vN (gt χ ((i + 1) % n)), vN (gt χ i)])) c = some (.lst (vI χ)) := (upd_ne ncu).trans tw.ec
            refine ⟨u, _, rfl, SqT.of upd_same, rfl, _, _, rfl, _, rfl, _, rfl, c, _, _, i, rfl, rfl, ecu, by rw [vI_len]; exact ixN_nat (by omega), _, _, rfl, _, rfl, _, rfl, c, _, _, (i + 1) % n, rfl, rfl, upd_same, ?_, rfl, ?_⟩
            · rw [List.length_set, vI_len]
              show ixN χ.length (((i : Int) + 1) % (n : Int)) = _
              rw [ed]
              exact ixN_nat (by omega)
            · rw [vI_set, vI_set]
              have ncp : c ≠ p := fun e => by
                obtain ⟨a, b, hz, _⟩ := hb
                have z := tw.nc
                rw [e, hz] at z
                cases z
              refine ⟨_, _, _, rfl, ⟨?_, tw.nr, tw.nc, ?_, upd_same, tw.ne, ?_⟩, by rw [List.length_set, List.length_set]; exact hχ⟩
              · exact ((tw.sb.new (tw.sb.free nu tw.bg.ex)).new tw.nc).new tw.nc
              · rw [upd_ne tw.ne, upd_ne tw.ne, upd_ne nru]
                exact tw.er
              · obtain ⟨a, b, hz, gz⟩ := tw.bg
                exact ⟨a, b, by rw [upd_ne (Ne.symm ncp), upd_ne (Ne.symm ncp), upd_ne (Ne.symm nup)]; exact hz, gz⟩
        · exact ⟨χ, _, _, rfl, tw, hχ⟩
      · rintro σ H6 ⟨χ, y6, y7, rfl, tw, hχ⟩
        refine ⟨_, rfl, r, vI ρ, rfl, .inl ⟨SqL.of tw.er, fun a na => ?_⟩⟩
        have sa : Same H6 (upd H6 a (.tup (vI ρ))) := same_upd na
        refine ⟨_, rfl, c, vI χ, rfl, .inl ⟨SqL.of (sa _ _ tw.ec), fun b nb => ?_⟩⟩
        have sb' : Same (upd H6 a (.tup (vI ρ))) (upd (upd H6 a (.tup (vI ρ))) b (.tup (vI χ))) := same_upd nb
        refine ⟨(by show 2 ≤ sizeLine; decide), fun u nu => ?_⟩
        have su : Same (upd (upd H6 a (.tup (vI ρ))) b (.tup (vI χ))) (upd (upd (upd H6 a (.tup (vI ρ))) b (.tup (vI χ))) u (.tup [.ref a, .ref b])) := same_upd nu
        have sall := (sa.trans sb').trans su
        refine q _ u (ρ, χ) (tw.sb.trans (SameB.of sall)) ?_ ⟨a, b, upd_same, su _ _ (sb' _ _ upd_same), su _ _ upd_same⟩ hρ hχ (tw.bg.same sall)
        exact tw.sb.free ((sa.trans sb').free nu) tw.bg.ex
end
end RB

namespace RB
open PySem PySem.Spec PyProof.Rows L2
theorem units65 {k : Nat} {A : Around} (hr : Room k A) : A.units + 65 < cLine := by
  have h := hr.un
  omega
section
variable {P : Program} {w : World} {K : PySem.W.Frag} {mg : Str → Option Value} {base : Heap}
/-! ### _law_crowd -/
theorem scCrowd : FnScope ["_law_bag_here", "_law_n", "_law_found", "_law_turn", "_law_stand"] ["_law_bag_here", "_law_n"] (defScope sCrowd) := ⟨rfl, rfl, rfl, by decide +kernel, rfl, by decide +kernel, by decide +kernel⟩
def spCrowd : Sp := fun vs H Q _ => ∃ (p : Addr) (n : Nat), vs = [.ref p, vN n] ∧ 1 ≤ n ∧ n ≤ 6 ∧ BagAt H p ∧ ∀ (H' : Hp) (c : Addr) (us : List V) (zs : List (List Nat)), SameB p H H' → H c = none → H' c = some (.lst us) → Paired (Stv H') us zs → (∀ z ∈ zs, IsSt n z) → zs.length ≤ 6 → BagAt H' p → Q (.ref c) H'
theorem ok_crowd {f fT fO : Addr} {fd dT dO : FuncData} (d : Dm K mg "_law_crowd" sCrowd ["_law_bag_here", "_law_n"] f fd) (t : Dm K mg "_law_take" sTake ["_law_bag_here", "_law_many"] fT dT)
    (o : Dm K mg "_law_order" sOrder ["_law_bag_here", "_law_n"] fO dO) (T : Txt mg) : FnOk P w K mg base CX0 3 f fd ["_law_bag_here", "_law_n"] spCrowd := by
  have GT : FnOk P w K mg base CX0 1 fT dT ["_law_bag_here", "_law_many"] spTake := ok_take t
  have GO : FnOk P w K mg base CX0 2 fO dO ["_law_bag_here", "_law_n"] spOrder := ok_order o t T
  refine d.F.ok scCrowd (fun vs H Q E h => ?_) (fun cdv A outer s H vs Q E hr h => ?_)
  · obtain ⟨p, n, rfl, _⟩ := h
    rfl
  · obtain ⟨p, n, rfl, hn1, hn, hb, q⟩ := h
    have hr1 : Room 1 _ := hr.mono (by decide)
    refine ⟨_, pss_cons (ps_set (i := 2) scCrowd.nd rfl (.inl rfl) (pe_lst pa_nil))
      (pss_cons (ps_for PassesOwn.never rfl (pi_range1 rfl T.rng (pa_cons (pe_call GT hr1 (by rfl) t.g t.F.kp t.b .nil pass0 (pa_cons (pv 0) (pa_cons pe_int pa_nil))) pa_nil)) (pg_name (i := 3) scCrowd.nd rfl (Or.inl rfl))
        (pss_cons (ps_set (i := 4) scCrowd.nd rfl (.inl rfl) (pe_callTy call_tuple_of (by rfl) T.tup (by decide +kernel) (pa_cons (pe_call GO hr (by rfl) o.g o.F.kp o.b .nil pass0 (pa_cons (pv 0) (pa_cons (pv 1) pa_nil))) pa_nil)))
        (pss_one (ps_if (pt_cmpR (op_notInD (units65 hr)) (pv 4) (pv 2) rfl)
          (pss_one (ps_expr (pe_bm PySem.F.plainAttrs_list PySem.F.slot_list_append PySem.F.type_list_append mt_append (pv 2) (pa_cons (pv 4) pa_nil)))) pss_nil))))
      (pss_one (ps_ret (pe_callB (cr_sortS hr.units) (by rfl) T.srt (by decide +kernel) (pa_cons (pv 2) pa_nil))))), ?_⟩
    refine ⟨Nat.zero_le _, fun l nl => ?_⟩
    have nlp : l ≠ p := fun e => by
      obtain ⟨u, hu⟩ := hb.ex
      rw [e, hu] at nl
      cases nl
    refine ⟨_, rfl, p, 7, rfl, by decide, by decide, hb.same (same_upd nl), fun H1 r hr7 sb1 bg1 => ?_⟩
    refine ⟨(r : Int), rfl, by omega, by omega, for_range (lo := 0) (n := r)
      (fun i σ H' => ∃ (y3 y4 : Option V) (us : List V) (zs : List (List Nat)), σ = [some (.ref p), some (vN n), some (.ref l), y3, y4] ∧ SameB p H H' ∧ H' l = some (.lst us) ∧ Paired (Stv H') us zs ∧ (∀ z ∈ zs, IsSt n z) ∧ zs.length ≤ i ∧ BagAt H' p)
      ⟨none, none, [], [], rfl, (SameB.of (same_upd nl)).trans sb1, sb1 _ _ nlp upd_same, .nil, (fun _ h => by cases h), Nat.le_refl _, bg1⟩ ?_ ?_⟩
    · rintro i σ H2 hi ⟨y3, y4, us, zs, rfl, sb2, el, pr, hz, hl, bg2⟩
      rw [Int.zero_add]
      refine ⟨_, rfl, _, rfl, p, n, rfl, hn, bg2, fun H3 a x sb3 na ea hx bg3 => ?_⟩
      refine ⟨a, vI x, rfl, .inl ⟨SqL.of ea, fun b nb => ?_⟩⟩
      have s4 : Same H3 (upd H3 b (.tup (vI x))) := same_upd nb
      have el4 := s4 _ _ (sb3 _ _ nlp el)
      have tp : Tups H2 (upd H3 b (.tup (vI x))) := (bg2.tups sb3).trans (sameTups s4)
      have pr4 : Paired (Stv (upd H3 b (.tup (vI x)))) us zs := pr_mono pr fun _ _ z => z.tups tp
      have sb4 : SameB p H (upd H3 b (.tup (vI x))) := (sb2.trans sb3).trans (SameB.of s4)
      have bg4 := bg3.same s4
      refine ⟨_, rfl, _, rfl, dS x, zs.map dS, Stv.dp ⟨b, rfl, upd_same⟩, .lst (SqL.of el4) (dpAll_of pr4), dS_shaped x, dSs_shaped zs, _, rfl, ite2 (fun _ => ?_) (fun _ => ?_)⟩
      · have lus := pr_len pr
        refine ⟨_, rfl, .inl ⟨rfl, _, SqL.of el4⟩, _, rfl, l, us, _, rfl, rfl, el4, small1000 (by omega), ?_⟩
        have tp5 := Tups.list (u := .lst (us ++ [.ref b])) el4
        refine ⟨_, _, us ++ [.ref b], zs ++ [x], rfl, sb4.new nl, upd_same, pr_app (pr_mono pr4 fun _ _ z => z.tups tp5) (.cons ⟨b, rfl, tp5 _ _ upd_same⟩ .nil), ?_, ?_, ?_⟩
        · intro z hzm
          rcases List.mem_append.mp hzm with h | h
          · exact hz z h
          · rw [List.mem_singleton.mp h]
            exact hx
        · rw [List.length_append]
          show zs.length + 1 ≤ i + 1
          omega
        · obtain ⟨c1, c2, e1, g1⟩ := bg4
          exact ⟨c1, c2, by rw [upd_ne (Ne.symm nlp)]; exact e1, g1⟩
      · exact ⟨_, _, us, zs, rfl, sb4, el4, pr4, hz, by omega, bg4⟩
    · rintro σ H2 ⟨y3, y4, us, zs, rfl, sb2, el, pr, hz, hl, bg2⟩
      refine ⟨_, rfl, l, us, zs, rfl, SqL.of el, pr, ?_, fun ys ws c hpm hup hpr hlen nc => ?_⟩
      · intro z hzm e
        have h1 := (hz z hzm).1
        rw [e, List.length_nil] at h1
        omega
      · have s3 : Same H2 (upd H2 c (.lst ys)) := same_upd nc
        refine q _ c ys ws (sb2.trans (SameB.of s3)) (sb2.free nc bg2.ex) upd_same (pr_mono hpr fun _ _ z => z.tups (sameTups s3)) (fun z hzm => hz z (hpm.mem_iff.mp hzm)) ?_ (bg2.same s3)
        rw [hpm.length_eq]
        omega
end
end RB

namespace RB
open PySem PySem.Spec PyProof.Rows L2
/-- a list of stands at c -/
structure Crowd (n : Nat) (H : Hp) (c : Addr) (us : List V) (zs : List (List Nat)) : Prop where
  at_ : H c = some (.lst us)
  pr : Paired (Stv H) us zs
  st : ∀ z ∈ zs, IsSt n z
theorem Crowd.same {n : Nat} {H H' : Hp} {c : Addr} {us : List V} {zs : List (List Nat)} (h : Crowd n H c us zs) (s : Same H H') : Crowd n H' c us zs := ⟨s _ _ h.at_, pr_mono h.pr fun _ _ z => z.tups (sameTups s), h.st⟩
theorem Crowd.ne {n : Nat} {H : Hp} {c : Addr} {us : List V} {zs : List (List Nat)} (h : Crowd n H c us zs) (hn : 1 ≤ n) : ∀ z ∈ zs, z ≠ [] := fun z hz e => by
  have h1 := (h.st z hz).1
  rw [e, List.length_nil] at h1
  omega
theorem Crowd.dp {K : PySem.W.Frag} {n : Nat} {H : Hp} {c : Addr} {us : List V} {zs : List (List Nat)} (h : Crowd n H c us zs) : Dp K H (.ref c) (.list (zs.map dS)) := .lst (SqL.of h.at_) (dpAll_of h.pr)
theorem odd_st {n : Nat} {sq : List Nat × List Nat} {zs ws : List (List Nat)} (h : Odd (zs.flatMap (nxt sq)) ws) (hz : ∀ z ∈ zs, IsSt n z) : ∀ z ∈ ws, IsSt n z := fun z hw => by
  have h1 := (h.mem z).mp hw
  have h2 : z ∈ zs.flatMap (nxt sq) := Classical.byContradiction fun q => by
    rw [List.count_eq_zero_of_not_mem q] at h1
    omega
  obtain ⟨x, hx, hzx⟩ := List.mem_flatMap.mp h2
  exact nxt_st (hz x hx) hzx
theorem odd_mem {L ws : List (List Nat)} (h : Odd L ws) : ∀ z ∈ ws, z ∈ L := fun z hw => Classical.byContradiction fun q => by
  have h1 := (h.mem z).mp hw
  rw [List.count_eq_zero_of_not_mem q] at h1
  omega
section
variable {P : Program} {w : World} {K : PySem.W.Frag} {mg : Str → Option Value} {base : Heap}
theorem scLaw : FnScope ["_law_script", "_law_at", "_law_bag_here", "_law_n", "_law_k", "_law_square_here", "_law_one", "_law_other", "_law_crowd_here", "_law_around", "_law_moved_one", "_law_due", "_law_stand"] ["_law_script"] (defScope sLaw) :=
  ⟨rfl, rfl, rfl, by decide +kernel, rfl, by decide +kernel, by decide +kernel⟩
def spLaw (K : PySem.W.Frag) : Sp := fun vs H Q _ => ∃ (a : Addr) (ns : List Int), vs = [.ref a] ∧ SqL K H a (ns.map V.int) ∧ ns.length ≤ 63 ∧ ∀ H', Q (.bl true) H'
/-- all that the law rests on -/
structure Hi (K : PySem.W.Frag) (mg : Str → Option Value) (fS fO fA fB fC fT f1 f2 f3 f4 f5 f6 : Addr) (dS dO dA dB dC dT d1 d2 d3 d4 d5 d6 : FuncData) : Prop where
  st : Dm K mg "steps_from" sSteps ["square", "stand"] fS dS
  od : Dm K mg "odd_ones" sOdd ["stands"] fO dO
  ad : Dm K mg "added" sAdded ["one", "other"] fA dA
  bo : Dm K mg "border" sBorder ["square", "crowd"] fB dB
  ct : Dm K mg "columns_turned" sColsT ["square", "k"] fC dC
  tu : Dm K mg "stand_turned" sStandT ["stand", "k"] fT dT
  ce : Dm K mg "_law_cell" sCell ["_law_script", "_law_k"] f1 d1
  ba : Dm K mg "_law_bag" sBag ["_law_script", "_law_at"] f2 d2
  ta : Dm K mg "_law_take" sTake ["_law_bag_here", "_law_many"] f3 d3
  or : Dm K mg "_law_order" sOrder ["_law_bag_here", "_law_n"] f4 d4
  sq : Dm K mg "_law_square" sSquare ["_law_bag_here", "_law_n"] f5 d5
  cr : Dm K mg "_law_crowd" sCrowd ["_law_bag_here", "_law_n"] f6 d6
theorem ok_law {f fR fC' fW fH fB' fF fL fS fO fA fB fC fT f1 f2 f3 f4 f5 f6 : Addr} {fd dR dC' dW dH dB' dF dL dS dO dA dB dC dT d1 d2 d3 d4 d5 d6 : FuncData} (d : Fun K "law" "law" sLaw f fd)
    (L : Low K mg fR fC' fW fH fB' fF fL dR dC' dW dH dB' dF dL) (U : Hi K mg fS fO fA fB fC fT f1 f2 f3 f4 f5 f6 dS dO dA dB dC dT d1 d2 d3 d4 d5 d6) (T : Txt mg) : FnOk P w K mg base CX0 6 f fd ["_law_script"] (spLaw K) := by
  have GB : FnOk P w K mg base CX0 5 fB dB ["square", "crowd"] spBorder := ok_border U.bo U.od U.st L T
  have GA : FnOk P w K mg base CX0 2 fA dA ["one", "other"] spAdded := ok_added U.ad U.od T
  have GC : FnOk P w K mg base CX0 1 fC dC ["square", "k"] spColsT := ok_colsT U.ct T
  have GS : FnOk P w K mg base CX0 1 fT dT ["stand", "k"] spStandT := ok_standT U.tu T
  have G2 : FnOk P w K mg base CX0 2 f2 d2 ["_law_script", "_law_at"] (spBag K) := ok_bag U.ba U.ce T
  have G3 : FnOk P w K mg base CX0 1 f3 d3 ["_law_bag_here", "_law_many"] spTake := ok_take U.ta
  have G5 : FnOk P w K mg base CX0 3 f5 d5 ["_law_bag_here", "_law_n"] spSquare := ok_square U.sq U.ta U.or T
  have G6 : FnOk P w K mg base CX0 3 f6 d6 ["_law_bag_here", "_law_n"] spCrowd := ok_crowd U.cr U.ta U.or T
  refine d.ok scLaw (fun vs H Q E h => ?_) (fun cdv A outer s H vs Q E hr h => ?_)
  · obtain ⟨a, ns, rfl, _⟩ := h
    rfl
  · obtain ⟨a, ns, rfl, hs, hlen, q⟩ := h
    have hr1 : Room 1 _ := hr.mono (by decide)
    have hr2 : Room 2 _ := hr.mono (by decide)
    have hr3 : Room 3 _ := hr.mono (by decide)
    refine ⟨_, pss_cons (ps_for PassesOwn.never rfl (pi_range1 rfl T.rng (pa_cons pe_int pa_nil)) (pg_name (i := 1) scLaw.nd rfl (Or.inl rfl))
      (pss_cons (ps_set (i := 2) scLaw.nd rfl (.inl rfl) (pe_call G2 hr2 (by rfl) U.ba.g U.ba.F.kp U.ba.b .nil pass0 (pa_cons (pv 0) (pa_cons (pv 1) pa_nil))))
      (pss_cons (ps_set (i := 3) scLaw.nd rfl (.inl rfl) (pe_op op_add pe_int (pe_call G3 hr1 (by rfl) U.ta.g U.ta.F.kp U.ta.b .nil pass0 (pa_cons (pv 2) (pa_cons pe_int pa_nil)))))
      (pss_cons (ps_set (i := 4) scLaw.nd rfl (.inr rfl) (pe_call G3 hr1 (by rfl) U.ta.g U.ta.F.kp U.ta.b .nil pass0 (pa_cons (pv 2) (pa_cons (pv 3) pa_nil))))
      (pss_cons (ps_set (i := 5) scLaw.nd rfl (.inl rfl) (pe_call G5 hr3 (by rfl) U.sq.g U.sq.F.kp U.sq.b .nil pass0 (pa_cons (pv 2) (pa_cons (pv 3) pa_nil))))
      (pss_cons (ps_par (i := 6) (j := 7) (by rfl) scLaw.nd rfl rfl (by decide) rfl rfl (pa_cons (pe_call G6 hr3 (by rfl) U.cr.g U.cr.F.kp U.cr.b .nil pass0 (pa_cons (pv 2) (pa_cons (pv 3) pa_nil)))
        (pa_cons (pe_call G6 hr3 (by rfl) U.cr.g U.cr.F.kp U.cr.b .nil pass0 (pa_cons (pv 2) (pa_cons (pv 3) pa_nil))) pa_nil)) (by rfl))
      (pss_one (ps_for PassesOwn.never rfl (pi_list (pe_lst (pa_cons (pv 6) (pa_cons (pv 7) (pa_cons (pe_call GA hr2 (by rfl) U.ad.g U.ad.F.kp U.ad.b .nil pass0
          (pa_cons (pe_callTy call_list_of (by rfl) T.lst (by decide +kernel) (pa_cons (pv 6) pa_nil)) (pa_cons (pe_callTy call_list_of (by rfl) T.lst (by decide +kernel) (pa_cons (pv 7) pa_nil)) pa_nil))) pa_nil))))) (pg_name (i := 8) scLaw.nd rfl (Or.inl rfl))
        (pss_cons (ps_set (i := 9) scLaw.nd rfl (.inl rfl) (pe_call GB hr (by rfl) U.bo.g U.bo.F.kp U.bo.b .nil pass0 (pa_cons (pv 5) (pa_cons (pe_callTy call_list_of (by rfl) T.lst (by decide +kernel) (pa_cons (pv 8) pa_nil)) pa_nil))))
        (pss_cons (ps_if (pt_cmpR (op_neD hr.units) (pe_call GB hr (by rfl) U.bo.g U.bo.F.kp U.bo.b .nil pass0 (pa_cons (pv 5) (pa_cons (pe_callTy call_list_of (by rfl) T.lst (by decide +kernel) (pa_cons (pv 9) pa_nil)) pa_nil))) (pe_lst pa_nil) (nomark _)) (pss_one (ps_ret pe_bl)) pss_nil)
        (pss_cons (ps_set (i := 10) scLaw.nd rfl (.inl rfl) (pe_callB (cr_sortS hr.units) (by rfl) T.srt (by decide +kernel) (pa_cons
          (pe_lc (own := [("_law_stand", 12)]) (g := gName 12) (tt := tYes) rfl scLaw.nd (pi_list (pv 8))
            (blkOk_by (N := ["_law_script", "_law_at", "_law_bag_here", "_law_n", "_law_k", "_law_square_here", "_law_one", "_law_other", "_law_crowd_here", "_law_around", "_law_moved_one", "_law_due", "_law_stand"]) (sc := defScope sLaw) (by decide +kernel))
            (fun _ _ _ _ _ => pg_name (i := 12) scLaw.nd rfl (Or.inl rfl)) (fun _ _ _ _ _ => pts_nil)
            (fun _ _ _ _ _ => pe_call GS hr1 (by rfl) U.tu.g U.tu.F.kp U.tu.b .nil pass0 (pa_cons (pv 12) (pa_cons (pv 4) pa_nil)))) pa_nil)))
        (pss_cons (ps_set (i := 11) scLaw.nd rfl (.inl rfl) (pe_callB (cr_sortS hr.units) (by rfl) T.srt (by decide +kernel) (pa_cons
          (pe_lc (own := [("_law_stand", 12)]) (g := gName 12) (tt := tYes) rfl scLaw.nd (pi_list (pv 9))
            (blkOk_by (N := ["_law_script", "_law_at", "_law_bag_here", "_law_n", "_law_k", "_law_square_here", "_law_one", "_law_other", "_law_crowd_here", "_law_around", "_law_moved_one", "_law_due", "_law_stand"]) (sc := defScope sLaw) (by decide +kernel))
            (fun _ _ _ _ _ => pg_name (i := 12) scLaw.nd rfl (Or.inl rfl)) (fun _ _ _ _ _ => pts_nil)
            (fun _ _ _ _ _ => pe_call GS hr1 (by rfl) U.tu.g U.tu.F.kp U.tu.b .nil pass0 (pa_cons (pv 12) (pa_cons (pv 4) pa_nil)))) pa_nil)))
        (pss_one (ps_if (pt_cmpR (op_neD hr.units) (pe_call GB hr (by rfl) U.bo.g U.bo.F.kp U.bo.b .nil pass0 (pa_cons (pe_call GC hr1 (by rfl) U.ct.g U.ct.F.kp U.ct.b .nil pass0 (pa_cons (pv 5) (pa_cons (pv 4) pa_nil))) (pa_cons (pv 10) pa_nil))) (pv 11) (nomark _)) (pss_one (ps_ret pe_bl)) pss_nil))))))))))))))
      (pss_one (ps_ret pe_bl)), ?_⟩
    refine ⟨2, rfl, by decide, by decide, for_range (lo := 0) (n := 2)
      (fun i σ H' => ∃ y1 y2 y3 y4 y5 y6 y7 y8 y9 y10 y11 y12, σ = [some (.ref a), y1, y2, y3, y4, y5, y6, y7, y8, y9, y10, y11, y12] ∧ Same H H')
      ⟨none, none, none, none, none, none, none, none, none, none, none, none, rfl, Same.refl H⟩ ?_ ?_⟩
    · rintro i σ H1 hi ⟨y1, y2, y3, y4, y5, y6, y7, y8, y9, y10, y11, y12, rfl, s1⟩
      rw [Int.zero_add]
      refine ⟨_, rfl, _, rfl, a, ns, i, rfl, s1.seq hs, hlen, fun H2 p s2 np bg2 => ?_⟩
      refine ⟨_, rfl, p, 4, rfl, by decide, by decide, bg2, fun H3 r hr4 sb3 bg3 => ⟨_, _, rfl, rfl, ?_⟩⟩
      have hn2 : 2 ≤ 2 + r := by omega
      have hn5 : 2 + r ≤ 5 := by omega
      have en : (2 : Int) + (r : Int) = ((2 + r : Nat) : Int) := rfl
      generalize hnn : 2 + r = n at hn2 hn5 en
      have ev : V.int ((2 : Int) + (r : Int)) = vN n := congrArg V.int en
      refine ⟨_, rfl, _, rfl, p, n, ?_, by omega, by omega, bg3, fun H4 k hk sb4 bg4 => ?_⟩
      · exact congrArg (fun z => [V.ref p, z]) ev
      refine ⟨_, rfl, _, rfl, p, n, congrArg (fun z => [V.ref p, z]) ev, hn2, by omega, bg4, fun H5 sa sq sb5 nsa hsq hρ hχ bg5 => ?_⟩
      refine ⟨_, rfl, _, rfl, p, n, congrArg (fun z => [V.ref p, z]) ev, by omega, by omega, bg5, fun H6 c1 us1 zs1 sb6 nc1 ec1 pr1 hz1 hl1 bg6 => ?_⟩
      refine ⟨_, rfl, _, rfl, p, n, congrArg (fun z => [V.ref p, z]) ev, by omega, by omega, bg6, fun H7 c2 us2 zs2 sb7 nc2 ec2 pr2 hz2 hl2 bg7 => ?_⟩
      have c1p : c1 ≠ p := fun e => by
        obtain ⟨u, hu⟩ := bg5.ex
        rw [e, hu] at nc1
        cases nc1
      have cr1 : Crowd n H7 c1 us1 zs1 := ⟨sb7 _ _ c1p ec1, pr_mono pr1 fun _ _ z => z.tups (bg6.tups sb7), hz1⟩
      have cr2 : Crowd n H7 c2 us2 zs2 := ⟨ec2, pr2, hz2⟩
      have hsq7 : Sq H7 sa sq := (hsq.tups (bg5.tups sb6)).tups (bg6.tups sb7)
      have s7 : Same H H7 := SameB.same ((((sb3.trans sb4).trans sb5).trans sb6).trans sb7) (s1.trans s2) (s1.free np)
      clear sb3 sb4 sb5 sb6 sb7 bg2 bg3 bg4 bg5 bg6 bg7 pr1 pr2 ec1 ec2 hsq
      refine ⟨_, _, rfl, ?_⟩
      refine ⟨_, rfl, _, rfl, _, rfl, c1, us1, rfl, .inl (SqL.of cr1.at_), fun l1 nl1 => ?_⟩
      have t1 : Same H7 (upd H7 l1 (.lst us1)) := same_upd nl1
      refine ⟨_, rfl, c2, us2, rfl, .inl (SqL.of (t1 _ _ cr2.at_)), fun l2 nl2 => ?_⟩
      have t2 : Same (upd H7 l1 (.lst us1)) (upd (upd H7 l1 (.lst us1)) l2 (.lst us2)) := same_upd nl2
      have t12 := t1.trans t2
      refine ⟨l1, l2, us1, us2, zs1, zs2, rfl, t2 _ _ upd_same, upd_same, (cr1.same t12).pr, (cr2.same t12).pr, cr1.ne (by omega), cr2.ne (by omega), by omega, by omega, fun H8 c3 us3 zs3 t8 nc3 ec3 pr3 od3 up3 hl3 => ?_⟩
      have cr3 : Crowd n H8 c3 us3 zs3 := ⟨ec3, pr3, fun z hz => (List.mem_append.mp (odd_mem od3 z hz)).elim (hz1 z) (hz2 z)⟩
      have t9 := t12.trans t8
      rw [List.length_append] at hl3
      refine ⟨(by show 3 ≤ sizeLine; decide), fun lst nlst => ?_⟩
      have t10 : Same H8 (upd H8 lst (.lst [.ref c1, .ref c2, .ref c3])) := same_upd nlst
      have k1 := (cr1.same t9).same t10
      have k2 := (cr2.same t9).same t10
      have k3 := cr3.same t10
      have hsq9 := (hsq7.same t9).same t10
      have s9 := (s7.trans t9).trans t10
      have elst : (upd H8 lst (.lst [.ref c1, .ref c2, .ref c3])) lst = some (.lst [.ref c1, .ref c2, .ref c3]) := upd_same
      generalize upd H8 lst (.lst [.ref c1, .ref c2, .ref c3]) = H9 at k1 k2 k3 hsq9 s9 elst
      refine ⟨lst, rfl, ⟨_, SqL.of elst⟩, for_list (K := K) (a := lst) (xs := [.ref c1, .ref c2, .ref c3])
        (fun j σ H' => ∃ y8 y9 y10 y11 y12, σ = [some (.ref a), some (vN i), some (.ref p), some (vN n), some (vN k), some (.ref sa), some (.ref c1), some (.ref c2), y8, y9, y10, y11, y12] ∧ Same H9 H')
        ⟨y8, y9, y10, y11, y12, ?_, Same.refl H9⟩ (fun j σ H' _ ⟨_, _, _, _, _, _, z⟩ => SqL.of (z _ _ elst)) ?_ ?_⟩
      · exact congrArg (fun z => [some (V.ref a), some (vN i), some (.ref p), some z, some (vN k), some (.ref sa), some (.ref c1), some (.ref c2), y8, y9, y10, y11, y12]) ev
      · rintro j v σ H10 hj ⟨y8, y9, y10, y11, y12, rfl, s10⟩
        obtain ⟨c, us, zs, rfl, kc, hzl⟩ : ∃ (c : Addr) (us : List V) (zs : List (List Nat)), v = .ref c ∧ Crowd n H9 c us zs ∧ zs.length ≤ 12 := by
          match j, hj with
          | 0, hj => exact ⟨c1, us1, zs1, (Option.some.inj hj).symm, k1, by omega⟩
          | 1, hj => exact ⟨c2, us2, zs2, (Option.some.inj hj).symm, k2, by omega⟩
          | 2, hj => exact ⟨c3, us3, zs3, (Option.some.inj hj).symm, k3, by omega⟩
          | j + 3, hj => cases hj
        have kc10 := kc.same s10
        -- around
        refine ⟨_, rfl, _, rfl, c, us, rfl, .inl (SqL.of kc10.at_), fun l3 nl3 => ?_⟩
        have u1 : Same H10 (upd H10 l3 (.lst us)) := same_upd nl3
        refine ⟨sa, l3, sq, us, zs, n, rfl, hsq9.same (s10.trans u1), upd_same, (kc10.same u1).pr, kc.st, hρ.1, hχ, by omega, by omega, by omega, fun H11 ar us4 ws s11 nar ear par oar uar lar => ?_⟩
        have kar : Crowd n H11 ar us4 ws := ⟨ear, par, odd_st oar kc.st⟩
        have s11' := (s10.trans u1).trans s11
        -- border of the border
        refine ⟨_, rfl, _, rfl, ar, us4, rfl, .inl (SqL.of ear), fun l4 nl4 => ?_⟩
        have u2 : Same H11 (upd H11 l4 (.lst us4)) := same_upd nl4
        refine ⟨sa, l4, sq, us4, ws, n, rfl, hsq9.same (s11'.trans u2), upd_same, (kar.same u2).pr, kar.st, hρ.1, hχ, by omega, by omega, by omega, fun H12 bb1 us5 ws5 s12 nbb ebb pbb obb _ _ => ?_⟩
        have e0 : ws5 = [] := bb (chk hn2 hn5) hρ hχ kc.st oar obb
        refine ⟨Nat.zero_le _, fun l5 nl5 => ?_⟩
        have u3 : Same H12 (upd H12 l5 (.lst [])) := same_upd nl5
        have kbb : Crowd n H12 bb1 us5 ws5 := ⟨ebb, pbb, odd_st obb kar.st⟩
        refine ⟨.list (ws5.map RB.dS), .list (([] : List (List Nat)).map RB.dS), (kbb.same u3).dp, .lst (SqL.of upd_same) .nil, dSs_shaped ws5, dSs_shaped [], _, rfl, ?_⟩
        rw [list_eqv, decide_eq_true e0]
        refine iteF ?_
        have s12' := ((s11'.trans u2).trans s12).trans u3
        have kar12 := ((kar.same u2).same s12).same u3
        have kc12 := (kc.same s12')
        generalize upd H12 l5 (.lst []) = H13 at s12' kar12 kc12
        -- moved
        refine ⟨_, rfl, c, rfl, ⟨_, SqL.of kc12.at_⟩, fun D hD => lc_list (K := K) (a := c) (xs := us)
          (fun m H' => Same H13 H' ∧ ∃ vs, H' D = some (.lst vs) ∧ Paired (Stv H') vs ((zs.take m).map fun x => trn x k) ∧ vs.length ≤ m)
          ⟨same_upd hD, [], upd_same, .nil, Nat.le_refl _⟩ (fun m H' _ z => SqL.of (z.1 _ _ kc12.at_)) ?_ ?_⟩
        · rintro m y H14 hm ⟨s14, vs, eD, pr, hv⟩
          obtain ⟨x, hx, tx, rfl, htx⟩ := pr_getL kc12.pr hm
          have hxs := kc.st x (List.mem_of_getElem? hx)
          have hmz : m < zs.length := (List.getElem?_eq_some_iff.mp hx).1
          refine ⟨rfl, yes ?_⟩
          refine ⟨_, rfl, _, rfl, tx, x, k, rfl, s14 _ _ htx, by rw [hxs.1]; exact hk, by rw [hxs.1]; omega, fun H15 q1 s15 nq1 eq1 => ?_⟩
          have eD15 := s15 _ _ eD
          have tp := Tups.list (u := .lst (vs ++ [.ref q1])) eD15
          refine ⟨vs, eD15, small1000 (by omega), fun b u e => ?_, _, upd_same, ?_, ?_⟩
          · rw [upd_ne (ne_of_none e hD)]
            exact s15 _ _ (s14 _ _ e)
          · rw [map_take_succ _ hx]
            exact pr_app (pr_mono pr fun _ _ z => z.tups ((sameTups s15).trans tp)) (.cons ⟨q1, rfl, tp _ _ eq1⟩ .nil)
          · rw [List.length_append]
            show vs.length + 1 ≤ m + 1
            omega
        rintro H14 ⟨s14, vs, eD, pr, hv⟩
        rw [pr_len kc12.pr, List.take_length] at pr
        have stt : ∀ {l : List (List Nat)}, (∀ z ∈ l, IsSt n z) → ∀ z ∈ l.map fun x => trn x k, IsSt n z := fun {l} hl z hz => by
          obtain ⟨x, hx, rfl⟩ := List.mem_map.mp hz
          exact trn_st (hl x hx) hk
        have nn : ∀ {l : List (List Nat)}, (∀ z ∈ l, IsSt n z) → ∀ z ∈ l, z ≠ [] := fun {l} hl z hz e => by
          have h1 := (hl z hz).1
          rw [e, List.length_nil] at h1
          omega
        refine ⟨D, vs, _, rfl, SqL.of eD, pr, nn (stt kc.st), fun us6 M mo hM uM pM _ nmo => ?_⟩
        have u4 : Same H14 (upd H14 mo (.lst us6)) := same_upd nmo
        have kM : Crowd n (upd H14 mo (.lst us6)) mo us6 M := ⟨upd_same, pr_mono pM fun _ _ z => z.tups (sameTups u4), fun z hz => stt kc.st z (hM.mem_iff.mp hz)⟩
        have s14' := (s12'.trans s14).trans u4
        have kar14 := (kar12.same s14).same u4
        generalize upd H14 mo (.lst us6) = H15 at s14' kar14 kM
        -- due
        refine ⟨_, rfl, ar, rfl, ⟨_, SqL.of kar14.at_⟩, fun D hD => lc_list (K := K) (a := ar) (xs := us4)
          (fun m H' => Same H15 H' ∧ ∃ vs, H' D = some (.lst vs) ∧ Paired (Stv H') vs ((ws.take m).map fun x => trn x k) ∧ vs.length ≤ m)
          ⟨same_upd hD, [], upd_same, .nil, Nat.le_refl _⟩ (fun m H' _ z => SqL.of (z.1 _ _ kar14.at_)) ?_ ?_⟩
        · rintro m y H16 hm ⟨s16, vs, eD, pr, hv⟩
          obtain ⟨x, hx, tx, rfl, htx⟩ := pr_getL kar14.pr hm
          have hxs := kar.st x (List.mem_of_getElem? hx)
          have hmz : m < ws.length := (List.getElem?_eq_some_iff.mp hx).1
          refine ⟨rfl, yes ?_⟩
          refine ⟨_, rfl, _, rfl, tx, x, k, rfl, s16 _ _ htx, by rw [hxs.1]; exact hk, by rw [hxs.1]; omega, fun H17 q1 s17 nq1 eq1 => ?_⟩
          have eD17 := s17 _ _ eD
          have tp := Tups.list (u := .lst (vs ++ [.ref q1])) eD17
          refine ⟨vs, eD17, mill (by omega), fun b u e => ?_, _, upd_same, ?_, ?_⟩
          · rw [upd_ne (ne_of_none e hD)]
            exact s17 _ _ (s16 _ _ e)
          · rw [map_take_succ _ hx]
            exact pr_app (pr_mono pr fun _ _ z => z.tups ((sameTups s17).trans tp)) (.cons ⟨q1, rfl, tp _ _ eq1⟩ .nil)
          · rw [List.length_append]
            show vs.length + 1 ≤ m + 1
            omega
        rintro H16 ⟨s16, vs, eD, pr, hv⟩
        rw [pr_len kar14.pr, List.take_length] at pr
        refine ⟨D, vs, _, rfl, SqL.of eD, pr, nn (stt kar.st), fun us7 Du du hD7 uD pD _ ndu => ?_⟩
        have u5 : Same H16 (upd H16 du (.lst us7)) := same_upd ndu
        have kD : Crowd n (upd H16 du (.lst us7)) du us7 Du := ⟨upd_same, pr_mono pD fun _ _ z => z.tups (sameTups u5), fun z hz => stt kar.st z (hD7.mem_iff.mp hz)⟩
        have s16' := (s14'.trans s16).trans u5
        have kM16 := (kM.same s16).same u5
        generalize upd H16 du (.lst us7) = H17 at s16' kM16 kD
        -- the last test
        refine ⟨_, rfl, _, rfl, sa, sq, n, k, rfl, hsq9.same s16', hρ.1, hχ, hk, by omega, fun H18 s2a s18 ns2 hsq2 => ?_⟩
        have lM : M.length ≤ 12 := by
          rw [hM.length_eq, List.length_map]
          exact hzl
        refine ⟨_, rfl, s2a, mo, tsq sq k, us6, M, n, rfl, hsq2, (kM16.same s18).at_, (kM16.same s18).pr, kM.st, by show (trn sq.1 k).length = n; rw [trn_len]; exact hρ.1, by show (trn sq.2 k).length = n; rw [trn_len]; exact hχ, by omega, by omega, by omega, fun H19 bt1 us8 R' s19 nbt ebt pbt obt ubt _ => ?_⟩
        have eR : R' = Du := bt hk hρ.1 hχ kc.st oar hM obt ubt hD7 uD
        have kR : Crowd n H19 bt1 us8 R' := ⟨ebt, pbt, odd_st obt kM.st⟩
        refine ⟨_, rfl, .list (R'.map RB.dS), .list (Du.map RB.dS), kR.dp, ((kD.same s18).same s19).dp, dSs_shaped R', dSs_shaped Du, _, rfl, ?_⟩
        rw [list_eqv, decide_eq_true eR]
        refine iteF ?_
        exact ⟨_, _, _, _, _, rfl, (s16'.trans s18).trans s19⟩
      · rintro σ H10 ⟨y8, y9, y10, y11, y12, rfl, s10⟩
        exact ⟨_, _, _, _, _, _, _, _, _, _, _, _, rfl, s9.trans s10⟩
    · rintro σ H1 ⟨y1, y2, y3, y4, y5, y6, y7, y8, y9, y10, y11, y12, rfl, s1⟩
      exact q H1
end
end RB

namespace RB
open PySem PySem.Spec PyProof.Rows L2
/-! ### what the top has written -/
theorem all_mk {l : PySem.W.OpenLaw} {w : World} {K : PySem.W.Frag} {h : Heap} {mg : Str → Option Value} {fa f1 f2 f3 f4 f5 f6 f7 f8 f9 f10 f11 f12 f13 f14 f15 f16 f17 f18 f19 f20 : Addr} (X : K.In h) (G : h.Ns mainGlobals mg) (hfa : mg "law" = some (.ref fa))
    {od1 an1 od2 an2 od3 an3 od4 an4 od5 an5 od6 an6 od7 an7 od8 an8 od9 an9 od10 an10 od11 an11 od12 an12 od13 an13 od14 an14 od15 an15 od16 an16 od17 an17 od18 an18 od19 an19 od20 an20 : Option Addr} {sl1 sl2 sl3 sl4 sl5 sl6 sl7 sl8 sl9 sl10 sl11 sl12 sl13 sl14 sl15 sl16 sl17 sl18 sl19 sl20 : Array (Option Value)} {oc1 kV1 dc1 pm1 cd1 ct1 oc2 kV2 dc2 pm2 cd2 ct2 oc3 kV3 dc3 pm3 cd3 ct3 oc4 kV4 dc4 pm4 cd4 ct4 oc5 kV5 dc5 pm5 cd5 ct5 oc6 kV6 dc6 pm6 cd6 ct6 oc7 kV7 dc7 pm7 cd7 ct7 oc8 kV8 dc8 pm8 cd8 ct8 oc9 kV9 dc9 pm9 cd9 ct9 oc10 kV10 dc10 pm10 cd10 ct10 oc11 kV11 dc11 pm11 cd11 ct11 oc12 kV12 dc12 pm12 cd12 ct12 oc13 kV13 dc13 pm13 cd13 ct13 oc14 kV14 dc14 pm14 cd14 ct14 oc15 kV15 dc15 pm15 cd15 ct15 oc16 kV16 dc16 pm16 cd16 ct16 oc17 kV17 dc17 pm17 cd17 ct17 oc18 kV18 dc18 pm18 cd18 ct18 oc19 kV19 dc19 pm19 cd19 ct19 oc20 kV20 dc20 pm20 cd20 ct20 : Value}
    (a1 : PySem.W.nsIn K mainGlobals "round_from" = some (some (.ref f1))) (l1 : K.lookup f1 = some ⟨oc1, od1, .func (PySem.W.fnOf "round_from" "round_from" (defArgs sRound) (defBody sRound) (defScope sRound) .none kV1 dc1 pm1 an1 cd1 ct1), sl1⟩) (c1 : PySem.W.codeIn K cd1 "round_from" = true) (k1 : PySem.W.keepIn K (.ref f1) = true)
    (a2 : PySem.W.nsIn K mainGlobals "columns_of" = some (some (.ref f2))) (l2 : K.lookup f2 = some ⟨oc2, od2, .func (PySem.W.fnOf "columns_of" "columns_of" (defArgs sCols) (defBody sCols) (defScope sCols) .none kV2 dc2 pm2 an2 cd2 ct2), sl2⟩) (c2 : PySem.W.codeIn K cd2 "columns_of" = true) (k2 : PySem.W.keepIn K (.ref f2) = true)
    (a3 : PySem.W.nsIn K mainGlobals "rows_of" = some (some (.ref f3))) (l3 : K.lookup f3 = some ⟨oc3, od3, .func (PySem.W.fnOf "rows_of" "rows_of" (defArgs sRows) (defBody sRows) (defScope sRows) .none kV3 dc3 pm3 an3 cd3 ct3), sl3⟩) (c3 : PySem.W.codeIn K cd3 "rows_of" = true) (k3 : PySem.W.keepIn K (.ref f3) = true)
    (a4 : PySem.W.nsIn K mainGlobals "behind" = some (some (.ref f4))) (l4 : K.lookup f4 = some ⟨oc4, od4, .func (PySem.W.fnOf "behind" "behind" (defArgs sBehind) (defBody sBehind) (defScope sBehind) .none kV4 dc4 pm4 an4 cd4 ct4), sl4⟩) (c4 : PySem.W.codeIn K cd4 "behind" = true) (k4 : PySem.W.keepIn K (.ref f4) = true)
    (a5 : PySem.W.nsIn K mainGlobals "is_bare" = some (some (.ref f5))) (l5 : K.lookup f5 = some ⟨oc5, od5, .func (PySem.W.fnOf "is_bare" "is_bare" (defArgs sBare) (defBody sBare) (defScope sBare) .none kV5 dc5 pm5 an5 cd5 ct5), sl5⟩) (c5 : PySem.W.codeIn K cd5 "is_bare" = true) (k5 : PySem.W.keepIn K (.ref f5) = true)
    (a6 : PySem.W.nsIn K mainGlobals "is_free" = some (some (.ref f6))) (l6 : K.lookup f6 = some ⟨oc6, od6, .func (PySem.W.fnOf "is_free" "is_free" (defArgs sFree) (defBody sFree) (defScope sFree) .none kV6 dc6 pm6 an6 cd6 ct6), sl6⟩) (c6 : PySem.W.codeIn K cd6 "is_free" = true) (k6 : PySem.W.keepIn K (.ref f6) = true)
    (a7 : PySem.W.nsIn K mainGlobals "is_clear" = some (some (.ref f7))) (l7 : K.lookup f7 = some ⟨oc7, od7, .func (PySem.W.fnOf "is_clear" "is_clear" (defArgs sClear) (defBody sClear) (defScope sClear) .none kV7 dc7 pm7 an7 cd7 ct7), sl7⟩) (c7 : PySem.W.codeIn K cd7 "is_clear" = true) (k7 : PySem.W.keepIn K (.ref f7) = true)
    (a8 : PySem.W.nsIn K mainGlobals "steps_from" = some (some (.ref f8))) (l8 : K.lookup f8 = some ⟨oc8, od8, .func (PySem.W.fnOf "steps_from" "steps_from" (defArgs sSteps) (defBody sSteps) (defScope sSteps) .none kV8 dc8 pm8 an8 cd8 ct8), sl8⟩) (c8 : PySem.W.codeIn K cd8 "steps_from" = true) (k8 : PySem.W.keepIn K (.ref f8) = true)
    (a9 : PySem.W.nsIn K mainGlobals "odd_ones" = some (some (.ref f9))) (l9 : K.lookup f9 = some ⟨oc9, od9, .func (PySem.W.fnOf "odd_ones" "odd_ones" (defArgs sOdd) (defBody sOdd) (defScope sOdd) .none kV9 dc9 pm9 an9 cd9 ct9), sl9⟩) (c9 : PySem.W.codeIn K cd9 "odd_ones" = true) (k9 : PySem.W.keepIn K (.ref f9) = true)
    (a10 : PySem.W.nsIn K mainGlobals "added" = some (some (.ref f10))) (l10 : K.lookup f10 = some ⟨oc10, od10, .func (PySem.W.fnOf "added" "added" (defArgs sAdded) (defBody sAdded) (defScope sAdded) .none kV10 dc10 pm10 an10 cd10 ct10), sl10⟩) (c10 : PySem.W.codeIn K cd10 "added" = true) (k10 : PySem.W.keepIn K (.ref f10) = true)
    (a11 : PySem.W.nsIn K mainGlobals "border" = some (some (.ref f11))) (l11 : K.lookup f11 = some ⟨oc11, od11, .func (PySem.W.fnOf "border" "border" (defArgs sBorder) (defBody sBorder) (defScope sBorder) .none kV11 dc11 pm11 an11 cd11 ct11), sl11⟩) (c11 : PySem.W.codeIn K cd11 "border" = true) (k11 : PySem.W.keepIn K (.ref f11) = true)
    (a12 : PySem.W.nsIn K mainGlobals "columns_turned" = some (some (.ref f12))) (l12 : K.lookup f12 = some ⟨oc12, od12, .func (PySem.W.fnOf "columns_turned" "columns_turned" (defArgs sColsT) (defBody sColsT) (defScope sColsT) .none kV12 dc12 pm12 an12 cd12 ct12), sl12⟩) (c12 : PySem.W.codeIn K cd12 "columns_turned" = true) (k12 : PySem.W.keepIn K (.ref f12) = true)
    (a13 : PySem.W.nsIn K mainGlobals "stand_turned" = some (some (.ref f13))) (l13 : K.lookup f13 = some ⟨oc13, od13, .func (PySem.W.fnOf "stand_turned" "stand_turned" (defArgs sStandT) (defBody sStandT) (defScope sStandT) .none kV13 dc13 pm13 an13 cd13 ct13), sl13⟩) (c13 : PySem.W.codeIn K cd13 "stand_turned" = true) (k13 : PySem.W.keepIn K (.ref f13) = true)
    (a14 : PySem.W.nsIn K mainGlobals "_law_cell" = some (some (.ref f14))) (l14 : K.lookup f14 = some ⟨oc14, od14, .func (PySem.W.fnOf "_law_cell" "_law_cell" (defArgs sCell) (defBody sCell) (defScope sCell) .none kV14 dc14 pm14 an14 cd14 ct14), sl14⟩) (c14 : PySem.W.codeIn K cd14 "_law_cell" = true) (k14 : PySem.W.keepIn K (.ref f14) = true)
    (a15 : PySem.W.nsIn K mainGlobals "_law_bag" = some (some (.ref f15))) (l15 : K.lookup f15 = some ⟨oc15, od15, .func (PySem.W.fnOf "_law_bag" "_law_bag" (defArgs sBag) (defBody sBag) (defScope sBag) .none kV15 dc15 pm15 an15 cd15 ct15), sl15⟩) (c15 : PySem.W.codeIn K cd15 "_law_bag" = true) (k15 : PySem.W.keepIn K (.ref f15) = true)
    (a16 : PySem.W.nsIn K mainGlobals "_law_take" = some (some (.ref f16))) (l16 : K.lookup f16 = some ⟨oc16, od16, .func (PySem.W.fnOf "_law_take" "_law_take" (defArgs sTake) (defBody sTake) (defScope sTake) .none kV16 dc16 pm16 an16 cd16 ct16), sl16⟩) (c16 : PySem.W.codeIn K cd16 "_law_take" = true) (k16 : PySem.W.keepIn K (.ref f16) = true)
    (a17 : PySem.W.nsIn K mainGlobals "_law_order" = some (some (.ref f17))) (l17 : K.lookup f17 = some ⟨oc17, od17, .func (PySem.W.fnOf "_law_order" "_law_order" (defArgs sOrder) (defBody sOrder) (defScope sOrder) .none kV17 dc17 pm17 an17 cd17 ct17), sl17⟩) (c17 : PySem.W.codeIn K cd17 "_law_order" = true) (k17 : PySem.W.keepIn K (.ref f17) = true)
    (a18 : PySem.W.nsIn K mainGlobals "_law_square" = some (some (.ref f18))) (l18 : K.lookup f18 = some ⟨oc18, od18, .func (PySem.W.fnOf "_law_square" "_law_square" (defArgs sSquare) (defBody sSquare) (defScope sSquare) .none kV18 dc18 pm18 an18 cd18 ct18), sl18⟩) (c18 : PySem.W.codeIn K cd18 "_law_square" = true) (k18 : PySem.W.keepIn K (.ref f18) = true)
    (a19 : PySem.W.nsIn K mainGlobals "_law_crowd" = some (some (.ref f19))) (l19 : K.lookup f19 = some ⟨oc19, od19, .func (PySem.W.fnOf "_law_crowd" "_law_crowd" (defArgs sCrowd) (defBody sCrowd) (defScope sCrowd) .none kV19 dc19 pm19 an19 cd19 ct19), sl19⟩) (c19 : PySem.W.codeIn K cd19 "_law_crowd" = true) (k19 : PySem.W.keepIn K (.ref f19) = true)
    (a20 : PySem.W.nsIn K mainGlobals "law" = some (some (.ref f20))) (l20 : K.lookup f20 = some ⟨oc20, od20, .func (PySem.W.fnOf "law" "law" (defArgs sLaw) (defBody sLaw) (defScope sLaw) .none kV20 dc20 pm20 an20 cd20 ct20), sl20⟩) (c20 : PySem.W.codeIn K cd20 "law" = true) (k20 : PySem.W.keepIn K (.ref f20) = true)
    (z1 : PySem.W.nsIn K mainGlobals "len" = some none) (z2 : PySem.W.nsIn K mainGlobals "list" = some none) (z3 : PySem.W.nsIn K mainGlobals "tuple" = some none) (z4 : PySem.W.nsIn K mainGlobals "range" = some none) (z5 : PySem.W.nsIn K mainGlobals "any" = some none) (z6 : PySem.W.nsIn K mainGlobals "all" = some none) (z7 : PySem.W.nsIn K mainGlobals "sorted" = some none) (z8 : PySem.W.nsIn K mainGlobals "abs" = some none) (z9 : PySem.W.nsIn K mainGlobals "min" = some none) :
    ∃ fd : FuncData, (∀ (s : Shared) (v : Value), BindsTo s fd ⟨[v], []⟩ [("_law_script", v)]) ∧ ∀ base : Heap, K.In base → base.Ns mainGlobals mg → FnOk l.prog w K mg base CX0 6 fa fd ["_law_script"] (spLaw K) := by
  have e := hfa.symm.trans (PySem.W.mg_of X G a20)
  cases e
  have F1 := fun_mk (st := sRound) l1 c1 k1
  have F2 := fun_mk (st := sCols) l2 c2 k2
  have F3 := fun_mk (st := sRows) l3 c3 k3
  have F4 := fun_mk (st := sBehind) l4 c4 k4
  have F5 := fun_mk (st := sBare) l5 c5 k5
  have F6 := fun_mk (st := sFree) l6 c6 k6
  have F7 := fun_mk (st := sClear) l7 c7 k7
  have F8 := fun_mk (st := sSteps) l8 c8 k8
  have F9 := fun_mk (st := sOdd) l9 c9 k9
  have F10 := fun_mk (st := sAdded) l10 c10 k10
  have F11 := fun_mk (st := sBorder) l11 c11 k11
  have F12 := fun_mk (st := sColsT) l12 c12 k12
  have F13 := fun_mk (st := sStandT) l13 c13 k13
  have F14 := fun_mk (st := sCell) l14 c14 k14
  have F15 := fun_mk (st := sBag) l15 c15 k15
  have F16 := fun_mk (st := sTake) l16 c16 k16
  have F17 := fun_mk (st := sOrder) l17 c17 k17
  have F18 := fun_mk (st := sSquare) l18 c18 k18
  have F19 := fun_mk (st := sCrowd) l19 c19 k19
  have F20 := fun_mk (st := sLaw) l20 c20 k20
  have D1 : Dm K mg "round_from" sRound ["first", "last", "n"] f1 _ := ⟨F1, F1.binds (ps := ["first", "last", "n"]) (fun _ _ _ _ _ _ us hl => match us, hl with | [_, _, _], _ => rfl), PySem.W.mg_of X G a1⟩
  have D2 : Dm K mg "columns_of" sCols ["stand", "a", "b"] f2 _ := ⟨F2, F2.binds (ps := ["stand", "a", "b"]) (fun _ _ _ _ _ _ us hl => match us, hl with | [_, _, _], _ => rfl), PySem.W.mg_of X G a2⟩
  have D3 : Dm K mg "rows_of" sRows ["stand", "a", "b"] f3 _ := ⟨F3, F3.binds (ps := ["stand", "a", "b"]) (fun _ _ _ _ _ _ us hl => match us, hl with | [_, _, _], _ => rfl), PySem.W.mg_of X G a3⟩
  have D4 : Dm K mg "behind" sBehind ["stand", "a", "b"] f4 _ := ⟨F4, F4.binds (ps := ["stand", "a", "b"]) (fun _ _ _ _ _ _ us hl => match us, hl with | [_, _, _], _ => rfl), PySem.W.mg_of X G a4⟩
  have D5 : Dm K mg "is_bare" sBare ["stand", "a", "b"] f5 _ := ⟨F5, F5.binds (ps := ["stand", "a", "b"]) (fun _ _ _ _ _ _ us hl => match us, hl with | [_, _, _], _ => rfl), PySem.W.mg_of X G a5⟩
  have D6 : Dm K mg "is_free" sFree ["square", "column", "rows"] f6 _ := ⟨F6, F6.binds (ps := ["square", "column", "rows"]) (fun _ _ _ _ _ _ us hl => match us, hl with | [_, _, _], _ => rfl), PySem.W.mg_of X G a6⟩
  have D7 : Dm K mg "is_clear" sClear ["square", "stand", "a", "b"] f7 _ := ⟨F7, F7.binds (ps := ["square", "stand", "a", "b"]) (fun _ _ _ _ _ _ us hl => match us, hl with | [_, _, _, _], _ => rfl), PySem.W.mg_of X G a7⟩
  have D8 : Dm K mg "steps_from" sSteps ["square", "stand"] f8 _ := ⟨F8, F8.binds (ps := ["square", "stand"]) (fun _ _ _ _ _ _ us hl => match us, hl with | [_, _], _ => rfl), PySem.W.mg_of X G a8⟩
  have D9 : Dm K mg "odd_ones" sOdd ["stands"] f9 _ := ⟨F9, F9.binds (ps := ["stands"]) (fun _ _ _ _ _ _ us hl => match us, hl with | [_], _ => rfl), PySem.W.mg_of X G a9⟩
  have D10 : Dm K mg "added" sAdded ["one", "other"] f10 _ := ⟨F10, F10.binds (ps := ["one", "other"]) (fun _ _ _ _ _ _ us hl => match us, hl with | [_, _], _ => rfl), PySem.W.mg_of X G a10⟩
  have D11 : Dm K mg "border" sBorder ["square", "crowd"] f11 _ := ⟨F11, F11.binds (ps := ["square", "crowd"]) (fun _ _ _ _ _ _ us hl => match us, hl with | [_, _], _ => rfl), PySem.W.mg_of X G a11⟩
  have D12 : Dm K mg "columns_turned" sColsT ["square", "k"] f12 _ := ⟨F12, F12.binds (ps := ["square", "k"]) (fun _ _ _ _ _ _ us hl => match us, hl with | [_, _], _ => rfl), PySem.W.mg_of X G a12⟩
  have D13 : Dm K mg "stand_turned" sStandT ["stand", "k"] f13 _ := ⟨F13, F13.binds (ps := ["stand", "k"]) (fun _ _ _ _ _ _ us hl => match us, hl with | [_, _], _ => rfl), PySem.W.mg_of X G a13⟩
  have D14 : Dm K mg "_law_cell" sCell ["_law_script", "_law_k"] f14 _ := ⟨F14, F14.binds (ps := ["_law_script", "_law_k"]) (fun _ _ _ _ _ _ us hl => match us, hl with | [_, _], _ => rfl), PySem.W.mg_of X G a14⟩
  have D15 : Dm K mg "_law_bag" sBag ["_law_script", "_law_at"] f15 _ := ⟨F15, F15.binds (ps := ["_law_script", "_law_at"]) (fun _ _ _ _ _ _ us hl => match us, hl with | [_, _], _ => rfl), PySem.W.mg_of X G a15⟩
  have D16 : Dm K mg "_law_take" sTake ["_law_bag_here", "_law_many"] f16 _ := ⟨F16, F16.binds (ps := ["_law_bag_here", "_law_many"]) (fun _ _ _ _ _ _ us hl => match us, hl with | [_, _], _ => rfl), PySem.W.mg_of X G a16⟩
  have D17 : Dm K mg "_law_order" sOrder ["_law_bag_here", "_law_n"] f17 _ := ⟨F17, F17.binds (ps := ["_law_bag_here", "_law_n"]) (fun _ _ _ _ _ _ us hl => match us, hl with | [_, _], _ => rfl), PySem.W.mg_of X G a17⟩
  have D18 : Dm K mg "_law_square" sSquare ["_law_bag_here", "_law_n"] f18 _ := ⟨F18, F18.binds (ps := ["_law_bag_here", "_law_n"]) (fun _ _ _ _ _ _ us hl => match us, hl with | [_, _], _ => rfl), PySem.W.mg_of X G a18⟩
  have D19 : Dm K mg "_law_crowd" sCrowd ["_law_bag_here", "_law_n"] f19 _ := ⟨F19, F19.binds (ps := ["_law_bag_here", "_law_n"]) (fun _ _ _ _ _ _ us hl => match us, hl with | [_, _], _ => rfl), PySem.W.mg_of X G a19⟩
  have T : Txt mg := ⟨PySem.W.mg_none_of X G z1, PySem.W.mg_none_of X G z2, PySem.W.mg_none_of X G z3, PySem.W.mg_none_of X G z4, PySem.W.mg_none_of X G z5, PySem.W.mg_none_of X G z6, PySem.W.mg_none_of X G z7, PySem.W.mg_none_of X G z8, PySem.W.mg_none_of X G z9⟩
  have L : Low K mg _ _ _ _ _ _ _ _ _ _ _ _ _ _ := ⟨D1, D2, D3, D4, D5, D6, D7⟩
  have U : Hi K mg _ _ _ _ _ _ _ _ _ _ _ _ _ _ _ _ _ _ _ _ _ _ _ _ := ⟨D8, D9, D10, D11, D12, D13, D14, D15, D16, D17, D18, D19⟩
  exact ⟨PySem.W.fnOf "law" "law" (defArgs sLaw) (defBody sLaw) (defScope sLaw) .none kV20 dc20 pm20 an20 cd20 ct20, fun s v => .of_eq rfl, fun base _ _ => ok_law F20 L U T⟩
end RB
open PySem PySem.W PyProof.Rows
set_option maxHeartbeats 0 in
theorem PySem.Challenge.cw_rookborders_k35_whole_border_twice_holds : PySem.Challenge.rw_rookborders_k35_whole_border_twice.Holds := by
  w_on; o_law; k_head; (case hw => w_witness2)
  k_fill
  refine L2.walk_of (l := PySem.Challenge.rw_rookborders_k35_whole_border_twice) (n := 63) (k := 6) (x := "_law_script") (CX := fun _ => L2.CX0) (sp := fun w => RB.spLaw _) rfl (by decide) rfl ⟨rfl, by decide, by decide⟩ (fun w h Y => PySem.W.kIn_of Y) ?F (fun _ _ a ns hl _ hS => ⟨a, ns, rfl, hS, hl, fun _ => rfl⟩) (fun _ _ _ _ _ h => h)
  case F =>
    intro w mg fa h KX G hmg
    refine' RB.all_mk KX G hmg ?a1 ?l1 ?c1 ?k1 ?a2 ?l2 ?c2 ?k2 ?a3 ?l3 ?c3 ?k3 ?a4 ?l4 ?c4 ?k4 ?a5 ?l5 ?c5 ?k5 ?a6 ?l6 ?c6 ?k6 ?a7 ?l7 ?c7 ?k7 ?a8 ?l8 ?c8 ?k8 ?a9 ?l9 ?c9 ?k9 ?a10 ?l10 ?c10 ?k10 ?a11 ?l11 ?c11 ?k11 ?a12 ?l12 ?c12 ?k12 ?a13 ?l13 ?c13 ?k13 ?a14 ?l14 ?c14 ?k14 ?a15 ?l15 ?c15 ?k15 ?a16 ?l16 ?c16 ?k16 ?a17 ?l17 ?c17 ?k17 ?a18 ?l18 ?c18 ?k18 ?a19 ?l19 ?c19 ?k19 ?a20 ?l20 ?c20 ?k20 ?z1 ?z2 ?z3 ?z4 ?z5 ?z6 ?z7 ?z8 ?z9
    (case a1 => k_is)
    (case l1 => k_is)
    (case c1 => k_is)
    (case k1 => k_is)
    (case a2 => k_is)
    (case l2 => k_is)
    (case c2 => k_is)
    (case k2 => k_is)
    (case a3 => k_is)
    (case l3 => k_is)
    (case c3 => k_is)
    (case k3 => k_is)
    (case a4 => k_is)
    (case l4 => k_is)
    (case c4 => k_is)
    (case k4 => k_is)
    (case a5 => k_is)
    (case l5 => k_is)
    (case c5 => k_is)
    (case k5 => k_is)
    (case a6 => k_is)
    (case l6 => k_is)
    (case c6 => k_is)
    (case k6 => k_is)
    (case a7 => k_is)
    (case l7 => k_is)
    (case c7 => k_is)
    (case k7 => k_is)
    (case a8 => k_is)
    (case l8 => k_is)
    (case c8 => k_is)
    (case k8 => k_is)
    (case a9 => k_is)
    (case l9 => k_is)
    (case c9 => k_is)
    (case k9 => k_is)
    (case a10 => k_is)
    (case l10 => k_is)
    (case c10 => k_is)
    (case k10 => k_is)
    (case a11 => k_is)
    (case l11 => k_is)
    (case c11 => k_is)
    (case k11 => k_is)
    (case a12 => k_is)
    (case l12 => k_is)
    (case c12 => k_is)
    (case k12 => k_is)
    (case a13 => k_is)
    (case l13 => k_is)
    (case c13 => k_is)
    (case k13 => k_is)
    (case a14 => k_is)
    (case l14 => k_is)
    (case c14 => k_is)
    (case k14 => k_is)
    (case a15 => k_is)
    (case l15 => k_is)
    (case c15 => k_is)
    (case k15 => k_is)
    (case a16 => k_is)
    (case l16 => k_is)
    (case c16 => k_is)
    (case k16 => k_is)
    (case a17 => k_is)
    (case l17 => k_is)
    (case c17 => k_is)
    (case k17 => k_is)
    (case a18 => k_is)
    (case l18 => k_is)
    (case c18 => k_is)
    (case k18 => k_is)
    (case a19 => k_is)
    (case l19 => k_is)
    (case c19 => k_is)
    (case k19 => k_is)
    (case a20 => k_is)
    (case l20 => k_is)
    (case c20 => k_is)
    (case k20 => k_is)
    (case z1 => k_is)
    (case z2 => k_is)
    (case z3 => k_is)
    (case z4 => k_is)
    (case z5 => k_is)
    (case z6 => k_is)
    (case z7 => k_is)
    (case z8 => k_is)
    (case z9 => k_is)
