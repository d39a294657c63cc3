import PyProof.Rows.All
import HandS.TupSets
import HandS.SortOrd
import HandS.SortRule
import HandS.ForMost
import HandS.Zip
import HandS.TupAny
import HandS.TupLe
import HandS.Deep
import HandS.IsInst
import HandS.Conv
import HandS.Style
import HandS.Flow
import HandS.Walk
import KE.GoesEnum
import KE.KDictKeyed
import KE.KDictPairs
import KE.KDictCopyH
import KE.DataMinMax
import PySem.Challenge.RW_casknotes_k65_whole_paid_otherwise
set_option Elab.async false
set_option linter.all false
set_option maxRecDepth 100000
set_option maxHeartbeats 4000000
/-! Plain mathematics: pairs (sum, many), reachable pairs, rows, the least pair. No program here. -/
namespace K65
/-- the tuples' order -/
def Plt (p q : Int × Int) : Prop := p.1 < q.1 ∨ (p.1 = q.1 ∧ p.2 < q.2)
instance pltDec (p q : Int × Int) : Decidable (Plt p q) := by unfold Plt; infer_instance
theorem plt_irr (p : Int × Int) : ¬ Plt p p := by unfold Plt; omega
theorem plt_trans {p q r : Int × Int} (h : Plt p q) (k : Plt q r) : Plt p r := by unfold Plt at *; omega
theorem plt_asym {p q : Int × Int} (h : Plt p q) : ¬ Plt q p := by unfold Plt at *; omega
theorem plt_tri (p q : Int × Int) : Plt p q ∨ p = q ∨ Plt q p := by
  unfold Plt
  by_cases a : p = q
  · exact .inr (.inl a)
  · have b : ¬ (p.1 = q.1 ∧ p.2 = q.2) := fun z => a (Prod.ext z.1 z.2)
    omega
/-! ### reachable pairs -/
def R : List Int → Int × Int → Prop
  | [], p => p = (0, 0)
  | g :: gs, p => R gs p ∨ R gs (p.1 - g, p.2 - 1)
theorem R_cons {g : Int} {gs : List Int} {p : Int × Int} : R (g :: gs) p ↔ R gs p ∨ R gs (p.1 - g, p.2 - 1) := Iff.rfl
theorem R_perm {gs hs : List Int} (h : gs.Perm hs) : ∀ p, R gs p ↔ R hs p := by
  induction h with
  | nil => exact fun _ => Iff.rfl
  | cons x _ ih => intro p; rw [R_cons, R_cons, ih, ih]
  | swap x y l =>
    intro p
    simp only [R_cons]
    have e1 : p.1 - x - y = p.1 - y - x := by omega
    rw [e1]
    constructor
    · rintro ((a | a) | (a | a))
      · exact .inl (.inl a)
      · exact .inr (.inl a)
      · exact .inl (.inr a)
      · exact .inr (.inr a)
    · rintro ((a | a) | (a | a))
      · exact .inl (.inl a)
      · exact .inr (.inl a)
      · exact .inl (.inr a)
      · exact .inr (.inr a)
  | trans _ _ ih1 ih2 => exact fun p => (ih1 p).trans (ih2 p)
theorem R_snoc (gs : List Int) (g : Int) (p : Int × Int) : R (gs ++ [g]) p ↔ R gs p ∨ R gs (p.1 - g, p.2 - 1) :=
  R_perm (List.perm_append_singleton g gs) p
theorem R_zero : ∀ gs : List Int, R gs (0, 0)
  | [] => rfl
  | _ :: gs => .inl (R_zero gs)
theorem R_all : ∀ gs : List Int, R gs (gs.sum, (gs.length : Int))
  | [] => rfl
  | g :: gs => by
    refine .inr ?_
    have h := R_all gs
    have e1 : (g :: gs).sum - g = gs.sum := by rw [List.sum_cons]; omega
    have e2 : ((g :: gs).length : Int) - 1 = (gs.length : Int) := by rw [List.length_cons]; omega
    rw [e1, e2]
    exact h
theorem R_bound : ∀ {gs : List Int} {p : Int × Int}, (∀ g ∈ gs, 1 ≤ g) → R gs p → 0 ≤ p.1 ∧ p.1 ≤ gs.sum ∧ 0 ≤ p.2 ∧ p.2 ≤ gs.length
  | [], p, _, h => by
    have e : p = (0, 0) := h
    subst e
    exact ⟨Int.le_refl 0, Int.le_refl 0, Int.le_refl 0, Int.le_refl 0⟩
  | g :: gs, p, hg, h => by
    have hg1 := hg g List.mem_cons_self
    have hgs : ∀ x ∈ gs, 1 ≤ x := fun x hx => hg x (List.mem_cons_of_mem _ hx)
    rw [List.sum_cons, List.length_cons]
    rcases h with h | h
    · have := R_bound hgs h
      omega
    · have := R_bound hgs h
      simp only at this
      omega
theorem R_scale {c : Int} : ∀ {gs : List Int} {p : Int × Int}, R gs p → R (gs.map (c * ·)) (c * p.1, p.2)
  | [], p, h => by
    have e : p = (0, 0) := h
    subst e
    show (c * 0, (0 : Int)) = (0, 0)
    rw [Int.mul_zero]
  | g :: gs, p, h => by
    rcases h with h | h
    · exact .inl (R_scale h)
    · refine .inr ?_
      have k := R_scale (c := c) h
      have e : c * (p.1 - g) = c * p.1 - c * g := Int.mul_sub ..
      simp only at k
      rw [e] at k
      exact k
theorem R_unscale {c : Int} : ∀ {gs : List Int} {q : Int × Int}, R (gs.map (c * ·)) q → ∃ a, q.1 = c * a ∧ R gs (a, q.2)
  | [], q, h => by
    have e : q = (0, 0) := h
    subst e
    exact ⟨0, by simp, rfl⟩
  | g :: gs, q, h => by
    rcases h with h | h
    · obtain ⟨a, e, k⟩ := R_unscale (gs := gs) h
      exact ⟨a, e, .inl k⟩
    · obtain ⟨a, e, k⟩ := R_unscale (gs := gs) h
      refine ⟨a + g, ?_, .inr ?_⟩
      · have e' : q.1 - c * g = c * a := e
        rw [Int.mul_add]
        omega
      · have e2 : a + g - g = a := by omega
        simp only [e2]
        exact k
/-! ### the least pair whose sum is no less than due -/
structure Told (gs : List Int) (due : Int) (p : Int × Int) : Prop where
  mem : R gs p
  ge : due ≤ p.1
  least : ∀ q, R gs q → due ≤ q.1 → ¬ Plt q p
theorem Told.uniq {gs : List Int} {due : Int} {p q : Int × Int} (a : Told gs due p) (b : Told gs due q) : p = q := by
  rcases plt_tri p q with h | h | h
  · exact absurd h (b.least p a.mem a.ge)
  · exact h
  · exact absurd h (a.least q b.mem b.ge)
theorem Told.perm {gs hs : List Int} {due : Int} {p : Int × Int} (h : gs.Perm hs) (a : Told gs due p) : Told hs due p :=
  ⟨(R_perm h p).mp a.mem, a.ge, fun q hq => a.least q ((R_perm h q).mpr hq)⟩
theorem Told.scale {gs : List Int} {due c : Int} {p : Int × Int} (hc : 0 < c) (a : Told gs due p) : Told (gs.map (c * ·)) (c * due) (c * p.1, p.2) := by
  refine ⟨R_scale a.mem, Int.mul_le_mul_of_nonneg_left a.ge (Int.le_of_lt hc), fun q hq hd hlt => ?_⟩
  obtain ⟨x, e, hx⟩ := R_unscale hq
  refine a.least (x, q.2) hx ?_ ?_
  · rw [e] at hd
    exact Int.le_of_mul_le_mul_left hd hc
  · rcases hlt with h | ⟨h, k⟩
    · refine .inl ?_
      rw [e] at h
      exact Int.lt_of_mul_lt_mul_left h (Int.le_of_lt hc)
    · refine .inr ⟨?_, k⟩
      rw [e] at h
      exact Int.eq_of_mul_eq_mul_left (by omega) h
theorem Told.same {gs : List Int} {due : Int} {p : Int × Int} (a : Told gs due p) : Told gs p.1 p :=
  ⟨a.mem, Int.le_refl _, fun q hq hd => a.least q hq (Int.le_trans a.ge hd)⟩
theorem Told.less {gs : List Int} {due d : Int} {p q : Int × Int} (hd : d ≤ due) (a : Told gs due p) (b : Told gs d q) : ¬ Plt p q :=
  b.least p a.mem (Int.le_trans hd a.ge)
theorem Told.more {gs : List Int} {due x : Int} {p q : Int × Int} (a : Told gs due p) (b : Told (gs ++ [x]) due q) : ¬ Plt p q :=
  b.least p ((R_snoc gs x p).mpr (.inl a.mem)) a.ge
theorem Told.fewer {gs : List Int} {due x : Int} {p q : Int × Int} (a : Told (x :: gs) due p) (b : Told gs due q) : ¬ Plt q p :=
  a.least q (.inl b.mem) b.ge
/-! ### sorting pairs, each once -/
def ins (p : Int × Int) : List (Int × Int) → List (Int × Int)
  | [] => [p]
  | q :: r => if Plt p q then p :: q :: r else if p = q then q :: r else q :: ins p r
def srt (l : List (Int × Int)) : List (Int × Int) := l.foldr ins []
theorem mem_ins {p x : Int × Int} : ∀ {l : List (Int × Int)}, x ∈ ins p l ↔ x = p ∨ x ∈ l
  | [] => by simp [ins]
  | q :: r => by
    unfold ins
    by_cases h : Plt p q
    · rw [if_pos h, List.mem_cons]
    · rw [if_neg h]
      by_cases e : p = q
      · rw [if_pos e, List.mem_cons, e]
        constructor
        · exact fun z => .inr z
        · rintro (z | z)
          · exact .inl z
          · exact z
      · rw [if_neg e, List.mem_cons, List.mem_cons, mem_ins]
        constructor
        · rintro (z | z | z)
          · exact .inr (.inl z)
          · exact .inl z
          · exact .inr (.inr z)
        · rintro (z | z | z)
          · exact .inr (.inl z)
          · exact .inl z
          · exact .inr (.inr z)
theorem ins_sorted {p : Int × Int} : ∀ {l : List (Int × Int)}, l.Pairwise Plt → (ins p l).Pairwise Plt
  | [], _ => List.pairwise_singleton _ _
  | q :: r, h => by
    obtain ⟨h1, h2⟩ := List.pairwise_cons.mp h
    unfold ins
    by_cases k : Plt p q
    · rw [if_pos k]
      refine List.pairwise_cons.mpr ⟨fun x hx => ?_, h⟩
      rcases List.mem_cons.mp hx with e | hx
      · rw [e]; exact k
      · exact plt_trans k (h1 x hx)
    · rw [if_neg k]
      by_cases e : p = q
      · rw [if_pos e]; exact h
      · rw [if_neg e]
        refine List.pairwise_cons.mpr ⟨fun x hx => ?_, ins_sorted h2⟩
        rcases mem_ins.mp hx with z | z
        · rw [z]
          rcases plt_tri q p with a | a | a
          · exact a
          · exact absurd a.symm e
          · exact absurd a k
        · exact h1 x z
theorem ins_len {p : Int × Int} : ∀ {l : List (Int × Int)}, (ins p l).length ≤ l.length + 1
  | [] => Nat.le_refl _
  | q :: r => by
    unfold ins
    by_cases k : Plt p q
    · rw [if_pos k]; exact Nat.le_refl _
    · rw [if_neg k]
      by_cases e : p = q
      · rw [if_pos e]; exact Nat.le_succ _
      · rw [if_neg e, List.length_cons, List.length_cons]
        exact Nat.succ_le_succ ins_len
theorem mem_srt {x : Int × Int} : ∀ {l : List (Int × Int)}, x ∈ srt l ↔ x ∈ l
  | [] => Iff.rfl
  | p :: l => by
    show x ∈ ins p (srt l) ↔ _
    rw [mem_ins, mem_srt, List.mem_cons]
theorem srt_sorted : ∀ l : List (Int × Int), (srt l).Pairwise Plt
  | [] => List.Pairwise.nil
  | _ :: l => ins_sorted (srt_sorted l)
theorem srt_len : ∀ l : List (Int × Int), (srt l).length ≤ l.length
  | [] => Nat.le_refl _
  | _ :: l => Nat.le_trans ins_len (Nat.succ_le_succ (srt_len l))
/-- two strictly rising lists of the same members are one -/
theorem sorted_uniq : ∀ {l m : List (Int × Int)}, l.Pairwise Plt → m.Pairwise Plt → (∀ x, x ∈ l ↔ x ∈ m) → l = m
  | [], [], _, _, _ => rfl
  | [], y :: m, _, _, h => absurd ((h y).mpr List.mem_cons_self) (by simp)
  | x :: l, [], _, _, h => absurd ((h x).mp List.mem_cons_self) (by simp)
  | x :: l, y :: m, hl, hm, h => by
    obtain ⟨l1, l2⟩ := List.pairwise_cons.mp hl
    obtain ⟨m1, m2⟩ := List.pairwise_cons.mp hm
    have e : x = y := by
      rcases List.mem_cons.mp ((h x).mp List.mem_cons_self) with a | a
      · exact a
      · rcases List.mem_cons.mp ((h y).mpr List.mem_cons_self) with b | b
        · exact b.symm
        · exact absurd (l1 y b) (plt_asym (m1 x a))
    subst e
    have t : ∀ z, z ∈ l ↔ z ∈ m := fun z => by
      constructor
      · intro hz
        rcases List.mem_cons.mp ((h z).mp (List.mem_cons_of_mem _ hz)) with a | a
        · rw [a] at hz; exact absurd (l1 x hz) (plt_irr x)
        · exact a
      · intro hz
        rcases List.mem_cons.mp ((h z).mpr (List.mem_cons_of_mem _ hz)) with a | a
        · rw [a] at hz; exact absurd (m1 x hz) (plt_irr x)
        · exact a
    rw [sorted_uniq l2 m2 t]
/-! ### rows -/
def moreOf (g : Int) (row : List (Int × Int)) : List (Int × Int) := row.map fun p => (p.1 + g, p.2 + 1)
def nxt (row : List (Int × Int)) (g : Int) : List (Int × Int) := srt (row ++ moreOf g row)
def rowN (gs : List Int) : List (Int × Int) := gs.foldl nxt [(0, 0)]
theorem rowN_snoc (gs : List Int) (g : Int) : rowN (gs ++ [g]) = nxt (rowN gs) g := by
  unfold rowN; rw [List.foldl_append]; rfl
/-- induction from behind -/
theorem snoc_ind {P : List Int → Prop} (h0 : P []) (hs : ∀ gs g, P gs → P (gs ++ [g])) (gs : List Int) : P gs := by
  have key : ∀ l : List Int, P l.reverse := by
    intro l
    induction l with
    | nil => exact h0
    | cons x l ih => rw [List.reverse_cons]; exact hs _ _ ih
  have := key gs.reverse
  rwa [List.reverse_reverse] at this
theorem mem_moreOf {g : Int} {row : List (Int × Int)} {p : Int × Int} : p ∈ moreOf g row ↔ (p.1 - g, p.2 - 1) ∈ row := by
  unfold moreOf
  rw [List.mem_map]
  constructor
  · rintro ⟨q, hq, e⟩
    have e1 : p.1 - g = q.1 := by rw [← e]; simp only; omega
    have e2 : p.2 - 1 = q.2 := by rw [← e]; simp only; omega
    rw [e1, e2]
    exact hq
  · intro h
    refine ⟨_, h, ?_⟩
    apply Prod.ext
    · simp only; omega
    · simp only; omega
theorem mem_rowN (gs : List Int) : ∀ p, p ∈ rowN gs ↔ R gs p := by
  refine snoc_ind (P := fun gs => ∀ p, p ∈ rowN gs ↔ R gs p) ?_ ?_ gs
  · intro p
    show p ∈ [((0 : Int), (0 : Int))] ↔ p = (0, 0)
    rw [List.mem_singleton]
  · intro gs g ih p
    rw [rowN_snoc, R_snoc]
    unfold nxt
    rw [mem_srt, List.mem_append, mem_moreOf, ih, ih]
theorem rowN_sorted (gs : List Int) : (rowN gs).Pairwise Plt := by
  refine snoc_ind (P := fun gs => (rowN gs).Pairwise Plt) (List.pairwise_singleton _ _) ?_ gs
  intro gs g _
  rw [rowN_snoc]
  exact srt_sorted _
theorem rowN_len (gs : List Int) : (rowN gs).length ≤ 2 ^ gs.length := by
  refine snoc_ind (P := fun gs => (rowN gs).length ≤ 2 ^ gs.length) (Nat.le_refl _) ?_ gs
  intro gs g ih
  rw [rowN_snoc, List.length_append, List.length_singleton, Nat.pow_succ]
  unfold nxt moreOf
  refine Nat.le_trans (srt_len _) ?_
  rw [List.length_append, List.length_map]
  omega
theorem rowN_ne (gs : List Int) : rowN gs ≠ [] := fun h => by
  have z := (mem_rowN gs (0, 0)).mpr (R_zero gs)
  rw [h] at z
  cases z
/-- each row of the paper -/
def rowsN (gs : List Int) : List (List (Int × Int)) := (List.range (gs.length + 1)).map fun i => rowN (gs.take i)
theorem rowsN_len (gs : List Int) : (rowsN gs).length = gs.length + 1 := by unfold rowsN; rw [List.length_map, List.length_range]
theorem rowsN_get {gs : List Int} {i : Nat} (h : i ≤ gs.length) : (rowsN gs)[i]? = some (rowN (gs.take i)) := by
  unfold rowsN
  rw [List.getElem?_map, List.getElem?_range (by omega)]
  rfl
/-! ### a choice -/
def gsum (gs : List Int) (c : List Nat) : Int := (c.map fun i => gs.getD i 0).sum
structure Chose (gs : List Int) (c : List Nat) (p : Int × Int) : Prop where
  ris : c.Pairwise (· < ·)
  bd : ∀ i ∈ c, i < gs.length
  sum : gsum gs c = p.1
  len : (c.length : Int) = p.2
/-! ### there is a least one -/
theorem exists_least : ∀ {l : List (Int × Int)}, l ≠ [] → ∃ p ∈ l, ∀ q ∈ l, ¬ Plt q p
  | [], h => absurd rfl h
  | [x], _ => ⟨x, List.mem_singleton.mpr rfl, fun q hq => by rw [List.mem_singleton.mp hq]; exact plt_irr x⟩
  | x :: y :: l, _ => by
    obtain ⟨p, hp, h⟩ := exists_least (l := y :: l) (by simp)
    by_cases k : Plt x p
    · refine ⟨x, List.mem_cons_self, fun q hq => ?_⟩
      rcases List.mem_cons.mp hq with e | hq
      · rw [e]; exact plt_irr x
      · exact fun z => h q hq (plt_trans z k)
    · refine ⟨p, List.mem_cons_of_mem _ hp, fun q hq => ?_⟩
      rcases List.mem_cons.mp hq with e | hq
      · rw [e]; exact k
      · exact h q hq
theorem told_exists {gs : List Int} {due : Int} (h : due ≤ gs.sum) : ∃ p, Told gs due p := by
  obtain ⟨p, hp, hl⟩ := exists_least (l := (rowN gs).filter fun p => decide (due ≤ p.1)) (by
    intro z
    have hm : (gs.sum, (gs.length : Int)) ∈ (rowN gs).filter fun p => decide (due ≤ p.1) := List.mem_filter.mpr ⟨(mem_rowN gs _).mpr (R_all gs), decide_eq_true h⟩
    rw [z] at hm
    cases hm)
  obtain ⟨a, b⟩ := List.mem_filter.mp hp
  exact ⟨p, (mem_rowN gs p).mp a, of_decide_eq_true b, fun q hq hd => hl q (List.mem_filter.mpr ⟨(mem_rowN gs q).mpr hq, decide_eq_true hd⟩)⟩
/-! ### turning -/
theorem map_range_getD (gs : List Int) : (List.range gs.length).map (fun i => gs.getD i 0) = gs := by
  apply List.ext_getElem?
  intro i
  rw [List.getElem?_map]
  by_cases h : i < gs.length
  · rw [List.getElem?_range h, List.getElem?_eq_getElem h]
    simp [List.getD_eq_getElem?_getD, List.getElem?_eq_getElem h]
  · rw [List.getElem?_eq_none (by simpa using h), List.getElem?_eq_none (by omega)]
    rfl
theorem turned_perm {gs : List Int} {order : List Nat} (h : order.Perm (List.range gs.length)) : (order.map fun i => gs.getD i 0).Perm gs := by
  have k := h.map fun i => gs.getD i 0
  rw [map_range_getD] at k
  exact k
theorem sum_pos : ∀ {gs : List Int}, (∀ g ∈ gs, 1 ≤ g) → gs ≠ [] → 1 ≤ gs.sum
  | [], _, h => absurd rfl h
  | [g], hg, _ => by
    have := hg g (List.mem_singleton.mpr rfl)
    simp only [List.sum_cons, List.sum_nil]
    omega
  | g :: h :: gs, hg, _ => by
    have a := hg g List.mem_cons_self
    have b := sum_pos (gs := h :: gs) (fun x hx => hg x (List.mem_cons_of_mem _ hx)) (by simp)
    rw [List.sum_cons]
    omega
end K65
namespace K65
theorem erase_perm {α : Type} : ∀ {l : List α} {k : Nat} {x : α}, l[k]? = some x → (x :: l.eraseIdx k).Perm l
  | [], k, x, h => by simp at h
  | y :: l, 0, x, h => by
    have e : y = x := by simpa using h
    subst e
    exact .refl _
  | y :: l, k + 1, x, h => by
    have h' : l[k]? = some x := by simpa using h
    show (x :: y :: l.eraseIdx k).Perm (y :: l)
    exact (List.Perm.swap y x _).trans ((erase_perm h').cons y)
theorem erase_map {α β : Type} (f : α → β) : ∀ (l : List α) (k : Nat), (l.map f).eraseIdx k = (l.eraseIdx k).map f
  | [], k => by simp
  | y :: l, 0 => rfl
  | y :: l, k + 1 => by
    show f y :: (l.map f).eraseIdx k = f y :: (l.eraseIdx k).map f
    rw [erase_map f l k]
theorem perm_sum {a b : List Int} (h : a.Perm b) : a.sum = b.sum := by
  induction h with
  | nil => rfl
  | cons x _ ih => rw [List.sum_cons, List.sum_cons, ih]
  | swap x y l => rw [List.sum_cons, List.sum_cons, List.sum_cons, List.sum_cons]; omega
  | trans _ _ ih1 ih2 => rw [ih1, ih2]
theorem idx_get {order : List Nat} {k : Nat} (h : k ∈ order) : order[order.idxOf k]? = some k := by
  have hl := List.idxOf_lt_length_iff.mpr h
  rw [List.getElem?_eq_getElem hl, List.getElem_idxOf hl]
theorem idx_inj {order : List Nat} {j k : Nat} (hj : j ∈ order) (hk : k ∈ order) (e : order.idxOf j = order.idxOf k) : j = k := by
  have h1 := idx_get hj
  rw [e, idx_get hk] at h1
  exact (Option.some.inj h1).symm
theorem chosen_turned {gs : List Int} {order cs : List Nat} {p : Int × Int} {ns : List Int} (hc : Chose gs cs p) (ho : order.Perm (List.range gs.length)) (hp : ns.Perm (cs.map fun k => (order.idxOf k : Int))) (hs : ns.Pairwise (· ≤ ·)) :
    ∃ cs' : List Nat, (cs'.map fun (i : Nat) => (i : Int)) = ns ∧ Chose (order.map fun i => gs.getD i 0) cs' p := by
  have mem : ∀ k ∈ cs, k ∈ order := fun k hk => ho.mem_iff.mpr (List.mem_range.mpr (hc.bd k hk))
  have nn : ∀ n ∈ ns, 0 ≤ n := fun n hn => by
    obtain ⟨k, _, rfl⟩ := List.mem_map.mp (hp.mem_iff.mp hn)
    exact Int.natCast_nonneg _
  have back : (ns.map Int.toNat).map (fun (i : Nat) => (i : Int)) = ns := by
    rw [List.map_map]
    conv => rhs; rw [← List.map_id ns]
    exact List.map_congr_left fun n hn => Int.toNat_of_nonneg (nn n hn)
  have nd : ns.Pairwise (· ≠ ·) := by
    refine (List.Perm.nodup_iff hp).mpr (List.pairwise_map.mpr (List.Pairwise.imp_of_mem (fun {a b} ha hb (hl : a < b) e => ?_) hc.ris))
    have := idx_inj (mem a ha) (mem b hb) (Int.ofNat.inj e)
    omega
  have pt : (ns.map Int.toNat).Perm (cs.map fun k => order.idxOf k) := by
    have := hp.map Int.toNat
    rw [List.map_map] at this
    exact this
  refine ⟨ns.map Int.toNat, back, ?_, ?_, ?_, ?_⟩
  · refine List.pairwise_map.mpr (List.Pairwise.imp_of_mem (fun {a b} ha hb (h : a ≤ b ∧ a ≠ b) => ?_) (hs.and nd))
    have := nn a ha
    have := nn b hb
    omega
  · intro i hi
    obtain ⟨k, hk, rfl⟩ := List.mem_map.mp (pt.mem_iff.mp hi)
    rw [List.length_map]
    exact List.idxOf_lt_length_iff.mpr (mem k hk)
  · rw [← hc.sum]
    unfold gsum
    rw [perm_sum (pt.map _), List.map_map]
    congr 1
    refine List.map_congr_left fun k hk => ?_
    show (order.map fun i => gs.getD i 0).getD (order.idxOf k) 0 = gs.getD k 0
    rw [List.getD_eq_getElem?_getD, List.getElem?_map, idx_get (mem k hk)]
    rfl
  · rw [List.length_map, hp.length_eq, List.length_map]
    exact hc.len
end K65
/-! A set of tuples of ints with up to 300 members: the table's masks go to 511 (HandS.TupSets ends at 127). First the table alone. -/
namespace K65S
open PySem PySem.Spec PyProof.Rows L2

def MOk (m : Nat) : Prop := m = 511 ∨ MaskOk m
/-! ### the round of i -> 5 i + 1 for 511, by one mask of bits -/
def orb (m : Nat) : Nat → Nat → List Nat
  | 0, _ => []
  | n + 1, x => x :: orb m n ((x * 5 + 1) % (m + 1))
def bitsOf : List Nat → Nat
  | [] => 0
  | j :: r => bitsOf r ||| 2 ^ j
theorem mem_bits {j : Nat} : ∀ {l : List Nat}, (bitsOf l).testBit j = true → j ∈ l
  | [], h => by simp [bitsOf] at h
  | x :: l, h => by
    unfold bitsOf at h
    rw [Nat.testBit_or, Bool.or_eq_true] at h
    rcases h with h | h
    · exact List.mem_cons_of_mem _ (mem_bits h)
    · rw [Nat.testBit_two_pow] at h
      have e : x = j := by simpa using h
      rw [e]
      exact List.mem_cons_self
theorem orb_at (m : Nat) {j : Nat} : ∀ {n a : Nat}, j ∈ orb m n (lcgN m a) → ∃ b, b < a + n ∧ lcgN m b = j
  | 0, a, h => by cases h
  | n + 1, a, h => by
    rcases List.mem_cons.mp h with e | h
    · exact ⟨a, by omega, e.symm⟩
    · obtain ⟨b, hb, e⟩ := orb_at m (n := n) (a := a + 1) h
      exact ⟨b, by omega, e⟩
set_option exponentiation.threshold 1024 in
theorem bits511 : bitsOf (orb 511 512 0) = 2 ^ 512 - 1 := by decide +kernel
theorem cyc_all {m : Nat} (hm : MOk m) {j : Nat} (hj : j ≤ m) : ∃ b, b ≤ m ∧ lcgN m b = j := by
  rcases hm with e | hm
  · subst e
    have h : (bitsOf (orb 511 512 0)).testBit j = true := by
      rw [bits511, Nat.testBit_two_pow_sub_one]
      exact decide_eq_true (by omega)
    obtain ⟨b, hb, e⟩ := orb_at 511 (n := 512) (a := 0) (mem_bits h)
    exact ⟨b, by omega, e⟩
  · exact lcg_all hm hj
theorem cyc_round {m : Nat} (hm : MOk m) : lcgN m (m + 1) = 0 := by
  rcases hm with e | hm
  · subst e; decide +kernel
  · exact lcg_round hm
theorem cyc_mod {m : Nat} (hm : MOk m) (k : Nat) : lcgN m (m + 1 + k) = lcgN m k := by
  induction k with
  | zero => exact cyc_round hm
  | succ k ih => show (lcgN m (m + 1 + k) * 5 + 1) % (m + 1) = _; rw [ih]; rfl
theorem cyc_from {m : Nat} (hm : MOk m) {i j : Nat} (hi : i ≤ m) (hj : j ≤ m) : ∃ k, k ≤ m ∧ lcgI m i k = j := by
  obtain ⟨a, ha, rfl⟩ := cyc_all hm hi
  obtain ⟨b, hb, eb⟩ := cyc_all hm hj
  by_cases c : a ≤ b
  · exact ⟨b - a, by omega, by rw [lcgN_add, show a + (b - a) = b by omega]; exact eb⟩
  · exact ⟨m + 1 + b - a, by omega, by rw [lcgN_add, show a + (m + 1 + b - a) = m + 1 + b by omega, cyc_mod hm]; exact eb⟩
/-- each slot begins a run within m + 12 runs -/
theorem meets_run {m : Nat} (hm : MOk m) (h : Int) {j : Nat} (hj : j ≤ m) : ∃ n, n ≤ m + 12 ∧ runI m (SetTable.bits h) n = j := by
  obtain ⟨k, hk, e⟩ := cyc_from hm (runI_le m (SetTable.bits h) 12) hj
  refine ⟨12 + k, by omega, ?_⟩
  rw [runI_tail (bits_lt h), e]
theorem meets {m : Nat} (hm : MOk m) (h : Int) {j : Nat} (hj : j ≤ m) : ∃ k, k < 10 * SetTable.turns m ∧ way m h k = j := by
  obtain ⟨n, hn, e⟩ := meets_run hm h hj
  obtain ⟨k, hk, e2⟩ := run_nth m (SetTable.bits h) n
  refine ⟨k, by unfold SetTable.turns; omega, ?_⟩
  show (nth m _ k).j = j
  rw [e2]; exact e
theorem way_in (m : Nat) (h : Int) (k : Nat) : way m h k ≤ m := by
  have hi : SetTable.bits h % (m + 1) ≤ m := Nat.le_of_lt_succ (Nat.mod_lt _ (Nat.succ_pos _))
  have r := runEnd_bd hi
  have q := nth_in (m := m) k (runAt m (SetTable.bits h % (m + 1)) (SetTable.bits h)) (by
    show SetTable.bits h % (m + 1) + (SetTable.runEnd m (SetTable.bits h % (m + 1)) - SetTable.bits h % (m + 1)) ≤ m
    omega)
  exact Nat.le_trans (Nat.le_add_right _ _) q
/-! ### the table: each slot stands on its hash's way behind full slots alone -/
structure Tb (t : SetTable) (hs : List Int) : Prop where
  up : Ris t.place.toList
  clean : t.dummies = #[]
  size : t.place.size = hs.length
  mask : MOk t.mask
  within : ∀ x ∈ t.place.toList, x ≤ t.mask
  path : ∀ (i : Nat) (h : Int) (j : Nat), hs[i]? = some h → t.place.toList[i]? = some j → ∃ k, way t.mask h k = j ∧ ∀ k', k' < k → way t.mask h k' ∈ t.place.toList
theorem MOk.odd {m : Nat} (h : MOk m) : m % 2 = 1 := by
  rcases h with e | h
  · subst e; rfl
  · exact mask_odd h
/-- the first empty slot on the way of h -/
theorem Tb.gap {t : SetTable} {hs : List Int} (T : Tb t hs) (hl : hs.length ≤ t.mask) (h : Int) : ∃ K, K < 10 * SetTable.turns t.mask ∧ way t.mask h K ∉ t.place.toList ∧ ∀ k, k < K → way t.mask h k ∈ t.place.toList := by
  obtain ⟨j, hj, hn⟩ := st_missing t.place.toList (t.mask + 1) (by rw [Array.length_toList, T.size]; omega)
  obtain ⟨k, hk, e⟩ := meets T.mask h (Nat.le_of_lt_succ hj)
  rw [← e] at hn
  obtain ⟨K, h1, h2, h3⟩ := st_least (p := fun k => way t.mask h k ∉ t.place.toList) k hn
  exact ⟨K, Nat.lt_of_le_of_lt h1 hk, h2, fun k' hk' => Classical.byContradiction fun c => h3 k' hk' c⟩
/-- what has the hash h stands ahead of the gap -/
theorem Tb.ahead {t : SetTable} {hs : List Int} (T : Tb t hs) {h : Int} {K i j : Nat} (hK : way t.mask h K ∉ t.place.toList) (hi : hs[i]? = some h) (hj : t.place.toList[i]? = some j) : ∃ k, k < K ∧ way t.mask h k = j := by
  obtain ⟨k, e, hb⟩ := T.path i h j hi hj
  refine ⟨k, Nat.lt_of_not_le fun c => hK ?_, e⟩
  by_cases q : K = k
  · rw [q, e]; exact List.mem_of_getElem? hj
  · exact hb K (by omega)
theorem Tb.put {t : SetTable} {hs : List Int} (T : Tb t hs) {h : Int} {K j p : Nat} (ej : way t.mask h K = j) (ep : SetTable.below t.place j = p) (hK : j ∉ t.place.toList) (hb : ∀ k, k < K → way t.mask h k ∈ t.place.toList) :
    (t.put j).2 = p ∧ p ≤ hs.length ∧ Tb (t.put j).1 (hs.take p ++ h :: hs.drop p) ∧ (t.put j).1.mask = t.mask ∧ (t.put j).1.led = t.led ∧ (t.put j).1.plain = t.plain ∧ (t.put j).1.fill = hs.length + 1 := by
  have hjm : j ≤ t.mask := ej ▸ way_in t.mask h K
  have c1 := (below_cut T.up j).1
  rw [ep] at c1
  have hpl : p ≤ t.place.toList.length := by rw [Array.length_toList]; exact c1
  have hph : p ≤ hs.length := by rw [← T.size]; exact c1
  have hpp := put_place t j
  rw [ep] at hpp
  have hz : (t.put j).1.place.size = hs.length + 1 := by rw [← Array.length_toList, hpp, len_ins _ hpl, Array.length_toList, T.size]
  have old : ∀ {x : Nat}, x ∈ t.place.toList → x ∈ (t.put j).1.place.toList := fun hx => by rw [hpp]; exact mem_ins.2 (.inr hx)
  refine ⟨ep, hph, ⟨ris_insert T.up (fun e => hK (List.mem_of_getElem? (by rw [Array.getElem?_toList]; exact e))), put_dm T.clean j, by rw [len_ins _ hph]; exact hz, T.mask, fun x hx => ?_, fun i h' j' h1 h2 => ?_⟩, rfl, rfl, rfl, ?_⟩
  · rw [hpp] at hx
    rcases mem_ins.1 hx with z | z
    · rw [z]; exact hjm
    · exact T.within x z
  · rw [tins_get hs hph] at h1
    rw [hpp, tins_get _ hpl] at h2
    have carry : ∀ i', hs[i']? = some h' → t.place.toList[i']? = some j' → ∃ k, way t.mask h' k = j' ∧ ∀ k', k' < k → way t.mask h' k' ∈ (t.put j).1.place.toList := fun i' a b => by
      obtain ⟨k, e, z⟩ := T.path i' h' j' a b
      exact ⟨k, e, fun k' hk' => old (z k' hk')⟩
    by_cases c : i < p
    · rw [if_pos c] at h1 h2
      exact carry i h1 h2
    · rw [if_neg c] at h1 h2
      by_cases d : i = p
      · rw [if_pos d] at h1 h2
        cases h1
        cases h2
        exact ⟨K, ej, fun k' hk' => old (hb k' hk')⟩
      · rw [if_neg d] at h1 h2
        exact carry (i - 1) h1 h2
  · show (t.put j).1.place.size + (t.put j).1.dummies.size = _
    rw [hz, put_dm T.clean j]; rfl
/-! ### the table laid anew -/
theorem free_slot {m : Nat} (hm : MOk m) (owner : Array (Option Nat)) (h : Int) {j : Nat} (hj : j ≤ m) (hf : oAt owner j = none) :
    ∃ K, SetTable.layClean.free m owner (SetTable.turns m) (SetTable.bits h % (m + 1)) (SetTable.bits h) = some (way m h K) ∧ oAt owner (way m h K) = none ∧ ∀ k, k < K → oAt owner (way m h k) ≠ none := by
  obtain ⟨n, hn, e⟩ := meets_run hm h hj
  have hw : way m h (off m (SetTable.bits h % (m + 1)) (SetTable.bits h) n) = j := by
    show (nth m (runAt m _ _) (off m _ _ n)).j = j
    rw [nth_off, itL_run]; exact e
  rw [← hw] at hf
  obtain ⟨K, k1, k2, k3⟩ := st_least (p := fun k => oAt owner (way m h k) = none) _ hf
  refine ⟨K, free_spec m owner (SetTable.turns m) n _ _ K (by unfold SetTable.turns; omega) k1 (fun k hk => ?_) ?_, k2, k3⟩
  · have q := k3 k hk
    show (oAt owner (way m h k)).isNone = false
    cases z : oAt owner (way m h k) with
    | none => exact absurd z q
    | some _ => rfl
  · show (oAt owner (way m h K)).isNone = true
    have q : oAt owner (way m h K) = none := k2
    rw [q]; rfl
theorem own_step {m : Nat} (hm : MOk m) {done : List Int} {owner : Array (Option Nat)} (W : Own m done owner) (hl : done.length ≤ m) (h : Int) :
    ∃ j, SetTable.layClean.free m owner (SetTable.turns m) (SetTable.bits h % (m + 1)) (SetTable.bits h) = some j ∧ Own m (done ++ [h]) (owner.setIfInBounds j (some done.length)) := by
  obtain ⟨ps, hps, hin⟩ := W.ps
  obtain ⟨j0, h0, hn0⟩ := st_missing ps (m + 1) (by omega)
  have hj0 : oAt owner j0 = none := Classical.byContradiction fun z => hn0 (hin j0 (Nat.le_of_lt_succ h0) z)
  obtain ⟨K, e1, e2, e3⟩ := free_slot hm owner h (Nat.le_of_lt_succ h0) hj0
  obtain ⟨q, eq⟩ : ∃ q, way m h K = q := ⟨_, rfl⟩
  have hqm : q ≤ m := eq ▸ way_in m h K
  rw [eq] at e1 e2
  have hself := oAt_set_self (owner := owner) (some done.length) (j := q) (by rw [W.sz]; omega)
  have mono : ∀ {i : Nat}, oAt owner i ≠ none → oAt (owner.setIfInBounds q (some done.length)) i ≠ none := fun {i} hi => by
    by_cases c : i = q
    · rw [c, hself]; exact fun e => nomatch e
    · rw [oAt_set_ne _ c]; exact hi
  refine ⟨q, e1, by rw [Array.size_setIfInBounds]; exact W.sz, fun j k hj e => ?_, fun k hk => ?_, q :: ps, by rw [List.length_cons, List.length_append, hps]; rfl, fun j hj e => ?_⟩
  · by_cases c : j = q
    · rw [c, hself] at e
      cases e
      refine ⟨h, K, ?_, by rw [c, eq], fun k' hk' => mono (e3 k' hk')⟩
      rw [List.getElem?_append_right (Nat.le_refl _), Nat.sub_self]; rfl
    · rw [oAt_set_ne _ c] at e
      obtain ⟨h', K', a1, a2, a3⟩ := W.at_ j k hj e
      exact ⟨h', K', by rw [List.getElem?_append_left (List.getElem?_eq_some_iff.mp a1).1]; exact a1, a2, fun k' hk' => mono (a3 k' hk')⟩
  · rw [List.length_append, List.length_singleton] at hk
    by_cases c : k < done.length
    · obtain ⟨j, hj, e⟩ := W.all k c
      exact ⟨j, hj, by rw [oAt_set_ne _ (fun z => by rw [z, e2] at e; cases e)]; exact e⟩
    · have ek : k = done.length := by omega
      rw [ek]
      exact ⟨q, hqm, hself⟩
  · by_cases c : j = q
    · rw [c]; exact List.mem_cons_self
    · rw [oAt_set_ne _ c] at e
      exact List.mem_cons_of_mem _ (hin j hj e)
theorem lay_fold {m : Nat} (hm : MOk m) : ∀ (rest done : List Int) (owner : Array (Option Nat)), Own m done owner → done.length + rest.length ≤ m →
    ∃ owner', rest.foldl (stepF m) (some (owner, done.length)) = some (owner', (done ++ rest).length) ∧ Own m (done ++ rest) owner'
  | [], done, owner, W, _ => ⟨owner, by rw [List.append_nil]; rfl, by rw [List.append_nil]; exact W⟩
  | h :: rest, done, owner, W, hl => by
    rw [List.length_cons] at hl
    obtain ⟨j, e, W'⟩ := own_step hm W (by omega) h
    have hl' : (done ++ [h]).length = done.length + 1 := List.length_append
    obtain ⟨owner', f, W2⟩ := lay_fold hm rest (done ++ [h]) _ W' (by rw [hl']; omega)
    rw [List.append_assoc, List.singleton_append] at f W2
    rw [hl'] at f
    exact ⟨owner', by rw [List.foldl_cons, stepF_some e]; exact f, W2⟩
theorem lay_clean {m : Nat} (hm : MOk m) {hs : Array Int} (hn : hs.size ≤ m) : ∃ owner, SetTable.layClean m hs = some owner ∧ Own m hs.toList owner := by
  obtain ⟨owner, f, W⟩ := lay_fold hm hs.toList [] _ (Own.init m) (by show 0 + hs.size ≤ m; omega)
  rw [List.nil_append] at f W
  refine ⟨owner, ?_, W⟩
  have f' : hs.toList.foldl (stepF m) (some (Array.replicate (m + 1) none, 0)) = some (owner, hs.toList.length) := f
  rw [layClean_eq, f']; rfl
theorem relaid_tb (t : SetTable) {hs : Array Int} {wanted M : Nat} (hw : SetTable.sizeAbove wanted - 1 = M) (hM : MOk M) (hn : hs.size ≤ M) :
    ∃ t' order, t.relaid hs wanted = some (t', order) ∧ order.toList.Perm (List.range hs.size) ∧ Tb t' (order.toList.map fun i => hs.getD i 0) ∧ t'.mask = M ∧ t'.led = t.led ∧ t'.plain = t.plain := by
  obtain ⟨owner, e, W⟩ := lay_clean hM hn
  have hr : t.relaid hs wanted = some (tabOf t M owner, ((liveOf M owner).map (·.2)).toArray) := by rw [relaid_eq, hw, e]; rfl
  have ris := ris_live (fun j => owner.getD j none) (List.range (M + 1)) (by
    unfold Ris
    first | exact List.pairwise_lt_range | exact List.pairwise_lt_range _)
  have r1 : Ris ((liveOf M owner).map (·.1)) := ris.1
  have r2 : ∀ x ∈ (liveOf M owner).map (·.1), x ∈ List.range (M + 1) := ris.2
  have hz : hs.toList.length = hs.size := rfl
  have all2 : ∀ k, k < hs.size → k ∈ (liveOf M owner).map (·.2) := fun k hk => by
    obtain ⟨j, b1, b2⟩ := W.all k (by rw [hz]; exact hk)
    exact List.mem_map.mpr ⟨(j, k), (mem_live W.sz).2 ⟨b1, b2⟩, rfl⟩
  have hlen : (liveOf M owner).length = hs.size := by
    obtain ⟨ps, p1, p2⟩ := W.ps
    have a := nat_nodup_len ((liveOf M owner).map (·.1)) ps (List.Pairwise.imp (fun h => Nat.ne_of_lt h) (show List.Pairwise (· < ·) ((liveOf M owner).map (·.1)) from r1)) fun x hx => by
      obtain ⟨⟨y, k⟩, hq, ey⟩ := List.mem_map.mp hx
      cases ey
      obtain ⟨b1, b2⟩ := (mem_live W.sz).1 hq
      exact p2 y b1 (by rw [b2]; exact fun z => nomatch z)
    have b := nat_nodup_len (List.range hs.size) ((liveOf M owner).map (·.2)) List.nodup_range fun k hk => all2 k (List.mem_range.mp hk)
    rw [List.length_map, p1] at a
    rw [List.length_map, List.length_range] at b
    omega
  refine ⟨_, _, hr, perm_range hs.size _ (by show ((liveOf M owner).map (·.2)).length = _; rw [List.length_map]; exact hlen) all2, ⟨r1, rfl, ?_, hM, fun x hx => Nat.le_of_lt_succ (List.mem_range.mp (r2 x hx)), fun i h j h1 h2 => ?_⟩, rfl, rfl, rfl⟩
  · show ((liveOf M owner).map (·.1)).toArray.size = (((liveOf M owner).map (·.2)).map fun i => hs.getD i 0).length
    rw [List.size_toArray, List.length_map, List.length_map, List.length_map]
  · have h1' : (((liveOf M owner).map (·.2)).map fun i => hs.getD i 0)[i]? = some h := h1
    have h2' : ((liveOf M owner).map (·.1))[i]? = some j := h2
    rw [List.getElem?_map, List.getElem?_map] at h1'
    rw [List.getElem?_map] at h2'
    cases hq : (liveOf M owner)[i]? with
    | none => rw [hq] at h2'; cases h2'
    | some q =>
      obtain ⟨y, k⟩ := q
      rw [hq] at h1' h2'
      have ej : y = j := Option.some.inj h2'
      have eh : hs.getD k 0 = h := Option.some.inj h1'
      subst ej
      obtain ⟨b1, b2⟩ := (mem_live W.sz).1 (List.mem_of_getElem? hq)
      obtain ⟨h0, K, a1, a2, a3⟩ := W.at_ y k b1 b2
      have e0 : hs.getD k 0 = h0 := by rw [Array.getD_eq_getD_getElem?, ← Array.getElem?_toList, a1]; rfl
      have ehh : h0 = h := e0.symm.trans eh
      subst ehh
      refine ⟨K, a2, fun k' hk' => ?_⟩
      show way M h0 k' ∈ (liveOf M owner).map (·.1)
      cases z : oAt owner (way M h0 k') with
      | none => exact absurd z (a3 k' hk')
      | some k2 => exact List.mem_map.mpr ⟨(way M h0 k', k2), (mem_live W.sz).2 ⟨way_in M h0 k', z⟩, rfl⟩
end K65S
/-! The set of tuples as the model's object: the search, the adding, set(xs), sorted(set). -/
namespace K65S
open PySem PySem.Spec PyProof.Rows L2
/-- the state of the search behind c steps -/
abbrev stp (m : Nat) (h : Int) (c : Nat) : SetTable.Probe := nth m (runAt m (SetTable.bits h % (m + 1)) (SetTable.bits h)) c
theorem stp_add (m : Nat) (h : Int) (c q : Nat) : nth m (stp m h c) q = stp m h (c + q) := (nth_add m c _ q).symm
theorem nth_dummy (m : Nat) : ∀ (n : Nat) (p : SetTable.Probe), p.dummy = none → (nth m p n).dummy = none
  | 0, _, h => h
  | n + 1, p, h => nth_dummy m n (adv m p) (by unfold adv; split <;> exact h)
section
variable {P : Program} {w : World} {A : Around} {E : Value → Shared → Prop} {s : Shared}
structure SetT (P : Program) (w : World) (h : Heap) (a : Addr) (L : List (Addr × List Int)) (es : Array (Int × Value)) (ep : Nat) (t : SetTable) : Prop where
  ob : ∃ o, h.get? a = some o ∧ o.ExactSet ∧ o.data = .set es ep t
  rows : es.toList = rowsOf P w L
  tab : Tb t (L.map fun p => thash P w p.2)
  nd : (L.map (·.2)).Nodup
  tup : ∀ p ∈ L, IsT P w h p.2 p.1
  plain : t.plain = true
  led : w.params.followText "set-order" = true ∨ t.led = true
  room : L.length * 5 < t.mask * 3
  few : L.length ≤ 256
variable {a : Addr} {L : List (Addr × List Int)} {es : Array (Int × Value)} {ep : Nat} {t : SetTable}
theorem rows_len (h : es.toList = rowsOf P w L) : es.size = L.length := by
  have h := congrArg List.length h
  unfold rowsOf at h
  rwa [Array.length_toList, List.length_map] at h
theorem SetT.fits (S : SetT P w s.heap a L es ep t) : t.fits es.size = true := by
  have h1 := S.tab.size
  rw [List.length_map, ← rows_len S.rows] at h1
  have h2 := rows_len S.rows
  have h3 := S.room
  unfold SetTable.fits SetTable.fill
  rw [S.tab.clean, Bool.and_eq_true, beq_iff_eq, decide_eq_true_eq]
  exact ⟨h1, by show t.place.size + 0 ≤ t.mask; omega⟩
theorem SetT.at (S : SetT P w s.heap a L es ep t) {i : Nat} {p : Addr × List Int} (h : L[i]? = some p) : es[i]? = some (thash P w p.2, Value.ref p.1) := by
  rw [← Array.getElem?_toList, S.rows]
  unfold rowsOf
  rw [List.getElem?_map, h]; rfl
theorem SetT.noWay (S : SetT P w s.heap a L es ep t) : ¬ t.gaveWay = true := by
  unfold SetTable.gaveWay
  rw [S.tab.mask.odd]; decide
/-- the search from step c on: K is the gap -/
theorem seek (S : SetT P w s.heap a L es ep t) {x : Addr} {k : List Int} {hk : Int} (ek : thash P w k = hk) (hx : IsT P w s.heap k x) (hu : A.units < cLine) {K : Nat} (hKf : K < 10 * SetTable.turns t.mask)
    (hK : way t.mask hk K ∉ t.place.toList) (hKb : ∀ c, c < K → way t.mask hk c ∈ t.place.toList) {Q : SetFound → Shared → Prop}
    (hin : k ∈ L.map (·.2) → Q (.there none) s) (hout : k ∉ L.map (·.2) → Q (.free (way t.mask hk K) false) s) :
    ∀ (f c : Nat) (stand : Option SetTable.Probe), stand.getD (t.probeStart hk) = stp t.mask hk c → c ≤ K → K - c < f →
      (∀ (i : Nat) p, L[i]? = some p → p.2 = k → ∃ c', c ≤ c' ∧ c' < K ∧ t.place.toList[i]? = some (way t.mask hk c')) → wpAny (model P w) A (setSearchFrom a (.ref x) hk true f stand) Q E s
  | 0, _, _, _, _, hf, _ => absurd hf (Nat.not_lt_zero _)
  | f + 1, c, stand, hst, hc, hf, hre => by
    obtain ⟨o, ho, hex, hd⟩ := S.ob
    have wj : ∀ q, (nth t.mask (stp t.mask hk c) q).j = way t.mask hk (c + q) := fun q => congrArg SetTable.Probe.j (stp_add t.mask hk c q)
    have hat : ∀ (i : Nat) p, L[i]? = some p → ((es[i]?.map (·.1)).getD 0 : Int) = thash P w p.2 := fun i p hp => by rw [S.at hp]; rfl
    have spec := go_spec t S.tab.up S.tab.clean (fun i => (es[i]?.map (·.1)).getD 0) hk (10 * SetTable.turns t.mask) (K - c) (stp t.mask hk c) (nth_dummy _ _ _ rfl) (by omega)
      (fun q hq => by rw [wj]; exact hKb _ (by omega)) (by rw [wj, show c + (K - c) = K by omega]; exact hK)
    rw [setSearchFrom_succ]
    refine wpAny_bind (wpAny_setState_of ho hd S.fits ?_)
    dsimp only
    refine wp_if_neg S.noWay ?_
    try refine wpAny_bind (wpAny_pure ?_)
    rcases spec with ⟨q, i, hq, hi, hh, hno, hpr⟩ | ⟨hno, hpr⟩
    · rw [wj] at hi
      have hpr' : t.probe (fun i => (es[i]?.map (·.1)).getD 0) hk (stand.getD (t.probeStart hk)) = some (.candidate (way t.mask hk (c + q)) i (stp t.mask hk (c + (q + 1)))) := by
        rw [hst, ← wj, ← stp_add]; exact hpr
      rw [hpr']
      dsimp only
      have hil : i < L.length := by
        have h1 := (List.getElem?_eq_some_iff.mp hi).1
        have h2 := S.tab.size
        rw [List.length_map] at h2
        rw [Array.length_toList] at h1
        omega
      obtain ⟨p, hp⟩ : ∃ p, L[i]? = some p := ⟨_, List.getElem?_eq_getElem hil⟩
      have hmem : p ∈ L := List.mem_of_getElem? hp
      have go : wpAny (model P w) A (searchRest a (.ref x) hk true f es t (way t.mask hk (c + q)) i (stp t.mask hk (c + (q + 1)))) Q E s := by
        unfold searchRest
        rw [S.at hp]
        dsimp only
        refine wpAny_bind (wpAny_holding (wpAny_eqBool_tuple hu (S.tup p hmem) hx ?_))
        refine wpAny_bind (wpAny_setState_of ho hd S.fits ?_)
        dsimp only
        by_cases hkk : p.2 = k
        · refine wp_if_pos (by simp [hkk]) (wpAny_pure (hin (List.mem_map.mpr ⟨p, hmem, hkk⟩)))
        · refine wp_if_neg (by simp [hkk]) ?_
          try refine wpAny_bind (wpAny_pure ?_)
          rw [sameMem]
          dsimp only
          have hsl : t.slot (way t.mask hk (c + q)) = .live i := slot_live S.tab.up hi
          simp only [if_true, hsl, S.at hp]
          refine wpAny_bind (wpAny_isSame_ref_self (wpAny_bind (wpAny_pure ?_)))
          simp only [if_true]
          refine wp_if_neg (by simp [hkk]) ?_
          refine seek S ek hx hu hKf hK hKb hin hout f (c + (q + 1)) _ rfl (by omega) (by omega) fun i0 p0 h0 hk0 => ?_
          obtain ⟨c', a1, a2, a3⟩ := hre i0 p0 h0 hk0
          refine ⟨c', Nat.lt_of_not_le fun z => ?_, a2, a3⟩
          have z' : c' ≤ c + q := z
          by_cases y : c' = c + q
          · rw [y] at a3
            have s0 := slot_live S.tab.up a3
            rw [hsl] at s0
            injection s0 with s0
            rw [← s0, hp] at h0
            cases h0
            exact hkk hk0
          · refine hno (c' - c) i0 (by omega) (by rw [wj, show c + (c' - c) = c' by omega]; exact a3) ?_
            rw [hat i0 p0 h0, hk0, ek]
      by_cases hl : t.led = true
      · refine wp_if_neg (by simp [hl]) ?_
        try refine wpAny_bind (wpAny_pure ?_)
        exact go
      · refine wp_if_pos (by simp [hl]) (wpAny_bind (seen_tup hx (fun y hy => ?_) ?_))
        · obtain ⟨e, he, ee⟩ := List.mem_map.mp hy
          have he1 : e ∈ es ∧ e.1 = hk := by simpa using he
          have he2 : e ∈ es.toList := by simpa using he1.1
          rw [S.rows] at he2
          obtain ⟨p2, hp2, e2⟩ := List.mem_map.mp he2
          exact ⟨p2.2, p2.1, by rw [← ee, ← e2], S.tup p2 hp2⟩
        · refine wp_if_neg (by decide) ?_
          try refine wpAny_bind (wpAny_pure ?_)
          exact go
    · have hpr' : t.probe (fun i => (es[i]?.map (·.1)).getD 0) hk (stand.getD (t.probeStart hk)) = some (.empty (way t.mask hk K) none) := by
        have e2 := wj (K - c)
        rw [show c + (K - c) = K by omega] at e2
        rw [hst, ← e2]; exact hpr
      rw [hpr']
      dsimp only
      refine wpAny_pure (hout fun hm => ?_)
      obtain ⟨p0, h0, hk0⟩ := List.mem_map.mp hm
      obtain ⟨i0, hi0⟩ := List.mem_iff_getElem?.mp h0
      obtain ⟨c', a1, a2, a3⟩ := hre i0 p0 hi0 hk0
      refine hno (c' - c) i0 (by omega) (by rw [wj, show c + (c' - c) = c' by omega]; exact a3) ?_
      rw [hat i0 p0 hi0, hk0, ek]
theorem turns_few {m : Nat} (h : MOk m) : 10 * SetTable.turns m ≤ 6000 := by
  unfold SetTable.turns
  rcases h with e | e | e | e <;> omega
theorem seek_add (S : SetT P w s.heap a L es ep t) {x : Addr} {k : List Int} (hx : IsT P w s.heap k x) (hu : A.units < cLine) {Q : SetFound → Shared → Prop} (hin : k ∈ L.map (·.2) → Q (.there none) s)
    (hout : ∀ K, k ∉ L.map (·.2) → way t.mask (thash P w k) K ∉ t.place.toList → (∀ c, c < K → way t.mask (thash P w k) c ∈ t.place.toList) → Q (.free (way t.mask (thash P w k) K) false) s) :
    wpAny (model P w) A (setSearch a (.ref x) (thash P w k) true) Q E s := by
  have hroom := S.room
  obtain ⟨K, hKf, hK, hKb⟩ := S.tab.gap (by rw [List.length_map]; omega) (thash P w k)
  have hbig := turns_few S.tab.mask
  unfold setSearch
  refine seek S rfl hx hu hKf hK hKb hin (fun hn => hout K hn hK hKb) 100000 0 none rfl (Nat.zero_le _) (by omega) fun i p hp hk => ?_
  have hi : (L.map fun p => thash P w p.2)[i]? = some (thash P w k) := by rw [List.getElem?_map, hp, ← hk]; rfl
  have hil : i < t.place.toList.length := by
    have h1 := (List.getElem?_eq_some_iff.mp hp).1
    have h2 := S.tab.size
    rw [List.length_map] at h2
    rw [Array.length_toList]
    omega
  have hj := List.getElem?_eq_getElem hil
  obtain ⟨c, hc, e⟩ := S.tab.ahead hK hi hj
  exact ⟨c, Nat.zero_le _, hc, by rw [hj, e]⟩
/-- laid anew in a larger table -/
theorem relay {o : Obj} (ho : s.heap.get? a = some o) (hex : o.ExactSet) (hd : o.data = .set es ep t) (hrows : es.toList = rowsOf P w L) (T : Tb t (L.map fun p => thash P w p.2)) (hfl : es.size ≤ t.mask)
    (nd : (L.map (·.2)).Nodup) (tup : ∀ p ∈ L, IsT P w s.heap p.2 p.1) (pl : t.plain = true) (ld : w.params.followText "set-order" = true ∨ t.led = true) (few : L.length ≤ 256) {wanted M : Nat}
    (hw : SetTable.sizeAbove wanted - 1 = M) (hM : MOk M) (hn : L.length * 5 < M * 3) {Q : Unit → Shared → Prop}
    (hQ : ∀ h' L' es' ep' t', Heap.SameBut a s.heap h' → SetT P w h' a L' es' ep' t' → L'.Perm L → Q () { s with heap := h' }) : wpAny (model P w) A (setRelay a wanted) Q E s := by
  have hsl := rows_len hrows
  have hsz := T.size
  rw [List.length_map] at hsz
  have hfits : t.fits es.size = true := by
    unfold SetTable.fits SetTable.fill
    rw [T.clean, Bool.and_eq_true, beq_iff_eq, decide_eq_true_eq]
    exact ⟨by omega, by show t.place.size + 0 ≤ t.mask; omega⟩
  obtain ⟨t', order, e, hp, T2, em, el, ep'⟩ := relaid_tb t (hs := es.map (·.1)) (wanted := wanted) hw hM (by rw [Array.size_map, hsl]; omega)
  rw [Array.size_map, hsl] at hp
  obtain ⟨L2, r1, r2, r3⟩ := order_rows L es order hrows hp
  rw [← r3] at T2
  have hs2 : (order.filterMap (es[·]?)).size = es.size := by rw [rows_len r1, r2.length_eq, hsl]
  have hM5 : M ≤ 511 := by rcases hM with z | z | z | z <;> omega
  rw [setRelay_eq]
  refine wpAny_bind (wpAny_setState_of ho hd hfits ?_)
  dsimp only
  refine wp_if_neg (by rw [sizeLine_eq]; omega) ?_
  try refine wpAny_bind (wpAny_pure ?_)
  rw [e]
  dsimp only
  refine wpAny_bind (wp_if_neg (by rw [hs2]; simp) ?_)
  try refine wpAny_bind (wpAny_pure ?_)
  refine wpAny_pure ?_
  dsimp only
  refine wpAny_storeSet_of ho hd ?_ (by rw [hs2, hsl, sizeLine_eq]; omega)
  have sb : Heap.SameBut a s.heap (s.heap.update a (Obj.putSet (order.filterMap (es[·]?)) t')) := Heap.SameBut.update ..
  refine hQ _ L2 (order.filterMap (es[·]?)) (ep + 1) t' sb ⟨⟨_, store_at ho hd, ⟨hex.1, hex.2.1, hex.2.2⟩, rfl⟩, r1, T2, (r2.map (·.2)).nodup_iff.mpr nd, fun p hpm => isT_same (tup p (r2.mem_iff.mp hpm)) ho hd sb, by rw [ep']; exact pl, by rw [el]; exact ld, ?_, by rw [r2.length_eq]; exact few⟩ r2
  rw [r2.length_eq, em]; exact hn
theorem size_a : SetTable.sizeAbove (SetTable.grown 5) - 1 = 31 := by decide +kernel
theorem size_b : SetTable.sizeAbove (SetTable.grown 19) - 1 = 127 := by decide +kernel
theorem size_c : SetTable.sizeAbove (SetTable.grown 77) - 1 = 511 := by decide +kernel
/-- adding one -/
theorem add_one (S : SetT P w s.heap a L es ep t) {x : Addr} {k : List Int} (hx : IsT P w s.heap k x) (hu : A.units < cLine) (hfew : L.length + 1 ≤ 256) {Q : Bool → Shared → Prop}
    (hQ : ∀ b h' L' es' ep' t', Heap.SameBut a s.heap h' → SetT P w h' a L' es' ep' t' → (k ∈ L.map (·.2) → L' = L) → (k ∉ L.map (·.2) → L'.Perm ((x, k) :: L)) → Q b { s with heap := h' }) :
    wpAny (model P w) A (setAddHashed a (.ref x) (thash P w k)) Q E s := by
  obtain ⟨o, ho, hex, hd⟩ := S.ob
  have hsl := rows_len S.rows
  have hroom := S.room
  unfold setAddHashed
  refine wpAny_holding ?_
  rw [show (100000 : Nat) = 99999 + 1 from rfl, setAddHashedIn_succ]
  refine wpAny_bind (wpAny_setState_of ho hd S.fits ?_)
  dsimp only
  refine wp_if_neg (by simp [byScan, Value.scannable]) ?_
  try refine wpAny_bind (wpAny_pure ?_)
  refine wpAny_bind (seek_add S hx hu (fun hm => ?_) fun K hm hK hb => ?_)
  · dsimp only
    exact wpAny_pure (hQ false s.heap L es ep t (Heap.SameBut.refl a s.heap) S (fun _ => rfl) fun z => absurd hm z)
  dsimp only
  refine wpAny_bind (wpAny_setState_of ho hd S.fits ?_)
  dsimp only
  obtain ⟨j, ej⟩ : ∃ j, way t.mask (thash P w k) K = j := ⟨_, rfl⟩
  obtain ⟨p, epj⟩ : ∃ p, SetTable.below t.place j = p := ⟨_, rfl⟩
  rw [ej] at hK ⊢
  obtain ⟨q1, q2, q3, q4, q5, q6, q9⟩ := S.tab.put ej epj hK hb
  have hp1 : (t.put j).1.plain = true := by rw [q6]; exact S.plain
  generalize t.put j = pt at q1 q3 q4 q5 q6 q9 hp1 ⊢
  obtain ⟨t1, p'⟩ := pt
  dsimp only at q1 q3 q4 q5 q6 q9 hp1 ⊢
  subst q1
  first
    | (refine wpAny_bind ?_; refine wp_if_pos hp1 ?_; refine hashBy_tup hx ?_)
    | refine wp_if_pos hp1 (wpAny_bind (hashBy_tup hx ?_))
  simp only [if_true]
  have hin : (SetTable.insertAt es p' (thash P w k, Value.ref x)).toList = rowsOf P w (L.take p' ++ (x, k) :: L.drop p') := by rw [SetTable.toList_insertAt, rows_put, S.rows]
  have pm := put_perm L p' (x, k)
  have hhs : (L.take p' ++ (x, k) :: L.drop p').map (fun p => thash P w p.2) = (L.map fun p => thash P w p.2).take p' ++ thash P w k :: (L.map fun p => thash P w p.2).drop p' := by
    rw [List.map_append, List.map_cons, List.map_take, List.map_drop]
  rw [← hhs] at q3
  have hes := rows_len hin
  generalize SetTable.insertAt es p' (thash P w k, Value.ref x) = es1 at hin hes ⊢
  generalize L.take p' ++ (x, k) :: L.drop p' = L1 at pm q3 hin hes
  have hlen : L1.length = L.length + 1 := pm.length_eq
  have nd1 : (L1.map (·.2)).Nodup := (pm.map (·.2)).nodup_iff.mpr (by rw [List.map_cons]; exact List.nodup_cons.mpr ⟨hm, S.nd⟩)
  refine wpAny_bind (wpAny_storeSet_of ho hd ?_ (by rw [hes, sizeLine_eq]; omega))
  have sb : Heap.SameBut a s.heap (s.heap.update a (Obj.putSet es1 t1)) := Heap.SameBut.update ..
  have ho1 := store_at (es' := es1) (t' := t1) ho hd
  generalize s.heap.update a (Obj.putSet es1 t1) = h1 at sb ho1 ⊢
  have tup1 : ∀ p ∈ L1, IsT P w h1 p.2 p.1 := fun p hp => by
    rcases List.mem_cons.mp (pm.mem_iff.mp hp) with e | hp
    · rw [e]; exact isT_same hx ho hd sb
    · exact isT_same (S.tup p hp) ho hd sb
  have ld1 : w.params.followText "set-order" = true ∨ t1.led = true := by rw [q5]; exact S.led
  by_cases hf : t1.tooFull = true
  · first
      | (refine wpAny_bind ?_; refine wp_if_pos (by simp [hf]) ?_)
      | (refine wp_if_pos (by simp [hf]) ?_; refine wpAny_bind ?_)
    have hfull : (L.length + 1) * 5 ≥ t1.mask * 3 := by
      have h := hf
      unfold SetTable.tooFull at h
      rw [decide_eq_true_eq, q9, List.length_map] at h
      exact h
    have next : ∃ M, SetTable.sizeAbove (SetTable.grown (L.length + 1)) - 1 = M ∧ MOk M ∧ (L.length + 1) * 5 < M * 3 := by
      rw [q4] at hfull
      rcases S.tab.mask with e | e | e | e
      · exfalso; rw [e] at hfull; omega
      · rw [e] at hfull hroom
        exact ⟨31, by rw [show L.length + 1 = 5 by omega]; exact size_a, .inr (.inr (.inl rfl)), by omega⟩
      · rw [e] at hfull hroom
        exact ⟨127, by rw [show L.length + 1 = 19 by omega]; exact size_b, .inr (.inr (.inr rfl)), by omega⟩
      · rw [e] at hfull hroom
        exact ⟨511, by rw [show L.length + 1 = 77 by omega]; exact size_c, .inl rfl, by omega⟩
    obtain ⟨M, m1, m2, m3⟩ := next
    rw [hsl]
    refine relay (s := { s with heap := h1 }) ho1 ⟨hex.1, hex.2.1, hex.2.2⟩ rfl hin q3 (by rw [hes, q4]; omega) nd1 tup1 hp1 ld1 (by omega) m1 m2 (by omega) ?_
    intro h2 L2 es2 ep2 t2 sb2 S2 pm2
    exact wpAny_pure (hQ true h2 L2 es2 ep2 t2 (sb.trans sb2) S2 (fun z => absurd z hm) fun _ => pm2.trans pm)
  · first
      | refine wp_if_neg (by simp [hf]) ?_
      | (refine wpAny_bind ?_; refine wp_if_neg (by simp [hf]) ?_; refine wpAny_pure ?_)
    refine wpAny_pure (hQ true h1 L1 es1 (ep + 1) t1 sb ⟨⟨_, ho1, ⟨hex.1, hex.2.1, hex.2.2⟩, rfl⟩, hin, q3, nd1, tup1, hp1, ld1, ?_, by omega⟩ (fun z => absurd z hm) fun _ => pm)
    have h := hf
    unfold SetTable.tooFull at h
    rw [decide_eq_true_eq, q9, List.length_map] at h
    omega
end
end K65S
/-! set(xs) of a list of tuples of ints, sorted(such a set of pairs): over the heap, then as rules of the layer. -/
namespace K65S
open PySem PySem.Spec PyProof.Rows L2
abbrev o0 (w : World) : Obj := { cls := .type "set", dict := none, data := .set #[] 0 (.fresh 0 0 (!w.params.followText "set-order")) }
section
variable {P : Program} {w : World} {A : Around} {E : Value → Shared → Prop} {s : Shared}
theorem SetT.stay {h h' : Heap} {a : Addr} {L : List (Addr × List Int)} {es : Array (Int × Value)} {ep : Nat} {t : SetTable} (S : SetT P w h a L es ep t) (ha : ∀ o, h.get? a = some o → h'.get? a = some o) (ht : ∀ p ∈ L, IsT P w h' p.2 p.1) : SetT P w h' a L es ep t := by
  obtain ⟨o, ho, r⟩ := S.ob
  exact ⟨⟨o, ha o ho, r⟩, S.rows, S.tab, S.nd, ht, S.plain, S.led, S.room, S.few⟩
theorem setT_new {h : Heap} {a : Addr} (ho : h.get? a = some (o0 w)) : SetT P w h a [] #[] 0 (.fresh 0 0 (!w.params.followText "set-order")) where
  ob := ⟨_, ho, ⟨rfl, rfl, rfl⟩, rfl⟩
  rows := rfl
  tab := ⟨List.Pairwise.nil, rfl, rfl, .inr (.inl rfl), fun x hx => (by cases hx), fun i h j hi => (by simp at hi)⟩
  nd := List.nodup_nil
  tup := fun p hp => (by cases hp)
  plain := rfl
  led := by
    show _ ∨ (!w.params.followText "set-order") = true
    cases w.params.followText "set-order"
    · exact .inr rfl
    · exact .inl rfl
  room := by show 0 * 5 < 7 * 3; decide
  few := Nat.zero_le _
/-- the loop of set.update: from the i-th item on -/
theorem upd_loop {I : Addr} {fp wr : List Addr} {G : Array GenState → Array GenState → Prop} {n : Nat} {Pv : Nat → Value → Prop} {St : Nat → Shared → Prop} {R : Result → Shared → Prop}
    (W : WalksS P w A.in1 I fp wr G n Pv St) (Z : Addr) (hZf : Z ∉ fp) (ks : List (Addr × List Int)) (hn : n = ks.length) (hfew : ks.length ≤ 256) (hval : ∀ i v, Pv i v → ∃ p, ks[i]? = some p ∧ v = .ref p.1)
    (h0 : Heap) (hk : ∀ p ∈ ks, IsT P w h0 p.2 p.1) (hZ0 : h0.get? Z = none) (hw0 : ∀ b ∈ wr, h0.get? b = none) (hu : A.in1.units < cLine) :
    ∀ (k i : Nat) (s : Shared), n - i = k → i ≤ n → St i s → (∀ b o, h0.get? b = some o → s.heap.get? b = some o) → (∃ L es ep t, SetT P w s.heap Z L es ep t ∧ Got ks i L) →
      (∀ s' L es ep t, Moved (Z :: wr) G s s' → SetT P w s'.heap Z L es ep t → Got ks n L → (∀ b o, h0.get? b = some o → s'.heap.get? b = some o) → R (.ok (.ret .none)) s') →
      codeAny (model P w) A (.builtin "set.update.loop" ⟨[.ref Z, .ref I], []⟩) R s := by
  have hZw : Z ∉ wr := fun h => hZf (W.sub _ h)
  have wide : ∀ b ∈ wr, b ∈ Z :: wr := fun b hb => List.mem_cons_of_mem _ hb
  have old : ∀ {s s' : Shared}, Moved wr G s s' → (∀ b o, h0.get? b = some o → s.heap.get? b = some o) → ∀ b o, h0.get? b = some o → s'.heap.get? b = some o := fun hm hkp b o e =>
    hm.heap b o (fun hb => by rw [hw0 b hb] at e; cases e) (hkp b o e)
  intro k
  induction k with
  | zero =>
    intro i s hk' hi hst hkp ⟨L, es, ep, t, hS, g⟩ hR
    obtain rfl : i = n := by omega
    refine codeAny_builtin F.entry_set_update_loop ?_
    rw [Around.under_plainId F.plain_set_update_loop _]
    show wpAny _ A.in1 (pyNext (.ref I) >>= _) _ _ s
    refine wpAny_bind (W.done s _ _ hst fun s' hm => ?_)
    show wpAny _ A.in1 (ret Value.none) _ _ s'
    have hkp' := old hm hkp
    exact wpAny_pure (hR s' L es ep t (hm.mono wide) (hS.stay (fun o e => hm.heap Z o hZw e) fun p hp => isT_keep (hk p (List.mem_of_mem_take (g.sub p hp))) hkp') g hkp')
  | succ k ih =>
    intro i s hk' hi hst hkp ⟨L, es, ep, t, hS, g⟩ hR
    have hlt : i < n := by omega
    refine codeAny_builtin F.entry_set_update_loop ?_
    rw [Around.under_plainId F.plain_set_update_loop _]
    show wpAny _ A.in1 (pyNext (.ref I) >>= _) _ _ s
    refine wpAny_bind (W.item i s _ _ hlt hst fun v s' hP hst' hm => ?_)
    obtain ⟨p, hp, rfl⟩ := hval i v hP
    have hkp' := old hm hkp
    have hS' : SetT P w s'.heap Z L es ep t := hS.stay (fun o e => hm.heap Z o hZw e) fun q hq => isT_keep (hk q (List.mem_of_mem_take (g.sub q hq))) hkp'
    have hx : IsT P w s'.heap p.2 p.1 := isT_keep (hk p (List.mem_of_getElem? hp)) hkp'
    show wpAny _ A.in1 (holding [Value.ref p.1] (setAdd Z (.ref p.1)) >>= _) _ _ s'
    refine wpAny_bind (wpAny_holding ?_)
    unfold setAdd
    refine wpAny_holding (wpAny_bind (wpAny_pyHash_tuple hu hx ?_))
    refine add_one (s := { s' with toks := s'.toks + (p.2.length + 1) }) hS' hx hu (by have := g.len; omega) fun b h' L' es' ep' t' hsb hS2 c1 c2 => ?_
    have g' : Got ks (i + 1) L' := by
      by_cases c : p.2 ∈ L.map (·.2)
      · rw [c1 c]; exact g.same hp c
      · exact g.more hp (c2 c)
    refine wpAny_pure ⟨plainId_quiet F.plain_set_update_loop _, ih (i + 1) _ (by omega) hlt (W.frame _ s' _ _ hst' (Nat.le_add_right _ _) fun b hb o e => ?_) (fun b o e => (hsb.2 b (fun z => by rw [z, hZ0] at e; cases e)).trans (hkp' b o e)) ⟨L', es', ep', t', hS2, g'⟩
      fun s'' L2 es2 ep2 t2 hm'' hS'' g'' hkp'' => ?_⟩
    · rw [hsb.2 b (fun h : b = Z => hZf (by rw [← h]; exact hb))]; exact e
    · refine hR s'' L2 es2 ep2 t2 (Moved.trans W.gtrans ((hm.mono wide).then_heap (Nat.le_add_right _ _) fun b o hb e => ?_) hm'') hS'' g'' hkp''
      rw [hsb.2 b (fun h : b = Z => hb (by rw [h]; exact List.mem_cons_self))]; exact e
theorem none_above (h : Heap) {b : Addr} (hb : h.objs.size ≤ b) : h.get? b = none := by
  cases q : h.get? b with
  | none => rfl
  | some o => exact absurd (Nat.lt_of_lt_of_le (Heap.lt_size q) hb) (Nat.lt_irrefl _)
/-- set(xs) over the heap -/
theorem call_set {l : Addr} {items : Array Value} (ks : List (Addr × List Int)) {Q : Value → Shared → Prop} (hh : A.handled = none) (hl : s.heap.IsList l items) (hit : items.toList = ks.map fun p => Value.ref p.1)
    (hk : ∀ p ∈ ks, IsT P w s.heap p.2 p.1) (hfew : ks.length ≤ 256) (hu : A.units + 3 < cLine)
    (h : ∀ (h' : Heap) (tk : Nat) L es ep t, SetT P w h' s.heap.objs.size L es ep t → Got ks ks.length L → (∀ b o, s.heap.get? b = some o → h'.get? b = some o) → Q (.ref s.heap.objs.size) { s with heap := h', toks := tk }) :
    wpAny (model P w) A (call (.type "set") [.ref l]) Q E s := by
  have hisz : items.size = ks.length := by
    have q := congrArg List.length hit
    rwa [Array.length_toList, List.length_map] at q
  obtain ⟨c, tl, hmro⟩ := F.called_set.mro
  have hmade := F.called_set.made
  have hsub := F.called_set.sub
  refine wpAny_call (codeAny_of_tree ?_)
  show wpAny _ _ (callAny (.type "set") _) _ _ _
  refine wpAny_pure ⟨Code.quiet_builtin _ (by decide +kernel), codeAny_builtin F.entry_type_call ?_⟩
  rw [Around.under_plain (weight_type_call_type "set" [.ref l] []) rfl]
  have h1 := F.called_set.notType
  have h2 := F.called_set.canCreate
  have hct := F.typeCall_set_1 (.ref l)
  repeat (any_goals (first | assumption | wp_step))
  refine codeAny_mono (code_set_led1 (.ref l) (E := E) (Q₁ := fun obj s₁ => obj = .ref s.heap.objs.size ∧ s₁ = { s with heap := s.heap.push (o0 w) }) ⟨rfl, rfl⟩) fun r s₁ hr => ?_
  cases r with
  | error e => exact hr
  | ok fl =>
    cases fl with
    | ret obj =>
      obtain ⟨rfl, rfl⟩ := hr
      have hS : (s.heap.push (o0 w)).get? s.heap.objs.size = some (o0 w) := Heap.get?_push_size _ rfl
      have hT : Shared.TypeIs { s with heap := s.heap.push (o0 w) } (.ref s.heap.objs.size) "set" := ⟨_, hS, rfl⟩
      have hli := F.called_set.init.lookup
      have hbi := F.called_set.init.bind (.ref s.heap.objs.size)
      repeat (any_goals (first | assumption | wp_step))
      refine codeAny_mono (codeAny_call_builtin (R := wants (fun r s₂ => r = .none ∧ ∃ h' tk L es ep t, s₂ = { s with heap := h', toks := tk } ∧ SetT P w h' s.heap.objs.size L es ep t ∧ Got ks ks.length L ∧
          (∀ b o, s.heap.get? b = some o → h'.get? b = some o)) E) F.called_set.init.plain F.entry_set_init (check_set_init_1 hT ?_)) fun r₂ s₂ hr₂ => ?_
      · obtain ⟨ol, hol, hcl, nl, hdl⟩ := hl
        obtain ⟨ocls, odict, odata, oslots⟩ := ol
        simp only at hcl hdl
        subst hcl; subst hdl
        have hol' : (s.heap.push (o0 w)).get? l = some { cls := .type "list", dict := odict, data := .seq items nl, slots := oslots } := Heap.get?_push_of_some _ hol
        have hsls := F.sub_list_set
        have hslf := F.sub_list_frozenset
        have hne : (Value.type "list" == Value.type "dict") = false := by decide
        have hl1 : (s.heap.push (o0 w)).IsList l items := ⟨_, hol', rfl, nl, rfl⟩
        unfold Builtin.«set.__init__» noKeywords Builtin.Frozenset.updateFrom
        generalize hPI : pyIter = PI
        wp_walk
        subst hPI
        refine wpAny_pyIter_list hl1 (wpAny_bind (wpAny_runValue ?_))
        have hlS : l < s.heap.objs.size := Heap.lt_size hol
        have hh3 : A.in1.in1.in1.handled = none := by simp [hh]
        have hz1 : (s.heap.push (o0 w)).objs.size = s.heap.objs.size + 1 := Heap.size_push ..
        have hneI : l ≠ (s.heap.push (o0 w)).objs.size := by rw [Heap.size_push]; exact Nat.ne_of_lt (Nat.lt_succ_of_lt hlS)
        have hSf : s.heap.objs.size ∉ [(s.heap.push (o0 w)).objs.size, l] := by
          rw [Heap.size_push]; simp only [List.mem_cons, List.mem_singleton, List.not_mem_nil, or_false, not_or]
          exact ⟨Nat.ne_of_lt (Nat.lt_succ_self _), Nat.ne_of_gt hlS⟩
        have hval : ∀ (i : Nat) (v : Value), items[i]? = some v → ∃ p, ks[i]? = some p ∧ v = .ref p.1 := fun i v hv => by
          have q : items.toList[i]? = some v := by rw [Array.getElem?_toList]; exact hv
          rw [hit, List.getElem?_map] at q
          obtain ⟨p, hp, e⟩ := Option.map_eq_some_iff.mp q
          exact ⟨p, hp, e.symm⟩
        refine upd_loop ((Walks.list hh3 _ l hneI items).toS) s.heap.objs.size hSf ks hisz hfew hval s.heap hk (none_above _ (Nat.le_refl _)) (fun b hb => none_above _ (by
            rw [List.mem_singleton.mp hb, Heap.size_push]; exact Nat.le_succ _)) hu (items.size - 0) 0 _ (by omega) (Nat.zero_le _)
          ⟨⟨_, Heap.get?_push_size _ rfl, rfl, rfl⟩, (hl1.push _)⟩ (fun b o e => Heap.get?_push_of_some _ (Heap.get?_push_of_some _ e)) ⟨[], #[], 0, _, setT_new (Heap.get?_push_of_some _ hS), Got.zero ks⟩ ?hR
        case hR =>
          intro s' L es ep t hm hS' g' hkp
          obtain ⟨h', g2, d', tk', os'⟩ := s'
          obtain rfl : g2 = s.gens := hm.gens
          obtain rfl : d' = s.drawn := hm.drawn
          obtain rfl : os' = s.os := hm.os
          show wpAny _ _ _ _ _ _
          refine wpAny_pure ?_
          show wpAny _ _ (ret Value.none) _ _ _
          rw [hisz] at g'
          exact wpAny_pure ⟨rfl, h', tk', L, es, ep, t, rfl, hS', g', hkp⟩
      · cases r₂ with
        | error e => exact hr₂
        | ok fl₂ =>
          cases fl₂ with
          | ret r =>
            obtain ⟨rfl, h', tk, L, es, ep, t, rfl, hS', g', hk'⟩ := hr₂
            repeat (any_goals (first | assumption | wp_step))
            exact h _ _ _ _ _ _ hS' g' hk'
          | _ => exact hr₂.elim
    | _ => exact hr.elim
end
end K65S
/-! sorted(a set of pairs of ints), and both as rules of the layer. -/
namespace K65S
open PySem PySem.Spec PyProof.Rows L2
open K65 (Plt plt_tri)
theorem perm_map_back {α β : Type} {g : α → β} : ∀ {l l' : List β}, l.Perm l' → ∀ m : List α, l' = m.map g → ∃ m' : List α, m'.Perm m ∧ l = m'.map g := by
  intro l l' h
  induction h with
  | nil => intro m e; exact ⟨m, List.Perm.refl _, e⟩
  | cons x _ ih =>
    intro m e
    cases m with
    | nil => cases e
    | cons y m =>
      rw [List.map_cons] at e
      injection e with e1 e2
      obtain ⟨m', p, q⟩ := ih m e2
      exact ⟨y :: m', p.cons y, by rw [List.map_cons, ← q, e1]⟩
  | swap x y l =>
    intro m e
    match m, e with
    | [], e => cases e
    | [_], e => rw [List.map_cons, List.map_nil] at e; injection e with _ e; cases e
    | a :: b :: m, e =>
      rw [List.map_cons, List.map_cons] at e
      injection e with e1 e
      injection e with e2 e3
      exact ⟨b :: a :: m, List.Perm.swap a b m, by rw [List.map_cons, List.map_cons, ← e1, ← e2, ← e3]⟩
  | trans _ _ ih1 ih2 =>
    intro m e
    obtain ⟨m2, p2, q2⟩ := ih2 m e
    obtain ⟨m1, p1, q1⟩ := ih1 m2 q2
    exact ⟨m1, p1.trans p2, q1⟩
/-- a pair's key as a list -/
abbrev lk (p : Addr × Int × Int) : Addr × List Int := (p.1, [p.2.1, p.2.2])
theorem lk_keys (L : List (Addr × Int × Int)) : (L.map lk).map (·.2) = (L.map (·.2)).map fun q => [q.1, q.2] := by
  rw [List.map_map, List.map_map]; rfl
theorem nodup_lk {L : List (Addr × Int × Int)} : ((L.map lk).map (·.2)).Nodup ↔ (L.map (·.2)).Nodup := by
  rw [lk_keys]
  constructor
  · exact fun h => List.Pairwise.of_map _ (fun a b hne e => hne (by rw [e])) h
  · intro h
    refine List.pairwise_map.mpr (List.Pairwise.imp (fun {a b} hne e => hne ?_) h)
    injection e with e1 e
    injection e with e2 _
    exact Prod.ext e1 e2
/-- which pair stands at an address -/
def kOf (L : List (Addr × Int × Int)) : Value → Int × Int
  | .ref a => ((L.find? fun p => p.1 == a).map (·.2)).getD (0, 0)
  | _ => (0, 0)
theorem kOf_at {L : List (Addr × Int × Int)} (one : ∀ q ∈ L, ∀ r ∈ L, q.1 = r.1 → q.2 = r.2) {p : Addr × Int × Int} (hp : p ∈ L) : kOf L (.ref p.1) = p.2 := by
  show ((L.find? fun q => q.1 == p.1).map (·.2)).getD (0, 0) = p.2
  cases e : L.find? fun q => q.1 == p.1 with
  | none =>
    have := List.find?_eq_none.mp e p hp
    simp at this
  | some q =>
    have h1 : q.1 = p.1 := by simpa using List.find?_some e
    exact one q (List.mem_of_find?_eq_some e) p hp h1
section
variable {P : Program} {w : World} {A : Around} {E : Value → Shared → Prop} {s : Shared}
theorem isPair_of {h : Heap} {a : Addr} {p : Int × Int} (x : IsT P w h [p.1, p.2] a) : Srt.IsPair h (.ref a) p.1 p.2 := by
  obtain ⟨o, items, n, ho, hc, hd, hi⟩ := x
  have hi2 := ints_of_items hi
  obtain ⟨t1, t2, e⟩ : ∃ t1 t2, items.toList = [Value.int p.1 t1, Value.int p.2 t2] := by
    generalize items.toList = l at hi2
    cases hi2 with
    | cons a t h => cases h with
      | cons b u h => cases h; exact ⟨_, _, rfl⟩
  refine ⟨a, o, t1, t2, n, rfl, ho, hc, ?_⟩
  rw [hd]
  congr 1
  exact Array.toList_inj.mp e
theorem sorted_set {a : Addr} {L : List (Addr × Int × Int)} {es : Array (Int × Value)} {ep : Nat} {t : SetTable} {Q : Value → Shared → Prop} (S : SetT P w s.heap a (L.map lk) es ep t) (hh : A.handled = none)
    (hQ : ∀ s' p (out : List Value) (c : Nat) (L' : List (Addr × Int × Int)), (∀ b o, s.heap.get? b = some o → s'.heap.get? b = some o) → s'.gens = s.gens → s'.os = s.os → s.heap.objs.size ≤ p →
      s'.heap.get? p = some (seqObj "list" out.toArray c) → out = L'.map (fun q => Value.ref q.1) → L'.Perm L → L'.Pairwise (fun q r => Plt q.2 r.2) → Q (.ref p) s') :
    wpAny (model P w) A (call (.builtin "sorted") [.ref a]) Q E s := by
  obtain ⟨o, ho, hex, hd⟩ := S.ob
  have hsz := rows_len S.rows
  have hfew := S.few
  rw [List.length_map] at hsz hfew
  refine Calls.call_function_entry kind_sorted plain_sorted entry_sorted (args_sorted1 _) ?_
  unfold Builtin.«sorted»
  refine wpAny_bind (m := checkCount "sorted" 1 1 _) (wpAny_pure ?_)
  refine wpAny_bind (collect_set (A := A.in1) hh ⟨o, ho, hex.1, hd⟩ S.fits (by unfold scanBound; omega) S.tab.up S.led fun s1 vs k1 hz g1 o1 pm => ?_)
  have hes : es.toList.map (·.2) = L.map fun q => Value.ref q.1 := by
    rw [S.rows]
    unfold rowsOf
    rw [List.map_map, List.map_map]; rfl
  rw [hes] at pm
  have tup : ∀ q ∈ L, IsT P w s.heap [q.2.1, q.2.2] q.1 := fun q hq => S.tup (lk q) (List.mem_map.mpr ⟨q, hq, rfl⟩)
  have one : ∀ q ∈ L, ∀ r ∈ L, q.1 = r.1 → q.2 = r.2 := fun q hq r hr e => by
    have a1 := tup q hq
    have a2 := tup r hr
    rw [e] at a1
    have e2 : [q.2.1, q.2.2] = [r.2.1, r.2.2] := a1.inj a2
    injection e2 with e3 e2
    injection e2 with e4 _
    exact Prod.ext e3 e4
  have hvl : vs.length = L.length := by rw [pm.length_eq, List.length_map]
  have hvz : vs.length ≤ sizeLine := by rw [sizeLine_eq]; omega
  refine wpAny_bind (wpAny_newList ?_ hvz)
  have hoL : (s1.heap.push (seqObj "list" vs.toArray 0)).get? s1.heap.objs.size = some (seqObj "list" vs.toArray 0) := Heap.get?_push_size _ rfl
  have prs : ∀ v ∈ vs, Srt.IsPair (s1.heap.push (seqObj "list" vs.toArray 0)) v (kOf L v).1 (kOf L v).2 := fun v hv => by
    obtain ⟨q, hq, rfl⟩ := List.mem_map.mp (pm.mem_iff.mp hv)
    rw [kOf_at one hq]
    exact isPair_of (isT_keep (tup q hq) fun b u e => Heap.get?_push_of_some _ (k1 b u e))
  refine wpAny_bind (wpAny_holding (wpAny_call_entry slot_list_sort ⟨_, hoL, rfl⟩ entry_list_sort (SrtO.list_sort_ord (s := { s1 with heap := s1.heap.push (seqObj "list" vs.toArray 0) }) (SrtO.swo_lex (kOf L)) hoL hvz (fun h2 => ?_) fun out hs hb => ⟨_, rfl, ?_⟩) (args_list_sort _)))
  · refine SrtO.pairs_sortableO (s := { s1 with heap := s1.heap.push (seqObj "list" vs.toArray 0) }) (by omega) prs fun o e => ?_
    have e' : some o = some (seqObj "list" vs.toArray 0) := e.symm.trans hoL
    cases e'
    intro c
    exact absurd (Value.type.inj c) (by decide)
  obtain ⟨c, hc⟩ := sortedHeap_at (vs := vs) (out := out.toArray) hoL
  obtain ⟨L', pL, eL⟩ := perm_map_back (hb.perm.trans pm) L rfl
  have pw : L'.Pairwise (fun q r => Plt q.2 r.2) := by
    rw [eL] at hs
    have nd : (L'.map (·.2)).Nodup := (pL.map (·.2)).nodup_iff.mpr (nodup_lk.mp S.nd)
    refine List.Pairwise.imp_of_mem (fun {q r} hq hr hle => ?_) ((List.pairwise_map.mp hs).and (List.pairwise_map.mp nd))
    obtain ⟨h1, h2⟩ := hle
    dsimp only at h1
    rw [kOf_at one (pL.mem_iff.mp hq), kOf_at one (pL.mem_iff.mp hr)] at h1
    rcases plt_tri q.2 r.2 with z | z | z
    · exact z
    · exact absurd z h2
    · exact absurd z (SrtO.lexB_no.mp h1)
  refine wpAny_pure ⟨_, rfl, hQ _ s1.heap.objs.size out c L' (fun b u e => ?_) g1 o1 hz hc eL pL pw⟩
  have q := k1 b u e
  have hlt := Heap.lt_size q
  show (sortedHeap (s1.heap.push (seqObj "list" vs.toArray 0)) s1.heap.objs.size vs out.toArray).get? b = some u
  rw [sortedHeap_old (Nat.ne_of_lt hlt) (by rw [size_push']; exact Nat.lt_succ_of_lt hlt)]
  exact Heap.get?_push_of_some _ q
end
/-! ### as rules of the layer -/
structure SetP0 (P : Program) (w : World) (h : Heap) (a : Addr) (L : List (Addr × Int × Int)) : Prop where
  ex : ∃ (es : Array (Int × Value)) (ep : Nat) (t : SetTable), (∃ o, h.get? a = some o ∧ o.ExactSet ∧ o.data = .set es ep t) ∧ es.toList = rowsOf P w (L.map lk) ∧ Tb t ((L.map lk).map fun p => thash P w p.2) ∧ ((L.map lk).map (·.2)).Nodup ∧ t.plain = true ∧
    (w.params.followText "set-order" = true ∨ t.led = true) ∧ (L.map lk).length * 5 < t.mask * 3 ∧ (L.map lk).length ≤ 256
/-- a set of pairs stands at a (the pairs themselves are tracked beside it) -/
def SetPO (P : Program) (w : World) (a : Addr) (L : List (Addr × Int × Int)) : HO := .ext fun h => SetP0 P w h a L
theorem setPO_new {P : Program} {w : World} {H : Hp} {h : Heap} {a : Addr} {L : List (Addr × Int × Int)} (S : SetP0 P w h a L) : ObjOk P w H h a (SetPO P w a L) := by
  have ⟨es, ep, t, ⟨o, ho, r⟩, q⟩ := S.ex
  refine ⟨S, ⟨o, ho⟩, fun h1 h2 p k => ?_⟩
  have ⟨es', ep', t', ⟨o', ho', r'⟩, q'⟩ := SetP0.ex p
  exact ⟨es', ep', t', ⟨o', k o' ho', r'⟩, q'⟩
/-- the pairs of ks stand at their addresses -/
def Prs (H : Hp) (ks : List (Addr × Int × Int)) : Prop := ∀ k ∈ ks, H k.1 = some (.tup [.int k.2.1, .int k.2.2])
abbrev refs (ks : List (Addr × Int × Int)) : List V := ks.map fun k => V.ref k.1
section
variable {X : Cx} {pins : List (Addr × Obj)} {σ : L2.St} {H : Hp} {s : Shared}
theorem prs_isT (I : Inv X pins σ H s) {ks : List (Addr × Int × Int)} (h : Prs H ks) {k : Addr × Int × Int} (hk : k ∈ ks) : IsT X.prog X.w s.heap [k.2.1, k.2.2] k.1 :=
  I.isT (k := [k.2.1, k.2.2]) (SqT.of (h k hk))
theorem refs_val {ks : List (Addr × Int × Int)} {us : List Value} (r : Vals (refs ks) us) : us = ks.map fun p => Value.ref p.1 := by
  induction ks generalizing us with
  | nil => cases r; rfl
  | cons k ks ih => cases r with
    | cons a b => cases a; rw [ih b]; rfl
theorem vals_refs (ks : List (Addr × Int × Int)) : Vals (refs ks) (ks.map fun p => Value.ref p.1) := by
  induction ks with
  | nil => exact .nil
  | cons k ks ih => exact .cons rfl ih
def rSetP (K : PySem.W.Frag) (P : Program) (w : World) : List V → Hp → VK → Prop := fun xs H Q => ∃ (l : Addr) (ks : List (Addr × Int × Int)), xs = [V.ref l] ∧ SqL K H l (refs ks) ∧ Prs H ks ∧ ks.length ≤ 256 ∧
  ∀ a L, H a = none → (∀ p ∈ L, p ∈ ks) → (∀ p ∈ ks, p.2 ∈ L.map (·.2)) → Q (.ref a) (upd H a (SetPO P w a L))
theorem cr_setP (hc : X.calm = true) (hu : X.A.units + 64 < cLine) : CallR X (.type "set") (rSetP X.K X.prog X.w) := by
  intro pins s σ H xs us Q I r h
  obtain ⟨l, ks, rfl, hl, hk, hf, q⟩ := h
  rw [Vals.ref1 r]
  obtain ⟨its, rv, pl, hz⟩ := I.list hl
  have hn : H s.heap.objs.size = none := I.hok.fresh (Nat.le_refl _)
  refine call_set (P := X.prog) (w := X.w) (ks.map lk) (I.ok.hd hc) pl.isList (by rw [List.map_map]; exact refs_val rv) (fun p hp => ?_) (by rw [List.length_map]; exact hf) (by omega) fun h' tk L es ep t S g k => ?_
  · obtain ⟨k, hk', rfl⟩ := List.mem_map.mp hp
    exact prs_isT I hk hk'
  have sub : ∀ p ∈ L, p ∈ ks.map lk := fun p hp => List.mem_of_mem_take (g.sub p hp)
  obtain ⟨L1, e1, s1⟩ : ∃ L1 : List (Addr × Int × Int), L = L1.map lk ∧ ∀ p ∈ L1, p ∈ ks := by
    clear S g
    induction L with
    | nil => exact ⟨[], rfl, fun p hp => by cases hp⟩
    | cons p L ih =>
      obtain ⟨L1, a, b⟩ := ih fun p hp => sub p (List.mem_cons_of_mem _ hp)
      obtain ⟨k, c, d⟩ := List.mem_map.mp (sub p List.mem_cons_self)
      exact ⟨k :: L1, by rw [List.map_cons, d, a], fun q hq => (List.mem_cons.mp hq).elim (fun z => z ▸ c) (b q)⟩
  subst e1
  refine ⟨.ref s.heap.objs.size, upd H s.heap.objs.size (SetPO X.prog X.w s.heap.objs.size L1), I.laid (t' := tk) k (Nat.le_refl _) (setPO_new ⟨es, ep, t, S.ob, S.rows, S.tab, S.nd, S.plain, S.led, S.room, S.few⟩), rfl, q _ L1 hn s1 fun p hp => ?_⟩
  have z := g.all (lk p) (by rw [List.take_length]; exact List.mem_map.mpr ⟨p, hp, rfl⟩)
  rw [lk_keys] at z
  obtain ⟨y, hy, e⟩ := List.mem_map.mp z
  injection e with e1 e
  injection e with e2 _
  rw [show p.2 = y from Prod.ext e1.symm e2.symm]
  exact hy
def rSortedP0 (K : PySem.W.Frag) (P : Program) (w : World) : List V → Hp → VK → Prop := fun vs H Q => ∃ (a : Addr) (L : List (Addr × Int × Int)), vs = [V.ref a] ∧ H a = some (SetPO P w a L) ∧ Prs H L ∧
  ∀ (L' : List (Addr × Int × Int)) (p : Addr), L'.Perm L → L'.Pairwise (fun q r => Plt q.2 r.2) → H p = none → Q (.ref p) (upd H p (.lst (refs L')))
theorem cr_sortedP0 (hc : X.calm = true) : CallR X (.builtin "sorted") (rSortedP0 X.K X.prog X.w) := by
  intro pins s σ H vs us Q I r h
  obtain ⟨a, L, rfl, ha, hk, q⟩ := h
  have S0 : SetP0 X.prog X.w s.heap a L := (I.hok a _ ha).1
  obtain ⟨es, ep, t, h1, h2, h3, h4, h5, h6, h7, h8⟩ := S0.ex
  have S : SetT X.prog X.w s.heap a (L.map lk) es ep t := ⟨h1, h2, h3, h4, fun p hp => by
    obtain ⟨k, hk', rfl⟩ := List.mem_map.mp hp
    exact prs_isT I hk hk', h5, h6, h7, h8⟩
  rw [Vals.ref1 r]
  refine sorted_set S (I.ok.hd hc) fun s' p out c L' k g o hp hg hout pm pw => ?_
  have hlen : (refs L').length ≤ sizeLine := by rw [List.length_map] at h8; rw [List.length_map, pm.length_eq, sizeLine_eq]; omega
  have hn : H p = none := I.hok.fresh hp
  have hv : Vals (refs L') out := by rw [hout]; exact vals_refs L'
  have J : Inv X pins σ (upd H p (.lst (refs L'))) { s with heap := s'.heap, gens := s'.gens, drawn := s'.drawn, toks := s'.toks } :=
    I.call (ch := []) (Un.laid k hp hn) (I.hok.laid k hp ⟨hlen, out, c, hv, hg⟩) (by rw [g]; exact I.bare) (fun _ z => nomatch z)
  have e : s' = { s with heap := s'.heap, gens := s'.gens, drawn := s'.drawn, toks := s'.toks } := by
    cases s'
    cases s
    cases o
    rfl
  rw [e]
  exact ⟨.ref p, _, J, rfl, q L' p pm pw hn⟩
end
end K65S
/-! Further rules: x in a tuple, sum of a tuple, repr of a bool, min of pairs, enumerate of a tuple, zip of three tuples, a dict of pairs. -/
namespace K65S
open PySem PySem.Spec PyProof.Rows L2
open K65 (Plt plt_tri plt_irr plt_trans)
section
variable {X : Cx}
/-! ### x in t, x not in t: t a tuple of data -/
def rInT (K : PySem.W.Frag) (neg : Bool) : R2 := fun x y H Q => ∃ d ds, Dp K H x d ∧ Dp K H y (.tuple ds) ∧ SeqAt.shaped d = true ∧ SeqAt.shaped (.tuple ds) = true ∧ Q (.bl (if neg then !(ds.any fun z => PyData.eqv z d) else ds.any fun z => PyData.eqv z d)) H
theorem room_inT {A : Around} {d : PyData} {ds : List PyData} (sd : SeqAt.shaped d = true) (hu : A.units + 65 < cLine) : A.units + 1 + min (PyData.depthAll ds) d.depth < cLine := by
  have h : ((d.canLay0 && decide (d.depth ≤ 64)) = true) := sd
  rw [Bool.and_eq_true, decide_eq_true_eq] at h
  omega
theorem op_inT (hu : X.A.units + 65 < cLine) : OpR X (compareOp .In) (rInT X.K false) := by
  intro pins s σ H x y v u Q I rx ry h
  obtain ⟨d, ds, hd, he, sd, se, q⟩ := h
  obtain ⟨as, r1⟩ := Dp.reads I d x v hd rx
  obtain ⟨bs, r2⟩ := Dp.reads I (.tuple ds) y u he ry
  exact SeqAt.in_tuple_reads r2 r1 (SeqAt.canLay_of_shaped se) (SeqAt.canLay_of_shaped sd) (room_inT sd hu) ⟨.bl _, H, I, rfl, q⟩
theorem op_notInT (hu : X.A.units + 65 < cLine) : OpR X (compareOp .NotIn) (rInT X.K true) := by
  intro pins s σ H x y v u Q I rx ry h
  obtain ⟨d, ds, hd, he, sd, se, q⟩ := h
  obtain ⟨as, r1⟩ := Dp.reads I d x v hd rx
  obtain ⟨bs, r2⟩ := Dp.reads I (.tuple ds) y u he ry
  exact SeqAt.notIn_tuple_reads r2 r1 (SeqAt.canLay_of_shaped se) (SeqAt.canLay_of_shaped sd) (room_inT sd hu) ⟨.bl _, H, I, rfl, q⟩
/-! ### pairs as data -/
def pD (p : Int × Int) : PyData := .tuple [.int p.1, .int p.2]
theorem pD_depth (p : Int × Int) : (pD p).depth = 1 := by simp [pD, PyData.depth, PyData.depthAll]
theorem pD_lay (p : Int × Int) : (pD p).canLay0 = true := by simp [pD, PyData.canLay0, PyData.canLayAll0]
theorem pD_shaped (p : Int × Int) : SeqAt.shaped (pD p) = true := by
  show ((pD p).canLay0 && decide ((pD p).depth ≤ 64)) = true
  rw [pD_lay, pD_depth]; rfl
theorem pDs_lay : ∀ ps : List (Int × Int), PyData.canLayAll0 (ps.map pD) = true
  | [] => by simp [PyData.canLayAll0]
  | p :: ps => by simp [PyData.canLayAll0, pD_lay p, pDs_lay ps]
theorem pDs_depth : ∀ ps : List (Int × Int), PyData.depthAll (ps.map pD) ≤ 1
  | [] => by simp [PyData.depthAll]
  | p :: ps => by
    have h1 := pDs_depth ps
    have h2 := pD_depth p
    simp only [List.map_cons, PyData.depthAll]
    omega
theorem pDs_shaped (ps : List (Int × Int)) : SeqAt.shaped (.tuple (ps.map pD)) = true := by
  have h1 := pDs_depth ps
  have h2 : PyData.depth (.tuple (ps.map pD)) ≤ 64 := by simp only [PyData.depth]; omega
  show (PyData.canLay0 (.tuple (ps.map pD)) && decide (PyData.depth (.tuple (ps.map pD)) ≤ 64)) = true
  rw [Bool.and_eq_true]
  exact ⟨by simp only [PyData.canLay0]; exact pDs_lay ps, decide_eq_true h2⟩
theorem pD_eqv (p q : Int × Int) : PyData.eqv (pD p) (pD q) = decide (p = q) := by
  have e : PyData.eqv (pD p) (pD q) = ((p.1 == q.1) && ((p.2 == q.2) && true)) := by simp only [pD, PyData.eqv, PyData.eqvAll]
  rw [e, Bool.and_true]
  by_cases h : p = q
  · rw [h]; simp
  · rw [decide_eq_false h]
    by_cases h1 : p.1 = q.1
    · have h2 : p.2 ≠ q.2 := fun z => h (Prod.ext h1 z)
      rw [beq_eq_false_iff_ne.mpr h2, Bool.and_false]
    · rw [beq_eq_false_iff_ne.mpr h1, Bool.false_and]
theorem pD_any (ps : List (Int × Int)) (p : Int × Int) : ((ps.map pD).any fun z => PyData.eqv z (pD p)) = decide (p ∈ ps) := by
  induction ps with
  | nil => rfl
  | cons q ps ih =>
    rw [List.map_cons, List.any_cons, ih, pD_eqv]
    by_cases h : q = p
    · subst h; simp
    · have h' : ¬ p = q := fun z => h z.symm
      simp [h, h']
theorem dp_pair {K : PySem.W.Frag} {H : Hp} {a : Addr} {p : Int × Int} (h : H a = some (.tup [.int p.1, .int p.2])) : Dp K H (.ref a) (pD p) :=
  .tup (SqT.of h) (.cons (.int _) (.cons (.int _) .nil))
theorem dp_refs {K : PySem.W.Frag} {H : Hp} : ∀ {ks : List (Addr × Int × Int)}, Prs H ks → DpAll K H (refs ks) ((ks.map (·.2)).map pD)
  | [], _ => .nil
  | k :: ks, h => .cons (dp_pair (h k List.mem_cons_self)) (dp_refs fun x hx => h x (List.mem_cons_of_mem _ hx))
/-! ### sum(t), t a tuple of ints -/
theorem sum_tup {A : Around} {P : Program} {w : World} {E : Value → Shared → Prop} {s : Shared} {l : Addr} {xs : Array (Int × Tok)} {Q : Value → Shared → Prop} (hh : A.handled = none) (hl : s.heap.IsTuple l (intItems xs))
    (h : ∀ h' tk t', (∀ b o, s.heap.get? b = some o → h'.get? b = some o) → Q (.int (preSum (numAt xs) xs.size) t') { s with heap := h', toks := tk }) :
    wpAny (model P w) A (call (.builtin "sum") [.ref l]) Q E s := by
  have hlt : l < s.heap.objs.size := by obtain ⟨_, e, _⟩ := hl; exact Heap.lt_size e
  refine call_sum_walkG (wpAny_pyIter_tuple hl ?_)
  refine ⟨_, _, _, _, _, _, numAt xs, rfl, Walks.tuple (A := A.in1) hh s.heap.objs.size l (Nat.ne_of_lt hlt) (intItems xs), ⟨⟨_, Heap.get?_push_size _ rfl, rfl, rfl⟩, hl.push _⟩, fun b hb => ?_, (fun _ _ => intItems_at), fun h' tk t' hk => ?_⟩
  · show b < (s.heap.push _).objs.size
    rw [Heap.size_push]
    rcases List.mem_cons.mp hb with e | hb
    · rw [e]; exact Nat.lt_succ_self _
    · rw [List.mem_singleton.mp hb]; exact Nat.lt_succ_of_lt hlt
  · have z := h h' tk t' fun b o e => hk b o (fun hm => by rw [List.mem_singleton.mp hm] at e; exact absurd (Heap.lt_size e) (Nat.lt_irrefl _)) (Heap.get?_push_of_some _ e)
    simpa [intItems] using z
def rSumT (K : PySem.W.Frag) : List V → Hp → VK → Prop := fun vs H Q => ∃ (a : Addr) (ns : List Int), vs = [V.ref a] ∧ SqT K H a (ns.map V.int) ∧ Q (.int ns.sum) H
theorem cr_sumT (hc : X.calm = true) : CallR X (.builtin "sum") (rSumT X.K) := by
  intro pins s σ H vs us Q I r h
  obtain ⟨a, ns, rfl, hs, q⟩ := h
  obtain ⟨its, rv, hl, _⟩ := I.tuple hs
  rw [Vals.ref1 r]
  obtain ⟨xs, e⟩ := rv.ints.allInts.items
  have hn : numsOf (intItems xs).toList = ns := by rw [← e]; exact rv.ints.numsOf
  rw [nums_intItems] at hn
  rw [e] at hl
  refine sum_tup (I.ok.hd hc) hl fun h' tk t' hk => ?_
  rw [preSum_eq, List.take_of_length_le (by simp), hn]
  exact ⟨.int _, H, I.kept hk, ⟨_, rfl⟩, q⟩
/-! ### repr(b) -/
theorem call_reprB : CallR X (.builtin "repr") (fun xs H Q => ∃ b : Bool, xs = [.bl b] ∧ Q (.str (if b then "True" else "False")) H) := by
  intro pins s σ H xs us Q I r h
  obtain ⟨b, rfl, q⟩ := h
  obtain ⟨u, rfl, e⟩ := vals1 r
  cases e
  exact PySem.P.repr_of_bool ⟨.str _, H, I.tok _, ⟨_, rfl⟩, q⟩
/-! ### min(l), l a list of pairs -/
theorem best_of {f : Nat → Int × Int} : ∀ n, argBest (fun i j => decide (Plt (f i) (f j))) n ≤ n ∧ ∀ i, i ≤ n → ¬ Plt (f i) (f (argBest (fun i j => decide (Plt (f i) (f j))) n))
  | 0 => ⟨Nat.le_refl _, fun i hi => by obtain rfl : i = 0 := by omega
                                        exact plt_irr _⟩
  | n + 1 => by
    obtain ⟨h1, h2⟩ := best_of (f := f) n
    unfold argBest
    by_cases c : Plt (f (n + 1)) (f (argBest (fun i j => decide (Plt (f i) (f j))) n))
    · rw [if_pos (decide_eq_true c)]
      refine ⟨Nat.le_refl _, fun i hi z => ?_⟩
      by_cases e : i = n + 1
      · rw [e] at z; exact plt_irr _ z
      · exact h2 i (by omega) (plt_trans z c)
    · rw [if_neg (by simpa using c)]
      refine ⟨by omega, fun i hi => ?_⟩
      by_cases e : i = n + 1
      · rw [e]; exact c
      · exact h2 i (by omega)
def rMinP (K : PySem.W.Frag) : List V → Hp → VK → Prop := fun vs H Q => ∃ (a : Addr) (ks : List (Addr × Int × Int)), vs = [V.ref a] ∧ SqL K H a (refs ks) ∧ Prs H ks ∧ ks ≠ [] ∧ ∀ k ∈ ks, (∀ j ∈ ks, ¬ Plt j.2 k.2) → Q (.ref k.1) H
theorem cr_minP (hc : X.calm = true) (hu : X.A.units + 64 < cLine) : CallR X (.builtin "min") (rMinP X.K) := by
  intro pins s σ H vs us Q I r h
  obtain ⟨a, ks, rfl, hs, hp, hne, q⟩ := h
  obtain ⟨its, rv, pl, hz⟩ := I.list hs
  have ei := refs_val rv
  subst ei
  rw [Vals.ref1 r]
  have hn : (ks.map fun p => Value.ref p.1).toArray.size = ks.length := by simp
  have hpos : 0 < ks.length := List.length_pos_iff.mpr hne
  let f : Nat → Int × Int := fun i => (ks.getD i (0, 0, 0)).2
  have at_ : ∀ (i : Nat) (v : Value), (ks.map fun p => Value.ref p.1).toArray[i]? = some v → ∃ k, ks[i]? = some k ∧ v = .ref k.1 ∧ f i = k.2 := fun i v e => by
    have e' : (ks.map fun p => Value.ref p.1)[i]? = some v := by simpa using e
    rw [List.getElem?_map] at e'
    obtain ⟨k, h1, h2⟩ := Option.map_eq_some_iff.mp e'
    refine ⟨k, h1, h2.symm, ?_⟩
    show (ks.getD i (0, 0, 0)).2 = k.2
    rw [List.getD_eq_getElem?_getD, h1]; rfl
  refine call_min_walkH (PySem.W.iter_listW (A := X.A.in1) (I.ok.hd hc) pl.isList fun s₂ e W st hfp hw hk => ?_)
  refine ⟨_, _, _, _, _, _, _, s.heap, fun i j => decide (Plt (f i) (f j)), rfl, W, st, hfp, by rw [hn]; exact hpos, hw, hk, fun i j vi vj s3 Q3 E3 k3 hi hj hQ => ?_, fun v s' hP m => ?_⟩
  · obtain ⟨k1, a1, rfl, c1⟩ := at_ i vi hi
    obtain ⟨k2, a2, rfl, c2⟩ := at_ j vj hj
    have t1 := isT_keep (prs_isT I hp (List.mem_of_getElem? a1)) k3
    have t2 := isT_keep (prs_isT I hp (List.mem_of_getElem? a2)) k3
    obtain ⟨o1, it1, n1, g1, g2, g3, g4⟩ := t1
    obtain ⟨o2, it2, n2, g5, g6, g7, g8⟩ := t2
    have z : HT.lexLt [k1.2.1, k1.2.2] [k2.2.1, k2.2.2] = decide (Plt (f i) (f j)) := by
      rw [c1, c2]
      show (if k1.2.1 = k2.2.1 then (if k1.2.2 = k2.2.2 then false else decide (k1.2.2 < k2.2.2)) else decide (k1.2.1 < k2.2.1)) = _
      unfold Plt
      by_cases e1 : k1.2.1 = k2.2.1
      · rw [if_pos e1]
        by_cases e2 : k1.2.2 = k2.2.2
        · rw [if_pos e2]; symm; apply decide_eq_false; omega
        · rw [if_neg e2]; apply decide_eq_decide.mpr; omega
      · rw [if_neg e1]; apply decide_eq_decide.mpr; omega
    dsimp only at hQ
    rw [← z] at hQ
    exact HT.lt_tupInts (A := X.A.in1) ⟨o1, g1, g2, n1, g3⟩ ⟨o2, g5, g6, n2, g7⟩ (ints_of_items g4) (ints_of_items g8) (by show X.A.units + 1 < cLine; omega) hQ
  · obtain ⟨h', tk, rfl, hk'⟩ := PySem.W.moved_old e rfl m
    obtain ⟨k, b1, rfl, b3⟩ := at_ _ v hP
    rw [hn] at b1 b3
    obtain ⟨_, b4⟩ := best_of (f := f) (ks.length - 1)
    refine ⟨.ref k.1, H, I.kept (t' := tk) hk', rfl, q k (List.mem_of_getElem? b1) fun j hj => ?_⟩
    obtain ⟨i, hi⟩ := List.mem_iff_getElem?.mp hj
    have hil := (List.getElem?_eq_some_iff.mp hi).1
    have c := b4 i (by omega)
    rw [b3] at c
    have d : f i = j.2 := by
      show (ks.getD i (0, 0, 0)).2 = j.2
      rw [List.getD_eq_getElem?_getD, hi]; rfl
    rw [d] at c
    exact c
end
end K65S
/-! What is walked: enumerate(t), zip(t, u, v) over tuples; dict(pairs) with keys that are pairs. -/
namespace K65S
open PySem PySem.Spec PyProof.Rows L2
/-! ### a turn of an iterator of tuples -/
theorem keeps_tup {h h' : Heap} {t : Addr} {its : Array Value} (x : h.IsTuple t its) (k : ∀ o, h.get? t = some o → h'.get? t = some o) : h'.IsTuple t its := by
  obtain ⟨o, e, r⟩ := x
  exact ⟨o, k o e, r⟩
/-- enumerate(t) -/
def IteT (K : PySem.W.Frag) (a : Addr) : It :=
  ⟨fun i H => ∃ (xs : List V) (x : V), SqT K H a xs ∧ xs[i]? = some x, fun i H v H' => ∃ T x, v = .ref T ∧ H T = none ∧ H' = upd H T (.tup [.int (i : Nat), x]) ∧ ∀ xs, SqT K H a xs → xs[i]? = some x,
    fun i H => ∃ xs : List V, SqT K H a xs ∧ xs.length = i⟩
theorem turn_enumT {P : Program} {w : World} {K : PySem.W.Frag} {elts : List Expr} {kk : Nat} {tpos : Pos} {a e it : Addr} (hne : a ≠ it) (hea : e ≠ a) (hei : e ≠ it) :
    Turn P w K (.Tuple elts kk tpos) (IteT K a) [e, it] e (fun i h => (∃ old, IsEnum h e it (0 + (i : Int)) old) ∧ h.IsTupleIter it a i) where
  mem := by simp
  obj := fun i h st c hc => by
    obtain ⟨⟨old, he⟩, o2, e2, _, d2⟩ := st
    have e' : c = e ∨ c = it := by simpa using hc
    rcases e' with q | q
    · rw [q]; exact ⟨_, he, fun v q => nomatch q⟩
    · rw [q]; exact ⟨o2, e2, fun v q => by rw [d2] at q; cases q⟩
  keep := fun i h h' st k => ⟨let ⟨old, he⟩ := st.1; ⟨old, k e (by simp) _ he⟩, st.2.at fun o q => k it (by simp) o q⟩
  item := by
    intro X hP hw hK hc i pins s σ H E I hf st hg
    subst hP hw hK
    obtain ⟨xs, x, hqx, hx⟩ := hg
    obtain ⟨its, rv, p, _⟩ := I.tuple hqx
    obtain ⟨u, hu, ru⟩ := rv.get hx
    have hlt : i < its.toArray.size := by simpa using (List.getElem?_eq_some_iff.mp hu).1
    have W := WalksT.enumFrom 0 (Draws.tuple (prog := X.prog) (w := X.w) (A := X.A.in1) (I.ok.hd hc) it a hne its.toArray) e hei (by simp [hea, hei]) (by simp)
    refine W.item i s _ _ hlt ⟨st.1, st.2, p⟩ fun T vals h' tk hv hT ht hm hk => ?_
    obtain ⟨tt, x', hx', rfl⟩ := hv
    have ex : x' = u := by
      have : its.toArray[i]? = some u := by simpa using hu
      rw [this] at hx'; exact (Option.some.inj hx').symm
    subst ex
    refine ⟨_, rfl, W.go elts kk tpos i T { s with heap := h', toks := tk } _ _ hm fun h'' st'' hk2 => ?_⟩
    have hT2 := keeps_tup ht fun o q => hk2 T o (W.apart i T h' hm) q
    obtain ⟨oT, eT, cT, nT, dT⟩ := hT2
    have eI : (0 : Int) + (i : Int) = ((i : Nat) : Int) := by omega
    have new : ObjOk X.prog X.w (upd H T (.tup [.int (i : Nat), x])) h'' T (.tup [.int (i : Nat), x]) :=
      ⟨by show 2 ≤ sizeLine; decide, [_, _], .cons ⟨tt, by rw [eI]⟩ (.cons ru .nil), oT, eT, cT, nT, dT⟩
    have I1 : Inv X pins σ (upd H T (.tup [.int (i : Nat), x])) { s with heap := h'', toks := tk } := I.turnedNew (ch := [e, it]) (fun c o hb q => hk2 c o hb (hk c o hb q)) hf hT new
    refine ⟨.ref T, _, I1, rfl, ⟨_, x, rfl, I.hok.fresh hT, rfl, fun l hl => by rw [I.tuple_inj hl hqx]; exact hx⟩, ⟨st''.1, st''.2.1⟩, fun c hcm => ?_⟩
    have hcs : c < s.heap.objs.size := by
      obtain ⟨⟨old, he⟩, o2, e2, _⟩ := st
      have e' : c = e ∨ c = it := by simpa using hcm
      rcases e' with q | q
      · rw [q]; exact Heap.lt_size he
      · rw [q]; exact Heap.lt_size e2
    rw [upd_ne (Nat.ne_of_lt (Nat.lt_of_lt_of_le hcs hT))]
    exact (hf c hcm).1
  done := by
    intro X hP hw hK hc i pins s σ H E I hf st hg
    subst hP hw hK
    obtain ⟨xs, hqx, rfl⟩ := hg
    obtain ⟨its, rv, p, _⟩ := I.tuple hqx
    have hl : xs.length = its.toArray.size := by rw [rv.length]; simp
    have W := WalksT.enumFrom 0 (Draws.tuple (prog := X.prog) (w := X.w) (A := X.A.in1) (I.ok.hd hc) it a hne its.toArray) e hei (by simp [hea, hei]) (by simp)
    rw [hl] at st
    refine W.done s _ _ ⟨st.1, st.2, p⟩ fun h' tk hk => ⟨rfl, I.turnedL (ch := [e, it]) (fun c o hb q => hk c o hb q) hf⟩
  self := fun A i s Q E st h => let ⟨_, he⟩ := st.1; wpAny_pyIter_enum he h
theorem enum_newT {v : Value} {o : Obj} {G : Heap → Prop} (B : Begins v o G) :
    Meets (Builtin.«enumerate.__new__» ⟨[.type "enumerate", v], []⟩) (fun _ R s => G s.heap ∧
      R (.ok (.ret (.ref (s.heap.push o).objs.size))) { s with heap := (s.heap.push o).push { cls := .type "enumerate", data := .fields #[.none, .bool false, .ref s.heap.objs.size, rawInt 0, .none, .none] } }) :=
  .of_wp fun prog w A R s h => by
    obtain ⟨hp, g, d, tk, os⟩ := s; obtain ⟨h1, h⟩ := h
    have hsub := sub_enumerate
    have q1 : ∀ {A' : Around} {E : Value → Shared → Prop} {Q : Value → Shared → Prop}, Q (.ref hp.objs.size) ⟨hp.push o, g, d, tk, os⟩ → wpAny (model prog w) A' (pyIter v) Q E ⟨hp, g, d, tk, os⟩ :=
      fun q => B.iter prog w _ _ ⟨hp, g, d, tk, os⟩ _ h1 q
    wp_walk using q1
    refine wpAny_stack_any fun st => wpAny_pure ?_
    split
    · rename_i c _ _ _ _ _
      cases (c == Value.type "enumerate")
      · wp_walk using q1
        exact ⟨_, rfl, h⟩
      · wp_walk using q1
        exact ⟨_, rfl, h⟩
    · wp_walk using q1
      exact ⟨_, rfl, h⟩
def iEnumT (K : PySem.W.Frag) (ta : TA) : TI := fun σ H R => ta σ H fun vs H1 => ∃ a xs, vs = [.ref a] ∧ SqT K H1 a xs ∧ R (IteT K a) H1
theorem pi_enumT {X : Cx} {e : Expr} {ta : TA} {p pos tpos : Pos} {elts : List Expr} {kk : Nat} (hg : Gl X "enumerate") (hm : X.mg "enumerate" = none) (ha : PA X [e] ta)
    (hs : starEach [e] X.env = [(false, eval e X.env)] := by rfl) : PI X (.Tuple elts kk tpos) (.Call (.Name "enumerate" p) [e] [] pos) (iEnumT X.K ta) := by
  refine ⟨fun pins s σ H R I h => ?_⟩
  refine Call_ (ld_blt I hg hm PyProof.Rows.boot_enumerate (PyProof.Rows.callWith_type1 (thn (ha.run pos pins s σ H _ I h) fun us s1 ⟨vs, H1, I1, r1, q1⟩ => ?_) hs rfl))
  obtain ⟨a, xs, ex, hqx, q⟩ := q1
  subst ex
  cases r1 with
  | cons r rr =>
    cases rr
    cases r
    obtain ⟨its, rv, p1, _⟩ := I1.tuple hqx
    have hlt : a < s1.heap.objs.size := by obtain ⟨_, e1, _⟩ := p1; exact Heap.lt_size e1
    have B := begins_tuple a its.toArray
    refine callType_new PySem.F.called_enumerate (by decide) (PySem.F.typeCall_enumerate_1 _) (PySem.F.newCall_enumerate_1 _) (fun obj => PySem.F.args_object_init_2 obj _) PySem.F.entry_enumerate_new (enum_newT B) ⟨p1, ?_⟩
    have hz : (s1.heap.push { cls := .type "tuple_iterator", data := .fields #[.ref a, .int 0 0] }).objs.size = s1.heap.objs.size + 1 := Heap.size_push ..
    show _ ∧ _
    rw [hz]
    have he : IsEnum ((s1.heap.push { cls := .type "tuple_iterator", data := .fields #[.ref a, .int 0 0] }).push { cls := .type "enumerate", data := .fields #[.none, .bool false, .ref s1.heap.objs.size, rawInt 0, .none, .none] }) (s1.heap.objs.size + 1) s1.heap.objs.size (0 + ((0 : Nat) : Int)) .none := by
      have z := Heap.get?_push_size (s1.heap.push { cls := .type "tuple_iterator", data := .fields #[.ref a, .int 0 0] }) (o := { cls := .type "enumerate", data := .fields #[.none, .bool false, .ref s1.heap.objs.size, rawInt 0, .none, .none] }) rfl
      rw [hz] at z; exact z
    have kp : ∀ b o, s1.heap.get? b = some o → ((s1.heap.push { cls := .type "tuple_iterator", data := .fields #[.ref a, .int 0 0] }).push { cls := .type "enumerate", data := .fields #[.none, .bool false, .ref s1.heap.objs.size, rawInt 0, .none, .none] }).get? b = some o := fun b o e => Heap.get?_push_of_some _ (Heap.get?_push_of_some _ e)
    have I2 := I1.kept (t' := s1.toks) kp
    refine ⟨⟨_, he, rfl⟩, wpAny_pyIter_enum he ⟨s1.heap.objs.size + 1, [s1.heap.objs.size + 1, s1.heap.objs.size], _, _, H1, rfl, I2, turn_enumT (Nat.ne_of_lt hlt) (Nat.ne_of_gt (Nat.lt_succ_of_lt hlt)) (Nat.succ_ne_self _), ⟨⟨_, he⟩, ⟨_, Heap.get?_push_of_some _ (Heap.get?_push_size _ rfl), rfl, rfl⟩⟩, fun c hc => ?_, q⟩⟩
    have e' : c = s1.heap.objs.size + 1 ∨ c = s1.heap.objs.size := by simpa using hc
    have hle : s1.heap.objs.size ≤ c := by rcases e' with z | z <;> rw [z]; exact Nat.le_succ _; exact Nat.le_refl _
    exact I1.fpOk hle (I1.hok.fresh hle)
theorem walk_enumT {K : PySem.W.Frag} {a : Addr} {xs : List V} : Walk (IteT K a) xs.length (fun H => SqT K H a xs) (fun i H v H' => ∃ T x, v = .ref T ∧ H T = none ∧ H' = upd H T (.tup [.int (i : Nat), x]) ∧ xs[i]? = some x) :=
  ⟨fun i _ hi q => ⟨xs, xs[i], q, by simp [hi]⟩, fun _ q => ⟨xs, q, rfl⟩, fun _ _ _ _ _ q ⟨T, x, h1, h2, h3, h4⟩ => ⟨T, x, h1, h2, h3, h4 xs q⟩⟩
end K65S
namespace K65S
open PySem PySem.Spec PyProof.Rows L2
/-! ### zip(t, u, v) -/
def IzT3 (K : PySem.W.Frag) (a b c : Addr) : It :=
  ⟨fun i H => ∃ (xs ys zs : List V) (x y z : V), SqT K H a xs ∧ SqT K H b ys ∧ SqT K H c zs ∧ xs[i]? = some x ∧ ys[i]? = some y ∧ zs[i]? = some z,
    fun i H v H' => ∃ T x y z, v = .ref T ∧ H T = none ∧ H' = upd H T (.tup [x, y, z]) ∧ (∀ xs, SqT K H a xs → xs[i]? = some x) ∧ (∀ ys, SqT K H b ys → ys[i]? = some y) ∧ ∀ zs, SqT K H c zs → zs[i]? = some z,
    fun i H => ∃ xs ys zs : List V, SqT K H a xs ∧ SqT K H b ys ∧ SqT K H c zs ∧ min (min xs.length ys.length) zs.length = i⟩
abbrev zst (z TI TO i1 i2 i3 a b c : Addr) (i : Nat) (h : Heap) : Prop := IsZip h z TI TO .none ∧ IsTupOf3 h TI (.ref i1) (.ref i2) (.ref i3) ∧ (∃ x1 x2 x3, IsTupOf3 h TO x1 x2 x3) ∧ h.IsTupleIter i1 a i ∧ h.IsTupleIter i2 b i ∧ h.IsTupleIter i3 c i
theorem turn_zip3T {P : Program} {w : World} {K : PySem.W.Frag} {elts : List Expr} {kk : Nat} {tpos : Pos} {a b c z TI TO i1 i2 i3 : Addr} (S : ZipSep3 z TI TO i1 i2 i3 [i1, a] [i2, b] [i3, c]) (n1 : a ≠ i1) (n2 : b ≠ i2) (n3 : c ≠ i3) :
    Turn P w K (.Tuple elts kk tpos) (IzT3 K a b c) [z, TI, TO, i1, i2, i3] z (zst z TI TO i1 i2 i3 a b c) where
  mem := by simp
  obj := fun i h st d hd => by
    obtain ⟨hz, hTI, ⟨x1, x2, x3, hTO⟩, ⟨o1, e1, _, d1⟩, ⟨o2, e2, _, d2⟩, ⟨o3, e3, _, d3⟩⟩ := st
    have e' : d = z ∨ d = TI ∨ d = TO ∨ d = i1 ∨ d = i2 ∨ d = i3 := by simpa using hd
    rcases e' with q | q | q | q | q | q
    · rw [q]; exact ⟨_, hz, fun v q => nomatch q⟩
    · rw [q]; exact ⟨_, hTI, fun v q => nomatch q⟩
    · rw [q]; exact ⟨_, hTO, fun v q => nomatch q⟩
    · rw [q]; exact ⟨o1, e1, fun v q => by rw [d1] at q; cases q⟩
    · rw [q]; exact ⟨o2, e2, fun v q => by rw [d2] at q; cases q⟩
    · rw [q]; exact ⟨o3, e3, fun v q => by rw [d3] at q; cases q⟩
  keep := fun i h h' st k => by
    obtain ⟨hz, hTI, ⟨x1, x2, x3, hTO⟩, h1, h2, h3⟩ := st
    exact ⟨k z (by simp) _ hz, k TI (by simp) _ hTI, ⟨x1, x2, x3, k TO (by simp) _ hTO⟩, h1.at fun o q => k i1 (by simp) o q, h2.at fun o q => k i2 (by simp) o q, h3.at fun o q => k i3 (by simp) o q⟩
  item := by
    intro X hP hw hK hc i pins s σ H E I hf st hg
    subst hP hw hK
    obtain ⟨xs, ys, zs, x, y, zv, hqx, hqy, hqz, hx, hy, hzv⟩ := hg
    obtain ⟨its, rv, p, _⟩ := I.tuple hqx
    obtain ⟨its2, rv2, p2, _⟩ := I.tuple hqy
    obtain ⟨its3, rv3, p3, _⟩ := I.tuple hqz
    obtain ⟨u, hu, ru⟩ := rv.get hx
    obtain ⟨u2, hu2, ru2⟩ := rv2.get hy
    obtain ⟨u3, hu3, ru3⟩ := rv3.get hzv
    have l1 : i < its.toArray.size := by simpa using (List.getElem?_eq_some_iff.mp hu).1
    have l2 : i < its2.toArray.size := by simpa using (List.getElem?_eq_some_iff.mp hu2).1
    have l3 : i < its3.toArray.size := by simpa using (List.getElem?_eq_some_iff.mp hu3).1
    have hh := I.ok.hd hc
    have W := WalksT.zipD3 S (Draws.tuple (prog := X.prog) (w := X.w) (A := X.A.in1) hh i1 a n1 its.toArray) (Draws.tuple (prog := X.prog) (w := X.w) (A := X.A.in1) hh i2 b n2 its2.toArray) (Draws.tuple (prog := X.prog) (w := X.w) (A := X.A.in1) hh i3 c n3 its3.toArray)
    refine W.item i s _ _ (by omega) ⟨st.1, st.2.1, st.2.2.1, ⟨st.2.2.2.1, p⟩, ⟨st.2.2.2.2.1, p2⟩, ⟨st.2.2.2.2.2, p3⟩⟩ fun T vals h' tk hv hT ht hm hk => ?_
    obtain ⟨v1, v2, v3, w1, w2, w3, rfl⟩ := hv
    obtain rfl : v1 = u := by have q : its.toArray[i]? = some u := by simpa using hu
                              rw [q] at w1; exact (Option.some.inj w1).symm
    obtain rfl : v2 = u2 := by have q : its2.toArray[i]? = some u2 := by simpa using hu2
                               rw [q] at w2; exact (Option.some.inj w2).symm
    obtain rfl : v3 = u3 := by have q : its3.toArray[i]? = some u3 := by simpa using hu3
                               rw [q] at w3; exact (Option.some.inj w3).symm
    refine ⟨_, rfl, W.go elts kk tpos i T { s with heap := h', toks := tk } _ _ hm fun h'' st'' hk2 => ?_⟩
    obtain ⟨oT, eT, cT, nT, dT⟩ := keeps_tup ht fun o q => hk2 T o (W.apart i T h' hm) q
    have wr6 : ∀ d, d ∉ [z, TI, TO, i1, i2, i3] → d ∉ [z, TO, i1, i2, i3] := fun d hd q => hd (by simp only [List.mem_cons, List.not_mem_nil, or_false] at q ⊢; rcases q with q | q | q | q | q <;> simp [q])
    have new : ObjOk X.prog X.w (upd H T (.tup [x, y, zv])) h'' T (.tup [x, y, zv]) := ⟨by show 3 ≤ sizeLine; decide, [_, _, _], .cons ru (.cons ru2 (.cons ru3 .nil)), oT, eT, cT, nT, dT⟩
    have I1 : Inv X pins σ (upd H T (.tup [x, y, zv])) { s with heap := h'', toks := tk } := I.turnedNew (ch := [z, TI, TO, i1, i2, i3]) (fun d o hb q => hk2 d o (wr6 d hb) (hk d o (wr6 d hb) q)) hf hT new
    refine ⟨.ref T, _, I1, rfl, ⟨_, x, y, zv, rfl, I.hok.fresh hT, rfl, fun l hl => by rw [I.tuple_inj hl hqx]; exact hx, fun l hl => by rw [I.tuple_inj hl hqy]; exact hy, fun l hl => by rw [I.tuple_inj hl hqz]; exact hzv⟩,
      ⟨st''.1, st''.2.1, st''.2.2.1, st''.2.2.2.1.1, st''.2.2.2.2.1.1, st''.2.2.2.2.2.1⟩, fun d hdm => ?_⟩
    have hds : d < s.heap.objs.size := by
      obtain ⟨hz, hTI, ⟨x1, x2, x3, hTO⟩, ⟨o1, e1, _⟩, ⟨o2, e2, _⟩, ⟨o3, e3, _⟩⟩ := st
      have e' : d = z ∨ d = TI ∨ d = TO ∨ d = i1 ∨ d = i2 ∨ d = i3 := by simpa using hdm
      rcases e' with q | q | q | q | q | q
      · rw [q]; exact Heap.lt_size hz
      · rw [q]; exact Heap.lt_size hTI
      · rw [q]; exact Heap.lt_size hTO
      · rw [q]; exact Heap.lt_size e1
      · rw [q]; exact Heap.lt_size e2
      · rw [q]; exact Heap.lt_size e3
    rw [upd_ne (Nat.ne_of_lt (Nat.lt_of_lt_of_le hds hT))]
    exact (hf d hdm).1
  done := by
    intro X hP hw hK hc i pins s σ H E I hf st hg
    subst hP hw hK
    obtain ⟨xs, ys, zs, hqx, hqy, hqz, rfl⟩ := hg
    obtain ⟨its, rv, p, _⟩ := I.tuple hqx
    obtain ⟨its2, rv2, p2, _⟩ := I.tuple hqy
    obtain ⟨its3, rv3, p3, _⟩ := I.tuple hqz
    have e1 : xs.length = its.toArray.size := by rw [rv.length]; simp
    have e2 : ys.length = its2.toArray.size := by rw [rv2.length]; simp
    have e3 : zs.length = its3.toArray.size := by rw [rv3.length]; simp
    have hh := I.ok.hd hc
    have W := WalksT.zipD3 S (Draws.tuple (prog := X.prog) (w := X.w) (A := X.A.in1) hh i1 a n1 its.toArray) (Draws.tuple (prog := X.prog) (w := X.w) (A := X.A.in1) hh i2 b n2 its2.toArray) (Draws.tuple (prog := X.prog) (w := X.w) (A := X.A.in1) hh i3 c n3 its3.toArray)
    rw [e1, e2, e3] at st
    refine W.done s _ _ ⟨st.1, st.2.1, st.2.2.1, ⟨st.2.2.2.1, p⟩, ⟨st.2.2.2.2.1, p2⟩, ⟨st.2.2.2.2.2, p3⟩⟩ fun h' tk hk => ⟨rfl, I.turnedL (ch := [z, TI, TO, i1, i2, i3]) (fun d o hb q => hk d o (fun r => hb ?_) q) hf⟩
    simp only [List.mem_cons, List.not_mem_nil, or_false] at r ⊢
    rcases r with q | q | q | q | q <;> simp [q]
  self := fun A i s Q E st h => wpAny_pyIter_zip st.1 h
def iZip3T (K : PySem.W.Frag) (ta : TA) : TI := fun σ H R => ta σ H fun vs H1 => ∃ a b c xs ys zs, vs = [.ref a, .ref b, .ref c] ∧ SqT K H1 a xs ∧ SqT K H1 b ys ∧ SqT K H1 c zs ∧ R (IzT3 K a b c) H1
theorem pi_zip3T {X : Cx} {e e2 e3 : Expr} {ta : TA} {p pos tpos : Pos} {elts : List Expr} {kk : Nat} (hg : Gl X "zip") (hm : X.mg "zip" = none) (ha : PA X [e, e2, e3] ta)
    (hs : starEach [e, e2, e3] X.env = (false, eval e X.env) :: starEach [e2, e3] X.env := by rfl) (hpl : (backTo pos (starEach [e2, e3] X.env)).any (·.1) = false := by rfl) :
    PI X (.Tuple elts kk tpos) (.Call (.Name "zip" p) [e, e2, e3] [] pos) (iZip3T X.K ta) := by
  refine ⟨fun pins s σ H R I h => ?_⟩
  refine Call_ (ld_blt I hg hm PyProof.Rows.boot_zip (PyProof.Rows.callWith_type1 (thn (ha.run pos pins s σ H _ I h) fun us s1 ⟨vs, H1, I1, r1, q1⟩ => ?_) hs hpl))
  obtain ⟨a, b, c, xs, ys, zs, ex, hqx, hqy, hqz, q⟩ := q1
  subst ex
  cases r1 with
  | cons r rr => cases rr with
    | cons r' rr => cases rr with
      | cons r'' rr =>
        cases rr
        cases r
        cases r'
        cases r''
        obtain ⟨its, rv, p1, _⟩ := I1.tuple hqx
        obtain ⟨its2, rv2, p2, _⟩ := I1.tuple hqy
        obtain ⟨its3, rv3, p3, _⟩ := I1.tuple hqz
        have la : a < s1.heap.objs.size := by obtain ⟨_, e1, _⟩ := p1; exact Heap.lt_size e1
        have lb : b < s1.heap.objs.size := by obtain ⟨_, e1, _⟩ := p2; exact Heap.lt_size e1
        have lc : c < s1.heap.objs.size := by obtain ⟨_, e1, _⟩ := p3; exact Heap.lt_size e1
        refine zip_begins3 (begins_tuple a its.toArray) (begins_tuple b its2.toArray) (begins_tuple c its3.toArray) p1 p2 p3 fun h' hz hTI hTO g1 g2 g3 hsz hk => wpAny_pyIter_zip hz ?_
        have I2 : Inv X pins σ H1 { s1 with heap := h' } := I1.kept (t' := s1.toks) hk
        have S := zip_sep3 (N := s1.heap.objs.size) (fp1 := [a]) (fp2 := [b]) (fp3 := [c]) (fun x hx => by rw [List.mem_singleton.mp hx]; exact la) (fun x hx => by rw [List.mem_singleton.mp hx]; exact lb) (fun x hx => by rw [List.mem_singleton.mp hx]; exact lc)
        refine ⟨s1.heap.objs.size + 5, [s1.heap.objs.size + 5, s1.heap.objs.size + 3, s1.heap.objs.size + 4, s1.heap.objs.size, s1.heap.objs.size + 1, s1.heap.objs.size + 2], _, _, H1, rfl, I2,
          turn_zip3T S (Nat.ne_of_lt la) (Nat.ne_of_lt (Nat.lt_succ_of_lt lb)) (Nat.ne_of_lt (Nat.lt_succ_of_lt (Nat.lt_succ_of_lt lc))), ⟨hz, hTI, ⟨_, _, _, hTO⟩, ⟨_, g1, rfl, rfl⟩, ⟨_, g2, rfl, rfl⟩, ⟨_, g3, rfl, rfl⟩⟩, fun d hd => ?_, q⟩
        have e' : d = s1.heap.objs.size + 5 ∨ d = s1.heap.objs.size + 3 ∨ d = s1.heap.objs.size + 4 ∨ d = s1.heap.objs.size ∨ d = s1.heap.objs.size + 1 ∨ d = s1.heap.objs.size + 2 := by simpa using hd
        have hle : s1.heap.objs.size ≤ d := by
          rcases e' with z | z | z | z | z | z <;> rw [z]
          all_goals first | exact Nat.le_refl _ | exact Nat.le_add_right _ _
        exact I1.fpOk hle (I1.hok.fresh hle)
theorem walk_zip3T {K : PySem.W.Frag} {a b c : Addr} {xs ys zs : List V} {n : Nat} (hn : min (min xs.length ys.length) zs.length = n) : Walk (IzT3 K a b c) n (fun H => SqT K H a xs ∧ SqT K H b ys ∧ SqT K H c zs)
    (fun i H v H' => ∃ T x y z, v = .ref T ∧ H T = none ∧ H' = upd H T (.tup [x, y, z]) ∧ xs[i]? = some x ∧ ys[i]? = some y ∧ zs[i]? = some z) :=
  ⟨fun i _ hi ⟨q1, q2, q3⟩ => ⟨xs, ys, zs, xs[i]'(by omega), ys[i]'(by omega), zs[i]'(by omega), q1, q2, q3, List.getElem?_eq_getElem _, List.getElem?_eq_getElem _, List.getElem?_eq_getElem _⟩, fun _ ⟨q1, q2, q3⟩ => ⟨xs, ys, zs, q1, q2, q3, hn⟩,
    fun _ _ _ _ _ ⟨q1, q2, q3⟩ ⟨T, x, y, z, h1, h2, h3, h4, h5, h6⟩ => ⟨T, x, y, z, h1, h2, h3, h4 xs q1, h5 ys q2, h6 zs q3⟩⟩
/-! ### dict(pairs): keys that are pairs of ints, each once; every value one flat value -/
/-- the entries -/
def kvOf (ks : List (Addr × Int × Int)) : List (List L2.Key × V) := ks.map fun k => ([Sum.inl k.2.1, Sum.inl k.2.2], V.bl true)
theorem kt_of {H : Hp} : ∀ {ks : List (Addr × Int × Int)}, Prs H ks →
    Paired (fun (p : List L2.Key × V) (q : List L2.Key × Addr × Value) => p.1 = q.1 ∧ H q.2.1 = some (.tup (p.1.map kV)) ∧ RelV p.2 q.2.2) (kvOf ks) (ks.map fun k => ([Sum.inl k.2.1, Sum.inl k.2.2], k.1, Value.bool true))
  | [], _ => .nil
  | k :: ks, h => .cons ⟨rfl, h k List.mem_cons_self, rfl⟩ (kt_of fun x hx => h x (List.mem_cons_of_mem _ hx))
section
variable {X : Cx}
/-- dict(l): l a list of tuples (k, True), each k one of the pairs ks -/
def rDictP (K : PySem.W.Frag) : List V → Hp → VK → Prop := fun vs H Q => ∃ (a : Addr) (Ts : List Addr) (ks : List (Addr × Int × Int)), vs = [V.ref a] ∧ H a = some (.lst (Ts.map V.ref)) ∧ Prs H ks ∧ (ks.map (·.2)).Nodup ∧ Ts.length = ks.length ∧
  (∀ (i : Nat) (T : Addr) (k : Addr × Int × Int), Ts[i]? = some T → ks[i]? = some k → H T = some (.tup [.ref k.1, .bl true])) ∧ ∀ d, H d = none → Q (.ref d) (upd H d (.dT (kvOf ks)))
theorem call_dictP2 (hc : X.calm = true) (hu : X.A.units + 64 < cLine) : CallR X (.type "dict") (rDictP X.K) := by
  intro pins s σ H vs us Q I r h
  obtain ⟨a, Ts, ks, rfl, ha, hp, hnd, hlen, hat, q⟩ := h
  rw [Vals.ref1 r]
  obtain ⟨hz, its, n, rv, ho⟩ := (show ObjOk X.prog X.w H s.heap a (.lst (Ts.map V.ref)) from I.hok a _ ha)
  rw [List.length_map] at hz
  have ei : its = Ts.map Value.ref := refs_at rv
  subst ei
  obtain ⟨ps, eps⟩ : ∃ ps : List (List L2.Key × Addr × Value), ps = ks.map fun k => ([Sum.inl k.2.1, Sum.inl k.2.2], k.1, Value.bool true) := ⟨_, rfl⟩
  obtain ⟨pv, epv⟩ : ∃ pv : List (Value × Value), pv = ks.map fun k => (Value.ref k.1, Value.bool true) := ⟨_, rfl⟩
  have hpl : pv.length = ks.length := by rw [epv, List.length_map]
  have items : PairItems s.heap (Ts.map Value.ref).toArray (fun j => Ts.getD j 0) pv := by
    refine ⟨by simp [hpl, hlen], fun j k v e => ?_⟩
    rw [epv, List.getElem?_map] at e
    obtain ⟨kk, e1, e2⟩ := Option.map_eq_some_iff.mp e
    injection e2 with e2 e3
    have hj : j < Ts.length := by rw [hlen]; exact (List.getElem?_eq_some_iff.mp e1).1
    have hT := List.getElem?_eq_getElem hj
    have hd : Ts.getD j 0 = Ts[j] := by rw [List.getD_eq_getElem?_getD, hT]; rfl
    show (Ts.map Value.ref).toArray[j]? = some (Value.ref (Ts.getD j 0)) ∧ PairAt s.heap (Ts.getD j 0) k v
    rw [hd]
    refine ⟨by simp [hj], .inl ?_⟩
    obtain ⟨_, it2, r2, o, g1, g2, n2, g3⟩ := (show ObjOk X.prog X.w H s.heap Ts[j] (.tup [.ref kk.1, .bl true]) from I.hok _ _ (hat j _ kk hT e1))
    cases r2 with
    | cons b1 r2 => cases r2 with
      | cons b2 r2 =>
        cases r2
        cases b1
        cases b2
        rw [← e2, ← e3]
        exact ⟨o, g1, g2, n2, g3⟩
  have keys : PairsHaveH (tupleKind (mixKind X.prog X.w)) pv.length (PairRel pv) ps := by
    rw [epv, eps]
    refine ⟨by simp, fun j k v hr => ?_⟩
    have hr' : (ks.map fun k => (Value.ref k.1, Value.bool true))[j]? = some (k, v) := hr
    rw [List.getElem?_map] at hr'
    obtain ⟨kk, e1, e2⟩ := Option.map_eq_some_iff.mp hr'
    injection e2 with e2 e3
    exact ⟨[Sum.inl kk.2.1, Sum.inl kk.2.2], kk.1, by rw [List.getElem?_map, e1, ← e3]; rfl, e2.symm⟩
  have nd : (ps.map (·.1)).Nodup := by
    rw [eps, List.map_map]
    refine List.pairwise_map.mpr (List.Pairwise.imp (fun {x y} hne e => hne ?_) (List.pairwise_map.mp hnd))
    injection e with e1 e
    injection e with e2 _
    exact Prod.ext (Sum.inl.inj e1) (Sum.inl.inj e2)
  have stay : KeysStay (tupleKind (mixKind X.prog X.w)) s.heap s.heap.objs.size [] ps := fun h' hk x hx => by
    rw [eps] at hx
    obtain ⟨k, hk', rfl⟩ := List.mem_map.mp hx
    obtain ⟨o, items, n, ho, r⟩ := key_of (P := X.prog) (w := X.w) (ks := [Sum.inl k.2.1, Sum.inl k.2.2]) I.hok (hp k hk')
    exact ⟨o, items, n, hk _ o (Nat.ne_of_lt (Heap.lt_size ho)) (by simp) ho, r⟩
  refine call_dict_pairsH (PairArg.list a (Ts.map Value.ref).toArray (fun j => Ts.getD j 0) pv) (I.ok.hd hc) (tupleKind_room_in1 (A := X.A.in1) (by show X.A.units + 1 + 1 < cLine; omega)) ⟨⟨_, n, ho, rfl, rfl, rfl⟩, items⟩ keys stay (by rw [hpl, ← hlen]; exact hz) fun h' tk hd' k => ?_
  rw [storedAllH_nil_of_nodup ps nd] at hd'
  have hm : (s.heap.objs.size == sysModules) = false := beq_eq_false_iff_ne.mpr (Nat.ne_of_gt I.big)
  have kk : ∀ b o, s.heap.get? b = some o → h'.get? b = some o := fun b o e => k b o (by simp) e
  have hn : H s.heap.objs.size = none := I.hok.fresh (Nat.le_refl _)
  obtain ⟨o, es, ep, g1, g2, g3, g4, _, g5⟩ := hd'
  refine ⟨.ref s.heap.objs.size, upd H s.heap.objs.size (.dT (kvOf ks)), I.laid (t' := tk) kk (Nat.le_refl _) ⟨?_, hm, ps, ?_, o, es, ep, g1, g2, g3, g4, g5⟩, rfl, q _ hn⟩
  · unfold kvOf
    rw [List.length_map, ← hlen]; exact hz
  · rw [eps]
    refine kt_of fun x hx => ?_
    rw [upd_ne (ne_of_none (hp x hx) hn)]
    exact hp x hx
end
/-- what the dict holds -/
theorem valV_kv {ks : List (Addr × Int × Int)} (p : Int × Int) : (valV (kvOf ks) [Sum.inl p.1, Sum.inl p.2]).isSome = decide (p ∈ ks.map (·.2)) := by
  unfold valV kvOf
  rw [Option.isSome_map, Bool.eq_iff_iff, List.find?_isSome, decide_eq_true_eq, List.mem_map]
  constructor
  · rintro ⟨x, hx, e⟩
    obtain ⟨k, hk, rfl⟩ := List.mem_map.mp hx
    have e' := of_decide_eq_true e
    injection e' with e1 e'
    injection e' with e2 _
    exact ⟨k, hk, Prod.ext (Sum.inl.inj e1) (Sum.inl.inj e2)⟩
  · rintro ⟨k, hk, e⟩
    exact ⟨_, List.mem_map.mpr ⟨k, hk, rfl⟩, decide_eq_true (by rw [e])⟩
end K65S
/-! The text by places, the scopes, what stands in the heap. -/
namespace K65P
open PySem PySem.Spec PyProof.Rows L2 K65 K65S
abbrev top (i : Nat) : Stmt := PySem.Challenge.pw_casknotes_k65_whole_paid_otherwise.main.body.getD i (.Pass ⟨0, 0, 0, 0⟩)
abbrev nRows : List Str := ["grains", "rows", "one", "more", "number", "many"]
abbrev nChos : List Str := ["grains", "rows", "goal", "chosen", "number"]
abbrev nFew : List Str := ["grains", "due", "rows", "goal", "pair"]
abbrev nWhole : List Str := ["thing"]
abbrev nRis : List Str := ["thing", "one", "other"]
abbrev nNum : List Str := ["many", "thing", "one"]
abbrev nPair : List Str := ["thing", "one"]
abbrev nLead : List Str := ["row", "one", "behind", "there", "number", "many", "pair"]
abbrev nHold : List Str := ["grains", "due", "thing", "chosen", "paper", "own", "number", "row", "one", "behind", "pair"]
abbrev nDeck : List Str := ["_law_script", "_law_k", "_law_cell"]
abbrev nDraw : List Str := ["_law_deck_here", "_law_most", "_law_digit", "_law_number"]
abbrev nGr : List Str := ["_law_deck_here", "_law_least", "_law_way", "_law_many", "_law_found", "_law_k", "_law_some"]
abbrev nCho : List Str := ["_law_grains_here", "_law_found", "_law_number", "_law_one", "_law_chosen", "_law_sums", "_law_many"]
abbrev nDue : List Str := ["_law_deck_here", "_law_grains_here", "_law_way", "_law_found", "_law_at", "_law_some", "_law_chosen", "_law_sums", "_law_many"]
abbrev nLWhole : List Str := ["_law_thing"]
abbrev nLRis : List Str := ["_law_thing", "_law_one", "_law_other"]
abbrev nLRow : List Str := ["_law_thing", "_law_pair", "_law_one"]
abbrev nLCho : List Str := ["_law_grains_here", "_law_due_here", "_law_thing", "_law_one", "_law_number"]
abbrev nLHold : List Str := ["_law_grains_here", "_law_due_here", "_law_thing", "_law_paper", "_law_number", "_law_one", "_law_there", "_law_sums", "_law_many", "_law_own", "_law_row", "_law_pair"]
abbrev nTurn : List Str := ["_law_deck_here", "_law_many", "_law_left", "_law_k"]
abbrev nTold : List Str := ["_law_grains_here", "_law_due_here", "_law_told_here", "_law_number"]
abbrev nRight : List Str := ["_law_grains_here", "_law_due_here", "_law_order", "_law_told_here", "_law_turned", "_law_chosen", "_law_thing", "_law_number"]
abbrev nLaw : List Str := ["_law_script", "_law_k", "_law_deck_here", "_law_grains_here", "_law_due_here", "_law_told_here", "_law_order", "_law_often", "_law_turned", "_law_great", "_law_wide", "_law_more", "_law_number", "_law_one"]
theorem scRows : FnScope nRows ["grains"] (defScope (top 1)) := ⟨rfl, rfl, rfl, by decide +kernel, rfl, by decide +kernel, by decide +kernel⟩
theorem scChos : FnScope nChos ["grains", "rows", "goal"] (defScope (top 2)) := ⟨rfl, rfl, rfl, by decide +kernel, rfl, by decide +kernel, by decide +kernel⟩
theorem scFew : FnScope nFew ["grains", "due"] (defScope (top 3)) := ⟨rfl, rfl, rfl, by decide +kernel, rfl, by decide +kernel, by decide +kernel⟩
theorem scWhole : FnScope nWhole ["thing"] (defScope (top 5)) := ⟨rfl, rfl, rfl, by decide +kernel, rfl, by decide +kernel, by decide +kernel⟩
theorem scRis : FnScope nRis ["thing"] (defScope (top 7)) := ⟨rfl, rfl, rfl, by decide +kernel, rfl, by decide +kernel, by decide +kernel⟩
theorem scNum : FnScope nNum ["many", "thing"] (defScope (top 8)) := ⟨rfl, rfl, rfl, by decide +kernel, rfl, by decide +kernel, by decide +kernel⟩
theorem scPair : FnScope nPair ["thing"] (defScope (top 9)) := ⟨rfl, rfl, rfl, by decide +kernel, rfl, by decide +kernel, by decide +kernel⟩
theorem scRow : FnScope nPair ["thing"] (defScope (top 10)) := ⟨rfl, rfl, rfl, by decide +kernel, rfl, by decide +kernel, by decide +kernel⟩
theorem scLead : FnScope nLead ["row", "one", "behind"] (defScope (top 11)) := ⟨rfl, rfl, rfl, by decide +kernel, rfl, by decide +kernel, by decide +kernel⟩
theorem scHold : FnScope nHold ["grains", "due", "thing"] (defScope (top 12)) := ⟨rfl, rfl, rfl, by decide +kernel, rfl, by decide +kernel, by decide +kernel⟩
theorem scDeck : FnScope nDeck ["_law_script", "_law_k"] (defScope (top 14)) := ⟨rfl, rfl, rfl, by decide +kernel, rfl, by decide +kernel, by decide +kernel⟩
theorem scDraw : FnScope nDraw ["_law_deck_here", "_law_most"] (defScope (top 15)) := ⟨rfl, rfl, rfl, by decide +kernel, rfl, by decide +kernel, by decide +kernel⟩
theorem scGr : FnScope nGr ["_law_deck_here", "_law_least"] (defScope (top 16)) := ⟨rfl, rfl, rfl, by decide +kernel, rfl, by decide +kernel, by decide +kernel⟩
theorem scCho : FnScope nCho ["_law_grains_here"] (defScope (top 17)) := ⟨rfl, rfl, rfl, by decide +kernel, rfl, by decide +kernel, by decide +kernel⟩
theorem scDue : FnScope nDue ["_law_deck_here", "_law_grains_here"] (defScope (top 19)) := ⟨rfl, rfl, rfl, by decide +kernel, rfl, by decide +kernel, by decide +kernel⟩
theorem scLWhole : FnScope nLWhole ["_law_thing"] (defScope (top 20)) := ⟨rfl, rfl, rfl, by decide +kernel, rfl, by decide +kernel, by decide +kernel⟩
theorem scLRis : FnScope nLRis ["_law_thing"] (defScope (top 21)) := ⟨rfl, rfl, rfl, by decide +kernel, rfl, by decide +kernel, by decide +kernel⟩
theorem scLRow : FnScope nLRow ["_law_thing"] (defScope (top 22)) := ⟨rfl, rfl, rfl, by decide +kernel, rfl, by decide +kernel, by decide +kernel⟩
theorem scLCho : FnScope nLCho ["_law_grains_here", "_law_due_here", "_law_thing"] (defScope (top 23)) := ⟨rfl, rfl, rfl, by decide +kernel, rfl, by decide +kernel, by decide +kernel⟩
theorem scLHold : FnScope nLHold ["_law_grains_here", "_law_due_here", "_law_thing"] (defScope (top 24)) := ⟨rfl, rfl, rfl, by decide +kernel, rfl, by decide +kernel, by decide +kernel⟩
theorem scTurn : FnScope nTurn ["_law_deck_here", "_law_many"] (defScope (top 25)) := ⟨rfl, rfl, rfl, by decide +kernel, rfl, by decide +kernel, by decide +kernel⟩
theorem scTold : FnScope nTold ["_law_grains_here", "_law_due_here"] (defScope (top 26)) := ⟨rfl, rfl, rfl, by decide +kernel, rfl, by decide +kernel, by decide +kernel⟩
theorem scRight : FnScope nRight ["_law_grains_here", "_law_due_here", "_law_order"] (defScope (top 27)) := ⟨rfl, rfl, rfl, by decide +kernel, rfl, by decide +kernel, by decide +kernel⟩
theorem scLaw : FnScope nLaw ["_law_script"] (defScope (top 28)) := ⟨rfl, rfl, rfl, by decide +kernel, rfl, by decide +kernel, by decide +kernel⟩
/-- a def of the text, where it stands, how it is called -/
structure Dn (K : PySem.W.Frag) (mg : Str → Option Value) (x : Str) (i : Nat) (ps : List Str) (f : Addr) (fd : FuncData) : Prop where
  fn : Fun K x x (top i) f fd
  gl : mg x = some (.ref f)
  bi : Binds K fd ps []
  kp : PySem.W.keepIn K (.ref f) = true
/-- the built-in names are still the built-ins' -/
structure Bl (mg : Str → Option Value) : Prop where
  len : mg "len" = none
  max : mg "max" = none
  min : mg "min" = none
  int : mg "int" = none
  bool : mg "bool" = none
  tuple : mg "tuple" = none
  list : mg "list" = none
  set : mg "set" = none
  dict : mg "dict" = none
  sorted : mg "sorted" = none
  sum : mg "sum" = none
  range : mg "range" = none
  zip : mg "zip" = none
  enumerate : mg "enumerate" = none
  all : mg "all" = none
  any : mg "any" = none
  isinstance : mg "isinstance" = none
  repr : mg "repr" = none
/-! ### what stands -/
abbrev nts (c : List Nat) : List V := c.map fun (i : Nat) => V.int (i : Int)
def RowAt (H : Hp) (a : Addr) (ps : List (Int × Int)) : Prop := ∃ ks, H a = some (.tup (refs ks)) ∧ Prs H ks ∧ ks.map (·.2) = ps
def RowsAt (H : Hp) (a : Addr) (rows : List (List (Int × Int))) : Prop := ∃ rs : List (Addr × List (Int × Int)), H a = some (.tup (rs.map fun r => V.ref r.1)) ∧ (∀ r ∈ rs, RowAt H r.1 r.2) ∧ rs.map (·.2) = rows
theorem prs_same {H H' : Hp} {ks : List (Addr × Int × Int)} (s : Same H H') (h : Prs H ks) : Prs H' ks := fun k hk => s _ _ (h k hk)
theorem RowAt.same {H H' : Hp} {a : Addr} {ps : List (Int × Int)} (s : Same H H') (h : RowAt H a ps) : RowAt H' a ps := by
  obtain ⟨ks, h1, h2, h3⟩ := h
  exact ⟨ks, s _ _ h1, prs_same s h2, h3⟩
theorem RowsAt.same {H H' : Hp} {a : Addr} {rows : List (List (Int × Int))} (s : Same H H') (h : RowsAt H a rows) : RowsAt H' a rows := by
  obtain ⟨rs, h1, h2, h3⟩ := h
  exact ⟨rs, s _ _ h1, fun r hr => (h2 r hr).same s, h3⟩
theorem same_new {H : Hp} {p : Addr} {o : HO} (h : H p = none) : Same H (upd H p o) := fun b x e => by
  rw [upd_ne (ne_of_none e h)]; exact e
/-- all but what stands at d is as it was -/
def But (d : Addr) (H H' : Hp) : Prop := ∀ b o, H b = some o → b ≠ d → H' b = some o
theorem But.refl (d : Addr) (H : Hp) : But d H H := fun _ _ e _ => e
theorem But.trans {d : Addr} {H H1 H2 : Hp} (a : But d H H1) (b : But d H1 H2) : But d H H2 := fun c o e n => b c o (a c o e n) n
theorem But.of_same {d : Addr} {H H' : Hp} (s : Same H H') : But d H H' := fun b o e _ => s b o e
/-- the deck's list -/
def DeckAt (H : Hp) (d : Addr) : Prop := ∃ a b c : Int, H d = some (.lst [.int a, .int b, .int c]) ∧ 0 ≤ a
theorem DeckAt.same {H H' : Hp} {d : Addr} (s : Same H H') (h : DeckAt H d) : DeckAt H' d := by
  obtain ⟨a, b, c, e, q⟩ := h
  exact ⟨a, b, c, s _ _ e, q⟩
theorem deck_ne {H : Hp} {d b : Addr} {xs : List V} (h : DeckAt H d) (e : H b = some (.tup xs)) : b ≠ d := by
  obtain ⟨x, y, z, e2, _⟩ := h
  exact ne_of e e2 (fun q => nomatch q)
/-- a tuple of positive ints, one to eight -/
structure Gs (gs : List Int) : Prop where
  ge : 1 ≤ gs.length
  le : gs.length ≤ 8
  pos : ∀ g ∈ gs, 1 ≤ g
theorem small {n : Nat} (h : n ≤ 1000000) : n ≤ sizeLine := Nat.le_trans h (by decide)
theorem small' {n : Nat} (h : n ≤ 1000000) : n < sizeLine := Nat.lt_of_le_of_lt h (by decide)
end K65P
namespace K65P
open PySem PySem.Spec PyProof.Rows L2 K65 K65S
/-- a statement, then the rest from a word between them -/
def tMid (t u : TS) : TS := fun D σ H => ∃ M : L2.St → Hp → Prop, t { D with nx := M } σ H ∧ ∀ σ' H', M σ' H' → u D σ' H'
theorem pss_mid {X : Cx} {st : Stmt} {rest : List Stmt} {t u : TS} (a : PS X st t) (b : PSs X rest u) : PSs X (st :: rest) (tMid t u) := by
  constructor
  intro pins s σ H D I ⟨M, hm, hu⟩
  refine wpAny_execs_cons (thn (a.run pins s σ H { D with nx := M } I hm) fun fl s1 q => ?_)
  cases fl with
  | next => exact let ⟨σ', H', I', q⟩ := q; b.run pins s1 σ' H' D I' (hu σ' H' q)
  | ret _ => exact q
  | brk => exact q
  | cont => exact q
section
variable {P : Program} {w : World} {K : PySem.W.Frag} {mg : Str → Option Value} {base : Heap}
theorem kit_ii : kitB "int" "int" = some true := by decide +kernel
theorem kit_ib : kitB "int" "bool" = some false := by decide +kernel
theorem kit_tt : kitB "tuple" "tuple" = some true := by decide +kernel
/-- is_whole of an int -/
def spWhole : Sp := fun vs H Q _ => ∃ i : Int, vs = [.int i] ∧ Q (.bl true) H
theorem ok_whole {f : Addr} {fd : FuncData} (D : Dn K mg "is_whole" 5 ["thing"] f fd) (B : Bl mg) : FnOk P w K mg base CX0 1 f fd ["thing"] spWhole := by
  refine D.fn.ok scWhole (fun vs H Q E h => ?_) (fun cdv A outer s H vs Q E hr h => ?_)
  · obtain ⟨i, rfl, _⟩ := h
    rfl
  · obtain ⟨i, rfl, q⟩ := h
    refine ⟨_, pss_one (ps_ret (pe_and (pe_callB call_isi (by rfl) B.isinstance boot_isinstance (pa_cons (pv 0) (pa_cons (pe_bltn (v := .ty "int") (by rfl) B.int PyProof.Rows.boot_int rfl) pa_nil)))
      (pe_one (pe_not (pe_callB call_isi (by rfl) B.isinstance boot_isinstance (pa_cons (pv 0) (pa_cons (pe_bltn (v := .ty "bool") (by rfl) B.bool PyProof.Rows.boot_bool rfl) pa_nil))))))), ?_⟩
    refine ⟨_, rfl, _, _, _, _, _, rfl, .ty "int", .base (.int i), kit_ty kit_ii, _, rfl, iteT ?_⟩
    refine ⟨_, rfl, _, _, _, _, _, rfl, .ty "bool", .base (.int i), kit_ty kit_ib, _, rfl, q⟩
theorem ok_lwhole {f : Addr} {fd : FuncData} (D : Dn K mg "_law_whole" 20 ["_law_thing"] f fd) (B : Bl mg) : FnOk P w K mg base CX0 1 f fd ["_law_thing"] spWhole := by
  refine D.fn.ok scLWhole (fun vs H Q E h => ?_) (fun cdv A outer s H vs Q E hr h => ?_)
  · obtain ⟨i, rfl, _⟩ := h
    rfl
  · obtain ⟨i, rfl, q⟩ := h
    refine ⟨_, pss_one (ps_ret (pe_and (pe_callB call_isi (by rfl) B.isinstance boot_isinstance (pa_cons (pv 0) (pa_cons (pe_bltn (v := .ty "int") (by rfl) B.int PyProof.Rows.boot_int rfl) pa_nil)))
      (pe_one (pe_not (pe_callB call_isi (by rfl) B.isinstance boot_isinstance (pa_cons (pv 0) (pa_cons (pe_bltn (v := .ty "bool") (by rfl) B.bool PyProof.Rows.boot_bool rfl) pa_nil))))))), ?_⟩
    refine ⟨_, rfl, _, _, _, _, _, rfl, .ty "int", .base (.int i), kit_ty kit_ii, _, rfl, iteT ?_⟩
    refine ⟨_, rfl, _, _, _, _, _, rfl, .ty "bool", .base (.int i), kit_ty kit_ib, _, rfl, q⟩
/-! ### the deck -/
/-- _law_deck: from the script's list, a new deck -/
def spDeck (K : PySem.W.Frag) : Sp := fun vs H Q _ => ∃ (a : Addr) (ns : List Int) (k : Nat), vs = [.ref a, .int k] ∧ SqL K H a (ns.map V.int) ∧ ∀ p H', H p = none → Same H H' → DeckAt H' p → Q (.ref p) H'
theorem ok_deck {f : Addr} {fd : FuncData} (D : Dn K mg "_law_deck" 14 ["_law_script", "_law_k"] f fd) (B : Bl mg) : FnOk P w K mg base CX0 1 f fd ["_law_script", "_law_k"] (spDeck K) := by
  refine D.fn.ok scDeck (fun vs H Q E h => ?_) (fun cdv A outer s H vs Q E hr h => ?_)
  · obtain ⟨a, ns, k, rfl, _⟩ := h
    rfl
  · obtain ⟨a, ns, k, rfl, hS, q⟩ := h
    refine ⟨_, pss_cons (ps_set (i := 2) scDeck.nd rfl (.inl rfl) pe_int)
      (pss_mid (ps_if (pt_cmpR op_lt (pv 1) (pe_callB call_len_seq (by rfl) B.len PySem.boot_len (pa_cons (pv 0) pa_nil)) (nomark _))
        (pss_one (ps_set (i := 2) scDeck.nd rfl (.inl rfl) (pe_callB (call_max2 rfl) (by rfl) B.max PyProof.Rows.boot_max (pa_cons pe_int (pa_cons (pe_ix ix_list (pv 0) (pv 1) (fun _ _ => rfl)) pa_nil))))) pss_nil)
      (pss_one (ps_ret (pe_lst (pa_cons (pe_op op_mul (pv 2) (pe_callTy call_int1 (by rfl) B.int PyProof.Rows.boot_int (pa_cons (pe_cmpR op_ge (pv 2) (pe_op op_pow pe_int pe_int) (nomark _)) pa_nil)))
        (pa_cons (pe_op op_add (pe_op op_mod (pv 2) pe_int) (pe_op op_mul pe_int (pv 1))) (pa_cons pe_int pa_nil))))))), ?_⟩
    refine ⟨fun σ H' => ∃ c : Int, 0 ≤ c ∧ σ = [some (.ref a), some (.int k), some (.int c)] ∧ H' = H, ?_, ?_⟩
    · refine ⟨_, rfl, _, rfl, a, _, rfl, .inl hS, _, _, rfl, rfl, _, rfl, ite2 (fun e => ?_) (fun e => ⟨0, Int.le_refl 0, rfl, rfl⟩)⟩
      have hk : k < ns.length := by
        have e' := of_decide_eq_true e
        rw [List.length_map] at e'
        omega
      refine ⟨_, rfl, _, rfl, a, _, _, .int ns[k], rfl, rfl, hS, atI_nat (by rw [List.getElem?_map, List.getElem?_eq_getElem hk]; rfl), _, _, rfl, _, ?_, rfl, rfl⟩
      split <;> omega
    · rintro σ H' ⟨c, hc, rfl, rfl⟩
      refine ⟨_, rfl, _, rfl, _, _, rfl, rfl, ⟨by decide, by decide, by decide⟩, _, _, rfl, rfl, .inr ⟨_, rfl, _, _, rfl, rfl, .inr ?_, ?_⟩⟩
      · split <;> decide
      refine ⟨_, rfl, _, _, rfl, rfl, (by show (0 : Int) < 2147483647; decide), _, rfl, _, _, rfl, rfl, .inl (by decide), _, _, rfl, rfl, (by show 3 ≤ sizeLine; decide), fun p np => q p _ np (same_new np) ⟨_, _, _, upd_same, ?_⟩⟩
      split
      · rw [Int.mul_one]; exact hc
      · rw [Int.mul_zero]; exact Int.le_refl 0
/-- _law_draw: a number below most; only the deck's list is changed -/
def spDraw : Sp := fun vs H Q _ => ∃ (d : Addr) (m : Int), vs = [.ref d, .int m] ∧ DeckAt H d ∧ 1 ≤ m ∧ m < 1073741824 ∧ ∀ H' r, 0 ≤ r → r < m → DeckAt H' d → But d H H' → Q (.int r) H'
theorem but_upd {d : Addr} {H : Hp} {o : HO} : But d H (upd H d o) := fun b x e n => by rw [upd_ne n]; exact e
theorem ok_draw {f : Addr} {fd : FuncData} (D : Dn K mg "_law_draw" 15 ["_law_deck_here", "_law_most"] f fd) : FnOk P w K mg base CX0 1 f fd ["_law_deck_here", "_law_most"] spDraw := by
  refine D.fn.ok scDraw (fun vs H Q E h => ?_) (fun cdv A outer s H vs Q E hr h => ?_)
  · obtain ⟨d, m, rfl, _⟩ := h
    rfl
  · obtain ⟨d, m, rfl, ⟨a, b, c, hd, ha⟩, hm, hm2, q⟩ := h
    refine ⟨_, pss_cons (ps_if (pt_cmpR op_gt (pe_ix ix_list (pv 0) pe_int (fun _ _ => rfl)) pe_int (nomark _))
        (pss_cons (ps_set (i := 2) scDraw.nd rfl (.inl rfl) (pe_op op_mod (pe_ix ix_list (pv 0) pe_int (fun _ _ => rfl)) (pv 1)))
        (pss_cons (ps_asg (pe_op op_fdiv (pe_ix ix_list (pv 0) pe_int (fun _ _ => rfl)) (pv 1)) (pg_sub (pv 0) pe_int set_list))
        (pss_one (ps_ret (pv 2))))) pss_nil)
      (pss_cons (ps_asg (pe_op op_add (pe_ix ix_list (pv 0) pe_int (fun _ _ => rfl)) pe_int) (pg_sub (pv 0) pe_int set_list))
      (pss_cons (ps_set (i := 3) scDraw.nd rfl (.inl rfl) (pe_op op_mod (pe_op op_mul (pe_op op_add (pe_ix ix_list (pv 0) pe_int (fun _ _ => rfl)) (pe_op op_mul pe_int (pe_ix ix_list (pv 0) pe_int (fun _ _ => rfl)))) pe_int) pe_int))
      (pss_cons (ps_set (i := 3) scDraw.nd rfl (.inl rfl) (pe_op op_mod (pe_op op_add (pe_op op_add (pe_op op_mul (pv 3) (pv 3)) (pe_op op_mul pe_int (pe_ix ix_list (pv 0) pe_int (fun _ _ => rfl)))) pe_int) pe_int))
      (pss_one (ps_ret (pe_op op_mod (pe_op op_fdiv (pe_op op_mod (pe_op op_add (pe_op op_mul (pv 3) (pv 3)) pe_int) pe_int) pe_int) (pv 1))))))), ?_⟩
    refine ⟨.ref d, rfl, d, _, 0, .int a, rfl, rfl, .inl (.inl hd), atI_nat (j := 0) rfl, _, _, rfl, rfl, _, rfl, ite2 (fun e => ?_) (fun e => ?_)⟩
    · have hpos : 0 < a := of_decide_eq_true e
      refine ⟨.ref d, rfl, d, _, 0, .int a, rfl, rfl, .inl (.inl hd), atI_nat (j := 0) rfl, _, rfl, _, _, rfl, rfl, (by show 0 < m; omega), ?_⟩
      refine ⟨.ref d, rfl, d, _, 0, .int a, rfl, rfl, .inl (.inl hd), atI_nat (j := 0) rfl, _, rfl, _, _, rfl, rfl, ⟨by omega, hm2⟩, .ref d, rfl, d, _, 0, 0, rfl, rfl, hd, rfl, ?_⟩
      exact ⟨_, rfl, q _ _ (Int.emod_nonneg _ (by omega)) (Int.emod_lt_of_pos _ (by omega)) ⟨_, _, _, upd_same, Int.ediv_nonneg ha (by omega)⟩ but_upd⟩
    · refine ⟨.ref d, rfl, d, _, 2, .int c, rfl, rfl, .inl (.inl hd), atI_nat (j := 2) rfl, _, _, rfl, rfl, .ref d, rfl, d, _, 2, 2, rfl, rfl, hd, rfl, ?_⟩
      have h1 : upd H d (.lst [.int a, .int b, .int (c + 1)]) d = some (.lst [.int a, .int b, .int (c + 1)]) := upd_same
      refine ⟨.ref d, rfl, d, _, 1, .int b, rfl, rfl, .inl (.inl h1), atI_nat (j := 1) rfl, .ref d, rfl, d, _, 2, .int (c + 1), rfl, rfl, .inl (.inl h1), atI_nat (j := 2) rfl, _, _, rfl, rfl, .inl (by decide), _, _, rfl, rfl, _, _, rfl, rfl, .inr (by decide), _, _, rfl, rfl, (by show (0 : Int) < 2147483647; decide), ?_⟩
      generalize (b + 104711 * (c + 1)) * 48271 = x
      have x1 := Int.emod_nonneg x (show (2147483647 : Int) ≠ 0 by decide)
      have x2 := Int.emod_lt_of_pos x (show (0 : Int) < 2147483647 by decide)
      generalize x % 2147483647 = y at x1 x2 ⊢
      refine ⟨_, rfl, _, rfl, _, _, rfl, rfl, .inl ⟨by omega, by omega⟩, .ref d, rfl, d, _, 2, .int (c + 1), rfl, rfl, .inl (.inl h1), atI_nat (j := 2) rfl, _, _, rfl, rfl, .inl (by decide), _, _, rfl, rfl, _, _, rfl, rfl, _, _, rfl, rfl, (by show (0 : Int) < 2147483629; decide), ?_⟩
      generalize y * y + 69621 * (c + 1) + 29 = z
      have z1 := Int.emod_nonneg z (show (2147483629 : Int) ≠ 0 by decide)
      have z2 := Int.emod_lt_of_pos z (show (0 : Int) < 2147483629 by decide)
      generalize z % 2147483629 = u at z1 z2 ⊢
      refine ⟨_, rfl, _, rfl, _, _, rfl, rfl, .inl ⟨by omega, by omega⟩, _, _, rfl, rfl, _, _, rfl, rfl, (by show (0 : Int) < 2147483587; decide), _, _, rfl, rfl, ⟨by decide, by decide⟩, _, rfl, _, _, rfl, rfl, (by show 0 < m; omega), ?_⟩
      exact q _ _ (Int.emod_nonneg _ (by omega)) (Int.emod_lt_of_pos _ (by omega)) ⟨_, _, _, h1, ha⟩ but_upd
end
end K65P
namespace K65P
open PySem PySem.Spec PyProof.Rows L2 K65 K65S
theorem room65 {k : Nat} {A : Around} (hr : Room k A) : A.units + 65 < cLine := by have := hr.un; omega
theorem take_succ_of {α : Type} {l : List α} {i : Nat} {x : α} (h : l[i]? = some x) : l.take (i + 1) = l.take i ++ [x] := by rw [List.take_add_one, h]; rfl
/-- the rows of the first i beginnings and one more -/
def rowsTo (gs : List Int) (i : Nat) : List (List (Int × Int)) := (List.range (i + 1)).map fun j => rowN (gs.take j)
theorem rowsTo_succ (gs : List Int) (i : Nat) : rowsTo gs (i + 1) = rowsTo gs i ++ [rowN (gs.take (i + 1))] := by
  unfold rowsTo
  rw [List.range_succ, List.map_append]; rfl
theorem rowsTo_all (gs : List Int) : rowsTo gs gs.length = rowsN gs := rfl
theorem refs_app (a b : List (Addr × Int × Int)) : refs (a ++ b) = refs a ++ refs b := List.map_append
theorem nxt_uniq {row : List (Int × Int)} {g : Int} {L : List (Int × Int)} (hs : L.Pairwise Plt) (hm : ∀ x, x ∈ L ↔ x ∈ row ++ moreOf g row) : L = nxt row g :=
  sorted_uniq hs (srt_sorted _) fun x => by unfold nxt; rw [mem_srt]; exact hm x
theorem pw_map {L : List (Addr × Int × Int)} (h : L.Pairwise fun q r => Plt q.2 r.2) : (L.map (·.2)).Pairwise Plt := List.pairwise_map.mpr h
theorem pow_le8 {n : Nat} (h : n ≤ 7) : 2 ^ n ≤ 128 := by
  have : 2 ^ n ≤ 2 ^ 7 := Nat.pow_le_pow_right (by decide) h
  exact this
section
variable {P : Program} {w : World} {K : PySem.W.Frag} {mg : Str → Option Value} {base : Heap}
abbrev TupI (H : Hp) (a : Addr) (ns : List Int) : Prop := H a = some (.tup (ns.map V.int))
/-- rows_of -/
def spRows : Sp := fun vs H Q _ => ∃ (a : Addr) (gs : List Int), vs = [.ref a] ∧ TupI H a gs ∧ gs.length ≤ 8 ∧ ∀ H' p, Same H H' → RowsAt H' p (rowsN gs) → Q (.ref p) H'
theorem ok_rows {f : Addr} {fd : FuncData} (D : Dn K mg "rows_of" 1 ["grains"] f fd) (B : Bl mg) : FnOk P w K mg base CX0 1 f fd ["grains"] spRows := by
  refine D.fn.ok scRows (fun vs H Q E h => ?_) (fun cdv A outer s H vs Q E hr h => ?_)
  · obtain ⟨a, gs, rfl, _⟩ := h
    rfl
  · obtain ⟨a, gs, rfl, hg, hlen, q⟩ := h
    have hu := hr.units
    refine ⟨_, pss_cons (ps_set (i := 1) scRows.nd rfl (.inl rfl) (pe_lst (pa_cons (pe_tup (pa_cons (pe_tup (pa_cons pe_int (pa_cons pe_int pa_nil))) pa_nil)) pa_nil)))
      (pss_cons (ps_for PassesOwn.never rfl (pi_tup (pv 0)) (pg_name (i := 2) scRows.nd rfl (.inr rfl))
        (pss_cons (ps_setLc (i := 3) (g := gTup K 2 (gCons (gName 4) (gCons (gName 5) gNil))) (tt := tYes) (own := [("number", 4), ("many", 5)]) rfl scRows.nd rfl rfl (sw_true rfl rfl rfl (by decide +kernel)) (pi_tup (pe_ix ix_list (pv 1) (pe_un un_neg pe_int) (fun _ _ => rfl)))
            (blkOk_by (own := [("number", 4), ("many", 5)]) (N := nRows) (sc := defScope (top 1)) (by decide +kernel))
            (fun _ _ _ _ _ => pg_tup rfl (pgs_cons (pg_name (i := 4) scRows.nd rfl (Or.inl rfl)) (pgs_cons (pg_name (i := 5) scRows.nd rfl (Or.inl rfl)) pgs_nil))) (fun _ _ _ _ _ => pts_nil)
            (fun _ _ _ _ _ => pe_tup (pa_cons (pe_op op_add (pv 4) (pv 2)) (pa_cons (pe_op op_add (pv 5) pe_int) pa_nil))))
        (pss_one (ps_expr (pe_bm PySem.F.plainAttrs_list PySem.F.slot_list_append PySem.F.type_list_append mt_append (pv 1)
          (pa_cons (pe_callTy call_tuple_of (by rfl) B.tuple PyProof.Rows.boot_tuple (pa_cons (pe_callB (cr_sortedP0 rfl) (by rfl) B.sorted PyProof.Rows.boot_sorted (pa_cons (pe_callTy (cr_setP rfl hu) (by rfl) B.set PyProof.Rows.boot_set
            (pa_cons (pe_op op_cat (pe_callTy call_list_of (by rfl) B.list PyProof.Rows.boot_list (pa_cons (pe_ix ix_list (pv 1) (pe_un un_neg pe_int) (fun _ _ => rfl)) pa_nil)) (pv 3)) pa_nil)) pa_nil)) pa_nil)) pa_nil))))))
      (pss_one (ps_ret (pe_callTy call_tuple_of (by rfl) B.tuple PyProof.Rows.boot_tuple (pa_cons (pv 1) pa_nil))))), ?_⟩
    -- rows = [((0, 0),)]
    refine ⟨(by show 2 ≤ sizeLine; decide), fun p0 n0 => ⟨(by show 1 ≤ sizeLine; decide), fun p1 n1 => ⟨(by show 1 ≤ sizeLine; decide), fun r nr => ?_⟩⟩⟩
    have s0 := same_new (o := .tup [.int 0, .int 0]) n0
    have s1 := s0.trans (same_new (o := .tup [.ref p0]) n1)
    have s2 := s1.trans (same_new (o := .lst [.ref p1]) nr)
    have nH : H r = none := s1.free nr
    have hp1 : RowAt (upd (upd (upd H p0 (.tup [.int 0, .int 0])) p1 (.tup [.ref p0])) r (.lst [.ref p1])) p1 [(0, 0)] :=
      ⟨[(p0, 0, 0)], same_new nr _ _ upd_same, fun k hk => by rw [List.mem_singleton.mp hk]; exact same_new nr _ _ (same_new n1 _ _ upd_same), rfl⟩
    refine ⟨.ref a, rfl, a, rfl, ⟨_, SqT.of (s2 _ _ hg)⟩, for_it (walk_tup (xs := gs.map V.int)) (fun i σ H3 => ∃ (rs : List (Addr × List (Int × Int))) (y2 y3 y4 y5 : Option V), σ = [some (.ref a), some (.ref r), y2, y3, y4, y5] ∧ Same H H3 ∧
        H3 r = some (.lst (rs.map fun x => V.ref x.1)) ∧ (∀ x ∈ rs, RowAt H3 x.1 x.2) ∧ rs.map (·.2) = rowsTo gs i)
      ⟨[(p1, [(0, 0)])], none, none, none, none, rfl, s2, upd_same, fun x hx => by rw [List.mem_singleton.mp hx]; exact hp1, rfl⟩
      (fun i σ H3 _ ⟨_, _, _, _, _, _, sm, _⟩ => SqT.of (sm _ _ hg)) ?_ ?_⟩
    · rintro i x σ H3 H3' hi ⟨rs, y2, y3, y4, y5, rfl, sm, hr3, hrs, er⟩ ⟨rfl, hx⟩
      rw [List.length_map] at hi
      obtain ⟨g, hgi, rfl⟩ : ∃ g, gs[i]? = some g ∧ x = .int g := by
        rw [List.getElem?_map] at hx
        obtain ⟨g, h1, h2⟩ := Option.map_eq_some_iff.mp hx
        exact ⟨g, h1, h2.symm⟩
      -- the last row
      obtain ⟨rs0, lastr, erl⟩ : ∃ rs0 lastr, rs = rs0 ++ [lastr] := by
        have hne : rs ≠ [] := fun z => by rw [z] at er; unfold rowsTo at er; simp [List.range_succ] at er
        exact ⟨rs.dropLast, rs.getLast hne, (List.dropLast_concat_getLast hne).symm⟩
      have elast : lastr.2 = rowN (gs.take i) := by
        rw [erl, List.map_append] at er
        have := congrArg List.getLast? er
        unfold rowsTo at this
        rw [List.range_succ, List.map_append, List.map_singleton, List.map_singleton, List.getLast?_concat, List.getLast?_concat] at this
        exact Option.some.inj this
      obtain ⟨ks, k1, k2, k3⟩ := hrs lastr (by rw [erl]; simp)
      rw [elast] at k3
      have hks : ks.length ≤ 128 := by
        have h1 := rowN_len (gs.take i)
        rw [← k3, List.length_map, List.length_take, Nat.min_eq_left (by omega)] at h1
        exact Nat.le_trans h1 (pow_le8 (by omega))
      have lastIx : atI (rs.map fun x => V.ref x.1) (-1) = some (.ref lastr.1) := by
        rw [erl, List.map_append]
        exact atI_last _ _
      -- more = [..]
      refine ⟨.ref r, rfl, _, rfl, r, _, _, _, rfl, rfl, SqL.of hr3, lastIx, lastr.1, rfl, ⟨_, SqT.of k1⟩, fun m nm => ?_⟩
      have nrm : r ≠ m := ne_of_none hr3 nm
      refine lc_it (walk_tup (xs := refs ks)) (fun j H4 => ∃ ms : List (Addr × Int × Int), H4 m = some (.lst (refs ms)) ∧ Prs H4 ms ∧ ms.map (·.2) = moreOf g ((ks.map (·.2)).take j) ∧ Same H3' H4)
        ⟨[], upd_same, (fun _ hk => nomatch hk : Prs _ []), rfl, same_new nm⟩ (fun j H4 _ ⟨_, _, _, _, s4⟩ => SqT.of (s4 _ _ k1)) ?_ ?_
      · rintro j x H4 H4' hj ⟨ms, m1, m2, m3, s4⟩ ⟨rfl, hx⟩
        rw [List.getElem?_map] at hx
        obtain ⟨k, hk, rfl⟩ := Option.map_eq_some_iff.mp hx
        have hkm := List.mem_of_getElem? hk
        refine ⟨k.1, _, rfl, SqT.of (s4 _ _ (k2 k hkm)), rfl, _, _, rfl, _, _, rfl, rfl, rfl, iteT (B := True) (iteT ?_)⟩
        refine ⟨_, rfl, _, rfl, _, _, rfl, rfl, _, rfl, _, _, rfl, rfl, (by show 2 ≤ sizeLine; decide), fun t nt => ?_⟩
        have st := same_new (o := .tup [.int (k.2.1 + g), .int (k.2.2 + 1)]) nt
        have hml : ms.length ≤ 128 := by
          have h1 := congrArg List.length m3
          unfold moreOf at h1
          rw [List.length_map, List.length_map, List.length_take, List.length_map] at h1
          omega
        refine ⟨refs ms, st _ _ m1, by rw [List.length_map]; exact small' (by omega), ms ++ [(t, k.2.1 + g, k.2.2 + 1)], ?_, ?_, ?_, ?_⟩
        · rw [upd_same, refs_app]; rfl
        · intro z hz
          have zm : z.1 ≠ m := by
            rcases List.mem_append.mp hz with h | h
            · exact ne_of (m2 z h) m1 (fun q => nomatch q)
            · rw [List.mem_singleton.mp h]
              exact (ne_of_none m1 nt).symm
          rw [upd_ne zm]
          rcases List.mem_append.mp hz with h | h
          · exact st _ _ (m2 z h)
          · rw [List.mem_singleton.mp h]; exact upd_same
        · rw [List.map_append, m3, take_succ_of (x := k.2) (by rw [List.getElem?_map, hk]; rfl)]
          unfold moreOf
          rw [List.map_append]; rfl
        · exact fun b o e => by
            rw [upd_ne (ne_of_none e nm)]
            exact st _ _ (s4 b o e)
      · rintro H4 ⟨ms, m1, m2, m3, s4⟩
        rw [List.length_map, ← List.length_map (f := (·.2)) (as := ks), List.take_length] at m3
        have hml : ms.length ≤ 128 := by
          have h1 := congrArg List.length m3
          unfold moreOf at h1
          rw [List.length_map, List.length_map, List.length_map] at h1
          omega
        have hr4 := s4 _ _ hr3
        have k14 := s4 _ _ k1
        -- rows.append(tuple(sorted(set(list(rows[-1]) + more))))
        refine ⟨.ref r, rfl, .inl ⟨rfl, _, .inl (.inl hr4)⟩, .ref r, rfl, _, rfl, r, _, _, _, rfl, rfl, SqL.of hr4, lastIx, lastr.1, _, rfl, .inr (SqT.of k14), fun l1 nl1 => ?_⟩
        have sl1 := same_new (o := .lst (refs ks)) nl1
        refine ⟨_, rfl, l1, m, _, _, rfl, rfl, upd_same, sl1 _ _ m1, by rw [List.length_map, List.length_map]; exact small (by omega), fun l2 nl2 => ?_⟩
        have sl2 := sl1.trans (same_new (o := .lst (refs ks ++ refs ms)) nl2)
        have prs2 : Prs (upd (upd H4 l1 (.lst (refs ks))) l2 (.lst (refs ks ++ refs ms))) (ks ++ ms) := fun z hz => by
          rcases List.mem_append.mp hz with h | h
          · exact sl2 _ _ (s4 _ _ (k2 z h))
          · exact sl2 _ _ (m2 z h)
        refine ⟨l2, ks ++ ms, rfl, SqL.of (by rw [upd_same, refs_app]), prs2, by rw [List.length_append]; omega, fun sa L nsa c1 c2 => ?_⟩
        have sl3 := sl2.trans (same_new (o := SetPO P w sa L) nsa)
        refine ⟨sa, L, rfl, upd_same, fun z hz => same_new nsa _ _ (prs2 z (c1 z hz)), fun L' l3 pm pw nl3 => ?_⟩
        have sl4 := sl3.trans (same_new (o := .lst (refs L')) nl3)
        refine ⟨l3, _, rfl, .inl ⟨SqL.of upd_same, fun t nt => ?_⟩⟩
        have sl5 := sl4.trans (same_new (o := .tup (refs L')) nt)
        have hr5 := sl5 _ _ hr4
        have hrl : rs.length = i + 1 := by
          have h1 := congrArg List.length er
          unfold rowsTo at h1
          rw [List.length_map, List.length_map, List.length_range] at h1
          exact h1
        refine ⟨r, _, _, rfl, rfl, hr5, by rw [List.length_map]; exact small' (by omega), ?_⟩
        have eL : L'.map (·.2) = rowN (gs.take (i + 1)) := by
          rw [take_succ_of hgi, rowN_snoc]
          refine nxt_uniq (pw_map pw) fun x => ?_
          rw [← k3, ← m3, ← List.map_append]
          constructor
          · intro hx
            obtain ⟨z, hz, rfl⟩ := List.mem_map.mp hx
            exact List.mem_map.mpr ⟨z, c1 z (pm.mem_iff.mp hz), rfl⟩
          · intro hx
            obtain ⟨z, hz, rfl⟩ := List.mem_map.mp hx
            exact ((pm.map (·.2)).mem_iff).mpr (c2 z hz)
        refine ⟨rs ++ [(t, rowN (gs.take (i + 1)))], _, _, _, _, rfl, fun b o e => ?_, ?_, ?_, ?_⟩
        · rw [upd_ne (ne_of_none e nH)]
          exact sl5 _ _ (s4 _ _ (sm b o e))
        · rw [upd_same, List.map_append]; rfl
        · have carry : ∀ {b : Addr} {ps : List (Int × Int)}, RowAt (upd (upd (upd (upd (upd H4 l1 (.lst (refs ks))) l2 (.lst (refs ks ++ refs ms))) sa (SetPO P w sa L)) l3 (.lst (refs L'))) t (.tup (refs L'))) b ps →
              ∀ o, RowAt (upd (upd (upd (upd (upd (upd H4 l1 (.lst (refs ks))) l2 (.lst (refs ks ++ refs ms))) sa (SetPO P w sa L)) l3 (.lst (refs L'))) t (.tup (refs L'))) r (.lst o)) b ps := fun h o => by
            obtain ⟨k', a1, a2, a3⟩ := h
            refine ⟨k', by rw [upd_ne (ne_of a1 hr5 (fun q => nomatch q))]; exact a1, fun z hz => ?_, a3⟩
            rw [upd_ne (ne_of (a2 z hz) hr5 (fun q => nomatch q))]
            exact a2 z hz
          intro x hx
          rcases List.mem_append.mp hx with h | h
          · exact carry (((hrs x h).same s4).same sl5) _
          · rw [List.mem_singleton.mp h]
            refine carry ⟨L', upd_same, fun z hz => ?_, eL⟩ _
            exact same_new nt _ _ (same_new nl3 _ _ (same_new nsa _ _ (prs2 z (c1 z (pm.mem_iff.mp hz)))))
        · rw [List.map_append, er, rowsTo_succ]; rfl
    · rintro σ H3 ⟨rs, y2, y3, y4, y5, rfl, sm, hr3, hrs, er⟩
      rw [List.length_map, rowsTo_all] at er
      refine ⟨.ref r, rfl, r, _, rfl, .inl ⟨SqL.of hr3, fun t nt => ?_⟩⟩
      have st := same_new (o := .tup (rs.map fun x => V.ref x.1)) nt
      exact q _ t (sm.trans st) ⟨rs, upd_same, fun x hx => (hrs x hx).same st, er⟩
end
end K65P
namespace K65P
open PySem PySem.Spec PyProof.Rows L2 K65 K65S
theorem RowsAt.get {H : Hp} {a : Addr} {rows : List (List (Int × Int))} {i : Nat} {r : List (Int × Int)} (h : RowsAt H a rows) (hi : rows[i]? = some r) :
    ∃ xs b, H a = some (.tup xs) ∧ xs.length = rows.length ∧ xs[i]? = some (.ref b) ∧ RowAt H b r := by
  obtain ⟨rs, h1, h2, rfl⟩ := h
  rw [List.getElem?_map] at hi
  obtain ⟨x, hx, rfl⟩ := Option.map_eq_some_iff.mp hi
  refine ⟨_, x.1, h1, by rw [List.length_map, List.length_map], by rw [List.getElem?_map, hx]; rfl, h2 x (List.mem_of_getElem? hx)⟩
theorem in_row {K : PySem.W.Frag} {H : Hp} {b go : Addr} {row : List (Int × Int)} {p : Int × Int} {neg : Bool} {Q : VK} (hr : RowAt H b row) (hg : H go = some (.tup [.int p.1, .int p.2]))
    (q : Q (.bl (if neg then !decide (p ∈ row) else decide (p ∈ row))) H) : rInT K neg (.ref go) (.ref b) H Q := by
  obtain ⟨ks, k1, k2, k3⟩ := hr
  refine ⟨pD p, row.map pD, dp_pair hg, .tup (SqT.of k1) (by rw [← k3]; exact dp_refs k2), pD_shaped _, pDs_shaped _, ?_⟩
  rw [pD_any]
  exact q
theorem gsum_cons (gs : List Int) (i : Nat) (c : List Nat) : gsum gs (i :: c) = gs.getD i 0 + gsum gs c := by unfold gsum; rw [List.map_cons, List.sum_cons]
theorem nts_app (a b : List Nat) : nts (a ++ b) = nts a ++ nts b := List.map_append
theorem nts_rev (a : List Nat) : (nts a.reverse).reverse = nts a := by
  show ((a.reverse.map fun (i : Nat) => V.int (i : Int))).reverse = _
  rw [← List.map_reverse, List.reverse_reverse]
theorem R_nil {p : Int × Int} (h : R [] p) : p = (0, 0) := h
section
variable {P : Program} {w : World} {K : PySem.W.Frag} {mg : Str → Option Value} {base : Heap}
/-- chosen_by -/
def spChos : Sp := fun vs H Q _ => ∃ (a rw go : Addr) (gs : List Int) (p : Int × Int), vs = [.ref a, .ref rw, .ref go] ∧ TupI H a gs ∧ gs.length ≤ 8 ∧ RowsAt H rw (rowsN gs) ∧
  H go = some (.tup [.int p.1, .int p.2]) ∧ R gs p ∧ ∀ H' c cs, Same H H' → H' c = some (.tup (nts cs)) → Chose gs cs p → Q (.ref c) H'
theorem ok_chos {f : Addr} {fd : FuncData} (D : Dn K mg "chosen_by" 2 ["grains", "rows", "goal"] f fd) (B : Bl mg) : FnOk P w K mg base CX0 1 f fd ["grains", "rows", "goal"] spChos := by
  refine D.fn.ok scChos (fun vs H Q E h => ?_) (fun cdv A outer s H vs Q E hr h => ?_)
  · obtain ⟨a, rw, go, gs, p, rfl, _⟩ := h
    rfl
  · obtain ⟨a, rw, go, gs, p, rfl, hg, hlen, hrw, hgo, hR, q⟩ := h
    have hu := room65 hr
    refine ⟨_, pss_cons (ps_set (i := 3) scChos.nd rfl (.inl rfl) (pe_lst pa_nil))
      (pss_cons (ps_for PassesOwn.never rfl (pi_range3 (by rfl) B.range (pa_cons (pe_op op_sub (pe_callB call_len_seq (by rfl) B.len PySem.boot_len (pa_cons (pv 0) pa_nil)) pe_int) (pa_cons (pe_un un_neg pe_int) (pa_cons (pe_un un_neg pe_int) pa_nil))))
          (pg_name (i := 4) scChos.nd rfl (.inl rfl))
        (pss_one (ps_if (pt_cmpR (op_notInT hu) (pv 2) (pe_ix ix_tup (pv 1) (pv 4) (fun _ _ => rfl)) (by rfl))
          (pss_cons (ps_expr (pe_bm PySem.F.plainAttrs_list PySem.F.slot_list_append PySem.F.type_list_append mt_append (pv 3) (pa_cons (pv 4) pa_nil)))
          (pss_one (ps_set (i := 2) scChos.nd rfl (.inl rfl) (pe_tup (pa_cons (pe_op op_sub (pe_ix ix_tup (pv 2) pe_int (fun _ _ => rfl)) (pe_ix ix_tup (pv 0) (pv 4) (fun _ _ => rfl)))
            (pa_cons (pe_op op_sub (pe_ix ix_tup (pv 2) pe_int (fun _ _ => rfl)) pe_int) pa_nil)))))) pss_nil)))
      (pss_one (ps_ret (pe_callTy call_tuple_of (by rfl) B.tuple PyProof.Rows.boot_tuple (pa_cons (pe_revL (pv 3)) pa_nil))))), ?_⟩
    refine ⟨(by show 0 ≤ sizeLine; decide), fun ch nch => ?_⟩
    have s0 := same_new (o := .lst []) nch
    have hrg : RgC ((gs.length : Int) - 1) (-1) (-1) gs.length := by
      have h1 := RgC.neg (i := (gs.length : Int) - 1) (j := -1) (by omega) (by omega) (by decide) (by decide)
      have e : ((gs.length : Int) - 1 - -1).toNat = gs.length := by omega
      rw [e] at h1
      exact h1
    refine ⟨_, rfl, a, gs.map V.int, rfl, .inr (SqT.of (s0 _ _ hg)), _, _, rfl, rfl, ?_⟩
    rw [List.length_map]
    refine ⟨_, rfl, _, rfl, _, _, _, gs.length, rfl, hrg, for_it walk_rangeC (fun i σ H3 => ∃ (cs : List Nat) (g2 : Addr) (p2 : Int × Int) (y4 : Option V), σ = [some (.ref a), some (.ref rw), some (.ref g2), some (.ref ch), y4] ∧ Same H H3 ∧
        H3 ch = some (.lst (nts cs.reverse)) ∧ H3 g2 = some (.tup [.int p2.1, .int p2.2]) ∧ R (gs.take (gs.length - i)) p2 ∧ cs.Pairwise (· < ·) ∧ (∀ j ∈ cs, gs.length - i ≤ j ∧ j < gs.length) ∧ gsum gs cs + p2.1 = p.1 ∧ (cs.length : Int) + p2.2 = p.2 ∧ cs.length ≤ i)
      ⟨[], go, p, none, rfl, s0, upd_same, s0 _ _ hgo, by rw [Nat.sub_zero, List.take_length]; exact hR, .nil, fun j hj => (nomatch hj), by unfold gsum; simp, by simp, Nat.le_refl 0⟩ (fun i σ H3 _ _ => trivial) ?_ ?_⟩
    · rintro i x σ H3 H3' hi ⟨cs, g2, p2, y4, rfl, sm, hch, hg2, hR2, pw, bd, e1, e2, hcl⟩ ⟨rfl, hx⟩
      obtain ⟨k, ek, ek2⟩ : ∃ k : Nat, gs.length - i = k + 1 ∧ (gs.length : Int) - 1 + (i : Int) * (-1) = (k : Int) := ⟨gs.length - i - 1, by omega, by omega⟩
      have hk : k < gs.length := by omega
      have hx' : x = .int (k : Int) := hx.trans (congrArg V.int ek2)
      subst hx'
      rw [ek] at hR2 bd
      have hgk : gs[k]? = some gs[k] := List.getElem?_eq_getElem hk
      rw [take_succ_of hgk, R_snoc] at hR2
      obtain ⟨xs, b, h1, h2, h3, h4⟩ := (hrw.same sm).get (rowsN_get (Nat.le_of_lt hk))
      refine ⟨.ref g2, rfl, .ref rw, rfl, _, rfl, rw, xs, _, _, rfl, rfl, SqT.of h1, atI_nat h3, in_row (neg := true) h4 hg2 ⟨_, rfl, ite2 (fun e => ?_) (fun e => ?_)⟩⟩
      · -- not there: the number is chosen
        have nin : ¬ R (gs.take k) p2 := fun z => by
          rw [if_pos rfl, decide_eq_true ((mem_rowN _ _).mpr z)] at e
          exact absurd e (by decide)
        have hR3 : R (gs.take k) (p2.1 - gs[k], p2.2 - 1) := hR2.resolve_left nin
        refine ⟨.ref ch, rfl, .inl ⟨rfl, _, .inl (.inl hch)⟩, _, rfl, ch, _, _, rfl, rfl, hch, by rw [List.length_map, List.length_reverse]; exact small' (by omega), ?_⟩
        have hne : ∀ {b o}, H b = some o → b ≠ ch := fun h => ne_of_none h nch
        have h2c : g2 ≠ ch := ne_of hg2 hch (fun z => nomatch z)
        have sm2 : Same H (upd H3' ch (.lst (nts cs.reverse ++ [V.int k]))) := fun b o h => by rw [upd_ne (hne h)]; exact sm _ _ h
        have hg22 : upd H3' ch (.lst (nts cs.reverse ++ [V.int k])) g2 = some (.tup [.int p2.1, .int p2.2]) := by rw [upd_ne h2c]; exact hg2
        refine ⟨.ref g2, rfl, g2, _, 0, .int p2.1, rfl, rfl, SqT.of hg22, atI_nat (j := 0) rfl, .ref a, rfl, _, rfl, a, gs.map V.int, _, .int gs[k], rfl, rfl, SqT.of (sm2 _ _ hg), atI_nat (by rw [List.getElem?_map, hgk]; rfl), _, _, rfl, rfl, ?_⟩
        refine ⟨.ref g2, rfl, g2, _, 1, .int p2.2, rfl, rfl, SqT.of hg22, atI_nat (j := 1) rfl, _, _, rfl, rfl, (by show 2 ≤ sizeLine; decide), fun t nt => ?_⟩
        have st := same_new (o := .tup [.int (p2.1 - gs[k]), .int (p2.2 - 1)]) nt
        refine ⟨k :: cs, t, (p2.1 - gs[k], p2.2 - 1), _, rfl, sm2.trans st, ?_, upd_same, ?_, ?_, ?_, ?_, ?_, ?_⟩
        · have := st ch _ upd_same
          rw [this, List.reverse_cons, nts_app]; rfl
        · have e : gs.length - (i + 1) = k := by omega
          rw [e]
          exact hR3
        · refine List.pairwise_cons.mpr ⟨fun j hj => ?_, pw⟩
          have := (bd j hj).1
          omega
        · intro j hj
          rcases List.mem_cons.mp hj with h | h
          · omega
          · have := bd j h
            omega
        · rw [gsum_cons, List.getD_eq_getElem?_getD, hgk]
          show gs[k] + gsum gs cs + (p2.1 - gs[k]) = p.1
          omega
        · rw [List.length_cons]
          show ((cs.length + 1 : Nat) : Int) + (p2.2 - 1) = p.2
          omega
        · rw [List.length_cons]; omega
      · -- there
        have yin : R (gs.take k) p2 := by
          refine Classical.byContradiction fun z => e ?_
          rw [if_pos rfl, decide_eq_false (fun y => z ((mem_rowN _ _).mp y))]
          rfl
        refine ⟨cs, g2, p2, _, rfl, sm, hch, hg2, ?_, pw, fun j hj => ?_, e1, e2, by omega⟩
        · have e : gs.length - (i + 1) = k := by omega
          rw [e]
          exact yin
        · have := bd j hj
          omega
    · rintro σ H3 ⟨cs, g2, p2, y4, rfl, sm, hch, hg2, hR2, pw, bd, e1, e2, hcl⟩
      rw [Nat.sub_self, List.take_zero] at hR2
      have e0 := R_nil hR2
      subst e0
      refine ⟨.ref ch, rfl, ch, _, rfl, SqL.of hch, fun l nl => ?_⟩
      have sl := same_new (o := .lst (nts cs.reverse).reverse) nl
      refine ⟨l, _, rfl, .inl ⟨SqL.of upd_same, fun t nt => ?_⟩⟩
      have st := same_new (o := .tup (nts cs.reverse).reverse) nt
      refine q _ t cs ((sm.trans sl).trans st) (by rw [upd_same, nts_rev]) ⟨pw, fun j hj => (bd j hj).2, by have := e1; simp at this; exact this, by have := e2; simp at this; exact this⟩
end
end K65P
namespace K65P
open PySem PySem.Spec PyProof.Rows L2 K65 K65S RZ
/-- a comprehension whose turns leave all that stands as it is: out tells what is made by the turn -/
theorem lc_same {J : It} {n : Nat} {G : Hp → Prop} {Y : Nat → Hp → V → Hp → Prop} (w : Walk J n G Y) {g : TG} {tt : TT} {te : TE} {vs : List Nat} {σ : L2.St} {H1 : Hp} {D : Addr} {Qd : Hp → Prop} (out : Nat → List V) (h0 : out 0 = []) (nD : H1 D = none)
    (hl : ∀ i, i < n → (out i).length ≤ 1000000) (hG : ∀ H, Same H1 H → G H) (hY : ∀ i H x H', i < n → Y i H x H' → Same H H')
    (hs : ∀ i x H H', i < n → Same H1 H' → Y i H x H' → ∀ (R : V → Hp → Prop) (N : Hp → Prop), (∀ v H'', out (i + 1) = out i ++ [v] → Same H' H'' → R v H'') → (∀ H'', out (i + 1) = out i → Same H' H'' → N H'') →
      g x (wipe σ vs) H' fun σ2 H2 => wipe σ2 vs = wipe σ vs ∧ tt σ2 H2 fun b H3 => if b = true then te σ2 H3 R else N H3)
    (hd : ∀ H, Same H1 H → H D = some (.lst (out n)) → Qd H) :
    ∃ W : Nat → Nat → Hp → Prop, (∃ m, W 0 m (upd H1 D (.lst []))) ∧ ∀ i m H, W i m H →
      (J.stop i H ∧ Qd H) ∨ (J.go i H ∧ ∃ Nx : Hp → Prop, (∀ H', Nx H' → ∃ m', m' < m ∧ W (i + 1) m' H') ∧ ∀ x H', J.yld i H x H' → g x (wipe σ vs) H' fun σ2 H2 => wipe σ2 vs = wipe σ vs ∧ tt σ2 H2 fun b H3 =>
        if b = true then te σ2 H3 fun y H4 => ∃ acc, H4 D = some (.lst acc) ∧ acc.length < sizeLine ∧ Nx (upd H4 D (.lst (acc ++ [y]))) else Nx H3) := by
  refine lc_it w (fun i H => H D = some (.lst (out i)) ∧ Same H1 H) ⟨by rw [upd_same, h0], same_new nD⟩ (fun i H _ p => hG H p.2) ?_ (fun H p => hd H p.2 p.1)
  rintro i x H H' hi ⟨p1, p2⟩ y
  have sy := hY i H x H' hi y
  refine hs i x H H' hi (p2.trans sy) y _ _ (fun v H'' e s => ⟨out i, s _ _ (sy _ _ p1), small' (hl i hi), by rw [upd_same, e], fun b o h => ?_⟩) (fun H'' e s => ⟨by rw [e]; exact s _ _ (sy _ _ p1), p2.trans (sy.trans s)⟩)
  rw [upd_ne (ne_of_none h nD)]
  exact s _ _ (sy _ _ (p2 _ _ h))
theorem at_same {xs : List V} {n : Nat} : ∀ i H x H', i < n → YAt xs i H x H' → Same H H' := fun i H x H' _ h => by
  rw [h.1]; exact fun _ _ e => e
theorem walk_zipT {K : PySem.W.Frag} {a b : Addr} {xs ys : List V} {n : Nat} (hn : min xs.length ys.length = n) : Walk (ItzT K a b) n (fun H => SqT K H a xs ∧ SqT K H b ys)
    (fun i H v H' => ∃ T x y, v = .ref T ∧ H T = none ∧ H' = upd H T (.tup [x, y]) ∧ xs[i]? = some x ∧ ys[i]? = some y) :=
  ⟨fun i _ hi ⟨q1, q2⟩ => ⟨xs, ys, xs[i]'(by omega), ys[i]'(by omega), q1, q2, List.getElem?_eq_getElem _, List.getElem?_eq_getElem _⟩, fun _ ⟨q1, q2⟩ => ⟨xs, ys, q1, q2, by omega⟩,
    fun _ _ _ _ _ ⟨q1, q2⟩ ⟨T, x, y, h1, h2, h3, h4, h5⟩ => ⟨T, x, y, h1, h2, h3, h4 xs q1, h5 ys q2⟩⟩
/-! ### slices -/
theorem cut_back (xs : List V) : cutV xs none (some (-1)) = xs.dropLast := by
  unfold cutV
  have e : HT.sIx xs.length xs.length (some (-1)) = xs.length - 1 := by
    unfold HT.sIx
    simp only []
    rw [if_pos (by decide)]
    omega
  rw [HT.sIx_none, e, List.drop_zero, Nat.sub_zero, List.dropLast_eq_take]
theorem cut_tail (xs : List V) : cutV xs (some 1) none = xs.tail := by
  unfold cutV
  have e : HT.sIx xs.length 0 (some 1) = min 1 xs.length := HT.sIx_nat xs.length 0 1
  rw [HT.sIx_none, e]
  cases xs with
  | nil => rfl
  | cons x xs =>
    have e2 : min 1 (x :: xs).length = 1 := by rw [List.length_cons]; omega
    rw [e2]
    show xs.take (xs.length + 1 - 1) = xs
    rw [Nat.add_sub_cancel, List.take_length]
theorem sl_ok {K : PySem.W.Frag} {H : Hp} {a : Addr} {xs ys : List V} {lo hi : Option Int} {Q : VK} (h : H a = some (.tup xs)) (e : cutV xs lo hi = ys) (q : ∀ H' p, Same H H' → H' p = some (.tup ys) → Q (.ref p) H') : rSlA K (.ref a) lo hi H Q := by
  refine ⟨a, xs, rfl, SqT.of h, fun z => q H a (fun _ _ e => e) ?_, fun _ p np => q _ p (same_new np) (by rw [upd_same, e])⟩
  rw [h, ← e]
  unfold cutV
  rw [z.1, z.2, List.drop_zero, Nat.sub_zero, List.take_length]
theorem sl_okN {K : PySem.W.Frag} {H : Hp} {σ : L2.St} {a : Addr} {xs ys : List V} {lo : Option Int} {Q : VK} (h : H a = some (.tup xs)) (e : cutV xs lo none = ys) (q : ∀ H' p, Same H H' → H' p = some (.tup ys) → Q (.ref p) H') :
    tNoPart σ H fun u H3 => rSlA K (.ref a) lo u H3 Q := sl_ok h e q
section
variable {P : Program} {w : World} {K : PySem.W.Frag} {mg : Str → Option Value} {base : Heap}
/-- few_notes -/
def spFew : Sp := fun vs H Q _ => ∃ (a : Addr) (gs : List Int) (due : Int), vs = [.ref a, .int due] ∧ TupI H a gs ∧ gs.length ≤ 8 ∧ due ≤ gs.sum ∧
  ∀ H' t c r cs p, Same H H' → H' t = some (.tup [.ref c, .ref r]) → H' c = some (.tup (nts cs)) → RowsAt H' r (rowsN gs) → Told gs due p → Chose gs cs p → Q (.ref t) H'
theorem ok_few {f f1 f2 : Addr} {fd fd1 fd2 : FuncData} (D : Dn K mg "few_notes" 3 ["grains", "due"] f fd) (D1 : Dn K mg "rows_of" 1 ["grains"] f1 fd1) (D2 : Dn K mg "chosen_by" 2 ["grains", "rows", "goal"] f2 fd2) (B : Bl mg) :
    FnOk P w K mg base CX0 2 f fd ["grains", "due"] spFew := by
  have G1 : FnOk P w K mg base CX0 1 f1 fd1 ["grains"] spRows := ok_rows D1 B
  have G2 : FnOk P w K mg base CX0 1 f2 fd2 ["grains", "rows", "goal"] spChos := ok_chos D2 B
  refine D.fn.ok scFew (fun vs H Q E h => ?_) (fun cdv A outer s H vs Q E hr h => ?_)
  · obtain ⟨a, gs, due, rfl, _⟩ := h
    rfl
  · obtain ⟨a, gs, due, rfl, hg, hlen, hdue, q⟩ := h
    have hu := hr.units
    refine ⟨_, pss_cons (ps_if (pt_cmpR op_lt (pe_callB (cr_sumT rfl) (by rfl) B.sum PyProof.Rows.boot_sum (pa_cons (pv 0) pa_nil)) (pv 1) (nomark _)) (pss_one (ps_ret pe_non)) pss_nil)
      (pss_cons (ps_set (i := 2) scFew.nd rfl (.inl rfl) (pe_call G1 hr rfl D1.gl D1.kp D1.bi .nil pass0 (pa_cons (pv 0) pa_nil)))
      (pss_cons (ps_set (i := 3) scFew.nd rfl (.inl rfl) (pe_callB (cr_minP rfl hu) (by rfl) B.min PyProof.Rows.boot_min (pa_cons
          (pe_lc (own := [("pair", 4)]) (g := gName 4) (tt := tTest (tOp (rI0 fun i j => .bl (decide (j ≤ i))) (tOp (rIxT K) (tVar 4) (tC (.int 0))) (tVar 1))) (te := tVar 4) (by rfl) scFew.nd (pi_tup (pe_ix ix_tup (pv 2) (pe_un un_neg pe_int) (fun _ _ => rfl))) (blkOk_by (own := [("pair", 4)]) (N := nFew) (sc := defScope (top 3)) (by decide +kernel))
            (fun _ _ _ _ _ => pg_name (i := 4) scFew.nd rfl (Or.inl rfl)) (fun _ _ _ _ _ => pts_one (pt_cmpR op_ge (pe_ix ix_tup (pv 4) pe_int (fun _ _ => rfl)) (pv 1) (nomark _)))
            (fun _ _ _ _ _ => pv 4)) pa_nil)))
      (pss_one (ps_ret (pe_tup (pa_cons (pe_call G2 hr rfl D2.gl D2.kp D2.bi .nil pass0 (pa_cons (pv 0) (pa_cons (pv 2) (pa_cons (pv 3) pa_nil)))) (pa_cons (pv 2) pa_nil))))))), ?_⟩
    refine ⟨.ref a, rfl, a, gs, rfl, SqT.of hg, _, rfl, _, _, rfl, rfl, _, rfl, ite2 (fun e => absurd (of_decide_eq_true e) (by omega)) fun _ => ?_⟩
    refine ⟨.ref a, rfl, a, gs, rfl, hg, hlen, fun H1 r s1 hrw => ?_⟩
    obtain ⟨xs, b, h1, h2, h3, ks, k1, k2, k3⟩ := hrw.get (i := gs.length) (rowsN_get (Nat.le_refl _))
    rw [List.take_length] at k3
    have hls : atI xs (-1) = some (.ref b) := by
      rw [rowsN_len] at h2
      obtain ⟨ys, z, rfl⟩ : ∃ ys z, xs = ys ++ [z] := ⟨xs.dropLast, xs.getLast (fun z => by rw [z] at h2; simp at h2), (List.dropLast_concat_getLast _).symm⟩
      have : ys.length = gs.length := by rw [List.length_append] at h2; simpa using h2
      rw [← this, List.getElem?_concat_length] at h3
      rw [Option.some.inj h3]
      exact atI_last _ _
    refine ⟨.ref r, rfl, _, rfl, r, xs, _, _, rfl, rfl, SqT.of h1, hls, b, rfl, ⟨_, SqT.of k1⟩, fun m nm => ?_⟩
    have hlk : ks.length ≤ 256 := by
      have := rowN_len gs
      rw [← k3, List.length_map] at this
      have h8 : 2 ^ gs.length ≤ 2 ^ 8 := Nat.pow_le_pow_right (by decide) hlen
      omega
    refine lc_same (walk_tup (xs := refs ks)) (fun j => refs ((ks.take j).filter fun k => decide (due ≤ k.2.1))) rfl nm (fun i _ => ?_) (fun H s => SqT.of (s _ _ k1)) at_same ?_ ?_
    · rw [List.length_map]
      have h1 := List.length_filter_le (fun k : Addr × Int × Int => decide (due ≤ k.2.1)) (ks.take i)
      rw [List.length_take] at h1
      omega
    · rintro i x H2 H2' hi s2 ⟨rfl, hx⟩ RR NN kR kN
      rw [List.getElem?_map] at hx
      obtain ⟨k, hk, rfl⟩ := Option.map_eq_some_iff.mp hx
      have hkm := List.mem_of_getElem? hk
      refine ⟨rfl, .ref k.1, rfl, k.1, _, 0, .int k.2.1, rfl, rfl, SqT.of (s2 _ _ (k2 k hkm)), atI_nat (j := 0) rfl, _, rfl, _, _, rfl, rfl, _, rfl, ite2 (fun e => ?_) (fun e => ?_)⟩
      · refine ⟨_, rfl, kR _ _ ?_ fun _ _ e => e⟩
        rw [take_succ_of hk, List.filter_append, refs_app]
        rw [List.filter_cons_of_pos (by exact e)]; rfl
      · refine kN _ ?_ fun _ _ e => e
        rw [take_succ_of hk, List.filter_append]
        rw [List.filter_cons_of_neg (by exact e), List.filter_nil, List.append_nil]
    · intro H2 s2 hm
      rw [List.length_map, List.take_length] at hm
      have ex : (ks.filter fun k => decide (due ≤ k.2.1)) ≠ [] := fun z => by
        obtain ⟨p, hp⟩ := told_exists hdue
        have hm := (mem_rowN gs p).mpr hp.mem
        rw [← k3] at hm
        obtain ⟨k, hk, rfl⟩ := List.mem_map.mp hm
        have : k ∈ ks.filter fun k => decide (due ≤ k.2.1) := List.mem_filter.mpr ⟨hk, decide_eq_true hp.ge⟩
        rw [z] at this
        exact nomatch this
      refine ⟨m, _, rfl, SqL.of hm, fun k hk => s2 _ _ (k2 k (List.mem_filter.mp hk).1), ex, fun k hk hmin => ?_⟩
      obtain ⟨hk1, hk2⟩ := List.mem_filter.mp hk
      have hin : ∀ p, p ∈ ks.map (·.2) ↔ R gs p := fun p => by rw [k3]; exact mem_rowN gs p
      have told : Told gs due k.2 := ⟨(hin _).mp (List.mem_map.mpr ⟨k, hk1, rfl⟩), of_decide_eq_true hk2, fun p hp hd => by
        obtain ⟨j, hj, rfl⟩ := List.mem_map.mp ((hin p).mpr hp)
        exact hmin j (List.mem_filter.mpr ⟨hj, decide_eq_true hd⟩)⟩
      refine ⟨.ref a, rfl, .ref r, rfl, .ref k.1, rfl, a, r, k.1, gs, k.2, rfl, s2 _ _ (s1 _ _ hg), hlen, hrw.same s2, s2 _ _ (k2 k hk1), told.mem, fun H3 c cs s3 hc hch => ⟨.ref r, rfl, (by show 2 ≤ sizeLine; decide), fun t nt => ?_⟩⟩
      have st := same_new (o := .tup [.ref c, .ref r]) nt
      exact q _ t c r cs k.2 (s1.trans (s2.trans (s3.trans st))) upd_same (st _ _ hc) (hrw.same (s2.trans (s3.trans st))) told hch
/-! ### rising -/
def LessAt (H : Hp) (x y : V) : Prop := (∃ i j : Int, x = .int i ∧ y = .int j ∧ i < j) ∨ (∃ (a b : Addr) (p q : Int × Int), x = .ref a ∧ y = .ref b ∧ H a = some (.tup [.int p.1, .int p.2]) ∧ H b = some (.tup [.int q.1, .int q.2]) ∧ Plt p q)
theorem LessAt.same {H H' : Hp} {x y : V} (s : Same H H') (h : LessAt H x y) : LessAt H' x y := by
  rcases h with h | ⟨a, b, p, q, e1, e2, h1, h2, h3⟩
  · exact .inl h
  · exact .inr ⟨a, b, p, q, e1, e2, s _ _ h1, s _ _ h2, h3⟩
def Asc (H : Hp) (xs : List V) : Prop := ∀ i x y, xs[i]? = some x → xs[i + 1]? = some y → LessAt H x y
theorem lex_pair (p q : Int × Int) : HT.lexLt [p.1, p.2] [q.1, q.2] = decide (Plt p q) := by
  rw [HT.lexLt_cons, HT.lexLt_cons, HT.lexLt_nil_nil]
  unfold Plt
  by_cases h1 : p.1 = q.1
  · rw [if_pos h1]
    by_cases h2 : p.2 = q.2
    · rw [if_pos h2]; exact (decide_eq_false (by omega)).symm
    · rw [if_neg h2]
      by_cases h3 : p.2 < q.2
      · rw [decide_eq_true h3]; exact (decide_eq_true (by omega)).symm
      · rw [decide_eq_false h3]; exact (decide_eq_false (by omega)).symm
  · rw [if_neg h1]
    by_cases h3 : p.1 < q.1
    · rw [decide_eq_true h3]; exact (decide_eq_true (by omega)).symm
    · rw [decide_eq_false h3]; exact (decide_eq_false (by omega)).symm
/-- one < other, of ints or of pairs -/
def rLess (K : PySem.W.Frag) : R2 := fun x y H Q => (∃ i j : Int, x = .int i ∧ y = .int j ∧ Q (.bl (decide (i < j))) H) ∨ rLtT K x y H Q
theorem op_less {X : Cx} (hu : X.A.units < cLine) : OpR X (compareOp .Lt) (rLess X.K) := OpR.or op_lt (op_ltT hu)
theorem less_of {K : PySem.W.Frag} {H : Hp} {x y : V} {Q : VK} (h : LessAt H x y) (q : Q (.bl true) H) : rLess K x y H Q := by
  rcases h with ⟨i, j, rfl, rfl, h⟩ | ⟨a, b, p, r, rfl, rfl, h1, h2, h3⟩
  · exact .inl ⟨i, j, rfl, rfl, by rw [decide_eq_true h]; exact q⟩
  · refine .inr ⟨a, b, [p.1, p.2], [r.1, r.2], rfl, rfl, SqT.of h1, SqT.of h2, ?_⟩
    rw [lex_pair, decide_eq_true h3]
    exact q
/-- are_rising, _law_rises, where it rises -/
def spRis : Sp := fun vs H Q _ => ∃ (a : Addr) (xs : List V), vs = [.ref a] ∧ H a = some (.tup xs) ∧ xs.length ≤ 1000 ∧ Asc H xs ∧ ∀ H', Same H H' → Q (.bl true) H'
theorem drop_get {xs : List V} {i : Nat} {x : V} (h : xs.dropLast[i]? = some x) : xs[i]? = some x := by
  rw [List.getElem?_dropLast] at h
  by_cases h2 : i < xs.length - 1
  · rwa [if_pos h2] at h
  · rw [if_neg h2] at h; exact nomatch h
theorem tail_get {xs : List V} {i : Nat} {x : V} (h : xs.tail[i]? = some x) : xs[i + 1]? = some x := by
  rw [List.getElem?_tail] at h
  exact h
theorem ok_ris {f : Addr} {fd : FuncData} (D : Dn K mg "are_rising" 7 ["thing"] f fd) (B : Bl mg) : FnOk P w K mg base CX0 1 f fd ["thing"] spRis := by
  refine D.fn.ok scRis (fun vs H Q E h => ?_) (fun cdv A outer s H vs Q E hr h => ?_)
  · obtain ⟨a, xs, rfl, _⟩ := h
    rfl
  · obtain ⟨a, xs, rfl, ha, hlen, hasc, q⟩ := h
    have hl : _ < cLine := Nat.lt_of_le_of_lt (Nat.le_add_right _ 64) hr.units
    refine ⟨_, pss_one (ps_ret (pe_callB (cr_all rfl) (by rfl) B.all PyProof.Rows.boot_all (pa_cons
        (pe_lc (own := [("one", 1), ("other", 2)]) (g := gTup K 2 (gCons (gName 1) (gCons (gName 2) gNil))) (tt := tYes) (te := tOp (rLess K) (tVar 1) (tVar 2)) (by rfl) scRis.nd
          (pi_zipA (by rfl) B.zip (pa_cons (pe_slice sl_tupA (pv 0) po_none (po_some (pe_un un_neg pe_int))) (pa_cons (pe_slice sl_tupA (pv 0) (po_some pe_int) po_none) pa_nil)))
          (blkOk_by (own := [("one", 1), ("other", 2)]) (N := nRis) (sc := defScope (top 7)) (by decide +kernel))
          (fun _ _ _ _ _ => pg_tup rfl (pgs_cons (pg_name (i := 1) scRis.nd rfl (Or.inl rfl)) (pgs_cons (pg_name (i := 2) scRis.nd rfl (Or.inl rfl)) pgs_nil))) (fun _ _ _ _ _ => pts_nil)
          (fun _ _ _ _ _ => pe_cmpR (op_less hl) (pv 1) (pv 2) (nomark _))) pa_nil))), ?_⟩
    refine ⟨.ref a, rfl, _, rfl, _, rfl, sl_ok ha (cut_back xs) fun H1 p1 s1 h1 => ⟨.ref a, rfl, 1, rfl, ?_⟩⟩
    refine sl_okN (s1 _ _ ha) (cut_tail xs) fun H2 p2 s2 h2 => ?_
    refine ⟨p1, p2, xs.dropLast, xs.tail, rfl, .inr ⟨SqT.of (s2 _ _ h1), SqT.of h2, fun d nd => ?_⟩⟩
    refine lc_same (walk_zipT (xs := xs.dropLast) (ys := xs.tail) (n := xs.length - 1) (by rw [List.length_dropLast, List.length_tail]; omega)) (fun j => (List.replicate j true).map V.bl) rfl nd (fun i hi => ?_) (fun H s => ⟨SqT.of (s _ _ (s2 _ _ h1)), SqT.of (s _ _ h2)⟩)
      (fun i H x H' _ ⟨T, x, y, _, nT, e, _⟩ => by rw [e]; exact same_new nT) ?_ ?_
    · rw [List.length_map, List.length_replicate]; omega
    · rintro i v H3 H3' hi s3 ⟨T, x, y, rfl, nT, rfl, hx, hy⟩ RR NN kR kN
      have hL : LessAt H x y := hasc i x y (drop_get hx) (tail_get hy)
      refine ⟨T, _, rfl, SqT.of upd_same, rfl, _, _, rfl, _, _, rfl, rfl, rfl, iteT (B := True) (iteT ?_)⟩
      refine ⟨_, rfl, _, rfl, less_of (hL.same (s1.trans (s2.trans s3))) (kR _ _ ?_ fun _ _ e => e)⟩
      rw [List.replicate_succ', List.map_append]; rfl
    · intro H3 s3 hd
      refine ⟨d, _, rfl, SqL.of hd, ?_⟩
      have e : (List.replicate (xs.length - 1) true).all id = true := by
        rw [List.all_eq_true]
        intro b hb
        exact (List.mem_replicate.mp hb).2
      rw [e]
      exact q _ (s1.trans (s2.trans s3))
end
end K65P
namespace K65P
open PySem PySem.Spec PyProof.Rows L2 K65 K65S RZ
theorem isi_tup {K : PySem.W.Frag} {H : Hp} {σ : L2.St} {a : Addr} {xs : List V} {Q : VK} (h : H a = some (.tup xs)) (q : Q (.bl true) H) : tCons (tC (V.ty "tuple")) tNil σ H fun xs H2 => rIsi K (V.ref a :: xs) H2 Q :=
  ⟨.ref a, .ty "tuple", _, _, _, rfl, .ty "tuple", .base (.tup h), kit_ty kit_tt, q⟩
theorem len_ne {i j : Int} (h : i = j) : V.bl (!decide (V.int i = V.int j)) = V.bl false := by rw [h, decide_eq_true rfl]; rfl
theorem nil_shaped : SeqAt.shaped (.list []) = true := by
  show (PyData.canLay0 (.list []) && decide (PyData.depth (.list []) ≤ 64)) = true
  simp [PyData.canLay0, PyData.canLayAll0, PyData.depth, PyData.depthAll]
theorem nil_eqv : PyData.eqv (.list []) (.list []) = true := by simp [PyData.eqv, PyData.eqvAll]
theorem nil_eq {K : PySem.W.Frag} {H : Hp} {a b : Addr} {Q : VK} (ha : H a = some (.lst [])) (hb : H b = some (.lst [])) (q : Q (.bl true) H) : rEqD K (.ref a) (.ref b) H Q :=
  ⟨.list [], .list [], .lst (SqL.of ha) .nil, .lst (SqL.of hb) .nil, nil_shaped, nil_shaped, by rw [nil_eqv]; exact q⟩
theorem nil_ne {K : PySem.W.Frag} {H : Hp} {a b : Addr} {Q : VK} (ha : H a = some (.lst [])) (hb : H b = some (.lst [])) (q : Q (.bl false) H) : rNeD K (.ref a) (.ref b) H Q :=
  ⟨.list [], .list [], .lst (SqL.of ha) .nil, .lst (SqL.of hb) .nil, nil_shaped, nil_shaped, by rw [nil_eqv]; exact q⟩
theorem asc_nts {H : Hp} {cs : List Nat} (h : cs.Pairwise (· < ·)) : Asc H (nts cs) := by
  intro i x y hx hy
  rw [List.getElem?_map] at hx hy
  obtain ⟨p, hp, rfl⟩ := Option.map_eq_some_iff.mp hx
  obtain ⟨q, hq, rfl⟩ := Option.map_eq_some_iff.mp hy
  obtain ⟨h1, e1⟩ := List.getElem?_eq_some_iff.mp hp
  obtain ⟨h2, e2⟩ := List.getElem?_eq_some_iff.mp hq
  have := List.pairwise_iff_getElem.mp h i (i + 1) h1 h2 (Nat.lt_succ_self i)
  rw [e1, e2] at this
  exact .inl ⟨_, _, rfl, rfl, by omega⟩
theorem asc_refs {H : Hp} {ks : List (Addr × Int × Int)} (p : Prs H ks) (h : (ks.map (·.2)).Pairwise Plt) : Asc H (refs ks) := by
  intro i x y hx hy
  rw [List.getElem?_map] at hx hy
  obtain ⟨a, ha, rfl⟩ := Option.map_eq_some_iff.mp hx
  obtain ⟨b, hb, rfl⟩ := Option.map_eq_some_iff.mp hy
  obtain ⟨h1, e1⟩ := List.getElem?_eq_some_iff.mp ha
  obtain ⟨h2, e2⟩ := List.getElem?_eq_some_iff.mp hb
  have := List.pairwise_iff_getElem.mp (List.pairwise_map.mp h) i (i + 1) h1 h2 (Nat.lt_succ_self i)
  rw [e1, e2] at this
  exact .inr ⟨_, _, _, _, rfl, rfl, p a (List.mem_of_getElem? ha), p b (List.mem_of_getElem? hb), this⟩
theorem rep_true (i : Nat) {b : Bool} (h : b = true) : (List.replicate (i + 1) true).map V.bl = (List.replicate i true).map V.bl ++ [V.bl b] := by
  rw [h, List.replicate_succ', List.map_append]; rfl
/-- a row as the checkers want it -/
structure Row (ps : List (Int × Int)) : Prop where
  srt : ps.Pairwise Plt
  nn : ∀ p ∈ ps, 0 ≤ p.1 ∧ 0 ≤ p.2
  len : ps.length ≤ 256
theorem Row.nodup {ps : List (Int × Int)} (h : Row ps) : ps.Nodup := List.Pairwise.imp (fun {a b} (z : Plt a b) (e : a = b) => plt_irr b (e ▸ z)) h.srt
/-- whether a row has all pairs of the one ahead, and each with one more -/
def leadsB (row : List (Int × Int)) (g : Int) (beh : List (Int × Int)) : Bool := row.all fun p => decide (p ∈ beh) && decide ((p.1 + g, p.2 + 1) ∈ beh)
section
variable {P : Program} {w : World} {K : PySem.W.Frag} {mg : Str → Option Value} {base : Heap}
theorem ok_lris {f : Addr} {fd : FuncData} (D : Dn K mg "_law_rises" 21 ["_law_thing"] f fd) (B : Bl mg) : FnOk P w K mg base CX0 1 f fd ["_law_thing"] spRis := by
  refine D.fn.ok scLRis (fun vs H Q E h => ?_) (fun cdv A outer s H vs Q E hr h => ?_)
  · obtain ⟨a, xs, rfl, _⟩ := h
    rfl
  · obtain ⟨a, xs, rfl, ha, hlen, hasc, q⟩ := h
    have hu := hr.units
    have hl : _ < cLine := Nat.lt_of_le_of_lt (Nat.le_add_right _ 64) hr.units
    refine ⟨_, pss_one (ps_ret (pe_cmpR (op_eqD hu)
        (pe_lc (own := [("_law_one", 1), ("_law_other", 2)]) (g := gTup K 2 (gCons (gName 1) (gCons (gName 2) gNil))) (tt := tNot (tTest (tOp (rLess K) (tVar 1) (tVar 2)))) (te := tC (.int 1)) (by rfl) scLRis.nd
          (pi_zipA (by rfl) B.zip (pa_cons (pe_slice sl_tupA (pv 0) po_none (po_some (pe_un un_neg pe_int))) (pa_cons (pe_slice sl_tupA (pv 0) (po_some pe_int) po_none) pa_nil)))
          (blkOk_by (own := [("_law_one", 1), ("_law_other", 2)]) (N := nLRis) (sc := defScope (top 21)) (by decide +kernel))
          (fun _ _ _ _ _ => pg_tup rfl (pgs_cons (pg_name (i := 1) scLRis.nd rfl (Or.inl rfl)) (pgs_cons (pg_name (i := 2) scLRis.nd rfl (Or.inl rfl)) pgs_nil)))
          (fun _ _ _ _ _ => pts_one (pt_not (pt_cmpR (op_less hl) (pv 1) (pv 2) (nomark _))))
          (fun _ _ _ _ _ => pe_int)) (pe_lst pa_nil) (nomark _))), ?_⟩
    refine ⟨.ref a, rfl, _, rfl, _, rfl, sl_ok ha (cut_back xs) fun H1 p1 s1 h1 => ⟨.ref a, rfl, 1, rfl, ?_⟩⟩
    refine sl_okN (s1 _ _ ha) (cut_tail xs) fun H2 p2 s2 h2 => ?_
    refine ⟨p1, p2, xs.dropLast, xs.tail, rfl, .inr ⟨SqT.of (s2 _ _ h1), SqT.of h2, fun d nd => ?_⟩⟩
    refine lc_same (walk_zipT (xs := xs.dropLast) (ys := xs.tail) (n := xs.length - 1) (by rw [List.length_dropLast, List.length_tail]; omega)) (fun _ => []) rfl nd (fun i hi => by show 0 ≤ 1000000; omega) (fun H s => ⟨SqT.of (s _ _ (s2 _ _ h1)), SqT.of (s _ _ h2)⟩)
      (fun i H x H' _ ⟨T, x, y, _, nT, e, _⟩ => by rw [e]; exact same_new nT) ?_ ?_
    · rintro i v H3 H3' hi s3 ⟨T, x, y, rfl, nT, rfl, hx, hy⟩ RR NN kR kN
      have hL : LessAt H x y := hasc i x y (drop_get hx) (tail_get hy)
      refine ⟨T, _, rfl, SqT.of upd_same, rfl, _, _, rfl, _, _, rfl, rfl, rfl, ?_⟩
      exact ⟨_, rfl, _, rfl, less_of (hL.same (s1.trans (s2.trans s3))) ⟨true, rfl, iteF (kN _ rfl fun _ _ e => e)⟩⟩
    · intro H3 s3 hd
      refine ⟨(by show 0 ≤ sizeLine; decide), fun e ne => nil_eq (same_new ne _ _ hd) upd_same (q _ ?_)⟩
      exact s1.trans (s2.trans (s3.trans (same_new ne)))
/-- are_numbers where it is so -/
def spNum : Sp := fun vs H Q _ => ∃ (a : Addr) (cs : List Nat) (m : Nat), vs = [.int m, .ref a] ∧ H a = some (.tup (nts cs)) ∧ cs.length ≤ 1000 ∧ cs.Pairwise (· < ·) ∧ (∀ i ∈ cs, i < m) ∧ ∀ H', Same H H' → Q (.bl true) H'
theorem ok_num {f f1 f2 : Addr} {fd fd1 fd2 : FuncData} (D : Dn K mg "are_numbers" 8 ["many", "thing"] f fd) (D1 : Dn K mg "is_whole" 5 ["thing"] f1 fd1) (D2 : Dn K mg "are_rising" 7 ["thing"] f2 fd2) (B : Bl mg) :
    FnOk P w K mg base CX0 2 f fd ["many", "thing"] spNum := by
  have G1 : FnOk P w K mg base CX0 1 f1 fd1 ["thing"] spWhole := ok_whole D1 B
  have G2 : FnOk P w K mg base CX0 1 f2 fd2 ["thing"] spRis := ok_ris D2 B
  refine D.fn.ok scNum (fun vs H Q E h => ?_) (fun cdv A outer s H vs Q E hr h => ?_)
  · obtain ⟨a, cs, m, rfl, _⟩ := h
    rfl
  · obtain ⟨a, cs, m, rfl, ha, hlen, hpw, hbd, q⟩ := h
    refine ⟨_, pss_cons (ps_if (PW.pt (pw_or (pt_not (pt_val (pe_callB call_isi (by rfl) B.isinstance boot_isinstance (pa_cons (pv 1) (pa_cons (pe_bltn (v := .ty "tuple") (by rfl) B.tuple PyProof.Rows.boot_tuple rfl) pa_nil)))))
        (pw_or1 (pt_not (pt_val (pe_callB (cr_all rfl) (by rfl) B.all PyProof.Rows.boot_all (pa_cons
          (pe_lc (own := [("one", 2)]) (g := gName 2) (tt := tYes) (te := tAndV (tCall spWhole [] E (tCons (tVar 2) tNil)) (tChain (rI0 fun i j => .bl (decide (i ≤ j))) (rI0 fun i j => .bl (decide (i < j))) (tC (.int 0)) (tVar 2) (tVar 0))) (by rfl) scNum.nd
            (pi_tup (pv 1)) (blkOk_by (own := [("one", 2)]) (N := nNum) (sc := defScope (top 8)) (by decide +kernel)) (fun _ _ _ _ _ => pg_name (i := 2) scNum.nd rfl (Or.inl rfl)) (fun _ _ _ _ _ => pts_nil)
            (fun _ _ _ _ _ => pe_and (pe_call G1 hr (by rfl) D1.gl D1.kp D1.bi .nil pass0 (pa_cons (pv 2) pa_nil)) (pe_one (pe_chain op_le op_lt pe_int (pv 2) (pv 0))))) pa_nil)))))))
        (pss_one (ps_ret pe_bl)) pss_nil)
      (pss_one (ps_ret (pe_call G2 hr rfl D2.gl D2.kp D2.bi .nil pass0 (pa_cons (pv 1) pa_nil)))), ?_⟩
    refine ⟨.ref a, rfl, isi_tup ha ⟨true, rfl, iteF ?_⟩⟩
    refine ⟨.ref a, rfl, a, rfl, ⟨_, SqT.of ha⟩, fun d nd => ?_⟩
    refine lc_same (walk_tup (xs := nts cs)) (fun j => (List.replicate j true).map V.bl) rfl nd (fun i hi => ?_) (fun H s => SqT.of (s _ _ ha)) at_same ?_ ?_
    · rw [List.length_map] at hi
      rw [List.length_map, List.length_replicate]; omega
    · rintro i x H2 H2' hi s2 ⟨rfl, hx⟩ RR NN kR kN
      rw [List.getElem?_map] at hx
      obtain ⟨k, hk, rfl⟩ := Option.map_eq_some_iff.mp hx
      have hkm := hbd k (List.mem_of_getElem? hk)
      refine ⟨rfl, iteT (B := True) (iteT ?_)⟩
      refine ⟨_, rfl, _, rfl, true, rfl, iteT ?_⟩
      refine ⟨_, rfl, _, _, rfl, rfl, _, rfl, ?_⟩
      rw [decide_eq_true (show (0 : Int) ≤ k by omega)]
      refine iteT ⟨_, rfl, _, _, rfl, rfl, ?_⟩
      exact kR _ _ (rep_true i (decide_eq_true (show (k : Int) < m by omega))) fun _ _ e => e
    · intro H3 s3 hd
      refine ⟨d, _, rfl, SqL.of hd, ?_⟩
      have e : (List.replicate (nts cs).length true).all id = true := by
        rw [List.all_eq_true]
        intro b hb
        exact (List.mem_replicate.mp hb).2
      rw [e]
      refine ⟨true, rfl, iteF ?_⟩
      exact ⟨_, rfl, a, nts cs, rfl, s3 _ _ ha, by rw [List.length_map]; exact hlen, asc_nts hpw, fun H' s' => q _ (s3.trans s')⟩
/-- is_sum_pair of a pair from 0 on -/
def spPair : Sp := fun vs H Q _ => ∃ (a : Addr) (p : Int × Int), vs = [.ref a] ∧ H a = some (.tup [.int p.1, .int p.2]) ∧ 0 ≤ p.1 ∧ 0 ≤ p.2 ∧ ∀ H', Same H H' → Q (.bl true) H'
theorem pair_at {p : Int × Int} {i : Nat} {x : V} (h : [V.int p.1, V.int p.2][i]? = some x) (h1 : 0 ≤ p.1) (h2 : 0 ≤ p.2) : ∃ z : Int, x = .int z ∧ 0 ≤ z := by
  match i, h with
  | 0, h => exact ⟨p.1, (Option.some.inj h).symm, h1⟩
  | 1, h => exact ⟨p.2, (Option.some.inj h).symm, h2⟩
  | i + 2, h => exact nomatch h
theorem ok_pair {f f1 : Addr} {fd fd1 : FuncData} (D : Dn K mg "is_sum_pair" 9 ["thing"] f fd) (D1 : Dn K mg "is_whole" 5 ["thing"] f1 fd1) (B : Bl mg) : FnOk P w K mg base CX0 2 f fd ["thing"] spPair := by
  have G1 : FnOk P w K mg base CX0 1 f1 fd1 ["thing"] spWhole := ok_whole D1 B
  refine D.fn.ok scPair (fun vs H Q E h => ?_) (fun cdv A outer s H vs Q E hr h => ?_)
  · obtain ⟨a, p, rfl, _⟩ := h
    rfl
  · obtain ⟨a, p, rfl, ha, h1, h2, q⟩ := h
    refine ⟨_, pss_cons (ps_if (PW.pt (pw_or (pt_not (pt_val (pe_callB call_isi (by rfl) B.isinstance boot_isinstance (pa_cons (pv 0) (pa_cons (pe_bltn (v := .ty "tuple") (by rfl) B.tuple PyProof.Rows.boot_tuple rfl) pa_nil)))))
        (pw_or1 (pt_cmpR op_ne (pe_callB call_len_seq (by rfl) B.len PySem.boot_len (pa_cons (pv 0) pa_nil)) pe_int (nomark _)))))
        (pss_one (ps_ret pe_bl)) pss_nil)
      (pss_one (ps_ret (pe_callB (cr_all rfl) (by rfl) B.all PyProof.Rows.boot_all (pa_cons
          (pe_lc (own := [("one", 1)]) (g := gName 1) (tt := tYes) (te := tAndV (tCall spWhole [] E (tCons (tVar 1) tNil)) (tOp (rI0 fun i j => .bl (decide (j ≤ i))) (tVar 1) (tC (.int 0)))) (by rfl) scPair.nd
            (pi_tup (pv 0)) (blkOk_by (own := [("one", 1)]) (N := nPair) (sc := defScope (top 9)) (by decide +kernel)) (fun _ _ _ _ _ => pg_name (i := 1) scPair.nd rfl (Or.inl rfl)) (fun _ _ _ _ _ => pts_nil)
            (fun _ _ _ _ _ => pe_and (pe_call G1 hr (by rfl) D1.gl D1.kp D1.bi .nil pass0 (pa_cons (pv 1) pa_nil)) (pe_one (pe_cmpR op_ge (pv 1) pe_int (nomark _))))) pa_nil)))), ?_⟩
    refine ⟨.ref a, rfl, isi_tup ha ⟨true, rfl, iteF ?_⟩⟩
    refine ⟨.ref a, rfl, a, _, rfl, .inr (SqT.of ha), rfl, false, len_ne rfl, iteF ?_⟩
    refine ⟨.ref a, rfl, a, rfl, ⟨_, SqT.of ha⟩, fun d nd => ?_⟩
    refine lc_same (walk_tup (xs := [V.int p.1, V.int p.2])) (fun j => (List.replicate j true).map V.bl) rfl nd (fun i hi => ?_) (fun H s => SqT.of (s _ _ ha)) at_same ?_ ?_
    · have : i < 2 := hi
      rw [List.length_map, List.length_replicate]; omega
    · rintro i x H2 H2' hi s2 ⟨rfl, hx⟩ RR NN kR kN
      obtain ⟨z, rfl, hz⟩ := pair_at hx h1 h2
      refine ⟨rfl, iteT (B := True) (iteT ?_)⟩
      refine ⟨_, rfl, _, rfl, true, rfl, iteT ?_⟩
      refine ⟨_, rfl, _, _, rfl, rfl, ?_⟩
      exact kR _ _ (rep_true i (decide_eq_true hz)) fun _ _ e => e
    · intro H3 s3 hd
      exact ⟨d, _, rfl, SqL.of hd, q _ s3⟩
/-- is_paper_row, _law_is_row of a row -/
def spRow : Sp := fun vs H Q _ => ∃ (a : Addr) (ps : List (Int × Int)), vs = [.ref a] ∧ RowAt H a ps ∧ Row ps ∧ ∀ H', Same H H' → Q (.bl true) H'
theorem ok_prow {f f1 f2 f3 : Addr} {fd fd1 fd2 fd3 : FuncData} (D : Dn K mg "is_paper_row" 10 ["thing"] f fd) (D1 : Dn K mg "is_whole" 5 ["thing"] f1 fd1) (D2 : Dn K mg "are_rising" 7 ["thing"] f2 fd2) (D3 : Dn K mg "is_sum_pair" 9 ["thing"] f3 fd3) (B : Bl mg) :
    FnOk P w K mg base CX0 3 f fd ["thing"] spRow := by
  have G2 : FnOk P w K mg base CX0 2 f2 fd2 ["thing"] spRis := (ok_ris D2 B).mono (by decide)
  have G3 : FnOk P w K mg base CX0 2 f3 fd3 ["thing"] spPair := ok_pair D3 D1 B
  refine D.fn.ok scRow (fun vs H Q E h => ?_) (fun cdv A outer s H vs Q E hr h => ?_)
  · obtain ⟨a, ps, rfl, _⟩ := h
    rfl
  · obtain ⟨a, ps, rfl, ⟨ks, k1, k2, k3⟩, hrow, q⟩ := h
    have hlk : ks.length ≤ 256 := by
      have := hrow.len
      rw [← k3, List.length_map] at this
      exact this
    refine ⟨_, pss_one (ps_ret (pe_and (pe_callB call_isi (by rfl) B.isinstance boot_isinstance (pa_cons (pv 0) (pa_cons (pe_bltn (v := .ty "tuple") (by rfl) B.tuple PyProof.Rows.boot_tuple rfl) pa_nil)))
      (pe_and (pe_callB (cr_all rfl) (by rfl) B.all PyProof.Rows.boot_all (pa_cons
          (pe_lc (own := [("one", 1)]) (g := gName 1) (tt := tYes) (te := tCall spPair [] E (tCons (tVar 1) tNil)) (by rfl) scRow.nd
            (pi_tup (pv 0)) (blkOk_by (own := [("one", 1)]) (N := nPair) (sc := defScope (top 10)) (by decide +kernel)) (fun _ _ _ _ _ => pg_name (i := 1) scRow.nd rfl (Or.inl rfl)) (fun _ _ _ _ _ => pts_nil)
            (fun _ _ _ _ _ => pe_call G3 hr (by rfl) D3.gl D3.kp D3.bi .nil pass0 (pa_cons (pv 1) pa_nil))) pa_nil))
        (pe_one (pe_call G2 hr rfl D2.gl D2.kp D2.bi .nil pass0 (pa_cons (pv 0) pa_nil)))))), ?_⟩
    refine ⟨.ref a, rfl, isi_tup k1 ⟨true, rfl, iteT ?_⟩⟩
    refine ⟨.ref a, rfl, a, rfl, ⟨_, SqT.of k1⟩, fun d nd => ?_⟩
    refine lc_same (walk_tup (xs := refs ks)) (fun j => (List.replicate j true).map V.bl) rfl nd (fun i hi => ?_) (fun H s => SqT.of (s _ _ k1)) at_same ?_ ?_
    · rw [List.length_map] at hi
      rw [List.length_map, List.length_replicate]; omega
    · rintro i x H2 H2' hi s2 ⟨rfl, hx⟩ RR NN kR kN
      rw [List.getElem?_map] at hx
      obtain ⟨k, hk, rfl⟩ := Option.map_eq_some_iff.mp hx
      have hkm := List.mem_of_getElem? hk
      have hnn := hrow.nn k.2 (by rw [← k3]; exact List.mem_map.mpr ⟨k, hkm, rfl⟩)
      refine ⟨rfl, iteT (B := True) (iteT ?_)⟩
      refine ⟨_, rfl, k.1, k.2, rfl, s2 _ _ (k2 k hkm), hnn.1, hnn.2, fun H' s' => kR _ _ (rep_true i rfl) s'⟩
    · intro H3 s3 hd
      refine ⟨d, _, rfl, SqL.of hd, ?_⟩
      have e : (List.replicate (refs ks).length true).all id = true := by
        rw [List.all_eq_true]
        intro b hb
        exact (List.mem_replicate.mp hb).2
      rw [e]
      refine ⟨true, rfl, iteT ?_⟩
      exact ⟨_, rfl, a, refs ks, rfl, s3 _ _ k1, by rw [List.length_map]; omega, asc_refs (prs_same s3 k2) (by rw [k3]; exact hrow.srt), fun H' s' => q _ (s3.trans s')⟩
end
end K65P
namespace K65P
open PySem PySem.Spec PyProof.Rows L2 K65 K65S RZ
/-- what a checker tells of a choice and its paper that are well formed -/
def holdsB (hs : List Int) (due : Int) (rows : List (List (Int × Int))) (own : Int × Int) : Bool :=
  ((List.range hs.length).all fun i => leadsB (rows.getD i []) (hs.getD i 0) (rows.getD (i + 1) [])) && !((rows.getD hs.length []).any fun p => decide (due ≤ p.1) && decide (Plt p own))
structure Paper (n : Nat) (rows : List (List (Int × Int))) : Prop where
  len : rows.length = n + 1
  row : ∀ r ∈ rows, Row r
  zero : (0, 0) ∈ rows.getD 0 []
theorem dec_kv (ks : List (Addr × Int × Int)) (p : Int × Int) : V.bl (!(valV (kvOf ks) [Sum.inl p.1, Sum.inl p.2]).isSome) = V.bl (!decide (p ∈ ks.map (·.2))) := by rw [valV_kv]
section
variable {P : Program} {w : World} {K : PySem.W.Frag} {mg : Str → Option Value} {base : Heap}
/-- leads_on -/
def spLead : Sp := fun vs H Q _ => ∃ (a b : Addr) (g : Int) (row beh : List (Int × Int)), vs = [.ref a, .int g, .ref b] ∧ RowAt H a row ∧ RowAt H b beh ∧ Row row ∧ Row beh ∧ ∀ H', Same H H' → Q (.bl (leadsB row g beh)) H'
/-- the pairs (pair, True) that stand in a list -/
def Trues (H : Hp) (D : Addr) (ks : List (Addr × Int × Int)) : Prop := ∃ Ts : List Addr, H D = some (.lst (Ts.map V.ref)) ∧ Ts.length = ks.length ∧ ∀ (i : Nat) (T : Addr) (k : Addr × Int × Int), Ts[i]? = some T → ks[i]? = some k → H T = some (.tup [.ref k.1, .bl true])
theorem Trues.snoc {H : Hp} {D t : Addr} {ks : List (Addr × Int × Int)} {k : Addr × Int × Int} {acc : List V} (h : Trues H D ks) (nt : H t = none) (hl : ks.length ≤ 1000) :
    ∃ acc, upd H t (.tup [.ref k.1, .bl true]) D = some (.lst acc) ∧ acc.length < sizeLine ∧ Trues (upd (upd H t (.tup [.ref k.1, .bl true])) D (.lst (acc ++ [V.ref t]))) D (ks ++ [k]) := by
  obtain ⟨Ts, h1, h2, h3⟩ := h
  have dt : D ≠ t := ne_of_none h1 nt
  refine ⟨Ts.map V.ref, by rw [upd_ne dt]; exact h1, by rw [List.length_map]; exact small' (by omega), Ts ++ [t], by rw [upd_same, List.map_append]; rfl, by rw [List.length_append, List.length_append, h2]; rfl, fun i T j hT hj => ?_⟩
  by_cases hi : i < Ts.length
  · rw [List.getElem?_append_left hi] at hT
    rw [List.getElem?_append_left (by omega)] at hj
    have e := h3 i T j hT hj
    rw [upd_ne (ne_of e h1 (fun q => nomatch q)), upd_ne (ne_of_none e nt)]
    exact e
  · rw [List.getElem?_append_right (by omega)] at hT hj
    have e : i - Ts.length = 0 := by
      have := (List.getElem?_eq_some_iff.mp hT).1
      simp at this
      omega
    rw [e] at hT
    rw [← h2, e] at hj
    rw [← Option.some.inj hT, ← Option.some.inj hj, upd_ne (Ne.symm dt), upd_same]
theorem ok_lead {f : Addr} {fd : FuncData} (D : Dn K mg "leads_on" 11 ["row", "one", "behind"] f fd) (B : Bl mg) : FnOk P w K mg base CX0 1 f fd ["row", "one", "behind"] spLead := by
  refine D.fn.ok scLead (fun vs H Q E h => ?_) (fun cdv A outer s H vs Q E hr h => ?_)
  · obtain ⟨a, b, g, row, beh, rfl, _⟩ := h
    rfl
  · obtain ⟨a, b, g, row, beh, rfl, ⟨ks, k1, k2, k3⟩, ⟨js, j1, j2, j3⟩, hrow, hbeh, q⟩ := h
    have hu := hr.units
    have hl : _ + 1 < cLine := Nat.lt_of_le_of_lt (Nat.add_le_add_left (show 1 ≤ 64 by decide) _) hr.units
    have hjl : js.length ≤ 256 := by
      have := hbeh.len
      rw [← j3, List.length_map] at this
      exact this
    refine ⟨_, pss_cons (ps_set (i := 3) scLead.nd rfl (.inl rfl) (pe_callTy (call_dictP2 rfl hu) (by rfl) B.dict PyProof.Rows.boot_dict (pa_cons
          (pe_lc (own := [("pair", 6)]) (g := gName 6) (tt := tYes) (te := tTup (tCons (tVar 6) (tCons (tC (.bl true)) tNil))) (by rfl) scLead.nd
            (pi_tup (pv 2)) (blkOk_by (own := [("pair", 6)]) (N := nLead) (sc := defScope (top 11)) (by decide +kernel)) (fun _ _ _ _ _ => pg_name (i := 6) scLead.nd rfl (Or.inl rfl)) (fun _ _ _ _ _ => pts_nil)
            (fun _ _ _ _ _ => pe_tup (pa_cons (pv 6) (pa_cons pe_bl pa_nil)))) pa_nil)))
      (pss_cons (ps_for PassesOwn.never rfl (pi_tup (pv 0)) (pg_tup rfl (pgs_cons (pg_name (i := 4) scLead.nd rfl (Or.inl rfl)) (pgs_cons (pg_name (i := 5) scLead.nd rfl (Or.inl rfl)) pgs_nil)))
        (pss_one (ps_if (PW.pt (pw_or (pt_cmp (pc_dnotin hl (pe_tup (pa_cons (pv 4) (pa_cons (pv 5) pa_nil))) (pv 3)) (by rfl))
            (pw_or1 (pt_cmp (pc_dnotin hl (pe_tup (pa_cons (pe_op op_add (pv 4) (pv 1)) (pa_cons (pe_op op_add (pv 5) pe_int) pa_nil))) (pv 3)) (by rfl)))))
          (pss_one (ps_ret pe_bl)) pss_nil)))
      (pss_one (ps_ret pe_bl))), ?_⟩
    refine ⟨.ref b, rfl, b, rfl, ⟨_, SqT.of j1⟩, fun m nm => ?_⟩
    refine lc_it (walk_tup (xs := refs js)) (fun i H2 => Trues H2 m (js.take i) ∧ Same H H2) ⟨⟨[], upd_same, rfl, fun i T k h => nomatch h⟩, same_new nm⟩ (fun i H2 _ p => SqT.of (p.2 _ _ j1)) ?_ ?_
    · rintro i x H2 H2' hi ⟨tr, s2⟩ ⟨rfl, hx⟩
      rw [List.getElem?_map] at hx
      obtain ⟨k, hk, rfl⟩ := Option.map_eq_some_iff.mp hx
      refine ⟨rfl, iteT (B := True) (iteT ?_)⟩
      refine ⟨.ref k.1, rfl, (by show 2 ≤ sizeLine; decide), fun t nt => ?_⟩
      obtain ⟨acc, e1, e2, e3⟩ := tr.snoc (k := k) (acc := []) nt (by rw [List.length_take]; omega)
      refine ⟨acc, e1, e2, by rw [take_succ_of hk]; exact e3, fun b o e => ?_⟩
      rw [upd_ne (ne_of_none e nm)]
      exact same_new nt _ _ (s2 _ _ e)
    · rintro H2 ⟨⟨Ts, t1, t2, t3⟩, s2⟩
      rw [List.length_map, List.take_length] at t2 t3
      refine ⟨m, Ts, js, rfl, t1, prs_same s2 j2, by rw [j3]; exact hbeh.nodup, t2, t3, fun d nd => ?_⟩
      have hd : upd H2 d (.dT (kvOf js)) d = some (.dT (kvOf js)) := upd_same
      have s3 := s2.trans (same_new (o := .dT (kvOf js)) nd)
      generalize upd H2 d (.dT (kvOf js)) = Hd at hd s3
      refine ⟨.ref a, rfl, a, rfl, ⟨_, SqT.of (s3 _ _ k1)⟩, for_it (walk_tup (xs := refs ks)) (fun i σ H4 => ∃ (y4 y5 y6 : Option V), σ = [some (.ref a), some (.int g), some (.ref b), some (.ref d), y4, y5, y6] ∧ Same Hd H4 ∧
        ∀ p ∈ (ks.map (·.2)).take i, p ∈ js.map (·.2) ∧ (p.1 + g, p.2 + 1) ∈ js.map (·.2)) ⟨none, none, none, rfl, (fun _ _ e => e), fun p hp => by rw [List.take_zero] at hp; exact nomatch hp⟩
        (fun i σ H4 _ ⟨_, _, _, _, s4, _⟩ => SqT.of (s4 _ _ (s3 _ _ k1))) ?_ ?_⟩
      · rintro i x σ H4 H4' hi ⟨y4, y5, y6, rfl, s4, hin⟩ ⟨rfl, hx⟩
        rw [List.getElem?_map] at hx
        obtain ⟨k, hk, rfl⟩ := Option.map_eq_some_iff.mp hx
        have hkm := List.mem_of_getElem? hk
        have nall : ∀ {c : Prop}, ¬ (k.2 ∈ js.map (·.2) ∧ (k.2.1 + g, k.2.2 + 1) ∈ js.map (·.2)) → leadsB row g beh = false := fun hn => by
          refine Bool.eq_false_iff.mpr fun z => hn ?_
          unfold leadsB at z
          have := List.all_eq_true.mp z k.2 (by rw [← k3]; exact List.mem_map.mpr ⟨k, hkm, rfl⟩)
          rw [← j3, Bool.and_eq_true, decide_eq_true_eq, decide_eq_true_eq] at this
          exact this
        refine ⟨k.1, _, rfl, SqT.of (s4 _ _ (s3 _ _ (k2 k hkm))), rfl, _, _, rfl, _, _, rfl, rfl, ?_⟩
        refine ⟨_, rfl, _, rfl, (by show 2 ≤ sizeLine; decide), fun t nt => ⟨.ref d, rfl, ?_⟩⟩
        have st := same_new (o := .tup [.int k.2.1, .int k.2.2]) nt
        refine ⟨d, _, rfl, DGet.t (k := [Sum.inl k.2.1, Sum.inl k.2.2]) (st _ _ (s4 _ _ hd)) upd_same, _, dec_kv js k.2, ite2 (fun e => ?_) fun e => ?_⟩
        · have hn : k.2 ∉ js.map (·.2) := fun z => by rw [decide_eq_true z] at e; exact absurd e (by decide)
          refine iteT ?_
          have := q _ (s3.trans (s4.trans st))
          rw [nall (c := True) (fun z => hn z.1)] at this
          exact this
        · have hy : k.2 ∈ js.map (·.2) := Classical.byContradiction fun z => e (by rw [decide_eq_false z]; rfl)
          refine ⟨_, rfl, _, rfl, _, _, rfl, rfl, _, rfl, _, _, rfl, rfl, (by show 2 ≤ sizeLine; decide), fun t2 nt2 => ⟨.ref d, rfl, ?_⟩⟩
          have st2 := st.trans (same_new (o := .tup [.int (k.2.1 + g), .int (k.2.2 + 1)]) nt2)
          refine ⟨d, _, rfl, DGet.t (k := [Sum.inl (k.2.1 + g), Sum.inl (k.2.2 + 1)]) (st2 _ _ (s4 _ _ hd)) upd_same, _, dec_kv js (k.2.1 + g, k.2.2 + 1), ite2 (fun e2 => ?_) fun e2 => ?_⟩
          · have hn : (k.2.1 + g, k.2.2 + 1) ∉ js.map (·.2) := fun z => by rw [decide_eq_true z] at e2; exact absurd e2 (by decide)
            have := q _ (s3.trans (s4.trans st2))
            rw [nall (c := True) (fun z => hn z.2)] at this
            exact this
          · have hy2 : (k.2.1 + g, k.2.2 + 1) ∈ js.map (·.2) := Classical.byContradiction fun z => e2 (by rw [decide_eq_false z]; rfl)
            refine ⟨_, _, _, rfl, s4.trans st2, fun p hp => ?_⟩
            rw [take_succ_of (x := k.2) (by rw [List.getElem?_map, hk]; rfl), List.mem_append] at hp
            rcases hp with hp | hp
            · exact hin p hp
            · rw [List.mem_singleton.mp hp]; exact ⟨hy, hy2⟩
      · rintro σ H4 ⟨y4, y5, y6, rfl, s4, hin⟩
        have := q _ (s3.trans s4)
        have e : leadsB row g beh = true := by
          unfold leadsB
          refine List.all_eq_true.mpr fun p hp => ?_
          have hz := hin p (by rw [List.length_map, ← List.length_map (f := (·.2)) (as := ks), List.take_length, k3]; exact hp)
          rw [j3] at hz
          rw [Bool.and_eq_true, decide_eq_true_eq, decide_eq_true_eq]
          exact hz
        rw [e] at this
        exact this
end
end K65P
namespace K65P
open PySem PySem.Spec PyProof.Rows L2 K65 K65S RZ
theorem in_paper {K : PySem.W.Frag} {H : Hp} {b go : Addr} {row : List (Int × Int)} {p : Int × Int} {Q : VK} (hr : RowAt H b row) (hg : H go = some (.tup [.int p.1, .int p.2])) (hp : p ∈ row)
    (q : Q (.bl false) H) : rInT K true (.ref go) (.ref b) H Q := by
  refine in_row hr hg ?_
  rw [if_pos rfl, decide_eq_true hp]
  exact q
theorem sum_ints (gs : List Int) (cs : List Nat) : (cs.map fun (i : Nat) => gs.getD i 0).sum = gsum gs cs := rfl
theorem getD_of {α : Type} {l : List α} {i : Nat} {x d : α} (h : l[i]? = some x) : l.getD i d = x := by rw [List.getD_eq_getElem?_getD, h]; rfl
theorem map_snoc {α β : Type} (f : α → β) (l : List α) (i : Nat) {x : α} (h : l[i]? = some x) : (l.take (i + 1)).map f = (l.take i).map f ++ [f x] := by rw [take_succ_of h, List.map_append]; rfl
theorem map_take_all {α β : Type} (f : α → β) (l : List α) (n : Nat) (h : n = l.length) : (l.take n).map f = l.map f := by rw [h, List.take_length]
theorem range_snoc {β : Type} (f : Nat → β) (i : Nat) : (List.range (i + 1)).map f = (List.range i).map f ++ [f i] := by rw [List.range_succ, List.map_append]; rfl
section
variable {P : Program} {w : World} {K : PySem.W.Frag} {mg : Str → Option Value} {base : Heap}
/-- few_holds, _law_holds of a thing that is well formed -/
def spHold : Sp := fun vs H Q _ => ∃ (a t c r : Addr) (hs : List Int) (due : Int) (cs : List Nat) (rows : List (List (Int × Int))), vs = [.ref a, .int due, .ref t] ∧ TupI H a hs ∧ hs.length ≤ 8 ∧ H t = some (.tup [.ref c, .ref r]) ∧ H c = some (.tup (nts cs)) ∧
  cs.Pairwise (· < ·) ∧ (∀ i ∈ cs, i < hs.length) ∧ cs.length ≤ 8 ∧ due ≤ gsum hs cs ∧ RowsAt H r rows ∧ Paper hs.length rows ∧ ∀ H', Same H H' → Q (.bl (holdsB hs due rows (gsum hs cs, (cs.length : Int)))) H'
theorem ok_hold {f f1 f2 f3 f4 f5 f6 : Addr} {fd fd1 fd2 fd3 fd4 fd5 fd6 : FuncData} (D : Dn K mg "few_holds" 12 ["grains", "due", "thing"] f fd) (D1 : Dn K mg "is_whole" 5 ["thing"] f1 fd1) (D2 : Dn K mg "are_rising" 7 ["thing"] f2 fd2)
    (D3 : Dn K mg "is_sum_pair" 9 ["thing"] f3 fd3) (D4 : Dn K mg "are_numbers" 8 ["many", "thing"] f4 fd4) (D5 : Dn K mg "is_paper_row" 10 ["thing"] f5 fd5) (D6 : Dn K mg "leads_on" 11 ["row", "one", "behind"] f6 fd6) (B : Bl mg) :
    FnOk P w K mg base CX0 4 f fd ["grains", "due", "thing"] spHold := by
  have G4 : FnOk P w K mg base CX0 3 f4 fd4 ["many", "thing"] spNum := (ok_num D4 D1 D2 B).mono (by decide)
  have G5 : FnOk P w K mg base CX0 3 f5 fd5 ["thing"] spRow := ok_prow D5 D1 D2 D3 B
  have G6 : FnOk P w K mg base CX0 3 f6 fd6 ["row", "one", "behind"] spLead := (ok_lead D6 B).mono (by decide)
  refine D.fn.ok scHold (fun vs H Q E h => ?_) (fun cdv A outer s H vs Q E hr h => ?_)
  · obtain ⟨a, t, c, r, hs, due, cs, rows, rfl, _⟩ := h
    rfl
  · obtain ⟨a, t, c, r, hs, due, cs, rows, rfl, ha, h8, ht, hc, hpw, hbd, hc8, hdue, ⟨rs, r1, r2, rfl⟩, hpap, q⟩ := h
    have hu := room65 hr
    have hl : _ < cLine := Nat.lt_of_le_of_lt (Nat.le_add_right _ 64) hr.units
    have hrl : rs.length = hs.length + 1 := by have := hpap.len; rwa [List.length_map] at this
    refine ⟨_, (pss_cons (ps_if (PW.pt (pw_or (pt_not (pt_val (pe_callB call_isi (by rfl) B.isinstance boot_isinstance (pa_cons (pv 2) (pa_cons (pe_bltn (v := .ty "tuple") (by rfl) B.tuple PyProof.Rows.boot_tuple rfl) pa_nil))))) (pw_or (pt_cmpR op_ne (pe_callB call_len_seq (by rfl) B.len PySem.boot_len (pa_cons (pv 2) pa_nil)) pe_int (nomark _)) (pw_or1 (pt_not (pt_val (pe_call G4 hr (by rfl) D4.gl D4.kp D4.bi .nil pass0 (pa_cons (pe_callB call_len_seq (by rfl) B.len PySem.boot_len (pa_cons (pv 0) pa_nil)) (pa_cons (pe_ix ix_tup (pv 2) pe_int (fun _ _ => rfl)) pa_nil))))))))) (pss_one (ps_ret pe_bl)) pss_nil)
      (pss_cons (ps_asg (pv 2) (pg_tup rfl (pgs_cons (pg_name (i := 3) scHold.nd rfl (.inl rfl)) (pgs_cons (pg_name (i := 4) scHold.nd rfl (.inl rfl)) pgs_nil))))
      (pss_cons (ps_set (i := 5) scHold.nd rfl (.inr rfl) (pe_tup (pa_cons (pe_callB (cr_sum rfl) (by rfl) B.sum PyProof.Rows.boot_sum (pa_cons (pe_lc (own := [("number", 6)]) (g := gName 6) (tt := tYes) (te := (tOp (rIxT K) (tVar 0) (tVar 6))) (by rfl) scHold.nd (pi_tup (pv 3)) (blkOk_by (own := [("number", 6)]) (N := nHold) (sc := defScope (top 12)) (by decide +kernel)) (fun _ _ _ _ _ => (pg_name (i := 6) scHold.nd rfl (.inl rfl))) (fun _ _ _ _ _ => pts_nil) (fun _ _ _ _ _ => (pe_ix ix_tup (pv 0) (pv 6) (fun _ _ => rfl)))) pa_nil)) (pa_cons (pe_callB call_len_seq (by rfl) B.len PySem.boot_len (pa_cons (pv 3) pa_nil)) pa_nil))))
      (pss_cons (ps_if (PW.pt (pw_or (pt_cmpR op_lt (pe_ix ix_tup (pv 5) pe_int (fun _ _ => rfl)) (pv 1) (nomark _)) (pw_or (pt_not (pt_val (pe_callB call_isi (by rfl) B.isinstance boot_isinstance (pa_cons (pv 4) (pa_cons (pe_bltn (v := .ty "tuple") (by rfl) B.tuple PyProof.Rows.boot_tuple rfl) pa_nil))))) (pw_or1 (pt_cmpR op_ne (pe_callB call_len_seq (by rfl) B.len PySem.boot_len (pa_cons (pv 4) pa_nil)) (pe_op op_add (pe_callB call_len_seq (by rfl) B.len PySem.boot_len (pa_cons (pv 0) pa_nil)) pe_int) (nomark _)))))) (pss_one (ps_ret pe_bl)) pss_nil)
      (pss_cons (ps_if (PW.pt (pw_or (pt_not (pt_val (pe_callB (cr_all rfl) (by rfl) B.all PyProof.Rows.boot_all (pa_cons (pe_lc (own := [("row", 7)]) (g := gName 7) (tt := tYes) (te := (tCall spRow [] E (tCons (tVar 7) tNil))) (by rfl) scHold.nd (pi_tup (pv 4)) (blkOk_by (own := [("row", 7)]) (N := nHold) (sc := defScope (top 12)) (by decide +kernel)) (fun _ _ _ _ _ => (pg_name (i := 7) scHold.nd rfl (.inl rfl))) (fun _ _ _ _ _ => pts_nil) (fun _ _ _ _ _ => (pe_call G5 hr (by rfl) D5.gl D5.kp D5.bi .nil pass0 (pa_cons (pv 7) pa_nil)))) pa_nil)))) (pw_or1 (pt_cmpR (op_notInT hu) (pe_tup (pa_cons pe_int (pa_cons pe_int pa_nil))) (pe_ix ix_tup (pv 4) pe_int (fun _ _ => rfl)) (by rfl))))) (pss_one (ps_ret pe_bl)) pss_nil)
      (pss_cons (ps_if (pt_not (pt_val (pe_callB (cr_all rfl) (by rfl) B.all PyProof.Rows.boot_all (pa_cons (pe_lc (own := [("row", 7), ("one", 8), ("behind", 9)]) (g := gTup K 3 (gCons (gName 7) (gCons (gName 8) (gCons (gName 9) gNil)))) (tt := tYes) (te := (tCall spLead [] E (tCons (tVar 7) (tCons (tVar 8) (tCons (tVar 9) tNil))))) (by rfl) scHold.nd (pi_zip3T (by rfl) B.zip (pa_cons (pv 4) (pa_cons (pv 0) (pa_cons (pe_slice sl_tupA (pv 4) (po_some pe_int) po_none) pa_nil)))) (blkOk_by (own := [("row", 7), ("one", 8), ("behind", 9)]) (N := nHold) (sc := defScope (top 12)) (by decide +kernel)) (fun _ _ _ _ _ => (pg_tup rfl (pgs_cons (pg_name (i := 7) scHold.nd rfl (.inl rfl)) (pgs_cons (pg_name (i := 8) scHold.nd rfl (.inl rfl)) (pgs_cons (pg_name (i := 9) scHold.nd rfl (.inl rfl)) pgs_nil))))) (fun _ _ _ _ _ => pts_nil) (fun _ _ _ _ _ => (pe_call G6 hr (by rfl) D6.gl D6.kp D6.bi .nil pass0 (pa_cons (pv 7) (pa_cons (pv 8) (pa_cons (pv 9) pa_nil)))))) pa_nil)))) (pss_one (ps_ret pe_bl)) pss_nil)
      (pss_one (ps_ret (pe_not (pe_callB (cr_any rfl) (by rfl) B.any PyProof.Rows.boot_any (pa_cons (pe_lc (own := [("pair", 10)]) (g := gName 10) (tt := tYes) (te := (tAndV (tOp (rI0 fun i j => .bl (decide (j ≤ i))) (tOp (rIxT K) (tVar 10) (tC (.int 0))) (tVar 1)) (tOp (rLess K) (tVar 10) (tVar 5)))) (by rfl) scHold.nd (pi_tup (pe_ix ix_tup (pv 4) (pe_un un_neg pe_int) (fun _ _ => rfl))) (blkOk_by (own := [("pair", 10)]) (N := nHold) (sc := defScope (top 12)) (by decide +kernel)) (fun _ _ _ _ _ => (pg_name (i := 10) scHold.nd rfl (.inl rfl))) (fun _ _ _ _ _ => pts_nil) (fun _ _ _ _ _ => (pe_and (pe_cmpR op_ge (pe_ix ix_tup (pv 10) pe_int (fun _ _ => rfl)) (pv 1) (nomark _)) (pe_one (pe_cmpR (op_less hl) (pv 10) (pv 5) (nomark _)))))) pa_nil))))))))))), ?_⟩
    -- the thing, its length, are_numbers
    refine ⟨.ref t, rfl, isi_tup ht ⟨true, rfl, iteF ?_⟩⟩
    refine ⟨.ref t, rfl, t, _, rfl, .inr (SqT.of ht), rfl, false, len_ne rfl, iteF ?_⟩
    refine ⟨.ref a, rfl, a, hs.map V.int, rfl, .inr (SqT.of ha), ?_⟩
    rw [List.length_map]
    refine ⟨.ref t, rfl, t, _, 0, .ref c, rfl, rfl, SqT.of ht, atI_nat (j := 0) rfl, c, cs, hs.length, rfl, hc, by omega, hpw, hbd, fun H1 s1 => ⟨true, rfl, iteF ?_⟩⟩
    -- chosen, paper = thing
    refine ⟨.ref t, rfl, t, _, rfl, SqT.of (s1 _ _ ht), rfl, _, _, rfl, _, _, rfl, rfl, ?_⟩
    -- own
    refine ⟨.ref c, rfl, c, rfl, ⟨_, SqT.of (s1 _ _ hc)⟩, fun m nm => ?_⟩
    refine lc_same (walk_tup (xs := nts cs)) (fun j => ((cs.take j).map fun (i : Nat) => hs.getD i 0).map V.int) rfl nm (fun i hi => ?_) (fun H s => SqT.of (s _ _ (s1 _ _ hc))) at_same ?_ ?_
    · rw [List.length_map, List.length_map, List.length_take]; omega
    · rintro i x H2 H2' hi s2 ⟨rfl, hx⟩ RR NN kR kN
      rw [List.getElem?_map] at hx
      obtain ⟨k, hk, rfl⟩ := Option.map_eq_some_iff.mp hx
      have hkb := hbd k (List.mem_of_getElem? hk)
      have hgk : hs[k]? = some hs[k] := List.getElem?_eq_getElem hkb
      refine ⟨rfl, iteT (B := True) (iteT ?_)⟩
      refine ⟨.ref a, rfl, _, rfl, a, hs.map V.int, _, .int hs[k], rfl, rfl, SqT.of (s2 _ _ (s1 _ _ ha)), atI_nat (by rw [List.getElem?_map, hgk]; rfl), kR _ _ ?_ fun _ _ e => e⟩
      rw [map_snoc _ _ _ hk, List.map_append, getD_of hgk]; rfl
    intro H2 s2 hm
    rw [map_take_all _ _ _ (by rw [List.length_map])] at hm
    have s12 := s1.trans s2
    refine ⟨m, _, rfl, SqL.of hm, ?_⟩
    rw [sum_ints]
    refine ⟨.ref c, rfl, c, nts cs, rfl, .inr (SqT.of (s12 _ _ hc)), ?_⟩
    rw [List.length_map]
    refine ⟨(by show 2 ≤ sizeLine; decide), fun o no => ?_⟩
    have ho : upd H2 o (.tup [.int (gsum hs cs), .int (cs.length : Nat)]) o = some (.tup [.int (gsum hs cs), .int (cs.length : Nat)]) := upd_same
    have s3 := s12.trans (same_new (o := .tup [.int (gsum hs cs), .int (cs.length : Nat)]) no)
    generalize upd H2 o (.tup [.int (gsum hs cs), .int (cs.length : Nat)]) = H3 at ho s3
    clear hm no nm s12 s2 s1
    -- own[0] < due, the paper
    refine ⟨.ref o, rfl, o, _, 0, .int (gsum hs cs), rfl, rfl, SqT.of ho, atI_nat (j := 0) rfl, _, rfl, _, _, rfl, rfl, _, rfl, ?_⟩
    rw [decide_eq_false (show ¬ gsum hs cs < due by omega)]
    refine iteF ?_
    refine ⟨.ref r, rfl, isi_tup (s3 _ _ r1) ⟨true, rfl, iteF ?_⟩⟩
    refine ⟨.ref r, rfl, r, _, rfl, .inr (SqT.of (s3 _ _ r1)), .ref a, rfl, a, _, rfl, .inr (SqT.of (s3 _ _ ha)), _, _, rfl, rfl, rfl, false, len_ne (by rw [List.length_map, List.length_map, hrl]; rfl), iteF ?_⟩
    -- all rows are rows
    refine ⟨.ref r, rfl, r, rfl, ⟨_, SqT.of (s3 _ _ r1)⟩, fun d nd => ?_⟩
    refine lc_same (walk_tup (xs := rs.map fun x => V.ref x.1)) (fun j => (List.replicate j true).map V.bl) rfl nd (fun i hi => ?_) (fun H s => SqT.of (s _ _ (s3 _ _ r1))) at_same ?_ ?_
    · rw [List.length_map] at hi
      rw [List.length_map, List.length_replicate]; omega
    · rintro i x H4 H4' hi s4 ⟨rfl, hx⟩ RR NN kR kN
      rw [List.getElem?_map] at hx
      obtain ⟨k, hk, rfl⟩ := Option.map_eq_some_iff.mp hx
      have hkm := List.mem_of_getElem? hk
      refine ⟨rfl, iteT (B := True) (iteT ?_)⟩
      exact ⟨_, rfl, k.1, k.2, rfl, ((r2 k hkm).same s3).same s4, hpap.row _ (List.mem_map.mpr ⟨k, hkm, rfl⟩), fun H' s' => kR _ _ (rep_true i rfl) s'⟩
    intro H4 s4 hd
    refine ⟨d, _, rfl, SqL.of hd, ?_⟩
    have e : (List.replicate (rs.map fun x => V.ref x.1).length true).all id = true := by
      rw [List.all_eq_true]
      intro b hb
      exact (List.mem_replicate.mp hb).2
    rw [e]
    refine ⟨true, rfl, iteF ?_⟩
    -- (0, 0) in paper[0]
    refine ⟨(by show 2 ≤ sizeLine; decide), fun z nz => ?_⟩
    have s5 := s3.trans (s4.trans (same_new (o := .tup [.int 0, .int 0]) nz))
    have ho5 := same_new (o := .tup [.int 0, .int 0]) nz _ _ (s4 _ _ ho)
    have hz : upd H4 z (.tup [.int 0, .int 0]) z = some (.tup [.int 0, .int 0]) := upd_same
    generalize upd H4 z (.tup [.int 0, .int 0]) = H5 at s5 hz ho5
    have hr0 : ∃ x0, rs[0]? = some x0 ∧ (0, 0) ∈ x0.2 := by
      have hz0 := hpap.zero
      rw [List.getD_eq_getElem?_getD, List.getElem?_map] at hz0
      have : 0 < rs.length := by omega
      exact ⟨rs[0], List.getElem?_eq_getElem this, by rw [List.getElem?_eq_getElem this] at hz0; exact hz0⟩
    obtain ⟨x0, hx0, hz0⟩ := hr0
    refine ⟨.ref r, rfl, r, _, 0, .ref x0.1, rfl, rfl, SqT.of (s5 _ _ r1), atI_nat (j := 0) (by rw [List.getElem?_map, hx0]; rfl), in_paper (p := (0, 0)) ((r2 x0 (List.mem_of_getElem? hx0)).same s5) hz hz0 ⟨_, rfl, iteF ?_⟩⟩
    -- the rows lead on
    refine ⟨.ref r, rfl, .ref a, rfl, .ref r, rfl, 1, rfl, ?_⟩
    refine sl_okN (s5 _ _ r1) (cut_tail _) fun H6 b s6 hb => ?_
    have s56 := s5.trans s6
    refine ⟨r, a, b, _, hs.map V.int, _, rfl, SqT.of (s56 _ _ r1), SqT.of (s56 _ _ ha), SqT.of hb, fun d2 nd2 => ?_⟩
    refine lc_same (walk_zip3T (n := hs.length) (by rw [List.length_tail, List.length_map, List.length_map, hrl]; omega)) (fun j => ((List.range j).map fun i => leadsB ((rs.map (·.2)).getD i []) (hs.getD i 0) ((rs.map (·.2)).getD (i + 1) [])).map V.bl) rfl nd2 (fun i hi => ?_)
      (fun H s => ⟨SqT.of (s _ _ (s56 _ _ r1)), SqT.of (s _ _ (s56 _ _ ha)), SqT.of (s _ _ hb)⟩) (fun i H x H' _ ⟨T, x, y, z, _, nT, e, _⟩ => by rw [e]; exact same_new nT) ?_ ?_
    · rw [List.length_map, List.length_map, List.length_range]; omega
    · rintro i v H7 H7' hi s7 ⟨T, x, y, z, rfl, nT, rfl, hx, hy, hz⟩ RR NN kR kN
      rw [List.getElem?_map] at hx hy
      have hz := tail_get hz
      rw [List.getElem?_map] at hz
      obtain ⟨k, hk, rfl⟩ := Option.map_eq_some_iff.mp hx
      obtain ⟨g, hg, rfl⟩ := Option.map_eq_some_iff.mp hy
      obtain ⟨j, hj, rfl⟩ := Option.map_eq_some_iff.mp hz
      have hkm := List.mem_of_getElem? hk
      have hjm := List.mem_of_getElem? hj
      refine ⟨T, _, rfl, SqT.of upd_same, rfl, _, _, rfl, _, _, rfl, _, _, rfl, rfl, rfl, iteT (B := True) (iteT ?_)⟩
      have s57 := s56.trans s7
      refine ⟨_, rfl, _, rfl, _, rfl, k.1, j.1, g, k.2, j.2, rfl, (r2 k hkm).same s57, (r2 j hjm).same s57, hpap.row _ (List.mem_map.mpr ⟨k, hkm, rfl⟩), hpap.row _ (List.mem_map.mpr ⟨j, hjm, rfl⟩), fun H' s' => kR _ _ ?_ s'⟩
      rw [range_snoc, List.map_append, getD_of (l := rs.map (·.2)) (x := k.2) (by rw [List.getElem?_map, hk]; rfl), getD_of (l := rs.map (·.2)) (x := j.2) (by rw [List.getElem?_map, hj]; rfl), getD_of hg]
      rfl
    intro H7 s7 hd2
    have s57 := s56.trans s7
    refine ⟨d2, _, rfl, SqL.of hd2, ?_⟩
    rw [List.all_map]
    refine ⟨_, rfl, ?_⟩
    have ehold : holdsB hs due (rs.map (·.2)) (gsum hs cs, (cs.length : Int)) = (((List.range hs.length).all fun i => leadsB ((rs.map (·.2)).getD i []) (hs.getD i 0) ((rs.map (·.2)).getD (i + 1) [])) && !(((rs.map (·.2)).getD hs.length []).any fun p => decide (due ≤ p.1) && decide (Plt p (gsum hs cs, (cs.length : Int))))) := rfl
    refine ite2 (fun e1 => ?_) (fun e1 => ?_)
    · have e2 : ((List.range hs.length).all fun i => leadsB ((rs.map (·.2)).getD i []) (hs.getD i 0) ((rs.map (·.2)).getD (i + 1) [])) = false := by
        have e3 := Bool.not_eq_true' _ |>.mp e1
        exact e3
      have := q _ s57
      rw [ehold, e2, Bool.false_and] at this
      exact this
    · have e2 : ((List.range hs.length).all fun i => leadsB ((rs.map (·.2)).getD i []) (hs.getD i 0) ((rs.map (·.2)).getD (i + 1) [])) = true := by
        have e3 := fun z => e1 (Bool.not_eq_true' _ |>.mpr z)
        exact Bool.not_eq_false _ |>.mp e3
      rw [e2, Bool.true_and] at ehold
      -- none in the last row is better
      obtain ⟨xl, hxl⟩ : ∃ xl, rs[hs.length]? = some xl := ⟨_, List.getElem?_eq_getElem (by omega)⟩
      have hls : atI (rs.map fun x => V.ref x.1) (-1) = some (.ref xl.1) := by
        obtain ⟨ys, z, rfl⟩ : ∃ ys z, rs = ys ++ [z] := ⟨rs.dropLast, rs.getLast (fun z => by rw [z] at hrl; simp at hrl), (List.dropLast_concat_getLast _).symm⟩
        have : ys.length = hs.length := by rw [List.length_append] at hrl; simpa using hrl
        rw [← this, List.getElem?_concat_length] at hxl
        rw [← Option.some.inj hxl, List.map_append]
        exact atI_last _ _
      rw [getD_of (l := rs.map (·.2)) (x := xl.2) (by rw [List.getElem?_map, hxl]; rfl)] at ehold
      obtain ⟨ks, k1, k2, k3⟩ := r2 xl (List.mem_of_getElem? hxl)
      have hkl : ks.length ≤ 256 := by
        have := (hpap.row _ (List.mem_map.mpr ⟨xl, List.mem_of_getElem? hxl, rfl⟩)).len
        rw [← k3, List.length_map] at this
        exact this
      refine ⟨.ref r, rfl, _, rfl, r, _, _, _, rfl, rfl, SqT.of (s57 _ _ r1), hls, xl.1, rfl, ⟨_, SqT.of (s57 _ _ k1)⟩, fun d3 nd3 => ?_⟩
      refine lc_same (walk_tup (xs := refs ks)) (fun j => ((ks.take j).map fun k => decide (due ≤ k.2.1) && decide (Plt k.2 (gsum hs cs, (cs.length : Int)))).map V.bl) rfl nd3 (fun i hi => ?_) (fun H s => SqT.of (s _ _ (s57 _ _ k1))) at_same ?_ ?_
      · rw [List.length_map, List.length_map, List.length_take]; omega
      · rintro i x H8 H8' hi s8 ⟨rfl, hx⟩ RR NN kR kN
        rw [List.getElem?_map] at hx
        obtain ⟨k, hk, rfl⟩ := Option.map_eq_some_iff.mp hx
        have hk1 := s8 _ _ (s57 _ _ (k2 k (List.mem_of_getElem? hk)))
        refine ⟨rfl, iteT (B := True) (iteT ?_)⟩
        refine ⟨.ref k.1, rfl, k.1, _, 0, .int k.2.1, rfl, rfl, SqT.of hk1, atI_nat (j := 0) rfl, _, rfl, _, _, rfl, rfl, _, rfl, ite2 (fun e => ?_) (fun e => ?_)⟩
        · refine ⟨.ref k.1, rfl, .ref o, rfl, .inr ⟨k.1, o, [k.2.1, k.2.2], [gsum hs cs, (cs.length : Int)], rfl, rfl, SqT.of hk1, SqT.of (s8 _ _ (s7 _ _ (s6 _ _ ho5))), kR _ _ ?_ fun _ _ e => e⟩⟩
          · rw [map_snoc _ _ _ hk, List.map_append, e, Bool.true_and]
            exact congrArg (fun b => _ ++ [V.bl b]) (lex_pair k.2 (gsum hs cs, (cs.length : Int))).symm
        · refine kR _ _ ?_ fun _ _ e => e
          rw [map_snoc _ _ _ hk, List.map_append, Bool.eq_false_iff.mpr e, Bool.false_and]
          rfl
      intro H8 s8 hd3
      refine ⟨d3, _, rfl, SqL.of hd3, ?_⟩
      rw [map_take_all _ _ _ (by rw [List.length_map])]
      refine ⟨_, rfl, ?_⟩
      have := q _ (s57.trans s8)
      rw [ehold, ← k3, List.any_map] at this
      rw [List.any_map]
      exact this
end
end K65P
namespace K65P
open PySem PySem.Spec PyProof.Rows L2 K65 K65S RZ
def rLenS (K : PySem.W.Frag) : List V → Hp → VK → Prop := fun xs H Q => ∃ p ys, xs = [.ref p] ∧ (SqL K H p ys ∨ SqT K H p ys) ∧ Q (.int ys.length) H
theorem ints_dp {K : PySem.W.Frag} {H : Hp} : ∀ ns : List Int, DpAll K H (ns.map V.int) (ns.map PyData.int)
  | [] => .nil
  | _ :: ns => .cons (.int _) (ints_dp ns)
theorem ints_lay : ∀ ns : List Int, PyData.canLayAll0 (ns.map PyData.int) = true
  | [] => by simp [PyData.canLayAll0]
  | n :: ns => by simp [PyData.canLayAll0, PyData.canLay0, ints_lay ns]
theorem ints_depth : ∀ ns : List Int, PyData.depthAll (ns.map PyData.int) = 0
  | [] => by simp [PyData.depthAll]
  | n :: ns => by simp [PyData.depthAll, PyData.depth, ints_depth ns]
theorem ints_shaped (ns : List Int) : SeqAt.shaped (.list (ns.map PyData.int)) = true := by
  have h2 : PyData.depth (.list (ns.map PyData.int)) ≤ 64 := by simp only [PyData.depth, ints_depth]; omega
  show (PyData.canLay0 (.list (ns.map PyData.int)) && decide (PyData.depth (.list (ns.map PyData.int)) ≤ 64)) = true
  rw [Bool.and_eq_true]
  exact ⟨by simp only [PyData.canLay0]; exact ints_lay ns, decide_eq_true h2⟩
theorem eqv_nil (ns : List Int) : PyData.eqv (.list (ns.map PyData.int)) (.list []) = ns.isEmpty := by
  cases ns with
  | nil => simp [PyData.eqv, PyData.eqvAll]
  | cons n ns => simp [PyData.eqv, PyData.eqvAll]
theorem ones_eq {K : PySem.W.Frag} {H : Hp} {a b : Addr} {ns : List Int} {Q : VK} (ha : H a = some (.lst (ns.map V.int))) (hb : H b = some (.lst [])) (q : Q (.bl ns.isEmpty) H) : rEqD K (.ref a) (.ref b) H Q :=
  ⟨.list (ns.map PyData.int), .list [], .lst (SqL.of ha) (ints_dp ns), .lst (SqL.of hb) .nil, ints_shaped ns, nil_shaped, by rw [eqv_nil]; exact q⟩
section
variable {P : Program} {w : World} {K : PySem.W.Frag} {mg : Str → Option Value} {base : Heap}
theorem ok_lrow {f f1 f2 : Addr} {fd fd1 fd2 : FuncData} (D : Dn K mg "_law_is_row" 22 ["_law_thing"] f fd) (D1 : Dn K mg "_law_whole" 20 ["_law_thing"] f1 fd1) (D2 : Dn K mg "_law_rises" 21 ["_law_thing"] f2 fd2) (B : Bl mg) :
    FnOk P w K mg base CX0 2 f fd ["_law_thing"] spRow := by
  have G1 : FnOk P w K mg base CX0 1 f1 fd1 ["_law_thing"] spWhole := ok_lwhole D1 B
  have G2 : FnOk P w K mg base CX0 1 f2 fd2 ["_law_thing"] spRis := ok_lris D2 B
  refine D.fn.ok scLRow (fun vs H Q E h => ?_) (fun cdv A outer s H vs Q E hr h => ?_)
  · obtain ⟨a, ps, rfl, _⟩ := h
    rfl
  · obtain ⟨a, ps, rfl, ⟨ks, k1, k2, k3⟩, hrow, q⟩ := h
    have hu := hr.units
    have hlk : ks.length ≤ 256 := by
      have := hrow.len
      rw [← k3, List.length_map] at this
      exact this
    refine ⟨_, (pss_cons (ps_if (pt_not (pt_val (pe_callB call_isi (by rfl) B.isinstance boot_isinstance (pa_cons (pv 0) (pa_cons (pe_bltn (v := .ty "tuple") (by rfl) B.tuple PyProof.Rows.boot_tuple rfl) pa_nil))))) (pss_one (ps_ret pe_bl)) pss_nil)
      (pss_cons (ps_for PassesOwn.never rfl (pi_tup (pv 0)) (pg_name (i := 1) scLRow.nd rfl (.inl rfl)) (pss_cons (ps_if (PW.pt (pw_or (pt_not (pt_val (pe_callB call_isi (by rfl) B.isinstance boot_isinstance (pa_cons (pv 1) (pa_cons (pe_bltn (v := .ty "tuple") (by rfl) B.tuple PyProof.Rows.boot_tuple rfl) pa_nil))))) (pw_or1 (pt_cmpR op_ne (pe_callB call_len_seq (by rfl) B.len PySem.boot_len (pa_cons (pv 1) pa_nil)) pe_int (nomark _))))) (pss_one (ps_ret pe_bl)) pss_nil)
      (pss_one (ps_if (pt_cmpR (op_neD hu) (pe_lc (own := [("_law_one", 2)]) (g := gName 2) (tt := (tOr (tNot (tB (tCall spWhole [] E (tCons (tVar 2) tNil)))) (tTest (tOp (rI0 fun i j => .bl (decide (i < j))) (tVar 2) (tC (.int 0)))))) (te := (tC (.int 1))) (by rfl) scLRow.nd (pi_tup (pv 1)) (blkOk_by (own := [("_law_one", 2)]) (N := nLRow) (sc := defScope (top 22)) (by decide +kernel)) (fun _ _ _ _ _ => (pg_name (i := 2) scLRow.nd rfl (.inl rfl))) (fun _ _ _ _ _ => pts_one (PW.pt (pw_or (pt_not (pt_val (pe_call G1 hr (by rfl) D1.gl D1.kp D1.bi .nil pass0 (pa_cons (pv 2) pa_nil)))) (pw_or1 (pt_cmpR op_lt (pv 2) pe_int (nomark _)))))) (fun _ _ _ _ _ => pe_int)) (pe_lst pa_nil) (nomark _)) (pss_one (ps_ret pe_bl)) pss_nil))))
      (pss_one (ps_ret (pe_call G2 hr (by rfl) D2.gl D2.kp D2.bi .nil pass0 (pa_cons (pv 0) pa_nil)))))), ?_⟩
    refine ⟨.ref a, rfl, isi_tup k1 ⟨true, rfl, iteF ?_⟩⟩
    refine ⟨.ref a, rfl, a, rfl, ⟨_, SqT.of k1⟩, for_it (walk_tup (xs := refs ks)) (fun i σ H2 => ∃ y1 y2 : Option V, σ = [some (.ref a), y1, y2] ∧ Same H H2) ⟨none, none, rfl, fun _ _ e => e⟩ (fun i σ H2 _ ⟨_, _, _, s2⟩ => SqT.of (s2 _ _ k1)) ?_ ?_⟩
    · rintro i x σ H2 H2' hi ⟨y1, y2, rfl, s2⟩ ⟨rfl, hx⟩
      rw [List.getElem?_map] at hx
      obtain ⟨k, hk, rfl⟩ := Option.map_eq_some_iff.mp hx
      have hkm := List.mem_of_getElem? hk
      have hnn := hrow.nn k.2 (by rw [← k3]; exact List.mem_map.mpr ⟨k, hkm, rfl⟩)
      have hk1 := s2 _ _ (k2 k hkm)
      refine ⟨.ref k.1, rfl, isi_tup hk1 ⟨true, rfl, iteF ?_⟩⟩
      refine ⟨.ref k.1, rfl, k.1, _, rfl, .inr (SqT.of hk1), rfl, false, len_ne rfl, iteF ?_⟩
      refine ⟨.ref k.1, rfl, k.1, rfl, ⟨_, SqT.of hk1⟩, fun d nd => ?_⟩
      refine lc_same (walk_tup (xs := [V.int k.2.1, V.int k.2.2])) (fun _ => []) rfl nd (fun i hi => by show 0 ≤ 1000000; omega) (fun H s => SqT.of (s _ _ hk1)) at_same ?_ ?_
      · rintro i x H3 H3' hi s3 ⟨rfl, hx⟩ RR NN kR kN
        obtain ⟨z, rfl, hz⟩ := pair_at hx hnn.1 hnn.2
        refine ⟨rfl, .int z, rfl, z, rfl, true, rfl, iteF ?_⟩
        refine ⟨.int z, rfl, _, _, rfl, rfl, _, rfl, ?_⟩
        rw [decide_eq_false (show ¬ z < 0 by omega)]
        exact iteF (kN _ rfl fun _ _ e => e)
      · intro H3 s3 hd
        refine ⟨(by show 0 ≤ sizeLine; decide), fun e ne => nil_ne (same_new ne _ _ hd) upd_same ⟨false, rfl, iteF ⟨_, _, rfl, s2.trans (s3.trans (same_new ne))⟩⟩⟩
    · rintro σ H2 ⟨y1, y2, rfl, s2⟩
      exact ⟨_, rfl, a, refs ks, rfl, s2 _ _ k1, by rw [List.length_map]; omega, asc_refs (prs_same s2 k2) (by rw [k3]; exact hrow.srt), fun H' s' => q _ (s2.trans s')⟩
/-- _law_is_chosen where it is -/
def spLCho : Sp := fun vs H Q _ => ∃ (a c : Addr) (hs : List Int) (due : Int) (cs : List Nat), vs = [.ref a, .int due, .ref c] ∧ TupI H a hs ∧ H c = some (.tup (nts cs)) ∧ cs.Pairwise (· < ·) ∧ (∀ i ∈ cs, i < hs.length) ∧ cs.length ≤ 8 ∧ due ≤ gsum hs cs ∧ ∀ H', Same H H' → Q (.bl true) H'
theorem ok_lcho {f f1 f2 : Addr} {fd fd1 fd2 : FuncData} (D : Dn K mg "_law_is_chosen" 23 ["_law_grains_here", "_law_due_here", "_law_thing"] f fd) (D1 : Dn K mg "_law_whole" 20 ["_law_thing"] f1 fd1) (D2 : Dn K mg "_law_rises" 21 ["_law_thing"] f2 fd2) (B : Bl mg) :
    FnOk P w K mg base CX0 2 f fd ["_law_grains_here", "_law_due_here", "_law_thing"] spLCho := by
  have G1 : FnOk P w K mg base CX0 1 f1 fd1 ["_law_thing"] spWhole := ok_lwhole D1 B
  have G2 : FnOk P w K mg base CX0 1 f2 fd2 ["_law_thing"] spRis := ok_lris D2 B
  refine D.fn.ok scLCho (fun vs H Q E h => ?_) (fun cdv A outer s H vs Q E hr h => ?_)
  · obtain ⟨a, c, hs, due, cs, rfl, _⟩ := h
    rfl
  · obtain ⟨a, c, hs, due, cs, rfl, ha, hc, hpw, hbd, h8, hdue, q⟩ := h
    have hu := hr.units
    refine ⟨_, (pss_cons (ps_if (PW.pt (pw_or (pt_not (pt_val (pe_callB call_isi (by rfl) B.isinstance boot_isinstance (pa_cons (pv 2) (pa_cons (pe_bltn (v := .ty "tuple") (by rfl) B.tuple PyProof.Rows.boot_tuple rfl) pa_nil))))) (pw_or1 (pt_cmpR (op_neD hu) (pe_lc (own := [("_law_one", 3)]) (g := gName 3) (tt := (tNot (tB (tCall spWhole [] E (tCons (tVar 3) tNil))))) (te := (tC (.int 1))) (by rfl) scLCho.nd (pi_tup (pv 2)) (blkOk_by (own := [("_law_one", 3)]) (N := nLCho) (sc := defScope (top 23)) (by decide +kernel)) (fun _ _ _ _ _ => (pg_name (i := 3) scLCho.nd rfl (.inl rfl))) (fun _ _ _ _ _ => pts_one (pt_not (pt_val (pe_call G1 hr (by rfl) D1.gl D1.kp D1.bi .nil pass0 (pa_cons (pv 3) pa_nil))))) (fun _ _ _ _ _ => pe_int)) (pe_lst pa_nil) (nomark _))))) (pss_one (ps_ret pe_bl)) pss_nil)
      (pss_cons (ps_if (PW.pt (pw_or (pt_cmpR (op_neD hu) (pe_lc (own := [("_law_one", 3)]) (g := gName 3) (tt := (tNot (tTest (tChain (rI0 fun i j => .bl (decide (i ≤ j))) (rI0 fun i j => .bl (decide (i < j))) (tC (.int 0)) (tVar 3) (tCB (rLenS K) (tCons (tVar 0) tNil)))))) (te := (tC (.int 1))) (by rfl) scLCho.nd (pi_tup (pv 2)) (blkOk_by (own := [("_law_one", 3)]) (N := nLCho) (sc := defScope (top 23)) (by decide +kernel)) (fun _ _ _ _ _ => (pg_name (i := 3) scLCho.nd rfl (.inl rfl))) (fun _ _ _ _ _ => pts_one (pt_not (pt_chain op_le op_lt pe_int (pv 3) (pe_callB call_len_seq (by rfl) B.len PySem.boot_len (pa_cons (pv 0) pa_nil))))) (fun _ _ _ _ _ => pe_int)) (pe_lst pa_nil) (nomark _)) (pw_or1 (pt_not (pt_val (pe_call G2 hr (by rfl) D2.gl D2.kp D2.bi .nil pass0 (pa_cons (pv 2) pa_nil))))))) (pss_one (ps_ret pe_bl)) pss_nil)
      (pss_one (ps_ret (pe_cmpR op_ge (pe_callB (cr_sum rfl) (by rfl) B.sum PyProof.Rows.boot_sum (pa_cons (pe_lc (own := [("_law_number", 4)]) (g := gName 4) (tt := tYes) (te := (tOp (rIxT K) (tVar 0) (tVar 4))) (by rfl) scLCho.nd (pi_tup (pv 2)) (blkOk_by (own := [("_law_number", 4)]) (N := nLCho) (sc := defScope (top 23)) (by decide +kernel)) (fun _ _ _ _ _ => (pg_name (i := 4) scLCho.nd rfl (.inl rfl))) (fun _ _ _ _ _ => pts_nil) (fun _ _ _ _ _ => (pe_ix ix_tup (pv 0) (pv 4) (fun _ _ => rfl)))) pa_nil)) (pv 1) (nomark _)))))), ?_⟩
    refine ⟨.ref c, rfl, isi_tup hc ⟨true, rfl, iteF ?_⟩⟩
    refine ⟨.ref c, rfl, c, rfl, ⟨_, SqT.of hc⟩, fun d nd => ?_⟩
    refine lc_same (walk_tup (xs := nts cs)) (fun _ => []) rfl nd (fun i hi => by show 0 ≤ 1000000; omega) (fun H s => SqT.of (s _ _ hc)) at_same ?_ ?_
    · rintro i x H3 H3' hi s3 ⟨rfl, hx⟩ RR NN kR kN
      rw [List.getElem?_map] at hx
      obtain ⟨k, hk, rfl⟩ := Option.map_eq_some_iff.mp hx
      exact ⟨rfl, .int k, rfl, k, rfl, true, rfl, iteF (kN _ rfl fun _ _ e => e)⟩
    intro H3 s3 hd
    refine ⟨(by show 0 ≤ sizeLine; decide), fun e ne => nil_ne (same_new ne _ _ hd) upd_same ⟨false, rfl, iteF ?_⟩⟩
    have s4 := s3.trans (same_new (o := .lst []) ne)
    generalize upd H3 e (.lst []) = H4 at s4
    refine ⟨.ref c, rfl, c, rfl, ⟨_, SqT.of (s4 _ _ hc)⟩, fun d2 nd2 => ?_⟩
    refine lc_same (walk_tup (xs := nts cs)) (fun _ => []) rfl nd2 (fun i hi => by show 0 ≤ 1000000; omega) (fun H s => SqT.of (s _ _ (s4 _ _ hc))) at_same ?_ ?_
    · rintro i x H5 H5' hi s5 ⟨rfl, hx⟩ RR NN kR kN
      rw [List.getElem?_map] at hx
      obtain ⟨k, hk, rfl⟩ := Option.map_eq_some_iff.mp hx
      have hkm := hbd k (List.mem_of_getElem? hk)
      refine ⟨rfl, .int k, rfl, _, _, rfl, rfl, true, congrArg V.bl (decide_eq_true (show (0 : Int) ≤ k by omega)), iteT ?_⟩
      refine ⟨.ref a, rfl, a, hs.map V.int, rfl, .inr (SqT.of (s5 _ _ (s4 _ _ ha))), _, _, rfl, rfl, true, congrArg V.bl (decide_eq_true (show (k : Int) < ((hs.map V.int).length : Nat) by rw [List.length_map]; omega)), iteF (kN _ rfl fun _ _ e => e)⟩
    intro H5 s5 hd2
    refine ⟨(by show 0 ≤ sizeLine; decide), fun e2 ne2 => nil_ne (same_new ne2 _ _ hd2) upd_same ⟨false, rfl, iteF ?_⟩⟩
    have s6 := s4.trans (s5.trans (same_new (o := .lst []) ne2))
    generalize upd H5 e2 (.lst []) = H6 at s6
    refine ⟨_, rfl, c, nts cs, rfl, s6 _ _ hc, by rw [List.length_map]; omega, asc_nts hpw, fun H7 s7 => ⟨true, rfl, iteF ?_⟩⟩
    have s67 := s6.trans s7
    refine ⟨.ref c, rfl, c, rfl, ⟨_, SqT.of (s67 _ _ hc)⟩, fun m nm => ?_⟩
    refine lc_same (walk_tup (xs := nts cs)) (fun j => ((cs.take j).map fun (i : Nat) => hs.getD i 0).map V.int) rfl nm (fun i hi => ?_) (fun H s => SqT.of (s _ _ (s67 _ _ hc))) at_same ?_ ?_
    · rw [List.length_map, List.length_map, List.length_take]; omega
    · rintro i x H2 H2' hi s2 ⟨rfl, hx⟩ RR NN kR kN
      rw [List.getElem?_map] at hx
      obtain ⟨k, hk, rfl⟩ := Option.map_eq_some_iff.mp hx
      have hkb := hbd k (List.mem_of_getElem? hk)
      have hgk : hs[k]? = some hs[k] := List.getElem?_eq_getElem hkb
      refine ⟨rfl, iteT (B := True) (iteT ?_)⟩
      refine ⟨.ref a, rfl, _, rfl, a, hs.map V.int, _, .int hs[k], rfl, rfl, SqT.of (s2 _ _ (s67 _ _ ha)), atI_nat (by rw [List.getElem?_map, hgk]; rfl), kR _ _ ?_ fun _ _ e => e⟩
      rw [map_snoc _ _ _ hk, List.map_append, getD_of hgk]; rfl
    intro H2 s2 hm
    rw [map_take_all _ _ _ (by rw [List.length_map])] at hm
    refine ⟨m, _, rfl, SqL.of hm, _, rfl, _, _, rfl, rfl, ?_⟩
    rw [sum_ints]
    have := q _ (s67.trans s2)
    rw [← decide_eq_true hdue] at this
    exact this
end
end K65P
namespace K65P
open PySem PySem.Spec PyProof.Rows L2 K65 K65S RZ
theorem last_of {α : Type} {l : List α} {n : Nat} {x : α} (hl : l.length = n + 1) (h : l[n]? = some x) : ∃ ys, l = ys ++ [x] := by
  obtain ⟨ys, z, rfl⟩ : ∃ ys z, l = ys ++ [z] := ⟨l.dropLast, l.getLast (fun z => by rw [z] at hl; simp at hl), (List.dropLast_concat_getLast _).symm⟩
  have e : ys.length = n := by rw [List.length_append] at hl; simpa using hl
  rw [← e, List.getElem?_concat_length] at h
  rw [← Option.some.inj h]
  exact ⟨ys, rfl⟩
theorem leads_no {row beh : List (Int × Int)} {g : Int} {p : Int × Int} (hp : p ∈ row) (hn : ¬ (p ∈ beh ∧ (p.1 + g, p.2 + 1) ∈ beh)) : leadsB row g beh = false := by
  refine Bool.eq_false_iff.mpr fun z => hn ?_
  unfold leadsB at z
  have := List.all_eq_true.mp z p hp
  rw [Bool.and_eq_true, decide_eq_true_eq, decide_eq_true_eq] at this
  exact this
theorem leads_yes {row beh : List (Int × Int)} {g : Int} (h : ∀ p ∈ row, p ∈ beh ∧ (p.1 + g, p.2 + 1) ∈ beh) : leadsB row g beh = true := by
  unfold leadsB
  refine List.all_eq_true.mpr fun p hp => ?_
  rw [Bool.and_eq_true, decide_eq_true_eq, decide_eq_true_eq]
  exact h p hp
theorem holds_no {hs : List Int} {due : Int} {rows : List (List (Int × Int))} {own : Int × Int} {i : Nat} (hi : i < hs.length) (h : leadsB (rows.getD i []) (hs.getD i 0) (rows.getD (i + 1) []) = false) : holdsB hs due rows own = false := by
  unfold holdsB
  have : ((List.range hs.length).all fun i => leadsB (rows.getD i []) (hs.getD i 0) (rows.getD (i + 1) [])) = false := by
    refine Bool.eq_false_iff.mpr fun z => ?_
    have := List.all_eq_true.mp z i (List.mem_range.mpr hi)
    rw [h] at this
    exact absurd this (by decide)
  rw [this, Bool.false_and]
theorem holds_yes {hs : List Int} {due : Int} {rows : List (List (Int × Int))} {own : Int × Int} (h : ∀ i, i < hs.length → leadsB (rows.getD i []) (hs.getD i 0) (rows.getD (i + 1) []) = true) :
    holdsB hs due rows own = !((rows.getD hs.length []).any fun p => decide (due ≤ p.1) && decide (Plt p own)) := by
  unfold holdsB
  have : ((List.range hs.length).all fun i => leadsB (rows.getD i []) (hs.getD i 0) (rows.getD (i + 1) [])) = true := List.all_eq_true.mpr fun i hi => h i (List.mem_range.mp hi)
  rw [this, Bool.true_and]
theorem filt_yes {α : Type} (f : α → Bool) (l : List α) (i : Nat) {x : α} (h : l[i]? = some x) (hx : f x = true) : (l.take (i + 1)).filter f = (l.take i).filter f ++ [x] := by
  rw [take_succ_of h, List.filter_append, List.filter_cons_of_pos hx]; rfl
theorem filt_no {α : Type} (f : α → Bool) (l : List α) (i : Nat) {x : α} (h : l[i]? = some x) (hx : f x = false) : (l.take (i + 1)).filter f = (l.take i).filter f := by
  rw [take_succ_of h, List.filter_append, List.filter_cons_of_neg (by rw [hx]; exact Bool.false_ne_true), List.filter_nil, List.append_nil]
theorem ones_empty {α : Type} (l : List α) (f : α → Bool) : ((l.filter f).map fun _ => (1 : Int)).isEmpty = !(l.any f) := by
  induction l with
  | nil => rfl
  | cons x l ih =>
    rw [List.any_cons]
    cases hx : f x with
    | true => rw [List.filter_cons_of_pos hx]; rfl
    | false => rw [List.filter_cons_of_neg (by rw [hx]; exact Bool.false_ne_true), ih]; rfl
section
variable {P : Program} {w : World} {K : PySem.W.Frag} {mg : Str → Option Value} {base : Heap}
theorem ok_lhold {f f1 f2 f3 f4 : Addr} {fd fd1 fd2 fd3 fd4 : FuncData} (D : Dn K mg "_law_holds" 24 ["_law_grains_here", "_law_due_here", "_law_thing"] f fd) (D1 : Dn K mg "_law_whole" 20 ["_law_thing"] f1 fd1) (D2 : Dn K mg "_law_rises" 21 ["_law_thing"] f2 fd2)
    (D3 : Dn K mg "_law_is_row" 22 ["_law_thing"] f3 fd3) (D4 : Dn K mg "_law_is_chosen" 23 ["_law_grains_here", "_law_due_here", "_law_thing"] f4 fd4) (B : Bl mg) :
    FnOk P w K mg base CX0 3 f fd ["_law_grains_here", "_law_due_here", "_law_thing"] spHold := by
  have G3 : FnOk P w K mg base CX0 2 f3 fd3 ["_law_thing"] spRow := ok_lrow D3 D1 D2 B
  have G4 : FnOk P w K mg base CX0 2 f4 fd4 ["_law_grains_here", "_law_due_here", "_law_thing"] spLCho := ok_lcho D4 D1 D2 B
  refine D.fn.ok scLHold (fun vs H Q E h => ?_) (fun cdv A outer s H vs Q E hr h => ?_)
  · obtain ⟨a, t, c, r, hs, due, cs, rows, rfl, _⟩ := h
    rfl
  · obtain ⟨a, t, c, r, hs, due, cs, rows, rfl, ha, h8, ht, hc, hpw, hbd, hc8, hdue, ⟨rs, r1, r2, rfl⟩, hpap, q⟩ := h
    have hu := hr.units
    have hu5 := room65 hr
    have hl : _ < cLine := Nat.lt_of_le_of_lt (Nat.le_add_right _ 64) hr.units
    have hl1 : _ + 1 < cLine := Nat.lt_of_le_of_lt (Nat.add_le_add_left (show 1 ≤ 64 by decide) _) hr.units
    have hrl : rs.length = hs.length + 1 := by have := hpap.len; rwa [List.length_map] at this
    refine ⟨_, (pss_cons (ps_if (PW.pt (pw_or (pt_not (pt_val (pe_callB call_isi (by rfl) B.isinstance boot_isinstance (pa_cons (pv 2) (pa_cons (pe_bltn (v := .ty "tuple") (by rfl) B.tuple PyProof.Rows.boot_tuple rfl) pa_nil))))) (pw_or (pt_cmpR op_ne (pe_callB call_len_seq (by rfl) B.len PySem.boot_len (pa_cons (pv 2) pa_nil)) pe_int (nomark _)) (pw_or1 (pt_not (pt_val (pe_call G4 hr (by rfl) D4.gl D4.kp D4.bi .nil pass0 (pa_cons (pv 0) (pa_cons (pv 1) (pa_cons (pe_ix ix_tup (pv 2) pe_int (fun _ _ => rfl)) pa_nil)))))))))) (pss_one (ps_ret pe_bl)) pss_nil)
      (pss_cons (ps_set (i := 3) scLHold.nd rfl (.inl rfl) (pe_ix ix_tup (pv 2) pe_int (fun _ _ => rfl)))
      (pss_cons (ps_if (PW.pt (pw_or (pt_not (pt_val (pe_callB call_isi (by rfl) B.isinstance boot_isinstance (pa_cons (pv 3) (pa_cons (pe_bltn (v := .ty "tuple") (by rfl) B.tuple PyProof.Rows.boot_tuple rfl) pa_nil))))) (pw_or1 (pt_cmpR op_ne (pe_callB call_len_seq (by rfl) B.len PySem.boot_len (pa_cons (pv 3) pa_nil)) (pe_op op_add (pe_callB call_len_seq (by rfl) B.len PySem.boot_len (pa_cons (pv 0) pa_nil)) pe_int) (nomark _))))) (pss_one (ps_ret pe_bl)) pss_nil)
      (pss_cons (ps_if (PW.pt (pw_or (pt_cmpR (op_neD hu) (pe_lc (own := [("_law_row", 10)]) (g := gName 10) (tt := (tNot (tB (tCall spRow [] E (tCons (tVar 10) tNil))))) (te := (tC (.int 1))) (by rfl) scLHold.nd (pi_tup (pv 3)) (blkOk_by (own := [("_law_row", 10)]) (N := nLHold) (sc := defScope (top 24)) (by decide +kernel)) (fun _ _ _ _ _ => (pg_name (i := 10) scLHold.nd rfl (.inl rfl))) (fun _ _ _ _ _ => pts_one (pt_not (pt_val (pe_call G3 hr (by rfl) D3.gl D3.kp D3.bi .nil pass0 (pa_cons (pv 10) pa_nil))))) (fun _ _ _ _ _ => pe_int)) (pe_lst pa_nil) (nomark _)) (pw_or1 (pt_cmpR (op_notInT hu5) (pe_tup (pa_cons pe_int (pa_cons pe_int pa_nil))) (pe_ix ix_tup (pv 3) pe_int (fun _ _ => rfl)) (by rfl))))) (pss_one (ps_ret pe_bl)) pss_nil)
      (pss_cons (ps_for PassesOwn.never rfl (pi_enumT (by rfl) B.enumerate (pa_cons (pv 0) pa_nil)) (pg_tup rfl (pgs_cons (pg_name (i := 4) scLHold.nd rfl (.inl rfl)) (pgs_cons (pg_name (i := 5) scLHold.nd rfl (.inl rfl)) pgs_nil))) (pss_cons (ps_set (i := 6) scLHold.nd rfl (.inl rfl) (pe_callTy (call_dictP2 rfl hu) (by rfl) B.dict PyProof.Rows.boot_dict (pa_cons (pe_lc (own := [("_law_pair", 11)]) (g := gName 11) (tt := tYes) (te := (tTup (tCons (tVar 11) (tCons (tC (.bl true)) tNil)))) (by rfl) scLHold.nd (pi_tup (pe_ix ix_tup (pv 3) (pe_op op_add (pv 4) pe_int) (fun _ _ => rfl))) (blkOk_by (own := [("_law_pair", 11)]) (N := nLHold) (sc := defScope (top 24)) (by decide +kernel)) (fun _ _ _ _ _ => (pg_name (i := 11) scLHold.nd rfl (.inl rfl))) (fun _ _ _ _ _ => pts_nil) (fun _ _ _ _ _ => (pe_tup (pa_cons (pv 11) (pa_cons pe_bl pa_nil))))) pa_nil)))
      (pss_one (ps_for PassesOwn.never rfl (pi_tup (pe_ix ix_tup (pv 3) (pv 4) (fun _ _ => rfl))) (pg_tup rfl (pgs_cons (pg_name (i := 7) scLHold.nd rfl (.inl rfl)) (pgs_cons (pg_name (i := 8) scLHold.nd rfl (.inl rfl)) pgs_nil))) (pss_one (ps_if (PW.pt (pw_or (pt_cmp (pc_dnotin hl1 (pe_tup (pa_cons (pv 7) (pa_cons (pv 8) pa_nil))) (pv 6)) (by rfl)) (pw_or1 (pt_cmp (pc_dnotin hl1 (pe_tup (pa_cons (pe_op op_add (pv 7) (pv 5)) (pa_cons (pe_op op_add (pv 8) pe_int) pa_nil))) (pv 6)) (by rfl))))) (pss_one (ps_ret pe_bl)) pss_nil))))))
      (pss_cons (ps_set (i := 9) scLHold.nd rfl (.inr rfl) (pe_tup (pa_cons (pe_callB (cr_sum rfl) (by rfl) B.sum PyProof.Rows.boot_sum (pa_cons (pe_lc (own := [("_law_number", 4)]) (g := gName 4) (tt := tYes) (te := (tOp (rIxT K) (tVar 0) (tVar 4))) (by rfl) scLHold.nd (pi_tup (pe_ix ix_tup (pv 2) pe_int (fun _ _ => rfl))) (blkOk_by (own := [("_law_number", 4)]) (N := nLHold) (sc := defScope (top 24)) (by decide +kernel)) (fun _ _ _ _ _ => (pg_name (i := 4) scLHold.nd rfl (.inl rfl))) (fun _ _ _ _ _ => pts_nil) (fun _ _ _ _ _ => (pe_ix ix_tup (pv 0) (pv 4) (fun _ _ => rfl)))) pa_nil)) (pa_cons (pe_callB call_len_seq (by rfl) B.len PySem.boot_len (pa_cons (pe_ix ix_tup (pv 2) pe_int (fun _ _ => rfl)) pa_nil)) pa_nil))))
      (pss_one (ps_ret (pe_cmpR (op_eqD hu) (pe_lc (own := [("_law_pair", 11)]) (g := gName 11) (tt := (tAnd (tTest (tOp (rI0 fun i j => .bl (decide (j ≤ i))) (tOp (rIxT K) (tVar 11) (tC (.int 0))) (tVar 1))) (tTest (tOp (rLess K) (tVar 11) (tVar 9))))) (te := (tC (.int 1))) (by rfl) scLHold.nd (pi_tup (pe_ix ix_tup (pv 3) (pe_un un_neg pe_int) (fun _ _ => rfl))) (blkOk_by (own := [("_law_pair", 11)]) (N := nLHold) (sc := defScope (top 24)) (by decide +kernel)) (fun _ _ _ _ _ => (pg_name (i := 11) scLHold.nd rfl (.inl rfl))) (fun _ _ _ _ _ => pts_one (PW.pt (pw_and (pt_cmpR op_ge (pe_ix ix_tup (pv 11) pe_int (fun _ _ => rfl)) (pv 1) (nomark _)) (pw_and1 (pt_cmpR (op_less hl) (pv 11) (pv 9) (nomark _)))))) (fun _ _ _ _ _ => pe_int)) (pe_lst pa_nil) (nomark _)))))))))), ?_⟩
    -- the thing, its length, _law_is_chosen
    refine ⟨.ref t, rfl, isi_tup ht ⟨true, rfl, iteF ?_⟩⟩
    refine ⟨.ref t, rfl, t, _, rfl, .inr (SqT.of ht), rfl, false, len_ne rfl, iteF ?_⟩
    refine ⟨.ref a, rfl, .int due, rfl, .ref t, rfl, t, _, 0, .ref c, rfl, rfl, SqT.of ht, atI_nat (j := 0) rfl, a, c, hs, due, cs, rfl, ha, hc, hpw, hbd, hc8, hdue, fun H1 s1 => ⟨true, rfl, iteF ?_⟩⟩
    refine ⟨.ref t, rfl, t, _, 1, .ref r, rfl, rfl, SqT.of (s1 _ _ ht), atI_nat (j := 1) rfl, ?_⟩
    refine ⟨.ref r, rfl, isi_tup (s1 _ _ r1) ⟨true, rfl, iteF ?_⟩⟩
    refine ⟨.ref r, rfl, r, _, rfl, .inr (SqT.of (s1 _ _ r1)), .ref a, rfl, a, _, rfl, .inr (SqT.of (s1 _ _ ha)), _, _, rfl, rfl, rfl, false, len_ne (by rw [List.length_map, List.length_map, hrl]; rfl), iteF ?_⟩
    -- all rows are rows
    refine ⟨.ref r, rfl, r, rfl, ⟨_, SqT.of (s1 _ _ r1)⟩, fun d nd => ?_⟩
    refine lc_same (walk_tup (xs := rs.map fun x => V.ref x.1)) (fun _ => []) rfl nd (fun i hi => by show 0 ≤ 1000000; omega) (fun H s => SqT.of (s _ _ (s1 _ _ r1))) at_same ?_ ?_
    · rintro i x H4 H4' hi s4 ⟨rfl, hx⟩ RR NN kR kN
      rw [List.getElem?_map] at hx
      obtain ⟨k, hk, rfl⟩ := Option.map_eq_some_iff.mp hx
      have hkm := List.mem_of_getElem? hk
      exact ⟨rfl, .ref k.1, rfl, k.1, k.2, rfl, ((r2 k hkm).same s1).same s4, hpap.row _ (List.mem_map.mpr ⟨k, hkm, rfl⟩), fun H' s' => ⟨true, rfl, iteF (kN _ rfl s')⟩⟩
    intro H4 s4 hd
    refine ⟨(by show 0 ≤ sizeLine; decide), fun e ne => nil_ne (same_new ne _ _ hd) upd_same ⟨false, rfl, iteF ?_⟩⟩
    have s5 := s1.trans (s4.trans (same_new (o := .lst []) ne))
    generalize upd H4 e (.lst []) = H5 at s5
    -- (0, 0) in paper[0]
    refine ⟨(by show 2 ≤ sizeLine; decide), fun z nz => ?_⟩
    have s6 := s5.trans (same_new (o := .tup [.int 0, .int 0]) nz)
    have hz : upd H5 z (.tup [.int 0, .int 0]) z = some (.tup [.int 0, .int 0]) := upd_same
    generalize upd H5 z (.tup [.int 0, .int 0]) = H6 at s6 hz
    have hr0 : ∃ x0, rs[0]? = some x0 ∧ (0, 0) ∈ x0.2 := by
      have hz0 := hpap.zero
      rw [List.getD_eq_getElem?_getD, List.getElem?_map] at hz0
      have : 0 < rs.length := by omega
      exact ⟨rs[0], List.getElem?_eq_getElem this, by rw [List.getElem?_eq_getElem this] at hz0; exact hz0⟩
    obtain ⟨x0, hx0, hz0⟩ := hr0
    refine ⟨.ref r, rfl, r, _, 0, .ref x0.1, rfl, rfl, SqT.of (s6 _ _ r1), atI_nat (j := 0) (by rw [List.getElem?_map, hx0]; rfl), in_paper (p := (0, 0)) ((r2 x0 (List.mem_of_getElem? hx0)).same s6) hz hz0 ⟨_, rfl, iteF ?_⟩⟩
    -- the rows lead on
    refine ⟨.ref a, rfl, a, hs.map V.int, rfl, SqT.of (s6 _ _ ha), for_it walk_enumT (fun i σ H7 => ∃ y4 y5 y6 y7 y8 y9 y10 y11 : Option V, σ = [some (.ref a), some (.int due), some (.ref t), some (.ref r), y4, y5, y6, y7, y8, y9, y10, y11] ∧ Same H H7 ∧
        ∀ j, j < i → leadsB ((rs.map (·.2)).getD j []) (hs.getD j 0) ((rs.map (·.2)).getD (j + 1) []) = true) ⟨none, none, none, none, none, none, none, none, rfl, s6, fun j hj => absurd hj (Nat.not_lt_zero j)⟩
      (fun i σ H7 _ ⟨_, _, _, _, _, _, _, _, _, s7, _⟩ => SqT.of (s7 _ _ ha)) ?_ ?_⟩
    · rintro i x σ H7 H7' hi ⟨y4, y5, y6, y7, y8, y9, y10, y11, rfl, s7, hin⟩ ⟨T, x, rfl, nT, rfl, hx⟩
      rw [List.length_map] at hi
      rw [List.getElem?_map] at hx
      obtain ⟨g, hg, rfl⟩ := Option.map_eq_some_iff.mp hx
      obtain ⟨k0, hk0⟩ : ∃ k0, rs[i]? = some k0 := ⟨_, List.getElem?_eq_getElem (by omega)⟩
      obtain ⟨k9, hk9⟩ : ∃ k9, rs[i + 1]? = some k9 := ⟨_, List.getElem?_eq_getElem (by omega)⟩
      have e0 : (rs.map (·.2)).getD i [] = k0.2 := getD_of (by rw [List.getElem?_map, hk0]; rfl)
      have e9 : (rs.map (·.2)).getD (i + 1) [] = k9.2 := getD_of (by rw [List.getElem?_map, hk9]; rfl)
      have eg : hs.getD i 0 = g := getD_of hg
      obtain ⟨ks, k1, k2, k3⟩ := r2 k0 (List.mem_of_getElem? hk0)
      obtain ⟨js, j1, j2, j3⟩ := r2 k9 (List.mem_of_getElem? hk9)
      have hbeh := hpap.row _ (List.mem_map.mpr ⟨k9, List.mem_of_getElem? hk9, rfl⟩)
      have hjl : js.length ≤ 256 := by
        have := hbeh.len
        rw [← j3, List.length_map] at this
        exact this
      refine ⟨T, _, rfl, SqT.of upd_same, rfl, _, _, rfl, _, _, rfl, rfl, ?_⟩
      have s8 := s7.trans (same_new (o := .tup [.int (i : Nat), .int g]) nT)
      generalize upd H7 T (.tup [.int (i : Nat), .int g]) = H8 at s8
      refine ⟨.ref r, rfl, _, rfl, _, _, rfl, rfl, r, _, _, .ref k9.1, rfl, rfl, SqT.of (s8 _ _ r1), atI_nat (j := i + 1) (by rw [List.getElem?_map, hk9]; rfl), k9.1, rfl, ⟨_, SqT.of (s8 _ _ j1)⟩, fun m nm => ?_⟩
      refine lc_it (walk_tup (xs := refs js)) (fun i H2 => Trues H2 m (js.take i) ∧ Same H8 H2) ⟨⟨[], upd_same, rfl, fun i T k h => nomatch h⟩, same_new nm⟩ (fun i H2 _ p => SqT.of (p.2 _ _ (s8 _ _ j1))) ?_ ?_
      · rintro i x H2 H2' hi ⟨tr, s2⟩ ⟨rfl, hx⟩
        rw [List.getElem?_map] at hx
        obtain ⟨k, hk, rfl⟩ := Option.map_eq_some_iff.mp hx
        refine ⟨rfl, iteT (B := True) (iteT ?_)⟩
        refine ⟨.ref k.1, rfl, (by show 2 ≤ sizeLine; decide), fun t nt => ?_⟩
        obtain ⟨acc, e1, e2, e3⟩ := tr.snoc (k := k) (acc := []) nt (by rw [List.length_take]; omega)
        refine ⟨acc, e1, e2, by rw [take_succ_of hk]; exact e3, fun b o e => ?_⟩
        rw [upd_ne (ne_of_none e nm)]
        exact same_new nt _ _ (s2 _ _ e)
      rintro H2 ⟨⟨Ts, t1, t2, t3⟩, s9⟩
      rw [List.length_map, List.take_length] at t2 t3
      have s2 := s8.trans s9
      refine ⟨m, Ts, js, rfl, t1, prs_same s2 j2, by rw [j3]; exact hbeh.nodup, t2, t3, fun d nd => ?_⟩
      have hd : upd H2 d (.dT (kvOf js)) d = some (.dT (kvOf js)) := upd_same
      have s3 := s2.trans (same_new (o := .dT (kvOf js)) nd)
      generalize upd H2 d (.dT (kvOf js)) = Hd at hd s3
      refine ⟨.ref r, rfl, _, rfl, r, _, _, .ref k0.1, rfl, rfl, SqT.of (s3 _ _ r1), atI_nat (j := i) (by rw [List.getElem?_map, hk0]; rfl), k0.1, rfl, ⟨_, SqT.of (s3 _ _ k1)⟩, for_it (walk_tup (xs := refs ks)) (fun j σ H4 => ∃ (y7 y8 : Option V), σ = [some (.ref a), some (.int due), some (.ref t), some (.ref r), some (.int (i : Nat)), some (.int g), some (.ref d), y7, y8, y9, y10, y11] ∧ Same Hd H4 ∧
        ∀ p ∈ (ks.map (·.2)).take j, p ∈ js.map (·.2) ∧ (p.1 + g, p.2 + 1) ∈ js.map (·.2)) ⟨_, _, rfl, (fun _ _ e => e), fun p hp => by rw [List.take_zero] at hp; exact nomatch hp⟩
        (fun i σ H4 _ ⟨_, _, _, s4, _⟩ => SqT.of (s4 _ _ (s3 _ _ k1))) ?_ ?_⟩
      · rintro j x σ H4 H4' hj ⟨z7, z8, rfl, s4, hin2⟩ ⟨rfl, hx⟩
        rw [List.getElem?_map] at hx
        obtain ⟨k, hk, rfl⟩ := Option.map_eq_some_iff.mp hx
        have hkm := List.mem_of_getElem? hk
        have no : ¬ (k.2 ∈ js.map (·.2) ∧ (k.2.1 + g, k.2.2 + 1) ∈ js.map (·.2)) → ∀ H', Same H H' → Q (.bl false) H' := fun hn H' s' => by
          have := q H' s'
          rw [holds_no hi (by rw [e0, e9, eg, ← j3]; exact leads_no (by rw [← k3]; exact List.mem_map.mpr ⟨k, hkm, rfl⟩) hn)] at this
          exact this
        refine ⟨k.1, _, rfl, SqT.of (s4 _ _ (s3 _ _ (k2 k hkm))), rfl, _, _, rfl, _, _, rfl, rfl, ?_⟩
        refine ⟨_, rfl, _, rfl, (by show 2 ≤ sizeLine; decide), fun t nt => ⟨.ref d, rfl, ?_⟩⟩
        have st := same_new (o := .tup [.int k.2.1, .int k.2.2]) nt
        refine ⟨d, _, rfl, DGet.t (k := [Sum.inl k.2.1, Sum.inl k.2.2]) (st _ _ (s4 _ _ hd)) upd_same, _, dec_kv js k.2, ite2 (fun e => ?_) fun e => ?_⟩
        · have hn : k.2 ∉ js.map (·.2) := fun z => by rw [decide_eq_true z] at e; exact absurd e (by decide)
          exact iteT (no (fun z => hn z.1) _ (s3.trans (s4.trans st)))
        · have hy : k.2 ∈ js.map (·.2) := Classical.byContradiction fun z => e (by rw [decide_eq_false z]; rfl)
          refine ⟨_, rfl, _, rfl, _, _, rfl, rfl, _, rfl, _, _, rfl, rfl, (by show 2 ≤ sizeLine; decide), fun t2 nt2 => ⟨.ref d, rfl, ?_⟩⟩
          have st2 := st.trans (same_new (o := .tup [.int (k.2.1 + g), .int (k.2.2 + 1)]) nt2)
          refine ⟨d, _, rfl, DGet.t (k := [Sum.inl (k.2.1 + g), Sum.inl (k.2.2 + 1)]) (st2 _ _ (s4 _ _ hd)) upd_same, _, dec_kv js (k.2.1 + g, k.2.2 + 1), ite2 (fun e2 => ?_) fun e2 => ?_⟩
          · have hn : (k.2.1 + g, k.2.2 + 1) ∉ js.map (·.2) := fun z => by rw [decide_eq_true z] at e2; exact absurd e2 (by decide)
            exact no (fun z => hn z.2) _ (s3.trans (s4.trans st2))
          · have hy2 : (k.2.1 + g, k.2.2 + 1) ∈ js.map (·.2) := Classical.byContradiction fun z => e2 (by rw [decide_eq_false z]; rfl)
            refine ⟨_, _, rfl, s4.trans st2, fun p hp => ?_⟩
            rw [take_succ_of (x := k.2) (by rw [List.getElem?_map, hk]; rfl), List.mem_append] at hp
            rcases hp with hp | hp
            · exact hin2 p hp
            · rw [List.mem_singleton.mp hp]; exact ⟨hy, hy2⟩
      · rintro σ H4 ⟨z7, z8, rfl, s4, hin2⟩
        refine ⟨_, _, _, _, _, _, _, _, rfl, s3.trans s4, fun j hj => ?_⟩
        rcases Nat.lt_succ_iff_lt_or_eq.mp hj with hj | rfl
        · exact hin j hj
        · rw [e0, e9, eg, ← k3, ← j3]
          refine leads_yes fun p hp => hin2 p ?_
          rw [List.length_map, ← List.length_map (f := (·.2)) (as := ks), List.take_length]
          exact hp
    · rintro σ H7 ⟨y4, y5, y6, y7, y8, y9, y10, y11, rfl, s7, hin⟩
      rw [List.length_map] at hin
      -- own
      refine ⟨.ref t, rfl, t, _, 0, .ref c, rfl, rfl, SqT.of (s7 _ _ ht), atI_nat (j := 0) rfl, c, rfl, ⟨_, SqT.of (s7 _ _ hc)⟩, fun m nm => ?_⟩
      refine lc_same (walk_tup (xs := nts cs)) (fun j => ((cs.take j).map fun (i : Nat) => hs.getD i 0).map V.int) rfl nm (fun i hi => ?_) (fun H s => SqT.of (s _ _ (s7 _ _ hc))) at_same ?_ ?_
      · rw [List.length_map, List.length_map, List.length_take]; omega
      · rintro i x H2 H2' hi s2 ⟨rfl, hx⟩ RR NN kR kN
        rw [List.getElem?_map] at hx
        obtain ⟨k, hk, rfl⟩ := Option.map_eq_some_iff.mp hx
        have hkb := hbd k (List.mem_of_getElem? hk)
        have hgk : hs[k]? = some hs[k] := List.getElem?_eq_getElem hkb
        refine ⟨rfl, iteT (B := True) (iteT ?_)⟩
        refine ⟨.ref a, rfl, _, rfl, a, hs.map V.int, _, .int hs[k], rfl, rfl, SqT.of (s2 _ _ (s7 _ _ ha)), atI_nat (by rw [List.getElem?_map, hgk]; rfl), kR _ _ ?_ fun _ _ e => e⟩
        rw [map_snoc _ _ _ hk, List.map_append, getD_of hgk]; rfl
      intro H8 s8 hm
      rw [map_take_all _ _ _ (by rw [List.length_map])] at hm
      have s78 := s7.trans s8
      refine ⟨m, _, rfl, SqL.of hm, ?_⟩
      rw [sum_ints]
      refine ⟨.ref t, rfl, t, _, 0, .ref c, rfl, rfl, SqT.of (s78 _ _ ht), atI_nat (j := 0) rfl, c, nts cs, rfl, .inr (SqT.of (s78 _ _ hc)), ?_⟩
      rw [List.length_map]
      refine ⟨(by show 2 ≤ sizeLine; decide), fun o no => ?_⟩
      have ho : upd H8 o (.tup [.int (gsum hs cs), .int (cs.length : Nat)]) o = some (.tup [.int (gsum hs cs), .int (cs.length : Nat)]) := upd_same
      have s9 := s78.trans (same_new (o := .tup [.int (gsum hs cs), .int (cs.length : Nat)]) no)
      generalize upd H8 o (.tup [.int (gsum hs cs), .int (cs.length : Nat)]) = H9 at ho s9
      -- none in the last row is better
      obtain ⟨xl, hxl⟩ : ∃ xl, rs[hs.length]? = some xl := ⟨_, List.getElem?_eq_getElem (by omega)⟩
      have hls : atI (rs.map fun x => V.ref x.1) (-1) = some (.ref xl.1) := by
        obtain ⟨ys, rfl⟩ := last_of hrl hxl
        rw [List.map_append]
        exact atI_last _ _
      obtain ⟨ks, k1, k2, k3⟩ := r2 xl (List.mem_of_getElem? hxl)
      have hkl : ks.length ≤ 256 := by
        have := (hpap.row _ (List.mem_map.mpr ⟨xl, List.mem_of_getElem? hxl, rfl⟩)).len
        rw [← k3, List.length_map] at this
        exact this
      refine ⟨.ref r, rfl, _, rfl, r, _, _, _, rfl, rfl, SqT.of (s9 _ _ r1), hls, xl.1, rfl, ⟨_, SqT.of (s9 _ _ k1)⟩, fun d nd => ?_⟩
      refine lc_same (walk_tup (xs := refs ks)) (fun j => (((ks.take j).filter fun k => decide (due ≤ k.2.1) && decide (Plt k.2 (gsum hs cs, (cs.length : Int)))).map fun _ => (1 : Int)).map V.int) rfl nd (fun i hi => ?_) (fun H s => SqT.of (s _ _ (s9 _ _ k1))) at_same ?_ ?_
      · rw [List.length_map, List.length_map]
        have h1 := List.length_filter_le (fun k : Addr × Int × Int => decide (due ≤ k.2.1) && decide (Plt k.2 (gsum hs cs, (cs.length : Int)))) (ks.take i)
        rw [List.length_take] at h1
        omega
      · rintro i x H2 H2' hi s2 ⟨rfl, hx⟩ RR NN kR kN
        rw [List.getElem?_map] at hx
        obtain ⟨k, hk, rfl⟩ := Option.map_eq_some_iff.mp hx
        have hk1 := s2 _ _ (s9 _ _ (k2 k (List.mem_of_getElem? hk)))
        have out : ∀ b, (decide (due ≤ k.2.1) && decide (Plt k.2 (gsum hs cs, (cs.length : Int)))) = b → (if b = true then RR (.int 1) H2' else NN H2') := fun b hb => by
          cases b with
          | true =>
            refine iteT (kR _ _ ?_ fun _ _ e => e)
            rw [filt_yes (fun k : Addr × Int × Int => decide (due ≤ k.2.1) && decide (Plt k.2 (gsum hs cs, (cs.length : Int)))) ks i hk hb, List.map_append, List.map_append]; rfl
          | false =>
            refine iteF (kN _ ?_ fun _ _ e => e)
            rw [filt_no (fun k : Addr × Int × Int => decide (due ≤ k.2.1) && decide (Plt k.2 (gsum hs cs, (cs.length : Int)))) ks i hk hb]
        refine ⟨rfl, .ref k.1, rfl, k.1, _, 0, .int k.2.1, rfl, rfl, SqT.of hk1, atI_nat (j := 0) rfl, _, rfl, _, _, rfl, rfl, _, rfl, ite2 (fun e => ?_) (fun e => ?_)⟩
        · refine ⟨.ref k.1, rfl, .ref o, rfl, .inr ⟨k.1, o, [k.2.1, k.2.2], [gsum hs cs, (cs.length : Int)], rfl, rfl, SqT.of hk1, SqT.of (s2 _ _ ho), _, rfl, ?_⟩⟩
          refine out _ ?_
          rw [e, Bool.true_and]
          exact (lex_pair k.2 (gsum hs cs, (cs.length : Int))).symm
        · have e' : decide (due ≤ k.2.1) = false := Bool.eq_false_iff.mpr e
          have := out false (by rw [e', Bool.false_and])
          exact this
      intro H2 s2 hd2
      refine ⟨(by show 0 ≤ sizeLine; decide), fun e ne => ones_eq (same_new ne _ _ hd2) upd_same ?_⟩
      have := q _ (s9.trans (s2.trans (same_new (o := .lst []) ne)))
      rw [holds_yes hin, getD_of (l := rs.map (·.2)) (x := xl.2) (by rw [List.getElem?_map, hxl]; rfl), ← k3, List.any_map] at this
      rw [ones_empty, List.length_map, List.take_length]
      exact this
end
end K65P
namespace K65P
open PySem PySem.Spec PyProof.Rows L2 K65 K65S RZ
theorem deck_fresh {H : Hp} {d x : Addr} (h : DeckAt H d) (n : H x = none) : x ≠ d := by
  obtain ⟨a, b, c, e, _⟩ := h
  exact (ne_of_none e n).symm
theorem but_free {d x : Addr} {H H' : Hp} (b : But d H H') (dk : DeckAt H' d) (n : H' x = none) : H x = none := by
  cases e : H x with
  | none => rfl
  | some o => rw [b x o e (deck_fresh dk n)] at n; exact nomatch n
theorem but_new {d x : Addr} {H H' : Hp} {o : HO} (b : But d H H') (n : H x = none) : But d H (upd H' x o) := fun c o' e ne => by
  rw [upd_ne (ne_of_none e n)]
  exact b c o' e ne
theorem pick2i (k : Bool) (a b : Int) : atI [V.int a, V.int b] (if k = true then 1 else 0) = some (V.int (if k = true then b else a)) := by cases k <;> rfl
theorem pick57 {a : Int} (h0 : 0 ≤ a) (h1 : a < 2) : atI [V.int 5, V.int 7] a = some (V.int (5 + 2 * a)) := by
  have : a = 0 ∨ a = 1 := by omega
  rcases this with rfl | rfl <;> rfl
def Gr (g : Int) : Prop := 1 ≤ g ∧ g ≤ 120000
theorem pick5 {a b c e f w : Int} (ha : Gr a) (hb : Gr b) (hc : Gr c) (he : Gr e) (hf : Gr f) (h0 : 0 ≤ w) (h1 : w < 5) : ∃ g, atI [V.int a, V.int b, V.int c, V.int e, V.int f] w = some (V.int g) ∧ Gr g := by
  have : w = 0 ∨ w = 1 ∨ w = 2 ∨ w = 3 ∨ w = 4 := by omega
  rcases this with rfl | rfl | rfl | rfl | rfl
  · exact ⟨a, rfl, ha⟩
  · exact ⟨b, rfl, hb⟩
  · exact ⟨c, rfl, hc⟩
  · exact ⟨e, rfl, he⟩
  · exact ⟨f, rfl, hf⟩
theorem shl_gr {i : Nat} (h : i < 8) : Gr (1 * 2 ^ ((0 : Int) + (i : Int)).toNat) := by
  have e : ((0 : Int) + (i : Int)).toNat = i := by omega
  rw [e, Int.one_mul]
  have : i = 0 ∨ i = 1 ∨ i = 2 ∨ i = 3 ∨ i = 4 ∨ i = 5 ∨ i = 6 ∨ i = 7 := by omega
  rcases this with rfl | rfl | rfl | rfl | rfl | rfl | rfl | rfl <;> exact ⟨by decide, by decide⟩
section
variable {P : Program} {w : World} {K : PySem.W.Frag} {mg : Str → Option Value} {base : Heap}
/-- _law_grains with least 1 -/
def spGr : Sp := fun vs H Q _ => ∃ d : Addr, vs = [.ref d, .int 1] ∧ DeckAt H d ∧ ∀ H' p gs, But d H H' → DeckAt H' d → TupI H' p gs → Gs gs → (∀ g ∈ gs, g ≤ 120000) → Q (.ref p) H'
theorem ok_gr {f f1 : Addr} {fd fd1 : FuncData} (D : Dn K mg "_law_grains" 16 ["_law_deck_here", "_law_least"] f fd) (D1 : Dn K mg "_law_draw" 15 ["_law_deck_here", "_law_most"] f1 fd1) (B : Bl mg) :
    FnOk P w K mg base CX0 2 f fd ["_law_deck_here", "_law_least"] spGr := by
  have G1 : FnOk P w K mg base CX0 1 f1 fd1 ["_law_deck_here", "_law_most"] spDraw := ok_draw D1
  refine D.fn.ok scGr (fun vs H Q E h => ?_) (fun cdv A outer s H vs Q E hr h => ?_)
  · obtain ⟨d, rfl, _⟩ := h
    rfl
  · obtain ⟨d, rfl, hD, q⟩ := h
    refine ⟨_, (pss_cons (ps_set (i := 2) scGr.nd rfl (.inl rfl) (pe_call G1 hr (by rfl) D1.gl D1.kp D1.bi .nil pass0 (pa_cons (pv 0) (pa_cons pe_int pa_nil))))
      (pss_cons (ps_set (i := 3) scGr.nd rfl (.inl rfl) (pe_ix ix_list (pe_lst (pa_cons (pe_op op_add (pv 1) (pe_call G1 hr (by rfl) D1.gl D1.kp D1.bi .nil pass0 (pa_cons (pv 0) (pa_cons pe_int pa_nil)))) (pa_cons pe_int pa_nil))) (pe_callTy call_int1 (by rfl) B.int PyProof.Rows.boot_int (pa_cons (pe_cmpR op_eq (pe_call G1 hr (by rfl) D1.gl D1.kp D1.bi .nil pass0 (pa_cons (pv 0) (pa_cons pe_int pa_nil))) pe_int (nomark _)) pa_nil)) (fun _ _ => rfl)))
      (pss_cons (ps_set (i := 4) scGr.nd rfl (.inl rfl) (pe_lst pa_nil))
      (pss_cons (ps_for PassesOwn.never rfl (pi_range1 (by rfl) B.range (pa_cons (pe_callB (call_min2 rfl) (by rfl) B.min PyProof.Rows.boot_min (pa_cons pe_int (pa_cons (pv 3) pa_nil))) pa_nil)) (pg_name (i := 5) scGr.nd rfl (.inl rfl)) (pss_cons (ps_set (i := 6) scGr.nd rfl (.inl rfl) (pe_lst (pa_cons (pe_op op_add pe_int (pe_call G1 hr (by rfl) D1.gl D1.kp D1.bi .nil pass0 (pa_cons (pv 0) (pa_cons pe_int pa_nil)))) (pa_cons (pe_op op_add pe_int (pe_call G1 hr (by rfl) D1.gl D1.kp D1.bi .nil pass0 (pa_cons (pv 0) (pa_cons pe_int pa_nil)))) (pa_cons (pe_op op_shl pe_int (pv 5)) (pa_cons (pe_op op_add pe_int (pe_call G1 hr (by rfl) D1.gl D1.kp D1.bi .nil pass0 (pa_cons (pv 0) (pa_cons pe_int pa_nil)))) pa_nil))))))
      (pss_cons (ps_expr (pe_bm PySem.F.plainAttrs_list PySem.F.slot_list_append PySem.F.type_list_append mt_append (pv 6) (pa_cons (pe_ix ix_list (pe_lst (pa_cons pe_int (pa_cons pe_int pa_nil))) (pe_call G1 hr (by rfl) D1.gl D1.kp D1.bi .nil pass0 (pa_cons (pv 0) (pa_cons pe_int pa_nil))) (fun _ _ => rfl)) pa_nil)))
      (pss_one (ps_expr (pe_bm PySem.F.plainAttrs_list PySem.F.slot_list_append PySem.F.type_list_append mt_append (pv 4) (pa_cons (pe_ix ix_list (pv 6) (pv 2) (fun _ _ => rfl)) pa_nil)))))))
      (pss_one (ps_ret (pe_callTy call_tuple_of (by rfl) B.tuple PyProof.Rows.boot_tuple (pa_cons (pv 4) pa_nil)))))))), ?_⟩
    refine ⟨.ref d, rfl, d, 5, rfl, hD, by decide, by decide, fun H1 wy w0 w1 D1 b1 => ?_⟩
    refine ⟨_, rfl, .ref d, rfl, d, 6, rfl, D1, by decide, by decide, fun H2 r2 r20 r21 D2 b2 => ⟨_, _, rfl, rfl, (by show 2 ≤ sizeLine; decide), fun l nl => ?_⟩⟩
    refine ⟨.ref d, rfl, d, 4, rfl, D2.same (same_new nl), by decide, by decide, fun H3 r3 r30 r31 D3 b3 => ⟨rfl, .inr ⟨_, rfl, l, _, _, _, rfl, rfl, SqL.of (b3 l _ upd_same (deck_fresh D2 nl)), pick2i _ _ _, ?_⟩⟩⟩
    generalize hmany : (if decide (V.int r3 = V.int 1) = true then (8 : Int) else 1 + r2) = many
    have hm : 1 ≤ many ∧ many ≤ 8 := by
      rw [← hmany]
      split
      · omega
      · omega
    have b13 : But d H H3 := b1.trans (b2.trans ((But.of_same (same_new nl)).trans b3))
    refine ⟨(by show 0 ≤ sizeLine; decide), fun fnd nf => ?_⟩
    have hnH : H fnd = none := but_free b13 D3 nf
    have fd_ne : fnd ≠ d := deck_fresh D3 nf
    refine ⟨_, rfl, _, _, rfl, _, rfl, ?_, ?_, ?_⟩
    · split <;> omega
    · split <;> omega
    generalize hn : (if many < 8 then many else 8).toNat = n
    have hn8 : 1 ≤ n ∧ n ≤ 8 := by
      rw [← hn]
      split <;> omega
    refine for_it walk_range (fun i σ H4 => ∃ (gs : List Int) (y5 y6 : Option V), σ = [some (.ref d), some (.int 1), some (.int wy), some (.int many), some (.ref fnd), y5, y6] ∧ But d H H4 ∧ DeckAt H4 d ∧ H4 fnd = some (.lst (gs.map V.int)) ∧ gs.length = i ∧ ∀ g ∈ gs, Gr g)
      ⟨[], none, none, rfl, but_new b13 hnH, D3.same (same_new nf), upd_same, rfl, fun g hg => nomatch hg⟩ (fun _ _ _ _ _ => trivial) ?_ ?_
    · rintro i x σ H4 H4' hi ⟨gs, y5, y6, rfl, b4, D4, hf, hl, hg⟩ ⟨rfl, rfl⟩
      refine ⟨.ref d, rfl, d, 4, rfl, D4, by decide, by decide, fun H5 a1 a10 a11 D5 b5 => ⟨_, _, rfl, rfl, ?_⟩⟩
      refine ⟨.ref d, rfl, d, 30, rfl, D5, by decide, by decide, fun H6 a2 a20 a21 D6 b6 => ⟨_, _, rfl, rfl, ?_⟩⟩
      refine ⟨_, rfl, _, _, rfl, rfl, ⟨by omega, by omega, by decide⟩, ?_⟩
      refine ⟨.ref d, rfl, d, 120000, rfl, D6, by decide, by decide, fun H7 a3 a30 a31 D7 b7 => ⟨_, _, rfl, rfl, (by show 4 ≤ sizeLine; decide), fun sm ns => ?_⟩⟩
      have b47 : But d H4' H7 := b5.trans (b6.trans b7)
      have hf7 := b47 _ _ hf fd_ne
      have fs : fnd ≠ sm := ne_of_none hf7 ns
      have sd : sm ≠ d := deck_fresh D7 ns
      have s8 := same_new (o := .lst [.int (1 + a1), .int (1 + a2), .int (1 * 2 ^ ((0 : Int) + (i : Int)).toNat), .int (1 + a3)]) ns
      have hs8 : upd H7 sm (.lst [.int (1 + a1), .int (1 + a2), .int (1 * 2 ^ ((0 : Int) + (i : Int)).toNat), .int (1 + a3)]) sm = some (.lst [.int (1 + a1), .int (1 + a2), .int (1 * 2 ^ ((0 : Int) + (i : Int)).toNat), .int (1 + a3)]) := upd_same
      generalize upd H7 sm (.lst [.int (1 + a1), .int (1 + a2), .int (1 * 2 ^ ((0 : Int) + (i : Int)).toNat), .int (1 + a3)]) = H8 at s8 hs8
      have hns : H sm = none := but_free (b4.trans b47) D7 ns
      have D8 := D7.same s8
      refine ⟨.ref sm, rfl, .inl ⟨rfl, _, .inl (.inl hs8)⟩, (by show 2 ≤ sizeLine; decide), fun l2 nl2 => ?_⟩
      have s9 := same_new (o := .lst [.int 5, .int 7]) nl2
      have hl2 : upd H8 l2 (.lst [.int 5, .int 7]) l2 = some (.lst [.int 5, .int 7]) := upd_same
      generalize upd H8 l2 (.lst [.int 5, .int 7]) = H9 at s9 hl2
      have l2d : l2 ≠ d := deck_fresh D8 nl2
      refine ⟨.ref d, rfl, d, 2, rfl, D8.same s9, by decide, by decide, fun HA a5 a50 a51 DA bA => ⟨l2, _, _, _, rfl, rfl, SqL.of (bA _ _ hl2 l2d), pick57 a50 a51, ?_⟩⟩
      have hsA := bA _ _ (s9 _ _ hs8) sd
      have hfA := bA _ _ (s9 _ _ (s8 _ _ hf7)) fd_ne
      have bHA : But d H HA := b4.trans (b47.trans ((But.of_same (s8.trans s9)).trans bA))
      refine ⟨sm, _, _, rfl, rfl, hsA, (by show 4 < sizeLine; decide), ?_⟩
      have hsB : upd HA sm (.lst ([.int (1 + a1), .int (1 + a2), .int (1 * 2 ^ ((0 : Int) + (i : Int)).toNat), .int (1 + a3)] ++ [.int (5 + 2 * a5)])) sm = some (.lst [.int (1 + a1), .int (1 + a2), .int (1 * 2 ^ ((0 : Int) + (i : Int)).toNat), .int (1 + a3), .int (5 + 2 * a5)]) := upd_same
      have hfB : upd HA sm (.lst ([.int (1 + a1), .int (1 + a2), .int (1 * 2 ^ ((0 : Int) + (i : Int)).toNat), .int (1 + a3)] ++ [.int (5 + 2 * a5)])) fnd = some (.lst (gs.map V.int)) := by rw [upd_ne fs]; exact hfA
      have bHB : But d H (upd HA sm (.lst ([.int (1 + a1), .int (1 + a2), .int (1 * 2 ^ ((0 : Int) + (i : Int)).toNat), .int (1 + a3)] ++ [.int (5 + 2 * a5)]))) := but_new bHA hns
      have DB : DeckAt (upd HA sm (.lst ([.int (1 + a1), .int (1 + a2), .int (1 * 2 ^ ((0 : Int) + (i : Int)).toNat), .int (1 + a3)] ++ [.int (5 + 2 * a5)]))) d := by
        obtain ⟨u, v, z, e, e'⟩ := DA
        exact ⟨u, v, z, by rw [upd_ne sd.symm]; exact e, e'⟩
      generalize upd HA sm (.lst ([.int (1 + a1), .int (1 + a2), .int (1 * 2 ^ ((0 : Int) + (i : Int)).toNat), .int (1 + a3)] ++ [.int (5 + 2 * a5)])) = HB at hsB hfB bHB DB
      obtain ⟨g, hgat, hgr⟩ := pick5 (a := 1 + a1) (b := 1 + a2) (c := 1 * 2 ^ ((0 : Int) + (i : Int)).toNat) (e := 1 + a3) (f := 5 + 2 * a5) ⟨by omega, by omega⟩ ⟨by omega, by omega⟩ (shl_gr (by omega)) ⟨by omega, by omega⟩ ⟨by omega, by omega⟩ w0 w1
      refine ⟨.ref fnd, rfl, .inl ⟨rfl, _, .inl (.inl hfB)⟩, .ref sm, rfl, _, rfl, sm, _, _, _, rfl, rfl, SqL.of hsB, hgat, fnd, _, _, rfl, rfl, hfB, by rw [List.length_map, hl]; exact small' (by omega), ?_⟩
      refine ⟨gs ++ [g], _, _, rfl, but_new bHB hnH, ?_, by rw [upd_same, List.map_append]; rfl, by rw [List.length_append, hl]; rfl, fun z hz => ?_⟩
      · obtain ⟨u, v, z, e, e'⟩ := DB
        exact ⟨u, v, z, by rw [upd_ne fd_ne.symm]; exact e, e'⟩
      · rcases List.mem_append.mp hz with h | h
        · exact hg z h
        · rw [List.mem_singleton.mp h]; exact hgr
    · rintro σ H4 ⟨gs, y5, y6, rfl, b4, D4, hf, hl, hg⟩
      refine ⟨.ref fnd, rfl, fnd, _, rfl, .inl ⟨SqL.of hf, fun t nt => ?_⟩⟩
      have st := same_new (o := .tup (gs.map V.int)) nt
      exact q _ t gs (b4.trans (.of_same st)) (D4.same st) upd_same ⟨by omega, by omega, fun g h => (hg g h).1⟩ fun g h => (hg g h).2
end
end K65P
namespace K65P
open PySem PySem.Spec PyProof.Rows L2 K65 K65S RZ
/-- a list of n triples (tuple, sum, many) -/
def TripAt (H : Hp) (n : Nat) (t : Addr) : Prop := ∃ (c : Addr) (xs : List V) (s m : Int), H t = some (.tup [.ref c, .int s, .int m]) ∧ H c = some (.tup xs) ∧ xs.length ≤ n
theorem TripAt.same {H H' : Hp} {n k : Nat} {t : Addr} (s : Same H H') (hn : n ≤ k) (h : TripAt H n t) : TripAt H' k t := by
  obtain ⟨c, xs, x, m, h1, h2, h3⟩ := h
  exact ⟨c, xs, x, m, s _ _ h1, s _ _ h2, Nat.le_trans h3 hn⟩
def Trips (H : Hp) (n : Nat) (l : Addr) : Prop := ∃ ts : List Addr, H l = some (.lst (ts.map V.ref)) ∧ 1 ≤ ts.length ∧ ts.length ≤ 2 ^ n ∧ ∀ t ∈ ts, TripAt H n t
section
variable {P : Program} {w : World} {K : PySem.W.Frag} {mg : Str → Option Value} {base : Heap}
/-- _law_choices -/
def spCho : Sp := fun vs H Q _ => ∃ (a : Addr) (gs : List Int), vs = [.ref a] ∧ TupI H a gs ∧ gs.length ≤ 8 ∧ ∀ H' l, Same H H' → Trips H' gs.length l → Q (.ref l) H'
theorem ok_cho {f : Addr} {fd : FuncData} (D : Dn K mg "_law_choices" 17 ["_law_grains_here"] f fd) (B : Bl mg) : FnOk P w K mg base CX0 1 f fd ["_law_grains_here"] spCho := by
  refine D.fn.ok scCho (fun vs H Q E h => ?_) (fun cdv A outer s H vs Q E hr h => ?_)
  · obtain ⟨a, gs, rfl, _⟩ := h
    rfl
  · obtain ⟨a, gs, rfl, hg, h8, q⟩ := h
    refine ⟨_, (pss_cons (ps_set (i := 1) scCho.nd rfl (.inl rfl) (pe_lst (pa_cons (pe_tup (pa_cons (pe_tup pa_nil) (pa_cons pe_int (pa_cons pe_int pa_nil)))) pa_nil)))
      (pss_cons (ps_for PassesOwn.never rfl (pi_enumT (by rfl) B.enumerate (pa_cons (pv 0) pa_nil)) (pg_tup rfl (pgs_cons (pg_name (i := 2) scCho.nd rfl (.inr rfl)) (pgs_cons (pg_name (i := 3) scCho.nd rfl (.inr rfl)) pgs_nil))) (pss_one (ps_set (i := 1) scCho.nd rfl (.inl rfl) (pe_op op_cat (pv 1) (pe_lc (own := [("_law_chosen", 4), ("_law_sums", 5), ("_law_many", 6)]) (g := gTup K 3 (gCons (gName 4) (gCons (gName 5) (gCons (gName 6) gNil)))) (tt := tYes) (te := (tTup (tCons (tOp (rCatA K) (tVar 4) (tTup (tCons (tVar 2) tNil))) (tCons (tOp (rI0 fun i j => .int (i + j)) (tVar 5) (tVar 3)) (tCons (tOp (rI0 fun i j => .int (i + j)) (tVar 6) (tC (.int 1))) tNil))))) (by rfl) scCho.nd (pi_list (pv 1)) (blkOk_by (own := [("_law_chosen", 4), ("_law_sums", 5), ("_law_many", 6)]) (N := nCho) (sc := defScope (top 17)) (by decide +kernel)) (fun _ _ _ _ _ => (pg_tup rfl (pgs_cons (pg_name (i := 4) scCho.nd rfl (.inl rfl)) (pgs_cons (pg_name (i := 5) scCho.nd rfl (.inl rfl)) (pgs_cons (pg_name (i := 6) scCho.nd rfl (.inl rfl)) pgs_nil))))) (fun _ _ _ _ _ => pts_nil) (fun _ _ _ _ _ => (pe_tup (pa_cons (pe_op op_catA (pv 4) (pe_tup (pa_cons (pv 2) pa_nil))) (pa_cons (pe_op op_add (pv 5) (pv 3)) (pa_cons (pe_op op_add (pv 6) pe_int) pa_nil))))))))))
      (pss_one (ps_ret (pv 1))))), ?_⟩
    refine ⟨(by show 0 ≤ sizeLine; decide), fun e ne => ⟨(by show 3 ≤ sizeLine; decide), fun t nt => ⟨(by show 1 ≤ sizeLine; decide), fun l nl => ?_⟩⟩⟩
    have s1 := same_new (o := .tup []) ne
    have s2 := same_new (o := .tup [.ref e, .int 0, .int 0]) nt
    have s3 := same_new (o := .lst [.ref t]) nl
    have s13 := s1.trans (s2.trans s3)
    have T0 : Trips (upd (upd (upd H e (.tup [])) t (.tup [.ref e, .int 0, .int 0])) l (.lst [.ref t])) 0 l :=
      ⟨[t], upd_same, Nat.le_refl 1, Nat.le_refl 1, fun x hx => by rw [List.mem_singleton.mp hx]; exact ⟨e, [], 0, 0, s3 _ _ upd_same, s3 _ _ (s2 _ _ upd_same), Nat.le_refl 0⟩⟩
    refine ⟨.ref a, rfl, a, gs.map V.int, rfl, SqT.of (s13 _ _ hg), for_it walk_enumT (fun i σ H2 => ∃ (l2 : Addr) (y2 y3 y4 y5 y6 : Option V), σ = [some (.ref a), some (.ref l2), y2, y3, y4, y5, y6] ∧ Same H H2 ∧ Trips H2 i l2)
      ⟨l, none, none, none, none, none, rfl, s13, T0⟩ (fun i σ H2 _ ⟨_, _, _, _, _, _, _, sm, _⟩ => SqT.of (sm _ _ hg)) ?_ ?_⟩
    · rintro i x σ H2 H2' hi ⟨l2, y2, y3, y4, y5, y6, rfl, sm, ts, t1, t2, t3, t4⟩ ⟨T, x, rfl, nT, rfl, hx⟩
      rw [List.length_map] at hi
      rw [List.getElem?_map] at hx
      obtain ⟨g, hgi, rfl⟩ := Option.map_eq_some_iff.mp hx
      have hts : ts.length ≤ 128 := Nat.le_trans t3 (pow_le8 (by omega))
      refine ⟨T, _, rfl, SqT.of upd_same, rfl, _, _, rfl, _, _, rfl, rfl, ?_⟩
      have sT := same_new (o := .tup [.int (i : Nat), .int g]) nT
      generalize upd H2 T (.tup [.int (i : Nat), .int g]) = H3 at sT
      refine ⟨.ref l2, rfl, .ref l2, rfl, l2, rfl, ⟨_, SqL.of (sT _ _ t1)⟩, fun m nm => ?_⟩
      refine lc_it (walk_list (xs := ts.map V.ref)) (fun j H4 => ∃ us : List Addr, H4 m = some (.lst (us.map V.ref)) ∧ us.length = j ∧ (∀ u ∈ us, TripAt H4 (i + 1) u) ∧ Same H3 H4) ⟨[], upd_same, rfl, fun _ h => (nomatch h), same_new nm⟩
        (fun j H4 _ ⟨_, _, _, _, s4⟩ => SqL.of (s4 _ _ (sT _ _ t1))) ?_ ?_
      · rintro j x H4 H4' hj ⟨us, u1, u2, u3, s4⟩ ⟨rfl, hx⟩
        rw [List.getElem?_map] at hx
        obtain ⟨t, ht, rfl⟩ := Option.map_eq_some_iff.mp hx
        rw [List.length_map] at hj
        obtain ⟨c, xs, s0, m0, c1, c2, c3⟩ := (t4 t (List.mem_of_getElem? ht)).same (sT.trans s4) (Nat.le_refl i)
        refine ⟨t, _, rfl, SqT.of c1, rfl, _, _, rfl, _, _, rfl, _, _, rfl, rfl, rfl, iteT (B := True) (iteT ?_)⟩
        refine ⟨.ref c, rfl, _, rfl, (by show 1 ≤ sizeLine; decide), fun o no => ?_⟩
        have so := same_new (o := .tup [.int (i : Nat)]) no
        have fin : ∀ (H5 : Hp) (p : Addr) (zs : List V), Same H4' H5 → H5 p = some (.tup zs) → zs.length ≤ i + 1 → ∀ z, H5 z = none → ∃ acc, upd H5 z (.tup [.ref p, .int (s0 + g), .int (m0 + 1)]) m = some (.lst acc) ∧ acc.length < sizeLine ∧
            ∃ us : List Addr, upd (upd H5 z (.tup [.ref p, .int (s0 + g), .int (m0 + 1)])) m (.lst (acc ++ [V.ref z])) m = some (.lst (us.map V.ref)) ∧ us.length = j + 1 ∧ (∀ u ∈ us, TripAt (upd (upd H5 z (.tup [.ref p, .int (s0 + g), .int (m0 + 1)])) m (.lst (acc ++ [V.ref z]))) (i + 1) u) ∧ Same H3 (upd (upd H5 z (.tup [.ref p, .int (s0 + g), .int (m0 + 1)])) m (.lst (acc ++ [V.ref z]))) := fun H5 p zs s5 hp hz z nz => by
          have sz := same_new (o := .tup [.ref p, .int (s0 + g), .int (m0 + 1)]) nz
          have hm6 := sz _ _ (s5 _ _ u1)
          refine ⟨us.map V.ref, hm6, by rw [List.length_map]; exact small' (by omega), us ++ [z], by rw [upd_same, List.map_append]; rfl, by rw [List.length_append, u2]; rfl, fun u hu => ?_, fun b o' e => ?_⟩
          · have carry : ∀ {v : Addr}, TripAt (upd H5 z (.tup [.ref p, .int (s0 + g), .int (m0 + 1)])) (i + 1) v → TripAt (upd (upd H5 z (.tup [.ref p, .int (s0 + g), .int (m0 + 1)])) m (.lst (us.map V.ref ++ [V.ref z]))) (i + 1) v := fun h => by
              obtain ⟨c', xs', s', m', e1, e2, e3⟩ := h
              exact ⟨c', xs', s', m', by rw [upd_ne (ne_of e1 hm6 (fun q => nomatch q))]; exact e1, by rw [upd_ne (ne_of e2 hm6 (fun q => nomatch q))]; exact e2, e3⟩
            refine carry ?_
            rcases List.mem_append.mp hu with h | h
            · exact (u3 u h).same (s5.trans sz) (Nat.le_refl _)
            · rw [List.mem_singleton.mp h]
              exact ⟨p, zs, _, _, upd_same, sz _ _ hp, hz⟩
          · rw [upd_ne (ne_of_none e nm)]
            exact sz _ _ (s5 _ _ (s4 _ _ e))
        refine ⟨c, o, xs, _, rfl, rfl, SqT.of (so _ _ c2), SqT.of upd_same, (by rw [List.length_singleton]; exact small (by omega)), fun e => ?_, fun e e2 => absurd e2 (by simp), fun e e2 p np => ?_⟩
        · refine ⟨_, rfl, _, rfl, _, _, rfl, rfl, _, rfl, _, _, rfl, rfl, (by show 3 ≤ sizeLine; decide), fun z nz => ?_⟩
          exact fin _ o _ so upd_same (by rw [List.length_singleton]; omega) z nz
        · refine ⟨_, rfl, _, rfl, _, _, rfl, rfl, _, rfl, _, _, rfl, rfl, (by show 3 ≤ sizeLine; decide), fun z nz => ?_⟩
          exact fin _ p _ (so.trans (same_new np)) upd_same (by rw [List.length_append, List.length_singleton]; omega) z nz
      · rintro H4 ⟨us, u1, u2, u3, s4⟩
        rw [List.length_map] at u2
        refine ⟨l2, m, _, _, rfl, rfl, s4 _ _ (sT _ _ t1), u1, by rw [List.length_map, List.length_map]; exact small (by omega), fun p np => ?_⟩
        have sp := same_new (o := .lst (ts.map V.ref ++ us.map V.ref)) np
        refine ⟨p, _, _, _, _, _, rfl, sm.trans (sT.trans (s4.trans sp)), ts ++ us, by rw [upd_same, List.map_append], by rw [List.length_append]; omega, by rw [List.length_append, Nat.pow_succ]; omega, fun t ht => ?_⟩
        rcases List.mem_append.mp ht with h | h
        · exact (t4 t h).same (sT.trans (s4.trans sp)) (Nat.le_succ i)
        · exact (u3 t h).same sp (Nat.le_refl _)
    · rintro σ H2 ⟨l2, y2, y3, y4, y5, y6, rfl, sm, tr⟩
      rw [List.length_map] at tr
      exact ⟨_, rfl, q _ l2 sm tr⟩
/-- _law_due -/
def spDue : Sp := fun vs H Q _ => ∃ (d a : Addr) (gs : List Int), vs = [.ref d, .ref a] ∧ DeckAt H d ∧ TupI H a gs ∧ Gs gs ∧ (∀ g ∈ gs, g ≤ 120000) ∧ ∀ H' r, But d H H' → DeckAt H' d → 1 ≤ r → Q (.int r) H'
theorem sum_le : ∀ {gs : List Int}, (∀ g ∈ gs, 1 ≤ g) → (∀ g ∈ gs, g ≤ 120000) → 0 ≤ gs.sum ∧ gs.sum ≤ 120000 * gs.length
  | [], _, _ => ⟨by simp, by simp⟩
  | g :: gs, h1, h2 => by
    have ih := sum_le (gs := gs) (fun x hx => h1 x (List.mem_cons_of_mem _ hx)) (fun x hx => h2 x (List.mem_cons_of_mem _ hx))
    have a := h1 g List.mem_cons_self
    have b := h2 g List.mem_cons_self
    rw [List.sum_cons, List.length_cons]
    omega
theorem pick6 {w a b c e f z : Int} (h0 : 0 ≤ w) (h1 : w < 6) : ∃ g : Int, atI [V.int a, V.int b, V.int c, V.int e, V.int f, V.int z] w = some (V.int g) := by
  have : w = 0 ∨ w = 1 ∨ w = 2 ∨ w = 3 ∨ w = 4 ∨ w = 5 := by omega
  rcases this with rfl | rfl | rfl | rfl | rfl | rfl <;> exact ⟨_, rfl⟩
theorem ok_due {f f1 f2 : Addr} {fd fd1 fd2 : FuncData} (D : Dn K mg "_law_due" 19 ["_law_deck_here", "_law_grains_here"] f fd) (D1 : Dn K mg "_law_draw" 15 ["_law_deck_here", "_law_most"] f1 fd1) (D2 : Dn K mg "_law_choices" 17 ["_law_grains_here"] f2 fd2) (B : Bl mg) :
    FnOk P w K mg base CX0 2 f fd ["_law_deck_here", "_law_grains_here"] spDue := by
  have G1 : FnOk P w K mg base CX0 1 f1 fd1 ["_law_deck_here", "_law_most"] spDraw := ok_draw D1
  have G2 : FnOk P w K mg base CX0 1 f2 fd2 ["_law_grains_here"] spCho := ok_cho D2 B
  refine D.fn.ok scDue (fun vs H Q E h => ?_) (fun cdv A outer s H vs Q E hr h => ?_)
  · obtain ⟨d, a, gs, rfl, _⟩ := h
    rfl
  · obtain ⟨d, a, gs, rfl, hD, hg, hG, hB, q⟩ := h
    have hsum := sum_le hG.pos hB
    have h8 := hG.le
    refine ⟨_, (pss_cons (ps_set (i := 2) scDue.nd rfl (.inl rfl) (pe_call G1 hr (by rfl) D1.gl D1.kp D1.bi .nil pass0 (pa_cons (pv 0) (pa_cons pe_int pa_nil))))
      (pss_cons (ps_setLc (i := 3) (own := [("_law_chosen", 6), ("_law_sums", 7), ("_law_many", 8)]) (g := gTup K 3 (gCons (gName 6) (gCons (gName 7) (gCons (gName 8) gNil)))) (tt := tYes) (te := (tVar 7)) rfl scDue.nd rfl rfl (sw_true rfl rfl rfl (by decide +kernel)) (pi_list (pe_call G2 hr (by rfl) D2.gl D2.kp D2.bi .nil pass0 (pa_cons (pv 1) pa_nil))) (blkOk_by (own := [("_law_chosen", 6), ("_law_sums", 7), ("_law_many", 8)]) (N := nDue) (sc := defScope (top 19)) (by decide +kernel)) (fun _ _ _ _ _ => (pg_tup rfl (pgs_cons (pg_name (i := 6) scDue.nd rfl (.inl rfl)) (pgs_cons (pg_name (i := 7) scDue.nd rfl (.inl rfl)) (pgs_cons (pg_name (i := 8) scDue.nd rfl (.inl rfl)) pgs_nil))))) (fun _ _ _ _ _ => pts_nil) (fun _ _ _ _ _ => (pv 7)))
      (pss_cons (ps_set (i := 4) scDue.nd rfl (.inl rfl) (pe_ix ix_list (pv 3) (pe_call G1 hr (by rfl) D1.gl D1.kp D1.bi .nil pass0 (pa_cons (pv 0) (pa_cons (pe_callB call_len_seq (by rfl) B.len PySem.boot_len (pa_cons (pv 3) pa_nil)) pa_nil))) (fun _ _ => rfl)))
      (pss_cons (ps_set (i := 5) scDue.nd rfl (.inl rfl) (pe_lst (pa_cons pe_int (pa_cons (pv 4) (pa_cons (pe_op op_add (pv 4) pe_int) (pa_cons (pe_op op_sub (pv 4) pe_int) (pa_cons (pe_op op_add pe_int (pe_call G1 hr (by rfl) D1.gl D1.kp D1.bi .nil pass0 (pa_cons (pv 0) (pa_cons (pe_op op_add (pe_callB (cr_sumT rfl) (by rfl) B.sum PyProof.Rows.boot_sum (pa_cons (pv 1) pa_nil)) pe_int) pa_nil)))) (pa_cons (pe_op op_add (pe_callB (cr_sumT rfl) (by rfl) B.sum PyProof.Rows.boot_sum (pa_cons (pv 1) pa_nil)) (pe_call G1 hr (by rfl) D1.gl D1.kp D1.bi .nil pass0 (pa_cons (pv 0) (pa_cons pe_int pa_nil)))) pa_nil))))))))
      (pss_one (ps_ret (pe_callB (call_max2 rfl) (by rfl) B.max PyProof.Rows.boot_max (pa_cons pe_int (pa_cons (pe_ix ix_list (pv 5) (pv 2) (fun _ _ => rfl)) pa_nil))))))))), ?_⟩
    refine ⟨.ref d, rfl, d, 6, rfl, hD, by decide, by decide, fun H1 wy w0 w1 D1 b1 => ?_⟩
    have had := deck_ne hD hg
    have hg1 := b1 _ _ hg had
    refine ⟨.ref a, rfl, a, gs, rfl, hg1, h8, fun H2 l s2 ⟨ts, t1, t2, t3, t4⟩ => ?_⟩
    have hts : ts.length ≤ 256 := by
      have : 2 ^ gs.length ≤ 2 ^ 8 := Nat.pow_le_pow_right (by decide) h8
      omega
    refine ⟨l, rfl, ⟨_, SqL.of t1⟩, fun m nm => ?_⟩
    refine lc_it (walk_list (xs := ts.map V.ref)) (fun j H4 => ∃ us : List Int, H4 m = some (.lst (us.map V.int)) ∧ us.length = j ∧ Same H2 H4) ⟨[], upd_same, rfl, same_new nm⟩ (fun j H4 _ ⟨_, _, _, s4⟩ => SqL.of (s4 _ _ t1)) ?_ ?_
    · rintro j x H4 H4' hj ⟨us, u1, u2, s4⟩ ⟨rfl, hx⟩
      rw [List.getElem?_map] at hx
      obtain ⟨t, ht, rfl⟩ := Option.map_eq_some_iff.mp hx
      rw [List.length_map] at hj
      obtain ⟨c, xs, s0, m0, c1, c2, c3⟩ := (t4 t (List.mem_of_getElem? ht)).same s4 (Nat.le_refl _)
      refine ⟨t, _, rfl, SqT.of c1, rfl, _, _, rfl, _, _, rfl, _, _, rfl, rfl, rfl, iteT (B := True) (iteT ?_)⟩
      refine ⟨_, rfl, us.map V.int, u1, by rw [List.length_map]; exact small' (by omega), us ++ [s0], by rw [upd_same, List.map_append]; rfl, by rw [List.length_append, u2]; rfl, fun b o e => ?_⟩
      rw [upd_ne (ne_of_none e nm)]
      exact s4 _ _ e
    rintro H4 ⟨us, u1, u2, s4⟩
    rw [List.length_map] at u2
    have D4 := D1.same (s2.trans s4)
    have mD : m ≠ d := by
      obtain ⟨x, y, z, e, _⟩ := D1.same s2
      exact (ne_of_none e nm).symm
    refine ⟨.ref m, rfl, .ref d, rfl, .ref m, rfl, m, _, rfl, .inl (SqL.of u1), ?_⟩
    rw [List.length_map]
    refine ⟨d, (us.length : Int), rfl, D4, by omega, by omega, fun H5 r5 r50 r51 D5 b5 => ?_⟩
    obtain ⟨k5, rfl⟩ : ∃ k : Nat, r5 = k := ⟨r5.toNat, by omega⟩
    have hk5 : us[k5]? = some us[k5] := List.getElem?_eq_getElem (by omega)
    refine ⟨m, us.map V.int, _, .int us[k5], rfl, rfl, SqL.of (b5 _ _ u1 mD), atI_nat (by rw [List.getElem?_map, hk5]; rfl), ?_⟩
    have hg5 := b5 _ _ (s4 _ _ (s2 _ _ hg1)) had
    generalize us[k5] = av
    refine ⟨_, rfl, _, rfl, _, _, rfl, rfl, _, rfl, _, _, rfl, rfl, ?_⟩
    refine ⟨.ref d, rfl, .ref a, rfl, a, gs, rfl, SqT.of hg5, _, _, rfl, rfl, d, gs.sum + 1, rfl, D5, by omega, by omega, fun H6 r6 r60 r61 D6 b6 => ⟨_, _, rfl, rfl, ?_⟩⟩
    have hg6 := b6 _ _ hg5 had
    refine ⟨.ref a, rfl, a, gs, rfl, SqT.of hg6, .ref d, rfl, d, 3, rfl, D6, by decide, by decide, fun H7 r7 r70 r71 D7 b7 => ⟨_, _, rfl, rfl, (by show 6 ≤ sizeLine; decide), fun o no => ?_⟩⟩
    obtain ⟨g, hgat⟩ := pick6 (a := 1) (b := av) (c := av + 1) (e := av - 1) (f := 1 + r6) (z := gs.sum + r7) w0 w1
    refine ⟨.ref o, rfl, _, rfl, o, _, _, _, rfl, rfl, SqL.of upd_same, hgat, _, _, rfl, ?_⟩
    have so := same_new (o := .lst [.int 1, .int av, .int (av + 1), .int (av - 1), .int (1 + r6), .int (gs.sum + r7)]) no
    refine q _ _ (b1.trans ((But.of_same (s2.trans s4)).trans (b5.trans (b6.trans (b7.trans (.of_same so)))))) (D7.same so) ?_
    split <;> omega
end
end K65P
namespace K65P
open PySem PySem.Spec PyProof.Rows L2 K65 K65S RZ
theorem rgV_nts (n : Nat) : rgV 0 (n : Int) = nts (List.range n) := by
  unfold rgV
  have e : ((n : Int) - 0).toNat = n := by omega
  rw [e]
  refine List.map_congr_left fun i _ => ?_
  rw [Int.zero_add]
theorem seq_at {n k : Nat} (h : k < n) : seqIndex? (k : Int) n = some k := (ixN_seq (n := n) (i := k) (j := k) (by
  unfold ixN
  rw [if_pos (by omega), if_pos (by omega)]; simp)).1
theorem nts_erase (l : List Nat) (k : Nat) : (nts l).eraseIdx k = nts (l.eraseIdx k) := erase_map _ l k
section
variable {P : Program} {w : World} {K : PySem.W.Frag} {mg : Str → Option Value} {base : Heap}
/-- _law_turn -/
def spTurn : Sp := fun vs H Q _ => ∃ (d : Addr) (n : Nat), vs = [.ref d, .int n] ∧ DeckAt H d ∧ n ≤ 8 ∧ ∀ H' p order, But d H H' → DeckAt H' d → H p = none → p ≠ d → H' p = some (.lst (nts order)) → order.Perm (List.range n) → Q (.ref p) H'
theorem ok_turn {f f1 : Addr} {fd fd1 : FuncData} (D : Dn K mg "_law_turn" 25 ["_law_deck_here", "_law_many"] f fd) (D1 : Dn K mg "_law_draw" 15 ["_law_deck_here", "_law_most"] f1 fd1) (B : Bl mg) :
    FnOk P w K mg base CX0 2 f fd ["_law_deck_here", "_law_many"] spTurn := by
  have G1 : FnOk P w K mg base CX0 1 f1 fd1 ["_law_deck_here", "_law_most"] spDraw := ok_draw D1
  refine D.fn.ok scTurn (fun vs H Q E h => ?_) (fun cdv A outer s H vs Q E hr h => ?_)
  · obtain ⟨d, n, rfl, _⟩ := h
    rfl
  · obtain ⟨d, n, rfl, hD, h8, q⟩ := h
    refine ⟨_, (pss_cons (ps_set (i := 2) scTurn.nd rfl (.inr rfl) (pe_listRg rfl (by rfl) B.list (prg_1 (by rfl) B.range (pv 1))))
      (pss_one (ps_ret (pe_lc (own := [("_law_k", 3)]) (g := gName 3) (tt := tYes) (te := (tBM K "list" rPopAt (tVar 2) (tCons (tCall spDraw [] E (tCons (tVar 0) (tCons (tCB (rLenS K) (tCons (tVar 2) tNil)) tNil))) tNil))) (by rfl) scTurn.nd (pi_range1 (by rfl) B.range (pa_cons (pv 1) pa_nil)) (blkOk_by (own := [("_law_k", 3)]) (N := nTurn) (sc := defScope (top 25)) (by decide +kernel)) (fun _ _ _ _ _ => (pg_name (i := 3) scTurn.nd rfl (.inl rfl))) (fun _ _ _ _ _ => pts_nil) (fun _ _ _ _ _ => (pe_bm PySem.F.plainAttrs_list PySem.F.slot_list_pop PySem.F.type_list_pop mt_popAt (pv 2) (pa_cons (pe_call G1 hr (by rfl) D1.gl D1.kp D1.bi .nil pass0 (pa_cons (pv 0) (pa_cons (pe_callB call_len_seq (by rfl) B.len PySem.boot_len (pa_cons (pv 2) pa_nil)) pa_nil))) pa_nil))))))), ?_⟩
    refine ⟨_, rfl, n, rfl, RgOk.of_le (by decide) (by omega) (by decide) (by omega), fun lf nlf => ?_⟩
    rw [rgV_nts]
    have s1 := same_new (o := .lst (nts (List.range n))) nlf
    have h1 : upd H lf (.lst (nts (List.range n))) lf = some (.lst (nts (List.range n))) := upd_same
    have D1' := hD.same s1
    have lfd : lf ≠ d := deck_fresh hD nlf
    generalize upd H lf (.lst (nts (List.range n))) = H1 at s1 h1 D1'
    refine ⟨.int n, rfl, n, rfl, by omega, by omega, fun m nm => ?_⟩
    have mlf : lf ≠ m := ne_of_none h1 nm
    have nmH : H m = none := s1.free nm
    have md : m ≠ d := deck_fresh D1' nm
    refine lc_it walk_range (fun j H4 => ∃ left acc : List Nat, H4 lf = some (.lst (nts left)) ∧ H4 m = some (.lst (nts acc)) ∧ acc.length = j ∧ left.length + j = n ∧ (acc ++ left).Perm (List.range n) ∧ But d H H4 ∧ DeckAt H4 d)
      ⟨List.range n, [], same_new nm _ _ h1, upd_same, rfl, by rw [List.length_range]; rfl, .refl _, .of_same (s1.trans (same_new nm)), D1'.same (same_new nm)⟩ (fun _ _ _ _ => trivial) ?_ ?_
    · rintro j x H4 H4' hj ⟨left, acc, l1, a1, l2, l3, pm, b4, D4⟩ ⟨rfl, rfl⟩
      have hjn : j < n := by
        have : ((n : Int)).toNat = n := by omega
        omega
      refine ⟨rfl, iteT (B := True) (iteT ?_)⟩
      refine ⟨.ref lf, rfl, .inl ⟨rfl, _, .inl (.inl l1)⟩, .ref d, rfl, .ref lf, rfl, lf, nts left, rfl, .inl (SqL.of l1), ?_⟩
      rw [List.length_map]
      refine ⟨d, (left.length : Int), rfl, D4, by omega, by omega, fun H5 r r0 r1 D5 b5 => ?_⟩
      obtain ⟨k, rfl⟩ : ∃ k : Nat, r = k := ⟨r.toNat, by omega⟩
      have hk : k < left.length := by omega
      have hkk : left[k]? = some left[k] := List.getElem?_eq_getElem hk
      have hl5 := b5 _ _ l1 lfd
      refine ⟨lf, nts left, _, k, .int left[k], rfl, rfl, hl5, by omega, by omega, seq_at (by rw [List.length_map]; exact hk), by rw [List.getElem?_map, hkk]; rfl, ?_⟩
      have hm5 := b5 _ _ a1 md
      refine ⟨nts acc, by rw [upd_ne mlf.symm]; exact hm5, by rw [List.length_map]; exact small' (by omega), left.eraseIdx k, acc ++ [left[k]], ?_, ?_, ?_, ?_, ?_, ?_, ?_⟩
      · rw [upd_ne mlf, upd_same, nts_erase]
      · rw [upd_same, nts_app]; rfl
      · rw [List.length_append, l2]; rfl
      · rw [List.length_eraseIdx_of_lt hk]; omega
      · rw [List.append_assoc]
        exact ((erase_perm hkk).append_left acc).trans pm
      · intro b o e ne
        rw [upd_ne (ne_of_none e nmH), upd_ne (ne_of_none e nlf)]
        exact b5 _ _ (b4 _ _ e ne) ne
      · obtain ⟨x, y, z, e, e'⟩ := D5
        exact ⟨x, y, z, by rw [upd_ne md.symm, upd_ne lfd.symm]; exact e, e'⟩
    · rintro H4 ⟨left, acc, l1, a1, l2, l3, pm, b4, D4⟩
      have e : ((n : Int)).toNat = n := by omega
      have l0 : left = [] := List.eq_nil_of_length_eq_zero (by omega)
      rw [l0, List.append_nil] at pm
      exact q H4 m acc b4 D4 nmH md a1 pm
/-- _law_told -/
def spTold : Sp := fun vs H Q _ => ∃ (a : Addr) (gs : List Int) (due : Int), vs = [.ref a, .int due] ∧ TupI H a gs ∧ gs.length ≤ 8 ∧ due ≤ gs.sum ∧ ∀ H' p t, Same H H' → H' p = some (.tup [.int t.1, .int t.2]) → Told gs due t → Q (.ref p) H'
theorem ris_len : ∀ {n : Nat} {cs : List Nat}, cs.Pairwise (· < ·) → (∀ i ∈ cs, i < n) → cs.length ≤ n := fun {n cs} h1 h2 => by
  have key : ∀ (cs : List Nat) (k : Nat), cs.Pairwise (· < ·) → (∀ i ∈ cs, k ≤ i ∧ i < n) → k ≤ n → cs.length + k ≤ n := by
    intro cs
    induction cs with
    | nil => intro k _ _ h; simpa using h
    | cons c cs ih =>
      intro k hp hb _
      have hc := hb c List.mem_cons_self
      have := ih (c + 1) (List.pairwise_cons.mp hp).2 (fun i hi => ⟨(List.pairwise_cons.mp hp).1 i hi, (hb i (List.mem_cons_of_mem _ hi)).2⟩) (by omega)
      rw [List.length_cons]
      omega
  exact key cs 0 h1 (fun i hi => ⟨Nat.zero_le _, h2 i hi⟩) (Nat.zero_le _)
theorem ok_told {f f1 f2 f3 : Addr} {fd fd1 fd2 fd3 : FuncData} (D : Dn K mg "_law_told" 26 ["_law_grains_here", "_law_due_here"] f fd) (D1 : Dn K mg "few_notes" 3 ["grains", "due"] f1 fd1) (D2 : Dn K mg "rows_of" 1 ["grains"] f2 fd2) (D3 : Dn K mg "chosen_by" 2 ["grains", "rows", "goal"] f3 fd3) (B : Bl mg) :
    FnOk P w K mg base CX0 3 f fd ["_law_grains_here", "_law_due_here"] spTold := by
  have G1 : FnOk P w K mg base CX0 2 f1 fd1 ["grains", "due"] spFew := ok_few D1 D2 D3 B
  refine D.fn.ok scTold (fun vs H Q E h => ?_) (fun cdv A outer s H vs Q E hr h => ?_)
  · obtain ⟨a, gs, due, rfl, _⟩ := h
    rfl
  · obtain ⟨a, gs, due, rfl, hg, h8, hdue, q⟩ := h
    refine ⟨_, (pss_cons (ps_set (i := 2) scTold.nd rfl (.inl rfl) (pe_call G1 hr (by rfl) D1.gl D1.kp D1.bi .nil pass0 (pa_cons (pv 0) (pa_cons (pv 1) pa_nil))))
      (pss_cons (ps_if (pt_cmp (pc_isN (pv 2)) (by rfl)) (pss_one (ps_ret pe_non)) pss_nil)
      (pss_one (ps_ret (pe_tup (pa_cons (pe_callB (cr_sum rfl) (by rfl) B.sum PyProof.Rows.boot_sum (pa_cons (pe_lc (own := [("_law_number", 3)]) (g := gName 3) (tt := tYes) (te := (tOp (rIxT K) (tVar 0) (tVar 3))) (by rfl) scTold.nd (pi_tup (pe_ix ix_tup (pv 2) pe_int (fun _ _ => rfl))) (blkOk_by (own := [("_law_number", 3)]) (N := nTold) (sc := defScope (top 26)) (by decide +kernel)) (fun _ _ _ _ _ => (pg_name (i := 3) scTold.nd rfl (.inl rfl))) (fun _ _ _ _ _ => pts_nil) (fun _ _ _ _ _ => (pe_ix ix_tup (pv 0) (pv 3) (fun _ _ => rfl)))) pa_nil)) (pa_cons (pe_callB call_len_seq (by rfl) B.len PySem.boot_len (pa_cons (pe_ix ix_tup (pv 2) pe_int (fun _ _ => rfl)) pa_nil)) pa_nil))))))), ?_⟩
    refine ⟨.ref a, rfl, .int due, rfl, a, gs, due, rfl, hg, h8, hdue, fun H1 t c r cs p s1 ht hc hrw told ch => ?_⟩
    refine ⟨.ref t, rfl, false, rfl, iteF ?_⟩
    have hl8 : cs.length ≤ 8 := Nat.le_trans (ris_len ch.ris ch.bd) h8
    refine ⟨.ref t, rfl, t, _, 0, .ref c, rfl, rfl, SqT.of ht, atI_nat (j := 0) rfl, c, rfl, ⟨_, SqT.of hc⟩, fun m nm => ?_⟩
    refine lc_same (walk_tup (xs := nts cs)) (fun j => ((cs.take j).map fun (i : Nat) => gs.getD i 0).map V.int) rfl nm (fun i hi => ?_) (fun H s => SqT.of (s _ _ hc)) at_same ?_ ?_
    · rw [List.length_map, List.length_map, List.length_take]; omega
    · rintro i x H2 H2' hi s2 ⟨rfl, hx⟩ RR NN kR kN
      rw [List.getElem?_map] at hx
      obtain ⟨k, hk, rfl⟩ := Option.map_eq_some_iff.mp hx
      have hkb := ch.bd k (List.mem_of_getElem? hk)
      have hgk : gs[k]? = some gs[k] := List.getElem?_eq_getElem hkb
      refine ⟨rfl, iteT (B := True) (iteT ?_)⟩
      refine ⟨.ref a, rfl, _, rfl, a, gs.map V.int, _, .int gs[k], rfl, rfl, SqT.of (s2 _ _ (s1 _ _ hg)), atI_nat (by rw [List.getElem?_map, hgk]; rfl), kR _ _ ?_ fun _ _ e => e⟩
      rw [map_snoc _ _ _ hk, List.map_append, getD_of hgk]; rfl
    intro H2 s2 hm
    rw [map_take_all _ _ _ (by rw [List.length_map])] at hm
    refine ⟨m, _, rfl, SqL.of hm, ?_⟩
    rw [sum_ints, ch.sum]
    refine ⟨.ref t, rfl, t, _, 0, .ref c, rfl, rfl, SqT.of (s2 _ _ ht), atI_nat (j := 0) rfl, c, nts cs, rfl, .inr (SqT.of (s2 _ _ hc)), ?_⟩
    rw [List.length_map, ch.len]
    exact ⟨(by show 2 ≤ sizeLine; decide), fun o no => q _ o p (s1.trans (s2.trans (same_new no))) upd_same told⟩
/-- the rows of some grains are a paper -/
theorem paper_of {gs : List Int} (hp : ∀ g ∈ gs, 1 ≤ g) (h8 : gs.length ≤ 8) : Paper gs.length (rowsN gs) where
  len := rowsN_len gs
  row := fun r hr => by
    unfold rowsN at hr
    obtain ⟨i, hi, rfl⟩ := List.mem_map.mp hr
    refine ⟨rowN_sorted _, fun p hp' => ?_, ?_⟩
    · have := R_bound (fun g hg => hp g (List.mem_of_mem_take hg)) ((mem_rowN _ _).mp hp')
      exact ⟨this.1, this.2.2.1⟩
    · have h1 := rowN_len (gs.take i)
      have h2 : 2 ^ (gs.take i).length ≤ 2 ^ 8 := Nat.pow_le_pow_right (by decide) (by rw [List.length_take]; omega)
      omega
  zero := by
    rw [getD_of (rowsN_get (Nat.zero_le _)), List.take_zero]
    exact (mem_rowN [] _).mpr rfl
theorem turned_get {gs : List Int} {order : List Nat} (i : Nat) {k : Nat} (h : order[i]? = some k) : ((order.take (i + 1)).map fun i => gs.getD i 0) = ((order.take i).map fun i => gs.getD i 0) ++ [gs.getD k 0] := map_snoc _ _ _ h
/-- _law_paper_right -/
def spRight : Sp := fun vs H Q _ => ∃ (a o : Addr) (gs : List Int) (due : Int) (order : List Nat), vs = [.ref a, .int due, .ref o] ∧ TupI H a gs ∧ Gs gs ∧ due ≤ gs.sum ∧ H o = some (.lst (nts order)) ∧ order.Perm (List.range gs.length) ∧ ∀ H', Same H H' → Q (.bl true) H'
theorem ok_right {f f1 f2 f3 : Addr} {fd fd1 fd2 fd3 : FuncData} (D : Dn K mg "_law_paper_right" 27 ["_law_grains_here", "_law_due_here", "_law_order"] f fd)
    (D1 : Dn K mg "few_notes" 3 ["grains", "due"] f1 fd1) (G1 : FnOk P w K mg base CX0 4 f1 fd1 ["grains", "due"] spFew) (D2 : Dn K mg "few_holds" 12 ["grains", "due", "thing"] f2 fd2) (G2 : FnOk P w K mg base CX0 4 f2 fd2 ["grains", "due", "thing"] spHold)
    (D3 : Dn K mg "_law_holds" 24 ["_law_grains_here", "_law_due_here", "_law_thing"] f3 fd3) (G3 : FnOk P w K mg base CX0 4 f3 fd3 ["_law_grains_here", "_law_due_here", "_law_thing"] spHold) (B : Bl mg) :
    FnOk P w K mg base CX0 5 f fd ["_law_grains_here", "_law_due_here", "_law_order"] spRight := by
  refine D.fn.ok scRight (fun vs H Q E h => ?_) (fun cdv A outer s H vs Q E hr h => ?_)
  · obtain ⟨a, o, gs, due, order, rfl, _⟩ := h
    rfl
  · obtain ⟨a, o, gs, due, order, rfl, hg, hG, hdue, ho, hpm, q⟩ := h
    have h8 := hG.le
    have hol : order.length = gs.length := by have := hpm.length_eq; rwa [List.length_range] at this
    have hob : ∀ k ∈ order, k < gs.length := fun k hk => List.mem_range.mp (hpm.mem_iff.mp hk)
    refine ⟨_, (pss_cons (ps_set (i := 3) scRight.nd rfl (.inl rfl) (pe_call G1 hr (by rfl) D1.gl D1.kp D1.bi .nil pass0 (pa_cons (pv 0) (pa_cons (pv 1) pa_nil))))
      (pss_cons (ps_set (i := 4) scRight.nd rfl (.inl rfl) (pe_callTy call_tuple_of (by rfl) B.tuple PyProof.Rows.boot_tuple (pa_cons (pe_lc (own := [("_law_number", 7)]) (g := gName 7) (tt := tYes) (te := (tOp (rIxT K) (tVar 0) (tVar 7))) (by rfl) scRight.nd (pi_list (pv 2)) (blkOk_by (own := [("_law_number", 7)]) (N := nRight) (sc := defScope (top 27)) (by decide +kernel)) (fun _ _ _ _ _ => (pg_name (i := 7) scRight.nd rfl (.inl rfl))) (fun _ _ _ _ _ => pts_nil) (fun _ _ _ _ _ => (pe_ix ix_tup (pv 0) (pv 7) (fun _ _ => rfl)))) pa_nil)))
      (pss_cons (ps_set (i := 5) scRight.nd rfl (.inl rfl) (pe_callTy call_tuple_of (by rfl) B.tuple PyProof.Rows.boot_tuple (pa_cons (pe_callB cr_sorted (by rfl) B.sorted PyProof.Rows.boot_sorted (pa_cons (pe_lc (own := [("_law_number", 7)]) (g := gName 7) (tt := tYes) (te := (tBM K "list" (rIndex K) (tVar 2) (tCons (tVar 7) tNil))) (by rfl) scRight.nd (pi_tup (pe_ix ix_tup (pv 3) pe_int (fun _ _ => rfl))) (blkOk_by (own := [("_law_number", 7)]) (N := nRight) (sc := defScope (top 27)) (by decide +kernel)) (fun _ _ _ _ _ => (pg_name (i := 7) scRight.nd rfl (.inl rfl))) (fun _ _ _ _ _ => pts_nil) (fun _ _ _ _ _ => (pe_bm PySem.F.plainAttrs_list PySem.F.slot_list_index PySem.F.type_list_index mt_index (pv 2) (pa_cons (pv 7) pa_nil)))) pa_nil)) pa_nil)))
      (pss_cons (ps_set (i := 6) scRight.nd rfl (.inl rfl) (pe_tup (pa_cons (pv 5) (pa_cons (pe_ix ix_tup (pv 3) pe_int (fun _ _ => rfl)) pa_nil))))
      (pss_one (ps_ret (pe_cmpR op_eq (pe_callB call_reprB (by rfl) B.repr PyProof.Rows.boot_repr (pa_cons (pe_call G2 hr (by rfl) D2.gl D2.kp D2.bi .nil pass0 (pa_cons (pv 4) (pa_cons (pv 1) (pa_cons (pv 6) pa_nil)))) pa_nil)) (pe_callB call_reprB (by rfl) B.repr PyProof.Rows.boot_repr (pa_cons (pe_call G3 hr (by rfl) D3.gl D3.kp D3.bi .nil pass0 (pa_cons (pv 4) (pa_cons (pv 1) (pa_cons (pv 6) pa_nil)))) pa_nil)) (nomark _)))))))), ?_⟩
    refine ⟨.ref a, rfl, .int due, rfl, a, gs, due, rfl, hg, h8, hdue, fun H1 t c r cs p s1 ht hc hrw told ch => ?_⟩
    have hl8 : cs.length ≤ 8 := Nat.le_trans (ris_len ch.ris ch.bd) h8
    -- turned
    refine ⟨.ref o, rfl, o, rfl, ⟨_, SqL.of (s1 _ _ ho)⟩, fun m nm => ?_⟩
    refine lc_same (walk_list (xs := nts order)) (fun j => ((order.take j).map fun i => gs.getD i 0).map V.int) rfl nm (fun i hi => ?_) (fun H s => SqL.of (s _ _ (s1 _ _ ho))) at_same ?_ ?_
    · rw [List.length_map, List.length_map, List.length_take]; omega
    · rintro i x H2 H2' hi s2 ⟨rfl, hx⟩ RR NN kR kN
      rw [List.getElem?_map] at hx
      obtain ⟨k, hk, rfl⟩ := Option.map_eq_some_iff.mp hx
      have hkb := hob k (List.mem_of_getElem? hk)
      have hgk : gs[k]? = some gs[k] := List.getElem?_eq_getElem hkb
      refine ⟨rfl, iteT (B := True) (iteT ?_)⟩
      refine ⟨.ref a, rfl, _, rfl, a, gs.map V.int, _, .int gs[k], rfl, rfl, SqT.of (s2 _ _ (s1 _ _ hg)), atI_nat (by rw [List.getElem?_map, hgk]; rfl), kR _ _ ?_ fun _ _ e => e⟩
      rw [turned_get i hk, List.map_append, getD_of hgk]; rfl
    intro H2 s2 hm
    rw [map_take_all _ _ _ (by rw [List.length_map])] at hm
    generalize hhs : (order.map fun i => gs.getD i 0) = hs at hm
    have hhl : hs.length = gs.length := by rw [← hhs, List.length_map, hol]
    refine ⟨m, _, rfl, .inl ⟨SqL.of hm, fun tn ntn => ?_⟩⟩
    have s3 := s1.trans (s2.trans (same_new (o := .tup (hs.map V.int)) ntn))
    have s23 := s2.trans (same_new (o := .tup (hs.map V.int)) ntn)
    have htn : upd H2 tn (.tup (hs.map V.int)) tn = some (.tup (hs.map V.int)) := upd_same
    generalize upd H2 tn (.tup (hs.map V.int)) = H3 at s3 s23 htn
    -- chosen
    have hidx : ∀ k ∈ cs, k ∈ order := fun k hk => hpm.mem_iff.mpr (List.mem_range.mpr (ch.bd k hk))
    refine ⟨.ref t, rfl, t, _, 0, .ref c, rfl, rfl, SqT.of (s23 _ _ ht), atI_nat (j := 0) rfl, c, rfl, ⟨_, SqT.of (s23 _ _ hc)⟩, fun m2 nm2 => ?_⟩
    refine lc_same (walk_tup (xs := nts cs)) (fun j => ((cs.take j).map fun k => (order.idxOf k : Int)).map V.int) rfl nm2 (fun i hi => ?_) (fun H s => SqT.of (s _ _ (s23 _ _ hc))) at_same ?_ ?_
    · rw [List.length_map, List.length_map, List.length_take]; omega
    · rintro i x H4 H4' hi s4 ⟨rfl, hx⟩ RR NN kR kN
      rw [List.getElem?_map] at hx
      obtain ⟨k, hk, rfl⟩ := Option.map_eq_some_iff.mp hx
      have hko := hidx k (List.mem_of_getElem? hk)
      have ho4 := s4 _ _ (s3 _ _ ho)
      refine ⟨rfl, iteT (B := True) (iteT ?_)⟩
      refine ⟨.ref o, rfl, .inl ⟨rfl, _, .inl (.inl ho4)⟩, _, rfl, o, nts order, .int k, order.idxOf k, .int k, rfl, rfl, SqL.of ho4, rfl, ?_, by rw [List.getElem?_map, idx_get hko]; rfl, by simp [eqV], fun j z hj hz => ?_, kR _ _ ?_ fun _ _ e => e⟩
      · rw [List.all_map]; exact List.all_eq_true.mpr fun _ _ => rfl
      · rw [List.getElem?_map] at hz
        obtain ⟨y, hy, rfl⟩ := Option.map_eq_some_iff.mp hz
        have : y ≠ k := fun e => by
          rw [e] at hy
          have nd : order.Nodup := (List.Perm.nodup_iff hpm).mpr List.nodup_range
          have h1 := List.getElem?_eq_some_iff.mp hy
          have h2 := List.getElem?_eq_some_iff.mp (idx_get hko)
          obtain ⟨p1, e1⟩ := h1
          obtain ⟨p2, e2⟩ := h2
          exact List.pairwise_iff_getElem.mp nd j (order.idxOf k) p1 p2 hj (e1.trans e2.symm)
        show ((y : Int) == (k : Int)) = false
        exact beq_eq_false_iff_ne.mpr fun e => this (Int.ofNat.inj e)
      · rw [map_snoc _ _ _ hk, List.map_append]; rfl
    intro H4 s4 hm2
    rw [map_take_all _ _ _ (by rw [List.length_map])] at hm2
    refine ⟨m2, _, rfl, SqL.of hm2, by rw [List.length_map]; omega, fun ns lp npm nso nlp => ?_⟩
    obtain ⟨cs', ens, ch'⟩ := chosen_turned ch hpm npm nso
    rw [hhs] at ch'
    have evs : ns.map V.int = nts cs' := by rw [← ens, List.map_map]; rfl
    rw [evs]
    refine ⟨lp, _, rfl, .inl ⟨SqL.of upd_same, fun cp ncp => ?_⟩⟩
    have s5 : Same H3 (upd (upd H4 lp (.lst (nts cs'))) cp (.tup (nts cs'))) := s4.trans ((same_new nlp).trans (same_new ncp))
    have hcp : upd (upd H4 lp (.lst (nts cs'))) cp (.tup (nts cs')) cp = some (.tup (nts cs')) := upd_same
    generalize upd (upd H4 lp (.lst (nts cs'))) cp (.tup (nts cs')) = H5 at s5 hcp
    have s25 := s23.trans s5
    refine ⟨.ref cp, rfl, .ref t, rfl, t, _, 1, .ref r, rfl, rfl, SqT.of (s25 _ _ ht), atI_nat (j := 1) rfl, (by show 2 ≤ sizeLine; decide), fun th nth => ?_⟩
    have s6 := same_new (o := .tup [.ref cp, .ref r]) nth
    have hth : upd H5 th (.tup [.ref cp, .ref r]) th = some (.tup [.ref cp, .ref r]) := upd_same
    generalize upd H5 th (.tup [.ref cp, .ref r]) = H6 at s6 hth
    have hl' : cs'.length ≤ 8 := Nat.le_trans (ris_len ch'.ris ch'.bd) (by omega)
    have hd' : due ≤ gsum hs cs' := by rw [ch'.sum]; exact told.ge
    have hpap : Paper hs.length (rowsN gs) := by rw [hhl]; exact paper_of hG.pos h8
    refine ⟨_, rfl, .int due, rfl, _, rfl, tn, th, cp, r, hs, due, cs', rowsN gs, rfl, s6 _ _ (s5 _ _ htn), by omega, hth, s6 _ _ hcp, ch'.ris, ch'.bd, hl', hd', hrw.same (s25.trans s6), hpap, fun H7 s7 => ⟨_, rfl, ?_⟩⟩
    refine ⟨_, rfl, .int due, rfl, _, rfl, tn, th, cp, r, hs, due, cs', rowsN gs, rfl, s7 _ _ (s6 _ _ (s5 _ _ htn)), by omega, s7 _ _ hth, s7 _ _ (s6 _ _ hcp), ch'.ris, ch'.bd, hl', hd', hrw.same ((s25.trans s6).trans s7), hpap, fun H8 s8 => ⟨_, rfl, rfl, ?_⟩⟩
    rw [decide_eq_true rfl]
    exact q _ (s3.trans (s5.trans (s6.trans (s7.trans s8))))
end
end K65P
namespace K65P
open PySem PySem.Spec PyProof.Rows L2 K65 K65S RZ
theorem ne_pair {K : PySem.W.Frag} {H : Hp} {a b : Addr} {p : Int × Int} {Q : VK} (ha : H a = some (.tup [.int p.1, .int p.2])) (hb : H b = some (.tup [.int p.1, .int p.2])) (q : Q (.bl false) H) : rNeD K (.ref a) (.ref b) H Q :=
  ⟨pD p, pD p, dp_pair ha, dp_pair hb, pD_shaped p, pD_shaped p, by rw [pD_eqv, decide_eq_true rfl]; exact q⟩
theorem lex_le {p q : Int × Int} (h : ¬ Plt q p) : Ob.lexAt (fun j => decide (([p.1, p.2] : List Int).getD j 0 = ([q.1, q.2] : List Int).getD j 0)) (fun j => decide (([p.1, p.2] : List Int).getD j 0 ≤ ([q.1, q.2] : List Int).getD j 0)) (decide (([p.1, p.2] : List Int).length ≤ ([q.1, q.2] : List Int).length)) 0 (min ([p.1, p.2] : List Int).length ([q.1, q.2] : List Int).length) = true := by
  show (if decide (p.1 = q.1) = true then (if decide (p.2 = q.2) = true then true else decide (p.2 ≤ q.2)) else decide (p.1 ≤ q.1)) = true
  unfold Plt at h
  by_cases h1 : p.1 = q.1
  · rw [if_pos (decide_eq_true h1)]
    by_cases h2 : p.2 = q.2
    · rw [if_pos (decide_eq_true h2)]
    · rw [if_neg (by rw [decide_eq_false h2]; exact Bool.false_ne_true)]
      exact decide_eq_true (by omega)
  · rw [if_neg (by rw [decide_eq_false h1]; exact Bool.false_ne_true)]
    exact decide_eq_true (by omega)
theorem le_pair {K : PySem.W.Frag} {H : Hp} {a b : Addr} {p q : Int × Int} {Q : VK} (ha : H a = some (.tup [.int p.1, .int p.2])) (hb : H b = some (.tup [.int q.1, .int q.2])) (h : ¬ Plt q p) (k : Q (.bl true) H) : rLeT K (.ref a) (.ref b) H Q :=
  ⟨a, b, [p.1, p.2], [q.1, q.2], rfl, rfl, SqT.of ha, SqT.of hb, by rw [lex_le h]; exact k⟩
theorem but_same {d : Addr} {H H' H'' : Hp} (n : H d = none) (s : Same H H') (b : But d H' H'') : Same H H'' := fun c o e => b c o (s c o e) (ne_of_none e n)
theorem sum_mul (c : Int) : ∀ gs : List Int, (gs.map (c * ·)).sum = c * gs.sum
  | [] => by simp
  | g :: gs => by rw [List.map_cons, List.sum_cons, List.sum_cons, sum_mul c gs, Int.mul_add]
theorem cut_seven (xs : List V) : cutV xs none (some 7) = xs.take 7 := by
  unfold cutV
  have e : HT.sIx xs.length xs.length (some 7) = min 7 xs.length := HT.sIx_nat xs.length xs.length 7
  rw [HT.sIx_none, e, List.drop_zero, Nat.sub_zero]
  by_cases h : xs.length ≤ 7
  · rw [Nat.min_eq_right h, List.take_length, List.take_of_length_le h]
  · rw [Nat.min_eq_left (by omega)]
theorem sum_app (a b : List Int) : (a ++ b).sum = a.sum + b.sum := by
  induction a with
  | nil => simp
  | cons x a ih => rw [List.cons_append, List.sum_cons, List.sum_cons, ih, Int.add_assoc]
section
variable {P : Program} {w : World} {K : PySem.W.Frag} {mg : Str → Option Value} {base : Heap}
/-- the law of a list of whole numbers -/
def spLaw (K : PySem.W.Frag) : Sp := fun vs H Q _ => ∃ (a : Addr) (ns : List Int), vs = [.ref a] ∧ SqL K H a (ns.map V.int) ∧ ∀ H', Q (.bl true) H'
theorem ok_law {f f1 f2 f3 f4 f5 f6 f7 : Addr} {fd fd1 fd2 fd3 fd4 fd5 fd6 fd7 : FuncData} (D : Dn K mg "law" 28 ["_law_script"] f fd)
    (D1 : Dn K mg "_law_deck" 14 ["_law_script", "_law_k"] f1 fd1) (G1 : FnOk P w K mg base CX0 5 f1 fd1 ["_law_script", "_law_k"] (spDeck K))
    (D2 : Dn K mg "_law_grains" 16 ["_law_deck_here", "_law_least"] f2 fd2) (G2 : FnOk P w K mg base CX0 5 f2 fd2 ["_law_deck_here", "_law_least"] spGr)
    (D3 : Dn K mg "_law_due" 19 ["_law_deck_here", "_law_grains_here"] f3 fd3) (G3 : FnOk P w K mg base CX0 5 f3 fd3 ["_law_deck_here", "_law_grains_here"] spDue)
    (D4 : Dn K mg "_law_told" 26 ["_law_grains_here", "_law_due_here"] f4 fd4) (G4 : FnOk P w K mg base CX0 5 f4 fd4 ["_law_grains_here", "_law_due_here"] spTold)
    (D5 : Dn K mg "_law_turn" 25 ["_law_deck_here", "_law_many"] f5 fd5) (G5 : FnOk P w K mg base CX0 5 f5 fd5 ["_law_deck_here", "_law_many"] spTurn)
    (D6 : Dn K mg "_law_draw" 15 ["_law_deck_here", "_law_most"] f6 fd6) (G6 : FnOk P w K mg base CX0 5 f6 fd6 ["_law_deck_here", "_law_most"] spDraw)
    (D7 : Dn K mg "_law_paper_right" 27 ["_law_grains_here", "_law_due_here", "_law_order"] f7 fd7) (G7 : FnOk P w K mg base CX0 5 f7 fd7 ["_law_grains_here", "_law_due_here", "_law_order"] spRight) (B : Bl mg) :
    FnOk P w K mg base CX0 6 f fd ["_law_script"] (spLaw K) := by
  refine D.fn.ok scLaw (fun vs H Q E h => ?_) (fun cdv A outer s H vs Q E hr h => ?_)
  · obtain ⟨a, ns, rfl, _⟩ := h
    rfl
  · obtain ⟨a, ns, rfl, hS, q⟩ := h
    have hu := hr.units
    have hl : _ < cLine := Nat.lt_of_le_of_lt (Nat.le_add_right _ 64) hr.units
    refine ⟨_, (pss_cons (ps_for PassesOwn.never rfl (pi_range1 (by rfl) B.range (pa_cons (pe_callB (call_max2 rfl) (by rfl) B.max PyProof.Rows.boot_max (pa_cons pe_int (pa_cons (pe_callB (call_min2 rfl) (by rfl) B.min PyProof.Rows.boot_min (pa_cons (pe_callB call_len_seq (by rfl) B.len PySem.boot_len (pa_cons (pv 0) pa_nil)) (pa_cons pe_int pa_nil))) pa_nil))) pa_nil)) (pg_name (i := 1) scLaw.nd rfl (.inl rfl)) (pss_cons (ps_set (i := 2) scLaw.nd rfl (.inl rfl) (pe_call G1 hr (by rfl) D1.gl D1.kp D1.bi .nil pass0 (pa_cons (pv 0) (pa_cons (pv 1) pa_nil))))
      (pss_cons (ps_set (i := 3) scLaw.nd rfl (.inr rfl) (pe_call G2 hr (by rfl) D2.gl D2.kp D2.bi .nil pass0 (pa_cons (pv 2) (pa_cons pe_int pa_nil))))
      (pss_cons (ps_set (i := 4) scLaw.nd rfl (.inl rfl) (pe_callB (call_min2 rfl) (by rfl) B.min PyProof.Rows.boot_min (pa_cons (pe_callB (cr_sumT rfl) (by rfl) B.sum PyProof.Rows.boot_sum (pa_cons (pv 3) pa_nil)) (pa_cons (pe_call G3 hr (by rfl) D3.gl D3.kp D3.bi .nil pass0 (pa_cons (pv 2) (pa_cons (pv 3) pa_nil))) pa_nil))))
      (pss_cons (ps_set (i := 5) scLaw.nd rfl (.inl rfl) (pe_call G4 hr (by rfl) D4.gl D4.kp D4.bi .nil pass0 (pa_cons (pv 3) (pa_cons (pv 4) pa_nil))))
      (pss_cons (ps_set (i := 6) scLaw.nd rfl (.inl rfl) (pe_call G5 hr (by rfl) D5.gl D5.kp D5.bi .nil pass0 (pa_cons (pv 2) (pa_cons (pe_callB call_len_seq (by rfl) B.len PySem.boot_len (pa_cons (pv 3) pa_nil)) pa_nil))))
      (pss_cons (ps_set (i := 7) scLaw.nd rfl (.inr rfl) (pe_op op_add pe_int (pe_call G6 hr (by rfl) D6.gl D6.kp D6.bi .nil pass0 (pa_cons (pv 2) (pa_cons pe_int pa_nil)))))
      (pss_cons (ps_set (i := 8) scLaw.nd rfl (.inl rfl) (pe_callTy call_tuple_of (by rfl) B.tuple PyProof.Rows.boot_tuple (pa_cons (pe_lc (own := [("_law_number", 12)]) (g := gName 12) (tt := tYes) (te := (tOp (rIxT K) (tVar 3) (tVar 12))) (by rfl) scLaw.nd (pi_list (pv 6)) (blkOk_by (own := [("_law_number", 12)]) (N := nLaw) (sc := defScope (top 28)) (by decide +kernel)) (fun _ _ _ _ _ => (pg_name (i := 12) scLaw.nd rfl (.inl rfl))) (fun _ _ _ _ _ => pts_nil) (fun _ _ _ _ _ => (pe_ix ix_tup (pv 3) (pv 12) (fun _ _ => rfl)))) pa_nil)))
      (pss_cons (ps_if (PW.pt (pw_or (pt_cmp (pc_isN (pv 5)) (by rfl)) (pw_or1 (pt_cmpR (op_neD hu) (pe_call G4 hr (by rfl) D4.gl D4.kp D4.bi .nil pass0 (pa_cons (pv 8) (pa_cons (pv 4) pa_nil))) (pv 5) (nomark _))))) (pss_one (ps_ret pe_bl)) pss_nil)
      (pss_cons (ps_if (pt_not (pt_val (pe_call G7 hr (by rfl) D7.gl D7.kp D7.bi .nil pass0 (pa_cons (pv 3) (pa_cons (pv 4) (pa_cons (pv 6) pa_nil)))))) (pss_one (ps_ret pe_bl)) pss_nil)
      (pss_cons (ps_set (i := 9) scLaw.nd rfl (.inl rfl) (pe_callTy call_tuple_of (by rfl) B.tuple PyProof.Rows.boot_tuple (pa_cons (pe_lc (own := [("_law_one", 13)]) (g := gName 13) (tt := tYes) (te := (tOp (rI CMul fun i j => .int (i * j)) (tVar 7) (tVar 13))) (by rfl) scLaw.nd (pi_tup (pv 3)) (blkOk_by (own := [("_law_one", 13)]) (N := nLaw) (sc := defScope (top 28)) (by decide +kernel)) (fun _ _ _ _ _ => (pg_name (i := 13) scLaw.nd rfl (.inl rfl))) (fun _ _ _ _ _ => pts_nil) (fun _ _ _ _ _ => (pe_op op_mul (pv 7) (pv 13)))) pa_nil)))
      (pss_mid (ps_if (pt_cmpR op_le (pe_callB (cr_sumT rfl) (by rfl) B.sum PyProof.Rows.boot_sum (pa_cons (pv 9) pa_nil)) (pe_op op_pow pe_int pe_int) (nomark _)) (pss_cons (ps_set (i := 10) scLaw.nd rfl (.inl rfl) (pe_call G4 hr (by rfl) D4.gl D4.kp D4.bi .nil pass0 (pa_cons (pv 9) (pa_cons (pe_op op_mul (pv 7) (pv 4)) pa_nil))))
      (pss_one (ps_if (pt_cmpR (op_neD hu) (pv 10) (pe_tup (pa_cons (pe_op op_mul (pv 7) (pe_ix ix_tup (pv 5) pe_int (fun _ _ => rfl))) (pa_cons (pe_ix ix_tup (pv 5) pe_int (fun _ _ => rfl)) pa_nil))) (nomark _)) (pss_one (ps_ret pe_bl)) pss_nil))) pss_nil)
      (pss_cons (ps_if (pt_cmpR (op_neD hu) (pe_call G4 hr (by rfl) D4.gl D4.kp D4.bi .nil pass0 (pa_cons (pv 3) (pa_cons (pe_ix ix_tup (pv 5) pe_int (fun _ _ => rfl)) pa_nil))) (pv 5) (nomark _)) (pss_one (ps_ret pe_bl)) pss_nil)
      (pss_mid (ps_if (PW.pt (pw_and (pt_cmpR op_gt (pv 4) pe_int (nomark _)) (pw_and1 (pt_not (pt_cmpR (op_leT hl) (pe_call G4 hr (by rfl) D4.gl D4.kp D4.bi .nil pass0 (pa_cons (pv 3) (pa_cons (pe_op op_sub (pv 4) pe_int) pa_nil))) (pv 5) (nomark _)))))) (pss_one (ps_ret pe_bl)) pss_nil)
      (pss_cons (ps_set (i := 11) scLaw.nd rfl (.inl rfl) (pe_op op_catA (pe_slice sl_tupA (pv 3) po_none (po_some pe_int)) (pe_tup (pa_cons (pe_op op_add pe_int (pe_call G6 hr (by rfl) D6.gl D6.kp D6.bi .nil pass0 (pa_cons (pv 2) (pa_cons pe_int pa_nil)))) pa_nil))))
      (pss_mid (ps_if (PW.pt (pw_and (pt_cmpR op_lt (pe_callB call_len_seq (by rfl) B.len PySem.boot_len (pa_cons (pv 3) pa_nil)) pe_int (nomark _)) (pw_and1 (pt_not (pt_cmpR (op_leT hl) (pe_call G4 hr (by rfl) D4.gl D4.kp D4.bi .nil pass0 (pa_cons (pv 11) (pa_cons (pv 4) pa_nil))) (pv 5) (nomark _)))))) (pss_one (ps_ret pe_bl)) pss_nil)
      (pss_one (ps_if (PW.pt (pw_and (pt_cmpR op_ge (pe_callB (cr_sumT rfl) (by rfl) B.sum PyProof.Rows.boot_sum (pa_cons (pe_slice sl_tupA (pv 3) (po_some pe_int) po_none) pa_nil)) (pv 4) (nomark _)) (pw_and1 (pt_not (pt_cmpR (op_leT hl) (pv 5) (pe_call G4 hr (by rfl) D4.gl D4.kp D4.bi .nil pass0 (pa_cons (pe_slice sl_tupA (pv 3) (po_some pe_int) po_none) (pa_cons (pv 4) pa_nil))) (nomark _)))))) (pss_one (ps_ret pe_bl)) pss_nil))))))))))))))))))
      (pss_one (ps_ret pe_bl))), ?_⟩
    refine ⟨.ref a, rfl, a, _, rfl, .inl hS, _, _, rfl, _, _, rfl, _, rfl, ?_, ?_, ?_⟩
    · split <;> split <;> omega
    · split <;> split <;> omega
    refine for_it walk_range (fun i σ H2 => ∃ y1 y2 y3 y4 y5 y6 y7 y8 y9 y10 y11 y12 y13 : Option V, σ = [some (.ref a), y1, y2, y3, y4, y5, y6, y7, y8, y9, y10, y11, y12, y13] ∧ Same H H2)
      ⟨none, none, none, none, none, none, none, none, none, none, none, none, none, rfl, fun _ _ e => e⟩ (fun _ _ _ _ _ => trivial) ?_ (fun σ H2 ⟨_, _, _, _, _, _, _, _, _, _, _, _, _, _, _⟩ => q H2)
    rintro i x σ H2 H2' hi ⟨y1, y2, y3, y4, y5, y6, y7, y8, y9, y10, y11, y12, y13, rfl, s2⟩ ⟨rfl, rfl⟩
    -- the deck, the grains, what is due
    refine ⟨.ref a, rfl, _, rfl, a, ns, i, (by show [V.ref a, V.int (0 + (i : Int))] = [V.ref a, V.int (i : Int)]; rw [Int.zero_add]), s2.seq hS, fun d H3 nd s3 D3 => ?_⟩
    refine ⟨.ref d, rfl, d, rfl, D3, fun H4 g gs b4 D4 hg hG hB => ?_⟩
    have gd : g ≠ d := deck_ne D4 hg
    have h8 := hG.le
    have h1 := hG.ge
    have hsum := sum_le hG.pos hB
    have hpos := sum_pos hG.pos (fun z => by rw [z] at h1; exact absurd h1 (by decide))
    refine ⟨.ref g, rfl, g, gs, rfl, SqT.of hg, .ref d, rfl, .ref g, rfl, d, g, gs, rfl, D4, hg, hG, hB, fun H5 dd b5 D5 hdd => ⟨_, _, rfl, ?_⟩⟩
    have hdue : 1 ≤ (if dd < gs.sum then dd else gs.sum) ∧ (if dd < gs.sum then dd else gs.sum) ≤ gs.sum := by split <;> omega
    generalize (if dd < gs.sum then dd else gs.sum) = due at hdue
    have hg5 := b5 _ _ hg gd
    -- what is told
    refine ⟨.ref g, rfl, .int due, rfl, g, gs, due, rfl, hg5, h8, hdue.2, fun H6 t p s6 ht hT => ?_⟩
    have D6' := D5.same s6
    have td : t ≠ d := deck_ne D6' ht
    have hg6 := s6 _ _ hg5
    -- the order
    refine ⟨.ref d, rfl, .ref g, rfl, g, gs.map V.int, rfl, .inr (SqT.of hg6), ?_⟩
    rw [List.length_map]
    refine ⟨d, gs.length, rfl, D6', h8, fun H7 o order b7 D7' no od ho pm => ?_⟩
    have hol : order.length = gs.length := by have := pm.length_eq; rwa [List.length_range] at this
    have hob : ∀ k ∈ order, k < gs.length := fun k hk => List.mem_range.mp (pm.mem_iff.mp hk)
    refine ⟨.ref d, rfl, d, 5, rfl, D7', by decide, by decide, fun H8 r8 r80 r81 D8 b8 => ⟨_, _, rfl, rfl, ?_⟩⟩
    have hc : 2 ≤ 2 + r8 ∧ 2 + r8 ≤ 6 := ⟨by omega, by omega⟩
    have hg8 := b8 _ _ (b7 _ _ hg6 gd) gd
    have ht8 := b8 _ _ (b7 _ _ ht td) td
    have ho8 := b8 _ _ ho od
    have b38 : But d H3 H8 := b4.trans (b5.trans ((But.of_same s6).trans (b7.trans b8)))
    clear b4 b5 b7 b8 s6 hg hg5 hg6 ht ho no D4 D5 D6' D7' D3
    -- turned
    refine ⟨.ref o, rfl, o, rfl, ⟨_, SqL.of ho8⟩, fun m nm => ?_⟩
    refine lc_same (walk_list (xs := nts order)) (fun j => ((order.take j).map fun i => gs.getD i 0).map V.int) rfl nm (fun i hi => ?_) (fun H s => SqL.of (s _ _ ho8)) at_same ?_ ?_
    · rw [List.length_map, List.length_map, List.length_take]; omega
    · rintro i x H2 H2' hi s2 ⟨rfl, hx⟩ RR NN kR kN
      rw [List.getElem?_map] at hx
      obtain ⟨k, hk, rfl⟩ := Option.map_eq_some_iff.mp hx
      have hkb := hob k (List.mem_of_getElem? hk)
      have hgk : gs[k]? = some gs[k] := List.getElem?_eq_getElem hkb
      refine ⟨rfl, iteT (B := True) (iteT ?_)⟩
      refine ⟨.ref g, rfl, _, rfl, g, gs.map V.int, _, .int gs[k], rfl, rfl, SqT.of (s2 _ _ hg8), atI_nat (by rw [List.getElem?_map, hgk]; rfl), kR _ _ ?_ fun _ _ e => e⟩
      rw [turned_get i hk, List.map_append, getD_of hgk]; rfl
    intro H9 s9 hm
    rw [map_take_all _ _ _ (by rw [List.length_map])] at hm
    have hperm : (order.map fun i => gs.getD i 0).Perm gs := turned_perm pm
    generalize (order.map fun i => gs.getD i 0) = hs at hm hperm
    have hhl : hs.length = gs.length := hperm.length_eq
    have hhs : hs.sum = gs.sum := perm_sum hperm
    refine ⟨m, _, rfl, .inl ⟨SqL.of hm, fun tn ntn => ?_⟩⟩
    have sA := s9.trans (same_new (o := .tup (hs.map V.int)) ntn)
    have htn : upd H9 tn (.tup (hs.map V.int)) tn = some (.tup (hs.map V.int)) := upd_same
    generalize upd H9 tn (.tup (hs.map V.int)) = HA at sA htn
    -- the same of another order
    refine ⟨.ref t, rfl, false, rfl, iteF ?_⟩
    refine ⟨.ref tn, rfl, .int due, rfl, tn, hs, due, rfl, htn, by omega, by omega, fun HB t2 p2 sB ht2 hT2 => ?_⟩
    have e2 : p2 = p := hT2.uniq (Told.perm hperm.symm hT)
    subst e2
    have s8B := sA.trans sB
    refine ⟨.ref t, rfl, ne_pair ht2 (s8B _ _ ht8) ⟨false, rfl, iteF ?_⟩⟩
    -- the paper
    refine ⟨.ref g, rfl, .int due, rfl, .ref o, rfl, g, o, gs, due, order, rfl, s8B _ _ hg8, hG, hdue.2, s8B _ _ ho8, pm, fun HC sC => ⟨true, rfl, iteF ?_⟩⟩
    have s8C := s8B.trans sC
    have hgC := s8C _ _ hg8
    have htC := s8C _ _ ht8
    have bC : But d H3 HC := b38.trans (.of_same s8C)
    have DC := D8.same s8C
    clear b38 s8C s8B sA sB sC s9 D8 hm ht2 htn hT2 hg8 ht8 ho8 nm ntn
    -- so many times as great
    refine ⟨.ref g, rfl, g, rfl, ⟨_, SqT.of hgC⟩, fun m2 nm2 => ?_⟩
    refine lc_same (walk_tup (xs := gs.map V.int)) (fun j => ((gs.take j).map ((2 + r8) * ·)).map V.int) rfl nm2 (fun i hi => ?_) (fun H s => SqT.of (s _ _ hgC)) at_same ?_ ?_
    · rw [List.length_map, List.length_map, List.length_take]; omega
    · rintro i x H2 H2' hi s2 ⟨rfl, hx⟩ RR NN kR kN
      rw [List.getElem?_map] at hx
      obtain ⟨k, hk, rfl⟩ := Option.map_eq_some_iff.mp hx
      refine ⟨rfl, iteT (B := True) (iteT ?_)⟩
      refine ⟨_, rfl, _, rfl, _, _, rfl, rfl, .inl ⟨by omega, by omega⟩, kR _ _ ?_ fun _ _ e => e⟩
      rw [map_snoc _ _ _ hk, List.map_append]; rfl
    intro HD sD hm2
    rw [map_take_all _ _ _ (by rw [List.length_map])] at hm2
    refine ⟨m2, _, rfl, .inl ⟨SqL.of hm2, fun gr ngr => ?_⟩⟩
    have sE := sD.trans (same_new (o := .tup ((gs.map ((2 + r8) * ·)).map V.int)) ngr)
    have hgr : upd HD gr (.tup ((gs.map ((2 + r8) * ·)).map V.int)) gr = some (.tup ((gs.map ((2 + r8) * ·)).map V.int)) := upd_same
    generalize upd HD gr (.tup ((gs.map ((2 + r8) * ·)).map V.int)) = HE at sE hgr
    have hgE := sE _ _ hgC
    have htE := sE _ _ htC
    have bE : But d H3 HE := bC.trans (.of_same sE)
    have DE := DC.same sE
    clear bC DC hgC htC sD sE hm2 nm2 ngr
    refine ⟨fun σ' H' => ∃ y10 y11 y12 y13 : Option V, σ' = [some (.ref a), some (.int (0 + (i : Nat))), some (.ref d), some (.ref g), some (.int due), some (.ref t), some (.ref o), some (.int (2 + r8)), some (.ref tn), some (.ref gr), y10, y11, y12, y13] ∧ Same HE H', ?_, ?_⟩
    · refine ⟨.ref gr, rfl, gr, gs.map ((2 + r8) * ·), rfl, SqT.of hgr, _, _, rfl, rfl, ⟨by decide, by decide, by decide⟩, _, _, rfl, rfl, _, rfl, ite2 (fun _ => ?_) (fun _ => ⟨_, _, _, _, rfl, fun _ _ e => e⟩)⟩
      have hcd : (2 + r8) * due ≤ (gs.map ((2 + r8) * ·)).sum := by rw [sum_mul]; exact Int.mul_le_mul_of_nonneg_left hdue.2 (by omega)
      refine ⟨.ref gr, rfl, .int (2 + r8), rfl, .int due, rfl, _, _, rfl, rfl, .inl ⟨by omega, by omega⟩, gr, gs.map ((2 + r8) * ·), (2 + r8) * due, rfl, hgr, by rw [List.length_map]; exact h8, hcd, fun HF wd pw sF hwd hTw => ?_⟩
      have ew : pw = ((2 + r8) * p2.1, p2.2) := hTw.uniq (hT.scale (by omega))
      subst ew
      have htF := sF _ _ htE
      refine ⟨.ref wd, rfl, .int (2 + r8), rfl, .ref t, rfl, t, _, 0, .int p2.1, rfl, rfl, SqT.of htF, atI_nat (j := 0) rfl, _, _, rfl, rfl, .inl ⟨by omega, by omega⟩, .ref t, rfl, t, _, 1, .int p2.2, rfl, rfl, SqT.of htF, atI_nat (j := 1) rfl, (by show 2 ≤ sizeLine; decide), fun z nz => ?_⟩
      have sz := same_new (o := .tup [.int ((2 + r8) * p2.1), .int p2.2]) nz
      exact ne_pair (p := ((2 + r8) * p2.1, p2.2)) (sz _ _ hwd) upd_same ⟨false, rfl, iteF ⟨_, _, _, _, rfl, sF.trans sz⟩⟩
    rintro σ' HF ⟨y10, y11, y12, y13, rfl, sF⟩
    have hgF := sF _ _ hgE
    have htF := sF _ _ htE
    have bF : But d H3 HF := bE.trans (.of_same sF)
    have DF := DE.same sF
    clear bE DE hgE htE hgr sF
    -- what comes to due just
    have hp1 := R_bound hG.pos hT.mem
    refine ⟨.ref g, rfl, .ref t, rfl, t, _, 0, .int p2.1, rfl, rfl, SqT.of htF, atI_nat (j := 0) rfl, g, gs, p2.1, rfl, hgF, h8, hp1.2.1, fun HG t3 p3 sG ht3 hT3 => ?_⟩
    have e3 : p3 = p2 := hT3.uniq hT.same
    subst e3
    have hgG := sG _ _ hgF
    have htG := sG _ _ htF
    have bG : But d H3 HG := bF.trans (.of_same sG)
    have DG := DF.same sG
    clear bF DF hgF htF
    refine ⟨.ref t, rfl, ne_pair ht3 htG ⟨false, rfl, iteF ?_⟩⟩
    -- less due
    refine ⟨fun σ' H' => σ' = [some (.ref a), some (.int (0 + (i : Nat))), some (.ref d), some (.ref g), some (.int due), some (.ref t), some (.ref o), some (.int (2 + r8)), some (.ref tn), some (.ref gr), y10, y11, y12, y13] ∧ Same HG H', ?_, ?_⟩
    · refine ⟨.int due, rfl, _, _, rfl, rfl, _, rfl, ite2 (fun _ => ?_) (fun _ => iteF ⟨rfl, fun _ _ e => e⟩)⟩
      refine ⟨.ref g, rfl, .int due, rfl, _, _, rfl, rfl, g, gs, due - 1, rfl, hgG, h8, by omega, fun HI t4 p4 sI ht4 hT4 => ?_⟩
      exact ⟨.ref t, rfl, le_pair ht4 (sI _ _ htG) (Told.less (by omega) hT hT4) ⟨true, rfl, iteF ⟨rfl, sI⟩⟩⟩
    rintro σ' HI ⟨rfl, sI⟩
    have hgI := sI _ _ hgG
    have htI := sI _ _ htG
    have bI : But d H3 HI := bG.trans (.of_same sI)
    have DI := DG.same sI
    clear bG DG hgG htG ht3 sI
    -- a grain more
    refine ⟨.ref g, rfl, 7, rfl, sl_ok hgI (cut_seven _) fun HJ q7 sJ hq7 => ?_⟩
    have DJ := DI.same sJ
    have q7d : q7 ≠ d := deck_ne DJ hq7
    refine ⟨.ref d, rfl, d, 30, rfl, DJ, by decide, by decide, fun HL r9 r90 r91 DL bL => ⟨_, _, rfl, rfl, (by show 1 ≤ sizeLine; decide), fun u nu => ?_⟩⟩
    have su := same_new (o := .tup [.int (1 + r9)]) nu
    have hx7 : ∃ z zs, (gs.map V.int).take 7 = z :: zs := by
      cases gs with
      | nil => exact absurd h1 (by decide)
      | cons z zs => exact ⟨_, _, rfl⟩
    refine ⟨q7, u, _, _, rfl, rfl, SqT.of (su _ _ (bL _ _ hq7 q7d)), SqT.of upd_same, ?_, fun e => ?_, fun _ e => absurd e (by simp), fun _ _ mo nmo => ?_⟩
    · rw [List.length_take, List.length_map, List.length_singleton]; exact small (by omega)
    · obtain ⟨z, zs, ez⟩ := hx7
      rw [ez] at e
      exact nomatch e
    have hmo : upd (upd HL u (.tup [.int (1 + r9)])) mo (.tup ((gs.map V.int).take 7 ++ [.int (1 + r9)])) mo = some (.tup ((gs.map V.int).take 7 ++ [.int (1 + r9)])) := upd_same
    have sM := su.trans (same_new (o := .tup ((gs.map V.int).take 7 ++ [.int (1 + r9)])) nmo)
    generalize upd (upd HL u (.tup [.int (1 + r9)])) mo (.tup ((gs.map V.int).take 7 ++ [.int (1 + r9)])) = HM at hmo sM
    have hgM := sM _ _ (bL _ _ (sJ _ _ hgI) gd)
    have htM := sM _ _ (bL _ _ (sJ _ _ htI) td)
    have bM : But d H3 HM := bI.trans ((But.of_same sJ).trans (bL.trans (.of_same sM)))
    clear bI DI hgI htI sM su DL bL DJ hq7 sJ
    refine ⟨fun σ' H' => σ' = [some (.ref a), some (.int (0 + (i : Nat))), some (.ref d), some (.ref g), some (.int due), some (.ref t), some (.ref o), some (.int (2 + r8)), some (.ref tn), some (.ref gr), y10, some (.ref mo), y12, y13] ∧ Same HM H', ?_, ?_⟩
    · refine ⟨.ref g, rfl, g, gs.map V.int, rfl, .inr (SqT.of hgM), ?_⟩
      rw [List.length_map]
      refine ⟨_, _, rfl, rfl, _, rfl, ite2 (fun e => ?_) (fun _ => iteF ⟨rfl, fun _ _ e => e⟩)⟩
      have hlt : gs.length < 8 := by have := of_decide_eq_true e; omega
      have et : (gs.map V.int).take 7 ++ [.int (1 + r9)] = (gs ++ [1 + r9]).map V.int := by
        rw [List.take_of_length_le (by rw [List.length_map]; omega), List.map_append]; rfl
      rw [et] at hmo
      refine ⟨.ref mo, rfl, .int due, rfl, mo, gs ++ [1 + r9], due, rfl, hmo, by rw [List.length_append]; show gs.length + 1 ≤ 8; omega, by rw [sum_app, List.sum_cons, List.sum_nil]; omega, fun HN t5 p5 sN ht5 hT5 => ?_⟩
      exact ⟨.ref t, rfl, le_pair ht5 (sN _ _ htM) (hT.more hT5) ⟨true, rfl, iteF ⟨rfl, sN⟩⟩⟩
    rintro σ' HN ⟨rfl, sN⟩
    have hgN := sN _ _ hgM
    have htN := sN _ _ htM
    have bN : But d H3 HN := bM.trans (.of_same sN)
    clear bM hgM htM hmo sN
    -- a grain fewer
    have fin : ∀ H', Same HN H' → Same H H' := fun H' s' => s2.trans (but_same nd s3 (bN.trans (.of_same s')))
    obtain ⟨x, tl, rfl⟩ : ∃ x tl, gs = x :: tl := by
      cases gs with
      | nil => exact absurd h1 (by decide)
      | cons z zs => exact ⟨z, zs, rfl⟩
    refine ⟨.ref g, rfl, 1, rfl, ?_⟩
    refine sl_okN hgN (cut_tail _) fun HO s1 sO hs1 => ?_
    refine ⟨s1, tl, rfl, SqT.of hs1, .int due, rfl, _, _, rfl, rfl, _, rfl, ite2 (fun e => ?_) (fun _ => iteF ⟨_, _, _, _, _, _, _, _, _, _, _, _, _, rfl, fin _ sO⟩)⟩
    have hle : due ≤ tl.sum := of_decide_eq_true e
    refine ⟨.ref t, rfl, .ref g, rfl, 1, rfl, ?_⟩
    refine sl_okN (sO _ _ hgN) (cut_tail _) fun HP s4 sP hs4 => ?_
    have s3' := sO.trans sP
    refine ⟨.int due, rfl, s4, tl, due, rfl, hs4, by rw [List.length_cons] at h8; omega, hle, fun HQ t6 p6 sQ ht6 hT6 => ?_⟩
    have s4' := s3'.trans sQ
    exact le_pair (s4' _ _ htN) ht6 (Told.fewer hT hT6) ⟨true, rfl, iteF ⟨_, _, _, _, _, _, _, _, _, _, _, _, _, rfl, fin _ s4'⟩⟩
end
end K65P
namespace K65P
open PySem PySem.Spec PyProof.Rows L2 K65 K65S RZ
/-! What the top has left, and the law's own head. -/
theorem all_mk {l : PySem.W.OpenLaw} {w : World} {K : PySem.W.Frag} {h : Heap} {mg : Str → Option Value} {fa : Addr} (X : K.In h) (G : h.Ns mainGlobals mg) (hfa : mg "law" = some (.ref fa))
    {f1 : Addr} {od1 an1 : Option Addr} {sl1 : Array (Option Value)} {oc1 kV1 dc1 pm1 cd1 ct1 : Value}
    (a1 : PySem.W.nsIn K mainGlobals "rows_of" = some (some (.ref f1))) (l1 : K.lookup f1 = some ⟨oc1, od1, .func (PySem.W.fnOf "rows_of" "rows_of" (defArgs (top 1)) (defBody (top 1)) (defScope (top 1)) .none kV1 dc1 pm1 an1 cd1 ct1), sl1⟩) (c1 : PySem.W.codeIn K cd1 "rows_of" = true) (k1 : PySem.W.keepIn K (.ref f1) = true)
    {f2 : Addr} {od2 an2 : Option Addr} {sl2 : Array (Option Value)} {oc2 kV2 dc2 pm2 cd2 ct2 : Value}
    (a2 : PySem.W.nsIn K mainGlobals "chosen_by" = some (some (.ref f2))) (l2 : K.lookup f2 = some ⟨oc2, od2, .func (PySem.W.fnOf "chosen_by" "chosen_by" (defArgs (top 2)) (defBody (top 2)) (defScope (top 2)) .none kV2 dc2 pm2 an2 cd2 ct2), sl2⟩) (c2 : PySem.W.codeIn K cd2 "chosen_by" = true) (k2 : PySem.W.keepIn K (.ref f2) = true)
    {f3 : Addr} {od3 an3 : Option Addr} {sl3 : Array (Option Value)} {oc3 kV3 dc3 pm3 cd3 ct3 : Value}
    (a3 : PySem.W.nsIn K mainGlobals "few_notes" = some (some (.ref f3))) (l3 : K.lookup f3 = some ⟨oc3, od3, .func (PySem.W.fnOf "few_notes" "few_notes" (defArgs (top 3)) (defBody (top 3)) (defScope (top 3)) .none kV3 dc3 pm3 an3 cd3 ct3), sl3⟩) (c3 : PySem.W.codeIn K cd3 "few_notes" = true) (k3 : PySem.W.keepIn K (.ref f3) = true)
    {f4 : Addr} {od4 an4 : Option Addr} {sl4 : Array (Option Value)} {oc4 kV4 dc4 pm4 cd4 ct4 : Value}
    (a4 : PySem.W.nsIn K mainGlobals "is_whole" = some (some (.ref f4))) (l4 : K.lookup f4 = some ⟨oc4, od4, .func (PySem.W.fnOf "is_whole" "is_whole" (defArgs (top 5)) (defBody (top 5)) (defScope (top 5)) .none kV4 dc4 pm4 an4 cd4 ct4), sl4⟩) (c4 : PySem.W.codeIn K cd4 "is_whole" = true) (k4 : PySem.W.keepIn K (.ref f4) = true)
    {f5 : Addr} {od5 an5 : Option Addr} {sl5 : Array (Option Value)} {oc5 kV5 dc5 pm5 cd5 ct5 : Value}
    (a5 : PySem.W.nsIn K mainGlobals "are_rising" = some (some (.ref f5))) (l5 : K.lookup f5 = some ⟨oc5, od5, .func (PySem.W.fnOf "are_rising" "are_rising" (defArgs (top 7)) (defBody (top 7)) (defScope (top 7)) .none kV5 dc5 pm5 an5 cd5 ct5), sl5⟩) (c5 : PySem.W.codeIn K cd5 "are_rising" = true) (k5 : PySem.W.keepIn K (.ref f5) = true)
    {f6 : Addr} {od6 an6 : Option Addr} {sl6 : Array (Option Value)} {oc6 kV6 dc6 pm6 cd6 ct6 : Value}
    (a6 : PySem.W.nsIn K mainGlobals "are_numbers" = some (some (.ref f6))) (l6 : K.lookup f6 = some ⟨oc6, od6, .func (PySem.W.fnOf "are_numbers" "are_numbers" (defArgs (top 8)) (defBody (top 8)) (defScope (top 8)) .none kV6 dc6 pm6 an6 cd6 ct6), sl6⟩) (c6 : PySem.W.codeIn K cd6 "are_numbers" = true) (k6 : PySem.W.keepIn K (.ref f6) = true)
    {f7 : Addr} {od7 an7 : Option Addr} {sl7 : Array (Option Value)} {oc7 kV7 dc7 pm7 cd7 ct7 : Value}
    (a7 : PySem.W.nsIn K mainGlobals "is_sum_pair" = some (some (.ref f7))) (l7 : K.lookup f7 = some ⟨oc7, od7, .func (PySem.W.fnOf "is_sum_pair" "is_sum_pair" (defArgs (top 9)) (defBody (top 9)) (defScope (top 9)) .none kV7 dc7 pm7 an7 cd7 ct7), sl7⟩) (c7 : PySem.W.codeIn K cd7 "is_sum_pair" = true) (k7 : PySem.W.keepIn K (.ref f7) = true)
    {f8 : Addr} {od8 an8 : Option Addr} {sl8 : Array (Option Value)} {oc8 kV8 dc8 pm8 cd8 ct8 : Value}
    (a8 : PySem.W.nsIn K mainGlobals "is_paper_row" = some (some (.ref f8))) (l8 : K.lookup f8 = some ⟨oc8, od8, .func (PySem.W.fnOf "is_paper_row" "is_paper_row" (defArgs (top 10)) (defBody (top 10)) (defScope (top 10)) .none kV8 dc8 pm8 an8 cd8 ct8), sl8⟩) (c8 : PySem.W.codeIn K cd8 "is_paper_row" = true) (k8 : PySem.W.keepIn K (.ref f8) = true)
    {f9 : Addr} {od9 an9 : Option Addr} {sl9 : Array (Option Value)} {oc9 kV9 dc9 pm9 cd9 ct9 : Value}
    (a9 : PySem.W.nsIn K mainGlobals "leads_on" = some (some (.ref f9))) (l9 : K.lookup f9 = some ⟨oc9, od9, .func (PySem.W.fnOf "leads_on" "leads_on" (defArgs (top 11)) (defBody (top 11)) (defScope (top 11)) .none kV9 dc9 pm9 an9 cd9 ct9), sl9⟩) (c9 : PySem.W.codeIn K cd9 "leads_on" = true) (k9 : PySem.W.keepIn K (.ref f9) = true)
    {f10 : Addr} {od10 an10 : Option Addr} {sl10 : Array (Option Value)} {oc10 kV10 dc10 pm10 cd10 ct10 : Value}
    (a10 : PySem.W.nsIn K mainGlobals "few_holds" = some (some (.ref f10))) (l10 : K.lookup f10 = some ⟨oc10, od10, .func (PySem.W.fnOf "few_holds" "few_holds" (defArgs (top 12)) (defBody (top 12)) (defScope (top 12)) .none kV10 dc10 pm10 an10 cd10 ct10), sl10⟩) (c10 : PySem.W.codeIn K cd10 "few_holds" = true) (k10 : PySem.W.keepIn K (.ref f10) = true)
    {f11 : Addr} {od11 an11 : Option Addr} {sl11 : Array (Option Value)} {oc11 kV11 dc11 pm11 cd11 ct11 : Value}
    (a11 : PySem.W.nsIn K mainGlobals "_law_deck" = some (some (.ref f11))) (l11 : K.lookup f11 = some ⟨oc11, od11, .func (PySem.W.fnOf "_law_deck" "_law_deck" (defArgs (top 14)) (defBody (top 14)) (defScope (top 14)) .none kV11 dc11 pm11 an11 cd11 ct11), sl11⟩) (c11 : PySem.W.codeIn K cd11 "_law_deck" = true) (k11 : PySem.W.keepIn K (.ref f11) = true)
    {f12 : Addr} {od12 an12 : Option Addr} {sl12 : Array (Option Value)} {oc12 kV12 dc12 pm12 cd12 ct12 : Value}
    (a12 : PySem.W.nsIn K mainGlobals "_law_draw" = some (some (.ref f12))) (l12 : K.lookup f12 = some ⟨oc12, od12, .func (PySem.W.fnOf "_law_draw" "_law_draw" (defArgs (top 15)) (defBody (top 15)) (defScope (top 15)) .none kV12 dc12 pm12 an12 cd12 ct12), sl12⟩) (c12 : PySem.W.codeIn K cd12 "_law_draw" = true) (k12 : PySem.W.keepIn K (.ref f12) = true)
    {f13 : Addr} {od13 an13 : Option Addr} {sl13 : Array (Option Value)} {oc13 kV13 dc13 pm13 cd13 ct13 : Value}
    (a13 : PySem.W.nsIn K mainGlobals "_law_grains" = some (some (.ref f13))) (l13 : K.lookup f13 = some ⟨oc13, od13, .func (PySem.W.fnOf "_law_grains" "_law_grains" (defArgs (top 16)) (defBody (top 16)) (defScope (top 16)) .none kV13 dc13 pm13 an13 cd13 ct13), sl13⟩) (c13 : PySem.W.codeIn K cd13 "_law_grains" = true) (k13 : PySem.W.keepIn K (.ref f13) = true)
    {f14 : Addr} {od14 an14 : Option Addr} {sl14 : Array (Option Value)} {oc14 kV14 dc14 pm14 cd14 ct14 : Value}
    (a14 : PySem.W.nsIn K mainGlobals "_law_choices" = some (some (.ref f14))) (l14 : K.lookup f14 = some ⟨oc14, od14, .func (PySem.W.fnOf "_law_choices" "_law_choices" (defArgs (top 17)) (defBody (top 17)) (defScope (top 17)) .none kV14 dc14 pm14 an14 cd14 ct14), sl14⟩) (c14 : PySem.W.codeIn K cd14 "_law_choices" = true) (k14 : PySem.W.keepIn K (.ref f14) = true)
    {f15 : Addr} {od15 an15 : Option Addr} {sl15 : Array (Option Value)} {oc15 kV15 dc15 pm15 cd15 ct15 : Value}
    (a15 : PySem.W.nsIn K mainGlobals "_law_due" = some (some (.ref f15))) (l15 : K.lookup f15 = some ⟨oc15, od15, .func (PySem.W.fnOf "_law_due" "_law_due" (defArgs (top 19)) (defBody (top 19)) (defScope (top 19)) .none kV15 dc15 pm15 an15 cd15 ct15), sl15⟩) (c15 : PySem.W.codeIn K cd15 "_law_due" = true) (k15 : PySem.W.keepIn K (.ref f15) = true)
    {f16 : Addr} {od16 an16 : Option Addr} {sl16 : Array (Option Value)} {oc16 kV16 dc16 pm16 cd16 ct16 : Value}
    (a16 : PySem.W.nsIn K mainGlobals "_law_whole" = some (some (.ref f16))) (l16 : K.lookup f16 = some ⟨oc16, od16, .func (PySem.W.fnOf "_law_whole" "_law_whole" (defArgs (top 20)) (defBody (top 20)) (defScope (top 20)) .none kV16 dc16 pm16 an16 cd16 ct16), sl16⟩) (c16 : PySem.W.codeIn K cd16 "_law_whole" = true) (k16 : PySem.W.keepIn K (.ref f16) = true)
    {f17 : Addr} {od17 an17 : Option Addr} {sl17 : Array (Option Value)} {oc17 kV17 dc17 pm17 cd17 ct17 : Value}
    (a17 : PySem.W.nsIn K mainGlobals "_law_rises" = some (some (.ref f17))) (l17 : K.lookup f17 = some ⟨oc17, od17, .func (PySem.W.fnOf "_law_rises" "_law_rises" (defArgs (top 21)) (defBody (top 21)) (defScope (top 21)) .none kV17 dc17 pm17 an17 cd17 ct17), sl17⟩) (c17 : PySem.W.codeIn K cd17 "_law_rises" = true) (k17 : PySem.W.keepIn K (.ref f17) = true)
    {f18 : Addr} {od18 an18 : Option Addr} {sl18 : Array (Option Value)} {oc18 kV18 dc18 pm18 cd18 ct18 : Value}
    (a18 : PySem.W.nsIn K mainGlobals "_law_is_row" = some (some (.ref f18))) (l18 : K.lookup f18 = some ⟨oc18, od18, .func (PySem.W.fnOf "_law_is_row" "_law_is_row" (defArgs (top 22)) (defBody (top 22)) (defScope (top 22)) .none kV18 dc18 pm18 an18 cd18 ct18), sl18⟩) (c18 : PySem.W.codeIn K cd18 "_law_is_row" = true) (k18 : PySem.W.keepIn K (.ref f18) = true)
    {f19 : Addr} {od19 an19 : Option Addr} {sl19 : Array (Option Value)} {oc19 kV19 dc19 pm19 cd19 ct19 : Value}
    (a19 : PySem.W.nsIn K mainGlobals "_law_is_chosen" = some (some (.ref f19))) (l19 : K.lookup f19 = some ⟨oc19, od19, .func (PySem.W.fnOf "_law_is_chosen" "_law_is_chosen" (defArgs (top 23)) (defBody (top 23)) (defScope (top 23)) .none kV19 dc19 pm19 an19 cd19 ct19), sl19⟩) (c19 : PySem.W.codeIn K cd19 "_law_is_chosen" = true) (k19 : PySem.W.keepIn K (.ref f19) = true)
    {f20 : Addr} {od20 an20 : Option Addr} {sl20 : Array (Option Value)} {oc20 kV20 dc20 pm20 cd20 ct20 : Value}
    (a20 : PySem.W.nsIn K mainGlobals "_law_holds" = some (some (.ref f20))) (l20 : K.lookup f20 = some ⟨oc20, od20, .func (PySem.W.fnOf "_law_holds" "_law_holds" (defArgs (top 24)) (defBody (top 24)) (defScope (top 24)) .none kV20 dc20 pm20 an20 cd20 ct20), sl20⟩) (c20 : PySem.W.codeIn K cd20 "_law_holds" = true) (k20 : PySem.W.keepIn K (.ref f20) = true)
    {f21 : Addr} {od21 an21 : Option Addr} {sl21 : Array (Option Value)} {oc21 kV21 dc21 pm21 cd21 ct21 : Value}
    (a21 : PySem.W.nsIn K mainGlobals "_law_turn" = some (some (.ref f21))) (l21 : K.lookup f21 = some ⟨oc21, od21, .func (PySem.W.fnOf "_law_turn" "_law_turn" (defArgs (top 25)) (defBody (top 25)) (defScope (top 25)) .none kV21 dc21 pm21 an21 cd21 ct21), sl21⟩) (c21 : PySem.W.codeIn K cd21 "_law_turn" = true) (k21 : PySem.W.keepIn K (.ref f21) = true)
    {f22 : Addr} {od22 an22 : Option Addr} {sl22 : Array (Option Value)} {oc22 kV22 dc22 pm22 cd22 ct22 : Value}
    (a22 : PySem.W.nsIn K mainGlobals "_law_told" = some (some (.ref f22))) (l22 : K.lookup f22 = some ⟨oc22, od22, .func (PySem.W.fnOf "_law_told" "_law_told" (defArgs (top 26)) (defBody (top 26)) (defScope (top 26)) .none kV22 dc22 pm22 an22 cd22 ct22), sl22⟩) (c22 : PySem.W.codeIn K cd22 "_law_told" = true) (k22 : PySem.W.keepIn K (.ref f22) = true)
    {f23 : Addr} {od23 an23 : Option Addr} {sl23 : Array (Option Value)} {oc23 kV23 dc23 pm23 cd23 ct23 : Value}
    (a23 : PySem.W.nsIn K mainGlobals "_law_paper_right" = some (some (.ref f23))) (l23 : K.lookup f23 = some ⟨oc23, od23, .func (PySem.W.fnOf "_law_paper_right" "_law_paper_right" (defArgs (top 27)) (defBody (top 27)) (defScope (top 27)) .none kV23 dc23 pm23 an23 cd23 ct23), sl23⟩) (c23 : PySem.W.codeIn K cd23 "_law_paper_right" = true) (k23 : PySem.W.keepIn K (.ref f23) = true)
    {f24 : Addr} {od24 an24 : Option Addr} {sl24 : Array (Option Value)} {oc24 kV24 dc24 pm24 cd24 ct24 : Value}
    (a24 : PySem.W.nsIn K mainGlobals "law" = some (some (.ref f24))) (l24 : K.lookup f24 = some ⟨oc24, od24, .func (PySem.W.fnOf "law" "law" (defArgs (top 28)) (defBody (top 28)) (defScope (top 28)) .none kV24 dc24 pm24 an24 cd24 ct24), sl24⟩) (c24 : PySem.W.codeIn K cd24 "law" = true) (k24 : PySem.W.keepIn K (.ref f24) = true)
    (z1 : PySem.W.nsIn K mainGlobals "len" = some none)
    (z2 : PySem.W.nsIn K mainGlobals "max" = some none)
    (z3 : PySem.W.nsIn K mainGlobals "min" = some none)
    (z4 : PySem.W.nsIn K mainGlobals "int" = some none)
    (z5 : PySem.W.nsIn K mainGlobals "bool" = some none)
    (z6 : PySem.W.nsIn K mainGlobals "tuple" = some none)
    (z7 : PySem.W.nsIn K mainGlobals "list" = some none)
    (z8 : PySem.W.nsIn K mainGlobals "set" = some none)
    (z9 : PySem.W.nsIn K mainGlobals "dict" = some none)
    (z10 : PySem.W.nsIn K mainGlobals "sorted" = some none)
    (z11 : PySem.W.nsIn K mainGlobals "sum" = some none)
    (z12 : PySem.W.nsIn K mainGlobals "range" = some none)
    (z13 : PySem.W.nsIn K mainGlobals "zip" = some none)
    (z14 : PySem.W.nsIn K mainGlobals "enumerate" = some none)
    (z15 : PySem.W.nsIn K mainGlobals "all" = some none)
    (z16 : PySem.W.nsIn K mainGlobals "any" = some none)
    (z17 : PySem.W.nsIn K mainGlobals "isinstance" = some none)
    (z18 : PySem.W.nsIn K mainGlobals "repr" = some none)
    : ∃ fd : FuncData, (∀ (s : Shared) (v : Value), BindsTo s fd ⟨[v], []⟩ [("_law_script", v)]) ∧ ∀ base : Heap, K.In base → base.Ns mainGlobals mg → FnOk l.prog w K mg base CX0 6 fa fd ["_law_script"] (spLaw K) := by
  have e := hfa.symm.trans (PySem.W.mg_of X G a24)
  cases e
  have B : Bl mg := ⟨PySem.W.mg_none_of X G z1, PySem.W.mg_none_of X G z2, PySem.W.mg_none_of X G z3, PySem.W.mg_none_of X G z4, PySem.W.mg_none_of X G z5, PySem.W.mg_none_of X G z6, PySem.W.mg_none_of X G z7, PySem.W.mg_none_of X G z8, PySem.W.mg_none_of X G z9, PySem.W.mg_none_of X G z10, PySem.W.mg_none_of X G z11, PySem.W.mg_none_of X G z12, PySem.W.mg_none_of X G z13, PySem.W.mg_none_of X G z14, PySem.W.mg_none_of X G z15, PySem.W.mg_none_of X G z16, PySem.W.mg_none_of X G z17, PySem.W.mg_none_of X G z18⟩
  have F1 := fun_mk (st := top 1) l1 c1 k1
  have D1 : Dn K mg "rows_of" 1 ["grains"] f1 _ := ⟨F1, PySem.W.mg_of X G a1, F1.binds (ps := ["grains"]) fun _ _ _ _ _ _ us hl => match us, hl with | [_], _ => rfl, k1⟩
  have F2 := fun_mk (st := top 2) l2 c2 k2
  have D2 : Dn K mg "chosen_by" 2 ["grains", "rows", "goal"] f2 _ := ⟨F2, PySem.W.mg_of X G a2, F2.binds (ps := ["grains", "rows", "goal"]) fun _ _ _ _ _ _ us hl => match us, hl with | [_, _, _], _ => rfl, k2⟩
  have F3 := fun_mk (st := top 3) l3 c3 k3
  have D3 : Dn K mg "few_notes" 3 ["grains", "due"] f3 _ := ⟨F3, PySem.W.mg_of X G a3, F3.binds (ps := ["grains", "due"]) fun _ _ _ _ _ _ us hl => match us, hl with | [_, _], _ => rfl, k3⟩
  have F4 := fun_mk (st := top 5) l4 c4 k4
  have D4 : Dn K mg "is_whole" 5 ["thing"] f4 _ := ⟨F4, PySem.W.mg_of X G a4, F4.binds (ps := ["thing"]) fun _ _ _ _ _ _ us hl => match us, hl with | [_], _ => rfl, k4⟩
  have F5 := fun_mk (st := top 7) l5 c5 k5
  have D5 : Dn K mg "are_rising" 7 ["thing"] f5 _ := ⟨F5, PySem.W.mg_of X G a5, F5.binds (ps := ["thing"]) fun _ _ _ _ _ _ us hl => match us, hl with | [_], _ => rfl, k5⟩
  have F6 := fun_mk (st := top 8) l6 c6 k6
  have D6 : Dn K mg "are_numbers" 8 ["many", "thing"] f6 _ := ⟨F6, PySem.W.mg_of X G a6, F6.binds (ps := ["many", "thing"]) fun _ _ _ _ _ _ us hl => match us, hl with | [_, _], _ => rfl, k6⟩
  have F7 := fun_mk (st := top 9) l7 c7 k7
  have D7 : Dn K mg "is_sum_pair" 9 ["thing"] f7 _ := ⟨F7, PySem.W.mg_of X G a7, F7.binds (ps := ["thing"]) fun _ _ _ _ _ _ us hl => match us, hl with | [_], _ => rfl, k7⟩
  have F8 := fun_mk (st := top 10) l8 c8 k8
  have D8 : Dn K mg "is_paper_row" 10 ["thing"] f8 _ := ⟨F8, PySem.W.mg_of X G a8, F8.binds (ps := ["thing"]) fun _ _ _ _ _ _ us hl => match us, hl with | [_], _ => rfl, k8⟩
  have F9 := fun_mk (st := top 11) l9 c9 k9
  have D9 : Dn K mg "leads_on" 11 ["row", "one", "behind"] f9 _ := ⟨F9, PySem.W.mg_of X G a9, F9.binds (ps := ["row", "one", "behind"]) fun _ _ _ _ _ _ us hl => match us, hl with | [_, _, _], _ => rfl, k9⟩
  have F10 := fun_mk (st := top 12) l10 c10 k10
  have D10 : Dn K mg "few_holds" 12 ["grains", "due", "thing"] f10 _ := ⟨F10, PySem.W.mg_of X G a10, F10.binds (ps := ["grains", "due", "thing"]) fun _ _ _ _ _ _ us hl => match us, hl with | [_, _, _], _ => rfl, k10⟩
  have F11 := fun_mk (st := top 14) l11 c11 k11
  have D11 : Dn K mg "_law_deck" 14 ["_law_script", "_law_k"] f11 _ := ⟨F11, PySem.W.mg_of X G a11, F11.binds (ps := ["_law_script", "_law_k"]) fun _ _ _ _ _ _ us hl => match us, hl with | [_, _], _ => rfl, k11⟩
  have F12 := fun_mk (st := top 15) l12 c12 k12
  have D12 : Dn K mg "_law_draw" 15 ["_law_deck_here", "_law_most"] f12 _ := ⟨F12, PySem.W.mg_of X G a12, F12.binds (ps := ["_law_deck_here", "_law_most"]) fun _ _ _ _ _ _ us hl => match us, hl with | [_, _], _ => rfl, k12⟩
  have F13 := fun_mk (st := top 16) l13 c13 k13
  have D13 : Dn K mg "_law_grains" 16 ["_law_deck_here", "_law_least"] f13 _ := ⟨F13, PySem.W.mg_of X G a13, F13.binds (ps := ["_law_deck_here", "_law_least"]) fun _ _ _ _ _ _ us hl => match us, hl with | [_, _], _ => rfl, k13⟩
  have F14 := fun_mk (st := top 17) l14 c14 k14
  have D14 : Dn K mg "_law_choices" 17 ["_law_grains_here"] f14 _ := ⟨F14, PySem.W.mg_of X G a14, F14.binds (ps := ["_law_grains_here"]) fun _ _ _ _ _ _ us hl => match us, hl with | [_], _ => rfl, k14⟩
  have F15 := fun_mk (st := top 19) l15 c15 k15
  have D15 : Dn K mg "_law_due" 19 ["_law_deck_here", "_law_grains_here"] f15 _ := ⟨F15, PySem.W.mg_of X G a15, F15.binds (ps := ["_law_deck_here", "_law_grains_here"]) fun _ _ _ _ _ _ us hl => match us, hl with | [_, _], _ => rfl, k15⟩
  have F16 := fun_mk (st := top 20) l16 c16 k16
  have D16 : Dn K mg "_law_whole" 20 ["_law_thing"] f16 _ := ⟨F16, PySem.W.mg_of X G a16, F16.binds (ps := ["_law_thing"]) fun _ _ _ _ _ _ us hl => match us, hl with | [_], _ => rfl, k16⟩
  have F17 := fun_mk (st := top 21) l17 c17 k17
  have D17 : Dn K mg "_law_rises" 21 ["_law_thing"] f17 _ := ⟨F17, PySem.W.mg_of X G a17, F17.binds (ps := ["_law_thing"]) fun _ _ _ _ _ _ us hl => match us, hl with | [_], _ => rfl, k17⟩
  have F18 := fun_mk (st := top 22) l18 c18 k18
  have D18 : Dn K mg "_law_is_row" 22 ["_law_thing"] f18 _ := ⟨F18, PySem.W.mg_of X G a18, F18.binds (ps := ["_law_thing"]) fun _ _ _ _ _ _ us hl => match us, hl with | [_], _ => rfl, k18⟩
  have F19 := fun_mk (st := top 23) l19 c19 k19
  have D19 : Dn K mg "_law_is_chosen" 23 ["_law_grains_here", "_law_due_here", "_law_thing"] f19 _ := ⟨F19, PySem.W.mg_of X G a19, F19.binds (ps := ["_law_grains_here", "_law_due_here", "_law_thing"]) fun _ _ _ _ _ _ us hl => match us, hl with | [_, _, _], _ => rfl, k19⟩
  have F20 := fun_mk (st := top 24) l20 c20 k20
  have D20 : Dn K mg "_law_holds" 24 ["_law_grains_here", "_law_due_here", "_law_thing"] f20 _ := ⟨F20, PySem.W.mg_of X G a20, F20.binds (ps := ["_law_grains_here", "_law_due_here", "_law_thing"]) fun _ _ _ _ _ _ us hl => match us, hl with | [_, _, _], _ => rfl, k20⟩
  have F21 := fun_mk (st := top 25) l21 c21 k21
  have D21 : Dn K mg "_law_turn" 25 ["_law_deck_here", "_law_many"] f21 _ := ⟨F21, PySem.W.mg_of X G a21, F21.binds (ps := ["_law_deck_here", "_law_many"]) fun _ _ _ _ _ _ us hl => match us, hl with | [_, _], _ => rfl, k21⟩
  have F22 := fun_mk (st := top 26) l22 c22 k22
  have D22 : Dn K mg "_law_told" 26 ["_law_grains_here", "_law_due_here"] f22 _ := ⟨F22, PySem.W.mg_of X G a22, F22.binds (ps := ["_law_grains_here", "_law_due_here"]) fun _ _ _ _ _ _ us hl => match us, hl with | [_, _], _ => rfl, k22⟩
  have F23 := fun_mk (st := top 27) l23 c23 k23
  have D23 : Dn K mg "_law_paper_right" 27 ["_law_grains_here", "_law_due_here", "_law_order"] f23 _ := ⟨F23, PySem.W.mg_of X G a23, F23.binds (ps := ["_law_grains_here", "_law_due_here", "_law_order"]) fun _ _ _ _ _ _ us hl => match us, hl with | [_, _, _], _ => rfl, k23⟩
  have F24 := fun_mk (st := top 28) l24 c24 k24
  have D24 : Dn K mg "law" 28 ["_law_script"] _ _ := ⟨F24, PySem.W.mg_of X G a24, F24.binds (ps := ["_law_script"]) fun _ _ _ _ _ _ us hl => match us, hl with | [_], _ => rfl, k24⟩
  refine ⟨PySem.W.fnOf "law" "law" (defArgs (top 28)) (defBody (top 28)) (defScope (top 28)) .none kV24 dc24 pm24 an24 cd24 ct24, fun s v => .of_eq rfl, fun base _ _ => ?_⟩
  exact ok_law D24 D11 ((ok_deck D11 B).mono (by decide)) D13 ((ok_gr D13 D12 B).mono (by decide)) D15 ((ok_due D15 D12 D14 B).mono (by decide)) D22 ((ok_told D22 D3 D1 D2 B).mono (by decide)) D21 ((ok_turn D21 D12 B).mono (by decide)) D12 ((ok_draw D12).mono (by decide)) D23 (ok_right D23 D3 ((ok_few D3 D1 D2 B).mono (by decide)) D10 (ok_hold D10 D4 D5 D7 D6 D8 D9 B) D20 ((ok_lhold D20 D16 D17 D18 D19 B).mono (by decide)) B) B
theorem walk {l : PySem.W.OpenLaw} {q : Program} {loose : List Str} {XP : (Str → Option Value) → Heap → Prop} {YP : World → Heap → Prop} {d : DefRec} {K : Params → PySem.W.Frag} (hn : l.most = some 63) (hdf : d.params.defaults = [])
    (hY : ∀ (w : World) (h : Heap), YP w h → (K w.params).In h)
    (F : ∀ (w : World) (mg : Str → Option Value) (fa : Addr) (h : Heap), (K w.params).In h → h.Ns mainGlobals mg → mg d.name = some (.ref fa) →
      ∃ fd : FuncData, (∀ (s : Shared) (u : Value), BindsTo s fd ⟨[u], []⟩ [("_law_script", u)]) ∧ ∀ base : Heap, (K w.params).In base → base.Ns mainGlobals mg → FnOk l.prog w (K w.params) mg base CX0 6 fa fd ["_law_script"] (spLaw (K w.params))) :
    PySem.W.WalkO q loose XP YP l.row.toRowW d [] (fun f vs => PySem.call f vs) :=
  L2.walk_of (n := 63) (k := 6) (x := "_law_script") (CX := fun _ => CX0) (sp := fun w => spLaw (K w.params)) hn (by decide) hdf ⟨rfl, by decide, by decide⟩ hY F (fun _ _ a ns hl _ hS => ⟨a, ns, rfl, hS, fun _ => rfl⟩) fun _ _ _ _ _ z => z
end K65P
open PySem PySem.W PyProof.Rows
set_option maxRecDepth 100000 in
set_option maxHeartbeats 0 in
theorem PySem.Challenge.cw_casknotes_k65_whole_paid_otherwise_holds : PySem.Challenge.rw_casknotes_k65_whole_paid_otherwise.Holds := by
  w_on; o_law; k_head; (case hw => w_witness2)
  k_fill
  refine K65P.walk (l := PySem.Challenge.rw_casknotes_k65_whole_paid_otherwise) rfl rfl (fun w h Y => PySem.W.kIn_of Y) ?F
  case F =>
    intro w mg fa h KX G hmg
    refine' K65P.all_mk KX G hmg ?a1 ?l1 ?c1 ?k1 ?a2 ?l2 ?c2 ?k2 ?a3 ?l3 ?c3 ?k3 ?a4 ?l4 ?c4 ?k4 ?a5 ?l5 ?c5 ?k5 ?a6 ?l6 ?c6 ?k6 ?a7 ?l7 ?c7 ?k7 ?a8 ?l8 ?c8 ?k8 ?a9 ?l9 ?c9 ?k9 ?a10 ?l10 ?c10 ?k10 ?a11 ?l11 ?c11 ?k11 ?a12 ?l12 ?c12 ?k12 ?a13 ?l13 ?c13 ?k13 ?a14 ?l14 ?c14 ?k14 ?a15 ?l15 ?c15 ?k15 ?a16 ?l16 ?c16 ?k16 ?a17 ?l17 ?c17 ?k17 ?a18 ?l18 ?c18 ?k18 ?a19 ?l19 ?c19 ?k19 ?a20 ?l20 ?c20 ?k20 ?a21 ?l21 ?c21 ?k21 ?a22 ?l22 ?c22 ?k22 ?a23 ?l23 ?c23 ?k23 ?a24 ?l24 ?c24 ?k24 ?z1 ?z2 ?z3 ?z4 ?z5 ?z6 ?z7 ?z8 ?z9 ?z10 ?z11 ?z12 ?z13 ?z14 ?z15 ?z16 ?z17 ?z18
    (case a1 => k_is); (case l1 => k_is); (case c1 => k_is); (case k1 => k_is)
    (case a2 => k_is); (case l2 => k_is); (case c2 => k_is); (case k2 => k_is)
    (case a3 => k_is); (case l3 => k_is); (case c3 => k_is); (case k3 => k_is)
    (case a4 => k_is); (case l4 => k_is); (case c4 => k_is); (case k4 => k_is)
    (case a5 => k_is); (case l5 => k_is); (case c5 => k_is); (case k5 => k_is)
    (case a6 => k_is); (case l6 => k_is); (case c6 => k_is); (case k6 => k_is)
    (case a7 => k_is); (case l7 => k_is); (case c7 => k_is); (case k7 => k_is)
    (case a8 => k_is); (case l8 => k_is); (case c8 => k_is); (case k8 => k_is)
    (case a9 => k_is); (case l9 => k_is); (case c9 => k_is); (case k9 => k_is)
    (case a10 => k_is); (case l10 => k_is); (case c10 => k_is); (case k10 => k_is)
    (case a11 => k_is); (case l11 => k_is); (case c11 => k_is); (case k11 => k_is)
    (case a12 => k_is); (case l12 => k_is); (case c12 => k_is); (case k12 => k_is)
    (case a13 => k_is); (case l13 => k_is); (case c13 => k_is); (case k13 => k_is)
    (case a14 => k_is); (case l14 => k_is); (case c14 => k_is); (case k14 => k_is)
    (case a15 => k_is); (case l15 => k_is); (case c15 => k_is); (case k15 => k_is)
    (case a16 => k_is); (case l16 => k_is); (case c16 => k_is); (case k16 => k_is)
    (case a17 => k_is); (case l17 => k_is); (case c17 => k_is); (case k17 => k_is)
    (case a18 => k_is); (case l18 => k_is); (case c18 => k_is); (case k18 => k_is)
    (case a19 => k_is); (case l19 => k_is); (case c19 => k_is); (case k19 => k_is)
    (case a20 => k_is); (case l20 => k_is); (case c20 => k_is); (case k20 => k_is)
    (case a21 => k_is); (case l21 => k_is); (case c21 => k_is); (case k21 => k_is)
    (case a22 => k_is); (case l22 => k_is); (case c22 => k_is); (case k22 => k_is)
    (case a23 => k_is); (case l23 => k_is); (case c23 => k_is); (case k23 => k_is)
    (case a24 => k_is); (case l24 => k_is); (case c24 => k_is); (case k24 => k_is)
    (case z1 => k_is)
    (case z2 => k_is)
    (case z3 => k_is)
    (case z4 => k_is)
    (case z5 => k_is)
    (case z6 => k_is)
    (case z7 => k_is)
    (case z8 => k_is)
    (case z9 => k_is)
    (case z10 => k_is)
    (case z11 => k_is)
    (case z12 => k_is)
    (case z13 => k_is)
    (case z14 => k_is)
    (case z15 => k_is)
    (case z16 => k_is)
    (case z17 => k_is)
    (case z18 => k_is)
