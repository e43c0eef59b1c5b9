import PyProof.Rows.All
import Wide.All
import OpenK.AllK
import Wide.FinOn
import HandS.ForMost
import HandS.Star
import HandS.IsInst
import HandS.AnyAll
import HandS.EndTab
import HandS.Conv
import HandS.TupAny
import HandS.Flow
import HandS.More
import HandS.DictComp
import KE.SortData
import KE.KNestM
import PySem.Challenge.RW_parksums_k27_whole_red_places
section
set_option Elab.async false
/-! Plain law: the program's differences of a whole and a set are those found by trying all sets. -/
namespace M27
/-! ### what the program and the law reckon, over lists of naturals -/
/-- all sets of places below n, as the law lists them -/
def subs : Nat → List (List Nat)
  | 0 => [[]]
  | n + 1 => subs n ++ (subs n).map (fun s => s ++ [n])
def has (x : Nat) (l : List Nat) : Bool := l.any (fun y => Nat.beq y x)
def runLen (n : Nat) (w : List Nat) (p : Nat) : Nat → Nat → Nat
  | 0, L => L
  | f + 1, L => if has ((p + L) % n) w = true then runLen n w p f (L + 1) else L
def blkLen (n : Nat) (w : List Nat) (p : Nat) : Nat := runLen n w p n 1
def isFirst (n : Nat) (w : List Nat) (p : Nat) : Bool := !has ((p + (n - 1)) % n) w
def blocks (n : Nat) (w : List Nat) : List (Nat × Nat) := (w.filter (isFirst n w)).map (fun p => (p, blkLen n w p))
def placesOf (n : Nat) (b : Nat × Nat) : List Nat := (List.range b.2).map (fun k => (b.1 + k) % n)
def blockPlaces (n : Nat) (w : List Nat) : List (List Nat) := (blocks n w).map (placesOf n)
/-- the ranks below i of the gaps -/
def gapsTo (ps o : List Nat) (i : Nat) : List Nat := (List.range i).filter (fun r => !has (ps.getD r 0) o)
def gapRanks (ps o : List Nat) : List Nat := gapsTo ps o ps.length
def lowRank (row : List Nat) : Nat := match row.getLast? with
  | some x => x + 1
  | none => 0
def extRow (gap : Nat) (row : List Nat) : List (List Nat) := (List.range (gap + 1 - lowRank row)).map (fun k => row ++ [lowRank row + k])
def rankStep (found : List (List Nat)) (gap : Nat) : List (List Nat) := found.flatMap (extRow gap)
def rankRows (gaps : List Nat) : List (List Nat) := gaps.foldl rankStep [[]]
def pick (ps row : List Nat) : List Nat := row.map (fun r => ps.getD r 0)
def rowWith (ps : List Nat) (found : List (List Nat)) (row : List Nat) : List (List Nat) := found.map (fun s => s ++ pick ps row)
def blkStep (o : List Nat) (found : List (List Nat)) (ps : List Nat) : List (List Nat) := (rankRows (gapRanks ps o)).flatMap (rowWith ps found)
def allRaw (n : Nat) (w o : List Nat) : List (List Nat) := (blockPlaces n w).foldl (blkStep o) [[]]
def ins (x : Nat) : List Nat → List Nat
  | [] => [x]
  | y :: t => if Nat.ble x y = true then x :: y :: t else y :: ins x t
def isort : List Nat → List Nat
  | [] => []
  | x :: t => ins x (isort t)
def nextPlace (n x : Nat) : Nat := if Nat.ble n (x + 1) = true then 0 else x + 1
def park (n : Nat) (found : List Nat) : Nat → Nat → Nat
  | 0, x => x
  | f + 1, x => if has x found = true then park n found f (nextPlace n x) else x
def carStep (n : Nat) (found : List Nat) (x : Nat) : List Nat := found ++ [park n found n x]
def spots (n : Nat) (cars : List Nat) : List Nat := cars.foldl (carStep n) []
def lawSum (n : Nat) (o p : List Nat) : List Nat := isort (spots n ((o ++ p).take n))
def eqL : List Nat → List Nat → Bool
  | [], [] => true
  | x :: s, y :: t => Nat.beq x y && eqL s t
  | _, _ => false
def fits (w o p : List Nat) : Bool := Nat.beq (p.length + o.length) w.length
def brute (n : Nat) (w o : List Nat) : List (List Nat) := ((subs n).filter (fits w o)).filter (fun p => eqL (lawSum n o p) w)
/-! ### the check -/
def hasL (x : List Nat) (A : List (List Nat)) : Bool := A.any (fun y => eqL y x)
def within (o w : List Nat) : Bool := o.all (fun x => has x w)
def dropIt (a : Nat) (x : List Nat) : List Nat := x.filter (fun z => !Nat.beq z a)
def near (x y : List Nat) : Bool := x.any (fun a => y.any (fun b => eqL (dropIt a x) (dropIt b y)))
def linked : List (List Nat) → Bool
  | [] => true
  | x :: t => (t.isEmpty || t.any (near x)) && linked t
/-- lengths along the fold over the blocks, places within their rows -/
def small (o : List Nat) : List (List Nat) → List (List Nat) → Bool
  | _, [] => true
  | found, ps :: r => Nat.ble ps.length 7 && (rankRows (gapRanks ps o)).all (fun row => row.all (fun k => Nat.blt k ps.length)) &&
      Nat.ble (rankRows (gapRanks ps o)).length 100 && Nat.ble (blkStep o found ps).length 100 && small o (blkStep o found ps) r
def smallRows : List (List Nat) → List Nat → Bool
  | _, [] => true
  | found, g :: r => Nat.ble (rankStep found g).length 100 && smallRows (rankStep found g) r
def check1 (n : Nat) (w o : List Nat) : Bool :=
  let A := (allRaw n w o).map isort
  let B := brute n w o
  A.all (fun x => hasL x B) && B.all (fun x => hasL x A) && linked B && small o [[]] (blockPlaces n w) &&
    (blockPlaces n w).all (fun ps => smallRows [[]] (gapRanks ps o))
def checkW (n : Nat) (w : List Nat) : Bool := Nat.ble n w.length || (subs n).all (fun o => !within o w || check1 n w o)
def checkN (n : Nat) : Bool := (subs n).all (checkW n)
theorem check2 : checkN 2 = true := by decide +kernel
theorem check3 : checkN 3 = true := by decide +kernel
theorem check4 : checkN 4 = true := by decide +kernel
theorem check5 : checkN 5 = true := by decide +kernel
theorem check6 : checkN 6 = true := by decide +kernel
theorem check7 : checkN 7 = true := by decide +kernel
theorem check_all {n : Nat} (h2 : 2 ≤ n) (h7 : n ≤ 7) : checkN n = true := by
  have e : n = 2 ∨ n = 3 ∨ n = 4 ∨ n = 5 ∨ n = 6 ∨ n = 7 := by omega
  rcases e with rfl | rfl | rfl | rfl | rfl | rfl
  · exact check2
  · exact check3
  · exact check4
  · exact check5
  · exact check6
  · exact check7
end M27
end
section
set_option Elab.async false
namespace M27
theorem has_iff {x : Nat} {l : List Nat} : has x l = true ↔ x ∈ l := by
  unfold has
  rw [List.any_eq_true]
  constructor
  · rintro ⟨y, hy, e⟩
    rw [← Nat.eq_of_beq_eq_true e]
    exact hy
  · intro h
    exact ⟨x, h, Nat.beq_refl x⟩
theorem has_false {x : Nat} {l : List Nat} : has x l = false ↔ x ∉ l := by
  rw [← has_iff]
  cases has x l <;> simp
theorem eqL_iff : ∀ {a b : List Nat}, eqL a b = true ↔ a = b
  | [], [] => by simp [eqL]
  | [], _ :: _ => by simp [eqL]
  | _ :: _, [] => by simp [eqL]
  | x :: s, y :: t => by
    have ih := @eqL_iff s t
    unfold eqL
    rw [Bool.and_eq_true, ih, List.cons.injEq]
    constructor
    · rintro ⟨h1, h2⟩
      exact ⟨Nat.eq_of_beq_eq_true h1, h2⟩
    · rintro ⟨h1, h2⟩
      exact ⟨by rw [h1]; exact Nat.beq_refl y, h2⟩
theorem hasL_iff {x : List Nat} {A : List (List Nat)} : hasL x A = true ↔ x ∈ A := by
  unfold hasL
  rw [List.any_eq_true]
  constructor
  · rintro ⟨y, hy, e⟩
    rw [← eqL_iff.mp e]
    exact hy
  · intro h
    exact ⟨x, h, eqL_iff.mpr rfl⟩
theorem within_iff {o w : List Nat} : within o w = true ↔ ∀ x ∈ o, x ∈ w := by
  unfold within
  rw [List.all_eq_true]
  exact ⟨fun h x hx => has_iff.mp (h x hx), fun h x hx => has_iff.mpr (h x hx)⟩
/-- a set of places below n: ascending -/
structure IsSet (n : Nat) (l : List Nat) : Prop where
  asc : l.Pairwise (· < ·)
  lt : ∀ x ∈ l, x < n
theorem IsSet.nil (n : Nat) : IsSet n [] := ⟨List.Pairwise.nil, fun x h => by cases h⟩
theorem IsSet.nodup {n : Nat} {l : List Nat} (h : IsSet n l) : l.Nodup := h.asc.imp fun q => Nat.ne_of_lt q
theorem mem_subs : ∀ {n : Nat} {l : List Nat}, l ∈ subs n ↔ IsSet n l
  | 0, l => by
    unfold subs
    rw [List.mem_singleton]
    constructor
    · rintro rfl
      exact .nil 0
    · intro h
      cases l with
      | nil => rfl
      | cons x t => exact absurd (h.lt x List.mem_cons_self) (Nat.not_lt_zero x)
  | n + 1, l => by
    unfold subs
    rw [List.mem_append, List.mem_map, mem_subs]
    constructor
    · rintro (h | ⟨s, hs, rfl⟩)
      · exact ⟨h.asc, fun x hx => Nat.lt_succ_of_lt (h.lt x hx)⟩
      · have hs := mem_subs.mp hs
        refine ⟨?_, fun x hx => ?_⟩
        · rw [List.pairwise_append]
          refine ⟨hs.asc, List.pairwise_singleton _ _, fun a ha b hb => ?_⟩
          rw [List.mem_singleton.mp hb]
          exact hs.lt a ha
        · rcases List.mem_append.mp hx with h | h
          · exact Nat.lt_succ_of_lt (hs.lt x h)
          · rw [List.mem_singleton.mp h]
            exact Nat.lt_succ_self n
    · intro h
      by_cases hn : n ∈ l
      · right
        have hne : l ≠ [] := List.ne_nil_of_mem hn
        have el : l.dropLast ++ [l.getLast hne] = l := List.dropLast_concat_getLast hne
        have hp := h.asc
        rw [← el, List.pairwise_append] at hp
        have hlast : l.getLast hne = n := by
          have h1 : l.getLast hne < n + 1 := h.lt _ (List.getLast_mem hne)
          have h2 : n ∈ l.dropLast ++ [l.getLast hne] := by rw [el]; exact hn
          rcases List.mem_append.mp h2 with q | q
          · have := hp.2.2 n q _ List.mem_cons_self
            omega
          · exact (List.mem_singleton.mp q).symm
        refine ⟨l.dropLast, mem_subs.mpr ⟨hp.1, fun x hx => ?_⟩, ?_⟩
        · have := hp.2.2 x hx _ List.mem_cons_self
          omega
        · rw [← hlast]
          exact el
      · left
        refine ⟨h.asc, fun x hx => ?_⟩
        have h1 := h.lt x hx
        have h2 : x ≠ n := fun e => hn (e ▸ hx)
        omega
/-! ### sorting -/
theorem ins_perm (x : Nat) : ∀ l : List Nat, (ins x l).Perm (x :: l)
  | [] => List.Perm.refl _
  | y :: t => by
    unfold ins
    split
    · exact List.Perm.refl _
    · exact ((ins_perm x t).cons y).trans (List.Perm.swap x y t)
theorem isort_perm : ∀ l : List Nat, (isort l).Perm l
  | [] => List.Perm.refl _
  | x :: t => by
    unfold isort
    exact (ins_perm x _).trans ((isort_perm t).cons x)
theorem ins_sorted (x : Nat) : ∀ {l : List Nat}, l.Pairwise (· ≤ ·) → (ins x l).Pairwise (· ≤ ·)
  | [], _ => List.pairwise_singleton _ _
  | y :: t, h => by
    unfold ins
    split
    · rename_i q
      have q := Nat.le_of_ble_eq_true q
      refine List.Pairwise.cons (fun z hz => ?_) h
      rcases List.mem_cons.mp hz with e | hz
      · rw [e]; exact q
      · exact Nat.le_trans q ((List.pairwise_cons.mp h).1 z hz)
    · rename_i q
      have q : y ≤ x := by
        rcases Nat.le_total x y with r | r
        · exact absurd (Nat.ble_eq_true_of_le r) q
        · exact r
      refine List.Pairwise.cons (fun z hz => ?_) (ins_sorted x (List.pairwise_cons.mp h).2)
      rcases List.mem_cons.mp ((ins_perm x t).mem_iff.mp hz) with e | hz
      · rw [e]; exact q
      · exact (List.pairwise_cons.mp h).1 z hz
theorem isort_sorted : ∀ l : List Nat, (isort l).Pairwise (· ≤ ·)
  | [] => List.Pairwise.nil
  | x :: t => by
    unfold isort
    exact ins_sorted x (isort_sorted t)
theorem sorted_unique : ∀ {a b : List Nat}, a.Perm b → a.Pairwise (· ≤ ·) → b.Pairwise (· ≤ ·) → a = b
  | [], b, h, _, _ => h.nil_eq
  | x :: s, [], h, _, _ => absurd h.symm.nil_eq (by simp)
  | x :: s, y :: t, h, ha, hb => by
    have e : x = y := by
      have h1 : y ∈ x :: s := h.mem_iff.mpr List.mem_cons_self
      have h2 : x ∈ y :: t := h.mem_iff.mp List.mem_cons_self
      have l1 : x ≤ y := by
        rcases List.mem_cons.mp h1 with q | q
        · omega
        · exact (List.pairwise_cons.mp ha).1 y q
      have l2 : y ≤ x := by
        rcases List.mem_cons.mp h2 with q | q
        · omega
        · exact (List.pairwise_cons.mp hb).1 x q
      omega
    subst e
    rw [sorted_unique ((List.perm_cons x).mp h) (List.pairwise_cons.mp ha).2 (List.pairwise_cons.mp hb).2]
theorem isort_of {a b : List Nat} (h : a.Perm b) (s : a.Pairwise (· ≤ ·)) : a = isort b :=
  sorted_unique (h.trans (isort_perm b).symm) s (isort_sorted b)
/-! ### parking -/
theorem park_free {n : Nat} {found : List Nat} {x : Nat} (h : x ∉ found) : ∀ f, park n found f x = x
  | 0 => rfl
  | f + 1 => by
    unfold park
    rw [if_neg (by rw [has_iff]; exact h)]
theorem spots_app (n : Nat) (a b : List Nat) : spots n (a ++ b) = b.foldl (carStep n) (spots n a) := by
  unfold spots
  rw [List.foldl_append]
theorem fold_grows (n : Nat) : ∀ (b found : List Nat) (x : Nat), x ∈ found → x ∈ b.foldl (carStep n) found
  | [], _, _, h => h
  | y :: t, found, x, h => fold_grows n t (carStep n found y) x (by unfold carStep; exact List.mem_append_left _ h)
theorem fold_own (n : Nat) : ∀ (b found : List Nat), (found ++ b).Nodup → b.foldl (carStep n) found = found ++ b
  | [], found, _ => by simp
  | y :: t, found, h => by
    have hy : y ∉ found := fun q => by
      rw [List.nodup_append] at h
      exact h.2.2 y q y List.mem_cons_self rfl
    have e : carStep n found y = found ++ [y] := by
      unfold carStep
      rw [park_free hy]
    rw [List.foldl_cons, e, fold_own n t (found ++ [y]) (by simpa using h)]
    simp
/-- a sum holds its first set -/
theorem sum_holds {n : Nat} {o p : List Nat} (ho : o.Nodup) (hl : o.length + p.length ≤ n) : ∀ x ∈ o, x ∈ lawSum n o p := by
  intro x hx
  unfold lawSum
  rw [(isort_perm _).mem_iff, List.take_of_length_le (by rw [List.length_append]; exact hl), spots_app]
  refine fold_grows n p _ x ?_
  unfold spots
  rw [fold_own n o [] (by simpa using ho)]
  simpa using hx
theorem fits_iff {w o p : List Nat} : fits w o p = true ↔ p.length + o.length = w.length := by
  unfold fits
  exact ⟨fun h => Nat.eq_of_beq_eq_true h, fun h => by rw [h]; exact Nat.beq_refl _⟩
theorem mem_brute {n : Nat} {w o p : List Nat} : p ∈ brute n w o ↔ IsSet n p ∧ p.length + o.length = w.length ∧ lawSum n o p = w := by
  unfold brute
  rw [List.mem_filter, List.mem_filter, mem_subs, fits_iff, eqL_iff]
  exact and_assoc
theorem brute_none {n : Nat} {w o : List Nat} (ho : o.Nodup) (hw : w.length < n) (h : within o w = false) : ∀ p, p ∉ brute n w o := by
  intro p hp
  obtain ⟨_, h2, h3⟩ := mem_brute.mp hp
  have q : within o w = true := within_iff.mpr fun x hx => by
    have := sum_holds (n := n) (p := p) ho (by omega) x hx
    rw [h3] at this
    exact this
  rw [h] at q
  cases q
/-- what the check says of a whole and a set -/
structure Good (n : Nat) (w o : List Nat) : Prop where
  same : ∀ x, x ∈ (allRaw n w o).map isort ↔ x ∈ brute n w o
  link : linked (brute n w o) = true
  small : small o [[]] (blockPlaces n w) = true
  rows : ∀ ps ∈ blockPlaces n w, smallRows [[]] (gapRanks ps o) = true
theorem good {n : Nat} {w o : List Nat} (h2 : 2 ≤ n) (h7 : n ≤ 7) (hw : IsSet n w) (hl : w.length < n) (ho : IsSet n o) (hi : within o w = true) : Good n w o := by
  have c := check_all h2 h7
  unfold checkN at c
  rw [List.all_eq_true] at c
  have c := c w (mem_subs.mpr hw)
  unfold checkW at c
  rw [Bool.or_eq_true] at c
  have c : ((subs n).all fun o => !within o w || check1 n w o) = true := by
    rcases c with c | c
    · exact absurd (Nat.le_of_ble_eq_true c) (by omega)
    · exact c
  rw [List.all_eq_true] at c
  have c := c o (mem_subs.mpr ho)
  rw [hi] at c
  have c : check1 n w o = true := c
  unfold check1 at c
  simp only [Bool.and_eq_true, List.all_eq_true] at c
  obtain ⟨⟨⟨⟨c1, c2⟩, c3⟩, c4⟩, c5⟩ := c
  exact ⟨fun x => ⟨fun hx => hasL_iff.mp (c1 x hx), fun hx => hasL_iff.mp (c2 x hx)⟩, c3, c4, c5⟩
/-! ### the numbers of red places are an interval -/
def redOf (reds x : List Nat) : Nat := (x.filter (fun z => has z reds)).length
theorem beq_no {y a : Nat} (h : y ≠ a) : Nat.beq y a = false := by
  cases e : Nat.beq y a with
  | false => rfl
  | true => exact absurd (Nat.eq_of_beq_eq_true e) h
theorem redOf_cons (reds : List Nat) (y : Nat) (t : List Nat) : redOf reds (y :: t) = redOf reds t + (if has y reds = true then 1 else 0) := by
  unfold redOf
  rw [List.filter_cons]
  split <;> simp
theorem redOf_drop (reds : List Nat) (a : Nat) : ∀ {x : List Nat}, x.Nodup → a ∈ x → redOf reds x = redOf reds (dropIt a x) + (if has a reds = true then 1 else 0)
  | [], _, h => by cases h
  | y :: t, hn, h => by
    have hn := List.nodup_cons.mp hn
    by_cases e : y = a
    · subst e
      have hd : dropIt y (y :: t) = t := by
        unfold dropIt
        rw [List.filter_cons_of_neg (by simp [Nat.beq_refl]), List.filter_eq_self]
        intro z hz
        have hzy : z ≠ y := fun q => hn.1 (q ▸ hz)
        rw [beq_no hzy]
        rfl
      rw [hd, redOf_cons]
    · have hm : a ∈ t := by
        rcases List.mem_cons.mp h with q | q
        · exact absurd q.symm e
        · exact q
      have ih := redOf_drop reds a hn.2 hm
      have hd : dropIt a (y :: t) = y :: dropIt a t := by
        unfold dropIt
        rw [List.filter_cons_of_pos]
        rw [beq_no e]
        rfl
      rw [hd, redOf_cons, redOf_cons, ih]
      omega
theorem near_red {reds x y : List Nat} (hx : x.Nodup) (hy : y.Nodup) (h : near x y = true) : redOf reds x ≤ redOf reds y + 1 ∧ redOf reds y ≤ redOf reds x + 1 := by
  unfold near at h
  rw [List.any_eq_true] at h
  obtain ⟨a, ha, h⟩ := h
  rw [List.any_eq_true] at h
  obtain ⟨b, hb, h⟩ := h
  have e := eqL_iff.mp h
  have e1 := redOf_drop reds a hx ha
  have e2 := redOf_drop reds b hy hb
  rw [e] at e1
  split at e1 <;> split at e2 <;> omega
/-- any number between two that occur occurs -/
theorem between {reds : List Nat} : ∀ {B : List (List Nat)}, (∀ x ∈ B, x.Nodup) → linked B = true → ∀ x ∈ B, ∀ y ∈ B, ∀ k, redOf reds x ≤ k → k ≤ redOf reds y → ∃ z ∈ B, redOf reds z = k
  | [], _, _, x, hx, _, _, _, _, _ => by cases hx
  | b :: t, hn, h, x, hx, y, hy, k, h1, h2 => by
    unfold linked at h
    rw [Bool.and_eq_true, Bool.or_eq_true] at h
    obtain ⟨h0, ht⟩ := h
    have ih := between (reds := reds) (fun z hz => hn z (List.mem_cons_of_mem _ hz)) ht
    have lift : (∃ z ∈ t, redOf reds z = k) → ∃ z ∈ b :: t, redOf reds z = k := fun ⟨z, hz, e⟩ => ⟨z, List.mem_cons_of_mem _ hz, e⟩
    by_cases hb : redOf reds b = k
    · exact ⟨b, List.mem_cons_self, hb⟩
    rcases List.mem_cons.mp hx with ex | hx'
    · rcases List.mem_cons.mp hy with ey | hy'
      · subst ex; subst ey
        exact ⟨_, List.mem_cons_self, by omega⟩
      · subst ex
        rcases h0 with h0 | h0
        · rw [List.isEmpty_iff] at h0
          subst h0
          cases hy'
        · rw [List.any_eq_true] at h0
          obtain ⟨c, hc, hnear⟩ := h0
          have q := near_red (reds := reds) (hn _ List.mem_cons_self) (hn c (List.mem_cons_of_mem _ hc)) hnear
          exact lift (ih c hc y hy' k (by omega) h2)
    · rcases List.mem_cons.mp hy with ey | hy'
      · subst ey
        rcases h0 with h0 | h0
        · rw [List.isEmpty_iff] at h0
          subst h0
          cases hx'
        · rw [List.any_eq_true] at h0
          obtain ⟨c, hc, hnear⟩ := h0
          have q := near_red (reds := reds) (hn _ List.mem_cons_self) (hn c (List.mem_cons_of_mem _ hc)) hnear
          exact lift (ih x hx' c hc k h1 (by omega))
      · exact lift (ih x hx' y hy' k h1 h2)
end M27
end
section
set_option Elab.async false
set_option linter.all false
set_option maxRecDepth 100000
set_option maxHeartbeats 4000000
namespace T27
open PySem L2
/-! ### the text by places -/
def top (i : Nat) : Stmt := PySem.Challenge.pw_parksums_k27_whole_red_places.main.body.getD i (.Pass ⟨0, 0, 0, 0⟩)
abbrev sIsIn : Stmt := top 10
abbrev sNeedSize : Stmt := top 11
abbrev sIsSet : Stmt := top 12
abbrev sNeedSet : Stmt := top 13
abbrev sBlocks : Stmt := top 15
abbrev sNeedWhole : Stmt := top 17
abbrev sNeedTerms : Stmt := top 18
abbrev sLies : Stmt := top 19
abbrev sPlaces : Stmt := top 20
abbrev sGaps : Stmt := top 21
abbrev sRows : Stmt := top 22
abbrev sAllOf : Stmt := top 23
abbrev sNeedPrices : Stmt := top 26
abbrev sRed : Stmt := top 29
abbrev sCheap : Stmt := top 30
abbrev sRange : Stmt := top 31
abbrev sTaken : Stmt := top 33
abbrev sAlike : Stmt := top 35
abbrev sSpots : Stmt := top 36
abbrev sSum : Stmt := top 37
abbrev sSets : Stmt := top 38
abbrev sSet : Stmt := top 39
abbrev sWhole : Stmt := top 41
abbrev sWithin : Stmt := top 42
abbrev sDiffs : Stmt := top 43
abbrev sLaw : Stmt := top 45
theorem scIsIn : FnScope ["value", "least", "most"] ["value", "least", "most"] (defScope sIsIn) := ⟨rfl, rfl, rfl, by decide +kernel, rfl, by decide +kernel, by decide +kernel⟩
theorem scNeedSize : FnScope ["size"] ["size"] (defScope sNeedSize) := ⟨rfl, rfl, rfl, by decide +kernel, rfl, by decide +kernel, by decide +kernel⟩
theorem scIsSet : FnScope ["size", "value"] ["size", "value"] (defScope sIsSet) := ⟨rfl, rfl, rfl, by decide +kernel, rfl, by decide +kernel, by decide +kernel⟩
theorem scNeedSet : FnScope ["size", "one"] ["size", "one"] (defScope sNeedSet) := ⟨rfl, rfl, rfl, by decide +kernel, rfl, by decide +kernel, by decide +kernel⟩
theorem scBlocks : FnScope ["size", "one", "found", "place", "length"] ["size", "one"] (defScope sBlocks) := ⟨rfl, rfl, rfl, by decide +kernel, rfl, by decide +kernel, by decide +kernel⟩
theorem scNeedWhole : FnScope ["size", "whole"] ["size", "whole"] (defScope sNeedWhole) := ⟨rfl, rfl, rfl, by decide +kernel, rfl, by decide +kernel, by decide +kernel⟩
theorem scNeedTerms : FnScope ["size", "whole", "one"] ["size", "whole", "one"] (defScope sNeedTerms) := ⟨rfl, rfl, rfl, by decide +kernel, rfl, by decide +kernel, by decide +kernel⟩
theorem scLies : FnScope ["whole", "one"] ["whole", "one"] (defScope sLies) := ⟨rfl, rfl, rfl, by decide +kernel, rfl, by decide +kernel, by decide +kernel⟩
theorem scPlaces : FnScope ["size", "whole", "first", "length", "k"] ["size", "whole"] (defScope sPlaces) := ⟨rfl, rfl, rfl, by decide +kernel, rfl, by decide +kernel, by decide +kernel⟩
theorem scGaps : FnScope ["places", "one", "rank", "place"] ["places", "one"] (defScope sGaps) := ⟨rfl, rfl, rfl, by decide +kernel, rfl, by decide +kernel, by decide +kernel⟩
theorem scRows : FnScope ["gaps", "found", "gap", "more", "row", "rank"] ["gaps"] (defScope sRows) := ⟨rfl, rfl, rfl, by decide +kernel, rfl, by decide +kernel, by decide +kernel⟩
theorem scAllOf : FnScope ["size", "whole", "one", "found", "places", "more", "row", "some", "rank"] ["size", "whole", "one"] (defScope sAllOf) := ⟨rfl, rfl, rfl, by decide +kernel, rfl, by decide +kernel, by decide +kernel⟩
theorem scNeedPrices : FnScope ["size", "whole", "one", "prices"] ["size", "whole", "one", "prices"] (defScope sNeedPrices) := ⟨rfl, rfl, rfl, by decide +kernel, rfl, by decide +kernel, by decide +kernel⟩
theorem scRed : FnScope ["reds", "some", "place"] ["reds", "some"] (defScope sRed) := ⟨rfl, rfl, rfl, by decide +kernel, rfl, by decide +kernel, by decide +kernel⟩
theorem scCheap : FnScope ["size", "whole", "one", "prices", "reds", "many", "some", "part"] ["size", "whole", "one", "prices", "reds", "many"] (defScope sCheap) := ⟨rfl, rfl, rfl, by decide +kernel, rfl, by decide +kernel, by decide +kernel⟩
theorem scRange : FnScope ["size", "whole", "one", "reds", "some", "part"] ["size", "whole", "one", "reds"] (defScope sRange) := ⟨rfl, rfl, rfl, by decide +kernel, rfl, by decide +kernel, by decide +kernel⟩
theorem scTaken : FnScope ["_law_row", "_law_many", "_law_found", "_law_cell"] ["_law_row", "_law_many"] (defScope sTaken) := ⟨rfl, rfl, rfl, by decide +kernel, rfl, by decide +kernel, by decide +kernel⟩
theorem scAlike : FnScope ["_law_found", "_law_due", "_law_k"] ["_law_found", "_law_due"] (defScope sAlike) := ⟨rfl, rfl, rfl, by decide +kernel, rfl, by decide +kernel, by decide +kernel⟩
theorem scSpots : FnScope ["_law_size", "_law_wishes_here", "_law_found", "_law_wish"] ["_law_size", "_law_wishes_here"] (defScope sSpots) := ⟨rfl, rfl, rfl, by decide +kernel, rfl, by decide +kernel, by decide +kernel⟩
theorem scSum : FnScope ["_law_size", "_law_one", "_law_other", "_law_cars"] ["_law_size", "_law_one", "_law_other"] (defScope sSum) := ⟨rfl, rfl, rfl, by decide +kernel, rfl, by decide +kernel, by decide +kernel⟩
theorem scSets : FnScope ["_law_size", "_law_found", "_law_place", "_law_one"] ["_law_size"] (defScope sSets) := ⟨rfl, rfl, rfl, by decide +kernel, rfl, by decide +kernel, by decide +kernel⟩
theorem scSet : FnScope ["_law_row", "_law_size", "_law_way", "_law_first", "_law_length", "_law_k", "_law_place"] ["_law_row", "_law_size"] (defScope sSet) := ⟨rfl, rfl, rfl, by decide +kernel, rfl, by decide +kernel, by decide +kernel⟩
theorem scWhole : FnScope ["_law_row", "_law_size", "_law_found"] ["_law_row", "_law_size"] (defScope sWhole) := ⟨rfl, rfl, rfl, by decide +kernel, rfl, by decide +kernel, by decide +kernel⟩
theorem scWithin : FnScope ["_law_row", "_law_whole_here", "_law_place"] ["_law_row", "_law_whole_here"] (defScope sWithin) := ⟨rfl, rfl, rfl, by decide +kernel, rfl, by decide +kernel, by decide +kernel⟩
theorem scDiffs : FnScope ["_law_size", "_law_whole_here", "_law_one", "_law_some", "_law_part"] ["_law_size", "_law_whole_here", "_law_one"] (defScope sDiffs) := ⟨rfl, rfl, rfl, by decide +kernel, rfl, by decide +kernel, by decide +kernel⟩
theorem scLaw : FnScope ["_law_script", "_law_row", "_law_size", "_law_whole_here", "_law_reds", "_law_many", "_law_one", "_law_prices", "_law_table", "_law_part", "_law_red", "_law_price", "_law_due", "_law_place", "_law_k"] ["_law_script"] (defScope sLaw) := ⟨rfl, rfl, rfl, by decide +kernel, rfl, by decide +kernel, by decide +kernel⟩
end T27
end
section
set_option Elab.async false
set_option linter.all false
set_option maxRecDepth 100000
set_option maxHeartbeats 4000000
namespace T27
open PySem PySem.Spec PyProof.Rows L2
theorem kpRefl (s : Shared) : Keeps s s := GxR.keeps_tok s s.toks
theorem kpTok (s : Shared) (k : Nat) : Keeps s { s with toks := k } := GxR.keeps_tok s k
theorem kpTrans {a b c : Shared} (x : Keeps a b) (y : Keeps b c) : Keeps a c := by
  obtain ⟨h1, t1, rfl, k1⟩ := x
  obtain ⟨h2, t2, rfl, k2⟩ := y
  exact ⟨h2, t2, rfl, fun q u e => k2 q u (k1 q u e)⟩
theorem kpGet {a b : Shared} (x : Keeps a b) : ∀ q u, a.heap.get? q = some u → b.heap.get? q = some u := by
  obtain ⟨h1, t1, rfl, k1⟩ := x
  exact k1
/-! ### raw readings of expressions that keep all that stands -/
def RE (prog : Program) (w : World) (A : Around) (env : Env) (e : Expr) (s : Shared) (R : Value → Prop) : Prop :=
  ∀ s1, Keeps s s1 → ∀ (E : Value → Shared → Prop) (Q : Value → Shared → Prop), (∀ u s2, Keeps s1 s2 → R u → Q u s2) → wpAny (model prog w) A (eval e env) Q E s1
section
variable {prog : Program} {w : World} {A : Around} {env : Env} {s : Shared} {m : Str → Option Value} {a b : Expr} {pos : Pos} {R Ra Rb : Value → Prop}
theorem reInt {i : Int} {k : Nat} (h : ∀ t, R (.int i t)) : RE prog w A env (.Constant (.int i) k pos) s R :=
  fun s1 _ E Q q => wpAny_Constant_int (q _ _ (kpTok s1 _) (h _))
theorem reLoc {x : Str} {v : Value} (hk : env.scope.kind = .function) (hl : env.scope.names.lookup x = some .local) (hn : s.heap.Ns env.locals m) (hv : m x = some v) (h : R v)
    (hd : (x == ("__debug__" : Str)) = false := by decide) : RE prog w A env (.Name x pos) s R :=
  fun s1 k E Q q => wpAny_Name (wpAny_loadName_local hk hl (hn.keeps (kpGet k)) hv (q _ _ (kpRefl s1) h)) hd
theorem reFree {x : Str} {c : Addr} {v : Value} (hk : env.scope.kind = .function) (hl : env.scope.names.lookup x = some .free) (hc : env.cells.lookup x = some c) (hv : s.heap.IsCell c (some v)) (h : R v)
    (hd : (x == ("__debug__" : Str)) = false := by decide) (hcd : (x == ("__classdict__" : Str)) = false := by decide) : RE prog w A env (.Name x pos) s R :=
  fun s1 k E Q q => wpAny_Name (wpAny_loadName_free hk hl hc (hv.keeps (kpGet k)) (q _ _ (kpRefl s1) h) hcd) hd
theorem reGlob {x : Str} {mg : Str → Option Value} {v : Value} (hk : env.scope.kind = .function) (hl : env.scope.names.lookup x = some .globalImplicit) (hn : s.heap.Ns env.globals mg) (hv : mg x = some v) (h : R v)
    (hd : (x == ("__debug__" : Str)) = false := by decide) : RE prog w A env (.Name x pos) s R :=
  fun s1 k E Q q => Calls.Name_function_global hk hl (Calls.loadGlobal_global (hn.keeps (kpGet k)) hv (q _ _ (kpRefl s1) h)) hd
theorem reBlt {x : Str} {mg mb : Str → Option Value} {v : Value} (hk : env.scope.kind = .function) (hl : env.scope.names.lookup x = some .globalImplicit) (hn : s.heap.Ns env.globals mg) (hm : mg x = none) (hb : s.heap.Ns env.builtins mb) (hv : mb x = some v) (h : R v)
    (hd : (x == ("__debug__" : Str)) = false := by decide) : RE prog w A env (.Name x pos) s R :=
  fun s1 k E Q q => Calls.Name_function_global hk hl (Calls.loadGlobal_builtin (hn.keeps (kpGet k)) hm (hb.keeps (kpGet k)) hv (q _ _ (kpRefl s1) h)) hd
theorem reMono {e : Expr} {R' : Value → Prop} (h : RE prog w A env e s R) (hR : ∀ u, R u → R' u) : RE prog w A env e s R' :=
  fun s1 k E Q q => h s1 k E Q fun u s2 k2 r => q u s2 k2 (hR u r)
/-- two in a row -/
theorem reTwo {E : Value → Shared → Prop} {Q : Value → Shared → Prop} {f : Value → Value → Sem Value} {s1 : Shared} (ha : RE prog w A env a s Ra) (hb : RE prog w A env b s Rb) (k : Keeps s s1)
    (h : ∀ u v s3, Keeps s1 s3 → Ra u → Rb v → wpAny (model prog w) A (f u v) Q E s3) :
    wpAny (model prog w) A (eval a env) (fun u s2 => wpAny (model prog w) A (eval b env) (fun v s3 => wpAny (model prog w) A (f u v) Q E s3) E s2) E s1 :=
  ha s1 k E _ fun u s2 k2 ru => hb s2 (kpTrans k k2) E _ fun v s3 k3 rv => h u v s3 (kpTrans k2 k3) ru rv
theorem reSub (ha : RE prog w A env a s (fun u => ∃ i t, u = .int i t ∧ Ra (.int i t))) (hb : RE prog w A env b s (fun u => ∃ j t, u = .int j t ∧ Rb (.int j t)))
    (h : ∀ i j t t' t'', Ra (.int i t) → Rb (.int j t') → R (.int (i - j) t'')) : RE prog w A env (.BinOp a .Sub b pos) s R := by
  intro s1 k E Q q
  refine wpAny_BinOp (reTwo ha hb k fun u v s3 k3 ru rv => ?_)
  obtain ⟨i, t, rfl, ri⟩ := ru
  obtain ⟨j, t', rfl, rj⟩ := rv
  exact sub_int (q _ _ (kpTrans k3 (kpTok s3 _)) (h i j t t' _ ri rj))
theorem reAdd (ha : RE prog w A env a s (fun u => ∃ i t, u = .int i t ∧ Ra (.int i t))) (hb : RE prog w A env b s (fun u => ∃ j t, u = .int j t ∧ Rb (.int j t)))
    (h : ∀ i j t t' t'', Ra (.int i t) → Rb (.int j t') → R (.int (i + j) t'')) : RE prog w A env (.BinOp a .Add b pos) s R := by
  intro s1 k E Q q
  refine wpAny_BinOp (reTwo ha hb k fun u v s3 k3 ru rv => ?_)
  obtain ⟨i, t, rfl, ri⟩ := ru
  obtain ⟨j, t', rfl, rj⟩ := rv
  exact add_int (q _ _ (kpTrans k3 (kpTok s3 _)) (h i j t t' _ ri rj))
theorem reLt (ha : RE prog w A env a s (fun u => ∃ i t, u = .int i t ∧ Ra (.int i t))) (hb : RE prog w A env b s (fun u => ∃ j t, u = .int j t ∧ Rb (.int j t)))
    (h : ∀ i j t t', Ra (.int i t) → Rb (.int j t') → R (.bool (decide (i < j)))) : RE prog w A env (.Compare a [.Lt] [b] pos) s R := by
  intro s1 k E Q q
  refine wpAny_Compare1 (reTwo ha hb k fun u v s3 k3 ru rv => ?_) (nomark _)
  obtain ⟨i, t, rfl, ri⟩ := ru
  obtain ⟨j, t', rfl, rj⟩ := rv
  exact lt_int (q _ _ k3 (h i j t t' ri rj))
/-- x in t, t a tuple of flat items -/
theorem reIn {x : V} {xs : List V} {its : List Value} {p : Addr} (ha : RE prog w A env a s (fun u => RelV x u)) (hb : RE prog w A env b s (fun u => u = .ref p)) (hT : s.heap.IsTuple p its.toArray) (hv : Vals xs its) (fx : flatV x = true) (fs : xs.all flatV = true)
    (h : R (.bool (inV x xs))) (hm : behindInMarks .In b = false := by rfl) : RE prog w A env (.Compare a [.In] [b] pos) s R := by
  intro s1 k E Q q
  refine wpAny_Compare1 (reTwo ha hb k fun u v s3 k3 ru rv => ?_) hm
  subst rv
  have hT3 : s3.heap.IsTuple p its.toArray := by
    obtain ⟨o, e, z⟩ := hT
    exact ⟨o, kpGet (kpTrans k k3) _ _ e, z⟩
  refine SeqAt.in_tupleAt (eqU x) hT3 (fun w hw => mem_eqAt ru fx hv fs w (by simpa using hw)) (q _ _ k3 ?_)
  rw [show its.toArray.any (eqU x) = its.any (eqU x) by simp, any_eqU hv fs]
  exact h
/-- t[i], t a tuple -/
theorem reIx {its : List Value} {p : Addr} {j : Nat} {y : Value} (ha : RE prog w A env a s (fun u => u = .ref p)) (hb : RE prog w A env b s (fun u => ∃ t, u = .int (j : Int) t)) (hT : s.heap.IsTuple p its.toArray) (hy : its[j]? = some y) (hz : its.length ≤ sizeLine) (h : R y)
    (hs : PlainIx b) : RE prog w A env (.Subscript a b pos) s R := by
  intro s1 k E Q q
  refine Subscript_ (reTwo ha hb k fun u v s3 k3 ru rv => ?_)
  subst ru
  obtain ⟨t, rfl⟩ := rv
  have hT3 : IsTup s3.heap p its.toArray := by
    obtain ⟨o, e, z⟩ := hT
    exact ⟨o, kpGet (kpTrans k k3) _ _ e, z⟩
  have hj : j < its.length := (List.getElem?_eq_some_iff.mp hy).1
  have l63 := line63
  refine subscriptTail_builtinR (x := y) hT3.typeIs slot_tuple_getitem.lookup (PyProof.Rows.getItem_tuple (j := j) (Q := fun r s' => r = y ∧ Q r s') hT3 (by omega) (by omega) ?_ (by simpa using hy) ⟨rfl, q _ _ k3 h⟩) (hs _ _)
  have z := (ixN_seq (n := its.length) (i := (j : Int)) (j := j) (by unfold ixN; simp [hj])).1
  simpa using z
end
end T27
end
section
set_option Elab.async false
set_option linter.all false
set_option maxRecDepth 100000
set_option maxHeartbeats 4000000
namespace T27
open PySem PySem.Spec PyProof.Rows L2
section
variable {prog : Program} {w : World} {K : PySem.W.Frag} {mg mb : Str → Option Value}
/-- what a state must hold for a call of a def of the text -/
structure Stands (K : PySem.W.Frag) (mg mb : Str → Option Value) (h : Heap) : Prop where
  kin : K.In h
  glob : h.Ns mainGlobals mg
  blt : h.Ns builtinsNs mb
  bltv : ∀ x : Str, x ≠ "__name__" → mb x = bootBuiltins x
  lim : h.NoLimit
theorem Stands.keeps {h h' : Heap} (S : Stands K mg mb h) (k : ∀ b o, h.get? b = some o → h'.get? b = some o) : Stands K mg mb h' :=
  ⟨S.kin.keeps k, S.glob.keeps k, S.blt.keeps k, S.bltv, S.lim.keeps k⟩
/-- isinstance(x, T), x an int -/
theorem reIsi {A : Around} {env : Env} {s : Shared} {T x : Str} {Tn : String} {v : Int} {t : Tok} {m : Str → Option Value} {b : Bool} {p1 p2 p3 pos : Pos} (S : Stands K mg mb s.heap) (hk : env.scope.kind = .function) (hg : env.globals = mainGlobals) (hb : env.builtins = builtinsNs)
    (hi : env.scope.names.lookup ("isinstance" : Str) = some NameKind.globalImplicit) (mi : mg "isinstance" = none) (hT : env.scope.names.lookup T = some .globalImplicit) (mT : mg T = none) (vT : bootBuiltins T = some (.type Tn)) (nT : T ≠ "__name__") (dT : (T == ("__debug__" : Str)) = false)
    (hx : env.scope.names.lookup x = some .local) (hn : s.heap.Ns env.locals m) (hv : m x = some (.int v t)) (dx : (x == ("__debug__" : Str)) = false) (hr : PySem.W.kitOne K (.type "int") (.type Tn) = some b) :
    RE prog w A env (.Call (.Name "isinstance" p1) [.Name x p2, .Name T p3] [] pos) s (fun u => u = .bool b) := by
  intro s1 k E Q q
  refine wpAny_Call_Name_kw (reBlt (R := fun u => u = .builtin "isinstance") hk hi (by rw [hg]; exact S.glob) mi (by rw [hb]; exact S.blt) ((S.bltv _ (by decide)).trans (by decide +kernel)) rfl (by decide) s1 k E _ fun f s2 k2 ef => ?_)
  subst ef
  refine PyProof.Rows.callWith_builtin1 (Calls.spliced_cons (reLoc (R := fun u => u = .int v t) hk hx hn hv rfl dx s2 (kpTrans k k2) E _ fun u1 s3 k3 e1 => ?_)) rfl rfl
  subst e1
  refine Calls.spliced_cons (reBlt (R := fun u => u = .type Tn) hk hT (by rw [hg]; exact S.glob) mT (by rw [hb]; exact S.blt) ((S.bltv _ nT).trans vT) rfl dT s3 (kpTrans k (kpTrans k2 k3)) E _ fun u2 s4 k4 e2 => ?_)
  subst e2
  refine Calls.spliced_nil ?_
  exact PySem.W.kia_one PySem.W.kitx_int (S.kin.keeps (kpGet (kpTrans k (kpTrans k2 (kpTrans k3 k4))))) True.intro hr (fun z => nomatch z) fun tk => q _ _ (kpTrans k2 (kpTrans k3 (kpTrans k4 (kpTok s4 tk)))) rfl
/-- is_in, called with three ints -/
structure IsInAt (K : PySem.W.Frag) (mg : Str → Option Value) (f : Addr) : Prop where
  ex : ∃ fd, Fun K "is_in" "is_in" sIsIn f fd
  gl : mg "is_in" = some (.ref f)
  mi : mg "isinstance" = none
  mI : mg "int" = none
  mB : mg "bool" = none
theorem isin_raw {A : Around} {f : Addr} {s : Shared} {v lo hi : Int} {t1 t2 t3 : Tok} {E : Value → Shared → Prop} {Q : Value → Shared → Prop} (T : IsInAt K mg f) (S : Stands K mg mb s.heap) (hh : A.handled = none) (hd : A.depth < recursionLimit)
    (q : ∀ s', Keeps s s' → Q (.bool (decide (lo ≤ v ∧ v ≤ hi))) s') : wpAny (model prog w) A (call (.ref f) [.int v t1, .int lo t2, .int hi t3]) Q E s := by
  obtain ⟨fd, F⟩ := T.ex
  obtain ⟨oc, od, kV, doc, pm, an, cdv, ct, osl, rfl, lk, hcd⟩ := F.ex
  refine wpAny_call (codeAny_call_function hd (S.kin _ _ lk) rfl rfl rfl rfl (PySem.W.codeRec_of S.kin hcd) (wpAny_of_eq (a := ([("value", Value.int v t1), ("least", Value.int lo t2), ("most", Value.int hi t3)] : List (Str × Value))) rfl ?_))
  refine wpAny_newFunctionEnv_cells rfl (fun y hy => ?_) fun env he s1 x => ?_
  · simp only [List.mem_cons, List.not_mem_nil, or_false] at hy
    rcases hy with rfl | rfl | rfl <;> exact .inl rfl
  obtain ⟨h1, tk, rfl, hk⟩ := x.done
  have S1 : Stands K mg mb h1 := S.keeps hk
  refine ⟨S1.lim, codeAny_func ?_⟩
  have ns := x.toInCall.ns
  have e1 : env.scope = defScope sIsIn := by rw [he]; rfl
  have e2 : env.globals = mainGlobals := by rw [he]; rfl
  have e3 : env.builtins = builtinsNs := by rw [he]; rfl
  have ek : env.scope.kind = .function := by rw [e1]; rfl
  clear he x
  generalize hm : bindL _ _ _ = m at ns
  have par : ∀ (i : Nat) (y : Str) (u : Value), (["value", "least", "most"] : List Str)[i]? = some y → ([Value.int v t1, Value.int lo t2, Value.int hi t3] : List Value)[i]? = some u → (defScope sIsIn).names.lookup y = some NameKind.local → m y = some u := fun i y u h1 h2 h3 => by
    rw [← hm]
    exact bindL_get (P := ["value", "least", "most"]) (vs := [Value.int v t1, Value.int lo t2, Value.int hi t3]) (i := i) (by decide +kernel) h1 h2 (by unfold Env.kindOf; rw [e1]; exact h3)
  have m1 : m "value" = some (.int v t1) := par 0 _ _ rfl rfl rfl
  have m2 : m "least" = some (.int lo t2) := par 1 _ _ rfl rfl rfl
  have m3 : m "most" = some (.int hi t3) := par 2 _ _ rfl rfl rfl
  clear par hm
  have k1 : Keeps s { s with heap := h1, toks := tk } := ⟨h1, tk, rfl, hk⟩
  obtain ⟨s1, es⟩ : ∃ s1 : Shared, s1 = { s with heap := h1, toks := tk } := ⟨_, rfl⟩
  have ns1 : s1.heap.Ns env.locals m := by rw [es]; exact ns
  rw [← es] at k1 ⊢
  clear es ns S1 hk
  have S1 : Stands K mg mb s1.heap := S.keeps (kpGet k1)
  have nm : ∀ (y : Str) (nk : NameKind), (defScope sIsIn).names.lookup y = some nk → env.scope.names.lookup y = some nk := fun y nk e => by rw [e1]; exact e
  refine wpAny_execs_cons (wpAny_Return_some ?_)
  refine BoolOp_and (reIsi (b := true) (Tn := "int") (m := m) S1 ek e2 e3 (nm _ _ rfl) T.mi (nm _ _ rfl) T.mI (by decide +kernel) (by decide) (by decide) (nm _ _ rfl) ns1 m1 (by decide) (kit_ty (by decide +kernel)) _ (kpRefl _) _ _ fun u s2 k2 eu => ?_)
  subst eu
  refine wpAny_truthy_bool (ite_tt ?_)
  have n2 := ns1.keeps (kpGet k2)
  have S2 := S1.keeps (kpGet k2)
  refine BoolOp_and (UnaryOp_ (reIsi (b := false) (Tn := "bool") (m := m) S2 ek e2 e3 (nm _ _ rfl) T.mi (nm _ _ rfl) T.mB (by decide +kernel) (by decide) (by decide) (nm _ _ rfl) n2 m1 (by decide) (kit_ty (by decide +kernel)) _ (kpRefl _) _ _ fun u s3 k3 eu => ?_))
  subst eu
  refine not_of (wpAny_truthy_bool (wpAny_truthy_bool (ite_tt ?_)))
  have n3 := n2.keeps (kpGet k3)
  refine BoolOp_one (Compare_chain (reLoc (R := fun u => u = .int lo t2) ek (nm _ _ rfl) n3 m2 rfl (by decide) _ (kpRefl _) _ _ fun u s4 k4 eu => ?_))
  subst eu
  have n4 := n3.keeps (kpGet k4)
  refine chain_link (reLoc (R := fun u => u = .int v t1) ek (nm _ _ rfl) n4 m1 rfl (by decide) _ (kpRefl _) _ _ fun u s5 k5 eu => ?_)
  subst eu
  have n5 := n4.keeps (kpGet k5)
  have k15 : Keeps s s5 := kpTrans k1 (kpTrans k2 (kpTrans k3 (kpTrans k4 k5)))
  refine le_int (wpAny_truthy_bool ?_)
  by_cases hl : lo ≤ v
  · rw [decide_eq_true hl]
    refine ite_tt (chain_last (reLoc (R := fun u => u = .int hi t3) ek (nm _ _ rfl) n5 m3 rfl (by decide) _ (kpRefl _) _ _ fun u s6 k6 eu => ?_))
    subst eu
    refine le_int ?_
    have z := q s6 (kpTrans k15 k6)
    have e : decide (lo ≤ v ∧ v ≤ hi) = decide (v ≤ hi) := by simp [hl]
    rw [e] at z
    exact z
  · rw [decide_eq_false hl]
    refine ite_ff ?_
    have z := q s5 k15
    have e : decide (lo ≤ v ∧ v ≤ hi) = false := by simp [hl]
    rw [e] at z
    exact z
end
end T27
end
section
set_option Elab.async false
set_option linter.all false
set_option maxRecDepth 100000
set_option maxHeartbeats 4000000
namespace T27
open PySem PySem.Spec PyProof.Rows L2
/-! ### a generator expression's scope, by a look at the text -/
def genB (sc scope : Scope) (x : Str) : Bool :=
  decide (scope.kind = .function) && !scope.isCoroutine && (scope.names.all fun y => !decide (y.2 = .cell)) && decide (scope.names.lookup (".0" : Str) = some .local) && decide (scope.names.lookup x = some .local) &&
    (scope.names.all fun y => !decide (y.2 = .free) || decide (sc.names.lookup y.1 = some .cell) || decide (sc.names.lookup y.1 = some .free))
theorem genS_of {X : Cx} {scope : Scope} {x : Str} (ok : X.Ok) (h : genB X.env.scope scope x = true) : GxR.GenS X.env scope x := by
  unfold genB at h
  simp only [Bool.and_eq_true, Bool.or_eq_true, Bool.not_eq_true', decide_eq_true_eq, decide_eq_false_iff_not, List.all_eq_true] at h
  obtain ⟨⟨⟨⟨⟨h1, h2⟩, h3⟩, h4⟩, h5⟩, h6⟩ := h
  refine ⟨h1, h2, h3, h4, h5, fun y hy e => ?_⟩
  rcases h6 y hy with (z | z) | z
  · exact absurd e z
  · exact ok.has _ (.inl z)
  · exact ok.has _ (.inr z)
/-! ### what is walked -/
/-- the iterator that the making of xv's iterator lays, and its items -/
def SrcAt (X : Cx) (xv : Value) (s1 : Shared) (vs : List V) : Prop :=
  ∃ (o : Obj) (fp : List Addr) (W : Nat → Heap → Prop),
    (∀ (E Q : Value → Shared → Prop), Q (.ref s1.heap.objs.size) { s1 with heap := s1.heap.push o } → wpAny (model X.prog X.w) X.A (pyIter xv) Q E s1) ∧
    (∀ A' : Around, A'.handled = none → Walks X.prog X.w A' s1.heap.objs.size fp [s1.heap.objs.size] vs.length (fun i u => ∃ v, vs[i]? = some v ∧ RelV v u) W) ∧
    W 0 (s1.heap.push o) ∧ ∀ b ∈ fp, b = s1.heap.objs.size ∨ ∃ ob, s1.heap.get? b = some ob ∧ ob.cls = .type "tuple"
abbrev TSrc := L2.St → Hp → (List V → Hp → Prop) → Prop
structure GSrc (X : Cx) (iter : Expr) (ts : TSrc) : Prop where
  run : ∀ (pins : List (Addr × Obj)) (s : Shared) (σ : L2.St) (H : Hp) (R : List V → Hp → Prop), Inv X pins σ H s → ts σ H R →
    wpAny (model X.prog X.w) X.A (eval iter X.env) (fun xv s1 => ∃ vs H1, Inv X pins σ H1 s1 ∧ SrcAt X xv s1 vs ∧ R vs H1) X.xe s
section
variable {X : Cx} {iter : Expr} {te : TE} {ta : TA}
theorem walksMono {prog : Program} {w : World} {A : Around} {it : Addr} {fp wr : List Addr} {n : Nat} {P P' : Nat → Value → Prop} {W : Nat → Heap → Prop} (Y : Walks prog w A it fp wr n P W) (h : ∀ i v, i < n → P i v → P' i v) : Walks prog w A it fp wr n P' W where
  sub := Y.sub
  frame := Y.frame
  item := fun i s Q E hi st q => Y.item i s Q E hi st fun v h' tk p st' k => q v h' tk (h i v hi p) st' k
  done := Y.done
  self := Y.self
theorem vals_at {vs : List V} {its : List Value} (r : Vals vs its) {i : Nat} {u : Value} (h : its.toArray[i]? = some u) : ∃ v, vs[i]? = some v ∧ RelV v u := by
  have h' : its[i]? = some u := by simpa using h
  have hi : i < its.length := (List.getElem?_eq_some_iff.mp h').1
  have hv : i < vs.length := by rw [r.length]; exact hi
  obtain ⟨u', e1, e2⟩ := r.get (List.getElem?_eq_getElem hv)
  rw [h'] at e1
  cases e1
  exact ⟨_, List.getElem?_eq_getElem hv, e2⟩
theorem gsrc_tup (hi : PE X iter te) : GSrc X iter (fun σ H R => te σ H fun x H1 => ∃ a xs, x = .ref a ∧ SqT X.K H1 a xs ∧ R xs H1) := by
  refine ⟨fun pins s σ H R I h => thn (hi.run pins s σ H _ I h) fun xv s1 ⟨x, H1, I1, r1, a, xs, ex, hT, q⟩ => ?_⟩
  subst ex
  obtain rfl : xv = Value.ref a := r1
  obtain ⟨its, rv, hp, hz⟩ := I1.tuple hT
  have hp' : s1.heap.IsTuple a its.toArray := hp
  have hlt : a < s1.heap.objs.size := by
    obtain ⟨o, e, _⟩ := hp'
    exact Heap.lt_size e
  refine ⟨xs, H1, I1, ⟨_, [s1.heap.objs.size, a], fun i h => h.IsTupleIter s1.heap.objs.size a i ∧ h.IsTuple a its.toArray, fun E Q q => wpAny_pyIter_tuple hp' q, fun A' hA => ?_, ⟨⟨_, Heap.get?_push_size _ rfl, rfl, rfl⟩, hp'.push _⟩, fun b hb => ?_⟩, q⟩
  · have W := Walks.tuple (prog := X.prog) (w := X.w) (A := A') hA s1.heap.objs.size a (Nat.ne_of_lt hlt) its.toArray
    have e : its.toArray.size = xs.length := by rw [List.size_toArray, rv.length]
    rw [e] at W
    exact walksMono W fun i u _ hu => vals_at rv hu
  · rcases List.mem_cons.mp hb with e | hb
    · exact .inl e
    · rw [List.mem_singleton.mp hb]
      obtain ⟨o, e, ec, _⟩ := hp'
      exact .inr ⟨o, e, ec⟩
theorem gsrc_range1 {a : Expr} {p pos : Pos} (hg : Gl X "range") (hm : X.mg "range" = none) (ha : PA X [a] ta) (hs : starEach [a] X.env = [(false, eval a X.env)] := by rfl) :
    GSrc X (.Call (.Name "range" p) [a] [] pos) (fun σ H R => ta σ H fun vs H1 => ∃ j : Int, vs = [.int j] ∧ -(2 ^ 62) ≤ j ∧ j < 2 ^ 62 ∧ R ((List.range j.toNat).map fun i => V.int ((i : Nat) : Int)) H1) := by
  refine ⟨fun pins s σ H R I h => ?_⟩
  refine Call_ (ld_blt I hg hm boot_range (PyProof.Rows.callWith_type1 (thn (ha.run pos pins s σ H _ I h) fun us s1 ⟨vs, H1, I1, r1, q1⟩ => ?_) hs rfl))
  obtain ⟨j, e, b1, b2, q⟩ := q1
  subst e
  obtain ⟨u, rfl, t, rfl⟩ := Vals.one r1
  refine call_range_1 ?_
  refine ⟨_, H1, I1.kept fun b o e => Heap.get?_push_of_some _ e, ?_, q⟩
  generalize hr : s1.heap.push { cls := .type "range", data := .fields #[.int 0 s1.toks, .int j t, .int 1 (s1.toks + 1)] } = hp
  refine ⟨{ cls := .type "range_iterator", data := .fields #[rawInt 0, rawInt (Builtin.Range.rangeSize 0 j 1), rawInt 1] }, [hp.objs.size], fun i h => IsRangeIter h hp.objs.size (0 + ((i : Nat) : Int) * 1) ((j.toNat : Int) - ((i : Nat) : Int)) 1, fun E Q q => ?_, fun A' hA => ?_, ?_, fun b hb => ?_⟩
  rotate_left
  · have W := Walks.range (prog := X.prog) (w := X.w) (A := A') hA hp.objs.size 0 1 j.toNat
    have e : ((List.range j.toNat).map fun i => V.int ((i : Nat) : Int)).length = j.toNat := by simp
    rw [e]
    refine walksMono W fun i u hi ⟨t', hu⟩ => ⟨V.int ((i : Nat) : Int), by simp [hi], t', ?_⟩
    rw [hu]
    congr 1
    omega
  rotate_left
  · exact .inl (List.mem_singleton.mp hb)
  · refine wpAny_pyIter_range (t := s1.toks) (u := t) (v := s1.toks + 1) (by rw [← hr]; exact IsRange.new ..) (small_one (by omega) (by omega) b1 b2) ?_
    exact q
  · have e2 : ((j.toNat : Nat) : Int) - ((0 : Nat) : Int) = Builtin.Range.rangeSize 0 j 1 := by rw [rangeSize_one]; split <;> omega
    show IsRangeIter _ _ (0 + ((0 : Nat) : Int) * 1) (((j.toNat : Nat) : Int) - ((0 : Nat) : Int)) 1
    rw [e2]
    exact Heap.get?_push_size _ rfl
end
/-! ### elements -/
abbrev TEl := L2.St → Hp → V → (V → Prop) → Prop
def ElOk (X : Cx) (P : Addr) (scope : Scope) (x : Str) (e : Expr) (te : TEl) : Prop :=
  ∀ (pins : List (Addr × Obj)) (σ : L2.St) (H : Hp) (s1 : Shared) (ps : Array Value), Inv X pins σ H s1 → H P = some (.tbl ps) → ∀ (C : Addr) (code : Value) (bi : Addr) (A' : Around) (v : V) (u : Value) (s2 : Shared) (m2 : Str → Option Value) (R : V → Prop),
    A'.handled = none → A'.depth ≤ X.A.depth + 1 → A'.units ≤ X.A.units + 8 → RelV v u → s2.heap.Ns C m2 → m2 x = some u → (∀ b o, b ≠ P → s1.heap.get? b = some o → s2.heap.get? b = some o) → te σ H v R →
    RE X.prog X.w A' (genEnv scope (cloFrom X.env.cells scope.names []) C code bi X.env) e s2 (fun y => ∃ z, RelV z y ∧ R z)
section
variable {X : Cx} {P : Addr} {scope : Scope} {x : Str} {a b : Expr} {ta tb : TEl} {pos : Pos}
theorem el_own (h1 : scope.kind = .function) (h2 : scope.names.lookup x = some .local) (hd : (x == ("__debug__" : Str)) = false := by decide) : ElOk X P scope x (.Name x pos) (fun _ _ v R => R v) := by
  intro pins σ H s1 ps I hP C code bi A' v u s2 m2 R _ _ _ ru hn hm _ q
  exact reLoc h1 h2 hn hm ⟨v, ru, q⟩ hd
theorem el_int {i : Int} {k : Nat} : ElOk X P scope x (.Constant (.int i) k pos) (fun _ _ _ R => R (.int i)) := by
  intro pins σ H s1 ps I hP C code bi A' v u s2 m2 R _ _ _ ru hn hm _ q
  exact reInt fun t => ⟨V.int i, ⟨t, rfl⟩, q⟩
theorem clo_look {cells : List (Str × Addr)} {names : List (Str × NameKind)} {y : Str} {c : Addr} (h : names.lookup y = some .free) (hc : cells.lookup y = some c) : (cloFrom cells names []).lookup y = some c := by
  obtain ⟨c', e⟩ := mem_lookup (cloFrom_has (cells := cells) (acc := []) (PySem.mem_of_lookup h))
  rw [e]
  rcases cloFrom_mem (PySem.mem_of_lookup e) with q | ⟨_, q⟩
  · cases q
  · rw [q, hc]
    rfl
/-- a name of the def, captured -/
theorem el_cap {j : Nat} {y : Str} (hN : X.N[j]? = some y) (h1 : scope.kind = .function) (h2 : scope.names.lookup y = some .free) (h3 : X.env.scope.names.lookup y = some .cell ∨ X.env.scope.names.lookup y = some .free)
    (hd : (y == ("__debug__" : Str)) = false := by decide) (hcd : (y == ("__classdict__" : Str)) = false := by decide) : ElOk X P scope x (.Name y pos) (fun σ _ _ R => ∃ z, σ[j]? = some (some z) ∧ R z) := by
  intro pins σ H s1 ps I hP C code bi A' v u s2 m2 R _ _ _ ru hn hm hk q
  obtain ⟨z, e, q⟩ := q
  obtain ⟨m, hn1, hl⟩ := I.loc
  obtain ⟨u1, r1, l⟩ := hl j y z hN e (h3.elim (fun k => .inr (.inl k)) fun k => .inr (.inr k))
  rcases l with ⟨k, _⟩ | ⟨_, c, hc, hcell⟩
  · exfalso
    have k' : X.env.scope.names.lookup y = some NameKind.local := k
    rcases h3 with z' | z' <;> rw [z'] at k' <;> cases k'
  · have nc : c ≠ P := fun q => by
      have := I.freeC y c hc
      rw [q, hP] at this
      cases this
    obtain ⟨o, e1, e2⟩ := hcell
    exact reFree h1 h2 (clo_look h2 hc) ⟨o, hk c o nc e1, e2⟩ ⟨z, r1, q⟩ hd hcd
theorem re_int2 {A' : Around} {env : Env} {s2 : Shared} {R : Int → Prop} {prog : Program} {w : World} (h : RE prog w A' env a s2 (fun y => ∃ z, RelV z y ∧ ∃ i, z = V.int i ∧ R i)) : RE prog w A' env a s2 (fun u => ∃ i t, u = .int i t ∧ R i) :=
  reMono h fun u ⟨z, r, i, e, q⟩ => by
    subst e
    obtain ⟨t, rfl⟩ := r
    exact ⟨i, t, rfl, q⟩
def elI2 (g : Int → Int → V) (ta tb : TEl) : TEl := fun σ H v R => ∃ i j : Int, ta σ H v (fun y => y = .int i) ∧ tb σ H v (fun y => y = .int j) ∧ R (g i j)
theorem re_eqi {A' : Around} {env : Env} {s2 : Shared} {i : Int} {prog : Program} {w : World} (h : RE prog w A' env a s2 (fun y => ∃ z, RelV z y ∧ z = V.int i)) : RE prog w A' env a s2 (fun u => ∃ k t, u = .int k t ∧ (u = u ∧ k = i)) :=
  reMono h fun u ⟨z, r, e⟩ => by
    subst e
    obtain ⟨t, rfl⟩ := r
    exact ⟨i, t, rfl, rfl, rfl⟩
theorem el_sub (ha : ElOk X P scope x a ta) (hb : ElOk X P scope x b tb) : ElOk X P scope x (.BinOp a .Sub b pos) (elI2 (fun i j => .int (i - j)) ta tb) := by
  intro pins σ H s1 ps I hP C code bi A' v u s2 m2 R h1 h2 h3 ru hn hm hk q
  obtain ⟨i, j, q1, q2, q3⟩ := q
  have r1 := ha pins σ H s1 ps I hP C code bi A' v u s2 m2 _ h1 h2 h3 ru hn hm hk q1
  have r2 := hb pins σ H s1 ps I hP C code bi A' v u s2 m2 _ h1 h2 h3 ru hn hm hk q2
  refine reSub (Ra := fun y => ∃ t, y = .int i t) (Rb := fun y => ∃ t, y = .int j t) (reMono r1 fun y ⟨z, r, e⟩ => ?_) (reMono r2 fun y ⟨z, r, e⟩ => ?_) fun i' j' t t' t'' e1 e2 => ?_
  · subst e; obtain ⟨t, rfl⟩ := r; exact ⟨i, t, rfl, t, rfl⟩
  · subst e; obtain ⟨t, rfl⟩ := r; exact ⟨j, t, rfl, t, rfl⟩
  · obtain ⟨_, e1⟩ := e1; obtain ⟨_, e2⟩ := e2
    cases e1; cases e2
    exact ⟨V.int (i - j), ⟨t'', rfl⟩, q3⟩
theorem el_add (ha : ElOk X P scope x a ta) (hb : ElOk X P scope x b tb) : ElOk X P scope x (.BinOp a .Add b pos) (elI2 (fun i j => .int (i + j)) ta tb) := by
  intro pins σ H s1 ps I hP C code bi A' v u s2 m2 R h1 h2 h3 ru hn hm hk q
  obtain ⟨i, j, q1, q2, q3⟩ := q
  have r1 := ha pins σ H s1 ps I hP C code bi A' v u s2 m2 _ h1 h2 h3 ru hn hm hk q1
  have r2 := hb pins σ H s1 ps I hP C code bi A' v u s2 m2 _ h1 h2 h3 ru hn hm hk q2
  refine reAdd (Ra := fun y => ∃ t, y = .int i t) (Rb := fun y => ∃ t, y = .int j t) (reMono r1 fun y ⟨z, r, e⟩ => ?_) (reMono r2 fun y ⟨z, r, e⟩ => ?_) fun i' j' t t' t'' e1 e2 => ?_
  · subst e; obtain ⟨t, rfl⟩ := r; exact ⟨i, t, rfl, t, rfl⟩
  · subst e; obtain ⟨t, rfl⟩ := r; exact ⟨j, t, rfl, t, rfl⟩
  · obtain ⟨_, e1⟩ := e1; obtain ⟨_, e2⟩ := e2
    cases e1; cases e2
    exact ⟨V.int (i + j), ⟨t'', rfl⟩, q3⟩
theorem el_lt (ha : ElOk X P scope x a ta) (hb : ElOk X P scope x b tb) : ElOk X P scope x (.Compare a [.Lt] [b] pos) (elI2 (fun i j => .bl (decide (i < j))) ta tb) := by
  intro pins σ H s1 ps I hP C code bi A' v u s2 m2 R h1 h2 h3 ru hn hm hk q
  obtain ⟨i, j, q1, q2, q3⟩ := q
  have r1 := ha pins σ H s1 ps I hP C code bi A' v u s2 m2 _ h1 h2 h3 ru hn hm hk q1
  have r2 := hb pins σ H s1 ps I hP C code bi A' v u s2 m2 _ h1 h2 h3 ru hn hm hk q2
  refine reLt (Ra := fun y => ∃ t, y = .int i t) (Rb := fun y => ∃ t, y = .int j t) (reMono r1 fun y ⟨z, r, e⟩ => ?_) (reMono r2 fun y ⟨z, r, e⟩ => ?_) fun i' j' t t' e1 e2 => ?_
  · subst e; obtain ⟨t, rfl⟩ := r; exact ⟨i, t, rfl, t, rfl⟩
  · subst e; obtain ⟨t, rfl⟩ := r; exact ⟨j, t, rfl, t, rfl⟩
  · obtain ⟨_, e1⟩ := e1; obtain ⟨_, e2⟩ := e2
    cases e1; cases e2
    exact ⟨V.bl (decide (i < j)), rfl, q3⟩
/-- a tracked tuple, later -/
theorem tup_later {pins : List (Addr × Obj)} {σ : L2.St} {H : Hp} {s1 s2 : Shared} {ps : Array Value} {p : Addr} {xs : List V} (I : Inv X pins σ H s1) (hP : H P = some (.tbl ps)) (hk : ∀ b o, b ≠ P → s1.heap.get? b = some o → s2.heap.get? b = some o) (h : H p = some (.tup xs)) :
    ∃ its : List Value, Vals xs its ∧ s2.heap.IsTuple p its.toArray ∧ its.length ≤ sizeLine := by
  obtain ⟨its, rv, ⟨o, e, z⟩, hz⟩ := I.tuple (.inl (.inl h))
  have np : p ≠ P := fun q => by rw [q, hP] at h; cases h
  exact ⟨its, rv, ⟨o, hk p o np e, z⟩, by rw [← rv.length]; exact hz⟩
theorem el_in (ha : ElOk X P scope x a ta) (hb : ElOk X P scope x b tb) (hm : behindInMarks .In b = false := by rfl) :
    ElOk X P scope x (.Compare a [.In] [b] pos) (fun σ H v R => ∃ y p xs, ta σ H v (fun z => z = y) ∧ tb σ H v (fun z => z = .ref p) ∧ H p = some (.tup xs) ∧ flatV y = true ∧ xs.all flatV = true ∧ R (.bl (inV y xs))) := by
  intro pins σ H s1 ps I hP C code bi A' v u s2 m2 R h1 h2 h3 ru hn hm2 hk q
  obtain ⟨y, p, xs, q1, q2, q3, f1, f2, q4⟩ := q
  have r1 := ha pins σ H s1 ps I hP C code bi A' v u s2 m2 _ h1 h2 h3 ru hn hm2 hk q1
  have r2 := hb pins σ H s1 ps I hP C code bi A' v u s2 m2 _ h1 h2 h3 ru hn hm2 hk q2
  obtain ⟨its, rv, hT, _⟩ := tup_later I hP hk q3
  exact reIn (x := y) (reMono r1 fun w ⟨z, r, e⟩ => e ▸ r) (reMono r2 fun w ⟨z, r, e⟩ => by subst e; exact r) hT rv f1 f2 ⟨V.bl (inV y xs), rfl, q4⟩ hm
theorem el_ix (ha : ElOk X P scope x a ta) (hb : ElOk X P scope x b tb) (hs : PlainIx b) :
    ElOk X P scope x (.Subscript a b pos) (fun σ H v R => ∃ (j : Nat) (p : Addr) (xs : List V) (y : V), ta σ H v (fun z => z = .ref p) ∧ tb σ H v (fun z => z = .int (j : Int)) ∧ H p = some (.tup xs) ∧ xs[j]? = some y ∧ R y) := by
  intro pins σ H s1 ps I hP C code bi A' v u s2 m2 R h1 h2 h3 ru hn hm2 hk q
  obtain ⟨j, p, xs, y, q1, q2, q3, q4, q5⟩ := q
  have r1 := ha pins σ H s1 ps I hP C code bi A' v u s2 m2 _ h1 h2 h3 ru hn hm2 hk q1
  have r2 := hb pins σ H s1 ps I hP C code bi A' v u s2 m2 _ h1 h2 h3 ru hn hm2 hk q2
  obtain ⟨its, rv, hT, hz⟩ := tup_later I hP hk q3
  obtain ⟨w', e1, e2⟩ := rv.get q4
  exact reIx (j := j) (reMono r1 fun w ⟨z, r, e⟩ => by subst e; exact r) (reMono r2 fun w ⟨z, r, e⟩ => by subst e; exact r) hT e1 hz ⟨y, e2, q5⟩ hs
end
end T27
end
section
set_option Elab.async false
set_option linter.all false
set_option maxRecDepth 100000
set_option maxHeartbeats 4000000
namespace T27
open PySem PySem.Spec PyProof.Rows L2
section
variable {X : Cx} {P : Addr} {scope : Scope} {x : Str} {e1 e2 e3 : Expr} {ta tb td : TEl} {pos p0 : Pos}
/-- what stands in the later state -/
theorem stands_later {pins : List (Addr × Obj)} {σ : L2.St} {H : Hp} {s1 s2 : Shared} {ps : Array Value} (I : Inv X pins σ H s1) (hP : H P = some (.tbl ps)) (hk : ∀ b o, b ≠ P → s1.heap.get? b = some o → s2.heap.get? b = some o) : ∃ mb, Stands X.K X.mg mb s2.heap := by
  have kb : ∀ b o, X.base.get? b = some o → s2.heap.get? b = some o := fun b o e => hk b o (fun q => by
    have z := (I.bs b o e).2
    rw [q, hP] at z
    cases z) (I.bs b o e).1
  obtain ⟨mb, h1, h2⟩ := I.mod.blt
  exact ⟨mb, I.mod.kin.keeps kb, I.mod.glob.keeps kb, h1.keeps kb, h2, I.mod.nolimit.keeps kb⟩
theorem el_glob {y : Str} {z : V} {u : Value} (h1 : scope.kind = .function) (h2 : scope.names.lookup y = some .globalImplicit) (hm : X.mg y = some u) (r : RelV z u) (hd : (y == ("__debug__" : Str)) = false := by decide) : ElOk X P scope x (.Name y pos) (fun _ _ _ R => R z) := by
  intro pins σ H s1 ps I hP C code bi A' v u s2 m2 R _ _ _ ru hn hm2 hk q
  obtain ⟨mb, S⟩ := stands_later I hP hk
  exact reGlob h1 h2 (by show s2.heap.Ns X.env.globals X.mg; rw [I.ok.glob]; exact S.glob) hm ⟨z, r, q⟩ hd
theorem el_isin {f : Addr} {k : Nat} (T : IsInAt X.K X.mg f) (hr : Room k X.A) (h1 : scope.kind = .function) (h2 : scope.names.lookup ("is_in" : Str) = some .globalImplicit) (kp : PySem.W.keepIn X.K (.ref f) = true) (ha : ElOk X P scope x e1 ta) (hb : ElOk X P scope x e2 tb) (hd : ElOk X P scope x e3 td)
    (hs : ∀ env, starEach [e1, e2, e3] env = [(false, eval e1 env), (false, eval e2 env), (false, eval e3 env)]) (hs2 : ∀ env, starEach [e2, e3] env = [(false, eval e2 env), (false, eval e3 env)]) :
    ElOk X P scope x (.Call (.Name "is_in" p0) [e1, e2, e3] [] pos) (fun σ H v R => ∃ i lo hi : Int, ta σ H v (fun z => z = .int i) ∧ tb σ H v (fun z => z = .int lo) ∧ td σ H v (fun z => z = .int hi) ∧ R (.bl (decide (lo ≤ i ∧ i ≤ hi)))) := by
  intro pins σ H s1 ps I hP C code bi A' v u s2 m2 R g1 g2 g3 ru hn hm2 hk q
  obtain ⟨i, lo, hi, q1, q2, q3, q⟩ := q
  have r1 := ha pins σ H s1 ps I hP C code bi A' v u s2 m2 _ g1 g2 g3 ru hn hm2 hk q1
  have r2 := hb pins σ H s1 ps I hP C code bi A' v u s2 m2 _ g1 g2 g3 ru hn hm2 hk q2
  have r3 := hd pins σ H s1 ps I hP C code bi A' v u s2 m2 _ g1 g2 g3 ru hn hm2 hk q3
  obtain ⟨mb, S⟩ := stands_later I hP hk
  intro t1 k1 E Q w
  refine wpAny_Call_Name_kw (reGlob (R := fun y => y = .ref f) h1 h2 (by show s2.heap.Ns X.env.globals X.mg; rw [I.ok.glob]; exact S.glob) T.gl rfl (by decide) t1 k1 E _ fun y t2 k2 ey => ?_)
  subst ey
  have hsy := hs2 (genEnv scope (cloFrom X.env.cells scope.names []) C code bi X.env)
  have hsx := hs (genEnv scope (cloFrom X.env.cells scope.names []) C code bi X.env)
  refine PySem.W.callWith_K (h₀ := X.base) I.mod.kin kp ?_ (by rw [hsx, hsy]) (by rw [hsy]; rfl)
  · rw [hsx]
    refine Calls.spliced_cons (r1 t2 (kpTrans k1 k2) E _ fun y1 t3 k3 ⟨z1, e1', ez1⟩ => ?_)
    subst ez1
    obtain ⟨w1, rfl⟩ := e1'
    refine Calls.spliced_cons (r2 t3 (kpTrans k1 (kpTrans k2 k3)) E _ fun y2 t4 k4 ⟨z2, e2', ez2⟩ => ?_)
    subst ez2
    obtain ⟨w2, rfl⟩ := e2'
    refine Calls.spliced_cons (r3 t4 (kpTrans k1 (kpTrans k2 (kpTrans k3 k4))) E _ fun y3 t5 k5 ⟨z3, e3', ez3⟩ => ?_)
    subst ez3
    obtain ⟨w3, rfl⟩ := e3'
    refine Calls.spliced_nil ?_
    have k25 : Keeps t1 t5 := kpTrans k2 (kpTrans k3 (kpTrans k4 k5))
    have S5 := S.keeps (kpGet (kpTrans k1 k25))
    refine ⟨S5.kin, isin_raw T S5 g1 (by have := hr.dp; omega) fun s' k6 => w _ _ (kpTrans k25 k6) ⟨V.bl _, rfl, q⟩⟩
end
/-! ### the generator made, and what it gives -/
theorem gx_code {M : Model} {A : Around} {E : Value → Shared → Prop} {env : Env} {pos : Pos} {qn : Str} {scope : Scope} {s2 : Shared} {c P : Addr} {ps : Array Value} {Q : Value → Shared → Prop} (hcode : env.code = .ref c) (cd : PySem.W.CodeHd s2.heap c P)
    (hP2 : s2.heap.get? P = some { cls := .none, data := .fields ps }) (ht : TriplesOk ps.toList)
    (h : ∀ (code : Value) (h3 : Heap) (tk : Nat) (more : Array Value), Heap.ExtBut P s2.heap h3 → s2.heap.objs.size ≤ h3.objs.size → h3.get? P = some { cls := .none, data := .fields (ps ++ more) } → TriplesOk (ps ++ more).toList → Q code { s2 with heap := h3, toks := tk }) :
    wpAny M A (genexprCode env pos qn scope) Q E s2 := by
  cases hf : codeAmong pos ps.toList with
  | none =>
    refine wpAny_genexprCodeX hcode (cd.code hP2 ht) (cd.tab hP2) hf fun c' h' tk hx hge hlt hco' _ htab' _ => ?_
    obtain ⟨o1, vs, f1, tf, fl, tg, inF, tx, tt, op, _, _, _, _, _, _, _, _, _, htr, _⟩ := hco'
    exact h _ h' tk _ hx (Nat.le_trans hge (Nat.le_of_lt hlt)) htab'.2 htr
  | some cv =>
    refine wpAny_genexprCode_hit hcode (cd.code hP2 ht) hf ?_
    exact h cv s2.heap s2.toks #[] (Heap.ExtBut.refl _ _) (Nat.le_refl _) (by simpa using hP2) (by simpa using ht)
section
variable {X : Cx} {pins : List (Addr × Obj)} {σ : L2.St} {H : Hp} {s : Shared}
theorem gen_any {c P : Addr} {elt iter : Expr} {x : Str} {px gpos : Pos} {scope : Scope} {ts : TSrc} {te : TEl} {k : Nat} {n : Nat → Value → Prop} {Q' : Value → Shared → Prop} {Z : List V → Hp → Prop} {R : List V → (Nat → V → Prop) → Hp → Prop}
    (hr : Room k X.A) (TB : GxR.TabB X.base X.mg c P) (hcode : X.env.code = .ref c) (hS : genB X.env.scope scope x = true) (hi : GSrc X iter ts) (hel : ElOk X P scope x elt te) (hs : ∀ v, genFold iter X.env v = pure v) (I : Inv X pins σ H s)
    (h : ts σ H Z) (hZ : ∀ vs H1, Z vs H1 → GxR.TabG H1 P ∧ ∃ F : Nat → V → Prop, (∀ i v, vs[i]? = some v → te σ H1 v (F i)) ∧ R vs F H1)
    (hQ : ∀ vs F H1 g s5 fp wr G W, R vs F H1 → WalksS X.prog X.w X.A.in1 g fp wr G vs.length (fun i u => ∃ z, RelV z u ∧ F i z) W → W 0 s5 → (∀ b ∈ fp, b < s5.heap.objs.size) → (∀ s', Moved wr G s5 s' → ∃ H2, GxR.Tabbed P H1 H2 ∧ Inv X pins σ H2 s') → Q' (.ref g) s5) :
    wpAny (model X.prog X.w) X.A (eval (.GeneratorExp elt [⟨.Name x px, iter, [], 0⟩] scope gpos) X.env) Q' X.xe s := by
  have S := genS_of I.ok hS
  refine wpAny_GeneratorExp_walksQD hr.hd S.co (closure_ok S.free) S.cell S.dot S.loc S.kind (by have := hr.dp; omega) ?_ hs
  refine thn (hi.run pins s σ H _ I h) fun xv s1 ⟨vs, H1, I1, ⟨o, fp, W, hit, hW, w0, hfp⟩, hz⟩ => ?_
  obtain ⟨⟨ps, hP, ht⟩, F, hF, q1⟩ := hZ vs H1 hz
  refine hit _ _ ?_
  have hPs : s1.heap.get? P = some { cls := .none, data := .fields ps } := I1.hok P _ hP
  have hPlt : P < s1.heap.objs.size := Heap.lt_size hPs
  have hP2 : (s1.heap.push o).get? P = some { cls := .none, data := .fields ps } := Heap.get?_push_of_some _ hPs
  have hcd : PySem.W.CodeHd (s1.heap.push o) c P := TB.code.keeps fun b u e => Heap.get?_push_of_some _ (I1.bk b u e)
  have lim2 : (s1.heap.push o).NoLimit := I1.nolimit.push o
  have hst : cStatics ≠ P := fun e => by
    obtain ⟨_, hns, _⟩ := I1.nolimit
    obtain ⟨o', es, ep, ho, hd, _⟩ := hns
    rw [e, hPs] at ho
    cases ho
    cases hd
  have hsl : cStatics < s1.heap.objs.size := by
    obtain ⟨_, hns, _⟩ := I1.nolimit
    exact hns.lt
  have hfpP : ∀ b ∈ fp, b ≠ P := fun b hb e => by
    rcases hfp b hb with z | ⟨ob, z1, z2⟩
    · rw [← e, z] at hPlt
      exact Nat.lt_irrefl _ hPlt
    · rw [e, hPs] at z1
      cases z1
      cases z2
  have hfpl : ∀ b ∈ fp, b < s1.heap.objs.size + 1 := fun b hb => by
    rcases hfp b hb with z | ⟨ob, z1, z2⟩
    · rw [z]
      exact Nat.lt_succ_self _
    · exact Nat.lt_succ_of_lt (Heap.lt_size z1)
  have sz2 : (s1.heap.push o).objs.size = s1.heap.objs.size + 1 := Heap.size_push ..
  obtain ⟨bm, ob, b1, b2, b3, b4, b5, b6, b7, b8⟩ := TB.bm
  refine ⟨lim2, gx_code (s2 := { s1 with heap := s1.heap.push o }) hcode hcd hP2 ht fun code h3 tk more hx hsz hP3 ht3 => ?_⟩
  have keep3 : ∀ b u, b ≠ P → s1.heap.get? b = some u → h3.get? b = some u := fun b u hb e => hx b u hb (Heap.get?_push_of_some _ e)
  have sz3 : s1.heap.objs.size + 1 ≤ h3.objs.size := by rw [← sz2]; exact hsz
  refine wpAny_builtinsFor (m := X.mg) (by rw [I1.ok.glob]; exact ((I1.mod.glob.keeps I1.bk).push o).extBut hx TB.gP) b1 b2 (keep3 _ _ b4 (I1.bk _ _ b5)) b6 b7 b8 ?_
  have hwf : ∀ b ∈ fp, ∀ u, (s1.heap.push o).get? b = some u → h3.get? b = some u := fun b hb u e => hx b u (hfpP b hb) e
  refine ⟨s1.heap.objs.size, fp, [s1.heap.objs.size], vs.length, fun i u => ∃ v, vs[i]? = some v ∧ RelV v u, W, fun _ => true, fun i u => ∃ z, RelV z u ∧ F i z, rfl, hW, (hW X.A hr.hd).frame _ _ _ w0 hwf, fun b hb => Nat.lt_of_lt_of_le (hfpl b hb) sz3, lim2.extBut hx hst, fun z => ?_, fun href hhref => ⟨?_, ?_⟩, ?_⟩
  · exact Nat.ne_of_lt hsl (List.mem_singleton.mp z)
  · intro A' E' i v s2 m2 hA hD hU hv hn hm hk
    simp only [List.forIn_nil]
    exact wpAny_pure ⟨rfl, kpRefl _⟩
  · intro A' E' i u s2 m2 hA hD hU ⟨v, hv, rv⟩ _ hn hm hk
    refine hel pins σ H1 s1 ps I1 hP _ code builtinsNs A' v u s2 m2 (F i) hA hD hU rv hn hm (fun b ob hb e => ?_) (hF i v hv) s2 (kpRefl _) E' _ fun y s3 k3 r => ⟨r, k3⟩
    have e3 := keep3 b ob hb e
    refine hk b (List.mem_range.mpr (Heap.lt_size e3)) (fun z => ?_) ob (hhref b ob e3)
    have hl := Heap.lt_size e
    rw [List.mem_singleton.mp z] at hl
    exact Nat.lt_irrefl _ hl
  · intro g h5 tk5 gs hgb hag hsz5 hk5 W5 hat
    simp only [GxR.passing_true, List.length_range] at W5
    refine hQ vs F H1 g _ _ _ _ _ q1 (PySem.WalksS.imp W5.in4_1 fun j y hj => ?_) hat (fun b hb => ?_) fun s' hm => ?_
    · obtain ⟨i, hi, q⟩ := hj
      obtain ⟨hl, e⟩ := List.getElem?_eq_some_iff.mp hi
      rw [List.getElem_range] at e
      rw [e]
      exact q
    · show b < h5.objs.size
      rw [hsz5]
      rcases List.mem_cons.mp hb with e | hb
      · rw [e]; exact Nat.lt_succ_self _
      · rcases List.mem_cons.mp hb with e | hb
        · rw [e]; exact Nat.lt_succ_of_lt hag
        · exact Nat.lt_succ_of_lt (Nat.lt_trans (List.mem_range.mp hb) hag)
    · have nwr : ∀ b u, s1.heap.get? b = some u → b ∉ h3.objs.size :: [s1.heap.objs.size] := fun b u e hb => by
        have hl := Heap.lt_size e
        rcases List.mem_cons.mp hb with z | z
        · rw [z] at hl
          exact Nat.lt_irrefl _ (Nat.lt_of_lt_of_le hl (Nat.le_trans (Nat.le_succ _) sz3))
        · rw [List.mem_singleton.mp z] at hl
          exact Nat.lt_irrefl _ hl
      have J := GxR.inv_tab (more := more) (h' := s'.heap) (g' := s'.gens) (d' := s'.drawn) (t' := s'.toks) I1 hP (fun b u hb e => hm.heap b u (nwr b u e) (hk5 b u (keep3 b u hb e)))
        (hm.heap P _ (nwr P _ hPs) (hk5 P _ hP3)) (AllBare.movedS (I1.bare.push hgb) hm)
      rw [GxR.sh_eta s1 s' hm.os] at J
      exact ⟨upd H1 P (.tbl (ps ++ more)), ⟨⟨ps ++ more, upd_same, ht3⟩, fun b hb => upd_ne hb⟩, J⟩
end
end T27
end
section
set_option Elab.async false
set_option linter.all false
set_option maxRecDepth 100000
set_option maxHeartbeats 4000000
namespace T27
open PySem PySem.Spec PyProof.Rows L2
section
variable {X : Cx} {c P : Addr} {elt iter : Expr} {x : Str} {px p gpos pos : Pos} {scope : Scope} {ts : TSrc} {te : TEl} {k : Nat}
/-- all(elt for x in iter): behind it the def's table may have grown -/
def tAllG (P : Addr) (ts : TSrc) (te : TEl) : TE := fun σ H Q => ts σ H fun (vs : List V) H1 => GxR.TabG H1 P ∧ ∃ bs : List Bool, bs.length = vs.length ∧ (∀ (i : Nat) (v : V) (b : Bool), vs[i]? = some v → bs[i]? = some b → te σ H1 v (fun z => z = .bl b)) ∧ ∀ H2, GxR.Tabbed P H1 H2 → Q (.bl (bs.all id)) H2
/-- sum(elt for x in iter), ints of one word -/
def tSumG (P : Addr) (ts : TSrc) (te : TEl) : TE := fun σ H Q => ts σ H fun (vs : List V) H1 => GxR.TabG H1 P ∧ ∃ ns : List Int, ns.length = vs.length ∧ PyProof.Rows.SumFits ns ∧ (∀ (i : Nat) (v : V) (n : Int), vs[i]? = some v → ns[i]? = some n → te σ H1 v (fun z => z = .int n)) ∧ ∀ H2, GxR.Tabbed P H1 H2 → Q (.int ns.sum) H2
theorem pe_allG (hr : Room k X.A) (hg : Gl X "all") (hm : X.mg "all" = none) (TB : GxR.TabB X.base X.mg c P) (hcode : X.env.code = .ref c) (hS : genB X.env.scope scope x = true) (hi : GSrc X iter ts) (hel : ElOk X P scope x elt te) (hs : ∀ v, genFold iter X.env v = pure v)
    (he : starEach [.GeneratorExp elt [⟨.Name x px, iter, [], 0⟩] scope gpos] X.env = (false, eval (.GeneratorExp elt [⟨.Name x px, iter, [], 0⟩] scope gpos) X.env) :: starEach [] X.env := by rfl) :
    PE X (.Call (.Name "all" p) [.GeneratorExp elt [⟨.Name x px, iter, [], 0⟩] scope gpos] [] pos) (tAllG P ts te) := by
  refine ⟨fun pins s σ H Q I h => ?_⟩
  refine wpAny_Call_Name_kw (ld_blt I hg hm (by decide +kernel : bootBuiltins "all" = some (.builtin "all")) ?_)
  refine PyProof.Rows.callWith_builtin1 ?_ he (by rfl)
  rw [he]
  show wpAny _ _ (spliced ((false, eval (.GeneratorExp elt [⟨.Name x px, iter, [], 0⟩] scope gpos) X.env) :: backTo pos (starEach [] X.env))) _ _ s
  refine Calls.spliced_cons (gen_any (n := fun _ _ => True) (R := fun vs F H1 => ∃ bs : List Bool, bs.length = vs.length ∧ F = (fun i z => ∃ b, bs[i]? = some b ∧ z = V.bl b) ∧ ∀ H2, GxR.Tabbed P H1 H2 → Q (.bl (bs.all id)) H2) hr TB hcode hS hi hel hs I h ?_ ?_)
  · rintro vs H1 ⟨hT, bs, hl, hb, hq⟩
    refine ⟨hT, _, fun i v hv => ?_, bs, hl, rfl, hq⟩
    have hi : i < bs.length := by rw [hl]; exact (List.getElem?_eq_some_iff.mp hv).1
    have z := hb i v _ hv (List.getElem?_eq_getElem hi)
    have e : (fun z : V => ∃ b, bs[i]? = some b ∧ z = V.bl b) = fun z => z = V.bl bs[i] := by
      funext z
      rw [List.getElem?_eq_getElem hi]
      simp
    show te σ H1 v (fun z : V => ∃ b, bs[i]? = some b ∧ z = V.bl b)
    rw [e]
    exact z
  · rintro vs F H1 g s5 fp wr G W ⟨bs, hl, rfl, hq⟩ hW w0 _ hI
    refine Calls.spliced_nil ?_
    refine call_all_walkS (hW.self 0 _ _ _ w0 ⟨g, fp, wr, G, _, _, W, fun i => bs.getD i false, rfl, hW, w0, ?_, fun s' hmv => ?_⟩)
    · intro i v s1 Q1 E1 hz hq1
      obtain ⟨z, rz, b, hb, ez⟩ := hz
      subst ez
      obtain rfl : v = Value.bool b := rz
      refine wpAny_truthy_bool ?_
      have hq2 : Q1 (bs.getD i false) s1 := hq1
      rw [List.getD_eq_getElem?_getD, hb] at hq2
      exact hq2
    · obtain ⟨H2, hT, J⟩ := hI s' hmv
      refine ⟨.bl _, H2, J, rfl, ?_⟩
      rw [← hl, L2.all_range]
      exact hq H2 hT
theorem pe_sumG (hr : Room k X.A) (hg : Gl X "sum") (hm : X.mg "sum" = none) (TB : GxR.TabB X.base X.mg c P) (hcode : X.env.code = .ref c) (hS : genB X.env.scope scope x = true) (hi : GSrc X iter ts) (hel : ElOk X P scope x elt te) (hs : ∀ v, genFold iter X.env v = pure v)
    (he : starEach [.GeneratorExp elt [⟨.Name x px, iter, [], 0⟩] scope gpos] X.env = (false, eval (.GeneratorExp elt [⟨.Name x px, iter, [], 0⟩] scope gpos) X.env) :: starEach [] X.env := by rfl) :
    PE X (.Call (.Name "sum" p) [.GeneratorExp elt [⟨.Name x px, iter, [], 0⟩] scope gpos] [] pos) (tSumG P ts te) := by
  refine ⟨fun pins s σ H Q I h => ?_⟩
  refine wpAny_Call_Name_kw (ld_blt I hg hm (by decide +kernel : bootBuiltins "sum" = some (.builtin "sum")) ?_)
  refine PyProof.Rows.callWith_builtin1 ?_ he (by rfl)
  rw [he]
  show wpAny _ _ (spliced ((false, eval (.GeneratorExp elt [⟨.Name x px, iter, [], 0⟩] scope gpos) X.env) :: backTo pos (starEach [] X.env))) _ _ s
  refine Calls.spliced_cons (gen_any (n := fun _ _ => True) (R := fun vs F H1 => ∃ ns : List Int, ns.length = vs.length ∧ PyProof.Rows.SumFits ns ∧ F = (fun i z => ∃ b, ns[i]? = some b ∧ z = V.int b) ∧ ∀ H2, GxR.Tabbed P H1 H2 → Q (.int ns.sum) H2) hr TB hcode hS hi hel hs I h ?_ ?_)
  · rintro vs H1 ⟨hT, ns, hl, hf, hb, hq⟩
    refine ⟨hT, _, fun i v hv => ?_, ns, hl, hf, rfl, hq⟩
    have hi : i < ns.length := by rw [hl]; exact (List.getElem?_eq_some_iff.mp hv).1
    have z := hb i v _ hv (List.getElem?_eq_getElem hi)
    have e : (fun z : V => ∃ b, ns[i]? = some b ∧ z = V.int b) = fun z => z = V.int ns[i] := by
      funext z
      rw [List.getElem?_eq_getElem hi]
      simp
    show te σ H1 v (fun z : V => ∃ b, ns[i]? = some b ∧ z = V.int b)
    rw [e]
    exact z
  · rintro vs F H1 g s5 fp wr G W ⟨ns, hl, hf, rfl, hq⟩ hW w0 hfp hI
    refine Calls.spliced_nil ?_
    refine call_sum_walkS (hW.self 0 _ _ _ w0 ⟨g, fp, wr, G, _, _, W, fun i => ns.getD i 0, rfl, hW, w0, hfp, ?_, fun j hj => ?_, fun s' t' hmv => ?_⟩)
    · intro i v ⟨z, rz, n, hn, ez⟩
      subst ez
      obtain ⟨t, rfl⟩ := rz
      refine ⟨t, ?_⟩
      show Value.int n t = Value.int (ns.getD i 0) t
      rw [List.getD_eq_getElem?_getD, hn]
      rfl
    · rw [PyProof.Rows.preSum_getD]
      exact hf j (by rw [hl]; exact hj)
    · obtain ⟨H2, hT, J⟩ := hI s' hmv
      refine ⟨.int _, H2, J, ⟨t', rfl⟩, ?_⟩
      rw [PyProof.Rows.preSum_getD, List.take_of_length_le (Nat.le_of_eq hl)]
      exact hq H2 hT
end
end T27
end
section
set_option Elab.async false
set_option linter.all false
set_option maxRecDepth 100000
set_option maxHeartbeats 4000000
namespace T27
open PySem PySem.Spec PyProof.Rows L2
/-! ### sorted of a list of tuples of ints, any length: some arrangement -/
def intO : KeyOrd where
  α := Int
  blt a b := decide (a < b)
  irrefl a := by simp
  trans a b c h1 h2 := by simp only [decide_eq_true_eq] at *; omega
  negTrans a b c h := by simp only [decide_eq_true_eq] at *; omega
  total a b h1 h2 := by simp only [decide_eq_false_iff_not] at *; omega
theorem lex_ht : ∀ a b : List Int, PyProof.Rows.lexLt intO a b = HT.lexLt a b
  | [], [] => rfl
  | [], _ :: _ => rfl
  | _ :: _, [] => rfl
  | x :: r, y :: t => by
    have ih := lex_ht r t
    show (decide (x < y) || (!decide (y < x) && PyProof.Rows.lexLt intO r t)) = if x = y then HT.lexLt r t else decide (x < y)
    rw [ih]
    by_cases e : x = y
    · subst e
      simp
    · rw [if_neg e]
      by_cases h : x < y
      · simp [h]
      · have h2 : y < x := by omega
        simp [h, h2]
theorem ints_one : ∀ {vs : List Value} {a b : List Int}, IntsAre vs a → IntsAre vs b → a = b
  | [], _, _, .nil, .nil => rfl
  | _ :: _, _, _, .cons n t h1, h2 => by
    cases h2 with
    | cons n' t' h2 => rw [ints_one h1 h2]
def TupIs (h : Heap) (v : Value) (ns : List Int) : Prop := ∃ (l : Addr) (its : Array Value), v = .ref l ∧ IsTup h l its ∧ IntsAre its.toList ns
theorem TupIs.one {h : Heap} {v : Value} {a b : List Int} (x : TupIs h v a) (y : TupIs h v b) : a = b := by
  obtain ⟨l, its, rfl, ⟨o, e, _, n, d⟩, i1⟩ := x
  obtain ⟨l', its', e2, ⟨o', e', _, n', d'⟩, i2⟩ := y
  cases e2
  rw [e] at e'
  cases e'
  rw [d] at d'
  cases d'
  exact ints_one i1 i2
noncomputable def tupKind (h : Heap) : PyProof.Rows.KeyKind where
  toKeyOrd := PyProof.Rows.listOrd intO
  keyOf v := open Classical in if q : ∃ ns, TupIs h v ns then some q.choose else none
  dflt := ([] : List Int)
theorem tupKind_some {h : Heap} {v : Value} {ns : List Int} (x : TupIs h v ns) : (tupKind h).keyOf v = some ns := by
  have q : ∃ ns, TupIs h v ns := ⟨ns, x⟩
  show (open Classical in if q : ∃ ns, TupIs h v ns then some q.choose else none) = _
  rw [dif_pos q, q.choose_spec.one x]
theorem tupKind_inv {h : Heap} {v : Value} {ns : List Int} (e : (tupKind h).keyOf v = some ns) : TupIs h v ns := by
  by_cases q : ∃ ns, TupIs h v ns
  · rw [tupKind_some q.choose_spec] at e
    cases e
    exact q.choose_spec
  · have e' : (tupKind h).keyOf v = none := by
      show (open Classical in if q : ∃ ns, TupIs h v ns then some q.choose else none) = _
      rw [dif_neg q]
      rfl
    rw [e'] at e
    cases e
section
variable {prog : Program} {w : World} {A : Around} {E : Value → Shared → Prop} {s : Shared} {M : Model}
theorem tup_less {x y : Value} {a b : List Int} {Q : Bool → Shared → Prop} (hx : TupIs s.heap x a) (hy : TupIs s.heap y b) (hu : A.units < cLine) (hq : Q (HT.lexLt a b) s) : wpAny (model prog w) A (oneLt' true x y) Q E s := by
  obtain ⟨l, its, rfl, hl, i1⟩ := hx
  obtain ⟨l2, its2, rfl, hb, i2⟩ := hy
  obtain ⟨⟨cls, dd, data, sl⟩, ho, hc, n, hd⟩ := id hl
  obtain ⟨⟨cls2, dd2, data2, sl2⟩, ho2, hc2, n2, hd2⟩ := id hb
  simp only at hc hd hc2 hd2
  subst hc hd hc2 hd2
  rw [oneLt'_eq]
  simp only [if_true]
  refine wpAny_bind (wpAny_cRoomFor hu ?_)
  refine wpAny_bind (wpAny_callSpecialIfBound?_slot (T := "tuple") ⟨_, ho, rfl⟩ PySem.F.slot_tuple_lt (call_meets PySem.F.slot_tuple_lt ⟨_, ho, rfl⟩ PySem.F.entry_tuple_lt (PySem.F.args_tuple_lt_2 _ _) (HT.tuple_lt_ints l l2 its its2 n n2 dd dd2 sl sl2 a b i1 i2) ⟨ho, ho2, ?_⟩))
  exact wpAny_truthy_bool hq
theorem firsts_tups : ∀ (vs : List Value) (L : List (Array Value)) {Q : List (Option Value) → Shared → Prop}, Paired (fun v (its : Array Value) => ∃ a, v = Value.ref a ∧ IsTup s.heap a its) vs L → Q (L.map fun its => its[0]?) s → wpAny M A (vs.mapM firstOfTuple') Q E s
  | _, _, Q, .nil, h => by rw [List.mapM_nil]; exact wpAny_pure h
  | _, _, Q, .cons (a := v) (b := its) (l₁ := vs) (l₂ := L) r t, h => by
    obtain ⟨a, rfl, o, ho, hc, n, hd⟩ := r
    rw [List.mapM_cons]
    refine wpAny_bind ?_
    rw [PySem.W.kas_first_eq]
    refine wpAny_bind (PySem.W.Looks.here (show PySem.W.Looks M s.heap (typeOf (.ref a)) o.cls from (PySem.W.Looks.ld ho).andThen .now) ?_)
    rw [hc, if_neg (by first | decide | simp)]
    refine wpAny_bind (listItems_at ho hd (wpAny_pure ?_))
    exact wpAny_bind (firsts_tups vs L (Q := fun bs s' => wpAny M A (pure (its[0]? :: bs)) Q E s') t (wpAny_pure h))
theorem kind_tups {vs : List Value} {L : List (Array Value)} {Q : SortKind → Shared → Prop} (t : Paired (fun v (its : Array Value) => ∃ a, v = Value.ref a ∧ IsTup s.heap a its) vs L) (h0 : ∃ r, L = #[] :: r) (h : Q oneType' s) : wpAny M A (keyKind' vs.toArray) Q E s := by
  obtain ⟨r, rfl⟩ := h0
  have ty : ∀ v ∈ vs, ∀ (Q' : Value → Shared → Prop), Q' (.type "tuple") s → wpAny M A (typeOf v) Q' E s := by
    have key : ∀ {vs : List Value} {L : List (Array Value)}, Paired (fun v (its : Array Value) => ∃ a, v = Value.ref a ∧ IsTup s.heap a its) vs L → ∀ v ∈ vs, ∀ (Q' : Value → Shared → Prop), Q' (.type "tuple") s → wpAny M A (typeOf v) Q' E s := by
      intro vs L t
      induction t with
      | nil => intro v hv; cases hv
      | cons r t ih =>
        intro v hv Q' q
        rcases List.mem_cons.mp hv with e | hv
        · subst e
          obtain ⟨a, rfl, o, ho, hc, n, hd⟩ := r
          exact PySem.W.Looks.here (show PySem.W.Looks M s.heap (typeOf (.ref a)) (.type "tuple") from hc ▸ (PySem.W.Looks.ld ho).andThen .now) q
        · exact ih v hv Q' q
    exact key t
  rw [keyKind'_eq, List.mapM_toArray, map_eq_pure_bind]
  refine wpAny_bind (wpAny_bind (firsts_tups vs _ t (wpAny_pure ?_)))
  rw [if_neg (by simp), if_neg (by simp)]
  rw [oneTypeOnly'_eq, List.mapM_toArray, map_eq_pure_bind]
  refine wpAny_bind (wpAny_bind (wpAny_bind (PySem.W.kas_mapM (r := Value.type "tuple") _ (fun v hv Q' hq => ty v hv Q' hq) (wpAny_pure ?_))))
  have hl : 0 < vs.length := by rw [Paired.length t]; simp
  obtain ⟨v0, vr, rfl⟩ : ∃ v0 vr, vs = v0 :: vr := by
    cases vs with
    | nil => exact absurd hl (by simp)
    | cons a b => exact ⟨a, b, rfl⟩
  have hall : ((List.map (fun _ => Value.type "tuple") (v0 :: vr)).toArray.all fun x => x == Value.type "tuple") = true := by
    simp only [List.all_toArray, List.all_map, List.all_eq_true]
    intro _ _
    rfl
  have h0 : (List.map (fun _ => Value.type "tuple") (v0 :: vr)).toArray[0]? = some (Value.type "tuple") := by simp
  rw [h0]
  simp only [hall, if_true]
  exact wpAny_pure (wpAny_pure h)
end
theorem vals_perm {out vs : List Value} (p : out.Perm vs) : ∀ {xs : List V}, Vals xs vs → ∃ ys : List V, ys.Perm xs ∧ Vals ys out := by
  induction p with
  | nil => intro xs r; exact ⟨xs, .refl _, r⟩
  | cons x p ih =>
    intro xs r
    cases r with
    | cons r1 r2 =>
      obtain ⟨ys, h1, h2⟩ := ih r2
      exact ⟨_ :: ys, h1.cons _, .cons r1 h2⟩
  | swap x y l =>
    intro xs r
    cases r with
    | cons r1 r2 =>
      cases r2 with
      | cons r2 r3 => exact ⟨_, List.Perm.swap _ _ _, .cons r2 (.cons r1 r3)⟩
  | trans p1 p2 ih1 ih2 =>
    intro xs r
    obtain ⟨ys, h1, h2⟩ := ih2 r
    obtain ⟨zs, h3, h4⟩ := ih1 h2
    exact ⟨zs, h3.trans h1, h4⟩
theorem sortVals_perm {κ : PyProof.Rows.KeyKind} {vs : List Value} : (PySem.W.sortVals κ false vs vs).Perm vs := by
  unfold PySem.W.sortVals
  have z := (List.mergeSort_perm (vs.zip vs) (PySem.W.sortLe κ.toKeyOrd false fun p : Keyed => PySem.W.keyD κ p.1)).map Prod.snd
  rw [List.map_snd_zip (Nat.le_refl _)] at z
  exact z
/-- a list of tuples of ints, as it is tracked -/
def TupsAt (H : Hp) (xs : List V) (L : List (List Int)) : Prop := Paired (fun x l => ∃ t, x = V.ref t ∧ H t = some (.tup (l.map V.int))) xs L
def rSortTup (K : PySem.W.Frag) : List V → Hp → VK → Prop := fun vs H Q => ∃ (a : Addr) (xs : List V) (L : List (List Int)), vs = [V.ref a] ∧ SqL K H a xs ∧ TupsAt H xs L ∧ ((∀ l ∈ L, l ≠ []) ∨ ∃ r, L = [] :: r) ∧
  ∀ (ys : List V) (p : Addr), ys.Perm xs → H p = none → Q (.ref p) (upd H p (.lst ys))
section
variable {X : Cx} {pins : List (Addr × Obj)} {σ : L2.St} {H : Hp} {s : Shared}
theorem tups_read (I : Inv X pins σ H s) : ∀ {xs : List V} {us : List Value} {L : List (List Int)}, Vals xs us → TupsAt H xs L → Paired (fun u l => TupIs s.heap u l) us L
  | _, _, _, .nil, .nil => .nil
  | _, _, _, .cons r rs, .cons ⟨t, ex, ht⟩ ts => by
    subst ex
    obtain rfl := r
    obtain ⟨its, rv, p, _⟩ := I.tuple (.inl (.inl ht))
    exact .cons ⟨t, its.toArray, rfl, p, by simpa using rv.ints⟩ (tups_read I rs ts)
theorem tupIs_reads {h : Heap} {v : Value} {l : List Int} (x : TupIs h v l) : ∃ as, Reads h v (.tuple (l.map PyData.int)) as := by
  obtain ⟨a, its, rfl, ⟨o, ho, hc, n, hd⟩, hi⟩ := x
  have key : ∀ {us : List Value} {ns : List Int}, IntsAre us ns → ∃ as, ReadsAll h us (ns.map PyData.int) as := by
    intro us ns hi
    induction hi with
    | nil => exact ⟨_, .nil⟩
    | cons n t _ ih =>
      obtain ⟨as, r⟩ := ih
      exact ⟨_, .cons (.int n t) r⟩
  obtain ⟨as, r⟩ := key hi
  exact ⟨_, .tuple ho hc hd r⟩
theorem paired_left {α β : Type} {F : α → β → Prop} {l₁ : List α} {l₂ : List β} (p : Paired F l₁ l₂) : ∀ a ∈ l₁, ∃ b, F a b := by
  induction p with
  | nil => intro a h; cases h
  | cons r _ ih =>
    intro a h
    rcases List.mem_cons.mp h with e | h
    · exact e ▸ ⟨_, r⟩
    · exact ih a h
theorem tups_arrays {h : Heap} {us : List Value} {L : List (List Int)} (p : Paired (fun u l => TupIs h u l) us L) : ∃ IL, Paired (fun v (its : Array Value) => ∃ a, v = Value.ref a ∧ IsTup h a its) us IL := by
  induction p with
  | nil => exact ⟨_, .nil⟩
  | cons r _ ih =>
    obtain ⟨IL, q⟩ := ih
    obtain ⟨b, is, e1, e2, _⟩ := r
    exact ⟨_, .cons ⟨b, e1, e2⟩ q⟩
theorem cr_sortTup (hu : X.A.units + 64 < cLine) : CallR X (.builtin "sorted") (rSortTup X.K) := by
  intro pins s σ H vs us Q I r h
  obtain ⟨a, xs, L, rfl, hs, hT, hk, q⟩ := h
  obtain ⟨its, rv, hl, hz⟩ := I.list hs
  rw [Vals.ref1 r]
  have hR := tups_read I rv hT
  have hlen := rv.length
  have fin : ∀ κ : PyProof.Rows.KeyKind, EP X pins σ Q (.ref (s.heap.objs.size + 1)) { s with heap := sortedAll s.heap its (PySem.W.sortVals κ false its its).toArray } := fun κ => by
    obtain ⟨ys, p1, p2⟩ := vals_perm (sortVals_perm (κ := κ) (vs := its)) rv
    obtain ⟨ep, he⟩ := sortedAll_at s.heap its (PySem.W.sortVals κ false its its).toArray
    exact ⟨.ref _, upd H (s.heap.objs.size + 1) (.lst ys), I.laid (t' := s.toks) (fun _ _ => sortedAll_old) (Nat.le_succ _) ⟨by rw [p1.length_eq]; exact hz, _, ep, p2, he⟩, rfl, q ys _ p1 (I.hok.fresh (Nat.le_succ _))⟩
  have up : ∀ {v : Value} {l : List Int}, TupIs s.heap v l → TupIs (PySem.W.sortingHeap (PySem.W.copyHeap s.heap its) (s.heap.objs.size + 1) its) v l := fun {v l} ⟨b, is, e, ⟨o, ho, z⟩, hi⟩ => ⟨b, is, e, ⟨o, PySem.W.sorting_copy_old ho, z⟩, hi⟩
  rcases hk with hk | ⟨L', rfl⟩
  · have e : PySem.W.EachIs (fun v d => ∃ as, Reads (PySem.W.sortingHeap (PySem.W.copyHeap s.heap its) (s.heap.objs.size + 1) its) v d as) its (L.map fun l => PyData.tuple (l.map PyData.int)) := by
      clear fin hs hT hlen hl rv
      generalize PySem.W.sortingHeap (PySem.W.copyHeap s.heap its) (s.heap.objs.size + 1) its = hp at up
      clear hk
      induction hR with
      | nil => exact .nil
      | cons r _ ih => exact .cons (tupIs_reads (up r)) (ih)
    refine PySem.W.sorted_vals hl.isList (PySem.W.SortsAt.data (s := { s with heap := PySem.W.sortingHeap (PySem.W.copyHeap s.heap its) (s.heap.objs.size + 1) its }) e (PySem.W.AllAlike.of fun a b => ?_) (.inl fun d hd => ?_) (fun d hd => ?_)) (by rw [← hlen]; exact hz) (fin _)
    · simpa [PySem.W.alike] using PySem.W.alike_ints a b
    · obtain ⟨l, hl2, rfl⟩ := List.mem_map.mp hd
      have := hk l hl2
      cases l with
      | nil => exact absurd rfl this
      | cons x t => exact ⟨_, _, rfl⟩
    · obtain ⟨l, _, rfl⟩ := List.mem_map.mp hd
      have : PyData.depth (.tuple (l.map PyData.int)) = 1 := by
        simp only [PyData.depth]
        rw [PySem.W.depth_ints]
      rw [this]
      show X.A.units + 1 + 1 + 1 < cLine
      omega
  · refine PySem.W.sorted_vals (κ := tupKind (PySem.W.sortingHeap (PySem.W.copyHeap s.heap its) (s.heap.objs.size + 1) its)) hl.isList ⟨fun v hv => ?_, oneType', ?_, fun h2 E Q hq => ?_⟩ (by rw [← hlen]; exact hz) (fin _)
    · obtain ⟨l, e⟩ := paired_left hR v hv
      exact ⟨_, tupKind_some (up e)⟩
    · intro E x y k1 k2 Q h1 h2 hq
      rw [keyLt'_oneType]
      refine tup_less (tupKind_inv h1) (tupKind_inv h2) (by show X.A.units + 1 + 1 < cLine; omega) ?_
      exact (lex_ht (k1 : List Int) (k2 : List Int)) ▸ (show Q (PyProof.Rows.lexLt intO (k1 : List Int) (k2 : List Int)) _ from hq)
    · have hS : Paired (fun u l => TupIs (PySem.W.sortingHeap (PySem.W.copyHeap s.heap its) (s.heap.objs.size + 1) its) u l) its ([] :: L') := Paired.mapP hR fun _ _ => up
      cases hS with
      | cons r1 r2 =>
        obtain ⟨b, is, e1, e2, e3⟩ := r1
        obtain ⟨IL, p⟩ := tups_arrays r2
        have e4 : is = #[] := by
          have : is.toList = [] := by
            generalize is.toList = z at e3
            cases e3
            rfl
          exact Array.toList_eq_nil_iff.mp this
        subst e4
        exact kind_tups (s := { s with heap := _ }) (.cons ⟨b, e1, e2⟩ p) ⟨_, rfl⟩ hq
end
end T27
end
section
set_option Elab.async false
set_option linter.all false
set_option maxRecDepth 100000
set_option maxHeartbeats 4000000
namespace T27
open PySem PySem.Spec PyProof.Rows L2
/-! ### sorted of a tuple of ints -/
section
variable {prog : Program} {w : World} {A : Around} {E : Value → Shared → Prop} {s : Shared}
theorem sorted_ofTup {t : Addr} {o : Obj} {us : List Value} {is : List Int} {n : Nat} {R : Value → Shared → Prop} (e : s.heap.get? t = some o) (hc : o.cls = .type "tuple") (hd : o.data = .seq us.toArray n) (hi : IntsAre us is) (few : us.length < 64)
    (fin : ∀ (g : Heap) (out : Array Value) (js : List Int), (∀ b u, s.heap.get? b = some u → g.get? b = some u) → IntsAre out.toList js → js.Perm is → js.Pairwise (· ≤ ·) → R (.ref g.objs.size) { s with heap := sortedHeap (g.push (seqObj "list" us.toArray 0)) g.objs.size us out }) :
    wpAny (model prog w) A (call (.builtin "sorted") [.ref t]) R E s := by
  have hz : us.toArray.size ≤ sizeLine := by rw [List.size_toArray, sizeLine_eq]; omega
  refine Calls.call_function_entry kind_sorted plain_sorted entry_sorted (args_sorted1 _) ?_
  unfold Builtin.«sorted»
  refine wpAny_bind (m := checkCount "sorted" 1 1 _) (wpAny_pure (wpAny_bind (wpAny_collect_seq t (.inr rfl) e hc hd (fun g hk => ?_) hz)))
  show wpAny _ _ _ _ _ { s with heap := g }
  rw [show us.toArray.toList = us by simp]
  refine wpAny_bind (wpAny_newList ?_)
  have hL : (g.push (seqObj "list" us.toArray 0)).get? g.objs.size = some (seqObj "list" us.toArray 0) := Heap.get?_push_size _ rfl
  show wpAny _ _ _ _ _ { s with heap := g.push (seqObj "list" us.toArray 0) }
  exact wpAny_bind (wpAny_holding (wpAny_call_entry slot_list_sort ⟨_, hL, rfl⟩ entry_list_sort (list_sort_tree hL hi few fun out js a1 a2 a3 => ⟨_, rfl, wpAny_pure ⟨_, rfl, fin g out js hk a1 a2 a3⟩⟩) (args_list_sort _)))
end
/-- sorted(t), a tuple of ints, fewer than 64 -/
def rSortedIT (K : PySem.W.Frag) : List V → Hp → VK → Prop := fun vs H Q => ∃ (a : Addr) (ns : List Int), vs = [V.ref a] ∧ SqT K H a (ns.map V.int) ∧ ns.length < 64 ∧
  ∀ (js : List Int) (p : Addr), js.Perm ns → js.Pairwise (· ≤ ·) → H p = none → Q (.ref p) (upd H p (.lst (js.map V.int)))
theorem cr_sortedIT {X : Cx} : CallR X (.builtin "sorted") (rSortedIT X.K) := by
  intro pins s σ H vs us Q I r h
  obtain ⟨a, ns, rfl, hs, h64, q⟩ := h
  obtain ⟨its, rv, ⟨o, ho, hc, n, hd⟩, hz⟩ := I.tuple hs
  rw [Vals.ref1 r]
  have hi := rv.ints
  refine sorted_ofTup ho hc hd hi (by rw [hi.length]; exact h64) fun g out js hk h1 h2 h3 => ?_
  have I1 : Inv X pins σ H { s with heap := g } := I.kept (t' := s.toks) hk
  have hL : (g.push (seqObj "list" its.toArray 0)).get? g.objs.size = some (seqObj "list" its.toArray 0) := Heap.get?_push_size _ rfl
  obtain ⟨ep, he⟩ := sortedHeap_at (vs := its) (out := out) hL
  have hlen : (js.map V.int).length ≤ sizeLine := by rw [List.length_map, h2.length_eq, sizeLine_eq]; omega
  have keep : ∀ b u, g.get? b = some u → (sortedHeap (g.push (seqObj "list" its.toArray 0)) g.objs.size its out).get? b = some u := fun b u e => by
    have hlt := Heap.lt_size e
    rw [sortedHeap_old (Nat.ne_of_lt hlt) (by rw [size_push']; exact Nat.lt_succ_of_lt hlt)]
    exact Heap.get?_push_of_some _ e
  exact ⟨.ref _, upd H g.objs.size (.lst (js.map V.int)), I1.laid (t' := s.toks) keep (Nat.le_refl _) ⟨hlen, out.toList, ep, vals_of_ints h1, he⟩, rfl, q js _ h2 h3 (I1.hok.fresh (Nat.le_refl _))⟩
end T27
end
section
set_option Elab.async false
set_option linter.all false
set_option maxRecDepth 100000
set_option maxHeartbeats 4000000
namespace T27
open PySem PySem.Spec PyProof.Rows L2 M27
/-! ### values -/
abbrev ni (n : Nat) : V := .int (n : Int)
def nv (l : List Nat) : List V := l.map ni
theorem nv_get {l : List Nat} {i x : Nat} (h : l[i]? = some x) : (nv l)[i]? = some (ni x) := by unfold nv; rw [List.getElem?_map, h]; rfl
theorem nv_get' {l : List Nat} {i : Nat} {v : V} (h : (nv l)[i]? = some v) : ∃ x, l[i]? = some x ∧ v = ni x := by
  unfold nv at h
  rw [List.getElem?_map] at h
  cases e : l[i]? with
  | none => rw [e] at h; cases h
  | some x => rw [e] at h; exact ⟨x, rfl, (Option.some.inj h).symm⟩
theorem nv_len (l : List Nat) : (nv l).length = l.length := by unfold nv; simp
theorem nv_flat (l : List Nat) : (nv l).all flatV = true := by
  unfold nv
  rw [List.all_map, List.all_eq_true]
  intro x _
  rfl
theorem nv_ints (l : List Nat) : nv l = (l.map fun x : Nat => (x : Int)).map V.int := by unfold nv; rw [List.map_map]; rfl
theorem inV_nat (x : Nat) (l : List Nat) : inV (ni x) (nv l) = has x l := by
  unfold inV nv has
  rw [List.any_map]
  congr 1
  funext y
  show ((y : Int) == (x : Int)) = Nat.beq y x
  cases e : Nat.beq y x with
  | true => rw [Nat.eq_of_beq_eq_true e]; simp
  | false =>
    have : y ≠ x := fun q => by rw [q, Nat.beq_refl] at e; cases e
    simp; omega
/-! ### heaps: all but the code objects' tables stays -/
structure Kp (H H' : Hp) : Prop where
  get : ∀ b o, H b = some o → (∀ ps, o ≠ .tbl ps) → H' b = some o
  tab : ∀ P, GxR.TabG H P → GxR.TabG H' P
  free : ∀ b, H' b = none → H b = none
theorem Kp.refl (H : Hp) : Kp H H := ⟨fun _ _ h _ => h, fun _ h => h, fun _ h => h⟩
theorem Kp.trans {H H1 H2 : Hp} (a : Kp H H1) (b : Kp H1 H2) : Kp H H2 := ⟨fun x o h n => b.get x o (a.get x o h n) n, fun P h => b.tab P (a.tab P h), fun x h => a.free x (b.free x h)⟩
theorem Kp.of {H H' : Hp} (s : Same H H') : Kp H H' := ⟨fun b o h _ => s b o h, fun P ⟨ps, h, t⟩ => ⟨ps, s _ _ h, t⟩, fun b h => s.free h⟩
theorem Kp.new {H : Hp} {p : Addr} {o : HO} (h : H p = none) : Kp H (upd H p o) := .of fun b x e => by rw [upd_ne (ne_of_none e h)]; exact e
theorem Kp.tabbed {H H' : Hp} {P : Addr} (h : GxR.TabG H P) (t : GxR.Tabbed P H H') : Kp H H' := by
  obtain ⟨ps, hP, _⟩ := h
  obtain ⟨t1, t2⟩ := t
  refine ⟨fun b o e n => ?_, fun Q ⟨qs, e, r⟩ => ?_, fun b h => ?_⟩
  · rw [t2 b fun q => n ps (by rw [q, hP] at e; exact (Option.some.inj e).symm)]
    exact e
  · by_cases hq : Q = P
    · rw [hq]; exact t1
    · exact ⟨qs, by rw [t2 Q hq]; exact e, r⟩
  · by_cases hq : b = P
    · obtain ⟨qs, e, _⟩ := t1
      rw [hq, e] at h
      cases h
    · rw [← t2 b hq]; exact h
theorem Kp.tup {H H' : Hp} (k : Kp H H') {a : Addr} {xs : List V} (h : H a = some (.tup xs)) : H' a = some (.tup xs) := k.get _ _ h fun _ q => by cases q
theorem Kp.lst {H H' : Hp} (k : Kp H H') {a : Addr} {xs : List V} (h : H a = some (.lst xs)) : H' a = some (.lst xs) := k.get _ _ h fun _ q => by cases q
theorem Kp.seq {K : PySem.W.Frag} {H H' : Hp} {a : Addr} {xs : List V} (e : Kp H H') (h : SqL K H a xs) : SqL K H' a xs := by
  rcases h with (h | ⟨o, h⟩) | h
  · exact .inl (.inl (e.lst h))
  · exact .inl (.inr ⟨o, e.get _ _ h fun _ q => by cases q⟩)
  · exact .inr h
/-! ### tuples and lists of naturals, and lists of them -/
def TupN (H : Hp) (v : V) (l : List Nat) : Prop := ∃ t, v = .ref t ∧ H t = some (.tup (nv l))
def LstN (H : Hp) (v : V) (l : List Nat) : Prop := ∃ t, v = .ref t ∧ H t = some (.lst (nv l))
theorem TupN.kp {H H' : Hp} {v : V} {l : List Nat} (k : Kp H H') (h : TupN H v l) : TupN H' v l := by
  obtain ⟨t, e, h⟩ := h
  exact ⟨t, e, k.tup h⟩
theorem LstN.kp {H H' : Hp} {v : V} {l : List Nat} (k : Kp H H') (h : LstN H v l) : LstN H' v l := by
  obtain ⟨t, e, h⟩ := h
  exact ⟨t, e, k.lst h⟩
abbrev TupsN (H : Hp) (xs : List V) (L : List (List Nat)) : Prop := Paired (TupN H) xs L
abbrev LstsN (H : Hp) (xs : List V) (L : List (List Nat)) : Prop := Paired (LstN H) xs L
theorem TupsN.kp {H H' : Hp} {xs : List V} {L : List (List Nat)} (k : Kp H H') (h : TupsN H xs L) : TupsN H' xs L := Paired.mapP h fun _ _ => TupN.kp k
theorem LstsN.kp {H H' : Hp} {xs : List V} {L : List (List Nat)} (k : Kp H H') (h : LstsN H xs L) : LstsN H' xs L := Paired.mapP h fun _ _ => LstN.kp k
theorem paired_app {α β : Type} {F : α → β → Prop} {a c : List α} {b d : List β} (h : Paired F a b) (h' : Paired F c d) : Paired F (a ++ c) (b ++ d) := by
  induction h with
  | nil => exact h'
  | cons r _ ih => exact .cons r ih
theorem paired_get {α β : Type} {F : α → β → Prop} {a : List α} {b : List β} (h : Paired F a b) : ∀ {i : Nat} {x : α}, a[i]? = some x → ∃ y, b[i]? = some y ∧ F x y := by
  induction h with
  | nil => intro i x e; simp at e
  | cons r _ ih =>
    intro i x e
    cases i with
    | zero => exact ⟨_, rfl, by cases (show _ = x from Option.some.inj e); exact r⟩
    | succ i => exact ih (i := i) e
theorem paired_perm {α β : Type} {F : α → β → Prop} {c a : List α} (p : c.Perm a) : ∀ {b : List β}, Paired F a b → ∃ d : List β, d.Perm b ∧ Paired F c d := by
  induction p with
  | nil => intro b h; exact ⟨b, .refl _, h⟩
  | cons x p ih =>
    intro b h
    cases h with
    | cons r h =>
      obtain ⟨d, h1, h2⟩ := ih h
      exact ⟨_ :: d, h1.cons _, .cons r h2⟩
  | swap x y l =>
    intro b h
    cases h with
    | cons r h =>
      cases h with
      | cons r2 h => exact ⟨_, List.Perm.swap _ _ _, .cons r2 (.cons r h)⟩
  | trans p1 p2 ih1 ih2 =>
    intro b h
    obtain ⟨d, h1, h2⟩ := ih2 h
    obtain ⟨e, h3, h4⟩ := ih1 h2
    exact ⟨e, h3.trans h1, h4⟩
theorem tupsN_at {H : Hp} {xs : List V} {L : List (List Nat)} (h : TupsN H xs L) : TupsAt H xs (L.map fun l => l.map fun x : Nat => (x : Int)) := by
  induction h with
  | nil => exact .nil
  | cons r _ ih =>
    obtain ⟨t, e, q⟩ := r
    exact .cons ⟨t, e, by rw [← nv_ints]; exact q⟩ ih
theorem small_line {n : Nat} (h : n ≤ 16777216) : n ≤ sizeLine := by rw [sizeLine_eq]; exact h
theorem lt_line {n : Nat} (h : n < 16777216) : n < sizeLine := by rw [sizeLine_eq]; exact h
/-! ### the names that the built-ins keep -/
structure Bl (mg : Str → Option Value) : Prop where
  len : mg "len" = none
  range : mg "range" = none
  all : mg "all" = none
  isi : mg "isinstance" = none
  int : mg "int" = none
  bool : mg "bool" = none
  tuple : mg "tuple" = none
  list : mg "list" = none
  str : mg "str" = none
  sorted : mg "sorted" = none
  min : mg "min" = none
  max : mg "max" = none
  sum : mg "sum" = none
  enum : mg "enumerate" = none
  least : ∃ u, mg "LEAST_SIZE" = some u ∧ RelV (.int 2) u
  most : ∃ u, mg "MOST_SIZE" = some u ∧ RelV (.int 9) u
  price : ∃ u, mg "MOST_PRICE" = some u ∧ RelV (.int 1000) u
  red : ∃ u, mg "MOST_RED" = some u ∧ RelV (.int 9) u
/-! ### a def whose code object is known -/
structure FunC (K : PySem.W.Frag) (x qual : Str) (st : Stmt) (f : Addr) (fd : FuncData) (c : Addr) : Prop where
  ex : ∃ (oc : Value) (od : Option Addr) (kV doc pm : Value) (an : Option Addr) (ct : Value) (osl : Array (Option Value)),
    fd = PySem.W.fnOf x qual (defArgs st) (defBody st) (defScope st) .none kV doc pm an (.ref c) ct ∧ K.lookup f = some ⟨oc, od, .func fd, osl⟩ ∧ PySem.W.codeIn K (.ref c) qual = true
  kp : PySem.W.keepIn K (.ref f) = true
theorem FunC.fn {K : PySem.W.Frag} {x qual : Str} {st : Stmt} {f : Addr} {fd : FuncData} {c : Addr} (F : FunC K x qual st f fd c) : Fun K x qual st f fd := by
  obtain ⟨oc, od, kV, doc, pm, an, ct, osl, e, l, k⟩ := F.ex
  exact ⟨⟨oc, od, kV, doc, pm, an, _, ct, osl, e, l, k⟩, F.kp⟩
section
variable {P : Program} {w : World} {K : PySem.W.Frag} {mg : Str → Option Value} {base : Heap}
theorem FunC.ok {x qual : Str} {st : Stmt} {f : Addr} {fd : FuncData} {c : Addr} {N ps : List Str} {k : Nat} {sp : Sp} (F : FunC K x qual st f fd c) (S : FnScope N ps (defScope st)) (len : ∀ vs H Q E, sp vs H Q E → vs.length = ps.length)
    (hbody : ∀ (A : Around) (outer : List Env) (s : Shared) (H : Hp) (vs : List V) (Q : VK) (E : XK), Room k (A.deeper (envOfC qual (defScope st) s.heap.objs.size f (.ref c))) → sp vs H Q E →
      ∃ t, PSs (cxOf CX0 P w K mg base N qual (defScope st) f (.ref c) A outer s H E).nox (defBody st) t ∧ t { nx := fun _ H' => Q .non H', rt := Q } (start N vs) H) : FnOk P w K mg base CX0 (k + 1) f fd ps sp := by
  obtain ⟨oc, od, kV, doc, pm, an, ct, osl, rfl, lk, hcd⟩ := F.ex
  refine fn_of lk hcd S len fun A outer s H vs Q E hr hsp => ?_
  obtain ⟨t, h, q⟩ := hbody A outer s H vs Q E hr hsp
  exact ⟨t, h.nox, q⟩
/-- a def of the module that keeps its promise -/
structure Kept (P : Program) (w : World) (K : PySem.W.Frag) (mg : Str → Option Value) (base : Heap) (k : Nat) (x : Str) (sp : Sp) : Prop where
  ex : ∃ (f : Addr) (fd : FuncData) (ps : List Str), FnOk P w K mg base CX0 k f fd ps sp ∧ mg x = some (.ref f) ∧ PySem.W.keepIn K (.ref f) = true ∧ Binds K fd ps []
theorem pe_k {X : Cx} {k j : Nat} {x : Str} {sp : Sp} {p pos : Pos} {e : Expr} {es : List Expr} {t : TA} (c : Kept X.prog X.w X.K X.mg X.base k x sp) (hr : Room j X.A) (hk : k ≤ j) (hg : Gl X x) (ha : PA X (e :: es) t)
    (hdb : (x == ("__debug__" : Str)) = false := by decide) (he : starEach (e :: es) X.env = (false, eval e X.env) :: starEach es X.env := by rfl) (hpl : (backTo pos (starEach es X.env)).any (·.1) = false := by rfl) :
    PE X (.Call (.Name x p) (e :: es) [] pos) (tCall sp [] E0 t) := by
  obtain ⟨f, fd, ps, F, hm, kp, b⟩ := c.ex
  exact pe_call F (hr.mono hk) hg hm kp b .nil pass0 ha hdb he hpl
/-! ### is_in -/
def spIsIn : Sp := fun vs H Q _ => ∃ v lo hi : Int, vs = [.int v, .int lo, .int hi] ∧ Q (.bl (decide (lo ≤ v ∧ v ≤ hi))) H
theorem ok_isin {f : Addr} {fd : FuncData} (F : Fun K "is_in" "is_in" sIsIn f fd) (B : Bl mg) : FnOk P w K mg base CX0 1 f fd ["value", "least", "most"] spIsIn := by
  refine F.ok scIsIn (fun vs H Q E h => ?_) (fun cdv A outer s H vs Q E hr h => ?_)
  · obtain ⟨_, _, _, rfl, _⟩ := h
    rfl
  · obtain ⟨v, lo, hi, rfl, q⟩ := h
    refine ⟨_, pss_one (ps_ret (pe_and (pe_callB call_isi (by rfl) B.isi (by decide +kernel) (pa_cons (pv 0) (pa_cons (pe_bltn (v := .ty "int") (by rfl) B.int (by decide +kernel) rfl) pa_nil)))
      (pe_and (pe_not (pe_callB call_isi (by rfl) B.isi (by decide +kernel) (pa_cons (pv 0) (pa_cons (pe_bltn (v := .ty "bool") (by rfl) B.bool (by decide +kernel) rfl) pa_nil))))
        (pe_one (pe_chain op_le op_le (pv 1) (pv 0) (pv 2)))))), ?_⟩
    refine ⟨_, rfl, _, _, _, _, true, rfl, .ty "int", .base (.int _), kit_ty (by decide +kernel), true, rfl, ite_tt ?_⟩
    refine ⟨_, rfl, _, _, _, _, false, rfl, .ty "bool", .base (.int _), kit_ty (by decide +kernel), false, rfl, true, rfl, ite_tt ?_⟩
    refine ⟨_, rfl, _, rfl, _, _, rfl, rfl, _, rfl, ?_⟩
    by_cases hl : lo ≤ v
    · rw [decide_eq_true hl]
      refine ite_tt ⟨_, rfl, _, _, rfl, rfl, ?_⟩
      have e : decide (lo ≤ v ∧ v ≤ hi) = decide (v ≤ hi) := by simp [hl]
      rw [e] at q
      exact q
    · rw [decide_eq_false hl]
      have e : decide (lo ≤ v ∧ v ≤ hi) = false := by simp [hl]
      rw [e] at q
      exact ite_ff q
end
end T27
end
section
set_option Elab.async false
set_option linter.all false
set_option maxRecDepth 100000
set_option maxHeartbeats 4000000
namespace T27
open PySem PySem.Spec PyProof.Rows L2 M27
section
variable {P : Program} {w : World} {K : PySem.W.Frag} {mg : Str → Option Value} {base : Heap}
def spNeedSize : Sp := fun vs H Q _ => ∃ n : Nat, vs = [ni n] ∧ 2 ≤ n ∧ n ≤ 9 ∧ Q .non H
theorem ok_needsize {f : Addr} {fd : FuncData} (F : Fun K "need_size" "need_size" sNeedSize f fd) (B : Bl mg) (I : Kept P w K mg base 1 "is_in" spIsIn) : FnOk P w K mg base CX0 2 f fd ["size"] spNeedSize := by
  refine F.ok scNeedSize (fun vs H Q E h => ?_) (fun cdv A outer s H vs Q E hr h => ?_)
  · obtain ⟨_, rfl, _⟩ := h
    rfl
  · obtain ⟨n, rfl, h2, h9, q⟩ := h
    obtain ⟨u1, e1, r1⟩ := B.least
    obtain ⟨u2, e2, r2⟩ := B.most
    refine ⟨_, pss_one (ps_if (pt_not (pt_val (pe_k I hr (by decide) (by rfl) (pa_cons (pv 0) (pa_cons (pe_glob (by rfl) e1 r1) (pa_cons (pe_glob (by rfl) e2 r2) pa_nil)))))) (pss_one ps_never) pss_nil), ?_⟩
    refine ⟨_, rfl, _, _, _, rfl, _, rfl, ?_⟩
    rw [decide_eq_true (show (2 : Int) ≤ (n : Int) ∧ (n : Int) ≤ 9 by omega)]
    exact iteF q
/-- a set of places, as a tuple -/
def SetN (H : Hp) (v : V) (n : Nat) (l : List Nat) : Prop := TupN H v l ∧ IsSet n l
theorem SetN.kp {H H' : Hp} {v : V} {n : Nat} {l : List Nat} (k : Kp H H') (h : SetN H v n l) : SetN H' v n l := ⟨h.1.kp k, h.2⟩
def spIsSet (T : Addr) : Sp := fun vs H Q _ => ∃ (n : Nat) (v : V) (l : List Nat), vs = [ni n, v] ∧ n ≤ 9 ∧ SetN H v n l ∧ GxR.TabG H T ∧ ∀ H', Kp H H' → Q (.bl true) H'
theorem asc_at {l : List Nat} (h : l.Pairwise (· < ·)) {i a b : Nat} (ha : l[i]? = some a) (hb : l[i + 1]? = some b) : a < b := by
  obtain ⟨h1, e1⟩ := List.getElem?_eq_some_iff.mp ha
  obtain ⟨h2, e2⟩ := List.getElem?_eq_some_iff.mp hb
  have := List.pairwise_iff_getElem.mp h i (i + 1) h1 h2 (Nat.lt_succ_self i)
  rw [e1, e2] at this
  exact this
theorem asc_len : ∀ {l : List Nat} {n : Nat}, l.Pairwise (· < ·) → (∀ x ∈ l, x < n) → l.length ≤ n
  | [], n, _, _ => Nat.zero_le n
  | x :: t, 0, _, h => absurd (h x List.mem_cons_self) (Nat.not_lt_zero x)
  | x :: t, n + 1, hp, h => by
    have z := asc_len (l := t.map (· - 1)) (n := n) (by
      rw [List.pairwise_map]
      have hp' := List.pairwise_cons.mp hp
      refine List.Pairwise.imp_of_mem (fun {a b} ha hb r => ?_) hp'.2
      have := hp'.1 a ha
      have := hp'.1 b hb
      omega) (fun y hy => by
      obtain ⟨a, ha, rfl⟩ := List.mem_map.mp hy
      have := (List.pairwise_cons.mp hp).1 a ha
      have := h a (List.mem_cons_of_mem _ ha)
      omega)
    rw [List.length_map] at z
    rw [List.length_cons]
    omega
theorem set_len {n : Nat} {l : List Nat} (h : IsSet n l) : l.length ≤ n := asc_len h.asc h.lt
theorem reps {n : Nat} {i : Nat} {b : Bool} (h : (List.replicate n true)[i]? = some b) : b = true := by
  rw [List.getElem?_replicate] at h
  split at h
  · exact (Option.some.inj h).symm
  · cases h
theorem all_reps (n : Nat) : (List.replicate n true).all id = true := by simp
theorem ok_isset {f fI c T : Addr} {fd fdI : FuncData} (F : FunC K "is_set" "is_set" sIsSet f fd c) (B : Bl mg) (TB : GxR.TabB base mg c T) (FI : Fun K "is_in" "is_in" sIsIn fI fdI) (gI : mg "is_in" = some (.ref fI)) :
    FnOk P w K mg base CX0 3 f fd ["size", "value"] (spIsSet T) := by
  refine F.ok scIsSet (fun vs H Q E h => ?_) (fun A outer s H vs Q E hr h => ?_)
  · obtain ⟨_, _, _, rfl, _⟩ := h
    rfl
  · obtain ⟨n, v, l, rfl, hn, ⟨⟨a, rfl, ha⟩, hl⟩, ht, q⟩ := h
    have II : IsInAt K mg fI := ⟨⟨_, FI⟩, gI, B.isi, B.int, B.bool⟩
    refine ⟨_, pss_cons (ps_if (PW.pt (pw_or (pt_not (pt_val (pe_callB call_isi (by rfl) B.isi (by decide +kernel) (pa_cons (pv 1) (pa_cons (pe_bltn (v := .ty "tuple") (by rfl) B.tuple (by decide +kernel) rfl) pa_nil)))))
        (pw_or1 (pt_not (pt_val (pe_allG (P := T) hr (by rfl) B.all TB rfl (by show genB (defScope sIsSet) _ _ = true; decide +kernel) (gsrc_tup (pv 1))
          (el_isin II hr rfl (by decide +kernel) FI.kp (el_own rfl (by decide +kernel)) el_int (el_sub (el_cap (j := 0) rfl rfl (by decide +kernel) (.inl rfl)) el_int) (fun _ => rfl) (fun _ => rfl)) (fun _ => rfl)))))))
      (pss_one (ps_ret pe_bl)) pss_nil)
      (pss_one (ps_ret (pe_allG (P := T) hr (by rfl) B.all TB rfl (by show genB (defScope sIsSet) _ _ = true; decide +kernel) (gsrc_range1 (by rfl) B.range (pa_cons (pe_op op_sub (pe_callB call_len_seq (by rfl) B.len boot_len (pa_cons (pv 1) pa_nil)) pe_int) pa_nil))
        (el_lt (el_ix (el_cap (j := 1) rfl rfl (by decide +kernel) (.inl rfl)) (el_own rfl (by decide +kernel)) (fun _ _ => rfl)) (el_ix (el_cap (j := 1) rfl rfl (by decide +kernel) (.inl rfl)) (el_add (el_own rfl (by decide +kernel)) el_int) (fun _ _ => rfl))) (fun _ => rfl)))), ?_⟩
    refine ⟨_, rfl, _, _, _, _, true, rfl, .ty "tuple", .base (.tup ha), kit_ty (by decide +kernel), true, rfl, ?_⟩
    refine iteF ?_
    refine ⟨_, rfl, a, nv l, rfl, .inl (.inl ha), ht, List.replicate (nv l).length true, by simp, fun i v b hv hb => ?_, fun H2 hT => ?_⟩
    · obtain ⟨x, hx, rfl⟩ := nv_get' hv
      have hb := reps hb
      subst hb
      have hlt := hl.lt x (List.mem_of_getElem? hx)
      refine ⟨(x : Int), 0, (n : Int) - 1, rfl, rfl, ⟨n, 1, ⟨_, rfl, rfl⟩, rfl, rfl⟩, ?_⟩
      rw [decide_eq_true]
      omega
    · have k1 := Kp.tabbed ht hT
      have ha2 := k1.tup ha
      rw [all_reps]
      refine ⟨true, rfl, iteF ?_⟩
      have hn9 : l.length ≤ sizeLine := by
        obtain ⟨z, _⟩ := id hl
        exact small_line (by have := set_len hl; omega)
      have hz : (sizeLine : Int) = 16777216 := by rw [sizeLine_eq]; rfl
      refine ⟨_, rfl, a, nv l, rfl, .inr (.inl (.inl ha2)), _, _, rfl, rfl, (((nv l).length : Nat) : Int) - 1, rfl, by omega, by rw [nv_len]; omega, k1.tab _ ht, List.replicate ((nv l).length - 1) true, by simp <;> omega, fun i v b hv hb => ?_, fun H3 hT3 => ?_⟩
      · have hb := reps hb
        subst hb
        have hi : i < (((nv l).length : Nat) - 1 : Int).toNat := by
          have := (List.getElem?_eq_some_iff.mp hv).1
          simpa using this
        have hv' : v = .int (i : Int) := by
          rw [List.getElem?_map, List.getElem?_range hi] at hv
          exact (Option.some.inj hv).symm
        subst hv'
        rw [nv_len] at hi
        have i1 : i < l.length := by omega
        have i2 : i + 1 < l.length := by omega
        have lt := asc_at hl.asc (List.getElem?_eq_getElem i1) (List.getElem?_eq_getElem i2)
        refine ⟨(l[i] : Int), (l[i + 1] : Int), ⟨i, a, nv l, _, ⟨_, rfl, rfl⟩, rfl, ha2, nv_get (List.getElem?_eq_getElem i1), rfl⟩, ⟨i + 1, a, nv l, _, ⟨_, rfl, rfl⟩, ⟨i, 1, rfl, rfl, by simp⟩, ha2, nv_get (List.getElem?_eq_getElem i2), rfl⟩, ?_⟩
        show V.bl (decide ((l[i] : Int) < (l[i + 1] : Int))) = V.bl true
        rw [decide_eq_true (by omega)]
      · rw [all_reps]
        exact q H3 (k1.trans (Kp.tabbed (k1.tab _ ht) hT3))
/-! ### the looks at arguments -/
def spNeedSet (T : Addr) : Sp := fun vs H Q _ => ∃ (n : Nat) (v : V) (l : List Nat), vs = [ni n, v] ∧ n ≤ 9 ∧ SetN H v n l ∧ GxR.TabG H T ∧ ∀ H', Kp H H' → Q .non H'
theorem ok_needset {f T : Addr} {fd : FuncData} (F : Fun K "need_set" "need_set" sNeedSet f fd) (I : Kept P w K mg base 3 "is_set" (spIsSet T)) : FnOk P w K mg base CX0 4 f fd ["size", "one"] (spNeedSet T) := by
  refine F.ok scNeedSet (fun vs H Q E h => ?_) (fun cdv A outer s H vs Q E hr h => ?_)
  · obtain ⟨_, _, _, rfl, _⟩ := h
    rfl
  · obtain ⟨n, v, l, rfl, hn, hs, ht, q⟩ := h
    refine ⟨_, pss_one (ps_if (pt_not (pt_val (pe_k I hr (by decide) (by rfl) (pa_cons (pv 0) (pa_cons (pv 1) pa_nil))))) (pss_one ps_never) pss_nil), ?_⟩
    refine ⟨_, rfl, _, rfl, n, v, l, rfl, hn, hs, ht, fun H1 k1 => ⟨true, rfl, iteF (q H1 k1)⟩⟩
def spNeedWhole (T : Addr) : Sp := fun vs H Q _ => ∃ (n : Nat) (v : V) (l : List Nat), vs = [ni n, v] ∧ 2 ≤ n ∧ n ≤ 9 ∧ SetN H v n l ∧ l.length < n ∧ GxR.TabG H T ∧ ∀ H', Kp H H' → Q .non H'
theorem ok_needwhole {f T : Addr} {fd : FuncData} (F : Fun K "need_whole" "need_whole" sNeedWhole f fd) (B : Bl mg) (I : Kept P w K mg base 3 "is_set" (spIsSet T)) (S : Kept P w K mg base 2 "need_size" spNeedSize) : FnOk P w K mg base CX0 4 f fd ["size", "whole"] (spNeedWhole T) := by
  refine F.ok scNeedWhole (fun vs H Q E h => ?_) (fun cdv A outer s H vs Q E hr h => ?_)
  · obtain ⟨_, _, _, rfl, _⟩ := h
    rfl
  · obtain ⟨n, v, l, rfl, h2, h9, hs, hl, ht, q⟩ := h
    refine ⟨_, pss_cons (ps_expr (pe_k S hr (by decide) (by rfl) (pa_cons (pv 0) pa_nil))) (pss_one (ps_if (PW.pt (pw_or (pt_not (pt_val (pe_k I hr (by decide) (by rfl) (pa_cons (pv 0) (pa_cons (pv 1) pa_nil)))))
      (pw_or1 (pt_cmpR op_eq (pe_callB call_len_seq (by rfl) B.len boot_len (pa_cons (pv 1) pa_nil)) (pv 0) (nomark _))))) (pss_one ps_never) pss_nil)), ?_⟩
    refine ⟨_, rfl, n, rfl, h2, h9, ?_⟩
    refine ⟨_, rfl, _, rfl, n, v, l, rfl, h9, hs, ht, fun H1 k1 => ⟨true, rfl, iteF ?_⟩⟩
    obtain ⟨a, rfl, ha⟩ := hs.1
    refine ⟨_, rfl, a, nv l, rfl, .inr (.inl (.inl (k1.tup ha))), _, rfl, rfl, _, rfl, ?_⟩
    rw [decide_eq_false (show ¬ V.int ((nv l).length : Nat) = ni n from fun e => by
      have e := V.int.inj e
      rw [nv_len] at e
      omega)]
    exact iteF (q H1 k1)
def spNeedTerms (T : Addr) : Sp := fun vs H Q _ => ∃ (n : Nat) (v u : V) (l o : List Nat), vs = [ni n, v, u] ∧ 2 ≤ n ∧ n ≤ 9 ∧ SetN H v n l ∧ l.length < n ∧ SetN H u n o ∧ GxR.TabG H T ∧ ∀ H', Kp H H' → Q .non H'
theorem ok_needterms {f T : Addr} {fd : FuncData} (F : Fun K "need_terms" "need_terms" sNeedTerms f fd) (W : Kept P w K mg base 4 "need_whole" (spNeedWhole T)) (S : Kept P w K mg base 4 "need_set" (spNeedSet T)) : FnOk P w K mg base CX0 5 f fd ["size", "whole", "one"] (spNeedTerms T) := by
  refine F.ok scNeedTerms (fun vs H Q E h => ?_) (fun cdv A outer s H vs Q E hr h => ?_)
  · obtain ⟨_, _, _, _, _, rfl, _⟩ := h
    rfl
  · obtain ⟨n, v, u, l, o, rfl, h2, h9, hs, hl, ho, ht, q⟩ := h
    refine ⟨_, pss_cons (ps_expr (pe_k W hr (by decide) (by rfl) (pa_cons (pv 0) (pa_cons (pv 1) pa_nil)))) (pss_one (ps_expr (pe_k S hr (by decide) (by rfl) (pa_cons (pv 0) (pa_cons (pv 2) pa_nil))))), ?_⟩
    refine ⟨_, rfl, _, rfl, n, v, l, rfl, h2, h9, hs, hl, ht, fun H1 k1 => ?_⟩
    exact ⟨_, rfl, _, rfl, n, u, o, rfl, h9, ho.kp k1, k1.tab _ ht, fun H2 k2 => q H2 (k1.trans k2)⟩
/-! ### lies_in -/
def spLies (T : Addr) : Sp := fun vs H Q _ => ∃ (v u : V) (l o : List Nat), vs = [v, u] ∧ TupN H v l ∧ TupN H u o ∧ GxR.TabG H T ∧ ∀ H', Kp H H' → Q (.bl (within o l)) H'
theorem ok_lies {f c T : Addr} {fd : FuncData} (F : FunC K "lies_in" "lies_in" sLies f fd c) (B : Bl mg) (TB : GxR.TabB base mg c T) : FnOk P w K mg base CX0 1 f fd ["whole", "one"] (spLies T) := by
  refine F.ok scLies (fun vs H Q E h => ?_) (fun A outer s H vs Q E hr h => ?_)
  · obtain ⟨_, _, _, _, rfl, _⟩ := h
    rfl
  · obtain ⟨v, u, l, o, rfl, ⟨a, rfl, ha⟩, ⟨b, rfl, hb⟩, ht, q⟩ := h
    refine ⟨_, pss_one (ps_ret (pe_allG (P := T) hr (by rfl) B.all TB rfl (by show genB (defScope sLies) _ _ = true; decide +kernel) (gsrc_tup (pv 1)) (el_in (el_own rfl (by decide +kernel)) (el_cap (j := 0) rfl rfl (by decide +kernel) (.inl rfl))) (fun _ => rfl))), ?_⟩
    refine ⟨_, rfl, b, nv o, rfl, .inl (.inl hb), ht, o.map (fun x => has x l), by rw [nv_len]; simp, fun i v k hv hk => ?_, fun H2 hT => ?_⟩
    · obtain ⟨x, hx, rfl⟩ := nv_get' hv
      rw [List.getElem?_map, hx] at hk
      have hk := Option.some.inj hk
      subst hk
      exact ⟨_, a, nv l, rfl, ⟨_, rfl, rfl⟩, ha, rfl, nv_flat l, by rw [inV_nat]⟩
    · have e : (o.map (fun x => has x l)).all id = within o l := by unfold within; rw [List.all_map]; rfl
      rw [e]
      exact q H2 (Kp.tabbed ht hT)
end
end T27
end
section
set_option Elab.async false
set_option linter.all false
set_option maxRecDepth 100000
set_option maxHeartbeats 4000000
namespace T27
open PySem PySem.Spec PyProof.Rows L2 M27
theorem Kp.put {H H' : Hp} {D : Addr} {o : HO} (k : Kp H H') (h : H D = none) : Kp H (upd H' D o) := by
  refine ⟨fun b x e n => ?_, fun T ht => ?_, fun b hb => ?_⟩
  · rw [upd_ne (ne_of_none e h)]
    exact k.get b x e n
  · obtain ⟨ps, e, r⟩ := k.tab T ht
    obtain ⟨ps0, e0, _⟩ := ht
    exact ⟨ps, by rw [upd_ne (ne_of_none e0 h)]; exact e, r⟩
  · by_cases q : b = D
    · rw [q, upd_same] at hb
      cases hb
    · rw [upd_ne q] at hb
      exact k.free b hb
theorem pig : ∀ {n : Nat} {l : List Nat}, (∀ i, i < n → i ∈ l) → n ≤ l.length
  | 0, _, _ => Nat.zero_le _
  | n + 1, l, h => by
    have hm := h n (Nat.lt_succ_self n)
    have ih := pig (n := n) (l := l.erase n) fun i hi => (List.mem_erase_of_ne (by omega)).mpr (h i (Nat.lt_succ_of_lt hi))
    rw [List.length_erase_of_mem hm] at ih
    have := List.length_pos_of_mem hm
    omega
theorem round {n p i : Nat} (hi : i < n) (hp : p < n) : (p + (i + (n - p)) % n) % n = i := by
  by_cases h : i < p
  · have e : (i + (n - p)) % n = i + (n - p) := Nat.mod_eq_of_lt (by omega)
    rw [e, show p + (i + (n - p)) = i + n by omega, Nat.add_mod_right]
    exact Nat.mod_eq_of_lt hi
  · have e : (i + (n - p)) % n = i - p := by
      rw [show i + (n - p) = (i - p) + n by omega, Nat.add_mod_right]
      exact Nat.mod_eq_of_lt (by omega)
    rw [e, show p + (i - p) = i by omega]
    exact Nat.mod_eq_of_lt hi
/-- some place on from p is not taken -/
theorem gap_on {n : Nat} {w : List Nat} {p : Nat} (hl : w.length < n) (hp : p < n) : ∃ j, j < n ∧ (p + j) % n ∉ w := by
  refine Classical.byContradiction fun h => ?_
  have all : ∀ i, i < n → i ∈ w := fun i hi => Classical.byContradiction fun hn => h ⟨(i + (n - p)) % n, Nat.mod_lt _ (by omega), by rw [round hi hp]; exact hn⟩
  have := pig all
  omega
theorem mod_pred {p n : Nat} (hn : 2 ≤ n) : ((p : Int) - 1) % (n : Int) = (((p + (n - 1)) % n : Nat) : Int) := by
  have e : ((p + (n - 1) : Nat) : Int) = ((p : Int) - 1) + (n : Int) := by omega
  rw [Int.natCast_emod, e, Int.add_emod_right]
theorem mod_add {p k n : Nat} : ((p : Int) + (k : Int)) % (n : Int) = (((p + k) % n : Nat) : Int) := by
  rw [Int.natCast_emod, Int.natCast_add]
theorem take_succ {α : Type} {l : List α} {i : Nat} {x : α} (h : l[i]? = some x) : l.take (i + 1) = l.take i ++ [x] := by
  rw [List.take_add_one, h]
  rfl
/-- a comprehension over enumerate -/
theorem lc_enum {K : PySem.W.Frag} {a : Addr} {xs : List V} {g : TG} {tt : TT} {te : TE} {vs : List Nat} {σ : L2.St} {H1 : Hp} {D : Addr} {Qd : Hp → Prop} (Pv : Nat → Hp → Prop) (h0 : Pv 0 (upd H1 D (.lst []))) (hl : ∀ i H, i ≤ xs.length → Pv i H → SqL K H a xs)
    (hs : ∀ (i : Nat) (x : V) (H : Hp) (T : Addr), xs[i]? = some x → Pv i H → H T = none → g (.ref T) (wipe σ vs) (upd H T (.tup [ni i, x])) fun σ2 H2 => wipe σ2 vs = wipe σ vs ∧ tt σ2 H2 fun b H3 =>
      if b = true then te σ2 H3 fun y H4 => ∃ acc, H4 D = some (.lst acc) ∧ acc.length < sizeLine ∧ Pv (i + 1) (upd H4 D (.lst (acc ++ [y]))) else Pv (i + 1) H3) (hd : ∀ H, Pv xs.length H → Qd H) :
    ∃ W : Nat → Nat → Hp → Prop, (∃ m, W 0 m (upd H1 D (.lst []))) ∧ ∀ i m H, W i m H →
      ((Ite K a).stop i H ∧ Qd H) ∨ ((Ite K a).go i H ∧ ∃ Nx : Hp → Prop, (∀ H', Nx H' → ∃ m', m' < m ∧ W (i + 1) m' H') ∧ ∀ x H', (Ite K a).yld i H x H' → g x (wipe σ vs) H' fun σ2 H2 => wipe σ2 vs = wipe σ vs ∧ tt σ2 H2 fun b H3 =>
        if b = true then te σ2 H3 fun y H4 => ∃ acc, H4 D = some (.lst acc) ∧ acc.length < sizeLine ∧ Nx (upd H4 D (.lst (acc ++ [y]))) else Nx H3) := by
  refine ⟨fun i m H => m = xs.length - i ∧ i ≤ xs.length ∧ Pv i H, ⟨xs.length, rfl, Nat.zero_le _, h0⟩, ?_⟩
  rintro i m H ⟨rfl, hi, p⟩
  have q := hl i H hi p
  by_cases hlt : i < xs.length
  · refine .inr ⟨⟨xs, xs[i], q, List.getElem?_eq_getElem hlt⟩, Pv (i + 1), fun H' p' => ⟨xs.length - (i + 1), by omega, rfl, hlt, p'⟩, fun x H' y => ?_⟩
    obtain ⟨T, z, rfl, hT, rfl, e⟩ := y
    exact hs i z H T (e xs q) p hT
  · have e : i = xs.length := by omega
    subst e
    exact .inl ⟨⟨xs, q, Nat.le_refl _⟩, hd H p⟩
/-! the rules that name the written part, for a block -/
section
variable {X : Cx} (K : PySem.W.Frag)
theorem op_inK (h : X.K = K := by rfl) : OpR X (compareOp .In) (rIn K false) := by subst h; exact op_in_seq
theorem op_notInK (h : X.K = K := by rfl) : OpR X (compareOp .NotIn) (rIn K true) := by subst h; exact op_notIn_seq
theorem ix_tupK (h : X.K = K := by rfl) : IxR X (rIxT K) := by subst h; exact ix_tup
theorem ix_listK (h : X.K = K := by rfl) : IxR X (rIxL K) := by subst h; exact ix_list
theorem call_lenK (h : X.K = K := by rfl) : CallR X (.builtin "len") (fun xs H Q => ∃ p ys, xs = [.ref p] ∧ (SqL K H p ys ∨ SqT K H p ys) ∧ Q (.int ys.length) H) := by subst h; exact call_len_seq
theorem call_tupK (h : X.K = K := by rfl) : CallR X (.type "tuple") (fun xs H Q => ∃ p ys, xs = [.ref p] ∧ ((SqL K H p ys ∧ ∀ l, H l = none → Q (.ref l) (upd H l (.tup ys))) ∨ (SqT K H p ys ∧ Q (.ref p) H))) := by subst h; exact call_tuple_of
theorem cr_sortedK (h : X.K = K := by rfl) : CallR X (.builtin "sorted") (rSorted K) := by subst h; exact cr_sorted
theorem pa_starK {e : Expr} {es : List Expr} {te : TE} {t : TA} {p : Pos} (he : PE X e te) (hr : PA X es t) (h : X.K = K := by rfl) (hs : starEach (.Starred e p :: es) X.env = (true, eval e X.env) :: starEach es X.env := by rfl) : PA X (.Starred e p :: es) (StX.tStar K te t) := by subst h; exact StX.pa_star he hr hs
theorem pi_tupK {tg l : Expr} {tl : TE} (hl : PE X l tl) (h : X.K = K := by rfl) : PI X tg l (iTup K tl) := by subst h; exact pi_tup hl
theorem pi_listK {tg l : Expr} {tl : TE} (hl : PE X l tl) (h : X.K = K := by rfl) : PI X tg l (iList K tl) := by subst h; exact pi_list hl
theorem op_catTK (h : X.K = K := by rfl) : OpR X (binaryOp .Add) (rCatA K) := by subst h; exact op_catA
end
section
variable {P : Program} {w : World} {K : PySem.W.Frag} {mg : Str → Option Value} {base : Heap}
/-! ### red_count -/
def spRed : Sp := fun vs H Q _ => ∃ (v u : V) (r x : List Nat), vs = [v, u] ∧ TupN H v r ∧ TupN H u x ∧ x.length ≤ 1000 ∧ ∀ H', Kp H H' → Q (ni (redOf r x)) H'
theorem ok_red {f : Addr} {fd : FuncData} (F : Fun K "red_count" "red_count" sRed f fd) (B : Bl mg) : FnOk P w K mg base CX0 1 f fd ["reds", "some"] spRed := by
  refine F.ok scRed (fun vs H Q E h => ?_) (fun cdv A outer s H vs Q E hr h => ?_)
  · obtain ⟨_, _, _, _, rfl, _⟩ := h
    rfl
  · obtain ⟨v, u, r, x, rfl, ⟨a, rfl, ha⟩, ⟨b, rfl, hb⟩, hx, q⟩ := h
    refine ⟨_, pss_one (ps_ret (pe_callB call_len_seq (by rfl) B.len boot_len (pa_cons (pe_lc (own := [("place", 2)]) (g := gName 2) rfl scRed.nd (pi_tup (pv 1)) (blkOk_by (by show blkC ["reds", "some", "place"] (defScope sRed) _ _ = true; decide +kernel))
      (fun _ _ _ _ _ => pg_name (i := 2) scRed.nd rfl (Or.inl rfl)) (fun _ _ _ _ _ => pts_one (pt_cmpR (op_inK K) (pv 2) (pv 0) (by rfl))) (fun _ _ _ _ _ => pv 2)) pa_nil))), ?_⟩
    refine ⟨_, rfl, b, rfl, ⟨_, .inl (.inl hb)⟩, fun D nD => lc_tup (K := K) (a := b) (xs := nv x) (fun i H' => Kp H H' ∧ H' D = some (.lst (nv ((x.take i).filter fun z => has z r)))) ⟨(Kp.refl H).put nD, upd_same⟩ (fun i H' _ h => .inl (.inl (h.1.tup hb))) ?_ ?_⟩
    · rintro i y H' hy ⟨k1, hD⟩
      obtain ⟨z, hz, rfl⟩ := nv_get' hy
      refine ⟨rfl, _, rfl, _, rfl, a, nv r, rfl, .inr (.inl (.inl (k1.tup ha))), rfl, nv_flat r, _, rfl, ?_⟩
      show if (inV (ni z) (nv r)) = true then _ else _
      rw [inV_nat, take_succ hz, List.filter_append]
      by_cases hh : has z r = true
      · rw [if_pos hh]
        refine ⟨_, rfl, _, hD, ?_, k1.put nD, ?_⟩
        · rw [nv_len]
          refine lt_line (Nat.lt_of_le_of_lt (List.length_filter_le _ _) ?_)
          rw [List.length_take]
          omega
        · rw [upd_same]
          simp [List.filter_cons, hh, nv]
      · rw [if_neg hh]
        refine ⟨k1, ?_⟩
        rw [hD]
        simp [List.filter_cons, hh]
    · rintro H' ⟨k1, hD⟩
      rw [nv_len, List.take_length] at hD
      refine ⟨D, _, rfl, .inl (.inl (.inl hD)), ?_⟩
      rw [nv_len]
      exact q H' k1
end
end T27
end
section
set_option Elab.async false
set_option linter.all false
set_option maxRecDepth 100000
set_option maxHeartbeats 4000000
namespace T27
open PySem PySem.Spec PyProof.Rows L2 M27
section
variable {P : Program} {w : World} {K : PySem.W.Frag} {mg : Str → Option Value} {base : Heap}
/-! ### need_prices -/
def IntsT (H : Hp) (v : V) (l : List Int) : Prop := ∃ t, v = .ref t ∧ H t = some (.tup (l.map V.int))
theorem IntsT.kp {H H' : Hp} {v : V} {l : List Int} (k : Kp H H') (h : IntsT H v l) : IntsT H' v l := by
  obtain ⟨t, e, h⟩ := h
  exact ⟨t, e, k.tup h⟩
def PriceOk (n : Nat) (ps : List Int) : Prop := ps.length = n ∧ ∀ x ∈ ps, -1000 ≤ x ∧ x ≤ 1000
def spNeedPrices (T Tp : Addr) : Sp := fun vs H Q _ => ∃ (n : Nat) (v u p : V) (l o : List Nat) (ps : List Int), vs = [ni n, v, u, p] ∧ 2 ≤ n ∧ n ≤ 9 ∧ SetN H v n l ∧ l.length < n ∧ SetN H u n o ∧ IntsT H p ps ∧ PriceOk n ps ∧ GxR.TabG H T ∧ GxR.TabG H Tp ∧ ∀ H', Kp H H' → Q .non H'
theorem int_get {l : List Int} {i : Nat} {v : V} (h : (l.map V.int)[i]? = some v) : ∃ x, l[i]? = some x ∧ v = .int x := by
  rw [List.getElem?_map] at h
  cases e : l[i]? with
  | none => rw [e] at h; cases h
  | some x => rw [e] at h; exact ⟨x, rfl, (Option.some.inj h).symm⟩
theorem ok_needprices {f fI c T Tp : Addr} {fd fdI : FuncData} (F : FunC K "need_prices" "need_prices" sNeedPrices f fd c) (B : Bl mg) (TB : GxR.TabB base mg c Tp) (FI : Fun K "is_in" "is_in" sIsIn fI fdI) (gI : mg "is_in" = some (.ref fI)) (N : Kept P w K mg base 5 "need_terms" (spNeedTerms T)) :
    FnOk P w K mg base CX0 6 f fd ["size", "whole", "one", "prices"] (spNeedPrices T Tp) := by
  refine F.ok scNeedPrices (fun vs H Q E h => ?_) (fun A outer s H vs Q E hr h => ?_)
  · obtain ⟨_, _, _, _, _, _, _, rfl, _⟩ := h
    rfl
  · obtain ⟨n, v, u, p, l, o, ps, rfl, h2, h9, hs, hl, ho, ⟨a, rfl, ha⟩, hp, ht, htp, q⟩ := h
    obtain ⟨uP, eP, rP⟩ := B.price
    have II : IsInAt K mg fI := ⟨⟨_, FI⟩, gI, B.isi, B.int, B.bool⟩
    refine ⟨_, pss_cons (ps_expr (pe_k N hr (by decide) (by rfl) (pa_cons (pv 0) (pa_cons (pv 1) (pa_cons (pv 2) pa_nil)))))
      (pss_cons (ps_if (PW.pt (pw_or (pt_not (pt_val (pe_callB call_isi (by rfl) B.isi (by decide +kernel) (pa_cons (pv 3) (pa_cons (pe_bltn (v := .ty "tuple") (by rfl) B.tuple (by decide +kernel) rfl) pa_nil)))))
        (pw_or1 (pt_cmpR op_ne (pe_callB call_len_seq (by rfl) B.len boot_len (pa_cons (pv 3) pa_nil)) (pv 0) (nomark _))))) (pss_one ps_never) pss_nil)
      (pss_one (ps_if (pt_not (pt_val (pe_allG (P := Tp) hr (by rfl) B.all TB rfl (by show genB (defScope sNeedPrices) _ _ = true; decide +kernel) (gsrc_tup (pv 3))
          (el_isin II hr rfl (by decide +kernel) FI.kp (el_own rfl (by decide +kernel)) (el_sub el_int (el_glob rfl (by decide +kernel) eP rP)) (el_glob rfl (by decide +kernel) eP rP) (fun _ => rfl) (fun _ => rfl)) (fun _ => rfl)))) (pss_one ps_never) pss_nil))), ?_⟩
    refine ⟨_, rfl, _, rfl, _, rfl, n, v, u, l, o, rfl, h2, h9, hs, hl, ho, ht, fun H1 k1 => ?_⟩
    refine ⟨_, rfl, _, _, _, _, true, rfl, .ty "tuple", .base (.tup (k1.tup ha)), kit_ty (by decide +kernel), true, rfl, ?_⟩
    refine iteF ?_
    refine ⟨_, rfl, a, _, rfl, .inr (.inl (.inl (k1.tup ha))), _, rfl, rfl, _, rfl, ?_⟩
    rw [decide_eq_true (show V.int ((ps.map V.int).length : Nat) = ni n by rw [List.length_map, hp.1])]
    refine iteF ?_
    refine ⟨_, rfl, a, _, rfl, .inl (.inl (k1.tup ha)), k1.tab _ htp, List.replicate (ps.map V.int).length true, by simp, fun i v b hv hb => ?_, fun H2 hT => ?_⟩
    · obtain ⟨x, hx, rfl⟩ := int_get hv
      have hb := reps hb
      subst hb
      have hlt := hp.2 x (List.mem_of_getElem? hx)
      refine ⟨x, 0 - 1000, 1000, rfl, ⟨0, 1000, rfl, rfl, rfl⟩, rfl, ?_⟩
      rw [decide_eq_true]
      omega
    · rw [all_reps]
      exact ⟨true, rfl, iteF (q H2 (k1.trans (Kp.tabbed (k1.tab _ htp) hT)))⟩
/-! ### blocks_of -/
theorem TupN.put {H : Hp} {v : V} {l : List Nat} {D : Addr} {xs : List V} {o : HO} (h : H D = some (.lst xs)) (t : TupN H v l) : TupN (upd H D o) v l := by
  obtain ⟨a, e, ha⟩ := t
  exact ⟨a, e, by rw [upd_ne fun q => by rw [q, h] at ha; cases ha]; exact ha⟩
theorem TupsN.put {H : Hp} {vs : List V} {L : List (List Nat)} {D : Addr} {xs : List V} {o : HO} (h : H D = some (.lst xs)) (t : TupsN H vs L) : TupsN (upd H D o) vs L := Paired.mapP t fun _ _ => TupN.put h
theorem paired_len {α β : Type} {F : α → β → Prop} {a : List α} {b : List β} (h : Paired F a b) : a.length = b.length := Paired.length h
def pairOf (b : Nat × Nat) : List Nat := [b.1, b.2]
def spBlocks : Sp := fun vs H Q _ => ∃ (n : Nat) (v : V) (l : List Nat), vs = [ni n, v] ∧ 2 ≤ n ∧ n ≤ 9 ∧ SetN H v n l ∧ l.length < n ∧ ∀ a xs H', Kp H H' → H' a = some (.lst xs) → TupsN H' xs ((blocks n l).map pairOf) → Q (.ref a) H'
theorem run_at {n p f L : Nat} {w : List Nat} (h : has ((p + L) % n) w = true) : runLen n w p (f + 1) L = runLen n w p f (L + 1) := by
  show (if has ((p + L) % n) w = true then runLen n w p f (L + 1) else L) = _
  rw [if_pos h]
theorem run_end {n p f L : Nat} {w : List Nat} (h : has ((p + L) % n) w = false) : runLen n w p (f + 1) L = L := by
  show (if has ((p + L) % n) w = true then runLen n w p f (L + 1) else L) = _
  rw [if_neg (by rw [h]; decide)]
theorem filter_snoc {l : List Nat} {f : Nat → Bool} {x : Nat} : (l ++ [x]).filter f = if f x = true then l.filter f ++ [x] else l.filter f := by
  rw [List.filter_append]
  by_cases h : f x = true
  · rw [if_pos h]; simp [List.filter_cons, h]
  · rw [if_neg h]; simp [List.filter_cons, h]
/-- the blocks met by the turn -/
def blocksTo (n : Nat) (w : List Nat) (i : Nat) : List (List Nat) := (((w.take i).filter (isFirst n w)).map (fun p => (p, blkLen n w p))).map pairOf
theorem blocksTo_len (n : Nat) (w : List Nat) (i : Nat) : (blocksTo n w i).length ≤ i := by
  unfold blocksTo
  rw [List.length_map, List.length_map]
  refine Nat.le_trans (List.length_filter_le _ _) ?_
  rw [List.length_take]
  omega
theorem blocksTo_yes {n : Nat} {w : List Nat} {i p : Nat} (h : w[i]? = some p) (f : isFirst n w p = true) : blocksTo n w (i + 1) = blocksTo n w i ++ [[p, blkLen n w p]] := by
  unfold blocksTo
  rw [take_succ h, filter_snoc, if_pos f]
  simp [pairOf]
theorem blocksTo_no {n : Nat} {w : List Nat} {i p : Nat} (h : w[i]? = some p) (f : ¬ isFirst n w p = true) : blocksTo n w (i + 1) = blocksTo n w i := by
  unfold blocksTo
  rw [take_succ h, filter_snoc, if_neg f]
theorem ok_blocks {f : Addr} {fd : FuncData} (F : Fun K "blocks_of" "blocks_of" sBlocks f fd) (B : Bl mg) : FnOk P w K mg base CX0 1 f fd ["size", "one"] spBlocks := by
  refine F.ok scBlocks (fun vs H Q E h => ?_) (fun cdv A outer s H vs Q E hr h => ?_)
  · obtain ⟨_, _, _, rfl, _⟩ := h
    rfl
  · obtain ⟨n, v, l, rfl, h2, h9, ⟨⟨a, rfl, ha⟩, hs⟩, hl, q⟩ := h
    refine ⟨_, pss_cons (ps_if (pt_cmpR op_eq (pe_callB call_len_seq (by rfl) B.len boot_len (pa_cons (pv 1) pa_nil)) (pv 0) (nomark _)) (pss_one ps_never) pss_nil)
      (pss_cons (ps_set (i := 2) scBlocks.nd rfl (Or.inl rfl) (pe_lst pa_nil))
      (pss_cons (ps_for PassesOwn.never rfl (pi_tup (pv 1)) (pg_name (i := 3) scBlocks.nd rfl (Or.inl rfl))
        (pss_one (ps_if (pt_cmpR op_notIn_seq (pe_op op_mod (pe_op op_sub (pv 3) pe_int) (pv 0)) (pv 1) (by rfl))
          (pss_cons (ps_set (i := 4) scBlocks.nd rfl (Or.inl rfl) pe_int)
          (pss_cons (ps_while PassesOwn.never (pt_cmpR op_in_seq (pe_op op_mod (pe_op op_add (pv 3) (pv 4)) (pv 0)) (pv 1) (by rfl))
            (pss_one (ps_set (i := 4) scBlocks.nd rfl (Or.inl rfl) (pe_op op_add (pv 4) pe_int))))
          (pss_one (ps_expr (pe_bm PySem.F.plainAttrs_list PySem.F.slot_list_append PySem.F.type_list_append mt_append (pv 2) (pa_cons (pe_tup (pa_cons (pv 3) (pa_cons (pv 4) pa_nil))) pa_nil)))))) pss_nil)))
      (pss_one (ps_ret (pv 2))))), ?_⟩
    refine ⟨_, rfl, a, nv l, rfl, .inr (.inl (.inl ha)), _, rfl, rfl, _, rfl, ?_⟩
    rw [decide_eq_false (show ¬ V.int ((nv l).length : Nat) = ni n from fun e => by
      have e := V.int.inj e
      rw [nv_len] at e
      omega)]
    refine iteF ?_
    refine ⟨Nat.zero_le _, fun D nD => ?_⟩
    have kD : Kp H (upd H D (.lst [])) := (Kp.refl H).put nD
    refine ⟨_, rfl, a, rfl, ⟨_, .inl (.inl (kD.tup ha))⟩, for_tup (K := K) (a := a) (xs := nv l) (fun i σ H' => (∃ y3 y4, σ = [some (ni n), some (.ref a), some (.ref D), y3, y4]) ∧ Kp H H' ∧ ∃ xs, H' D = some (.lst xs) ∧ TupsN H' xs (blocksTo n l i)) ⟨⟨_, _, rfl⟩, kD, [], upd_same, .nil⟩ (fun i σ H' _ h => .inl (.inl (h.2.1.tup ha))) ?_ ?_⟩
    · rintro i y σ H' hy ⟨⟨y3, y4, rfl⟩, k1, xs, hD, hx⟩
      obtain ⟨p, hp, rfl⟩ := nv_get' hy
      have hpn : p < n := hs.lt p (List.mem_of_getElem? hp)
      have hn0 : (0 : Int) < (n : Int) := by omega
      refine ⟨_, rfl, _, _, rfl, rfl, _, rfl, _, _, rfl, rfl, hn0, _, rfl, a, nv l, rfl, .inr (.inl (.inl (k1.tup ha))), rfl, nv_flat l, _, rfl, ?_⟩
      have eM : inV (.int (((p : Int) - 1) % (n : Int))) (nv l) = has ((p + (n - 1)) % n) l := by rw [mod_pred h2]; exact inV_nat _ _
      show if (!inV (.int (((p : Int) - 1) % (n : Int))) (nv l)) = true then _ else _
      rw [eM]
      show if isFirst n l p = true then _ else _
      by_cases hF : isFirst n l p = true
      · rw [if_pos hF]
        obtain ⟨j0, hj0, hg⟩ := gap_on hl hpn
        have hj1 : 1 ≤ j0 := Nat.pos_of_ne_zero fun e => hg (by rw [e, Nat.add_zero, Nat.mod_eq_of_lt hpn]; exact List.mem_of_getElem? hp)
        refine ⟨fun m σ H' => ∃ (L : Nat) (y5 : Option V), σ = [some (ni n), some (.ref a), some (.ref D), some (ni p), some (ni L)] ∧ Kp H H' ∧ (∃ xs, H' D = some (.lst xs) ∧ TupsN H' xs (blocksTo n l i)) ∧ L ≤ j0 ∧ L + m = n + 1 ∧ runLen n l p m L = blkLen n l p, ⟨n, 1, y4, rfl, k1, ⟨xs, hD, hx⟩, hj1, by omega, rfl⟩, ?_⟩
        rintro m σ2 H2 ⟨L, y5, rfl, k2, ⟨xs2, hD2, hx2⟩, hL, hm, hrun⟩
        refine ⟨_, rfl, _, rfl, _, _, rfl, rfl, _, rfl, _, _, rfl, rfl, hn0, _, rfl, a, nv l, rfl, .inr (.inl (.inl (k2.tup ha))), rfl, nv_flat l, _, rfl, ?_⟩
        show if (inV (.int (((p : Int) + (L : Int)) % (n : Int))) (nv l)) = true then _ else _
        rw [mod_add]
        rw [show inV (.int (((p + L) % n : Nat) : Int)) (nv l) = has ((p + L) % n) l from inV_nat _ _]
        obtain ⟨m, rfl⟩ : ∃ m', m = m' + 1 := ⟨m - 1, by omega⟩
        by_cases hh : has ((p + L) % n) l = true
        · rw [if_pos hh]
          have hne : L ≠ j0 := fun e => hg (by rw [← e]; exact has_iff.mp hh)
          refine ⟨fun σ' H' => ∃ (y5 : Option V), σ' = [some (ni n), some (.ref a), some (.ref D), some (ni p), some (ni (L + 1))] ∧ Kp H H' ∧ (∃ xs, H' D = some (.lst xs) ∧ TupsN H' xs (blocksTo n l i)), fun σ' H' ⟨y5, e1, e2, e3⟩ => ⟨m, Nat.lt_succ_self m, L + 1, y5, e1, e2, e3, by omega, by omega, by rw [← run_at hh]; exact hrun⟩, ?_⟩
          exact ⟨_, rfl, _, _, rfl, rfl, y5, rfl, k2, xs2, hD2, hx2⟩
        · rw [if_neg hh]
          have hb : blkLen n l p = L := by rw [← hrun]; exact run_end (by simpa using hh)
          refine ⟨_, rfl, .inl ⟨rfl, _, .inl (.inl hD2)⟩, _, rfl, _, rfl, (by show 2 ≤ sizeLine; exact small_line (by decide)), fun t ht => ?_⟩
          have hDt : D ≠ t := ne_of_none hD2 ht
          have k3 : Kp H (upd H2 t (.tup [ni p, ni L])) := k2.trans (.new ht)
          have hx3 : TupsN (upd H2 t (.tup [ni p, ni L])) xs2 (blocksTo n l i) := hx2.kp (.new ht)
          have hD3 : upd H2 t (.tup [ni p, ni L]) D = some (.lst xs2) := by rw [upd_ne hDt]; exact hD2
          have hlen := paired_len hx2
          refine ⟨D, xs2, _, rfl, rfl, hD3, lt_line ?_, ⟨_, _, rfl⟩, k3.put nD, _, upd_same, ?_⟩
          · have := blocksTo_len n l i
            have := (List.getElem?_eq_some_iff.mp hp).1
            have := set_len hs
            omega
          · rw [blocksTo_yes hp hF, hb]
            exact TupsN.put hD3 (paired_app hx3 (.cons ⟨t, rfl, upd_same⟩ .nil))
      · rw [if_neg hF]
        exact ⟨⟨_, _, rfl⟩, k1, xs, hD, by rw [blocksTo_no hp hF]; exact hx⟩
    · rintro σ H' ⟨⟨y3, y4, rfl⟩, k1, xs, hD, hx⟩
      refine ⟨_, rfl, q D xs H' k1 hD ?_⟩
      rw [nv_len] at hx
      unfold blocksTo at hx
      rw [List.take_length] at hx
      exact hx
end
end T27
end
section
set_option Elab.async false
set_option linter.all false
set_option maxRecDepth 100000
set_option maxHeartbeats 4000000
namespace T27
open PySem PySem.Spec PyProof.Rows L2 M27
theorem pg_tupK {X : Cx} {K : PySem.W.Frag} {pos : Pos} {es : List Expr} {k : Nat} {t : TGs} {n : Nat} (hc : X.calm = true) (h : PGs X es t) (hK : X.K = K := by rfl)
    (hn : (assignEach es X.env).length = n := by rfl) (hst : (assignEach es X.env).findIdx? (·.1) = none := by rfl) : PG X (.Tuple es k pos) (gTup K n t) := by
  subst hK; exact pg_tup hc h hn hst
theorem run_le (n p : Nat) (w : List Nat) : ∀ f L, runLen n w p f L ≤ L + f
  | 0, L => Nat.le_refl _
  | f + 1, L => by
    unfold runLen
    split
    · have := run_le n p w f (L + 1)
      omega
    · omega
theorem blk_le (n p : Nat) (w : List Nat) : blkLen n w p ≤ n + 1 := by
  have := run_le n p w n 1
  unfold blkLen
  omega
theorem int_bound {n : Nat} (h : n ≤ 1000000) : -(2 ^ 62) ≤ (n : Int) ∧ (n : Int) < 2 ^ 62 := by omega
section
variable {P : Program} {w : World} {K : PySem.W.Frag} {mg : Str → Option Value} {base : Heap}
/-! ### block_places -/
theorem LstN.put {H : Hp} {v : V} {l : List Nat} {D : Addr} {o : HO} (h : v ≠ .ref D) (t : LstN H v l) : LstN (upd H D o) v l := by
  obtain ⟨a, rfl, ha⟩ := t
  exact ⟨a, rfl, by rw [upd_ne fun q => h (by rw [q])]; exact ha⟩
/-- lists of naturals, none at D -/
def LstsF (D : Addr) (H : Hp) (xs : List V) (L : List (List Nat)) : Prop := Paired (fun v l => LstN H v l ∧ v ≠ .ref D) xs L
theorem LstsF.lsts {D : Addr} {H : Hp} {xs : List V} {L : List (List Nat)} (h : LstsF D H xs L) : LstsN H xs L := Paired.mapP h fun _ _ q => q.1
theorem LstsF.kp {D : Addr} {H H' : Hp} {xs : List V} {L : List (List Nat)} (k : Kp H H') (h : LstsF D H xs L) : LstsF D H' xs L := Paired.mapP h fun _ _ q => ⟨q.1.kp k, q.2⟩
theorem LstsF.put {D : Addr} {H : Hp} {o : HO} {xs : List V} {L : List (List Nat)} (h : LstsF D H xs L) : LstsF D (upd H D o) xs L := Paired.mapP h fun _ _ q => ⟨q.1.put q.2, q.2⟩
def spPlaces : Sp := fun vs H Q _ => ∃ (n : Nat) (v : V) (l : List Nat), vs = [ni n, v] ∧ 2 ≤ n ∧ n ≤ 9 ∧ SetN H v n l ∧ l.length < n ∧ ∀ a xs H', Kp H H' → H' a = some (.lst xs) → LstsN H' xs (blockPlaces n l) → Q (.ref a) H'
theorem ok_places {f : Addr} {fd : FuncData} (F : Fun K "block_places" "block_places" sPlaces f fd) (B : Bl mg) (I : Kept P w K mg base 1 "blocks_of" spBlocks) : FnOk P w K mg base CX0 2 f fd ["size", "whole"] spPlaces := by
  refine F.ok scPlaces (fun vs H Q E h => ?_) (fun cdv A outer s H vs Q E hr h => ?_)
  · obtain ⟨_, _, _, rfl, _⟩ := h
    rfl
  · obtain ⟨n, v, l, rfl, h2, h9, hs, hl, q⟩ := h
    refine ⟨_, pss_one (ps_ret (pe_lc (own := [("first", 2), ("length", 3)]) (g := gTup K 2 (gCons (gName 2) (gCons (gName 3) gNil))) (tt := tYes) rfl scPlaces.nd (pi_list (pe_k I hr (by decide) (by rfl) (pa_cons (pv 0) (pa_cons (pv 1) pa_nil)))) (blkOk_by (by show blkC ["size", "whole", "first", "length", "k"] (defScope sPlaces) _ _ = true; decide +kernel))
      (fun _ _ _ _ _ => pg_tupK rfl (pgs_cons (pg_name (i := 2) scPlaces.nd rfl (Or.inr rfl)) (pgs_cons (pg_name (i := 3) scPlaces.nd rfl (Or.inl rfl)) pgs_nil)))
      (fun _ _ _ _ _ => pts_nil)
      (fun _ _ _ _ _ => pe_lc (own := [("k", 4)]) (g := gName 4) (tt := tYes) rfl scPlaces.nd (pi_range1 (by rfl) B.range (pa_cons (pv 3) pa_nil)) (blkOk_by (sc := relS _ (defScope sPlaces)) (by show blkC ["size", "whole", "first", "length", "k"] (relS _ (defScope sPlaces)) _ _ = true; decide +kernel))
        (fun _ _ _ _ _ => pg_name (i := 4) scPlaces.nd rfl (Or.inl rfl)) (fun _ _ _ _ _ => pts_nil) (fun _ _ _ _ _ => pe_op op_mod (pe_op op_add (pv 2) (pv 4)) (pv 0))))), ?_⟩
    refine ⟨_, rfl, _, rfl, n, v, l, rfl, h2, h9, hs, hl, fun a xs H1 k1 ha hx => ⟨a, rfl, ⟨xs, .inl (.inl ha)⟩, fun D nD => ?_⟩⟩
    have hlen : xs.length = (blocks n l).length := by rw [paired_len hx, List.length_map]
    have hb9 : (blocks n l).length ≤ 9 := by
      unfold blocks
      rw [List.length_map]
      have := List.length_filter_le (isFirst n l) l
      have := set_len hs.2
      omega
    have hDa : a ≠ D := ne_of_none ha nD
    refine lc_list (K := K) (a := a) (xs := xs) (fun i H' => Kp H1 H' ∧ ∃ ys, H' D = some (.lst ys) ∧ LstsF D H' ys (((blocks n l).take i).map (placesOf n))) ⟨(Kp.refl H1).put nD, [], upd_same, .nil⟩ (fun i H' _ h => .inl (.inl (h.1.lst ha))) ?_ ?_
    · rintro i y H2 hy ⟨k2, ys, hD, hys⟩
      obtain ⟨c, hc, t, rfl, ht⟩ := paired_get hx hy
      rw [List.getElem?_map] at hc
      obtain ⟨b, hb, rfl⟩ := Option.map_eq_some_iff.mp hc
      have hbm := List.mem_of_getElem? hb
      have hb2 : b.2 ≤ n + 1 := by
        unfold blocks at hbm
        obtain ⟨p, _, rfl⟩ := List.mem_map.mp hbm
        exact blk_le n p l
      have hn0 : (0 : Int) < (n : Int) := by omega
      refine ⟨t, [ni b.1, ni b.2], rfl, .inl (.inl (k2.tup ht)), rfl, _, _, rfl, _, _, rfl, rfl, rfl, ?_⟩
      show _
      refine ⟨_, rfl, (b.2 : Int), rfl, (int_bound (by omega)).1, (int_bound (by omega)).2, fun D2 nD2 => ?_⟩
      have hD2 : D ≠ D2 := ne_of_none hD nD2
      rw [Int.toNat_natCast]
      refine lc_range (fun k H' => Kp H2 H' ∧ H' D2 = some (.lst (nv ((List.range k).map fun k => (b.1 + k) % n)))) ⟨(Kp.refl H2).put nD2, upd_same⟩ ?_ ?_
      · rintro k H3 hk ⟨k3, h3⟩
        refine ⟨rfl, ?_⟩
        refine ⟨_, rfl, _, rfl, _, _, rfl, rfl, _, rfl, _, _, rfl, rfl, hn0, _, h3, ?_, k3.put nD2, ?_⟩
        · rw [nv_len, List.length_map, List.length_range]
          exact lt_line (by omega)
        · rw [upd_same, Int.zero_add]
          show some (HO.lst (nv _ ++ [V.int (((b.1 : Int) + (k : Int)) % (n : Int))])) = _
          rw [mod_add, List.range_succ]
          simp [nv]
      · rintro H3 ⟨k3, h3⟩
        refine ⟨ys, k3.lst hD, ?_, ?_, ys ++ [.ref D2], upd_same, ?_⟩
        · rw [paired_len hys, List.length_map, List.length_take]
          exact lt_line (by omega)
        · exact (k2.trans k3).put nD
        · rw [take_succ hb, List.map_append]
          refine LstsF.put (paired_app (hys.kp k3) (.cons ⟨⟨D2, rfl, h3⟩, fun e => hD2 (V.ref.inj e).symm⟩ .nil))
    · rintro H2 ⟨k2, ys, hD, hys⟩
      rw [hlen, List.take_length] at hys
      exact q D ys H2 (k1.trans k2) hD hys.lsts
/-! ### gap_ranks -/
def spGaps : Sp := fun vs H Q _ => ∃ (v u : V) (ps o : List Nat), vs = [v, u] ∧ LstN H v ps ∧ TupN H u o ∧ ps.length ≤ 100 ∧ ∀ a H', Kp H H' → H' a = some (.lst (nv (gapRanks ps o))) → Q (.ref a) H'
theorem gaps_succ {ps o : List Nat} {i x : Nat} (h : ps[i]? = some x) : gapsTo ps o (i + 1) = if has x o = true then gapsTo ps o i else gapsTo ps o i ++ [i] := by
  unfold gapsTo
  rw [List.range_succ, filter_snoc, List.getD_eq_getElem?_getD, h]
  show (if (!has x o) = true then _ else _) = _
  cases has x o <;> rfl
theorem gaps_len (ps o : List Nat) (i : Nat) : (gapsTo ps o i).length ≤ i := by
  unfold gapsTo
  refine Nat.le_trans (List.length_filter_le _ _) ?_
  rw [List.length_range]
  exact Nat.le_refl _
theorem ok_gaps {f : Addr} {fd : FuncData} (F : Fun K "gap_ranks" "gap_ranks" sGaps f fd) (B : Bl mg) : FnOk P w K mg base CX0 1 f fd ["places", "one"] spGaps := by
  refine F.ok scGaps (fun vs H Q E h => ?_) (fun cdv A outer s H vs Q E hr h => ?_)
  · obtain ⟨_, _, _, _, rfl, _⟩ := h
    rfl
  · obtain ⟨v, u, ps, o, rfl, ⟨a, rfl, ha⟩, ⟨b, rfl, hb⟩, hl, q⟩ := h
    refine ⟨_, pss_one (ps_ret (pe_lc (own := [("rank", 2), ("place", 3)]) (g := gTup K 2 (gCons (gName 2) (gCons (gName 3) gNil))) rfl scGaps.nd (pi_enum (by rfl) B.enum (pa_cons (pv 0) pa_nil)) (blkOk_by (by show blkC ["places", "one", "rank", "place"] (defScope sGaps) _ _ = true; decide +kernel))
      (fun _ _ _ _ _ => pg_tupK rfl (pgs_cons (pg_name (i := 2) scGaps.nd rfl (Or.inl rfl)) (pgs_cons (pg_name (i := 3) scGaps.nd rfl (Or.inl rfl)) pgs_nil)))
      (fun _ _ _ _ _ => pts_one (pt_cmpR (op_notInK K) (pv 3) (pv 1) (by rfl))) (fun _ _ _ _ _ => pv 2))), ?_⟩
    refine ⟨_, rfl, a, nv ps, rfl, .inl (.inl ha), fun D nD => ?_⟩
    refine lc_enum (K := K) (a := a) (xs := nv ps) (fun i H' => Kp H H' ∧ H' D = some (.lst (nv (gapsTo ps o i)))) ⟨(Kp.refl H).put nD, upd_same⟩ (fun i H' _ h => .inl (.inl (h.1.lst ha))) ?_ ?_
    · rintro i y H2 T hy ⟨k2, hD⟩ hT
      obtain ⟨x, hx, rfl⟩ := nv_get' hy
      have k3 : Kp H (upd H2 T (.tup [ni i, ni x])) := k2.trans (.new hT)
      have hDT : D ≠ T := ne_of_none hD hT
      refine ⟨T, [ni i, ni x], rfl, .inl (.inl upd_same), rfl, _, _, rfl, _, _, rfl, rfl, rfl, ?_⟩
      refine ⟨_, rfl, _, rfl, b, nv o, rfl, .inr (.inl (.inl (k3.tup hb))), rfl, nv_flat o, _, rfl, ?_⟩
      show if (!inV (ni x) (nv o)) = true then _ else _
      rw [inV_nat]
      have hD3 : upd H2 T (.tup [ni i, ni x]) D = some (.lst (nv (gapsTo ps o i))) := by rw [upd_ne hDT]; exact hD
      by_cases hh : has x o = true
      · rw [if_neg (by rw [hh]; decide)]
        refine ⟨k3, ?_⟩
        rw [gaps_succ hx, if_pos hh]
        exact hD3
      · rw [if_pos (by simpa using hh)]
        refine ⟨_, rfl, _, hD3, ?_, k3.put nD, ?_⟩
        · rw [nv_len]
          have := gaps_len ps o i
          have := (List.getElem?_eq_some_iff.mp hx).1
          exact lt_line (by omega)
        · rw [upd_same, gaps_succ hx, if_neg hh]
          simp [nv]
    · rintro H2 ⟨k2, hD⟩
      rw [nv_len] at hD
      exact q D H2 k2 hD
end
end T27
end
section
set_option Elab.async false
set_option linter.all false
set_option maxRecDepth 100000
set_option maxHeartbeats 4000000
namespace T27
open PySem PySem.Spec PyProof.Rows L2 M27
/-! ### the rows of ranks -/
theorem low_nil : lowRank [] = 0 := rfl
theorem low_snoc (r : List Nat) (x : Nat) : lowRank (r ++ [x]) = x + 1 := by
  unfold lowRank
  rw [List.getLast?_append]
  simp
theorem at_last (r : List Nat) (x : Nat) : atI (nv (r ++ [x])) (-1) = some (ni x) := by
  have e : nv (r ++ [x]) = nv r ++ [ni x] := by simp [nv]
  rw [e]
  unfold atI ixN
  rw [if_neg (by decide), List.length_append, List.length_singleton, if_pos (by omega)]
  rw [show (-1 + ((((nv r).length + 1 : Nat)) : Int)).toNat = (nv r).length by omega]
  simp
theorem row_cases (row : List Nat) : row = [] ∨ ∃ r x, row = r ++ [x] := by
  cases e : row.reverse with
  | nil => exact .inl (List.reverse_eq_nil_iff.mp e)
  | cons x r => exact .inr ⟨r.reverse, x, by rw [← List.reverse_reverse row, e, List.reverse_cons]⟩
/-- entries at most b -/
def RowB (b m : Nat) (L : List (List Nat)) : Prop := ∀ row ∈ L, row.length ≤ m ∧ ∀ x ∈ row, x ≤ b
theorem rowB_step {b m g : Nat} {L : List (List Nat)} (hg : g ≤ b) (h : RowB b m L) : RowB b (m + 1) (rankStep L g) := by
  intro row hr
  unfold rankStep at hr
  obtain ⟨r, h1, h2⟩ := List.mem_flatMap.mp hr
  unfold extRow at h2
  obtain ⟨k, hk, rfl⟩ := List.mem_map.mp h2
  have hk := List.mem_range.mp hk
  obtain ⟨h3, h4⟩ := h r h1
  refine ⟨by rw [List.length_append, List.length_singleton]; omega, fun x hx => ?_⟩
  rcases List.mem_append.mp hx with q | q
  · exact h4 x q
  · rw [List.mem_singleton.mp q]
    omega
theorem rowB_fold {b : Nat} : ∀ (gs : List Nat) (L : List (List Nat)) (m : Nat), (∀ g ∈ gs, g ≤ b) → RowB b m L → RowB b (m + gs.length) (gs.foldl rankStep L)
  | [], L, m, _, h => h
  | g :: gs, L, m, hg, h => by
    have z := rowB_fold gs (rankStep L g) (m + 1) (fun x hx => hg x (List.mem_cons_of_mem _ hx)) (rowB_step (hg g List.mem_cons_self) h)
    rw [List.length_cons, show m + (gs.length + 1) = m + 1 + gs.length by omega]
    exact z
theorem rowB_rank {b : Nat} {gs : List Nat} (hg : ∀ g ∈ gs, g ≤ b) : RowB b gs.length (rankRows gs) := by
  have z := rowB_fold gs [[]] 0 hg (fun row h => by rw [List.mem_singleton.mp h]; exact ⟨Nat.le_refl _, fun x hx => by cases hx⟩)
  rw [Nat.zero_add] at z
  exact z
theorem rank_succ {gs : List Nat} {i g : Nat} (h : gs[i]? = some g) : rankRows (gs.take (i + 1)) = rankStep (rankRows (gs.take i)) g := by
  unfold rankRows
  rw [take_succ h, List.foldl_append]
  rfl
theorem small_at : ∀ {gs : List Nat} {L : List (List Nat)} {i g : Nat}, smallRows L gs = true → gs[i]? = some g → (rankStep ((gs.take i).foldl rankStep L) g).length ≤ 100
  | [], L, i, g, _, h => by simp at h
  | a :: gs, L, i, g, s, h => by
    unfold smallRows at s
    simp only [Bool.and_eq_true] at s
    cases i with
    | zero =>
      have e : a = g := Option.some.inj h
      subst e
      exact Nat.le_of_ble_eq_true s.1
    | succ i => exact small_at (gs := gs) (L := rankStep L a) s.2 h
theorem step_to {L : List (List Nat)} {g j : Nat} {row : List Nat} (h : L[j]? = some row) : (L.take (j + 1)).flatMap (extRow g) = (L.take j).flatMap (extRow g) ++ extRow g row := by
  rw [take_succ h, List.flatMap_append]
  simp
theorem step_len {α β : Type} {L : List α} {f : α → List β} (j : Nat) : ((L.take j).flatMap f).length ≤ (L.flatMap f).length := by
  have e : L.flatMap f = (L.take j).flatMap f ++ (L.drop j).flatMap f := by rw [← List.flatMap_append, List.take_append_drop]
  rw [e, List.length_append]
  omega
theorem ext_len {g : Nat} {row : List Nat} : (extRow g row).length = g + 1 - lowRank row := by unfold extRow; rw [List.length_map, List.length_range]
section
variable {P : Program} {w : World} {K : PySem.W.Frag} {mg : Str → Option Value} {base : Heap}
theorem low_tE {σ : L2.St} {H : Hp} {Q : VK} {t : Addr} {row : List Nat} (h4 : σ[4]? = some (some (.ref t))) (ht : H t = some (.tup (nv row))) (q : Q (ni (lowRank row)) H) :
    tIf (fun σ H Q => tVar 4 σ H fun x H' => ∃ k, TruV K x H' k ∧ Q k H') (tOp (rI0 fun i j => .int (i + j)) (tOp (rIxT K) (tVar 4) (tUn (rU fun i => .int (-i)) (tC (.int 1)))) (tC (.int 1))) (tC (.int 0)) σ H Q := by
  refine ⟨_, h4, !(nv row).isEmpty, .inr (.inl ⟨_, .inl (.inl ht), rfl⟩), ?_⟩
  rcases row_cases row with e | ⟨r, x, e⟩
  · subst e
    exact q
  · subst e
    have z : (!(nv (r ++ [x])).isEmpty) = true := by simp [nv]
    rw [z]
    rw [low_snoc] at q
    refine ite_tt ⟨_, h4, 1, rfl, t, _, -1, _, rfl, rfl, .inl (.inl ht), at_last r x, _, _, rfl, rfl, ?_⟩
    exact q
theorem low_rng {σ : L2.St} {H : Hp} {R : It → Hp → Prop} {t : Addr} {row : List Nat} {g : Nat} (h4 : σ[4]? = some (some (.ref t))) (h2 : σ[2]? = some (some (ni g))) (ht : H t = some (.tup (nv row))) (hg : g ≤ 1000) (hl : lowRank row ≤ 1001) (q : R (Itr (lowRank row : Int) (g + 1 - lowRank row)) H) :
    iRng2 (tCons (tIf (fun σ H Q => tVar 4 σ H fun x H' => ∃ k, TruV K x H' k ∧ Q k H') (tOp (rI0 fun i j => .int (i + j)) (tOp (rIxT K) (tVar 4) (tUn (rU fun i => .int (-i)) (tC (.int 1)))) (tC (.int 1))) (tC (.int 0))) (tCons (tOp (rI0 fun i j => .int (i + j)) (tVar 2) (tC (.int 1))) tNil)) σ H R := by
  have hlo : ((g : Int) + 1 - (lowRank row : Int)).toNat = g + 1 - lowRank row := by omega
  refine low_tE (K := K) h4 ht ?_
  refine ⟨_, h2, _, _, rfl, rfl, (lowRank row : Int), (g : Int) + 1, rfl, ⟨(int_bound (by omega)).1, (int_bound (by omega)).2, by omega, by omega⟩, ?_⟩
  rw [hlo]
  exact q
def spRows : Sp := fun vs H Q _ => ∃ (v : V) (gs : List Nat), vs = [v] ∧ LstN H v gs ∧ gs.length ≤ 100 ∧ (∀ g ∈ gs, g ≤ 1000) ∧ smallRows [[]] gs = true ∧ ∀ a xs H', Kp H H' → H' a = some (.lst xs) → TupsN H' xs (rankRows gs) → Q (.ref a) H'
theorem ok_rows {f : Addr} {fd : FuncData} (F : Fun K "rank_rows" "rank_rows" sRows f fd) (B : Bl mg) : FnOk P w K mg base CX0 1 f fd ["gaps"] spRows := by
  refine F.ok scRows (fun vs H Q E h => ?_) (fun cdv A outer s H vs Q E hr h => ?_)
  · obtain ⟨_, _, rfl, _⟩ := h
    rfl
  · obtain ⟨v, gs, rfl, ⟨a, rfl, ha⟩, hl, hg, hsm, q⟩ := h
    refine ⟨_, pss_cons (ps_set (i := 1) scRows.nd rfl (Or.inl rfl) (pe_lst (pa_cons (pe_tup pa_nil) pa_nil)))
      (pss_cons (ps_for PassesOwn.never rfl (pi_list (pv 0)) (pg_name (i := 2) scRows.nd rfl (Or.inl rfl))
        (pss_cons (ps_set (i := 3) scRows.nd rfl (Or.inl rfl) (pe_lst pa_nil))
        (pss_cons (ps_for PassesOwn.never rfl (pi_list (pv 1)) (pg_name (i := 4) scRows.nd rfl (by first | exact Or.inl rfl | exact Or.inr rfl))
          (pss_one (ps_set (i := 3) scRows.nd rfl (Or.inl rfl) (pe_op op_cat (pv 3) (pe_lc (own := [("rank", 5)]) (g := gName 5) (tt := tYes) rfl scRows.nd
            (pi_range2 (by rfl) B.range (pa_cons (pe_ifExp (pt_truth (pv 4) (fun _ => rfl)) (pe_op op_add (pe_ix ix_tup (pv 4) (pe_un un_neg pe_int) (fun _ _ => rfl)) pe_int) pe_int) (pa_cons (pe_op op_add (pv 2) pe_int) pa_nil)))
            (blkOk_by (by show blkC ["gaps", "found", "gap", "more", "row", "rank"] (defScope sRows) _ _ = true; decide +kernel))
            (fun _ _ _ _ _ => pg_name (i := 5) scRows.nd rfl (Or.inl rfl)) (fun _ _ _ _ _ => pts_nil)
            (fun _ _ _ _ _ => pe_tup (pa_starK K (pv 4) (pa_cons (pv 5) pa_nil))))))))
        (pss_one (ps_set (i := 1) scRows.nd rfl (Or.inl rfl) (pv 3))))))
      (pss_one (ps_ret (pv 1)))), ?_⟩
    refine ⟨Nat.zero_le _, fun T0 nT0 => ⟨(by show 1 ≤ sizeLine; exact small_line (by decide)), fun D0 nD0 => ?_⟩⟩
    have kT : Kp H (upd H T0 (.tup [])) := .new nT0
    have kD := kT.trans (.new nD0 (o := .lst [V.ref T0]))
    have hT0 : upd (upd H T0 (.tup [])) D0 (.lst [.ref T0]) T0 = some (.tup (nv [])) := (Kp.new nD0).tup upd_same
    refine ⟨_, rfl, a, rfl, ⟨_, .inl (.inl (kD.lst ha))⟩, for_list (K := K) (a := a) (xs := nv gs) (fun i σ H' => (∃ D y2 y3 y4 y5 xs, σ = [some (.ref a), some (.ref D), y2, y3, y4, y5] ∧ H' D = some (.lst xs) ∧ TupsN H' xs (rankRows (gs.take i))) ∧ Kp H H')
      ⟨⟨D0, _, _, _, _, [.ref T0], rfl, upd_same, .cons ⟨T0, rfl, hT0⟩ .nil⟩, kD⟩ (fun i σ H' _ h => .inl (.inl (h.2.lst ha))) ?_ ?_⟩
    · rintro i y σ H' hy ⟨⟨D, y2, y3, y4, y5, xs, rfl, hD, hx⟩, k1⟩
      obtain ⟨g, hgi, rfl⟩ := nv_get' hy
      have hg1 : g ≤ 1000 := hg g (List.mem_of_getElem? hgi)
      have hil : i < gs.length := (List.getElem?_eq_some_iff.mp hgi).1
      have hstep := small_at hsm hgi
      have hB : RowB 1000 (gs.take i).length (rankRows (gs.take i)) := rowB_rank fun z hz => hg z (List.mem_of_mem_take hz)
      refine ⟨Nat.zero_le _, fun M0 nM0 => ?_⟩
      have kM : Kp H' (upd H' M0 (.lst [])) := .new nM0
      refine ⟨_, rfl, D, rfl, ⟨xs, .inl (.inl (kM.lst hD))⟩, for_list (K := K) (a := D) (xs := xs) (fun j σ H2 => (∃ M y4 y5 ms, σ = [some (.ref a), some (.ref D), some (ni g), some (.ref M), y4, y5] ∧ H2 M = some (.lst ms) ∧ TupsN H2 ms (((rankRows (gs.take i)).take j).flatMap (extRow g))) ∧ Kp H' H2)
        ⟨⟨M0, _, _, [], rfl, upd_same, .nil⟩, kM⟩ (fun i σ H' _ h => .inl (.inl (h.2.lst hD))) ?_ ?_⟩
      · rintro j y σ H2 hy ⟨⟨M, y4, y5, ms, rfl, hM, hms⟩, k2⟩
        obtain ⟨row, hrow, t, rfl, ht⟩ := paired_get hx hy
        have hrB := hB row (List.mem_of_getElem? hrow)
        have hrl : row.length ≤ 100 := by
          have := hrB.1
          have := List.length_take_le i gs
          omega
        have hlow : lowRank row ≤ 1001 := by
          rcases row_cases row with e | ⟨r, x, e⟩
          · rw [e]; exact Nat.zero_le _
          · rw [e, low_snoc]
            have := hrB.2 x (by rw [e]; simp)
            omega
        have ht2 := k2.tup ht
        have hgl : (extRow g row).length = g + 1 - lowRank row := ext_len
        refine ⟨_, rfl, ?_⟩
        refine low_rng (K := K) (g := g) rfl rfl ht2 hg1 hlow fun D2 nD2 => ?_
        refine lc_range (fun k H3 => Kp H2 H3 ∧ ∃ ys, H3 D2 = some (.lst ys) ∧ TupsN H3 ys ((List.range k).map fun k => row ++ [lowRank row + k])) ⟨(Kp.refl H2).put nD2, [], upd_same, .nil⟩ ?_ ?_
        · rintro k H3 hk ⟨k3, ys, h3, hys⟩
          refine ⟨rfl, ?_⟩
          refine ⟨_, rfl, t, nv row, rfl, .inl (.inl (.inl (k3.tup ht2))), _, rfl, ?_⟩
          refine ⟨?_, fun p np => ?_⟩
          · rw [List.length_append, nv_len]
            exact small_line (by show row.length + 1 ≤ _; omega)
          · have hp : D2 ≠ p := ne_of_none h3 np
            have k4 := k3.trans (.new np (o := .tup (nv row ++ [ni (lowRank row + k)])))
            have e : nv (row ++ [lowRank row + k]) = nv row ++ [V.int ((lowRank row : Int) + (k : Int))] := by
              unfold nv
              rw [List.map_append]
              show _ ++ [V.int ((lowRank row + k : Nat) : Int)] = _
              rw [Int.natCast_add]
            refine ⟨ys, by rw [upd_ne hp]; exact h3, ?_, ?_, ys ++ [.ref p], upd_same, ?_⟩
            · rw [paired_len hys, List.length_map, List.length_range]
              exact lt_line (by omega)
            · exact (k3.trans (.new np)).put nD2
            · rw [List.range_succ, List.map_append]
              have h3' : upd H3 p (.tup (nv row ++ [V.int ((lowRank row : Int) + (k : Int))])) D2 = some (.lst ys) := by rw [upd_ne hp]; exact h3
              exact TupsN.put h3' (paired_app (hys.kp (.new np)) (.cons ⟨p, rfl, by rw [e]; exact upd_same⟩ .nil))
        · rintro H3 ⟨k3, ys, h3, hys⟩
          have hap : TupsN H3 (ms ++ ys) (((rankRows (gs.take i)).take (j + 1)).flatMap (extRow g)) := by
            rw [step_to hrow]
            exact paired_app (hms.kp k3) hys
          have hln : ms.length + ys.length ≤ 100 := by
            have := paired_len hap
            rw [List.length_append] at this
            have z := step_len (L := rankRows (gs.take i)) (f := extRow g) (j + 1)
            have z2 : ((rankRows (gs.take i)).flatMap (extRow g)).length ≤ 100 := hstep
            omega
          refine ⟨M, D2, ms, ys, rfl, rfl, k3.lst hM, h3, small_line (by omega), fun p np => ?_⟩
          exact ⟨⟨p, _, y5, ms ++ ys, rfl, upd_same, hap.kp (.new np)⟩, (k2.trans k3).trans (.new np)⟩
      · rintro σ H2 ⟨⟨M, y4, y5, ms, rfl, hM, hms⟩, k2⟩
        refine ⟨_, rfl, ⟨M, _, _, _, _, ms, rfl, hM, ?_⟩, k1.trans k2⟩
        rw [rank_succ hgi]
        rw [paired_len hx, List.take_length] at hms
        exact hms
    · rintro σ H' ⟨⟨D, y2, y3, y4, y5, xs, rfl, hD, hx⟩, k1⟩
      rw [nv_len, List.take_length] at hx
      exact ⟨_, rfl, q D xs H' k1 hD hx⟩
end
end T27
end
section
set_option Elab.async false
set_option linter.all false
set_option maxRecDepth 100000
set_option maxHeartbeats 4000000
namespace T27
open PySem PySem.Spec PyProof.Rows L2 M27
/-! ### the fold over the blocks -/
structure SmallAt (o : List Nat) (L : List (List Nat)) (ps : List Nat) : Prop where
  len : ps.length ≤ 7
  row : ∀ row ∈ rankRows (gapRanks ps o), ∀ k ∈ row, k < ps.length
  rows : (rankRows (gapRanks ps o)).length ≤ 100
  step : (blkStep o L ps).length ≤ 100
theorem smallAt_of : ∀ {bs : List (List Nat)} {L : List (List Nat)} {o : List Nat} {i : Nat} {ps : List Nat}, small o L bs = true → bs[i]? = some ps → SmallAt o ((bs.take i).foldl (blkStep o) L) ps
  | [], L, o, i, ps, _, h => by simp at h
  | a :: bs, L, o, i, ps, s, h => by
    unfold small at s
    simp only [Bool.and_eq_true] at s
    obtain ⟨⟨⟨⟨s1, s2⟩, s3⟩, s4⟩, s5⟩ := s
    cases i with
    | zero =>
      have e : a = ps := Option.some.inj h
      subst e
      refine ⟨Nat.le_of_ble_eq_true s1, fun row hr k hk => ?_, Nat.le_of_ble_eq_true s3, Nat.le_of_ble_eq_true s4⟩
      rw [List.all_eq_true] at s2
      have z := s2 row hr
      rw [List.all_eq_true] at z
      have q := z k hk
      simpa [Nat.blt, Nat.lt_iff_add_one_le] using q
    | succ i => exact smallAt_of (bs := bs) (L := blkStep o L a) s5 h
theorem fold_succ {bs : List (List Nat)} {o : List Nat} {L : List (List Nat)} {i : Nat} {ps : List Nat} (h : bs[i]? = some ps) : (bs.take (i + 1)).foldl (blkStep o) L = blkStep o ((bs.take i).foldl (blkStep o) L) ps := by
  rw [take_succ h, List.foldl_append]
  rfl
theorem blk_len {o : List Nat} {L : List (List Nat)} {ps : List Nat} {m : Nat} (h7 : ps.length ≤ 7) (h : ∀ s ∈ L, s.length ≤ m) : ∀ s ∈ blkStep o L ps, s.length ≤ m + 7 := by
  intro s hs
  unfold blkStep at hs
  obtain ⟨row, h1, h2⟩ := List.mem_flatMap.mp hs
  unfold rowWith at h2
  obtain ⟨s', h3, rfl⟩ := List.mem_map.mp h2
  have hB : RowB 1000 (gapRanks ps o).length (rankRows (gapRanks ps o)) := rowB_rank fun g hg => by
    unfold gapRanks gapsTo at hg
    have := List.mem_range.mp (List.mem_filter.mp hg).1
    omega
  have := (hB row h1).1
  have hg := gaps_len ps o ps.length
  have := h s' h3
  have : (pick ps row).length = row.length := by unfold pick; rw [List.length_map]
  unfold gapRanks at *
  rw [List.length_append]
  omega
theorem with_to {L : List (List Nat)} {ps : List Nat} {found : List (List Nat)} {j : Nat} {row : List Nat} (h : L[j]? = some row) : (L.take (j + 1)).flatMap (rowWith ps found) = (L.take j).flatMap (rowWith ps found) ++ rowWith ps found row := by
  rw [take_succ h, List.flatMap_append]
  simp
theorem sorted_nat {js : List Int} {s : List Nat} (p : js.Perm (s.map fun x : Nat => (x : Int))) (h : js.Pairwise (· ≤ ·)) : js.map V.int = nv (isort s) := by
  have hF : Paired (fun (x : Int) (y : Nat) => x = (y : Int)) (s.map fun x : Nat => (x : Int)) s := by
    clear p h
    induction s with
    | nil => exact .nil
    | cons x t ih => exact .cons rfl ih
  obtain ⟨d, hd, hP⟩ := paired_perm p hF
  have e : js = d.map fun x : Nat => (x : Int) := by
    clear p h hd hF
    induction hP with
    | nil => rfl
    | cons r _ ih => rw [List.map_cons, ← ih, r]
  have hs : d.Pairwise (· ≤ ·) := by
    rw [e, List.pairwise_map] at h
    exact h.imp fun q => by omega
  rw [e, isort_of hd hs, ← nv_ints]
theorem map_succ {α β : Type} {L : List α} {f : α → β} {k : Nat} {x : α} (h : L[k]? = some x) : (L.take (k + 1)).map f = (L.take k).map f ++ [f x] := by
  rw [take_succ h, List.map_append]
  rfl
theorem getD_of {l : List Nat} {k : Nat} (h : k < l.length) : l[k]? = some (l.getD k 0) := by
  rw [List.getD_eq_getElem?_getD, List.getElem?_eq_getElem h]
  rfl
theorem cr_sortedITK {X : Cx} (K : PySem.W.Frag) (h : X.K = K := by rfl) : CallR X (.builtin "sorted") (rSortedIT K) := by subst h; exact cr_sortedIT
theorem cr_sortTupK {X : Cx} (K : PySem.W.Frag) (hu : X.A.units + 64 < cLine) (h : X.K = K := by rfl) : CallR X (.builtin "sorted") (rSortTup K) := by subst h; exact cr_sortTup hu
section
variable {P : Program} {w : World} {K : PySem.W.Frag} {mg : Str → Option Value} {base : Heap}
def spAllOf (T : Addr) : Sp := fun vs H Q _ => ∃ (n : Nat) (v u : V) (l o : List Nat), vs = [ni n, v, u] ∧ 2 ≤ n ∧ n ≤ 9 ∧ SetN H v n l ∧ l.length < n ∧ SetN H u n o ∧ GxR.TabG H T ∧ (within o l = true → Good n l o) ∧
  ∀ a xs L H', Kp H H' → H' a = some (.lst xs) → TupsN H' xs L → (∀ x, x ∈ L ↔ x ∈ brute n l o) → L.length ≤ 100 → Q (.ref a) H'
theorem ok_allof {f T : Addr} {fd : FuncData} (F : Fun K "all_of" "all_of" sAllOf f fd) (B : Bl mg) (W : Kept P w K mg base 1 "lies_in" (spLies T)) (BP : Kept P w K mg base 2 "block_places" spPlaces) (GR : Kept P w K mg base 1 "gap_ranks" spGaps) (RR : Kept P w K mg base 1 "rank_rows" spRows) :
    FnOk P w K mg base CX0 3 f fd ["size", "whole", "one"] (spAllOf T) := by
  refine F.ok scAllOf (fun vs H Q E h => ?_) (fun cdv A outer s H vs Q E hr h => ?_)
  · obtain ⟨_, _, _, _, _, rfl, _⟩ := h
    rfl
  · obtain ⟨n, v, u, l, o, rfl, h2, h9, hs, hl, ho, ht, hG, q⟩ := h
    refine ⟨_, pss_cons (ps_if (pt_not (pt_val (pe_k W hr (by decide) (by rfl) (pa_cons (pv 1) (pa_cons (pv 2) pa_nil))))) (pss_one (ps_ret (pe_lst pa_nil))) pss_nil)
      (pss_cons (ps_set (i := 3) scAllOf.nd rfl (Or.inl rfl) (pe_lst (pa_cons (pe_tup pa_nil) pa_nil)))
      (pss_cons (ps_for PassesOwn.never rfl (pi_list (pe_k BP hr (by decide) (by rfl) (pa_cons (pv 0) (pa_cons (pv 1) pa_nil)))) (pg_name (i := 4) scAllOf.nd rfl (by first | exact Or.inl rfl | exact Or.inr rfl))
        (pss_cons (ps_set (i := 5) scAllOf.nd rfl (Or.inl rfl) (pe_lst pa_nil))
        (pss_cons (ps_for PassesOwn.never rfl (pi_list (pe_k RR hr (by decide) (by rfl) (pa_cons (pe_k GR hr (by decide) (by rfl) (pa_cons (pv 4) (pa_cons (pv 2) pa_nil))) pa_nil))) (pg_name (i := 6) scAllOf.nd rfl (by first | exact Or.inl rfl | exact Or.inr rfl))
          (pss_one (ps_set (i := 5) scAllOf.nd rfl (Or.inl rfl) (pe_op op_cat (pv 5) (pe_lc (own := [("some", 7)]) (g := gName 7) (tt := tYes) rfl scAllOf.nd (pi_list (pv 3))
            (blkOk_by (by show blkC ["size", "whole", "one", "found", "places", "more", "row", "some", "rank"] (defScope sAllOf) _ _ = true; decide +kernel))
            (fun _ _ _ _ _ => pg_name (i := 7) scAllOf.nd rfl (by first | exact Or.inl rfl | exact Or.inr rfl)) (fun _ _ _ _ _ => pts_nil)
            (fun _ _ _ _ _ => pe_tup (pa_starK K (pv 7) (pa_starK K (pe_lc (own := [("rank", 8)]) (g := gName 8) (tt := tYes) rfl scAllOf.nd (pi_tupK K (pv 6))
              (blkOk_by (sc := relS _ (defScope sAllOf)) (by show blkC ["size", "whole", "one", "found", "places", "more", "row", "some", "rank"] (relS _ (defScope sAllOf)) _ _ = true; decide +kernel))
              (fun _ _ _ _ _ => pg_name (i := 8) scAllOf.nd rfl (Or.inl rfl)) (fun _ _ _ _ _ => pts_nil) (fun _ _ _ _ _ => pe_ix (ix_listK K) (pv 4) (pv 8) (fun _ _ => rfl))) pa_nil))))))))
        (pss_one (ps_set (i := 3) scAllOf.nd rfl (Or.inl rfl) (pv 5))))))
      (pss_one (ps_ret (pe_callB (cr_sortTupK K (by have := hr.un; show A.units + 3 + 64 < cLine; have h1 : A.units + 3 + 16 * 2 + 200 < cLine := this; omega)) (by rfl) B.sorted (by decide +kernel) (pa_cons (pe_lc (own := [("some", 7)]) (g := gName 7) (tt := tYes) rfl scAllOf.nd (pi_list (pv 3))
            (blkOk_by (by show blkC ["size", "whole", "one", "found", "places", "more", "row", "some", "rank"] (defScope sAllOf) _ _ = true; decide +kernel))
            (fun _ _ _ _ _ => pg_name (i := 7) scAllOf.nd rfl (by first | exact Or.inl rfl | exact Or.inr rfl)) (fun _ _ _ _ _ => pts_nil)
            (fun _ _ _ _ _ => pe_callTy (call_tupK K) (by rfl) B.tuple boot_tuple (pa_cons (pe_callB (cr_sortedITK K) (by rfl) B.sorted (by decide +kernel) (pa_cons (pv 7) pa_nil)) pa_nil))) pa_nil)))))), ?_⟩
    refine ⟨_, rfl, _, rfl, v, u, l, o, rfl, hs.1, ho.1, ht, fun H1 k1 => ⟨_, rfl, ?_⟩⟩
    cases hw : within o l with
    | false =>
      refine ite_tt ⟨Nat.zero_le _, fun p np => q p [] [] _ (k1.trans (.new np)) upd_same .nil (fun x => ⟨fun z => (nomatch z), fun z => absurd z (brute_none ho.2.nodup hl hw x)⟩) (Nat.zero_le _)⟩
    | true =>
    have G := hG hw
    refine iteF ?_
    refine ⟨Nat.zero_le _, fun T0 nT0 => ⟨(by show 1 ≤ sizeLine; exact small_line (by decide)), fun D0 nD0 => ?_⟩⟩
    have kD := (Kp.new nT0 (o := .tup [])).trans (.new nD0 (o := .lst [V.ref T0]))
    have hT0 : upd (upd H1 T0 (.tup [])) D0 (.lst [.ref T0]) T0 = some (.tup (nv [])) := (Kp.new nD0).tup upd_same
    refine ⟨_, rfl, _, rfl, n, v, l, rfl, h2, h9, hs.kp (k1.trans kD), hl, fun b bs H2 k2 hb hbs => ⟨b, rfl, ⟨bs, .inl (.inl hb)⟩, ?_⟩⟩
    have hk : Kp H H2 := (k1.trans kD).trans k2
    have hblen : bs.length = (blockPlaces n l).length := paired_len hbs
    have hb9 : (blockPlaces n l).length ≤ 9 := by
      unfold blockPlaces blocks
      rw [List.length_map, List.length_map]
      have := List.length_filter_le (isFirst n l) l
      have := set_len hs.2
      omega
    refine for_list (K := K) (a := b) (xs := bs) (fun i σ H3 => (∃ D y4 y5 y6 xs, σ = [some (ni n), some v, some u, some (.ref D), y4, y5, y6, none, none] ∧ H3 D = some (.lst xs) ∧ TupsN H3 xs (((blockPlaces n l).take i).foldl (blkStep o) [[]])) ∧ Kp H2 H3 ∧
        (((blockPlaces n l).take i).foldl (blkStep o) [[]]).length ≤ 100 ∧ ∀ s ∈ ((blockPlaces n l).take i).foldl (blkStep o) [[]], s.length ≤ 7 * i)
      ⟨⟨D0, _, _, _, [.ref T0], rfl, k2.lst upd_same, .cons ⟨T0, rfl, k2.tup hT0⟩ .nil⟩, .refl _, (by show 1 ≤ 100; decide), fun s hs => by rw [List.mem_singleton.mp hs]; exact Nat.zero_le _⟩ (fun i σ H' _ h => .inl (.inl (h.2.1.lst hb))) ?_ ?_
    · rintro i y σ H3 hy ⟨⟨D, y4, y5, y6, xs, rfl, hD, hx⟩, k3, hlen, hlong⟩
      obtain ⟨ps, hps, t, rfl, ht3⟩ := paired_get hbs hy
      have hi : i < (blockPlaces n l).length := (List.getElem?_eq_some_iff.mp hps).1
      obtain ⟨s1, s2, s3, s4⟩ := smallAt_of G.small hps
      have hrows := G.rows ps (List.mem_of_getElem? hps)
      generalize hL : ((blockPlaces n l).take i).foldl (blkStep o) [[]] = L at *
      refine ⟨Nat.zero_le _, fun M0 nM0 => ?_⟩
      have kM : Kp H3 (upd H3 M0 (.lst [])) := .new nM0
      refine ⟨_, rfl, _, rfl, .ref t, u, ps, o, rfl, ⟨t, rfl, (k3.trans kM).lst ht3⟩, ho.1.kp (hk.trans (k3.trans kM)), by omega, fun g H4 k4 hg => ?_⟩
      have hgl := gaps_len ps o ps.length
      refine ⟨.ref g, gapRanks ps o, rfl, ⟨g, rfl, hg⟩, by show (gapsTo ps o ps.length).length ≤ 100; omega, fun z hz => ?_, hrows, fun r rs H5 k5 hr5 hrs => ⟨r, rfl, ⟨rs, .inl (.inl hr5)⟩, ?_⟩⟩
      · unfold gapRanks gapsTo at hz
        have := List.mem_range.mp (List.mem_filter.mp hz).1
        omega
      have k35 : Kp H3 H5 := (kM.trans k4).trans k5
      have hM0 : H5 M0 = some (.lst []) := (k4.trans k5).lst upd_same
      refine for_list (K := K) (a := r) (xs := rs) (fun j σ H6 => (∃ M y6 ms, σ = [some (ni n), some v, some u, some (.ref D), some (.ref t), some (.ref M), y6, none, none] ∧ H6 M = some (.lst ms) ∧ TupsN H6 ms (((rankRows (gapRanks ps o)).take j).flatMap (rowWith ps L))) ∧ Kp H5 H6)
        ⟨⟨M0, _, [], rfl, hM0, .nil⟩, .refl _⟩ (fun i σ H' _ h => .inl (.inl (h.2.lst hr5))) ?_ ?_
      · rintro j y σ H6 hy ⟨⟨M, y6, ms, rfl, hM, hms⟩, k6⟩
        obtain ⟨row, hrow, t2, rfl, ht2⟩ := paired_get hrs hy
        have hrm := List.mem_of_getElem? hrow
        have hrl : row.length ≤ 7 := by
          have hB : RowB 1000 (gapRanks ps o).length (rankRows (gapRanks ps o)) := rowB_rank fun g hg => by
            unfold gapRanks gapsTo at hg
            have := List.mem_range.mp (List.mem_filter.mp hg).1
            omega
          have := (hB row hrm).1
          unfold gapRanks at this
          omega
        have hD6 : H6 D = some (.lst xs) := (k35.trans k6).lst hD
        have hx6 : TupsN H6 xs L := hx.kp (k35.trans k6)
        have hr6 : H6 t2 = some (.tup (nv row)) := k6.tup ht2
        have hp6 : H6 t = some (.lst (nv ps)) := (k3.trans (k35.trans k6)).lst ht3
        refine ⟨_, rfl, _, rfl, D, rfl, ⟨xs, .inl (.inl hD6)⟩, fun D2 nD2 => ?_⟩
        refine lc_list (K := K) (a := D) (xs := xs) (fun k H7 => Kp H6 H7 ∧ ∃ ys, H7 D2 = some (.lst ys) ∧ TupsN H7 ys ((L.take k).map fun s => s ++ pick ps row)) ⟨(Kp.refl H6).put nD2, [], upd_same, .nil⟩ (fun i H' _ h => .inl (.inl (h.1.lst hD6))) ?_ ?_
        · rintro k y H7 hy ⟨k7, ys, hD7, hys⟩
          obtain ⟨sm, hsm, t4, rfl, ht4⟩ := paired_get hx6 hy
          have hsl := hlong sm (List.mem_of_getElem? hsm)
          refine ⟨rfl, ?_⟩
          refine ⟨_, rfl, t4, nv sm, rfl, .inl (.inl (.inl (k7.tup ht4))), ?_⟩
          refine ⟨_, rfl, t2, rfl, ⟨_, .inl (.inl (k7.tup hr6))⟩, fun D3 nD3 => ?_⟩
          refine lc_tup (K := K) (a := t2) (xs := nv row) (fun m H8 => Kp H7 H8 ∧ H8 D3 = some (.lst (nv ((row.take m).map fun r => ps.getD r 0)))) ⟨(Kp.refl H7).put nD3, upd_same⟩ (fun i H' _ h => .inl (.inl (h.1.tup (k7.tup hr6)))) ?_ ?_
          · rintro m y H8 hy ⟨k8, h8⟩
            obtain ⟨rk, hrk, rfl⟩ := nv_get' hy
            have hkl := s2 row hrm rk (List.mem_of_getElem? hrk)
            refine ⟨rfl, ?_⟩
            refine ⟨_, rfl, _, rfl, t, nv ps, _, _, rfl, rfl, .inl (.inl ((k7.trans k8).lst hp6)), atI_nat (nv_get (getD_of hkl)), _, h8, ?_, k8.put nD3, ?_⟩
            · rw [nv_len, List.length_map, List.length_take]
              exact lt_line (by omega)
            · rw [upd_same, map_succ hrk]
              simp [nv]
          · rintro H8 ⟨k8, h8⟩
            rw [nv_len, List.take_length] at h8
            refine ⟨D3, _, rfl, .inr (.inl (.inl h8)), ?_⟩
            refine ⟨?_, fun p np => ?_⟩
            · rw [List.append_nil, List.length_append, nv_len, nv_len, List.length_map]
              exact small_line (by omega)
            · have h82 := k8.lst hD7
              have hp : D2 ≠ p := ne_of_none h82 np
              have k78 := k8.trans (.new np (o := .tup (nv sm ++ (nv (row.map fun r => ps.getD r 0) ++ []))))
              have e : nv (sm ++ pick ps row) = nv sm ++ (nv (row.map fun r => ps.getD r 0) ++ []) := by unfold nv pick; simp
              refine ⟨ys, by rw [upd_ne hp]; exact h82, ?_, (k7.trans k78).put nD2, ys ++ [.ref p], upd_same, ?_⟩
              · rw [paired_len hys, List.length_map, List.length_take]
                exact lt_line (by omega)
              · rw [map_succ hsm]
                have h3' : upd H8 p (.tup (nv sm ++ (nv (row.map fun r => ps.getD r 0) ++ []))) D2 = some (.lst ys) := by rw [upd_ne hp]; exact h82
                exact TupsN.put h3' (paired_app (hys.kp k78) (.cons ⟨p, rfl, by rw [e]; exact upd_same⟩ .nil))
        · rintro H7 ⟨k7, ys, hD7, hys⟩
          rw [paired_len hx6, List.take_length] at hys
          have hap : TupsN H7 (ms ++ ys) (((rankRows (gapRanks ps o)).take (j + 1)).flatMap (rowWith ps L)) := by
            rw [with_to hrow]
            exact paired_app (hms.kp k7) hys
          have hln : ms.length + ys.length ≤ 100 := by
            have := paired_len hap
            rw [List.length_append] at this
            have z := step_len (L := rankRows (gapRanks ps o)) (f := rowWith ps L) (j + 1)
            have z2 : ((rankRows (gapRanks ps o)).flatMap (rowWith ps L)).length ≤ 100 := s4
            omega
          refine ⟨M, D2, ms, ys, rfl, rfl, k7.lst hM, hD7, small_line (by omega), fun p np => ?_⟩
          exact ⟨⟨p, _, ms ++ ys, rfl, upd_same, hap.kp (.new np)⟩, (k6.trans k7).trans (.new np)⟩
      · rintro σ H6 ⟨⟨M, y6, ms, rfl, hM, hms⟩, k6⟩
        rw [paired_len hrs, List.take_length] at hms
        have e := fold_succ (o := o) (L := [[]]) hps
        rw [hL] at e
        refine ⟨_, rfl, ⟨M, _, _, _, ms, rfl, hM, by rw [e]; exact hms⟩, k3.trans (k35.trans k6), by rw [e]; exact s4, fun s hs => ?_⟩
        rw [e] at hs
        have := blk_len s1 hlong s hs
        omega
    · rintro σ H3 ⟨⟨D, y4, y5, y6, xs, rfl, hD, hx⟩, k3, hlen, hlong⟩
      rw [hblen, List.take_length] at hx hlen hlong
      have hx : TupsN H3 xs (allRaw n l o) := hx
      have hlen : (allRaw n l o).length ≤ 100 := hlen
      have hsz : ∀ s ∈ allRaw n l o, s.length + o.length = l.length := fun s hs => by
        have z := (mem_brute.mp ((G.same _).mp (List.mem_map.mpr ⟨s, hs, rfl⟩))).2.1
        rw [(isort_perm s).length_eq] at z
        exact z
      refine ⟨_, rfl, D, rfl, ⟨xs, .inl (.inl hD)⟩, fun D2 nD2 => ?_⟩
      refine lc_list (K := K) (a := D) (xs := xs) (fun k H4 => Kp H3 H4 ∧ ∃ ys, H4 D2 = some (.lst ys) ∧ TupsN H4 ys (((allRaw n l o).take k).map isort)) ⟨(Kp.refl H3).put nD2, [], upd_same, .nil⟩ (fun i H' _ h => .inl (.inl (h.1.lst hD))) ?_ ?_
      · rintro k y H4 hy ⟨k4, ys, hD4, hys⟩
        obtain ⟨sm, hsm, t4, rfl, ht4⟩ := paired_get hx hy
        have hsl := hsz sm (List.mem_of_getElem? hsm)
        refine ⟨rfl, ?_⟩
        refine ⟨_, rfl, t4, sm.map fun x : Nat => (x : Int), rfl, ?_, ?_, fun js p hp hps np => ?_⟩
        · rw [← nv_ints]
          exact .inl (.inl (k4.tup ht4))
        · rw [List.length_map]
          omega
        · refine ⟨p, js.map V.int, rfl, .inl ⟨.inl (.inl upd_same), fun r nr => ?_⟩⟩
          have hp2 : D2 ≠ p := ne_of_none hD4 np
          have h4p : upd H4 p (.lst (js.map V.int)) D2 = some (.lst ys) := by rw [upd_ne hp2]; exact hD4
          have hr2 : D2 ≠ r := ne_of_none h4p nr
          have k42 := (Kp.new np (o := .lst (js.map V.int))).trans (.new nr (o := .tup (js.map V.int)))
          have h5 : upd (upd H4 p (.lst (js.map V.int))) r (.tup (js.map V.int)) D2 = some (.lst ys) := by rw [upd_ne hr2]; exact h4p
          refine ⟨ys, h5, ?_, (k4.trans k42).put nD2, ys ++ [.ref r], upd_same, ?_⟩
          · rw [paired_len hys, List.length_map, List.length_take]
            exact lt_line (by omega)
          · rw [map_succ hsm]
            exact TupsN.put h5 (paired_app (hys.kp k42) (.cons ⟨r, rfl, by rw [← sorted_nat hp hps]; exact upd_same⟩ .nil))
      · rintro H4 ⟨k4, ys, hD4, hys⟩
        rw [paired_len hx, List.take_length] at hys
        refine ⟨D2, ys, _, rfl, .inl (.inl hD4), tupsN_at hys, ?_, fun zs p hz np => ?_⟩
        · cases hA : allRaw n l o with
          | nil => exact .inl fun z hz => (nomatch hz)
          | cons s0 r0 =>
            by_cases h0 : l.length = o.length
            · refine .inr ⟨(r0.map isort).map fun l => l.map fun x : Nat => (x : Int), ?_⟩
              have e : s0 = [] := List.eq_nil_of_length_eq_zero (by have := hsz s0 (by rw [hA]; exact List.mem_cons_self); omega)
              rw [e]
              rfl
            · refine .inl fun z hz => ?_
              obtain ⟨z1, hz1, rfl⟩ := List.mem_map.mp hz
              obtain ⟨z2, hz2, rfl⟩ := List.mem_map.mp hz1
              rw [← hA] at hz2
              have e1 := hsz z2 hz2
              have e2 := (isort_perm z2).length_eq
              intro e
              have e3 : (isort z2).length = 0 := by rw [List.map_eq_nil_iff.mp e]; rfl
              omega
        · obtain ⟨L', hL', hP⟩ := paired_perm hz hys
          refine q p zs L' _ (((hk.trans k3).trans k4).trans (.new np)) upd_same (TupsN.kp (.new np) hP) (fun x => ?_) ?_
          · rw [hL'.mem_iff]
            exact G.same x
          · rw [hL'.length_eq, List.length_map]
            exact hlen
end
end T27
end
section
set_option Elab.async false
set_option linter.all false
set_option maxRecDepth 100000
set_option maxHeartbeats 4000000
namespace T27
open PySem PySem.Spec PyProof.Rows L2 M27
section
variable {X : Cx} (K : PySem.W.Frag)
theorem cr_minK' (hc : X.calm = true) (h : X.K = K := by rfl) : CallR X (.builtin "min") (rMin K) := by subst h; exact cr_min hc
theorem cr_maxK' (hc : X.calm = true) (h : X.K = K := by rfl) : CallR X (.builtin "max") (rMax K) := by subst h; exact cr_max hc
theorem gsrc_tupK {iter : Expr} {te : TE} (hi : PE X iter te) (h : X.K = K := by rfl) : GSrc X iter (fun σ H R => te σ H fun x H1 => ∃ a xs, x = .ref a ∧ SqT K H1 a xs ∧ R xs H1) := by subst h; exact gsrc_tup hi
end
/-! ### the answers about colors -/
structure RedMin (n : Nat) (l o r : List Nat) (m : Nat) : Prop where
  ex : ∃ x ∈ brute n l o, redOf r x = m
  all : ∀ x ∈ brute n l o, m ≤ redOf r x
structure RedMax (n : Nat) (l o r : List Nat) (m : Nat) : Prop where
  ex : ∃ x ∈ brute n l o, redOf r x = m
  all : ∀ x ∈ brute n l o, redOf r x ≤ m
def priceOf (ps : List Int) (x : List Nat) : Int := (x.map fun p => ps.getD p 0).sum
structure PriceMin (n : Nat) (l o r : List Nat) (ps : List Int) (k : Nat) (m : Int) : Prop where
  ex : ∃ x ∈ brute n l o, redOf r x = k ∧ priceOf ps x = m
  all : ∀ x ∈ brute n l o, redOf r x = k → m ≤ priceOf ps x
theorem filter_snoc' {α : Type} {l : List α} {f : α → Bool} {x : α} : (l ++ [x]).filter f = if f x = true then l.filter f ++ [x] else l.filter f := by
  rw [List.filter_append]
  by_cases h : f x = true
  · rw [if_pos h]; simp [List.filter_cons, h]
  · rw [if_neg h]; simp [List.filter_cons, h]
theorem take_len_le {α : Type} (l : List α) (f : α → Bool) (i : Nat) : ((l.take i).filter f).length ≤ l.length := by
  refine Nat.le_trans (List.length_filter_le _ _) ?_
  rw [List.length_take]
  omega
theorem brute_len {n : Nat} {l o x : List Nat} (h : x ∈ brute n l o) : x.length ≤ l.length := by
  have := (mem_brute.mp h).2.1
  omega
theorem brute_set {n : Nat} {l o x : List Nat} (h : x ∈ brute n l o) : IsSet n x := (mem_brute.mp h).1
section
variable {P : Program} {w : World} {K : PySem.W.Frag} {mg : Str → Option Value} {base : Heap}
/-! ### red_range -/
def spRange (T1 T2 : Addr) : Sp := fun vs H Q _ => ∃ (n : Nat) (v u r : V) (l o reds : List Nat), vs = [ni n, v, u, r] ∧ 2 ≤ n ∧ n ≤ 9 ∧ SetN H v n l ∧ l.length < n ∧ SetN H u n o ∧ SetN H r n reds ∧ GxR.TabG H T1 ∧ GxR.TabG H T2 ∧ (within o l = true → Good n l o) ∧
  ((∀ x, x ∉ brute n l o) → ∀ H', Kp H H' → Q .non H') ∧ ∀ lo hi t H', Kp H H' → H' t = some (.tup [ni lo, ni hi]) → RedMin n l o reds lo → RedMax n l o reds hi → Q (.ref t) H'
theorem ok_range {f T1 T2 : Addr} {fd : FuncData} (F : Fun K "red_range" "red_range" sRange f fd) (B : Bl mg) (NT : Kept P w K mg base 5 "need_terms" (spNeedTerms T1)) (NS : Kept P w K mg base 4 "need_set" (spNeedSet T1)) (AO : Kept P w K mg base 3 "all_of" (spAllOf T2)) (RC : Kept P w K mg base 1 "red_count" spRed) :
    FnOk P w K mg base CX0 6 f fd ["size", "whole", "one", "reds"] (spRange T1 T2) := by
  refine F.ok scRange (fun vs H Q E h => ?_) (fun cdv A outer s H vs Q E hr h => ?_)
  · obtain ⟨_, _, _, _, _, _, _, rfl, _⟩ := h
    rfl
  · obtain ⟨n, v, u, r, l, o, reds, rfl, h2, h9, hs, hl, ho, hrd, ht1, ht2, hG, qN, qT⟩ := h
    refine ⟨_, pss_cons (ps_expr (pe_k NT hr (by decide) (by rfl) (pa_cons (pv 0) (pa_cons (pv 1) (pa_cons (pv 2) pa_nil)))))
      (pss_cons (ps_expr (pe_k NS hr (by decide) (by rfl) (pa_cons (pv 0) (pa_cons (pv 3) pa_nil))))
      (pss_cons (ps_setLc (i := 4) (own := [("part", 5)]) (g := gName 5) (tt := tYes) rfl scRange.nd rfl rfl (sw_true rfl rfl rfl (by decide +kernel)) (pi_list (pe_k AO hr (by decide) (by rfl) (pa_cons (pv 0) (pa_cons (pv 1) (pa_cons (pv 2) pa_nil)))))
        (blkOk_by (by show blkC ["size", "whole", "one", "reds", "some", "part"] (defScope sRange) _ _ = true; decide +kernel))
        (fun _ _ _ _ _ => pg_name (i := 5) scRange.nd rfl (by first | exact Or.inl rfl | exact Or.inr rfl)) (fun _ _ _ _ _ => pts_nil)
        (fun _ _ _ _ _ => pe_k RC hr (by decide) (by rfl) (pa_cons (pv 3) (pa_cons (pv 5) pa_nil))))
      (pss_one (ps_ret (pe_ifExp (pt_truth (pv 4) (fun _ => rfl)) (pe_tup (pa_cons (pe_callB (cr_minK' K rfl) (by rfl) B.min (by decide +kernel) (pa_cons (pv 4) pa_nil)) (pa_cons (pe_callB (cr_maxK' K rfl) (by rfl) B.max (by decide +kernel) (pa_cons (pv 4) pa_nil)) pa_nil))) pe_non))))), ?_⟩
    refine ⟨_, rfl, _, rfl, _, rfl, n, v, u, l, o, rfl, h2, h9, hs, hl, ho, ht1, fun H1 k1 => ?_⟩
    refine ⟨_, rfl, _, rfl, n, r, reds, rfl, h9, hrd.kp k1, k1.tab _ ht1, fun H2 k2 => ?_⟩
    have k12 := k1.trans k2
    refine ⟨_, rfl, _, rfl, _, rfl, n, v, u, l, o, rfl, h2, h9, hs.kp k12, hl, ho.kp k12, k12.tab _ ht2, hG, fun a xs L H3 k3 ha hx hL hlen => ⟨a, rfl, ⟨xs, .inl (.inl ha)⟩, fun D nD => ?_⟩⟩
    have k13 := k12.trans k3
    refine lc_list (K := K) (a := a) (xs := xs) (fun i H4 => Kp H3 H4 ∧ H4 D = some (.lst (nv ((L.take i).map (redOf reds))))) ⟨(Kp.refl H3).put nD, upd_same⟩ (fun i H' _ h => .inl (.inl (h.1.lst ha))) ?_ ?_
    · rintro i y H4 hy ⟨k4, hD⟩
      obtain ⟨x, hxi, t, rfl, ht⟩ := paired_get hx hy
      have hxb := brute_len ((hL x).mp (List.mem_of_getElem? hxi))
      refine ⟨rfl, ?_⟩
      refine ⟨_, rfl, _, rfl, r, .ref t, reds, x, rfl, hrd.1.kp (k13.trans k4), ⟨t, rfl, k4.tup ht⟩, by omega, fun H5 k5 => ?_⟩
      refine ⟨_, k5.lst hD, ?_, (k4.trans k5).put nD, ?_⟩
      · rw [nv_len, List.length_map, List.length_take]
        exact lt_line (by omega)
      · rw [upd_same, map_succ hxi]
        simp [nv]
    · rintro H4 ⟨k4, hD⟩
      rw [paired_len hx, List.take_length] at hD
      refine ⟨_, rfl, !(nv (L.map (redOf reds))).isEmpty, .inl ⟨_, .inl (.inl hD), rfl⟩, ?_⟩
      have kk := k13.trans k4
      cases hE : L with
      | nil =>
        refine ite_ff (qN (fun x hx => ?_) H4 kk)
        have := (hL x).mpr hx
        rw [hE] at this
        cases this
      | cons x0 L0 =>
        refine ite_tt ?_
        have hpos : 0 < ((L.map (redOf reds)).map fun x : Nat => (x : Int)).length := by rw [hE]; simp
        have hD' : H4 D = some (.lst (((L.map (redOf reds)).map fun x : Nat => (x : Int)).map V.int)) := by rw [← nv_ints]; exact hD
        refine ⟨_, rfl, D, _, rfl, .inl (.inl hD'), hpos, fun lo hlo hlo2 => ?_⟩
        refine ⟨_, rfl, D, _, rfl, .inl (.inl hD'), hpos, fun hi hhi hhi2 => ?_⟩
        obtain ⟨a1, ha1, rfl⟩ := List.mem_map.mp hlo
        obtain ⟨x1, hx1, rfl⟩ := List.mem_map.mp ha1
        obtain ⟨a2, ha2, rfl⟩ := List.mem_map.mp hhi
        obtain ⟨x2, hx2, rfl⟩ := List.mem_map.mp ha2
        refine ⟨(by show 2 ≤ sizeLine; exact small_line (by decide)), fun t nt => qT _ _ t _ (kk.trans (.new nt)) upd_same ⟨⟨x1, (hL _).mp hx1, rfl⟩, fun x hx => ?_⟩ ⟨⟨x2, (hL _).mp hx2, rfl⟩, fun x hx => ?_⟩⟩
        · have := hlo2 ((redOf reds x : Nat) : Int) (List.mem_map.mpr ⟨_, List.mem_map.mpr ⟨x, (hL x).mpr hx, rfl⟩, rfl⟩)
          omega
        · have := hhi2 ((redOf reds x : Nat) : Int) (List.mem_map.mpr ⟨_, List.mem_map.mpr ⟨x, (hL x).mpr hx, rfl⟩, rfl⟩)
          omega
/-! ### cheap_colored -/
def spCheap (T1 T2 Tp Tc : Addr) : Sp := fun vs H Q _ => ∃ (n : Nat) (v u p r : V) (k : Nat) (l o reds : List Nat) (ps : List Int), vs = [ni n, v, u, p, r, ni k] ∧ 2 ≤ n ∧ n ≤ 9 ∧ SetN H v n l ∧ l.length < n ∧ SetN H u n o ∧ IntsT H p ps ∧ PriceOk n ps ∧ SetN H r n reds ∧ k ≤ 9 ∧
  GxR.TabG H T1 ∧ GxR.TabG H T2 ∧ GxR.TabG H Tp ∧ GxR.TabG H Tc ∧ (within o l = true → Good n l o) ∧
  ((∀ x ∈ brute n l o, redOf reds x ≠ k) → ∀ H', Kp H H' → Q .non H') ∧ ∀ m H', Kp H H' → PriceMin n l o reds ps k m → Q (.int m) H'
theorem IntsT.get {H : Hp} {v : V} {l : List Int} {i : Nat} (hi : i < l.length) : (l.map V.int)[i]? = some (.int (l.getD i 0)) := by
  rw [List.getElem?_map, List.getD_eq_getElem?_getD, List.getElem?_eq_getElem hi]
  rfl
theorem price_get {ps : List Int} {B : Int} (h : ∀ x ∈ ps, -B ≤ x ∧ x ≤ B) (hB : 0 ≤ B) (i : Nat) : -B ≤ ps.getD i 0 ∧ ps.getD i 0 ≤ B := by
  rw [List.getD_eq_getElem?_getD]
  cases e : ps[i]? with
  | none => show -B ≤ 0 ∧ 0 ≤ B; omega
  | some x => exact h x (List.mem_of_getElem? e)
theorem ok_cheap {f fI c T1 T2 Tp Tc : Addr} {fd fdI : FuncData} (F : FunC K "cheap_colored" "cheap_colored" sCheap f fd c) (B : Bl mg) (TB : GxR.TabB base mg c Tc) (NP : Kept P w K mg base 6 "need_prices" (spNeedPrices T1 Tp)) (NS : Kept P w K mg base 4 "need_set" (spNeedSet T1)) (IS : Kept P w K mg base 1 "is_in" spIsIn)
    (AO : Kept P w K mg base 3 "all_of" (spAllOf T2)) (RC : Kept P w K mg base 1 "red_count" spRed) :
    FnOk P w K mg base CX0 7 f fd ["size", "whole", "one", "prices", "reds", "many"] (spCheap T1 T2 Tp Tc) := by
  refine F.ok scCheap (fun vs H Q E h => ?_) (fun A outer s H vs Q E hr h => ?_)
  · obtain ⟨_, _, _, _, _, _, _, _, _, _, rfl, _⟩ := h
    rfl
  · obtain ⟨n, v, u, p, r, k, l, o, reds, ps, rfl, h2, h9, hs, hl, ho, hps, hpo, hrd, hk9, ht1, ht2, htp, htc, hG, qN, qI⟩ := h
    obtain ⟨uR, eR, rR⟩ := B.red
    refine ⟨_, pss_cons (ps_expr (pe_k NP hr (by decide) (by rfl) (pa_cons (pv 0) (pa_cons (pv 1) (pa_cons (pv 2) (pa_cons (pv 3) pa_nil))))))
      (pss_cons (ps_expr (pe_k NS hr (by decide) (by rfl) (pa_cons (pv 0) (pa_cons (pv 4) pa_nil))))
      (pss_cons (ps_if (pt_not (pt_val (pe_k IS hr (by decide) (by rfl) (pa_cons (pv 5) (pa_cons pe_int (pa_cons (pe_glob (by rfl) eR rR) pa_nil)))))) (pss_one ps_never) pss_nil)
      (pss_cons (ps_setLc (i := 6) (own := [("part", 7)]) (g := gName 7) rfl scCheap.nd rfl rfl (sw_true rfl rfl rfl (by decide +kernel)) (pi_list (pe_k AO hr (by decide) (by rfl) (pa_cons (pv 0) (pa_cons (pv 1) (pa_cons (pv 2) pa_nil)))))
        (blkOk_by (by show blkC ["size", "whole", "one", "prices", "reds", "many", "some", "part"] (defScope sCheap) _ _ = true; decide +kernel))
        (fun _ _ _ _ _ => pg_name (i := 7) scCheap.nd rfl (by first | exact Or.inl rfl | exact Or.inr rfl))
        (fun _ _ _ _ _ => pts_one (pt_cmpR op_eq (pe_k RC hr (by decide) (by rfl) (pa_cons (pv 4) (pa_cons (pv 7) pa_nil))) (pv 5) (nomark _))) (fun _ _ _ _ _ => pv 7))
      (pss_one (ps_ret (pe_ifExp (pt_truth (pv 6) (fun _ => rfl)) (pe_callB (cr_minK' K rfl) (by rfl) B.min (by decide +kernel) (pa_cons (pe_lc (own := [("part", 7)]) (g := gName 7) (tt := tYes) rfl scCheap.nd (pi_list (pv 6))
        (blkOk_by (by show blkC ["size", "whole", "one", "prices", "reds", "many", "some", "part"] (defScope sCheap) _ _ = true; decide +kernel))
        (fun _ _ _ _ _ => pg_name (i := 7) scCheap.nd rfl (by first | exact Or.inl rfl | exact Or.inr rfl)) (fun _ _ _ _ _ => pts_nil)
        (fun _ _ _ _ _ => pe_sumG (P := Tc) hr (by rfl) B.sum TB rfl (by show genB (relS _ (defScope sCheap)) _ _ = true; decide +kernel) (gsrc_tupK K (pv 7)) (el_ix (el_cap (j := 3) rfl rfl (by decide +kernel) (by first | exact .inl rfl | exact .inr rfl)) (el_own rfl (by decide +kernel)) (fun _ _ => rfl)) (fun _ => rfl))) pa_nil)) pe_non)))))), ?_⟩
    refine ⟨_, rfl, _, rfl, _, rfl, _, rfl, n, v, u, p, l, o, ps, rfl, h2, h9, hs, hl, ho, hps, hpo, ht1, htp, fun H1 k1 => ?_⟩
    refine ⟨_, rfl, _, rfl, n, r, reds, rfl, h9, hrd.kp k1, k1.tab _ ht1, fun H2 k2 => ?_⟩
    have k12 := k1.trans k2
    refine ⟨_, rfl, _, _, _, rfl, _, rfl, ?_⟩
    rw [decide_eq_true (show (0 : Int) ≤ (k : Int) ∧ (k : Int) ≤ 9 by omega)]
    refine iteF ?_
    refine ⟨_, rfl, _, rfl, _, rfl, n, v, u, l, o, rfl, h2, h9, hs.kp k12, hl, ho.kp k12, k12.tab _ ht2, hG, fun a xs L H3 k3 ha hx hL hlen => ⟨a, rfl, ⟨xs, .inl (.inl ha)⟩, fun D nD => ?_⟩⟩
    have k13 := k12.trans k3
    refine lc_list (K := K) (a := a) (xs := xs) (fun i H4 => Kp H3 H4 ∧ ∃ ys, H4 D = some (.lst ys) ∧ TupsN H4 ys ((L.take i).filter fun x => redOf reds x == k)) ⟨(Kp.refl H3).put nD, [], upd_same, .nil⟩ (fun i H' _ h => .inl (.inl (h.1.lst ha))) ?_ ?_
    · rintro i y H4 hy ⟨k4, ys, hD, hys⟩
      obtain ⟨x, hxi, t, rfl, ht⟩ := paired_get hx hy
      have hxb := brute_len ((hL x).mp (List.mem_of_getElem? hxi))
      refine ⟨rfl, ?_⟩
      refine ⟨_, rfl, _, rfl, r, .ref t, reds, x, rfl, hrd.1.kp (k13.trans k4), ⟨t, rfl, k4.tup ht⟩, by omega, fun H5 k5 => ?_⟩
      refine ⟨_, rfl, rfl, _, rfl, ?_⟩
      rw [take_succ hxi, filter_snoc']
      by_cases hk : redOf reds x = k
      · rw [decide_eq_true (show (V.int ((redOf reds x : Nat) : Int)) = ni k by rw [hk]), if_pos (by simpa using hk)]
        refine ite_tt ⟨_, rfl, ys, k5.lst hD, ?_, (k4.trans k5).put nD, ys ++ [.ref t], upd_same, ?_⟩
        · rw [paired_len hys]
          have := take_len_le L (fun x => redOf reds x == k) i
          exact lt_line (by omega)
        · exact TupsN.put (k5.lst hD) (paired_app (hys.kp k5) (.cons ⟨t, rfl, (k4.trans k5).tup ht⟩ .nil))
      · rw [decide_eq_false (show ¬ (V.int ((redOf reds x : Nat) : Int)) = ni k from fun e => hk (by have := V.int.inj e; omega)), if_neg (by simpa using hk)]
        exact ite_ff ⟨k4.trans k5, ys, k5.lst hD, hys.kp k5⟩
    · rintro H4 ⟨k4, ys, hD, hys⟩
      rw [paired_len hx, List.take_length] at hys
      have kk := k13.trans k4
      have hM : ∀ x, x ∈ (L.filter fun x => redOf reds x == k) ↔ x ∈ brute n l o ∧ redOf reds x = k := fun x => by
        rw [List.mem_filter, hL x]
        simp
      generalize hE : (L.filter fun x => redOf reds x == k) = M at *
      have hml : M.length ≤ 100 := by
        rw [← hE]
        exact Nat.le_trans (List.length_filter_le _ _) hlen
      refine ⟨_, rfl, !ys.isEmpty, .inl ⟨_, .inl (.inl hD), rfl⟩, ?_⟩
      cases hys' : ys with
      | nil =>
        refine ite_ff (qN (fun x hx hk => ?_) H4 kk)
        have z := (hM x).mpr ⟨hx, hk⟩
        have e := paired_len hys
        rw [hys'] at e
        rw [List.eq_nil_of_length_eq_zero e.symm] at z
        cases z
      | cons y0 y1 =>
        refine ite_tt ?_
        obtain ⟨pa, rfl, hpa⟩ := hps
        refine ⟨_, rfl, D, rfl, ⟨ys, .inl (.inl hD)⟩, fun D2 nD2 => ?_⟩
        refine lc_list (K := K) (a := D) (xs := ys) (fun i H5 => Kp H4 H5 ∧ H5 D2 = some (.lst (((M.take i).map (priceOf ps)).map V.int))) ⟨(Kp.refl H4).put nD2, upd_same⟩ (fun i H' _ h => .inl (.inl (h.1.lst hD))) ?_ ?_
        · rintro i y H5 hy ⟨k5, hD2⟩
          obtain ⟨x, hxi, t, rfl, ht⟩ := paired_get hys hy
          have hxm := (hM x).mp (List.mem_of_getElem? hxi)
          have hxs := brute_set hxm.1
          have hxl := brute_len hxm.1
          refine ⟨rfl, ?_⟩
          refine ⟨_, rfl, t, nv x, rfl, .inl (.inl (k5.tup ht)), (kk.trans k5).tab _ htc, x.map fun q => ps.getD q 0, by rw [nv_len, List.length_map], ?_, fun j v z hv hz => ?_, fun H6 hT => ?_⟩
          · refine sumFits_small (fun z hz => ?_) (by rw [List.length_map]; omega)
            obtain ⟨q, _, rfl⟩ := List.mem_map.mp hz
            have := price_get (B := 1000) hpo.2 (by decide) q
            omega
          · obtain ⟨q, hq, rfl⟩ := nv_get' hv
            rw [List.getElem?_map, hq] at hz
            have hz := Option.some.inj hz
            subst hz
            have hqn := hxs.lt q (List.mem_of_getElem? hq)
            exact ⟨q, pa, _, _, ⟨_, rfl, rfl⟩, rfl, (kk.trans k5).tup hpa, IntsT.get (H := H) (v := .non) (by rw [hpo.1]; exact hqn), rfl⟩
          · have k6 := Kp.tabbed ((kk.trans k5).tab _ htc) hT
            refine ⟨_, k6.lst hD2, ?_, (k5.trans k6).put nD2, ?_⟩
            · rw [List.length_map, List.length_map, List.length_take]
              exact lt_line (by omega)
            · rw [upd_same, map_succ hxi, List.map_append]
              rfl
        · rintro H5 ⟨k5, hD2⟩
          rw [paired_len hys, List.take_length] at hD2
          refine ⟨D2, _, rfl, .inl (.inl hD2), ?_, fun m hm hm2 => ?_⟩
          · rw [List.length_map, ← paired_len hys, hys']
            exact Nat.succ_pos _
          · obtain ⟨x1, hx1, rfl⟩ := List.mem_map.mp hm
            have z := (hM x1).mp hx1
            exact qI _ H5 (kk.trans k5) ⟨⟨x1, z.1, z.2, rfl⟩, fun x hx hk => hm2 _ (List.mem_map.mpr ⟨x, (hM x).mpr ⟨hx, hk⟩, rfl⟩)⟩
end
end T27
end
section
set_option Elab.async false
set_option linter.all false
set_option maxRecDepth 100000
set_option maxHeartbeats 4000000
namespace T27
open PySem PySem.Spec PyProof.Rows L2 M27
/-! ### heaps: all but the row and the tables stays -/
structure Kq (R : Addr) (H H' : Hp) : Prop where
  get : ∀ b o, b ≠ R → H b = some o → (∀ ps, o ≠ .tbl ps) → H' b = some o
  tab : ∀ P, GxR.TabG H P → GxR.TabG H' P
  free : ∀ b, H' b = none → H b = none
theorem Kq.refl (R : Addr) (H : Hp) : Kq R H H := ⟨fun _ _ _ h _ => h, fun _ h => h, fun _ h => h⟩
theorem Kq.trans {R : Addr} {H H1 H2 : Hp} (a : Kq R H H1) (b : Kq R H1 H2) : Kq R H H2 := ⟨fun x o q h n => b.get x o q (a.get x o q h n) n, fun P h => b.tab P (a.tab P h), fun x h => a.free x (b.free x h)⟩
theorem Kq.of {R : Addr} {H H' : Hp} (k : Kp H H') : Kq R H H' := ⟨fun b o _ h n => k.get b o h n, k.tab, k.free⟩
theorem Kq.put {R : Addr} {H : Hp} {xs : List V} {o : HO} (h : H R = some (.lst xs)) : Kq R H (upd H R o) := by
  refine ⟨fun b x q e n => by rw [upd_ne q]; exact e, fun T ⟨ps, e, r⟩ => ⟨ps, ?_, r⟩, fun b e => ?_⟩
  · rw [upd_ne fun q => by rw [q, h] at e; cases e]
    exact e
  · by_cases q : b = R
    · rw [q, upd_same] at e
      cases e
    · rw [upd_ne q] at e
      exact e
theorem Kq.new {R : Addr} {H : Hp} {p : Addr} {o : HO} (h : H p = none) : Kq R H (upd H p o) := .of (.new h)
/-- the script: a live list (its object told) or one of the written part -/
structure Sc where
  a : Addr
  m : Option HO
def Sc.At (c : Sc) (R : Addr) (H : Hp) : Prop := ∀ v, c.m = some v → c.a ≠ R ∧ H c.a = some v
/-- the row of a script that is drawn from -/
def rowL (a : Addr) (i s r : Int) : List V := [.ref a, .int i, .int s, .int r]
def RowOk (K : PySem.W.Frag) (c : Sc) (H : Hp) (R : Addr) : Prop := ∃ (xs : List Int) (i s r : Int), H R = some (.lst (rowL c.a i s r)) ∧ c.At R H ∧ (∀ v, c.m = some v → ∀ ps, v ≠ .tbl ps) ∧ (∀ H', c.At R H' → SqL K H' c.a (xs.map V.int)) ∧ 0 ≤ i ∧ 0 ≤ s ∧ s < 2147483647
theorem RowOk.kp {K : PySem.W.Frag} {c : Sc} {H H' : Hp} {R : Addr} (k : Kp H H') (h : RowOk K c H R) : RowOk K c H' R := by
  obtain ⟨xs, i, s, r, e1, e2, e3, e4⟩ := h
  exact ⟨xs, i, s, r, k.lst e1, fun v hv => ⟨(e2 v hv).1, k.get _ _ (e2 v hv).2 (e3 v hv)⟩, e3, e4⟩
theorem RowOk.at {K : PySem.W.Frag} {c : Sc} {H : Hp} {R : Addr} (h : RowOk K c H R) : ∃ xs, H R = some (.lst xs) := by
  obtain ⟨xs, i, s, r, e1, _⟩ := h
  exact ⟨_, e1⟩
/-- an object made, neither the row nor its script -/
theorem RowOk.put {K : PySem.W.Frag} {c : Sc} {H0 H : Hp} {R D : Addr} {o : HO} (r0 : RowOk K c H0 R) (hD : H0 D = none) (r : RowOk K c H R) : RowOk K c (upd H D o) R := by
  obtain ⟨xs, i, s, r', e1, e2, e3, e4⟩ := r
  obtain ⟨xs0, i0, s0, r0, f1, f2, f3, f4⟩ := r0
  exact ⟨xs, i, s, r', by rw [upd_ne (ne_of_none f1 hD)]; exact e1, fun v hv => ⟨(e2 v hv).1, by rw [upd_ne (ne_of_none (f2 v hv).2 hD)]; exact (e2 v hv).2⟩, e3, e4⟩
theorem Sc.At.row {c : Sc} {R : Addr} {H : Hp} {o : HO} (h : c.At R H) : c.At R (upd H R o) := fun v hv => ⟨(h v hv).1, by rw [upd_ne (h v hv).1]; exact (h v hv).2⟩
/-- an object that is not the row -/
theorem Kq.tup {K : PySem.W.Frag} {s : Sc} {R : Addr} {H H' : Hp} (k : Kq R H H') (r : RowOk K s H R) {a : Addr} {xs : List V} (h : H a = some (.tup xs)) : H' a = some (.tup xs) := by
  obtain ⟨ys, e⟩ := r.at
  exact k.get _ _ (fun q => by rw [q, e] at h; cases h) h fun _ q => by cases q
theorem Kq.lst {R : Addr} {H H' : Hp} (k : Kq R H H') {a : Addr} {xs : List V} (ha : a ≠ R) (h : H a = some (.lst xs)) : H' a = some (.lst xs) := k.get _ _ ha h fun _ q => by cases q
theorem mod_ex {z : Int} {m : Nat} (h : 0 < m) : ∃ v : Nat, z % (m : Int) = (v : Int) ∧ v < m := by
  have h1 := Int.emod_nonneg z (show (m : Int) ≠ 0 by omega)
  have h2 := Int.emod_lt_of_pos z (show (0 : Int) < (m : Int) by omega)
  exact ⟨(z % (m : Int)).toNat, by omega, by omega⟩
section
variable {P : Program} {w : World} {K : PySem.W.Frag} {mg : Str → Option Value} {base : Heap}
variable (K) in
def spTaken : Sp := fun vs H Q _ => ∃ (c : Sc) (R : Addr) (m : Nat), vs = [.ref R, ni m] ∧ 1 ≤ m ∧ m ≤ 1000 ∧ RowOk K c H R ∧ ∀ v H', v < m → Kq R H H' → RowOk K c H' R → Q (ni v) H'
theorem ok_taken {f : Addr} {fd : FuncData} (F : Fun K "_law_taken" "_law_taken" sTaken f fd) (B : Bl mg) : FnOk P w K mg base CX0 1 f fd ["_law_row", "_law_many"] (spTaken K) := by
  refine F.ok scTaken (fun vs H Q E h => ?_) (fun cdv A outer s H vs Q E hr h => ?_)
  · obtain ⟨_, _, _, rfl, _⟩ := h
    rfl
  · obtain ⟨c, R, m, rfl, h1, h2, ⟨xs, i, sd, r, hR, ha, hm, hq, hi, hs1, hs2⟩, q⟩ := h
    refine ⟨_, pss_cons (ps_if (pt_cmpR op_gt (pe_ix ix_list (pv 0) pe_int (fun _ _ => rfl)) pe_int (nomark _))
        (pss_cons (ps_set (i := 2) scTaken.nd rfl (Or.inl rfl) (pe_op op_mod (pe_callTy call_int1 (by rfl) B.int (by decide +kernel) (pa_cons (pe_ix ix_list (pv 0) pe_int (fun _ _ => rfl)) pa_nil)) (pv 1)))
        (pss_cons (ps_asg (pe_op op_fdiv (pe_ix ix_list (pv 0) pe_int (fun _ _ => rfl)) (pv 1)) (pg_sub (pv 0) pe_int set_list))
        (pss_one (ps_ret (pv 2))))) pss_nil)
      (pss_cons (ps_asg (pe_op op_add (pe_ix ix_list (pv 0) pe_int (fun _ _ => rfl)) pe_int) (pg_sub (pv 0) pe_int set_list))
      (pss_cons (ps_if (pt_cmpR op_gt (pe_ix ix_list (pv 0) pe_int (fun _ _ => rfl)) (pe_callB call_len_seq (by rfl) B.len boot_len (pa_cons (pe_ix ix_list (pv 0) pe_int (fun _ _ => rfl)) pa_nil)) (nomark _))
        (pss_cons (ps_asg (pe_op op_mod (pe_callTy call_int1 (by rfl) B.int (by decide +kernel) (pa_cons (pe_op op_add (pe_op op_mul (pe_ix ix_list (pv 0) pe_int (fun _ _ => rfl)) pe_int) pe_int) pa_nil)) pe_int) (pg_sub (pv 0) pe_int set_list))
        (pss_one (ps_ret (pe_op op_mod (pe_callTy call_int1 (by rfl) B.int (by decide +kernel) (pa_cons (pe_op op_fdiv (pe_ix ix_list (pv 0) pe_int (fun _ _ => rfl)) pe_int) pa_nil)) (pv 1))))) pss_nil)
      (pss_cons (ps_set (i := 3) scTaken.nd rfl (Or.inl rfl) (pe_ix ix_list (pe_ix ix_list (pv 0) pe_int (fun _ _ => rfl)) (pe_op op_sub (pe_ix ix_list (pv 0) pe_int (fun _ _ => rfl)) pe_int) (fun _ _ => rfl)))
      (pss_cons (ps_asg (pe_op op_mod (pe_callTy call_int1 (by rfl) B.int (by decide +kernel) (pa_cons (pe_op op_add (pe_op op_add (pe_op op_mul (pe_ix ix_list (pv 0) pe_int (fun _ _ => rfl)) pe_int) (pv 3)) pe_int) pa_nil)) pe_int) (pg_sub (pv 0) pe_int set_list))
      (pss_cons (ps_if (pt_cmpR op_ge (pv 3) (pe_op op_pow pe_int pe_int) (nomark _)) (pss_one (ps_asg (pe_op op_fdiv (pv 3) (pv 1)) (pg_sub (pv 0) pe_int set_list))) pss_nil)
      (pss_one (ps_ret (pe_op op_mod (pe_callTy call_int1 (by rfl) B.int (by decide +kernel) (pa_cons (pv 3) pa_nil)) (pv 1))))))))), ?_⟩
    have hm0 : (0 : Int) < (m : Int) := by omega
    have hm1 : (m : Int) < 1073741824 := by omega
    refine ⟨_, rfl, R, _, 3, _, rfl, rfl, .inl (.inl hR), rfl, _, _, rfl, rfl, _, rfl, ?_⟩
    by_cases hpos : 0 < r
    · rw [decide_eq_true hpos]
      obtain ⟨v, hv, hvm⟩ := mod_ex (z := r) h1
      refine ite_tt ⟨_, rfl, R, _, 3, _, rfl, rfl, .inl (.inl hR), rfl, .inl ⟨_, rfl, ?_⟩⟩
      refine ⟨_, rfl, _, _, rfl, rfl, hm0, ?_⟩
      refine ⟨_, rfl, R, _, 3, _, rfl, rfl, .inl (.inl hR), rfl, _, rfl, _, _, rfl, rfl, ⟨hm0, hm1⟩, ?_⟩
      refine ⟨_, rfl, R, _, 3, 3, rfl, rfl, hR, rfl, ?_⟩
      refine ⟨_, rfl, ?_⟩
      show Q (.int (r % (m : Int))) _
      rw [hv]
      exact q v _ hvm (.put hR) ⟨xs, i, sd, r / (m : Int), upd_same, ha.row, hm, hq, hi, hs1, hs2⟩
    · rw [decide_eq_false hpos]
      refine ite_ff ?_
      refine ⟨_, rfl, R, _, 1, _, rfl, rfl, .inl (.inl hR), rfl, _, _, rfl, rfl, ?_⟩
      refine ⟨_, rfl, R, _, 1, 1, rfl, rfl, hR, rfl, ?_⟩
      have k1 : Kq R H (upd H R (.lst (rowL c.a (i + 1) sd r))) := .put hR
      have hR1 : upd H R (.lst (rowL c.a (i + 1) sd r)) R = some (.lst (rowL c.a (i + 1) sd r)) := upd_same
      have ha1 : c.At R (upd H R (.lst (rowL c.a (i + 1) sd r))) := ha.row
      show tSeq _ _ _ _ (upd H R (.lst (rowL c.a (i + 1) sd r)))
      generalize upd H R (.lst (rowL c.a (i + 1) sd r)) = H1 at *
      refine ⟨_, rfl, R, _, 1, _, rfl, rfl, .inl (.inl hR1), rfl, ?_⟩
      refine ⟨_, rfl, R, _, 0, _, rfl, rfl, .inl (.inl hR1), rfl, c.a, xs.map V.int, rfl, .inl (hq _ ha1), _, _, rfl, rfl, _, rfl, ?_⟩
      rw [List.length_map]
      by_cases hend : ((xs.length : Nat) : Int) < i + 1
      · rw [decide_eq_true hend]
        refine ite_tt ?_
        refine ⟨_, rfl, R, _, 2, _, rfl, rfl, .inl (.inl hR1), rfl, _, _, rfl, rfl, .inr ⟨by decide, by decide⟩, _, _, rfl, rfl, .inl ⟨_, rfl, ?_⟩⟩
        refine ⟨_, _, rfl, rfl, (by show (0 : Int) < 2147483647; decide), ?_⟩
        refine ⟨_, rfl, R, _, 2, 2, rfl, rfl, hR1, rfl, ?_⟩
        have b1 := Int.emod_nonneg (sd * 48271 + 11) (show (2147483647 : Int) ≠ 0 by decide)
        have b2 := Int.emod_lt_of_pos (sd * 48271 + 11) (show (0 : Int) < 2147483647 by decide)
        obtain ⟨v, hv, hvm⟩ := mod_ex (z := (sd * 48271 + 11) % 2147483647 / 7) h1
        refine ⟨_, rfl, R, _, 2, _, rfl, rfl, .inl (.inl upd_same), rfl, _, _, rfl, rfl, ⟨by decide, by decide⟩, .inl ⟨_, rfl, ?_⟩⟩
        refine ⟨_, rfl, _, _, rfl, rfl, hm0, ?_⟩
        show Q (.int ((sd * 48271 + 11) % 2147483647 / 7 % (m : Int))) _
        rw [hv]
        exact q v _ hvm (k1.trans (.put hR1)) ⟨xs, i + 1, (sd * 48271 + 11) % 2147483647, r, upd_same, ha1.row, hm, hq, by omega, b1, b2⟩
      · rw [decide_eq_false hend]
        refine ite_ff ?_
        obtain ⟨j, hj⟩ : ∃ j : Nat, i = (j : Int) := ⟨i.toNat, by omega⟩
        subst hj
        have hjl : j < xs.length := by omega
        have hget : (xs.map V.int)[j]? = some (.int xs[j]) := by rw [List.getElem?_map, List.getElem?_eq_getElem hjl]; rfl
        generalize xs[j] = cl at *
        have hat : atI (xs.map V.int) ((j : Int) + 1 - 1) = some (.int cl) := by
          rw [show (j : Int) + 1 - 1 = (j : Int) by omega]
          exact atI_nat hget
        refine ⟨_, rfl, R, _, 0, _, rfl, rfl, .inl (.inl hR1), rfl, ?_⟩
        refine ⟨_, rfl, R, _, 1, _, rfl, rfl, .inl (.inl hR1), rfl, _, _, rfl, rfl, ?_⟩
        refine ⟨c.a, _, _, _, rfl, rfl, hq _ ha1, hat, ?_⟩
        refine ⟨_, rfl, R, _, 2, _, rfl, rfl, .inl (.inl hR1), rfl, _, _, rfl, rfl, .inr ⟨by decide, by decide⟩, ?_⟩
        refine ⟨_, rfl, _, _, rfl, rfl, _, _, rfl, rfl, .inl ⟨_, rfl, ?_⟩⟩
        refine ⟨_, _, rfl, rfl, (by show (0 : Int) < 2147483647; decide), ?_⟩
        refine ⟨_, rfl, R, _, 2, 2, rfl, rfl, hR1, rfl, ?_⟩
        have b1 := Int.emod_nonneg (sd * 48271 + cl + 11) (show (2147483647 : Int) ≠ 0 by decide)
        have b2 := Int.emod_lt_of_pos (sd * 48271 + cl + 11) (show (0 : Int) < 2147483647 by decide)
        show tSeq _ _ _ _ (upd H1 R (.lst (rowL c.a ((j : Int) + 1) ((sd * 48271 + cl + 11) % 2147483647) r)))
        generalize (sd * 48271 + cl + 11) % 2147483647 = sd2 at *
        have hR2 : upd H1 R (.lst (rowL c.a ((j : Int) + 1) sd2 r)) R = some (.lst (rowL c.a ((j : Int) + 1) sd2 r)) := upd_same
        have ha2 : c.At R (upd H1 R (.lst (rowL c.a ((j : Int) + 1) sd2 r))) := ha1.row
        have k2 : Kq R H (upd H1 R (.lst (rowL c.a ((j : Int) + 1) sd2 r))) := k1.trans (.put hR1)
        generalize upd H1 R (.lst (rowL c.a ((j : Int) + 1) sd2 r)) = H2 at *
        obtain ⟨v, hv, hvm⟩ := mod_ex (z := cl) h1
        have fin : ∀ (H3 : Hp) (r3 : Int), H3 R = some (.lst (rowL c.a ((j : Int) + 1) sd2 r3)) → c.At R H3 → Kq R H H3 → Q (.int (cl % (m : Int))) H3 := fun H3 r3 e1 e2 k3 => by
          rw [hv]
          exact q v _ hvm k3 ⟨xs, _, sd2, r3, e1, e2, hm, hq, by omega, b1, b2⟩
        refine ⟨_, rfl, _, _, rfl, rfl, ⟨by decide, by decide, by decide⟩, _, _, rfl, rfl, _, rfl, ?_⟩
        by_cases hbig : (10 : Int) ^ (18 : Int).toNat ≤ cl
        · rw [decide_eq_true hbig]
          refine ite_tt ⟨_, rfl, _, rfl, _, _, rfl, rfl, ⟨hm0, hm1⟩, _, rfl, R, _, 3, 3, rfl, rfl, hR2, rfl, ?_⟩
          refine ⟨_, rfl, .inl ⟨_, rfl, _, rfl, _, _, rfl, rfl, hm0, ?_⟩⟩
          exact fin _ (cl / (m : Int)) upd_same ha2.row (k2.trans (.put hR2))
        · rw [decide_eq_false hbig]
          refine ite_ff ?_
          refine ⟨_, rfl, .inl ⟨_, rfl, _, rfl, _, _, rfl, rfl, hm0, ?_⟩⟩
          exact fin _ r hR2 ha2 k2
end
end T27
end
section
set_option Elab.async false
set_option linter.all false
set_option maxRecDepth 100000
set_option maxHeartbeats 4000000
namespace T27
open PySem PySem.Spec PyProof.Rows L2 M27
theorem Kq.putD {R D : Addr} {H H' : Hp} {o : HO} (k : Kq R H H') (h : H D = none) : Kq R H (upd H' D o) := by
  refine ⟨fun b x q e n => ?_, fun T ht => ?_, fun b hb => ?_⟩
  · rw [upd_ne (ne_of_none e h)]
    exact k.get b x q e n
  · obtain ⟨ps, e, r⟩ := k.tab T ht
    obtain ⟨ps0, e0, _⟩ := ht
    exact ⟨ps, by rw [upd_ne (ne_of_none e0 h)]; exact e, r⟩
  · by_cases q : b = D
    · rw [q, upd_same] at hb
      cases hb
    · rw [upd_ne q] at hb
      exact k.free b hb
/-! ### sets drawn -/
theorem asc_of {l : List Nat} (h : l.Pairwise (· ≤ ·)) (n : l.Nodup) : l.Pairwise (· < ·) := by
  have := h.and n
  exact this.imp fun q => Nat.lt_of_le_of_ne q.1 q.2
theorem set_sort {n : Nat} {l : List Nat} (nd : l.Nodup) (lt : ∀ x ∈ l, x < n) : IsSet n (isort l) :=
  ⟨asc_of (isort_sorted l) ((isort_perm l).nodup_iff.mpr nd), fun x hx => lt x ((isort_perm l).mem_iff.mp hx)⟩
theorem arc_nodup {n p : Nat} (hp : p < n) : ∀ k, k ≤ n → ((List.range k).map fun j => (p + j) % n).Nodup := by
  intro k hk
  rw [List.Nodup, List.pairwise_map]
  have h : (List.range k).Pairwise fun a b => a < b := List.pairwise_lt_range
  refine List.Pairwise.imp_of_mem (fun {a b} ha hb hab => ?_) h
  have ha := List.mem_range.mp ha
  have hb := List.mem_range.mp hb
  intro e
  have hn : 0 < n := by omega
  by_cases h1 : p + a < n
  · rw [Nat.mod_eq_of_lt h1] at e
    by_cases h2 : p + b < n
    · rw [Nat.mod_eq_of_lt h2] at e
      omega
    · rw [show p + b = (p + b - n) + n by omega, Nat.add_mod_right, Nat.mod_eq_of_lt (by omega)] at e
      omega
  · rw [show p + a = (p + a - n) + n by omega, Nat.add_mod_right, Nat.mod_eq_of_lt (by omega), show p + b = (p + b - n) + n by omega, Nat.add_mod_right, Nat.mod_eq_of_lt (by omega)] at e
    omega
theorem set_take {n : Nat} {l : List Nat} (h : IsSet n l) (k : Nat) : IsSet n (l.take k) :=
  ⟨h.asc.sublist (List.take_sublist k l), fun x hx => h.lt x (List.mem_of_mem_take hx)⟩
theorem set_snoc {n : Nat} {l : List Nat} {x : Nat} (h : IsSet x l) (hx : x < n) : IsSet n (l ++ [x]) := by
  refine ⟨?_, fun y hy => ?_⟩
  · rw [List.pairwise_append]
    exact ⟨h.asc, List.pairwise_singleton _ _, fun a ha b hb => by rw [List.mem_singleton.mp hb]; exact h.lt a ha⟩
  · rcases List.mem_append.mp hy with q | q
    · have := h.lt y q; omega
    · rw [List.mem_singleton.mp q]; exact hx
theorem set_mono {n m : Nat} {l : List Nat} (h : IsSet n l) (k : n ≤ m) : IsSet m l := ⟨h.asc, fun x hx => by have := h.lt x hx; omega⟩
section
variable {P : Program} {w : World} {K : PySem.W.Frag} {mg : Str → Option Value} {base : Heap}
variable (K) in
def spSet : Sp := fun vs H Q _ => ∃ (a : Sc) (R : Addr) (n : Nat), vs = [.ref R, ni n] ∧ 2 ≤ n ∧ n ≤ 9 ∧ RowOk K a H R ∧ ∀ t l H', Kq R H H' → RowOk K a H' R → H' t = some (.tup (nv l)) → IsSet n l → Q (.ref t) H'
theorem ok_set {f : Addr} {fd : FuncData} (F : Fun K "_law_set" "_law_set" sSet f fd) (B : Bl mg) (T : Kept P w K mg base 1 "_law_taken" (spTaken K)) : FnOk P w K mg base CX0 2 f fd ["_law_row", "_law_size"] (spSet K) := by
  refine F.ok scSet (fun vs H Q E h => ?_) (fun cdv A outer s H vs Q E hr h => ?_)
  · obtain ⟨_, _, _, rfl, _⟩ := h
    rfl
  · obtain ⟨a, R, n, rfl, h2, h9, hro, q⟩ := h
    refine ⟨_, pss_cons (ps_set (i := 2) scSet.nd rfl (by first | exact Or.inl rfl | exact Or.inr rfl) (pe_k T hr (by decide) (by rfl) (pa_cons (pv 0) (pa_cons pe_int pa_nil))))
      (pss_cons (ps_if (pt_cmpR op_eq (pv 2) pe_int (nomark _))
        (pss_cons (ps_asg (pe_tup (pa_cons (pe_k T hr (by decide) (by rfl) (pa_cons (pv 0) (pa_cons (pv 1) pa_nil))) (pa_cons (pe_k T hr (by decide) (by rfl) (pa_cons (pv 0) (pa_cons (pv 1) pa_nil))) pa_nil)))
          (pg_tupK (K := K) rfl (pgs_cons (pg_name (i := 3) scSet.nd rfl (by first | exact Or.inl rfl | exact Or.inr rfl)) (pgs_cons (pg_name (i := 4) scSet.nd rfl (by first | exact Or.inl rfl | exact Or.inr rfl)) pgs_nil))))
        (pss_one (ps_ret (pe_callTy (call_tupK K) (by rfl) B.tuple boot_tuple (pa_cons (pe_callB (cr_sortedK K) (by rfl) B.sorted (by decide +kernel) (pa_cons (pe_lc (own := [("_law_k", 5)]) (g := gName 5) (tt := tYes) rfl scSet.nd (pi_range1 (by rfl) B.range (pa_cons (pv 4) pa_nil))
          (blkOk_by (by show blkC ["_law_row", "_law_size", "_law_way", "_law_first", "_law_length", "_law_k", "_law_place"] (defScope sSet) _ _ = true; decide +kernel))
          (fun _ _ _ _ _ => pg_name (i := 5) scSet.nd rfl (by first | exact Or.inl rfl | exact Or.inr rfl)) (fun _ _ _ _ _ => pts_nil) (fun _ _ _ _ _ => pe_op op_mod (pe_op op_add (pv 3) (pv 5)) (pv 1))) pa_nil)) pa_nil))))) pss_nil)
      (pss_one (ps_ret (pe_callTy (call_tupK K) (by rfl) B.tuple boot_tuple (pa_cons (pe_lc (own := [("_law_place", 6)]) (g := gName 6) rfl scSet.nd (pi_range1 (by rfl) B.range (pa_cons (pv 1) pa_nil))
          (blkOk_by (by show blkC ["_law_row", "_law_size", "_law_way", "_law_first", "_law_length", "_law_k", "_law_place"] (defScope sSet) _ _ = true; decide +kernel))
          (fun _ _ _ _ _ => pg_name (i := 6) scSet.nd rfl (by first | exact Or.inl rfl | exact Or.inr rfl)) (fun _ _ _ _ _ => pts_one (pt_cmpR op_lt (pe_k T hr (by decide) (by rfl) (pa_cons (pv 0) (pa_cons pe_int pa_nil))) (pv 2) (nomark _))) (fun _ _ _ _ _ => pv 6)) pa_nil))))), ?_⟩
    refine ⟨_, rfl, a, R, 4, rfl, by omega, by omega, hro, fun way H1 hway k1 r1 => ?_⟩
    refine ⟨_, rfl, rfl, _, rfl, ?_⟩
    by_cases hw : way = 0
    · rw [decide_eq_true (show ni way = V.int 0 by rw [hw]; rfl)]
      refine ite_tt ?_
      refine ⟨_, rfl, _, rfl, a, R, n, rfl, by omega, by omega, r1, fun p H2 hp k2 r2 => ?_⟩
      refine ⟨_, rfl, _, rfl, a, R, n, rfl, by omega, by omega, r2, fun m H3 hm k3 r3 => ?_⟩
      refine ⟨(by show 2 ≤ sizeLine; exact small_line (by decide)), fun t0 nt0 => ?_⟩
      refine ⟨t0, [ni p, ni m], rfl, .inl (.inl upd_same), rfl, _, _, rfl, _, _, rfl, rfl, ?_⟩
      have k4 : Kq R H (upd H3 t0 (.tup [ni p, ni m])) := ((k1.trans k2).trans k3).trans (.new nt0)
      have r4 : RowOk K a (upd H3 t0 (.tup [ni p, ni m])) R := r3.put nt0 r3
      generalize upd H3 t0 (.tup [ni p, ni m]) = H4 at *
      have hn0 : (0 : Int) < (n : Int) := by omega
      refine ⟨_, rfl, (m : Int), rfl, (int_bound (by omega)).1, (int_bound (by omega)).2, fun D nD => ?_⟩
      rw [Int.toNat_natCast]
      refine lc_range (fun j H' => Kp H4 H' ∧ H' D = some (.lst (nv ((List.range j).map fun j => (p + j) % n)))) ⟨(Kp.refl H4).put nD, upd_same⟩ ?_ ?_
      · rintro j H5 hj ⟨k5, h5⟩
        refine ⟨rfl, ?_⟩
        refine ⟨_, rfl, _, rfl, _, _, rfl, rfl, _, rfl, _, _, rfl, rfl, hn0, _, h5, ?_, k5.put nD, ?_⟩
        · rw [nv_len, List.length_map, List.length_range]
          exact lt_line (by omega)
        · rw [upd_same, Int.zero_add]
          show some (HO.lst (nv _ ++ [V.int (((p : Int) + (j : Int)) % (n : Int))])) = _
          rw [mod_add, List.range_succ]
          simp [nv]
      · rintro H5 ⟨k5, h5⟩
        have h5' : H5 D = some (.lst ((((List.range m).map fun j => (p + j) % n).map fun x : Nat => (x : Int)).map V.int)) := by rw [← nv_ints]; exact h5
        refine ⟨D, _, rfl, .inl (.inl h5'), by rw [List.length_map, List.length_map, List.length_range]; omega, fun js b hjs hso nb => ?_⟩
        refine ⟨b, js.map V.int, rfl, .inl ⟨.inl (.inl upd_same), fun t nt => ?_⟩⟩
        have k6 : Kp H4 (upd (upd H5 b (.lst (js.map V.int))) t (.tup (js.map V.int))) := (k5.trans (.new nb)).trans (.new nt)
        refine q t (isort ((List.range m).map fun j => (p + j) % n)) _ (k4.trans (.of k6)) (r4.kp k6) (by rw [← sorted_nat hjs hso]; exact upd_same) (set_sort (arc_nodup hp m (by omega)) fun x hx => ?_)
        obtain ⟨j, _, rfl⟩ := List.mem_map.mp hx
        exact Nat.mod_lt _ (by omega)
    · rw [decide_eq_false (show ¬ ni way = V.int 0 from fun e => hw (by have := V.int.inj e; omega))]
      refine ite_ff ?_
      refine ⟨_, rfl, (n : Int), rfl, (int_bound (by omega)).1, (int_bound (by omega)).2, fun D nD => ?_⟩
      rw [Int.toNat_natCast]
      refine lc_range (fun j H' => Kq R H1 H' ∧ RowOk K a H' R ∧ ∃ l, H' D = some (.lst (nv l)) ∧ IsSet j l) ⟨(Kq.refl R H1).putD nD, r1.put nD r1, [], upd_same, IsSet.nil _⟩ ?_ ?_
      · rintro j H5 hj ⟨k5, r5, l, h5, hl⟩
        have hDR : D ≠ R := fun e => by
          obtain ⟨ys, ey⟩ := r1.at
          rw [← e, nD] at ey
          cases ey
        refine ⟨rfl, ?_⟩
        refine ⟨_, rfl, a, R, 3, rfl, by omega, by omega, r5, fun z H6 hz k6 r6 => ?_⟩
        have h6 := k6.lst hDR h5
        refine ⟨_, rfl, _, _, rfl, rfl, _, rfl, ?_⟩
        by_cases hlt : (z : Int) < (way : Int)
        · rw [decide_eq_true hlt]
          refine ite_tt ⟨_, rfl, _, h6, ?_, (k5.trans k6).putD nD, r1.put nD r6, l ++ [j], ?_, set_snoc hl (Nat.lt_succ_self j)⟩
          · rw [nv_len]
            have := set_len hl
            exact lt_line (by omega)
          · rw [upd_same, Int.zero_add]
            simp [nv]
        · rw [decide_eq_false hlt]
          exact ite_ff ⟨k5.trans k6, r6, l, h6, set_mono hl (Nat.le_succ j)⟩
      · rintro H5 ⟨k5, r5, l, h5, hl⟩
        refine ⟨D, nv l, rfl, .inl ⟨.inl (.inl h5), fun t nt => ?_⟩⟩
        exact q t l _ ((k1.trans k5).trans (.new nt)) (r5.put nt r5) upd_same hl
end
end T27
end
section
set_option Elab.async false
set_option linter.all false
set_option maxRecDepth 100000
set_option maxHeartbeats 4000000
namespace T27
open PySem PySem.Spec PyProof.Rows L2 M27
section
variable {P : Program} {w : World} {K : PySem.W.Frag} {mg : Str → Option Value} {base : Heap}
/-! ### a whole, a set within -/
variable (K) in
def spWhole : Sp := fun vs H Q _ => ∃ (a : Sc) (R : Addr) (n : Nat), vs = [.ref R, ni n] ∧ 2 ≤ n ∧ n ≤ 9 ∧ RowOk K a H R ∧ ∀ t l H', Kq R H H' → RowOk K a H' R → H' t = some (.tup (nv l)) → IsSet n l → l.length < n → Q (.ref t) H'
theorem ok_whole {f : Addr} {fd : FuncData} (F : Fun K "_law_whole" "_law_whole" sWhole f fd) (B : Bl mg) (S : Kept P w K mg base 2 "_law_set" (spSet K)) : FnOk P w K mg base CX0 3 f fd ["_law_row", "_law_size"] (spWhole K) := by
  refine F.ok scWhole (fun vs H Q E h => ?_) (fun cdv A outer s H vs Q E hr h => ?_)
  · obtain ⟨_, _, _, rfl, _⟩ := h
    rfl
  · obtain ⟨a, R, n, rfl, h2, h9, hro, q⟩ := h
    refine ⟨_, pss_cons (ps_set (i := 2) scWhole.nd rfl (Or.inl rfl) (pe_k S hr (by decide) (by rfl) (pa_cons (pv 0) (pa_cons (pv 1) pa_nil))))
      (pss_one (ps_ret (pe_ifExp (pt_cmpR op_lt (pe_callB call_len_seq (by rfl) B.len boot_len (pa_cons (pv 2) pa_nil)) (pv 1) (nomark _)) (pv 2) (pe_slice sl_tupA (pv 2) po_none (po_some (pe_un un_neg pe_int)))))), ?_⟩
    refine ⟨_, rfl, _, rfl, a, R, n, rfl, h2, h9, hro, fun t l H1 k1 r1 ht hl => ?_⟩
    refine ⟨_, rfl, t, nv l, rfl, .inr (.inl (.inl ht)), _, rfl, _, _, rfl, rfl, _, rfl, ?_⟩
    rw [nv_len]
    by_cases hlt : ((l.length : Nat) : Int) < (n : Int)
    · rw [decide_eq_true hlt]
      exact ite_tt ⟨_, rfl, q t l H1 k1 r1 ht hl (by omega)⟩
    · rw [decide_eq_false hlt]
      have hln := set_len hl
      have e1 : HT.sIx (nv l).length (nv l).length (some (-1)) = n - 1 := by
        rw [nv_len]
        show (if (-1 : Int) < 0 then ((-1 : Int) + (l.length : Int)).toNat else min (-1 : Int).toNat l.length) = n - 1
        rw [if_pos (by decide)]
        omega
      refine ite_ff ⟨_, rfl, 1, rfl, _, rfl, t, nv l, rfl, .inl (.inl ht), fun e => ?_, fun _ p np => ?_⟩
      · have e2 : HT.sIx (nv l).length (nv l).length (some (-1)) = (nv l).length := e.2
        rw [e1, nv_len] at e2
        omega
      · have e3 : cutV (nv l) none (some (-1)) = nv (l.take (n - 1)) := by
          unfold cutV
          rw [e1, HT.sIx_none]
          simp [nv, List.map_take]
        refine q p (l.take (n - 1)) _ (k1.trans (.new np)) (r1.put np r1) (by rw [← e3]; exact upd_same) (set_take hl _) ?_
        rw [List.length_take]
        omega
variable (K) in
def spWithin : Sp := fun vs H Q _ => ∃ (a : Sc) (R : Addr) (n : Nat) (v : V) (l : List Nat), vs = [.ref R, v] ∧ n ≤ 9 ∧ RowOk K a H R ∧ SetN H v n l ∧ ∀ t o H', Kq R H H' → RowOk K a H' R → H' t = some (.tup (nv o)) → IsSet n o → Q (.ref t) H'
theorem sub_set {n : Nat} {l : List Nat} {o : List Nat} {i x : Nat} (hl : IsSet n l) (hx : l[i]? = some x) (h : o.Sublist (l.take i)) : (o ++ [x]).Sublist (l.take (i + 1)) := by
  rw [take_succ hx]
  exact h.append (List.Sublist.refl _)
theorem ok_within {f : Addr} {fd : FuncData} (F : Fun K "_law_within" "_law_within" sWithin f fd) (B : Bl mg) (T : Kept P w K mg base 1 "_law_taken" (spTaken K)) : FnOk P w K mg base CX0 2 f fd ["_law_row", "_law_whole_here"] (spWithin K) := by
  refine F.ok scWithin (fun vs H Q E h => ?_) (fun cdv A outer s H vs Q E hr h => ?_)
  · obtain ⟨_, _, _, _, _, rfl, _⟩ := h
    rfl
  · obtain ⟨a, R, n, v, l, rfl, h9, hro, ⟨⟨b, rfl, hb⟩, hs⟩, q⟩ := h
    refine ⟨_, pss_one (ps_ret (pe_callTy (call_tupK K) (by rfl) B.tuple boot_tuple (pa_cons (pe_lc (own := [("_law_place", 2)]) (g := gName 2) rfl scWithin.nd (pi_tup (pv 1))
          (blkOk_by (by show blkC ["_law_row", "_law_whole_here", "_law_place"] (defScope sWithin) _ _ = true; decide +kernel))
          (fun _ _ _ _ _ => pg_name (i := 2) scWithin.nd rfl (by first | exact Or.inl rfl | exact Or.inr rfl)) (fun _ _ _ _ _ => pts_one (pt_cmpR op_eq (pe_k T hr (by decide) (by rfl) (pa_cons (pv 0) (pa_cons pe_int pa_nil))) pe_int (nomark _))) (fun _ _ _ _ _ => pv 2)) pa_nil))), ?_⟩
    refine ⟨_, rfl, b, rfl, ⟨_, .inl (.inl hb)⟩, fun D nD => ?_⟩
    refine lc_tup (K := K) (a := b) (xs := nv l) (fun i H' => Kq R H H' ∧ RowOk K a H' R ∧ ∃ o, H' D = some (.lst (nv o)) ∧ o.Sublist (l.take i)) ⟨(Kq.refl R H).putD nD, hro.put nD hro, [], upd_same, List.nil_sublist _⟩ (fun i H' _ h => .inl (.inl (h.1.tup hro hb))) ?_ ?_
    · rintro i y H5 hy ⟨k5, r5, o, h5, ho⟩
      obtain ⟨x, hx, rfl⟩ := nv_get' hy
      have hDR : D ≠ R := fun e => by
        obtain ⟨ys, ey⟩ := hro.at
        rw [← e, nD] at ey
        cases ey
      refine ⟨rfl, ?_⟩
      refine ⟨_, rfl, a, R, 2, rfl, by omega, by omega, r5, fun z H6 hz k6 r6 => ?_⟩
      have h6 := k6.lst hDR h5
      refine ⟨rfl, _, rfl, ?_⟩
      by_cases hzz : z = 0
      · rw [decide_eq_true (show ni z = V.int 0 by rw [hzz]; rfl)]
        refine ite_tt ⟨_, rfl, _, h6, ?_, (k5.trans k6).putD nD, hro.put nD r6, o ++ [x], ?_, sub_set hs hx ho⟩
        · rw [nv_len]
          have := ho.length_le
          have := List.length_take_le i l
          have := set_len hs
          rw [List.length_take] at *
          exact lt_line (by omega)
        · rw [upd_same]
          simp [nv]
      · rw [decide_eq_false (show ¬ ni z = V.int 0 from fun e => hzz (by have := V.int.inj e; omega))]
        refine ite_ff ⟨k5.trans k6, r6, o, h6, ?_⟩
        rw [take_succ hx]
        exact ho.trans (List.sublist_append_left _ _)
    · rintro H5 ⟨k5, r5, o, h5, ho⟩
      rw [nv_len, List.take_length] at ho
      refine ⟨D, nv o, rfl, .inl ⟨.inl (.inl h5), fun t nt => ?_⟩⟩
      exact q t o _ (k5.trans (.new nt)) (r5.put nt r5) upd_same ⟨hs.asc.sublist ho, fun x hx => hs.lt x (ho.subset hx)⟩
end
end T27
end
section
set_option Elab.async false
set_option linter.all false
set_option maxRecDepth 100000
set_option maxHeartbeats 4000000
namespace T27
open PySem PySem.Spec PyProof.Rows L2 M27
/-! ### parking -/
theorem next_mod {n x : Nat} (h : x < n) : nextPlace n x = (x + 1) % n := by
  unfold nextPlace
  by_cases e : Nat.ble n (x + 1) = true
  · rw [if_pos e]
    have := Nat.le_of_ble_eq_true e
    rw [show x + 1 = n by omega, Nat.mod_self]
  · rw [if_neg e]
    have : ¬ n ≤ x + 1 := fun q => e (Nat.ble_eq_true_of_le q)
    rw [Nat.mod_eq_of_lt (by omega)]
theorem next_lt {n x : Nat} (h : x < n) : nextPlace n x < n := by rw [next_mod h]; exact Nat.mod_lt _ (by omega)
theorem next_on {n x j : Nat} (h : x < n) : (nextPlace n x + j) % n = (x + (j + 1)) % n := by
  rw [next_mod h, Nat.mod_add_mod]
  congr 1
  omega
theorem park_at {n m x : Nat} {f : List Nat} (h : has x f = true) : park n f (m + 1) x = park n f m (nextPlace n x) := by
  show (if has x f = true then park n f m (nextPlace n x) else x) = _
  rw [if_pos h]
theorem park_lt {n : Nat} {f : List Nat} : ∀ m x, x < n → park n f m x < n
  | 0, x, h => h
  | m + 1, x, h => by
    show (if has x f = true then park n f m (nextPlace n x) else x) < n
    split
    · exact park_lt m _ (next_lt h)
    · exact h
theorem spots_succ {n : Nat} {cars : List Nat} {i x : Nat} (h : cars[i]? = some x) : spots n (cars.take (i + 1)) = carStep n (spots n (cars.take i)) x := by
  unfold spots
  rw [take_succ h, List.foldl_append]
  rfl
theorem fold_len (n : Nat) : ∀ (b f : List Nat), (b.foldl (carStep n) f).length = f.length + b.length
  | [], f => rfl
  | x :: b, f => by
    rw [List.foldl_cons, fold_len n b]
    unfold carStep
    simp
    omega
theorem spots_len (n : Nat) (cars : List Nat) : (spots n cars).length = cars.length := by
  unfold spots
  rw [fold_len]
  exact Nat.zero_add _
theorem fold_lt {n : Nat} : ∀ (b f : List Nat), (∀ x ∈ f, x < n) → (∀ x ∈ b, x < n) → ∀ x ∈ b.foldl (carStep n) f, x < n
  | [], f, hf, _ => hf
  | x :: b, f, hf, hb => fold_lt b (carStep n f x) (fun y hy => by
      unfold carStep at hy
      rcases List.mem_append.mp hy with q | q
      · exact hf y q
      · rw [List.mem_singleton.mp q]
        exact park_lt n x (hb x List.mem_cons_self)) (fun y hy => hb y (List.mem_cons_of_mem _ hy))
section
variable {P : Program} {w : World} {K : PySem.W.Frag} {mg : Str → Option Value} {base : Heap}
def spSpots : Sp := fun vs H Q _ => ∃ (n : Nat) (v : V) (cars : List Nat), vs = [ni n, v] ∧ 2 ≤ n ∧ n ≤ 9 ∧ LstN H v cars ∧ cars.length ≤ n ∧ (∀ x ∈ cars, x < n) ∧ ∀ a H', Kp H H' → H' a = some (.lst (nv (spots n cars))) → Q (.ref a) H'
theorem ok_spots {f : Addr} {fd : FuncData} (F : Fun K "_law_spots" "_law_spots" sSpots f fd) (B : Bl mg) : FnOk P w K mg base CX0 1 f fd ["_law_size", "_law_wishes_here"] spSpots := by
  refine F.ok scSpots (fun vs H Q E h => ?_) (fun cdv A outer s H vs Q E hr h => ?_)
  · obtain ⟨_, _, _, rfl, _⟩ := h
    rfl
  · obtain ⟨n, v, cars, rfl, h2, h9, ⟨a, rfl, ha⟩, hl, hc, q⟩ := h
    refine ⟨_, pss_cons (ps_set (i := 2) scSpots.nd rfl (Or.inl rfl) (pe_lst pa_nil))
      (pss_cons (ps_for PassesOwn.never rfl (pi_list (pv 1)) (pg_name (i := 3) scSpots.nd rfl (Or.inl rfl))
        (pss_cons (ps_while PassesOwn.never (pt_cmpR op_in_seq (pv 3) (pv 2) (by rfl))
          (pss_one (ps_set (i := 3) scSpots.nd rfl (Or.inl rfl) (pe_ifExp (pt_cmpR op_lt (pe_op op_add (pv 3) pe_int) (pv 0) (nomark _)) (pe_op op_add (pv 3) pe_int) pe_int))))
        (pss_one (ps_expr (pe_bm PySem.F.plainAttrs_list PySem.F.slot_list_append PySem.F.type_list_append mt_append (pv 2) (pa_cons (pv 3) pa_nil))))))
      (pss_one (ps_ret (pv 2)))), ?_⟩
    refine ⟨Nat.zero_le _, fun D nD => ?_⟩
    have kD : Kp H (upd H D (.lst [])) := (Kp.refl H).put nD
    refine ⟨_, rfl, a, rfl, ⟨_, .inl (.inl (kD.lst ha))⟩, for_list (K := K) (a := a) (xs := nv cars) (fun i σ H' => (∃ y3, σ = [some (ni n), some (.ref a), some (.ref D), y3]) ∧ Kp H H' ∧ H' D = some (.lst (nv (spots n (cars.take i))))) ⟨⟨_, rfl⟩, kD, upd_same⟩ (fun i σ H' _ h => .inl (.inl (h.2.1.lst ha))) ?_ ?_⟩
    · rintro i y σ H' hy ⟨⟨y3, rfl⟩, k1, hD⟩
      obtain ⟨x, hx, rfl⟩ := nv_get' hy
      have hxn := hc x (List.mem_of_getElem? hx)
      have hil : i < cars.length := (List.getElem?_eq_some_iff.mp hx).1
      have hfl : (spots n (cars.take i)).length = i := by rw [spots_len, List.length_take]; omega
      rw [spots_succ hx]
      generalize spots n (cars.take i) = F at *
      obtain ⟨j0, hj0, hg⟩ := gap_on (w := F) (by omega) hxn
      refine ⟨fun m σ H2 => ∃ y, σ = [some (ni n), some (.ref a), some (.ref D), some (ni y)] ∧ Kp H H2 ∧ H2 D = some (.lst (nv F)) ∧ y < n ∧ park n F m y = park n F n x ∧ ∃ j, j < m ∧ (y + j) % n ∉ F, ⟨n, x, rfl, k1, hD, hxn, rfl, j0, hj0, hg⟩, ?_⟩
      rintro m σ2 H2 ⟨y, rfl, k2, hD2, hyn, hp, j, hjm, hj⟩
      obtain ⟨m, rfl⟩ : ∃ m', m = m' + 1 := ⟨m - 1, by omega⟩
      refine ⟨_, rfl, _, rfl, D, nv F, rfl, .inl (.inl (.inl hD2)), rfl, nv_flat F, _, rfl, ?_⟩
      show if (inV (ni y) (nv F)) = true then _ else _
      rw [inV_nat]
      by_cases hh : has y F = true
      · rw [if_pos hh]
        have hj1 : 1 ≤ j := Nat.pos_of_ne_zero fun e => hj (by rw [e, Nat.add_zero, Nat.mod_eq_of_lt hyn]; exact has_iff.mp hh)
        refine ⟨fun σ' H' => σ' = [some (ni n), some (.ref a), some (.ref D), some (ni (nextPlace n y))] ∧ Kp H H' ∧ H' D = some (.lst (nv F)), fun σ' H' ⟨e1, e2, e3⟩ => ⟨m, Nat.lt_succ_self m, nextPlace n y, e1, e2, e3, next_lt hyn, by rw [← park_at hh]; exact hp, j - 1, by omega, by rw [next_on hyn, show j - 1 + 1 = j by omega]; exact hj⟩, ?_⟩
        refine ⟨_, rfl, _, _, rfl, rfl, _, rfl, _, _, rfl, rfl, _, rfl, ?_⟩
        by_cases hlt : (y : Int) + 1 < (n : Int)
        · rw [decide_eq_true hlt]
          refine ite_tt ⟨_, rfl, _, _, rfl, rfl, ?_, k2, hD2⟩
          have e : nextPlace n y = y + 1 := by rw [next_mod hyn, Nat.mod_eq_of_lt (by omega)]
          rw [e]
          rfl
        · rw [decide_eq_false hlt]
          refine ite_ff ⟨?_, k2, hD2⟩
          have e : nextPlace n y = 0 := by rw [next_mod hyn, show y + 1 = n by omega, Nat.mod_self]
          rw [e]
          rfl
      · rw [if_neg hh]
        have hpy : park n F n x = y := by rw [← hp]; exact park_free (fun z => hh (has_iff.mpr z)) _
        refine ⟨_, rfl, .inl ⟨rfl, _, .inl (.inl hD2)⟩, _, rfl, D, nv F, _, rfl, rfl, hD2, ?_, ⟨_, rfl⟩, k2.put nD, ?_⟩
        · rw [nv_len]
          exact lt_line (by omega)
        · rw [upd_same]
          unfold carStep
          rw [hpy]
          simp [nv]
    · rintro σ H' ⟨⟨y3, rfl⟩, k1, hD⟩
      rw [nv_len, List.take_length] at hD
      exact ⟨_, rfl, q D H' k1 hD⟩
/-! ### the sum of two sets -/
def spSum : Sp := fun vs H Q _ => ∃ (n : Nat) (v u : V) (o p : List Nat), vs = [ni n, v, u] ∧ 2 ≤ n ∧ n ≤ 9 ∧ SetN H v n o ∧ SetN H u n p ∧ ∀ t H', Kp H H' → H' t = some (.tup (nv (lawSum n o p))) → Q (.ref t) H'
theorem cut_take (l : List Nat) (n : Nat) : cutV (nv l) none (some (n : Int)) = nv (l.take n) := by
  unfold cutV
  rw [HT.sIx_none, HT.sIx_nat, nv_len]
  simp [nv, List.map_take]
theorem ok_sum {f : Addr} {fd : FuncData} (F : Fun K "_law_sum" "_law_sum" sSum f fd) (B : Bl mg) (S : Kept P w K mg base 1 "_law_spots" spSpots) : FnOk P w K mg base CX0 2 f fd ["_law_size", "_law_one", "_law_other"] spSum := by
  refine F.ok scSum (fun vs H Q E h => ?_) (fun cdv A outer s H vs Q E hr h => ?_)
  · obtain ⟨_, _, _, _, _, rfl, _⟩ := h
    rfl
  · obtain ⟨n, v, u, o, p, rfl, h2, h9, ⟨⟨a, rfl, ha⟩, ho⟩, ⟨⟨b, rfl, hb⟩, hp⟩, q⟩ := h
    refine ⟨_, pss_cons (ps_set (i := 3) scSum.nd rfl (Or.inl rfl) (pe_slice sl_list (pe_op op_cat (pe_callTy call_list_of (by rfl) B.list (by decide +kernel) (pa_cons (pv 1) pa_nil)) (pe_callTy call_list_of (by rfl) B.list (by decide +kernel) (pa_cons (pv 2) pa_nil))) po_none (po_some (pv 0))))
      (pss_one (ps_ret (pe_callTy (call_tupK K) (by rfl) B.tuple boot_tuple (pa_cons (pe_callB cr_sorted (by rfl) B.sorted (by decide +kernel) (pa_cons (pe_k S hr (by decide) (by rfl) (pa_cons (pv 0) (pa_cons (pv 3) pa_nil))) pa_nil)) pa_nil)))), ?_⟩
    refine ⟨_, rfl, a, nv o, rfl, .inr (.inl (.inl ha)), fun c nc => ?_⟩
    have k1 : Kp H (upd H c (.lst (nv o))) := .new nc
    have hc1 : upd H c (.lst (nv o)) c = some (.lst (nv o)) := upd_same
    generalize upd H c (.lst (nv o)) = H1 at *
    refine ⟨_, rfl, b, nv p, rfl, .inr (.inl (.inl (k1.tup hb))), fun d nd => ?_⟩
    have k2 : Kp H1 (upd H1 d (.lst (nv p))) := .new nd
    have hd2 : upd H1 d (.lst (nv p)) d = some (.lst (nv p)) := upd_same
    generalize upd H1 d (.lst (nv p)) = H2 at *
    have hol := set_len ho
    have hpl := set_len hp
    refine ⟨c, d, nv o, nv p, rfl, rfl, k2.lst hc1, hd2, small_line (by rw [nv_len, nv_len]; omega), fun g ng => ?_⟩
    have k3 : Kp H2 (upd H2 g (.lst (nv o ++ nv p))) := .new ng
    have hg3 : upd H2 g (.lst (nv o ++ nv p)) g = some (.lst (nv o ++ nv p)) := upd_same
    generalize upd H2 g (.lst (nv o ++ nv p)) = H3 at *
    refine ⟨_, rfl, (n : Int), rfl, g, _, rfl, .inl (.inl hg3), fun e ne => ?_⟩
    have e3 : cutV (nv o ++ nv p) none (some (n : Int)) = nv ((o ++ p).take n) := by
      rw [← cut_take]
      unfold nv
      rw [List.map_append]
    rw [e3]
    have k4 : Kp H3 (upd H3 e (.lst (nv ((o ++ p).take n)))) := .new ne
    have he4 : upd H3 e (.lst (nv ((o ++ p).take n))) e = some (.lst (nv ((o ++ p).take n))) := upd_same
    generalize upd H3 e (.lst (nv ((o ++ p).take n))) = H4 at *
    have hcl : ((o ++ p).take n).length ≤ n := by rw [List.length_take]; omega
    have hct : ∀ x ∈ (o ++ p).take n, x < n := fun x hx => by
      rcases List.mem_append.mp (List.mem_of_mem_take hx) with z | z
      · exact ho.lt x z
      · exact hp.lt x z
    refine ⟨_, rfl, _, rfl, n, .ref e, (o ++ p).take n, rfl, h2, h9, ⟨e, rfl, he4⟩, hcl, hct, fun r H5 k5 hr5 => ?_⟩
    have hr5' : H5 r = some (.lst (((spots n ((o ++ p).take n)).map fun x : Nat => (x : Int)).map V.int)) := by rw [← nv_ints]; exact hr5
    refine ⟨r, _, rfl, .inl (.inl hr5'), by rw [List.length_map, spots_len]; omega, fun js z hjs hso nz => ?_⟩
    refine ⟨z, js.map V.int, rfl, .inl ⟨.inl (.inl upd_same), fun t nt => ?_⟩⟩
    exact q t _ ((((k1.trans k2).trans k3).trans k4).trans ((k5.trans (.new nz)).trans (.new nt))) (by show _ = some (HO.tup (nv (isort (spots n ((o ++ p).take n))))); rw [← sorted_nat hjs hso]; exact upd_same)
end
end T27
end
section
set_option Elab.async false
set_option linter.all false
set_option maxRecDepth 100000
set_option maxHeartbeats 4000000
namespace T27
open PySem PySem.Spec PyProof.Rows L2 M27
theorem subs_len : ∀ n, (subs n).length = 2 ^ n
  | 0 => rfl
  | n + 1 => by
    show (subs n ++ (subs n).map (fun s => s ++ [n])).length = _
    rw [List.length_append, List.length_map, subs_len n, Nat.pow_succ]
    omega
theorem subs_few {n : Nat} (h : n ≤ 9) : (subs n).length ≤ 512 := by
  rw [subs_len]
  exact Nat.le_trans (Nat.pow_le_pow_right (by decide) h) (by decide)
theorem subs_head : ∀ n, ∃ r, subs n = [] :: r
  | 0 => ⟨[], rfl⟩
  | n + 1 => by
    obtain ⟨r, e⟩ := subs_head n
    show ∃ r, subs n ++ (subs n).map (fun s => s ++ [n]) = [] :: r
    rw [e]
    exact ⟨_, rfl⟩
/-! ### == of tuples of naturals -/
def pd (l : List Nat) : PyData := .tuple ((l.map fun x : Nat => (x : Int)).map PyData.int)
theorem dp_tup {K : PySem.W.Frag} {H : Hp} {a : Addr} {l : List Nat} (h : H a = some (.tup (nv l))) : Dp K H (.ref a) (pd l) := by
  refine .tup (.inl (.inl h)) ?_
  clear h
  induction l with
  | nil => exact .nil
  | cons x t ih => exact .cons (.int _) ih
theorem pd_shaped (l : List Nat) : SeqAt.shaped (pd l) = true := by
  unfold SeqAt.shaped pd
  rw [Bool.and_eq_true]
  refine ⟨canLayAll_ints _, ?_⟩
  have : PyData.depth (.tuple ((l.map fun x : Nat => (x : Int)).map PyData.int)) = 1 := by
    simp only [PyData.depth]
    rw [PySem.W.depth_ints]
  rw [this]
  rfl
theorem pd_eqv : ∀ a b : List Nat, PyData.eqv (pd a) (pd b) = eqL a b := by
  intro a b
  show PyData.eqvAll _ _ = _
  induction a generalizing b with
  | nil => cases b <;> rfl
  | cons x s ih =>
    cases b with
    | nil => rfl
    | cons y t =>
      show (PyData.eqv (.int x) (.int y) && PyData.eqvAll _ _) = (Nat.beq x y && eqL s t)
      rw [ih t]
      congr 1
      show ((x : Int) == (y : Int)) = Nat.beq x y
      cases e : Nat.beq x y with
      | true => rw [Nat.eq_of_beq_eq_true e]; simp
      | false =>
        have : x ≠ y := fun q => by rw [q, Nat.beq_refl] at e; cases e
        simp; omega
section
variable {X : Cx} (K : PySem.W.Frag)
theorem op_eqDK (hu : X.A.units + 64 < cLine) (h : X.K = K := by rfl) : OpR X (compareOp .Eq) (rEqD K) := by subst h; exact op_eqD hu
end
theorem room64 {A : Around} {k : Nat} (hr : Room k A) : A.units + 64 < cLine := by have := hr.un; omega
section
variable {P : Program} {w : World} {K : PySem.W.Frag} {mg : Str → Option Value} {base : Heap}
def spSets : Sp := fun vs H Q _ => ∃ n : Nat, vs = [ni n] ∧ n ≤ 9 ∧ ∀ a xs L H', Kp H H' → H' a = some (.lst xs) → TupsN H' xs L → L.Perm (subs n) → Q (.ref a) H'
theorem ok_sets {f : Addr} {fd : FuncData} (F : Fun K "_law_sets" "_law_sets" sSets f fd) (B : Bl mg) : FnOk P w K mg base CX0 1 f fd ["_law_size"] spSets := by
  refine F.ok scSets (fun vs H Q E h => ?_) (fun cdv A outer s H vs Q E hr h => ?_)
  · obtain ⟨_, rfl, _⟩ := h
    rfl
  · obtain ⟨n, rfl, h9, q⟩ := h
    refine ⟨_, pss_cons (ps_set (i := 1) scSets.nd rfl (Or.inl rfl) (pe_lst (pa_cons (pe_tup pa_nil) pa_nil)))
      (pss_cons (ps_for PassesOwn.never rfl (pi_range1 (by rfl) B.range (pa_cons (pv 0) pa_nil)) (pg_name (i := 2) scSets.nd rfl (by first | exact Or.inl rfl | exact Or.inr rfl))
        (pss_one (ps_set (i := 1) scSets.nd rfl (Or.inl rfl) (pe_op op_cat (pv 1) (pe_lc (own := [("_law_one", 3)]) (g := gName 3) (tt := tYes) rfl scSets.nd (pi_list (pv 1))
          (blkOk_by (by show blkC ["_law_size", "_law_found", "_law_place", "_law_one"] (defScope sSets) _ _ = true; decide +kernel))
          (fun _ _ _ _ _ => pg_name (i := 3) scSets.nd rfl (by first | exact Or.inl rfl | exact Or.inr rfl)) (fun _ _ _ _ _ => pts_nil) (fun _ _ _ _ _ => pe_op (op_catTK K) (pv 3) (pe_tup (pa_cons (pv 2) pa_nil))))))))
      (pss_one (ps_ret (pe_callB (cr_sortTupK K (room64 hr)) (by rfl) B.sorted (by decide +kernel) (pa_cons (pv 1) pa_nil))))), ?_⟩
    refine ⟨Nat.zero_le _, fun T0 nT0 => ⟨(by show 1 ≤ sizeLine; exact small_line (by decide)), fun D0 nD0 => ?_⟩⟩
    have kT : Kp H (upd H T0 (.tup [])) := .new nT0
    have kD := kT.trans (.new nD0 (o := .lst [V.ref T0]))
    have hT0 : upd (upd H T0 (.tup [])) D0 (.lst [.ref T0]) T0 = some (.tup (nv [])) := (Kp.new nD0).tup upd_same
    refine ⟨_, rfl, (n : Int), rfl, (int_bound (by omega)).1, (int_bound (by omega)).2, ?_⟩
    rw [Int.toNat_natCast]
    refine for_range (fun i σ H' => (∃ D y2 xs, σ = [some (ni n), some (.ref D), y2, none] ∧ H' D = some (.lst xs) ∧ TupsN H' xs (subs i)) ∧ Kp H H') ⟨⟨D0, _, [.ref T0], rfl, upd_same, .cons ⟨T0, rfl, hT0⟩ .nil⟩, kD⟩ ?_ ?_
    · rintro i σ H' hi ⟨⟨D, y2, xs, rfl, hD, hx⟩, k1⟩
      have hfew := subs_few (n := i) (by omega)
      refine ⟨_, rfl, _, rfl, D, rfl, ⟨xs, .inl (.inl hD)⟩, fun D2 nD2 => ?_⟩
      refine lc_list (K := K) (a := D) (xs := xs) (fun k H3 => Kp H' H3 ∧ ∃ ys, H3 D2 = some (.lst ys) ∧ TupsN H3 ys (((subs i).take k).map fun s => s ++ [i])) ⟨(Kp.refl H').put nD2, [], upd_same, .nil⟩ (fun i H' _ h => .inl (.inl (h.1.lst hD))) ?_ ?_
      · rintro k y H3 hy ⟨k3, ys, hD3, hys⟩
        obtain ⟨l, hl, t, rfl, ht⟩ := paired_get hx hy
        have hset := mem_subs.mp (List.mem_of_getElem? hl)
        have hll := set_len hset
        refine ⟨rfl, ?_⟩
        refine ⟨_, rfl, _, rfl, (by show 1 ≤ sizeLine; exact small_line (by decide)), fun b nb => ?_⟩
        have e0 : V.int (0 + (i : Int)) = ni i := by rw [Int.zero_add]
        rw [e0]
        have k4 : Kp H3 (upd H3 b (.tup [ni i])) := .new nb
        have hb4 : upd H3 b (.tup [ni i]) b = some (.tup [ni i]) := upd_same
        have hD4 : upd H3 b (.tup [ni i]) D2 = some (.lst ys) := k4.lst hD3
        generalize upd H3 b (.tup [ni i]) = H4 at *
        have fin : ∀ (z : Addr) (H5 : Hp), Kp H4 H5 → H5 z = some (.tup (nv (l ++ [i]))) → ∃ acc, H5 D2 = some (.lst acc) ∧ acc.length < sizeLine ∧ (Kp H' (upd H5 D2 (.lst (acc ++ [.ref z]))) ∧ ∃ ys, upd H5 D2 (.lst (acc ++ [.ref z])) D2 = some (.lst ys) ∧ TupsN (upd H5 D2 (.lst (acc ++ [.ref z]))) ys (((subs i).take (k + 1)).map fun s => s ++ [i])) := fun z H5 k5 hz => by
          refine ⟨ys, k5.lst hD4, ?_, (k3.trans (k4.trans k5)).put nD2, ys ++ [.ref z], upd_same, ?_⟩
          · rw [paired_len hys, List.length_map, List.length_take]
            exact lt_line (by omega)
          · rw [map_succ hl]
            exact TupsN.put (k5.lst hD4) (paired_app (hys.kp (k4.trans k5)) (.cons ⟨z, rfl, hz⟩ .nil))
        refine ⟨t, b, nv l, [ni i], rfl, rfl, .inl (.inl (k4.tup (k3.tup ht))), .inl (.inl hb4), small_line (by rw [nv_len]; show l.length + 1 ≤ _; omega), fun e => ?_, fun _ e => (nomatch e), fun _ _ p np => ?_⟩
        · have : l = [] := List.map_eq_nil_iff.mp e
          subst this
          exact fin b H4 (.refl _) hb4
        · refine fin p _ (.new np) ?_
          have e : nv (l ++ [i]) = nv l ++ [ni i] := by simp [nv]
          rw [e]
          exact upd_same
      · rintro H3 ⟨k3, ys, hD3, hys⟩
        rw [paired_len hx, List.take_length] at hys
        have hap : TupsN H3 (xs ++ ys) (subs (i + 1)) := paired_app (hx.kp k3) hys
        have hln := paired_len hap
        rw [List.length_append] at hln
        have := subs_few (n := i + 1) (by omega)
        exact ⟨D, D2, xs, ys, rfl, rfl, k3.lst hD, hD3, small_line (by omega), fun p np => ⟨⟨p, _, xs ++ ys, rfl, upd_same, hap.kp (.new np)⟩, (k1.trans k3).trans (.new np)⟩⟩
    · rintro σ H' ⟨⟨D, y2, xs, rfl, hD, hx⟩, k1⟩
      obtain ⟨r, er⟩ := subs_head n
      refine ⟨_, rfl, D, xs, _, rfl, .inl (.inl hD), tupsN_at hx, .inr ⟨_, by rw [er]; rfl⟩, fun zs p hz np => ?_⟩
      obtain ⟨L', hL', hP⟩ := paired_perm hz hx
      exact q p zs L' _ (k1.trans (.new np)) upd_same (TupsN.kp (.new np) hP) hL'
/-! ### all differences -/
def spDiffs : Sp := fun vs H Q _ => ∃ (n : Nat) (v u : V) (l o : List Nat), vs = [ni n, v, u] ∧ 2 ≤ n ∧ n ≤ 9 ∧ SetN H v n l ∧ SetN H u n o ∧ ∀ a xs L H', Kp H H' → H' a = some (.lst xs) → TupsN H' xs L → (∀ x, x ∈ L ↔ x ∈ brute n l o) → L.length ≤ 512 → Q (.ref a) H'
theorem ok_diffs {f : Addr} {fd : FuncData} (F : Fun K "_law_differences" "_law_differences" sDiffs f fd) (B : Bl mg) (SS : Kept P w K mg base 1 "_law_sets" spSets) (SM : Kept P w K mg base 2 "_law_sum" spSum) : FnOk P w K mg base CX0 3 f fd ["_law_size", "_law_whole_here", "_law_one"] spDiffs := by
  refine F.ok scDiffs (fun vs H Q E h => ?_) (fun cdv A outer s H vs Q E hr h => ?_)
  · obtain ⟨_, _, _, _, _, rfl, _⟩ := h
    rfl
  · obtain ⟨n, v, u, l, o, rfl, h2, h9, ⟨⟨a, rfl, ha⟩, hl⟩, ⟨⟨b, rfl, hb⟩, ho⟩, q⟩ := h
    refine ⟨_, pss_cons (ps_setLc (i := 3) (own := [("_law_part", 4)]) (g := gName 4) rfl scDiffs.nd rfl rfl (sw_true rfl rfl rfl (by decide +kernel)) (pi_list (pe_k SS hr (by decide) (by rfl) (pa_cons (pv 0) pa_nil)))
        (blkOk_by (by show blkC ["_law_size", "_law_whole_here", "_law_one", "_law_some", "_law_part"] (defScope sDiffs) _ _ = true; decide +kernel))
        (fun _ _ _ _ _ => pg_name (i := 4) scDiffs.nd rfl (by first | exact Or.inl rfl | exact Or.inr rfl))
        (fun _ _ _ _ _ => pts_one (pt_cmpR op_eq (pe_op op_add (pe_callB (call_lenK K) (by rfl) B.len boot_len (pa_cons (pv 4) pa_nil)) (pe_callB (call_lenK K) (by rfl) B.len boot_len (pa_cons (pv 2) pa_nil))) (pe_callB (call_lenK K) (by rfl) B.len boot_len (pa_cons (pv 1) pa_nil)) (nomark _))) (fun _ _ _ _ _ => pv 4))
      (pss_one (ps_ret (pe_lc (own := [("_law_part", 4)]) (g := gName 4) rfl scDiffs.nd (pi_list (pv 3))
        (blkOk_by (by show blkC ["_law_size", "_law_whole_here", "_law_one", "_law_some", "_law_part"] (defScope sDiffs) _ _ = true; decide +kernel))
        (fun _ _ _ _ _ => pg_name (i := 4) scDiffs.nd rfl (by first | exact Or.inl rfl | exact Or.inr rfl))
        (fun _ _ _ _ _ => pts_one (pt_cmpR (op_eqDK K (room64 hr)) (pe_k SM hr (by decide) (by rfl) (pa_cons (pv 0) (pa_cons (pv 2) (pa_cons (pv 4) pa_nil)))) (pv 1) (nomark _))) (fun _ _ _ _ _ => pv 4)))), ?_⟩
    refine ⟨_, rfl, n, rfl, h9, fun c xs L H1 k1 hc hx hL => ⟨c, rfl, ⟨xs, .inl (.inl hc)⟩, fun D nD => ?_⟩⟩
    have hLf : L.length ≤ 512 := by rw [hL.length_eq]; exact subs_few h9
    refine lc_list (K := K) (a := c) (xs := xs) (fun i H2 => Kp H1 H2 ∧ ∃ ys, H2 D = some (.lst ys) ∧ TupsN H2 ys ((L.take i).filter (fits l o))) ⟨(Kp.refl H1).put nD, [], upd_same, .nil⟩ (fun i H' _ h => .inl (.inl (h.1.lst hc))) ?_ ?_
    · rintro i y H2 hy ⟨k2, ys, hD, hys⟩
      obtain ⟨x, hxi, t, rfl, ht⟩ := paired_get hx hy
      refine ⟨rfl, ?_⟩
      have k12 := k1.trans k2
      refine ⟨_, rfl, t, nv x, rfl, .inr (.inl (.inl (k2.tup ht))), _, rfl, b, nv o, rfl, .inr (.inl (.inl (k12.tup hb))), _, _, rfl, rfl, _, rfl, a, nv l, rfl, .inr (.inl (.inl (k12.tup ha))), rfl, _, rfl, ?_⟩
      rw [nv_len, nv_len, nv_len, take_succ hxi, filter_snoc']
      by_cases hf : fits l o x = true
      · have hf' := fits_iff.mp hf
        rw [if_pos hf, decide_eq_true (show V.int ((x.length : Int) + (o.length : Int)) = V.int (l.length : Int) by rw [← hf', Int.natCast_add])]
        refine ite_tt ⟨_, rfl, ys, hD, ?_, k2.put nD, ys ++ [.ref t], upd_same, ?_⟩
        · rw [paired_len hys]
          have := take_len_le L (fits l o) i
          exact lt_line (by omega)
        · exact TupsN.put hD (paired_app hys (.cons ⟨t, rfl, k2.tup ht⟩ .nil))
      · rw [if_neg hf, decide_eq_false (show ¬ V.int ((x.length : Int) + (o.length : Int)) = V.int (l.length : Int) from fun e => hf (fits_iff.mpr (by have := V.int.inj e; omega)))]
        exact ite_ff ⟨k2, ys, hD, hys⟩
    · rintro H2 ⟨k2, ys, hD, hys⟩
      rw [paired_len hx, List.take_length] at hys
      have hm : ∀ x, x ∈ L.filter (fits l o) ↔ x ∈ (subs n).filter (fits l o) := fun x => by rw [List.mem_filter, List.mem_filter, hL.mem_iff]
      have hMf : (L.filter (fits l o)).length ≤ 512 := Nat.le_trans (List.length_filter_le _ _) hLf
      generalize L.filter (fits l o) = M at *
      have k12 := k1.trans k2
      refine ⟨_, rfl, D, rfl, ⟨ys, .inl (.inl hD)⟩, fun D2 nD2 => ?_⟩
      refine lc_list (K := K) (a := D) (xs := ys) (fun i H3 => Kp H2 H3 ∧ ∃ zs, H3 D2 = some (.lst zs) ∧ TupsN H3 zs ((M.take i).filter (fun p => eqL (lawSum n o p) l))) ⟨(Kp.refl H2).put nD2, [], upd_same, .nil⟩ (fun i H' _ h => .inl (.inl (h.1.lst hD))) ?_ ?_
      · rintro i y H3 hy ⟨k3, zs, hD3, hzs⟩
        obtain ⟨x, hxi, t, rfl, ht⟩ := paired_get hys hy
        have hxs := mem_subs.mp (List.mem_filter.mp ((hm x).mp (List.mem_of_getElem? hxi))).1
        have k13 := k12.trans k3
        refine ⟨rfl, ?_⟩
        refine ⟨_, rfl, _, rfl, _, rfl, n, .ref b, .ref t, o, x, rfl, h2, h9, ⟨⟨b, rfl, k13.tup hb⟩, ho⟩, ⟨⟨t, rfl, k3.tup ht⟩, hxs⟩, fun r H4 k4 hr4 => ?_⟩
        refine ⟨_, rfl, pd (lawSum n o x), pd l, dp_tup hr4, dp_tup (k4.tup (k13.tup ha)), pd_shaped _, pd_shaped _, _, rfl, ?_⟩
        rw [pd_eqv, take_succ hxi, filter_snoc']
        by_cases hf : eqL (lawSum n o x) l = true
        · rw [if_pos hf, hf]
          refine ite_tt ⟨_, rfl, zs, k4.lst hD3, ?_, (k3.trans k4).put nD2, zs ++ [.ref t], upd_same, ?_⟩
          · rw [paired_len hzs]
            have := take_len_le M (fun p => eqL (lawSum n o p) l) i
            exact lt_line (by omega)
          · exact TupsN.put (k4.lst hD3) (paired_app (hzs.kp k4) (.cons ⟨t, rfl, k4.tup (k3.tup ht)⟩ .nil))
        · rw [if_neg hf, show eqL (lawSum n o x) l = false by simpa using hf]
          exact ite_ff ⟨k3.trans k4, zs, k4.lst hD3, hzs.kp k4⟩
      · rintro H3 ⟨k3, zs, hD3, hzs⟩
        rw [paired_len hys, List.take_length] at hzs
        refine q D2 zs _ H3 (k12.trans k3) hD3 hzs (fun x => ?_) (Nat.le_trans (List.length_filter_le _ _) hMf)
        unfold brute
        rw [List.mem_filter, List.mem_filter, hm x]
end
end T27
end
section
set_option Elab.async false
set_option linter.all false
set_option maxRecDepth 100000
set_option maxHeartbeats 4000000
namespace T27
open PySem PySem.Spec PyProof.Rows L2 M27
section
variable {K : PySem.W.Frag}
theorem kit_non : PySem.W.kitAny K (.type "NoneType") [.type "tuple", .type "list"] = some false := kitAny_cons (b := false) (kit_ty (by decide +kernel)) (fun _ => kitAny_cons (b := false) (kit_ty (by decide +kernel)) (fun _ => kitAny_nil) (fun e => nomatch e)) (fun e => nomatch e)
theorem kit_int : PySem.W.kitAny K (.type "int") [.type "tuple", .type "list"] = some false := kitAny_cons (b := false) (kit_ty (by decide +kernel)) (fun _ => kitAny_cons (b := false) (kit_ty (by decide +kernel)) (fun _ => kitAny_nil) (fun e => nomatch e)) (fun e => nomatch e)
theorem kit_tup : PySem.W.kitAny K (.type "tuple") [.type "tuple", .type "list"] = some true := kitAny_cons (b := true) (kit_ty (by decide +kernel)) (fun e => nomatch e) (fun _ => rfl)
end
section
variable {P : Program} {w : World} {K : PySem.W.Frag} {mg : Str → Option Value} {base : Heap}
def spAlike0 : Sp := fun vs H Q _ => ∃ x : V, vs = [x, x] ∧ (x = .non ∨ ∃ i, x = .int i) ∧ ∀ H', Kp H H' → Q (.bl true) H'
theorem ok_alike0 {f : Addr} {fd : FuncData} (F : Fun K "_law_alike" "_law_alike" sAlike f fd) (B : Bl mg) : FnOk P w K mg base CX0 1 f fd ["_law_found", "_law_due"] spAlike0 := by
  refine F.ok scAlike (fun vs H Q E h => ?_) (fun cdv A outer s H vs Q E hr h => ?_)
  · obtain ⟨_, rfl, _⟩ := h
    rfl
  · obtain ⟨x, rfl, hx, q⟩ := h
    refine ⟨_, pss_cons (ps_if (pt_val (pe_callB call_isiT (by rfl) B.isi (by decide +kernel) (pa_cons (pv 1) (pa_cons (pe_tup (pa_cons (pe_bltn (v := .ty "tuple") (by rfl) B.tuple (by decide +kernel) rfl) (pa_cons (pe_bltn (v := .ty "list") (by rfl) B.list (by decide +kernel) rfl) pa_nil))) pa_nil)))) pss_never pss_nil)
      (pss_cons (ps_if (PW.pt (pw_or (pt_cmpR op_isN (pv 1) pe_non (nomark _)) (pw_or1 (pt_val (pe_callB call_isi (by rfl) B.isi (by decide +kernel) (pa_cons (pv 1) (pa_cons (pe_bltn (v := .ty "str") (by rfl) B.str (by decide +kernel) rfl) pa_nil)))))))
        (pss_one (ps_ret (pe_and (pe_cmpR op_eq (pv 0) (pv 1) (nomark _)) (pe_one (pe_cmpR op_eq (pe_callB call_isi (by rfl) B.isi (by decide +kernel) (pa_cons (pv 0) (pa_cons (pe_bltn (v := .ty "str") (by rfl) B.str (by decide +kernel) rfl) pa_nil))) (pe_callB call_isi (by rfl) B.isi (by decide +kernel) (pa_cons (pv 1) (pa_cons (pe_bltn (v := .ty "str") (by rfl) B.str (by decide +kernel) rfl) pa_nil))) (nomark _)))))) pss_nil)
      (pss_one (ps_ret (pe_and (pe_callB call_isi (by rfl) B.isi (by decide +kernel) (pa_cons (pv 0) (pa_cons (pe_bltn (v := .ty "int") (by rfl) B.int (by decide +kernel) rfl) pa_nil)))
        (pe_and (pe_cmpR op_eq (pe_callB call_isi (by rfl) B.isi (by decide +kernel) (pa_cons (pv 0) (pa_cons (pe_bltn (v := .ty "bool") (by rfl) B.bool (by decide +kernel) rfl) pa_nil))) (pe_callB call_isi (by rfl) B.isi (by decide +kernel) (pa_cons (pv 1) (pa_cons (pe_bltn (v := .ty "bool") (by rfl) B.bool (by decide +kernel) rfl) pa_nil))) (nomark _))
          (pe_one (pe_cmpR op_eq (pv 0) (pv 1) (nomark _)))))))), ?_⟩
    refine ⟨_, rfl, (by show 2 ≤ sizeLine; exact small_line (by decide)), fun p np => ?_⟩
    have k1 : Kp H (upd H p (.tup [.ty "tuple", .ty "list"])) := .new np
    have hp : upd H p (.tup [.ty "tuple", .ty "list"]) p = some (.tup [.ty "tuple", .ty "list"]) := upd_same
    generalize upd H p (.tup [.ty "tuple", .ty "list"]) = H1 at *
    rcases hx with rfl | ⟨i, rfl⟩
    · refine ⟨_, p, _, _, _, false, rfl, hp, .cons (.ty "tuple") (.cons (.ty "list") .nil), .base .non, kit_non, ?_⟩
      refine ⟨false, rfl, iteF ?_⟩
      refine ⟨_, rfl, rfl, true, rfl, ite_tt (ite_tt ?_)⟩
      refine ⟨_, rfl, _, rfl, rfl, true, rfl, ite_tt ?_⟩
      refine ⟨_, rfl, _, _, _, _, false, rfl, .ty "str", .base .non, kit_ty (by decide +kernel), ?_⟩
      refine ⟨_, rfl, _, _, _, _, false, rfl, .ty "str", .base .non, kit_ty (by decide +kernel), rfl, ?_⟩
      exact q H1 k1
    · refine ⟨_, p, _, _, _, false, rfl, hp, .cons (.ty "tuple") (.cons (.ty "list") .nil), .base (.int i), kit_int, ?_⟩
      refine ⟨false, rfl, iteF ?_⟩
      refine ⟨_, rfl, rfl, false, rfl, ite_ff ?_⟩
      refine ⟨_, rfl, _, _, _, _, false, rfl, .ty "str", .base (.int i), kit_ty (by decide +kernel), false, rfl, iteF ?_⟩
      refine ⟨_, rfl, _, _, _, _, true, rfl, .ty "int", .base (.int i), kit_ty (by decide +kernel), true, rfl, ite_tt ?_⟩
      refine ⟨_, rfl, _, _, _, _, false, rfl, .ty "bool", .base (.int i), kit_ty (by decide +kernel), ?_⟩
      refine ⟨_, rfl, _, _, _, _, false, rfl, .ty "bool", .base (.int i), kit_ty (by decide +kernel), rfl, true, rfl, ite_tt ?_⟩
      refine ⟨_, rfl, _, rfl, rfl, ?_⟩
      rw [decide_eq_true rfl]
      exact q H1 k1
/-- two pairs -/
def spAlike2 : Sp := fun vs H Q _ => ∃ (f d : Addr) (x y : Int), vs = [.ref f, .ref d] ∧ H f = some (.tup [.int x, .int y]) ∧ H d = some (.tup [.int x, .int y]) ∧ ∀ H', Kp H H' → Q (.bl true) H'
theorem ok_alike2 {f : Addr} {fd : FuncData} (F : Fun K "_law_alike" "_law_alike" sAlike f fd) (B : Bl mg) (A0 : Kept P w K mg base 1 "_law_alike" spAlike0) : FnOk P w K mg base CX0 2 f fd ["_law_found", "_law_due"] spAlike2 := by
  refine F.ok scAlike (fun vs H Q E h => ?_) (fun cdv A outer s H vs Q E hr h => ?_)
  · obtain ⟨_, _, _, _, rfl, _⟩ := h
    rfl
  · obtain ⟨a, b, x, y, rfl, ha, hb, q⟩ := h
    refine ⟨_, pss_cons (ps_if (pt_val (pe_callB call_isiT (by rfl) B.isi (by decide +kernel) (pa_cons (pv 1) (pa_cons (pe_tup (pa_cons (pe_bltn (v := .ty "tuple") (by rfl) B.tuple (by decide +kernel) rfl) (pa_cons (pe_bltn (v := .ty "list") (by rfl) B.list (by decide +kernel) rfl) pa_nil))) pa_nil))))
        (pss_cons (ps_if (PW.pt (pw_or (pt_not (pt_val (pe_callB call_isiT (by rfl) B.isi (by decide +kernel) (pa_cons (pv 0) (pa_cons (pe_tup (pa_cons (pe_bltn (v := .ty "tuple") (by rfl) B.tuple (by decide +kernel) rfl) (pa_cons (pe_bltn (v := .ty "list") (by rfl) B.list (by decide +kernel) rfl) pa_nil))) pa_nil)))))
            (pw_or1 (pt_cmpR op_ne (pe_callB call_isi (by rfl) B.isi (by decide +kernel) (pa_cons (pv 0) (pa_cons (pe_bltn (v := .ty "list") (by rfl) B.list (by decide +kernel) rfl) pa_nil))) (pe_callB call_isi (by rfl) B.isi (by decide +kernel) (pa_cons (pv 1) (pa_cons (pe_bltn (v := .ty "list") (by rfl) B.list (by decide +kernel) rfl) pa_nil))) (nomark _))))) (pss_one ps_never) pss_nil)
        (pss_cons (ps_if (pt_cmpR op_ne (pe_callB call_len_seq (by rfl) B.len boot_len (pa_cons (pv 0) pa_nil)) (pe_callB call_len_seq (by rfl) B.len boot_len (pa_cons (pv 1) pa_nil)) (nomark _)) (pss_one ps_never) pss_nil)
        (pss_one (ps_ret (pe_cmpR (op_eqD (room64 hr)) (pe_lc (own := [("_law_k", 2)]) (g := gName 2) rfl scAlike.nd (pi_range1 (by rfl) B.range (pa_cons (pe_callB call_len_seq (by rfl) B.len boot_len (pa_cons (pv 1) pa_nil)) pa_nil))
          (blkOk_by (by show blkC ["_law_found", "_law_due", "_law_k"] (defScope sAlike) _ _ = true; decide +kernel))
          (fun _ _ _ _ _ => pg_name (i := 2) scAlike.nd rfl (by first | exact Or.inl rfl | exact Or.inr rfl))
          (fun _ _ _ _ _ => pts_one (pt_not (pt_val (pe_k A0 hr (by decide) (by rfl) (pa_cons (pe_ix (ix_tupK K) (pv 0) (pv 2) (fun _ _ => rfl)) (pa_cons (pe_ix (ix_tupK K) (pv 1) (pv 2) (fun _ _ => rfl)) pa_nil)))))) (fun _ _ _ _ _ => pv 2)) (pe_lst pa_nil) (nomark _)))))) pss_nil)
      pss_never, ?_⟩
    refine ⟨_, rfl, (by show 2 ≤ sizeLine; exact small_line (by decide)), fun p np => ?_⟩
    have k1 : Kp H (upd H p (.tup [.ty "tuple", .ty "list"])) := .new np
    have hp : upd H p (.tup [.ty "tuple", .ty "list"]) p = some (.tup [.ty "tuple", .ty "list"]) := upd_same
    generalize upd H p (.tup [.ty "tuple", .ty "list"]) = H1 at *
    refine ⟨_, p, _, _, _, true, rfl, hp, .cons (.ty "tuple") (.cons (.ty "list") .nil), .base (.tup (k1.tup hb)), kit_tup, ?_⟩
    refine ⟨true, rfl, iteT ?_⟩
    refine ⟨_, rfl, (by show 2 ≤ sizeLine; exact small_line (by decide)), fun p2 np2 => ?_⟩
    have k2 : Kp H1 (upd H1 p2 (.tup [.ty "tuple", .ty "list"])) := .new np2
    have hp2 : upd H1 p2 (.tup [.ty "tuple", .ty "list"]) p2 = some (.tup [.ty "tuple", .ty "list"]) := upd_same
    generalize upd H1 p2 (.tup [.ty "tuple", .ty "list"]) = H2 at *
    have ha2 := (k1.trans k2).tup ha
    have hb2 := (k1.trans k2).tup hb
    refine ⟨_, p2, _, _, _, true, rfl, hp2, .cons (.ty "tuple") (.cons (.ty "list") .nil), .base (.tup ha2), kit_tup, ?_⟩
    refine ⟨true, rfl, iteF ?_⟩
    refine ⟨_, rfl, _, _, _, _, false, rfl, .ty "list", .base (.tup ha2), kit_ty (by decide +kernel), ?_⟩
    refine ⟨_, rfl, _, _, _, _, false, rfl, .ty "list", .base (.tup hb2), kit_ty (by decide +kernel), rfl, false, rfl, iteF ?_⟩
    refine ⟨_, rfl, a, _, rfl, .inr (.inl (.inl ha2)), _, rfl, b, _, rfl, .inr (.inl (.inl hb2)), rfl, false, rfl, iteF ?_⟩
    refine ⟨_, rfl, b, _, rfl, .inr (.inl (.inl hb2)), 2, rfl, by decide, by decide, fun D nD => ?_⟩
    refine lc_range (fun j H' => Kp H2 H' ∧ H' D = some (.lst [])) ⟨(Kp.refl H2).put nD, upd_same⟩ ?_ ?_
    · rintro j H3 hj ⟨k3, hD⟩
      refine ⟨rfl, ?_⟩
      have hj2 : j = 0 ∨ j = 1 := by
        have : j < 2 := hj
        omega
      have key : ∃ z : Int, ([V.int x, V.int y])[j]? = some (.int z) := by
        rcases hj2 with rfl | rfl
        · exact ⟨x, rfl⟩
        · exact ⟨y, rfl⟩
      obtain ⟨z, hz⟩ := key
      have hat : atI [V.int x, V.int y] (0 + (j : Int)) = some (.int z) := by rw [Int.zero_add]; exact atI_nat hz
      refine ⟨_, rfl, _, rfl, a, _, _, _, rfl, rfl, .inl (.inl (k3.tup ha2)), hat, ?_⟩
      refine ⟨_, rfl, _, rfl, b, _, _, _, rfl, rfl, .inl (.inl (k3.tup hb2)), hat, ?_⟩
      refine ⟨_, rfl, .inr ⟨z, rfl⟩, fun H4 k4 => ⟨true, rfl, iteF ⟨k3.trans k4, k4.lst hD⟩⟩⟩
    · rintro H3 ⟨k3, hD⟩
      refine ⟨Nat.zero_le _, fun e ne => ?_⟩
      refine ⟨.list [], .list [], .lst (.inl (.inl ((Kp.new ne).lst hD))) .nil, .lst (.inl (.inl upd_same)) .nil, by decide, by decide, ?_⟩
      exact q _ ((k1.trans k2).trans (k3.trans (.new ne)))
end
end T27
end
section
set_option Elab.async false
set_option linter.all false
set_option maxRecDepth 100000
set_option maxHeartbeats 4000000
namespace T27
open PySem PySem.Spec PyProof.Rows L2 M27
/-! ### the table, by plain lists -/
def kN (k : Nat) : Key := Sum.inl (k : Int)
theorem kN_inj {a b : Nat} (h : kN a = kN b) : a = b := by
  have := Sum.inl.inj h
  omega
/-- the least price by number of red places, of the parts met -/
structure TabOk (r : List Nat) (ps : List Int) (T : List (Key × V)) (M : List (List Nat)) : Prop where
  nd : (T.map (·.1)).Nodup
  key : ∀ p ∈ T, ∃ k, p.1 = kN k ∧ ∃ x ∈ M, redOf r x = k
  val : ∀ k, (valV T (kN k) = none ∧ ∀ x ∈ M, redOf r x ≠ k) ∨ ∃ m : Int, valV T (kN k) = some (.int m) ∧ (∃ x ∈ M, redOf r x = k ∧ priceOf ps x = m) ∧ ∀ x ∈ M, redOf r x = k → m ≤ priceOf ps x
  len : T.length ≤ M.length
theorem tab_nil (r : List Nat) (ps : List Int) : TabOk r ps [] [] := ⟨List.Pairwise.nil, fun p h => (nomatch h), fun k => .inl ⟨rfl, fun x h => (nomatch h)⟩, Nat.le_refl _⟩
theorem keys_put {T : List (Key × V)} {k : Key} {v : V} (h : (T.map (·.1)).Nodup) : ((putK T k v).map (·.1)).Nodup := by
  cases e : valV T k with
  | none => exact nd_putK v h e
  | some y =>
    have a : (T.any fun kv => decide (kv.1 = k)) = true := by rw [valV_any, e]; rfl
    unfold putK
    rw [if_pos a, List.map_map]
    have e2 : ((fun x : Key × V => x.1) ∘ fun kv => if kv.1 = k then (kv.1, v) else kv) = fun x => x.1 := by
      funext kv
      show (if kv.1 = k then (kv.1, v) else kv).1 = kv.1
      by_cases z : kv.1 = k
      · rw [if_pos z]
      · rw [if_neg z]
    rw [e2]
    exact h
theorem mem_put {T : List (Key × V)} {k : Key} {v : V} {p : Key × V} (h : p ∈ putK T k v) : p.1 = k ∨ ∃ q ∈ T, q.1 = p.1 := by
  unfold putK at h
  split at h
  · obtain ⟨q, hq, rfl⟩ := List.mem_map.mp h
    by_cases e : q.1 = k
    · rw [if_pos e]
      exact .inl e
    · rw [if_neg e]
      exact .inr ⟨q, hq, rfl⟩
  · rcases List.mem_append.mp h with z | z
    · exact .inr ⟨p, z, rfl⟩
    · rw [List.mem_singleton.mp z]
      exact .inl rfl
theorem tab_put {r : List Nat} {ps : List Int} {T : List (Key × V)} {M : List (List Nat)} {x : List Nat} {i : Int} (h : TabOk r ps T M) (hi : (valV T (kN (redOf r x)) = none ∧ priceOf ps x < i) ∨ valV T (kN (redOf r x)) = some (.int i)) :
    TabOk r ps (putK T (kN (redOf r x)) (.int (if priceOf ps x < i then priceOf ps x else i))) (M ++ [x]) := by
  refine ⟨keys_put h.nd, fun p hp => ?_, fun k => ?_, ?_⟩
  · rcases mem_put hp with e | ⟨q, hq, e⟩
    · exact ⟨_, e, x, by simp, rfl⟩
    · obtain ⟨k, hk, y, hy, hr⟩ := h.key q hq
      exact ⟨k, by rw [← e]; exact hk, y, by simp [hy], hr⟩
  · rw [valV_put]
    by_cases hk : k = redOf r x
    · subst hk
      rw [if_pos rfl]
      refine .inr ⟨_, rfl, ?_, fun y hy hyr => ?_⟩
      · rcases h.val (redOf r x) with ⟨h1, h2⟩ | ⟨m, h1, ⟨y, hy, hyr, hyp⟩, h3⟩
        · rcases hi with ⟨_, hi⟩ | hi
          · rw [if_pos hi]
            exact ⟨x, by simp, rfl, rfl⟩
          · rw [h1] at hi
            cases hi
        · have e : m = i := by
            rcases hi with ⟨hi, _⟩ | hi
            · rw [h1] at hi
              cases hi
            · rw [h1] at hi
              exact V.int.inj (Option.some.inj hi)
          subst e
          by_cases hlt : priceOf ps x < m
          · rw [if_pos hlt]
            exact ⟨x, by simp, rfl, rfl⟩
          · rw [if_neg hlt]
            exact ⟨y, by simp [hy], hyr, hyp⟩
      · rcases List.mem_append.mp hy with z | z
        · rcases h.val (redOf r x) with ⟨h1, h2⟩ | ⟨m, h1, _, h3⟩
          · exact absurd hyr (h2 y z)
          · have e : m = i := by
              rcases hi with ⟨hi, _⟩ | hi
              · rw [h1] at hi
                cases hi
              · rw [h1] at hi
                exact V.int.inj (Option.some.inj hi)
            subst e
            have := h3 y z hyr
            split <;> omega
        · rw [List.mem_singleton.mp z]
          split <;> omega
    · rw [if_neg fun e => hk (kN_inj e)]
      rcases h.val k with ⟨h1, h2⟩ | ⟨m, h1, ⟨y, hy, hyr, hyp⟩, h3⟩
      · refine .inl ⟨h1, fun y hy => ?_⟩
        rcases List.mem_append.mp hy with z | z
        · exact h2 y z
        · rw [List.mem_singleton.mp z]
          exact fun e => hk e.symm
      · refine .inr ⟨m, h1, ⟨y, by simp [hy], hyr, hyp⟩, fun z hz hzr => ?_⟩
        rcases List.mem_append.mp hz with q | q
        · exact h3 z q hzr
        · rw [List.mem_singleton.mp q] at hzr
          exact absurd hzr.symm hk
  · have := length_putK T (kN (redOf r x)) (.int (if priceOf ps x < i then priceOf ps x else i))
    have := h.len
    rw [List.length_append, List.length_singleton]
    omega
/-- the keys, in the table's order -/
def keyN (p : Key × V) : Nat := match p.1 with
  | .inl i => i.toNat
  | .inr _ => 0
theorem tab_keys {r : List Nat} {ps : List Int} {T : List (Key × V)} {M : List (List Nat)} (h : TabOk r ps T M) : (T.map fun kv => kV kv.1) = nv (T.map keyN) := by
  unfold nv
  rw [List.map_map]
  refine List.map_congr_left fun p hp => ?_
  obtain ⟨k, hk, _⟩ := h.key p hp
  show kV p.1 = V.int ((keyN p : Nat) : Int)
  unfold keyN
  rw [hk]
  rfl
theorem tab_nd {r : List Nat} {ps : List Int} {T : List (Key × V)} {M : List (List Nat)} (h : TabOk r ps T M) : (T.map keyN).Nodup := by
  have e : (T.map (·.1)) = (T.map keyN).map kN := by
    rw [List.map_map]
    refine List.map_congr_left fun p hp => ?_
    obtain ⟨k, hk, _⟩ := h.key p hp
    show p.1 = kN (keyN p)
    unfold keyN
    rw [hk]
    rfl
  have n := h.nd
  rw [e, List.Nodup, List.pairwise_map] at n
  exact n.imp fun q e => q (by rw [e])
theorem tab_mem {r : List Nat} {ps : List Int} {T : List (Key × V)} {M : List (List Nat)} (h : TabOk r ps T M) (k : Nat) : k ∈ T.map keyN ↔ ∃ x ∈ M, redOf r x = k := by
  constructor
  · intro hk
    obtain ⟨p, hp, rfl⟩ := List.mem_map.mp hk
    obtain ⟨k, hk, x, hx, hr⟩ := h.key p hp
    refine ⟨x, hx, ?_⟩
    unfold keyN
    rw [hk, hr]
    rfl
  · rintro ⟨x, hx, hr⟩
    rcases h.val k with ⟨_, h2⟩ | ⟨m, h1, _⟩
    · exact absurd hr (h2 x hx)
    · obtain ⟨p, hp, e⟩ := List.mem_map.mp (valV_in h1)
      refine List.mem_map.mpr ⟨p, hp, ?_⟩
      unfold keyN
      rw [e]
      rfl
/-- nodup naturals that are all those of an interval, sorted -/
theorem sorted_interval {l : List Nat} {lo hi : Nat} (nd : l.Nodup) (h : ∀ k, k ∈ l ↔ lo ≤ k ∧ k ≤ hi) : isort l = (List.range (hi + 1 - lo)).map fun i => lo + i := by
  have hs : ((List.range (hi + 1 - lo)).map fun i => lo + i).Pairwise (· < ·) := by
    rw [List.pairwise_map]
    exact List.pairwise_lt_range.imp fun q => by omega
  refine (isort_of ?_ (hs.imp fun q => Nat.le_of_lt q)).symm
  refine (List.perm_ext_iff_of_nodup (hs.imp fun q => Nat.ne_of_lt q) nd).mpr fun k => ?_
  rw [h k]
  constructor
  · intro hk
    obtain ⟨i, hi, rfl⟩ := List.mem_map.mp hk
    have := List.mem_range.mp hi
    omega
  · intro hk
    exact List.mem_map.mpr ⟨k - lo, List.mem_range.mpr (by omega), by omega⟩
end T27
end
section
set_option Elab.async false
set_option linter.all false
set_option maxRecDepth 100000
set_option maxHeartbeats 4000000
namespace T27
open PySem PySem.Spec PyProof.Rows L2 M27
section
variable {X : Cx}
/-- d != {} -/
def rNe0 : R2 := fun x y H Q => ∃ a b ks, x = .ref a ∧ y = .ref b ∧ H a = some (.dK ks) ∧ H b = some (.dK []) ∧ Q (.bl (!ks.isEmpty)) H
theorem op_ne0 (hu : X.A.units < cLine) : OpR X (compareOp .NotEq) rNe0 := by
  intro pins s σ H x y v u Q I rx ry h
  obtain ⟨a, b, ks, rfl, rfl, ea, eb, q⟩ := h
  obtain rfl : v = Value.ref a := rx
  obtain rfl : u = Value.ref b := ry
  obtain ⟨_, ya, va, ra, da⟩ := (show ObjOk X.prog X.w H s.heap a (.dK ks) from I.hok a _ ea)
  obtain ⟨_, yb, vb, rb, db⟩ := (show ObjOk X.prog X.w H s.heap b (.dK []) from I.hok b _ eb)
  have hb : vb.length = 0 := rb.length.symm
  have ha : va.length = ks.length := ra.length.symm
  refine PySem.W.keq_ne (knd := mixKind X.prog X.w) (r := true) ya yb da db hu (fun e => hits_all rb ra fun p hp => ?_) (fin_bl I q ?_)
  · have : ks = [] := List.eq_nil_of_length_eq_zero (by omega)
    rw [this] at hp
    cases hp
  · rw [ha, hb]
    cases ks <;> simp
/-- a + b, the sum told -/
def rAddE : R2 := fun x y H Q => ∃ i j k, x = .int i ∧ y = .int j ∧ i + j = k ∧ Q (.int k) H
theorem op_addE : OpR X (binaryOp .Add) rAddE := by
  intro pins s σ H x y v u Q I rx ry h
  obtain ⟨i, j, k, rfl, rfl, rfl, q⟩ := h
  exact op_add pins s σ H _ _ v u Q I rx ry ⟨i, j, rfl, rfl, q⟩
end
/-! ### == of lists of naturals -/
def pl (l : List Nat) : PyData := .list ((l.map fun x : Nat => (x : Int)).map PyData.int)
theorem dp_lst {K : PySem.W.Frag} {H : Hp} {a : Addr} {l : List Nat} (h : H a = some (.lst (nv l))) : Dp K H (.ref a) (pl l) := by
  refine .lst (.inl (.inl h)) ?_
  clear h
  induction l with
  | nil => exact .nil
  | cons x t ih => exact .cons (.int _) ih
theorem pl_shaped (l : List Nat) : SeqAt.shaped (pl l) = true := by
  unfold SeqAt.shaped pl
  rw [Bool.and_eq_true]
  refine ⟨canLayAll_ints _, ?_⟩
  have : PyData.depth (.list ((l.map fun x : Nat => (x : Int)).map PyData.int)) = 1 := by
    simp only [PyData.depth]
    rw [PySem.W.depth_ints]
  rw [this]
  rfl
theorem pl_eqv (a : List Nat) : PyData.eqv (pl a) (pl a) = true := (pd_eqv a a).trans (eqL_iff.mpr rfl)
/-! ### heaps: all but the table stays -/
theorem Kq.putX {R : Addr} {H : Hp} {o o' : HO} (h : H R = some o) (n : ∀ ps, o ≠ .tbl ps) : Kq R H (upd H R o') := by
  refine ⟨fun b x q e _ => by rw [upd_ne q]; exact e, fun T ⟨ps, e, r⟩ => ⟨ps, ?_, r⟩, fun b e => ?_⟩
  · rw [upd_ne fun q => by rw [q, h] at e; exact n ps (Option.some.inj e)]
    exact e
  · by_cases q : b = R
    · rw [q, upd_same] at e
      cases e
    · rw [upd_ne q] at e
      exact e
theorem Kq.tupD {D : Addr} {H H' : Hp} (k : Kq D H H') {ks : List (Key × V)} (hD : H D = some (.dK ks)) {a : Addr} {xs : List V} (h : H a = some (.tup xs)) : H' a = some (.tup xs) := k.get _ _ (fun q => by rw [q, hD] at h; cases h) h fun _ q => by cases q
theorem Kq.lstD {D : Addr} {H H' : Hp} (k : Kq D H H') {ks : List (Key × V)} (hD : H D = some (.dK ks)) {a : Addr} {xs : List V} (h : H a = some (.lst xs)) : H' a = some (.lst xs) := k.get _ _ (fun q => by rw [q, hD] at h; cases h) h fun _ q => by cases q
theorem Kq.set {D : Addr} {H H' : Hp} (k : Kq D H H') {ks : List (Key × V)} (hD : H D = some (.dK ks)) {v : V} {n : Nat} {l : List Nat} (h : SetN H v n l) : SetN H' v n l := by
  obtain ⟨⟨a, rfl, ha⟩, hs⟩ := h
  exact ⟨⟨a, rfl, k.tupD hD ha⟩, hs⟩
theorem Kq.setR {K : PySem.W.Frag} {c : Sc} {R : Addr} {H H' : Hp} (k : Kq R H H') (r : RowOk K c H R) {v : V} {n : Nat} {l : List Nat} (h : SetN H v n l) : SetN H' v n l := by
  obtain ⟨⟨a, rfl, ha⟩, hs⟩ := h
  exact ⟨⟨a, rfl, k.tup r ha⟩, hs⟩
theorem Kp.dict {H H' : Hp} (k : Kp H H') {a : Addr} {ks : List (Key × V)} (h : H a = some (.dK ks)) : H' a = some (.dK ks) := k.get _ _ h fun _ q => by cases q
/-! ### the table's maker -/
section
variable {P : Program} {w : World} {K : PySem.W.Frag} {mg : Str → Option Value} {base : Heap}
/-- the row at the start -/
theorem row_start {H : Hp} {a R : Addr} {xs : List Int} (h : SqL K H a (xs.map V.int)) (hR : H R = none) : ∃ c : Sc, c.a = a ∧ RowOk K c (upd H R (.lst (rowL a 0 8827 0))) R := by
  rcases h with (h | ⟨o, h⟩) | h
  · refine ⟨⟨a, some (.lst (xs.map V.int))⟩, rfl, xs, 0, 8827, 0, upd_same, fun v hv => ?_, fun v hv ps e => ?_, fun H' hH => ?_, by decide, by decide, by decide⟩
    · cases Option.some.inj hv
      exact ⟨ne_of_none h hR, by rw [upd_ne (ne_of_none h hR)]; exact h⟩
    · cases Option.some.inj hv
      cases e
    · exact .inl (.inl (hH _ rfl).2)
  · refine ⟨⟨a, some (.frz o (.lst (xs.map V.int)))⟩, rfl, xs, 0, 8827, 0, upd_same, fun v hv => ?_, fun v hv ps e => ?_, fun H' hH => ?_, by decide, by decide, by decide⟩
    · cases Option.some.inj hv
      exact ⟨ne_of_none h hR, by rw [upd_ne (ne_of_none h hR)]; exact h⟩
    · cases Option.some.inj hv
      cases e
    · exact .inl (.inr ⟨o, (hH _ rfl).2⟩)
  · exact ⟨⟨a, none⟩, rfl, xs, 0, 8827, 0, upd_same, fun v hv => (nomatch hv), fun v hv => (nomatch hv), fun H' hH => .inr h, by decide, by decide, by decide⟩
/-- the set within, or a free one -/
theorem one_tE {σ : L2.St} {H : Hp} {Q : VK} {c : Sc} {R : Addr} {n : Nat} {v : V} {l : List Nat} (h1 : σ[1]? = some (some (.ref R))) (h2 : σ[2]? = some (some (ni n))) (h3 : σ[3]? = some (some v)) (hn2 : 2 ≤ n) (hn9 : n ≤ 9) (hr : RowOk K c H R) (hs : SetN H v n l)
    (q : ∀ t o H', Kq R H H' → RowOk K c H' R → H' t = some (.tup (nv o)) → IsSet n o → Q (.ref t) H') :
    tIf (tTest (tOp (rI0 fun i j => .bl (decide (j < i))) (tCall (spTaken K) [] E0 (tCons (tVar 1) (tCons (tC (.int 5)) tNil))) (tC (.int 0)))) (tCall (spWithin K) [] E0 (tCons (tVar 1) (tCons (tVar 3) tNil))) (tCall (spSet K) [] E0 (tCons (tVar 1) (tCons (tVar 2) tNil))) σ H Q := by
  refine ⟨_, h1, c, R, 5, rfl, by decide, by decide, hr, fun z H1 hz k1 r1 => ⟨_, _, rfl, rfl, _, rfl, ?_⟩⟩
  by_cases h0 : (0 : Int) < (z : Int)
  · rw [decide_eq_true h0]
    exact ite_tt ⟨_, h1, _, h3, c, R, n, v, l, rfl, hn9, r1, k1.setR hr hs, fun t o H2 k2 r2 ht ho => q t o H2 (k1.trans k2) r2 ht ho⟩
  · rw [decide_eq_false h0]
    exact ite_ff ⟨_, h1, _, h2, c, R, n, rfl, hn2, hn9, r1, fun t o H2 k2 r2 ht ho => q t o H2 (k1.trans k2) r2 ht ho⟩
end
end T27
end
section
set_option Elab.async false
set_option linter.all false
set_option maxRecDepth 100000
set_option maxHeartbeats 4000000
namespace T27
open PySem PySem.Spec PyProof.Rows L2 M27
section
variable {P : Program} {w : World} {K : PySem.W.Frag} {mg : Str → Option Value} {base : Heap}
theorem FnOk.or {k : Nat} {f : Addr} {fd : FuncData} {ps : List Str} {s1 s2 : Sp} (F1 : FnOk P w K mg base CX0 k f fd ps s1) (F2 : FnOk P w K mg base CX0 k f fd ps s2) : FnOk P w K mg base CX0 k f fd ps (fun vs H Q E => s1 vs H Q E ∨ s2 vs H Q E) :=
  ⟨fun vs H Q E h => h.elim (F1.len _ _ _ _) (F2.len _ _ _ _), fun A outer s H args us vs Q E hr he hb hv hs => hs.elim (F1.run A outer s H args us vs Q E hr he hb hv) (F2.run A outer s H args us vs Q E hr he hb hv)⟩
theorem Kept.imp {k : Nat} {x : Str} {s1 s2 : Sp} (c : Kept P w K mg base k x s1) (h : ∀ vs H Q E, s2 vs H Q E → s1 vs H Q E) : Kept P w K mg base k x s2 := by
  obtain ⟨f, fd, ps, F, r⟩ := c.ex
  exact ⟨f, fd, ps, F.imp h, r⟩
def spAlike : Sp := fun vs H Q E => spAlike0 vs H Q E ∨ spAlike2 vs H Q E
/-! ### the two answers, in one form -/
def CheapAns (n : Nat) (l o r : List Nat) (ps : List Int) (k : Nat) (v : V) : Prop := (v = .non ∧ ∀ x ∈ brute n l o, redOf r x ≠ k) ∨ ∃ m, v = .int m ∧ PriceMin n l o r ps k m
def RangeAns (H : Hp) (n : Nat) (l o r : List Nat) (v : V) : Prop := (v = .non ∧ ∀ x, x ∉ brute n l o) ∨ ∃ lo hi t, v = .ref t ∧ H t = some (.tup [ni lo, ni hi]) ∧ RedMin n l o r lo ∧ RedMax n l o r hi
def spCheapA (T1 T2 Tp Tc : Addr) : Sp := fun vs H Q _ => ∃ (n : Nat) (v u p r : V) (k : Nat) (l o reds : List Nat) (ps : List Int), vs = [ni n, v, u, p, r, ni k] ∧ 2 ≤ n ∧ n ≤ 9 ∧ SetN H v n l ∧ l.length < n ∧ SetN H u n o ∧ IntsT H p ps ∧ PriceOk n ps ∧ SetN H r n reds ∧ k ≤ 9 ∧
  GxR.TabG H T1 ∧ GxR.TabG H T2 ∧ GxR.TabG H Tp ∧ GxR.TabG H Tc ∧ (within o l = true → Good n l o) ∧ ∀ v H', Kp H H' → CheapAns n l o reds ps k v → Q v H'
theorem cheapA {T1 T2 Tp Tc : Addr} (C : Kept P w K mg base 7 "cheap_colored" (spCheap T1 T2 Tp Tc)) : Kept P w K mg base 7 "cheap_colored" (spCheapA T1 T2 Tp Tc) := by
  refine C.imp fun vs H Q E h => ?_
  obtain ⟨n, v, u, p, r, k, l, o, reds, ps, e, h2, h9, a1, a2, a3, a4, a5, a6, a7, t1, t2, t3, t4, g, q⟩ := h
  exact ⟨n, v, u, p, r, k, l, o, reds, ps, e, h2, h9, a1, a2, a3, a4, a5, a6, a7, t1, t2, t3, t4, g, fun z H' k' => q _ H' k' (.inl ⟨rfl, z⟩), fun m H' k' z => q _ H' k' (.inr ⟨m, rfl, z⟩)⟩
def spRangeA (T1 T2 : Addr) : Sp := fun vs H Q _ => ∃ (n : Nat) (v u r : V) (l o reds : List Nat), vs = [ni n, v, u, r] ∧ 2 ≤ n ∧ n ≤ 9 ∧ SetN H v n l ∧ l.length < n ∧ SetN H u n o ∧ SetN H r n reds ∧ GxR.TabG H T1 ∧ GxR.TabG H T2 ∧ (within o l = true → Good n l o) ∧
  ∀ v H', Kp H H' → RangeAns H' n l o reds v → Q v H'
theorem rangeA {T1 T2 : Addr} (C : Kept P w K mg base 6 "red_range" (spRange T1 T2)) : Kept P w K mg base 6 "red_range" (spRangeA T1 T2) := by
  refine C.imp fun vs H Q E h => ?_
  obtain ⟨n, v, u, r, l, o, reds, e, h2, h9, a1, a2, a3, a4, t1, t2, g, q⟩ := h
  exact ⟨n, v, u, r, l, o, reds, e, h2, h9, a1, a2, a3, a4, t1, t2, g, fun z H' k' => q _ H' k' (.inl ⟨rfl, z⟩), fun lo hi t H' k' ht z1 z2 => q _ H' k' (.inr ⟨lo, hi, t, rfl, ht, z1, z2⟩)⟩
/-! ### the table and the answers -/
theorem redOf_le {r x : List Nat} {n : Nat} (h : IsSet n x) : redOf r x ≤ n := Nat.le_trans (List.length_filter_le _ _) (set_len h)
theorem keys_few {l : List Nat} {n : Nat} (nd : l.Nodup) (h : ∀ k ∈ l, k < n) : l.length ≤ n := by
  have := set_len (set_sort nd h)
  rw [(isort_perm l).length_eq] at this
  exact this
theorem cheap_tab {n k : Nat} {l o r : List Nat} {ps : List Int} {T : List (Key × V)} {L : List (List Nat)} {v : V} (hL : ∀ x, x ∈ L ↔ x ∈ brute n l o) (ok : TabOk r ps T L) (a : CheapAns n l o r ps k v) : v = (valV T (kN k)).getD .non ∧ (v = .non ∨ ∃ i, v = .int i) := by
  rcases a with ⟨rfl, a⟩ | ⟨m, rfl, ⟨x, hx, hxr, hxp⟩, hall⟩
  · refine ⟨?_, .inl rfl⟩
    rcases ok.val k with ⟨e, _⟩ | ⟨m, e, ⟨x, hx, hxr, _⟩, _⟩
    · rw [e]; rfl
    · exact absurd hxr (a x ((hL x).mp hx))
  · refine ⟨?_, .inr ⟨m, rfl⟩⟩
    rcases ok.val k with ⟨e, no⟩ | ⟨m', e, ⟨y, hy, hyr, hyp⟩, hall'⟩
    · exact absurd hxr (no x ((hL x).mpr hx))
    · rw [e]
      have h1 := hall y ((hL y).mp hy) hyr
      have h2 := hall' x ((hL x).mpr hx) hxr
      show V.int m = V.int m'
      rw [show m = m' by omega]
theorem price_big {n : Nat} {ps : List Int} {x : List Nat} (h : PriceOk n ps) (hx : x.length ≤ 9) : priceOf ps x < 1000000000 := by
  have key : ∀ l : List Nat, (l.map fun p => ps.getD p 0).sum ≤ 1000 * (l.length : Int) := by
    intro l
    induction l with
    | nil => exact Int.le_refl _
    | cons y t ih =>
      rw [List.map_cons, List.sum_cons, List.length_cons]
      have := price_get (B := 1000) h.2 (by decide) y
      omega
  have := key x
  show (x.map fun p => ps.getD p 0).sum < _
  omega
section
variable {X : Cx} (K)
theorem op_neDK (hu : X.A.units + 64 < cLine) (h : X.K = K := by rfl) : OpR X (compareOp .NotEq) (rNeD K) := by subst h; exact op_neD hu
end
/-! ### the keys are an interval -/
theorem tab_iv {n : Nat} {l o r : List Nat} {ps : List Int} {T : List (Key × V)} {L : List (List Nat)} (h2 : 2 ≤ n) (h7 : n ≤ 7) (hl : IsSet n l) (hlt : l.length < n) (ho : IsSet n o) (ok : TabOk r ps T L) (hL : ∀ x, x ∈ L ↔ x ∈ brute n l o)
    {lo hi : Nat} (hlo : lo ∈ T.map keyN) (hhi : hi ∈ T.map keyN) (mn : ∀ y ∈ T.map keyN, lo ≤ y) (mx : ∀ y ∈ T.map keyN, y ≤ hi) : ∀ k, k ∈ T.map keyN ↔ lo ≤ k ∧ k ≤ hi := by
  intro k
  refine ⟨fun hk => ⟨mn k hk, mx k hk⟩, fun ⟨h1, h3⟩ => ?_⟩
  obtain ⟨x, hx, hxr⟩ := (tab_mem ok lo).mp hlo
  obtain ⟨y, hy, hyr⟩ := (tab_mem ok hi).mp hhi
  have hxb := (hL x).mp hx
  have hyb := (hL y).mp hy
  cases hw : within o l with
  | false => exact absurd hxb (brute_none ho.nodup hlt hw x)
  | true =>
    have G := good h2 h7 hl hlt ho hw
    obtain ⟨z, hz, hzr⟩ := between (reds := r) (fun z hz => (brute_set hz).nodup) G.link x hxb y hyb k (by omega) (by omega)
    exact (tab_mem ok k).mpr ⟨z, (hL z).mpr hz, hzr⟩
theorem tab_no {n : Nat} {l o r : List Nat} {ps : List Int} {L : List (List Nat)} (ok : TabOk r ps [] L) (hL : ∀ x, x ∈ L ↔ x ∈ brute n l o) (x : List Nat) : x ∉ brute n l o := fun hx => by
  have := (tab_mem ok (redOf r x)).mpr ⟨x, (hL x).mpr hx, rfl⟩
  cases this
theorem tab_rng {H : Hp} {n : Nat} {l o r : List Nat} {ps : List Int} {T : List (Key × V)} {L : List (List Nat)} {v : V} (ok : TabOk r ps T L) (hL : ∀ x, x ∈ L ↔ x ∈ brute n l o)
    {lo hi : Nat} (hlo : lo ∈ T.map keyN) (hhi : hi ∈ T.map keyN) (mn : ∀ y ∈ T.map keyN, lo ≤ y) (mx : ∀ y ∈ T.map keyN, y ≤ hi) (a : RangeAns H n l o r v) : ∃ t, v = .ref t ∧ H t = some (.tup [ni lo, ni hi]) := by
  obtain ⟨x, hx, hxr⟩ := (tab_mem ok lo).mp hlo
  obtain ⟨y, hy, hyr⟩ := (tab_mem ok hi).mp hhi
  rcases a with ⟨_, no⟩ | ⟨lo', hi', t, rfl, ht, ⟨⟨x', hx', hxr'⟩, mn'⟩, ⟨⟨y', hy', hyr'⟩, mx'⟩⟩
  · exact absurd ((hL x).mp hx) (no x)
  · have a1 := mn lo' ((tab_mem ok lo').mpr ⟨x', (hL x').mpr hx', hxr'⟩)
    have a2 := mn' x ((hL x).mp hx)
    have a3 := mx hi' ((tab_mem ok hi').mpr ⟨y', (hL y').mpr hy', hyr'⟩)
    have a4 := mx' y ((hL y).mp hy)
    have e1 : lo = lo' := by omega
    have e2 : hi = hi' := by omega
    subst e1; subst e2
    exact ⟨t, rfl, ht⟩
theorem tab_keyI {r : List Nat} {ps : List Int} {T : List (Key × V)} {M : List (List Nat)} (h : TabOk r ps T M) : (T.map fun kv => kV kv.1) = ((T.map keyN).map fun x : Nat => (x : Int)).map V.int := by rw [tab_keys h, nv_ints]
theorem due_rng {σ : L2.St} {H : Hp} {R : It → Hp → Prop} {t : Addr} {lo hi : Nat} (h4 : σ[12]? = some (some (.ref t))) (ht : H t = some (.tup [ni lo, ni hi])) (hg : hi ≤ 1000) (hl : lo ≤ 1000) (q : R (Itr (lo : Int) (hi + 1 - lo)) H) :
    iRng2 (tCons (tOp (rIxT K) (tVar 12) (tC (.int 0))) (tCons (tOp (rI0 fun i j => .int (i + j)) (tOp (rIxT K) (tVar 12) (tC (.int 1))) (tC (.int 1))) tNil)) σ H R := by
  have hlo : ((hi : Int) + 1 - (lo : Int)).toNat = hi + 1 - lo := by omega
  refine ⟨_, h4, t, _, 0, _, rfl, rfl, .inl (.inl ht), rfl, _, h4, t, _, 1, _, rfl, rfl, .inl (.inl ht), rfl, _, _, rfl, rfl, (lo : Int), (hi : Int) + 1, rfl, ⟨(int_bound (by omega)).1, (int_bound (by omega)).2, by omega, by omega⟩, ?_⟩
  rw [hlo]
  exact q
/-- what the dict says, or a great price -/
theorem tab_get {n : Nat} {r : List Nat} {ps : List Int} {T : List (Key × V)} {M : List (List Nat)} {x : List Nat} (ok : TabOk r ps T M) (hp : PriceOk n ps) (hx : x.length ≤ 9) :
    ∃ i : Int, (valV T (kN (redOf r x))).getD (.int 1000000000) = .int i ∧ ((valV T (kN (redOf r x)) = none ∧ priceOf ps x < i) ∨ valV T (kN (redOf r x)) = some (.int i)) := by
  rcases ok.val (redOf r x) with ⟨e, _⟩ | ⟨m, e, _⟩
  · exact ⟨1000000000, by rw [e]; rfl, .inl ⟨e, price_big hp hx⟩⟩
  · exact ⟨m, by rw [e]; rfl, .inr e⟩
end
end T27
end
section
set_option Elab.async false
set_option linter.all false
set_option maxRecDepth 100000
set_option maxHeartbeats 4000000
namespace T27
open PySem PySem.Spec PyProof.Rows L2 M27
section
variable {P : Program} {w : World} {K : PySem.W.Frag} {mg : Str → Option Value} {base : Heap}
variable (K) in
def spLaw (T1 T2 Tp Tc : Addr) : Sp := fun vs H Q _ => ∃ (a : Addr) (xs : List Int), vs = [.ref a] ∧ SqL K H a (xs.map V.int) ∧ GxR.TabG H T1 ∧ GxR.TabG H T2 ∧ GxR.TabG H Tp ∧ GxR.TabG H Tc ∧ ∀ H', Q (.bl true) H'
abbrev NL : List Str := ["_law_script", "_law_row", "_law_size", "_law_whole_here", "_law_reds", "_law_many", "_law_one", "_law_prices", "_law_table", "_law_part", "_law_red", "_law_price", "_law_due", "_law_place", "_law_k"]
theorem ok_law {f T1 T2 Tp Tc : Addr} {fd : FuncData} (F : Fun K "law" "law" sLaw f fd) (B : Bl mg) (T : Kept P w K mg base 1 "_law_taken" (spTaken K)) (ST : Kept P w K mg base 2 "_law_set" (spSet K)) (WH : Kept P w K mg base 3 "_law_whole" (spWhole K)) (WI : Kept P w K mg base 2 "_law_within" (spWithin K))
    (DF : Kept P w K mg base 3 "_law_differences" spDiffs) (AL : Kept P w K mg base 2 "_law_alike" spAlike) (CH : Kept P w K mg base 7 "cheap_colored" (spCheapA T1 T2 Tp Tc)) (RR : Kept P w K mg base 6 "red_range" (spRangeA T1 T2)) :
    FnOk P w K mg base CX0 8 f fd ["_law_script"] (spLaw K T1 T2 Tp Tc) := by
  refine F.ok scLaw (fun vs H Q E h => ?_) (fun cdv A outer s H vs Q E hr h => ?_)
  · obtain ⟨_, _, rfl, _⟩ := h
    rfl
  · obtain ⟨a, xs, rfl, hsc, ht1, ht2, htp, htc, q⟩ := h
    refine ⟨_, pss_cons (ps_set (i := 1) scLaw.nd rfl (by first | exact Or.inl rfl | exact Or.inr rfl) (pe_lst (pa_cons (pv 0) (pa_cons pe_int (pa_cons pe_int (pa_cons pe_int pa_nil))))))
      (pss_cons (ps_set (i := 2) scLaw.nd rfl (by first | exact Or.inl rfl | exact Or.inr rfl) (pe_op op_addE pe_int (pe_k T hr (by decide) (by rfl) (pa_cons (pv 1) (pa_cons pe_int pa_nil)))))
      (pss_cons (ps_asg (pe_tup (pa_cons (pe_k WH hr (by decide) (by rfl) (pa_cons (pv 1) (pa_cons (pv 2) pa_nil))) (pa_cons (pe_k ST hr (by decide) (by rfl) (pa_cons (pv 1) (pa_cons (pv 2) pa_nil))) (pa_cons (pe_k T hr (by decide) (by rfl) (pa_cons (pv 1) (pa_cons pe_int pa_nil))) pa_nil))))
          (pg_tupK (K := K) rfl (pgs_cons (pg_name (i := 3) scLaw.nd rfl (by first | exact Or.inl rfl | exact Or.inr rfl)) (pgs_cons (pg_name (i := 4) scLaw.nd rfl (by first | exact Or.inl rfl | exact Or.inr rfl)) (pgs_cons (pg_name (i := 5) scLaw.nd rfl (by first | exact Or.inl rfl | exact Or.inr rfl)) pgs_nil)))))
      (pss_cons (ps_set (i := 6) scLaw.nd rfl (by first | exact Or.inl rfl | exact Or.inr rfl) (pe_ifExp (pt_cmpR op_gt (pe_k T hr (by decide) (by rfl) (pa_cons (pv 1) (pa_cons pe_int pa_nil))) pe_int (nomark _)) (pe_k WI hr (by decide) (by rfl) (pa_cons (pv 1) (pa_cons (pv 3) pa_nil))) (pe_k ST hr (by decide) (by rfl) (pa_cons (pv 1) (pa_cons (pv 2) pa_nil)))))
      (pss_cons (ps_asg (pe_tup (pa_cons (pe_callTy (call_tupK K) (by rfl) B.tuple boot_tuple (pa_cons (pe_lc (own := [("_law_place", 13)]) (g := gName 13) (tt := tYes) rfl scLaw.nd (pi_range1 (by rfl) B.range (pa_cons (pv 2) pa_nil))
            (blkOk_by (by show blkC NL (defScope sLaw) _ _ = true; decide +kernel))
            (fun _ _ _ _ _ => pg_name (i := 13) scLaw.nd rfl (by first | exact Or.inl rfl | exact Or.inr rfl)) (fun _ _ _ _ _ => pts_nil) (fun _ _ _ _ _ => pe_op op_sub (pe_k T hr (by decide) (by rfl) (pa_cons (pv 1) (pa_cons pe_int pa_nil))) pe_int)) pa_nil)) (pa_cons pe_dnewK pa_nil)))
          (pg_tupK (K := K) rfl (pgs_cons (pg_name (i := 7) scLaw.nd rfl (by first | exact Or.inl rfl | exact Or.inr rfl)) (pgs_cons (pg_name (i := 8) scLaw.nd rfl (by first | exact Or.inl rfl | exact Or.inr rfl)) pgs_nil))))
      (pss_cons (ps_for PassesOwn.never rfl (pi_list (pe_k DF hr (by decide) (by rfl) (pa_cons (pv 2) (pa_cons (pv 3) (pa_cons (pv 6) pa_nil))))) (pg_name (i := 9) scLaw.nd rfl (by first | exact Or.inl rfl | exact Or.inr rfl))
        (pss_cons (ps_set (i := 10) scLaw.nd rfl (by first | exact Or.inl rfl | exact Or.inr rfl) (pe_callB call_len_seq (by rfl) B.len boot_len (pa_cons (pe_lc (own := [("_law_place", 13)]) (g := gName 13) rfl scLaw.nd (pi_tup (pv 9))
            (blkOk_by (by show blkC NL (defScope sLaw) _ _ = true; decide +kernel))
            (fun _ _ _ _ _ => pg_name (i := 13) scLaw.nd rfl (by first | exact Or.inl rfl | exact Or.inr rfl)) (fun _ _ _ _ _ => pts_one (pt_cmpR (op_inK K) (pv 13) (pv 4) (by rfl))) (fun _ _ _ _ _ => pv 13)) pa_nil)))
        (pss_cons (ps_set (i := 11) scLaw.nd rfl (by first | exact Or.inl rfl | exact Or.inr rfl) (pe_callB (cr_sum rfl) (by rfl) B.sum (by decide +kernel) (pa_cons (pe_lc (own := [("_law_place", 13)]) (g := gName 13) (tt := tYes) rfl scLaw.nd (pi_tup (pv 9))
            (blkOk_by (by show blkC NL (defScope sLaw) _ _ = true; decide +kernel))
            (fun _ _ _ _ _ => pg_name (i := 13) scLaw.nd rfl (by first | exact Or.inl rfl | exact Or.inr rfl)) (fun _ _ _ _ _ => pts_nil) (fun _ _ _ _ _ => pe_ix (ix_tupK K) (pv 7) (pv 13) (fun _ _ => rfl))) pa_nil)))
        (pss_one (ps_dput (hu_of hr) (pv 8) (pv 10) (pe_callB (call_min2 rfl) (by rfl) B.min (by decide +kernel) (pa_cons (pe_dget2 (hu_of hr) (pv 8) (pv 10) (pe_op op_pow pe_int pe_int) ⟨rfl, rfl, rfl, rfl⟩) (pa_cons (pv 11) pa_nil))) rfl)))))
      (pss_cons (ps_if (pt_not (pt_val (pe_k AL hr (by decide) (by rfl) (pa_cons (pe_k CH hr (by decide) (by rfl) (pa_cons (pv 2) (pa_cons (pv 3) (pa_cons (pv 6) (pa_cons (pv 7) (pa_cons (pv 4) (pa_cons (pv 5) pa_nil)))))))
          (pa_cons (pe_dget1 (hu_of hr) (pv 8) (pv 5) ⟨rfl, rfl, rfl, rfl⟩) pa_nil))))) (pss_one ps_never) pss_nil)
      (pss_cons (ps_set (i := 12) scLaw.nd rfl (by first | exact Or.inl rfl | exact Or.inr rfl) (pe_ifExp (pt_cmpR (op_ne0 (Nat.lt_of_succ_lt (hu_of hr))) (pv 8) pe_dnewK (nomark _))
          (pe_tup (pa_cons (pe_callB (cr_min rfl) (by rfl) B.min (by decide +kernel) (pa_cons (pe_callTy (call_listD rfl) (by rfl) B.list (by decide +kernel) (pa_cons (pv 8) pa_nil)) pa_nil))
            (pa_cons (pe_callB (cr_max rfl) (by rfl) B.max (by decide +kernel) (pa_cons (pe_callTy (call_listD rfl) (by rfl) B.list (by decide +kernel) (pa_cons (pv 8) pa_nil)) pa_nil)) pa_nil))) pe_non))
      (pss_cons (ps_if (PW.pt (pw_and (pt_cmp (pc_notN (pv 12))) (pw_and1 (pt_cmpR (op_neDK K (room64 hr)) (pe_callB cr_sorted (by rfl) B.sorted (by decide +kernel) (pa_cons (pe_callTy (call_listD rfl) (by rfl) B.list (by decide +kernel) (pa_cons (pv 8) pa_nil)) pa_nil))
          (pe_lc (own := [("_law_k", 14)]) (g := gName 14) (tt := tYes) rfl scLaw.nd (pi_range2 (by rfl) B.range (pa_cons (pe_ix ix_tup (pv 12) pe_int (fun _ _ => rfl)) (pa_cons (pe_op op_add (pe_ix ix_tup (pv 12) pe_int (fun _ _ => rfl)) pe_int) pa_nil)))
            (blkOk_by (by show blkC NL (defScope sLaw) _ _ = true; decide +kernel))
            (fun _ _ _ _ _ => pg_name (i := 14) scLaw.nd rfl (by first | exact Or.inl rfl | exact Or.inr rfl)) (fun _ _ _ _ _ => pts_nil) (fun _ _ _ _ _ => pv 14)) (nomark _))))) (pss_one ps_never) pss_nil)
      (pss_one (ps_ret (pe_k AL hr (by decide) (by rfl) (pa_cons (pe_k RR hr (by decide) (by rfl) (pa_cons (pv 2) (pa_cons (pv 3) (pa_cons (pv 6) (pa_cons (pv 4) pa_nil))))) (pa_cons (pv 12) pa_nil))))))))))))), ?_⟩
    refine ⟨_, rfl, (by show 4 ≤ sizeLine; exact small_line (by decide)), fun R nR => ?_⟩
    obtain ⟨c, rfl, r0⟩ := row_start hsc nR
    have kq1 : Kq R H (upd H R (.lst (rowL c.a 0 8827 0))) := .of (.new nR)
    show tSeq _ _ _ _ (upd H R (.lst (rowL c.a 0 8827 0)))
    generalize upd H R (.lst (rowL c.a 0 8827 0)) = H1 at *
    refine ⟨_, rfl, c, R, 6, rfl, by decide, by decide, r0, fun v H2 hv k1 r1 => ⟨_, _, ((2 + v : Nat) : Int), rfl, rfl, by omega, ?_⟩⟩
    obtain ⟨n, hn⟩ : ∃ n, 2 + v = n := ⟨_, rfl⟩
    rw [hn]
    have h2 : 2 ≤ n := by omega
    have h7 : n ≤ 7 := by omega
    have h9 : n ≤ 9 := by omega
    clear hn hv
    refine ⟨_, rfl, _, rfl, c, R, n, rfl, h2, h9, r1, fun t l H3 k2 r2 ht hl hlt => ?_⟩
    refine ⟨_, rfl, _, rfl, c, R, n, rfl, h2, h9, r2, fun t' rd H4 k3 r3 ht' hrd => ?_⟩
    refine ⟨_, rfl, c, R, 6, rfl, by decide, by decide, r3, fun many H5 hm k4 r4 => ?_⟩
    have hw3 : SetN H3 (.ref t) n l := ⟨⟨t, rfl, ht⟩, hl⟩
    have hrd4 : SetN H4 (.ref t') n rd := ⟨⟨t', rfl, ht'⟩, hrd⟩
    have hw5 := k4.setR r3 (k3.setR r2 hw3)
    have hrd5 := k4.setR r3 hrd4
    have kq5 := (((kq1.trans k1).trans k2).trans k3).trans k4
    refine ⟨(by show 3 ≤ sizeLine; exact small_line (by decide)), fun t0 nt0 => ?_⟩
    refine ⟨t0, [.ref t, .ref t', ni many], rfl, .inl (.inl upd_same), rfl, _, _, rfl, _, _, rfl, _, _, rfl, rfl, ?_⟩
    have hw6 := hw5.kp (.new nt0 (o := .tup [.ref t, .ref t', ni many]))
    have hrd6 := hrd5.kp (.new nt0 (o := .tup [.ref t, .ref t', ni many]))
    have kq6 := kq5.trans (.new nt0 (o := .tup [.ref t, .ref t', ni many]))
    have r6 := RowOk.kp (.new nt0 (o := .tup [.ref t, .ref t', ni many])) r4
    generalize upd H5 t0 (.tup [.ref t, .ref t', ni many]) = H6 at *
    clear ht ht' nt0 k1 k2 k3 k4 r0 r1 r2 r3 r4 hw3 hrd4 hw5 hrd5 kq1 kq5 nR
    clear H1 H2 H3 H4 H5
    refine one_tE (K := K) (c := c) (R := R) (n := n) (v := .ref t) (l := l) rfl rfl rfl h2 h9 r6 hw6 fun u o H7 k7 r7 hu ho => ?_
    have hw7 := k7.setR r6 hw6
    have hrd7 := k7.setR r6 hrd6
    have hu7 : SetN H7 (.ref u) n o := ⟨⟨u, rfl, hu⟩, ho⟩
    have kq7 := kq6.trans k7
    refine ⟨_, rfl, (n : Int), rfl, (int_bound (by omega)).1, (int_bound (by omega)).2, fun D nD => ?_⟩
    rw [Int.toNat_natCast]
    refine lc_range (fun j H' => Kq R H7 H' ∧ RowOk K c H' R ∧ ∃ ps : List Int, H' D = some (.lst (ps.map V.int)) ∧ ps.length = j ∧ ∀ x ∈ ps, -1000 ≤ x ∧ x ≤ 1000) ⟨(Kq.refl R H7).putD nD, r7.put nD r7, [], upd_same, rfl, fun x h => (nomatch h)⟩ ?_ ?_
    · rintro j H8 hj ⟨k8, r8, ps, hD, hpl, hpb⟩
      have hDR : D ≠ R := fun e => by
        obtain ⟨ys, ey⟩ := r7.at
        rw [← e, nD] at ey
        cases ey
      refine ⟨rfl, ?_⟩
      refine ⟨_, rfl, c, R, 60, rfl, by decide, by decide, r8, fun z H9 hz k9 r9 => ⟨_, _, rfl, rfl, ?_⟩⟩
      refine ⟨_, k9.lst hDR hD, ?_, (k8.trans k9).putD nD, r7.put nD r9, ps ++ [(z : Int) - 30], ?_, ?_, ?_⟩
      · rw [List.length_map]
        exact lt_line (by omega)
      · rw [upd_same, List.map_append]
        rfl
      · rw [List.length_append, hpl]
        rfl
      · intro x hx
        rcases List.mem_append.mp hx with h | h
        · exact hpb x h
        · rw [List.mem_singleton.mp h]
          omega
    rintro H8 ⟨k8, r8, ps, hD, hpl, hpb⟩
    have hpo : PriceOk n ps := ⟨hpl, hpb⟩
    refine ⟨D, _, rfl, .inl ⟨.inl (.inl hD), fun p np => ?_⟩⟩
    refine fun d nd => ?_
    refine ⟨(by show 2 ≤ sizeLine; exact small_line (by decide)), fun t1 nt1 => ?_⟩
    refine ⟨t1, [.ref p, .ref d], rfl, .inl (.inl upd_same), rfl, _, _, rfl, _, _, rfl, rfl, ?_⟩
    have hp9 : upd (upd (upd H8 p (.tup (ps.map V.int))) d (.dK [])) t1 (.tup [.ref p, .ref d]) p = some (.tup (ps.map V.int)) := ((Kp.new nd).trans (.new nt1)).tup upd_same
    have hd9 : upd (upd (upd H8 p (.tup (ps.map V.int))) d (.dK [])) t1 (.tup [.ref p, .ref d]) d = some (.dK []) := (Kp.new nt1).dict upd_same
    have kp9 : Kp H8 (upd (upd (upd H8 p (.tup (ps.map V.int))) d (.dK [])) t1 (.tup [.ref p, .ref d])) := ((Kp.new np).trans (.new nd)).trans (.new nt1)
    have hw9 := (k8.setR r7 hw7).kp kp9
    have hrd9 := (k8.setR r7 hrd7).kp kp9
    have hu9 := (k8.setR r7 hu7).kp kp9
    have kq9 := (kq7.trans k8).trans (.of kp9)
    have g1 := kq9.tab _ ht1
    have g2 := kq9.tab _ ht2
    have gp := kq9.tab _ htp
    have gc := kq9.tab _ htc
    generalize upd (upd (upd H8 p (.tup (ps.map V.int))) d (.dK [])) t1 (.tup [.ref p, .ref d]) = H9 at *
    clear kp9 kq9 hw7 hrd7 hu7 kq7 k8 r8 k7 r7 r6 hw6 hrd6 kq6 hD nD np nd nt1 hu
    refine ⟨_, rfl, _, rfl, _, rfl, n, .ref t, .ref u, l, o, rfl, h2, h9, hw9, hu9, fun b xs L H10 k10 hb hx hL hlen => ⟨b, rfl, ⟨xs, .inl (.inl hb)⟩, ?_⟩⟩
    have hd10 := k10.dict hd9
    have hp10 := k10.tup hp9
    have hw10 := hw9.kp k10
    have hrd10 := hrd9.kp k10
    have hu10 := hu9.kp k10
    refine for_list (K := K) (a := b) (xs := xs) (fun i σ H' => (∃ y9 y10 y11, σ = [some (.ref c.a), some (.ref R), some (ni n), some (.ref t), some (.ref t'), some (ni many), some (.ref u), some (.ref p), some (.ref d), y9, y10, y11, none, none, none]) ∧ Kq d H10 H' ∧ ∃ T, H' d = some (.dK T) ∧ TabOk rd ps T (L.take i))
      ⟨⟨_, _, _, rfl⟩, .refl d H10, [], hd10, tab_nil rd ps⟩ (fun i σ H' _ h => .inl (.inl (h.2.1.lstD hd10 hb))) ?_ ?_
    · rintro i y σ H' hy ⟨⟨y9, y10, y11, rfl⟩, kd, T, hd, ok⟩
      obtain ⟨x, hxi, s, rfl, hs⟩ := paired_get hx hy
      have hs' := kd.tupD hd10 hs
      have hp' := kd.tupD hd10 hp10
      have hxb := (hL x).mp (List.mem_of_getElem? hxi)
      have hxs := brute_set hxb
      have hxl := set_len hxs
      obtain ⟨⟨_, e, hrt⟩, hrs⟩ := kd.set hd10 hrd10
      cases e
      refine ⟨_, rfl, s, rfl, ⟨_, .inl (.inl hs')⟩, fun D2 nD2 => ?_⟩
      refine lc_tup (K := K) (a := s) (xs := nv x) (fun j H2 => Kp H' H2 ∧ H2 D2 = some (.lst (nv ((x.take j).filter fun z => has z rd)))) ⟨(Kp.refl H').put nD2, upd_same⟩ (fun i H2 _ h => .inl (.inl (h.1.tup hs'))) ?_ ?_
      · rintro j y H2 hy ⟨k1, hD2⟩
        obtain ⟨z, hz, rfl⟩ := nv_get' hy
        refine ⟨rfl, _, rfl, _, rfl, t', nv rd, rfl, .inr (.inl (.inl (k1.tup hrt))), rfl, nv_flat rd, _, rfl, ?_⟩
        show if (inV (ni z) (nv rd)) = true then _ else _
        rw [inV_nat, take_succ hz, List.filter_append]
        by_cases hh : has z rd = true
        · rw [if_pos hh]
          refine ⟨_, rfl, _, hD2, ?_, k1.put nD2, ?_⟩
          · rw [nv_len]
            refine lt_line (Nat.lt_of_le_of_lt (List.length_filter_le _ _) ?_)
            rw [List.length_take]
            omega
          · rw [upd_same]
            simp [List.filter_cons, hh, nv]
        · rw [if_neg hh]
          refine ⟨k1, ?_⟩
          rw [hD2]
          simp [List.filter_cons, hh]
      · rintro H2 ⟨k2, hD2⟩
        rw [nv_len, List.take_length] at hD2
        refine ⟨D2, _, rfl, .inl (.inl (.inl hD2)), ?_⟩
        rw [nv_len]
        have hs2 := k2.tup hs'
        refine ⟨_, rfl, s, rfl, ⟨_, .inl (.inl hs2)⟩, fun D3 nD3 => ?_⟩
        refine lc_tup (K := K) (a := s) (xs := nv x) (fun j H3 => Kp H2 H3 ∧ H3 D3 = some (.lst (((x.take j).map fun q => ps.getD q 0).map V.int))) ⟨(Kp.refl H2).put nD3, upd_same⟩ (fun i H3 _ h => .inl (.inl (h.1.tup hs2))) ?_ ?_
        · rintro j y H3 hy ⟨k3, hD3⟩
          obtain ⟨z, hz, rfl⟩ := nv_get' hy
          have hzn : z < ps.length := by
            rw [hpl]
            exact hxs.lt z (List.mem_of_getElem? hz)
          have hat : atI (ps.map V.int) ((z : Nat) : Int) = some (.int (ps.getD z 0)) := atI_nat (IntsT.get (H := H3) (v := .non) hzn)
          refine ⟨rfl, ?_⟩
          refine ⟨_, rfl, _, rfl, p, _, _, _, rfl, rfl, .inl (.inl (k3.tup (k2.tup hp'))), hat, ?_⟩
          refine ⟨_, hD3, ?_, k3.put nD3, ?_⟩
          · rw [List.length_map, List.length_map, List.length_take]
            exact lt_line (by omega)
          · rw [upd_same, take_succ hz, List.map_append, List.map_append]
            rfl
        · rintro H3 ⟨k3, hD3⟩
          rw [nv_len, List.take_length] at hD3
          refine ⟨D3, _, rfl, .inl (.inl hD3), ?_⟩
          have kk := k2.trans k3
          have hd3 := kk.dict hd
          obtain ⟨i0, hi0, hi1⟩ := tab_get (x := x) ok hpo (by omega)
          refine ⟨_, rfl, d, rfl, .inl ⟨_, .inl hd3⟩, _, rfl, _, _, rfl, rfl, ⟨by decide, by decide, by decide⟩, _, DGet.k (k := kN (redOf rd x)) hd3, ?_⟩
          refine ⟨_, rfl, i0, priceOf ps x, ?_, ?_⟩
          · show [(valV T (kN (redOf rd x))).getD (.int 1000000000), V.int (priceOf ps x)] = _
            rw [hi0]
          refine ⟨_, rfl, _, rfl, d, _, rfl, DPut.k (k := kN (redOf rd x)) hd3 ?_, ?_⟩
          · have := ok.len
            rw [List.length_take] at this
            exact lt_line (by omega)
          exact ⟨⟨_, _, _, rfl⟩, (kd.trans (.of kk)).trans (.putX hd3 (fun _ q => by cases q)), _, upd_same, by rw [take_succ hxi]; exact tab_put ok hi1⟩
    rintro σ H' ⟨⟨y9, y10, y11, rfl⟩, kd, T, hd, ok⟩
    rw [paired_len hx, List.take_length] at ok
    have hw' := kd.set hd10 hw10
    have hrd' := kd.set hd10 hrd10
    have hu' := kd.set hd10 hu10
    have hp' := kd.tupD hd10 hp10
    have g1 := kd.tab _ (k10.tab _ g1)
    have g2 := kd.tab _ (k10.tab _ g2)
    have gp := kd.tab _ (k10.tab _ gp)
    have gc := kd.tab _ (k10.tab _ gc)
    clear kd hd10 hw10 hrd10 hu10 hp10 k10 hb hx hw9 hrd9 hu9 hd9 hp9
    refine ⟨_, rfl, _, rfl, _, rfl, _, rfl, _, rfl, _, rfl, n, .ref t, .ref u, .ref p, .ref t', many, l, o, rd, ps, rfl, h2, h9, hw', hlt, hu', ⟨p, rfl, hp'⟩, hpo, hrd', by omega, g1, g2, gp, gc, fun hw => good h2 h7 hl hlt ho hw, fun v H12 k12 ans => ?_⟩
    obtain ⟨e, ev⟩ := cheap_tab hL ok ans
    have hd12 := k12.dict hd
    refine ⟨_, rfl, d, rfl, .inl ⟨_, .inl hd12⟩, _, rfl, _, DGet.k (k := kN many) hd12, ?_⟩
    refine Or.inl ⟨v, by rw [← e]; rfl, ev, fun H13 k13 => ⟨true, rfl, iteF ?_⟩⟩
    have hd13 := k13.dict hd12
    refine ⟨_, rfl, fun e ne => ⟨d, e, T, rfl, rfl, (Kp.new ne).dict hd13, upd_same, _, rfl, ?_⟩⟩
    have kk14 : Kp H' (upd H13 e (.dK [])) := (k12.trans k13).trans (.new ne)
    have hd14 : upd H13 e (.dK []) d = some (.dK T) := (Kp.new ne).dict hd13
    generalize upd H13 e (.dK []) = H14 at *
    clear hd13 hd12 k12 k13 ne hd
    have hw14 := hw'.kp kk14
    have hu14 := hu'.kp kk14
    have hrd14 := hrd'.kp kk14
    have g1 := kk14.tab _ g1
    have g2 := kk14.tab _ g2
    rcases T with _ | ⟨p0, T0⟩
    · refine ite_ff ?_
      refine ⟨_, rfl, false, rfl, ite_ff (iteF ?_)⟩
      refine ⟨_, rfl, _, rfl, _, rfl, _, rfl, n, .ref t, .ref u, .ref t', l, o, rd, rfl, h2, h9, hw14, hlt, hu14, hrd14, g1, g2, fun hw => good h2 h7 hl hlt ho hw, fun v H15 k15 ans => ?_⟩
      have ev : v = .non := by
        rcases ans with ⟨rfl, _⟩ | ⟨_, _, _, _, _, ⟨⟨x, hx, _⟩, _⟩, _⟩
        · rfl
        · exact absurd hx (tab_no ok hL x)
      subst ev
      exact ⟨_, rfl, Or.inl ⟨.non, rfl, .inl rfl, fun H16 k16 => q H16⟩⟩
    · refine ite_tt ?_
      have hpos : 0 < (p0 :: T0).length := Nat.succ_pos _
      generalize p0 :: T0 = T at *
      have hkn : ∀ k ∈ T.map keyN, k < 10 := fun k hk => by
        obtain ⟨x, hx, hxr⟩ := (tab_mem ok k).mp hk
        have := redOf_le (r := rd) (brute_set ((hL x).mp hx))
        omega
      have hkf := keys_few (tab_nd ok) hkn
      have hkI := tab_keyI ok
      have hkp : 0 < ((T.map keyN).map fun x : Nat => (x : Int)).length := by
        rw [List.length_map, List.length_map]
        exact hpos
      refine ⟨_, rfl, d, T, rfl, .inl hd14, fun g ng => ?_⟩
      rw [hkI]
      have kg : Kp H14 (upd H14 g (.lst (((T.map keyN).map fun x : Nat => (x : Int)).map V.int))) := .new ng
      have hg : upd H14 g (.lst (((T.map keyN).map fun x : Nat => (x : Int)).map V.int)) g = some (.lst (((T.map keyN).map fun x : Nat => (x : Int)).map V.int)) := upd_same
      generalize upd H14 g (.lst (((T.map keyN).map fun x : Nat => (x : Int)).map V.int)) = H15 at *
      refine ⟨g, _, rfl, .inl (.inl hg), hkp, fun m hm hm2 => ?_⟩
      obtain ⟨lo, hlo, rfl⟩ := List.mem_map.mp hm
      have mn : ∀ y ∈ T.map keyN, lo ≤ y := fun y hy => by
        have := hm2 _ (List.mem_map.mpr ⟨y, hy, rfl⟩)
        omega
      refine ⟨_, rfl, d, T, rfl, .inl (kg.dict hd14), fun g' ng' => ?_⟩
      rw [hkI]
      have kg' : Kp H15 (upd H15 g' (.lst (((T.map keyN).map fun x : Nat => (x : Int)).map V.int))) := .new ng'
      have hg' : upd H15 g' (.lst (((T.map keyN).map fun x : Nat => (x : Int)).map V.int)) g' = some (.lst (((T.map keyN).map fun x : Nat => (x : Int)).map V.int)) := upd_same
      generalize upd H15 g' (.lst (((T.map keyN).map fun x : Nat => (x : Int)).map V.int)) = H16 at *
      refine ⟨g', _, rfl, .inl (.inl hg'), hkp, fun m hm' hm2' => ?_⟩
      obtain ⟨hi, hhi, rfl⟩ := List.mem_map.mp hm'
      have mx : ∀ y ∈ T.map keyN, y ≤ hi := fun y hy => by
        have := hm2' _ (List.mem_map.mpr ⟨y, hy, rfl⟩)
        omega
      have hlo9 := hkn lo hlo
      have hhi9 := hkn hi hhi
      refine ⟨(by show 2 ≤ sizeLine; exact small_line (by decide)), fun w nw => ?_⟩
      have k17 : Kp H14 (upd H16 w (.tup [ni lo, ni hi])) := (kg.trans kg').trans (.new nw)
      have hw17 : upd H16 w (.tup [ni lo, ni hi]) w = some (.tup [ni lo, ni hi]) := upd_same
      show tSeq _ _ _ _ (upd H16 w (.tup [ni lo, ni hi]))
      generalize upd H16 w (.tup [ni lo, ni hi]) = H17 at *
      refine ⟨_, rfl, true, rfl, ite_tt ?_⟩
      refine ⟨_, rfl, d, T, rfl, .inl (k17.dict hd14), fun g3 ng3 => ?_⟩
      rw [hkI]
      have kg3 : Kp H17 (upd H17 g3 (.lst (((T.map keyN).map fun x : Nat => (x : Int)).map V.int))) := .new ng3
      have hg3 : upd H17 g3 (.lst (((T.map keyN).map fun x : Nat => (x : Int)).map V.int)) g3 = some (.lst (((T.map keyN).map fun x : Nat => (x : Int)).map V.int)) := upd_same
      generalize upd H17 g3 (.lst (((T.map keyN).map fun x : Nat => (x : Int)).map V.int)) = H18 at *
      refine ⟨g3, _, rfl, .inl (.inl hg3), by rw [List.length_map]; omega, fun js s hjs hso ns => ?_⟩
      rw [sorted_nat hjs hso]
      have k19 : Kp H17 (upd H18 s (.lst (nv (isort (T.map keyN))))) := kg3.trans (.new ns)
      have hs19 : upd H18 s (.lst (nv (isort (T.map keyN)))) s = some (.lst (nv (isort (T.map keyN)))) := upd_same
      generalize upd H18 s (.lst (nv (isort (T.map keyN)))) = H19 at *
      refine due_rng (K := K) (t := w) (lo := lo) (hi := hi) rfl (k19.tup hw17) (by omega) (by omega) fun D nD => ?_
      refine lc_range (fun j H' => Kp H19 H' ∧ H' D = some (.lst (nv ((List.range j).map fun i => lo + i)))) ⟨(Kp.refl H19).put nD, upd_same⟩ ?_ ?_
      · rintro j H20 hj ⟨k20, hD⟩
        refine ⟨rfl, ?_⟩
        refine ⟨_, rfl, _, hD, ?_, k20.put nD, ?_⟩
        · rw [nv_len, List.length_map, List.length_range]
          exact lt_line (by omega)
        · rw [upd_same, List.range_succ]
          simp [nv]
      · rintro H20 ⟨k20, hD⟩
        rw [← sorted_interval (tab_nd ok) (tab_iv h2 h7 hl hlt ho ok hL hlo hhi mn mx)] at hD
        refine ⟨pl (isort (T.map keyN)), pl (isort (T.map keyN)), dp_lst (k20.lst hs19), dp_lst hD, pl_shaped _, pl_shaped _, _, rfl, ?_⟩
        rw [pl_eqv]
        refine iteF ?_
        have kk : Kp H14 H20 := (k17.trans k19).trans k20
        refine ⟨_, rfl, _, rfl, _, rfl, _, rfl, n, .ref t, .ref u, .ref t', l, o, rd, rfl, h2, h9, hw14.kp kk, hlt, hu14.kp kk, hrd14.kp kk, kk.tab _ g1, kk.tab _ g2, fun hw => good h2 h7 hl hlt ho hw, fun v H21 k21 ans => ?_⟩
        obtain ⟨z, rfl, hz⟩ := tab_rng ok hL hlo hhi mn mx ans
        exact ⟨_, rfl, Or.inr ⟨z, w, _, _, rfl, hz, k21.tup ((k19.trans k20).tup hw17), fun H22 k22 => q H22⟩⟩
end
end T27
end
section
set_option Elab.async false
set_option linter.all false
set_option maxRecDepth 100000
set_option maxHeartbeats 4000000
namespace T27
open PySem PySem.Spec PyProof.Rows L2 M27
/-! ### the defs that stand at the head -/
def BindOk (x : Str) (st : Stmt) (ps : List Str) : Prop := ∀ (kV doc pm : Value) (an : Option Addr) (cdv ct : Value) (us : List Value), us.length = ps.length → bindArgs (PySem.W.fnOf x x (defArgs st) (defBody st) (defScope st) .none kV doc pm an cdv ct) ⟨us, []⟩ = pure (ps.zip us)

theorem bIsIn : BindOk "is_in" sIsIn ["value", "least", "most"] := fun _ _ _ _ _ _ us hl => match us, hl with | [_, _, _], _ => rfl
theorem bNeedSize : BindOk "need_size" sNeedSize ["size"] := fun _ _ _ _ _ _ us hl => match us, hl with | [_], _ => rfl
theorem bIsSet : BindOk "is_set" sIsSet ["size", "value"] := fun _ _ _ _ _ _ us hl => match us, hl with | [_, _], _ => rfl
theorem bNeedSet : BindOk "need_set" sNeedSet ["size", "one"] := fun _ _ _ _ _ _ us hl => match us, hl with | [_, _], _ => rfl
theorem bBlocks : BindOk "blocks_of" sBlocks ["size", "one"] := fun _ _ _ _ _ _ us hl => match us, hl with | [_, _], _ => rfl
theorem bNeedWhole : BindOk "need_whole" sNeedWhole ["size", "whole"] := fun _ _ _ _ _ _ us hl => match us, hl with | [_, _], _ => rfl
theorem bNeedTerms : BindOk "need_terms" sNeedTerms ["size", "whole", "one"] := fun _ _ _ _ _ _ us hl => match us, hl with | [_, _, _], _ => rfl
theorem bLies : BindOk "lies_in" sLies ["whole", "one"] := fun _ _ _ _ _ _ us hl => match us, hl with | [_, _], _ => rfl
theorem bPlaces : BindOk "block_places" sPlaces ["size", "whole"] := fun _ _ _ _ _ _ us hl => match us, hl with | [_, _], _ => rfl
theorem bGaps : BindOk "gap_ranks" sGaps ["places", "one"] := fun _ _ _ _ _ _ us hl => match us, hl with | [_, _], _ => rfl
theorem bRows : BindOk "rank_rows" sRows ["gaps"] := fun _ _ _ _ _ _ us hl => match us, hl with | [_], _ => rfl
theorem bAllOf : BindOk "all_of" sAllOf ["size", "whole", "one"] := fun _ _ _ _ _ _ us hl => match us, hl with | [_, _, _], _ => rfl
theorem bNeedPrices : BindOk "need_prices" sNeedPrices ["size", "whole", "one", "prices"] := fun _ _ _ _ _ _ us hl => match us, hl with | [_, _, _, _], _ => rfl
theorem bRed : BindOk "red_count" sRed ["reds", "some"] := fun _ _ _ _ _ _ us hl => match us, hl with | [_, _], _ => rfl
theorem bCheap : BindOk "cheap_colored" sCheap ["size", "whole", "one", "prices", "reds", "many"] := fun _ _ _ _ _ _ us hl => match us, hl with | [_, _, _, _, _, _], _ => rfl
theorem bRange : BindOk "red_range" sRange ["size", "whole", "one", "reds"] := fun _ _ _ _ _ _ us hl => match us, hl with | [_, _, _, _], _ => rfl
theorem bTaken : BindOk "_law_taken" sTaken ["_law_row", "_law_many"] := fun _ _ _ _ _ _ us hl => match us, hl with | [_, _], _ => rfl
theorem bAlike : BindOk "_law_alike" sAlike ["_law_found", "_law_due"] := fun _ _ _ _ _ _ us hl => match us, hl with | [_, _], _ => rfl
theorem bSpots : BindOk "_law_spots" sSpots ["_law_size", "_law_wishes_here"] := fun _ _ _ _ _ _ us hl => match us, hl with | [_, _], _ => rfl
theorem bSum : BindOk "_law_sum" sSum ["_law_size", "_law_one", "_law_other"] := fun _ _ _ _ _ _ us hl => match us, hl with | [_, _, _], _ => rfl
theorem bSets : BindOk "_law_sets" sSets ["_law_size"] := fun _ _ _ _ _ _ us hl => match us, hl with | [_], _ => rfl
theorem bSet : BindOk "_law_set" sSet ["_law_row", "_law_size"] := fun _ _ _ _ _ _ us hl => match us, hl with | [_, _], _ => rfl
theorem bWhole : BindOk "_law_whole" sWhole ["_law_row", "_law_size"] := fun _ _ _ _ _ _ us hl => match us, hl with | [_, _], _ => rfl
theorem bWithin : BindOk "_law_within" sWithin ["_law_row", "_law_whole_here"] := fun _ _ _ _ _ _ us hl => match us, hl with | [_, _], _ => rfl
theorem bDiffs : BindOk "_law_differences" sDiffs ["_law_size", "_law_whole_here", "_law_one"] := fun _ _ _ _ _ _ us hl => match us, hl with | [_, _, _], _ => rfl
theorem bLaw : BindOk "law" sLaw ["_law_script"] := fun _ _ _ _ _ _ us hl => match us, hl with | [_], _ => rfl
structure DefAt (K : PySem.W.Frag) (mg : Str → Option Value) (x : Str) (st : Stmt) (ps : List Str) : Prop where
  ex : ∃ f fd, Fun K x x st f fd ∧ mg x = some (.ref f) ∧ Binds K fd ps []
structure CodeAt (K : PySem.W.Frag) (mg : Str → Option Value) (x : Str) (st : Stmt) (ps : List Str) (c : Addr) : Prop where
  ex : ∃ f fd, FunC K x x st f fd c ∧ mg x = some (.ref f) ∧ Binds K fd ps []
structure LawDef (K : PySem.W.Frag) (mg : Str → Option Value) : Prop where
  ex : ∃ f fd, Fun K "law" "law" sLaw f fd ∧ mg "law" = some (.ref f) ∧ ∀ (s : Shared) (u : Value), BindsTo s fd ⟨[u], []⟩ [("_law_script", u)]
section
variable {P : Program} {w : World} {K : PySem.W.Frag} {mg : Str → Option Value} {base h : Heap}
theorem def_at {x : Str} {st : Stmt} {ps : List Str} {f : Addr} {oc : Value} {od an : Option Addr} {osl : Array (Option Value)} {kV doc pm cdv ct : Value} (X : K.In h) (G : h.Ns mainGlobals mg) (b : BindOk x st ps) (a1 : PySem.W.nsIn K mainGlobals x = some (some (.ref f)))
    (l1 : K.lookup f = some ⟨oc, od, .func (PySem.W.fnOf x x (defArgs st) (defBody st) (defScope st) .none kV doc pm an cdv ct), osl⟩) (c1 : PySem.W.codeIn K cdv x = true) (k1 : PySem.W.keepIn K (.ref f) = true) : DefAt K mg x st ps :=
  ⟨f, _, fun_mk l1 c1 k1, PySem.W.mg_of X G a1, (fun_mk l1 c1 k1).binds b⟩
theorem code_at {x : Str} {st : Stmt} {ps : List Str} {f c : Addr} {oc : Value} {od an : Option Addr} {osl : Array (Option Value)} {kV doc pm ct : Value} (X : K.In h) (G : h.Ns mainGlobals mg) (b : BindOk x st ps) (a1 : PySem.W.nsIn K mainGlobals x = some (some (.ref f)))
    (l1 : K.lookup f = some ⟨oc, od, .func (PySem.W.fnOf x x (defArgs st) (defBody st) (defScope st) .none kV doc pm an (.ref c) ct), osl⟩) (c1 : PySem.W.codeIn K (.ref c) x = true) (k1 : PySem.W.keepIn K (.ref f) = true) : CodeAt K mg x st ps c :=
  ⟨f, _, ⟨⟨oc, od, kV, doc, pm, an, ct, osl, rfl, l1, c1⟩, k1⟩, PySem.W.mg_of X G a1, (fun_mk l1 c1 k1).binds b⟩
theorem law_def {f : Addr} {oc : Value} {od an : Option Addr} {osl : Array (Option Value)} {kV doc pm cdv ct : Value} (X : K.In h) (G : h.Ns mainGlobals mg) (a1 : PySem.W.nsIn K mainGlobals "law" = some (some (.ref f)))
    (l1 : K.lookup f = some ⟨oc, od, .func (PySem.W.fnOf "law" "law" (defArgs sLaw) (defBody sLaw) (defScope sLaw) .none kV doc pm an cdv ct), osl⟩) (c1 : PySem.W.codeIn K cdv "law" = true) (k1 : PySem.W.keepIn K (.ref f) = true) : LawDef K mg :=
  ⟨f, _, fun_mk l1 c1 k1, PySem.W.mg_of X G a1, fun s u => .of_eq (bLaw kV doc pm an cdv ct [u] rfl)⟩
theorem kept_of {x : Str} {st : Stmt} {ps : List Str} {k : Nat} {sp : Sp} (D : DefAt K mg x st ps) (F : ∀ f fd, Fun K x x st f fd → FnOk P w K mg base CX0 k f fd ps sp) : Kept P w K mg base k x sp := by
  obtain ⟨f, fd, h, g, b⟩ := D.ex
  exact ⟨f, fd, ps, F f fd h, g, h.kp, b⟩
theorem keptC_of {x : Str} {st : Stmt} {ps : List Str} {k : Nat} {sp : Sp} {c : Addr} (D : CodeAt K mg x st ps c) (F : ∀ f fd, FunC K x x st f fd c → FnOk P w K mg base CX0 k f fd ps sp) : Kept P w K mg base k x sp := by
  obtain ⟨f, fd, h, g, b⟩ := D.ex
  exact ⟨f, fd, ps, F f fd h, g, h.kp, b⟩
theorem tabB_of {c T : Addr} (h : LamX.TabB base mg c T) : GxR.TabB base mg c T := ⟨h.code, h.bm, h.gP⟩
/-- the module, as the law finds it -/
structure Mods (K : PySem.W.Frag) (mg : Str → Option Value) (c1 c2 cp cc : Addr) : Prop where
  B : Bl mg
  dIsIn : DefAt K mg "is_in" sIsIn ["value", "least", "most"]
  dNeedSize : DefAt K mg "need_size" sNeedSize ["size"]
  dIsSet : CodeAt K mg "is_set" sIsSet ["size", "value"] c1
  dNeedSet : DefAt K mg "need_set" sNeedSet ["size", "one"]
  dBlocks : DefAt K mg "blocks_of" sBlocks ["size", "one"]
  dNeedWhole : DefAt K mg "need_whole" sNeedWhole ["size", "whole"]
  dNeedTerms : DefAt K mg "need_terms" sNeedTerms ["size", "whole", "one"]
  dLies : CodeAt K mg "lies_in" sLies ["whole", "one"] c2
  dPlaces : DefAt K mg "block_places" sPlaces ["size", "whole"]
  dGaps : DefAt K mg "gap_ranks" sGaps ["places", "one"]
  dRows : DefAt K mg "rank_rows" sRows ["gaps"]
  dAllOf : DefAt K mg "all_of" sAllOf ["size", "whole", "one"]
  dNeedPrices : CodeAt K mg "need_prices" sNeedPrices ["size", "whole", "one", "prices"] cp
  dRed : DefAt K mg "red_count" sRed ["reds", "some"]
  dCheap : CodeAt K mg "cheap_colored" sCheap ["size", "whole", "one", "prices", "reds", "many"] cc
  dRange : DefAt K mg "red_range" sRange ["size", "whole", "one", "reds"]
  dTaken : DefAt K mg "_law_taken" sTaken ["_law_row", "_law_many"]
  dAlike : DefAt K mg "_law_alike" sAlike ["_law_found", "_law_due"]
  dSpots : DefAt K mg "_law_spots" sSpots ["_law_size", "_law_wishes_here"]
  dSum : DefAt K mg "_law_sum" sSum ["_law_size", "_law_one", "_law_other"]
  dSets : DefAt K mg "_law_sets" sSets ["_law_size"]
  dSet : DefAt K mg "_law_set" sSet ["_law_row", "_law_size"]
  dWhole : DefAt K mg "_law_whole" sWhole ["_law_row", "_law_size"]
  dWithin : DefAt K mg "_law_within" sWithin ["_law_row", "_law_whole_here"]
  dDiffs : DefAt K mg "_law_differences" sDiffs ["_law_size", "_law_whole_here", "_law_one"]
theorem law_ok {f c1 c2 cp cc T1 T2 Tp Tc : Addr} {fd : FuncData} (D : Mods K mg c1 c2 cp cc) (F : Fun K "law" "law" sLaw f fd) (t1 : GxR.TabB base mg c1 T1) (t2 : GxR.TabB base mg c2 T2) (tp : GxR.TabB base mg cp Tp) (tc : GxR.TabB base mg cc Tc) :
    FnOk P w K mg base CX0 8 f fd ["_law_script"] (spLaw K T1 T2 Tp Tc) := by
  have B := D.B
  obtain ⟨fI, fdI, FI, gI, _⟩ := D.dIsIn.ex
  have kII : Kept P w K mg base 1 "is_in" spIsIn := kept_of D.dIsIn fun _ _ F => ok_isin F B
  have kNS : Kept P w K mg base 2 "need_size" spNeedSize := kept_of D.dNeedSize fun _ _ F => ok_needsize F B kII
  have kIS : Kept P w K mg base 3 "is_set" (spIsSet T1) := keptC_of D.dIsSet fun _ _ F => ok_isset F B t1 FI gI
  have kNE : Kept P w K mg base 4 "need_set" (spNeedSet T1) := kept_of D.dNeedSet fun _ _ F => ok_needset F kIS
  have kNW : Kept P w K mg base 4 "need_whole" (spNeedWhole T1) := kept_of D.dNeedWhole fun _ _ F => ok_needwhole F B kIS kNS
  have kNT : Kept P w K mg base 5 "need_terms" (spNeedTerms T1) := kept_of D.dNeedTerms fun _ _ F => ok_needterms F kNW kNE
  have kLI : Kept P w K mg base 1 "lies_in" (spLies T2) := keptC_of D.dLies fun _ _ F => ok_lies F B t2
  have kBL : Kept P w K mg base 1 "blocks_of" spBlocks := kept_of D.dBlocks fun _ _ F => ok_blocks F B
  have kPL : Kept P w K mg base 2 "block_places" spPlaces := kept_of D.dPlaces fun _ _ F => ok_places F B kBL
  have kGR : Kept P w K mg base 1 "gap_ranks" spGaps := kept_of D.dGaps fun _ _ F => ok_gaps F B
  have kRR : Kept P w K mg base 1 "rank_rows" spRows := kept_of D.dRows fun _ _ F => ok_rows F B
  have kAO : Kept P w K mg base 3 "all_of" (spAllOf T2) := kept_of D.dAllOf fun _ _ F => ok_allof F B kLI kPL kGR kRR
  have kNP : Kept P w K mg base 6 "need_prices" (spNeedPrices T1 Tp) := keptC_of D.dNeedPrices fun _ _ F => ok_needprices F B tp FI gI kNT
  have kRC : Kept P w K mg base 1 "red_count" spRed := kept_of D.dRed fun _ _ F => ok_red F B
  have kCH : Kept P w K mg base 7 "cheap_colored" (spCheap T1 T2 Tp Tc) := keptC_of D.dCheap fun _ _ F => ok_cheap (fI := fI) (fdI := fdI) F B tc kNP kNE kII kAO kRC
  have kRA : Kept P w K mg base 6 "red_range" (spRange T1 T2) := kept_of D.dRange fun _ _ F => ok_range F B kNT kNE kAO kRC
  have kTA : Kept P w K mg base 1 "_law_taken" (spTaken K) := kept_of D.dTaken fun _ _ F => ok_taken F B
  have kST : Kept P w K mg base 2 "_law_set" (spSet K) := kept_of D.dSet fun _ _ F => ok_set F B kTA
  have kWH : Kept P w K mg base 3 "_law_whole" (spWhole K) := kept_of D.dWhole fun _ _ F => ok_whole F B kST
  have kWI : Kept P w K mg base 2 "_law_within" (spWithin K) := kept_of D.dWithin fun _ _ F => ok_within F B kTA
  have kSP : Kept P w K mg base 1 "_law_spots" spSpots := kept_of D.dSpots fun _ _ F => ok_spots F B
  have kSM : Kept P w K mg base 2 "_law_sum" spSum := kept_of D.dSum fun _ _ F => ok_sum F B kSP
  have kSS : Kept P w K mg base 1 "_law_sets" spSets := kept_of D.dSets fun _ _ F => ok_sets F B
  have kDF : Kept P w K mg base 3 "_law_differences" spDiffs := kept_of D.dDiffs fun _ _ F => ok_diffs F B kSS kSM
  have kA0 : Kept P w K mg base 1 "_law_alike" spAlike0 := kept_of D.dAlike fun _ _ F => ok_alike0 F B
  have kAL : Kept P w K mg base 2 "_law_alike" spAlike := kept_of D.dAlike fun _ _ F => FnOk.or ((ok_alike0 F B).mono (by decide)) (ok_alike2 F B kA0)
  exact ok_law F B kTA kST kWH kWI kDF kAL (cheapA kCH) (rangeA kRA)
end
/-! ### the end: the tables of code objects from the head -/
theorem tab_any {p : Program} {loose : List Str} {mean : ExcName → Option Value} {mg mb : Str → Option Value} {h : Heap} {K : PySem.W.Frag} {x : Str} {c T : Addr} (t : Top p loose mean mg mb h) (X : K.In h) (hr : ((recsOf p).any fun e => e.name == x) = true) (ht : PySem.W.tabIn K x = some (c, T)) :
    PySem.W.CodeHd h c T ∧ h.get? T = some { cls := .none, data := .fields #[] } := by
  cases e : (recsOf p).find? fun e => e.name == x with
  | some d => exact PySem.W.tab_of t X e ht
  | none =>
    obtain ⟨d, hd, hn⟩ := List.any_eq_true.mp hr
    exact absurd hn (List.find?_eq_none.mp e d hd)
theorem tabG_of {H : Hp} {T : Addr} (h : H T = some (.tbl #[])) : GxR.TabG H T := ⟨#[], h, by constructor⟩
theorem law_at {l : PySem.W.OpenLaw} {w : World} {n : Nat} {K : PySem.W.Frag} {mg : Str → Option Value} {h : Heap} {fa c1 c2 cp cc T1 T2 Tp Tc : Addr} (hfa : mg "law" = some (.ref fa)) (D : Mods K mg c1 c2 cp cc) (LD : LawDef K mg)
    (h1 : PySem.W.CodeHd h c1 T1 ∧ h.get? T1 = some { cls := .none, data := .fields #[] }) (h2 : PySem.W.CodeHd h c2 T2 ∧ h.get? T2 = some { cls := .none, data := .fields #[] }) (hp : PySem.W.CodeHd h cp Tp ∧ h.get? Tp = some { cls := .none, data := .fields #[] }) (hc : PySem.W.CodeHd h cc Tc ∧ h.get? Tc = some { cls := .none, data := .fields #[] })
    (n1 : K.lookup T1 = none) (n2 : K.lookup T2 = none) (np : K.lookup Tp = none) (nc : K.lookup Tc = none) : LamX.LawAtS l w K CX0 8 n "_law_script" mg fa h := by
  obtain ⟨f, fd, F, g, b⟩ := LD.ex
  rw [g] at hfa
  cases hfa
  have all4 : ∀ {R : Addr × Addr → Prop}, R (c1, T1) → R (c2, T2) → R (cp, Tp) → R (cc, Tc) → ∀ p ∈ [(c1, T1), (c2, T2), (cp, Tp), (cc, Tc)], R p := fun a b c d p hp => by
    simp only [List.mem_cons, List.not_mem_nil, or_false] at hp
    rcases hp with rfl | rfl | rfl | rfl <;> assumption
  refine ⟨fd, [(c1, T1), (c2, T2), (cp, Tp), (cc, Tc)], spLaw K T1 T2 Tp Tc, all4 h1.2 h2.2 hp.2 hc.2, all4 n1 n2 np nc, all4 h1.1 h2.1 hp.1 hc.1, b, fun H a ns _ _ hT hS => ?_, fun base _ _ TB => ?_⟩
  · exact ⟨a, ns, rfl, hS, tabG_of (hT (c1, T1) (by simp)), tabG_of (hT (c2, T2) (by simp)), tabG_of (hT (cp, Tp) (by simp)), tabG_of (hT (cc, Tc) (by simp)), fun _ => rfl⟩
  · exact law_ok D F (tabB_of (TB (c1, T1) (by simp))) (tabB_of (TB (c2, T2) (by simp))) (tabB_of (TB (cp, Tp) (by simp))) (tabB_of (TB (cc, Tc) (by simp)))
theorem walk_top {l : PySem.W.OpenLaw} {n k : Nat} {q : Program} {loose : List Str} {XP : (Str → Option Value) → Heap → Prop} {YP : World → Heap → Prop} {d : DefRec} {K : Params → PySem.W.Frag} {CX : World → CXT} {x : Str}
    (hn : l.most = some n) (hn2 : n ≤ sizeLine) (hdf : d.params.defaults = []) (hr : Room k callerA) (hY : ∀ (w : World) (h : Heap), YP w h → (K w.params).In h)
    (F : ∀ (w : World) (mean : ExcName → Option Value) (mg mb : Str → Option Value) (fa : Addr) (h : Heap), YP w h → (K w.params).In h → Top q (PySem.W.looseW q loose) mean mg mb h → mg d.name = some (.ref fa) → LamX.LawAtS l w (K w.params) (CX w) k n x mg fa h)
    (hCX : ∀ (w : World) (H : Hp) (s : Shared) (e : Value) (s' : Shared), CX w [] H s (fun _ _ _ => False) e s' → False) :
    PySem.W.WalkO q loose XP YP l.row.toRowW d [] (fun f vs => PySem.call f vs) := by
  refine Att.attach_callB hn hdf fun w s₀ s₁ mg mb fa o pm cd doc a vs ns G Y ho hd hcd hmg hobj hints hlen hbits hg => ?_
  have KX := hY w _ Y
  obtain ⟨fd, cs, sp, hT, nT, C, hb, hsp, hF⟩ := F w _ mg mb fa _ Y KX G.T hmg
  exact LamX.law_callTs KX G.T.g G.T.b G.T.builtins G.T.nolimit hg hT nT C G.T.bmain hobj hints (Nat.le_trans hlen hn2) hr hF hb (fun H hH hS => hsp H a ns hlen hbits hH hS) fun H e s' => hCX w H s₁ e s'
end T27
end
section
set_option Elab.async false
set_option linter.all false
set_option maxRecDepth 100000
namespace T27
open PySem PySem.Spec PyProof.Rows L2 M27
theorem gen_at {p : Program} {loose : List Str} {mean : ExcName → Option Value} {mg mb : Str → Option Value} {h : Heap} {K : PySem.W.Frag} {x : Str} {st : Stmt} {ps : List Str} {f c T : Addr} {oc e : Value} {od an dd : Option Addr} {osl sl : Array (Option Value)} {vs : Array Value} {kV doc pm ct : Value} (t : Top p loose mean mg mb h) (X : K.In h) (b : BindOk x st ps)
    (hr : ((recsOf p).any fun e => e.name == x) = true) (a1 : PySem.W.nsIn K mainGlobals x = some (some (.ref f))) (l1 : K.lookup f = some ⟨oc, od, .func (PySem.W.fnOf x x (defArgs st) (defBody st) (defScope st) .none kV doc pm an (.ref c) ct), osl⟩) (c1 : PySem.W.codeIn K (.ref c) x = true) (k1 : PySem.W.keepIn K (.ref f) = true)
    (l2 : K.lookup c = some ⟨e, dd, .fields vs, sl⟩) (h11 : vs[11]? = some (.ref T)) (nT : K.lookup T = none) :
    ∃ c T : Addr, CodeAt K mg x st ps c ∧ (PySem.W.CodeHd h c T ∧ h.get? T = some { cls := .none, data := .fields #[] }) ∧ K.lookup T = none := by
  refine ⟨c, T, code_at X t.g b a1 l1 c1 k1, tab_any t X hr ?_, nT⟩
  simp [PySem.W.tabIn, a1, l1, l2, h11, PySem.W.fnOf]
theorem const_at {K : PySem.W.Frag} {h : Heap} {mg : Str → Option Value} {x : Str} {i : Int} {t : Tok} (X : K.In h) (G : h.Ns mainGlobals mg) (a : PySem.W.nsIn K mainGlobals x = some (some (.int i t))) : ∃ u, mg x = some u ∧ RelV (.int i) u := ⟨_, PySem.W.mg_of X G a, ⟨t, rfl⟩⟩
theorem fin {l : PySem.W.OpenLaw} {w : World} {n : Nat} {K : PySem.W.Frag} {mg : Str → Option Value} {h : Heap} {fa : Addr} (hfa : mg "law" = some (.ref fa)) (B : Bl mg) (LD : LawDef K mg)
    (dIsIn : DefAt K mg "is_in" sIsIn ["value", "least", "most"])
    (dNeedSize : DefAt K mg "need_size" sNeedSize ["size"])
    (dIsSet : ∃ c T : Addr, CodeAt K mg "is_set" sIsSet ["size", "value"] c ∧ (PySem.W.CodeHd h c T ∧ h.get? T = some { cls := .none, data := .fields #[] }) ∧ K.lookup T = none)
    (dNeedSet : DefAt K mg "need_set" sNeedSet ["size", "one"])
    (dBlocks : DefAt K mg "blocks_of" sBlocks ["size", "one"])
    (dNeedWhole : DefAt K mg "need_whole" sNeedWhole ["size", "whole"])
    (dNeedTerms : DefAt K mg "need_terms" sNeedTerms ["size", "whole", "one"])
    (dLies : ∃ c T : Addr, CodeAt K mg "lies_in" sLies ["whole", "one"] c ∧ (PySem.W.CodeHd h c T ∧ h.get? T = some { cls := .none, data := .fields #[] }) ∧ K.lookup T = none)
    (dPlaces : DefAt K mg "block_places" sPlaces ["size", "whole"])
    (dGaps : DefAt K mg "gap_ranks" sGaps ["places", "one"])
    (dRows : DefAt K mg "rank_rows" sRows ["gaps"])
    (dAllOf : DefAt K mg "all_of" sAllOf ["size", "whole", "one"])
    (dNeedPrices : ∃ c T : Addr, CodeAt K mg "need_prices" sNeedPrices ["size", "whole", "one", "prices"] c ∧ (PySem.W.CodeHd h c T ∧ h.get? T = some { cls := .none, data := .fields #[] }) ∧ K.lookup T = none)
    (dRed : DefAt K mg "red_count" sRed ["reds", "some"])
    (dCheap : ∃ c T : Addr, CodeAt K mg "cheap_colored" sCheap ["size", "whole", "one", "prices", "reds", "many"] c ∧ (PySem.W.CodeHd h c T ∧ h.get? T = some { cls := .none, data := .fields #[] }) ∧ K.lookup T = none)
    (dRange : DefAt K mg "red_range" sRange ["size", "whole", "one", "reds"])
    (dTaken : DefAt K mg "_law_taken" sTaken ["_law_row", "_law_many"])
    (dAlike : DefAt K mg "_law_alike" sAlike ["_law_found", "_law_due"])
    (dSpots : DefAt K mg "_law_spots" sSpots ["_law_size", "_law_wishes_here"])
    (dSum : DefAt K mg "_law_sum" sSum ["_law_size", "_law_one", "_law_other"])
    (dSets : DefAt K mg "_law_sets" sSets ["_law_size"])
    (dSet : DefAt K mg "_law_set" sSet ["_law_row", "_law_size"])
    (dWhole : DefAt K mg "_law_whole" sWhole ["_law_row", "_law_size"])
    (dWithin : DefAt K mg "_law_within" sWithin ["_law_row", "_law_whole_here"])
    (dDiffs : DefAt K mg "_law_differences" sDiffs ["_law_size", "_law_whole_here", "_law_one"]) : LamX.LawAtS l w K CX0 8 n "_law_script" mg fa h := by
  obtain ⟨cIsSet, TIsSet, dIsSet, tIsSet, nIsSet⟩ := dIsSet
  obtain ⟨cLies, TLies, dLies, tLies, nLies⟩ := dLies
  obtain ⟨cNeedPrices, TNeedPrices, dNeedPrices, tNeedPrices, nNeedPrices⟩ := dNeedPrices
  obtain ⟨cCheap, TCheap, dCheap, tCheap, nCheap⟩ := dCheap
  exact law_at hfa ⟨B, dIsIn, dNeedSize, dIsSet, dNeedSet, dBlocks, dNeedWhole, dNeedTerms, dLies, dPlaces, dGaps, dRows, dAllOf, dNeedPrices, dRed, dCheap, dRange, dTaken, dAlike, dSpots, dSum, dSets, dSet, dWhole, dWithin, dDiffs⟩ LD tIsSet tLies tNeedPrices tCheap nIsSet nLies nNeedPrices nCheap
end T27
open PySem PySem.W PyProof.Rows
set_option maxHeartbeats 0 in
theorem PySem.Challenge.cw_parksums_k27_whole_red_places_holds : PySem.Challenge.rw_parksums_k27_whole_red_places.Holds := by
  w_on; o_law; k_head; (case hw => w_witness2)
  k_fill
  refine T27.walk_top (l := PySem.Challenge.rw_parksums_k27_whole_red_places) (n := 63) (k := 8) (x := "_law_script") (CX := fun _ => L2.CX0) rfl (by decide) rfl ⟨rfl, by decide, by decide⟩ (fun w h Y => PySem.W.kIn_of Y) ?F (fun _ _ _ _ _ h => h)
  case F =>
    intro w mean mg mb fa h Y KX T hmg
    have G := T.g
    refine T27.fin hmg ?B ?dLaw ?dIsIn ?dNeedSize ?dIsSet ?dNeedSet ?dBlocks ?dNeedWhole ?dNeedTerms ?dLies ?dPlaces ?dGaps ?dRows ?dAllOf ?dNeedPrices ?dRed ?dCheap ?dRange ?dTaken ?dAlike ?dSpots ?dSum ?dSets ?dSet ?dWhole ?dWithin ?dDiffs
    case B => exact ⟨PySem.W.mg_none_of KX G (n := "len") (by k_is), PySem.W.mg_none_of KX G (n := "range") (by k_is), PySem.W.mg_none_of KX G (n := "all") (by k_is), PySem.W.mg_none_of KX G (n := "isinstance") (by k_is), PySem.W.mg_none_of KX G (n := "int") (by k_is), PySem.W.mg_none_of KX G (n := "bool") (by k_is), PySem.W.mg_none_of KX G (n := "tuple") (by k_is), PySem.W.mg_none_of KX G (n := "list") (by k_is), PySem.W.mg_none_of KX G (n := "str") (by k_is), PySem.W.mg_none_of KX G (n := "sorted") (by k_is), PySem.W.mg_none_of KX G (n := "min") (by k_is), PySem.W.mg_none_of KX G (n := "max") (by k_is), PySem.W.mg_none_of KX G (n := "sum") (by k_is), PySem.W.mg_none_of KX G (n := "enumerate") (by k_is),
      T27.const_at KX G (x := "LEAST_SIZE") (by k_is), T27.const_at KX G (x := "MOST_SIZE") (by k_is), T27.const_at KX G (x := "MOST_PRICE") (by k_is), T27.const_at KX G (x := "MOST_RED") (by k_is)⟩
    case dLaw =>
      refine' T27.law_def KX G ?a1 ?l1 ?c1 ?k1
      (case a1 => k_is); (case l1 => k_is); (case c1 => k_is); (case k1 => k_is)
    case dIsIn =>
      refine' T27.def_at KX G T27.bIsIn ?a1 ?l1 ?c1 ?k1
      (case a1 => k_is); (case l1 => k_is); (case c1 => k_is); (case k1 => k_is)
    case dNeedSize =>
      refine' T27.def_at KX G T27.bNeedSize ?a1 ?l1 ?c1 ?k1
      (case a1 => k_is); (case l1 => k_is); (case c1 => k_is); (case k1 => k_is)
    case dIsSet =>
      refine' T27.gen_at T KX T27.bIsSet ?hr ?a1 ?l1 ?c1 ?k1 ?l2 ?h11 ?nT
      (case a1 => k_is); (case l1 => k_is); (case c1 => k_is); (case k1 => k_is); (case l2 => k_is); (case h11 => rfl); (case nT => kernel_rfl); (case hr => kernel_rfl)
    case dNeedSet =>
      refine' T27.def_at KX G T27.bNeedSet ?a1 ?l1 ?c1 ?k1
      (case a1 => k_is); (case l1 => k_is); (case c1 => k_is); (case k1 => k_is)
    case dBlocks =>
      refine' T27.def_at KX G T27.bBlocks ?a1 ?l1 ?c1 ?k1
      (case a1 => k_is); (case l1 => k_is); (case c1 => k_is); (case k1 => k_is)
    case dNeedWhole =>
      refine' T27.def_at KX G T27.bNeedWhole ?a1 ?l1 ?c1 ?k1
      (case a1 => k_is); (case l1 => k_is); (case c1 => k_is); (case k1 => k_is)
    case dNeedTerms =>
      refine' T27.def_at KX G T27.bNeedTerms ?a1 ?l1 ?c1 ?k1
      (case a1 => k_is); (case l1 => k_is); (case c1 => k_is); (case k1 => k_is)
    case dLies =>
      refine' T27.gen_at T KX T27.bLies ?hr ?a1 ?l1 ?c1 ?k1 ?l2 ?h11 ?nT
      (case a1 => k_is); (case l1 => k_is); (case c1 => k_is); (case k1 => k_is); (case l2 => k_is); (case h11 => rfl); (case nT => kernel_rfl); (case hr => kernel_rfl)
    case dPlaces =>
      refine' T27.def_at KX G T27.bPlaces ?a1 ?l1 ?c1 ?k1
      (case a1 => k_is); (case l1 => k_is); (case c1 => k_is); (case k1 => k_is)
    case dGaps =>
      refine' T27.def_at KX G T27.bGaps ?a1 ?l1 ?c1 ?k1
      (case a1 => k_is); (case l1 => k_is); (case c1 => k_is); (case k1 => k_is)
    case dRows =>
      refine' T27.def_at KX G T27.bRows ?a1 ?l1 ?c1 ?k1
      (case a1 => k_is); (case l1 => k_is); (case c1 => k_is); (case k1 => k_is)
    case dAllOf =>
      refine' T27.def_at KX G T27.bAllOf ?a1 ?l1 ?c1 ?k1
      (case a1 => k_is); (case l1 => k_is); (case c1 => k_is); (case k1 => k_is)
    case dNeedPrices =>
      refine' T27.gen_at T KX T27.bNeedPrices ?hr ?a1 ?l1 ?c1 ?k1 ?l2 ?h11 ?nT
      (case a1 => k_is); (case l1 => k_is); (case c1 => k_is); (case k1 => k_is); (case l2 => k_is); (case h11 => rfl); (case nT => kernel_rfl); (case hr => kernel_rfl)
    case dRed =>
      refine' T27.def_at KX G T27.bRed ?a1 ?l1 ?c1 ?k1
      (case a1 => k_is); (case l1 => k_is); (case c1 => k_is); (case k1 => k_is)
    case dCheap =>
      refine' T27.gen_at T KX T27.bCheap ?hr ?a1 ?l1 ?c1 ?k1 ?l2 ?h11 ?nT
      (case a1 => k_is); (case l1 => k_is); (case c1 => k_is); (case k1 => k_is); (case l2 => k_is); (case h11 => rfl); (case nT => kernel_rfl); (case hr => kernel_rfl)
    case dRange =>
      refine' T27.def_at KX G T27.bRange ?a1 ?l1 ?c1 ?k1
      (case a1 => k_is); (case l1 => k_is); (case c1 => k_is); (case k1 => k_is)
    case dTaken =>
      refine' T27.def_at KX G T27.bTaken ?a1 ?l1 ?c1 ?k1
      (case a1 => k_is); (case l1 => k_is); (case c1 => k_is); (case k1 => k_is)
    case dAlike =>
      refine' T27.def_at KX G T27.bAlike ?a1 ?l1 ?c1 ?k1
      (case a1 => k_is); (case l1 => k_is); (case c1 => k_is); (case k1 => k_is)
    case dSpots =>
      refine' T27.def_at KX G T27.bSpots ?a1 ?l1 ?c1 ?k1
      (case a1 => k_is); (case l1 => k_is); (case c1 => k_is); (case k1 => k_is)
    case dSum =>
      refine' T27.def_at KX G T27.bSum ?a1 ?l1 ?c1 ?k1
      (case a1 => k_is); (case l1 => k_is); (case c1 => k_is); (case k1 => k_is)
    case dSets =>
      refine' T27.def_at KX G T27.bSets ?a1 ?l1 ?c1 ?k1
      (case a1 => k_is); (case l1 => k_is); (case c1 => k_is); (case k1 => k_is)
    case dSet =>
      refine' T27.def_at KX G T27.bSet ?a1 ?l1 ?c1 ?k1
      (case a1 => k_is); (case l1 => k_is); (case c1 => k_is); (case k1 => k_is)
    case dWhole =>
      refine' T27.def_at KX G T27.bWhole ?a1 ?l1 ?c1 ?k1
      (case a1 => k_is); (case l1 => k_is); (case c1 => k_is); (case k1 => k_is)
    case dWithin =>
      refine' T27.def_at KX G T27.bWithin ?a1 ?l1 ?c1 ?k1
      (case a1 => k_is); (case l1 => k_is); (case c1 => k_is); (case k1 => k_is)
    case dDiffs =>
      refine' T27.def_at KX G T27.bDiffs ?a1 ?l1 ?c1 ?k1
      (case a1 => k_is); (case l1 => k_is); (case c1 => k_is); (case k1 => k_is)
end
