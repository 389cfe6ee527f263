import PyProof.Rows.All
import Wide.All
import OpenK.AllK
import Wide.FinOn
import PyProof.EqAt
import PyProof.EqKinds
import PyProof.TupleCall
import PyProof.CallFns
import KE.KStateDown
import KE.KExcSuper
import KE.KLam
import KE.GoesDict
import HandS.ForMost
import HandS.Exc
import HandS.ExcOwn
import HandS.ExcField
import HandS.TryOnly
import HandS.TryMany
import HandS.WordsExc
import HandS.Lambda
import HandS.Sort
import HandS.SortOrd
import HandS.SortRule
import HandS.SortInts
import HandS.Conv
import HandS.Style
import HandS.TupAny
import HandS.TupLe
import HandS.Zip
import HandS.IsInst
import HandS.OwnEq
import HandS.Defaults
import HandS.Evl
import HandS.Walk
import HandS.Flow
import HandS.Small
import HandS.Head0
import HandS.Head1
import HandS.Head2
import HandS.HeadEnd
import HandS.HeadHook1
import HandS.HeadHook2
import HandS.HeadHook3
import HandS.HeadHook4
import HandS.EndTab
import HandS.HeadWalk
import KE.GoesNew
import KE.GoesMore
import KE.GoesEnum
import KE.KSuper
import HandS.ExcInit
import KE.DataMinMax
import KE.KDictDisplayH
import PySem.Challenge.RW_wordvault_k34_whole_least_costs
set_option linter.all false
set_option maxRecDepth 100000
set_option maxHeartbeats 4000000
/-! The mathematics of least costs: sorted joining, the two queues, heights, the exchange. -/
namespace WvM

/-! ### sorted lists of ints -/
def ins (x : Int) : List Int → List Int
  | [] => [x]
  | y :: r => if x ≤ y then x :: y :: r else y :: ins x r
def isort : List Int → List Int
  | [] => []
  | x :: r => ins x (isort r)
theorem ins_perm (x : Int) : ∀ l : List Int, (ins x l).Perm (x :: l)
  | [] => .refl _
  | y :: r => by
    unfold ins
    split
    · exact .refl _
    · exact ((ins_perm x r).cons y).trans (.swap x y r)
theorem ins_mem {x y : Int} {l : List Int} : y ∈ ins x l ↔ y = x ∨ y ∈ l := by
  rw [(ins_perm x l).mem_iff, List.mem_cons]
theorem ins_sorted (x : Int) : ∀ l : List Int, l.Pairwise (· ≤ ·) → (ins x l).Pairwise (· ≤ ·)
  | [], _ => by simp [ins]
  | y :: r, h => by
    unfold ins
    have hr := (List.pairwise_cons.mp h).2
    have hy := (List.pairwise_cons.mp h).1
    split
    · rename_i hx
      refine List.pairwise_cons.mpr ⟨fun z hz => ?_, h⟩
      rcases List.mem_cons.mp hz with e | hz
      · rw [e]; exact hx
      · exact Int.le_trans hx (hy z hz)
    · rename_i hx
      refine List.pairwise_cons.mpr ⟨fun z hz => ?_, ins_sorted x r hr⟩
      rcases ins_mem.mp hz with e | hz
      · rw [e]; omega
      · exact hy z hz
theorem isort_perm : ∀ l : List Int, (isort l).Perm l
  | [] => .refl _
  | x :: r => (ins_perm x _).trans ((isort_perm r).cons x)
theorem isort_sorted : ∀ l : List Int, (isort l).Pairwise (· ≤ ·)
  | [] => List.Pairwise.nil
  | x :: r => ins_sorted x _ (isort_sorted r)
/-- two sorted arrangements of one list are one -/
theorem sorted_unique : ∀ {l m : List Int}, l.Perm m → l.Pairwise (· ≤ ·) → m.Pairwise (· ≤ ·) → l = m
  | [], m, p, _, _ => by rw [List.Perm.eq_nil (p.symm)]
  | x :: r, [], p, _, _ => by have := p.length_eq; simp at this
  | x :: r, y :: t, p, h1, h2 => by
    have a1 := List.pairwise_cons.mp h1
    have a2 := List.pairwise_cons.mp h2
    have e : x = y := by
      have m1 : x ∈ y :: t := p.mem_iff.mp List.mem_cons_self
      have m2 : y ∈ x :: r := p.mem_iff.mpr List.mem_cons_self
      rcases List.mem_cons.mp m1 with e | m1
      · exact e
      · rcases List.mem_cons.mp m2 with e | m2
        · exact e.symm
        · exact Int.le_antisymm (a1.1 y m2) (a2.1 x m1)
    subst e
    rw [sorted_unique (List.Perm.cons_inv p) a1.2 a2.2]
theorem isort_of {l m : List Int} (p : l.Perm m) (h : l.Pairwise (· ≤ ·)) : l = isort m :=
  sorted_unique (p.trans (isort_perm m).symm) h (isort_sorted m)
theorem isort_congr {l m : List Int} (p : l.Perm m) : isort l = isort m :=
  isort_of ((isort_perm l).trans p) (isort_sorted l)
theorem isort_length (l : List Int) : (isort l).length = l.length := (isort_perm l).length_eq

/-! ### the least cost by sorted joining -/
def hsum : Nat → List Int → Int
  | 0, _ => 0
  | n + 1, a :: b :: r => (a + b) + hsum n (ins (a + b) r)
  | _ + 1, _ => 0
def huff (cs : List Int) : Int := hsum cs.length (isort cs)
theorem huff_congr {l m : List Int} (p : l.Perm m) : huff l = huff m := by
  unfold huff
  rw [isort_congr p, p.length_eq]

/-! ### sums -/
theorem sum_perm {l m : List Int} (p : l.Perm m) : l.sum = m.sum := by
  induction p with
  | nil => rfl
  | cons x _ ih => simp [ih]
  | swap x y l => simp; omega
  | trans _ _ a b => exact a.trans b
theorem nsum_perm {l m : List Nat} (p : l.Perm m) : l.sum = m.sum := by
  induction p with
  | nil => rfl
  | cons x _ ih => simp [ih]
  | swap x y l => simp; omega
  | trans _ _ a b => exact a.trans b

/-! ### a chain of joins: nodes (name, weight); each time two least ones become one -/
inductive Chain (n : Nat) : Nat → List (Nat × Int) → List (Nat × Nat × Int) → Prop
  | done {k : Nat} {R : List (Nat × Int)} : R.length = 1 → Chain n k R []
  | join {k a b : Nat} {wa wb : Int} {R R' : List (Nat × Int)} {rest : List (Nat × Nat × Int)} : R.Perm ((a, wa) :: (b, wb) :: R') → wa ≤ wb → (∀ x ∈ R', wb ≤ x.2) → Chain n (k + 1) ((n + k, wa + wb) :: R') rest → Chain n k R ((a, b, wa + wb) :: rest)
theorem Chain.perm {n k : Nat} {R S : List (Nat × Int)} {st : List (Nat × Nat × Int)} (h : Chain n k R st) (p : R.Perm S) : Chain n k S st := by
  cases h with
  | done e => exact .done (by rw [← p.length_eq]; exact e)
  | join q h1 h2 r => exact .join (p.symm.trans q) h1 h2 r
theorem Chain.length {n k : Nat} {R : List (Nat × Int)} {st : List (Nat × Nat × Int)} (h : Chain n k R st) : R.length = st.length + 1 := by
  induction h with
  | done e => simpa using e
  | join q _ _ _ ih => rw [q.length_eq]; simp at ih ⊢; omega
theorem Chain.sum {n k : Nat} {R : List (Nat × Int)} {st : List (Nat × Nat × Int)} (h : Chain n k R st) : (st.map (·.2.2)).sum = huff (R.map (·.2)) := by
  induction h with
  | @done k R e =>
    obtain ⟨x, rfl⟩ := List.length_eq_one_iff.mp e
    rfl
  | @join k a b wa wb R R' rest q h1 h2 c ih =>
    have hs : isort (R.map (·.2)) = wa :: wb :: isort (R'.map (·.2)) := by
      refine (isort_of (m := R.map (·.2)) ?_ ?_).symm
      · refine List.Perm.trans ?_ (q.map (·.2)).symm
        exact ((isort_perm _).cons _).cons _
      · refine List.pairwise_cons.mpr ⟨fun z hz => ?_, List.pairwise_cons.mpr ⟨fun z hz => ?_, isort_sorted _⟩⟩
        · rcases List.mem_cons.mp hz with e | hz
          · rw [e]; exact h1
          · obtain ⟨x, hx, rfl⟩ := List.mem_map.mp ((isort_perm _).mem_iff.mp hz)
            exact Int.le_trans h1 (h2 x hx)
        · obtain ⟨x, hx, rfl⟩ := List.mem_map.mp ((isort_perm _).mem_iff.mp hz)
          exact h2 x hx
    have hl : (R.map (·.2)).length = (R'.map (·.2)).length + 1 + 1 := by rw [List.length_map, q.length_eq]; simp
    unfold huff at ih ⊢
    rw [hs, hl]
    show wa + wb + (rest.map (·.2.2)).sum = (wa + wb) + hsum ((R'.map (·.2)).length + 1) (ins (wa + wb) (isort (R'.map (·.2))))
    rw [ih]
    simp [isort]

/-! ### heights, from the last join back -/
abbrev HM := Nat → Option Nat
def put (h : HM) (a v : Nat) : HM := fun x => if x = a then some v else h x
def hmap (n : Nat) : Nat → List (Nat × Nat × Int) → HM
  | _, [] => fun _ => none
  | k, (a, b, _) :: rest => put (put (hmap n (k + 1) rest) a (((hmap n (k + 1) rest) (n + k)).getD 0 + 1)) b (((hmap n (k + 1) rest) (n + k)).getD 0 + 1)
def hv (h : HM) (x : Nat) : Nat := (h x).getD 0
theorem put_same {h : HM} {a v : Nat} : put h a v a = some v := if_pos rfl
theorem put_ne {h : HM} {a v x : Nat} (e : x ≠ a) : put h a v x = h x := if_neg e

structure Hts (n k : Nat) (R : List (Nat × Int)) (st : List (Nat × Nat × Int)) (h : HM) : Prop where
  cost : (R.map fun x => x.2 * (hv h x.1 : Int)).sum = (st.map (·.2.2)).sum
  kraft : ∀ B, st.length ≤ B → (R.map fun x => 2 ^ (B - hv h x.1)).sum = 2 ^ B
  le : ∀ x ∈ R, hv h x.1 ≤ st.length
  ge : st ≠ [] → ∀ x ∈ R, ∃ v, h x.1 = some v ∧ 1 ≤ v
theorem Hts.perm {n k : Nat} {R S : List (Nat × Int)} {st : List (Nat × Nat × Int)} {h : HM} (H : Hts n k R st h) (p : R.Perm S) : Hts n k S st h :=
  ⟨by rw [← sum_perm (p.map _)]; exact H.cost, fun B hB => by rw [← nsum_perm (p.map _)]; exact H.kraft B hB, fun x hx => H.le x (p.mem_iff.mpr hx), fun e x hx => H.ge e x (p.mem_iff.mpr hx)⟩
theorem two_half {B d : Nat} (h : d + 1 ≤ B) : 2 ^ (B - (d + 1)) + 2 ^ (B - (d + 1)) = 2 ^ (B - d) := by
  have e : B - d = (B - (d + 1)) + 1 := by omega
  rw [e, Nat.pow_succ]
  omega
theorem map_congr_mem {α β : Type} {f g : α → β} {l : List α} (h : ∀ x ∈ l, f x = g x) : l.map f = l.map g := List.map_congr_left h
theorem Chain.hts {n k : Nat} {R : List (Nat × Int)} {st : List (Nat × Nat × Int)} (h : Chain n k R st) (nd : (R.map (·.1)).Nodup) (lt : ∀ x ∈ R, x.1 < n + k) : Hts n k R st (hmap n k st) := by
  induction h with
  | @done k R e =>
    obtain ⟨x, rfl⟩ := List.length_eq_one_iff.mp e
    refine ⟨by simp [hv, hmap], fun B _ => by simp [hv, hmap], fun y _ => by simp [hv, hmap], fun e => absurd rfl e⟩
  | @join k a b wa wb R R' rest q h1 h2 c ih =>
    have nd2 : (((a, wa) :: (b, wb) :: R').map (·.1)).Nodup := (q.map (·.1)).nodup_iff.mp nd
    simp only [List.map_cons, List.nodup_cons, List.mem_cons, not_or] at nd2
    obtain ⟨⟨nab, naR⟩, nbR, ndR⟩ := nd2
    have lt2 : ∀ x ∈ (a, wa) :: (b, wb) :: R', x.1 < n + k := fun x hx => lt x (q.mem_iff.mpr hx)
    have ltR : ∀ x ∈ R', x.1 < n + k := fun x hx => lt2 x (List.mem_cons_of_mem _ (List.mem_cons_of_mem _ hx))
    have H := ih (by
      simp only [List.map_cons, List.nodup_cons]
      refine ⟨fun z => ?_, ndR⟩
      obtain ⟨x, hx, e⟩ := List.mem_map.mp z
      have := ltR x hx
      omega) (fun x hx => by
      rcases List.mem_cons.mp hx with e | hx
      · rw [e]; show n + k < n + (k + 1); omega
      · have := ltR x hx
        omega)
    refine Hts.perm ?_ q.symm
    have hRa : ∀ x ∈ R', x.1 ≠ a := fun x hx e => naR (List.mem_map.mpr ⟨x, hx, e⟩)
    have hRb : ∀ x ∈ R', x.1 ≠ b := fun x hx e => nbR (List.mem_map.mpr ⟨x, hx, e⟩)
    generalize hd : hv (hmap n (k + 1) rest) (n + k) = d at *
    have hm : hmap n k ((a, b, wa + wb) :: rest) = put (put (hmap n (k + 1) rest) a (d + 1)) b (d + 1) := by rw [← hd]; rfl
    have hA : hv (hmap n k ((a, b, wa + wb) :: rest)) a = d + 1 := by
      rw [hm]; unfold hv; rw [put_ne nab, put_same]; rfl
    have hB : hv (hmap n k ((a, b, wa + wb) :: rest)) b = d + 1 := by
      rw [hm]; unfold hv; rw [put_same]; rfl
    have hR : ∀ x ∈ R', hv (hmap n k ((a, b, wa + wb) :: rest)) x.1 = hv (hmap n (k + 1) rest) x.1 := fun x hx => by
      rw [hm]; unfold hv; rw [put_ne (hRb x hx), put_ne (hRa x hx)]
    have hdl : d ≤ rest.length := by
      have := H.le (n + k, wa + wb) List.mem_cons_self
      rw [← hd]; exact this
    refine ⟨?_, fun B hB2 => ?_, fun x hx => ?_, fun _ x hx => ?_⟩
    · have c1 := H.cost
      simp only [List.map_cons, List.sum_cons] at c1 ⊢
      rw [hA, hB, map_congr_mem (fun x hx => by rw [hR x hx])]
      rw [hd] at c1
      have e1 : wa * ((d + 1 : Nat) : Int) = wa * (d : Int) + wa := by rw [Int.natCast_add, Int.mul_add]; simp
      have e2 : wb * ((d + 1 : Nat) : Int) = wb * (d : Int) + wb := by rw [Int.natCast_add, Int.mul_add]; simp
      have e3 : (wa + wb) * (d : Int) = wa * (d : Int) + wb * (d : Int) := Int.add_mul _ _ _
      rw [e3] at c1
      rw [e1, e2]
      omega
    · have c1 := H.kraft B (by simp at hB2; omega)
      simp only [List.map_cons, List.sum_cons] at c1 ⊢
      rw [hA, hB, map_congr_mem (fun x hx => by rw [hR x hx])]
      rw [hd] at c1
      have e := two_half (B := B) (d := d) (by simp at hB2; omega)
      omega
    · show _ ≤ rest.length + 1
      rcases List.mem_cons.mp hx with e | hx
      · rw [e]; show hv _ a ≤ _; rw [hA]; omega
      · rcases List.mem_cons.mp hx with e | hx
        · rw [e]; show hv _ b ≤ _; rw [hB]; omega
        · rw [hR x hx]
          have := H.le x (List.mem_cons_of_mem _ hx)
          omega
    · rcases List.mem_cons.mp hx with e | hx
      · rw [e]; exact ⟨d + 1, by rw [hm, put_ne nab, put_same], by omega⟩
      · rcases List.mem_cons.mp hx with e | hx
        · rw [e]; exact ⟨d + 1, by rw [hm, put_same], by omega⟩
        · have hl := c.length
          have hne : rest ≠ [] := by
            intro z
            rw [z] at hl
            simp only [List.length_cons, List.length_nil] at hl
            have : R' = [] := List.length_eq_zero_iff.mp (by omega)
            rw [this] at hx
            cases hx
          obtain ⟨v, e, hv1⟩ := H.ge hne x (List.mem_cons_of_mem _ hx)
          exact ⟨v, by rw [hm, put_ne (hRb x hx), put_ne (hRa x hx)]; exact e, hv1⟩

/-! ### the two queues -/
abbrev Step := Nat × Nat × Int
def wt (made : List Step) (i : Nat) : Int := (made.getD i (0, 0, 0)).2.2
/-- the next node: (name, weight, at, first) -/
def pick (n : Nat) (signs : List (Int × Nat)) (made : List Step) (at_ first : Nat) : Nat × Int × Nat × Nat :=
  if at_ < signs.length ∧ (first = made.length ∨ (signs.getD at_ (0, 0)).1 ≤ wt made first) then
    ((signs.getD at_ (0, 0)).2, (signs.getD at_ (0, 0)).1, at_ + 1, first)
  else (n + first, wt made first, at_, first + 1)
def jturn (n : Nat) (signs : List (Int × Nat)) (s : List Step × Nat × Nat) : List Step × Nat × Nat :=
  let p := pick n signs s.1 s.2.1 s.2.2
  let q := pick n signs s.1 p.2.2.1 p.2.2.2
  (s.1 ++ [(p.1, q.1, p.2.1 + q.2.1)], q.2.2.1, q.2.2.2)
def jst (n : Nat) (signs : List (Int × Nat)) : Nat → List Step × Nat × Nat
  | 0 => ([], 0, 0)
  | t + 1 => jturn n signs (jst n signs t)
/-- what is left: signs from at_, joined nodes from first -/
def rem (n : Nat) (signs : List (Int × Nat)) (made : List Step) (at_ first : Nat) : List (Nat × Int) :=
  (signs.drop at_).map (fun p => (p.2, p.1)) ++ (List.range' first (made.length - first)).map fun i => (n + i, wt made i)

structure PickOk (n : Nat) (signs : List (Int × Nat)) (made : List Step) (a f : Nat) : Prop where
  perm : (rem n signs made a f).Perm (((pick n signs made a f).1, (pick n signs made a f).2.1) :: rem n signs made (pick n signs made a f).2.2.1 (pick n signs made a f).2.2.2)
  least : ∀ x ∈ rem n signs made (pick n signs made a f).2.2.1 (pick n signs made a f).2.2.2, (pick n signs made a f).2.1 ≤ x.2
  sum : (pick n signs made a f).2.2.1 + (pick n signs made a f).2.2.2 = a + f + 1
  la : (pick n signs made a f).2.2.1 ≤ signs.length
  lf : (pick n signs made a f).2.2.2 ≤ made.length
theorem getD_of {α : Type} {l : List α} {i : Nat} (d : α) (h : i < l.length) : l.getD i d = l[i] := by simp [List.getD, h]
theorem pick_ok {n : Nat} {signs : List (Int × Nat)} {made : List Step} {a f : Nat} (hs : (signs.map (·.1)).Pairwise (· ≤ ·)) (hm : (made.map (·.2.2)).Pairwise (· ≤ ·)) (ha : a ≤ signs.length) (hf : f ≤ made.length) (hne : a < signs.length ∨ f < made.length) :
    PickOk n signs made a f := by
  have sOrd : ∀ {i j : Nat}, i < j → j < signs.length → (signs.getD i (0, 0)).1 ≤ (signs.getD j (0, 0)).1 := fun {i j} hij hj => by
    have := List.pairwise_iff_getElem.mp hs i j (by simp; omega) (by simp; omega) hij
    rw [getD_of _ hj, getD_of _ (show i < signs.length by omega)]
    simpa using this
  have mOrd : ∀ {i j : Nat}, i < j → j < made.length → wt made i ≤ wt made j := fun {i j} hij hj => by
    have := List.pairwise_iff_getElem.mp hm i j (by simp; omega) (by simp; omega) hij
    unfold wt
    rw [getD_of _ hj, getD_of _ (show i < made.length by omega)]
    simpa using this
  have sMem : ∀ {i : Nat} {x : Nat × Int}, x ∈ (signs.drop i).map (fun p => (p.2, p.1)) → ∃ j, i ≤ j ∧ j < signs.length ∧ x.2 = (signs.getD j (0, 0)).1 := fun {i x} hx => by
    obtain ⟨p, hp, rfl⟩ := List.mem_map.mp hx
    obtain ⟨j, hj, e⟩ := List.mem_iff_getElem.mp hp
    rw [List.length_drop] at hj
    refine ⟨i + j, by omega, by omega, ?_⟩
    rw [getD_of _ (show i + j < signs.length by omega), ← e, List.getElem_drop]
  have mMem : ∀ {i : Nat} {x : Nat × Int}, x ∈ (List.range' i (made.length - i)).map (fun i => (n + i, wt made i)) → ∃ j, i ≤ j ∧ j < made.length ∧ x.2 = wt made j := fun {i x} hx => by
    obtain ⟨j, hj, rfl⟩ := List.mem_map.mp hx
    rw [List.mem_range'_1] at hj
    exact ⟨j, hj.1, by omega, rfl⟩
  by_cases c : a < signs.length ∧ (f = made.length ∨ (signs.getD a (0, 0)).1 ≤ wt made f)
  · have e : pick n signs made a f = ((signs.getD a (0, 0)).2, (signs.getD a (0, 0)).1, a + 1, f) := if_pos c
    refine ⟨?_, ?_, ?_, ?_, ?_⟩
    · rw [e]
      show (rem n signs made a f).Perm (((signs.getD a (0, 0)).2, (signs.getD a (0, 0)).1) :: rem n signs made (a + 1) f)
      have ed : signs.drop a = signs.getD a (0, 0) :: signs.drop (a + 1) := by
        have c1 := c.1
        rw [List.drop_eq_getElem_cons c1, getD_of _ c1]
      unfold rem
      rw [ed]
      exact .refl _
    · rw [e]
      intro x hx
      show (signs.getD a (0, 0)).1 ≤ x.2
      rcases List.mem_append.mp hx with hx | hx
      · obtain ⟨j, h1, h2, h3⟩ := sMem hx
        rw [h3]
        exact sOrd (Nat.lt_of_lt_of_le (Nat.lt_succ_self _) h1) h2
      · obtain ⟨j, h1, h2, h3⟩ := mMem hx
        have h1 : f ≤ j := h1
        rw [h3]
        rcases c.2 with c2 | c2
        · omega
        · by_cases ej : j = f
          · rw [ej]; exact c2
          · exact Int.le_trans c2 (mOrd (by omega) h2)
    · rw [e]; show a + 1 + f = _; omega
    · rw [e]; show a + 1 ≤ _; omega
    · rw [e]; exact hf
  · have e : pick n signs made a f = (n + f, wt made f, a, f + 1) := if_neg c
    have hfl : f < made.length := by
      rcases hne with h | h
      · have : f ≠ made.length := fun z => c ⟨h, .inl z⟩
        omega
      · exact h
    refine ⟨?_, ?_, ?_, ?_, ?_⟩
    · rw [e]
      show (rem n signs made a f).Perm ((n + f, wt made f) :: rem n signs made a (f + 1))
      unfold rem
      have e2 : List.range' f (made.length - f) = f :: List.range' (f + 1) (made.length - (f + 1)) := by
        have : made.length - f = (made.length - (f + 1)) + 1 := by omega
        rw [this, List.range'_succ]
      rw [e2, List.map_cons]
      exact List.perm_middle
    · rw [e]
      intro x hx
      show wt made f ≤ x.2
      rcases List.mem_append.mp hx with hx | hx
      · obtain ⟨j, h1, h2, h3⟩ := sMem hx
        have h1 : a ≤ j := h1
        rw [h3]
        have h4 : wt made f ≤ (signs.getD a (0, 0)).1 := by
          have : ¬ (signs.getD a (0, 0)).1 ≤ wt made f := fun z => c ⟨by omega, .inr z⟩
          omega
        by_cases ej : j = a
        · rw [ej]; exact h4
        · exact Int.le_trans h4 (sOrd (by omega) h2)
      · obtain ⟨j, h1, h2, h3⟩ := mMem hx
        have h1 : f + 1 ≤ j := h1
        rw [h3]
        exact mOrd (by omega) h2
    · rw [e]; show a + (f + 1) = _; omega
    · rw [e]; exact ha
    · rw [e]; show f + 1 ≤ _; omega

structure JOk (n : Nat) (signs : List (Int × Nat)) (t : Nat) (s : List Step × Nat × Nat) : Prop where
  len : s.1.length = t
  sum : s.2.1 + s.2.2 = 2 * t
  la : s.2.1 ≤ signs.length
  lf : s.2.2 ≤ t
  ord : (s.1.map (·.2.2)).Pairwise (· ≤ ·)
  low : ∃ m : Int, 0 ≤ m ∧ (∀ x ∈ rem n signs s.1 s.2.1 s.2.2, m ≤ x.2) ∧ ∀ p ∈ s.1, p.2.2 ≤ 2 * m
theorem rem_length (n : Nat) (signs : List (Int × Nat)) (made : List Step) (a f : Nat) : (rem n signs made a f).length = (signs.length - a) + (made.length - f) := by
  unfold rem
  simp
theorem wt_append {made : List Step} {x : Step} {i : Nat} (h : i < made.length) : wt (made ++ [x]) i = wt made i := by
  unfold wt
  rw [getD_of _ h, getD_of _ (by simp; omega), List.getElem_append_left h]
theorem wt_last {made : List Step} {x : Step} : wt (made ++ [x]) made.length = x.2.2 := by
  unfold wt
  rw [getD_of _ (by simp), List.getElem_append_right (Nat.le_refl _)]
  simp
theorem rem_snoc {n : Nat} {signs : List (Int × Nat)} {made : List Step} {a f : Nat} {x : Step} (hf : f ≤ made.length) :
    rem n signs (made ++ [x]) a f = rem n signs made a f ++ [(n + made.length, x.2.2)] := by
  unfold rem
  have e : (made ++ [x]).length - f = (made.length - f) + 1 := by simp; omega
  rw [e, List.range'_concat, List.map_append, List.append_assoc]
  congr 1
  congr 1
  · refine map_congr_mem fun i hi => ?_
    rw [List.mem_range'_1] at hi
    rw [wt_append (by omega)]
  · have e2 : f + 1 * (made.length - f) = made.length := by omega
    simp only [List.map_cons, List.map_nil, e2, wt_last]
/-- one turn, where two nodes at least are left -/
theorem jturn_ok {n t : Nat} {signs : List (Int × Nat)} {s : List Step × Nat × Nat} (hs : (signs.map (·.1)).Pairwise (· ≤ ·)) (hn : signs.length = n) (J : JOk n signs t s) (ht : t + 1 < n) :
    JOk n signs (t + 1) (jturn n signs s) ∧ ∃ (a b : Nat) (wa wb : Int) (R' : List (Nat × Int)), (jturn n signs s).1 = s.1 ++ [(a, b, wa + wb)] ∧ (rem n signs s.1 s.2.1 s.2.2).Perm ((a, wa) :: (b, wb) :: R') ∧ wa ≤ wb ∧ (∀ x ∈ R', wb ≤ x.2) ∧
      (rem n signs (jturn n signs s).1 (jturn n signs s).2.1 (jturn n signs s).2.2).Perm ((n + t, wa + wb) :: R') := by
  obtain ⟨made, a0, f0⟩ := s
  obtain ⟨hl, hsum, hla, hlf, hord, m, hm0, hm1, hm2⟩ := J
  dsimp only at hl hsum hla hlf hord hm1 hm2
  have P1 := pick_ok (n := n) (a := a0) (f := f0) hs hord hla (by omega) (by omega)
  generalize hp : pick n signs made a0 f0 = p at P1
  obtain ⟨v1, w1, a1, f1⟩ := p
  have P1p := P1.perm
  have P1l := P1.least
  have P1s := P1.sum
  have P1a := P1.la
  have P1f := P1.lf
  rw [hp] at P1p P1l P1s P1a P1f
  dsimp only at P1p P1l P1s P1a P1f
  have P2 := pick_ok (n := n) (a := a1) (f := f1) hs hord P1a P1f (by omega)
  generalize hq : pick n signs made a1 f1 = q at P2
  obtain ⟨v2, w2, a2, f2⟩ := q
  have P2p := P2.perm
  have P2l := P2.least
  have P2s := P2.sum
  have P2a := P2.la
  have P2f := P2.lf
  rw [hq] at P2p P2l P2s P2a P2f
  dsimp only at P2p P2l P2s P2a P2f
  have ej : jturn n signs (made, a0, f0) = (made ++ [(v1, v2, w1 + w2)], a2, f2) := by
    unfold jturn
    dsimp only
    rw [hp]
    dsimp only
    rw [hq]
  have pm : (rem n signs made a0 f0).Perm ((v1, w1) :: (v2, w2) :: rem n signs made a2 f2) := P1p.trans (P2p.cons _)
  have w12 : w1 ≤ w2 := P1l (v2, w2) (P2p.mem_iff.mpr List.mem_cons_self)
  have mw1 : m ≤ w1 := hm1 (v1, w1) (pm.mem_iff.mpr List.mem_cons_self)
  rw [ej]
  dsimp only
  have er : rem n signs (made ++ [(v1, v2, w1 + w2)]) a2 f2 = rem n signs made a2 f2 ++ [(n + made.length, w1 + w2)] := rem_snoc P2f
  refine ⟨⟨by simp [hl], (by show a2 + f2 = 2 * (t + 1); omega), P2a, (by show f2 ≤ t + 1; omega), ?_, w2, by omega, fun x hx => ?_, fun p hp => ?_⟩, v1, v2, w1, w2, rem n signs made a2 f2, rfl, pm, w12, P2l, ?_⟩
  · show (List.map _ (made ++ [(v1, v2, w1 + w2)])).Pairwise _
    rw [List.map_append]
    refine List.pairwise_append.mpr ⟨hord, by simp, fun x hx y hy => ?_⟩
    obtain ⟨p, hp, rfl⟩ := List.mem_map.mp hx
    have h1 := hm2 p hp
    simp only [List.map_cons, List.map_nil, List.mem_singleton] at hy
    rw [hy]
    omega
  · have hx : x ∈ rem n signs (made ++ [(v1, v2, w1 + w2)]) a2 f2 := hx
    rw [er] at hx
    rcases List.mem_append.mp hx with hx | hx
    · exact P2l x hx
    · rw [List.mem_singleton.mp hx]
      show w2 ≤ w1 + w2
      omega
  · rcases List.mem_append.mp hp with hp | hp
    · have := hm2 p hp
      omega
    · rw [List.mem_singleton.mp hp]
      show w1 + w2 ≤ 2 * w2
      omega
  · rw [er, hl]
    exact (List.perm_append_comm).trans (.refl _)
theorem jst_ok {n : Nat} {signs : List (Int × Nat)} (hs : (signs.map (·.1)).Pairwise (· ≤ ·)) (hn : signs.length = n) (h0 : ∀ p ∈ signs, 0 ≤ p.1) : ∀ t, t < n → JOk n signs t (jst n signs t)
  | 0, _ => ⟨rfl, rfl, Nat.zero_le _, Nat.le_refl _, List.Pairwise.nil, 0, Int.le_refl _, fun x hx => by
      unfold rem at hx
      simp [jst] at hx
      obtain ⟨a, b, h1, rfl⟩ := hx
      exact h0 _ h1, fun p hp => by cases hp⟩
  | t + 1, h => (jturn_ok hs hn (jst_ok hs hn h0 t (by omega)) h).1
theorem jst_take {n : Nat} {signs : List (Int × Nat)} {s : List Step × Nat × Nat} : ∃ x, (jturn n signs s).1 = s.1 ++ [x] := ⟨_, rfl⟩
theorem jst_pre {n : Nat} {signs : List (Int × Nat)} (t : Nat) : ∀ d, ∃ l, (jst n signs (t + d)).1 = (jst n signs t).1 ++ l
  | 0 => ⟨[], by simp⟩
  | d + 1 => by
    obtain ⟨l, e⟩ := jst_pre t d
    obtain ⟨x, ex⟩ := jst_take (n := n) (signs := signs) (s := jst n signs (t + d))
    exact ⟨l ++ [x], by show (jturn n signs (jst n signs (t + d))).1 = _; rw [ex, e, List.append_assoc]⟩
theorem jst_chain {n : Nat} {signs : List (Int × Nat)} (hs : (signs.map (·.1)).Pairwise (· ≤ ·)) (hn : signs.length = n) (h0 : ∀ p ∈ signs, 0 ≤ p.1) : ∀ d t, t + d + 1 = n →
    Chain n t (rem n signs (jst n signs t).1 (jst n signs t).2.1 (jst n signs t).2.2) ((jst n signs (t + d)).1.drop t)
  | 0, t, h => by
    have J := jst_ok hs hn h0 t (by omega)
    rw [show t + 0 = t from rfl, List.drop_eq_nil_of_le (by rw [J.len]; exact Nat.le_refl _)]
    refine .done ?_
    rw [rem_length, J.len]
    have h1 := J.sum
    have h2 := J.la
    have h3 := J.lf
    omega
  | d + 1, t, h => by
    have J := jst_ok hs hn h0 t (by omega)
    obtain ⟨J1, a, b, wa, wb, R', e, p, h1, h2, p2⟩ := jturn_ok hs hn J (by omega)
    have ih := jst_chain hs hn h0 d (t + 1) (by omega)
    have et : t + 1 + d = t + (d + 1) := by omega
    rw [et] at ih
    obtain ⟨l, el⟩ := jst_pre (n := n) (signs := signs) (t + 1) d
    rw [et] at el
    have e1 : (jst n signs (t + 1)).1 = (jst n signs t).1 ++ [(a, b, wa + wb)] := e
    have ed : (jst n signs (t + (d + 1))).1.drop t = (a, b, wa + wb) :: (jst n signs (t + (d + 1))).1.drop (t + 1) := by
      have hl : (jst n signs t).1.length = t := J.len
      rw [el, e1]
      have r1 : ((jst n signs t).1 ++ [(a, b, wa + wb)] ++ l).drop t = (a, b, wa + wb) :: l := by
        rw [List.append_assoc, List.drop_left' hl]
        rfl
      have r2 : ((jst n signs t).1 ++ [(a, b, wa + wb)] ++ l).drop (t + 1) = l := List.drop_left' (by simp [hl])
      rw [r1, r2]
    rw [ed]
    exact .join p h1 h2 (ih.perm p2)

/-! ### what the program's joining yields -/
/-- the counts with their signs, by count -/
structure Signs (counts : List Int) (signs : List (Int × Nat)) : Prop where
  ord : (signs.map (·.1)).Pairwise (· ≤ ·)
  perm : signs.Perm (counts.zipIdx)
def steps (signs : List (Int × Nat)) : List Step := (jst signs.length signs (signs.length - 1)).1
theorem zipIdx_nodup (l : List Int) : (l.zipIdx.map (·.2)).Nodup := by
  have : l.zipIdx.map (·.2) = List.range l.length := by
    simp [List.zipIdx_eq_zip_range', List.range_eq_range']
    rw [List.map_snd_zip]
    simp
  rw [this]
  exact List.nodup_range
theorem zipIdx_lt {l : List Int} {p : Int × Nat} (h : p ∈ l.zipIdx) : p.2 < l.length ∧ l[p.2]? = some p.1 := by
  obtain ⟨a, i⟩ := p
  have := List.mem_zipIdx_iff_getElem?.mp h
  exact ⟨(List.getElem?_eq_some_iff.mp this).1, this⟩
section
variable {counts : List Int} {signs : List (Int × Nat)}
theorem Signs.len (S : Signs counts signs) : signs.length = counts.length := by rw [S.perm.length_eq]; simp
theorem Signs.chain (S : Signs counts signs) (h0 : ∀ c ∈ counts, 0 ≤ c) (h2 : 1 ≤ counts.length) : Chain counts.length 0 (signs.map fun p => (p.2, p.1)) (steps signs) := by
  have hn := S.len
  have c := jst_chain (n := signs.length) S.ord rfl (fun p hp => by
    obtain ⟨_, e⟩ := zipIdx_lt (S.perm.mem_iff.mp hp)
    exact h0 _ (List.mem_of_getElem? e)) (signs.length - 1) 0 (by omega)
  rw [← hn]
  have e : rem signs.length signs (jst signs.length signs 0).1 (jst signs.length signs 0).2.1 (jst signs.length signs 0).2.2 = signs.map fun p => (p.2, p.1) := by
    unfold rem
    simp [jst]
  rw [e] at c
  simpa [steps] using c
theorem Signs.snd (S : Signs counts signs) : ((signs.map fun p => (p.2, p.1)).map (·.2)).Perm counts := by
  have e : (signs.map fun p => ((p.2, p.1) : Nat × Int)).map (·.2) = signs.map (·.1) := by simp
  rw [e]
  refine (S.perm.map (·.1)).trans ?_
  simp
theorem Signs.sum (S : Signs counts signs) (h0 : ∀ c ∈ counts, 0 ≤ c) (h2 : 1 ≤ counts.length) : ((steps signs).map (·.2.2)).sum = huff counts := by
  rw [(S.chain h0 h2).sum]
  exact huff_congr S.snd
theorem Signs.slen (S : Signs counts signs) (h0 : ∀ c ∈ counts, 0 ≤ c) (h2 : 1 ≤ counts.length) : (steps signs).length + 1 = counts.length := by
  have := (S.chain h0 h2).length
  rw [List.length_map, S.len] at this
  omega
/-- lengths that fit to the counts: a full code that costs the sum of the joins -/
structure Good (counts : List Int) (ls : List Nat) : Prop where
  len : ls.length = counts.length
  lo : ∀ l ∈ ls, 1 ≤ l
  hi : ∀ l ∈ ls, l < counts.length
  kraft : ∀ B, counts.length ≤ B + 1 → (ls.map fun l => 2 ^ (B - l)).sum = 2 ^ B
  cost : ((ls.zip counts).map fun p => p.2 * (p.1 : Int)).sum = huff counts
theorem Signs.good (S : Signs counts signs) (h0 : ∀ c ∈ counts, 0 ≤ c) (h2 : 2 ≤ counts.length) :
    Good counts ((List.range counts.length).map fun i => hv (hmap counts.length 0 (steps signs)) i) ∧ ∀ i, i < counts.length → ∃ v, hmap counts.length 0 (steps signs) i = some v := by
  have C := S.chain h0 (by omega)
  have nd : ((signs.map fun p => ((p.2, p.1) : Nat × Int)).map (·.1)).Nodup := by
    have e : (signs.map fun p => ((p.2, p.1) : Nat × Int)).map (·.1) = signs.map (·.2) := by simp
    rw [e, (S.perm.map (·.2)).nodup_iff]
    exact zipIdx_nodup counts
  have H := C.hts nd (fun x hx => by
    obtain ⟨p, hp, rfl⟩ := List.mem_map.mp hx
    have := (zipIdx_lt (S.perm.mem_iff.mp hp)).1
    show p.2 < counts.length + 0
    omega)
  have sl := S.slen h0 (by omega)
  have hne : steps signs ≠ [] := fun z => by rw [z] at sl; simp at sl; omega
  -- the nodes by place
  have P : (signs.map fun p => ((p.2, p.1) : Nat × Int)).Perm ((counts.zipIdx).map fun p => (p.2, p.1)) := S.perm.map _
  have H' := H.perm P
  generalize hmap counts.length 0 (steps signs) = hm at H' ⊢
  have idx : ∀ i, i < counts.length → ∃ c, ((i, c) : Nat × Int) ∈ (counts.zipIdx).map fun p => ((p.2, p.1) : Nat × Int) := fun i hi => by
    refine ⟨counts[i], List.mem_map.mpr ⟨(counts[i], i), ?_, rfl⟩⟩
    rw [List.mem_zipIdx_iff_getElem?]
    simp [hi]
  have snds : ((counts.zipIdx).map fun p => ((p.2, p.1) : Nat × Int)).map (·.1) = List.range counts.length := by
    refine List.ext_getElem (by simp) fun i h1 h2 => ?_
    simp
  refine ⟨⟨by simp, fun l hl => ?_, fun l hl => ?_, fun B hB => ?_, ?_⟩, fun i hi => ?_⟩
  · obtain ⟨i, hi, rfl⟩ := List.mem_map.mp hl
    obtain ⟨c, hc⟩ := idx i (List.mem_range.mp hi)
    obtain ⟨v, e, h1⟩ := H'.ge hne _ hc
    unfold hv
    rw [show hm i = some v from e]
    exact h1
  · obtain ⟨i, hi, rfl⟩ := List.mem_map.mp hl
    obtain ⟨c, hc⟩ := idx i (List.mem_range.mp hi)
    have := H'.le _ hc
    dsimp only at this
    omega
  · have k := H'.kraft B (by omega)
    rw [← k]
    congr 1
    rw [List.map_map, ← snds, List.map_map, List.map_map, List.map_map]
    rfl
  · have k := H'.cost
    rw [S.sum h0 (by omega)] at k
    rw [← k]
    congr 1
    refine List.ext_getElem (by simp) fun i h1 h2 => ?_
    simp
  · obtain ⟨c, hc⟩ := idx i hi
    obtain ⟨v, e, h1⟩ := H'.ge hne _ hc
    exact ⟨v, e⟩
end

/-! ### no full code costs less -/
abbrev Pr := List (Nat × Int)
def pcost (P : Pr) : Int := (P.map fun x => x.2 * (x.1 : Int)).sum
def pkraft (B : Nat) (P : Pr) : Nat := (P.map fun x => 2 ^ (B - x.1)).sum
theorem pcost_perm {P Q : Pr} (p : P.Perm Q) : pcost P = pcost Q := sum_perm (p.map _)
theorem pkraft_perm {B : Nat} {P Q : Pr} (p : P.Perm Q) : pkraft B P = pkraft B Q := nsum_perm (p.map _)
theorem pcost_cons (x : Nat × Int) (P : Pr) : pcost (x :: P) = x.2 * (x.1 : Int) + pcost P := by simp [pcost]
theorem pkraft_cons (B : Nat) (x : Nat × Int) (P : Pr) : pkraft B (x :: P) = 2 ^ (B - x.1) + pkraft B P := by simp [pkraft]
theorem perm_of_mem {α : Type} [DecidableEq α] {a : α} {l : List α} (h : a ∈ l) : ∃ r, l.Perm (a :: r) := ⟨l.erase a, List.perm_cons_erase h⟩
/-- some list has a greatest length -/
theorem max_len : ∀ {P : Pr}, P ≠ [] → ∃ x ∈ P, ∀ y ∈ P, y.1 ≤ x.1
  | [], h => absurd rfl h
  | [x], _ => ⟨x, List.mem_cons_self, fun y hy => by rw [List.mem_singleton.mp hy]; exact Nat.le_refl _⟩
  | x :: y :: r, _ => by
    obtain ⟨z, hz, h⟩ := max_len (P := y :: r) (by simp)
    by_cases c : z.1 ≤ x.1
    · refine ⟨x, List.mem_cons_self, fun w hw => ?_⟩
      rcases List.mem_cons.mp hw with e | hw
      · rw [e]; exact Nat.le_refl _
      · exact Nat.le_trans (h w hw) c
    · refine ⟨z, List.mem_cons_of_mem _ hz, fun w hw => ?_⟩
      rcases List.mem_cons.mp hw with e | hw
      · rw [e]; omega
      · exact h w hw
/-- where all lengths are below M, the sum is even -/
theorem even_kraft {M : Nat} : ∀ {P : Pr}, (∀ x ∈ P, x.1 < M) → pkraft M P % 2 = 0
  | [], _ => rfl
  | x :: r, h => by
    have ih := even_kraft (M := M) (P := r) fun y hy => h y (List.mem_cons_of_mem _ hy)
    have hx := h x List.mem_cons_self
    rw [pkraft_cons, show M - x.1 = (M - x.1 - 1) + 1 by omega, Nat.pow_succ]
    omega
theorem kraft_pos {B : Nat} : ∀ {P : Pr}, P ≠ [] → 0 < pkraft B P
  | [], h => absurd rfl h
  | x :: r, _ => by
    rw [pkraft_cons]
    have : 0 < 2 ^ (B - x.1) := Nat.pow_pos (by decide)
    omega
/-- give the count a the length M: the count that has it takes a's length -/
theorem give {M : Nat} {P : Pr} {a : Int} (ha : a ∈ P.map (·.2)) (hle : ∀ x ∈ P, a ≤ x.2) (hM : ∃ x ∈ P, x.1 = M) (hmax : ∀ x ∈ P, x.1 ≤ M) :
    ∃ Q : Pr, pcost ((M, a) :: Q) ≤ pcost P ∧ (∀ B, pkraft B ((M, a) :: Q) = pkraft B P) ∧ (((M, a) :: Q).map (·.2)).Perm (P.map (·.2)) ∧ ∀ x ∈ Q, x.1 ≤ M := by
  obtain ⟨⟨l, a'⟩, hx, e⟩ := List.mem_map.mp ha
  dsimp only at e
  subst e
  have hx0 := hx
  obtain ⟨P0, p0⟩ := perm_of_mem hx
  by_cases c : l = M
  · subst c
    exact ⟨P0, by rw [pcost_perm p0]; exact Int.le_refl _, fun B => (pkraft_perm p0).symm, (p0.map _).symm, fun x hx => hmax x (p0.mem_iff.mpr (List.mem_cons_of_mem _ hx))⟩
  · obtain ⟨⟨m, b⟩, hy, e⟩ := hM
    dsimp only at e
    subst e
    have hy0 : ((m, b) : Nat × Int) ∈ P0 := by
      rcases List.mem_cons.mp (p0.mem_iff.mp hy) with e | h
      · exact absurd (congrArg Prod.fst e).symm c
      · exact h
    obtain ⟨P1, p1⟩ := perm_of_mem hy0
    have p2 : P.Perm ((l, a') :: (m, b) :: P1) := p0.trans (p1.cons _)
    refine ⟨(l, b) :: P1, ?_, fun B => ?_, ?_, fun x hx => ?_⟩
    · rw [pcost_perm p2]
      simp only [pcost_cons]
      have h1 := hle _ hy
      have h2 := hmax _ hx
      dsimp only at h1 h2
      have h3 : 0 ≤ (b - a') * ((m : Int) - (l : Int)) := Int.mul_nonneg (by omega) (by omega)
      rw [Int.sub_mul, Int.mul_sub, Int.mul_sub] at h3
      omega
    · rw [pkraft_perm p2]
      simp only [pkraft_cons]
      omega
    · refine List.Perm.trans ?_ (p2.map _).symm
      simp only [List.map_cons]
      exact .refl _
    · rcases List.mem_cons.mp hx with e | hx
      · rw [e]; exact hmax (l, a') hx0
      · exact hmax _ (p2.mem_iff.mpr (List.mem_cons_of_mem _ (List.mem_cons_of_mem _ hx)))
theorem lower : ∀ (N : Nat) (P : Pr), P.length = N → 1 ≤ N → (∀ x ∈ P, 0 ≤ x.2) → (∀ B, (∀ x ∈ P, x.1 ≤ B) → pkraft B P = 2 ^ B) → huff (P.map (·.2)) ≤ pcost P
  | 0, _, _, h, _, _ => absurd h (by decide)
  | 1, P, hl, _, h0, _ => by
    obtain ⟨x, rfl⟩ := List.length_eq_one_iff.mp hl
    have : 0 ≤ x.2 * (x.1 : Int) := Int.mul_nonneg (h0 x List.mem_cons_self) (Int.natCast_nonneg _)
    rw [pcost_cons]
    simp [huff, hsum, isort, ins, pcost]
    exact this
  | N + 2, P, hl, _, h0, hk => by
    have hne : P ≠ [] := fun z => by rw [z] at hl; cases hl
    obtain ⟨xm, hxm, hmx⟩ := max_len hne
    -- the two least counts
    obtain ⟨a, b, r, es⟩ : ∃ a b r, isort (P.map (·.2)) = a :: b :: r := by
      have := isort_length (P.map (·.2))
      rw [List.length_map, hl] at this
      match h : isort (P.map (·.2)) with
      | [] => rw [h] at this; simp at this
      | [x] => rw [h] at this; simp at this
      | a :: b :: r => exact ⟨a, b, r, h⟩
    have sp : (a :: b :: r).Perm (P.map (·.2)) := by rw [← es]; exact isort_perm _
    have so : (a :: b :: r).Pairwise (· ≤ ·) := by rw [← es]; exact isort_sorted _
    have sa := (List.pairwise_cons.mp so).1
    have sb := (List.pairwise_cons.mp (List.pairwise_cons.mp so).2).1
    have aLe : ∀ x ∈ P, a ≤ x.2 := fun x hx => by
      rcases List.mem_cons.mp (sp.mem_iff.mpr (List.mem_map.mpr ⟨x, hx, rfl⟩)) with e | h
      · exact Int.le_of_eq e.symm
      · exact sa _ h
    obtain ⟨Q1, c1, k1, m1, x1⟩ := give (M := xm.1) (a := a) (sp.mem_iff.mp List.mem_cons_self) aLe ⟨xm, hxm, rfl⟩ hmx
    have mQ1 : (Q1.map (·.2)).Perm (b :: r) := List.Perm.cons_inv ((by simpa using m1 : (a :: Q1.map (·.2)).Perm (P.map (·.2))).trans sp.symm)
    have hM1 : 1 ≤ xm.1 := by
      -- two words at least: none is of no bit
      have kk := hk xm.1 hmx
      rcases Nat.eq_zero_or_pos xm.1 with z | z
      · have k2 := k1 0
        rw [z] at kk k2
        rw [pkraft_cons] at k2
        have : 0 < pkraft 0 Q1 := kraft_pos (fun z => by
          have := mQ1.length_eq
          rw [z] at this
          simp at this)
        have e1 : 2 ^ (0 - 0) = 1 := rfl
        dsimp only at k2
        rw [kk] at k2
        simp at k2
        omega
      · exact z
    have hM2 : ∃ x ∈ Q1, x.1 = xm.1 := by
      refine Classical.byContradiction fun hno => ?_
      have lt : ∀ x ∈ Q1, x.1 < xm.1 := fun x hx => Nat.lt_of_le_of_ne (x1 x hx) fun e => hno ⟨x, hx, e⟩
      have ev := even_kraft lt
      have kk := hk xm.1 hmx
      rw [← k1 xm.1, pkraft_cons] at kk
      dsimp only at kk
      rw [Nat.sub_self, show xm.1 = (xm.1 - 1) + 1 by omega, Nat.pow_succ] at kk
      rw [show xm.1 - 1 + 1 = xm.1 by omega] at kk
      omega
    have bLe : ∀ x ∈ Q1, b ≤ x.2 := fun x hx => by
      rcases List.mem_cons.mp (mQ1.mem_iff.mp (List.mem_map.mpr ⟨x, hx, rfl⟩)) with e | h
      · exact Int.le_of_eq e.symm
      · exact sb _ h
    obtain ⟨Q2, c2, k2, m2, x2⟩ := give (M := xm.1) (a := b) (mQ1.mem_iff.mpr List.mem_cons_self) bLe hM2 x1
    have mQ2 : (Q2.map (·.2)).Perm r := List.Perm.cons_inv ((by simpa using m2 : (b :: Q2.map (·.2)).Perm (Q1.map (·.2))).trans mQ1)
    -- the joined one
    have lQ2 : Q2.length = N := by
      have e1 := mQ2.length_eq
      have e2 := sp.length_eq
      simp at e1 e2
      omega
    have ih := lower (N + 1) ((xm.1 - 1, a + b) :: Q2) (by simp [lQ2]) (by omega) (fun x hx => ?_) (fun B hB => ?_)
    · rw [pcost_cons] at c1 c2
      rw [pcost_cons] at ih
      have e1 : (a + b) * ((xm.1 - 1 : Nat) : Int) = a * (xm.1 : Int) + b * (xm.1 : Int) - a - b := by
        rw [Int.natCast_sub hM1, Int.mul_sub, Int.add_mul]
        simp
        omega
      have e2 : huff (P.map (·.2)) = (a + b) + huff ((((xm.1 - 1, a + b) :: Q2 : Pr)).map (·.2)) := by
        unfold huff
        have l1 : (P.map (·.2)).length = (((((xm.1 - 1, a + b) :: Q2 : Pr)).map (·.2)).length) + 1 := by simp [hl, lQ2]
        rw [es, l1]
        show (a + b) + hsum _ (ins (a + b) r) = _
        congr 2
        refine isort_of ?_ (ins_sorted _ _ (List.pairwise_cons.mp (List.pairwise_cons.mp so).2).2)
        exact (ins_perm _ _).trans (mQ2.symm.cons _)
      rw [e2]
      dsimp only at c1 c2 ih
      rw [e1] at ih
      omega
    · rcases List.mem_cons.mp hx with e | hx
      · rw [e]
        have ha0 : 0 ≤ a := by
          obtain ⟨y, hy, e⟩ := List.mem_map.mp (sp.mem_iff.mp (List.mem_cons_self (a := a)))
          rw [← e]; exact h0 y hy
        have := sa b List.mem_cons_self
        show 0 ≤ a + b
        omega
      · have : x.2 ∈ a :: b :: r := List.mem_cons_of_mem _ (List.mem_cons_of_mem _ (mQ2.mem_iff.mp (List.mem_map.mpr ⟨x, hx, rfl⟩)))
        obtain ⟨y, hy, e⟩ := List.mem_map.mp (sp.mem_iff.mp this)
        rw [← e]; exact h0 y hy
    · -- at B: up to B + 1, then halved
      have hB1 : xm.1 - 1 ≤ B := hB _ List.mem_cons_self
      have kk := hk (B + 1) (fun x hx => Nat.le_trans (hmx x hx) (by omega))
      rw [← k1, pkraft_cons, ← k2, pkraft_cons] at kk
      dsimp only at kk
      have dbl : ∀ {Q : Pr}, (∀ x ∈ Q, x.1 ≤ B) → pkraft (B + 1) Q = 2 * pkraft B Q := by
        intro Q
        induction Q with
        | nil => intro _; rfl
        | cons x r ih =>
          intro h
          rw [pkraft_cons, pkraft_cons, ih fun y hy => h y (List.mem_cons_of_mem _ hy), show B + 1 - x.1 = (B - x.1) + 1 by have := h x List.mem_cons_self; omega, Nat.pow_succ]
          omega
      rw [dbl fun x hx => hB x (List.mem_cons_of_mem _ hx)] at kk
      rw [pkraft_cons]
      dsimp only
      have e : 2 ^ (B + 1 - xm.1) = 2 ^ (B - (xm.1 - 1)) := by congr 1; omega
      rw [e, Nat.pow_succ] at kk
      omega
/-- a full code's lengths -/
def Full (ls : List Nat) : Prop := ∀ B, (∀ l ∈ ls, l ≤ B) → (ls.map fun l => 2 ^ (B - l)).sum = 2 ^ B
theorem lower_zip {ls : List Nat} {counts : List Int} (h : ls.length = counts.length) (h1 : 1 ≤ counts.length) (h0 : ∀ c ∈ counts, 0 ≤ c) (hf : Full ls) : huff counts ≤ ((ls.zip counts).map fun p => p.2 * (p.1 : Int)).sum := by
  have e : (ls.zip counts).map (·.2) = counts := List.map_snd_zip (by omega)
  have z := lower (ls.zip counts).length (ls.zip counts) rfl (by simp; omega) (fun x hx => h0 _ (by rw [← e]; exact List.mem_map.mpr ⟨x, hx, rfl⟩)) (fun B hB => by
    have e1 : (ls.zip counts).map (·.1) = ls := List.map_fst_zip (by omega)
    have hB' : ∀ l ∈ ls, l ≤ B := fun l hl => by
      rw [← e1] at hl
      obtain ⟨x, hx, e⟩ := List.mem_map.mp hl
      rw [← e]; exact hB x hx
    rw [← hf B hB']
    unfold pkraft
    rw [← e1, List.map_map]
    simp [List.map_fst_zip, h]
    rfl)
  rw [e] at z
  exact z
theorem Good.full {counts : List Int} {ls : List Nat} (g : Good counts ls) (h : 1 ≤ counts.length) : Full ls := by
  intro B hB
  -- from a B that is great enough, down
  have k := g.kraft (B + counts.length) (by omega)
  have : ∀ (m : List Nat), (∀ l ∈ m, l ≤ B) → (m.map fun l => 2 ^ (B + counts.length - l)).sum = (m.map fun l => 2 ^ (B - l)).sum * 2 ^ counts.length := by
    intro m
    induction m with
    | nil => intro _; simp
    | cons x r ih =>
      intro hm
      simp only [List.map_cons, List.sum_cons]
      rw [ih fun y hy => hm y (List.mem_cons_of_mem _ hy), Nat.add_mul, show B + counts.length - x = (B - x) + counts.length by have := hm x List.mem_cons_self; omega, Nat.pow_add]
  rw [this ls hB, Nat.pow_add] at k
  exact Nat.eq_of_mul_eq_mul_right (Nat.pow_pos (by decide)) k

/-! ### all lengths of full codes of a few signs, as the law makes them -/
abbrev Row := List Nat
def addR (acc : List Row) (r : Row) : List Row := if r ∈ acc then acc else acc ++ [r]
/-- another leaf l behind half's place o -/
def rowO (half : Row) (l : Nat) (o : Nat) : Row := half.take o ++ [l] ++ half.drop o
def goO (half : Row) (l : Nat) (k : Nat) (acc : List Row) : Nat → List Row
  | 0 => acc
  | j + 1 => addR (goO half l k acc j) (rowO half l (k + j))
def goOne (rest : Row) (l : Nat) (acc : List Row) : Nat → List Row
  | 0 => acc
  | j + 1 => goO (rowO rest l j) l (j + 1) (goOne rest l acc j) (rest.length + 1 - j)
def restOf (ls : Row) (a : Nat) : Row := ls.take a ++ ls.drop (a + 1)
def goAt (ls : Row) (acc : List Row) : Nat → List Row
  | 0 => acc
  | j + 1 => goOne (restOf ls j) (ls.getD j 0 + 1) (goAt ls acc j) (ls.length - 1 + 1)
def goRows (found : List Row) : Nat → List Row
  | 0 => []
  | j + 1 => goAt (found.getD j []) (goRows found j) (found.getD j []).length
def rowsAt : Nat → List Row
  | 0 => [[1, 1]]
  | j + 1 => goRows (rowsAt j) (rowsAt j).length
/-- all rows of so many signs -/
def rows (n : Nat) : List Row := rowsAt (n - 2)
/-- every list of n numbers from 1 to 4 -/
def boxes : Nat → List Row
  | 0 => [[]]
  | n + 1 => (boxes n).flatMap fun r => [1 :: r, 2 :: r, 3 :: r, 4 :: r]
theorem mem_boxes : ∀ {n : Nat} {r : Row}, r.length = n → (∀ l ∈ r, 1 ≤ l ∧ l ≤ 4) → r ∈ boxes n
  | 0, [], _, _ => by simp [boxes]
  | 0, _ :: _, h, _ => by cases h
  | n + 1, [], h, _ => by cases h
  | n + 1, x :: r, h, hb => by
    have ih := mem_boxes (n := n) (r := r) (by simpa using h) fun l hl => hb l (List.mem_cons_of_mem _ hl)
    have hx := hb x List.mem_cons_self
    refine List.mem_flatMap.mpr ⟨r, ih, ?_⟩
    have : x = 1 ∨ x = 2 ∨ x = 3 ∨ x = 4 := by omega
    rcases this with e | e | e | e <;> subst e <;> simp
def rowGood (n : Nat) (r : Row) : Bool := r.length == n && (r.all fun l => 1 ≤ l && l < n && l ≤ 4) && ((r.map fun l => 2 ^ (4 - l)).sum == 2 ^ 4)
def rowsOk (n : Nat) : Bool := ((rows n).all (rowGood n)) && ((boxes n).all fun r => !((r.map fun l => 2 ^ (4 - l)).sum == 2 ^ 4) || (rows n).contains r) && (1 ≤ (rows n).length && (rows n).length ≤ 75)
theorem rowsOk2 : rowsOk 2 = true := by decide +kernel
theorem rowsOk3 : rowsOk 3 = true := by decide +kernel
theorem rowsOk4 : rowsOk 4 = true := by decide +kernel
theorem rowsOk5 : rowsOk 5 = true := by decide +kernel
theorem rowsOk_of {n : Nat} (h2 : 2 ≤ n) (h5 : n ≤ 5) : rowsOk n = true := by
  have : n = 2 ∨ n = 3 ∨ n = 4 ∨ n = 5 := by omega
  rcases this with e | e | e | e <;> subst e
  · exact rowsOk2
  · exact rowsOk3
  · exact rowsOk4
  · exact rowsOk5
structure RowIs (n : Nat) (r : Row) : Prop where
  len : r.length = n
  lo : ∀ l ∈ r, 1 ≤ l
  hi : ∀ l ∈ r, l < n
  full : Full r
theorem full_of4 {r : Row} (h4 : ∀ l ∈ r, l ≤ 4) (h : (r.map fun l => 2 ^ (4 - l)).sum = 2 ^ 4) : Full r := by
  intro B hB
  by_cases c : B ≤ 4
  · have : ∀ (m : List Nat), (∀ l ∈ m, l ≤ B) → (m.map fun l => 2 ^ (4 - l)).sum = (m.map fun l => 2 ^ (B - l)).sum * 2 ^ (4 - B) := by
      intro m
      induction m with
      | nil => intro _; simp
      | cons x t ih =>
        intro hm
        simp only [List.map_cons, List.sum_cons]
        rw [ih fun y hy => hm y (List.mem_cons_of_mem _ hy), Nat.add_mul, ← Nat.pow_add, show B - x + (4 - B) = 4 - x by have := hm x List.mem_cons_self; omega]
    rw [this r hB, show (2 : Nat) ^ 4 = 2 ^ B * 2 ^ (4 - B) by rw [← Nat.pow_add]; congr 1; omega] at h
    exact Nat.eq_of_mul_eq_mul_right (Nat.pow_pos (by decide)) h
  · have : ∀ (m : List Nat), (∀ l ∈ m, l ≤ 4) → (m.map fun l => 2 ^ (B - l)).sum = (m.map fun l => 2 ^ (4 - l)).sum * 2 ^ (B - 4) := by
      intro m
      induction m with
      | nil => intro _; simp
      | cons x t ih =>
        intro hm
        simp only [List.map_cons, List.sum_cons]
        rw [ih fun y hy => hm y (List.mem_cons_of_mem _ hy), Nat.add_mul, ← Nat.pow_add, show 4 - x + (B - 4) = B - x by have := hm x List.mem_cons_self; omega]
    rw [this r h4, h, ← Nat.pow_add]
    congr 1
    omega
theorem rows_is {n : Nat} {r : Row} (h2 : 2 ≤ n) (h5 : n ≤ 5) (h : r ∈ rows n) : RowIs n r := by
  have k := rowsOk_of h2 h5
  unfold rowsOk at k
  simp only [Bool.and_eq_true] at k
  have g := List.all_eq_true.mp k.1.1 r h
  unfold rowGood at g
  simp only [Bool.and_eq_true, beq_iff_eq, List.all_eq_true, decide_eq_true_eq] at g
  exact ⟨g.1.1, fun l hl => (g.1.2 l hl).1.1, fun l hl => (g.1.2 l hl).1.2, full_of4 (fun l hl => (g.1.2 l hl).2) g.2⟩
theorem rows_len {n : Nat} (h2 : 2 ≤ n) (h5 : n ≤ 5) : 1 ≤ (rows n).length ∧ (rows n).length ≤ 75 := by
  have k := rowsOk_of h2 h5
  unfold rowsOk at k
  simp only [Bool.and_eq_true, decide_eq_true_eq] at k
  exact k.2
theorem rows_all {n : Nat} {r : Row} (h2 : 2 ≤ n) (h5 : n ≤ 5) (hl : r.length = n) (lo : ∀ l ∈ r, 1 ≤ l) (hi : ∀ l ∈ r, l < n) (hf : Full r) : r ∈ rows n := by
  have k := rowsOk_of h2 h5
  unfold rowsOk at k
  simp only [Bool.and_eq_true] at k
  have h4 : ∀ l ∈ r, l ≤ 4 := fun l h => by have := hi l h; omega
  have g := List.all_eq_true.mp k.1.2 r (mem_boxes hl fun l h => ⟨lo l h, h4 l h⟩)
  have f := hf 4 h4
  rw [f] at g
  simpa using g
/-- the least cost is the least over all rows -/
def cst (ls : List Nat) (counts : List Int) : Int := ((ls.zip counts).map fun p => p.2 * (p.1 : Int)).sum
theorem least_rows {n : Nat} {counts : List Int} (h2 : 2 ≤ n) (h5 : n ≤ 5) (hl : counts.length = n) (h0 : ∀ c ∈ counts, 0 ≤ c) {rs : List Row} (p : rs.Perm (rows n)) {m : Int} (hm : m ∈ rs.map fun r => cst r counts)
    (hle : ∀ y ∈ rs.map fun r => cst r counts, m ≤ y) {ls : List Nat} (g : Good counts ls) : m = huff counts := by
  refine Int.le_antisymm ?_ ?_
  · have : ls ∈ rows n := rows_all h2 h5 (by rw [g.len, hl]) g.lo (fun l h => by rw [← hl]; exact g.hi l h) (g.full (by omega))
    have := hle (cst ls counts) (List.mem_map.mpr ⟨ls, p.mem_iff.mpr this, rfl⟩)
    rw [show cst ls counts = huff counts from g.cost] at this
    exact this
  · obtain ⟨r, hr, e⟩ := List.mem_map.mp hm
    have R := rows_is h2 h5 (p.mem_iff.mp hr)
    rw [← e]
    exact lower_zip (by rw [R.len, hl]) (by omega) h0 R.full
end WvM

set_option Elab.async false
set_option linter.all false
set_option maxRecDepth 100000
set_option maxHeartbeats 4000000
namespace Wv
open PySem PySem.Spec PyProof.Rows L2
/-! ### the text by places -/
def top (i : Nat) : Stmt := PySem.Challenge.pw_wordvault_k34_whole_least_costs.main.body.getD i (.Pass ⟨0, 0, 0, 0⟩)
abbrev sIsCount : Stmt := top 12
abbrev sTwoPower : Stmt := top 13
abbrev sCheckSigns : Stmt := top 14
abbrev sCheckCounts : Stmt := top 15
abbrev sBitsOf : Stmt := top 16
abbrev sCanonical : Stmt := top 17
abbrev sCodeInit : Stmt := inClass (top 21) 0
abbrev sCodeEq : Stmt := inClass (top 21) 1
abbrev sCheckPair : Stmt := top 22
abbrev sCostBy : Stmt := top 23
abbrev sCost : Stmt := top 24
abbrev sJoined : Stmt := top 25
abbrev sLeastOf : Stmt := top 26
abbrev sLeastCost : Stmt := top 27
abbrev sLengthsFor : Stmt := top 28
abbrev sLeastCode : Stmt := top 29
abbrev sIsLeastFor : Stmt := top 30
abbrev sIsLeast : Stmt := top 31
abbrev sPenOf : Stmt := top 33
abbrev sDraw : Stmt := top 34
abbrev sPick : Stmt := top 35
abbrev sShuffled : Stmt := top 36
abbrev sSomeCode : Stmt := top 37
abbrev sLCost : Stmt := top 38
abbrev sSomeCounts : Stmt := top 39
abbrev sLLeast : Stmt := top 40
abbrev sAllLengths : Stmt := top 41
abbrev sMet : Stmt := top 42
abbrev sSmall : Stmt := top 43
abbrev sMany : Stmt := top 44
abbrev sLaw : Stmt := top 45
/-- a def of the top as it stands -/
abbrev FnP (K : PySem.W.Frag) (x : Str) (st : Stmt) (f : Addr) (fd : FuncData) : Prop := FunD K x x (defArgs st) (defBody st) (defScope st) [] [] f fd
/-! ### heaps -/
theorem same_new {H : Hp} {p : Addr} {o : HO} (h : H p = none) : Same H (upd H p o) := fun b u e => by rw [upd_ne (ne_of_none e h)]; exact e
theorem same_new' {H H1 : Hp} {p : Addr} {o : HO} (s : Same H H1) (h : H1 p = none) : Same H (upd H1 p o) := Same.trans s (same_new h)
/-- a new object that changes -/
theorem same_mut {H H1 : Hp} {p : Addr} {o : HO} (s : Same H H1) (h : H p = none) : Same H (upd H1 p o) := fun b u e => by rw [upd_ne (ne_of_none e h)]; exact s b u e
theorem same_tup {K : PySem.W.Frag} {H H' : Hp} {a : Addr} {xs : List V} (e : Same H H') (h : SqT K H a xs) : SqT K H' a xs := by
  rcases h with (h | ⟨o, h⟩) | h
  · exact .inl (.inl (e _ _ h))
  · exact .inl (.inr ⟨o, e _ _ h⟩)
  · exact .inr h
/-- all that was tracked is as it was, but p -/
def Keep (p : Addr) (H H' : Hp) : Prop := ∀ b o, b ≠ p → H b = some o → H' b = some o
theorem Keep.refl (p : Addr) (H : Hp) : Keep p H H := fun _ _ _ e => e
theorem Keep.trans {p : Addr} {H H1 H2 : Hp} (a : Keep p H H1) (b : Keep p H1 H2) : Keep p H H2 := fun c o n e => b c o n (a c o n e)
theorem Keep.of {p : Addr} {H H' : Hp} (s : Same H H') : Keep p H H' := fun b o _ e => s b o e
theorem Keep.at {p : Addr} {H : Hp} {o : HO} : Keep p H (upd H p o) := fun b u n e => by rw [upd_ne n]; exact e
theorem Keep.mut {p q : Addr} {H H1 : Hp} {o : HO} (s : Keep p H H1) (h : H q = none) : Keep p H (upd H1 q o) := fun b u n e => by rw [upd_ne (ne_of_none e h)]; exact s b u n e
theorem Keep.new {p q : Addr} {H H1 : Hp} {o : HO} (s : Keep p H H1) (h : H1 q = none) : Keep p H (upd H1 q o) := Keep.trans s (Keep.of (same_new h))
/-- a list, a tuple that is read, away from p -/
theorem Keep.seqL {p a : Addr} {K : PySem.W.Frag} {H H' : Hp} {xs : List V} (e : Keep p H H') (n : a ≠ p) (h : SqL K H a xs) : SqL K H' a xs := by
  rcases h with (h | ⟨o, h⟩) | h
  · exact .inl (.inl (e _ _ n h))
  · exact .inl (.inr ⟨o, e _ _ n h⟩)
  · exact .inr h
/-! ### the pen: the law's dict of draws -/
abbrev kCells : Key := Sum.inr "cells"
abbrev kNext : Key := Sum.inr "next"
abbrev kLeft : Key := Sum.inr "left"
def penKv (c : Addr) (i l : Int) : List (Key × V) := [(kCells, .ref c), (kNext, .int i), (kLeft, .int l)]
/-- the pen at p, its cells the list at c; at most n draws were made -/
structure Pen (K : PySem.W.Frag) (p c : Addr) (cs : List Int) (n : Nat) (H : Hp) : Prop where
  at_ : ∃ i l : Int, H p = some (.dK (penKv c i l)) ∧ 0 ≤ i ∧ i ≤ (n : Int) ∧ 0 ≤ l
  cells : SqL K H c (cs.map V.int)
  few : cs.length ≤ 63
  cp : c ≠ p
theorem Pen.mono {K : PySem.W.Frag} {p c : Addr} {cs : List Int} {n m : Nat} {H : Hp} (P : Pen K p c cs n H) (h : n ≤ m) : Pen K p c cs m H := by
  obtain ⟨⟨i, l, h1, h2, h3, h4⟩, h5, h6, h7⟩ := P
  exact ⟨⟨i, l, h1, h2, by omega, h4⟩, h5, h6, h7⟩
theorem Pen.same {K : PySem.W.Frag} {p c : Addr} {cs : List Int} {n : Nat} {H H' : Hp} (P : Pen K p c cs n H) (s : Same H H') : Pen K p c cs n H' := by
  obtain ⟨⟨i, l, h1, h2⟩, h5, h6, h7⟩ := P
  exact ⟨⟨i, l, s _ _ h1, h2⟩, s.seq h5, h6, h7⟩
/-- away from a list, a tuple, an instance -/
theorem Pen.ne {K : PySem.W.Frag} {p c q : Addr} {cs : List Int} {n : Nat} {H : Hp} {o : HO} (P : Pen K p c cs n H) (h : H q = some o) (ho : ∀ kvs, o ≠ .dK kvs) : q ≠ p := fun e => by
  obtain ⟨i, l, h1, _⟩ := P.at_
  rw [e, h1] at h
  exact ho _ (Option.some.inj h).symm
/-- where something else was laid -/
theorem Pen.put {K : PySem.W.Frag} {p c q : Addr} {cs : List Int} {n : Nat} {H : Hp} {o : HO} (P : Pen K p c cs n H) (hp : q ≠ p) (hc : H q = none ∨ (∃ u, H q = some u ∧ ∃ v, H c = some v ∧ q ≠ c) ∨ q ≠ c) : Pen K p c cs n (L2.upd H q o) := by
  obtain ⟨⟨i, l, h1, h2⟩, h5, h6, h7⟩ := P
  refine ⟨⟨i, l, by rw [upd_ne hp.symm]; exact h1, h2⟩, ?_, h6, h7⟩
  rcases h5 with (h5 | ⟨u, h5⟩) | h5
  · have ne : c ≠ q := by
      rcases hc with hc | ⟨_, _, _, _, hc⟩ | hc
      · exact ne_of_none h5 hc
      · exact hc.symm
      · exact hc.symm
    exact .inl (.inl (by rw [upd_ne ne]; exact h5))
  · have ne : c ≠ q := by
      rcases hc with hc | ⟨_, _, _, _, hc⟩ | hc
      · exact ne_of_none h5 hc
      · exact hc.symm
      · exact hc.symm
    exact .inl (.inr ⟨u, by rw [upd_ne ne]; exact h5⟩)
  · exact .inr h5
/-! ### ints, lengths, rows as values -/
abbrev iv (ns : List Int) : List V := ns.map V.int
abbrev lv (ls : List Nat) : List V := ls.map fun (l : Nat) => V.int (l : Int)
theorem get_map {α β : Type} {f : α → β} {l : List α} {i : Nat} {y : β} (h : (l.map f)[i]? = some y) : ∃ x, l[i]? = some x ∧ y = f x := by
  rw [List.getElem?_map] at h
  cases e : l[i]? with
  | none => rw [e] at h; cases h
  | some x => rw [e] at h; exact ⟨x, rfl, (Option.some.inj h).symm⟩
theorem lt_of_get {α : Type} {l : List α} {i : Nat} {x : α} (h : l[i]? = some x) : i < l.length := (List.getElem?_eq_some_iff.mp h).1
theorem take_snoc {α : Type} {l : List α} {i : Nat} {x : α} (h : l[i]? = some x) : l.take (i + 1) = l.take i ++ [x] := by
  rw [List.take_succ, h]
  rfl
theorem small5 {n : Nat} (h : n ≤ 100000) : n ≤ sizeLine := Evl.sz_of h
theorem small5l {n : Nat} (h : n < 100000) : n < sizeLine := Evl.sz_lt h
end Wv

set_option Elab.async false
set_option linter.all false
set_option maxRecDepth 100000
set_option maxHeartbeats 4000000
namespace Wv
open PySem PySem.Spec PyProof.Rows L2
/-- what the walks ask of the module's names -/
structure Bl (mg : Str → Option Value) : Prop where
  len : mg "len" = none
  range : mg "range" = none
  enumerate : mg "enumerate" = none
  sorted : mg "sorted" = none
  sum : mg "sum" = none
  min : mg "min" = none
  max : mg "max" = none
  zip : mg "zip" = none
  list : mg "list" = none
  tuple : mg "tuple" = none
  int : mg "int" = none
  bool : mg "bool" = none
  abs : mg "abs" = none
  repr : mg "repr" = none
  isinstance : mg "isinstance" = none
  super : mg "super" = none
section
variable {P : Program} {w : World} {K : PySem.W.Frag} {mg : Str → Option Value} {base : Heap}
/-! ### is_count -/
/-- what may stand among counts -/
inductive Plain (H : Hp) : V → Prop
  | int (i : Int) : Plain H (.int i)
  | non : Plain H .non
  | bl (b : Bool) : Plain H (.bl b)
  | str (x : Str) : Plain H (.str x)
  | lst {a : Addr} {xs : List V} (h : H a = some (.lst xs)) : Plain H (.ref a)
def cntV : V → Bool
  | .int i => decide (0 ≤ i)
  | _ => false
def spIsCount : Sp := fun vs H Q _ => ∃ x, vs = [x] ∧ Plain H x ∧ Q (.bl (cntV x)) H
theorem scIsCount : FnScope ["value"] ["value"] (defScope sIsCount) := ⟨rfl, rfl, rfl, by decide +kernel, rfl, by decide +kernel, by decide +kernel⟩
theorem ok_isCount {f : Addr} {fd : FuncData} (F : FnP K "is_count" sIsCount f fd) (T : Bl mg) : FnOk P w K mg base CX0 1 f fd ["value"] spIsCount := by
  refine F.ok scIsCount (fun vs H Q E h => ?_) (fun cdv A outer s H vs Q E hr h => ?_)
  · obtain ⟨x, rfl, _⟩ := h
    rfl
  · obtain ⟨x, rfl, hp, k⟩ := h
    refine ⟨_, PSs.nox (pss_one (ps_ret (pe_and
      (pe_callB call_isi (by rfl) T.isinstance (by decide +kernel) (pa_cons (pv 0) (pa_cons (pe_bltn (v := .ty "int") (by rfl) T.int (by decide +kernel) rfl) pa_nil)))
      (pe_and (pe_not (pe_callB call_isi (by rfl) T.isinstance (by decide +kernel) (pa_cons (pv 0) (pa_cons (pe_bltn (v := .ty "bool") (by rfl) T.bool (by decide +kernel) rfl) pa_nil))))
        (pe_one (pe_cmpR op_ge (pv 0) pe_int (nomark _))))))), ?_⟩
    cases hp with
    | int i =>
      refine ⟨_, rfl, _, _, _, _, true, rfl, .ty "int", .base (.int i), kit_ty (by decide +kernel), true, rfl, iteT ?_⟩
      refine ⟨_, rfl, _, _, _, _, false, rfl, .ty "bool", .base (.int i), kit_ty (by decide +kernel), false, rfl, true, rfl, iteT ?_⟩
      exact ⟨_, rfl, _, _, rfl, rfl, k⟩
    | non => exact ⟨_, rfl, _, _, _, _, false, rfl, .ty "int", .base .non, kit_ty (by decide +kernel), false, rfl, iteF k⟩
    | bl b =>
      refine ⟨_, rfl, _, _, _, _, true, rfl, .ty "int", .base (.bl b), kit_ty (by decide +kernel), true, rfl, iteT ?_⟩
      exact ⟨_, rfl, _, _, _, _, true, rfl, .ty "bool", .base (.bl b), kit_ty (by decide +kernel), true, rfl, false, rfl, iteF k⟩
    | str x => exact ⟨_, rfl, _, _, _, _, false, rfl, .ty "int", .base (.str x), kit_ty (by decide +kernel), false, rfl, iteF k⟩
    | lst h => exact ⟨_, rfl, _, _, _, _, false, rfl, .ty "int", .base (.lst h), kit_ty (by decide +kernel), false, rfl, iteF k⟩
/-! ### two_power -/
def spTwoPower : Sp := fun vs H Q _ => ∃ m : Nat, vs = [.int m] ∧ m ≤ 63 ∧ ∀ H', Same H H' → Q (.int ((2 ^ m : Nat) : Int)) H'
theorem scTwoPower : FnScope ["many", "found", "base"] ["many"] (defScope sTwoPower) := ⟨rfl, rfl, rfl, by decide +kernel, rfl, by decide +kernel, by decide +kernel⟩
theorem pow_step {f b k m : Nat} (h : f * b ^ k = 2 ^ m) (hk : 0 < k) : (k % 2 = 1 → (f * b) * (b * b) ^ (k / 2) = 2 ^ m) ∧ (k % 2 ≠ 1 → f * (b * b) ^ (k / 2) = 2 ^ m) := by
  have e : (b * b) ^ (k / 2) = b ^ (2 * (k / 2)) := by rw [Nat.pow_mul, Nat.pow_two]
  refine ⟨fun h1 => ?_, fun h1 => ?_⟩
  · have e2 : k = 2 * (k / 2) + 1 := by omega
    rw [e, ← h]
    conv => rhs; rw [e2, Nat.pow_succ]
    rw [Nat.mul_assoc, Nat.mul_comm b]
  · have e2 : k = 2 * (k / 2) := by omega
    rw [e, ← h]
    conv => rhs; rw [e2]
theorem pow_small {f b k m : Nat} (h : f * b ^ k = 2 ^ m) (hk : 0 < k) (hm : m ≤ 63) : f ≤ 2 ^ 63 ∧ b ≤ 2 ^ 63 := by
  have hb : 0 < f * b ^ k := by rw [h]; exact Nat.pow_pos (by decide)
  have h2 : 2 ^ m ≤ 2 ^ 63 := Nat.pow_le_pow_right (by decide) hm
  have hf : 0 < f := Nat.pos_of_mul_pos_right hb
  have hbk : 0 < b ^ k := Nat.pos_of_mul_pos_left hb
  refine ⟨?_, ?_⟩
  · have := Nat.le_mul_of_pos_right f hbk
    omega
  · have h3 := Nat.le_mul_of_pos_left (b ^ k) hf
    have hb0 : 0 < b := by
      rcases Nat.eq_zero_or_pos b with z | z
      · rw [z, Nat.zero_pow hk] at hbk
        omega
      · exact z
    have h4 : b ^ 1 ≤ b ^ k := Nat.pow_le_pow_right hb0 hk
    rw [Nat.pow_one] at h4
    omega
theorem ok_twoPower {f : Addr} {fd : FuncData} (F : FnP K "two_power" sTwoPower f fd) : FnOk P w K mg base CX0 1 f fd ["many"] spTwoPower := by
  refine F.ok scTwoPower (fun vs H Q E h => ?_) (fun cdv A outer s H vs Q E hr h => ?_)
  · obtain ⟨m, rfl, _⟩ := h
    rfl
  · obtain ⟨m, rfl, hm, k⟩ := h
    refine ⟨_, PSs.nox (pss_cons (ps_asg (pe_tup (pa_cons pe_int (pa_cons pe_int pa_nil))) (pg_tup rfl (pgs_cons (pg_name (i := 1) scTwoPower.nd rfl (Or.inl rfl)) (pgs_cons (pg_name (i := 2) scTwoPower.nd rfl (Or.inl rfl)) pgs_nil))))
      (pss_cons (ps_while PassesOwn.never (pt_cmpR op_gt (pv 0) pe_int (nomark _))
        (pss_cons (ps_if (pt_cmpR op_eq (pe_op op_mod (pv 0) pe_int) pe_int (nomark _)) (pss_one (ps_set (i := 1) scTwoPower.nd rfl (Or.inl rfl) (pe_op op_mul (pv 1) (pv 2)))) pss_nil)
        (pss_cons (ps_set (i := 2) scTwoPower.nd rfl (Or.inl rfl) (pe_op op_mul (pv 2) (pv 2)))
        (pss_one (ps_set (i := 0) scTwoPower.nd rfl (Or.inl rfl) (pe_op op_fdiv (pv 0) pe_int))))))
      (pss_one (ps_ret (pv 1))))), ?_⟩
    refine ⟨(by show 2 ≤ sizeLine; decide), fun p hp => ⟨p, _, rfl, .inl (.inl upd_same), rfl, _, _, rfl, _, _, rfl, rfl, ?_⟩⟩
    refine ⟨fun n σ H' => Same H H' ∧ ∃ f b : Nat, σ = [some (.int (n : Int)), some (.int (f : Int)), some (.int (b : Int))] ∧ f * b ^ n = 2 ^ m, ⟨m, same_new hp, 1, 2, rfl, by omega⟩, ?_⟩
    rintro n σ H' ⟨sH, f, b, rfl, hfb⟩
    refine ⟨_, rfl, _, _, rfl, rfl, _, rfl, ?_⟩
    by_cases hn : 0 < n
    · have hd : decide ((0 : Int) < (n : Int)) = true := decide_eq_true (by omega)
      rw [hd]
      refine iteT ⟨fun σ' H2 => Same H H2 ∧ ∃ f b : Nat, σ' = [some (.int ((n / 2 : Nat) : Int)), some (.int (f : Int)), some (.int (b : Int))] ∧ f * b ^ (n / 2) = 2 ^ m, fun σ' H2 h => ⟨n / 2, by omega, h⟩, ?_⟩
      obtain ⟨s1, s2⟩ := pow_step hfb hn
      obtain ⟨f63, b63⟩ := pow_small hfb hn hm
      have hb64 : -(2 ^ 64) < (b : Int) ∧ (b : Int) < 2 ^ 64 := by omega
      refine ⟨_, rfl, _, _, rfl, rfl, (by show (0 : Int) < 2; decide), rfl, _, rfl, ?_⟩
      refine ite2 (fun h1 => ?_) (fun h1 => ?_)
      · have h1' : n % 2 = 1 := by
          have := of_decide_eq_true h1
          simp only [V.int.injEq] at this
          omega
        refine ⟨_, rfl, _, rfl, _, _, rfl, rfl, .inr hb64, _, rfl, _, rfl, _, _, rfl, rfl, .inr hb64, _, rfl, _, _, rfl, rfl, ⟨by decide, by decide⟩, sH, f * b, b * b, ?_, s1 h1'⟩
        simp [List.set]
      · have h1' : n % 2 ≠ 1 := fun z => h1 (decide_eq_true (by simp only [V.int.injEq]; omega))
        refine ⟨_, rfl, _, rfl, _, _, rfl, rfl, .inr hb64, _, rfl, _, _, rfl, rfl, ⟨by decide, by decide⟩, sH, f, b * b, ?_, s2 h1'⟩
        simp [List.set]
    · have hd : decide ((0 : Int) < (n : Int)) = false := decide_eq_false (by omega)
      rw [hd]
      refine iteF ?_
      have e : n = 0 := by omega
      subst e
      rw [Nat.pow_zero, Nat.mul_one] at hfb
      subst hfb
      exact ⟨_, rfl, k _ sH⟩
end
end Wv

set_option Elab.async false
set_option linter.all false
set_option maxRecDepth 100000
set_option maxHeartbeats 4000000
namespace PySem
open Sem (wp)
open AutoSeq1 (wpAny_loadPart')
/-- enumerate(v): v by what its iter makes -/
theorem wv_enumNew {v : Value} {o : Obj} {H : Heap → Prop} (B : Begins v o H) :
    Meets (Builtin.«enumerate.__new__» ⟨[.type "enumerate", v], []⟩) (fun _ R s => H s.heap ∧
      R (.ok (.ret (.ref (s.heap.push o).objs.size))) { s with heap := (s.heap.push o).push { cls := .type "enumerate", data := .fields #[.none, .bool false, .ref s.heap.objs.size, rawInt 0, .none, .none] } }) :=
  .of_wp fun prog w A R s h => by
    obtain ⟨hp, g, d, tk, os⟩ := s
    obtain ⟨hH, hR⟩ := h
    have hsubE := sub_enumerate
    have it1 : ∀ {A' : Around} {E Q : Value → Shared → Prop}, Q (.ref hp.objs.size) ⟨hp.push o, g, d, tk, os⟩ → wpAny (model prog w) A' (pyIter v) Q E ⟨hp, g, d, tk, os⟩ := fun q => B.iter prog w _ _ ⟨hp, g, d, tk, os⟩ _ hH q
    wp_walk using it1
    refine wpAny_stack_any fun st => wpAny_pure ?_
    split
    next c _ _ _ _ _ =>
      cases (c == Value.type "enumerate") <;> (wp_walk using it1; exact ⟨_, rfl, hR⟩)
    next => wp_walk using it1; exact ⟨_, rfl, hR⟩
section
variable {prog : Program} {w : World} {A : Around} {E : Value → Shared → Prop} {s : Shared}
theorem wv_enum {v : Value} {o : Obj} {H : Heap → Prop} {Q : Value → Shared → Prop} (B : Begins v o H) (h1 : H s.heap)
    (h : ∀ h', IsEnum h' (s.heap.objs.size + 1) s.heap.objs.size 0 .none → h'.get? s.heap.objs.size = some o → (∀ b u, s.heap.get? b = some u → h'.get? b = some u) → Q (.ref (s.heap.objs.size + 1)) { s with heap := h' }) :
    wpAny (model prog w) A (call (.type "enumerate") [v]) Q E s := by
  have sz : (s.heap.push o).objs.size = s.heap.objs.size + 1 := Heap.size_push ..
  refine callType_new F.called_enumerate (by decide) (F.typeCall_enumerate_1 _) (F.newCall_enumerate_1 _) (fun obj => F.args_object_init_2 obj _) F.entry_enumerate_new (wv_enumNew B) ⟨h1, ?_⟩
  have en := Heap.get?_push_size (s.heap.push o) (o := { cls := .type "enumerate", data := .fields #[.none, .bool false, .ref s.heap.objs.size, rawInt 0, .none, .none] }) rfl
  rw [sz] at en
  show _ ∧ _
  rw [sz]
  exact ⟨⟨_, en, rfl⟩, h _ en (Heap.get?_push_of_some _ (Heap.get?_push_size _ B.free)) fun b u x => Heap.get?_push_of_some _ (Heap.get?_push_of_some _ x)⟩
end
end PySem
namespace Wv
open PySem PySem.Spec PyProof.Rows L2
/-! ### a list (true) or a tuple (false) that is read -/
def SqB (b : Bool) (K : PySem.W.Frag) (H : Hp) (a : Addr) (xs : List V) : Prop := if b = true then SqL K H a xs else SqT K H a xs
theorem SqB.l {K : PySem.W.Frag} {H : Hp} {a : Addr} {xs : List V} (h : SqL K H a xs) : SqB true K H a xs := h
theorem SqB.t {K : PySem.W.Frag} {H : Hp} {a : Addr} {xs : List V} (h : SqT K H a xs) : SqB false K H a xs := h
theorem SqB.same {b : Bool} {K : PySem.W.Frag} {H H' : Hp} {a : Addr} {xs : List V} (e : Same H H') (h : SqB b K H a xs) : SqB b K H' a xs := by
  cases b with
  | true => exact e.seq h
  | false => exact same_tup e h
theorem SqB.or {b : Bool} {K : PySem.W.Frag} {H : Hp} {a : Addr} {xs : List V} (h : SqB b K H a xs) : SqL K H a xs ∨ SqT K H a xs := by
  cases b with
  | true => exact .inl h
  | false => exact .inr h
/-- its object -/
def IsB (b : Bool) (h : Heap) (a : Addr) (its : Array Value) : Prop := if b = true then h.IsList a its else h.IsTuple a its
/-- its iterator at it -/
def ItB (b : Bool) (h : Heap) (it a : Addr) (i : Nat) : Prop := if b = true then h.IsListIter it a i else h.IsTupleIter it a i
/-- the iterator's object at the start -/
def itO (b : Bool) (a : Addr) : Obj := if b = true then { cls := .type "list_iterator", data := .fields #[.ref a, .int 0 0] } else { cls := .type "tuple_iterator", data := .fields #[.ref a, .int 0 0] }
theorem ItB.obj {b : Bool} {h : Heap} {it a : Addr} {i : Nat} (x : ItB b h it a i) : ∃ o, h.get? it = some o ∧ ∀ v, o.data ≠ .cell v := by
  cases b with
  | true => obtain ⟨o, e, _, d⟩ := x; exact ⟨o, e, fun v q => by rw [d] at q; cases q⟩
  | false => obtain ⟨o, e, _, d⟩ := x; exact ⟨o, e, fun v q => by rw [d] at q; cases q⟩
theorem ItB.keep {b : Bool} {h h' : Heap} {it a : Addr} {i : Nat} (x : ItB b h it a i) (k : ∀ o, h.get? it = some o → h'.get? it = some o) : ItB b h' it a i := by
  cases b with
  | true => obtain ⟨o, e, c, d⟩ := x; exact ⟨o, k o e, c, d⟩
  | false => obtain ⟨o, e, c, d⟩ := x; exact ⟨o, k o e, c, d⟩
theorem itB_of {b : Bool} {h : Heap} {it a : Addr} (e : h.get? it = some (itO b a)) : ItB b h it a 0 := by
  cases b with
  | true => exact ⟨_, e, rfl, rfl⟩
  | false => exact ⟨_, e, rfl, rfl⟩
theorem beginsB (b : Bool) (a : Addr) (its : Array Value) : Begins (.ref a) (itO b a) (fun h => IsB b h a its) := by
  cases b with
  | true => exact begins_list a its
  | false => exact begins_tuple a its
theorem drawsB {prog : Program} {w : World} {A : Around} (hh : A.handled = none) (b : Bool) (it a : Addr) (hne : a ≠ it) (its : Array Value) :
    Draws prog w A it [it, a] its.size (fun i v => its[i]? = some v) (fun i h => ItB b h it a i ∧ IsB b h a its) := by
  cases b with
  | true => exact Draws.list hh it a hne its
  | false => exact Draws.tuple hh it a hne its
section
variable {X : Cx} {pins : List (Addr × Obj)} {σ : L2.St} {H : Hp} {s : Shared} {a : Addr} {xs : List V}
theorem inv_seq {b : Bool} (I : Inv X pins σ H s) (h : SqB b X.K H a xs) : ∃ its : List Value, Vals xs its ∧ IsB b s.heap a its.toArray ∧ a < s.heap.objs.size ∧ xs.length ≤ sizeLine := by
  cases b with
  | true =>
    obtain ⟨its, rv, p, hz⟩ := I.list h
    exact ⟨its, rv, p.isList, p.lt, hz⟩
  | false =>
    obtain ⟨its, rv, p, hz⟩ := I.tuple h
    obtain ⟨o, e, c, r⟩ := id p
    exact ⟨its, rv, ⟨o, e, c, r⟩, Heap.lt_size e, hz⟩
end
/-! ### enumerate(a list, a tuple) -/
def IteB (b : Bool) (K : PySem.W.Frag) (a : Addr) (xs : List V) : It :=
  ⟨fun i H => SqB b K H a xs ∧ i < xs.length, fun i H v H' => ∃ T x, v = .ref T ∧ H T = none ∧ H' = upd H T (.tup [.int (i : Nat), x]) ∧ xs[i]? = some x, fun i H => SqB b K H a xs ∧ xs.length ≤ i⟩
theorem turn_enumB {P : Program} {w : World} {K : PySem.W.Frag} {elts : List Expr} {kk : Nat} {tpos : Pos} (b : Bool) (a e it : Addr) (xs : List V) (hae : a ≠ e) (hai : a ≠ it) (hei : e ≠ it) :
    Turn P w K (.Tuple elts kk tpos) (IteB b K a xs) [e, it] e (fun i h => (∃ old, IsEnum h e it (0 + ((i : Nat) : Int)) old) ∧ ItB b h it a i ∧ i ≤ xs.length) where
  mem := List.mem_cons_self
  obj := fun i h st c hc => by
    obtain ⟨⟨old, he⟩, hi, _⟩ := st
    rcases List.mem_cons.mp hc with q | q
    · rw [q]; exact ⟨_, he, fun v z => nomatch z⟩
    · rw [List.mem_singleton.mp q]; exact hi.obj
  keep := fun i h h' st k => by
    obtain ⟨⟨old, he⟩, hi, hl⟩ := st
    exact ⟨⟨old, k e List.mem_cons_self _ he⟩, hi.keep fun o q => k it (List.mem_cons_of_mem _ List.mem_cons_self) o q, hl⟩
  item := by
    intro X hP hw hK hc i pins s σ H E I hf st hg
    subst hP hw hK
    obtain ⟨hq, hlt⟩ := hg
    obtain ⟨he, hit, _⟩ := st
    obtain ⟨its, rv, hB, hal, hz⟩ := inv_seq I hq
    have hl := rv.length
    have hh : X.A.in1.handled = none := I.ok.hd hc
    have G := GoesN.enumFrom (elts := elts) (x1 := kk) (pos := tpos) 0 (drawsB (prog := X.prog) (w := X.w) (A := X.A.in1) hh b it a hai its.toArray) e hei (by
      intro z
      rcases List.mem_cons.mp z with z | z
      · exact hei z
      · exact hae (List.mem_singleton.mp z).symm) List.mem_cons_self
    have ein : ∃ oe, s.heap.get? e = some oe := by obtain ⟨old, z⟩ := he; exact ⟨_, z⟩
    have iin : ∃ oi, s.heap.get? it = some oi := by obtain ⟨o, z, _⟩ := hit.obj; exact ⟨o, z⟩
    refine G.goes i s _ E (by simp; omega) ⟨he, hit, hB⟩ fun v h' tk hY st' hk htk => ?_
    obtain ⟨T, t, u, ev, hT, hu, hTup⟩ := hY
    obtain ⟨he', hit', hB'⟩ := st'
    obtain ⟨oe, hoe⟩ := ein
    obtain ⟨oi, hoi⟩ := iin
    obtain ⟨x, hx⟩ : ∃ x, xs[i]? = some x := ⟨xs[i], by simp [hlt]⟩
    obtain ⟨u', hu', ru⟩ := rv.get hx
    have eu : u' = u := by
      have : its[i]? = some u := by simpa using hu
      rw [this] at hu'
      exact (Option.some.inj hu').symm
    subst eu
    have new : ObjOk X.prog X.w (upd H T (.tup [.int (i : Nat), x])) h' T (.tup [.int (i : Nat), x]) :=
      ⟨(by show 2 ≤ sizeLine; decide), [.int (0 + (i : Int)) t, u'], .cons ⟨t, by rw [Int.zero_add]⟩ (.cons ru .nil), hTup⟩
    refine ⟨.ref T, _, I.turnedNew (t' := tk) (ch := [e, it]) (fun c o hb q => hk c o hb q) hf hT new, by rw [ev]; rfl, ⟨T, x, rfl, I.hok.fresh hT, rfl, hx⟩, ⟨he', hit', by omega⟩, fun c hcm => ?_⟩
    have hlt' : c < s.heap.objs.size := by
      rcases List.mem_cons.mp hcm with q | q
      · rw [q]; exact Heap.lt_size hoe
      · rw [List.mem_singleton.mp q]; exact Heap.lt_size hoi
    rw [upd_ne (Nat.ne_of_lt (Nat.lt_of_lt_of_le hlt' hT))]
    exact (hf c hcm).1
  done := by
    intro X hP hw hK hc i pins s σ H E I hf st hg
    subst hP hw hK
    obtain ⟨hq, hlt⟩ := hg
    obtain ⟨he, hit, hle⟩ := st
    obtain ⟨its, rv, hB, hal, hz⟩ := inv_seq I hq
    have hl := rv.length
    have hh : X.A.in1.handled = none := I.ok.hd hc
    have G := GoesN.enumFrom (elts := elts) (x1 := kk) (pos := tpos) 0 (drawsB (prog := X.prog) (w := X.w) (A := X.A.in1) hh b it a hai its.toArray) e hei (by
      intro z
      rcases List.mem_cons.mp z with z | z
      · exact hei z
      · exact hae (List.mem_singleton.mp z).symm) List.mem_cons_self
    have ei : i = its.toArray.size := by simp; omega
    subst ei
    exact G.stops s _ E ⟨he, hit, hB⟩ fun h' tk hk htk => I.turnedL (t' := tk) (ch := [e, it]) (fun c o hb q => hk c o hb q) hf
  self := fun A i s Q E st h => by
    obtain ⟨⟨old, he⟩, _⟩ := st
    exact wpAny_pyIter_enum he h
def iEnumB (b : Bool) (K : PySem.W.Frag) (ta : TA) : TI := fun σ H R => ta σ H fun vs H1 => ∃ a xs, vs = [.ref a] ∧ SqB b K H1 a xs ∧ R (IteB b K a xs) H1
theorem pi_enumB {X : Cx} {e : Expr} {ta : TA} {p pos tpos : Pos} {elts : List Expr} {kk : Nat} (b : Bool) (hg : Gl X "enumerate") (hm : X.mg "enumerate" = none) (ha : PA X [e] ta) (hs : starEach [e] X.env = [(false, eval e X.env)] := by rfl) :
    PI X (.Tuple elts kk tpos) (.Call (.Name "enumerate" p) [e] [] pos) (iEnumB b X.K ta) := by
  refine ⟨fun pins s σ H R I h => ?_⟩
  refine Call_ (ld_blt I hg hm boot_enumerate (PyProof.Rows.callWith_type1 (thn (ha.run pos pins s σ H _ I h) fun us s1 ⟨vs, H1, I1, r1, q1⟩ => ?_) hs rfl))
  obtain ⟨a, xs, rfl, hq, q⟩ := q1
  obtain ⟨u, rfl, ru⟩ := vals1 r1
  obtain rfl : u = Value.ref a := ru
  obtain ⟨its, rv, hB, hal, hz⟩ := inv_seq I1 hq
  refine wv_enum (beginsB b a its.toArray) hB fun h' he hi hk => wpAny_pyIter_enum he ?_
  have young : ∀ c, c = s1.heap.objs.size + 1 ∨ c = s1.heap.objs.size → FpOk X pins H1 c := fun c hc => by
    have hle : s1.heap.objs.size ≤ c := by rcases hc with z | z <;> rw [z] <;> first | exact Nat.le_add_right _ _ | exact Nat.le_refl _
    exact I1.fpOk hle (I1.hok.fresh hle)
  refine ⟨_, [s1.heap.objs.size + 1, s1.heap.objs.size], _, IteB b X.K a xs, H1, rfl, I1.kept (t' := s1.toks) hk, turn_enumB b a (s1.heap.objs.size + 1) s1.heap.objs.size xs (Nat.ne_of_lt (Nat.lt_succ_of_lt hal)) (Nat.ne_of_lt hal) (Nat.succ_ne_self _),
    ⟨⟨.none, he⟩, itB_of hi, Nat.zero_le _⟩, fun c hcm => young c (by simpa using hcm), q⟩
theorem walk_enumB {b : Bool} {K : PySem.W.Frag} {a : Addr} {xs : List V} : Walk (IteB b K a xs) xs.length (fun H => SqB b K H a xs) (fun i H v H' => ∃ T x, v = .ref T ∧ H T = none ∧ H' = upd H T (.tup [.int (i : Nat), x]) ∧ xs[i]? = some x) :=
  ⟨fun _ _ hi q => ⟨q, hi⟩, fun _ q => ⟨q, Nat.le_refl _⟩, fun _ _ _ _ _ _ y => y⟩
/-! ### zip of two, lists or tuples -/
def ItzB (b1 b2 : Bool) (K : PySem.W.Frag) (a1 a2 : Addr) (xs ys : List V) : It :=
  ⟨fun i H => (SqB b1 K H a1 xs ∧ SqB b2 K H a2 ys) ∧ i < xs.length, fun i H v H' => ∃ T x y, v = .ref T ∧ H T = none ∧ H' = upd H T (.tup [x, y]) ∧ xs[i]? = some x ∧ ys[i]? = some y, fun i H => (SqB b1 K H a1 xs ∧ SqB b2 K H a2 ys) ∧ xs.length ≤ i⟩
theorem turn_zipB {P : Program} {w : World} {K : PySem.W.Frag} {elts : List Expr} {kk : Nat} {tpos : Pos} (b1 b2 : Bool) (a1 a2 N : Addr) (xs ys : List V) (hl : xs.length = ys.length) (h1 : a1 < N) (h2 : a2 < N) :
    Turn P w K (.Tuple elts kk tpos) (ItzB b1 b2 K a1 a2 xs ys) [N + 4, N + 2, N + 3, N, N + 1] (N + 4)
      (fun i h => IsZip h (N + 4) (N + 2) (N + 3) .none ∧ IsTupOf2 h (N + 2) (.ref N) (.ref (N + 1)) ∧ (∃ u v, IsTupOf2 h (N + 3) u v) ∧ ItB b1 h N a1 i ∧ ItB b2 h (N + 1) a2 i ∧ i ≤ xs.length) where
  mem := List.mem_cons_self
  obj := fun i h st c hc => by
    obtain ⟨hz, hTI, ⟨u, v, hTO⟩, i1, i2, _⟩ := st
    have hc' : c = N + 4 ∨ c = N + 2 ∨ c = N + 3 ∨ c = N ∨ c = N + 1 := by simpa using hc
    rcases hc' with q | q | q | q | q
    · rw [q]; exact ⟨_, hz, fun v z => nomatch z⟩
    · rw [q]; exact ⟨_, hTI, fun v z => nomatch z⟩
    · rw [q]; exact ⟨_, hTO, fun v z => nomatch z⟩
    · rw [q]; exact i1.obj
    · rw [q]; exact i2.obj
  keep := fun i h h' st k => by
    obtain ⟨hz, hTI, ⟨u, v, hTO⟩, i1, i2, hle⟩ := st
    exact ⟨k _ (by simp) _ hz, k _ (by simp) _ hTI, ⟨u, v, k _ (by simp) _ hTO⟩, i1.keep fun o q => k _ (by simp) o q, i2.keep fun o q => k _ (by simp) o q, hle⟩
  item := by
    intro X hP hw hK hc i pins s σ H E I hf st hg
    subst hP hw hK
    obtain ⟨⟨hq1, hq2⟩, hlt⟩ := hg
    obtain ⟨hz, hTI, hTO, i1, i2, _⟩ := st
    obtain ⟨its1, rv1, hB1, hal1, _⟩ := inv_seq I hq1
    obtain ⟨its2, rv2, hB2, hal2, _⟩ := inv_seq I hq2
    have l1 := rv1.length
    have l2 := rv2.length
    have hh : X.A.in1.handled = none := I.ok.hd hc
    have sep := zip_sep2 (N := N) (fp1 := [a1]) (fp2 := [a2]) (fun c q => by rw [List.mem_singleton.mp q]; exact h1) (fun c q => by rw [List.mem_singleton.mp q]; exact h2)
    have G := GoesN.zip2 (elts := elts) (x1 := kk) (pos := tpos) sep (drawsB (prog := X.prog) (w := X.w) (A := X.A.in1) hh b1 N a1 (Nat.ne_of_lt h1) its1.toArray) (drawsB (prog := X.prog) (w := X.w) (A := X.A.in1) hh b2 (N + 1) a2 (Nat.ne_of_lt (Nat.lt_succ_of_lt h2)) its2.toArray)
    have young : ∀ c ∈ [N + 4, N + 2, N + 3, N, N + 1], c < s.heap.objs.size := fun c hcm => by
      have hc' : c = N + 4 ∨ c = N + 2 ∨ c = N + 3 ∨ c = N ∨ c = N + 1 := by simpa using hcm
      obtain ⟨u, v, hTO⟩ := hTO
      rcases hc' with q | q | q | q | q
      · rw [q]; exact Heap.lt_size hz
      · rw [q]; exact Heap.lt_size hTI
      · rw [q]; exact Heap.lt_size hTO
      · rw [q]; obtain ⟨o, e, _⟩ := i1.obj; exact Heap.lt_size e
      · rw [q]; obtain ⟨o, e, _⟩ := i2.obj; exact Heap.lt_size e
    refine G.goes i s _ E (by simp; omega) ⟨hz, hTI, hTO, ⟨i1, hB1⟩, ⟨i2, hB2⟩⟩ fun v h' tk hY st' hk htk => ?_
    obtain ⟨T, u1, u2, ev, hT, hu1, hu2, hTup⟩ := hY
    obtain ⟨hz', hTI', hTO', ⟨i1', _⟩, ⟨i2', _⟩⟩ := st'
    obtain ⟨x, hx⟩ : ∃ x, xs[i]? = some x := ⟨xs[i], by simp [hlt]⟩
    obtain ⟨y, hy⟩ : ∃ y, ys[i]? = some y := ⟨ys[i]'(by omega), by simp [show i < ys.length by omega]⟩
    obtain ⟨v1, hv1, r1⟩ := rv1.get hx
    obtain ⟨v2, hv2, r2⟩ := rv2.get hy
    have e1 : v1 = u1 := by
      have : its1[i]? = some u1 := by simpa using hu1
      rw [this] at hv1
      exact (Option.some.inj hv1).symm
    have e2 : v2 = u2 := by
      have : its2[i]? = some u2 := by simpa using hu2
      rw [this] at hv2
      exact (Option.some.inj hv2).symm
    subst e1 e2
    have new : ObjOk X.prog X.w (upd H T (.tup [x, y])) h' T (.tup [x, y]) := ⟨(by show 2 ≤ sizeLine; decide), [v1, v2], .cons r1 (.cons r2 .nil), hTup⟩
    refine ⟨.ref T, _, I.turnedNew (t' := tk) (ch := [N + 4, N + 2, N + 3, N, N + 1]) (fun c o hb q => hk c o (fun z => hb ?_) q) hf hT new, by rw [ev]; rfl, ⟨T, x, y, rfl, I.hok.fresh hT, rfl, hx, hy⟩, ⟨hz', hTI', hTO', i1', i2', by omega⟩, fun c hcm => ?_⟩
    · simp at z ⊢
      rcases z with z | z | z | z <;> simp [z]
    · rw [upd_ne (Nat.ne_of_lt (Nat.lt_of_lt_of_le (young c hcm) hT))]
      exact (hf c hcm).1
  done := by
    intro X hP hw hK hc i pins s σ H E I hf st hg
    subst hP hw hK
    obtain ⟨⟨hq1, hq2⟩, hlt⟩ := hg
    obtain ⟨hz, hTI, hTO, i1, i2, hle⟩ := st
    obtain ⟨its1, rv1, hB1, hal1, _⟩ := inv_seq I hq1
    obtain ⟨its2, rv2, hB2, hal2, _⟩ := inv_seq I hq2
    have l1 := rv1.length
    have l2 := rv2.length
    have hh : X.A.in1.handled = none := I.ok.hd hc
    have sep := zip_sep2 (N := N) (fp1 := [a1]) (fp2 := [a2]) (fun c q => by rw [List.mem_singleton.mp q]; exact h1) (fun c q => by rw [List.mem_singleton.mp q]; exact h2)
    have G := GoesN.zip2 (elts := elts) (x1 := kk) (pos := tpos) sep (drawsB (prog := X.prog) (w := X.w) (A := X.A.in1) hh b1 N a1 (Nat.ne_of_lt h1) its1.toArray) (drawsB (prog := X.prog) (w := X.w) (A := X.A.in1) hh b2 (N + 1) a2 (Nat.ne_of_lt (Nat.lt_succ_of_lt h2)) its2.toArray)
    have ei : i = min its1.toArray.size its2.toArray.size := by simp; omega
    subst ei
    exact G.stops s _ E ⟨hz, hTI, hTO, ⟨i1, hB1⟩, ⟨i2, hB2⟩⟩ fun h' tk hk htk => I.turnedL (t' := tk) (ch := [N + 4, N + 2, N + 3, N, N + 1]) (fun c o hb q => hk c o (fun z => hb (by
      simp at z ⊢
      rcases z with z | z | z | z <;> simp [z])) q) hf
  self := fun A i s Q E st h => wpAny_pyIter_zip st.1 h
def iZipB (b1 b2 : Bool) (K : PySem.W.Frag) (ta : TA) : TI := fun σ H R => ta σ H fun vs H1 => ∃ a1 a2 xs ys, vs = [.ref a1, .ref a2] ∧ SqB b1 K H1 a1 xs ∧ SqB b2 K H1 a2 ys ∧ xs.length = ys.length ∧ R (ItzB b1 b2 K a1 a2 xs ys) H1
theorem pi_zipB {X : Cx} {e e2 : Expr} {ta : TA} {p pos tpos : Pos} {elts : List Expr} {kk : Nat} (b1 b2 : Bool) (hg : Gl X "zip") (hm : X.mg "zip" = none) (ha : PA X [e, e2] ta)
    (hs : starEach [e, e2] X.env = (false, eval e X.env) :: starEach [e2] X.env := by rfl) (hpl : (backTo pos (starEach [e2] X.env)).any (·.1) = false := by rfl) :
    PI X (.Tuple elts kk tpos) (.Call (.Name "zip" p) [e, e2] [] pos) (iZipB b1 b2 X.K ta) := by
  refine ⟨fun pins s σ H R I h => ?_⟩
  refine Call_ (ld_blt I hg hm PyProof.Rows.boot_zip (PyProof.Rows.callWith_type1 (thn (ha.run pos pins s σ H _ I h) fun us s1 ⟨vs, H1, I1, r1, q1⟩ => ?_) hs hpl))
  obtain ⟨a1, a2, xs, ys, rfl, hq1, hq2, hl, q⟩ := q1
  obtain ⟨u1, u2, rfl, ru1, ru2⟩ := vals2 r1
  obtain rfl : u1 = Value.ref a1 := ru1
  obtain rfl : u2 = Value.ref a2 := ru2
  obtain ⟨its1, rv1, hB1, hal1, _⟩ := inv_seq I1 hq1
  obtain ⟨its2, rv2, hB2, hal2, _⟩ := inv_seq I1 hq2
  refine zip_begins2 (beginsB b1 a1 its1.toArray) (beginsB b2 a2 its2.toArray) hB1 hB2 fun h' hz hTI hTO o1 o2 hsz hk => wpAny_pyIter_zip hz ?_
  have young : ∀ c ∈ [s1.heap.objs.size + 4, s1.heap.objs.size + 2, s1.heap.objs.size + 3, s1.heap.objs.size, s1.heap.objs.size + 1], FpOk X pins H1 c := fun c hcm => by
    have hc' : c = s1.heap.objs.size + 4 ∨ c = s1.heap.objs.size + 2 ∨ c = s1.heap.objs.size + 3 ∨ c = s1.heap.objs.size ∨ c = s1.heap.objs.size + 1 := by simpa using hcm
    have hle : s1.heap.objs.size ≤ c := by rcases hc' with z | z | z | z | z <;> rw [z] <;> first | exact Nat.le_add_right _ _ | exact Nat.le_refl _
    exact I1.fpOk hle (I1.hok.fresh hle)
  exact ⟨_, [s1.heap.objs.size + 4, s1.heap.objs.size + 2, s1.heap.objs.size + 3, s1.heap.objs.size, s1.heap.objs.size + 1], _, ItzB b1 b2 X.K a1 a2 xs ys, H1, rfl, I1.kept (t' := s1.toks) hk, turn_zipB b1 b2 a1 a2 s1.heap.objs.size xs ys hl hal1 hal2,
    ⟨hz, hTI, ⟨_, _, hTO⟩, itB_of o1, itB_of o2, Nat.zero_le _⟩, young, q⟩
theorem walk_zipB {b1 b2 : Bool} {K : PySem.W.Frag} {a1 a2 : Addr} {xs ys : List V} : Walk (ItzB b1 b2 K a1 a2 xs ys) xs.length (fun H => SqB b1 K H a1 xs ∧ SqB b2 K H a2 ys) (fun i H v H' => ∃ T x y, v = .ref T ∧ H T = none ∧ H' = upd H T (.tup [x, y]) ∧ xs[i]? = some x ∧ ys[i]? = some y) :=
  ⟨fun _ _ hi q => ⟨q, hi⟩, fun _ q => ⟨q, Nat.le_refl _⟩, fun _ _ _ _ _ _ y => y⟩
/-! ### for x in a list, a tuple -/
def ItsB (b : Bool) (K : PySem.W.Frag) (a : Addr) : It := if b = true then Itl K a else Itt K a
def iSeqB (b : Bool) (K : PySem.W.Frag) (te : TE) : TI := fun σ H R => te σ H fun x H1 => ∃ a, x = .ref a ∧ (∃ xs, SqB b K H1 a xs) ∧ R (ItsB b K a) H1
theorem pi_seqB {X : Cx} {tg e : Expr} {te : TE} (b : Bool) (he : PE X e te) : PI X tg e (iSeqB b X.K te) := by
  cases b with
  | true => exact pi_list he
  | false => exact pi_tup he
theorem walk_seqB {b : Bool} {K : PySem.W.Frag} {a : Addr} {xs : List V} : Walk (ItsB b K a) xs.length (fun H => SqB b K H a xs) (YAt xs) := by
  cases b with
  | true => exact walk_list
  | false => exact walk_tup
end Wv

set_option Elab.async false
set_option linter.all false
set_option maxRecDepth 100000
set_option maxHeartbeats 4000000
/-! own errors whose __init__ says super().__init__(..) and then keeps what it was given -/
namespace WvE
open PySem PySem.W PySem.Calls PyProof.Rows PySem.HandSPX
open L2 (defArgs defBody defScope)
def supRow (as : List Expr) (p0 p1 p2 p3 p4 : Pos) : Stmt := .Expr (.Call (.Attribute (.Call (.Name "super" p0) [] [] p1) "__init__" p2) as [] p3) p4
def fieldRow (n : Str) (q1 q2 q3 q4 : Pos) : Stmt := .Assign [.Attribute (.Name "self" q1) n q2] (.Name n q3) q4
/-- what the written part says of the class x, at C, and of its __init__, at fI -/
structure ErrC (prog : Program) (K : Frag) (mg : Str → Option Value) (x q : Str) (ns : List Str) (st : Stmt) (C fI : Addr) : Prop where
  gC : mg x = some (.ref C)
  cls : ∃ nm q N bs bm sn sub ab col dd k0 k1 k2 k3 k5, K.lookup C = some (excClassObj nm q C N bs bm true sn sub ab col dd k0 k1 k2 k3 k5 "ValueError.__new__") ∧ refsVE bm = true
  sa : findIn K (.ref C) "__setattr__" = some (some (.builtin "object.__setattr__"))
  xf : L2.XfC K C
  noN : ∀ n ∈ ns, findIn K (.ref C) n = some none
  iC : findIn K (.ref C) "__init__" = some (some (.ref fI))
  tC : typeIn K (.ref fI) = some (.type "function")
  kC : keepIn K (.ref C) = true
  vE : subIn K (.ref C) (.type "ValueError") = some true
  tyC : typeIn K (.ref C) = some (.type "type")
  sup : ks_superIn K C C "__init__" = some (some (.builtin "ValueError.__init__"))
  op : nsIn K cStatics "thirdparty.any" = some none
  self : mroIn K C (.ref C) = some true
  sg : mg "super" = none
  top : (prog.main.scope.names.lookup ("super" : Str)).isSome = false
  fn : ∃ (oc : Value) (od : Option Addr) (kV doc pm : Value) (an : Option Addr) (cda : Addr) (ct : Value) (osl : Array (Option Value)) (cc : Addr) (cl : Value) (cld : Option Addr) (csl : Array (Option Value))
      (ccl : Value) (cdd : Option Addr) (vs : Array Value) (ccs : Array (Option Value)) (file : Str) (tf : Tok),
    K.lookup fI = some ⟨oc, od, .func (ksFn "__init__" q (defArgs st) (defBody st) (defScope st) .none kV doc pm an (.ref cda) ct cc), osl⟩ ∧ codeIn K (.ref cda) q = true ∧
    K.lookup cc = some ⟨cl, cld, .cell (some (.ref C)), csl⟩ ∧ K.lookup cda = some ⟨ccl, cdd, .fields vs, ccs⟩ ∧ vs[2]? = some (.str file tf) ∧ ((prog.main.file : Str) == file) = true
/-- the scope of such an __init__ -/
structure SupScope (sc : Scope) (ns : List Str) : Prop where
  kind : sc.kind = .function
  gen : sc.isGenerator = false
  co : sc.isCoroutine = false
  sup : sc.names.lookup ("super" : Str) = some .globalImplicit
  cls : sc.names.lookup ("__class__" : Str) = some .free
  self : sc.names.lookup ("self" : Str) = some .local
  own : ∀ n ∈ ns, sc.names.lookup n = some .local
  nocell : ∀ x ∈ sc.names, x.2 ≠ .cell
section
variable {prog : Program} {w : World} {A : Around} {E : Value → Shared → Prop} {R : Result → Shared → Prop} {K : Frag} {mg mb : Str → Option Value} {x q : Str} {ns : List Str} {st : Stmt} {C fI : Addr}
/-- the bound ValueError.__init__ called: the args are laid anew -/
theorem mw_call (T : ErrC prog K mg x q ns st C fI) {h : Heap} {g : Array GenState} {d : Drawn} {t : Nat} {os : OsState} {u xx t0 : Addr} {rest : List Value} {Q : Value → Shared → Prop} (X : K.In h) (hx : h.get? xx = some (excO C t0)) (hu : h.get? u = some (kxs_mw "ValueError.__init__" xx))
    (hz : rest.length ≤ sizeLine) (hq : ∀ h' t1, (∀ b o, b ≠ xx → h.get? b = some o → h'.get? b = some o) → h'.get? xx = some (excO C t1) → Q .none ⟨h', g, d, t, os⟩) :
    wpAny (model prog w) A (call (.ref u) rest) Q E ⟨h, g, d, t, os⟩ := by
  obtain ⟨nm, q', N, bs, bm, sn, sub, ab, col, dd, k0, k1, k2, k3, k5, hC, _⟩ := T.cls
  refine wpAny_call (codeAny_of_tree (show wpAny _ A.in1 (callAny (.ref u) ⟨rest, []⟩) _ _ _ from ?_))
  simp only [callAny]
  refine wpAny_bind (wpAny_load hu ?_)
  simp only [kxs_mw, show (Value.type "method-wrapper" == Value.type "method" ||
    Value.type "method-wrapper" == Value.type "builtin_function_or_method" || Value.type "method-wrapper" == Value.type "method-wrapper") = true by decide, if_true]
  refine KFB.if_so (by decide) (wpAny_bind (check_bound_init F.excBase_ValueError.toExcCallFacts (X _ _ hC) hx rfl (wpAny_bind (wpAny_pure (wpAny_pure ?_)))))
  refine ⟨plainId_quiet F.excBase_ValueError.init.plain _, codeAny_builtin F.excBase_ValueError.initEntry ?_⟩
  exact exc_init_tree (cls := .ref C) (t0 := t0) (dv := none) (c2 := .none) (c3 := .none) (b4 := .bool false) hx hz fun h' k e _ => hq h' _ k e
/-- super().__init__(..), a row of the body -/
theorem sup_row (T : ErrC prog K mg x q ns st C fI) {S : SupScope (defScope st) ns} {h : Heap} {g : Array GenState} {d : Drawn} {t : Nat} {os : OsState} {xx t0 L cda cc : Addr} {m : Str → Option Value} {us : List Value} {e1 : Expr} {as : List Expr} {p0 p1 p2 p3 p4 : Pos} {body : List Stmt} {ar : Arg}
    {oc : Value} {od : Option Addr} {kV doc pm : Value} {an : Option Addr} {ct : Value} {osl : Array (Option Value)} {cl : Value} {cld : Option Addr} {csl : Array (Option Value)} {ccl : Value} {cdd : Option Addr} {vs : Array Value} {ccs : Array (Option Value)} {file : Str} {tf : Tok} {Q : Flow → Shared → Prop}
    (X : K.In h) (G : h.Ns mainGlobals mg) (B : h.Ns builtinsNs mb) (Bv : mb "super" = some (.type "super")) (hn : h.Ns L m) (hself : m "self" = some (.ref xx)) (hx : h.get? xx = some (excO C t0)) (hxC : xx ≠ C)
    (lkF : K.lookup fI = some ⟨oc, od, .func (ksFn "__init__" q (defArgs st) (defBody st) (defScope st) .none kV doc pm an (.ref cda) ct cc), osl⟩) (lkC : K.lookup cc = some ⟨cl, cld, .cell (some (.ref C)), csl⟩) (lkD : K.lookup cda = some ⟨ccl, cdd, .fields vs, ccs⟩) (hvs : vs[2]? = some (.str file tf)) (hfile : ((prog.main.file : Str) == file) = true)
    (hp : ((defArgs st).posonlyargs ++ (defArgs st).args).head? = some ar) (har : ar.arg = "self") (hus : us.length ≤ sizeLine)
    (hargs : ∀ (h1 : Heap) (t1 : Nat) (Q' : List Value → Shared → Prop), h1.Ns L m → Q' us ⟨h1, g, d, t1, os⟩ → wpAny (model prog w) A (spliced (backTo p3 (starEach (e1 :: as) (ksEnv q (defScope st) L fI (.ref cda) cc)))) Q' E ⟨h1, g, d, t1, os⟩)
    (he : starEach (e1 :: as) (ksEnv q (defScope st) L fI (.ref cda) cc) = (false, eval e1 (ksEnv q (defScope st) L fI (.ref cda) cc)) :: starEach as (ksEnv q (defScope st) L fI (.ref cda) cc))
    (hpl : (backTo p3 (starEach as (ksEnv q (defScope st) L fI (.ref cda) cc))).any (·.1) = false)
    (hi : interactive (ksEnv q (defScope st) L fI (.ref cda) cc) = false) {pl : Sem Bool}
    (hev : eval (.Call (.Attribute (.Call (.Name "super" p0) [] [] p1) "__init__" p2) (e1 :: as) [] p3) (ksEnv q (defScope st) L fI (.ref cda) cc) = (do
      let ov ← attributeBase (.Call (.Name "super" p0) [] [] p1) "__init__" (ksEnv q (defScope st) L fI (.ref cda) cc) (eval (.Call (.Name "super" p0) [] [] p1) (ksEnv q (defScope st) L fI (.ref cda) cc))
      standAt p2.atName
      let (f, first) ← holding [ov] (getMethod ov "__init__" pl)
      callWith p3 f first (backTo p3 (starEach (e1 :: as) (ksEnv q (defScope st) L fI (.ref cda) cc))) []))
    (hq : ∀ h' tk t1, (∀ b o, b ≠ xx → h.get? b = some o → h'.get? b = some o) → h'.get? xx = some (excO C t1) → Q .next ⟨h', g, d, tk, os⟩) :
    _root_.PySem.wpAt (model prog w) A (.func body (ksEnv q (defScope st) L fI (.ref cda) cc)) (exec (supRow (e1 :: as) p0 p1 p2 p3 p4) (ksEnv q (defScope st) L fI (.ref cda) cc)) Q E ⟨h, g, d, t, os⟩ := by
  obtain ⟨nm, q', N, bs, bm, sn, sub, ab, col, dd, k0, k1, k2, k3, k5, hC, _⟩ := T.cls
  have hcl : clsIn K C = some { name := nm, bases := bs, mro := .ref C :: bm, ns := N, qualname := q', hasDict := true, slotNames := sn, subclasses := sub, abstract := ab, collection := col, hasDel := false } := by unfold clsIn; rw [hC] <;> rfl
  unfold supRow
  refine ks_wpAt_Expr_any ?_ hi
  refine ks_wpAt_MethodCall ?_ hev
  refine ks_wpAt_super_base (env := ksEnv q (defScope st) L fI (.ref cda) cc) S.sup S.cls rfl rfl (X _ _ lkF) rfl hp rfl (X _ _ lkD) rfl hvs hfile T.top ?_
  refine ks_loadName_global S.kind S.sup (loadGlobal_builtin (env := ksEnv q (defScope st) L fI (.ref cda) cc) G T.sg B Bv ⟨rfl, ?_⟩)
  refine wpAny_loadName_free S.kind S.cls rfl ⟨_, X _ _ lkC, rfl⟩ ?_
  refine wpAny_loadName_local S.kind (by rw [har]; exact S.self) hn (by rw [har]; exact hself) ?_
  refine ks_wpAny_isType_cls (X _ _ hC) rfl ⟨rfl, ?_⟩
  refine ks_wpAny_call_super (X _ _ hC) rfl hx rfl (fun c z => by cases z) (looks_mroIn X T.self) (fun h1 e k => ?_)
  have X1 : K.In h1 := X.keeps k
  have hx1 := k _ _ hx
  have I1 : PySem.W.InstAt h1 xx (excO C t0) C none := ⟨hx1, rfl, rfl, trivial⟩
  have hal : alongIn K "__init__" ((Value.ref C :: bm).dropWhile (· != .ref C) |>.drop 1) = some (some (.builtin "ValueError.__init__")) := by
    have z := T.sup
    unfold ks_superIn at z
    rw [hcl] at z
    exact z
  refine kxs_getMethod kxs_ValueError e (looks_opaque X1 T.op) (l₀ := .ref C :: bm) (fun A Q E s k' q' => wpAny_bind ((looks_clsIn X1 hcl) A _ E s k' (wpAny_pure q'))) rfl X1 hal (I1.type.andThen (looks_subIn X1 T.vE)) hxC rfl ?_
  have k2 : ∀ b o, h1.get? b = some o → (h1.push (kxs_mw "ValueError.__init__" xx)).get? b = some o := fun b o z => Heap.get?_push_of_some _ z
  have hu : (h1.push (kxs_mw "ValueError.__init__" xx)).get? h1.objs.size = some (kxs_mw "ValueError.__init__" xx) := Heap.get?_push_at rfl rfl
  show wpAny (model prog w) A (callWith p3 (.ref h1.objs.size) [] (backTo p3 (starEach (e1 :: as) _)) []) _ _ _
  rw [he]
  refine kxs_callWith (i := "ValueError.__init__") (x := xx) (by show (false || (backTo p3 (starEach as _)).any (·.1)) = false; rw [hpl]; rfl) ?_
  refine evalArgs_plain ?_
  have ha := hargs (h1.push (kxs_mw "ValueError.__init__" xx)) (t + 1)
  rw [he] at ha
  refine ha _ ((hn.keeps k).keeps k2) ⟨hu, ?_⟩
  show wpAny (model prog w) A (call (.ref h1.objs.size) us) _ _ _
  exact mw_call T (X1.keeps k2) (k2 _ _ hx1) hu hus fun h' t1 k' e' => hq h' _ t1 (fun b o nb z => k' b o nb (k2 b o (k b o z))) e'
end
end WvE

set_option Elab.async false
set_option linter.all false
set_option maxRecDepth 100000
set_option maxHeartbeats 4000000
namespace WvE
open PySem PySem.W PySem.Calls PyProof.Rows PySem.HandSPX
open L2 (defArgs defBody defScope V RelV RelO Vals)
abbrev Row : Type := Str × Pos × Pos × Pos × Pos
def Row.st (r : Row) : Stmt := fieldRow r.1 r.2.1 r.2.2.1 r.2.2.2.1 r.2.2.2.2
/-- the rows' names hold these -/
inductive Rw (m : Str → Option Value) : List Row → List V → List Value → Prop
  | nil : Rw m [] [] []
  | cons {r : Row} {rs : List Row} {v : V} {vs : List V} {u : Value} {us : List Value} (h : m r.1 = some u) (rv : RelV v u) (t : Rw m rs vs us) : Rw m (r :: rs) (v :: vs) (u :: us)
def fieldsOf : List Row → List V → List (Str × V) → List (Str × V)
  | r :: rs, v :: vs, a => fieldsOf rs vs ((r.1, v) :: a)
  | _, _, a => a
def bnd (ns : List Str) (xx : Addr) (us : List Value) : List (Str × Value) := (("self" : Str), Value.ref xx) :: ns.zip us
def bm (ns : List Str) (xx : Addr) (us : List Value) : Str → Option Value := fun y => (bnd ns xx us).reverse.lookup y
/-- what __init__ leaves of a fresh exception at x -/
structure End (h h' : Heap) (x C dx t1 : Addr) (fs : List (Str × V)) : Prop where
  keep : ∀ b o, b ≠ x → h.get? b = some o → h'.get? b = some o
  obj : h'.get? x = some { cls := .ref C, dict := some dx, data := .fields #[.ref t1, .none, .none, .none, .bool false, .none] }
  dbig : h.objs.size ≤ dx
  dne : dx ≠ x
  ns : ∃ m, h'.Ns1 dx m ∧ ∀ f, RelO (fs.lookup f) (m f)
section
variable {prog : Program} {w : World} {A : Around} {E : Value → Shared → Prop} {R : Result → Shared → Prop} {K : Frag} {mg mb : Str → Option Value} {x q : Str} {ns : List Str} {st : Stmt} {C fI : Addr}
theorem kept {h h' : Heap} {z : Addr} (X : K.In h) (hz : K.lookup z = none) (k : ∀ b o, b ≠ z → h.get? b = some o → h'.get? b = some o) : K.In h' := fun a o e =>
  k a o (fun y => by rw [y, hz] at e; cases e) (X a o e)
theorem ldK {M : Model} {s : Shared} {name : Str} {scope : Scope} {L a cc : Addr} {cd : Value} {m : Str → Option Value} {y : Str} {pos : Pos} {v : Value} {Q : Value → Shared → Prop} (hn : s.heap.Ns L m) (hv : m y = some v) (h : Q v s)
    (hk : scope.kind = .function) (hl : scope.names.lookup y = some .local) (hd : (y == ("__debug__" : Str)) = false) :
    wpAny M A (eval (.Name y pos) (ksEnv name scope L a cd cc)) Q E s := wpAny_Name (wpAny_loadName_local hk hl hn hv h) hd
/-- the rows behind the first: the exception has its dict -/
theorem rows_more (T : ErrC prog K mg x q ns st C fI) (S : SupScope (defScope st) ns) (hd : ∀ n ∈ ns, (n == ("__debug__" : Str)) = false) {L cda cc xx dx t1 : Addr} {m : Str → Option Value} (hself : m "self" = some (.ref xx)) (hLx : L ≠ dx) {g : Array GenState} {d : Drawn} {os : OsState} :
    ∀ {rs : List Row} {vs : List V} {us : List Value} {h : Heap} {t : Nat} {fs : List (Str × V)} {mD : Str → Option Value} {Q : Flow → Shared → Prop}, Rw m rs vs us → (∀ r ∈ rs, r.1 ∈ ns) → fs.length + rs.length ≤ 900 → K.In h → h.Ns L m →
      h.get? xx = some { cls := .ref C, dict := some dx, data := .fields #[.ref t1, .none, .none, .none, .bool false, .none] } → K.lookup dx = none → dx ≠ xx → h.Ns1 dx mD → (∀ f, RelO (fs.lookup f) (mD f)) →
      (∀ h' tk m', (∀ b o, b ≠ dx → h.get? b = some o → h'.get? b = some o) → h'.Ns1 dx m' → (∀ f, RelO ((fieldsOf rs vs fs).lookup f) (m' f)) → Q .next ⟨h', g, d, tk, os⟩) →
      wpAny (model prog w) A (execs (rs.map Row.st) (ksEnv q (defScope st) L fI (.ref cda) cc)) Q E ⟨h, g, d, t, os⟩ := by
  intro rs
  induction rs with
  | nil =>
    intro vs us h t fs mD Q rw' _ _ _ _ _ _ _ hns rel hq
    cases rw'
    exact wpAny_execs_nil (hq h t mD (fun b o _ e => e) hns rel)
  | cons r rs ih =>
    intro vs us h t fs mD Q rw' hin hz X hn hx hnd hdx hns rel hq
    cases rw' with
    | @cons _ _ v vs u us hv rv tl =>
      obtain ⟨nm, q', N, bs, bm, sn, sub, ab, col, dd, k0, k1, k2, k3, k5, hC, hbm⟩ := T.cls
      have hcl : clsIn K C = some { name := nm, bases := bs, mro := .ref C :: bm, ns := N, qualname := q', hasDict := true, slotNames := sn, subclasses := sub, abstract := ab, collection := col, hasDel := false } := by unfold clsIn; rw [hC] <;> rfl
      have hr := hin r List.mem_cons_self
      show wpAny _ _ (execs (Row.st r :: rs.map Row.st) _) _ _ _
      unfold Row.st fieldRow
      refine wpAny_execs_cons (plainObj_wpAny_Assign_Attribute ?_)
      refine ldK hn hv (ldK hn hself ?_ S.kind S.self rfl) S.kind (S.own _ hr) (hd _ hr)
      have hw := L2.within_of rel
      obtain ⟨oD, _, _, hoD, _, _⟩ := hns.count hw
      refine set_plain X (ox := { cls := .ref C, dict := some dx, data := .fields #[.ref t1, .none, .none, .none, .bool false, .none] }) (od := some oD) ⟨hx, rfl, rfl, hoD⟩ T.sa ?_
      refine PySem.OEX.osa_old X hx hns hw (by rw [List.length_map]; simp at hz; omega) hcl (show refsVE (.ref C :: bm) = true from hbm) rfl (T.noN _ hr) (fun h2 tk2 k hn2 => ?_)
      exact ih tl (fun r' hr' => hin r' (List.mem_cons_of_mem _ hr')) (by simp at hz ⊢; omega) (kept X hnd k) (hn.at fun o e => k _ _ hLx e) (k _ _ (Ne.symm hdx) hx) hnd hdx hn2 (L2.relO_put rv rel)
        fun h' tk m' k' => hq h' tk m' fun b o nb e => k' b o nb (k b o nb e)
/-- the text of such an __init__ -/
def SupText (q : Str) (ns : List Str) (st : Stmt) : Prop := SupScope (defScope st) ns ∧ (∀ n ∈ ns, (n == ("__debug__" : Str)) = false) ∧ ns.length ≤ 100 ∧
  ∃ (e1 : Expr) (as : List Expr) (p0 p1 p2 p3 p4 : Pos) (r0 : Row) (rs : List Row) (ar : Arg), defBody st = supRow (e1 :: as) p0 p1 p2 p3 p4 :: (r0 :: rs).map Row.st ∧ (r0 :: rs).map (·.1) = ns ∧
    ((defArgs st).posonlyargs ++ (defArgs st).args).head? = some ar ∧ ar.arg = "self" ∧
    (∀ (s : Shared) (xx : Addr) (us : List Value) (kV doc pm : Value) (an : Option Addr) (cda : Addr) (ct : Value) (cc : Addr), us.length = ns.length →
      BindsTo s (ksFn "__init__" q (defArgs st) (defBody st) (defScope st) .none kV doc pm an (.ref cda) ct cc) ⟨.ref xx :: us, []⟩ (bnd ns xx us)) ∧
    (∀ (xx : Addr) (us : List Value), us.length = ns.length → (∀ y ∈ bnd ns xx us, (defScope st).names.lookup y.1 = some .local) ∧ bm ns xx us "self" = some (.ref xx) ∧
      ∀ vs, Vals vs us → Rw (bm ns xx us) (r0 :: rs) vs us) ∧
    ∀ (fI L cda cc : Addr), ∃ pl : Sem Bool, starEach (e1 :: as) (ksEnv q (defScope st) L fI (.ref cda) cc) = (false, eval e1 (ksEnv q (defScope st) L fI (.ref cda) cc)) :: starEach as (ksEnv q (defScope st) L fI (.ref cda) cc) ∧
      (backTo p3 (starEach as (ksEnv q (defScope st) L fI (.ref cda) cc))).any (·.1) = false ∧ interactive (ksEnv q (defScope st) L fI (.ref cda) cc) = false ∧
      (eval (.Call (.Attribute (.Call (.Name "super" p0) [] [] p1) "__init__" p2) (e1 :: as) [] p3) (ksEnv q (defScope st) L fI (.ref cda) cc) = (do
        let ov ← attributeBase (.Call (.Name "super" p0) [] [] p1) "__init__" (ksEnv q (defScope st) L fI (.ref cda) cc) (eval (.Call (.Name "super" p0) [] [] p1) (ksEnv q (defScope st) L fI (.ref cda) cc))
        standAt p2.atName
        let (f, first) ← holding [ov] (getMethod ov "__init__" pl)
        callWith p3 f first (backTo p3 (starEach (e1 :: as) (ksEnv q (defScope st) L fI (.ref cda) cc))) [])) ∧
      ∀ (prog : Program) (w : World) (A : Around) (E : Value → Shared → Prop) (xx : Addr) (us : List Value) (s : Shared) (Q : List Value → Shared → Prop), us.length = ns.length → s.heap.Ns L (bm ns xx us) → Q us s →
        wpAny (model prog w) A (spliced (backTo p3 (starEach (e1 :: as) (ksEnv q (defScope st) L fI (.ref cda) cc)))) Q E s
theorem init_run (T : ErrC prog K mg x q ns st C fI) (Z : SupText q ns st) {h : Heap} {g : Array GenState} {d : Drawn} {t : Nat} {os : OsState} {xx t0 : Addr} {vs : List V} {us : List Value} (X : K.In h) (G : h.Ns mainGlobals mg) (B : h.Ns builtinsNs mb) (Bv : mb "super" = some (.type "super"))
    (hlim : h.NoLimit) (hx : h.get? xx = some (excO C t0)) (hnx : K.lookup xx = none) (hgx : mainGlobals ≠ xx) (hbx : builtinsNs ≠ xx) (hroom : A.depth < recursionLimit) (r : Vals vs us) (hl : us.length = ns.length)
    (hq : ∀ h' tk dx t1 fs, (∀ rs : List Row, rs.map (·.1) = ns → fs = fieldsOf rs vs []) → End h h' xx C dx t1 fs → R (.ok (.ret .none)) ⟨h', g, d, tk, os⟩) :
    codeAny (model prog w) A (.call (.ref fI) ⟨.ref xx :: us, []⟩) R ⟨h, g, d, t, os⟩ := by
  obtain ⟨S, hd, hns, e1, as, p0, p1, p2, p3, p4, r0, rs, ar, hbody, hrn, hp, har, hbind, hb2, hev⟩ := Z
  obtain ⟨oc, od, kV, doc, pm, an, cda, ct, osl, cc, cl, cld, csl, ccl, cdd, vsc, ccs, file, tf, lkF, hcode, lkC, lkD, hvs, hfile⟩ := T.fn
  obtain ⟨hloc, hself, hrw⟩ := hb2 xx us hl
  have hrw := hrw vs r
  obtain ⟨nm, q', N, bs, bm, sn, sub, ab, col, dd, k0, k1, k2, k3, k5, hC, hbm⟩ := T.cls
  have hcl : clsIn K C = some { name := nm, bases := bs, mro := .ref C :: bm, ns := N, qualname := q', hasDict := true, slotNames := sn, subclasses := sub, abstract := ab, collection := col, hasDel := false } := by unfold clsIn; rw [hC] <;> rfl
  have hxC : xx ≠ C := fun z => by rw [z, hC] at hnx; cases hnx
  refine ks_codeAny_call_defAt (body := defBody st) hroom (X _ _ lkF) rfl hlim (codeRec_of X hcode) rfl (hbind _ xx us kV doc pm an cda ct cc hl) S.nocell hloc (fun h1 hn1 k1' => ?_) S.co S.gen S.kind
  have X1 : K.In h1 := X.keeps k1'
  have hx1 := k1' _ _ hx
  obtain ⟨pl, he, hpl, hi, hcall, hargs⟩ := hev fI h.objs.size cda cc
  show _root_.PySem.wpAt (model prog w) _ (.func _ (ksEnv q (defScope st) h.objs.size fI (.ref cda) cc)) (execs (defBody st) (ksEnv q (defScope st) h.objs.size fI (.ref cda) cc)) _ _ _
  rw [hbody]
  refine ks_wpAt_execs_cons ?_
  have hus : us.length ≤ sizeLine := by rw [hl, sizeLine_eq]; omega
  refine sup_row T (S := S) X1 (G.keeps k1') (B.keeps k1') Bv hn1 hself hx1 hxC lkF lkC lkD hvs hfile hp har hus (fun h2 t2 Q' n2 q2 => hargs prog w _ _ xx us _ Q' hl n2 q2) he hpl hi hcall (fun h2 tk2 t1 k2' hx2 => ?_)
  refine _root_.PySem.wpAt_of_wpAny ?_
  have X2 : K.In h2 := kept X1 hnx k2'
  have hLx : h.objs.size ≠ xx := Nat.ne_of_gt (Heap.lt_size hx)
  have hn2 := hn1.at fun o e => k2' _ _ hLx e
  cases hrw with
  | @cons _ _ v vs u us hv rv tl =>
    have hr : r0.1 ∈ ns := by rw [← hrn]; exact List.mem_cons_self
    show wpAny _ _ (execs (Row.st r0 :: rs.map Row.st) _) _ _ _
    unfold Row.st fieldRow
    refine wpAny_execs_cons (plainObj_wpAny_Assign_Attribute ?_)
    refine ldK hn2 hv (ldK hn2 hself ?_ S.kind S.self rfl) S.kind (S.own _ hr) (hd _ hr)
    refine set_plain X2 (ox := excO C t1) (od := none) ⟨hx2, rfl, rfl, trivial⟩ T.sa ?_
    refine exc_osa X2 hx2 hcl (show refsVE (.ref C :: bm) = true from hbm) rfl (T.noN _ hr) (fun h3 tk3 dx k3' dn dne hx3 hn3 => ?_)
    have hdK : K.lookup dx = none := by
      cases e : K.lookup dx with
      | none => rfl
      | some o => exact absurd (Heap.lt_size (X2 _ _ e)) (Nat.not_lt.mpr dn)
    have z1 : h.objs.size < h2.objs.size := hn2.lt
    have z2 : h2.objs.size ≤ dx := dn
    have hLd : h.objs.size ≠ dx := fun z => by omega
    have hsz : h.objs.size ≤ dx := by omega
    refine rows_more T S hd hself hLd tl (fun r' hr' => by rw [← hrn]; exact List.mem_cons_of_mem _ (List.mem_map_of_mem hr')) ?_ (kept X2 hnx k3') (hn2.at fun o e => k3' _ _ hLx e) hx3 hdK dne hn3 (L2.relO_put (fs := []) rv fun f => True.intro) (fun h4 tk4 m4 k4' hn4 rel4 => ?_)
    · have : (r0 :: rs).length = ns.length := by rw [← hrn, List.length_map]
      simp at this ⊢
      omega
    · refine hq h4 tk4 dx t1 _ (fun rs' e' => ?_) ⟨fun b o nb e => k4' b o (fun z => ?_) (k3' b o nb (k2' b o nb (k1' b o e))), k4' _ _ (Ne.symm dne) hx3, hsz, dne, m4, hn4, rel4⟩
      · have key : ∀ (l l' : List Row) (vs : List V) (a : List (Str × V)), l.map (·.1) = l'.map (·.1) → fieldsOf l vs a = fieldsOf l' vs a := by
          intro l
          induction l with
          | nil =>
            intro l' vs a e
            cases l' with
            | nil => rfl
            | cons _ _ => cases e
          | cons y l ih =>
            intro l' vs a e
            cases l' with
            | nil => cases e
            | cons z l' =>
              injection e with e1 e2
              cases vs with
              | nil => rfl
              | cons v vs =>
                show fieldsOf l vs ((y.1, v) :: a) = fieldsOf l' vs ((z.1, v) :: a)
                rw [show y.1 = z.1 from e1]
                exact ih l' vs _ e2
        exact key (r0 :: rs) rs' (v :: vs) [] (hrn.trans e'.symm)
      · rw [z] at e
        exact absurd (Heap.lt_size e) (Nat.not_lt.mpr hsz)
end
end WvE

set_option Elab.async false
set_option linter.all false
set_option maxRecDepth 100000
set_option maxHeartbeats 4000000
namespace Wv
open PySem PySem.Spec PyProof.Rows L2
abbrev sTooI : Stmt := inClass (top 2) 0
abbrev sTallyI : Stmt := inClass (top 4) 0
abbrev sSizeI : Stmt := inClass (top 8) 0
/-- C(e, ..), C's __init__ such a one -/
def tMkE (C : Addr) (ns : List Str) (ta : TA) : L2.St → Hp → XK → Prop := fun σ H Q => ta σ H fun vs H1 => vs.length = ns.length ∧ ∀ d, H1 d = none → Q (.ref C) (some d) (upd H1 d (.xd (ns.zip vs).reverse))
section
variable {X : Cx} {C fI : Addr} {q : Str} {ns : List Str} {st : Stmt}
theorem fields_zip : ∀ {rs : List WvE.Row} {vs : List V} {a : List (Str × V)}, rs.length = vs.length → WvE.fieldsOf rs vs a = ((rs.map (·.1)).zip vs).reverse ++ a
  | [], [], a, _ => rfl
  | [], _ :: _, a, h => by cases h
  | _ :: _, [], a, h => by cases h
  | r :: rs, v :: vs, a, h => by
    show WvE.fieldsOf rs vs ((r.1, v) :: a) = (((r.1, v) :: (rs.map (·.1)).zip vs)).reverse ++ a
    rw [fields_zip (by simpa using h), List.reverse_cons, List.append_assoc]
    rfl
theorem pmk_err {x : Str} {e : Expr} {es : List Expr} {ta : TA} {p pos : Pos} {k : Nat} (T : WvE.ErrC X.prog X.K X.mg x q ns st C fI) (Z : WvE.SupText q ns st) (hr : Room k X.A) (ha : PA X (e :: es) ta) (hg : Gl X x := by rfl) (hdb : (x == ("__debug__" : Str)) = false := by decide)
    (he : starEach (e :: es) X.env = (false, eval e X.env) :: starEach es X.env := by rfl) (hpl : (backTo pos (starEach es X.env)).any (·.1) = false := by rfl) : PMk X (.Call (.Name x p) (e :: es) [] pos) (tMkE C ns ta) := by
  intro pins s σ H Q I h
  refine wpAny_Call_Name_kw (ld_glob I hg T.gC ?_ hdb)
  refine PySem.W.callWith_K (h₀ := X.base) I.ok.mod.kin T.kC (thn (ha.run pos pins s σ H _ I h) fun us s1 hh => ?_) he hpl
  obtain ⟨vs, H1, I1, r1, hl, q1⟩ := hh
  refine ⟨I1.kIn, ?_⟩
  show wpAny _ _ (call (.ref C) us) _ _ _
  have hlim := I1.nolimit
  obtain ⟨mb, hB, hBv⟩ := I1.mod.blt
  have GG := I1.mod.glob
  have KIn := I1.mod.kin
  have hbk := I1.bk
  obtain ⟨hp, g, dr, tk, os⟩ := s1
  have hul : us.length = ns.length := by rw [← r1.length]; exact hl
  obtain ⟨S, hd, hns, _⟩ := id Z
  have hus : us.length ≤ sizeLine := by rw [hul, sizeLine_eq]; omega
  obtain ⟨nm, q', N, bs, bm, sn, sub, ab, col, dd, k0, k1, k2, k3, k5, hC, hbm⟩ := T.cls
  have kk : ∀ b o, hp.get? b = some o → ((hp.push (PySem.W.kdv_tup us)).push (PySem.HandSPX.excO C hp.objs.size)).get? b = some o := fun b o e => Heap.get?_push_of_some _ (Heap.get?_push_of_some _ e)
  have hget : ((hp.push (PySem.W.kdv_tup us)).push (PySem.HandSPX.excO C hp.objs.size)).get? (hp.objs.size + 1) = some (PySem.HandSPX.excO C hp.objs.size) := by heap_get
  have hsz : ((hp.push (PySem.W.kdv_tup us)).push (PySem.HandSPX.excO C hp.objs.size)).objs.size = hp.objs.size + 1 + 1 := by rw [Heap.size_push, Heap.size_push]
  have big : ∀ {b : Addr} {o : Obj}, hp.get? b = some o → b ≠ hp.objs.size + 1 := fun z => Nat.ne_of_lt (Nat.lt_succ_of_lt (Heap.lt_size z))
  have hnx : X.K.lookup (hp.objs.size + 1) = none := by
    cases z : X.K.lookup (hp.objs.size + 1) with
    | none => rfl
    | some o => exact absurd rfl (big (I1.kIn _ _ z))
  have hgx : mainGlobals ≠ hp.objs.size + 1 := by
    obtain ⟨o, _, _, e1, _⟩ := GG
    exact big (hbk _ _ e1)
  have hbx : builtinsNs ≠ hp.objs.size + 1 := by
    obtain ⟨o, _, _, e1, _⟩ := hB
    exact big (hbk _ _ e1)
  have kb : ∀ b o, X.base.get? b = some o → ((hp.push (PySem.W.kdv_tup us)).push (PySem.HandSPX.excO C hp.objs.size)).get? b = some o := fun b o e => kk b o (hbk b o e)
  refine wpAny_call (PySem.HandSPX.call_own F.excBase_ValueError (fun Y => PySem.HandSPX.refsVE_contains Y bm hbm) (I1.kIn _ _ hC) (PySem.W.looks_findIn I1.kIn T.iC) (fun self => PySem.W.bind_fn I1.kIn self T.tC) hus ?_)
  refine WvE.init_run T Z (I1.kIn.keeps kk) (GG.keeps kb) (hB.keeps kb) ((hBv "super" (by decide)).trans (by decide +kernel)) (hlim.keeps kk) hget hnx hgx hbx (by have := hr.dp; show _ + 1 < _; omega) r1 hul (fun h' tk' d t1 fs hfs M => ?_)
  refine ⟨rfl, ?_⟩
  show MkP X pins σ Q (.ref (hp.objs.size + 1)) ⟨h', g, dr, tk', os⟩
  have efs : fs = (ns.zip vs).reverse := by
    obtain ⟨_, _, _, e1, as, p0, p1, p2, p3, p4, r0, rs, ar, _, hrn, _⟩ := Z
    rw [hfs _ hrn, fields_zip (by rw [hl, ← hrn, List.length_map]), hrn, List.append_nil]
  subst efs
  have z : hp.objs.size + 1 + 1 ≤ d := by
    have y := M.dbig
    rw [hsz] at y
    exact y
  have dbig : hp.objs.size ≤ d := by omega
  obtain ⟨mA, hns2, rel⟩ := M.ns
  obtain ⟨G', g1, g2⟩ := restrict h' fun b => decide (b ≠ hp.objs.size + 1)
  have gk : ∀ b, b ≠ hp.objs.size + 1 → G'.get? b = h'.get? b := fun b hb => g1 b (decide_eq_true hb)
  have ge : G'.get? (hp.objs.size + 1) = none := g2 _ (by simp)
  have old : ∀ b o, hp.get? b = some o → G'.get? b = some o := fun b o q => (gk b (big q)).trans (M.keep b o (big q) (kk b o q))
  have ob : ObjOk X.prog X.w (upd H1 d (.xd (ns.zip vs).reverse)) G' d (.xd (ns.zip vs).reverse) := ⟨mA, hns2.at (fun o q => (gk d M.dne).trans q), rel⟩
  have J : Inv X pins σ (upd H1 d (.xd (ns.zip vs).reverse)) ⟨G', g, dr, tk', os⟩ := I1.laid (t' := tk') old dbig ob
  refine ⟨hp.objs.size + 1, _, _, ⟨G', g, dr, tk', os⟩, _, .ref C, some d, rfl, J, fun b o q => ?_, ge, M.obj, ⟨rfl, rfl⟩, rfl, rfl, ?_, rfl, I1.bare, raises_own T.xf.exC T.tyC, q1 d (I1.hok.fresh dbig)⟩
  · by_cases hb : b = hp.objs.size + 1
    · have q' : G'.get? b = some o := q
      rw [hb, ge] at q'
      cases q'
    · exact (gk b hb).symm.trans q
  · rw [upd_ne (Ne.symm M.dne)]
    exact I1.hok.fresh (Nat.le_succ _)
/-- raise C(e, ..) -/
theorem ps_raiseE {x : Str} {e : Expr} {es : List Expr} {ta : TA} {W : WX} {p pos pos2 : Pos} {k : Nat} (hc : X.calm = true) (T : WvE.ErrC X.prog X.K X.mg x q ns st C fI) (Z : WvE.SupText q ns st) (hr : Room k X.A) (tk : Takes X W) (ha : PA X (e :: es) ta) (hg : Gl X x := by rfl) (hdb : (x == ("__debug__" : Str)) = false := by decide)
    (he : starEach (e :: es) X.env = (false, eval e X.env) :: starEach es X.env := by rfl) (hpl : (backTo pos (starEach es X.env)).any (·.1) = false := by rfl) :
    PS X (.Raise (some (.Call (.Name x p) (e :: es) [] pos)) none pos2) (fun _ σ H => tMkE C ns ta σ H fun cls d H' => W cls d σ H') := ps_raise hc tk (pmk_err T Z hr ha hg hdb he hpl)
end
/-! ### the three errors' texts -/
theorem own3 {P : Str → Prop} {a b c : Str} (h1 : P a) (h2 : P b) (h3 : P c) : ∀ n ∈ [a, b, c], P n := by simp_all
open WvE in
theorem tooText : SupText "TooMany.__init__" ["what", "many", "most"] sTooI := by
  refine ⟨⟨rfl, rfl, rfl, by decide +kernel, by decide +kernel, by decide +kernel, by decide +kernel, by decide +kernel⟩, by decide +kernel, by decide, _, _, _, _, _, _, _, (_, _, _, _, _), [(_, _, _, _, _), (_, _, _, _, _)], _, rfl, rfl, rfl, rfl, ?_, ?_, ?_⟩
  · intro s xx us kV doc pm an cda ct cc hl
    match us, hl with
    | [a, b, c], _ => exact .of_eq rfl
  · intro xx us hl
    match us, hl with
    | [a, b, c], _ =>
      refine ⟨?_, rfl, fun vs r => ?_⟩
      · intro y hy
        simp [bnd] at hy
        rcases hy with rfl | rfl | rfl | rfl <;> rfl
      · cases r with
        | cons r1 r => cases r with
          | cons r2 r => cases r with
            | cons r3 r =>
              cases r
              exact .cons rfl r1 (.cons rfl r2 (.cons rfl r3 .nil))
  · intro fI L cda cc
    refine ⟨_, rfl, rfl, rfl, rfl, ?_⟩
    intro prog w A E xx us s Q hl hn hq
    match us, hl with
    | [a, b, c], _ =>
      exact Calls.spliced_cons (ldK hn (v := a) rfl (Calls.spliced_cons (ldK hn (v := b) rfl (Calls.spliced_cons (ldK hn (v := c) rfl (Calls.spliced_nil hq) rfl (by decide +kernel) rfl)) rfl (by decide +kernel) rfl)) rfl (by decide +kernel) rfl)
open WvE in
theorem sizeText : SupText "OtherSize.__init__" ["many", "wanted"] sSizeI := by
  refine ⟨⟨rfl, rfl, rfl, by decide +kernel, by decide +kernel, by decide +kernel, by decide +kernel, by decide +kernel⟩, by decide +kernel, by decide, _, _, _, _, _, _, _, (_, _, _, _, _), [(_, _, _, _, _)], _, rfl, rfl, rfl, rfl, ?_, ?_, ?_⟩
  · intro s xx us kV doc pm an cda ct cc hl
    match us, hl with
    | [a, b], _ => exact .of_eq rfl
  · intro xx us hl
    match us, hl with
    | [a, b], _ =>
      refine ⟨?_, rfl, fun vs r => ?_⟩
      · intro y hy
        simp [bnd] at hy
        rcases hy with rfl | rfl | rfl <;> rfl
      · cases r with
        | cons r1 r => cases r with
          | cons r2 r =>
            cases r
            exact .cons rfl r1 (.cons rfl r2 .nil)
  · intro fI L cda cc
    refine ⟨_, rfl, rfl, rfl, rfl, ?_⟩
    intro prog w A E xx us s Q hl hn hq
    match us, hl with
    | [a, b], _ =>
      exact Calls.spliced_cons (ldK hn (v := a) rfl (Calls.spliced_cons (ldK hn (v := b) rfl (Calls.spliced_nil hq) rfl (by decide +kernel) rfl)) rfl (by decide +kernel) rfl)
open WvE in
theorem tallyText : SupText "BadTally.__init__" ["index"] sTallyI := by
  refine ⟨⟨rfl, rfl, rfl, by decide +kernel, by decide +kernel, by decide +kernel, by decide +kernel, by decide +kernel⟩, by decide +kernel, by decide, _, _, _, _, _, _, _, (_, _, _, _, _), [], _, rfl, rfl, rfl, rfl, ?_, ?_, ?_⟩
  · intro s xx us kV doc pm an cda ct cc hl
    match us, hl with
    | [a], _ => exact .of_eq rfl
  · intro xx us hl
    match us, hl with
    | [a], _ =>
      refine ⟨?_, rfl, fun vs r => ?_⟩
      · intro y hy
        simp [bnd] at hy
        rcases hy with rfl | rfl <;> rfl
      · cases r with
        | cons r1 r =>
          cases r
          exact .cons rfl r1 .nil
  · intro fI L cda cc
    refine ⟨_, rfl, rfl, rfl, rfl, ?_⟩
    intro prog w A E xx us s Q hl hn hq
    match us, hl with
    | [a], _ =>
      exact Calls.spliced_cons (ldK hn (v := a) rfl (Calls.spliced_nil hq) rfl (by decide +kernel) rfl)
end Wv

set_option Elab.async false
set_option linter.all false
set_option maxRecDepth 100000
set_option maxHeartbeats 4000000
/-! try: .. with several clauses «except C as n» -/
namespace Wv
open PySem PySem.Spec PyProof.Rows L2
abbrev SuT : Type := Addr → Value → Option Addr → TS
/-- what behind a suite the name's slot is -/
def goneE (i : Nat) (D : Ends) : Ends := { nx := fun σ' H' => D.nx (σ'.set i none) H', rt := D.rt, bk := fun σ' H' => D.bk (σ'.set i none) H', ct := fun σ' H' => D.ct (σ'.set i none) H' }
/-- the clauses' wish, one after the other -/
def wAll (K : PySem.W.Frag) (i : Nat) (Wout : WX) (D : Ends) : List (Value × SuT) → WX
  | [] => Wout
  | (c, ts) :: r => fun cls d σ H => ∃ b, PySem.W.exmOne K cls c = some b ∧ (b = true → ∀ a, H a = none → ts a cls d (goneE i D) (σ.set i (some (.ref a))) H) ∧ (b = false → wAll K i Wout D r cls d σ H)
inductive Clauses (X : Cx) (n : Str) : List ExceptHandler → List (Value × SuT) → Prop
  | nil : Clauses X n [] []
  | cons {x : Str} {c : Value} {ts : SuT} {st0 : Stmt} {sts : List Stmt} {np pp : Pos} {hs : List ExceptHandler} {l : List (Value × SuT)} (hc : Names X x c)
      (hsu : ∀ (a : Addr) (oe : Obj) (cls : Value) (d : Option Addr) (pn : List (Addr × Obj)), Zc cls d oe → (∃ vs, oe.data = .fields vs) → PSs (X.suite a ((a, oe) :: pn)) (st0 :: sts) (ts a cls d)) (r : Clauses X n hs l) :
      Clauses X n (.ExceptHandler (some (.Name x np)) (some n) (st0 :: sts) pp :: hs) ((c, ts) :: l)
section
variable {X : Cx} {body : List Stmt} {c0 : ExceptHandler} {cs : List ExceptHandler} {l : List (Value × SuT)} {pos : Pos} {tb : WX → TS} {Wout : WX} {n : Str} {i : Nat}
theorem ps_try_all (hst : X.stack = X.env :: X.outer) (hfm : X.env.frame = some X.env.locals) (nd : X.N.Nodup) (hNi : X.N[i]? = some n) (hlo : X.env.kindOf n = some .local) (tk : Takes X Wout)
    (hbody : ∀ (W : WX) (pn : List (Addr × Obj)) (xe : Value → Shared → Prop), Takes (X.tr pn xe) W → PassesOwn (model X.prog X.w) X.A X.env xe → PSs (X.tr pn xe) body (tb W))
    (hcl : Clauses X n (c0 :: cs) l) : PS X (.Try body (c0 :: cs) [] [] pos) (fun D σ H => tb (wAll X.K i Wout D l) D σ H) := by
  refine ⟨fun pns s0 σ0 H0 D I0 h0 => ?_⟩
  have okX := I0.ok
  have frX : X.A.frames = some (X.env :: X.outer) := by rw [okX.frames, hst]
  have locN : Loc X.env.scope n := .inl hlo
  refine wpAny_Try_except (wpAny_mono ((hbody (wAll X.K i Wout D l) (X.pn ++ pns) (fun e s₁ => wpAny (model X.prog X.w) X.A (noteFrame e X.env) (fun _ s₂ => wpAny (model X.prog X.w) X.A (setFlight e none) (fun _ s₃ =>
    wpAny (model X.prog X.w) X.A (handleBy e X.env (c0 :: cs)) (SP X pns D) X.xe s₃) X.xe s₂) X.xe s₁) (fun u sx xx => ?_) PassesOwn.looking).run [] s0 σ0 H0 D (I0.toTry _) h0) (fun fl s1 hsp => ?_) (fun _ _ z => z))
  · obtain ⟨a, Bx, sI, pns2, σ2, H2, cls, d, rfl, J2, nb2, up2, sky2, na2, os2, ag2, w2⟩ := xx
    have J : Inv X pns σ2 H2 sI := J2.ofTry okX
    have sky : Sky Bx (X.env :: X.outer) a (Zc cls d) X.env.locals sx.heap := by rw [← hst]; exact sky2
    show wpAny (model X.prog X.w) X.A (noteFrame (.ref a) X.env) _ _ _
    refine Sky.land Zc.steady frX hfm sky fun g3 fl3 up3 => ?_
    have J3 : Inv X pns σ2 H2 { sx with heap := g3 } := J.landed nb2 fl3.1 (up2.trans up3) os2 ag2
    obtain ⟨ob3, fv3, ge3, gz3, gd3⟩ := fl3.there
    have notF : ∀ {g : Heap} {o : Obj} {fv : Array Value}, g.FunFrames Bx (X.env :: X.outer) → g.get? a = some o → o.data = .fields fv → a ∉ frs (X.env :: X.outer) := fun {g o fv} ff e dd hm => by
      obtain ⟨_, o', e', hnf⟩ := ff.mem hm
      have eo : o = o' := Option.some.inj (e.symm.trans e')
      subst eo
      exact hnf _ dd
    have nfa := notF fl3.2.2.1 ge3 gd3
    have naL : a ≠ X.env.locals := fun z => nfa (List.mem_filterMap.mpr ⟨X.env, List.mem_cons_self, by rw [hfm, z]⟩)
    have naF : a ∉ X.fs := fun hm => by
      obtain ⟨ev, hev, qv⟩ := List.mem_filterMap.mp hm
      exact nfa (List.mem_filterMap.mpr ⟨ev, List.mem_cons_of_mem _ hev, qv⟩)
    have S3 := J3.suite ge3 gd3 na2 naL naF
    have go : ∀ {cs2 : List ExceptHandler} {l2 : List (Value × SuT)}, Clauses X n cs2 l2 → wAll X.K i Wout D l2 cls d σ2 H2 →
        wpAny (model X.prog X.w) X.A (handleBy (.ref a) X.env cs2) (SP X pns D) X.xe { sx with heap := g3 } := by
      intro cs2 l2 hk
      induction hk with
      | nil =>
        intro wn
        refine wpAny_handleBy_nil ?_
        obtain ⟨_, _, _, oe, fv, Tb, oT, ts', he, hz, hd, h1, hr⟩ := id fl3
        unfold PySem.passOn
        refine wpAny_bind (wpAny_field he hd h1 ?_)
        rw [if_neg (show ¬ ((Value.ref Tb == Value.none) = true) from by simp)]
        have last : wpAny (model X.prog X.w) X.A (setFlight (.ref a) X.env.frame) (fun _ s4 => wpAny (model X.prog X.w) X.A (throw (.ref a) : Sem PySem.Flow) (SP X pns D) X.xe s4) X.xe { sx with heap := g3 } := by
          rw [hfm]
          refine HandSPX.setFlight_upZ fl3 fun g4 hh4 up4 => wpAny_throw (tk _ _ ?_)
          exact ⟨a, Bx, sI, pns, σ2, H2, cls, d, rfl, J, nb2, (up2.trans up3).trans up4, .inr (.inr (by rw [hst]; exact hh4)), na2, os2, ag2, wn⟩
        first
          | exact wpAny_bind (wpAny_pure (wpAny_bind last))
          | exact wpAny_bind last
      | @cons x c ts st0 sts np pp hs2 l3 hc hsu r ih =>
        intro wc
        obtain ⟨b, hb1, yes, no⟩ := wc
        refine wpAny_handleBy_cons (codeAny_handlers_test ?_) (fun z => by cases z)
        have LT : PySem.W.Looks (model X.prog X.w) g3 (typeOf (.ref a)) cls := fun A Q E s k q => wpAny_typeOf_ref (k _ _ ge3) (by rw [gz3.1]; exact q)
        have LM := PySem.W.exm_one (M := model X.prog X.w) (J3.kIn) LT hb1
        have ask : ∀ {Q : Value → Shared → Prop} {E : Value → Shared → Prop}, Q c { sx with heap := g3 } → wpAny (model X.prog X.w) (X.A.mark (some (.ref a))) (eval (.Name x np) X.env) Q E { sx with heap := g3 } := fun {Q E} q => by
          obtain ⟨hg, hdb, hm | ⟨hm, hv, hnn⟩⟩ := hc
          · exact ld_glob (X := X.suite a ((a, ob3) :: (X.pn ++ pns))) S3 hg hm q hdb
          · exact ld_blt (X := X.suite a ((a, ob3) :: (X.pn ++ pns))) S3 hg hm hv q hnn hdb
        refine ask (LM.here ?_)
        cases b with
        | true =>
          refine codeAny_handlers_suite_as (HandSPX.lands_againZ fl3 fun g4 fl4 up4 => ?_)
          have J4 : Inv X pns σ2 H2 { sx with heap := g4 } := J.landed nb2 fl4.1 ((up2.trans up3).trans up4) os2 ag2
          obtain ⟨ob4, fv4, ge4, gz4, gd4⟩ := fl4.there
          have S4 := J4.suite ge4 gd4 na2 naL naF
          refine store_ok (X := X.suite a ((a, ob4) :: (X.pn ++ pns))) (v := .ref a) S4 nd hNi locN rfl (fun s5 S5 => ?_) (.inr hlo)
          refine wpAny_mono ((hsu a ob4 cls d (X.pn ++ pns) gz4 ⟨_, gd4⟩).run [] s5 _ H2 _ S5 (yes rfl a na2)) (fun fl s6 hsp => ?_) (fun _ _ z => z.elim)
          have past : ∀ {σ6 : L2.St} {H6 : Hp} {Q : Shared → Prop}, Inv (X.suite a ((a, ob4) :: (X.pn ++ pns))) [] σ6 H6 s6 → (∀ s7, Inv X pns (σ6.set i none) H6 s7 → Q s7) →
              wpAny (model X.prog X.w) X.A (do bindName X.env n .none; unbindBehindTheSuite X.env n pp) (fun _ s7 => Q s7) X.xe s6 := fun S6 hq => gone_ok (S6.unsuite okX) nd hNi hlo hq
          cases fl with
          | next => obtain ⟨_, _, S6, q6⟩ := hsp; exact past S6 fun s7 J7 => ⟨_, _, J7, q6⟩
          | brk => obtain ⟨_, _, S6, q6⟩ := hsp; exact past S6 fun s7 J7 => ⟨_, _, J7, q6⟩
          | cont => obtain ⟨_, _, S6, q6⟩ := hsp; exact past S6 fun s7 J7 => ⟨_, _, J7, q6⟩
          | ret u => obtain ⟨_, _, _, S6, r6, q6⟩ := hsp; exact past S6 fun s7 J7 => ⟨_, _, _, J7, r6, q6⟩
        | false => exact (show wpAny _ X.A (handleBy (.ref a) X.env hs2) _ _ _ from ih (no rfl))
    exact go hcl w2
  · cases fl with
    | next => obtain ⟨σ1, H1, J1, q1⟩ := hsp; exact wpAny_execs_nil ⟨σ1, H1, J1.ofTry okX, q1⟩
    | brk => obtain ⟨σ1, H1, J1, q1⟩ := hsp; exact ⟨σ1, H1, J1.ofTry okX, q1⟩
    | cont => obtain ⟨σ1, H1, J1, q1⟩ := hsp; exact ⟨σ1, H1, J1.ofTry okX, q1⟩
    | ret u => obtain ⟨v1, σ1, H1, J1, r1, q1⟩ := hsp; exact ⟨v1, σ1, H1, J1.ofTry okX, r1, q1⟩
end
end Wv

set_option Elab.async false
set_option linter.all false
set_option maxRecDepth 100000
set_option maxHeartbeats 4000000
namespace Wv
open PySem PySem.Spec PyProof.Rows L2
/-! ### max of a tuple of ints -/
theorem ints_read {h : Heap} : ∀ {ns : List Int} {us : List Value}, Vals (iv ns) us → ReadsAll h us (ns.map PyData.int) []
  | [], _, .nil => .nil
  | n :: ns, _, .cons r t => by
    obtain ⟨k, rfl⟩ := r
    exact ReadsAll.cons (as := []) (bs := []) (.int n k) (ints_read t)
theorem ints_depth : ∀ ns : List Int, PyData.depthAll (ns.map PyData.int) ≤ 1
  | [] => by simp [PyData.depthAll]
  | n :: ns => by
    have := ints_depth ns
    simp only [List.map_cons, PyData.depthAll, PyData.depth]
    omega
theorem ints_alike (ns : List Int) : PySem.W.AlikeAll (ns.map PyData.int) := by
  constructor
  · intro x hx y hy
    obtain ⟨a, _, rfl⟩ := List.mem_map.mp hx
    obtain ⟨b, _, rfl⟩ := List.mem_map.mp hy
    simp [PySem.W.alike]
  · intro x hx
    obtain ⟨a, _, rfl⟩ := List.mem_map.mp hx
    simp
theorem fold_max : ∀ (ns : List Int) (n : Int), (ns.foldl max n = n ∨ ns.foldl max n ∈ ns) ∧ n ≤ ns.foldl max n ∧ ∀ m ∈ ns, m ≤ ns.foldl max n
  | [], n => ⟨.inl rfl, Int.le_refl _, fun _ h => by simp at h⟩
  | k :: ns, n => by
    obtain ⟨h1, h2, h3⟩ := fold_max ns (max n k)
    rw [List.foldl_cons]
    refine ⟨?_, by omega, fun m hm => ?_⟩
    · rcases h1 with h1 | h1
      · rw [h1]
        rcases Int.le_total n k with h | h
        · exact .inr (by rw [Int.max_eq_right h]; exact List.mem_cons_self)
        · exact .inl (Int.max_eq_left h)
      · exact .inr (List.mem_cons_of_mem _ h1)
    · rcases List.mem_cons.mp hm with rfl | hm
      · omega
      · exact h3 m hm
section
variable {X : Cx}
def rMaxT (K : PySem.W.Frag) : List V → Hp → VK → Prop := fun vs H Q => ∃ (a : Addr) (ns : List Int), vs = [V.ref a] ∧ SqT K H a (iv ns) ∧ 0 < ns.length ∧ ∀ m, m ∈ ns → (∀ y, y ∈ ns → y ≤ m) → Q (.int m) H
theorem cr_maxT (hc : X.calm = true) (hu : X.A.units + 64 < cLine) : CallR X (.builtin "max") (rMaxT X.K) := by
  intro pins s σ H vs us Q I r h
  obtain ⟨a, ns, rfl, hs, hne, q⟩ := h
  obtain ⟨its, rv, hp, _⟩ := I.tuple hs
  rw [Vals.ref1 r]
  cases ns with
  | nil => simp at hne
  | cons n ns =>
    obtain ⟨o, e, c, dd⟩ := id hp
    have hd := ints_depth (n :: ns)
    refine PySem.W.max_tuple_data (x := .int n) (xs := ns.map PyData.int) (vs := its.toArray) (I.ok.hd hc) ⟨o, e, c, dd⟩ (by simpa using ints_read (h := s.heap) rv) (ints_alike (n :: ns)) (by rw [List.map_cons] at hd; omega) fun i v h' tk bs hi rd hk => ?_
    rw [PySem.W.maxD_ints] at rd
    cases rd with
    | int z t =>
      obtain ⟨h1, h2, h3⟩ := fold_max ns n
      refine ⟨.int _, H, I.kept hk, ⟨t, rfl⟩, q _ ?_ ?_⟩
      · rcases h1 with h1 | h1
        · rw [h1]; exact List.mem_cons_self
        · exact List.mem_cons_of_mem _ h1
      · intro y hy
        rcases List.mem_cons.mp hy with rfl | hy
        · exact h2
        · exact h3 y hy
/-- of a list or a tuple -/
def rMaxB (b : Bool) (K : PySem.W.Frag) : List V → Hp → VK → Prop := fun vs H Q => ∃ (a : Addr) (ns : List Int), vs = [V.ref a] ∧ SqB b K H a (iv ns) ∧ 0 < ns.length ∧ ∀ m, m ∈ ns → (∀ y, y ∈ ns → y ≤ m) → Q (.int m) H
theorem cr_maxB (b : Bool) (hc : X.calm = true) (hu : X.A.units + 64 < cLine) : CallR X (.builtin "max") (rMaxB b X.K) := by
  cases b with
  | true => exact cr_max hc
  | false => exact cr_maxT hc hu
/-! ### repr of a bool -/
theorem cr_reprB : CallR X (.builtin "repr") (fun vs H Q => ∃ b : Bool, vs = [.bl b] ∧ Q (.str (if b then "True" else "False")) H) := by
  intro pins s σ H vs us Q I r h
  obtain ⟨b, rfl, q⟩ := h
  obtain ⟨u, rfl, ru⟩ := vals1 r
  obtain rfl : u = Value.bool b := ru
  exact PySem.P.repr_of_bool ⟨.str _, H, I.tok _, ⟨_, rfl⟩, q⟩
/-! ### {k: v}, k a tuple -/
def tDisp1T (tk tv : TE) : TE := fun σ H Q => ∀ p, H p = none → tk σ (upd H p (.dT [])) fun x H1 => tv σ H1 fun y H2 => H2 p = some (.dT []) ∧ ∃ b ks, x = .ref b ∧ H2 b = some (.tup (ks.map kV)) ∧ Q (.ref p) (upd H2 p (.dT [(ks, y)]))
theorem pe_disp1T {pos : Pos} {k v : Expr} {tk tv : TE} (hu : X.A.units + 64 < cLine) (hk : PE X k tk) (hv : PE X v tv) : PE X (.Dict [some k] [v] pos) (tDisp1T tk tv) := by
  refine ⟨fun pins s σ H Q I q => ?_⟩
  have hn := I.hok.fresh (Nat.le_refl s.heap.objs.size)
  have I1 := I.laid (a := s.heap.objs.size) (o := .dT []) (h' := s.heap.push { cls := .type "dict", data := .dict #[] }) (t' := s.toks) (fun _ _ z => Heap.get?_push_of_some _ z) (Nat.le_refl _) (dt_empty s.heap I.big)
  rw [arm_eval_Dict, zip_pairTrees [some k] [v] X.env pos rfl rfl, dictDisplay_pairs (pairTrees [some k] [v] X.env pos) (by simp [pairTrees]) (by simp [pairTrees])]
  refine wpAny_bind (wpAny_standAt (wpAny_bind (wpAny_subDictH (knd := tupleKind (mixKind X.prog X.w)) (Q := fun d s' => wpAny (model X.prog X.w) X.A (pure (Value.ref d)) (EP X pins σ Q) X.xe s') (show X.A.units < cLine by omega) (by simp [pairTrees]) ?_)))
  refine pairTrees_cons_walk (thn (hk.run pins _ σ _ _ I1 (q _ hn)) fun u s1 ⟨x, H1, I2, rx, q1⟩ => thn (hv.run pins s1 σ H1 _ I2 q1) fun w2 s2 ⟨y, H2, I3, ry, e0, b, ks, ex, eb, q2⟩ => pairTrees_nil_walk ?_)
  subst ex
  obtain rfl : u = Value.ref b := rx
  obtain ⟨z, hd, xs0, r0, dd⟩ := dt_of I3.hok e0
  cases r0
  refine ⟨[(ks, b, w2)], ⟨rfl, rfl, key_of I3.hok eb, trivial⟩, dd, fun h' tk' dd' hs => wpAny_pure ⟨.ref s.heap.objs.size, _, ?_, rfl, q2⟩⟩
  obtain ⟨o, es, ep, ho, h2, h3, h4, _, h5⟩ := dd'
  refine d_write I3 (by rw [e0]; exact True.intro) hs ⟨o, ho⟩ ⟨by show 1 ≤ sizeLine; decide, hd, [(ks, b, w2)], .cons ⟨rfl, ?_, ry⟩ .nil, o, es, ep, ho, h2, h3, h4, h5⟩
  rw [upd_ne (ne_of eb e0 (fun z => nomatch z))]
  exact eb
end
end Wv

set_option Elab.async false
set_option linter.all false
set_option maxRecDepth 100000
set_option maxHeartbeats 4000000
namespace Wv
open PySem PySem.Spec PyProof.Rows L2
/-! ### sorted of tuples of ints, all of one length -/
section
variable {prog : Program} {w : World} {A : Around} {s : Shared}
theorem tups_tot {d : Nat} {B : Int} {vs : List Value} (hv : TS.TupsOk s.heap d B vs) : Srt.Tot prog w A s (tuples' true) (fun p => p.1 ∈ vs) := by
  intro p q hm hm'
  obtain ⟨ns, ⟨a, xs, e1, ⟨o, ho, hc, n, hd⟩, i1⟩, l1, b1⟩ := hv _ hm
  obtain ⟨ms, ⟨a', ys, e2, ⟨o', ho', hc', n', hd'⟩, i2⟩, l2, b2⟩ := hv _ hm'
  refine ⟨decide (TS.code B ns < TS.code B ms), ?_⟩
  rw [e1, e2]
  refine PySem.W.kat_lt ho hd ho' hd' ?_
  have z1 := i1.length
  have z2 := i2.length
  rw [Array.length_toList] at z1 z2
  rw [show decide (xs.size < ys.size) = false from decide_eq_false (by omega)]
  exact TS.lex_ints 0 i1 i2 (by omega) b1 b2 ⟨rfl, rfl⟩
theorem tups_sortable {d : Nat} {B : Int} {a : Addr} {vs : List Value} (hd : 1 ≤ d) (h0 : 0 < vs.length) (hv : TS.TupsOk s.heap d B vs) (ha : ∀ o, s.heap.get? a = some o → o.cls ≠ .type "tuple") : Srt.Sortable prog w A s a vs := by
  intro h' keep
  have hv' : TS.TupsOk h' d B vs := hv.keeps fun b o e c => keep b o (fun z => by subst z; exact ha o e c) e
  obtain ⟨fs, k1, k2, k3⟩ := TS.firsts_of hd vs hv'
  refine ⟨tuples' true, fun Q E hq => PySem.W.kat_kind (T := .type "int") k1 (by omega) (fun f hm => ?_) rfl ?_, tups_tot (s := { s with heap := h' }) hv'⟩
  · obtain ⟨m, t, rfl⟩ := k3 f hm
    exact PySem.W.Looks.now
  · rw [show (Value.type "int" != Value.type "tuple") = true from by decide]
    exact hq
end
section
variable {X : Cx}
def rSortedT (K : PySem.W.Frag) : List V → Hp → VK → Prop := fun vs H Q => ∃ (a : Addr) (d : Nat) (B : Int) (xs : List V), vs = [V.ref a] ∧ SqL K H a xs ∧ 1 ≤ d ∧ (∀ x ∈ xs, ∃ t ns, x = V.ref t ∧ H t = some (.tup (iv ns)) ∧ ns.length = d ∧ ∀ m ∈ ns, 0 ≤ m ∧ m < B) ∧
  ∀ ys p, ys.Perm xs → H p = none → Q (.ref p) (upd H p (.lst ys))
theorem ints_are : ∀ {ns : List Int} {us : List Value}, Vals (iv ns) us → IntsAre us ns
  | [], _, .nil => .nil
  | n :: ns, _, .cons r t => by
    obtain ⟨k, rfl⟩ := r
    exact .cons n k (ints_are t)
theorem cr_sortedT : CallR X (.builtin "sorted") (rSortedT X.K) := by
  intro pins s σ H vs us Q I r h
  obtain ⟨a, d, B, xs, rfl, hs, hd, hx, q⟩ := h
  obtain ⟨its, rv, hl, hz⟩ := I.list hs
  obtain ⟨u, rfl, ru⟩ := vals1 r
  obtain rfl : u = Value.ref a := ru
  obtain ⟨e1, e2⟩ := refs_back rv fun x m => by
    obtain ⟨t, _, e, _⟩ := hx x m
    exact ⟨t, e⟩
  have ok : TS.TupsOk s.heap d B its := fun v hv => by
    obtain ⟨t, rfl⟩ := e2 v hv
    obtain ⟨t', ns, e, ht, hn, hb⟩ := hx _ (by rw [e1]; exact List.mem_map.mpr ⟨_, hv, rfl⟩ : V.ref t ∈ xs)
    cases e
    obtain ⟨_, us2, r2, p2⟩ := I.hok _ _ ht
    exact ⟨ns, ⟨t, us2.toArray, rfl, p2, by simpa using ints_are r2⟩, hn, hb⟩
  refine Srt.sorted_any hl.isList (by rw [← rv.length]; exact hz) (fun h2 h₁ b hb k => ?_) fun out hp => ?_
  · refine tups_sortable (B := B) (s := { s with heap := h₁ }) hd (by omega) (fun v hv => ?_) fun o e => ?_
    · obtain ⟨ns, p, r⟩ := ok v hv
      exact ⟨ns, p.keeps fun c o e _ => (k c o e).2, r⟩
    · cases Option.some.inj ((show some o = some (seqObj "list" its.toArray 0) from e.symm.trans hb))
      intro c
      exact absurd (Value.type.inj c) (by decide)
  · have h3 : ∀ u ∈ out, ∃ a, u = Value.ref a := fun u hu => e2 u (hp.mem_iff.mp hu)
    obtain ⟨n, hn⟩ := PyProof.Rows.sortedAll_at s.heap its out.toArray
    refine ⟨.ref (s.heap.objs.size + 1), upd H (s.heap.objs.size + 1) (.lst (out.map backV)), I.laid (t' := s.toks) (fun b o e => PyProof.Rows.sortedAll_old e) (Nat.le_succ _) ⟨?_, out, n, vals_back h3, hn⟩, rfl, q _ _ ?_ (I.hok.fresh (Nat.le_succ _))⟩
    · rw [List.length_map, hp.length_eq, ← rv.length]
      exact hz
    · rw [e1]
      exact hp.map backV
end
end Wv

set_option Elab.async false
set_option linter.all false
set_option maxRecDepth 100000
set_option maxHeartbeats 4000000
namespace Wv
open PySem PySem.Spec PyProof.Rows L2
def bitT (n j : Nat) : Str := if n / 2 ^ j % 2 = 1 then "1" else "0"
def bitsT (n k : Nat) : Str := Txt.join "" ((List.range k).map (bitT n)).reverse
theorem bit_len (n j : Nat) : (bitT n j).length = 1 := by
  unfold bitT
  split <;> rfl
theorem sum_ones : ∀ {l : List Nat}, (∀ x ∈ l, x = 1) → l.sum = l.length
  | [], _ => rfl
  | x :: l, h => by
    rw [List.sum_cons, List.length_cons, sum_ones (fun y hy => h y (List.mem_cons_of_mem _ hy)), h x List.mem_cons_self]
    omega
section
variable {P : Program} {w : World} {K : PySem.W.Frag} {mg : Str → Option Value} {base : Heap}
/-! ### bits_of -/
def spBitsOf : Sp := fun vs H Q _ => ∃ n k : Nat, vs = [.int n, .int k] ∧ k ≤ 63 ∧ ∀ H', Same H H' → Q (.str (bitsT n k)) H'
theorem scBitsOf : FnScope ["number", "size", "found", "turn"] ["number", "size"] (defScope sBitsOf) := ⟨rfl, rfl, rfl, by decide +kernel, rfl, by decide +kernel, by decide +kernel⟩
theorem ok_bitsOf {f : Addr} {fd : FuncData} (F : FnP K "bits_of" sBitsOf f fd) (T : Bl mg) : FnOk P w K mg base CX0 1 f fd ["number", "size"] spBitsOf := by
  refine F.ok scBitsOf (fun vs H Q E h => ?_) (fun cdv A outer s H vs Q E hr h => ?_)
  · obtain ⟨n, k, rfl, _⟩ := h
    rfl
  · obtain ⟨n, k, rfl, hk, q⟩ := h
    refine ⟨_, PSs.nox (pss_cons (ps_set (i := 2) scBitsOf.nd rfl (Or.inl rfl) (pe_lst pa_nil))
      (pss_cons (ps_for PassesOwn.never rfl (pi_range1 rfl T.range (pa_cons (pv 1) pa_nil)) (pg_name (i := 3) scBitsOf.nd rfl (Or.inl rfl))
        (pss_cons (ps_expr (pe_bm PySem.F.plainAttrs_list PySem.F.slot_list_append PySem.F.type_list_append mt_append (pv 2)
          (pa_cons (pe_ifExp (pt_cmpR op_eq (pe_op op_mod (pv 0) pe_int) pe_int (nomark _)) pe_str pe_str) pa_nil)))
        (pss_one (ps_set (i := 0) scBitsOf.nd rfl (Or.inl rfl) (pe_op op_fdiv (pv 0) pe_int)))))
      (pss_one (ps_ret (pe_join pe_str (pe_revL (pv 2))))))), ?_⟩
    refine ⟨(by show 0 ≤ sizeLine; decide), fun p hp => ?_⟩
    refine ⟨_, rfl, _, rfl, by omega, by omega, for_range (n := k) (fun i σ H' => Same H H' ∧ H' p = some (.lst (((List.range i).map (bitT n)).map V.str)) ∧ ∃ z, σ = [some (.int ((n / 2 ^ i : Nat) : Int)), some (.int (k : Int)), some (.ref p), z])
      ⟨same_new hp, upd_same, none, by rw [Nat.pow_zero, Nat.div_one]; rfl⟩ ?_ ?_⟩
    · rintro i σ H' hi ⟨sH, hp', z, rfl⟩
      refine ⟨_, rfl, .inl ⟨rfl, _, SqL.of hp'⟩, ?_⟩
      refine ⟨_, rfl, _, _, rfl, rfl, (by show (0 : Int) < 2; decide), rfl, _, rfl, ?_⟩
      have e2 : (n / 2 ^ i : Nat) / 2 = n / 2 ^ (i + 1) := by rw [Nat.div_div_eq_div_mul, Nat.pow_succ]
      have h2 : ((n / 2 ^ i : Nat) : Int).emod 2 = ((n / 2 ^ i % 2 : Nat) : Int) := rfl
      have snoc : ((List.range (i + 1)).map (bitT n)).map V.str = ((List.range i).map (bitT n)).map V.str ++ [V.str (bitT n i)] := by rw [List.range_succ, List.map_append, List.map_append]; rfl
      have hz : (((List.range i).map (bitT n)).map V.str).length < sizeLine := small5l (by rw [List.length_map, List.length_map, List.length_range]; omega)
      refine ite2 (fun h1 => ?_) (fun h1 => ?_)
      · have e1 : bitT n i = "1" := if_pos (by
          have z1 := of_decide_eq_true h1
          simp only [V.int.injEq] at z1
          omega)
        rw [e1] at snoc
        refine ⟨p, _, _, rfl, rfl, hp', hz, ?_⟩
        refine ⟨_, rfl, _, _, rfl, rfl, ⟨by decide, by decide⟩, same_mut sH hp, by rw [upd_same, snoc], some (.int (0 + (i : Int))), ?_⟩
        rw [← e2]
        rfl
      · have e1 : bitT n i = "0" := if_neg (fun z => h1 (decide_eq_true (by
          simp only [V.int.injEq]
          omega)))
        rw [e1] at snoc
        refine ⟨p, _, _, rfl, rfl, hp', hz, ?_⟩
        refine ⟨_, rfl, _, _, rfl, rfl, ⟨by decide, by decide⟩, same_mut sH hp, by rw [upd_same, snoc], some (.int (0 + (i : Int))), ?_⟩
        rw [← e2]
        rfl
    · rintro σ H' ⟨sH, hp', z, rfl⟩
      refine ⟨⟨_, rfl⟩, _, rfl, p, _, rfl, SqL.of hp', fun q' hq' => ⟨_, q', ((List.range k).map (bitT n)).reverse, rfl, rfl, .inl (SqL.of (by rw [upd_same, List.map_reverse])), ?_, q _ (same_new' sH hq')⟩⟩
      have : ((((List.range k).map (bitT n)).reverse).map (·.length)).sum = k := by
        rw [sum_ones, List.length_map, List.length_reverse, List.length_map, List.length_range]
        intro x hx
        obtain ⟨y, hy, rfl⟩ := List.mem_map.mp hx
        obtain ⟨j, _, rfl⟩ := List.mem_map.mp (List.mem_reverse.mp hy)
        exact bit_len n j
      rw [this, List.length_reverse, List.length_map, List.length_range]
      show k + k * 0 ≤ _
      omega
end
end Wv

set_option Elab.async false
set_option linter.all false
set_option maxRecDepth 100000
set_option maxHeartbeats 4000000
namespace Wv
open PySem PySem.Spec PyProof.Rows L2
/-! ### references to tuples -/
def RefT (H : Hp) (x : V) (ns : List V) : Prop := ∃ t, x = .ref t ∧ H t = some (.tup ns)
theorem RefT.same {H H' : Hp} {x : V} {ns : List V} (s : Same H H') (h : RefT H x ns) : RefT H' x ns := let ⟨t, e, z⟩ := h; ⟨t, e, s _ _ z⟩
abbrev Refs (H : Hp) : List V → List (List V) → Prop := Paired (RefT H)
theorem Refs.same {H H' : Hp} {xs : List V} {nss : List (List V)} (s : Same H H') (h : Refs H xs nss) : Refs H' xs nss := Paired.mapP h fun _ _ z => z.same s
theorem Refs.lst {H : Hp} {D : Addr} {acc acc' : List V} {xs : List V} {nss : List (List V)} (h : Refs H xs nss) (e : H D = some (.lst acc)) : Refs (upd H D (.lst acc')) xs nss :=
  Paired.mapP h fun _ _ ⟨t, ex, et⟩ => ⟨t, ex, by rw [upd_ne (ne_of et e (fun z => nomatch z))]; exact et⟩
/-- the pair that a value holds -/
def kOf (H : Hp) : V → Int × Int
  | .ref t => (match H t with
    | some (.tup [.int a, .int b]) => (a, b)
    | _ => (0, 0))
  | _ => (0, 0)
def pv2 (p : Int × Int) : List V := [.int p.1, .int p.2]
theorem kOf_ref {H : Hp} {x : V} {p : Int × Int} (h : RefT H x (pv2 p)) : kOf H x = p := by
  obtain ⟨t, rfl, e⟩ := h
  simp only [kOf, e, pv2]
theorem refs_k {H : Hp} : ∀ {xs : List V} {ps : List (Int × Int)}, Refs H xs (ps.map pv2) → xs.map (kOf H) = ps ∧ ∀ x ∈ xs, RefT H x (pv2 (kOf H x))
  | [], [], _ => ⟨rfl, fun _ h => by simp at h⟩
  | [], _ :: _, h => by cases h
  | _ :: _, [], h => by cases h
  | x :: xs, p :: ps, .cons h t => by
    obtain ⟨h1, h2⟩ := refs_k t
    have e := kOf_ref h
    refine ⟨by rw [List.map_cons, h1, e], fun y hy => ?_⟩
    rcases List.mem_cons.mp hy with rfl | hy
    · rw [e]
      exact h
    · exact h2 y hy
/-- the pairs in their order -/
noncomputable def ordP (ps : List (Int × Int)) : List (Int × Int) := by
  classical
  exact if h : ∃ m, SrtO.Srtd SrtO.lexB m ∧ SrtO.Stb SrtO.lexB m ps then Classical.choose h else []
theorem lexB_swo : SrtO.Swo SrtO.lexB := ⟨fun x y h => by
  have a := SrtO.lexB_iff.mp h
  exact SrtO.lexB_no.mpr (by omega), fun x y z h1 h2 => by
  have a := SrtO.lexB_no.mp h1
  have b := SrtO.lexB_no.mp h2
  exact SrtO.lexB_no.mpr (by omega)⟩
theorem ordP_is {ps m : List (Int × Int)} (h1 : SrtO.Srtd SrtO.lexB m) (h2 : SrtO.Stb SrtO.lexB m ps) : m = ordP ps := by
  have h : ∃ m, SrtO.Srtd SrtO.lexB m ∧ SrtO.Stb SrtO.lexB m ps := ⟨m, h1, h2⟩
  unfold ordP
  rw [dif_pos h]
  obtain ⟨c1, c2⟩ := Classical.choose_spec h
  exact SrtO.stb_uniq lexB_swo h1 c1 (h2.trans ⟨c2.perm.symm, fun x => (c2.cls x).symm⟩)
/-! ### the words of lengths -/
def pairsOf (ls : List Nat) : List (Int × Int) := ls.zipIdx.map fun p => ((p.1 : Int), (p.2 : Int))
abbrev CSt := Nat × Nat × List (Key × V)
def cstep (s : CSt) (p : Int × Int) : CSt := (s.1 * 2 ^ (p.1.toNat - s.2.1) + 1, p.1.toNat, putK s.2.2 (Sum.inl p.2) (.str (bitsT (s.1 * 2 ^ (p.1.toNat - s.2.1)) p.1.toNat)))
def cfold (L : List (Int × Int)) : CSt := L.foldl cstep (0, 0, [])
theorem cfold_snoc (L : List (Int × Int)) (p : Int × Int) : cfold (L ++ [p]) = cstep (cfold L) p := by
  unfold cfold
  rw [List.foldl_append]
  rfl
noncomputable def wordOf (ls : List Nat) (j : Nat) : Str := match valV (cfold (ordP (pairsOf ls))).2.2 (Sum.inl (j : Int)) with
  | some (.str x) => x
  | _ => ""
noncomputable def wordsOf (ls : List Nat) : List Str := (List.range ls.length).map (wordOf ls)
theorem fold_str : ∀ (L : List (Int × Int)) (s : CSt), (∀ k v, valV s.2.2 k = some v → ∃ x, v = .str x) → ∀ k, ((valV s.2.2 k).isSome = true ∨ ∃ p ∈ L, (Sum.inl p.2 : Key) = k) → ∃ x, valV (L.foldl cstep s).2.2 k = some (.str x)
  | [], s, h, k, hk => by
    rcases hk with hk | ⟨p, hp, _⟩
    · obtain ⟨v, hv⟩ := Option.isSome_iff_exists.mp hk
      obtain ⟨x, rfl⟩ := h k v hv
      exact ⟨x, hv⟩
    · simp at hp
  | p :: L, s, h, k, hk => by
    rw [List.foldl_cons]
    refine fold_str L (cstep s p) (fun k' v hv => ?_) k ?_
    · have e : (cstep s p).2.2 = putK s.2.2 (Sum.inl p.2) (.str (bitsT (s.1 * 2 ^ (p.1.toNat - s.2.1)) p.1.toNat)) := rfl
      rw [e, valV_put] at hv
      by_cases c : k' = Sum.inl p.2
      · rw [if_pos c] at hv
        exact ⟨_, (Option.some.inj hv).symm⟩
      · rw [if_neg c] at hv
        exact h k' v hv
    · have e : (cstep s p).2.2 = putK s.2.2 (Sum.inl p.2) (.str (bitsT (s.1 * 2 ^ (p.1.toNat - s.2.1)) p.1.toNat)) := rfl
      rw [e, valV_put]
      by_cases c : k = Sum.inl p.2
      · rw [if_pos c]
        exact .inl rfl
      · rw [if_neg c]
        rcases hk with hk | ⟨q, hq, hqk⟩
        · exact .inl hk
        · rcases List.mem_cons.mp hq with rfl | hq
          · exact absurd hqk.symm c
          · exact .inr ⟨q, hq, hqk⟩
theorem cfold_len (L : List (Int × Int)) : (cfold L).2.2.length ≤ L.length := by
  have key : ∀ (L : List (Int × Int)) (s : CSt), (L.foldl cstep s).2.2.length ≤ s.2.2.length + L.length := by
    intro L
    induction L with
    | nil => intro s; exact Nat.le_refl _
    | cons p L ih =>
      intro s
      rw [List.foldl_cons]
      have h1 := ih (cstep s p)
      have h2 := length_putK s.2.2 (Sum.inl p.2 : Key) (.str (bitsT (s.1 * 2 ^ (p.1.toNat - s.2.1)) p.1.toNat))
      have h3 : (cstep s p).2.2.length ≤ s.2.2.length + 1 := h2
      rw [List.length_cons]
      omega
  have := key L (0, 0, [])
  simpa [cfold] using this
theorem cfold_size {L : List (Int × Int)} {i : Nat} {q : Int × Int} (hq : L[i + 1]? = some q) (h : L.Pairwise fun x y => x.1 ≤ y.1) : (cfold (L.take (i + 1))).2.1 ≤ q.1.toNat := by
  have hi : i < L.length := by have := lt_of_get hq; omega
  have e : L.take (i + 1) = L.take i ++ [L[i]] := take_snoc (List.getElem?_eq_getElem hi)
  rw [e, cfold_snoc]
  show (L[i]).1.toNat ≤ q.1.toNat
  have hq2 : q = L[i + 1]'(lt_of_get hq) := by
    rw [List.getElem?_eq_getElem (lt_of_get hq)] at hq
    exact (Option.some.inj hq).symm
  have := List.pairwise_iff_getElem.mp h i (i + 1) hi (lt_of_get hq) (by omega)
  rw [hq2]
  omega
theorem srtd_fst {L : List (Int × Int)} (h : SrtO.Srtd SrtO.lexB L) : L.Pairwise fun x y => x.1 ≤ y.1 := List.Pairwise.imp (fun {x y} z => by
  by_cases c : x.1 ≤ y.1
  · exact c
  · have : SrtO.lexB y x = true := SrtO.lexB_iff.mpr (.inl (by omega))
    rw [this] at z
    cases z) h
theorem word_get {ls : List Nat} {L : List (Int × Int)} (hL : L = ordP (pairsOf ls)) (hp : L.Perm (pairsOf ls)) {j : Nat} (hj : j < ls.length) : valV (cfold L).2.2 (Sum.inl (j : Int)) = some (.str (wordOf ls j)) := by
  have hm : (((ls[j] : Nat) : Int), (j : Int)) ∈ L := hp.mem_iff.mpr (List.mem_map.mpr ⟨(ls[j], j), by
    rw [List.mem_zipIdx_iff_getElem?]
    exact List.getElem?_eq_getElem hj, rfl⟩)
  obtain ⟨x, hx⟩ := fold_str L (0, 0, []) (fun k v h => by cases h) (Sum.inl (j : Int)) (.inr ⟨_, hm, rfl⟩)
  have hx' : valV (cfold L).2.2 (Sum.inl (j : Int)) = some (.str x) := hx
  have e : wordOf ls j = x := by
    unfold wordOf
    rw [← hL, hx']
  rw [e]
  exact hx'
section
variable {P : Program} {w : World} {K : PySem.W.Frag} {mg : Str → Option Value} {base : Heap}
/-! ### canonical -/
def spCanonical (K : PySem.W.Frag) : Sp := fun vs H Q _ => ∃ (a : Addr) (ls : List Nat), vs = [.ref a] ∧ SqT K H a (lv ls) ∧ ls.length ≤ 40 ∧ (∀ l ∈ ls, l ≤ 63) ∧ ∀ H' p, Same H H' → H p = none → H' p = some (.tup ((wordsOf ls).map V.str)) → Q (.ref p) H'
theorem scCanonical : FnScope ["lengths", "found", "number", "size", "length", "sign"] ["lengths"] (defScope sCanonical) := ⟨rfl, rfl, rfl, by decide +kernel, rfl, by decide +kernel, by decide +kernel⟩
/-- what a def of the module is to its callers -/
structure Cl (P : Program) (w : World) (K : PySem.W.Frag) (mg : Str → Option Value) (base : Heap) (CX : CXT) (x : Str) (f : Addr) (fd : FuncData) (k : Nat) (ps : List Str) (sp : Sp) : Prop where
  g : mg x = some (.ref f)
  kp : PySem.W.keepIn K (.ref f) = true
  b : Binds K fd ps []
  ok : FnOk P w K mg base CX k f fd ps sp
theorem ok_canonical {f f1 f2 : Addr} {fd fd1 fd2 : FuncData} (F : FnP K "canonical" sCanonical f fd) (T : Bl mg) (C1 : Cl P w K mg base CX0 "two_power" f1 fd1 1 ["many"] spTwoPower) (C2 : Cl P w K mg base CX0 "bits_of" f2 fd2 1 ["number", "size"] spBitsOf) :
    FnOk P w K mg base CX0 2 f fd ["lengths"] (spCanonical K) := by
  refine F.ok scCanonical (fun vs H Q E h => ?_) (fun cdv A outer s H vs Q E hr h => ?_)
  · obtain ⟨a, ls, rfl, _⟩ := h
    rfl
  · obtain ⟨a, ls, rfl, ha, hlen, h63, k⟩ := h
    refine ⟨_, PSs.nox (pss_cons (ps_asg (pe_tup (pa_cons pe_dnewK (pa_cons pe_int (pa_cons pe_int pa_nil)))) (pg_tup rfl (pgs_cons (pg_name (i := 1) scCanonical.nd rfl (Or.inr rfl)) (pgs_cons (pg_name (i := 2) scCanonical.nd rfl (Or.inl rfl)) (pgs_cons (pg_name (i := 3) scCanonical.nd rfl (Or.inl rfl)) pgs_nil)))))
      (pss_cons (ps_for PassesOwn.never rfl (pi_list (pe_callB cr_sortedPO (by rfl) T.sorted (by decide +kernel) (pa_cons
          (pe_lc (own := [("sign", 5), ("length", 4)]) (g := gTup K 2 (gCons (gName 5) (gCons (gName 4) gNil))) rfl scCanonical.nd (pi_enumB false (by rfl) T.enumerate (pa_cons (pv 0) pa_nil)) (blkOk_by (N := ["lengths", "found", "number", "size", "length", "sign"]) (sc := defScope sCanonical) (by decide +kernel))
            (fun _ _ _ _ _ => by exact pg_tup rfl (pgs_cons (pg_name (i := 5) scCanonical.nd rfl (Or.inl rfl)) (pgs_cons (pg_name (i := 4) scCanonical.nd rfl (Or.inl rfl)) pgs_nil)))
            (fun _ _ _ _ _ => pts_nil) (fun _ _ _ _ _ => by exact pe_tup (pa_cons (pv 4) (pa_cons (pv 5) pa_nil)))) pa_nil)))
          (pg_tup rfl (pgs_cons (pg_name (i := 4) scCanonical.nd rfl (Or.inl rfl)) (pgs_cons (pg_name (i := 5) scCanonical.nd rfl (Or.inl rfl)) pgs_nil)))
          (pss_cons (ps_set (i := 2) scCanonical.nd rfl (Or.inl rfl) (pe_op op_mul (pv 2) (pe_call C1.ok hr (by rfl) C1.g C1.kp C1.b .nil pass0 (pa_cons (pe_op op_sub (pv 4) (pv 3)) pa_nil))))
          (pss_cons (ps_set (i := 3) scCanonical.nd rfl (Or.inl rfl) (pv 4))
          (pss_cons (ps_dput (hu_of hr) (pv 1) (pv 5) (pe_call C2.ok hr (by rfl) C2.g C2.kp C2.b .nil pass0 (pa_cons (pv 2) (pa_cons (pv 3) pa_nil))) rfl)
          (pss_one (ps_aug (i := 2) scCanonical.nd rfl (Or.inl rfl) pe_int ip_add))))))
      (pss_one (ps_ret (pe_callTy call_tuple_of (by rfl) T.tuple (by decide +kernel) (pa_cons
        (pe_lc (own := [("sign", 5)]) rfl scCanonical.nd (pi_range1 (by rfl) T.range (pa_cons (pe_callB call_len_seq (by rfl) T.len (by decide +kernel) (pa_cons (pv 0) pa_nil)) pa_nil)) (blkOk_by (N := ["lengths", "found", "number", "size", "length", "sign"]) (sc := defScope sCanonical) (by decide +kernel))
          (fun _ _ _ _ _ => pg_name (i := 5) scCanonical.nd rfl (Or.inl rfl)) (fun _ _ _ _ _ => pts_nil) (fun _ _ _ _ _ => pe_dget (hu_of hr) (pv 1) (pv 5) (fun _ _ => rfl))) pa_nil)))))), ?_⟩
    intro d hd
    refine ⟨(by show 3 ≤ sizeLine; decide), fun p hp => ⟨p, _, rfl, .inl (.inl upd_same), rfl, _, _, rfl, _, _, rfl, _, _, rfl, rfl, ?_⟩⟩
    refine ⟨_, rfl, a, _, rfl, SqB.t (same_tup (same_new' (same_new hd) hp) ha), fun D hD => ?_⟩
    refine lc_it (walk_enumB (b := false)) (fun i H' => Same (upd (upd H d (.dK [])) p (.tup [V.ref d, V.int 0, V.int 0])) H' ∧ ∃ xs : List V, H' D = some (.lst xs) ∧ Refs H' xs (((pairsOf ls).take i).map pv2)) ⟨same_new hD, [], upd_same, .nil⟩ ?_ ?_ ?_
    · rintro i H' _ ⟨sH, _⟩
      exact SqB.t (same_tup (Same.trans (same_new' (same_new hd) hp) sH) ha)
    · rintro i x H' H2 hi ⟨sH, xs, hDx, hr'⟩ ⟨T', v, rfl, hT, rfl, hv⟩
      obtain ⟨l, hl, rfl⟩ := get_map hv
      refine ⟨T', _, rfl, .inl (.inl upd_same), rfl, _, _, rfl, _, _, rfl, rfl, rfl, ?_⟩
      refine ⟨_, rfl, _, rfl, (by show 2 ≤ sizeLine; decide), fun t ht => ?_⟩
      have hDT : H' D ≠ none := by rw [hDx]; intro z; cases z
      have nD : ∀ {b : Addr}, H' b = none → D ≠ b := fun z e => hDT (by rw [e]; exact z)
      have ht' : H' t = none := by
        by_cases c : t = T'
        · rw [c]; exact hT
        · rw [upd_ne c] at ht
          exact ht
      have s2 : Same H' (upd (upd H' T' (.tup [.int i, .int l])) t (.tup [.int l, .int i])) := same_new' (same_new hT) ht
      have hD2 : upd (upd H' T' (.tup [.int i, .int l])) t (.tup [.int l, .int i]) D = some (.lst xs) := s2 _ _ hDx
      have hp1 : (pairsOf ls)[i]? = some ((l : Int), (i : Int)) := by
        unfold pairsOf
        rw [List.getElem?_map, List.getElem?_zipIdx, hl]
        simp
      have hxl : xs.length ≤ 40 := by
        have := Paired.length hr'
        rw [List.length_map] at this
        have h2 : (pairsOf ls).length = ls.length := by simp [pairsOf]
        have h3 : (List.take i (pairsOf ls)).length ≤ (pairsOf ls).length := by rw [List.length_take]; omega
        omega
      refine ⟨xs, hD2, small5l (by omega), same_mut (Same.trans sH s2) hD, _, upd_same, ?_⟩
      rw [take_snoc hp1, List.map_append]
      exact ((hr'.same s2).lst hD2).snoc ⟨t, rfl, by rw [upd_ne (fun z => nD ht' z.symm), upd_same]; rfl⟩
    · rintro H1 ⟨sH1, xs, hDx, hr1⟩
      rw [List.take_of_length_le (by simp [pairsOf])] at hr1
      obtain ⟨hk1, hk2⟩ := refs_k hr1
      refine ⟨D, xs, kOf H1, rfl, SqL.of hDx, fun x hx => ?_, fun ys p2 hsrt hstb hp2 => ?_⟩
      · obtain ⟨t, e1, e2⟩ := hk2 x hx
        exact ⟨t, e1, e2⟩
      have hL : ys.map (kOf H1) = ordP (pairsOf ls) := by
        refine ordP_is (SrtO.srtd_map hsrt) ?_
        have := SrtO.Stb.map lexB_swo (kOf H1) hstb
        rw [hk1] at this
        exact this
      have hperm : (ys.map (kOf H1)).Perm (pairsOf ls) := by
        have := hstb.perm.map (kOf H1)
        rw [hk1] at this
        exact this
      have hyr : ∀ x ∈ ys, RefT H1 x (pv2 (kOf H1 x)) := fun x hx => hk2 x (hstb.perm.mem_iff.mp hx)
      generalize hLL : ys.map (kOf H1) = L at hL hperm
      have hmem : ∀ q ∈ L, ∃ l j : Nat, q = ((l : Int), (j : Int)) ∧ l ≤ 63 := fun q hq => by
        obtain ⟨z, hz, rfl⟩ := List.mem_map.mp (hperm.mem_iff.mp hq)
        refine ⟨z.1, z.2, rfl, h63 _ ?_⟩
        have := List.mem_zipIdx_iff_getElem?.mp hz
        exact List.mem_of_getElem? this
      have hLn : L.length = ls.length := by rw [hperm.length_eq]; simp [pairsOf]
      have hord := srtd_fst (show SrtO.Srtd SrtO.lexB L from by rw [← hLL]; exact SrtO.srtd_map hsrt)
      have sH2 := same_new' (o := .lst ys) sH1 hp2
      refine ⟨p2, rfl, ⟨_, SqL.of upd_same⟩, ?_⟩
      have hd1 : (upd H1 p2 (.lst ys)) d = some (.dK []) := sH2 _ _ (by
        rw [upd_ne (ne_of_none upd_same hp)]
        exact upd_same)
      have sHH : Same H (upd H1 p2 (.lst ys)) := Same.trans (same_new' (same_new hd) hp) sH2
      have same_of : ∀ {H' : Hp}, Keep d (upd H1 p2 (.lst ys)) H' → Same H H' := fun kk b o e => kk b o (fun z => by rw [z, hd] at e; cases e) (sHH b o e)
      have p2d : p2 ≠ d := fun z => by rw [z, upd_same] at hd1; cases hd1
      refine for_it (walk_list (xs := ys)) (fun i σ H' => Keep d (upd H1 p2 (.lst ys)) H' ∧ H' d = some (.dK (cfold (L.take i)).2.2) ∧ ∃ z1 z2, σ = [some (.ref a), some (.ref d), some (.int ((cfold (L.take i)).1 : Nat)), some (.int ((cfold (L.take i)).2.1 : Nat)), z1, z2]) ?_ ?_ ?_ ?_
      · exact ⟨Keep.refl _ _, hd1, none, none, rfl⟩
      · rintro i σ H' _ ⟨kk, _⟩
        exact SqL.of (kk _ _ p2d upd_same)
      · rintro i x σ H' H2 hi ⟨kk, hdd, z1, z2, rfl⟩ ⟨rfl, hx⟩
        have hx2 : x ∈ ys := List.mem_of_getElem? hx
        have hLi : L[i]? = some (kOf H1 x) := by rw [← hLL, List.getElem?_map, hx]; rfl
        obtain ⟨t, rfl, ht⟩ := hyr x hx2
        obtain ⟨l, j, e, hl63⟩ := hmem _ (List.mem_of_getElem? hLi)
        rw [e] at hLi ht
        have htp : (upd H1 p2 (.lst ys)) t = some (.tup (pv2 ((l : Int), (j : Int)))) := by
          rw [upd_ne (ne_of_none ht hp2)]
          exact ht
        have ht2 : H2 t = some (.tup [.int l, .int j]) := kk _ _ (fun z => by rw [z, hd1] at htp; cases htp) htp
        have hsz : (cfold (L.take i)).2.1 ≤ l := by
          cases i with
          | zero => exact Nat.zero_le _
          | succ i => exact cfold_size hLi hord
        have hstep : cfold (L.take (i + 1)) = cstep (cfold (L.take i)) ((l : Int), (j : Int)) := by rw [take_snoc hLi, cfold_snoc]
        refine ⟨t, _, rfl, .inl (.inl ht2), rfl, _, _, rfl, _, _, rfl, rfl, ?_⟩
        generalize hC : cfold (L.take i) = C at *
        obtain ⟨nm, sz, kv⟩ := C
        have hsz' : sz ≤ l := hsz
        refine ⟨_, rfl, _, rfl, _, rfl, _, _, rfl, rfl, l - sz, (by show [V.int ((l : Int) - (sz : Int))] = _; rw [Int.ofNat_sub hsz']), by omega, fun H3 s3 => ?_⟩
        have hpow : (2 : Nat) ^ (l - sz) ≤ 2 ^ 63 := Nat.pow_le_pow_right (by decide) (by omega)
        have hb64 : ∀ M : Nat, M ≤ 2 ^ 63 → -(2 ^ 64) < (M : Int) ∧ (M : Int) < 2 ^ 64 := fun M h => by omega
        refine ⟨_, _, rfl, rfl, .inr (hb64 _ hpow), ?_⟩
        refine ⟨_, rfl, _, rfl, _, rfl, nm * 2 ^ (l - sz), l, ?_, hl63, fun H4 s4 => ?_⟩
        · show [V.int ((nm : Int) * ((2 ^ (l - sz) : Nat) : Int)), V.int (l : Int)] = _
          rw [Int.natCast_mul]
        have hd4 : H4 d = some (.dK kv) := s4 _ _ (s3 _ _ hdd)
        refine ⟨_, rfl, _, rfl, d, _, rfl, DPut.k (k := Sum.inl (j : Int)) hd4 (small5l ?_), ?_⟩
        · have := cfold_len (L.take i)
          rw [hC, List.length_take] at this
          have h2 : kv.length ≤ min i L.length := this
          omega
        refine ⟨_, rfl, _, _, rfl, rfl, Keep.trans kk (Keep.trans (Keep.of (Same.trans s3 s4)) Keep.at), ?_, ?_⟩
        · rw [upd_same, hstep]
          rfl
        · refine ⟨some (.int l), some (.int j), ?_⟩
          have e1 : (((cstep (nm, sz, kv) ((l : Int), (j : Int))).1 : Nat) : Int) = (nm : Int) * ((2 ^ (l - sz) : Nat) : Int) + 1 := by
            show ((nm * 2 ^ (l - sz) + 1 : Nat) : Int) = _
            rw [Int.natCast_add, Int.natCast_mul]
            rfl
          rw [hstep, e1]
          rfl
      · rintro σ H' ⟨kk, hdd, z1, z2, rfl⟩
        have hyl : ys.length = L.length := by rw [← hLL, List.length_map]
        rw [hyl, List.take_length] at hdd ⊢
        have sHk := same_of kk
        have hlv : (lv ls).length = ls.length := by simp
        refine ⟨_, rfl, a, _, rfl, .inr (same_tup sHk ha), _, rfl, by rw [hlv]; omega, by rw [hlv]; omega, fun D2 hD2 => ?_⟩
        refine lc_range (n := (((lv ls).length : Nat) : Int).toNat) (fun i H2 => Same H' H2 ∧ H2 D2 = some (.lst (((List.range i).map (wordOf ls)).map V.str))) ⟨same_new hD2, upd_same⟩ ?_ ?_
        · rintro i H2 hi ⟨s2, hD3⟩
          have hi' : i < ls.length := by
            rw [hlv] at hi
            simpa using hi
          refine ⟨rfl, _, rfl, _, rfl, d, V.str (wordOf ls i), rfl, ?_, _, hD3, small5l (by simp; omega), same_mut s2 hD2, ?_⟩
          · have z := DGet.k (k := Sum.inl (i : Int)) (s2 _ _ hdd)
            rw [word_get hL hperm hi'] at z
            have e0 : (0 : Int) + (i : Int) = i := by omega
            show DGet H2 d (.int (0 + (i : Int))) _
            rw [e0]
            exact z
          · rw [upd_same, List.range_succ, List.map_append, List.map_append]
            rfl
        · rintro H2 ⟨s2, hD3⟩
          refine ⟨D2, _, rfl, .inl ⟨SqL.of hD3, fun q hq => ?_⟩⟩
          refine k _ q (same_new' (Same.trans sHk s2) hq) ?_ ?_
          · cases e : H q with
            | none => rfl
            | some o => rw [s2 _ _ (sHk _ _ e)] at hq; cases hq
          · rw [upd_same, hlv]
            rfl
end
end Wv

set_option Elab.async false
set_option linter.all false
set_option maxRecDepth 100000
set_option maxHeartbeats 4000000
namespace Wv
open PySem PySem.Spec PyProof.Rows L2
/-- the module's constants and its three errors -/
structure Er (P : Program) (K : PySem.W.Frag) (mg : Str → Option Value) (cT cB cO : Addr) : Prop where
  most : ∃ t, mg "MOST_SIGNS" = some (.int 2000 t)
  lmost : ∃ t, mg "MOST_LENGTH" = some (.int 1999 t)
  too : ∃ i, WvE.ErrC P K mg "TooMany" "TooMany.__init__" ["what", "many", "most"] sTooI cT i
  tally : ∃ i, WvE.ErrC P K mg "BadTally" "BadTally.__init__" ["index"] sTallyI cB i
  size : ∃ i, WvE.ErrC P K mg "OtherSize" "OtherSize.__init__" ["many", "wanted"] sSizeI cO i
def tooF (n : Int) : List (Str × V) := ((["what", "many", "most"] : List Str).zip [V.str "signs", .int n, .int 2000]).reverse
def tallyF (n : Int) : List (Str × V) := ((["index"] : List Str).zip [V.int n]).reverse
def sizeF (n m : Int) : List (Str × V) := ((["many", "wanted"] : List Str).zip [V.int n, .int m]).reverse
/-- an error comes: the class at C, these fields -/
def Err (H : Hp) (C : Addr) (fs : List (Str × V)) (E : XK) : Prop := ∀ d H', Same H H' → H' d = some (.xd fs) → E (.ref C) (some d) H'
theorem Err.same {H H1 : Hp} {C : Addr} {fs : List (Str × V)} {E : XK} (s : Same H H1) (h : Err H C fs E) : Err H1 C fs E := fun d H' s' e => h d H' (Same.trans s s') e
section
variable {P : Program} {w : World} {K : PySem.W.Frag} {mg : Str → Option Value} {base : Heap} {cT cB cO : Addr}
/-! ### check_signs -/
def spCheckSigns (cT : Addr) : Sp := fun vs H Q E => ∃ n : Int, vs = [.int n] ∧ ((2 ≤ n ∧ n ≤ 2000) → ∀ H', Same H H' → Q .non H') ∧ (¬ (2 ≤ n ∧ n ≤ 2000) → Err H cT (tooF n) E)
theorem scCheckSigns : FnScope ["many"] ["many"] (defScope sCheckSigns) := ⟨rfl, rfl, rfl, by decide +kernel, rfl, by decide +kernel, by decide +kernel⟩
theorem ok_checkSigns {f : Addr} {fd : FuncData} (F : FnP K "check_signs" sCheckSigns f fd) (R : Er P K mg cT cB cO) : FnOk P w K mg base (L2.CX P w) 3 f fd ["many"] (spCheckSigns cT) := by
  obtain ⟨tm, hmost⟩ := R.most
  obtain ⟨iT, too⟩ := R.too
  refine F.ok scCheckSigns (fun vs H Q E h => ?_) (fun cdv A outer s H vs Q E hr h => ?_)
  · obtain ⟨n, rfl, _⟩ := h
    rfl
  · obtain ⟨n, rfl, k1, k2⟩ := h
    refine ⟨_, pss_one (ps_if (pt_not (pt_chain op_le op_le pe_int (pv 0) (pe_glob (v := .int 2000) rfl hmost ⟨_, rfl⟩)))
      (pss_one (ps_raiseE (W := fun cls d _ H => E cls d H) rfl too tooText hr (takes_of rfl rfl rfl rfl) (by exact pa_cons pe_str (pa_cons (pv 0) (pa_cons (pe_glob (v := .int 2000) rfl hmost ⟨_, rfl⟩) pa_nil))))) pss_nil), ?_⟩
    refine ⟨_, rfl, _, _, rfl, rfl, _, rfl, ?_⟩
    refine ite2 (fun h1 => ?_) (fun h1 => ?_)
    · have h1' : (2 : Int) ≤ n := of_decide_eq_true h1
      refine ⟨_, _, rfl, rfl, _, rfl, ?_⟩
      by_cases c : n ≤ 2000
      · rw [show decide (n ≤ (2000 : Int)) = true from decide_eq_true c]
        refine iteF ?_
        exact k1 ⟨h1', c⟩ H (Same.refl H)
      · rw [show decide (n ≤ (2000 : Int)) = false from decide_eq_false c]
        refine iteT ?_
        exact ⟨_, rfl, rfl, fun d hd => k2 (fun z => c z.2) d _ (same_new hd) upd_same⟩
    · have h1' : ¬ (2 : Int) ≤ n := fun z => h1 (decide_eq_true z)
      refine ⟨false, rfl, iteT ?_⟩
      exact ⟨_, rfl, rfl, fun d hd => k2 (fun z => h1' z.1) d _ (same_new hd) upd_same⟩
/-! ### check_counts -/
def firstBad (xs : List V) (i : Nat) : Prop := (∃ x, xs[i]? = some x ∧ cntV x = false) ∧ ∀ j y, j < i → xs[j]? = some y → cntV y = true
def spCheckCounts (K : PySem.W.Frag) (cT cB : Addr) : Sp := fun vs H Q E => ∃ (b : Bool) (a : Addr) (xs : List V), vs = [.ref a] ∧ SqB b K H a xs ∧ (∀ x ∈ xs, Plain H x) ∧
  ((2 ≤ xs.length ∧ xs.length ≤ 2000) → (∀ x ∈ xs, cntV x = true) → ∀ H', Same H H' → Q .non H') ∧ (¬ (2 ≤ xs.length ∧ xs.length ≤ 2000) → Err H cT (tooF xs.length) E) ∧ ((2 ≤ xs.length ∧ xs.length ≤ 2000) → ∀ i, firstBad xs i → Err H cB (tallyF i) E)
theorem Plain.same {H H' : Hp} {x : V} (s : Same H H') (h : Plain H x) : Plain H' x := by
  cases h with
  | int i => exact .int i
  | non => exact .non
  | bl b => exact .bl b
  | str x => exact .str x
  | lst h => exact .lst (s _ _ h)
theorem scCheckCounts : FnScope ["counts", "index", "count"] ["counts"] (defScope sCheckCounts) := ⟨rfl, rfl, rfl, by decide +kernel, rfl, by decide +kernel, by decide +kernel⟩
theorem sqB_len {b : Bool} {K : PySem.W.Frag} {H : Hp} {a : Addr} {xs : List V} (h : SqB b K H a xs) : SqL K H a xs ∨ SqT K H a xs := h.or
theorem ok_checkCounts {f f1 f2 : Addr} {fd fd1 fd2 : FuncData} (F : FnP K "check_counts" sCheckCounts f fd) (T : Bl mg) (R : Er P K mg cT cB cO) (C1 : Cl P w K mg base (L2.CX P w) "check_signs" f1 fd1 3 ["many"] (spCheckSigns cT)) (C2 : Cl P w K mg base CX0 "is_count" f2 fd2 1 ["value"] spIsCount) :
    FnOk P w K mg base (L2.CX P w) 4 f fd ["counts"] (spCheckCounts K cT cB) := by
  obtain ⟨iB, tally⟩ := R.tally
  refine F.ok scCheckCounts (fun vs H Q E h => ?_) (fun cdv A outer s H vs Q E hr h => ?_)
  · obtain ⟨b, a, xs, rfl, _⟩ := h
    rfl
  · obtain ⟨b, a, xs, rfl, ha, hpl, k1, k2, k3⟩ := h
    refine ⟨_, pss_cons (ps_expr (pe_call C1.ok hr (by rfl) C1.g C1.kp C1.b .nil (passes_call (takes_of rfl rfl rfl rfl) (fun _ _ _ _ h => h)) (pa_cons (pe_callB call_len_seq (by rfl) T.len (by decide +kernel) (pa_cons (pv 0) pa_nil)) pa_nil)))
      (pss_one (ps_for (passes_of rfl) rfl (pi_enumB b (by rfl) T.enumerate (pa_cons (pv 0) pa_nil)) (by exact pg_tup rfl (pgs_cons (pg_name (i := 1) scCheckCounts.nd rfl (Or.inl rfl)) (pgs_cons (pg_name (i := 2) scCheckCounts.nd rfl (Or.inl rfl)) pgs_nil)))
        (pss_one (ps_if (pt_not (pt_val (pe_call C2.ok (hr.mono (by decide)) (by rfl) C2.g C2.kp C2.b .nil pass0 (pa_cons (pv 2) pa_nil))))
          (pss_one (ps_raiseE (W := fun cls d _ H => E cls d H) rfl tally tallyText hr (takes_of rfl rfl rfl rfl) (by exact pa_cons (pv 1) pa_nil))) pss_nil)))), ?_⟩
    refine ⟨_, rfl, a, xs, rfl, ha.or, _, rfl, fun hn => ?_, fun hn => k2 (fun z => hn ⟨by omega, by omega⟩)⟩
    have hn' : 2 ≤ xs.length ∧ xs.length ≤ 2000 := ⟨by omega, by omega⟩
    intro H1 s1
    refine ⟨_, rfl, a, xs, rfl, ha.same s1, ?_⟩
    refine for_it (walk_enumB (b := b)) (fun i σ H' => Same H H' ∧ (∀ j y, j < i → xs[j]? = some y → cntV y = true) ∧ ∃ z1 z2, σ = [some (.ref a), z1, z2]) ⟨s1, fun j y hj => absurd hj (Nat.not_lt_zero _), none, none, rfl⟩ ?_ ?_ ?_
    · rintro i σ H' _ ⟨sH, _⟩
      exact ha.same sH
    · rintro i x σ H' H2 hi ⟨sH, hgood, z1, z2, rfl⟩ ⟨T', v, rfl, hT, rfl, hv⟩
      have s2 : Same H (upd H' T' (.tup [.int (i : Nat), v])) := same_new' sH hT
      refine ⟨T', _, rfl, .inl (.inl upd_same), rfl, _, _, rfl, _, _, rfl, rfl, ?_⟩
      refine ⟨_, rfl, v, rfl, (hpl v (List.mem_of_getElem? hv)).same s2, _, rfl, ?_⟩
      refine ite2 (fun h1 => ?_) (fun h1 => ?_)
      · have hc : cntV v = false := by
          cases c : cntV v with
          | false => rfl
          | true => rw [c] at h1; cases h1
        exact ⟨_, rfl, rfl, fun d hd => k3 hn' i ⟨⟨v, hv, hc⟩, hgood⟩ d _ (same_new' s2 hd) upd_same⟩
      · have hc : cntV v = true := by
          cases c : cntV v with
          | true => rfl
          | false => rw [c] at h1; exact absurd rfl h1
        refine ⟨s2, fun j y hj hy => ?_, _, _, rfl⟩
        by_cases e : j = i
        · subst e
          rw [hv] at hy
          rw [← Option.some.inj hy]
          exact hc
        · exact hgood j y (by omega) hy
    · rintro σ H' ⟨sH, hgood, _⟩
      refine k1 hn' (fun x hx => ?_) H' sH
      obtain ⟨j, hj, e⟩ := List.mem_iff_getElem.mp hx
      exact hgood j x hj (by rw [List.getElem?_eq_getElem hj, e])
/-! ### a code -/
def codeFs (a wd : Addr) (n M : Int) : List (Str × V) := [("lengths", .ref a), ("words", .ref wd), ("size", .int n), ("longest", .int M)]
/-- the code of these lengths -/
structure IsCode (K : PySem.W.Frag) (C : Addr) (H : Hp) (x : Addr) (ls : List Nat) : Prop where
  ex : ∃ (a wd dx : Addr) (M : Int) (fs : List (Str × V)), H x = some (.ins C dx fs) ∧ fs.lookup ("lengths" : Str) = some (.ref a) ∧ fs.lookup ("words" : Str) = some (.ref wd) ∧ fs.lookup ("size" : Str) = some (.int ls.length) ∧ SqT K H a (lv ls) ∧ SqT K H wd ((wordsOf ls).map V.str)
theorem IsCode.same {K : PySem.W.Frag} {C : Addr} {H H' : Hp} {x : Addr} {ls : List Nat} (s : Same H H') (h : IsCode K C H x ls) : IsCode K C H' x ls := by
  obtain ⟨a, wd, dx, M, fs, h1, h2, h3, h4, h5, h6⟩ := h.ex
  exact ⟨a, wd, dx, M, fs, s _ _ h1, h2, h3, h4, same_tup s h5, same_tup s h6⟩
/-- what the walks ask of the class Code -/
structure Co (K : PySem.W.Frag) (mg : Str → Option Value) (C : Addr) : Prop where
  gC : mg "Code" = some (.ref C)
  cl : Cls K C
  a1 : NoAttr K C "lengths"
  a2 : NoAttr K C "words"
  a3 : NoAttr K C "size"
  a4 : NoAttr K C "longest"
/-! ### check_pair -/
def spCheckPair (K : PySem.W.Frag) (C cO : Addr) : Sp := fun vs H Q E => ∃ (b : Bool) (x a : Addr) (ls : List Nat) (cs : List Int), vs = [.ref x, .ref a] ∧ IsCode K C H x ls ∧ SqB b K H a (iv cs) ∧ (∀ c ∈ cs, 0 ≤ c) ∧ 2 ≤ cs.length ∧ cs.length ≤ 2000 ∧
  (cs.length = ls.length → ∀ H', Same H H' → Q .non H') ∧ (cs.length ≠ ls.length → Err H cO (sizeF cs.length ls.length) E)
theorem scCheckPair : FnScope ["code", "counts"] ["code", "counts"] (defScope sCheckPair) := ⟨rfl, rfl, rfl, by decide +kernel, rfl, by decide +kernel, by decide +kernel⟩
theorem plain_ints {H : Hp} {cs : List Int} : ∀ x ∈ iv cs, Plain H x := fun x hx => by
  obtain ⟨c, _, rfl⟩ := List.mem_map.mp hx
  exact .int c
theorem cnt_ints {cs : List Int} (h : ∀ c ∈ cs, 0 ≤ c) : ∀ x ∈ iv cs, cntV x = true := fun x hx => by
  obtain ⟨c, hc, rfl⟩ := List.mem_map.mp hx
  exact decide_eq_true (h c hc)
theorem ok_checkPair {C : Addr} {f f1 : Addr} {fd fd1 : FuncData} (F : FnP K "check_pair" sCheckPair f fd) (T : Bl mg) (R : Er P K mg cT cB cO) (O : Co K mg C) (C1 : Cl P w K mg base (L2.CX P w) "check_counts" f1 fd1 4 ["counts"] (spCheckCounts K cT cB)) :
    FnOk P w K mg base (L2.CX P w) 5 f fd ["code", "counts"] (spCheckPair K C cO) := by
  obtain ⟨iO, size⟩ := R.size
  refine F.ok scCheckPair (fun vs H Q E h => ?_) (fun cdv A outer s H vs Q E hr h => ?_)
  · obtain ⟨b, x, a, ls, cs, rfl, _⟩ := h
    rfl
  · obtain ⟨b, x, a, ls, cs, rfl, hx, ha, h0, h2, h3, k1, k2⟩ := h
    refine ⟨_, pss_cons (ps_expr (pe_call C1.ok hr (by rfl) C1.g C1.kp C1.b .nil (passes_call (takes_of rfl rfl rfl rfl) (fun _ _ _ _ h => h)) (pa_cons (pv 1) pa_nil)))
      (pss_one (ps_if (pt_cmpR op_ne (pe_callB call_len_seq (by rfl) T.len (by decide +kernel) (pa_cons (pv 1) pa_nil)) (pe_fld (pv 0) rfl) (nomark _))
        (pss_one (ps_raiseE (W := fun cls d _ H => E cls d H) rfl size sizeText hr (takes_of rfl rfl rfl rfl) (by exact pa_cons (pe_callB call_len_seq (by rfl) T.len (by decide +kernel) (pa_cons (pv 1) pa_nil)) (pa_cons (pe_fld (pv 0) rfl) pa_nil)))) pss_nil)), ?_⟩
    have hl : (iv cs).length = cs.length := by simp
    refine ⟨_, rfl, b, a, _, rfl, ha, plain_ints, fun _ _ H1 s1 => ?_, fun hn => absurd ⟨by rw [hl]; exact h2, by rw [hl]; exact h3⟩ hn, fun _ i hb => ?_⟩
    · obtain ⟨a1, wd, dx, M, fs, e1, e2, e3, e4, e5, e6⟩ := (hx.same s1).ex
      refine ⟨_, rfl, a, _, rfl, (ha.same s1).or, _, rfl, x, C, dx, fs, _, rfl, e1, O.cl, O.a3, e4, rfl, _, rfl, ?_⟩
      rw [hl]
      by_cases c : cs.length = ls.length
      · rw [show (!decide (V.int (cs.length : Int) = V.int (ls.length : Int))) = false by simp [c]]
        exact iteF (k1 c H1 s1)
      · rw [show (!decide (V.int (cs.length : Int) = V.int (ls.length : Int))) = true by simp; omega]
        refine iteT ⟨_, rfl, a, _, rfl, (ha.same s1).or, _, rfl, x, C, dx, fs, _, rfl, e1, O.cl, O.a3, e4, rfl, fun d hd => k2 c d _ (same_new' s1 hd) ?_⟩
        rw [upd_same, hl]
        rfl
    · obtain ⟨⟨y, hy, hc⟩, _⟩ := hb
      rw [cnt_ints h0 y (List.mem_of_getElem? hy)] at hc
      cases hc
end
end Wv

set_option Elab.async false
set_option linter.all false
set_option maxRecDepth 100000
set_option maxHeartbeats 4000000
set_option pp.maxSteps 1500
set_option pp.proofs false
namespace Wv
open PySem PySem.Spec PyProof.Rows L2
theorem pe_no {X : Cx} {e : Expr} : PE X e (fun _ _ _ => False) := ⟨fun _ _ _ _ _ _ h => h.elim⟩
theorem lv_iv (ls : List Nat) : lv ls = iv (ls.map fun (l : Nat) => (l : Int)) := by
  show ls.map _ = (ls.map _).map _
  rw [List.map_map]
  rfl
theorem sum_cast : ∀ l : List Nat, (l.map fun (n : Nat) => (n : Int)).sum = ((l.sum : Nat) : Int)
  | [] => rfl
  | n :: l => by
    rw [List.map_cons, List.sum_cons, List.sum_cons, sum_cast l, Int.natCast_add]
theorem sFld_tup {b : Bool} {K : PySem.W.Frag} {ta : TE} {i : Nat} {f : Str} {D : Ends} {σ : L2.St} {H : Hp} {a : Addr} {xs : List V} (hσ : σ[i]? = some (some (.ref a))) (ha : SqB b K H a xs) (h : ∀ q H5, Same H H5 → SqT K H5 q xs → sFld K ta (tC (.ref q)) f D σ H5) :
    sFld K ta (tCB (fun xs H Q => ∃ p ys, xs = [.ref p] ∧ ((SqL K H p ys ∧ ∀ l, H l = none → Q (.ref l) (upd H l (.tup ys))) ∨ (SqT K H p ys ∧ Q (.ref p) H))) (tCons (tVar i) tNil)) f D σ H := by
  refine ⟨_, hσ, a, xs, rfl, ?_⟩
  cases b with
  | true => exact .inl ⟨ha, fun l hl => h l _ (same_new hl) (SqT.of upd_same)⟩
  | false => exact .inr ⟨ha, h a H (Same.refl H) ha⟩
theorem sqT_ins {K : PySem.W.Frag} {H : Hp} {q x C dx : Addr} {xs : List V} {fs fs' : List (Str × V)} (h : SqT K H q xs) (e : H x = some (.ins C dx fs)) : SqT K (upd H x (.ins C dx fs')) q xs := by
  rcases h with (h | ⟨o, h⟩) | h
  · exact .inl (.inl (by rw [upd_ne (ne_of h e (fun z => nomatch z))]; exact h))
  · exact .inl (.inr ⟨o, by rw [upd_ne (ne_of h e (fun z => nomatch z))]; exact h⟩)
  · exact .inr h
section
variable {P : Program} {w : World} {K : PySem.W.Frag} {mg : Str → Option Value} {base : Heap} {cT cB cO : Addr}
/-! ### Code.__init__ -/
abbrev FnI (K : PySem.W.Frag) (f : Addr) (fd : FuncData) : Prop := FunD K "__init__" "Code.__init__" (defArgs sCodeInit) (defBody sCodeInit) (defScope sCodeInit) [.non] [] f fd
def spCodeInit (K : PySem.W.Frag) (C : Addr) : Sp := fun vs H Q _ => ∃ (b : Bool) (x dx a : Addr) (ls : List Nat), vs = [.ref x, .ref a, .non] ∧ H x = some (.ins C dx []) ∧ SqB b K H a (lv ls) ∧ 2 ≤ ls.length ∧ ls.length ≤ 40 ∧ (∀ l ∈ ls, 1 ≤ l ∧ l ≤ 63) ∧ WvM.Full ls ∧
  ∀ H', (∀ c o, c ≠ x → H c = some o → H' c = some o) → IsCode K C H' x ls → Q .non H'
theorem scCodeInit : FnScope ["self", "lengths", "words", "index", "length", "longest"] ["self", "lengths", "words"] (defScope sCodeInit) := ⟨rfl, rfl, rfl, by decide +kernel, rfl, by decide +kernel, by decide +kernel⟩
theorem ok_codeInit {C : Addr} {f f1 f2 f3 f4 : Addr} {fd fd1 fd2 fd3 fd4 : FuncData} (F : FnI K f fd) (T : Bl mg) (R : Er P K mg cT cB cO) (O : Co K mg C) (C1 : Cl P w K mg base (L2.CX P w) "check_signs" f1 fd1 3 ["many"] (spCheckSigns cT)) (C2 : Cl P w K mg base CX0 "is_count" f2 fd2 1 ["value"] spIsCount)
    (C3 : Cl P w K mg base CX0 "two_power" f3 fd3 1 ["many"] spTwoPower) (C4 : Cl P w K mg base CX0 "canonical" f4 fd4 2 ["lengths"] (spCanonical K)) : FnOk P w K mg base CX0 4 f fd ["self", "lengths", "words"] (spCodeInit K C) := by
  obtain ⟨tl, hlm⟩ := R.lmost
  refine F.ok scCodeInit (fun vs H Q E h => ?_) (fun cdv A outer s H vs Q E hr h => ?_)
  · obtain ⟨b, x, dx, a, ls, rfl, _⟩ := h
    rfl
  · obtain ⟨b, x, dx, a, ls, rfl, hx, ha, h2, h40, h63, hfull, k⟩ := h
    refine ⟨_, PSs.nox (pss_cons (ps_expr (pe_call (E := fun _ _ _ => False) C1.ok hr (by rfl) C1.g C1.kp C1.b .nil (passes_call takes0 (fun _ _ _ _ h => h)) (pa_cons (pe_callB call_len_seq (by rfl) T.len (by decide +kernel) (pa_cons (pv 1) pa_nil)) pa_nil)))
      (pss_cons (ps_for PassesOwn.never rfl (pi_enumB b (by rfl) T.enumerate (pa_cons (pv 1) pa_nil)) (by exact pg_tup rfl (pgs_cons (pg_name (i := 3) scCodeInit.nd rfl (Or.inl rfl)) (pgs_cons (pg_name (i := 4) scCodeInit.nd rfl (Or.inl rfl)) pgs_nil)))
        (pss_one (ps_if (PW.pt (pw_or (pt_not (pt_val (pe_call C2.ok (hr.mono (by decide)) (by rfl) C2.g C2.kp C2.b .nil pass0 (pa_cons (pv 4) pa_nil)))) (pw_or1 (pt_not (pt_chain op_le op_le pe_int (pv 4) (pe_glob (v := .int 1999) rfl hlm ⟨_, rfl⟩))))))
          (pss_one ps_never) pss_nil)))
      (pss_cons (ps_set (i := 5) scCodeInit.nd rfl (Or.inr rfl) (pe_callB (cr_maxB b rfl hr.units) (by rfl) T.max (by decide +kernel) (pa_cons (pv 1) pa_nil)))
      (pss_cons (ps_if (pt_cmpR op_ne (pe_callB (cr_sum rfl) (by rfl) T.sum (by decide +kernel) (pa_cons
          (pe_lc (own := [("length", 4)]) rfl scCodeInit.nd (pi_seqB b (pv 1)) (blkOk_by (N := ["self", "lengths", "words", "index", "length", "longest"]) (sc := defScope sCodeInit) (by decide +kernel))
            (fun _ _ _ _ _ => pg_name (i := 4) scCodeInit.nd rfl (Or.inl rfl)) (fun _ _ _ _ _ => pts_nil) (fun _ _ _ _ _ => by exact pe_call C3.ok (hr.mono (by decide)) (by rfl) C3.g C3.kp C3.b .nil pass0 (pa_cons (pe_op op_sub (pv 5) (pv 4)) pa_nil))) pa_nil))
          (pe_call C3.ok (hr.mono (by decide)) (by rfl) C3.g C3.kp C3.b .nil pass0 (pa_cons (pv 5) pa_nil)) (nomark _)) (pss_one ps_never) pss_nil)
      (pss_cons (ps_fld (pv 0) (pe_callTy call_tuple_of (by rfl) T.tuple (by decide +kernel) (pa_cons (pv 1) pa_nil)) rfl)
      (pss_cons (ps_fld (pv 0) (pe_ifExp (pt_cmpR op_isN (pv 2) pe_non (nomark _)) (pe_call C4.ok (hr.mono (by decide)) (by rfl) C4.g C4.kp C4.b .nil pass0 (pa_cons (pe_fld (pv 0) rfl) pa_nil)) pe_no) rfl)
      (pss_cons (ps_fld (pv 0) (pe_callB call_len_seq (by rfl) T.len (by decide +kernel) (pa_cons (pe_fld (pv 0) rfl) pa_nil)) rfl)
      (pss_one (ps_fld (pv 0) (pv 5) rfl))))))))), ?_⟩
    have hlv : (lv ls).length = ls.length := by simp
    refine ⟨_, rfl, a, _, rfl, ha.or, _, rfl, fun _ H1 s1 => ?_, fun hn => absurd ⟨by rw [hlv]; omega, by rw [hlv]; omega⟩ hn⟩
    refine ⟨_, rfl, a, _, rfl, ha.same s1, ?_⟩
    refine for_it (walk_enumB (b := b)) (fun i σ H' => Same H H' ∧ ∃ z1 z2, σ = [some (.ref x), some (.ref a), some .non, z1, z2, none]) ⟨s1, none, none, rfl⟩ ?_ ?_ ?_
    · rintro i σ H' _ ⟨sH, _⟩
      exact ha.same sH
    · rintro i y σ H' H2 hi ⟨sH, z1, z2, rfl⟩ ⟨T', v, rfl, hT, rfl, hv⟩
      obtain ⟨l, hl, rfl⟩ := get_map hv
      have hl2 := h63 l (List.mem_of_getElem? hl)
      have s2 : Same H (upd H' T' (.tup [.int (i : Nat), .int l])) := same_new' sH hT
      refine ⟨T', _, rfl, .inl (.inl upd_same), rfl, _, _, rfl, _, _, rfl, rfl, ?_⟩
      refine ⟨_, rfl, _, rfl, .int _, _, rfl, ?_⟩
      have hc : cntV (.int (l : Int)) = true := show decide ((0 : Int) ≤ (l : Int)) = true from decide_eq_true (by omega)
      rw [hc]
      refine iteF ⟨_, rfl, _, _, rfl, rfl, _, rfl, ?_⟩
      rw [show decide ((1 : Int) ≤ (l : Int)) = true from decide_eq_true (by omega)]
      refine iteT ⟨_, _, rfl, rfl, _, rfl, ?_⟩
      rw [show decide ((l : Int) ≤ 1999) = true from decide_eq_true (by omega)]
      exact iteF ⟨s2, _, _, rfl⟩
    · rintro σ H2 ⟨s2, z1, z2, rfl⟩
      have e : lv ls = iv (ls.map fun (l : Nat) => (l : Int)) := lv_iv ls
      refine ⟨_, rfl, a, ls.map (fun (l : Nat) => (l : Int)), rfl, by rw [← e]; exact ha.same s2, by rw [List.length_map]; omega, fun m hm hmax => ?_⟩
      obtain ⟨M, hM, rfl⟩ := List.mem_map.mp hm
      have hle : ∀ l ∈ ls, l ≤ M := fun l hl => by
        have := hmax l (List.mem_map.mpr ⟨l, hl, rfl⟩)
        omega
      have hM63 := (h63 M hM).2
      refine ⟨_, rfl, a, rfl, ⟨_, ha.same s2⟩, fun D hD => ?_⟩
      refine lc_it (walk_seqB (b := b) (xs := lv ls)) (fun i H' => Same H2 H' ∧ H' D = some (.lst (((ls.take i).map fun l => ((2 ^ (M - l) : Nat) : Int)).map V.int))) ⟨same_new hD, upd_same⟩ ?_ ?_ ?_
      · rintro i H' _ ⟨sH, _⟩
        exact ha.same (Same.trans s2 sH)
      · rintro i y H' H3 hi ⟨sH, hDx⟩ ⟨rfl, hy⟩
        obtain ⟨l, hl, rfl⟩ := get_map hy
        have hlM := hle l (List.mem_of_getElem? hl)
        refine ⟨rfl, _, rfl, _, rfl, _, _, rfl, rfl, M - l, (by show [V.int ((M : Int) - (l : Int))] = _; rw [Int.ofNat_sub hlM]), by omega, fun H4 s4 => ⟨_, s4 _ _ hDx, small5l ?_, same_mut (Same.trans sH s4) hD, ?_⟩⟩
        · rw [List.length_map, List.length_map, List.length_take]
          omega
        · rw [upd_same, take_snoc hl, List.map_append, List.map_append]
          rfl
      · rintro H3 ⟨s3, hDx⟩
        rw [List.take_of_length_le (by simp)] at hDx
        refine ⟨D, _, rfl, SqL.of hDx, _, rfl, M, rfl, by omega, fun H4 s4 => ⟨rfl, _, rfl, ?_⟩⟩
        have hsum : (ls.map fun l => ((2 ^ (M - l) : Nat) : Int)).sum = ((2 ^ M : Nat) : Int) := by
          have := sum_cast (ls.map fun l => 2 ^ (M - l))
          rw [List.map_map] at this
          rw [← hfull M hle, ← this]
          rfl
        rw [hsum, show (!decide (V.int ((2 ^ M : Nat) : Int) = V.int ((2 ^ M : Nat) : Int))) = false by simp]
        refine iteF ?_
        have sH4 : Same H H4 := Same.trans (Same.trans s2 s3) s4
        have hx4 : H4 x = some (.ins C dx []) := sH4 _ _ hx
        refine sFld_tup rfl (ha.same sH4) fun q H5 s5 hq => ?_
        have hx5 := s5 _ _ hx4
        refine ⟨_, rfl, x, C, dx, _, rfl, hx5, O.cl, O.a1, by simp, ?_⟩
        have hq6 := sqT_ins (fs' := [("lengths", V.ref q)]) hq hx5
        refine ⟨_, rfl, rfl, _, rfl, ?_⟩
        refine iteT ⟨_, rfl, x, C, dx, _, _, rfl, upd_same, O.cl, O.a1, rfl, q, ls, rfl, hq6, h40, fun l hl => (h63 l hl).2, fun H7 p7 s7 n7 hp7 => ?_⟩
        have hx7 := s7 _ _ (upd_same (H := H5) (a := x) (o := .ins C dx [("lengths", V.ref q)]))
        refine ⟨_, rfl, x, C, dx, _, rfl, hx7, O.cl, O.a2, by simp, ?_⟩
        have hq8 := sqT_ins (fs' := [("lengths", V.ref q), ("words", V.ref p7)]) (same_tup s7 hq6) hx7
        refine ⟨_, rfl, x, C, dx, _, _, rfl, upd_same, O.cl, O.a1, rfl, q, _, rfl, .inr hq8, _, rfl, x, C, dx, _, rfl, upd_same, O.cl, O.a3, Nat.lt_of_le_of_lt (length_putF _ _ _) (by simp), ?_⟩
        refine ⟨_, rfl, _, rfl, x, C, dx, _, rfl, upd_same, O.cl, O.a4, Nat.lt_of_le_of_lt (length_putF _ _ _) (Nat.lt_of_le_of_lt (Nat.add_le_add_right (length_putF _ _ _) 1) (by simp)), ?_⟩
        have hp8 := sqT_ins (fs' := [("lengths", V.ref q), ("words", V.ref p7)]) (SqT.of (K := K) hp7) hx7
        refine k _ (fun c o nc ec => ?_) ⟨q, p7, dx, (M : Int), _, upd_same, rfl, rfl, by rw [hlv]; rfl, ?_, ?_⟩
        · rw [upd_ne nc, upd_ne nc, upd_ne nc]
          refine s7 _ _ ?_
          rw [upd_ne nc]
          exact s5 _ _ (sH4 _ _ ec)
        · exact sqT_ins (sqT_ins hq8 upd_same) upd_same
        · exact sqT_ins (sqT_ins hp8 upd_same) upd_same
end
end Wv

set_option Elab.async false
set_option linter.all false
set_option maxRecDepth 100000
set_option maxHeartbeats 4000000
set_option pp.maxSteps 1500
namespace Wv
open PySem PySem.Spec PyProof.Rows L2
section
variable {P : Program} {w : World} {K : PySem.W.Frag} {mg : Str → Option Value} {base : Heap} {cT cB cO : Addr}
/-! ### Code.__eq__ -/
abbrev FnE (K : PySem.W.Frag) (f : Addr) (fd : FuncData) : Prop := FunD K "__eq__" "Code.__eq__" (defArgs sCodeEq) (defBody sCodeEq) (defScope sCodeEq) [] [] f fd
def ReqC (K : PySem.W.Frag) (C : Addr) (a b : Addr) (H : Hp) : Prop := ∃ ls, IsCode K C H a ls ∧ IsCode K C H b ls
/-- what isinstance(.., Code) asks -/
structure CoI (K : PySem.W.Frag) (C : Addr) : Prop where
  c1 : PySem.W.findIn K (.ref C) "__class__" = some (some (.builtin "object.__class__"))
  c2 : PySem.W.specialIn K (.builtin "object.__class__") "__get__" = some (some (.builtin "getset_descriptor.__get__"))
  c3 : PySem.W.takesIn K (.builtin "object.__class__") = some true
  c4 : PySem.W.mroIn K C (.type "object") = some true
theorem prs_str {H : Hp} : ∀ ws : List Str, Prs DFlat (ws.map V.str) (ws.map V.str) H
  | [] => Prs.nil
  | x :: ws => Prs.cons ⟨rfl, rfl, by simp [eqV]⟩ (prs_str ws)
theorem scCodeEq : FnScope ["self", "other"] ["self", "other"] (defScope sCodeEq) := ⟨rfl, rfl, rfl, by decide +kernel, rfl, by decide +kernel, by decide +kernel⟩
theorem ok_codeEq {C : Addr} {f : Addr} {fd : FuncData} (F : FnE K f fd) (T : Bl mg) (O : Co K mg C) (I : CoI K C) : FnOk P w K mg base CX0 2 f fd ["self", "other"] (spEq (ReqC K C)) := by
  refine F.ok scCodeEq (fun vs H Q E h => ?_) (fun cdv A outer s H vs Q E hr h => ?_)
  · obtain ⟨a, b, rfl, _⟩ := h
    rfl
  · obtain ⟨a, b, rfl, ⟨ls, ha, hb⟩, k⟩ := h
    refine ⟨_, PSs.nox (pss_one (ps_ret (pe_and (pe_callB call_isi (by rfl) T.isinstance (by decide +kernel) (pa_cons (pv 1) (pa_cons (pe_glob (v := .ref C) rfl O.gC rfl) pa_nil)))
      (pe_one (pe_cmpR (op_eqG (rcG_tup mon_flat eqG_flat) hr) (pe_fld (pv 0) rfl) (pe_fld (pv 1) rfl) (nomark _)))))), ?_⟩
    obtain ⟨a1, w1, d1, M1, fs1, e11, e12, e13, e14, e15, e16⟩ := ha.ex
    obtain ⟨a2, w2, d2, M2, fs2, e21, e22, e23, e24, e25, e26⟩ := hb.ex
    refine ⟨_, rfl, _, _, _, _, true, rfl, .own C, .base (.ins e21 O.cl I.c1 I.c2 I.c3 I.c4), by simp [PySem.W.kitOne], true, rfl, iteT ?_⟩
    refine ⟨_, rfl, a, C, d1, fs1, _, rfl, e11, O.cl, O.a2, e13, _, rfl, b, C, d2, fs2, _, rfl, e21, O.cl, O.a2, e23, ?_⟩
    exact ⟨⟨w1, w2, _, _, rfl, rfl, e16, e26, prs_str _⟩, fun H' e => k H' e⟩
end
end Wv

set_option Elab.async false
set_option linter.all false
set_option maxRecDepth 100000
set_option maxHeartbeats 4000000
set_option pp.maxSteps 1500
namespace Wv
open PySem PySem.Spec PyProof.Rows L2
theorem cst_zip : ∀ (ls : List Nat) (cs : List Int), ((cs.zip ls).map fun p => p.1 * (p.2 : Int)).sum = WvM.cst ls cs
  | [], [] => rfl
  | [], _ :: _ => rfl
  | _ :: _, [] => rfl
  | l :: ls, c :: cs => by
    show ((c * (l : Int)) :: (cs.zip ls).map fun p => p.1 * (p.2 : Int)).sum = ((c * (l : Int)) :: (ls.zip cs).map fun p => p.2 * (p.1 : Int)).sum
    rw [List.sum_cons, List.sum_cons, cst_zip ls cs]
    rfl
theorem zip_get {α β : Type} {xs : List α} {ys : List β} {i : Nat} {x : α} {y : β} (h1 : xs[i]? = some x) (h2 : ys[i]? = some y) : (xs.zip ys)[i]? = some (x, y) := by
  rw [List.getElem?_zip_eq_some]
  exact ⟨h1, h2⟩
section
variable {P : Program} {w : World} {K : PySem.W.Frag} {mg : Str → Option Value} {base : Heap} {cT cB cO C : Addr}
/-! ### cost_by -/
def spCostBy (K : PySem.W.Frag) (C : Addr) : Sp := fun vs H Q _ => ∃ (b : Bool) (x a : Addr) (ls : List Nat) (cs : List Int), vs = [.ref x, .ref a] ∧ IsCode K C H x ls ∧ SqB b K H a (iv cs) ∧ cs.length = ls.length ∧ ls.length ≤ 40 ∧ (∀ l ∈ ls, l ≤ 63) ∧ ∀ H', Same H H' → Q (.int (WvM.cst ls cs)) H'
theorem scCostBy : FnScope ["code", "counts", "count", "length"] ["code", "counts"] (defScope sCostBy) := ⟨rfl, rfl, rfl, by decide +kernel, rfl, by decide +kernel, by decide +kernel⟩
theorem ok_costBy {f : Addr} {fd : FuncData} (F : FnP K "cost_by" sCostBy f fd) (T : Bl mg) (O : Co K mg C) : FnOk P w K mg base CX0 1 f fd ["code", "counts"] (spCostBy K C) := by
  refine F.ok scCostBy (fun vs H Q E h => ?_) (fun cdv A outer s H vs Q E hr h => ?_)
  · obtain ⟨b, x, a, ls, cs, rfl, _⟩ := h
    rfl
  · obtain ⟨b, x, a, ls, cs, rfl, hx, ha, hlen, h40, h63, k⟩ := h
    refine ⟨_, PSs.nox (pss_one (ps_ret (pe_callB (cr_sum rfl) (by rfl) T.sum (by decide +kernel) (pa_cons
      (pe_lc (own := [("count", 2), ("length", 3)]) (g := gTup K 2 (gCons (gName 2) (gCons (gName 3) gNil))) rfl scCostBy.nd (pi_zipB b false (by rfl) T.zip (pa_cons (pv 1) (pa_cons (pe_fld (pv 0) rfl) pa_nil))) (blkOk_by (N := ["code", "counts", "count", "length"]) (sc := defScope sCostBy) (by decide +kernel))
        (fun _ _ _ _ _ => by exact pg_tup rfl (pgs_cons (pg_name (i := 2) scCostBy.nd rfl (Or.inl rfl)) (pgs_cons (pg_name (i := 3) scCostBy.nd rfl (Or.inl rfl)) pgs_nil)))
        (fun _ _ _ _ _ => pts_nil) (fun _ _ _ _ _ => by exact pe_op op_mul (pv 2) (pv 3))) pa_nil)))), ?_⟩
    obtain ⟨a1, wd, dx, M, fs, e1, e2, e3, e4, e5, e6⟩ := hx.ex
    refine ⟨_, rfl, _, rfl, x, C, dx, fs, _, rfl, e1, O.cl, O.a1, e2, a, a1, _, _, rfl, ha, SqB.t e5, by simp [hlen], fun D hD => ?_⟩
    refine lc_it (walk_zipB (b1 := b) (b2 := false) (xs := iv cs) (ys := lv ls)) (fun i H' => Same H H' ∧ H' D = some (.lst ((((cs.zip ls).take i).map fun p => p.1 * (p.2 : Int)).map V.int))) ⟨same_new hD, upd_same⟩ ?_ ?_ ?_
    · rintro i H' _ ⟨sH, _⟩
      exact ⟨ha.same sH, SqB.same sH (SqB.t e5)⟩
    · rintro i y H' H3 hi ⟨sH, hDx⟩ ⟨T', v1, v2, rfl, hT, rfl, hv1, hv2⟩
      obtain ⟨c, hc, rfl⟩ := get_map hv1
      obtain ⟨l, hl, rfl⟩ := get_map hv2
      have hl63 := h63 l (List.mem_of_getElem? hl)
      refine ⟨T', _, rfl, .inl (.inl upd_same), rfl, _, _, rfl, _, _, rfl, rfl, rfl, ?_⟩
      have nT : D ≠ T' := fun z => by rw [z, hT] at hDx; cases hDx
      refine ⟨_, rfl, _, rfl, _, _, rfl, rfl, .inr ⟨by omega, by omega⟩, _, by rw [upd_ne nT]; exact hDx, small5l ?_, same_mut (same_new' sH hT) hD, ?_⟩
      · rw [List.length_map, List.length_map, List.length_take, List.length_zip]
        omega
      · rw [upd_same, take_snoc (zip_get hc hl), List.map_append, List.map_append]
        rfl
    · rintro H3 ⟨s3, hDx⟩
      rw [List.take_of_length_le (by simp; omega)] at hDx
      refine ⟨D, _, rfl, SqL.of hDx, ?_⟩
      rw [cst_zip]
      exact k _ s3
/-! ### cost -/
def spCost (K : PySem.W.Frag) (C : Addr) : Sp := fun vs H Q _ => ∃ (b : Bool) (x a : Addr) (ls : List Nat) (cs : List Int), vs = [.ref x, .ref a] ∧ IsCode K C H x ls ∧ SqB b K H a (iv cs) ∧ (∀ c ∈ cs, 0 ≤ c) ∧ 2 ≤ cs.length ∧ cs.length = ls.length ∧ ls.length ≤ 40 ∧ (∀ l ∈ ls, l ≤ 63) ∧
  ∀ H', Same H H' → Q (.int (WvM.cst ls cs)) H'
theorem scCost : FnScope ["code", "counts"] ["code", "counts"] (defScope sCost) := ⟨rfl, rfl, rfl, by decide +kernel, rfl, by decide +kernel, by decide +kernel⟩
theorem ok_cost {f f1 f2 : Addr} {fd fd1 fd2 : FuncData} (F : FnP K "cost" sCost f fd) (C1 : Cl P w K mg base (L2.CX P w) "check_pair" f1 fd1 5 ["code", "counts"] (spCheckPair K C cO)) (C2 : Cl P w K mg base CX0 "cost_by" f2 fd2 1 ["code", "counts"] (spCostBy K C)) :
    FnOk P w K mg base CX0 6 f fd ["code", "counts"] (spCost K C) := by
  refine F.ok scCost (fun vs H Q E h => ?_) (fun cdv A outer s H vs Q E hr h => ?_)
  · obtain ⟨b, x, a, ls, cs, rfl, _⟩ := h
    rfl
  · obtain ⟨b, x, a, ls, cs, rfl, hx, ha, h0, h2, hlen, h40, h63, k⟩ := h
    refine ⟨_, PSs.nox (pss_cons (ps_expr (pe_call (E := fun _ _ _ => False) C1.ok hr (by rfl) C1.g C1.kp C1.b .nil (passes_call takes0 (fun _ _ _ _ h => h)) (pa_cons (pv 0) (pa_cons (pv 1) pa_nil))))
      (pss_one (ps_ret (pe_call C2.ok (hr.mono (by decide)) (by rfl) C2.g C2.kp C2.b .nil pass0 (pa_cons (pv 0) (pa_cons (pv 1) pa_nil)))))), ?_⟩
    refine ⟨_, rfl, _, rfl, b, x, a, ls, cs, rfl, hx, ha, h0, h2, by omega, fun _ H1 s1 => ?_, fun n => absurd hlen n⟩
    exact ⟨_, rfl, _, rfl, b, x, a, ls, cs, rfl, hx.same s1, ha.same s1, hlen, h40, h63, fun H2 s2 => k H2 (Same.trans s1 s2)⟩
end
end Wv

set_option Elab.async false
set_option linter.all false
set_option maxRecDepth 100000
set_option maxHeartbeats 4000000
set_option pp.maxSteps 1500
namespace Wv
open PySem PySem.Spec PyProof.Rows L2
/-- a test that leaves the heap, its answer known -/
def tKnow (t : TT) : TT := fun σ H Q => ∃ b : Bool, (∀ Q' : Bool → Hp → Prop, Q' b H → t σ H Q') ∧ Q b H
theorem pt_know {X : Cx} {e : Expr} {t : TT} (h : PT X e t) : PT X e (tKnow t) := ⟨fun pins s σ H Q I ⟨b, h1, h2⟩ => h.run pins s σ H Q I (h1 Q h2)⟩
theorem same_of_keep {H H1 : Hp} {nd : Addr} {o : HO} (h : H nd = none) (k : Keep nd (upd H nd o) H1) : Same H H1 := fun b u e => k b u (ne_of_none e h) (by rw [upd_ne (ne_of_none e h)]; exact e)
/-! ### the pairs (count, sign) and the joins as objects -/
def pairsI (cs : List Int) : List (Int × Int) := cs.zipIdx.map fun p => (p.1, (p.2 : Int))
def rowsOf (st : List WvM.Step) : List (List V) := st.map fun s => [V.int (s.1 : Int), .int (s.2.1 : Int), .int s.2.2]
def signsOf (L : List (Int × Int)) : List (Int × Nat) := L.map fun p => (p.1, p.2.toNat)
theorem signs_of {cs : List Int} {L : List (Int × Int)} (h1 : SrtO.Srtd SrtO.lexB L) (h2 : L.Perm (pairsI cs)) : WvM.Signs cs (signsOf L) := by
  refine ⟨?_, ?_⟩
  · unfold signsOf
    rw [List.map_map]
    exact List.pairwise_map.mpr (srtd_fst h1)
  · have := h2.map fun p : Int × Int => (p.1, p.2.toNat)
    unfold pairsI at this
    rw [List.map_map] at this
    have e : ((fun p : Int × Int => (p.1, p.2.toNat)) ∘ fun p : Int × Nat => (p.1, (p.2 : Int))) = id := by
      funext p
      rfl
    rw [e, List.map_id] at this
    exact this
/-- the state of the inner loop -/
def pk (n : Nat) (signs : List (Int × Nat)) (made : List WvM.Step) (a f : Nat) : Nat → List Nat × Int × Nat × Nat
  | 0 => ([], 0, a, f)
  | j + 1 => ((pk n signs made a f j).1 ++ [(WvM.pick n signs made (pk n signs made a f j).2.2.1 (pk n signs made a f j).2.2.2).1],
      (pk n signs made a f j).2.1 + (WvM.pick n signs made (pk n signs made a f j).2.2.1 (pk n signs made a f j).2.2.2).2.1,
      (WvM.pick n signs made (pk n signs made a f j).2.2.1 (pk n signs made a f j).2.2.2).2.2.1, (WvM.pick n signs made (pk n signs made a f j).2.2.1 (pk n signs made a f j).2.2.2).2.2.2)
structure PkOk (signs : List (Int × Nat)) (made : List WvM.Step) (a f : Nat) : Prop where
  la : a ≤ signs.length
  lf : f ≤ made.length
  ne : a < signs.length ∨ f < made.length
theorem pk_ok {n t : Nat} {signs : List (Int × Nat)} {s : List WvM.Step × Nat × Nat} (hs : (signs.map (·.1)).Pairwise (· ≤ ·)) (hn : signs.length = n) (J : WvM.JOk n signs t s) (ht : t + 1 < n) {j : Nat} (hj : j < 2) :
    PkOk signs s.1 (pk n signs s.1 s.2.1 s.2.2 j).2.2.1 (pk n signs s.1 s.2.1 s.2.2 j).2.2.2 := by
  have h1 := J.len
  have h2 := J.sum
  have h3 := J.la
  have h4 := J.lf
  match j, hj with
  | 0, _ => exact ⟨h3, by show s.2.2 ≤ _; omega, by show s.2.1 < _ ∨ s.2.2 < _; omega⟩
  | 1, _ =>
    have p := WvM.pick_ok (n := n) hs J.ord h3 (show s.2.2 ≤ s.1.length by omega) (by omega)
    have q1 := p.sum
    have q2 := p.la
    have q3 := p.lf
    exact ⟨q2, q3, by
      show (WvM.pick n signs s.1 s.2.1 s.2.2).2.2.1 < _ ∨ (WvM.pick n signs s.1 s.2.1 s.2.2).2.2.2 < _
      omega⟩
theorem pk_two (n : Nat) (signs : List (Int × Nat)) (s : List WvM.Step × Nat × Nat) : ∃ x y w, pk n signs s.1 s.2.1 s.2.2 2 = ([x, y], w, (WvM.jturn n signs s).2.1, (WvM.jturn n signs s).2.2) ∧ (WvM.jturn n signs s).1 = s.1 ++ [(x, y, w)] := by
  refine ⟨_, _, _, rfl, ?_⟩
  show _ ++ [(_, _, _)] = _ ++ [(_, _, (0 : Int) + _ + _)]
  rw [Int.zero_add]
  rfl
section
variable {P : Program} {w : World} {K : PySem.W.Frag} {mg : Str → Option Value} {base : Heap} {cT cB cO C : Addr}
/-! ### joined_pairs -/
abbrev NJ : List Str := ["counts", "signs", "made", "at", "first", "turn", "nodes", "weight", "part", "sign", "count"]
def spJoined (K : PySem.W.Frag) : Sp := fun vs H Q _ => ∃ (b : Bool) (a : Addr) (cs : List Int), vs = [.ref a] ∧ SqB b K H a (iv cs) ∧ 2 ≤ cs.length ∧ cs.length ≤ 40 ∧ (∀ c ∈ cs, 0 ≤ c) ∧
  ∀ H' p xs signs, Same H H' → H p = none → H' p = some (.lst xs) → WvM.Signs cs signs → Refs H' xs (rowsOf (WvM.steps signs)) → Q (.ref p) H'
theorem scJoined : FnScope NJ ["counts"] (defScope sJoined) := ⟨rfl, rfl, rfl, by decide +kernel, rfl, by decide +kernel, by decide +kernel⟩
theorem ok_joined {f : Addr} {fd : FuncData} (F : FnP K "joined_pairs" sJoined f fd) (T : Bl mg) : FnOk P w K mg base CX0 1 f fd ["counts"] (spJoined K) := by
  refine F.ok scJoined (fun vs H Q E h => ?_) (fun cdv A outer s H vs Q E hr h => ?_)
  · obtain ⟨b, a, cs, rfl, _⟩ := h
    rfl
  · obtain ⟨b, a, cs, rfl, ha, h2, h40, h0, k⟩ := h
    refine ⟨_, PSs.nox (pss_cons (ps_set (i := 1) scJoined.nd rfl (Or.inl rfl) (pe_callB cr_sortedPO (by rfl) T.sorted (by decide +kernel) (pa_cons
        (pe_lc (own := [("sign", 9), ("count", 10)]) (g := gTup K 2 (gCons (gName 9) (gCons (gName 10) gNil))) rfl scJoined.nd (pi_enumB b (by rfl) T.enumerate (pa_cons (pv 0) pa_nil)) (blkOk_by (N := NJ) (sc := defScope sJoined) (by decide +kernel))
          (fun _ _ _ _ _ => by exact pg_tup rfl (pgs_cons (pg_name (i := 9) scJoined.nd rfl (Or.inl rfl)) (pgs_cons (pg_name (i := 10) scJoined.nd rfl (Or.inl rfl)) pgs_nil)))
          (fun _ _ _ _ _ => pts_nil) (fun _ _ _ _ _ => by exact pe_tup (pa_cons (pv 10) (pa_cons (pv 9) pa_nil)))) pa_nil)))
      (pss_cons (ps_par3 (i := 2) (j := 3) (l := 4) (by rfl) scJoined.nd rfl rfl rfl (by decide) (by decide) (by decide) rfl rfl rfl (pa_cons (pe_lst pa_nil) (pa_cons pe_int (pa_cons pe_int pa_nil))) (by rfl))
      (pss_cons (ps_for PassesOwn.never rfl (pi_range1 (by rfl) T.range (pa_cons (pe_op op_sub (pe_callB call_len_seq (by rfl) T.len (by decide +kernel) (pa_cons (pv 0) pa_nil)) pe_int) pa_nil)) (pg_name (i := 5) scJoined.nd rfl (Or.inl rfl))
        (pss_cons (ps_par (i := 6) (j := 7) (by rfl) scJoined.nd rfl rfl (by decide) rfl rfl (pa_cons (pe_lst pa_nil) (pa_cons pe_int pa_nil)) (by rfl))
        (pss_cons (ps_for PassesOwn.never rfl (pi_range1 (by rfl) T.range (pa_cons pe_int pa_nil)) (pg_name (i := 8) scJoined.nd rfl (Or.inl rfl))
          (pss_one (ps_if (pt_know (PW.pt (pw_and (pt_cmpR op_lt (pv 3) (pe_callB call_len_seq (by rfl) T.len (by decide +kernel) (pa_cons (pv 1) pa_nil)) (nomark _))
              (pw_and1 (PW.pt (pw_or (pt_cmpR op_eq (pv 4) (pe_callB call_len_seq (by rfl) T.len (by decide +kernel) (pa_cons (pv 2) pa_nil)) (nomark _))
                (pw_or1 (pt_cmpR op_le (pe_ix ix_tup (pe_ix ix_list (pv 1) (pv 3) (fun _ _ => rfl)) pe_int (fun _ _ => rfl)) (pe_ix ix_tup (pe_ix ix_list (pv 2) (pv 4) (fun _ _ => rfl)) pe_int (fun _ _ => rfl)) (nomark _)))))))))
            (pss_cons (ps_expr (pe_bm PySem.F.plainAttrs_list PySem.F.slot_list_append PySem.F.type_list_append mt_append (pv 6) (pa_cons (pe_ix ix_tup (pe_ix ix_list (pv 1) (pv 3) (fun _ _ => rfl)) pe_int (fun _ _ => rfl)) pa_nil)))
            (pss_cons (ps_aug (i := 7) scJoined.nd rfl (Or.inl rfl) (pe_ix ix_tup (pe_ix ix_list (pv 1) (pv 3) (fun _ _ => rfl)) pe_int (fun _ _ => rfl)) ip_add)
            (pss_one (ps_aug (i := 3) scJoined.nd rfl (Or.inl rfl) pe_int ip_add))))
            (pss_cons (ps_expr (pe_bm PySem.F.plainAttrs_list PySem.F.slot_list_append PySem.F.type_list_append mt_append (pv 6) (pa_cons (pe_op op_add (pe_callB call_len_seq (by rfl) T.len (by decide +kernel) (pa_cons (pv 0) pa_nil)) (pv 4)) pa_nil)))
            (pss_cons (ps_aug (i := 7) scJoined.nd rfl (Or.inl rfl) (pe_ix ix_tup (pe_ix ix_list (pv 2) (pv 4) (fun _ _ => rfl)) pe_int (fun _ _ => rfl)) ip_add)
            (pss_one (ps_aug (i := 4) scJoined.nd rfl (Or.inl rfl) pe_int ip_add)))))))
        (pss_one (ps_expr (pe_bm PySem.F.plainAttrs_list PySem.F.slot_list_append PySem.F.type_list_append mt_append (pv 2)
          (pa_cons (pe_tup (pa_cons (pe_ix ix_list (pv 6) pe_int (fun _ _ => rfl)) (pa_cons (pe_ix ix_list (pv 6) pe_int (fun _ _ => rfl)) (pa_cons (pv 7) pa_nil)))) pa_nil)))))))
      (pss_one (ps_ret (pv 2)))))), ?_⟩
    refine ⟨_, rfl, a, _, rfl, ha, fun D hD => ?_⟩
    refine lc_it (walk_enumB (b := b)) (fun i H' => Same H H' ∧ ∃ xs : List V, H' D = some (.lst xs) ∧ Refs H' xs (((pairsI cs).take i).map pv2)) ⟨same_new hD, [], upd_same, .nil⟩ ?_ ?_ ?_
    · rintro i H' _ ⟨sH, _⟩
      exact ha.same sH
    · rintro i x H' H2 hi ⟨sH, xs, hDx, hr'⟩ ⟨T', v, rfl, hT, rfl, hv⟩
      obtain ⟨c, hc, rfl⟩ := get_map hv
      refine ⟨T', _, rfl, .inl (.inl upd_same), rfl, _, _, rfl, _, _, rfl, rfl, rfl, ?_⟩
      refine ⟨_, rfl, _, rfl, (by show 2 ≤ sizeLine; decide), fun t ht => ?_⟩
      have hDT : H' D ≠ none := by rw [hDx]; intro z; cases z
      have nD : ∀ {b : Addr}, H' b = none → D ≠ b := fun z e => hDT (by rw [e]; exact z)
      have ht' : H' t = none := by
        by_cases c : t = T'
        · rw [c]; exact hT
        · rw [upd_ne c] at ht
          exact ht
      have s2 : Same H' (upd (upd H' T' (.tup [.int i, .int c])) t (.tup [.int c, .int i])) := same_new' (same_new hT) ht
      have hD2 : upd (upd H' T' (.tup [.int i, .int c])) t (.tup [.int c, .int i]) D = some (.lst xs) := s2 _ _ hDx
      have hp1 : (pairsI cs)[i]? = some (c, (i : Int)) := by
        unfold pairsI
        rw [List.getElem?_map, List.getElem?_zipIdx, hc]
        simp
      have hxl : xs.length ≤ 40 := by
        have := Paired.length hr'
        rw [List.length_map] at this
        have h2 : (pairsI cs).length = cs.length := by simp [pairsI]
        have h3 : (List.take i (pairsI cs)).length ≤ (pairsI cs).length := by rw [List.length_take]; omega
        omega
      refine ⟨xs, hD2, small5l (by omega), same_mut (Same.trans sH s2) hD, _, upd_same, ?_⟩
      rw [take_snoc hp1, List.map_append]
      exact ((hr'.same s2).lst hD2).snoc ⟨t, rfl, by rw [upd_ne (fun z => nD ht' z.symm), upd_same]; rfl⟩
    · rintro H1 ⟨sH1, xs, hDx, hr1⟩
      rw [List.take_of_length_le (by simp [pairsI])] at hr1
      obtain ⟨hk1, hk2⟩ := refs_k hr1
      refine ⟨D, xs, kOf H1, rfl, SqL.of hDx, fun x hx => ?_, fun ys p2 hsrt hstb hp2 => ?_⟩
      · obtain ⟨t, e1, e2⟩ := hk2 x hx
        exact ⟨t, e1, e2⟩
      have hperm : (ys.map (kOf H1)).Perm (pairsI cs) := by
        have := hstb.perm.map (kOf H1)
        rw [hk1] at this
        exact this
      have hyr : ∀ x ∈ ys, RefT H1 x (pv2 (kOf H1 x)) := fun x hx => hk2 x (hstb.perm.mem_iff.mp hx)
      have hS : WvM.Signs cs (signsOf (ys.map (kOf H1))) := signs_of (SrtO.srtd_map hsrt) hperm
      have hnn : ∀ q ∈ ys.map (kOf H1), ∃ j : Nat, q.2 = (j : Int) := fun q hq => by
        obtain ⟨z, hz, rfl⟩ := List.mem_map.mp (hperm.mem_iff.mp hq)
        exact ⟨z.2, rfl⟩
      generalize hL : ys.map (kOf H1) = L at hperm hS hnn
      generalize hSg : signsOf L = signs at hS
      have hsn : signs.length = cs.length := hS.len
      have hyl : ys.length = cs.length := by rw [← hsn, ← hSg, ← hL]; simp [signsOf]
      have hs0 : ∀ p ∈ signs, 0 ≤ p.1 := fun p hp => h0 _ (by
        have := hS.perm.mem_iff.mp hp
        exact List.mem_of_getElem? (WvM.zipIdx_lt this).2)
      have sH2 : Same H (upd H1 p2 (.lst ys)) := same_new' sH1 hp2
      refine ⟨Nat.zero_le _, fun m hm => ?_⟩
      refine ⟨_, _, _, rfl, ?_⟩
      have hmK : ∀ {o : HO}, Keep m (upd H1 p2 (.lst ys)) (upd (upd H1 p2 (.lst ys)) m o) := Keep.at
      have hcl : (iv cs).length = cs.length := by simp
      have same_m : ∀ {H' : Hp}, Keep m (upd H1 p2 (.lst ys)) H' → Same H H' := fun kk b o e => kk b o (ne_of_none (sH2 _ _ e) hm) (sH2 _ _ e)
      refine ⟨_, rfl, a, _, rfl, (ha.same (Same.trans sH2 (same_new hm))).or, _, _, rfl, rfl, _, rfl, by rw [hcl]; omega, by rw [hcl]; omega, ?_⟩
      -- the outer loop
      have hp2m : p2 ≠ m := ne_of_none upd_same hm
      refine for_range (n := (((iv cs).length : Int) - 1).toNat) (fun t σ H' => Keep m (upd H1 p2 (.lst ys)) H' ∧ ∃ mr, H' m = some (.lst mr) ∧ Refs H' mr (rowsOf (WvM.jst signs.length signs t).1) ∧
        ∃ z1 z2 z3 z4, σ = [some (.ref a), some (.ref p2), some (.ref m), some (.int ((WvM.jst signs.length signs t).2.1 : Nat)), some (.int ((WvM.jst signs.length signs t).2.2 : Nat)), z1, z2, z3, z4, none, none]) ⟨hmK, [], upd_same, .nil, none, none, none, none, rfl⟩ ?_ ?_
      · rintro t σ H' ht ⟨kk, mr, hmr, hrf, z1, z2, z3, z4, rfl⟩
        have ht' : t + 1 < cs.length := by rw [hcl] at ht; omega
        have J := WvM.jst_ok hS.ord (rfl : signs.length = signs.length) hs0 t (by omega)
        generalize hst : WvM.jst signs.length signs t = st at *
        have hjn : WvM.jst signs.length signs (t + 1) = WvM.jturn signs.length signs st := by rw [← hst]; rfl
        refine ⟨Nat.zero_le _, fun nd hnd => ⟨_, _, rfl, ?_⟩⟩
        refine ⟨2, rfl, by decide, by decide, ?_⟩
        have hml : mr.length = st.1.length := by rw [Paired.length hrf]; simp [rowsOf]
        refine for_range (n := 2) (fun j σ H2 => Keep nd (upd H' nd (.lst [])) H2 ∧ H2 nd = some (.lst (lv (pk signs.length signs st.1 st.2.1 st.2.2 j).1)) ∧ (pk signs.length signs st.1 st.2.1 st.2.2 j).1.length = j ∧
          ∃ z1 z2, σ = [some (.ref a), some (.ref p2), some (.ref m), some (.int ((pk signs.length signs st.1 st.2.1 st.2.2 j).2.2.1 : Nat)), some (.int ((pk signs.length signs st.1 st.2.1 st.2.2 j).2.2.2 : Nat)), z1, some (.ref nd), some (.int (pk signs.length signs st.1 st.2.1 st.2.2 j).2.1), z2, none, none]) ⟨Keep.refl _ _, upd_same, rfl, _, _, rfl⟩ ?_ ?_
        · rintro j σ H2 hj ⟨k2, hnd2, hlen, z5, z6, rfl⟩
          have B := pk_ok hS.ord (rfl : signs.length = signs.length) J (by omega) hj
          have hpk1 : ∀ p, WvM.pick signs.length signs st.1 (pk signs.length signs st.1 st.2.1 st.2.2 j).2.2.1 (pk signs.length signs st.1 st.2.1 st.2.2 j).2.2.2 = p →
              pk signs.length signs st.1 st.2.1 st.2.2 (j + 1) = ((pk signs.length signs st.1 st.2.1 st.2.2 j).1 ++ [p.1], (pk signs.length signs st.1 st.2.1 st.2.2 j).2.1 + p.2.1, p.2.2.1, p.2.2.2) := fun p e => by rw [← e]; rfl
          generalize hpk : pk signs.length signs st.1 st.2.1 st.2.2 j = sj at *
          obtain ⟨nm, wg, aj, fj⟩ := sj
          have B1 : aj ≤ signs.length := B.la
          have B2 : fj ≤ st.1.length := B.lf
          have B3 : aj < signs.length ∨ fj < st.1.length := B.ne
          have hnl : nm.length = j := hlen
          have s2 : Same H' H2 := same_of_keep hnd k2
          have hm2 := s2 _ _ hmr
          have hp2' : H' p2 = some (.lst ys) := kk _ _ hp2m upd_same
          have hp22 := s2 _ _ hp2'
          have npd : p2 ≠ nd := ne_of_none hp2' hnd
          have nmd : m ≠ nd := ne_of_none hmr hnd
          have hylen : ys.length = signs.length := by omega
          have sgn : ∀ i, i < signs.length → ∃ (t : Addr) (c : Int) (jj : Nat), ys[i]? = some (.ref t) ∧ H2 t = some (.tup [.int c, .int (jj : Int)]) ∧ signs.getD i (0, 0) = (c, jj) := fun i hi => by
            have hiy : i < ys.length := by omega
            obtain ⟨t, e1, e2⟩ := hyr ys[i] (List.getElem_mem hiy)
            have hLi : L[i]? = some (kOf H1 ys[i]) := by rw [← hL, List.getElem?_map, List.getElem?_eq_getElem hiy]; rfl
            obtain ⟨jj, ej⟩ := hnn _ (List.mem_of_getElem? hLi)
            have e3 : H' t = some (.tup (pv2 (kOf H1 ys[i]))) := kk _ _ (fun z => by
              have := hm
              rw [upd_ne (fun y => by rw [z, y] at e2; rw [hp2] at e2; cases e2)] at this
              rw [← z, e2] at this
              cases this) (by rw [upd_ne (ne_of_none e2 hp2)]; exact e2)
            refine ⟨t, (kOf H1 ys[i]).1, jj, by rw [List.getElem?_eq_getElem hiy, e1], ?_, ?_⟩
            · rw [← ej]
              exact s2 _ _ e3
            · rw [← hSg]
              unfold signsOf
              rw [List.getD_eq_getElem?_getD, List.getElem?_map, hLi]
              show (_, (kOf H1 ys[i]).2.toNat) = _
              rw [ej]
              rfl
          have mad : ∀ i, i < st.1.length → ∃ (u : Addr) (x y : Int), mr[i]? = some (.ref u) ∧ H2 u = some (.tup [.int x, .int y, .int (WvM.wt st.1 i)]) := fun i hi => by
            have hi2 : i < mr.length := by omega
            obtain ⟨r, hr1, u, e1, e2⟩ := paired_get hrf (List.getElem?_eq_getElem hi2)
            unfold rowsOf at hr1
            obtain ⟨q, hq1, rfl⟩ := get_map hr1
            refine ⟨u, (q.1 : Int), (q.2.1 : Int), by rw [List.getElem?_eq_getElem hi2, e1], ?_⟩
            have e3 : WvM.wt st.1 i = q.2.2 := by
              unfold WvM.wt
              rw [List.getD_eq_getElem?_getD, hq1]
              rfl
            rw [e3]
            exact s2 _ _ e2
          refine ⟨decide (aj < signs.length ∧ (fj = st.1.length ∨ (signs.getD aj (0, 0)).1 ≤ WvM.wt st.1 fj)), fun Q' q => ?_, ite2 (fun hC => ?_) (fun hC => ?_)⟩
          · refine ⟨_, rfl, _, rfl, p2, ys, rfl, .inl (SqL.of hp22), _, _, rfl, rfl, _, rfl, ?_⟩
            by_cases c1 : aj < signs.length
            · rw [show decide ((aj : Int) < (ys.length : Int)) = true from decide_eq_true (by omega)]
              refine iteT ⟨_, rfl, _, rfl, m, mr, rfl, .inl (SqL.of hm2), rfl, _, rfl, ?_⟩
              by_cases c2 : fj = st.1.length
              · rw [show decide (V.int (fj : Int) = V.int (mr.length : Int)) = true from decide_eq_true (by rw [hml, c2])]
                rw [show decide (aj < signs.length ∧ (fj = st.1.length ∨ (signs.getD aj (0, 0)).1 ≤ WvM.wt st.1 fj)) = true from decide_eq_true ⟨c1, .inl c2⟩] at q
                exact iteT q
              · rw [show decide (V.int (fj : Int) = V.int (mr.length : Int)) = false from decide_eq_false (fun z => c2 (by simp only [V.int.injEq] at z; omega))]
                obtain ⟨t, c, jj, g1, g2, g3⟩ := sgn aj c1
                obtain ⟨u, x, y, u1, u2⟩ := mad fj (by omega)
                refine iteF ⟨_, rfl, _, rfl, p2, ys, _, _, rfl, rfl, SqL.of hp22, atI_nat g1, t, _, _, _, rfl, rfl, SqT.of g2, atI_nat (j := 0) rfl, ?_⟩
                refine ⟨_, rfl, _, rfl, m, mr, _, _, rfl, rfl, SqL.of hm2, atI_nat u1, u, _, _, _, rfl, rfl, SqT.of u2, atI_nat (j := 2) rfl, _, _, rfl, rfl, _, rfl, ?_⟩
                rw [g3] at q
                rw [show decide (aj < signs.length ∧ (fj = st.1.length ∨ c ≤ WvM.wt st.1 fj)) = decide (c ≤ WvM.wt st.1 fj) from decide_eq_decide.mpr ⟨fun z => z.2.resolve_left c2, fun z => ⟨c1, .inr z⟩⟩] at q
                exact q
            · rw [show decide ((aj : Int) < (ys.length : Int)) = false from decide_eq_false (by omega)]
              rw [show decide (aj < signs.length ∧ (fj = st.1.length ∨ (signs.getD aj (0, 0)).1 ≤ WvM.wt st.1 fj)) = false from decide_eq_false (fun z => c1 z.1)] at q
              exact iteF q
          · have hC' := of_decide_eq_true hC
            obtain ⟨t, c, jj, g1, g2, g3⟩ := sgn aj hC'.1
            have hp := hpk1 (jj, c, aj + 1, fj) (by unfold WvM.pick; rw [if_pos hC', g3])
            refine ⟨_, rfl, .inl ⟨rfl, _, SqL.of hnd2⟩, _, rfl, _, rfl, p2, ys, _, _, rfl, rfl, SqL.of hp22, atI_nat g1, t, _, _, _, rfl, rfl, SqT.of g2, atI_nat (j := 1) rfl, nd, _, _, rfl, rfl, hnd2, small5l ?_, ?_⟩
            · rw [List.length_map]
              omega
            refine ⟨_, rfl, _, rfl, _, rfl, p2, ys, _, _, rfl, rfl, SqL.of (by rw [upd_ne npd]; exact hp22), atI_nat g1, t, _, _, _, rfl, rfl, SqT.of (by rw [upd_ne (ne_of g2 hnd2 (fun z => nomatch z))]; exact g2), atI_nat (j := 0) rfl, _, _, rfl, rfl, ?_⟩
            refine ⟨_, rfl, _, _, rfl, rfl, Keep.trans k2 Keep.at, ?_, ?_, z5, some (.int (0 + (j : Int))), ?_⟩
            · rw [upd_same, hp]
              show _ = some (HO.lst (List.map _ (nm ++ [jj])))
              rw [List.map_append]
              rfl
            · rw [hp]
              simp [hnl]
            · rw [hp]
              rfl
          · have hC' : ¬ (aj < signs.length ∧ (fj = st.1.length ∨ (signs.getD aj (0, 0)).1 ≤ WvM.wt st.1 fj)) := fun z => hC (decide_eq_true z)
            have hf : fj < st.1.length := by
              rcases Nat.lt_or_ge aj signs.length with c1 | c1
              · have : fj ≠ st.1.length := fun z => hC' ⟨c1, .inl z⟩
                omega
              · omega
            obtain ⟨u, x, y, u1, u2⟩ := mad fj hf
            have hp := hpk1 (signs.length + fj, WvM.wt st.1 fj, aj, fj + 1) (by unfold WvM.pick; rw [if_neg hC'])
            refine ⟨_, rfl, .inl ⟨rfl, _, SqL.of hnd2⟩, _, rfl, a, _, rfl, (ha.same (Same.trans (same_m kk) s2)).or, _, rfl, _, _, rfl, rfl, nd, _, _, rfl, rfl, hnd2, small5l ?_, ?_⟩
            · rw [List.length_map]
              omega
            refine ⟨_, rfl, _, rfl, _, rfl, m, mr, _, _, rfl, rfl, SqL.of (by rw [upd_ne nmd]; exact hm2), atI_nat u1, u, _, _, _, rfl, rfl, SqT.of (by rw [upd_ne (ne_of u2 hnd2 (fun z => nomatch z))]; exact u2), atI_nat (j := 2) rfl, _, _, rfl, rfl, ?_⟩
            refine ⟨_, rfl, _, _, rfl, rfl, Keep.trans k2 Keep.at, ?_, ?_, z5, some (.int (0 + (j : Int))), ?_⟩
            · rw [upd_same, hp, hcl, ← hsn]
              show _ = some (HO.lst (List.map _ (nm ++ [signs.length + fj])))
              rw [List.map_append]
              rfl
            · rw [hp]
              simp [hnl]
            · rw [hp]
              rfl
        · rintro σ H2 ⟨k2, hnd2, hlen, z5, z6, rfl⟩
          obtain ⟨x, y, wg, e1, e2⟩ := pk_two signs.length signs st
          rw [e1] at hnd2 ⊢
          have s2 : Same H' H2 := same_of_keep hnd k2
          have hm2 := s2 _ _ hmr
          refine ⟨_, rfl, .inl ⟨rfl, _, SqL.of hm2⟩, ?_⟩
          refine ⟨_, rfl, nd, _, _, _, rfl, rfl, SqL.of hnd2, atI_nat (j := 0) rfl, _, rfl, nd, _, _, _, rfl, rfl, SqL.of hnd2, atI_nat (j := 1) rfl, _, rfl, (by show 3 ≤ sizeLine; decide), fun t3 ht3 => ?_⟩
          have hm3 : upd H2 t3 (.tup [.int (x : Int), .int (y : Int), .int wg]) m = some (.lst mr) := by
            rw [upd_ne (ne_of_none hm2 ht3)]
            exact hm2
          refine ⟨m, _, _, rfl, rfl, hm3, small5l ?_, Keep.trans kk (Keep.trans (Keep.of (same_new' s2 ht3)) Keep.at), _, upd_same, ?_, z5, some (.ref nd), some (.int wg), z6, ?_⟩
          · have := J.len
            omega
          · rw [hjn, e2]
            unfold rowsOf
            rw [List.map_append]
            exact ((hrf.same (same_new' s2 ht3)).lst hm3).snoc ⟨t3, rfl, by rw [upd_ne (fun z => by rw [← z, ht3] at hm2; cases hm2), upd_same]⟩
          · rw [hjn]
      · rintro σ H' ⟨kk, mr, hmr, hrf, z1, z2, z3, z4, rfl⟩
        refine ⟨_, rfl, k H' m mr signs (same_m kk) ?_ hmr hS ?_⟩
        · cases e : H m with
          | none => rfl
          | some o => rw [sH2 _ _ e] at hm; cases hm
        · have e : (((iv cs).length : Int) - 1).toNat = signs.length - 1 := by rw [hcl]; omega
          rw [e] at hrf
          exact hrf
end
end Wv

set_option Elab.async false
set_option linter.all false
set_option maxRecDepth 100000
set_option maxHeartbeats 4000000
set_option pp.maxSteps 1500
namespace Wv
open PySem PySem.Spec PyProof.Rows L2
section
variable {P : Program} {w : World} {K : PySem.W.Frag} {mg : Str → Option Value} {base : Heap} {cT cB cO C : Addr}
/-! ### least_of -/
def spLeastOf (K : PySem.W.Frag) : Sp := fun vs H Q _ => ∃ (b : Bool) (a : Addr) (cs : List Int), vs = [.ref a] ∧ SqB b K H a (iv cs) ∧ 2 ≤ cs.length ∧ cs.length ≤ 40 ∧ (∀ c ∈ cs, 0 ≤ c) ∧ ∀ H', Same H H' → Q (.int (WvM.huff cs)) H'
theorem scLeastOf : FnScope ["counts", "one", "other", "weight"] ["counts"] (defScope sLeastOf) := ⟨rfl, rfl, rfl, by decide +kernel, rfl, by decide +kernel, by decide +kernel⟩
theorem ok_leastOf {f f1 : Addr} {fd fd1 : FuncData} (F : FnP K "least_of" sLeastOf f fd) (T : Bl mg) (C1 : Cl P w K mg base CX0 "joined_pairs" f1 fd1 1 ["counts"] (spJoined K)) : FnOk P w K mg base CX0 2 f fd ["counts"] (spLeastOf K) := by
  refine F.ok scLeastOf (fun vs H Q E h => ?_) (fun cdv A outer s H vs Q E hr h => ?_)
  · obtain ⟨b, a, cs, rfl, _⟩ := h
    rfl
  · obtain ⟨b, a, cs, rfl, ha, h2, h40, h0, k⟩ := h
    refine ⟨_, PSs.nox (pss_one (ps_ret (pe_callB (cr_sum rfl) (by rfl) T.sum (by decide +kernel) (pa_cons
      (pe_lc (own := [("one", 1), ("other", 2), ("weight", 3)]) (g := gTup K 3 (gCons (gName 1) (gCons (gName 2) (gCons (gName 3) gNil)))) rfl scLeastOf.nd (pi_list (pe_call C1.ok hr (by rfl) C1.g C1.kp C1.b .nil pass0 (pa_cons (pv 0) pa_nil))) (blkOk_by (N := ["counts", "one", "other", "weight"]) (sc := defScope sLeastOf) (by decide +kernel))
        (fun _ _ _ _ _ => by exact pg_tup rfl (pgs_cons (pg_name (i := 1) scLeastOf.nd rfl (Or.inl rfl)) (pgs_cons (pg_name (i := 2) scLeastOf.nd rfl (Or.inl rfl)) (pgs_cons (pg_name (i := 3) scLeastOf.nd rfl (Or.inl rfl)) pgs_nil))))
        (fun _ _ _ _ _ => pts_nil) (fun _ _ _ _ _ => by exact pv 3)) pa_nil)))), ?_⟩
    refine ⟨_, rfl, b, a, cs, rfl, ha, h2, h40, h0, fun H1 p xs signs s1 hp hpx hS hrf => ?_⟩
    have hlen := hS.slen h0 (by omega)
    have hxl : xs.length = (WvM.steps signs).length := by rw [Paired.length hrf]; simp [rowsOf]
    refine ⟨p, rfl, ⟨_, SqL.of hpx⟩, fun D hD => ?_⟩
    have pD : p ≠ D := ne_of_none hpx hD
    refine lc_it (walk_list (xs := xs)) (fun i H' => Same H1 H' ∧ H' D = some (.lst ((((WvM.steps signs).take i).map (·.2.2)).map V.int))) ⟨same_new hD, upd_same⟩ ?_ ?_ ?_
    · rintro i H' _ ⟨sH, _⟩
      exact SqL.of (sH _ _ hpx)
    · rintro i y H' H3 hi ⟨sH, hDx⟩ ⟨rfl, hy⟩
      obtain ⟨r, hr1, u, rfl, e2⟩ := paired_get hrf hy
      obtain ⟨q, hq1, rfl⟩ := get_map hr1
      refine ⟨u, _, rfl, .inl (.inl (sH _ _ e2)), rfl, _, _, rfl, _, _, rfl, _, _, rfl, rfl, rfl, ?_⟩
      refine ⟨_, rfl, _, hDx, small5l ?_, same_mut sH hD, ?_⟩
      · rw [List.length_map, List.length_map, List.length_take]
        omega
      · rw [upd_same, take_snoc hq1, List.map_append, List.map_append]
        rfl
    · rintro H3 ⟨s3, hDx⟩
      rw [List.take_of_length_le (by omega)] at hDx
      refine ⟨D, _, rfl, SqL.of hDx, ?_⟩
      rw [hS.sum h0 (by omega)]
      exact k _ (Same.trans s1 s3)
/-! ### least_cost -/
def spLeastCost (K : PySem.W.Frag) (cB : Addr) : Sp := fun vs H Q E => ∃ (b : Bool) (a : Addr) (xs : List V), vs = [.ref a] ∧ SqB b K H a xs ∧ (∀ x ∈ xs, Plain H x) ∧
  ((∃ cs, xs = iv cs ∧ 2 ≤ cs.length ∧ cs.length ≤ 40 ∧ (∀ c ∈ cs, 0 ≤ c) ∧ ∀ H', Same H H' → Q (.int (WvM.huff cs)) H') ∨ (2 ≤ xs.length ∧ xs.length ≤ 2000 ∧ ∃ i, firstBad xs i ∧ Err H cB (tallyF i) E))
theorem scLeastCost : FnScope ["counts"] ["counts"] (defScope sLeastCost) := ⟨rfl, rfl, rfl, by decide +kernel, rfl, by decide +kernel, by decide +kernel⟩
theorem no_bad {xs : List V} {i : Nat} (h : ∀ x ∈ xs, cntV x = true) (b : firstBad xs i) : False := by
  obtain ⟨⟨y, hy, hc⟩, _⟩ := b
  rw [h y (List.mem_of_getElem? hy)] at hc
  cases hc
theorem firstBad_uniq {xs : List V} {i j : Nat} (a : firstBad xs i) (b : firstBad xs j) : i = j := by
  obtain ⟨⟨x, hx, cx⟩, gx⟩ := a
  obtain ⟨⟨y, hy, cy⟩, gy⟩ := b
  rcases Nat.lt_trichotomy i j with h | h | h
  · rw [gy i x h hx] at cx
    cases cx
  · exact h
  · rw [gx j y h hy] at cy
    cases cy
theorem ok_leastCost {f f1 f2 : Addr} {fd fd1 fd2 : FuncData} (F : FnP K "least_cost" sLeastCost f fd) (C1 : Cl P w K mg base (L2.CX P w) "check_counts" f1 fd1 4 ["counts"] (spCheckCounts K cT cB)) (C2 : Cl P w K mg base CX0 "least_of" f2 fd2 2 ["counts"] (spLeastOf K)) :
    FnOk P w K mg base (L2.CX P w) 5 f fd ["counts"] (spLeastCost K cB) := by
  refine F.ok scLeastCost (fun vs H Q E h => ?_) (fun cdv A outer s H vs Q E hr h => ?_)
  · obtain ⟨b, a, xs, rfl, _⟩ := h
    rfl
  · obtain ⟨b, a, xs, rfl, ha, hpl, hc⟩ := h
    refine ⟨_, pss_cons (ps_expr (pe_call C1.ok hr (by rfl) C1.g C1.kp C1.b .nil (passes_call (takes_of rfl rfl rfl rfl) (fun _ _ _ _ h => h)) (pa_cons (pv 0) pa_nil)))
      (pss_one (ps_ret (pe_call C2.ok (hr.mono (by decide)) (by rfl) C2.g C2.kp C2.b .nil pass0 (pa_cons (pv 0) pa_nil)))), ?_⟩
    rcases hc with ⟨cs, rfl, h2, h40, h0, k⟩ | ⟨h2, h3, i, hb, k⟩
    · have hl : (iv cs).length = cs.length := by simp
      refine ⟨_, rfl, b, a, _, rfl, ha, hpl, fun _ _ H1 s1 => ?_, fun hn => absurd ⟨by omega, by omega⟩ hn, fun _ i hb => (no_bad (cnt_ints h0) hb).elim⟩
      exact ⟨_, rfl, b, a, cs, rfl, ha.same s1, h2, h40, h0, fun H2 s2 => k H2 (Same.trans s1 s2)⟩
    · refine ⟨_, rfl, b, a, _, rfl, ha, hpl, fun _ hg => (no_bad hg hb).elim, fun hn => absurd ⟨h2, h3⟩ hn, fun _ j hj => ?_⟩
      rw [firstBad_uniq hj hb]
      exact k
end
end Wv

set_option Elab.async false
set_option linter.all false
set_option maxRecDepth 100000
set_option maxHeartbeats 4000000
set_option pp.maxSteps 1500
namespace Wv
open PySem PySem.Spec PyProof.Rows L2
/-- the dict of heights -/
def HtOk (kv : List (Key × V)) (h : WvM.HM) : Prop := ∀ x : Nat, valV kv (Sum.inl (x : Int)) = (h x).map fun (v : Nat) => V.int (v : Int)
theorem HtOk.put {kv : List (Key × V)} {h : WvM.HM} (o : HtOk kv h) (a v : Nat) : HtOk (putK kv (Sum.inl (a : Int)) (.int (v : Int))) (WvM.put h a v) := fun x => by
  rw [valV_put]
  by_cases e : x = a
  · subst e
    rw [if_pos rfl, WvM.put_same]
    rfl
  · rw [if_neg (fun z => e (by
      have := Sum.inl.inj z
      omega)), WvM.put_ne e]
    exact o x
theorem HtOk.get {kv : List (Key × V)} {h : WvM.HM} (o : HtOk kv h) (x : Nat) : (valV kv (Sum.inl (x : Int))).getD (.int 0) = V.int (((h x).getD 0 : Nat) : Int) := by
  rw [o x]
  cases h x <;> rfl
theorem drop_cons {α : Type} {l : List α} {k : Nat} {x : α} (h : l[k]? = some x) : l.drop k = x :: l.drop (k + 1) := by
  have hk := lt_of_get h
  rw [List.drop_eq_getElem_cons hk]
  rw [List.getElem?_eq_getElem hk] at h
  rw [Option.some.inj h]
theorem hmap_step {n k : Nat} {st : List WvM.Step} {s : WvM.Step} (h : st[k]? = some s) : WvM.hmap n k (st.drop k) = WvM.put (WvM.put (WvM.hmap n (k + 1) (st.drop (k + 1))) s.1 (((WvM.hmap n (k + 1) (st.drop (k + 1))) (n + k)).getD 0 + 1)) s.2.1 (((WvM.hmap n (k + 1) (st.drop (k + 1))) (n + k)).getD 0 + 1) := by
  rw [drop_cons h]
  rfl
section
variable {P : Program} {w : World} {K : PySem.W.Frag} {mg : Str → Option Value} {base : Heap} {cT cB cO C : Addr}
/-! ### lengths_for -/
abbrev NL : List Str := ["counts", "many", "heights", "steps", "at", "below", "sign"]
def spLengthsFor (K : PySem.W.Frag) : Sp := fun vs H Q _ => ∃ (b : Bool) (a : Addr) (cs : List Int), vs = [.ref a] ∧ SqB b K H a (iv cs) ∧ 2 ≤ cs.length ∧ cs.length ≤ 40 ∧ (∀ c ∈ cs, 0 ≤ c) ∧
  ∀ H' p ls, Same H H' → H p = none → H' p = some (.lst (lv ls)) → WvM.Good cs ls → Q (.ref p) H'
theorem scLengthsFor : FnScope NL ["counts"] (defScope sLengthsFor) := ⟨rfl, rfl, rfl, by decide +kernel, rfl, by decide +kernel, by decide +kernel⟩
theorem ok_lengthsFor {f f1 : Addr} {fd fd1 : FuncData} (F : FnP K "lengths_for" sLengthsFor f fd) (T : Bl mg) (C1 : Cl P w K mg base CX0 "joined_pairs" f1 fd1 1 ["counts"] (spJoined K)) : FnOk P w K mg base CX0 2 f fd ["counts"] (spLengthsFor K) := by
  refine F.ok scLengthsFor (fun vs H Q E h => ?_) (fun cdv A outer s H vs Q E hr h => ?_)
  · obtain ⟨b, a, cs, rfl, _⟩ := h
    rfl
  · obtain ⟨b, a, cs, rfl, ha, h2, h40, h0, k⟩ := h
    refine ⟨_, PSs.nox (pss_cons (ps_asg (pe_tup (pa_cons (pe_callB call_len_seq (by rfl) T.len (by decide +kernel) (pa_cons (pv 0) pa_nil)) (pa_cons pe_dnewK pa_nil))) (pg_tup rfl (pgs_cons (pg_name (i := 1) scLengthsFor.nd rfl (Or.inl rfl)) (pgs_cons (pg_name (i := 2) scLengthsFor.nd rfl (Or.inr rfl)) pgs_nil))))
      (pss_cons (ps_set (i := 3) scLengthsFor.nd rfl (Or.inl rfl) (pe_call C1.ok hr (by rfl) C1.g C1.kp C1.b .nil pass0 (pa_cons (pv 0) pa_nil)))
      (pss_cons (ps_for PassesOwn.never rfl (pi_range3 (by rfl) T.range (pa_cons (pe_op op_sub (pe_callB call_len_seq (by rfl) T.len (by decide +kernel) (pa_cons (pv 3) pa_nil)) pe_int) (pa_cons (pe_un un_neg pe_int) (pa_cons (pe_un un_neg pe_int) pa_nil)))) (pg_name (i := 4) scLengthsFor.nd rfl (Or.inl rfl))
        (pss_cons (ps_set (i := 5) scLengthsFor.nd rfl (Or.inl rfl) (pe_op op_add (pe_dget2 (hu_of hr) (pv 2) (pe_op op_add (pv 1) (pv 4)) pe_int ⟨rfl, rfl, rfl, rfl⟩) pe_int))
        (pss_cons (ps_dput (hu_of hr) (pv 2) (pe_ix ix_tup (pe_ix ix_list (pv 3) (pv 4) (fun _ _ => rfl)) pe_int (fun _ _ => rfl)) (pv 5) rfl)
        (pss_one (ps_dput (hu_of hr) (pv 2) (pe_ix ix_tup (pe_ix ix_list (pv 3) (pv 4) (fun _ _ => rfl)) pe_int (fun _ _ => rfl)) (pv 5) rfl)))))
      (pss_one (ps_ret (pe_lc (own := [("sign", 6)]) rfl scLengthsFor.nd (pi_range1 (by rfl) T.range (pa_cons (pv 1) pa_nil)) (blkOk_by (N := NL) (sc := defScope sLengthsFor) (by decide +kernel))
          (fun _ _ _ _ _ => pg_name (i := 6) scLengthsFor.nd rfl (Or.inl rfl)) (fun _ _ _ _ _ => pts_nil) (fun _ _ _ _ _ => pe_dget (hu_of hr) (pv 2) (pv 6) (fun _ _ => rfl)))))))), ?_⟩
    have hcl : (iv cs).length = cs.length := by simp
    refine ⟨_, rfl, a, _, rfl, ha.or, fun d hd => ⟨(by show 2 ≤ sizeLine; decide), fun p hp => ⟨p, _, rfl, .inl (.inl upd_same), rfl, _, _, rfl, _, _, rfl, rfl, ?_⟩⟩⟩
    have s1 := same_new' (o := .tup [V.int ((iv cs).length : Int), V.ref d]) (same_new (o := .dK []) hd) hp
    refine ⟨_, rfl, b, a, cs, rfl, ha.same s1, h2, h40, h0, fun H1 q xs signs sH hq hqx hS hrf => ?_⟩
    have hlen := hS.slen h0 (by omega)
    have hxl : xs.length = (WvM.steps signs).length := by rw [Paired.length hrf]; simp [rowsOf]
    obtain ⟨hgood, hall⟩ := hS.good h0 h2
    generalize hst : WvM.steps signs = st at *
    have hd1 : H1 d = some (.dK []) := sH _ _ (by rw [upd_ne (ne_of_none upd_same hp)]; exact upd_same)
    have qd : q ≠ d := fun z => by rw [← z, hqx] at hd1; cases hd1
    have same_d : ∀ {H' : Hp}, Keep d H1 H' → Same H H' := fun kk b o e => kk b o (ne_of_none e hd) (sH _ _ (s1 _ _ e))
    refine ⟨_, rfl, q, xs, rfl, .inl (SqL.of hqx), _, _, rfl, rfl, _, rfl, _, rfl, (xs.length : Int) - 1, -1, -1, _, rfl, RgC.neg (by omega) (by omega) (by omega) (by omega), ?_⟩
    refine for_rangeC (n := ((xs.length : Int) - 1 - -1).toNat) (fun i σ H' => i ≤ xs.length ∧ Keep d H1 H' ∧ ∃ kv, H' d = some (.dK kv) ∧ kv.length ≤ 2 * i ∧ HtOk kv (WvM.hmap cs.length (st.length - i) (st.drop (st.length - i))) ∧
      ∃ z1 z2, σ = [some (.ref a), some (.int ((iv cs).length : Nat)), some (.ref d), some (.ref q), z1, z2, none]) ⟨Nat.zero_le _, Keep.refl _ _, [], hd1, Nat.zero_le _, ?_, none, none, rfl⟩ ?_ ?_
    · intro x
      rw [Nat.sub_zero, List.drop_length]
      rfl
    · rintro i σ H' hi ⟨hix, kk, kv, hkv, hkl, hok, z1, z2, rfl⟩
      have hi' : i < st.length := by omega
      have hk : st.length - i = (st.length - (i + 1)) + 1 := by omega
      generalize hkk : st.length - (i + 1) = kx at *
      have hkx : kx < st.length := by omega
      have hxk : xs[kx]? = some (xs[kx]'(by omega)) := List.getElem?_eq_getElem (by omega)
      obtain ⟨r, hr1, u, e1, e2⟩ := paired_get hrf hxk
      rw [e1] at hxk
      obtain ⟨sp, hsp, rfl⟩ := get_map hr1
      have hu' : H' u = some (.tup [V.int (sp.1 : Int), .int (sp.2.1 : Int), .int sp.2.2]) := kk _ _ (fun z => by rw [z, hd1] at e2; cases e2) e2
      have hq' := kk _ _ qd hqx
      have hat : ((xs.length : Int) - 1 + (i : Int) * -1) = (kx : Int) := by omega
      rw [hk] at hok
      have hstep := hmap_step (n := cs.length) hsp
      generalize hW : WvM.hmap cs.length (kx + 1) (st.drop (kx + 1)) = W at *
      refine ⟨_, rfl, d, rfl, .inl ⟨kv, .inl hkv⟩, _, rfl, _, rfl, _, _, rfl, rfl, valV kv (Sum.inl ((cs.length + kx : Nat) : Int)), ?_, ?_⟩
      · have z := DGet.k (k := Sum.inl ((cs.length + kx : Nat) : Int)) hkv
        show DGet H' d (.int (((iv cs).length : Int) + ((xs.length : Int) - 1 + (i : Int) * -1))) _
        rw [hcl, hat, ← Int.natCast_add]
        exact z
      · rw [hok.get]
        generalize hv : (W (cs.length + kx)).getD 0 = v at *
        have hat2 : atI xs ((xs.length : Int) - 1 + (i : Int) * -1) = some (V.ref u) := by rw [hat]; exact atI_nat hxk
        have hix40 : i ≤ 40 := by omega
        refine ⟨_, _, rfl, rfl, ?_⟩
        refine ⟨_, rfl, _, rfl, _, rfl, _, rfl, q, xs, _, _, rfl, rfl, SqL.of hq', hat2, u, _, _, _, rfl, rfl, SqT.of hu', atI_nat (j := 0) rfl, d, _, rfl, DPut.k (k := Sum.inl (sp.1 : Int)) hkv (small5l (by omega)), ?_⟩
        refine ⟨_, rfl, _, rfl, _, rfl, _, rfl, q, xs, _, _, rfl, rfl, SqL.of (by rw [upd_ne qd]; exact hq'), hat2, u, _, _, _, rfl, rfl, SqT.of (by rw [upd_ne (ne_of hu' hkv (fun z => nomatch z))]; exact hu'), atI_nat (j := 1) rfl, d, _, rfl,
          DPut.k (k := Sum.inl (sp.2.1 : Int)) upd_same (small5l (Nat.lt_of_le_of_lt (length_putK _ _ _) (by omega))), ?_⟩
        refine ⟨by omega, Keep.trans kk (Keep.trans Keep.at Keep.at), _, upd_same, ?_, ?_, _, _, rfl⟩
        · exact Nat.le_trans (length_putK _ _ _) (Nat.le_trans (Nat.add_le_add_right (length_putK _ _ _) 1) (by omega))
        · rw [hstep]
          exact (hok.put sp.1 (v + 1)).put sp.2.1 (v + 1)
    · rintro σ H' ⟨_, kk, kv, hkv, hkl, hok, z1, z2, rfl⟩
      rw [show st.length - ((xs.length : Int) - 1 - -1).toNat = 0 by omega, List.drop_zero] at hok
      have sHk := same_d kk
      refine ⟨_, rfl, _, rfl, by rw [hcl]; omega, by rw [hcl]; omega, fun D2 hD2 => ?_⟩
      refine lc_range (n := (((iv cs).length : Nat) : Int).toNat) (fun i H2 => Same H' H2 ∧ H2 D2 = some (.lst (lv ((List.range i).map fun j => WvM.hv (WvM.hmap cs.length 0 st) j)))) ⟨same_new hD2, upd_same⟩ ?_ ?_
      · rintro i H2 hi ⟨s2, hD3⟩
        have hi' : i < cs.length := by
          rw [hcl] at hi
          simpa using hi
        obtain ⟨v, hv⟩ := hall i hi'
        have hvv : WvM.hv (WvM.hmap cs.length 0 st) i = v := by
          unfold WvM.hv
          rw [hv]
          rfl
        refine ⟨rfl, _, rfl, _, rfl, d, V.int (v : Int), rfl, ?_, _, hD3, small5l (by simp; omega), same_mut s2 hD2, ?_⟩
        · have z := DGet.k (k := Sum.inl (i : Int)) (s2 _ _ hkv)
          rw [hok i, hv] at z
          have e0 : (0 : Int) + (i : Int) = i := by omega
          show DGet H2 d (.int (0 + (i : Int))) _
          rw [e0]
          exact z
        · rw [upd_same, List.range_succ, List.map_append]
          show _ = some (HO.lst (List.map _ (_ ++ [WvM.hv (WvM.hmap cs.length 0 st) i])))
          rw [hvv, List.map_append]
          rfl
      · rintro H2 ⟨s2, hD3⟩
        refine k _ D2 _ (Same.trans sHk s2) ?_ hD3 ?_
        · cases e : H D2 with
          | none => rfl
          | some o => rw [sHk _ _ e] at hD2; cases hD2
        · rw [show (((iv cs).length : Nat) : Int).toNat = cs.length by rw [hcl]; rfl]
          exact hgood
end
end Wv

set_option Elab.async false
set_option linter.all false
set_option maxRecDepth 100000
set_option maxHeartbeats 4000000
set_option pp.maxSteps 1500
namespace Wv
open PySem PySem.Spec PyProof.Rows L2
section
variable {P : Program} {w : World} {K : PySem.W.Frag} {mg : Str → Option Value} {base : Heap} {cT cB cO C : Addr}
/-- Code(..) -/
structure MkC (P : Program) (w : World) (K : PySem.W.Frag) (mg : Str → Option Value) (base : Heap) (C fI : Addr) (fdI : FuncData) (ds : List Value) : Prop where
  mk1 : Mk K C fI
  dv : Vals [.non] ds
  b : Binds K fdI ["self", "lengths", "words"] ds
  ok : FnOk P w K mg base CX0 4 fI fdI ["self", "lengths", "words"] (spCodeInit K C)
/-- what making a code asks, and what it leaves -/
theorem made_code {b : Bool} {H : Hp} {a x dx : Addr} {ls : List Nat} {Q : VK} {E : XK} (hx : H x = none) (hd : H dx = none) (ne : dx ≠ x) (ha : SqB b K H a (lv ls)) (h2 : 2 ≤ ls.length) (h40 : ls.length ≤ 40) (h63 : ∀ l ∈ ls, 1 ≤ l ∧ l ≤ 63) (hf : WvM.Full ls)
    (k : ∀ H', Same H H' → IsCode K C H' x ls → Q (.ref x) H') : spCodeInit K C [.ref x, .ref a, .non] (upd (upd H dx (.own x)) x (.ins C dx [])) (fun v H2 => v = .non ∧ Q (.ref x) H2) E := by
  have s1 : Same H (upd (upd H dx (.own x)) x (.ins C dx [])) := same_new' (same_new hd) (by rw [upd_ne (Ne.symm ne)]; exact hx)
  refine ⟨b, x, dx, a, ls, rfl, upd_same, ha.same s1, h2, h40, h63, hf, fun H' kk hc => ⟨rfl, k H' (fun c o e => kk c o (ne_of_none e hx) (s1 _ _ e)) hc⟩⟩
/-! ### least_code -/
def spLeastCode (K : PySem.W.Frag) (C cT : Addr) : Sp := fun vs H Q E => ∃ (a : Addr) (xs : List V), vs = [.ref a] ∧ SqL K H a xs ∧ (∀ x ∈ xs, Plain H x) ∧
  ((∃ cs, xs = iv cs ∧ 2 ≤ cs.length ∧ cs.length ≤ 40 ∧ (∀ c ∈ cs, 0 ≤ c) ∧ ∀ H' x ls, Same H H' → WvM.Good cs ls → IsCode K C H' x ls → Q (.ref x) H') ∨ (¬ (2 ≤ xs.length ∧ xs.length ≤ 2000) ∧ Err H cT (tooF xs.length) E))
theorem scLeastCode : FnScope ["counts"] ["counts"] (defScope sLeastCode) := ⟨rfl, rfl, rfl, by decide +kernel, rfl, by decide +kernel, by decide +kernel⟩
theorem ok_leastCode {f f1 f2 fI : Addr} {fd fd1 fd2 fdI : FuncData} {ds : List Value} (F : FnP K "least_code" sLeastCode f fd) (O : Co K mg C) (M : MkC P w K mg base C fI fdI ds) (C1 : Cl P w K mg base (L2.CX P w) "check_counts" f1 fd1 4 ["counts"] (spCheckCounts K cT cB)) (C2 : Cl P w K mg base CX0 "lengths_for" f2 fd2 2 ["counts"] (spLengthsFor K)) :
    FnOk P w K mg base (L2.CX P w) 6 f fd ["counts"] (spLeastCode K C cT) := by
  refine F.ok scLeastCode (fun vs H Q E h => ?_) (fun cdv A outer s H vs Q E hr h => ?_)
  · obtain ⟨a, xs, rfl, _⟩ := h
    rfl
  · obtain ⟨a, xs, rfl, ha, hpl, hc⟩ := h
    refine ⟨_, pss_cons (ps_expr (pe_call C1.ok (hr.mono (by decide)) (by rfl) C1.g C1.kp C1.b .nil (passes_call (takes_of rfl rfl rfl rfl) (fun _ _ _ _ h => h)) (pa_cons (pv 0) pa_nil)))
      (pss_one (ps_ret (pe_make M.mk1 M.ok hr (by rfl) O.gC M.b M.dv pass0 (pa_cons (pe_call C2.ok (hr.mono (by decide)) (by rfl) C2.g C2.kp C2.b .nil pass0 (pa_cons (pv 0) pa_nil)) pa_nil)))), ?_⟩
    rcases hc with ⟨cs, rfl, h2, h40, h0, k⟩ | ⟨h2, k⟩
    · have hl : (iv cs).length = cs.length := by simp
      refine ⟨_, rfl, true, a, _, rfl, ha, hpl, fun _ _ H1 s1 => ?_, fun hn => absurd ⟨by omega, by omega⟩ hn, fun _ i hb => (no_bad (cnt_ints h0) hb).elim⟩
      refine ⟨_, rfl, true, a, cs, rfl, s1.seq ha, h2, h40, h0, fun H2 p ls s2 hp hpl2 hg => ?_⟩
      refine fun x dx hx hdx ne => made_code (b := true) hx hdx ne (SqL.of hpl2) (by rw [hg.len]; exact h2) (by rw [hg.len]; exact h40) (fun l hl => ⟨hg.lo l hl, by have := hg.hi l hl; omega⟩) (hg.full (by omega)) fun H3 s3 hcode => ?_
      exact k H3 x ls (Same.trans (Same.trans s1 s2) s3) hg hcode
    · exact ⟨_, rfl, true, a, _, rfl, ha, hpl, fun hn => absurd hn h2, fun _ => k, fun hn => absurd hn h2⟩
/-! ### is_least_for, is_least -/
def spIsLeastFor (K : PySem.W.Frag) (C : Addr) : Sp := fun vs H Q _ => ∃ (x a : Addr) (ls : List Nat) (cs : List Int), vs = [.ref x, .ref a] ∧ IsCode K C H x ls ∧ SqL K H a (iv cs) ∧ (∀ c ∈ cs, 0 ≤ c) ∧ 2 ≤ cs.length ∧ cs.length = ls.length ∧ ls.length ≤ 40 ∧ (∀ l ∈ ls, l ≤ 63) ∧
  ∀ H', Same H H' → Q (.bl (decide (WvM.cst ls cs = WvM.huff cs))) H'
theorem scIsLeastFor : FnScope ["code", "counts"] ["code", "counts"] (defScope sIsLeastFor) := ⟨rfl, rfl, rfl, by decide +kernel, rfl, by decide +kernel, by decide +kernel⟩
theorem dec_int {i j : Int} : decide (V.int i = V.int j) = decide (i = j) := by
  by_cases e : i = j
  · rw [decide_eq_true e, decide_eq_true (by rw [e])]
  · rw [decide_eq_false e, decide_eq_false (fun z => e (by injection z))]
theorem ok_isLeastFor {f f1 f2 : Addr} {fd fd1 fd2 : FuncData} (F : FnP K "is_least_for" sIsLeastFor f fd) (C1 : Cl P w K mg base CX0 "cost_by" f1 fd1 1 ["code", "counts"] (spCostBy K C)) (C2 : Cl P w K mg base CX0 "least_of" f2 fd2 2 ["counts"] (spLeastOf K)) :
    FnOk P w K mg base CX0 3 f fd ["code", "counts"] (spIsLeastFor K C) := by
  refine F.ok scIsLeastFor (fun vs H Q E h => ?_) (fun cdv A outer s H vs Q E hr h => ?_)
  · obtain ⟨x, a, ls, cs, rfl, _⟩ := h
    rfl
  · obtain ⟨x, a, ls, cs, rfl, hx, ha, h0, h2, hlen, h40, h63, k⟩ := h
    refine ⟨_, PSs.nox (pss_one (ps_ret (pe_cmpR op_eq (pe_call C1.ok (hr.mono (by decide)) (by rfl) C1.g C1.kp C1.b .nil pass0 (pa_cons (pv 0) (pa_cons (pv 1) pa_nil))) (pe_call C2.ok hr (by rfl) C2.g C2.kp C2.b .nil pass0 (pa_cons (pv 1) pa_nil)) (nomark _)))), ?_⟩
    refine ⟨_, rfl, _, rfl, true, x, a, ls, cs, rfl, hx, ha, hlen, h40, h63, fun H1 s1 => ?_⟩
    refine ⟨_, rfl, true, a, cs, rfl, s1.seq ha, h2, by omega, h0, fun H2 s2 => ⟨rfl, ?_⟩⟩
    rw [dec_int]
    exact k H2 (Same.trans s1 s2)
def spIsLeast (K : PySem.W.Frag) (C cO : Addr) : Sp := fun vs H Q E => ∃ (x a : Addr) (ls : List Nat) (cs : List Int), vs = [.ref x, .ref a] ∧ IsCode K C H x ls ∧ SqL K H a (iv cs) ∧ (∀ c ∈ cs, 0 ≤ c) ∧ 2 ≤ cs.length ∧ cs.length ≤ 2000 ∧ ls.length ≤ 40 ∧ (∀ l ∈ ls, l ≤ 63) ∧
  (cs.length = ls.length → ∀ H', Same H H' → Q (.bl (decide (WvM.cst ls cs = WvM.huff cs))) H') ∧ (cs.length ≠ ls.length → Err H cO (sizeF cs.length ls.length) E)
theorem scIsLeast : FnScope ["code", "counts"] ["code", "counts"] (defScope sIsLeast) := ⟨rfl, rfl, rfl, by decide +kernel, rfl, by decide +kernel, by decide +kernel⟩
theorem ok_isLeast {f f1 f2 : Addr} {fd fd1 fd2 : FuncData} (F : FnP K "is_least" sIsLeast f fd) (C1 : Cl P w K mg base (L2.CX P w) "check_pair" f1 fd1 5 ["code", "counts"] (spCheckPair K C cO)) (C2 : Cl P w K mg base CX0 "is_least_for" f2 fd2 3 ["code", "counts"] (spIsLeastFor K C)) :
    FnOk P w K mg base (L2.CX P w) 6 f fd ["code", "counts"] (spIsLeast K C cO) := by
  refine F.ok scIsLeast (fun vs H Q E h => ?_) (fun cdv A outer s H vs Q E hr h => ?_)
  · obtain ⟨x, a, ls, cs, rfl, _⟩ := h
    rfl
  · obtain ⟨x, a, ls, cs, rfl, hx, ha, h0, h2, h3, h40, h63, k1, k2⟩ := h
    refine ⟨_, pss_cons (ps_expr (pe_call C1.ok hr (by rfl) C1.g C1.kp C1.b .nil (passes_call (takes_of rfl rfl rfl rfl) (fun _ _ _ _ h => h)) (pa_cons (pv 0) (pa_cons (pv 1) pa_nil))))
      (pss_one (ps_ret (pe_call C2.ok (hr.mono (by decide)) (by rfl) C2.g C2.kp C2.b .nil pass0 (pa_cons (pv 0) (pa_cons (pv 1) pa_nil))))), ?_⟩
    refine ⟨_, rfl, _, rfl, true, x, a, ls, cs, rfl, hx, ha, h0, h2, h3, fun hl H1 s1 => ?_, k2⟩
    exact ⟨_, rfl, _, rfl, x, a, ls, cs, rfl, hx.same s1, s1.seq ha, h0, h2, hl, h40, h63, fun H2 s2 => k1 hl H2 (Same.trans s1 s2)⟩
end
end Wv

set_option Elab.async false
set_option linter.all false
set_option maxRecDepth 100000
set_option maxHeartbeats 4000000
set_option pp.maxSteps 1500
namespace Wv
open PySem PySem.Spec PyProof.Rows L2
section
variable {P : Program} {w : World} {K : PySem.W.Frag} {mg : Str → Option Value} {base : Heap} {cT cB cO C : Addr}
/-! ### the pen is made -/
def spPenOf (K : PySem.W.Frag) : Sp := fun vs H Q _ => ∃ (a : Addr) (ns : List Int), vs = [.ref a] ∧ SqL K H a (iv ns) ∧ ns.length ≤ 63 ∧ ∀ H' p c, Same H H' → H p = none → Pen K p c ns 0 H' → Q (.ref p) H'
theorem scPenOf : FnScope ["_law_script"] ["_law_script"] (defScope sPenOf) := ⟨rfl, rfl, rfl, by decide +kernel, rfl, by decide +kernel, by decide +kernel⟩
theorem cut63 {xs : List V} (h : xs.length ≤ 63) : cutV xs none (some 63) = xs := by
  have e1 : HT.sIx xs.length 0 none = 0 := rfl
  have e2 : HT.sIx xs.length xs.length (some 63) = xs.length := by
    simp only [HT.sIx]
    rw [if_neg (by decide)]
    show min 63 _ = _
    omega
  unfold cutV
  rw [e1, e2, List.drop_zero, Nat.sub_zero, List.take_length]
theorem ok_penOf {f : Addr} {fd : FuncData} (F : FnP K "_law_pen_of" sPenOf f fd) (T : Bl mg) : FnOk P w K mg base CX0 1 f fd ["_law_script"] (spPenOf K) := by
  refine F.ok scPenOf (fun vs H Q E h => ?_) (fun cdv A outer s H vs Q E hr h => ?_)
  · obtain ⟨a, ns, rfl, _⟩ := h
    rfl
  · obtain ⟨a, ns, rfl, ha, h63, k⟩ := h
    refine ⟨_, PSs.nox (pss_one (ps_ret (pe_disp (pps_cons pe_str (pe_callTy call_list_of (by rfl) T.list (by decide +kernel) (pa_cons (pe_slice sl_list (pv 0) po_none (po_some pe_int)) pa_nil)) (pps_cons pe_str pe_int (pps_cons pe_str pe_int pps_nil))) rfl rfl (fun z => by cases z) (by decide)))), ?_⟩
    intro p hp
    have sp : Same H (upd H p (.dK [])) := same_new hp
    have hl : (iv ns).length = ns.length := by simp
    refine ⟨_, rfl, _, rfl, a, _, rfl, sp.seq ha, fun q hq => ⟨q, _, rfl, .inl (SqL.of upd_same), fun c hc => ?_⟩⟩
    have hpq : upd (upd H p (.dK [])) q (.lst (cutV (iv ns) none (some 63))) p = some (.dK []) := by rw [upd_ne (ne_of_none upd_same hq)]; exact upd_same
    refine ⟨?_, [(kCells, .ref c), (kNext, .int 0), (kLeft, .int 0)], rfl, by simp, ?_⟩
    · rw [upd_ne (ne_of_none hpq hc)]
      exact hpq
    · refine k _ p c ?_ hp ⟨⟨0, 0, upd_same, by decide, by decide, by decide⟩, ?_, h63, fun z => ?_⟩
      · intro b o e
        rw [upd_ne (ne_of_none e hp)]
        have e2 := sp _ _ e
        rw [upd_ne (ne_of_none (same_new hq _ _ e2) hc), upd_ne (ne_of_none e2 hq)]
        exact e2
      · refine SqL.of ?_
        rw [upd_ne (fun z => by rw [z, hpq] at hc; cases hc), upd_same, cut63 (by rw [hl]; exact h63)]
      · rw [z, hpq] at hc
        cases hc
/-! ### a draw -/
abbrev ND : List Str := ["_law_pen", "_law_many", "_law_digit", "_law_index", "_law_size", "_law_cell", "_law_mixed"]
def spDraw (K : PySem.W.Frag) : Sp := fun vs H Q _ => ∃ (p c : Addr) (cs : List Int) (n : Nat) (m : Int), vs = [.ref p, .int m] ∧ Pen K p c cs n H ∧ n ≤ 1000000 ∧ 0 < m ∧ m < 1000000 ∧ ∀ H' r, Keep p H H' → Pen K p c cs (n + 1) H' → 0 ≤ r → r < m → Q (.int r) H'
theorem scDraw : FnScope ND ["_law_pen", "_law_many"] (defScope sDraw) := ⟨rfl, rfl, rfl, by decide +kernel, rfl, by decide +kernel, by decide +kernel⟩
theorem pen_left {p c : Addr} {cs : List Int} {n n' : Nat} {H : Hp} {i l' : Int} (P : Pen K p c cs n H) (i0 : 0 ≤ i) (i1 : i ≤ (n' : Int)) (hl : 0 ≤ l') : Pen K p c cs n' (upd H p (.dK (penKv c i l'))) := by
  obtain ⟨⟨i', l, h1, _⟩, h5, h6, h7⟩ := P
  refine ⟨⟨i, l', upd_same, i0, i1, hl⟩, ?_, h6, h7⟩
  rcases h5 with (h5 | ⟨u, h5⟩) | h5
  · exact .inl (.inl (by rw [upd_ne h7]; exact h5))
  · exact .inl (.inr ⟨u, by rw [upd_ne h7]; exact h5⟩)
  · exact .inr h5
theorem pen_putL (c : Addr) (i l v : Int) : putK (penKv c i l) kLeft (.int v) = penKv c i v := rfl
theorem pen_putN (c : Addr) (i l v : Int) : putK (penKv c i l) kNext (.int v) = penKv c v l := rfl
theorem mod_of {a m : Int} (hm : 0 < m) : 0 ≤ a % m ∧ a % m < m := ⟨Int.emod_nonneg _ (by omega), Int.emod_lt_of_pos _ hm⟩
theorem mod64 {a m : Int} (hm : 0 < m) (hb : m < 2 ^ 64) : -(2 ^ 64) < a % m ∧ a % m < 2 ^ 64 := by
  obtain ⟨h1, h2⟩ := mod_of (a := a) hm
  omega
theorem ok_draw {f : Addr} {fd : FuncData} (F : FnP K "_law_draw" sDraw f fd) (T : Bl mg) : FnOk P w K mg base CX0 1 f fd ["_law_pen", "_law_many"] (spDraw K) := by
  refine F.ok scDraw (fun vs H Q E h => ?_) (fun cdv A outer s H vs Q E hr h => ?_)
  · obtain ⟨p, c, cs, n, m, rfl, _⟩ := h
    rfl
  · obtain ⟨p, c, cs, n, m, rfl, hP, hn, m0, m1, k⟩ := h
    have hu := hu_of hr
    refine ⟨_, PSs.nox (pss_cons (ps_if (pt_cmpR op_gt (pe_dget hu (pv 0) pe_str (fun _ _ => rfl)) pe_int (nomark _))
        (pss_cons (ps_set (i := 2) scDraw.nd rfl (Or.inl rfl) (pe_op op_mod (pe_callTy call_int1 (by rfl) T.int (by decide +kernel) (pa_cons (pe_dget hu (pv 0) pe_str (fun _ _ => rfl)) pa_nil)) (pv 1)))
        (pss_cons (ps_dput hu (pv 0) pe_str (pe_op op_fdiv (pe_dget hu (pv 0) pe_str (fun _ _ => rfl)) (pv 1)) rfl)
        (pss_one (ps_ret (pv 2))))) pss_nil)
      (pss_cons (ps_par (i := 3) (j := 4) (by rfl) scDraw.nd rfl rfl (by decide) rfl rfl (pa_cons (pe_dget hu (pv 0) pe_str (fun _ _ => rfl)) (pa_cons (pe_callB call_len_seq (by rfl) T.len (by decide +kernel) (pa_cons (pe_dget hu (pv 0) pe_str (fun _ _ => rfl)) pa_nil)) pa_nil)) (by rfl))
      (pss_cons (ps_dput hu (pv 0) pe_str (pe_op op_add (pv 3) pe_int) rfl)
      (pss_cons (ps_if (pt_cmpR op_eq (pv 4) pe_int (nomark _)) (pss_one (ps_ret (pe_op op_mod (pe_callTy call_int1 (by rfl) T.int (by decide +kernel) (pa_cons (pe_op op_add (pe_op op_mul pe_int (pv 3)) pe_int) pa_nil)) (pv 1)))) pss_nil)
      (pss_cons (ps_set (i := 5) scDraw.nd rfl (Or.inl rfl) (pe_ix ix_list (pe_dget hu (pv 0) pe_str (fun _ _ => rfl)) (pe_op op_mod (pe_callTy call_int1 (by rfl) T.int (by decide +kernel) (pa_cons (pv 3) pa_nil)) (pv 4)) (fun _ _ => rfl)))
      (pss_cons (ps_if (pt_know (PW.pt (pw_and (pt_cmpR op_lt (pv 3) (pv 4) (nomark _)) (pw_and1 (pt_cmpR op_ge (pe_callB call_abs (by rfl) T.abs (by decide +kernel) (pa_cons (pv 5) pa_nil)) (pe_op op_pow pe_int pe_int) (nomark _))))))
        (pss_cons (ps_dput hu (pv 0) pe_str (pe_op op_fdiv (pe_op op_sub (pe_callB call_abs (by rfl) T.abs (by decide +kernel) (pa_cons (pv 5) pa_nil)) (pe_op op_pow pe_int pe_int)) (pv 1)) rfl)
        (pss_one (ps_ret (pe_op op_mod (pe_callTy call_int1 (by rfl) T.int (by decide +kernel) (pa_cons (pe_op op_sub (pe_callB call_abs (by rfl) T.abs (by decide +kernel) (pa_cons (pv 5) pa_nil)) (pe_op op_pow pe_int pe_int)) pa_nil)) (pv 1))))) pss_nil)
      (pss_cons (ps_set (i := 6) scDraw.nd rfl (Or.inl rfl) (pe_op op_add (pe_op op_mul (pe_op op_mod (pe_callTy call_int1 (by rfl) T.int (by decide +kernel) (pa_cons (pv 5) pa_nil)) pe_int) pe_int) (pe_op op_mul (pe_op op_mul pe_int (pv 3)) (pv 3))))
      (pss_cons (ps_set (i := 6) scDraw.nd rfl (Or.inl rfl) (pe_op op_mod (pe_callTy call_int1 (by rfl) T.int (by decide +kernel) (pa_cons (pe_op op_add (pe_op op_add (pv 6) (pe_op op_mul pe_int (pv 3))) pe_int) pa_nil)) pe_int))
      (pss_cons (ps_set (i := 6) scDraw.nd rfl (Or.inl rfl) (pe_op op_mod (pe_callTy call_int1 (by rfl) T.int (by decide +kernel) (pa_cons (pe_op op_add (pe_op op_add (pe_op op_add (pe_op op_mul (pv 6) (pv 6)) (pe_op op_mul pe_int (pv 6))) (pe_op op_mul pe_int (pv 3))) pe_int) pa_nil)) pe_int))
      (pss_one (ps_ret (pe_op op_mod (pe_callTy call_int1 (by rfl) T.int (by decide +kernel) (pa_cons (pe_op op_fdiv (pe_op op_mod (pe_callTy call_int1 (by rfl) T.int (by decide +kernel) (pa_cons (pe_op op_mul (pv 6) (pe_op op_add (pv 6) pe_int)) pa_nil)) pe_int) pe_int) pa_nil)) (pv 1))))))))))))), ?_⟩
    obtain ⟨⟨i, l, hpx, i0, i1, l0⟩, hcs, h63, hcp⟩ := id hP
    have gL : ∀ {H2 : Hp} {i l : Int}, H2 p = some (.dK (penKv c i l)) → DGet H2 p (.str "left") (some (.int l)) := fun e => DGet.k (k := kLeft) e
    have gN : ∀ {H2 : Hp} {i l : Int}, H2 p = some (.dK (penKv c i l)) → DGet H2 p (.str "next") (some (.int i)) := fun e => DGet.k (k := kNext) e
    have gC : ∀ {H2 : Hp} {i l : Int}, H2 p = some (.dK (penKv c i l)) → DGet H2 p (.str "cells") (some (.ref c)) := fun e => DGet.k (k := kCells) e
    have hpl : (penKv c i l).length < sizeLine := by show 3 < sizeLine; decide
    have m30 : m < 2 ^ 30 := by omega
    refine ⟨_, rfl, p, _, rfl, gL hpx, _, _, rfl, rfl, _, rfl, ?_⟩
    by_cases c1 : 0 < l
    · rw [show decide ((0 : Int) < l) = true from decide_eq_true c1]
      refine iteT ⟨_, rfl, p, _, rfl, gL hpx, .inl ⟨_, rfl, _, rfl, _, _, rfl, rfl, m0, ?_⟩⟩
      refine ⟨_, rfl, p, _, rfl, gL hpx, _, rfl, _, _, rfl, rfl, ⟨m0, m30⟩, _, rfl, p, _, rfl, DPut.k (k := kLeft) hpx hpl, ?_⟩
      rw [pen_putL]
      obtain ⟨r0, r1⟩ := mod_of (a := l) m0
      exact ⟨_, rfl, k _ _ Keep.at (pen_left hP i0 (by omega) (Int.ediv_nonneg l0 (by omega))) r0 r1⟩
    · rw [show decide ((0 : Int) < l) = false from decide_eq_false c1]
      refine iteF ?_
      have i64 : -(2 ^ 64) < i ∧ i < 2 ^ 64 := by omega
      refine ⟨_, rfl, p, _, rfl, gN hpx, _, rfl, p, _, rfl, gC hpx, c, _, rfl, .inl hcs, _, _, rfl, ?_⟩
      refine ⟨_, rfl, _, _, rfl, rfl, _, rfl, p, _, rfl, DPut.k (k := kNext) hpx hpl, ?_⟩
      rw [pen_putN]
      have hP1 : Pen K p c cs (n + 1) (upd H p (.dK (penKv c (i + 1) l))) := pen_left hP (by omega) (by omega) l0
      have hpx1 : upd H p (.dK (penKv c (i + 1) l)) p = some (.dK (penKv c (i + 1) l)) := upd_same
      have hk1 : Keep p H (upd H p (.dK (penKv c (i + 1) l))) := Keep.at
      have hcs1 := hP1.cells
      generalize upd H p (.dK (penKv c (i + 1) l)) = H1 at *
      have hcl : (iv cs).length = cs.length := by simp
      refine ⟨_, rfl, rfl, _, rfl, ?_⟩
      by_cases c2 : cs.length = 0
      · rw [show decide (V.int ((iv cs).length : Int) = V.int 0) = true from decide_eq_true (by rw [hcl, c2]; rfl)]
        refine iteT ⟨_, rfl, _, _, rfl, rfl, .inl ⟨by decide, by decide⟩, _, _, rfl, rfl, .inl ⟨_, rfl, _, rfl, _, _, rfl, rfl, m0, ?_⟩⟩
        obtain ⟨r0, r1⟩ := mod_of (a := 7 * i + 3) m0
        exact k _ _ hk1 hP1 r0 r1
      · rw [show decide (V.int ((iv cs).length : Int) = V.int 0) = false from decide_eq_false (fun z => c2 (by
          rw [hcl] at z
          injection z with z
          omega))]
        refine iteF ?_
        have hlen : (0 : Int) < ((iv cs).length : Int) := by rw [hcl]; omega
        obtain ⟨j0, j1⟩ := mod_of (a := i) hlen
        have hj : ((i % ((iv cs).length : Int)).toNat : Int) = i % ((iv cs).length : Int) := Int.toNat_of_nonneg j0
        have hjl : (i % ((iv cs).length : Int)).toNat < (iv cs).length := by omega
        obtain ⟨x, hx⟩ : ∃ x, (iv cs)[(i % ((iv cs).length : Int)).toNat]? = some (V.int x) := by
          have hjl' : (i % ((iv cs).length : Int)).toNat < cs.length := by omega
          exact ⟨cs[(i % ((iv cs).length : Int)).toNat], by rw [List.getElem?_map, List.getElem?_eq_getElem hjl']; rfl⟩
        have hat := atI_nat hx
        rw [hj] at hat
        refine ⟨_, rfl, p, _, rfl, gC hpx1, _, rfl, .inl ⟨_, rfl, _, rfl, _, _, rfl, rfl, hlen, c, _, _, _, rfl, rfl, hcs1, hat, ?_⟩⟩
        refine ⟨decide (i < ((iv cs).length : Int) ∧ (10 : Int) ^ 18 ≤ (if x < 0 then -x else x)), fun Q' q => ?_, ite2 (fun hC => ?_) (fun _ => ?_)⟩
        · refine ⟨_, rfl, _, rfl, _, _, rfl, rfl, _, rfl, ?_⟩
          by_cases c3 : i < ((iv cs).length : Int)
          · rw [show decide (i < ((iv cs).length : Int)) = true from decide_eq_true c3]
            refine iteT ⟨_, rfl, _, rfl, _, _, rfl, rfl, ⟨by decide, by decide, by decide⟩, _, _, rfl, rfl, _, rfl, ?_⟩
            rw [decide_eq_decide.mpr (show (i < ((iv cs).length : Int) ∧ (10 : Int) ^ 18 ≤ (if x < 0 then -x else x)) ↔ (10 : Int) ^ 18 ≤ (if x < 0 then -x else x) from ⟨fun z => z.2, fun z => ⟨c3, z⟩⟩)] at q
            exact q
          · rw [show decide (i < ((iv cs).length : Int)) = false from decide_eq_false c3]
            rw [decide_eq_false (fun z : (i < ((iv cs).length : Int) ∧ (10 : Int) ^ 18 ≤ (if x < 0 then -x else x)) => c3 z.1)] at q
            exact iteF q
        · have hC' := of_decide_eq_true hC
          refine ⟨_, rfl, _, rfl, _, _, rfl, rfl, ⟨by decide, by decide, by decide⟩, _, _, rfl, rfl, _, rfl, _, _, rfl, rfl, ⟨m0, m30⟩, _, rfl, p, _, rfl, DPut.k (k := kLeft) hpx1 (by show 3 < sizeLine; decide), ?_⟩
          rw [pen_putL]
          refine ⟨_, rfl, _, rfl, _, _, rfl, rfl, ⟨by decide, by decide, by decide⟩, _, _, rfl, rfl, .inl ⟨_, rfl, _, rfl, _, _, rfl, rfl, m0, ?_⟩⟩
          obtain ⟨r0, r1⟩ := mod_of (a := (if x < 0 then -x else x) - (10 : Int) ^ 18) m0
          refine k _ _ (Keep.trans hk1 Keep.at) (pen_left hP1 (by omega) (by omega) (Int.ediv_nonneg ?_ (by omega))) r0 r1
          exact Int.sub_nonneg.mpr hC'.2
        · refine ⟨_, rfl, .inl ⟨_, rfl, _, _, rfl, rfl, (by show (0 : Int) < 4294967197; decide), _, _, rfl, rfl, .inr ⟨by decide, by decide⟩, ?_⟩⟩
          refine ⟨_, rfl, _, _, rfl, rfl, .inl ⟨by decide, by decide⟩, _, rfl, _, _, rfl, rfl, .inr i64, _, _, rfl, rfl, ?_⟩
          refine ⟨_, rfl, _, rfl, _, _, rfl, rfl, .inl ⟨by decide, by decide⟩, _, _, rfl, rfl, _, _, rfl, rfl, .inl ⟨_, rfl, _, _, rfl, rfl, (by show (0 : Int) < 4294967189; decide), ?_⟩⟩
          refine ⟨_, rfl, _, rfl, _, _, rfl, rfl, .inl (mod64 (by decide) (by decide)), _, rfl, _, _, rfl, rfl, .inr (mod64 (by decide) (by decide)), _, _, rfl, rfl, _, rfl, _, _, rfl, rfl, .inr i64, _, _, rfl, rfl, _, _, rfl, rfl, .inl ⟨_, rfl, _, _, rfl, rfl, (by show (0 : Int) < 4294967161; decide), ?_⟩⟩
          refine ⟨_, rfl, _, rfl, _, _, rfl, rfl, _, _, rfl, rfl, .inl (mod64 (by decide) (by decide)), .inl ⟨_, rfl, _, _, rfl, rfl, (by show (0 : Int) < 4294967143; decide), _, _, rfl, rfl, ⟨by decide, by decide⟩, .inl ⟨_, rfl, _, rfl, _, _, rfl, rfl, m0, ?_⟩⟩⟩
          exact k _ _ hk1 hP1 (mod_of m0).1 (mod_of m0).2
end
end Wv

set_option Elab.async false
set_option linter.all false
set_option maxRecDepth 100000
set_option maxHeartbeats 4000000
set_option pp.maxSteps 1500
namespace Wv
open PySem PySem.Spec PyProof.Rows L2
/-! ### an int, or a tuple of ints -/
inductive Item (H : Hp) : V → Prop
  | int (i : Int) : Item H (.int i)
  | tup {t : Addr} {ns : List Int} (h : H t = some (.tup (iv ns))) : Item H (.ref t)
theorem Item.same {H H' : Hp} {x : V} (s : Same H H') (h : Item H x) : Item H' x := by
  cases h with
  | int i => exact .int i
  | tup h => exact .tup (s _ _ h)
theorem Item.lst {H : Hp} {x : V} {l : Addr} {xs ys : List V} (e : H l = some (.lst xs)) (h : Item H x) : Item (upd H l (.lst ys)) x := by
  cases h with
  | int i => exact .int i
  | tup h => exact .tup (by rw [upd_ne (ne_of h e (fun z => nomatch z))]; exact h)
theorem Item.keep {H H' : Hp} {x : V} {p : Addr} {kvs : List (Key × V)} (e : H p = some (.dK kvs)) (k : Keep p H H') (h : Item H x) : Item H' x := by
  cases h with
  | int i => exact .int i
  | tup h => exact .tup (k _ _ (ne_of h e (fun z => nomatch z)) h)
inductive Flat2 : PyData → Prop
  | int (i : Int) : Flat2 (.int i)
  | tup (ns : List Int) : Flat2 (.tuple (ns.map PyData.int))
theorem dp_ints {K : PySem.W.Frag} {H : Hp} : ∀ ns : List Int, DpAll K H (iv ns) (ns.map PyData.int)
  | [] => .nil
  | n :: ns => .cons (.int n) (dp_ints ns)
theorem Item.dp {K : PySem.W.Frag} {H : Hp} {x : V} (h : Item H x) : ∃ d, Dp K H x d ∧ Flat2 d := by
  cases h with
  | int i => exact ⟨_, .int i, .int i⟩
  | tup h => exact ⟨_, .tup (SqT.of h) (dp_ints _), .tup _⟩
theorem items_dp {K : PySem.W.Frag} {H : Hp} : ∀ {xs : List V}, (∀ x ∈ xs, Item H x) → ∃ ds, DpAll K H xs ds ∧ (∀ d ∈ ds, Flat2 d) ∧ ds.length = xs.length
  | [], _ => ⟨[], .nil, fun _ h => by simp at h, rfl⟩
  | x :: xs, h => by
    obtain ⟨d, h1, h2⟩ := (h x List.mem_cons_self).dp (K := K)
    obtain ⟨ds, g1, g2, g3⟩ := items_dp (K := K) (xs := xs) fun y hy => h y (List.mem_cons_of_mem _ hy)
    refine ⟨d :: ds, .cons h1 g1, fun y hy => ?_, by rw [List.length_cons, List.length_cons, g3]⟩
    rcases List.mem_cons.mp hy with rfl | hy
    · exact h2
    · exact g2 y hy
theorem ints_lay : ∀ ns : List Int, PyData.canLayAll0 (ns.map PyData.int) = true
  | [] => by simp [PyData.canLayAll0]
  | n :: ns => by simp [PyData.canLayAll0, PyData.canLay0, ints_lay ns]
theorem flat2_lay {d : PyData} (h : Flat2 d) : d.canLay0 = true ∧ d.depth ≤ 2 := by
  cases h with
  | int i => simp [PyData.canLay0, PyData.depth]
  | tup ns =>
    have := ints_depth ns
    refine ⟨by simp [PyData.canLay0, ints_lay ns], ?_⟩
    simp only [PyData.depth]
    omega
theorem flat2_all : ∀ {ds : List PyData}, (∀ d ∈ ds, Flat2 d) → PyData.canLayAll0 ds = true ∧ PyData.depthAll ds ≤ 2
  | [], _ => by simp [PyData.canLayAll0, PyData.depthAll]
  | d :: ds, h => by
    obtain ⟨h1, h2⟩ := flat2_lay (h d List.mem_cons_self)
    obtain ⟨g1, g2⟩ := flat2_all (ds := ds) fun y hy => h y (List.mem_cons_of_mem _ hy)
    refine ⟨by simp [PyData.canLayAll0, h1, g1], ?_⟩
    simp only [PyData.depthAll]
    omega
theorem flat2_shaped {ds : List PyData} (h : ∀ d ∈ ds, Flat2 d) : SeqAt.shaped (.list ds) = true := by
  obtain ⟨h1, h2⟩ := flat2_all h
  unfold SeqAt.shaped
  rw [Bool.and_eq_true]
  refine ⟨by simpa [PyData.canLay0] using h1, decide_eq_true ?_⟩
  simp only [PyData.depth]
  omega
theorem eqv_nil {ds : List PyData} : PyData.eqv (.list ds) (.list []) = decide (ds.length = 0) := by
  cases ds with
  | nil => simp [PyData.eqv, PyData.eqvAll]
  | cons d ds => simp [PyData.eqv, PyData.eqvAll]
theorem seq_ix {n j : Nat} (h : j < n) : seqIndex? (j : Int) n = some j := (ixN_seq (Evl.ixN_nat h)).1
theorem perm_pop {α : Type} {xs ys zs : List α} {j : Nat} {y : α} (h : (zs ++ ys).Perm xs) (hj : ys[j]? = some y) : ((zs ++ [y]) ++ ys.eraseIdx j).Perm xs := by
  refine List.Perm.trans ?_ h
  rw [List.append_assoc]
  refine List.Perm.append_left zs ?_
  have hl := lt_of_get hj
  rw [List.getElem?_eq_getElem hl] at hj
  have e := Option.some.inj hj
  rw [← e]
  have := List.eraseIdx_eq_take_drop_succ ys j
  rw [this]
  have h2 : ys = ys.take j ++ ys[j] :: ys.drop (j + 1) := by rw [← List.drop_eq_getElem_cons hl, List.take_append_drop]
  conv => rhs; rw [h2]
  show (ys[j] :: (ys.take j ++ ys.drop (j + 1))).Perm _
  exact List.perm_middle.symm
/-- an object that is new since the pen was seen is changed -/
theorem Pen.set {K : PySem.W.Frag} {p c r : Addr} {cs : List Int} {m n : Nat} {H H2 : Hp} {o : HO} (P0 : Pen K p c cs m H) (h : H r = none) (P : Pen K p c cs n H2) (hp : r ≠ p) : Pen K p c cs n (upd H2 r o) := by
  obtain ⟨⟨i, l, h1, h2⟩, h5, h6, h7⟩ := P
  refine ⟨⟨i, l, by rw [upd_ne (Ne.symm hp)]; exact h1, h2⟩, ?_, h6, h7⟩
  have ne : ∀ {u : HO}, H c = some u → c ≠ r := fun e z => by rw [z, h] at e; cases e
  have key : c ≠ r → SqL K (upd H2 r o) c (cs.map V.int) := fun nc => by
    rcases h5 with (h5 | ⟨u, h5⟩) | h5
    · exact .inl (.inl (by rw [upd_ne nc]; exact h5))
    · exact .inl (.inr ⟨u, by rw [upd_ne nc]; exact h5⟩)
    · exact .inr h5
  rcases P0.cells with (e | ⟨u, e⟩) | e
  · exact key (ne e)
  · exact key (ne e)
  · exact .inr e
section
variable {P : Program} {w : World} {K : PySem.W.Frag} {mg : Str → Option Value} {base : Heap} {cT cB cO C : Addr}
/-! ### pick -/
def spPick (K : PySem.W.Frag) : Sp := fun vs H Q _ => ∃ (p c : Addr) (cs : List Int) (n : Nat) (a : Addr) (xs : List V), vs = [.ref p, .ref a] ∧ Pen K p c cs n H ∧ n ≤ 1000000 ∧ SqL K H a xs ∧ a ≠ p ∧ 0 < xs.length ∧ xs.length ≤ 1000 ∧
  ∀ H' x, Keep p H H' → Pen K p c cs (n + 1) H' → x ∈ xs → Q x H'
theorem scPick : FnScope ["_law_pen", "_law_items"] ["_law_pen", "_law_items"] (defScope sPick) := ⟨rfl, rfl, rfl, by decide +kernel, rfl, by decide +kernel, by decide +kernel⟩
theorem ok_pick {f f1 : Addr} {fd fd1 : FuncData} (F : FnP K "_law_pick" sPick f fd) (T : Bl mg) (C1 : Cl P w K mg base CX0 "_law_draw" f1 fd1 1 ["_law_pen", "_law_many"] (spDraw K)) : FnOk P w K mg base CX0 2 f fd ["_law_pen", "_law_items"] (spPick K) := by
  refine F.ok scPick (fun vs H Q E h => ?_) (fun cdv A outer s H vs Q E hr h => ?_)
  · obtain ⟨p, c, cs, n, a, xs, rfl, _⟩ := h
    rfl
  · obtain ⟨p, c, cs, n, a, xs, rfl, hP, hn, ha, hap, h0, h1, k⟩ := h
    refine ⟨_, PSs.nox (pss_one (ps_ret (pe_ix ix_list (pv 1) (pe_call C1.ok hr (by rfl) C1.g C1.kp C1.b .nil pass0 (pa_cons (pv 0) (pa_cons (pe_callB call_len_seq (by rfl) T.len (by decide +kernel) (pa_cons (pv 1) pa_nil)) pa_nil))) (fun _ _ => rfl)))), ?_⟩
    refine ⟨_, rfl, _, rfl, _, rfl, a, xs, rfl, .inl ha, p, c, cs, n, _, rfl, hP, hn, by omega, by omega, fun H1 r kk P1 r0 r1 => ?_⟩
    have hr' : ((r.toNat : Nat) : Int) = r := Int.toNat_of_nonneg r0
    have hlt : r.toNat < xs.length := by omega
    have hat := atI_nat (List.getElem?_eq_getElem hlt)
    rw [hr'] at hat
    exact ⟨a, xs, r, _, rfl, rfl, kk.seqL hap ha, hat, k H1 _ kk P1 (List.getElem_mem hlt)⟩
/-! ### shuffled -/
def spShuffled (K : PySem.W.Frag) : Sp := fun vs H Q _ => ∃ (p c : Addr) (cs : List Int) (n : Nat) (a : Addr) (xs : List V), vs = [.ref p, .ref a] ∧ Pen K p c cs n H ∧ n ≤ 900000 ∧ SqL K H a xs ∧ xs.length ≤ 1000 ∧ (∀ x ∈ xs, Item H x) ∧
  ∀ H' q ys, Keep p H H' → Pen K p c cs (n + xs.length) H' → H q = none → H' q = some (.lst ys) → ys.Perm xs → Q (.ref q) H'
theorem scShuffled : FnScope ["_law_pen", "_law_items", "_law_rest", "_law_found"] ["_law_pen", "_law_items"] (defScope sShuffled) := ⟨rfl, rfl, rfl, by decide +kernel, rfl, by decide +kernel, by decide +kernel⟩
theorem ok_shuffled {f f1 : Addr} {fd fd1 : FuncData} (F : FnP K "_law_shuffled" sShuffled f fd) (T : Bl mg) (C1 : Cl P w K mg base CX0 "_law_draw" f1 fd1 1 ["_law_pen", "_law_many"] (spDraw K)) : FnOk P w K mg base CX0 2 f fd ["_law_pen", "_law_items"] (spShuffled K) := by
  refine F.ok scShuffled (fun vs H Q E h => ?_) (fun cdv A outer s H vs Q E hr h => ?_)
  · obtain ⟨p, c, cs, n, a, xs, rfl, _⟩ := h
    rfl
  · obtain ⟨p, c, cs, n, a, xs, rfl, hP, hn, ha, h1, hit, k⟩ := h
    refine ⟨_, PSs.nox (pss_cons (ps_par (i := 2) (j := 3) (by rfl) scShuffled.nd rfl rfl (by decide) rfl rfl (pa_cons (pe_callTy call_list_of (by rfl) T.list (by decide +kernel) (pa_cons (pv 1) pa_nil)) (pa_cons (pe_lst pa_nil) pa_nil)) (by rfl))
      (pss_cons (ps_while PassesOwn.never (pt_cmpR (op_neD hr.units) (pv 2) (pe_lst pa_nil) (nomark _))
        (pss_one (ps_expr (pe_bm PySem.F.plainAttrs_list PySem.F.slot_list_append PySem.F.type_list_append mt_append (pv 3)
          (pa_cons (pe_bm PySem.F.plainAttrs_list PySem.F.slot_list_pop PySem.F.type_list_pop mt_popAt (pv 2)
            (pa_cons (pe_call C1.ok hr (by rfl) C1.g C1.kp C1.b .nil pass0 (pa_cons (pv 0) (pa_cons (pe_callB call_len_seq (by rfl) T.len (by decide +kernel) (pa_cons (pv 2) pa_nil)) pa_nil))) pa_nil)) pa_nil)))))
      (pss_one (ps_ret (pv 3))))), ?_⟩
    refine ⟨_, rfl, a, xs, rfl, .inl ha, fun r hr0 => ⟨(by show 0 ≤ sizeLine; decide), fun g hg => ⟨_, _, rfl, ?_⟩⟩⟩
    obtain ⟨i0, l0, hp0, _⟩ := id hP.at_
    have s1 : Same H (upd (upd H r (.lst xs)) g (.lst [])) := same_new' (same_new hr0) hg
    have rg : r ≠ g := ne_of_none upd_same hg
    have hg0 : H g = none := by rw [upd_ne (Ne.symm rg)] at hg; exact hg
    have rp : r ≠ p := fun z => by rw [z, hp0] at hr0; cases hr0
    have gp : g ≠ p := fun z => by rw [z, hp0] at hg0; cases hg0
    refine ⟨fun m σ H' => ∃ ys zs, m = ys.length ∧ Keep p H H' ∧ Pen K p c cs (n + zs.length) H' ∧ H' r = some (.lst ys) ∧ H' g = some (.lst zs) ∧ (zs ++ ys).Perm xs ∧ (∀ x ∈ xs, Item H' x) ∧ σ = [some (.ref p), some (.ref a), some (.ref r), some (.ref g)],
      ⟨xs.length, xs, [], rfl, Keep.of s1, hP.same s1, by rw [upd_ne rg]; exact upd_same, upd_same, by simp, fun x hx => (hit x hx).same s1, rfl⟩, ?_⟩
    rintro m σ H' ⟨ys, zs, rfl, kk, hP', hr', hg', hperm, hit', rfl⟩
    have hyx : ∀ y ∈ ys, y ∈ xs := fun y hy => hperm.mem_iff.mp (List.mem_append_right _ hy)
    have hlen : zs.length + ys.length = xs.length := by rw [← hperm.length_eq, List.length_append]
    refine ⟨_, rfl, (by show 0 ≤ sizeLine; decide), fun e he => ?_⟩
    have se : Same H' (upd H' e (.lst [])) := same_new he
    obtain ⟨ds, d1, d2, d3⟩ := items_dp (K := K) (H := upd H' e (.lst [])) (xs := ys) fun y hy => (hit' y (hyx y hy)).same se
    refine ⟨_, _, .lst (SqL.of (se _ _ hr')) d1, .lst (SqL.of upd_same) .nil, flat2_shaped d2, flat2_shaped (fun _ h => by simp at h), _, rfl, ?_⟩
    rw [eqv_nil, d3]
    by_cases c0 : ys.length = 0
    · rw [show (!decide (ys.length = 0)) = false by rw [decide_eq_true c0]; rfl]
      refine iteF ⟨_, rfl, ?_⟩
      have e0 : ys = [] := List.eq_nil_of_length_eq_zero c0
      subst e0
      rw [List.append_nil] at hperm
      refine k _ g zs (Keep.trans kk (Keep.of se)) ?_ hg0 (se _ _ hg') hperm
      have := hP'.same se
      rw [hperm.length_eq] at this
      exact this
    · rw [show (!decide (ys.length = 0)) = true by rw [decide_eq_false c0]; rfl]
      refine iteT ⟨fun σ' H2 => ∃ ys' zs', ys'.length + 1 = ys.length ∧ Keep p H H2 ∧ Pen K p c cs (n + zs'.length) H2 ∧ H2 r = some (.lst ys') ∧ H2 g = some (.lst zs') ∧ (zs' ++ ys').Perm xs ∧ (∀ x ∈ xs, Item H2 x) ∧ σ' = [some (.ref p), some (.ref a), some (.ref r), some (.ref g)],
        fun σ' H2 ⟨ys', zs', q0, q⟩ => ⟨ys'.length, by omega, ys', zs', rfl, q⟩, ?_⟩
      refine ⟨_, rfl, .inl ⟨rfl, _, SqL.of (se _ _ hg')⟩, _, rfl, .inl ⟨rfl, _, SqL.of (se _ _ hr')⟩, ?_⟩
      refine ⟨_, rfl, _, rfl, r, ys, rfl, .inl (SqL.of (se _ _ hr')), p, c, cs, n + zs.length, _, rfl, hP'.same se, by omega, by omega, by omega, fun H2 j k2 P2 j0 j1 => ?_⟩
      have hj : ((j.toNat : Nat) : Int) = j := Int.toNat_of_nonneg j0
      have hlt : j.toNat < ys.length := by omega
      have hix := seq_ix hlt
      rw [hj] at hix
      have hy := List.getElem?_eq_getElem hlt
      have hr2 := k2 _ _ rp (se _ _ hr')
      have hg2 := k2 _ _ gp (se _ _ hg')
      refine ⟨r, ys, j, j.toNat, _, rfl, rfl, hr2, by omega, by omega, hix, hy, ?_⟩
      have hg3 : upd H2 r (.lst (ys.eraseIdx j.toNat)) g = some (.lst zs) := by rw [upd_ne (Ne.symm rg)]; exact hg2
      refine ⟨g, zs, _, rfl, rfl, hg3, small5l (by omega), ys.eraseIdx j.toNat, zs ++ [ys[j.toNat]], ?_, ?_, ?_, ?_, upd_same, perm_pop hperm hy, fun x hx => ?_, rfl⟩
      · rw [List.length_eraseIdx_of_lt hlt]
        omega
      · exact Keep.mut (Keep.mut (Keep.trans (Keep.trans kk (Keep.of se)) k2) hr0) hg0
      · have e1 : n + (zs ++ [ys[j.toNat]]).length = n + zs.length + 1 := by rw [List.length_append]; rfl
        rw [e1]
        exact hP.set hg0 (hP.set hr0 P2 rp) gp
      · rw [upd_ne rg]
        exact upd_same
      · obtain ⟨i5, l5, h5, _⟩ := (hP'.same se).at_
        exact (((hit' x hx).same se).keep h5 k2).lst hr2 |>.lst hg3
end
end Wv

set_option Elab.async false
set_option linter.all false
set_option maxRecDepth 100000
set_option maxHeartbeats 4000000
set_option pp.maxSteps 1500
namespace Wv
open PySem PySem.Spec PyProof.Rows L2
theorem cut_to {α : Type} (xs : List V) {j : Nat} (h : j ≤ xs.length) : cutV xs none (some (j : Int)) = xs.take j := by
  have e2 : HT.sIx xs.length xs.length (some (j : Int)) = j := by
    simp only [HT.sIx]
    rw [if_neg (by omega), Int.toNat_natCast]
    show min j _ = _
    omega
  unfold cutV
  rw [e2]
  rfl
theorem cut_from (xs : List V) {j : Nat} (h : j ≤ xs.length) : cutV xs (some (j : Int)) none = xs.drop j := by
  have e2 : HT.sIx xs.length 0 (some (j : Int)) = j := by
    simp only [HT.sIx]
    rw [if_neg (by omega), Int.toNat_natCast]
    show min j _ = _
    omega
  unfold cutV
  rw [e2]
  show (xs.drop j).take (xs.length - j) = _
  rw [List.take_of_length_le (by rw [List.length_drop]; exact Nat.le_refl _)]
/-! ### a leaf split -/
theorem full_split {ls : List Nat} {j l : Nat} (hj : ls[j]? = some l) (h : WvM.Full ls) : WvM.Full (ls.take j ++ [l + 1, l + 1] ++ ls.drop (j + 1)) := by
  intro B hB
  have hl1 : l + 1 ≤ B := hB _ (by simp)
  have hold : ∀ x ∈ ls, x ≤ B := fun x hx => by
    have e : ls = ls.take j ++ l :: ls.drop (j + 1) := by rw [← drop_cons hj, List.take_append_drop]
    rw [e] at hx
    rcases List.mem_append.mp hx with hx | hx
    · exact hB _ (List.mem_append_left _ (List.mem_append_left _ hx))
    · rcases List.mem_cons.mp hx with rfl | hx
      · omega
      · exact hB _ (List.mem_append_right _ hx)
  have h2 := h B hold
  have e : ls = ls.take j ++ l :: ls.drop (j + 1) := by rw [← drop_cons hj, List.take_append_drop]
  rw [e] at h2
  simp only [List.map_append, List.map_cons, List.map_nil, List.sum_append, List.sum_cons, List.sum_nil] at h2 ⊢
  have h3 := WvM.two_half hl1
  omega
section
variable {P : Program} {w : World} {K : PySem.W.Frag} {mg : Str → Option Value} {base : Heap} {cT cB cO C : Addr}
/-! ### the law's cost -/
def spLCost (K : PySem.W.Frag) : Sp := fun vs H Q _ => ∃ (a1 a2 : Addr) (ls : List Nat) (cs : List Int), vs = [.ref a1, .ref a2] ∧ SqT K H a1 (lv ls) ∧ SqL K H a2 (iv cs) ∧ cs.length = ls.length ∧ ls.length ≤ 40 ∧ (∀ l ∈ ls, l ≤ 63) ∧ ∀ H', Same H H' → Q (.int (WvM.cst ls cs)) H'
theorem scLCost : FnScope ["_law_lengths", "_law_counts", "_law_length", "_law_count"] ["_law_lengths", "_law_counts"] (defScope sLCost) := ⟨rfl, rfl, rfl, by decide +kernel, rfl, by decide +kernel, by decide +kernel⟩
theorem cst_zip2 : ∀ (ls : List Nat) (cs : List Int), ((ls.zip cs).map fun p => (p.1 : Int) * p.2).sum = WvM.cst ls cs := fun ls cs => by
  unfold WvM.cst
  congr 1
  exact List.map_congr_left fun p _ => Int.mul_comm _ _
theorem ok_lCost {f : Addr} {fd : FuncData} (F : FnP K "_law_cost" sLCost f fd) (T : Bl mg) : FnOk P w K mg base CX0 1 f fd ["_law_lengths", "_law_counts"] (spLCost K) := by
  refine F.ok scLCost (fun vs H Q E h => ?_) (fun cdv A outer s H vs Q E hr h => ?_)
  · obtain ⟨a1, a2, ls, cs, rfl, _⟩ := h
    rfl
  · obtain ⟨a1, a2, ls, cs, rfl, h1, h2, hlen, h40, h63, k⟩ := h
    refine ⟨_, PSs.nox (pss_one (ps_ret (pe_callB (cr_sum rfl) (by rfl) T.sum (by decide +kernel) (pa_cons
      (pe_lc (own := [("_law_length", 2), ("_law_count", 3)]) (g := gTup K 2 (gCons (gName 2) (gCons (gName 3) gNil))) rfl scLCost.nd (pi_zipB false true (by rfl) T.zip (pa_cons (pv 0) (pa_cons (pv 1) pa_nil))) (blkOk_by (N := ["_law_lengths", "_law_counts", "_law_length", "_law_count"]) (sc := defScope sLCost) (by decide +kernel))
        (fun _ _ _ _ _ => by exact pg_tup rfl (pgs_cons (pg_name (i := 2) scLCost.nd rfl (Or.inl rfl)) (pgs_cons (pg_name (i := 3) scLCost.nd rfl (Or.inl rfl)) pgs_nil)))
        (fun _ _ _ _ _ => pts_nil) (fun _ _ _ _ _ => by exact pe_op op_mul (pv 2) (pv 3))) pa_nil)))), ?_⟩
    refine ⟨_, rfl, _, rfl, a1, a2, _, _, rfl, SqB.t h1, SqB.l h2, by simp [hlen], fun D hD => ?_⟩
    refine lc_it (walk_zipB (b1 := false) (b2 := true) (xs := lv ls) (ys := iv cs)) (fun i H' => Same H H' ∧ H' D = some (.lst ((((ls.zip cs).take i).map fun p => (p.1 : Int) * p.2).map V.int))) ⟨same_new hD, upd_same⟩ ?_ ?_ ?_
    · rintro i H' _ ⟨sH, _⟩
      exact ⟨SqB.same sH (SqB.t h1), SqB.same sH (SqB.l h2)⟩
    · rintro i y H' H3 hi ⟨sH, hDx⟩ ⟨T', v1, v2, rfl, hT, rfl, hv1, hv2⟩
      obtain ⟨l, hl, rfl⟩ := get_map hv1
      obtain ⟨c, hc, rfl⟩ := get_map hv2
      have hl63 := h63 l (List.mem_of_getElem? hl)
      refine ⟨T', _, rfl, .inl (.inl upd_same), rfl, _, _, rfl, _, _, rfl, rfl, rfl, ?_⟩
      have nT : D ≠ T' := fun z => by rw [z, hT] at hDx; cases hDx
      refine ⟨_, rfl, _, rfl, _, _, rfl, rfl, .inl ⟨by omega, by omega⟩, _, by rw [upd_ne nT]; exact hDx, small5l ?_, same_mut (same_new' sH hT) hD, ?_⟩
      · rw [List.length_map, List.length_map, List.length_take, List.length_zip]
        omega
      · rw [upd_same, take_snoc (zip_get hl hc), List.map_append, List.map_append]
        rfl
    · rintro H3 ⟨s3, hDx⟩
      rw [List.take_of_length_le (by simp; omega)] at hDx
      refine ⟨D, _, rfl, SqL.of hDx, ?_⟩
      rw [cst_zip2]
      exact k _ s3
/-! ### the law's own joining -/
def spLLeast (K : PySem.W.Frag) : Sp := fun vs H Q _ => ∃ (a : Addr) (cs : List Int), vs = [.ref a] ∧ SqL K H a (iv cs) ∧ cs.length ≤ 40 ∧ ∀ H', Same H H' → Q (.int (WvM.huff cs)) H'
theorem scLLeast : FnScope ["_law_counts", "_law_left", "_law_total", "_law_weight"] ["_law_counts"] (defScope sLLeast) := ⟨rfl, rfl, rfl, by decide +kernel, rfl, by decide +kernel, by decide +kernel⟩
theorem ok_lLeast {f : Addr} {fd : FuncData} (F : FnP K "_law_least" sLLeast f fd) (T : Bl mg) : FnOk P w K mg base CX0 1 f fd ["_law_counts"] (spLLeast K) := by
  refine F.ok scLLeast (fun vs H Q E h => ?_) (fun cdv A outer s H vs Q E hr h => ?_)
  · obtain ⟨a, cs, rfl, _⟩ := h
    rfl
  · obtain ⟨a, cs, rfl, ha, h40, k⟩ := h
    refine ⟨_, PSs.nox (pss_cons (ps_par (i := 1) (j := 2) (by rfl) scLLeast.nd rfl rfl (by decide) rfl rfl (pa_cons (pe_callB cr_sortedI (by rfl) T.sorted (by decide +kernel) (pa_cons (pv 0) pa_nil)) (pa_cons pe_int pa_nil)) (by rfl))
      (pss_cons (ps_while PassesOwn.never (pt_cmpR op_gt (pe_callB call_len_seq (by rfl) T.len (by decide +kernel) (pa_cons (pv 1) pa_nil)) pe_int (nomark _))
        (pss_cons (ps_set (i := 3) scLLeast.nd rfl (Or.inl rfl) (pe_op op_add (pe_ix ix_list (pv 1) pe_int (fun _ _ => rfl)) (pe_ix ix_list (pv 1) pe_int (fun _ _ => rfl))))
        (pss_cons (ps_set (i := 1) scLLeast.nd rfl (Or.inl rfl) (pe_callB cr_sortedI (by rfl) T.sorted (by decide +kernel) (pa_cons (pe_op op_cat (pe_slice sl_list (pv 1) (po_some pe_int) po_none) (pe_lst (pa_cons (pv 3) pa_nil))) pa_nil)))
        (pss_one (ps_set (i := 2) scLLeast.nd rfl (Or.inl rfl) (pe_op op_add (pv 2) (pv 3)))))))
      (pss_one (ps_ret (pv 2))))), ?_⟩
    refine ⟨_, rfl, a, cs, rfl, ha, fun ns q hperm hsrt hq => ⟨_, _, rfl, ?_⟩⟩
    have e0 := WvM.isort_of hperm hsrt
    refine ⟨fun m σ H' => ∃ (l : List Int) (q : Addr) (t : Int) (z : Option V), m = l.length ∧ Same H H' ∧ H' q = some (.lst (iv l)) ∧ l.Pairwise (· ≤ ·) ∧ l.length ≤ 40 ∧ t + WvM.hsum l.length l = WvM.huff cs ∧ σ = [some (.ref a), some (.ref q), some (.int t), z],
      ⟨ns.length, ns, q, 0, none, rfl, same_new hq, upd_same, hsrt, by rw [hperm.length_eq]; exact h40, ?_, rfl⟩, ?_⟩
    · rw [Int.zero_add, e0, WvM.isort_length]
      rfl
    · rintro m σ H' ⟨l, q, t, z, rfl, sH, hqx, hl, hl40, ht, rfl⟩
      have hil : (iv l).length = l.length := by simp
      refine ⟨_, rfl, q, _, rfl, .inl (SqL.of hqx), _, _, rfl, rfl, _, rfl, ?_⟩
      by_cases c : 1 < l.length
      · rw [show decide ((1 : Int) < ((iv l).length : Int)) = true from decide_eq_true (by rw [hil]; omega)]
        match l, c, hqx, hl, hl40, ht, hil with
        | x :: y :: r, c, hqx, hl, hl40, ht, hil =>
          refine iteT ⟨fun σ' H2 => ∃ (l : List Int) (q : Addr) (t : Int) (z : Option V), l.length + 1 = (x :: y :: r).length ∧ Same H H2 ∧ H2 q = some (.lst (iv l)) ∧ l.Pairwise (· ≤ ·) ∧ l.length ≤ 40 ∧ t + WvM.hsum l.length l = WvM.huff cs ∧ σ' = [some (.ref a), some (.ref q), some (.int t), z],
            fun σ' H2 ⟨l, q, t, z, q0, qq⟩ => ⟨l.length, by omega, l, q, t, z, rfl, qq⟩, ?_⟩
          refine ⟨_, rfl, q, _, _, _, rfl, rfl, SqL.of hqx, atI_nat (j := 0) rfl, _, rfl, q, _, _, _, rfl, rfl, SqL.of hqx, atI_nat (j := 1) rfl, _, _, rfl, rfl, ?_⟩
          refine ⟨_, rfl, _, rfl, q, _, rfl, SqL.of hqx, fun p1 hp1 => ⟨_, rfl, (by show 1 ≤ sizeLine; decide), fun p2 hp2 => ?_⟩⟩
          have hc2 : cutV (iv (x :: y :: r)) (some 2) none = iv r := cut_from (iv (x :: y :: r)) (j := 2) (by simp)
          rw [hc2] at hp2 ⊢
          have e1 : upd (upd H' p1 (.lst (iv r))) p2 (.lst [.int (x + y)]) p1 = some (.lst (iv r)) := by rw [upd_ne (ne_of_none upd_same hp2)]; exact upd_same
          refine ⟨p1, p2, _, _, rfl, rfl, e1, upd_same, small5 (by simp at hl40 ⊢; omega), fun p3 hp3 => ?_⟩
          have e3 : iv r ++ [V.int (x + y)] = iv (r ++ [x + y]) := by simp
          refine ⟨p3, r ++ [x + y], rfl, SqL.of (by rw [upd_same]; exact congrArg (fun z => some (HO.lst z)) e3), fun ns2 q2 hperm2 hsrt2 hq2 => ?_⟩
          have hr : r.Pairwise (· ≤ ·) := (List.pairwise_cons.mp (List.pairwise_cons.mp hl).2).2
          have en : ns2 = WvM.ins (x + y) r := WvM.sorted_unique (hperm2.trans ((List.perm_append_comm).trans (WvM.ins_perm (x + y) r).symm)) hsrt2 (WvM.ins_sorted _ _ hr)
          have eln : ns2.length = r.length + 1 := by rw [hperm2.length_eq]; simp
          refine ⟨_, rfl, _, rfl, _, _, rfl, rfl, ns2, q2, t + (x + y), some (.int (x + y)), by simp [eln], same_new' (same_new' (same_new' (same_new' sH hp1) hp2) hp3) hq2, upd_same, hsrt2, by simp at hl40; omega, ?_, rfl⟩
          have hs : WvM.hsum (x :: y :: r).length (x :: y :: r) = (x + y) + WvM.hsum (r.length + 1) (WvM.ins (x + y) r) := rfl
          rw [hs] at ht
          rw [eln, en]
          omega
      · rw [show decide ((1 : Int) < ((iv l).length : Int)) = false from decide_eq_false (by rw [hil]; omega)]
        refine iteF ⟨_, rfl, ?_⟩
        have hz : WvM.hsum l.length l = 0 := by
          match l, c with
          | [], _ => rfl
          | [x], _ => rfl
          | _ :: _ :: _, c => simp at c
        rw [hz, Int.add_zero] at ht
        rw [ht]
        exact k H' sH
end
end Wv

set_option Elab.async false
set_option linter.all false
set_option maxRecDepth 100000
set_option maxHeartbeats 4000000
set_option pp.maxSteps 1500
namespace Wv
open PySem PySem.Spec PyProof.Rows L2
section
variable {P : Program} {w : World} {K : PySem.W.Frag} {mg : Str → Option Value} {base : Heap} {cT cB cO C : Addr}
/-! ### some code -/
def spSomeCode (K : PySem.W.Frag) : Sp := fun vs H Q _ => ∃ (p c : Addr) (cs : List Int) (n m : Nat), vs = [.ref p, .int m] ∧ Pen K p c cs n H ∧ n ≤ 800000 ∧ 2 ≤ m ∧ m ≤ 40 ∧
  ∀ H' q ls, Keep p H H' → Pen K p c cs (n + 100) H' → H q = none → H' q = some (.lst (lv ls)) → ls.length = m → (∀ l ∈ ls, 1 ≤ l ∧ l ≤ 63) → WvM.Full ls → Q (.ref q) H'
theorem scSomeCode : FnScope ["_law_pen", "_law_many", "_law_lengths", "_law_at"] ["_law_pen", "_law_many"] (defScope sSomeCode) := ⟨rfl, rfl, rfl, by decide +kernel, rfl, by decide +kernel, by decide +kernel⟩
theorem lv_take (ls : List Nat) (a : Nat) : (lv ls).take a = lv (ls.take a) := by
  show List.take a (ls.map _) = (ls.take a).map _
  rw [List.map_take]
theorem lv_drop (ls : List Nat) (a : Nat) : (lv ls).drop a = lv (ls.drop a) := by
  show List.drop a (ls.map _) = (ls.drop a).map _
  rw [List.map_drop]
def natOf : V → Nat
  | .int i => i.toNat
  | _ => 0
theorem natOf_lv (ls : List Nat) : (lv ls).map natOf = ls := by
  show (ls.map _).map natOf = ls
  rw [List.map_map]
  have : (natOf ∘ fun (l : Nat) => V.int (l : Int)) = id := by
    funext l
    rfl
  rw [this, List.map_id]
theorem perm_lv {ys : List V} {ls : List Nat} (h : ys.Perm (lv ls)) : ∃ ls', ys = lv ls' ∧ ls'.Perm ls := by
  refine ⟨ys.map natOf, ?_, ?_⟩
  · show ys = (ys.map natOf).map _
    rw [List.map_map]
    have : ys.map id = ys.map ((fun (l : Nat) => V.int (l : Int)) ∘ natOf) := List.map_congr_left fun y hy => by
      obtain ⟨l, _, rfl⟩ := List.mem_map.mp (h.mem_iff.mp hy)
      rfl
    rw [← this, List.map_id]
  · have := h.map natOf
    rw [natOf_lv] at this
    exact this
theorem full11 : WvM.Full [1, 1] := fun B hB => by
  have h1 : 1 ≤ B := hB 1 (by simp)
  have := WvM.two_half (B := B) (d := 0) h1
  simpa using this
theorem lv_items {H : Hp} (ls : List Nat) : ∀ x ∈ lv ls, Item H x := fun x hx => by
  obtain ⟨l, _, rfl⟩ := List.mem_map.mp hx
  exact .int _
theorem ok_someCode {f f1 f2 : Addr} {fd fd1 fd2 : FuncData} (F : FnP K "_law_some_code" sSomeCode f fd) (T : Bl mg) (C1 : Cl P w K mg base CX0 "_law_draw" f1 fd1 1 ["_law_pen", "_law_many"] (spDraw K)) (C2 : Cl P w K mg base CX0 "_law_shuffled" f2 fd2 2 ["_law_pen", "_law_items"] (spShuffled K)) :
    FnOk P w K mg base CX0 3 f fd ["_law_pen", "_law_many"] (spSomeCode K) := by
  refine F.ok scSomeCode (fun vs H Q E h => ?_) (fun cdv A outer s H vs Q E hr h => ?_)
  · obtain ⟨p, c, cs, n, m, rfl, _⟩ := h
    rfl
  · obtain ⟨p, c, cs, n, m, rfl, hP, hn, m2, m40, k⟩ := h
    refine ⟨_, PSs.nox (pss_cons (ps_set (i := 2) scSomeCode.nd rfl (Or.inl rfl) (pe_lst (pa_cons pe_int (pa_cons pe_int pa_nil))))
      (pss_cons (ps_while PassesOwn.never (pt_cmpR op_lt (pe_callB call_len_seq (by rfl) T.len (by decide +kernel) (pa_cons (pv 2) pa_nil)) (pv 1) (nomark _))
        (pss_cons (ps_set (i := 3) scSomeCode.nd rfl (Or.inl rfl) (pe_call C1.ok (hr.mono (by decide)) (by rfl) C1.g C1.kp C1.b .nil pass0 (pa_cons (pv 0) (pa_cons (pe_callB call_len_seq (by rfl) T.len (by decide +kernel) (pa_cons (pv 2) pa_nil)) pa_nil))))
        (pss_one (ps_set (i := 2) scSomeCode.nd rfl (Or.inl rfl) (pe_op op_cat (pe_op op_cat (pe_slice sl_list (pv 2) po_none (po_some (pv 3)))
            (pe_lst (pa_cons (pe_op op_add (pe_ix ix_list (pv 2) (pv 3) (fun _ _ => rfl)) pe_int) (pa_cons (pe_op op_add (pe_ix ix_list (pv 2) (pv 3) (fun _ _ => rfl)) pe_int) pa_nil))))
            (pe_slice sl_list (pv 2) (po_some (pe_op op_add (pv 3) pe_int)) po_none))))))
      (pss_one (ps_ret (pe_call C2.ok hr (by rfl) C2.g C2.kp C2.b .nil pass0 (pa_cons (pv 0) (pa_cons (pv 2) pa_nil))))))), ?_⟩
    obtain ⟨i0, l0, hp0, _⟩ := id hP.at_
    refine ⟨(by show 2 ≤ sizeLine; decide), fun q hq => ?_⟩
    have qp : q ≠ p := fun z => by rw [z, hp0] at hq; cases hq
    refine ⟨fun j σ H' => ∃ (ls : List Nat) (r : Addr) (z : Option V), j + ls.length = m ∧ 2 ≤ ls.length ∧ Keep p H H' ∧ Pen K p c cs (n + ls.length) H' ∧ r ≠ p ∧ H' r = some (.lst (lv ls)) ∧ (∀ l ∈ ls, 1 ≤ l ∧ l < ls.length) ∧ WvM.Full ls ∧ σ = [some (.ref p), some (.int m), some (.ref r), z],
      ⟨m - 2, [1, 1], q, none, by show m - 2 + 2 = m; omega, Nat.le_refl _, Keep.of (same_new hq), (hP.same (same_new hq)).mono (Nat.le_add_right _ _), qp, upd_same, by simp, full11, rfl⟩, ?_⟩
    rintro j σ H' ⟨ls, r, z, hj, hl2, kk, hP', rp, hrx, hll, hf, rfl⟩
    have hil : (lv ls).length = ls.length := by simp
    refine ⟨_, rfl, r, _, rfl, .inl (SqL.of hrx), _, rfl, _, _, rfl, rfl, _, rfl, ?_⟩
    by_cases c1 : ls.length < m
    · rw [show decide (((lv ls).length : Int) < (m : Int)) = true from decide_eq_true (by rw [hil]; omega)]
      refine iteT ⟨fun σ' H2 => ∃ (ls' : List Nat) (r : Addr) (z : Option V), ls'.length = ls.length + 1 ∧ Keep p H H2 ∧ Pen K p c cs (n + ls'.length) H2 ∧ r ≠ p ∧ H2 r = some (.lst (lv ls')) ∧ (∀ l ∈ ls', 1 ≤ l ∧ l < ls'.length) ∧ WvM.Full ls' ∧ σ' = [some (.ref p), some (.int m), some (.ref r), z],
        fun σ' H2 ⟨ls', r, z, q0, qq⟩ => ⟨j - 1, by omega, ls', r, z, by omega, by omega, qq⟩, ?_⟩
      refine ⟨_, rfl, _, rfl, r, _, rfl, .inl (SqL.of hrx), p, c, cs, n + ls.length, _, rfl, hP', by omega, by omega, by omega, fun H2 a k2 P2 a0 a1 => ?_⟩
      obtain ⟨a, rfl⟩ := Int.eq_ofNat_of_zero_le a0
      have hal : a < ls.length := by rw [hil] at a1; omega
      have hr2 := k2 _ _ rp hrx
      have hla := List.getElem?_eq_getElem hal
      generalize hle : ls[a] = l at *
      have hva : (lv ls)[a]? = some (V.int (l : Int)) := by rw [List.getElem?_map, hla]; rfl
      have hc1 : cutV (lv ls) none (some (a : Int)) = lv (ls.take a) := by rw [cut_to (α := Nat) _ (by omega), lv_take]
      have hc2 : cutV (lv ls) (some (((a + 1 : Nat)) : Int)) none = lv (ls.drop (a + 1)) := by rw [cut_from _ (by omega), lv_drop]
      refine ⟨_, rfl, _, rfl, _, rfl, r, _, rfl, SqL.of hr2, fun p1 hp1 => ?_⟩
      rw [hc1]
      have hr3 : upd H2 p1 (.lst (lv (ls.take a))) r = some (.lst (lv ls)) := same_new hp1 _ _ hr2
      refine ⟨_, rfl, _, rfl, r, _, _, _, rfl, rfl, SqL.of hr3, atI_nat hva, _, _, rfl, rfl, _, rfl, _, rfl, r, _, _, _, rfl, rfl, SqL.of hr3, atI_nat hva, _, _, rfl, rfl, (by show 2 ≤ sizeLine; decide), fun p2 hp2 => ?_⟩
      have e1 : upd (upd H2 p1 (.lst (lv (ls.take a)))) p2 (.lst [.int ((l : Int) + 1), .int ((l : Int) + 1)]) p1 = some (.lst (lv (ls.take a))) := by rw [upd_ne (ne_of_none upd_same hp2)]; exact upd_same
      have hr4 : upd (upd H2 p1 (.lst (lv (ls.take a)))) p2 (.lst [.int ((l : Int) + 1), .int ((l : Int) + 1)]) r = some (.lst (lv ls)) := same_new hp2 _ _ hr3
      refine ⟨p1, p2, _, _, rfl, rfl, e1, upd_same, small5 (by simp; omega), fun p3 hp3 => ?_⟩
      have hr5 := same_new (o := .lst (lv (ls.take a) ++ [.int ((l : Int) + 1), .int ((l : Int) + 1)])) hp3 _ _ hr4
      refine ⟨_, rfl, _, rfl, _, _, rfl, rfl, _, rfl, r, _, rfl, SqL.of hr5, fun p4 hp4 => ?_⟩
      have hc3 : cutV (lv ls) (some ((a : Int) + 1)) none = lv (ls.drop (a + 1)) := hc2
      rw [hc3]
      have e3 : upd (upd (upd (upd H2 p1 (.lst (lv (ls.take a)))) p2 (.lst [.int ((l : Int) + 1), .int ((l : Int) + 1)])) p3 (.lst (lv (ls.take a) ++ [.int ((l : Int) + 1), .int ((l : Int) + 1)]))) p4 (.lst (lv (ls.drop (a + 1)))) p3 = some (.lst (lv (ls.take a) ++ [.int ((l : Int) + 1), .int ((l : Int) + 1)])) := by
        rw [upd_ne (ne_of_none upd_same hp4)]
        exact upd_same
      have s4 : Same H2 (upd (upd (upd (upd H2 p1 (.lst (lv (ls.take a)))) p2 (.lst [.int ((l : Int) + 1), .int ((l : Int) + 1)])) p3 (.lst (lv (ls.take a) ++ [.int ((l : Int) + 1), .int ((l : Int) + 1)]))) p4 (.lst (lv (ls.drop (a + 1))))) := same_new' (same_new' (same_new' (same_new hp1) hp2) hp3) hp4
      refine ⟨p3, p4, _, _, rfl, rfl, e3, upd_same, small5 (by simp; omega), fun p5 hp5 => ?_⟩
      have s5 := same_new' (o := .lst (lv (ls.take a) ++ [.int ((l : Int) + 1), .int ((l : Int) + 1)] ++ lv (ls.drop (a + 1)))) s4 hp5
      have el : (ls.take a ++ [l + 1, l + 1] ++ ls.drop (a + 1)).length = ls.length + 1 := by
        simp only [List.length_append, List.length_take, List.length_drop, List.length_cons, List.length_nil]
        omega
      obtain ⟨i5, l5, h5, _⟩ := P2.at_
      refine ⟨ls.take a ++ [l + 1, l + 1] ++ ls.drop (a + 1), p5, some (.int (a : Int)), el, Keep.trans (Keep.trans kk k2) (Keep.of s5), (P2.same s5).mono (by rw [el]; omega), (fun z => by rw [z, s4 _ _ h5] at hp5; cases hp5), ?_, fun x hx => ?_, full_split hla hf, rfl⟩
      · rw [upd_same]
        show _ = some (HO.lst ((ls.take a ++ [l + 1, l + 1] ++ ls.drop (a + 1)).map _))
        rw [List.map_append, List.map_append]
        rfl
      · rw [el]
        rcases List.mem_append.mp hx with hx | hx
        · rcases List.mem_append.mp hx with hx | hx
          · have := hll x (List.mem_of_mem_take hx)
            omega
          · have := hll l (List.mem_of_getElem? hla)
            have e : x = l + 1 := by simpa using hx
            omega
        · have := hll x (List.mem_of_mem_drop hx)
          omega
    · rw [show decide (((lv ls).length : Int) < (m : Int)) = false from decide_eq_false (by rw [hil]; omega)]
      refine iteF ⟨_, rfl, _, rfl, p, c, cs, n + ls.length, r, lv ls, rfl, hP', by omega, SqL.of hrx, by omega, lv_items ls, fun H2 q2 ys k2 P2 hq2 hq2x hperm => ?_⟩
      obtain ⟨ls', rfl, hp'⟩ := perm_lv hperm
      refine k H2 q2 ls' (Keep.trans kk k2) (P2.mono (by omega)) ?_ hq2x (by rw [hp'.length_eq]; omega) (fun l hl => ?_) ?_
      · obtain ⟨i5, l5, h5, _⟩ := hP'.at_
        cases e : H q2 with
        | none => rfl
        | some o =>
          have qp2 : q2 ≠ p := fun z => by rw [z, h5] at hq2; cases hq2
          rw [kk _ _ qp2 e] at hq2
          cases hq2
      · have := hll l (hp'.mem_iff.mp hl)
        omega
      · intro B hB
        rw [WvM.nsum_perm (hp'.map _)]
        exact hf B fun l hl => hB l (hp'.mem_iff.mpr hl)
end
end Wv

set_option Elab.async false
set_option linter.all false
set_option maxRecDepth 100000
set_option maxHeartbeats 4000000
set_option pp.maxSteps 1500
namespace Wv
open PySem PySem.Spec PyProof.Rows L2
/-- the counts so far, in the list at D that was new at H1 -/
structure CntI (K : PySem.W.Frag) (p c : Addr) (cs : List Int) (n : Nat) (H1 : Hp) (D : Addr) (i : Nat) (H' : Hp) : Prop where
  keep : Keep p H1 H'
  pen : Pen K p c cs (n + 2 * i) H'
  lst : ∃ ks : List Int, H' D = some (.lst (iv ks)) ∧ ks.length = i ∧ ∀ k ∈ ks, 0 ≤ k
theorem CntI.turn {K : PySem.W.Frag} {p c : Addr} {cs : List Int} {n m i : Nat} {H1 H' H2 : Hp} {D : Addr} {v : Int} (P1 : Pen K p c cs m H1) (hD : H1 D = none) (hp : D ≠ p) (I : CntI K p c cs n H1 D i H') (k : Keep p H' H2) (P2 : Pen K p c cs (n + 2 * (i + 1)) H2) (hv : 0 ≤ v) (hi : i ≤ 100) :
    ∃ acc, H2 D = some (.lst acc) ∧ acc.length < sizeLine ∧ CntI K p c cs n H1 D (i + 1) (upd H2 D (.lst (acc ++ [.int v]))) := by
  obtain ⟨ks, h1, h2, h3⟩ := I.lst
  refine ⟨iv ks, k _ _ hp h1, small5l (by simp; omega), Keep.mut (Keep.trans I.keep k) hD, P1.set hD P2 hp, ks ++ [v], ?_, by simp [h2], fun x hx => ?_⟩
  · rw [upd_same]
    show _ = some (HO.lst ((ks ++ [v]).map _))
    rw [List.map_append]
    rfl
  · rcases List.mem_append.mp hx with hx | hx
    · exact h3 x hx
    · rw [List.mem_singleton.mp hx]
      exact hv
section
variable {P : Program} {w : World} {K : PySem.W.Frag} {mg : Str → Option Value} {base : Heap} {cT cB cO C : Addr}
/-! ### some counts -/
abbrev NC : List Str := ["_law_pen", "_law_many", "_law_kind", "_law_sign"]
def spSomeCounts (K : PySem.W.Frag) : Sp := fun vs H Q _ => ∃ (p c : Addr) (cs : List Int) (n m : Nat), vs = [.ref p, .int m] ∧ Pen K p c cs n H ∧ n ≤ 800000 ∧ m ≤ 40 ∧
  ∀ H' q ks, Keep p H H' → Pen K p c cs (n + 100) H' → H q = none → H' q = some (.lst (iv ks)) → ks.length = m → (∀ k ∈ ks, 0 ≤ k) → Q (.ref q) H'
theorem scSomeCounts : FnScope NC ["_law_pen", "_law_many"] (defScope sSomeCounts) := ⟨rfl, rfl, rfl, by decide +kernel, rfl, by decide +kernel, by decide +kernel⟩
theorem ok_someCounts {f f1 f2 : Addr} {fd fd1 fd2 : FuncData} (F : FnP K "_law_some_counts" sSomeCounts f fd) (T : Bl mg) (C1 : Cl P w K mg base CX0 "_law_draw" f1 fd1 1 ["_law_pen", "_law_many"] (spDraw K)) (C2 : Cl P w K mg base CX0 "_law_pick" f2 fd2 2 ["_law_pen", "_law_items"] (spPick K)) :
    FnOk P w K mg base CX0 3 f fd ["_law_pen", "_law_many"] (spSomeCounts K) := by
  refine F.ok scSomeCounts (fun vs H Q E h => ?_) (fun cdv A outer s H vs Q E hr h => ?_)
  · obtain ⟨p, c, cs, n, m, rfl, _⟩ := h
    rfl
  · obtain ⟨p, c, cs, n, m, rfl, hP, hn, m40, k⟩ := h
    refine ⟨_, PSs.nox (pss_cons (ps_set (i := 2) scSomeCounts.nd rfl (Or.inl rfl) (pe_call C1.ok (hr.mono (by decide)) (by rfl) C1.g C1.kp C1.b .nil pass0 (pa_cons (pv 0) (pa_cons pe_int pa_nil))))
      (pss_cons (ps_if (pt_cmpR op_eq (pv 2) pe_int (nomark _)) (pss_one (ps_ret (pe_lc (own := [("_law_sign", 3)]) rfl scSomeCounts.nd (pi_range1 (by rfl) T.range (pa_cons (pv 1) pa_nil)) (blkOk_by (N := NC) (sc := defScope sSomeCounts) (by decide +kernel))
          (fun _ _ _ _ _ => pg_name (i := 3) scSomeCounts.nd rfl (Or.inl rfl)) (fun _ _ _ _ _ => pts_nil) (fun _ _ _ _ _ => by exact pe_call C1.ok (hr.mono (by decide)) (by rfl) C1.g C1.kp C1.b .nil pass0 (pa_cons (pv 0) (pa_cons pe_int pa_nil)))))) pss_nil)
      (pss_cons (ps_if (pt_cmpR op_eq (pv 2) pe_int (nomark _)) (pss_one (ps_ret (pe_lc (own := [("_law_sign", 3)]) rfl scSomeCounts.nd (pi_range1 (by rfl) T.range (pa_cons (pv 1) pa_nil)) (blkOk_by (N := NC) (sc := defScope sSomeCounts) (by decide +kernel))
          (fun _ _ _ _ _ => pg_name (i := 3) scSomeCounts.nd rfl (Or.inl rfl)) (fun _ _ _ _ _ => pts_nil) (fun _ _ _ _ _ => by exact pe_call C1.ok (hr.mono (by decide)) (by rfl) C1.g C1.kp C1.b .nil pass0 (pa_cons (pv 0) (pa_cons pe_int pa_nil)))))) pss_nil)
      (pss_cons (ps_if (pt_cmpR op_eq (pv 2) pe_int (nomark _)) (pss_one (ps_ret (pe_lc (own := [("_law_sign", 3)]) rfl scSomeCounts.nd (pi_range1 (by rfl) T.range (pa_cons (pv 1) pa_nil)) (blkOk_by (N := NC) (sc := defScope sSomeCounts) (by decide +kernel))
          (fun _ _ _ _ _ => pg_name (i := 3) scSomeCounts.nd rfl (Or.inl rfl)) (fun _ _ _ _ _ => pts_nil) (fun _ _ _ _ _ => by exact pe_call C2.ok hr (by rfl) C2.g C2.kp C2.b .nil pass0 (pa_cons (pv 0) (pa_cons (pe_lst (pa_cons pe_int (pa_cons pe_int (pa_cons pe_int (pa_cons pe_int (pa_cons pe_int (pa_cons pe_int pa_nil))))))) pa_nil)))))) pss_nil)
      (pss_one (ps_ret (pe_lc (own := [("_law_sign", 3)]) rfl scSomeCounts.nd (pi_range1 (by rfl) T.range (pa_cons (pv 1) pa_nil)) (blkOk_by (N := NC) (sc := defScope sSomeCounts) (by decide +kernel))
          (fun _ _ _ _ _ => pg_name (i := 3) scSomeCounts.nd rfl (Or.inl rfl)) (fun _ _ _ _ _ => pts_nil)
          (fun _ _ _ _ _ => by exact pe_op op_add (pe_op op_mul (pe_call C1.ok (hr.mono (by decide)) (by rfl) C1.g C1.kp C1.b .nil pass0 (pa_cons (pv 0) (pa_cons pe_int pa_nil))) (pe_op op_pow pe_int pe_int)) (pe_call C1.ok (hr.mono (by decide)) (by rfl) C1.g C1.kp C1.b .nil pass0 (pa_cons (pv 0) (pa_cons pe_int pa_nil))))))))))), ?_⟩
    refine ⟨_, rfl, p, c, cs, n, 4, rfl, hP, by omega, by decide, by decide, fun H1 kd k1 P1 d0 d1 => ?_⟩
    obtain ⟨i1, l1, hp1, _⟩ := id P1.at_
    have fin : ∀ (D : Addr) (H' : Hp), H1 D = none → CntI K p c cs (n + 1) H1 D ((m : Int)).toNat H' → Q (.ref D) H' := fun D H' hD I => by
      rw [Int.toNat_natCast] at I
      obtain ⟨ks, e1, e2, e3⟩ := I.lst
      refine k H' D ks (Keep.trans k1 I.keep) (I.pen.mono (by omega)) ?_ e1 e2 e3
      cases e : H D with
      | none => rfl
      | some o =>
        have Dp : D ≠ p := fun z => by rw [z, hp1] at hD; cases hD
        rw [k1 _ _ Dp e] at hD
        cases hD
    have st0 : ∀ (D : Addr), H1 D = none → CntI K p c cs (n + 1) H1 D 0 (upd H1 D (.lst [])) := fun D hD => ⟨Keep.of (same_new hD), P1.same (same_new hD), [], upd_same, rfl, fun _ h => by simp at h⟩
    have Dp : ∀ {D : Addr}, H1 D = none → D ≠ p := fun hD z => by rw [z, hp1] at hD; cases hD
    refine ⟨_, rfl, rfl, _, rfl, ite2 (fun _ => ?_) (fun _ => ⟨_, rfl, rfl, _, rfl, ite2 (fun _ => ?_) (fun _ => ⟨_, rfl, rfl, _, rfl, ite2 (fun _ => ?_) (fun _ => ?_)⟩)⟩)⟩
    · refine ⟨_, rfl, _, rfl, by omega, by omega, fun D hD => lc_range (n := ((m : Int)).toNat) (fun i H' => CntI K p c cs (n + 1) H1 D i H') (st0 D hD) ?_ (fun H' I => fin D H' hD I)⟩
      intro i H' hi I
      refine ⟨rfl, _, rfl, p, c, cs, _, 3, rfl, I.pen, by omega, by decide, by decide, fun H2 r k2 P2 r0 r1 => I.turn P1 hD (Dp hD) k2 (P2.mono (by omega)) r0 (by omega)⟩
    · refine ⟨_, rfl, _, rfl, by omega, by omega, fun D hD => lc_range (n := ((m : Int)).toNat) (fun i H' => CntI K p c cs (n + 1) H1 D i H') (st0 D hD) ?_ (fun H' I => fin D H' hD I)⟩
      intro i H' hi I
      refine ⟨rfl, _, rfl, p, c, cs, _, 12, rfl, I.pen, by omega, by decide, by decide, fun H2 r k2 P2 r0 r1 => I.turn P1 hD (Dp hD) k2 (P2.mono (by omega)) r0 (by omega)⟩
    · refine ⟨_, rfl, _, rfl, by omega, by omega, fun D hD => lc_range (n := ((m : Int)).toNat) (fun i H' => CntI K p c cs (n + 1) H1 D i H') (st0 D hD) ?_ (fun H' I => fin D H' hD I)⟩
      intro i H' hi I
      refine ⟨rfl, _, rfl, (by show 6 ≤ sizeLine; decide), fun e he => ?_⟩
      obtain ⟨i3, l3, hp3, _⟩ := id I.pen.at_
      refine ⟨p, c, cs, _, e, _, rfl, I.pen.same (same_new he), by omega, SqL.of upd_same, (fun z => by rw [z, hp3] at he; cases he), by decide, by decide, fun H2 x k2 P2 hx => ?_⟩
      have hx' : ∃ v : Int, x = .int v ∧ 0 ≤ v := by
        simp only [List.mem_cons, List.not_mem_nil, or_false] at hx
        rcases hx with rfl | rfl | rfl | rfl | rfl | rfl <;> exact ⟨_, rfl, by decide⟩
      obtain ⟨v, rfl, hv⟩ := hx'
      exact I.turn P1 hD (Dp hD) (Keep.trans (Keep.of (same_new he)) k2) (P2.mono (by omega)) hv (by omega)
    · refine ⟨_, rfl, _, rfl, by omega, by omega, fun D hD => lc_range (n := ((m : Int)).toNat) (fun i H' => CntI K p c cs (n + 1) H1 D i H') (st0 D hD) ?_ (fun H' I => fin D H' hD I)⟩
      intro i H' hi I
      refine ⟨rfl, _, rfl, p, c, cs, _, 4, rfl, I.pen, by omega, by decide, by decide, fun H2 r k2 P2 r0 r1 => ?_⟩
      refine ⟨_, _, rfl, rfl, ⟨by decide, by decide, by decide⟩, _, _, rfl, rfl, .inl ⟨by omega, by omega⟩, _, rfl, p, c, cs, _, 5, rfl, P2, by omega, by decide, by decide, fun H3 r' k3 P3 r0' r1' => ?_⟩
      refine ⟨_, _, rfl, rfl, I.turn P1 hD (Dp hD) (Keep.trans k2 k3) (P3.mono (by omega)) ?_ (by omega)⟩
      exact Int.add_nonneg (Int.mul_nonneg r0 (by decide)) r0'
end
end Wv

set_option Elab.async false
set_option linter.all false
set_option maxRecDepth 100000
set_option maxHeartbeats 4000000
set_option pp.maxSteps 1500
namespace Wv
open PySem PySem.Spec PyProof.Rows L2
/-! ### tuples that stand in the heap: slices, joins -/
def rSlN : V → Option Int → Option Int → Hp → VK → Prop := fun x lo hi H Q => ∃ a xs, x = .ref a ∧ H a = some (.tup xs) ∧ ∀ q H', Same H H' → H' q = some (.tup (cutV xs lo hi)) → Q (.ref q) H'
def rCatN : R2 := fun x y H Q => ∃ a b xs ys, x = .ref a ∧ y = .ref b ∧ H a = some (.tup xs) ∧ H b = some (.tup ys) ∧ xs.length + ys.length ≤ sizeLine ∧ ∀ q H', Same H H' → H' q = some (.tup (xs ++ ys)) → Q (.ref q) H'
theorem sl_tupN {X : Cx} : SlR X rSlN := by
  intro pins s σ H x v vl vu lo hi sl Q I rx hs pl pu h
  obtain ⟨a, xs, rfl, ha, q⟩ := h
  refine sl_tupA pins s σ H _ v vl vu lo hi sl Q I rx hs pl pu ⟨a, xs, rfl, SqT.of ha, fun hw => q a H (Same.refl H) ?_, fun _ p hp => q p _ (same_new hp) upd_same⟩
  have e : cutV xs lo hi = xs := by
    unfold cutV
    rw [hw.1, hw.2, List.drop_zero, Nat.sub_zero, List.take_length]
  rw [e]
  exact ha
theorem op_catN {X : Cx} : OpR X (binaryOp .Add) rCatN := by
  intro pins s σ H x y v u Q I rx ry h
  obtain ⟨a, b, xs, ys, rfl, rfl, ha, hb, hz, q⟩ := h
  refine op_catA pins s σ H _ _ v u Q I rx ry ⟨a, b, xs, ys, rfl, rfl, SqT.of ha, SqT.of hb, hz, fun e => q b H (Same.refl H) (by rw [e]; exact hb), fun _ e => q a H (Same.refl H) (by rw [e, List.append_nil]; exact ha), fun _ _ p hp => q p _ (same_new hp) upd_same⟩
/-! ### the dict of rows -/
def keyR (r : List Nat) : List Key := r.map fun (l : Nat) => Sum.inl (l : Int)
def rowsKV (rs : List (List Nat)) : List (List Key × V) := rs.map fun r => (keyR r, V.bl true)
theorem keyR_kV (r : List Nat) : (keyR r).map kV = lv r := by
  unfold keyR
  rw [List.map_map]
  rfl
theorem keyR_inj : ∀ {r s : List Nat}, keyR r = keyR s → r = s
  | [], [], _ => rfl
  | [], _ :: _, h => by cases h
  | _ :: _, [], h => by cases h
  | a :: r, b :: s, h => by
    have h' : (Sum.inl (a : Int) : Key) :: keyR r = Sum.inl (b : Int) :: keyR s := h
    injection h' with h1 h2
    have := Sum.inl.inj h1
    rw [keyR_inj h2, show a = b by omega]
theorem putK_rows (acc : List (List Nat)) (r : List Nat) : putK (rowsKV acc) (keyR r) (.bl true) = rowsKV (WvM.addR acc r) := by
  unfold putK WvM.addR
  by_cases h : r ∈ acc
  · have : ((rowsKV acc).any fun kv => decide (kv.1 = keyR r)) = true := by
      rw [List.any_eq_true]
      exact ⟨(keyR r, .bl true), List.mem_map.mpr ⟨r, h, rfl⟩, decide_eq_true rfl⟩
    rw [if_pos this, if_pos h]
    unfold rowsKV
    rw [List.map_map]
    refine List.map_congr_left fun x _ => ?_
    show (if keyR x = keyR r then (keyR x, V.bl true) else (keyR x, V.bl true)) = _
    split <;> rfl
  · have : ¬ ((rowsKV acc).any fun kv => decide (kv.1 = keyR r)) = true := by
      rw [List.any_eq_true]
      rintro ⟨kv, hkv, e⟩
      obtain ⟨x, hx, rfl⟩ := List.mem_map.mp hkv
      exact h (by rw [← keyR_inj (of_decide_eq_true e)]; exact hx)
    rw [if_neg this, if_neg h]
    unfold rowsKV
    rw [List.map_append]
    rfl
theorem addR_len (acc : List (List Nat)) (r : List Nat) : (WvM.addR acc r).length ≤ acc.length + 1 := by
  unfold WvM.addR
  split
  · omega
  · rw [List.length_append]
    exact Nat.le_refl _
theorem goO_len (half : List Nat) (l k : Nat) (acc : List (List Nat)) : ∀ j, (WvM.goO half l k acc j).length ≤ acc.length + j
  | 0 => Nat.le_refl _
  | j + 1 => by
    have := goO_len half l k acc j
    have := addR_len (WvM.goO half l k acc j) (WvM.rowO half l (k + j))
    show (WvM.addR _ _).length ≤ _
    omega
theorem goOne_len (rest : List Nat) (l : Nat) (acc : List (List Nat)) (hr : rest.length ≤ 6) : ∀ j, (WvM.goOne rest l acc j).length ≤ acc.length + 7 * j
  | 0 => Nat.le_refl _
  | j + 1 => by
    have h1 := goOne_len rest l acc hr j
    have h2 := goO_len (WvM.rowO rest l j) l (j + 1) (WvM.goOne rest l acc j) (rest.length + 1 - j)
    show (WvM.goO _ _ _ _ _).length ≤ _
    omega
theorem goAt_len (ls : List Nat) (acc : List (List Nat)) (hl : ls.length ≤ 6) : ∀ j, j ≤ ls.length → (WvM.goAt ls acc j).length ≤ acc.length + 49 * j
  | 0, _ => Nat.le_refl _
  | j + 1, hj => by
    have h1 := goAt_len ls acc hl j (by omega)
    have hr : (WvM.restOf ls j).length ≤ 6 := by
      unfold WvM.restOf
      simp
      omega
    have h2 := goOne_len (WvM.restOf ls j) (ls.getD j 0 + 1) (WvM.goAt ls acc j) hr (ls.length - 1 + 1)
    show (WvM.goOne _ _ _ _).length ≤ _
    omega
theorem paired_perm {α β : Type} {F : α → β → Prop} {xs ys : List α} {bs : List β} (h : Paired F xs bs) (p : ys.Perm xs) : ∃ cs, cs.Perm bs ∧ Paired F ys cs := by
  have key : ∀ {ys xs : List α}, xs.Perm ys → ∀ {bs : List β}, Paired F xs bs → ∃ cs, cs.Perm bs ∧ Paired F ys cs := by
    intro ys xs p
    induction p with
    | nil => intro bs h; exact ⟨bs, List.Perm.refl _, h⟩
    | cons x p ih =>
      intro bs h
      cases h with
      | cons h t =>
        obtain ⟨cs, c1, c2⟩ := ih t
        exact ⟨_ :: cs, c1.cons _, .cons h c2⟩
    | swap x y l =>
      intro bs h
      cases h with
      | cons h t => cases t with
        | cons h2 t => exact ⟨_, List.Perm.swap _ _ _, .cons h2 (.cons h t)⟩
    | trans p q ih1 ih2 =>
      intro bs h
      obtain ⟨cs, c1, c2⟩ := ih1 h
      obtain ⟨ds, d1, d2⟩ := ih2 c2
      exact ⟨ds, d1.trans c1, d2⟩
  exact key p.symm h
/-- t[:j] + (l,) + t[j:] -/
theorem ins_read {σ : L2.St} {H : Hp} {Q : VK} {i j l : Nat} {t : Addr} {r : List Nat} {o ln : Nat} {jj v : Int} (h1 : σ[i]? = some (some (.ref t))) (h2 : σ[j]? = some (some (.int jj))) (hj : jj = (o : Int)) (h3 : σ[l]? = some (some (.int v))) (hv : v = (ln : Int)) (ht : H t = some (.tup (lv r))) (ho : o ≤ r.length)
    (hr : r.length ≤ 10) (k : ∀ q H', Same H H' → H' q = some (.tup (lv (WvM.rowO r ln o))) → Q (.ref q) H') :
    tOp rCatN (tOp rCatN (tSl rSlN (tVar i) tNoPart (tPart (tVar j))) (tTup (tCons (tVar l) tNil))) (tSl rSlN (tVar i) (tPart (tVar j)) tNoPart) σ H Q := by
  subst hj hv
  have hl : (lv r).length = r.length := by simp
  have c1 : cutV (lv r) none (some (o : Int)) = lv (r.take o) := by rw [cut_to (α := Nat) _ (by omega), lv_take]
  have c2 : cutV (lv r) (some (o : Int)) none = lv (r.drop o) := by rw [cut_from _ (by omega), lv_drop]
  refine ⟨_, h1, _, h2, _, rfl, t, _, rfl, ht, fun q1 H1 s1 e1 => ⟨_, h3, (by show 1 ≤ sizeLine; decide), fun q2 n2 => ?_⟩⟩
  rw [c1] at e1
  have s2 : Same H1 (upd H1 q2 (.tup [.int (ln : Int)])) := same_new n2
  refine ⟨q1, q2, _, _, rfl, rfl, s2 _ _ e1, upd_same, small5 (by simp; omega), fun q3 H3 s3 e3 => ?_⟩
  refine ⟨_, h1, _, h2, _, rfl, t, _, rfl, s3 _ _ (s2 _ _ (s1 _ _ ht)), fun q4 H4 s4 e4 => ?_⟩
  rw [c2] at e4
  refine ⟨q3, q4, _, _, rfl, rfl, s4 _ _ e3, e4, small5 (by simp; omega), fun q5 H5 s5 e5 => k q5 H5 (Same.trans (Same.trans (Same.trans (Same.trans s1 s2) s3) s4) s5) ?_⟩
  rw [e5]
  show _ = some (HO.tup ((r.take o ++ [ln] ++ r.drop o).map _))
  rw [List.map_append, List.map_append]
  rfl
/-- t[:j] + t[j + 1:] -/
theorem rest_read {σ : L2.St} {H : Hp} {Q : VK} {i j : Nat} {t : Addr} {r : List Nat} {o : Nat} {jj : Int} (h1 : σ[i]? = some (some (.ref t))) (h2 : σ[j]? = some (some (.int jj))) (hj : jj = (o : Int)) (ht : H t = some (.tup (lv r))) (ho : o + 1 ≤ r.length)
    (hr : r.length ≤ 10) (k : ∀ q H', Same H H' → H' q = some (.tup (lv (WvM.restOf r o))) → Q (.ref q) H') :
    tOp rCatN (tSl rSlN (tVar i) tNoPart (tPart (tVar j))) (tSl rSlN (tVar i) (tPart (tOp (rI0 fun i j => .int (i + j)) (tVar j) (tC (.int 1)))) tNoPart) σ H Q := by
  subst hj
  have hl : (lv r).length = r.length := by simp
  have c1 : cutV (lv r) none (some (o : Int)) = lv (r.take o) := by rw [cut_to (α := Nat) _ (by omega), lv_take]
  have c2 : cutV (lv r) (some ((o : Int) + 1)) none = lv (r.drop (o + 1)) := by
    have : cutV (lv r) (some ((o + 1 : Nat) : Int)) none = lv (r.drop (o + 1)) := by rw [cut_from _ (by omega), lv_drop]
    exact this
  refine ⟨_, h1, _, h2, _, rfl, t, _, rfl, ht, fun q1 H1 s1 e1 => ?_⟩
  rw [c1] at e1
  refine ⟨_, h1, _, h2, _, _, rfl, rfl, _, rfl, t, _, rfl, s1 _ _ ht, fun q4 H4 s4 e4 => ?_⟩
  have e4' : H4 q4 = some (.tup (lv (r.drop (o + 1)))) := by rw [← c2]; exact e4
  refine ⟨q1, q4, _, _, rfl, rfl, s4 _ _ e1, e4', small5 (by simp; omega), fun q5 H5 s5 e5 => k q5 H5 (Same.trans (Same.trans s1 s4) s5) ?_⟩
  rw [e5]
  show _ = some (HO.tup ((r.take o ++ r.drop (o + 1)).map _))
  rw [List.map_append]
section
variable {P : Program} {w : World} {K : PySem.W.Frag} {mg : Str → Option Value} {base : Heap} {cT cB cO C : Addr}
/-! ### all rows -/
abbrev NA : List Str := ["_law_many", "_law_found", "_law_size", "_law_longer", "_law_lengths", "_law_at", "_law_rest", "_law_length", "_law_one", "_law_half", "_law_other"]
def spAllLengths (K : PySem.W.Frag) : Sp := fun vs H Q _ => ∃ m : Nat, vs = [.int m] ∧ 2 ≤ m ∧ m ≤ 5 ∧ ∀ H' q xs rs, Same H H' → H q = none → H' q = some (.lst xs) → rs.Perm (WvM.rows m) → Paired (fun x r => RefT H' x (lv r)) xs rs → Q (.ref q) H'
theorem scAllLengths : FnScope NA ["_law_many"] (defScope sAllLengths) := ⟨rfl, rfl, rfl, by decide +kernel, rfl, by decide +kernel, by decide +kernel⟩
theorem ok_allLengths {f : Addr} {fd : FuncData} (F : FnP K "_law_all_lengths" sAllLengths f fd) (T : Bl mg) : FnOk P w K mg base CX0 1 f fd ["_law_many"] (spAllLengths K) := by
  refine F.ok scAllLengths (fun vs H Q E h => ?_) (fun cdv A outer s H vs Q E hr h => ?_)
  · obtain ⟨m, rfl, _⟩ := h
    rfl
  · obtain ⟨m, rfl, m2, m5, k⟩ := h
    have hu := hu_of hr
    refine ⟨_, PSs.nox (pss_cons (ps_set (i := 1) scAllLengths.nd rfl (Or.inl rfl) (pe_disp1T hr.units (pe_tup (pa_cons pe_int (pa_cons pe_int pa_nil))) pe_bl))
      (pss_cons (ps_for PassesOwn.never rfl (pi_range2 (by rfl) T.range (pa_cons pe_int (pa_cons (pe_op op_add (pv 0) pe_int) pa_nil))) (pg_name (i := 2) scAllLengths.nd rfl (Or.inl rfl))
        (pss_cons (ps_set (i := 3) scAllLengths.nd rfl (Or.inl rfl) pe_dnewT)
        (pss_cons (ps_lock (ps_for PassesOwn.never rfl (pi_keys (pv 1)) (pg_name (i := 4) scAllLengths.nd rfl (Or.inl rfl))
          (pss_one (ps_for PassesOwn.never rfl (pi_range1 (by rfl) T.range (pa_cons (pe_callB call_len_seq (by rfl) T.len (by decide +kernel) (pa_cons (pv 4) pa_nil)) pa_nil)) (pg_name (i := 5) scAllLengths.nd rfl (Or.inl rfl))
            (pss_cons (ps_set (i := 6) scAllLengths.nd rfl (Or.inl rfl) (pe_op op_catN (pe_slice sl_tupN (pv 4) po_none (po_some (pv 5))) (pe_slice sl_tupN (pv 4) (po_some (pe_op op_add (pv 5) pe_int)) po_none)))
            (pss_cons (ps_set (i := 7) scAllLengths.nd rfl (Or.inl rfl) (pe_op op_add (pe_ix ix_tup (pv 4) (pv 5) (fun _ _ => rfl)) pe_int))
            (pss_one (ps_for PassesOwn.never rfl (pi_range1 (by rfl) T.range (pa_cons (pe_op op_add (pe_callB call_len_seq (by rfl) T.len (by decide +kernel) (pa_cons (pv 6) pa_nil)) pe_int) pa_nil)) (pg_name (i := 8) scAllLengths.nd rfl (Or.inl rfl))
              (pss_cons (ps_set (i := 9) scAllLengths.nd rfl (Or.inl rfl) (pe_op op_catN (pe_op op_catN (pe_slice sl_tupN (pv 6) po_none (po_some (pv 8))) (pe_tup (pa_cons (pv 7) pa_nil))) (pe_slice sl_tupN (pv 6) (po_some (pv 8)) po_none)))
              (pss_one (ps_for PassesOwn.never rfl (pi_range2 (by rfl) T.range (pa_cons (pe_op op_add (pv 8) pe_int) (pa_cons (pe_op op_add (pe_callB call_len_seq (by rfl) T.len (by decide +kernel) (pa_cons (pv 9) pa_nil)) pe_int) pa_nil))) (pg_name (i := 10) scAllLengths.nd rfl (Or.inl rfl))
                (pss_one (ps_dput hu (pv 3) (pe_op op_catN (pe_op op_catN (pe_slice sl_tupN (pv 9) po_none (po_some (pv 10))) (pe_tup (pa_cons (pv 7) pa_nil))) (pe_slice sl_tupN (pv 9) (po_some (pv 10)) po_none)) pe_bl rfl)))))))))))))
        (pss_one (ps_set (i := 1) scAllLengths.nd rfl (Or.inl rfl) (pv 3))))))
      (pss_one (ps_ret (pe_callB cr_sortedT (by rfl) T.sorted (by decide +kernel) (pa_cons (pe_callTy (call_list_dT rfl) (by rfl) T.list (by decide +kernel) (pa_cons (pv 1) pa_nil)) pa_nil)))))), ?_⟩
    intro d hd
    refine ⟨(by show 2 ≤ sizeLine; decide), fun t0 ht0 => ⟨by rw [upd_ne (ne_of_none upd_same ht0)]; exact upd_same, t0, keyR [1, 1], rfl, upd_same, ?_⟩⟩
    have s0 : Same H (upd (upd (upd H d (.dT [])) t0 (.tup [.int 1, .int 1])) d (.dT [(keyR [1, 1], V.bl true)])) := same_mut (same_new' (same_new hd) ht0) hd
    refine ⟨_, rfl, _, _, rfl, rfl, 3, _, rfl, ⟨by decide, by decide, by omega, by omega⟩, ?_⟩
    refine for_range (lo := 3) (n := ((m : Int) + 1 - 3).toNat) (fun t σ H' => ∃ d, H d = none ∧ Same H H' ∧ H' d = some (.dT (rowsKV (WvM.rowsAt t))) ∧ ∃ z2 z3 z4 z5 z6 z7 z8 z9 z10, σ = [some (.int m), some (.ref d), z2, z3, z4, z5, z6, z7, z8, z9, z10])
      ⟨d, hd, s0, upd_same, none, none, none, none, none, none, none, none, none, rfl⟩ ?_ ?_
    · rintro t σ H1 ht ⟨d, hd, s1, hdx, z2, z3, z4, z5, z6, z7, z8, z9, z10, rfl⟩
      have hR := WvM.rows_len (n := t + 2) (by omega) (by omega)
      have hRi := fun r (hr : r ∈ WvM.rowsAt t) => WvM.rows_is (n := t + 2) (r := r) (by omega) (by omega) (by
        unfold WvM.rows
        rw [Nat.add_sub_cancel]
        exact hr)
      have hRl : (WvM.rowsAt t).length ≤ 75 := by
        have := hR.2
        unfold WvM.rows at this
        rw [Nat.add_sub_cancel] at this
        exact this
      have hRS : WvM.rowsAt (t + 1) = WvM.goRows (WvM.rowsAt t) (WvM.rowsAt t).length := rfl
      generalize WvM.rowsAt t = R at *
      intro e he
      have ed : e ≠ d := fun z => by rw [z, hdx] at he; cases he
      refine ⟨d, .dT (rowsKV R), by rw [upd_ne (Ne.symm ed)]; exact hdx, trivial, fun od => ?_⟩
      refine ⟨_, rfl, d, od, rfl, .inr ⟨_, upd_same, ?_⟩⟩
      generalize hH0 : upd (upd H1 e (.dT [])) d (.frz od (.dT (rowsKV R))) = H0
      have h0d : H0 d = some (.frz od (.dT (rowsKV R))) := by rw [← hH0]; exact upd_same
      have h0e : H0 e = some (.dT []) := by rw [← hH0, upd_ne ed]; exact upd_same
      have hkl : (rowsKV R).length = R.length := by simp [rowsKV]
      refine for_it (walk_keysT (kvs := rowsKV R)) (fun i σ H2 => Keep e H0 H2 ∧ H2 e = some (.dT (rowsKV (WvM.goRows R i))) ∧ (WvM.goRows R i).length ≤ 343 * i ∧ ∃ z4 z5 z6 z7 z8 z9 z10, σ = [some (.int m), some (.ref d), some (.int (3 + (t : Int))), some (.ref e), z4, z5, z6, z7, z8, z9, z10])
        ⟨Keep.refl _ _, h0e, Nat.zero_le _, z4, z5, z6, z7, z8, z9, z10, rfl⟩ ?_ ?_ ?_
      · rintro i σ H2 _ ⟨kk, _⟩
        exact kk _ _ (Ne.symm ed) h0d
      · rintro i x σ H2 H2' hi ⟨kk, he2, hgl, z4, z5, z6, z7, z8, z9, z10, rfl⟩ ⟨rfl, key, vv, q, hkv, rfl, hq⟩
        obtain ⟨ls, hls, ekv⟩ := get_map (show (R.map fun r => (keyR r, V.bl true))[i]? = some (key, vv) from hkv)
        injection ekv with ek ev
        subst ek
        rw [keyR_kV] at hq
        have hlsm := hRi ls (List.mem_of_getElem? hls)
        have hll := hlsm.len
        have hRg : R.getD i [] = ls := by rw [List.getD_eq_getElem?_getD, hls]; rfl
        have hlv : (lv ls).length = ls.length := by simp
        have hgs : WvM.goRows R (i + 1) = WvM.goAt ls (WvM.goRows R i) ls.length := by rw [← hRg]; rfl
        generalize WvM.goRows R i = A0 at *
        have hi75 : i < 75 := by rw [hkl] at hi; omega
        refine ⟨_, rfl, q, _, rfl, .inr (SqT.of hq), _, rfl, by rw [hlv]; omega, by rw [hlv]; omega, ?_⟩
        refine for_range (n := (((lv ls).length : Nat) : Int).toNat) (fun a σ H3 => Keep e H2' H3 ∧ H3 e = some (.dT (rowsKV (WvM.goAt ls A0 a))) ∧ ∃ z5 z6 z7 z8 z9 z10, σ = [some (.int m), some (.ref d), some (.int (3 + (t : Int))), some (.ref e), some (.ref q), z5, z6, z7, z8, z9, z10])
          ⟨Keep.refl _ _, he2, z5, z6, z7, z8, z9, z10, rfl⟩ ?_ ?_
        · rintro a σ H3 ha ⟨k3, he3, z5, z6, z7, z8, z9, z10, rfl⟩
          have ha' : a < ls.length := by rw [hlv] at ha; simpa using ha
          have hla := List.getElem?_eq_getElem ha'
          have hAl := goAt_len ls A0 (by omega) a (by omega)
          have hgs2 : WvM.goAt ls A0 (a + 1) = WvM.goOne (WvM.restOf ls a) (ls[a] + 1) (WvM.goAt ls A0 a) (ls.length - 1 + 1) := by
            show WvM.goOne _ (ls.getD a 0 + 1) _ _ = _
            rw [List.getD_eq_getElem?_getD, hla]
            rfl
          have hrl : (WvM.restOf ls a).length = ls.length - 1 := by
            unfold WvM.restOf
            simp
            omega
          generalize WvM.goAt ls A0 a = A1 at *
          generalize hlen : ls[a] = l at *
          have qe : ∀ {H4 : Hp}, Keep e H2' H4 → H4 q = some (.tup (lv ls)) := fun k4 => k4 _ _ (ne_of hq he2 (fun z => nomatch z)) hq
          refine rest_read (i := 4) (j := 5) (t := q) (r := ls) (o := a) rfl rfl (by omega) (qe k3) (by omega) (by omega) fun q3 H4 s4 e4 => ?_
          generalize WvM.restOf ls a = rs at *
          have k4 : Keep e H2' H4 := Keep.trans k3 (Keep.of s4)
          have he4 := s4 _ _ he3
          have hvl : (lv ls)[a]? = some (V.int (l : Int)) := by rw [List.getElem?_map, hla]; rfl
          have hat : atI (lv ls) (0 + (a : Int)) = some (V.int (l : Int)) := by rw [Int.zero_add]; exact atI_nat hvl
          refine ⟨_, rfl, _, rfl, q, _, _, _, rfl, rfl, SqT.of (qe k4), hat, _, _, rfl, rfl, ?_⟩
          have hrv : (lv rs).length = rs.length := by simp
          refine ⟨_, rfl, q3, _, rfl, .inr (SqT.of e4), _, _, rfl, rfl, _, rfl, by rw [hrv]; omega, by rw [hrv]; omega, ?_⟩
          refine for_range (n := (((lv rs).length : Int) + 1).toNat) (fun o σ H5 => Keep e H4 H5 ∧ H5 e = some (.dT (rowsKV (WvM.goOne rs (l + 1) A1 o))) ∧ ∃ z8 z9 z10, σ = [some (.int m), some (.ref d), some (.int (3 + (t : Int))), some (.ref e), some (.ref q), some (.int (0 + (a : Int))), some (.ref q3), some (.int ((l : Int) + 1)), z8, z9, z10])
            ⟨Keep.refl _ _, he4, z8, z9, z10, rfl⟩ ?_ ?_
          · rintro o σ H5 ho ⟨k5, he5, z8, z9, z10, rfl⟩
            have ho' : o ≤ rs.length := by rw [hrv] at ho; omega
            have hOl := goOne_len rs (l + 1) A1 (by omega) o
            have hgs3 : WvM.goOne rs (l + 1) A1 (o + 1) = WvM.goO (WvM.rowO rs (l + 1) o) (l + 1) (o + 1) (WvM.goOne rs (l + 1) A1 o) (rs.length + 1 - o) := rfl
            have hhl : (WvM.rowO rs (l + 1) o).length = rs.length + 1 := by
              unfold WvM.rowO
              simp
              omega
            generalize WvM.goOne rs (l + 1) A1 o = A2 at *
            have h3e : H5 q3 = some (.tup (lv rs)) := k5 _ _ (ne_of e4 he4 (fun z => nomatch z)) e4
            refine ins_read (i := 6) (j := 8) (l := 7) (t := q3) (r := rs) (o := o) (ln := l + 1) rfl rfl (by omega) rfl (by omega) h3e ho' (by omega) fun q4 H6 s6 e6 => ?_
            generalize WvM.rowO rs (l + 1) o = hf at *
            have k6 : Keep e H4 H6 := Keep.trans k5 (Keep.of s6)
            have he6 := s6 _ _ he5
            have hhv : (lv hf).length = hf.length := by simp
            refine ⟨_, rfl, _, _, rfl, rfl, _, rfl, q4, _, rfl, .inr (SqT.of e6), _, _, rfl, rfl, _, _, rfl, ⟨by omega, by omega, by rw [hhv]; omega, by rw [hhv]; omega⟩, ?_⟩
            refine for_range (lo := 0 + (o : Int) + 1) (n := ((((lv hf).length : Int) + 1) - (0 + (o : Int) + 1)).toNat) (fun x σ H7 => Keep e H6 H7 ∧ H7 e = some (.dT (rowsKV (WvM.goO hf (l + 1) (o + 1) A2 x))) ∧ ∃ z10, σ = [some (.int m), some (.ref d), some (.int (3 + (t : Int))), some (.ref e), some (.ref q), some (.int (0 + (a : Int))), some (.ref q3), some (.int ((l : Int) + 1)), some (.int (0 + (o : Int))), some (.ref q4), z10])
              ⟨Keep.refl _ _, he6, z10, rfl⟩ ?_ ?_
            · rintro x σ H7 hx ⟨k7, he7, z10, rfl⟩
              have hx' : o + 1 + x ≤ hf.length := by rw [hhv] at hx; omega
              have hXl := goO_len hf (l + 1) (o + 1) A2 x
              have hgs4 : WvM.goO hf (l + 1) (o + 1) A2 (x + 1) = WvM.addR (WvM.goO hf (l + 1) (o + 1) A2 x) (WvM.rowO hf (l + 1) (o + 1 + x)) := rfl
              generalize WvM.goO hf (l + 1) (o + 1) A2 x = A3 at *
              have h4e : H7 q4 = some (.tup (lv hf)) := k7 _ _ (ne_of e6 he6 (fun z => nomatch z)) e6
              refine ⟨_, rfl, ?_⟩
              refine ins_read (i := 9) (j := 10) (l := 7) (t := q4) (r := hf) (o := o + 1 + x) (ln := l + 1) rfl rfl (by omega) rfl (by omega) h4e hx' (by omega) fun q5 H8 s8 e8 => ?_
              have he8 := s8 _ _ he7
              refine ⟨e, _, rfl, DPut.t (k := keyR (WvM.rowO hf (l + 1) (o + 1 + x))) he8 (by rw [keyR_kV]; exact e8) (small5l (by rw [show (rowsKV A3).length = A3.length by simp [rowsKV]]; omega)), ?_⟩
              refine ⟨Keep.trans k7 (Keep.trans (Keep.of s8) Keep.at), ?_, _, rfl⟩
              rw [upd_same, putK_rows, hgs4]
            · rintro σ H7 ⟨k7, he7, z10, rfl⟩
              refine ⟨Keep.trans k6 k7, ?_, _, _, _, rfl⟩
              rw [he7, hgs3, hhv, show (((hf.length : Int) + 1) - (0 + (o : Int) + 1)).toNat = rs.length + 1 - o by omega]
          · rintro σ H5 ⟨k5, he5, z8, z9, z10, rfl⟩
            refine ⟨Keep.trans k4 k5, ?_, _, _, _, _, _, _, rfl⟩
            rw [he5, hgs2, hrv, show ((rs.length : Int) + 1).toNat = ls.length - 1 + 1 by omega]
        · rintro σ H3 ⟨k3, he3, z5, z6, z7, z8, z9, z10, rfl⟩
          rw [show (((lv ls).length : Nat) : Int).toNat = ls.length by rw [hlv]; rfl] at he3
          refine ⟨Keep.trans kk k3, by rw [hgs]; exact he3, ?_, _, _, _, _, _, _, _, rfl⟩
          rw [hgs]
          have := goAt_len ls A0 (by omega) ls.length (Nat.le_refl _)
          omega
      · rintro σ H2 ⟨kk, he2, hgl, z4, z5, z6, z7, z8, z9, z10, rfl⟩
        have h2d := kk _ _ (Ne.symm ed) h0d
        rw [hkl] at he2
        refine ⟨h2d, ?_⟩
        have e0 : H e = none := by
          cases z : H e with
          | none => rfl
          | some o => rw [s1 _ _ z] at he; cases he
        refine ⟨_, rfl, e, e0, fun b o eb => ?_, ?_, _, _, _, _, _, _, _, _, _, rfl⟩
        · have nd : b ≠ d := ne_of_none eb hd
          have ne : b ≠ e := ne_of_none eb e0
          rw [upd_ne nd]
          refine kk _ _ ne ?_
          rw [← hH0, upd_ne nd, upd_ne ne]
          exact s1 _ _ eb
        · rw [upd_ne ed, hRS]
          exact he2
    · rintro σ H1 ⟨d, hd, s1, hdx, z2, z3, z4, z5, z6, z7, z8, z9, z10, rfl⟩
      have hm : ((m : Int) + 1 - 3).toNat = m - 2 := by omega
      rw [hm] at hdx
      have hRi := fun r (hr : r ∈ WvM.rowsAt (m - 2)) => WvM.rows_is (n := m) (r := r) (by omega) (by omega) hr
      have hrows : WvM.rowsAt (m - 2) = WvM.rows m := rfl
      refine ⟨_, rfl, d, _, rfl, .inl hdx, fun g bs hg hbs => ?_⟩
      have hp : ∀ {rs : List (List Nat)} {bs : List Addr} {H' : Hp}, IsKeys H' (rowsKV rs) bs → Paired (fun x r => RefT H' x (lv r)) (bs.map V.ref) rs := by
        intro rs
        induction rs with
        | nil =>
          intro bs H' h
          cases h
          exact .nil
        | cons r rs ih =>
          intro bs H' h
          cases h with
          | cons h t => exact .cons ⟨_, rfl, by rw [← keyR_kV]; exact h⟩ (ih t)
      have s2 : Same H1 (upd H1 g (.lst (bs.map V.ref))) := same_new hg
      have hpr := Paired.mapP (hp hbs) fun x r z => RefT.same s2 z
      refine ⟨g, m, (m : Int), bs.map V.ref, rfl, SqL.of upd_same, by omega, fun x hx => ?_, fun ys p3 hperm hp3 => ?_⟩
      · obtain ⟨j, hj, ej⟩ := List.mem_iff_getElem.mp hx
        obtain ⟨r, hr1, t, e1, e2⟩ := paired_get hpr (show (bs.map V.ref)[j]? = some x by rw [List.getElem?_eq_getElem hj, ej])
        have hri := hRi r (List.mem_of_getElem? hr1)
        refine ⟨t, r.map fun (l : Nat) => (l : Int), e1, by rw [← lv_iv]; exact e2, by rw [List.length_map]; exact hri.len, fun y hy => ?_⟩
        obtain ⟨l, hl, rfl⟩ := List.mem_map.mp hy
        have := hri.hi l hl
        omega
      · obtain ⟨rs, p1, p2'⟩ := paired_perm hpr hperm
        have s3 := same_new' (o := .lst ys) s2 hp3
        refine k _ p3 ys rs (Same.trans s1 s3) ?_ upd_same (by rw [← hrows]; exact p1) (Paired.mapP p2' fun x r z => RefT.same (same_new hp3) z)
        cases z : H p3 with
        | none => rfl
        | some o => rw [s2 _ _ (s1 _ _ z)] at hp3; cases hp3
end
end Wv

set_option Elab.async false
set_option linter.all false
set_option maxRecDepth 100000
set_option maxHeartbeats 4000000
set_option pp.maxSteps 1500
namespace Wv
open PySem PySem.Spec PyProof.Rows L2
theorem signs_exist (cs : List Int) : ∃ signs, WvM.Signs cs signs := by
  refine ⟨cs.zipIdx.mergeSort fun a b => decide (a.1 ≤ b.1), ?_, List.mergeSort_perm _ _⟩
  have := List.pairwise_mergeSort (le := fun (a b : Int × Nat) => decide (a.1 ≤ b.1)) (fun a b c h1 h2 => by simp at *; omega) (fun a b => by simp; omega) cs.zipIdx
  exact List.pairwise_map.mpr (this.imp fun h => by simpa using h)
theorem least_is {n : Nat} {ks : List Int} {rs : List (List Nat)} {m : Int} (h2 : 2 ≤ n) (h5 : n ≤ 5) (hl : ks.length = n) (h0 : ∀ k ∈ ks, 0 ≤ k) (p : rs.Perm (WvM.rows n)) (hm : m ∈ rs.map fun r => WvM.cst r ks) (hle : ∀ y ∈ rs.map fun r => WvM.cst r ks, m ≤ y) : m = WvM.huff ks := by
  obtain ⟨signs, S⟩ := signs_exist ks
  obtain ⟨g, _⟩ := S.good h0 (by omega)
  exact WvM.least_rows h2 h5 hl h0 p hm hle g
section
variable {P : Program} {w : World} {K : PySem.W.Frag} {mg : Str → Option Value} {base : Heap} {cT cB cO C : Addr}
theorem made_codeG {b : Bool} {H : Hp} {a x dx : Addr} {ls : List Nat} {G : Hp → Prop} {E : XK} (hx : H x = none) (hd : H dx = none) (ne : dx ≠ x) (ha : SqB b K H a (lv ls)) (h2 : 2 ≤ ls.length) (h40 : ls.length ≤ 40) (h63 : ∀ l ∈ ls, 1 ≤ l ∧ l ≤ 63) (hf : WvM.Full ls)
    (k : ∀ H', Same H H' → IsCode K C H' x ls → G H') : spCodeInit K C [.ref x, .ref a, .non] (upd (upd H dx (.own x)) x (.ins C dx [])) (fun v H2 => v = .non ∧ G H2) E :=
  made_code (Q := fun _ H' => G H') hx hd ne ha h2 h40 h63 hf k
/-- == of codes -/
structure EqC (P : Program) (w : World) (K : PySem.W.Frag) (mg : Str → Option Value) (base : Heap) (C f : Addr) (fd : FuncData) : Prop where
  ok : FnOk P w K mg base CX0 2 f fd ["self", "other"] (spEq (ReqC K C))
  hs : PySem.W.findIn K (.ref C) "__eq__" = some (some (.ref f))
  hf : PySem.W.isFn K (.ref f) = true
  b : Binds K fd ["self", "other"] []
/-! ### few signs -/
abbrev NS : List Str := ["_law_pen", "_law_many", "_law_counts", "_law_rows", "_law_least_here", "_law_lengths", "_law_told"]
def spAre (K : PySem.W.Frag) : Sp := fun vs H Q _ => ∃ (p c : Addr) (cs : List Int) (n : Nat), vs = [.ref p] ∧ Pen K p c cs n H ∧ n ≤ 700000 ∧ ∀ H', Keep p H H' → Pen K p c cs (n + 1000) H' → Q (.bl true) H'
theorem scSmall : FnScope NS ["_law_pen"] (defScope sSmall) := ⟨rfl, rfl, rfl, by decide +kernel, rfl, by decide +kernel, by decide +kernel⟩
/-- what the two defs call -/
structure Fns (P : Program) (w : World) (K : PySem.W.Frag) (mg : Str → Option Value) (base : Heap) (C cT cB cO : Addr) : Prop where
  draw : ∃ f fd, Cl P w K mg base CX0 "_law_draw" f fd 1 ["_law_pen", "_law_many"] (spDraw K)
  counts : ∃ f fd, Cl P w K mg base CX0 "_law_some_counts" f fd 3 ["_law_pen", "_law_many"] (spSomeCounts K)
  rows : ∃ f fd, Cl P w K mg base CX0 "_law_all_lengths" f fd 1 ["_law_many"] (spAllLengths K)
  lcost : ∃ f fd, Cl P w K mg base CX0 "_law_cost" f fd 1 ["_law_lengths", "_law_counts"] (spLCost K)
  lleast : ∃ f fd, Cl P w K mg base CX0 "_law_least" f fd 1 ["_law_counts"] (spLLeast K)
  shuf : ∃ f fd, Cl P w K mg base CX0 "_law_shuffled" f fd 2 ["_law_pen", "_law_items"] (spShuffled K)
  code : ∃ f fd, Cl P w K mg base CX0 "_law_some_code" f fd 3 ["_law_pen", "_law_many"] (spSomeCode K)
  leastCost : ∃ f fd, Cl P w K mg base (L2.CX P w) "least_cost" f fd 5 ["counts"] (spLeastCost K cB)
  leastCode : ∃ f fd, Cl P w K mg base (L2.CX P w) "least_code" f fd 6 ["counts"] (spLeastCode K C cT)
  isLeast : ∃ f fd, Cl P w K mg base (L2.CX P w) "is_least" f fd 6 ["code", "counts"] (spIsLeast K C cO)
  cost : ∃ f fd, Cl P w K mg base CX0 "cost" f fd 6 ["code", "counts"] (spCost K C)
  mk1 : ∃ f fd ds, MkC P w K mg base C f fd ds
  eq : ∃ f fd, EqC P w K mg base C f fd
theorem ok_small {f : Addr} {fd : FuncData} (F : FnP K "_law_are_small" sSmall f fd) (T : Bl mg) (O : Co K mg C) (G : Fns P w K mg base C cT cB cO) : FnOk P w K mg base CX0 7 f fd ["_law_pen"] (spAre K) := by
  obtain ⟨_, _, Cd⟩ := G.draw
  obtain ⟨_, _, Cc⟩ := G.counts
  obtain ⟨_, _, Cr⟩ := G.rows
  obtain ⟨_, _, Cl1⟩ := G.lcost
  obtain ⟨_, _, Cs⟩ := G.shuf
  obtain ⟨_, _, C1⟩ := G.leastCost
  obtain ⟨_, _, C2⟩ := G.leastCode
  obtain ⟨_, _, C3⟩ := G.isLeast
  obtain ⟨_, _, _, M⟩ := G.mk1
  obtain ⟨_, _, Eq⟩ := G.eq
  refine F.ok scSmall (fun vs H Q E h => ?_) (fun cdv A outer s H vs Q E hr h => ?_)
  · obtain ⟨p, c, cs, n, rfl, _⟩ := h
    rfl
  · obtain ⟨p, c, cs, n, rfl, hP, hn, k⟩ := h
    refine ⟨_, PSs.nox (pss_cons (ps_set (i := 1) scSmall.nd rfl (Or.inl rfl) (pe_op op_add pe_int (pe_call Cd.ok (hr.mono (by decide)) (by rfl) Cd.g Cd.kp Cd.b .nil pass0 (pa_cons (pv 0) (pa_cons pe_int pa_nil)))))
      (pss_cons (ps_set (i := 2) scSmall.nd rfl (Or.inr rfl) (pe_call Cc.ok (hr.mono (by decide)) (by rfl) Cc.g Cc.kp Cc.b .nil pass0 (pa_cons (pv 0) (pa_cons (pv 1) pa_nil))))
      (pss_cons (ps_set (i := 3) scSmall.nd rfl (Or.inl rfl) (pe_call Cr.ok (hr.mono (by decide)) (by rfl) Cr.g Cr.kp Cr.b .nil pass0 (pa_cons (pv 1) pa_nil)))
      (pss_cons (ps_set (i := 4) scSmall.nd rfl (Or.inl rfl) (pe_callB (cr_min rfl) (by rfl) T.min (by decide +kernel) (pa_cons
          (pe_lc (own := [("_law_lengths", 5)]) rfl scSmall.nd (pi_list (pv 3)) (blkOk_by (N := NS) (sc := defScope sSmall) (by decide +kernel)) (fun _ _ _ _ _ => pg_name (i := 5) scSmall.nd rfl (Or.inl rfl)) (fun _ _ _ _ _ => pts_nil)
            (fun _ _ _ _ _ => by exact pe_call Cl1.ok (hr.mono (by decide)) (by rfl) Cl1.g Cl1.kp Cl1.b .nil pass0 (pa_cons (pv 5) (pa_cons (pv 2) pa_nil)))) pa_nil)))
      (pss_cons (ps_if (PW.pt (pw_or (pt_cmpR op_ne (pe_call (E := fun _ _ _ => False) C1.ok (hr.mono (by decide)) (by rfl) C1.g C1.kp C1.b .nil (passes_call takes0 (fun _ _ _ _ h => h)) (pa_cons (pv 2) pa_nil)) (pv 4) (nomark _))
          (pw_or1 (pt_cmpR op_ne (pe_call (E := fun _ _ _ => False) C1.ok (hr.mono (by decide)) (by rfl) C1.g C1.kp C1.b .nil (passes_call takes0 (fun _ _ _ _ h => h)) (pa_cons (pe_callTy call_tuple_of (by rfl) T.tuple (by decide +kernel) (pa_cons (pv 2) pa_nil)) pa_nil)) (pv 4) (nomark _))))) (pss_one ps_never) pss_nil)
      (pss_cons (ps_for PassesOwn.never rfl (pi_list (pe_slice sl_list (pe_call Cs.ok (hr.mono (by decide)) (by rfl) Cs.g Cs.kp Cs.b .nil pass0 (pa_cons (pv 0) (pa_cons (pv 3) pa_nil))) po_none (po_some pe_int))) (pg_name (i := 5) scSmall.nd rfl (Or.inl rfl))
        (pss_one (ps_if (pt_cmpR op_ne (pe_callB cr_reprB (by rfl) T.repr (by decide +kernel) (pa_cons (pe_call (E := fun _ _ _ => False) C3.ok hr (by rfl) C3.g C3.kp C3.b .nil (passes_call takes0 (fun _ _ _ _ h => h))
              (pa_cons (pe_make M.mk1 M.ok (hr.mono (by decide)) (by rfl) O.gC M.b M.dv pass0 (pa_cons (pv 5) pa_nil)) (pa_cons (pv 2) pa_nil))) pa_nil))
            (pe_callB cr_reprB (by rfl) T.repr (by decide +kernel) (pa_cons (pe_cmpR op_eq (pe_call Cl1.ok (hr.mono (by decide)) (by rfl) Cl1.g Cl1.kp Cl1.b .nil pass0 (pa_cons (pv 5) (pa_cons (pv 2) pa_nil))) (pv 4) (nomark _)) pa_nil)) (nomark _)) (pss_one ps_never) pss_nil)))
      (pss_cons (ps_set (i := 6) scSmall.nd rfl (Or.inl rfl) (pe_call (E := fun _ _ _ => False) C2.ok hr (by rfl) C2.g C2.kp C2.b .nil (passes_call takes0 (fun _ _ _ _ h => h)) (pa_cons (pv 2) pa_nil)))
      (pss_one (ps_ret (pe_and (pe_cmpR op_eq (pe_call Cl1.ok (hr.mono (by decide)) (by rfl) Cl1.g Cl1.kp Cl1.b .nil pass0 (pa_cons (pe_fld (pv 6) rfl) (pa_cons (pv 2) pa_nil))) (pv 4) (nomark _))
        (pe_one (pe_cmpR (op_eqG (rcG_ins Eq.ok Eq.hs Eq.hf Eq.b pass0) (hr.mono (by decide))) (pv 6) (pe_make M.mk1 M.ok (hr.mono (by decide)) (by rfl) O.gC M.b M.dv pass0 (pa_cons (pe_fld (pv 6) rfl) pa_nil)) (nomark _))))))))))))), ?_⟩
    refine ⟨_, rfl, p, c, cs, n, 4, rfl, hP, by omega, by decide, by decide, fun H1 r k1 P1 r0 r1 => ⟨_, _, rfl, rfl, ?_⟩⟩
    obtain ⟨r, rfl⟩ := Int.eq_ofNat_of_zero_le r0
    have hr4 : r < 4 := by omega
    refine ⟨_, rfl, _, rfl, p, c, cs, n + 1, 2 + r, rfl, P1, by omega, by omega, fun H2 q1 ks k2 P2 n2 hq1 hkl hk0 => ?_⟩
    refine ⟨_, rfl, 2 + r, rfl, by omega, by omega, fun H3 q2 xs rs s3 n3 hq2 hperm hpr => ?_⟩
    obtain ⟨i1, l1, hp1, _⟩ := id P1.at_
    have q1p : q1 ≠ p := fun z => by rw [z, hp1] at n2; cases n2
    have hRl := WvM.rows_len (n := 2 + r) (by omega) (by omega)
    have hxl : xs.length = rs.length := Paired.length hpr
    have hrl : rs.length ≤ 75 ∧ 1 ≤ rs.length := by rw [hperm.length_eq]; exact ⟨hRl.2, hRl.1⟩
    have hri : ∀ x ∈ rs, WvM.RowIs (2 + r) x := fun x hx => WvM.rows_is (by omega) (by omega) (hperm.mem_iff.mp hx)
    have r63 : ∀ x ∈ rs, ∀ l ∈ x, 1 ≤ l ∧ l ≤ 63 := fun x hx l hl => ⟨(hri x hx).lo l hl, by have := (hri x hx).hi l hl; omega⟩
    have hq13 := s3 _ _ hq1
    have hkv : (iv ks).length = ks.length := by simp
    refine ⟨_, rfl, q2, rfl, ⟨_, SqL.of hq2⟩, fun D hD => ?_⟩
    refine lc_it (walk_list (xs := xs)) (fun i H' => Same H3 H' ∧ H' D = some (.lst (((rs.take i).map fun x => WvM.cst x ks).map V.int))) ⟨same_new hD, upd_same⟩ ?_ ?_ ?_
    · rintro i H' _ ⟨sH, _⟩
      exact SqL.of (sH _ _ hq2)
    · rintro i x H' H4 hi ⟨sH, hDx⟩ ⟨rfl, hx⟩
      obtain ⟨y, hy, t, rfl, ht⟩ := paired_get hpr hx
      have hym := List.mem_of_getElem? hy
      refine ⟨rfl, _, rfl, _, rfl, t, q1, y, ks, rfl, SqT.of (sH _ _ ht), SqL.of (sH _ _ hq13), by rw [(hri y hym).len, hkl], by rw [(hri y hym).len]; omega, fun l hl => (r63 y hym l hl).2, fun H5 s5 => ?_⟩
      refine ⟨_, s5 _ _ hDx, small5l ?_, same_mut (Same.trans sH s5) hD, ?_⟩
      · rw [List.length_map, List.length_map, List.length_take]
        omega
      · rw [upd_same, take_snoc hy, List.map_append, List.map_append]
        rfl
    · rintro H4 ⟨s4, hDx⟩
      rw [List.take_of_length_le (by omega)] at hDx
      refine ⟨D, _, rfl, SqL.of hDx, by rw [List.length_map]; omega, fun mn hmn hmin => ?_⟩
      have emn := least_is (by omega) (by omega) hkl hk0 hperm hmn hmin
      subst emn
      have hq14 := s4 _ _ hq13
      refine ⟨_, rfl, true, q1, _, rfl, SqB.l (SqL.of hq14), plain_ints, .inl ⟨ks, rfl, by omega, by omega, hk0, fun H5 s5 => ⟨_, rfl, rfl, _, rfl, iteNS rfl ?_⟩⟩⟩
      have hq15 := s5 _ _ hq14
      refine ⟨_, rfl, q1, _, rfl, .inl ⟨SqL.of hq15, fun tq ntq => ?_⟩⟩
      refine ⟨false, tq, _, rfl, SqB.t (SqT.of upd_same), plain_ints, .inl ⟨ks, rfl, by omega, by omega, hk0, fun H6 s6 => ⟨_, rfl, rfl, _, rfl, iteNS rfl ?_⟩⟩⟩
      have s36 : Same H3 H6 := Same.trans (Same.trans s4 s5) (Same.trans (same_new ntq) s6)
      have P6 := (P2.same s3).same s36
      have hit : ∀ x ∈ xs, Item H6 x := fun x hx => by
        obtain ⟨j, hj, ej⟩ := List.mem_iff_getElem.mp hx
        obtain ⟨y, hy, t, rfl, ht⟩ := paired_get hpr (show xs[j]? = some x by rw [List.getElem?_eq_getElem hj, ej])
        exact .tup (ns := y.map fun (l : Nat) => (l : Int)) (by rw [← lv_iv]; exact s36 _ _ ht)
      refine ⟨_, rfl, _, rfl, p, c, cs, n + 1 + 100, q2, xs, rfl, P6, by omega, SqL.of (s36 _ _ hq2), by omega, hit, fun H7 q3 ys k7 P7 n7 hq3 hperm3 => ?_⟩
      refine ⟨_, rfl, q3, _, rfl, SqL.of hq3, fun q4 n4 => ⟨q4, rfl, ⟨_, SqL.of upd_same⟩, ?_⟩⟩
      have s8 : Same H7 (upd H7 q4 (.lst (cutV ys none (some 8)))) := same_new n4
      have k28 : Keep p H2 (upd H7 q4 (.lst (cutV ys none (some 8)))) := Keep.trans (Keep.of (Same.trans s3 s36)) (Keep.trans k7 (Keep.of s8))
      have P8 := P7.same s8
      have hq48 : (upd H7 q4 (.lst (cutV ys none (some 8)))) q4 = some (.lst (cutV ys none (some 8))) := upd_same
      have hrow : ∀ x ∈ cutV ys none (some 8), ∃ y, y ∈ rs ∧ RefT (upd H7 q4 (.lst (cutV ys none (some 8)))) x (lv y) := fun x hx => by
        have hxs : x ∈ xs := hperm3.mem_iff.mp (List.mem_of_mem_drop (List.mem_of_mem_take hx))
        obtain ⟨j, hj, ej⟩ := List.mem_iff_getElem.mp hxs
        obtain ⟨y, hy, t, rfl, ht⟩ := paired_get hpr (show xs[j]? = some x by rw [List.getElem?_eq_getElem hj, ej])
        refine ⟨y, List.mem_of_getElem? hy, t, rfl, s8 _ _ (k7 _ _ (fun z => ?_) (s36 _ _ ht))⟩
        obtain ⟨i6, l6, hp6, _⟩ := P6.at_
        rw [z] at ht
        rw [s36 _ _ ht] at hp6
        cases hp6
      generalize cutV ys none (some 8) = zs at *
      generalize upd H7 q4 (.lst zs) = H8 at *
      have hq18 := k28 _ _ q1p hq1
      refine for_it (walk_list (xs := zs)) (fun i σ H' => Same H8 H' ∧ ∃ z, σ = [some (.ref p), some (.int ((2 + r : Nat) : Int)), some (.ref q1), some (.ref q2), some (.int (WvM.huff ks)), z, none]) ⟨Same.refl _, none, rfl⟩ ?_ ?_ ?_
      · rintro i σ H' _ ⟨sH, _⟩
        exact SqL.of (sH _ _ hq48)
      · rintro i x σ H' H9 hi ⟨sH, z, rfl⟩ ⟨rfl, hx⟩
        obtain ⟨y, hym, t, rfl, ht⟩ := hrow x (List.mem_of_getElem? hx)
        have hyi := hri y hym
        have hyl := hyi.len
        refine ⟨_, rfl, fun x dx hx hdx ne => made_codeG (b := false) hx hdx ne (SqB.t (SqT.of (sH _ _ ht))) (by omega) (by omega) (r63 y hym) hyi.full fun H10 s10 hcode => ?_⟩
        have s810 := Same.trans sH s10
        refine ⟨_, rfl, x, q1, y, ks, rfl, hcode, SqL.of (s810 _ _ hq18), hk0, by omega, by omega, by omega, fun l hl => (r63 y hym l hl).2, fun _ H11 s11 => ⟨_, rfl, ?_⟩, fun hne => absurd (by omega) hne⟩
        have s811 := Same.trans s810 s11
        refine ⟨_, rfl, _, rfl, t, q1, y, ks, rfl, SqT.of (s811 _ _ ht), SqL.of (s811 _ _ hq18), by omega, by omega, fun l hl => (r63 y hym l hl).2, fun H12 s12 => ⟨_, rfl, rfl, _, rfl, rfl, _, rfl, iteNS (by rw [dec_int]) ?_⟩⟩
        exact ⟨Same.trans s811 s12, _, rfl⟩
      · rintro σ H9 ⟨s9, z, rfl⟩
        refine ⟨_, rfl, q1, _, rfl, SqL.of (s9 _ _ hq18), plain_ints, .inl ⟨ks, rfl, by omega, by omega, hk0, fun H10 x ls s10 hg hcode => ?_⟩⟩
        obtain ⟨a1, wd, dx, Mx, fs, e1, e2, e3, e4, e5, e6⟩ := hcode.ex
        have hgl := hg.len
        have l63 : ∀ l ∈ ls, 1 ≤ l ∧ l ≤ 63 := fun l hl => ⟨hg.lo l hl, by have := hg.hi l hl; omega⟩
        refine ⟨_, rfl, x, C, dx, fs, _, rfl, e1, O.cl, O.a1, e2, _, rfl, a1, q1, ls, ks, rfl, e5, SqL.of (s10 _ _ (s9 _ _ hq18)), by omega, by omega, fun l hl => (l63 l hl).2, fun H11 s11 => ⟨_, rfl, rfl, _, rfl, ?_⟩⟩
        rw [show decide (V.int (WvM.cst ls ks) = V.int (WvM.huff ks)) = true from by rw [dec_int]; exact decide_eq_true hg.cost]
        refine iteT ⟨_, rfl, _, rfl, x, C, dx, fs, _, rfl, s11 _ _ e1, O.cl, O.a1, e2, fun x2 dx2 hx2 hdx2 ne2 => made_codeG (b := false) hx2 hdx2 ne2 (SqB.t (same_tup s11 e5)) (by omega) (by omega) l63 (hg.full (by omega)) fun H12 s12 hcode2 => ?_⟩
        obtain ⟨a2, wd2, dy, My, gs, g1, _⟩ := hcode2.ex
        refine ⟨⟨x, x2, dx, dy, fs, gs, rfl, rfl, s12 _ _ (s11 _ _ e1), g1, ls, (hcode.same s11).same s12, hcode2⟩, fun H13 e13 => ?_⟩
        have s813 : Same H8 H13 := Same.trans (Same.trans (Same.trans (Same.trans s9 s10) s11) s12) e13
        refine k H13 (Keep.trans (Keep.trans (Keep.trans k1 k2) k28) (Keep.of s813)) ((P8.same s813).mono ?_)
        omega
end
end Wv

set_option Elab.async false
set_option linter.all false
set_option maxRecDepth 100000
set_option maxHeartbeats 4000000
set_option pp.maxSteps 1500
namespace Wv
open PySem PySem.Spec PyProof.Rows L2
section
variable {P : Program} {w : World} {K : PySem.W.Frag} {mg : Str → Option Value} {base : Heap} {cT cB cO C : Addr}
/-! ### many signs -/
abbrev NM : List Str := ["_law_pen", "_law_many", "_law_counts", "_law_told", "_law_least_here", "_law_other"]
theorem scMany : FnScope NM ["_law_pen"] (defScope sMany) := ⟨rfl, rfl, rfl, by decide +kernel, rfl, by decide +kernel, by decide +kernel⟩
theorem ok_many {f : Addr} {fd : FuncData} (F : FnP K "_law_are_many" sMany f fd) (T : Bl mg) (O : Co K mg C) (G : Fns P w K mg base C cT cB cO) : FnOk P w K mg base CX0 7 f fd ["_law_pen"] (spAre K) := by
  obtain ⟨_, _, Cd⟩ := G.draw
  obtain ⟨_, _, Cc⟩ := G.counts
  obtain ⟨_, _, Cl1⟩ := G.lcost
  obtain ⟨_, _, Cl2⟩ := G.lleast
  obtain ⟨_, _, Co1⟩ := G.code
  obtain ⟨_, _, C1⟩ := G.leastCost
  obtain ⟨_, _, C2⟩ := G.leastCode
  obtain ⟨_, _, C3⟩ := G.isLeast
  obtain ⟨_, _, C4⟩ := G.cost
  obtain ⟨_, _, _, M⟩ := G.mk1
  refine F.ok scMany (fun vs H Q E h => ?_) (fun cdv A outer s H vs Q E hr h => ?_)
  · obtain ⟨p, c, cs, n, rfl, _⟩ := h
    rfl
  · obtain ⟨p, c, cs, n, rfl, hP, hn, k⟩ := h
    refine ⟨_, PSs.nox (pss_cons (ps_set (i := 1) scMany.nd rfl (Or.inl rfl) (pe_op op_add pe_int (pe_call Cd.ok (hr.mono (by decide)) (by rfl) Cd.g Cd.kp Cd.b .nil pass0 (pa_cons (pv 0) (pa_cons pe_int pa_nil)))))
      (pss_cons (ps_set (i := 2) scMany.nd rfl (Or.inl rfl) (pe_call Cc.ok (hr.mono (by decide)) (by rfl) Cc.g Cc.kp Cc.b .nil pass0 (pa_cons (pv 0) (pa_cons (pv 1) pa_nil))))
      (pss_cons (ps_par (i := 3) (j := 4) (by rfl) scMany.nd rfl rfl (by decide) rfl rfl (pa_cons (pe_call (E := fun _ _ _ => False) C2.ok hr (by rfl) C2.g C2.kp C2.b .nil (passes_call takes0 (fun _ _ _ _ h => h)) (pa_cons (pv 2) pa_nil))
          (pa_cons (pe_call Cl2.ok (hr.mono (by decide)) (by rfl) Cl2.g Cl2.kp Cl2.b .nil pass0 (pa_cons (pv 2) pa_nil)) pa_nil)) (by rfl))
      (pss_cons (ps_if (PW.pt (pw_or (pt_cmpR op_ne (pe_call (E := fun _ _ _ => False) C1.ok (hr.mono (by decide)) (by rfl) C1.g C1.kp C1.b .nil (passes_call takes0 (fun _ _ _ _ h => h)) (pa_cons (pv 2) pa_nil)) (pv 4) (nomark _))
          (pw_or (pt_cmpR op_ne (pe_call C4.ok hr (by rfl) C4.g C4.kp C4.b .nil pass0 (pa_cons (pv 3) (pa_cons (pv 2) pa_nil))) (pv 4) (nomark _))
          (pw_or1 (pt_cmpR op_notBl (pe_call (E := fun _ _ _ => False) C3.ok hr (by rfl) C3.g C3.kp C3.b .nil (passes_call takes0 (fun _ _ _ _ h => h)) (pa_cons (pv 3) (pa_cons (pv 2) pa_nil))) pe_bl (nomark _)))))) (pss_one ps_never) pss_nil)
      (pss_cons (ps_set (i := 5) scMany.nd rfl (Or.inl rfl) (pe_make M.mk1 M.ok (hr.mono (by decide)) (by rfl) O.gC M.b M.dv pass0 (pa_cons (pe_call Co1.ok (hr.mono (by decide)) (by rfl) Co1.g Co1.kp Co1.b .nil pass0 (pa_cons (pv 0) (pa_cons (pv 1) pa_nil))) pa_nil)))
      (pss_one (ps_ret (pe_cmpR op_eq (pe_callB cr_reprB (by rfl) T.repr (by decide +kernel) (pa_cons (pe_call (E := fun _ _ _ => False) C3.ok hr (by rfl) C3.g C3.kp C3.b .nil (passes_call takes0 (fun _ _ _ _ h => h)) (pa_cons (pv 5) (pa_cons (pv 2) pa_nil))) pa_nil))
        (pe_callB cr_reprB (by rfl) T.repr (by decide +kernel) (pa_cons (pe_cmpR op_eq (pe_call Cl1.ok (hr.mono (by decide)) (by rfl) Cl1.g Cl1.kp Cl1.b .nil pass0 (pa_cons (pe_fld (pv 5) rfl) (pa_cons (pv 2) pa_nil))) (pv 4) (nomark _)) pa_nil)) (nomark _))))))))), ?_⟩
    refine ⟨_, rfl, p, c, cs, n, 35, rfl, hP, by omega, by decide, by decide, fun H1 r k1 P1 r0 r1 => ⟨_, _, rfl, rfl, ?_⟩⟩
    obtain ⟨r, rfl⟩ := Int.eq_ofNat_of_zero_le r0
    have hr4 : r < 35 := by omega
    refine ⟨_, rfl, _, rfl, p, c, cs, n + 1, 6 + r, rfl, P1, by omega, by omega, fun H2 q1 ks k2 P2 n2 hq1 hkl hk0 => ?_⟩
    obtain ⟨i1, l1, hp1, _⟩ := id P1.at_
    have q1p : q1 ≠ p := fun z => by rw [z, hp1] at n2; cases n2
    have hkv : (iv ks).length = ks.length := by simp
    refine ⟨_, rfl, q1, _, rfl, SqL.of hq1, plain_ints, .inl ⟨ks, rfl, by omega, by omega, hk0, fun H3 x ls s3 hg hcode => ?_⟩⟩
    have hgl := hg.len
    have l63 : ∀ l ∈ ls, 1 ≤ l ∧ l ≤ 63 := fun l hl => ⟨hg.lo l hl, by have := hg.hi l hl; omega⟩
    have hq13 := s3 _ _ hq1
    refine ⟨_, rfl, q1, ks, rfl, SqL.of hq13, by omega, fun H4 s4 => ⟨_, _, rfl, ?_⟩⟩
    have hq14 := s4 _ _ hq13
    refine ⟨_, rfl, true, q1, _, rfl, SqB.l (SqL.of hq14), plain_ints, .inl ⟨ks, rfl, by omega, by omega, hk0, fun H5 s5 => ⟨_, rfl, rfl, _, rfl, iteNS rfl ?_⟩⟩⟩
    have hq15 := s5 _ _ hq14
    have hc5 := (hcode.same s4).same s5
    refine ⟨_, rfl, _, rfl, true, x, q1, ls, ks, rfl, hc5, SqB.l (SqL.of hq15), hk0, by omega, by omega, by omega, fun l hl => (l63 l hl).2, fun H6 s6 => ⟨_, rfl, rfl, _, rfl, iteNS (by rw [show WvM.cst ls ks = WvM.huff ks from hg.cost]) ?_⟩⟩
    have hq16 := s6 _ _ hq15
    refine ⟨_, rfl, _, rfl, x, q1, ls, ks, rfl, hc5.same s6, SqL.of hq16, hk0, by omega, by omega, by omega, fun l hl => (l63 l hl).2, fun _ H7 s7 => ⟨_, _, rfl, rfl, _, rfl, iteNS (decide_eq_true hg.cost) ?_⟩, fun hne => absurd hgl.symm hne⟩
    have s27 : Same H2 H7 := Same.trans (Same.trans (Same.trans (Same.trans s3 s4) s5) s6) s7
    refine ⟨_, rfl, _, rfl, p, c, cs, n + 1 + 100, 6 + r, rfl, P2.same s27, by omega, by omega, by omega, fun H8 q2 ms k8 P8 n8 hq2 hml m63 hfull => ?_⟩
    have hq18 := k8 _ _ q1p (s7 _ _ hq16)
    refine fun x2 dx hx hdx ne => made_codeG (b := true) hx hdx ne (SqB.l (SqL.of hq2)) (by omega) (by omega) m63 hfull fun H9 s9 hcode2 => ?_
    have hq19 := s9 _ _ hq18
    refine ⟨_, rfl, _, rfl, x2, q1, ms, ks, rfl, hcode2, SqL.of hq19, hk0, by omega, by omega, by omega, fun l hl => (m63 l hl).2, fun _ H10 s10 => ⟨_, rfl, ?_⟩, fun hne => absurd (by omega) hne⟩
    obtain ⟨a1, wd, dx2, Mx, fs, e1, e2, e3, e4, e5, e6⟩ := (hcode2.same s10).ex
    refine ⟨_, rfl, x2, C, dx2, fs, _, rfl, e1, O.cl, O.a1, e2, _, rfl, a1, q1, ms, ks, rfl, e5, SqL.of (s10 _ _ hq19), by omega, by omega, fun l hl => (m63 l hl).2, fun H11 s11 => ⟨_, rfl, rfl, _, rfl, rfl, ?_⟩⟩
    rw [show decide (V.str (if decide (WvM.cst ms ks = WvM.huff ks) = true then ("True" : Str) else "False") = V.str (if decide (V.int (WvM.cst ms ks) = V.int (WvM.huff ks)) = true then ("True" : Str) else "False")) = true from decide_eq_true (by rw [dec_int])]
    have s811 : Same H8 H11 := Same.trans (Same.trans s9 s10) s11
    refine k H11 (Keep.trans (Keep.trans (Keep.trans k1 k2) (Keep.trans (Keep.of s27) k8)) (Keep.of s811)) ((P8.same s811).mono (by omega))
end
end Wv

set_option Elab.async false
set_option linter.all false
set_option maxRecDepth 100000
set_option maxHeartbeats 4000000
set_option pp.maxSteps 1500
namespace Wv
open PySem PySem.Spec PyProof.Rows L2 LamX
/-- which clause takes which error -/
structure Exm (K : PySem.W.Frag) (cT cB cO : Addr) : Prop where
  tt : PySem.W.exmOne K (.ref cT) (.ref cT) = some true
  bt : PySem.W.exmOne K (.ref cB) (.ref cT) = some false
  bb : PySem.W.exmOne K (.ref cB) (.ref cB) = some true
  ot : PySem.W.exmOne K (.ref cO) (.ref cT) = some false
  ob : PySem.W.exmOne K (.ref cO) (.ref cB) = some false
  oo : PySem.W.exmOne K (.ref cO) (.ref cO) = some true
theorem takes_len {X : Cx} {W : WX} {n : Nat} (hn : X.N.length = n) (tk : Takes X W) : Takes X (fun cls d σ H => σ.length = n → W cls d σ H) := fun u s' x => by
  obtain ⟨a, B, sI, pn, σ, H, cls, d, e1, J, nb, up, sky, na, os, ag, w⟩ := x
  exact tk u s' ⟨a, B, sI, pn, σ, H, cls, d, e1, J, nb, up, sky, na, os, ag, w (J.len.trans hn)⟩
/-- what met makes of an error -/
def Told (cT cB cO : Addr) (Q : VK) : XK := fun cls d H' => ∃ dd, d = some dd ∧
  ((cls = .ref cT ∧ ∃ n, H' dd = some (.xd (tooF n)) ∧ ∀ p, H' p = none → Q (.ref p) (upd H' p (.tup [.str "signs", .int n, .int 2000]))) ∨
  (cls = .ref cB ∧ ∃ n, H' dd = some (.xd (tallyF n)) ∧ ∀ p, H' p = none → Q (.ref p) (upd H' p (.tup [.str "count", .int n]))) ∨
  (cls = .ref cO ∧ ∃ n m, H' dd = some (.xd (sizeF n m)) ∧ ∀ p, H' p = none → Q (.ref p) (upd H' p (.tup [.str "size", .int n, .int m]))))
def TTmet (cT cB cO : Addr) : (XK → Hp → VK → Prop) → Hp → VK → Prop := fun tl H Q => tl (Told cT cB cO Q) H (fun _ H' => ([] : List V).length ≤ sizeLine ∧ ∀ p, H' p = none → Q (.ref p) (upd H' p (.tup [])))
theorem scMet : FnScope ["_law_call", "e"] ["_law_call"] (defScope sMet) := ⟨rfl, rfl, rfl, by decide +kernel, rfl, by decide +kernel, by decide +kernel⟩
section
variable {X : Cx} {cT cB cO : Addr}
theorem met_gives {q : Str} {g : Addr} {cdg : Value} (R : Er X.prog X.K X.mg cT cB cO) (M : Exm X.K cT cB cO) : GivesTo X ["_law_call", "e"] "_law_met" (defScope sMet) g cdg (defBody sMet) "_law_call" q (TTmet cT cB cO) := by
  obtain ⟨_, too⟩ := R.too
  obtain ⟨_, tally⟩ := R.tally
  obtain ⟨_, size⟩ := R.size
  intro f c' s H Q tl act hc h
  refine ⟨_, pss_cons (ps_try_all (X := (cxOf C8.CX0 X.prog X.w X.K X.mg X.base ["_law_call", "e"] "_law_met" (defScope sMet) g cdg X.A X.stack s H C8.E0).nox) (i := 1) (n := "e") (l := [(.ref cT, _), (.ref cB, _), (.ref cO, _)])
      (tb := fun W D σ H => ∃ Ech : XK, (∀ cls d σ' H', Ech cls d H' → σ'.length = 2 → W cls d σ' H') ∧ σ[0]? = some (some (.ref f)) ∧ H c' = some (CodeO c' q) ∧ tl Ech H (fun _ H' => D.nx σ H'))
      rfl rfl scMet.nd rfl rfl L2.takes0 (fun W pn xe tk _ => ?_)
      (.cons ⟨rfl, rfl, .inl too.gC⟩ (fun a oe cls d pn hz hf => by exact pss_one (ps_ret (pe_tup (pa_cons (pe_xf too.xf (too.noN _ (by decide)) hz hf (pv 1)) (pa_cons (pe_xf too.xf (too.noN _ (by decide)) hz hf (pv 1)) (pa_cons (pe_xf too.xf (too.noN _ (by decide)) hz hf (pv 1)) pa_nil))))))
      (.cons ⟨rfl, rfl, .inl tally.gC⟩ (fun a oe cls d pn hz hf => by exact pss_one (ps_ret (pe_tup (pa_cons pe_str (pa_cons (pe_xf tally.xf (tally.noN _ (by decide)) hz hf (pv 1)) pa_nil)))))
      (.cons ⟨rfl, rfl, .inl size.gC⟩ (fun a oe cls d pn hz hf => by exact pss_one (ps_ret (pe_tup (pa_cons pe_str (pa_cons (pe_xf size.xf (size.noN _ (by decide)) hz hf (pv 1)) (pa_cons (pe_xf size.xf (size.noN _ (by decide)) hz hf (pv 1)) pa_nil)))))) .nil))))
    (pss_one (ps_ret (pe_tup pa_nil))), ?_⟩
  · refine ⟨fun pins s' σ H' D I h' => ?_⟩
    obtain ⟨Ech, hW, h1, h2, h3⟩ := h'
    exact (pss_one (ps_expr (act (fun cls d σ H => σ.length = 2 → W cls d σ H) pn xe Ech _ _ (takes_len (by rfl) tk) hW))).run pins s' σ H' D I ⟨h1, h2, h3⟩
  · refine ⟨Told cT cB cO Q, fun cls d σ' H' ht hl => ?_, rfl, hc, h⟩
    have set1 : ∀ a : Addr, (σ'.set 1 (some (V.ref a)))[1]? = some (some (V.ref a)) := fun a => List.getElem?_set_self (by omega)
    obtain ⟨dd, rfl, h1 | h1 | h1⟩ := ht
    · obtain ⟨rfl, n, hd, k⟩ := h1
      refine ⟨true, M.tt, fun _ a _ => ?_, fun z => by cases z⟩
      exact ⟨_, set1 a, rfl, rfl, dd, _, _, rfl, hd, rfl, _, set1 a, rfl, rfl, dd, _, _, rfl, hd, rfl, _, set1 a, rfl, rfl, dd, _, _, rfl, hd, rfl, (by show 3 ≤ sizeLine; decide), fun p hp => k p hp⟩
    · obtain ⟨rfl, n, hd, k⟩ := h1
      refine ⟨false, M.bt, (fun z => by cases z), fun _ => ⟨true, M.bb, fun _ a _ => ?_, fun z => by cases z⟩⟩
      exact ⟨_, set1 a, rfl, rfl, dd, _, _, rfl, hd, rfl, (by show 2 ≤ sizeLine; decide), fun p hp => k p hp⟩
    · obtain ⟨rfl, n, m, hd, k⟩ := h1
      refine ⟨false, M.ot, (fun z => by cases z), fun _ => ⟨false, M.ob, (fun z => by cases z), fun _ => ⟨true, M.oo, fun _ a _ => ?_, fun z => by cases z⟩⟩⟩
      exact ⟨_, set1 a, rfl, rfl, dd, _, _, rfl, hd, rfl, _, set1 a, rfl, rfl, dd, _, _, rfl, hd, rfl, (by show 3 ≤ sizeLine; decide), fun p hp => k p hp⟩
end
end Wv

set_option Elab.async false
set_option linter.all false
set_option maxRecDepth 100000
set_option maxHeartbeats 4000000
set_option pp.maxSteps 1500
namespace Wv
open PySem PySem.Spec PyProof.Rows L2 LamX
/-! ### the law -/
abbrev NW : List Str := ["_law_script", "_law_pen", "_law_turn", "_law_counts", "_law_odd"]
theorem scLaw : FnScope NW ["_law_script"] (defScope sLaw) := ⟨rfl, rfl, rfl, by decide +kernel, rfl, by decide +kernel, by decide +kernel⟩
def spLaw (K : PySem.W.Frag) (Pt : Addr) : Sp := fun vs H Q _ => ∃ (a : Addr) (ns : List Int), vs = [.ref a] ∧ SqL K H a (iv ns) ∧ ns.length ≤ 63 ∧ H Pt = some (.tbl #[]) ∧ ∀ H', Q (.bl true) H'
def qLam : Str := (("law" : Str) ++ ".<locals>.") ++ "<lambda>"
section
variable {P : Program} {w : World} {K : PySem.W.Frag} {mg : Str → Option Value} {base : Heap} {cT cB cO C Pt ca : Addr}
structure LawFns (P : Program) (w : World) (K : PySem.W.Frag) (mg : Str → Option Value) (base : Heap) (C cT cB cO : Addr) : Prop extends Fns P w K mg base C cT cB cO where
  penOf : ∃ f fd, Cl P w K mg base CX0 "_law_pen_of" f fd 1 ["_law_script"] (spPenOf K)
  pick : ∃ f fd, Cl P w K mg base CX0 "_law_pick" f fd 2 ["_law_pen", "_law_items"] (spPick K)
  small : ∃ f fd, Cl P w K mg base CX0 "_law_are_small" f fd 7 ["_law_pen"] (spAre K)
  many : ∃ f fd, Cl P w K mg base CX0 "_law_are_many" f fd 7 ["_law_pen"] (spAre K)
  met : ∃ g fd, FnP K "_law_met" sMet g fd ∧ mg "_law_met" = some (.ref g) ∧ L2.Binds K fd ["_law_call"] []
theorem odd_of {H : Hp} {e : Addr} (he : H e = some (.lst [])) {x : V} (hx : x ∈ [V.int (-1), .non, .bl true, .str "1", .ref e]) : Plain H x ∧ cntV x = false := by
  simp only [List.mem_cons, List.not_mem_nil, or_false] at hx
  rcases hx with rfl | rfl | rfl | rfl | rfl
  · exact ⟨.int _, rfl⟩
  · exact ⟨.non, rfl⟩
  · exact ⟨.bl _, rfl⟩
  · exact ⟨.str _, rfl⟩
  · exact ⟨.lst he, rfl⟩
theorem full122 : WvM.Full [1, 2, 2] := by
  have := full_split (ls := [1, 1]) (j := 1) (l := 1) rfl full11
  exact this
theorem ok_law {f : Addr} {fd : FuncData} (F : FnP K "law" sLaw f fd) (T : Bl mg) (R : Er P K mg cT cB cO) (M : Exm K cT cB cO) (O : Co K mg C) (G : LawFns P w K mg base C cT cB cO) (hca : fd.code = .ref ca) (TB : TabB base mg ca Pt) : FnOk P w K mg base CX0 9 f fd ["_law_script"] (spLaw K Pt) := by
  obtain ⟨_, _, C1⟩ := G.penOf
  obtain ⟨_, _, C2⟩ := G.small
  obtain ⟨_, _, C3⟩ := G.many
  obtain ⟨_, _, C4⟩ := G.counts
  obtain ⟨_, _, C5⟩ := G.pick
  obtain ⟨_, _, C6⟩ := G.leastCost
  obtain ⟨_, _, C7⟩ := G.leastCode
  obtain ⟨_, _, C8⟩ := G.isLeast
  obtain ⟨_, _, _, Mk1⟩ := G.mk1
  obtain ⟨g, fdm, FM, gM, bM⟩ := G.met
  obtain ⟨ocm, odm, dVm, kVm, docm, pmm, anm, cdvm, ctm, oslm, rfl, lkm, hcdm, _, _⟩ := FM.ex
  have kpm := FM.kp
  obtain ⟨oc, od, dV, kV, doc, pm, an, cdv, ct, osl, rfl, lk, hcd, _, _⟩ := F.ex
  have hcv : cdv = .ref ca := hca
  refine fn_of lk hcd scLaw (fun vs H Q E h => ?_) fun A outer s H vs Q E hr h => ?_
  · obtain ⟨a, ns, rfl, _⟩ := h
    rfl
  · obtain ⟨a, ns, rfl, ha, h63, hPt, k⟩ := h
    refine ⟨_, PSs.nox (pss_cons (ps_set (i := 1) scLaw.nd rfl (Or.inl rfl) (pe_call C1.ok (hr.mono (by decide)) (by rfl) C1.g C1.kp C1.b .nil pass0 (pa_cons (pv 0) pa_nil)))
      (pss_cons (ps_for PassesOwn.never rfl (pi_range1 (by rfl) T.range (pa_cons pe_int pa_nil)) (pg_name (i := 2) scLaw.nd rfl (Or.inl rfl))
        (pss_one (ps_if (PW.pt (pw_or (pt_not (pt_val (pe_call C2.ok (hr.mono (by decide)) (by rfl) C2.g C2.kp C2.b .nil pass0 (pa_cons (pv 1) pa_nil)))) (pw_or1 (pt_not (pt_val (pe_call C3.ok (hr.mono (by decide)) (by rfl) C3.g C3.kp C3.b .nil pass0 (pa_cons (pv 1) pa_nil))))))) (pss_one ps_never) pss_nil)))
      (pss_cons (ps_set (i := 3) scLaw.nd rfl (Or.inr rfl) (pe_call C4.ok (hr.mono (by decide)) (by rfl) C4.g C4.kp C4.b .nil pass0 (pa_cons (pv 1) (pa_cons pe_int pa_nil))))
      (pss_cons (ps_set (i := 4) scLaw.nd rfl (Or.inr rfl) (pe_call C5.ok (hr.mono (by decide)) (by rfl) C5.g C5.kp C5.b .nil pass0 (pa_cons (pv 1) (pa_cons (pe_lst (pa_cons (pe_un un_neg pe_int) (pa_cons pe_non (pa_cons pe_bl (pa_cons pe_str (pa_cons (pe_lst pa_nil) pa_nil)))))) pa_nil))))
      (pss_cons (ps_if (pt_cmpR (op_neD hr.units) (pe_lamcall (T := [(Pt, qLam)]) (k := 6) (c := ca) (P := Pt) (by rfl) gM kpm lkm hcdm bM scMet rfl (.inl rfl) (met_gives R M) TB hcv (List.mem_singleton.mpr rfl) (fun p hp _ => by rw [List.mem_singleton.mp hp]; rfl) hr (lamS_by (sc := defScope sLaw) (by decide +kernel)) rfl (fun _ _ _ _ _ => rfl)
          (t := fun E => tCall (spLeastCost K cB) [] E (tCons (tOp rCat (tVar 3) (tLst (tCons (tVar 4) tNil))) tNil))
          (fun A outer s H E f c' hr => by exact pe_call C6.ok (hr.mono (by decide)) (by rfl) C6.g C6.kp C6.b .nil (passes_call (takes_of rfl rfl rfl rfl) (fun _ _ _ _ h => h)) (pa_cons (pe_op op_cat (pv 3) (pe_lst (pa_cons (pv 4) pa_nil))) pa_nil)))
          (pe_tup (pa_cons pe_str (pa_cons pe_int pa_nil))) (nomark _)) (pss_one ps_never) pss_nil)
      (pss_cons (ps_if (pt_cmpR (op_neD hr.units) (pe_lamcall (T := [(Pt, qLam)]) (k := 6) (c := ca) (P := Pt) (by rfl) gM kpm lkm hcdm bM scMet rfl (.inl rfl) (met_gives R M) TB hcv (List.mem_singleton.mpr rfl) (fun p hp _ => by rw [List.mem_singleton.mp hp]; rfl) hr (lamS_by (sc := defScope sLaw) (by decide +kernel)) rfl (fun _ _ _ _ _ => rfl)
          (t := fun E => tCall (spLeastCode K C cT) [] E (tCons (tLst (tCons (tVar 4) tNil)) tNil))
          (fun A outer s H E f c' hr => by exact pe_call C7.ok (hr.mono (by decide)) (by rfl) C7.g C7.kp C7.b .nil (passes_call (takes_of rfl rfl rfl rfl) (fun _ _ _ _ h => h)) (pa_cons (pe_lst (pa_cons (pv 4) pa_nil)) pa_nil)))
          (pe_tup (pa_cons pe_str (pa_cons pe_int (pa_cons pe_int pa_nil)))) (nomark _)) (pss_one ps_never) pss_nil)
      (pss_one (ps_ret (pe_cmpR (op_eqD hr.units) (pe_lamcall (T := [(Pt, qLam)]) (k := 6) (c := ca) (P := Pt) (by rfl) gM kpm lkm hcdm bM scMet rfl (.inl rfl) (met_gives R M) TB hcv (List.mem_singleton.mpr rfl) (fun p hp _ => by rw [List.mem_singleton.mp hp]; rfl) hr (lamS_by (sc := defScope sLaw) (by decide +kernel)) rfl (fun _ _ _ _ _ => rfl)
          (t := fun E => tCall (spIsLeast K C cO) [] E (tCons (tMake C (spCodeInit K C) [.non] E0 (tCons (tLst (tCons (tC (.int 1)) (tCons (tC (.int 2)) (tCons (tC (.int 2)) tNil)))) tNil)) (tCons (tVar 3) tNil)))
          (fun A outer s H E f c' hr => by exact pe_call C8.ok hr (by rfl) C8.g C8.kp C8.b .nil (passes_call (takes_of rfl rfl rfl rfl) (fun _ _ _ _ h => h)) (pa_cons (pe_make Mk1.mk1 Mk1.ok (hr.mono (by decide)) (by rfl) O.gC Mk1.b Mk1.dv pass0 (pa_cons (pe_lst (pa_cons pe_int (pa_cons pe_int (pa_cons pe_int pa_nil)))) pa_nil)) (pa_cons (pv 3) pa_nil))))
          (pe_tup (pa_cons pe_str (pa_cons pe_int (pa_cons pe_int pa_nil)))) (nomark _)))))))))), ?_⟩
    refine ⟨_, rfl, a, ns, rfl, ha, h63, fun H1 p c s1 n1 P1 => ?_⟩
    obtain ⟨i1, l1, hp1, _⟩ := id P1.at_
    have hPt1 := s1 _ _ hPt
    have Ptp : Pt ≠ p := fun z => by rw [← z, hPt1] at hp1; cases hp1
    refine ⟨4, rfl, by decide, by decide, ?_⟩
    refine for_range (n := 4) (fun t σ H' => Keep p H1 H' ∧ Pen K p c ns (2000 * t) H' ∧ ∃ z, σ = [some (.ref a), some (.ref p), z, none, none]) ⟨Keep.refl _ _, P1, none, rfl⟩ ?_ ?_
    · rintro t σ H' ht ⟨kk, PP, z, rfl⟩
      refine ⟨_, rfl, p, c, ns, 2000 * t, rfl, PP, by omega, fun H2 k2 P2 => ⟨_, rfl, iteF ?_⟩⟩
      refine ⟨_, rfl, p, c, ns, 2000 * t + 1000, rfl, P2, by omega, fun H3 k3 P3 => ⟨_, rfl, iteF ?_⟩⟩
      exact ⟨Keep.trans kk (Keep.trans k2 k3), P3.mono (by omega), _, rfl⟩
    · rintro σ H' ⟨kk, PP, z, rfl⟩
      refine ⟨_, rfl, p, c, ns, 2000 * 4, 4, rfl, PP, by omega, by decide, fun H2 q ks k2 P2 n2 hq hkl hk0 => ?_⟩
      obtain ⟨i2, l2, hp2, _⟩ := id P2.at_
      obtain ⟨i0, l0, hp0, _⟩ := id PP.at_
      have qp : q ≠ p := fun z => by rw [z, hp0] at n2; cases n2
      refine ⟨_, rfl, _, rfl, (by show 0 ≤ sizeLine; decide), fun e ne => ⟨(by show 5 ≤ sizeLine; decide), fun b nb => ?_⟩⟩
      have se : Same H2 (upd (upd H2 e (.lst [])) b (.lst [.int (-1), .non, .bl true, .str "1", .ref e])) := same_new' (same_new ne) nb
      have he : upd (upd H2 e (.lst [])) b (.lst [.int (-1), .non, .bl true, .str "1", .ref e]) e = some (.lst []) := by rw [upd_ne (ne_of_none upd_same nb)]; exact upd_same
      have bp : b ≠ p := fun z => by rw [z, upd_ne (fun y => by rw [← y, hp2] at ne; cases ne), hp2] at nb; cases nb
      have ep : e ≠ p := fun z => by rw [z, hp2] at ne; cases ne
      refine ⟨p, c, ns, _, b, _, rfl, P2.same se, by omega, SqL.of upd_same, bp, by simp, by simp, fun H3 x k3 P3 hx => ?_⟩
      obtain ⟨hpl, hbad⟩ := odd_of (k3 _ _ ep he) hx
      have hq3 : H3 q = some (.lst (iv ks)) := k3 _ _ qp (se _ _ hq)
      have hPt3 : H3 Pt = some (.tbl #[]) := k3 _ _ Ptp (se _ _ (k2 _ _ Ptp (kk _ _ Ptp hPt1)))
      have T3 : Tabs [(Pt, qLam)] H3 := fun p hp => by
        rw [List.mem_singleton.mp hp]
        exact TabS.nil hPt3
      clear P3 P2 PP hx se he k3
      -- the first error
      refine ⟨T3, fun H4 e4 T4 => ?_⟩
      have hq4 : H4 q = some (.lst (iv ks)) := e4 _ _ hq3 (fun _ z => by cases z)
      have hpl4 : Plain H4 x := by
        cases hpl with
        | int i => exact .int i
        | non => exact .non
        | bl b => exact .bl b
        | str x => exact .str x
        | lst h => exact .lst (e4 _ _ h (fun _ z => by cases z))
      have hkv : (iv ks).length = 4 := by rw [List.length_map]; exact hkl
      refine ⟨_, rfl, _, rfl, (by show 1 ≤ sizeLine; decide), fun l nl => ?_⟩
      have sl : Same H4 (upd H4 l (.lst [x])) := same_new nl
      refine ⟨q, l, _, _, rfl, rfl, sl _ _ hq4, upd_same, small5 (by rw [hkv]; simp), fun r nr => ?_⟩
      have sr : Same H4 (upd (upd H4 l (.lst [x])) r (.lst (iv ks ++ [x]))) := same_new' sl nr
      have hx4 : (iv ks ++ [x])[4]? = some x := by rw [List.getElem?_append_right (by omega), hkv]; rfl
      refine ⟨true, r, _, rfl, SqB.l (SqL.of upd_same), fun y hy => ?_, .inr ⟨by simp; omega, by simp; omega, 4, ⟨⟨x, hx4, hbad⟩, fun j y hj hy => ?_⟩, ?_⟩⟩
      · rcases List.mem_append.mp hy with hy | hy
        · exact plain_ints y hy
        · rw [List.mem_singleton.mp hy]
          exact hpl4.same sr
      · rw [List.getElem?_append_left (by omega)] at hy
        exact cnt_ints hk0 y (List.mem_of_getElem? hy)
      refine fun d H5 s5 hd => ⟨d, rfl, .inr (.inl ⟨rfl, 4, hd, fun u nu => ?_⟩)⟩
      refine ⟨(by show 2 ≤ sizeLine; decide), fun v nv => ?_⟩
      have s6 : Same H4 (upd (upd H5 u (.tup [.str "count", .int 4])) v (.tup [.str "count", .int 4])) := same_new' (same_new' (Same.trans sr s5) nu) nv
      have hu : upd (upd H5 u (.tup [.str "count", .int 4])) v (.tup [.str "count", .int 4]) u = some (.tup [.str "count", .int 4]) := by rw [upd_ne (ne_of_none upd_same nv)]; exact upd_same
      refine ⟨_, _, .tup (SqT.of hu) (.cons (.str _) (.cons (.int _) .nil)), .tup (SqT.of upd_same) (.cons (.str _) (.cons (.int _) .nil)), by decide +kernel, by decide +kernel, _, rfl, ?_⟩
      rw [show (!PyData.eqv (.tuple [.str "count", .int 4]) (.tuple [.str "count", .int 4])) = false by decide +kernel]
      refine iteF ?_
      have T6 := T4.ext s6
      have hq6 := s6 _ _ hq4
      have hpl6 := hpl4.same s6
      generalize upd (upd H5 u (.tup [.str "count", .int 4])) v (.tup [.str "count", .int 4]) = H6 at *
      clear s6 hu nv nu hd s5 sr nr sl nl T4 e4
      -- the second
      refine ⟨T6, fun H7 e7 T7 => ?_⟩
      have hq7 : H7 q = some (.lst (iv ks)) := e7 _ _ hq6 (fun _ z => by cases z)
      have hpl7 : Plain H7 x := by
        cases hpl6 with
        | int i => exact .int i
        | non => exact .non
        | bl b => exact .bl b
        | str x => exact .str x
        | lst h => exact .lst (e7 _ _ h (fun _ z => by cases z))
      refine ⟨_, rfl, (by show 1 ≤ sizeLine; decide), fun l2 nl2 => ?_⟩
      have sl2 : Same H7 (upd H7 l2 (.lst [x])) := same_new nl2
      refine ⟨l2, [x], rfl, SqL.of upd_same, fun y hy => by rw [List.mem_singleton.mp hy]; exact hpl7.same sl2, .inr ⟨by simp, ?_⟩⟩
      refine fun d H8 s8 hd => ⟨d, rfl, .inl ⟨rfl, _, hd, fun u nu => ?_⟩⟩
      refine ⟨(by show 3 ≤ sizeLine; decide), fun v nv => ?_⟩
      have s9 : Same H7 (upd (upd H8 u (.tup [.str "signs", .int 1, .int 2000])) v (.tup [.str "signs", .int 1, .int 2000])) := same_new' (same_new' (Same.trans sl2 s8) nu) nv
      have hu : upd (upd H8 u (.tup [.str "signs", .int 1, .int 2000])) v (.tup [.str "signs", .int 1, .int 2000]) u = some (.tup [.str "signs", .int 1, .int 2000]) := by rw [upd_ne (ne_of_none upd_same nv)]; exact upd_same
      refine ⟨_, _, .tup (SqT.of hu) (.cons (.str _) (.cons (.int _) (.cons (.int _) .nil))), .tup (SqT.of upd_same) (.cons (.str _) (.cons (.int _) (.cons (.int _) .nil))), by decide +kernel, by decide +kernel, _, rfl, ?_⟩
      rw [show (!PyData.eqv (.tuple [.str "signs", .int 1, .int 2000]) (.tuple [.str "signs", .int 1, .int 2000])) = false by decide +kernel]
      refine iteF ?_
      have T9 := T7.ext s9
      have hq9 := s9 _ _ hq7
      generalize upd (upd H8 u (.tup [.str "signs", .int 1, .int 2000])) v (.tup [.str "signs", .int 1, .int 2000]) = H9 at *
      clear s9 hu nv nu hd s8 sl2 nl2 T7 e7
      -- the third
      refine ⟨T9, fun H10 e10 T10 => ?_⟩
      have hq10 : H10 q = some (.lst (iv ks)) := e10 _ _ hq9 (fun _ z => by cases z)
      refine ⟨(by show 3 ≤ sizeLine; decide), fun l3 nl3 => ?_⟩
      have sl3 : Same H10 (upd H10 l3 (.lst [.int 1, .int 2, .int 2])) := same_new nl3
      refine fun x2 dx hx hdx ne => made_codeG (b := true) (ls := [1, 2, 2]) hx hdx ne (SqB.l (SqL.of upd_same)) (by decide) (by decide) (by decide) full122 fun H11 s11 hcode => ?_
      refine ⟨_, rfl, x2, q, [1, 2, 2], ks, rfl, hcode, SqL.of (s11 _ _ (sl3 _ _ hq10)), hk0, by omega, by omega, by decide, by decide, fun hl => ?_, fun _ => ?_⟩
      · rw [hkl] at hl
        exact absurd hl (by decide)
      refine fun d H12 s12 hd => ⟨d, rfl, .inr (.inr ⟨rfl, _, _, hd, fun u nu => ?_⟩)⟩
      refine ⟨(by show 3 ≤ sizeLine; decide), fun v nv => ?_⟩
      rw [hkl] at *
      have hu : upd (upd H12 u (.tup [.str "size", .int 4, .int 3])) v (.tup [.str "size", .int 4, .int 3]) u = some (.tup [.str "size", .int 4, .int 3]) := by rw [upd_ne (ne_of_none upd_same nv)]; exact upd_same
      refine ⟨_, _, .tup (SqT.of hu) (.cons (.str _) (.cons (.int _) (.cons (.int _) .nil))), .tup (SqT.of upd_same) (.cons (.str _) (.cons (.int _) (.cons (.int _) .nil))), by decide +kernel, by decide +kernel, ?_⟩
      rw [show PyData.eqv (.tuple [.str "size", .int 4, .int 3]) (.tuple [.str "size", .int 4, .int 3]) = true by decide +kernel]
      exact k _
end
end Wv

set_option Elab.async false
set_option linter.all false
set_option maxRecDepth 100000
set_option maxHeartbeats 4000000
set_option pp.maxSteps 1500
/-! the head's facts: as HeadHook4's, with the interpreter's own statics, and with __init__s that capture __class__ -/
namespace WvK
open PySem PySem.Spec PyProof.Rows L2 He
abbrev FnQ : Type := Option (Str × Str × Arguments × FuncBody × Scope × Addr × List Str × Addr)
/-- an own error: its class, qualified __init__, fields, text -/
structure ErD where
  x : Str
  q : Str
  ns : List Str
  st : Stmt
def fnQ (K : PySem.W.Frag) (x : Str) : FnQ := match K.lookup (fAd K (x, some "__init__")) with
  | some ⟨_, _, .func fd, _⟩ => some (fd.name, fd.qualname, fd.params, fd.body, fd.scope, fd.globals, fd.closure.map (·.1), fd.builtins)
  | _ => none
def ErD.val (d : ErD) : FnQ := some ("__init__", d.q, defArgs d.st, .stmts (defBody d.st), defScope d.st, mainGlobals, ["__class__"], builtinsNs)
/-- the class object -/
def clsB (K : PySem.W.Frag) (C : Addr) : Bool := match K.lookup C with
  | some ⟨.type t, _, .cls cd, sl⟩ => (match cd.mro, sl.toList with
    | .ref C' :: bm, [_, _, _, _, some (.builtin n), _] => decide (t = "type") && (decide (C' = C) && (decide (n = "ValueError.__new__") && (!cd.hasDel && (cd.hasDict && PySem.HandSPX.refsVE bm))))
    | _, _ => false)
  | _ => false
theorem clsB_ok {K : PySem.W.Frag} {C : Addr} (h : clsB K C = true) : ∃ nm q N bs bm sn sub ab col dd k0 k1 k2 k3 k5, K.lookup C = some (excClassObj nm q C N bs bm true sn sub ab col dd k0 k1 k2 k3 k5 "ValueError.__new__") ∧ PySem.HandSPX.refsVE bm = true := by
  unfold clsB at h
  split at h
  · rename_i t dd cd sl ho
    split at h
    · rename_i C' bm k0 k1 k2 k3 n k5 hm hs
      simp only [Bool.and_eq_true, decide_eq_true_eq, Bool.not_eq_true'] at h
      obtain ⟨rfl, rfl, rfl, hdel, hdict, hbm⟩ := h
      obtain ⟨nm, bs, mro, ns, qn, hd, sn, sub, ab, col, del⟩ := cd
      dsimp only at hm hdel hdict
      subst hm hdel hdict
      have hsl : sl = #[k0, k1, k2, k3, some (.builtin "ValueError.__new__"), k5] := by
        obtain ⟨l⟩ := sl
        simp only at hs
        rw [hs]
      subst hsl
      exact ⟨nm, qn, ns, bs, bm, sn, sub, ab, col, dd, k0, k1, k2, k3, k5, ho, hbm⟩
    · cases h
  · cases h
/-- the __init__ that captures the class -/
def iniB (K : PySem.W.Frag) (f : Addr) (q : Str) (C : Addr) (file : Str) : Bool := match K.lookup f with
  | some ⟨_, _, .func fd, _⟩ => (match fd.defaults with
      | .none => true
      | _ => false) && ((match fd.closure with
      | [(_, cc)] => (match K.lookup cc with
        | some ⟨_, _, .cell (some (.ref C')), _⟩ => decide (C' = C)
        | _ => false)
      | _ => false) && (PySem.W.codeIn K fd.code q && (match fd.code with
      | .ref cda => (match K.lookup cda with
        | some ⟨_, _, .fields vs, _⟩ => (match (vs[2]? : Option Value) with
          | some (Value.str fl _) => (file : Str) == fl
          | _ => false)
        | _ => false)
      | _ => false)))
  | _ => false
theorem one_clo : ∀ {c : List (Str × Addr)}, c.map (·.1) = [("__class__" : Str)] → ∃ cc, c = [(("__class__" : Str), cc)]
  | [(y, cc)], e => by
    have e2 : y = ("__class__" : Str) := (List.cons.inj e).1
    subst e2
    exact ⟨cc, rfl⟩
  | [], e => by cases e
  | _ :: _ :: _, e => by cases (List.cons.inj e).2
theorem ini_ok {K : PySem.W.Frag} {C : Addr} {d : ErD} {file : Str} (e : fnQ K d.x = d.val) (h : iniB K (fAd K (d.x, some "__init__")) d.q C file = true) :
    ∃ (oc : Value) (od : Option Addr) (kV doc pm : Value) (an : Option Addr) (cda : Addr) (ct : Value) (osl : Array (Option Value)) (cc : Addr) (cl : Value) (cld : Option Addr) (csl : Array (Option Value))
      (ccl : Value) (cdd : Option Addr) (vs : Array Value) (ccs : Array (Option Value)) (fl : Str) (tf : Tok),
    K.lookup (fAd K (d.x, some "__init__")) = some ⟨oc, od, .func (PySem.W.ksFn "__init__" d.q (defArgs d.st) (defBody d.st) (defScope d.st) .none kV doc pm an (.ref cda) ct cc), osl⟩ ∧ PySem.W.codeIn K (.ref cda) d.q = true ∧
    K.lookup cc = some ⟨cl, cld, .cell (some (.ref C)), csl⟩ ∧ K.lookup cda = some ⟨ccl, cdd, .fields vs, ccs⟩ ∧ vs[2]? = some (.str fl tf) ∧ ((file : Str) == fl) = true := by
  unfold iniB at h
  unfold fnQ at e
  cases q : K.lookup (fAd K (d.x, some "__init__")) with
  | none =>
    rw [q] at h
    cases h
  | some o =>
    obtain ⟨oc, od, dt, osl⟩ := o
    rw [q] at h e
    cases dt with
    | func fd =>
      obtain ⟨n1, n2, n3, n4, n5, n6, n7, n8, n9, n10, n11, n12, n13, n14, n15⟩ := fd
      have e2 : (some (n1, n2, n3, n4, n5, n6, n7.map (·.1), n15) : FnQ) = some (("__init__" : Str), d.q, defArgs d.st, .stmts (defBody d.st), defScope d.st, mainGlobals, [("__class__" : Str)], builtinsNs) := e
      simp only [Option.some.injEq, Prod.mk.injEq] at e2
      obtain ⟨h1, h2, h3, h4, h5, h6, h7, h8⟩ := e2
      subst h1 h2 h3 h4 h5 h6 h8
      obtain ⟨cc, rfl⟩ := one_clo h7
      clear e
      have b1 := ba h
      clear h
      obtain ⟨a1, b1⟩ := b1
      have b2 := ba b1
      clear b1
      obtain ⟨a2, b2⟩ := b2
      have b3 := ba b2
      clear b2
      obtain ⟨a3, a4⟩ := b3
      dsimp only at a1 a2 a3 a4
      split at a1
      · split at a2
        · rename_i cl cld C' csl hcc
          have hC := of_decide_eq_true a2
          subst hC
          split at a4
          · rename_i cda
            split at a4
            · rename_i ccl cdd vs ccs hcd
              split at a4
              · rename_i fl tf hv
                exact ⟨oc, od, n9, n10, n11, n12, cda, n14, osl, cc, cl, cld, csl, ccl, cdd, vs, ccs, fl, tf, rfl, a3, hcc, hcd, hv, a4⟩
              · cases a4
            · cases a4
          · cases a4
        · cases a2
      · cases a1
    | _ => cases h
/-- all that a raise of the class wants -/
def errB (K : PySem.W.Frag) (file : Str) (d : ErD) : Bool :=
  (Fa.glo d.x).ok K && (clsB K (ga K d.x) && (eqO (PySem.W.findIn K (.ref (ga K d.x)) "__setattr__") (some (some (.builtin "object.__setattr__"))) && (xfB K (ga K d.x) && ((d.ns.all fun n => eqO (PySem.W.findIn K (.ref (ga K d.x)) n) (some none)) &&
  (eqO (PySem.W.findIn K (.ref (ga K d.x)) "__init__") (some (some (.ref (ma K (ga K d.x) "__init__")))) && (decide (PySem.W.typeIn K (.ref (ma K (ga K d.x) "__init__")) = some (.type "function")) && (PySem.W.keepIn K (.ref (ga K d.x)) &&
  (decide (PySem.W.subIn K (.ref (ga K d.x)) (.type "ValueError") = some true) && (decide (PySem.W.typeIn K (.ref (ga K d.x)) = some (.type "type")) && (eqO (PySem.W.ks_superIn K (ga K d.x) (ga K d.x) "__init__") (some (some (.builtin "ValueError.__init__"))) &&
  (eqO (PySem.W.nsIn K cStatics "thirdparty.any") (some none) && (decide (PySem.W.mroIn K (ga K d.x) (.ref (ga K d.x)) = some true) && iniB K (ma K (ga K d.x) "__init__") d.q (ga K d.x) file))))))))))))
theorem err_ok {prog : Program} {K : PySem.W.Frag} {h : Heap} {mg : Str → Option Value} {d : ErD} (X : K.In h) (G : h.Ns mainGlobals mg) (e : fnQ K d.x = d.val) (c : errB K prog.main.file d = true) (sg : mg "super" = none) (top : (prog.main.scope.names.lookup ("super" : Str)).isSome = false) :
    WvE.ErrC prog K mg d.x d.q d.ns d.st (ga K d.x) (ma K (ga K d.x) "__init__") := by
  obtain ⟨c1, c⟩ := ba c
  obtain ⟨c2, c⟩ := ba c
  obtain ⟨c3, c⟩ := ba c
  obtain ⟨c4, c⟩ := ba c
  obtain ⟨c5, c⟩ := ba c
  obtain ⟨c6, c⟩ := ba c
  obtain ⟨c7, c⟩ := ba c
  obtain ⟨c8, c⟩ := ba c
  obtain ⟨c9, c⟩ := ba c
  obtain ⟨c10, c⟩ := ba c
  obtain ⟨c11, c⟩ := ba c
  obtain ⟨c12, c⟩ := ba c
  obtain ⟨c13, c14⟩ := ba c
  exact { gC := glo_ok X G c1, cls := clsB_ok c2, sa := eqO_ok c3, xf := xfB_ok c4, noN := fun n hn => eqO_ok (List.all_eq_true.mp c5 n hn), iC := eqO_ok c6, tC := of_decide_eq_true c7, kC := c8, vE := of_decide_eq_true c9, tyC := of_decide_eq_true c10,
          sup := eqO_ok c11, op := eqO_ok c12, self := of_decide_eq_true c13, sg := sg, top := top, fn := ini_ok (d := d) e c14 }
/-! ### the Hook -/
structure SaysY (fa : List Fa) (fn : List DefD) (es : List ErD) (tf : List Defn) (ex : PySem.W.Frag → Bool) (h : Heap) (K : PySem.W.Frag) : Prop where
  t : SaysD fa fn K
  more : ex K = true
  err : es.map (fun d => fnQ K d.x) = es.map ErD.val
  hd : ∀ p ∈ tf, PySem.W.codeHdIn K (cT K p).1 (cT K p).2 = true
  out : ∀ p ∈ tf, K.lookup (cT K p).2 = none
  empty : ∀ p ∈ tf, h.get? (cT K p).2 = some { cls := .none, data := .fields #[] }
abbrev AlY : Type := AlD × List FnQ × Bool
def frY (g : Addr → Option Obj) (n : Nat) : PySem.W.Frag := frT g (cStatics :: asD g n)
def obsY (n : Nat) (fa : List Fa) (fn : List DefD) (es : List ErD) (tf : List Defn) (ex : PySem.W.Frag → Bool) (g : Addr → Option Obj) : AlY := (obsD fa fn (frY g n), es.map (fun d => fnQ (frY g n) d.x), ex (frY g n) && tabsB g tf (frY g n))
def valY (fn : List DefD) (es : List ErD) : AlY := (valD fn, es.map ErD.val, true)
theorem saysY_of {n : Nat} {fa : List Fa} {fn : List DefD} {es : List ErD} {tf : List Defn} {ex : PySem.W.Frag → Bool} {h : Heap} (e : obsY n fa fn es tf ex h.get? = valY fn es) : SaysY fa fn es tf ex h (frY h.get? n) := by
  have e1 : obsD fa fn (frY h.get? n) = valD fn := congrArg (fun z : AlY => z.1) e
  have e3 : es.map (fun d => fnQ (frY h.get? n) d.x) = es.map ErD.val := congrArg (fun z : AlY => z.2.1) e
  have e2 : (ex (frY h.get? n) && tabsB h.get? tf (frY h.get? n)) = true := congrArg (fun z : AlY => z.2.2) e
  obtain ⟨h1, h2⟩ := ba e2
  have key : ∀ p ∈ tf, PySem.W.codeHdIn (frY h.get? n) (cT (frY h.get? n) p).1 (cT (frY h.get? n) p).2 = true ∧ ∃ o, h.get? (cT (frY h.get? n) p).2 = some o ∧ emptyTab o = true := fun p hp => by
    obtain ⟨h3, h4⟩ := ba (List.all_eq_true.mp h2 p hp)
    refine ⟨h3, ?_⟩
    cases q : h.get? (cT (frY h.get? n) p).2 with
    | none =>
      rw [q] at h4
      cases h4
    | some o =>
      rw [q] at h4
      exact ⟨o, rfl, h4⟩
  refine ⟨e1, h1, e3, fun p hp => (key p hp).1, fun p hp => ?_, fun p hp => ?_⟩
  · obtain ⟨_, o, q, z⟩ := key p hp
    exact frT_none q z
  · obtain ⟨_, o, q, z⟩ := key p hp
    rw [q, emptyTab_eq z]
def hookY (n : Nat) (fa : List Fa) (fn : List DefD) (es : List ErD) (tf : List Defn) (ex : PySem.W.Frag → Bool) : PySem.W.Hook where
  α := AlY
  obs := fun s => obsY n fa fn es tf ex s.heap.get?
  val := fun _ => valY fn es
  says := fun _ h => ∃ K : PySem.W.Frag, K.In h ∧ SaysY fa fn es tf ex h K
  of := fun _ _ e => ⟨_, frT_in, saysY_of e⟩
  keeps := fun _ _ _ ⟨K, hK, c⟩ k => ⟨K, PySem.W.Frag.In.keeps hK k, ⟨c.t, c.more, c.err, c.hd, c.out, fun p hp => k _ _ (c.empty p hp)⟩⟩
theorem obsY_eq {n : Nat} {fa : List Fa} {fn : List DefD} {es : List ErD} {tf : List Defn} {ex : PySem.W.Frag → Bool} {g : Addr → Option Obj} {s : Shared} (h : ∀ a, g a = s.heap.get? a) : obsY n fa fn es tf ex g = (hookY n fa fn es tf ex).obs s := by
  have e : g = s.heap.get? := funext h
  rw [e] <;> rfl
theorem SaysY.er {fa : List Fa} {fn : List DefD} {es : List ErD} {tf : List Defn} {ex : PySem.W.Frag → Bool} {h : Heap} {K : PySem.W.Frag} (c : SaysY fa fn es tf ex h K) (i : Nat) {d : ErD} (hd : es[i]? = some d := by rfl) : fnQ K d.x = d.val := by
  have e2 : (es.map fun d => fnQ K d.x)[i]? = (es.map ErD.val)[i]? := by rw [c.err]
  rw [List.getElem?_map, List.getElem?_map, hd] at e2
  exact Option.some.inj e2
end WvK

set_option Elab.async false
set_option linter.all false
set_option maxRecDepth 100000
set_option maxHeartbeats 0
set_option pp.maxSteps 1500
namespace Wv
open PySem PySem.Spec PyProof.Rows L2
/-! ### the head: lists, run -/
abbrev rowV : PySem.W.OpenRow := PySem.W.OpenLaw.row PySem.Challenge.rw_wordvault_k34_whole_least_costs
def topD (x : Str) (st : Stmt) : He.DefD := ⟨(x, none), x, x, defArgs st, defBody st, defScope st, [], []⟩
def iniD : He.DefD := ⟨("Code", some "__init__"), "__init__", "Code.__init__", defArgs sCodeInit, defBody sCodeInit, defScope sCodeInit, [.non], []⟩
def eqD : He.DefD := ⟨("Code", some "__eq__"), "__eq__", "Code.__eq__", defArgs sCodeEq, defBody sCodeEq, defScope sCodeEq, [], []⟩
def fnL : List He.DefD := [topD "is_count" sIsCount, topD "two_power" sTwoPower, topD "check_signs" sCheckSigns, topD "check_counts" sCheckCounts, topD "bits_of" sBitsOf, topD "canonical" sCanonical, topD "check_pair" sCheckPair, topD "cost_by" sCostBy, topD "cost" sCost, topD "joined_pairs" sJoined, topD "least_of" sLeastOf, topD "least_cost" sLeastCost, topD "lengths_for" sLengthsFor, topD "least_code" sLeastCode, topD "is_least_for" sIsLeastFor, topD "is_least" sIsLeast, topD "_law_pen_of" sPenOf, topD "_law_draw" sDraw, topD "_law_pick" sPick, topD "_law_shuffled" sShuffled, topD "_law_some_code" sSomeCode, topD "_law_cost" sLCost, topD "_law_some_counts" sSomeCounts, topD "_law_least" sLLeast, topD "_law_all_lengths" sAllLengths, topD "_law_met" sMet, topD "_law_are_small" sSmall, topD "_law_are_many" sMany, topD "law" sLaw, iniD, eqD]
def faL : List He.Fa := [.glo "is_count", .glo "two_power", .glo "check_signs", .glo "check_counts", .glo "bits_of", .glo "canonical", .glo "check_pair", .glo "cost_by", .glo "cost", .glo "joined_pairs", .glo "least_of", .glo "least_cost", .glo "lengths_for", .glo "least_code", .glo "is_least_for", .glo "is_least", .glo "_law_pen_of", .glo "_law_draw", .glo "_law_pick", .glo "_law_shuffled", .glo "_law_some_code", .glo "_law_cost", .glo "_law_some_counts", .glo "_law_least", .glo "_law_all_lengths", .glo "_law_met", .glo "_law_are_small", .glo "_law_are_many", .glo "law", .glo "Code", .free "len", .free "range", .free "enumerate", .free "sorted", .free "sum", .free "min", .free "max", .free "zip", .free "list", .free "tuple", .free "int", .free "bool", .free "abs", .free "repr", .free "isinstance", .free "super", .int "MOST_SIGNS" 2000, .int "MOST_LENGTH" 1999, .cls "Code", .mkr "Code", .meth "Code" "__eq__", .noat "Code" "lengths", .noat "Code" "words", .noat "Code" "size", .noat "Code" "longest", .exm "TooMany" "TooMany" true, .exm "BadTally" "TooMany" false, .exm "BadTally" "BadTally" true, .exm "OtherSize" "TooMany" false, .exm "OtherSize" "BadTally" false, .exm "OtherSize" "OtherSize" true]
def esL : List WvK.ErD := [⟨"TooMany", "TooMany.__init__", ["what", "many", "most"], sTooI⟩, ⟨"BadTally", "BadTally.__init__", ["index"], sTallyI⟩, ⟨"OtherSize", "OtherSize.__init__", ["many", "wanted"], sSizeI⟩]
def coiB (K : PySem.W.Frag) : Bool := He.eqO (PySem.W.findIn K (.ref (He.ga K "Code")) "__class__") (some (some (.builtin "object.__class__"))) && (He.eqO (PySem.W.specialIn K (.builtin "object.__class__") "__get__") (some (some (.builtin "getset_descriptor.__get__"))) && (decide (PySem.W.takesIn K (.builtin "object.__class__") = some true) && decide (PySem.W.mroIn K (He.ga K "Code") (.type "object") = some true)))
def exL (K : PySem.W.Frag) : Bool := coiB K && esL.all fun d => WvK.errB K PySem.Challenge.pw_wordvault_k34_whole_least_costs.main.file d
def tfL : List He.Defn := [("law", none)]
abbrev hkV : PySem.W.Hook := WvK.hookY 5 faL fnL esL tfL exL
def obV (s : PySem.W.SharedT) : WvK.AlY := WvK.obsY 5 faL fnL esL tfL exL (HandSHeadRun.getT s)
theorem obV_eq (s : PySem.W.SharedT) : obV s = hkV.obs s.abs := WvK.obsY_eq (HandSHeadRun.getT_eq s)
def looseV1 : List PySem.Str := ["VaultError", "TooMany", "BadBits", "BadTally", "BadLength", "NotFull", "Begins", "OtherSize", "MOST_SIGNS", "MOST_LENGTH", "is_count", "two_power", "check_signs", "check_counts", "bits_of", "canonical", "is_bits", "checked_words", "check_beginnings", "Code", "check_pair"]
def looseV2 : List PySem.Str := ["cost_by", "cost", "joined_pairs", "least_of", "least_cost", "lengths_for", "least_code", "is_least_for", "is_least", "_law_pen_of", "_law_draw", "_law_pick", "_law_shuffled", "_law_some_code", "_law_cost", "_law_some_counts", "_law_least", "_law_all_lengths", "_law_met", "_law_are_small", "_law_are_many"]
def looseV : List PySem.Str := looseV1 ++ looseV2
theorem runV (w : World) : HandSHeadRun.RunEq rowV (PySem.W.view rowV.prog [45]) hkV obV 6000 looseV w := by
  intro os
  kernel_rfl
end Wv

set_option Elab.async false
set_option linter.all false
set_option maxRecDepth 100000
set_option maxHeartbeats 4000000
set_option pp.maxSteps 1500
namespace Wv
open PySem PySem.Spec PyProof.Rows L2
/-! ### the facts joined -/
abbrev progV : Program := PySem.Challenge.pw_wordvault_k34_whole_least_costs
theorem coi_ok {K : PySem.W.Frag} (h : coiB K = true) : CoI K (He.ga K "Code") := by
  obtain ⟨c1, h⟩ := He.ba h
  obtain ⟨c2, h⟩ := He.ba h
  obtain ⟨c3, c4⟩ := He.ba h
  exact ⟨He.eqO_ok c1, He.eqO_ok c2, of_decide_eq_true c3, of_decide_eq_true c4⟩
theorem file_top : (progV.main.scope.names.lookup ("super" : Str)).isSome = false := by decide +kernel
section
variable {w : World} {K : PySem.W.Frag} {h h0 : Heap} {mg : Str → Option Value}
abbrev SaysV (h : Heap) (K : PySem.W.Frag) : Prop := WvK.SaysY faL fnL esL tfL exL h K
abbrev aT (K : PySem.W.Frag) : Addr := He.ga K "TooMany"
abbrev aB (K : PySem.W.Frag) : Addr := He.ga K "BadTally"
abbrev aO (K : PySem.W.Frag) : Addr := He.ga K "OtherSize"
abbrev aC (K : PySem.W.Frag) : Addr := He.ga K "Code"
theorem bl_of (s : SaysV h0 K) (X : K.In h) (G : h.Ns mainGlobals mg) : Bl mg :=
  ⟨He.free_ok X G (s.t.fact 30 (f := .free "len") rfl), He.free_ok X G (s.t.fact 31 (f := .free "range") rfl), He.free_ok X G (s.t.fact 32 (f := .free "enumerate") rfl), He.free_ok X G (s.t.fact 33 (f := .free "sorted") rfl), He.free_ok X G (s.t.fact 34 (f := .free "sum") rfl), He.free_ok X G (s.t.fact 35 (f := .free "min") rfl), He.free_ok X G (s.t.fact 36 (f := .free "max") rfl), He.free_ok X G (s.t.fact 37 (f := .free "zip") rfl), He.free_ok X G (s.t.fact 38 (f := .free "list") rfl), He.free_ok X G (s.t.fact 39 (f := .free "tuple") rfl), He.free_ok X G (s.t.fact 40 (f := .free "int") rfl), He.free_ok X G (s.t.fact 41 (f := .free "bool") rfl), He.free_ok X G (s.t.fact 42 (f := .free "abs") rfl), He.free_ok X G (s.t.fact 43 (f := .free "repr") rfl), He.free_ok X G (s.t.fact 44 (f := .free "isinstance") rfl), He.free_ok X G (s.t.fact 45 (f := .free "super") rfl)⟩
theorem er_of (s : SaysV h0 K) (X : K.In h) (G : h.Ns mainGlobals mg) : Er progV K mg (aT K) (aB K) (aO K) := by
  have c := List.all_eq_true.mp (He.ba s.more).2
  have e (d : WvK.ErD) (i : Nat) (hd : esL[i]? = some d) := WvK.err_ok (prog := progV) X G (s.er i hd) (c d (List.mem_of_getElem? hd)) (bl_of s X G).super file_top
  exact ⟨He.int_ok X G (s.t.fact 46 (f := .int "MOST_SIGNS" 2000) rfl), He.int_ok X G (s.t.fact 47 (f := .int "MOST_LENGTH" 1999) rfl), ⟨_, e _ 0 rfl⟩, ⟨_, e _ 1 rfl⟩, ⟨_, e _ 2 rfl⟩⟩
theorem exm_of (s : SaysV h0 K) : Exm K (aT K) (aB K) (aO K) :=
  ⟨He.exm_ok (s.t.fact 55 (f := .exm "TooMany" "TooMany" true) rfl), He.exm_ok (s.t.fact 56 (f := .exm "BadTally" "TooMany" false) rfl), He.exm_ok (s.t.fact 57 (f := .exm "BadTally" "BadTally" true) rfl), He.exm_ok (s.t.fact 58 (f := .exm "OtherSize" "TooMany" false) rfl), He.exm_ok (s.t.fact 59 (f := .exm "OtherSize" "BadTally" false) rfl), He.exm_ok (s.t.fact 60 (f := .exm "OtherSize" "OtherSize" true) rfl)⟩
theorem co_of (s : SaysV h0 K) (X : K.In h) (G : h.Ns mainGlobals mg) : Co K mg (aC K) :=
  ⟨He.glo_ok X G (s.t.fact 29 (f := .glo "Code") rfl), He.cls_ok (s.t.fact 48 (f := .cls "Code") rfl), He.noat_ok (s.t.fact 51 (f := .noat "Code" "lengths") rfl), He.noat_ok (s.t.fact 52 (f := .noat "Code" "words") rfl), He.noat_ok (s.t.fact 53 (f := .noat "Code" "size") rfl), He.noat_ok (s.t.fact 54 (f := .noat "Code" "longest") rfl)⟩
theorem fn_is_count (s : SaysV h0 K) : ∃ fd, FnP K "is_count" sIsCount (He.ga K "is_count") fd ∧ Binds K fd ["value"] [] := by
  obtain ⟨fd, F⟩ := s.t.def_ 0 (d := topD "is_count" sIsCount) rfl
  have F2 : FnP K "is_count" sIsCount (He.ga K "is_count") fd := F
  exact ⟨fd, F2, F2.bindsN fun _ _ _ _ _ _ us hl => match us, hl with | [_], _ => rfl⟩
theorem fn_two_power (s : SaysV h0 K) : ∃ fd, FnP K "two_power" sTwoPower (He.ga K "two_power") fd ∧ Binds K fd ["many"] [] := by
  obtain ⟨fd, F⟩ := s.t.def_ 1 (d := topD "two_power" sTwoPower) rfl
  have F2 : FnP K "two_power" sTwoPower (He.ga K "two_power") fd := F
  exact ⟨fd, F2, F2.bindsN fun _ _ _ _ _ _ us hl => match us, hl with | [_], _ => rfl⟩
theorem fn_check_signs (s : SaysV h0 K) : ∃ fd, FnP K "check_signs" sCheckSigns (He.ga K "check_signs") fd ∧ Binds K fd ["many"] [] := by
  obtain ⟨fd, F⟩ := s.t.def_ 2 (d := topD "check_signs" sCheckSigns) rfl
  have F2 : FnP K "check_signs" sCheckSigns (He.ga K "check_signs") fd := F
  exact ⟨fd, F2, F2.bindsN fun _ _ _ _ _ _ us hl => match us, hl with | [_], _ => rfl⟩
theorem fn_check_counts (s : SaysV h0 K) : ∃ fd, FnP K "check_counts" sCheckCounts (He.ga K "check_counts") fd ∧ Binds K fd ["counts"] [] := by
  obtain ⟨fd, F⟩ := s.t.def_ 3 (d := topD "check_counts" sCheckCounts) rfl
  have F2 : FnP K "check_counts" sCheckCounts (He.ga K "check_counts") fd := F
  exact ⟨fd, F2, F2.bindsN fun _ _ _ _ _ _ us hl => match us, hl with | [_], _ => rfl⟩
theorem fn_bits_of (s : SaysV h0 K) : ∃ fd, FnP K "bits_of" sBitsOf (He.ga K "bits_of") fd ∧ Binds K fd ["number", "size"] [] := by
  obtain ⟨fd, F⟩ := s.t.def_ 4 (d := topD "bits_of" sBitsOf) rfl
  have F2 : FnP K "bits_of" sBitsOf (He.ga K "bits_of") fd := F
  exact ⟨fd, F2, F2.bindsN fun _ _ _ _ _ _ us hl => match us, hl with | [_, _], _ => rfl⟩
theorem fn_canonical (s : SaysV h0 K) : ∃ fd, FnP K "canonical" sCanonical (He.ga K "canonical") fd ∧ Binds K fd ["lengths"] [] := by
  obtain ⟨fd, F⟩ := s.t.def_ 5 (d := topD "canonical" sCanonical) rfl
  have F2 : FnP K "canonical" sCanonical (He.ga K "canonical") fd := F
  exact ⟨fd, F2, F2.bindsN fun _ _ _ _ _ _ us hl => match us, hl with | [_], _ => rfl⟩
theorem fn_check_pair (s : SaysV h0 K) : ∃ fd, FnP K "check_pair" sCheckPair (He.ga K "check_pair") fd ∧ Binds K fd ["code", "counts"] [] := by
  obtain ⟨fd, F⟩ := s.t.def_ 6 (d := topD "check_pair" sCheckPair) rfl
  have F2 : FnP K "check_pair" sCheckPair (He.ga K "check_pair") fd := F
  exact ⟨fd, F2, F2.bindsN fun _ _ _ _ _ _ us hl => match us, hl with | [_, _], _ => rfl⟩
theorem fn_cost_by (s : SaysV h0 K) : ∃ fd, FnP K "cost_by" sCostBy (He.ga K "cost_by") fd ∧ Binds K fd ["code", "counts"] [] := by
  obtain ⟨fd, F⟩ := s.t.def_ 7 (d := topD "cost_by" sCostBy) rfl
  have F2 : FnP K "cost_by" sCostBy (He.ga K "cost_by") fd := F
  exact ⟨fd, F2, F2.bindsN fun _ _ _ _ _ _ us hl => match us, hl with | [_, _], _ => rfl⟩
theorem fn_cost (s : SaysV h0 K) : ∃ fd, FnP K "cost" sCost (He.ga K "cost") fd ∧ Binds K fd ["code", "counts"] [] := by
  obtain ⟨fd, F⟩ := s.t.def_ 8 (d := topD "cost" sCost) rfl
  have F2 : FnP K "cost" sCost (He.ga K "cost") fd := F
  exact ⟨fd, F2, F2.bindsN fun _ _ _ _ _ _ us hl => match us, hl with | [_, _], _ => rfl⟩
theorem fn_joined_pairs (s : SaysV h0 K) : ∃ fd, FnP K "joined_pairs" sJoined (He.ga K "joined_pairs") fd ∧ Binds K fd ["counts"] [] := by
  obtain ⟨fd, F⟩ := s.t.def_ 9 (d := topD "joined_pairs" sJoined) rfl
  have F2 : FnP K "joined_pairs" sJoined (He.ga K "joined_pairs") fd := F
  exact ⟨fd, F2, F2.bindsN fun _ _ _ _ _ _ us hl => match us, hl with | [_], _ => rfl⟩
theorem fn_least_of (s : SaysV h0 K) : ∃ fd, FnP K "least_of" sLeastOf (He.ga K "least_of") fd ∧ Binds K fd ["counts"] [] := by
  obtain ⟨fd, F⟩ := s.t.def_ 10 (d := topD "least_of" sLeastOf) rfl
  have F2 : FnP K "least_of" sLeastOf (He.ga K "least_of") fd := F
  exact ⟨fd, F2, F2.bindsN fun _ _ _ _ _ _ us hl => match us, hl with | [_], _ => rfl⟩
theorem fn_least_cost (s : SaysV h0 K) : ∃ fd, FnP K "least_cost" sLeastCost (He.ga K "least_cost") fd ∧ Binds K fd ["counts"] [] := by
  obtain ⟨fd, F⟩ := s.t.def_ 11 (d := topD "least_cost" sLeastCost) rfl
  have F2 : FnP K "least_cost" sLeastCost (He.ga K "least_cost") fd := F
  exact ⟨fd, F2, F2.bindsN fun _ _ _ _ _ _ us hl => match us, hl with | [_], _ => rfl⟩
theorem fn_lengths_for (s : SaysV h0 K) : ∃ fd, FnP K "lengths_for" sLengthsFor (He.ga K "lengths_for") fd ∧ Binds K fd ["counts"] [] := by
  obtain ⟨fd, F⟩ := s.t.def_ 12 (d := topD "lengths_for" sLengthsFor) rfl
  have F2 : FnP K "lengths_for" sLengthsFor (He.ga K "lengths_for") fd := F
  exact ⟨fd, F2, F2.bindsN fun _ _ _ _ _ _ us hl => match us, hl with | [_], _ => rfl⟩
theorem fn_least_code (s : SaysV h0 K) : ∃ fd, FnP K "least_code" sLeastCode (He.ga K "least_code") fd ∧ Binds K fd ["counts"] [] := by
  obtain ⟨fd, F⟩ := s.t.def_ 13 (d := topD "least_code" sLeastCode) rfl
  have F2 : FnP K "least_code" sLeastCode (He.ga K "least_code") fd := F
  exact ⟨fd, F2, F2.bindsN fun _ _ _ _ _ _ us hl => match us, hl with | [_], _ => rfl⟩
theorem fn_is_least_for (s : SaysV h0 K) : ∃ fd, FnP K "is_least_for" sIsLeastFor (He.ga K "is_least_for") fd ∧ Binds K fd ["code", "counts"] [] := by
  obtain ⟨fd, F⟩ := s.t.def_ 14 (d := topD "is_least_for" sIsLeastFor) rfl
  have F2 : FnP K "is_least_for" sIsLeastFor (He.ga K "is_least_for") fd := F
  exact ⟨fd, F2, F2.bindsN fun _ _ _ _ _ _ us hl => match us, hl with | [_, _], _ => rfl⟩
theorem fn_is_least (s : SaysV h0 K) : ∃ fd, FnP K "is_least" sIsLeast (He.ga K "is_least") fd ∧ Binds K fd ["code", "counts"] [] := by
  obtain ⟨fd, F⟩ := s.t.def_ 15 (d := topD "is_least" sIsLeast) rfl
  have F2 : FnP K "is_least" sIsLeast (He.ga K "is_least") fd := F
  exact ⟨fd, F2, F2.bindsN fun _ _ _ _ _ _ us hl => match us, hl with | [_, _], _ => rfl⟩
theorem fn__law_pen_of (s : SaysV h0 K) : ∃ fd, FnP K "_law_pen_of" sPenOf (He.ga K "_law_pen_of") fd ∧ Binds K fd ["_law_script"] [] := by
  obtain ⟨fd, F⟩ := s.t.def_ 16 (d := topD "_law_pen_of" sPenOf) rfl
  have F2 : FnP K "_law_pen_of" sPenOf (He.ga K "_law_pen_of") fd := F
  exact ⟨fd, F2, F2.bindsN fun _ _ _ _ _ _ us hl => match us, hl with | [_], _ => rfl⟩
theorem fn__law_draw (s : SaysV h0 K) : ∃ fd, FnP K "_law_draw" sDraw (He.ga K "_law_draw") fd ∧ Binds K fd ["_law_pen", "_law_many"] [] := by
  obtain ⟨fd, F⟩ := s.t.def_ 17 (d := topD "_law_draw" sDraw) rfl
  have F2 : FnP K "_law_draw" sDraw (He.ga K "_law_draw") fd := F
  exact ⟨fd, F2, F2.bindsN fun _ _ _ _ _ _ us hl => match us, hl with | [_, _], _ => rfl⟩
theorem fn__law_pick (s : SaysV h0 K) : ∃ fd, FnP K "_law_pick" sPick (He.ga K "_law_pick") fd ∧ Binds K fd ["_law_pen", "_law_items"] [] := by
  obtain ⟨fd, F⟩ := s.t.def_ 18 (d := topD "_law_pick" sPick) rfl
  have F2 : FnP K "_law_pick" sPick (He.ga K "_law_pick") fd := F
  exact ⟨fd, F2, F2.bindsN fun _ _ _ _ _ _ us hl => match us, hl with | [_, _], _ => rfl⟩
theorem fn__law_shuffled (s : SaysV h0 K) : ∃ fd, FnP K "_law_shuffled" sShuffled (He.ga K "_law_shuffled") fd ∧ Binds K fd ["_law_pen", "_law_items"] [] := by
  obtain ⟨fd, F⟩ := s.t.def_ 19 (d := topD "_law_shuffled" sShuffled) rfl
  have F2 : FnP K "_law_shuffled" sShuffled (He.ga K "_law_shuffled") fd := F
  exact ⟨fd, F2, F2.bindsN fun _ _ _ _ _ _ us hl => match us, hl with | [_, _], _ => rfl⟩
theorem fn__law_some_code (s : SaysV h0 K) : ∃ fd, FnP K "_law_some_code" sSomeCode (He.ga K "_law_some_code") fd ∧ Binds K fd ["_law_pen", "_law_many"] [] := by
  obtain ⟨fd, F⟩ := s.t.def_ 20 (d := topD "_law_some_code" sSomeCode) rfl
  have F2 : FnP K "_law_some_code" sSomeCode (He.ga K "_law_some_code") fd := F
  exact ⟨fd, F2, F2.bindsN fun _ _ _ _ _ _ us hl => match us, hl with | [_, _], _ => rfl⟩
theorem fn__law_cost (s : SaysV h0 K) : ∃ fd, FnP K "_law_cost" sLCost (He.ga K "_law_cost") fd ∧ Binds K fd ["_law_lengths", "_law_counts"] [] := by
  obtain ⟨fd, F⟩ := s.t.def_ 21 (d := topD "_law_cost" sLCost) rfl
  have F2 : FnP K "_law_cost" sLCost (He.ga K "_law_cost") fd := F
  exact ⟨fd, F2, F2.bindsN fun _ _ _ _ _ _ us hl => match us, hl with | [_, _], _ => rfl⟩
theorem fn__law_some_counts (s : SaysV h0 K) : ∃ fd, FnP K "_law_some_counts" sSomeCounts (He.ga K "_law_some_counts") fd ∧ Binds K fd ["_law_pen", "_law_many"] [] := by
  obtain ⟨fd, F⟩ := s.t.def_ 22 (d := topD "_law_some_counts" sSomeCounts) rfl
  have F2 : FnP K "_law_some_counts" sSomeCounts (He.ga K "_law_some_counts") fd := F
  exact ⟨fd, F2, F2.bindsN fun _ _ _ _ _ _ us hl => match us, hl with | [_, _], _ => rfl⟩
theorem fn__law_least (s : SaysV h0 K) : ∃ fd, FnP K "_law_least" sLLeast (He.ga K "_law_least") fd ∧ Binds K fd ["_law_counts"] [] := by
  obtain ⟨fd, F⟩ := s.t.def_ 23 (d := topD "_law_least" sLLeast) rfl
  have F2 : FnP K "_law_least" sLLeast (He.ga K "_law_least") fd := F
  exact ⟨fd, F2, F2.bindsN fun _ _ _ _ _ _ us hl => match us, hl with | [_], _ => rfl⟩
theorem fn__law_all_lengths (s : SaysV h0 K) : ∃ fd, FnP K "_law_all_lengths" sAllLengths (He.ga K "_law_all_lengths") fd ∧ Binds K fd ["_law_many"] [] := by
  obtain ⟨fd, F⟩ := s.t.def_ 24 (d := topD "_law_all_lengths" sAllLengths) rfl
  have F2 : FnP K "_law_all_lengths" sAllLengths (He.ga K "_law_all_lengths") fd := F
  exact ⟨fd, F2, F2.bindsN fun _ _ _ _ _ _ us hl => match us, hl with | [_], _ => rfl⟩
theorem fn__law_met (s : SaysV h0 K) : ∃ fd, FnP K "_law_met" sMet (He.ga K "_law_met") fd ∧ Binds K fd ["_law_call"] [] := by
  obtain ⟨fd, F⟩ := s.t.def_ 25 (d := topD "_law_met" sMet) rfl
  have F2 : FnP K "_law_met" sMet (He.ga K "_law_met") fd := F
  exact ⟨fd, F2, F2.bindsN fun _ _ _ _ _ _ us hl => match us, hl with | [_], _ => rfl⟩
theorem fn__law_are_small (s : SaysV h0 K) : ∃ fd, FnP K "_law_are_small" sSmall (He.ga K "_law_are_small") fd ∧ Binds K fd ["_law_pen"] [] := by
  obtain ⟨fd, F⟩ := s.t.def_ 26 (d := topD "_law_are_small" sSmall) rfl
  have F2 : FnP K "_law_are_small" sSmall (He.ga K "_law_are_small") fd := F
  exact ⟨fd, F2, F2.bindsN fun _ _ _ _ _ _ us hl => match us, hl with | [_], _ => rfl⟩
theorem fn__law_are_many (s : SaysV h0 K) : ∃ fd, FnP K "_law_are_many" sMany (He.ga K "_law_are_many") fd ∧ Binds K fd ["_law_pen"] [] := by
  obtain ⟨fd, F⟩ := s.t.def_ 27 (d := topD "_law_are_many" sMany) rfl
  have F2 : FnP K "_law_are_many" sMany (He.ga K "_law_are_many") fd := F
  exact ⟨fd, F2, F2.bindsN fun _ _ _ _ _ _ us hl => match us, hl with | [_], _ => rfl⟩
theorem fn_law (s : SaysV h0 K) : ∃ fd, FnP K "law" sLaw (He.ga K "law") fd ∧ Binds K fd ["_law_script"] [] := by
  obtain ⟨fd, F⟩ := s.t.def_ 28 (d := topD "law" sLaw) rfl
  have F2 : FnP K "law" sLaw (He.ga K "law") fd := F
  exact ⟨fd, F2, F2.bindsN fun _ _ _ _ _ _ us hl => match us, hl with | [_], _ => rfl⟩
theorem fn_init (s : SaysV h0 K) : ∃ fd ds, FnI K (He.ma K (aC K) "__init__") fd ∧ Vals [.non] ds ∧ Binds K fd ["self", "lengths", "words"] ds := by
  obtain ⟨fd, F⟩ := s.t.def_ 29 (d := iniD) rfl
  have F2 : FnI K (He.ma K (aC K) "__init__") fd := F
  obtain ⟨ds, v, b⟩ := F2.binds1 (ps := ["self", "lengths", "words"]) 2 0 (by simp) rfl fun T kV doc pm an cdv ct us its h1 h2 => match us, its, h1, h2 with
    | [_, _], [_], _, _ => ⟨_, rfl, rfl⟩
  exact ⟨fd, ds, F2, v, b⟩
theorem fn_eq (s : SaysV h0 K) : ∃ fd, FnE K (He.ma K (aC K) "__eq__") fd ∧ Binds K fd ["self", "other"] [] := by
  obtain ⟨fd, F⟩ := s.t.def_ 30 (d := eqD) rfl
  have F2 : FnE K (He.ma K (aC K) "__eq__") fd := F
  exact ⟨fd, F2, F2.bindsN fun _ _ _ _ _ _ us hl => match us, hl with | [_, _], _ => rfl⟩
theorem lawFns_of (s : SaysV h0 K) {base : Heap} (X : K.In h) (G : h.Ns mainGlobals mg) : LawFns progV w K mg base (aC K) (aT K) (aB K) (aO K) := by
  have T := bl_of s X G
  have R := er_of s X G
  have O := co_of s X G
  obtain ⟨fd_is_count, F, b⟩ := fn_is_count s
  have C_is_count : Cl progV w K mg base CX0 "is_count" (He.ga K "is_count") fd_is_count 1 ["value"] spIsCount := ⟨He.glo_ok X G (s.t.fact 0 (f := .glo "is_count") rfl), F.kp, b, ok_isCount F T⟩
  clear F b
  obtain ⟨fd_two_power, F, b⟩ := fn_two_power s
  have C_two_power : Cl progV w K mg base CX0 "two_power" (He.ga K "two_power") fd_two_power 1 ["many"] spTwoPower := ⟨He.glo_ok X G (s.t.fact 1 (f := .glo "two_power") rfl), F.kp, b, ok_twoPower F⟩
  clear F b
  obtain ⟨fd_check_signs, F, b⟩ := fn_check_signs s
  have C_check_signs : Cl progV w K mg base (L2.CX progV w) "check_signs" (He.ga K "check_signs") fd_check_signs 3 ["many"] (spCheckSigns (aT K)) := ⟨He.glo_ok X G (s.t.fact 2 (f := .glo "check_signs") rfl), F.kp, b, ok_checkSigns F R⟩
  clear F b
  obtain ⟨fd_check_counts, F, b⟩ := fn_check_counts s
  have C_check_counts : Cl progV w K mg base (L2.CX progV w) "check_counts" (He.ga K "check_counts") fd_check_counts 4 ["counts"] (spCheckCounts K (aT K) (aB K)) := ⟨He.glo_ok X G (s.t.fact 3 (f := .glo "check_counts") rfl), F.kp, b, ok_checkCounts F T R C_check_signs C_is_count⟩
  clear F b
  obtain ⟨fd_bits_of, F, b⟩ := fn_bits_of s
  have C_bits_of : Cl progV w K mg base CX0 "bits_of" (He.ga K "bits_of") fd_bits_of 1 ["number", "size"] spBitsOf := ⟨He.glo_ok X G (s.t.fact 4 (f := .glo "bits_of") rfl), F.kp, b, ok_bitsOf F T⟩
  clear F b
  obtain ⟨fd_canonical, F, b⟩ := fn_canonical s
  have C_canonical : Cl progV w K mg base CX0 "canonical" (He.ga K "canonical") fd_canonical 2 ["lengths"] (spCanonical K) := ⟨He.glo_ok X G (s.t.fact 5 (f := .glo "canonical") rfl), F.kp, b, ok_canonical F T C_two_power C_bits_of⟩
  clear F b
  obtain ⟨fd_check_pair, F, b⟩ := fn_check_pair s
  have C_check_pair : Cl progV w K mg base (L2.CX progV w) "check_pair" (He.ga K "check_pair") fd_check_pair 5 ["code", "counts"] (spCheckPair K (aC K) (aO K)) := ⟨He.glo_ok X G (s.t.fact 6 (f := .glo "check_pair") rfl), F.kp, b, ok_checkPair F T R O C_check_counts⟩
  clear F b
  obtain ⟨fd_cost_by, F, b⟩ := fn_cost_by s
  have C_cost_by : Cl progV w K mg base CX0 "cost_by" (He.ga K "cost_by") fd_cost_by 1 ["code", "counts"] (spCostBy K (aC K)) := ⟨He.glo_ok X G (s.t.fact 7 (f := .glo "cost_by") rfl), F.kp, b, ok_costBy F T O⟩
  clear F b
  obtain ⟨fd_cost, F, b⟩ := fn_cost s
  have C_cost : Cl progV w K mg base CX0 "cost" (He.ga K "cost") fd_cost 6 ["code", "counts"] (spCost K (aC K)) := ⟨He.glo_ok X G (s.t.fact 8 (f := .glo "cost") rfl), F.kp, b, ok_cost F C_check_pair C_cost_by⟩
  clear F b
  obtain ⟨fd_joined_pairs, F, b⟩ := fn_joined_pairs s
  have C_joined_pairs : Cl progV w K mg base CX0 "joined_pairs" (He.ga K "joined_pairs") fd_joined_pairs 1 ["counts"] (spJoined K) := ⟨He.glo_ok X G (s.t.fact 9 (f := .glo "joined_pairs") rfl), F.kp, b, ok_joined F T⟩
  clear F b
  obtain ⟨fd_least_of, F, b⟩ := fn_least_of s
  have C_least_of : Cl progV w K mg base CX0 "least_of" (He.ga K "least_of") fd_least_of 2 ["counts"] (spLeastOf K) := ⟨He.glo_ok X G (s.t.fact 10 (f := .glo "least_of") rfl), F.kp, b, ok_leastOf F T C_joined_pairs⟩
  clear F b
  obtain ⟨fd_least_cost, F, b⟩ := fn_least_cost s
  have C_least_cost : Cl progV w K mg base (L2.CX progV w) "least_cost" (He.ga K "least_cost") fd_least_cost 5 ["counts"] (spLeastCost K (aB K)) := ⟨He.glo_ok X G (s.t.fact 11 (f := .glo "least_cost") rfl), F.kp, b, ok_leastCost F C_check_counts C_least_of⟩
  clear F b
  obtain ⟨fd_lengths_for, F, b⟩ := fn_lengths_for s
  have C_lengths_for : Cl progV w K mg base CX0 "lengths_for" (He.ga K "lengths_for") fd_lengths_for 2 ["counts"] (spLengthsFor K) := ⟨He.glo_ok X G (s.t.fact 12 (f := .glo "lengths_for") rfl), F.kp, b, ok_lengthsFor F T C_joined_pairs⟩
  clear F b
  obtain ⟨fdI, ds, FI, vI, bI⟩ := fn_init s
  have M : MkC progV w K mg base (aC K) (He.ma K (aC K) "__init__") fdI ds := ⟨He.mkr_ok (s.t.fact 49 (f := .mkr "Code") rfl), vI, bI, ok_codeInit FI T R O C_check_signs C_is_count C_two_power C_canonical⟩
  obtain ⟨fdE, FE, bE⟩ := fn_eq s
  have me := He.meth_ok (s.t.fact 50 (f := .meth "Code" "__eq__") rfl)
  have Q : EqC progV w K mg base (aC K) (He.ma K (aC K) "__eq__") fdE := ⟨ok_codeEq FE T O (coi_ok (He.ba s.more).1), me.1, me.2, bE⟩
  obtain ⟨fd_least_code, F, b⟩ := fn_least_code s
  have C_least_code : Cl progV w K mg base (L2.CX progV w) "least_code" (He.ga K "least_code") fd_least_code 6 ["counts"] (spLeastCode K (aC K) (aT K)) := ⟨He.glo_ok X G (s.t.fact 13 (f := .glo "least_code") rfl), F.kp, b, ok_leastCode F O M C_check_counts C_lengths_for⟩
  clear F b
  obtain ⟨fd_is_least_for, F, b⟩ := fn_is_least_for s
  have C_is_least_for : Cl progV w K mg base CX0 "is_least_for" (He.ga K "is_least_for") fd_is_least_for 3 ["code", "counts"] (spIsLeastFor K (aC K)) := ⟨He.glo_ok X G (s.t.fact 14 (f := .glo "is_least_for") rfl), F.kp, b, ok_isLeastFor F C_cost_by C_least_of⟩
  clear F b
  obtain ⟨fd_is_least, F, b⟩ := fn_is_least s
  have C_is_least : Cl progV w K mg base (L2.CX progV w) "is_least" (He.ga K "is_least") fd_is_least 6 ["code", "counts"] (spIsLeast K (aC K) (aO K)) := ⟨He.glo_ok X G (s.t.fact 15 (f := .glo "is_least") rfl), F.kp, b, ok_isLeast F C_check_pair C_is_least_for⟩
  clear F b
  obtain ⟨fd__law_pen_of, F, b⟩ := fn__law_pen_of s
  have C__law_pen_of : Cl progV w K mg base CX0 "_law_pen_of" (He.ga K "_law_pen_of") fd__law_pen_of 1 ["_law_script"] (spPenOf K) := ⟨He.glo_ok X G (s.t.fact 16 (f := .glo "_law_pen_of") rfl), F.kp, b, ok_penOf F T⟩
  clear F b
  obtain ⟨fd__law_draw, F, b⟩ := fn__law_draw s
  have C__law_draw : Cl progV w K mg base CX0 "_law_draw" (He.ga K "_law_draw") fd__law_draw 1 ["_law_pen", "_law_many"] (spDraw K) := ⟨He.glo_ok X G (s.t.fact 17 (f := .glo "_law_draw") rfl), F.kp, b, ok_draw F T⟩
  clear F b
  obtain ⟨fd__law_pick, F, b⟩ := fn__law_pick s
  have C__law_pick : Cl progV w K mg base CX0 "_law_pick" (He.ga K "_law_pick") fd__law_pick 2 ["_law_pen", "_law_items"] (spPick K) := ⟨He.glo_ok X G (s.t.fact 18 (f := .glo "_law_pick") rfl), F.kp, b, ok_pick F T C__law_draw⟩
  clear F b
  obtain ⟨fd__law_shuffled, F, b⟩ := fn__law_shuffled s
  have C__law_shuffled : Cl progV w K mg base CX0 "_law_shuffled" (He.ga K "_law_shuffled") fd__law_shuffled 2 ["_law_pen", "_law_items"] (spShuffled K) := ⟨He.glo_ok X G (s.t.fact 19 (f := .glo "_law_shuffled") rfl), F.kp, b, ok_shuffled F T C__law_draw⟩
  clear F b
  obtain ⟨fd__law_some_code, F, b⟩ := fn__law_some_code s
  have C__law_some_code : Cl progV w K mg base CX0 "_law_some_code" (He.ga K "_law_some_code") fd__law_some_code 3 ["_law_pen", "_law_many"] (spSomeCode K) := ⟨He.glo_ok X G (s.t.fact 20 (f := .glo "_law_some_code") rfl), F.kp, b, ok_someCode F T C__law_draw C__law_shuffled⟩
  clear F b
  obtain ⟨fd__law_cost, F, b⟩ := fn__law_cost s
  have C__law_cost : Cl progV w K mg base CX0 "_law_cost" (He.ga K "_law_cost") fd__law_cost 1 ["_law_lengths", "_law_counts"] (spLCost K) := ⟨He.glo_ok X G (s.t.fact 21 (f := .glo "_law_cost") rfl), F.kp, b, ok_lCost F T⟩
  clear F b
  obtain ⟨fd__law_some_counts, F, b⟩ := fn__law_some_counts s
  have C__law_some_counts : Cl progV w K mg base CX0 "_law_some_counts" (He.ga K "_law_some_counts") fd__law_some_counts 3 ["_law_pen", "_law_many"] (spSomeCounts K) := ⟨He.glo_ok X G (s.t.fact 22 (f := .glo "_law_some_counts") rfl), F.kp, b, ok_someCounts F T C__law_draw C__law_pick⟩
  clear F b
  obtain ⟨fd__law_least, F, b⟩ := fn__law_least s
  have C__law_least : Cl progV w K mg base CX0 "_law_least" (He.ga K "_law_least") fd__law_least 1 ["_law_counts"] (spLLeast K) := ⟨He.glo_ok X G (s.t.fact 23 (f := .glo "_law_least") rfl), F.kp, b, ok_lLeast F T⟩
  clear F b
  obtain ⟨fd__law_all_lengths, F, b⟩ := fn__law_all_lengths s
  have C__law_all_lengths : Cl progV w K mg base CX0 "_law_all_lengths" (He.ga K "_law_all_lengths") fd__law_all_lengths 1 ["_law_many"] (spAllLengths K) := ⟨He.glo_ok X G (s.t.fact 24 (f := .glo "_law_all_lengths") rfl), F.kp, b, ok_allLengths F T⟩
  clear F b
  have N : Fns progV w K mg base (aC K) (aT K) (aB K) (aO K) := ⟨⟨_, _, C__law_draw⟩, ⟨_, _, C__law_some_counts⟩, ⟨_, _, C__law_all_lengths⟩, ⟨_, _, C__law_cost⟩, ⟨_, _, C__law_least⟩, ⟨_, _, C__law_shuffled⟩, ⟨_, _, C__law_some_code⟩, ⟨_, _, C_least_cost⟩, ⟨_, _, C_least_code⟩, ⟨_, _, C_is_least⟩, ⟨_, _, C_cost⟩, ⟨_, _, _, M⟩, ⟨_, _, Q⟩⟩
  obtain ⟨fd__law_are_small, F, b⟩ := fn__law_are_small s
  have C__law_are_small : Cl progV w K mg base CX0 "_law_are_small" (He.ga K "_law_are_small") fd__law_are_small 7 ["_law_pen"] (spAre K) := ⟨He.glo_ok X G (s.t.fact 26 (f := .glo "_law_are_small") rfl), F.kp, b, ok_small F T O N⟩
  clear F b
  obtain ⟨fd__law_are_many, F, b⟩ := fn__law_are_many s
  have C__law_are_many : Cl progV w K mg base CX0 "_law_are_many" (He.ga K "_law_are_many") fd__law_are_many 7 ["_law_pen"] (spAre K) := ⟨He.glo_ok X G (s.t.fact 27 (f := .glo "_law_are_many") rfl), F.kp, b, ok_many F T O N⟩
  clear F b
  obtain ⟨fdm, Fm, bm⟩ := fn__law_met s
  exact { toFns := N, penOf := ⟨_, _, C__law_pen_of⟩, pick := ⟨_, _, C__law_pick⟩, small := ⟨_, _, C__law_are_small⟩, many := ⟨_, _, C__law_are_many⟩, met := ⟨_, _, Fm, He.glo_ok X G (s.t.fact 25 (f := .glo "_law_met") rfl), bm⟩ }
theorem law_at {fa : Addr} (KX : K.In h) (G : h.Ns mainGlobals mg) (hfa : mg ("law" : Str) = some (.ref fa)) (c : SaysV h K) : LamX.LawAtS PySem.Challenge.rw_wordvault_k34_whole_least_costs w K CX0 9 63 "_law_script" mg fa h := by
  obtain ⟨fd, F, _⟩ := fn_law c
  have s := c
  have e := hfa.symm.trans (He.glo_ok KX G (s.t.fact 28 (f := .glo "law") rfl))
  cases e
  have b := FunD.bindsA (ps := ["_law_script"]) F fun _ _ _ _ _ _ us hl => match us, hl with | [_], _ => rfl
  obtain ⟨oc, od, dV, kV, doc, pm, an, cdv, ct, osl, rfl, lk, hcd, _, _⟩ := F.ex
  obtain ⟨ca, rfl⟩ := He.codeIn_ref hcd
  have ec : He.codeOf K ("law", none) = ca := He.codeOf_eq lk rfl
  refine ⟨_, [He.cT K ("law", none)], spLaw K (He.cT K ("law", none)).2, ?_, ?_, ?_, fun s v => b s [v] rfl, ?_, ?_⟩
  · intro p hp
    rw [List.mem_singleton.mp hp]
    exact c.empty _ (List.mem_singleton.mpr rfl)
  · intro p hp
    rw [List.mem_singleton.mp hp]
    exact c.out _ (List.mem_singleton.mpr rfl)
  · intro p hp
    rw [List.mem_singleton.mp hp]
    exact PySem.W.codeHd_of_K KX (c.hd _ (List.mem_singleton.mpr rfl))
  · intro H a ns hl _ hT hS
    exact ⟨a, ns, rfl, hS, hl, hT _ (List.mem_singleton.mpr rfl), fun _ => rfl⟩
  · intro base Xb Gb TB
    have TB1 := TB _ (List.mem_singleton.mpr rfl)
    exact ok_law F (bl_of s KX G) (er_of s KX G) (exm_of s) (co_of s KX G) (lawFns_of s KX G) (ca := ca) rfl (by rw [← ec]; exact TB1)
end
end Wv
open PySem PySem.W PySem.Calls PyProof.Rows
theorem PySem.Challenge.cw_wordvault_k34_whole_least_costs_holds : PySem.Challenge.rw_wordvault_k34_whole_least_costs.Holds := by
  w_on; o_law
  refine HandSHeadRun.head_any (r := Wv.rowV) (q := view Wv.rowV.prog [45]) (H := Wv.hkV) (ob := Wv.obV) (M := 6000) (loose := Wv.looseV) (d := HandSHeadRun.topDef Wv.rowV.prog 45) (kwd := []) Wv.obV_eq
    (by kernel_rfl) (fun s => by kernel_rfl) Wv.runV (by kernel_rfl) (by kernel_rfl) (by kernel_rfl) (by rfl) (by first | assumption | decide +kernel) (by decide +kernel) ⟨rfl, rfl, rfl, rfl, rfl, by decide +kernel⟩ ?hw ?hc
  case hw => w_witness2
  case hc =>
    refine LamX.walk_ofTsE (l := PySem.Challenge.rw_wordvault_k34_whole_least_costs) (n := 63) (k := 9) (x := "_law_script") (CX := fun _ => L2.CX0) rfl (by decide) (by kernel_rfl) ⟨rfl, by decide, by decide⟩ ?F (fun _ _ _ _ _ z => z)
    intro w mg fa h Y G hmg0
    obtain ⟨K, KX, c⟩ := Y
    have hmg : mg ("law" : PySem.Str) = some (.ref fa) := by
      have e : (HandSHeadRun.topDef Wv.rowV.prog 45).name = ("law" : PySem.Str) := by kernel_rfl
      rw [← e]
      exact hmg0
    exact ⟨K, KX, Wv.law_at KX G hmg c⟩
