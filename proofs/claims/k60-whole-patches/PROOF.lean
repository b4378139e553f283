import PyProof.Rows.All
import PyProof.P3Statements
import Wide.All
import OpenK.AllK
import Wide.FinOn
import HandS.ForMost
import HandS.ForExc
import HandS.IsInst
import HandS.TupAny
import HandS.Deep
import PySem.Challenge.RW_keptwhole_k60_whole_patches_where_they_f
import HandS.ExcInit
import KE.KExcSuper
import HandS.Walk
import HandS.Zip
import KE.GoesMore
import KE.GoesEnum
import HandS.Style
import HandS.WordsExc
import HandS.Comp
import PyProof.ReprRoads
import PyProof.ReprBulk
import HandS.TryMany
import HandS.ExcIs
import KE.KExcIs
import HandS.ExcField
import HandS.Lambda
import HandS.Defaults
import HandS.TupMul
import HandS.EndTab
import HandS.EndOwn
import KE.KNestM
set_option Elab.async false
set_option linter.all false
set_option pp.maxSteps 200
set_option maxRecDepth 100000
set_option maxHeartbeats 4000000
/-! K60Math: where stretches fit, by trying all and by looking from both ends; no program in sight. -/
namespace K60
open PySem

abbrev Dl := List PyData

/-- whether old things stand in the row from a place on -/
def fitsAt (r old : Dl) (p : Nat) : Bool := decide (p + old.length ≤ r.length) && PyData.eqvAll ((r.drop p).take old.length) old
/-- the places from b on -/
def spots (r old : Dl) (b : Nat) : List Nat := (List.range' b (r.length + 1 - old.length - b)).filter (fitsAt r old)

theorem mem_spots {r old : Dl} {b p : Nat} : p ∈ spots r old b ↔ b ≤ p ∧ fitsAt r old p = true := by
  unfold spots
  rw [List.mem_filter, List.mem_range'_1]
  constructor
  · rintro ⟨⟨h1, _⟩, h3⟩
    exact ⟨h1, h3⟩
  · rintro ⟨h1, h3⟩
    refine ⟨⟨h1, ?_⟩, h3⟩
    have h4 : decide (p + old.length ≤ r.length) = true := (Bool.and_eq_true_iff.mp h3).1
    have h5 := of_decide_eq_true h4
    omega

theorem spots_nodup (r old : Dl) (b : Nat) : (spots r old b).Nodup := List.Pairwise.filter _ List.nodup_range'

theorem spots_sorted (r old : Dl) (b : Nat) : (spots r old b).Pairwise (· < ·) := List.Pairwise.filter _ List.pairwise_lt_range'

theorem spots_len (r old : Dl) (b : Nat) : (spots r old b).length ≤ r.length + 1 := by
  unfold spots
  have h := List.length_filter_le (fitsAt r old) (List.range' b (r.length + 1 - old.length - b))
  rw [List.length_range'] at h
  omega

/-- a fit of the stretches from b on -/
def Fit (r : Dl) : Nat → List Dl → List Nat → Prop
  | _, [], pl => pl = []
  | b, old :: rest, pl => ∃ p ps, pl = p :: ps ∧ b ≤ p ∧ fitsAt r old p = true ∧ Fit r (p + old.length) rest ps

/-- all fits -/
def fitsFrom (r : Dl) : Nat → List Dl → List (List Nat)
  | _, [] => [[]]
  | b, old :: rest => (spots r old b).flatMap fun p => (fitsFrom r (p + old.length) rest).map (p :: ·)

theorem mem_fitsFrom {r : Dl} : ∀ {olds : List Dl} {b : Nat} {pl : List Nat}, pl ∈ fitsFrom r b olds ↔ Fit r b olds pl
  | [], b, pl => by simp [fitsFrom, Fit]
  | old :: rest, b, pl => by
    simp only [fitsFrom, Fit, List.mem_flatMap, List.mem_map]
    constructor
    · rintro ⟨p, hp, ps, hps, rfl⟩
      obtain ⟨h1, h2⟩ := mem_spots.mp hp
      exact ⟨p, ps, rfl, h1, h2, mem_fitsFrom.mp hps⟩
    · rintro ⟨p, ps, rfl, h1, h2, h3⟩
      exact ⟨p, mem_spots.mpr ⟨h1, h2⟩, ps, mem_fitsFrom.mpr h3, rfl⟩

theorem fitsFrom_nodup {r : Dl} : ∀ (olds : List Dl) (b : Nat), (fitsFrom r b olds).Nodup
  | [], b => by simp [fitsFrom]
  | old :: rest, b => by
    unfold fitsFrom List.Nodup
    rw [List.pairwise_flatMap]
    refine ⟨fun p _ => ?_, ?_⟩
    · exact List.Pairwise.map (p :: ·) (fun a c h z => h (List.cons.inj z).2) (fitsFrom_nodup rest (p + old.length))
    · refine (spots_nodup r old b).imp fun {p q} h x hx y hy z => ?_
      obtain ⟨xs, _, rfl⟩ := List.mem_map.mp hx
      obtain ⟨ys, _, rfl⟩ := List.mem_map.mp hy
      exact h (List.cons.inj z).1

theorem Fit.length {r : Dl} : ∀ {olds : List Dl} {b : Nat} {pl : List Nat}, Fit r b olds pl → pl.length = olds.length
  | [], _, _, h => by
    have h : _ = _ := h
    rw [h] <;> rfl
  | _ :: _, _, _, h => by
    obtain ⟨p, ps, rfl, _, _, h3⟩ := h
    rw [List.length_cons, List.length_cons, Fit.length h3]

theorem Fit.mono {r : Dl} : ∀ {olds : List Dl} {b c : Nat} {pl : List Nat}, c ≤ b → Fit r b olds pl → Fit r c olds pl
  | [], _, _, _, _, h => h
  | _ :: _, _, _, _, hc, h => by
    obtain ⟨p, ps, rfl, h1, h2, h3⟩ := h
    exact ⟨p, ps, rfl, Nat.le_trans hc h1, h2, h3⟩

theorem Fit.le {r : Dl} : ∀ {olds : List Dl} {b : Nat} {pl : List Nat}, Fit r b olds pl → ∀ p ∈ pl, p ≤ r.length
  | [], _, _, h, p, hp => by
    have h : _ = _ := h
    rw [h] at hp
    cases hp
  | old :: _, _, _, h, p, hp => by
    obtain ⟨q, ps, rfl, _, h2, h3⟩ := h
    rcases List.mem_cons.mp hp with rfl | hp
    · have h4 := of_decide_eq_true (Bool.and_eq_true_iff.mp h2).1
      omega
    · exact Fit.le h3 p hp

/-! ### all of them, stretch by stretch, with where the last one ends -/
def stepB (r : Dl) (found : List (List Nat × Nat)) (old : Dl) : List (List Nat × Nat) :=
  found.flatMap fun q => (spots r old q.2).map fun p => (q.1 ++ [p], p + old.length)
def fitsB (r : Dl) (olds : List Dl) : List (List Nat × Nat) := olds.foldl (stepB r) [([], 0)]

theorem fitsB_snoc (r : Dl) (olds : List Dl) (old : Dl) : fitsB r (olds ++ [old]) = stepB r (fitsB r olds) old := by
  unfold fitsB
  rw [List.foldl_append] <;> rfl

theorem stepB_len (r : Dl) (old : Dl) : ∀ found : List (List Nat × Nat), (stepB r found old).length ≤ found.length * (r.length + 1)
  | [] => by simp [stepB]
  | q :: found => by
    have ih := stepB_len r old found
    have h := spots_len r old q.2
    have e : stepB r (q :: found) old = ((spots r old q.2).map fun p => (q.1 ++ [p], p + old.length)) ++ stepB r found old := rfl
    rw [e, List.length_append, List.length_map, List.length_cons, Nat.add_mul, Nat.one_mul]
    omega

theorem foldB_fits (r : Dl) : ∀ (olds : List Dl) (found : List (List Nat × Nat)),
    (olds.foldl (stepB r) found).map (·.1) = found.flatMap fun q => (fitsFrom r q.2 olds).map (q.1 ++ ·)
  | [], found => by
    simp only [List.foldl_nil, fitsFrom, List.map_cons, List.map_nil, List.append_nil]
    induction found with
    | nil => rfl
    | cons q found ih => rw [List.map_cons, List.flatMap_cons, ih] <;> rfl
  | old :: rest, found => by
    rw [List.foldl_cons, foldB_fits r rest (stepB r found old)]
    unfold stepB
    rw [List.flatMap_assoc]
    congr 1
    funext q
    have e : fitsFrom r q.2 (old :: rest) = (spots r old q.2).flatMap fun p => (fitsFrom r (p + old.length) rest).map (p :: ·) := rfl
    rw [e, List.flatMap_map, List.map_flatMap]
    congr 1
    funext p
    rw [List.map_map]
    show (fitsFrom r (p + old.length) rest).map (fun ps => q.1 ++ [p] ++ ps) = (fitsFrom r (p + old.length) rest).map (fun ps => q.1 ++ p :: ps)
    congr 1
    funext ps
    rw [List.append_assoc] <;> rfl

theorem fitsB_fst (r : Dl) (olds : List Dl) : (fitsB r olds).map (·.1) = fitsFrom r 0 olds := by
  unfold fitsB
  rw [foldB_fits]
  simp

theorem fitsB_mem (r : Dl) : ∀ (n : Nat) (olds : List Dl), olds.length = n → ∀ q ∈ fitsB r olds, q.1.length = n ∧ (n = 0 → q.2 = 0) ∧
    (∀ p old, q.1.getLast? = some p → olds.getLast? = some old → q.2 = p + old.length)
  | 0, olds, h, q, hq => by
    have e : olds = [] := List.length_eq_zero_iff.mp h
    subst e
    have : q = ([], 0) := by simpa [fitsB] using hq
    subst this
    exact ⟨rfl, fun _ => rfl, fun p old hp _ => by cases hp⟩
  | n + 1, olds, h, q, hq => by
    obtain ⟨l, x, rfl⟩ : ∃ l x, olds = l ++ [x] := by
      rcases List.eq_nil_or_concat olds with rfl | ⟨l, x, rfl⟩
      · cases h
      · exact ⟨l, x, by simp⟩
    rw [List.length_append, List.length_singleton] at h
    rw [fitsB_snoc] at hq
    unfold stepB at hq
    obtain ⟨q', hq', hm⟩ := List.mem_flatMap.mp hq
    obtain ⟨p, hp, rfl⟩ := List.mem_map.mp hm
    have ih := fitsB_mem r n l (by omega) q' hq'
    refine ⟨by rw [List.length_append, List.length_singleton, ih.1], fun z => absurd z (Nat.succ_ne_zero n), fun p' old h1 h2 => ?_⟩
    rw [List.getLast?_append] at h1 h2
    simp at h1 h2
    rw [← h1, ← h2]

theorem fitsB_len (r : Dl) : ∀ (olds : List Dl), (fitsB r olds).length ≤ (r.length + 1) ^ olds.length := by
  intro olds
  have key : ∀ (olds : List Dl) (found : List (List Nat × Nat)), (olds.foldl (stepB r) found).length ≤ found.length * (r.length + 1) ^ olds.length := by
    intro olds
    induction olds with
    | nil => intro found; simp
    | cons old rest ih =>
      intro found
      rw [List.foldl_cons]
      refine Nat.le_trans (ih _) ?_
      rw [List.length_cons, Nat.pow_succ, Nat.mul_comm ((r.length + 1) ^ rest.length), ← Nat.mul_assoc]
      exact Nat.mul_le_mul_right _ (stepB_len r old found)
  have h := key olds [([], 0)]
  simpa [fitsB] using h

theorem pow21 {n k : Nat} (hn : n ≤ 20) (hk : k ≤ 3) : (n + 1) ^ k ≤ 9261 := by
  have h1 : (n + 1) ^ k ≤ 21 ^ k := Nat.pow_le_pow_left (by omega) k
  have h2 : (21 : Nat) ^ k ≤ 21 ^ 3 := Nat.pow_le_pow_right (by decide) hk
  have h3 : (21 : Nat) ^ 3 = 9261 := by decide
  omega

theorem fitsB_small {r : Dl} {olds : List Dl} (h1 : r.length ≤ 20) (h2 : olds.length ≤ 3) : (fitsB r olds).length ≤ 9261 := Nat.le_trans (fitsB_len r olds) (pow21 h1 h2)

/-! ### as early as can be -/
def firstFit (r : Dl) : Nat → List Dl → Option (List Nat)
  | _, [] => some []
  | b, old :: rest => match (spots r old b).head? with
    | none => none
    | some p => (firstFit r (p + old.length) rest).map (p :: ·)

/-- place by place no later -/
inductive LeL : List Nat → List Nat → Prop
  | nil : LeL [] []
  | cons {a b : Nat} {as bs : List Nat} : a ≤ b → LeL as bs → LeL (a :: as) (b :: bs)
theorem LeL.antisymm : ∀ {as bs : List Nat}, LeL as bs → LeL bs as → as = bs
  | _, _, .nil, .nil => rfl
  | _, _, .cons h t, .cons h' t' => by
    rw [Nat.le_antisymm h h', LeL.antisymm t t']

theorem head_least {r old : Dl} {b p : Nat} (h : (spots r old b).head? = some p) : b ≤ p ∧ fitsAt r old p = true ∧ ∀ q, b ≤ q → fitsAt r old q = true → p ≤ q := by
  have hs := spots_sorted r old b
  have hm : p ∈ spots r old b := List.mem_of_head? h
  obtain ⟨h1, h2⟩ := mem_spots.mp hm
  refine ⟨h1, h2, fun q h3 h4 => ?_⟩
  have hq : q ∈ spots r old b := mem_spots.mpr ⟨h3, h4⟩
  cases e : spots r old b with
  | nil => rw [e] at hq; cases hq
  | cons x l =>
    rw [e] at h hq hs
    have hx : x = p := Option.some.inj h
    subst hx
    rcases List.mem_cons.mp hq with rfl | hq
    · exact Nat.le_refl _
    · exact Nat.le_of_lt ((List.pairwise_cons.mp hs).1 q hq)

theorem firstFit_none {r : Dl} : ∀ {olds : List Dl} {b : Nat}, firstFit r b olds = none → ∀ pl, ¬ Fit r b olds pl
  | [], _, h, _ => by cases h
  | old :: rest, b, h, pl => by
    rintro ⟨p, ps, rfl, h1, h2, h3⟩
    unfold firstFit at h
    cases e : (spots r old b).head? with
    | none =>
      have hm : p ∈ spots r old b := mem_spots.mpr ⟨h1, h2⟩
      rw [List.head?_eq_none_iff] at e
      rw [e] at hm
      cases hm
    | some q =>
      rw [e] at h
      have h' : firstFit r (q + old.length) rest = none := Option.map_eq_none_iff.mp h
      have hq := (head_least e).2.2 p h1 h2
      exact firstFit_none h' ps (h3.mono (Nat.add_le_add_right hq _))

theorem firstFit_some {r : Dl} : ∀ {olds : List Dl} {b : Nat} {f : List Nat}, firstFit r b olds = some f → Fit r b olds f ∧ ∀ pl, Fit r b olds pl → LeL f pl
  | [], _, f, h => by
    have e : [] = f := Option.some.inj h
    subst e
    exact ⟨rfl, fun pl hp => by
      have hp : pl = [] := hp
      rw [hp]
      exact .nil⟩
  | old :: rest, b, f, h => by
    unfold firstFit at h
    cases e : (spots r old b).head? with
    | none => rw [e] at h; cases h
    | some q =>
      rw [e] at h
      obtain ⟨f', hf', rfl⟩ := Option.map_eq_some_iff.mp h
      obtain ⟨h1, h2, h3⟩ := head_least e
      obtain ⟨k1, k2⟩ := firstFit_some hf'
      refine ⟨⟨q, f', rfl, h1, h2, k1⟩, ?_⟩
      rintro pl ⟨p, ps, rfl, g1, g2, g3⟩
      have hq := h3 p g1 g2
      exact .cons hq (k2 ps (g3.mono (Nat.add_le_add_right hq _)))

/-! ### the row turned round -/
theorem eqvAll_snoc : ∀ {xs ys : Dl} {x y : PyData}, xs.length = ys.length → PyData.eqvAll (xs ++ [x]) (ys ++ [y]) = (PyData.eqvAll xs ys && PyData.eqv x y)
  | [], [], x, y, _ => by simp [PyData.eqvAll]
  | a :: xs, b :: ys, x, y, h => by
    have ih := eqvAll_snoc (xs := xs) (ys := ys) (x := x) (y := y) (by simpa using h)
    show PyData.eqvAll (a :: (xs ++ [x])) (b :: (ys ++ [y])) = _
    simp only [PyData.eqvAll]
    rw [ih, Bool.and_assoc]
theorem eqvAll_len : ∀ {xs ys : Dl}, PyData.eqvAll xs ys = true → xs.length = ys.length
  | [], [], _ => rfl
  | [], _ :: _, h => by simp [PyData.eqvAll] at h
  | _ :: _, [], h => by simp [PyData.eqvAll] at h
  | x :: xs, y :: ys, h => by
    simp only [PyData.eqvAll, Bool.and_eq_true] at h
    rw [List.length_cons, List.length_cons, eqvAll_len h.2]
theorem eqvAll_rev : ∀ (xs ys : Dl), xs.length = ys.length → PyData.eqvAll xs.reverse ys.reverse = PyData.eqvAll xs ys
  | [], [], _ => rfl
  | x :: xs, y :: ys, h => by
    have h' : xs.length = ys.length := by simpa using h
    rw [List.reverse_cons, List.reverse_cons, eqvAll_snoc (by simpa using h'), eqvAll_rev xs ys h', Bool.and_comm]
    simp only [PyData.eqvAll]

theorem cut_rev {α : Type} (r : List α) {p n : Nat} (h : p + n ≤ r.length) : (r.reverse.drop (r.length - p - n)).take n = ((r.drop p).take n).reverse := by
  have e : r = r.take p ++ ((r.drop p).take n ++ r.drop (p + n)) := by
    rw [← List.drop_drop, List.take_append_drop, List.take_append_drop]
  have l1 : ((r.drop p).take n).length = n := by
    rw [List.length_take, List.length_drop]
    omega
  have l2 : (r.drop (p + n)).length = r.length - p - n := by
    rw [List.length_drop]
    omega
  have er : r.reverse = (r.drop (p + n)).reverse ++ (((r.drop p).take n).reverse ++ (r.take p).reverse) := by
    have e' := congrArg List.reverse e
    rw [List.reverse_append, List.reverse_append, List.append_assoc] at e'
    exact e'
  rw [er, ← l2, ← List.length_reverse (as := r.drop (p + n)), List.drop_left]
  have l3 : ((r.drop p).take n).reverse.length = n := by rw [List.length_reverse, l1]
  exact List.take_left' l3

/-- a place seen from behind -/
def mir (r old : Dl) (p : Nat) : Nat := r.length - p - old.length
theorem fitsAt_le {r old : Dl} {p : Nat} (h : fitsAt r old p = true) : p + old.length ≤ r.length := of_decide_eq_true (Bool.and_eq_true_iff.mp h).1
theorem fitsAt_rev {r old : Dl} {p : Nat} (h : fitsAt r old p = true) : fitsAt r.reverse old.reverse (mir r old p) = true := by
  have h1 := fitsAt_le h
  have h2 := (Bool.and_eq_true_iff.mp h).2
  unfold fitsAt mir
  rw [Bool.and_eq_true]
  refine ⟨decide_eq_true (by rw [List.length_reverse, List.length_reverse]; omega), ?_⟩
  rw [List.length_reverse, cut_rev r h1, eqvAll_rev _ _ (eqvAll_len h2)]
  exact h2
theorem mir_mir {r old : Dl} {p : Nat} (h : p + old.length ≤ r.length) : mir r.reverse old.reverse (mir r old p) = p := by
  unfold mir
  rw [List.length_reverse, List.length_reverse]
  omega

/-- the places, turned round -/
def mirs (r : Dl) : List Dl → List Nat → List Nat
  | old :: olds, p :: ps => mirs r olds ps ++ [mir r old p]
  | _, _ => []
def revs (olds : List Dl) : List Dl := (olds.map List.reverse).reverse
theorem revs_cons (old : Dl) (olds : List Dl) : revs (old :: olds) = revs olds ++ [old.reverse] := by
  unfold revs
  rw [List.map_cons, List.reverse_cons]

theorem fit_snoc {r : Dl} : ∀ {olds : List Dl} {old : Dl} {b : Nat} {pl : List Nat} {p : Nat}, Fit r b olds pl → fitsAt r old p = true → b ≤ p →
    (∀ q o, pl.getLast? = some q → olds.getLast? = some o → q + o.length ≤ p) → Fit r b (olds ++ [old]) (pl ++ [p])
  | [], old, b, pl, p, h, hp, hb, _ => by
    have h : pl = [] := h
    subst h
    exact ⟨p, [], rfl, hb, hp, rfl⟩
  | o :: olds, old, b, pl, p, h, hp, hb, hl => by
    obtain ⟨q, ps, rfl, h1, h2, h3⟩ := h
    refine ⟨q, ps ++ [p], rfl, h1, h2, fit_snoc h3 hp ?_ ?_⟩
    · cases olds with
      | nil =>
        have h3 : ps = [] := h3
        subst h3
        exact hl q o rfl rfl
      | cons o' olds' =>
        obtain ⟨q', ps', rfl, g1, g2, g3⟩ := h3
        have hle : ∀ {os : List Dl} {c : Nat} {l : List Nat}, Fit r c os l → os ≠ [] → ∀ z w, l.getLast? = some z → os.getLast? = some w → c ≤ z + w.length := by
          intro os
          induction os with
          | nil => intro c l _ hn; exact absurd rfl hn
          | cons x xs ih =>
            intro c l hf _ z w hz hw
            obtain ⟨y, ys, rfl, f1, f2, f3⟩ := hf
            cases xs with
            | nil =>
              have f3 : ys = [] := f3
              subst f3
              have ez : y = z := Option.some.inj hz
              have ew : x = w := Option.some.inj hw
              omega
            | cons x' xs' =>
              obtain ⟨y', ys', rfl, k1, k2, k3⟩ := id f3
              rw [List.getLast?_cons_cons] at hz hw
              have := ih f3 (by simp) z w hz hw
              omega
        have hz : ((q' :: ps').getLast?).isSome := by simp
        have hw : ((o' :: olds').getLast?).isSome := by simp
        obtain ⟨z, ez⟩ := Option.isSome_iff_exists.mp hz
        obtain ⟨w, ew⟩ := Option.isSome_iff_exists.mp hw
        have k := hle (os := o' :: olds') (c := q + o.length) (l := q' :: ps') ⟨q', ps', rfl, g1, g2, g3⟩ (by simp) z w ez ew
        have k2 := hl z w (by rw [List.getLast?_cons_cons]; exact ez) (by rw [List.getLast?_cons_cons]; exact ew)
        omega
    · intro z w hz hw
      cases olds with
      | nil => cases hw
      | cons o' olds' =>
        obtain ⟨q', ps', rfl, g1, g2, g3⟩ := h3
        exact hl z w (by rw [List.getLast?_cons_cons]; exact hz) (by rw [List.getLast?_cons_cons]; exact hw)

/-- from behind the same fits -/
theorem fit_rev {r : Dl} : ∀ {olds : List Dl} {b : Nat} {pl : List Nat}, Fit r b olds pl → Fit r.reverse 0 (revs olds) (mirs r olds pl) ∧
    (∀ q o, (mirs r olds pl).getLast? = some q → (revs olds).getLast? = some o → q + o.length + b ≤ r.length)
  | [], b, pl, h => by
    have h : pl = [] := h
    subst h
    exact ⟨rfl, fun q o hq => by cases hq⟩
  | old :: olds, b, pl, h => by
    obtain ⟨p, ps, rfl, h1, h2, h3⟩ := h
    obtain ⟨k1, k2⟩ := fit_rev h3
    have hle := fitsAt_le h2
    rw [revs_cons]
    show Fit r.reverse 0 (revs olds ++ [old.reverse]) (mirs r olds ps ++ [mir r old p]) ∧ _
    refine ⟨fit_snoc k1 (fitsAt_rev h2) (Nat.zero_le _) fun q o hq ho => ?_, fun q o hq ho => ?_⟩
    · have := k2 q o hq ho
      unfold mir
      omega
    · have hq : (mirs r olds ps ++ [mir r old p]).getLast? = some q := hq
      rw [List.getLast?_append] at hq ho
      simp at hq ho
      subst hq ho
      unfold mir
      rw [List.length_reverse]
      omega

theorem revs_revs (olds : List Dl) : revs (revs olds) = olds := by
  unfold revs
  rw [List.map_reverse, List.reverse_reverse, List.map_map]
  have : (List.reverse ∘ List.reverse : Dl → Dl) = id := by
    funext x
    simp
  rw [this, List.map_id]
theorem mirs_snoc {r : Dl} : ∀ {olds : List Dl} {pl : List Nat} {old : Dl} {p : Nat}, pl.length = olds.length → mirs r (olds ++ [old]) (pl ++ [p]) = mir r old p :: mirs r olds pl
  | [], [], _, _, _ => rfl
  | o :: olds, q :: pl, old, p, h => by
    have ih := mirs_snoc (r := r) (olds := olds) (pl := pl) (old := old) (p := p) (by simpa using h)
    show mirs r (olds ++ [old]) (pl ++ [p]) ++ [mir r o q] = mir r old p :: (mirs r olds pl ++ [mir r o q])
    rw [ih] <;> rfl
theorem mirs_length {r : Dl} : ∀ {olds : List Dl} {pl : List Nat}, pl.length = olds.length → (mirs r olds pl).length = olds.length
  | [], [], _ => rfl
  | o :: olds, q :: pl, h => by
    show (mirs r olds pl ++ [mir r o q]).length = _
    rw [List.length_append, mirs_length (by simpa using h)] <;> rfl
theorem revs_length (olds : List Dl) : (revs olds).length = olds.length := by
  unfold revs
  rw [List.length_reverse, List.length_map]
theorem mirs_mirs {r : Dl} : ∀ {olds : List Dl} {b : Nat} {pl : List Nat}, Fit r b olds pl → mirs r.reverse (revs olds) (mirs r olds pl) = pl
  | [], _, pl, h => by
    have h : pl = [] := h
    subst h
    rfl
  | old :: olds, _, pl, h => by
    obtain ⟨p, ps, rfl, h1, h2, h3⟩ := h
    rw [revs_cons]
    show mirs r.reverse (revs olds ++ [old.reverse]) (mirs r olds ps ++ [mir r old p]) = p :: ps
    rw [mirs_snoc (by rw [mirs_length h3.length, revs_length]), mir_mir (fitsAt_le h2), mirs_mirs h3]

/-- as late as can be, by the first fit from behind -/
theorem last_latest {r : Dl} {olds : List Dl} {back : List Nat} (h : firstFit r.reverse 0 (revs olds) = some back) :
    Fit r 0 olds (mirs r.reverse (revs olds) back) ∧ ∀ pl, Fit r 0 olds pl → LeL pl (mirs r.reverse (revs olds) back) := by
  obtain ⟨h1, h2⟩ := firstFit_some h
  have k := (fit_rev h1).1
  rw [List.reverse_reverse, revs_revs] at k
  refine ⟨k, fun pl hp => ?_⟩
  have hp' := (fit_rev hp).1
  have hl := h2 _ hp'
  -- the mirror turns the order round
  have key : ∀ {os : List Dl} {b c : Nat} {l m : List Nat}, Fit r.reverse b os l → Fit r.reverse c os m → LeL l m → LeL (mirs r.reverse os m) (mirs r.reverse os l) := by
    intro os
    induction os with
    | nil =>
      intro b c l m hf hg _
      exact .nil
    | cons o os ih =>
      intro b c l m hf hg hlm
      obtain ⟨p, ps, rfl, f1, f2, f3⟩ := hf
      obtain ⟨q, qs, rfl, g1, g2, g3⟩ := hg
      cases hlm with
      | cons hpq ht =>
        have t := ih f3 g3 ht
        show LeL (mirs r.reverse os qs ++ [mir r.reverse o q]) (mirs r.reverse os ps ++ [mir r.reverse o p])
        have app : ∀ {as bs : List Nat} {a b : Nat}, LeL as bs → a ≤ b → LeL (as ++ [a]) (bs ++ [b]) := by
          intro as bs a b hs hab
          induction hs with
          | nil => exact .cons hab .nil
          | cons h _ ih => exact .cons h ih
        exact app t (by unfold mir; omega)
  have e := key h1 hp' hl
  have e2 := mirs_mirs hp
  rw [e2] at e
  exact e

/-- the law: the first from ahead and the first from behind are one just if there is just one fit -/
theorem only_law (r : Dl) (olds : List Dl) :
    (match firstFit r 0 olds, firstFit r.reverse 0 (revs olds) with
      | some f, some back => if f = mirs r.reverse (revs olds) back then some f else none
      | _, _ => none) = (if (fitsFrom r 0 olds).length = 1 then (fitsFrom r 0 olds).head? else none) := by
  cases h1 : firstFit r 0 olds with
  | none =>
    have e : fitsFrom r 0 olds = [] := List.eq_nil_iff_forall_not_mem.mpr fun pl hm => firstFit_none h1 pl (mem_fitsFrom.mp hm)
    rw [e] <;> rfl
  | some f =>
    obtain ⟨f1, f2⟩ := firstFit_some h1
    cases h2 : firstFit r.reverse 0 (revs olds) with
    | none => exact absurd (fit_rev f1).1 (firstFit_none h2 _)
    | some back =>
      obtain ⟨l1, l2⟩ := last_latest h2
      show (if f = mirs r.reverse (revs olds) back then some f else none) = _
      by_cases e : f = mirs r.reverse (revs olds) back
      · rw [if_pos e]
        have all : ∀ pl ∈ fitsFrom r 0 olds, pl = f := fun pl hm => by
          have hf := mem_fitsFrom.mp hm
          have g1 := f2 pl hf
          have g2 := l2 pl hf
          rw [← e] at g2
          exact (LeL.antisymm g1 g2).symm
        have hm : f ∈ fitsFrom r 0 olds := mem_fitsFrom.mpr f1
        have hn := fitsFrom_nodup (r := r) olds 0
        cases h3 : fitsFrom r 0 olds with
        | nil => rw [h3] at hm; cases hm
        | cons x l =>
          rw [h3] at all hn
          have ex := all x List.mem_cons_self
          cases l with
          | nil =>
            rw [ex] <;> rfl
          | cons y l =>
            have ey := all y (List.mem_cons_of_mem _ List.mem_cons_self)
            have := (List.nodup_cons.mp hn).1
            exact absurd (show x ∈ y :: l by rw [ex, ← ey]; exact List.mem_cons_self) this
      · rw [if_neg e]
        by_cases h3 : (fitsFrom r 0 olds).length = 1
        · exfalso
          obtain ⟨x, hx⟩ := List.length_eq_one_iff.mp h3
          have m1 : f ∈ fitsFrom r 0 olds := mem_fitsFrom.mpr f1
          have m2 : mirs r.reverse (revs olds) back ∈ fitsFrom r 0 olds := mem_fitsFrom.mpr l1
          rw [hx] at m1 m2
          exact e ((List.mem_singleton.mp m1).trans (List.mem_singleton.mp m2).symm)
        · rw [if_neg h3]

/-! ### put at places -/
/-- the row with the stretches at places become new, from at on -/
def putFrom (r : Dl) : Dl → Nat → List (Dl × Dl) → List Nat → Dl
  | acc, at_, (old, new) :: hs, p :: ps => putFrom r (acc ++ ((r.drop at_).take (p - at_) ++ new)) (p + old.length) hs ps
  | acc, at_, _, _ => acc ++ r.drop at_

/-- whether ints tell places where the stretches fit -/
def intsFit (r : Dl) : Nat → List Dl → List Int → Bool
  | _, [], [] => true
  | b, old :: olds, v :: vs => decide ((b : Int) ≤ v) && (fitsAt r old v.toNat && intsFit r (v.toNat + old.length) olds vs)
  | _, _, _ => false
theorem intsFit_iff {r : Dl} : ∀ {olds : List Dl} {b : Nat} {vs : List Int}, intsFit r b olds vs = true ↔ ∃ pl, Fit r b olds pl ∧ vs = pl.map Int.ofNat
  | [], b, [] => by simp [intsFit, Fit]
  | [], b, v :: vs => by simp [intsFit, Fit]
  | old :: olds, b, [] => by
    constructor
    · intro h; simp [intsFit] at h
    · rintro ⟨pl, ⟨p, ps, rfl, _⟩, h⟩
      cases h
  | old :: olds, b, v :: vs => by
    simp only [intsFit, Bool.and_eq_true, decide_eq_true_eq]
    constructor
    · rintro ⟨h1, h2, h3⟩
      obtain ⟨pl, hp, rfl⟩ := intsFit_iff.mp h3
      refine ⟨v.toNat :: pl, ⟨v.toNat, pl, rfl, by omega, h2, hp⟩, ?_⟩
      rw [List.map_cons]
      congr 1
      show v = (v.toNat : Int)
      omega
    · rintro ⟨pl, ⟨p, ps, rfl, h1, h2, h3⟩, h⟩
      rw [List.map_cons] at h
      obtain ⟨rfl, rfl⟩ := List.cons.inj h
      refine ⟨?_, h2, intsFit_iff.mpr ⟨ps, h3, rfl⟩⟩
      show (b : Int) ≤ (p : Int)
      omega
end K60
/-! K60Base: data by value over the abstract heap; the program's text by places; the names that nothing shadows. -/
namespace K60
open PySem PySem.Spec PyProof.Rows L2

/-! ### data -/
section
variable {K : PySem.W.Frag} {H H' : Hp}
theorem seqT {a : Addr} {xs : List V} (e : Same H H') (h : SqT K H a xs) : SqT K H' a xs := by
  rcases h with (h | ⟨o, h⟩) | h
  · exact .inl (.inl (e _ _ h))
  · exact .inl (.inr ⟨o, e _ _ h⟩)
  · exact .inr h
mutual
theorem dmono (e : Same H H') : ∀ (d : PyData) (v : V), Dp K H v d → Dp K H' v d
  | .none, _, h => by cases h; exact .non
  | .bool b, _, h => by cases h; exact .bl b
  | .int i, _, h => by cases h; exact .int i
  | .str x, _, h => by cases h; exact .str x
  | .list ds, _, h => by
    cases h with
    | lst hs ha => exact .lst (e.seq hs) (dmonoA e ds _ ha)
  | .tuple ds, _, h => by
    cases h with
    | tup hs ha => exact .tup (seqT e hs) (dmonoA e ds _ ha)
  | .dict _, _, h => by cases h
theorem dmonoA (e : Same H H') : ∀ (ds : List PyData) (vs : List V), DpAll K H vs ds → DpAll K H' vs ds
  | [], _, h => by cases h; exact .nil
  | d :: ds, _, h => by
    cases h with
    | cons h1 h2 => exact .cons (dmono e d _ h1) (dmonoA e ds _ h2)
end
theorem Dm {v : V} {d : PyData} (h : Dp K H v d) (e : Same H H') : Dp K H' v d := dmono e d v h
theorem DmA {vs : List V} {ds : List PyData} (h : DpAll K H vs ds) (e : Same H H') : DpAll K H' vs ds := dmonoA e ds vs h
theorem daLen : ∀ {vs : List V} {ds : List PyData}, DpAll K H vs ds → vs.length = ds.length
  | [], _, h => by cases h; rfl
  | v :: vs, _, h => by
    cases h with
    | cons h1 h2 => rw [List.length_cons, List.length_cons, daLen h2]
theorem daGet : ∀ {vs : List V} {ds : List PyData} {i : Nat} {v : V}, DpAll K H vs ds → vs[i]? = some v → ∃ d, ds[i]? = some d ∧ Dp K H v d
  | [], _, i, v, h, e => by simp at e
  | x :: vs, _, i, v, h, e => by
    cases h with
    | @cons _ _ d ds h1 h2 =>
      cases i with
      | zero =>
        have e' : x = v := by simpa using e
        subst e'
        exact ⟨d, rfl, h1⟩
      | succ i => exact daGet (i := i) h2 (by simpa using e)
theorem daGet' {vs : List V} {ds : List PyData} {i : Nat} {d : PyData} (h : DpAll K H vs ds) (e : ds[i]? = some d) : ∃ v, vs[i]? = some v ∧ Dp K H v d := by
  have hl := daLen h
  have hi : i < ds.length := (List.getElem?_eq_some_iff.mp e).1
  have e2 : vs[i]? = some (vs[i]'(by omega)) := by rw [List.getElem?_eq_getElem]
  obtain ⟨d', h1, h2⟩ := daGet h e2
  rw [e] at h1
  cases h1
  exact ⟨_, e2, h2⟩
theorem daApp : ∀ {vs ws : List V} {ds es : List PyData}, DpAll K H vs ds → DpAll K H ws es → DpAll K H (vs ++ ws) (ds ++ es)
  | [], _, _, _, h, g => by cases h; exact g
  | v :: vs, _, _, _, h, g => by
    cases h with
    | cons h1 h2 => exact .cons h1 (daApp h2 g)
theorem daTake : ∀ {vs : List V} {ds : List PyData} (n : Nat), DpAll K H vs ds → DpAll K H (vs.take n) (ds.take n)
  | _, _, 0, h => by
    rw [List.take_zero, List.take_zero]
    exact .nil
  | [], _, n + 1, h => by cases h; exact .nil
  | v :: vs, _, n + 1, h => by
    cases h with
    | cons h1 h2 => exact .cons h1 (daTake n h2)
theorem daDrop : ∀ {vs : List V} {ds : List PyData} (n : Nat), DpAll K H vs ds → DpAll K H (vs.drop n) (ds.drop n)
  | _, _, 0, h => h
  | [], _, n + 1, h => by cases h; exact .nil
  | v :: vs, _, n + 1, h => by
    cases h with
    | cons h1 h2 => exact daDrop n h2
theorem daRev : ∀ {vs : List V} {ds : List PyData}, DpAll K H vs ds → DpAll K H vs.reverse ds.reverse
  | [], _, h => by cases h; exact .nil
  | v :: vs, _, h => by
    cases h with
    | cons h1 h2 =>
      rw [List.reverse_cons, List.reverse_cons]
      exact daApp (daRev h2) (.cons h1 .nil)
theorem daOne {v : V} {d : PyData} (h : Dp K H v d) : DpAll K H [v] [d] := .cons h .nil
/-- a tuple, a list just laid -/
theorem dTup {p : Addr} {vs : List V} {ds : List PyData} (h : H p = some (.tup vs)) (a : DpAll K H vs ds) : Dp K H (.ref p) (.tuple ds) := .tup (SqT.of h) a
theorem dLst {p : Addr} {vs : List V} {ds : List PyData} (h : H p = some (.lst vs)) (a : DpAll K H vs ds) : Dp K H (.ref p) (.list ds) := .lst (SqL.of h) a
theorem Same.nw {p : Addr} {o : HO} (h : H p = none) : Same H (upd H p o) := fun b u e => by
  rw [upd_ne (ne_of_none e h)]
  exact e
theorem Same.md {p : Addr} {o : HO} (e : Same H H') (h : H p = none) : Same H (upd H' p o) := fun b u q => by
  rw [upd_ne (ne_of_none q h)]
  exact e b u q
theorem dInv_tup {v : V} {ds : List PyData} (h : Dp K H v (.tuple ds)) : ∃ a xs, v = .ref a ∧ SqT K H a xs ∧ DpAll K H xs ds := by
  cases h with
  | tup hs ha => exact ⟨_, _, rfl, hs, ha⟩
theorem dInv_lst {v : V} {ds : List PyData} (h : Dp K H v (.list ds)) : ∃ a xs, v = .ref a ∧ SqL K H a xs ∧ DpAll K H xs ds := by
  cases h with
  | lst hs ha => exact ⟨_, _, rfl, hs, ha⟩
theorem dInv_int {v : V} {i : Int} (h : Dp K H v (.int i)) : v = .int i := by cases h; rfl
end

/-! ### what a value is -/
def tyD : PyData → String
  | .none => "NoneType"
  | .bool _ => "bool"
  | .int _ => "int"
  | .str _ => "str"
  | .list _ => "list"
  | .tuple _ => "tuple"
  | .dict _ => "dict"
def isIntD : PyData → Bool
  | .int _ => true
  | _ => false
def isNumD : PyData → Bool
  | .int i => decide (0 ≤ i)
  | _ => false
/-- the items of a list or a tuple -/
def seqD : PyData → Option (List PyData)
  | .list ds => some ds
  | .tuple ds => some ds
  | _ => none
def isSeqD (d : PyData) : Bool := (seqD d).isSome
theorem tyx {K : PySem.W.Frag} {H : Hp} {v : V} {d : PyData} (h : Dp K H v d) : TyX K H v (.type (tyD d)) := by
  cases d with
  | none => cases h; exact .base .non
  | bool b => cases h; exact .base (.bl b)
  | int i => cases h; exact .base (.int i)
  | str x => cases h; exact .base (.str x)
  | list ds =>
    cases h with
    | lst hs ha =>
      rcases hs with (hs | ⟨o, hs⟩) | ⟨o, its, n, hk, hc, _⟩
      · exact .base (.lst hs)
      · exact .base (.frz hs)
      · exact .kList hk hc
  | tuple ds =>
    cases h with
    | tup hs ha =>
      rcases hs with (hs | ⟨o, hs⟩) | ⟨o, its, n, hk, hc, _⟩
      · exact .base (.tup hs)
      · exact .fTuple hs
      · exact .kTuple hk hc
  | dict _ => cases h
theorem kI_NoneType : kitB "NoneType" "int" = some false := by decide +kernel
theorem kI_bool : kitB "bool" "int" = some true := by decide +kernel
theorem kI_int : kitB "int" "int" = some true := by decide +kernel
theorem kI_str : kitB "str" "int" = some false := by decide +kernel
theorem kI_list : kitB "list" "int" = some false := by decide +kernel
theorem kI_tuple : kitB "tuple" "int" = some false := by decide +kernel
theorem kI_dict : kitB "dict" "int" = some false := by decide +kernel
theorem kB_NoneType : kitB "NoneType" "bool" = some false := by decide +kernel
theorem kB_bool : kitB "bool" "bool" = some true := by decide +kernel
theorem kB_int : kitB "int" "bool" = some false := by decide +kernel
theorem kB_str : kitB "str" "bool" = some false := by decide +kernel
theorem kB_list : kitB "list" "bool" = some false := by decide +kernel
theorem kB_tuple : kitB "tuple" "bool" = some false := by decide +kernel
theorem kB_dict : kitB "dict" "bool" = some false := by decide +kernel
theorem kL_NoneType : kitB "NoneType" "list" = some false := by decide +kernel
theorem kL_bool : kitB "bool" "list" = some false := by decide +kernel
theorem kL_int : kitB "int" "list" = some false := by decide +kernel
theorem kL_str : kitB "str" "list" = some false := by decide +kernel
theorem kL_list : kitB "list" "list" = some true := by decide +kernel
theorem kL_tuple : kitB "tuple" "list" = some false := by decide +kernel
theorem kL_dict : kitB "dict" "list" = some false := by decide +kernel
theorem kT_NoneType : kitB "NoneType" "tuple" = some false := by decide +kernel
theorem kT_bool : kitB "bool" "tuple" = some false := by decide +kernel
theorem kT_int : kitB "int" "tuple" = some false := by decide +kernel
theorem kT_str : kitB "str" "tuple" = some false := by decide +kernel
theorem kT_list : kitB "list" "tuple" = some false := by decide +kernel
theorem kT_tuple : kitB "tuple" "tuple" = some true := by decide +kernel
theorem kT_dict : kitB "dict" "tuple" = some false := by decide +kernel
def isBoolD : PyData → Bool
  | .bool _ => true
  | _ => false
theorem kit_int {K : PySem.W.Frag} (d : PyData) : PySem.W.kitOne K (.type (tyD d)) (.type "int") = some (isIntD d || isBoolD d) := by
  cases d with
  | none => exact kit_ty kI_NoneType
  | bool _ => exact kit_ty kI_bool
  | int _ => exact kit_ty kI_int
  | str _ => exact kit_ty kI_str
  | list _ => exact kit_ty kI_list
  | tuple _ => exact kit_ty kI_tuple
  | dict _ => exact kit_ty kI_dict
theorem kit_bool {K : PySem.W.Frag} (d : PyData) : PySem.W.kitOne K (.type (tyD d)) (.type "bool") = some (isBoolD d) := by
  cases d with
  | none => exact kit_ty kB_NoneType
  | bool _ => exact kit_ty kB_bool
  | int _ => exact kit_ty kB_int
  | str _ => exact kit_ty kB_str
  | list _ => exact kit_ty kB_list
  | tuple _ => exact kit_ty kB_tuple
  | dict _ => exact kit_ty kB_dict
theorem kit_seq {K : PySem.W.Frag} (d : PyData) : PySem.W.kitAny K (.type (tyD d)) [.type "list", .type "tuple"] = some (isSeqD d) := by
  cases d with
  | none => exact kitAny_cons (kit_ty kL_NoneType) (fun _ => kitAny_cons (kit_ty kT_NoneType) (fun _ => kitAny_nil) (fun h => by cases h)) (fun h => by cases h)
  | bool _ => exact kitAny_cons (kit_ty kL_bool) (fun _ => kitAny_cons (kit_ty kT_bool) (fun _ => kitAny_nil) (fun h => by cases h)) (fun h => by cases h)
  | int _ => exact kitAny_cons (kit_ty kL_int) (fun _ => kitAny_cons (kit_ty kT_int) (fun _ => kitAny_nil) (fun h => by cases h)) (fun h => by cases h)
  | str _ => exact kitAny_cons (kit_ty kL_str) (fun _ => kitAny_cons (kit_ty kT_str) (fun _ => kitAny_nil) (fun h => by cases h)) (fun h => by cases h)
  | list _ => exact kitAny_cons (kit_ty kL_list) (fun h => by cases h) (fun _ => rfl)
  | tuple _ => exact kitAny_cons (kit_ty kL_tuple) (fun _ => kitAny_cons (kit_ty kT_tuple) (fun h => by cases h) (fun _ => rfl)) (fun h => by cases h)
  | dict _ => exact kitAny_cons (kit_ty kL_dict) (fun _ => kitAny_cons (kit_ty kT_dict) (fun _ => kitAny_nil) (fun h => by cases h)) (fun h => by cases h)

/-! ### the text by places, the names -/
def top (i : Nat) : Stmt := PySem.Challenge.pw_keptwhole_k60_whole_patches_where_they_f.main.body.getD i (.Pass ⟨0, 0, 0, 0⟩)
structure Nm (mg : Str → Option Value) : Prop where
  isinstance : mg "isinstance" = none
  int : mg "int" = none
  bool : mg "bool" = none
  list : mg "list" = none
  tuple : mg "tuple" = none
  len : mg "len" = none
  all : mg "all" = none
  zip : mg "zip" = none
  range : mg "range" = none
  max : mg "max" = none
  repr : mg "repr" = none
  abs : mg "abs" = none
  super : mg "super" = none

/-! ### calls of the text's own defs -/
/-- the def named x stands and keeps sp -/
structure Cl (P : Program) (w : World) (K : PySem.W.Frag) (mg : Str → Option Value) (base : Heap) (CX : CXT) (k : Nat) (x : Str) (ps : List Str) (sp : Sp) : Prop where
  ex : ∃ (f : Addr) (fd : FuncData), FnOk P w K mg base CX k f fd ps sp ∧ mg x = some (.ref f) ∧ PySem.W.keepIn K (.ref f) = true ∧ Binds K fd ps []
section
variable {X : Cx} {CX : CXT} {j k : Nat} {x : Str} {ps : List Str} {sp : Sp} {E : XK} {e : Expr} {es : List Expr} {t : TA} {p pos : Pos}
theorem pe_cl (c : Cl X.prog X.w X.K X.mg X.base CX k x ps sp) (hr : Room j X.A) (hk : k ≤ j) (hx : Passes CX X E) (ha : PA X (e :: es) t) (hg : Gl X x := by rfl)
    (hdb : (x == ("__debug__" : Str)) = false := by decide) (he : starEach (e :: es) X.env = (false, eval e X.env) :: starEach es X.env := by rfl) (hpl : (backTo pos (starEach es X.env)).any (·.1) = false := by rfl) :
    PE X (.Call (.Name x p) (e :: es) [] pos) (tCall sp [] E t) := by
  obtain ⟨f, fd, F, hm, hkp, hb⟩ := c.ex
  exact pe_call F (hr.mono hk) hg hm hkp hb .nil hx ha hdb he hpl
end
end K60
/-! K60Is: is_integer, is_number, is_sequence, is_hunk. -/
namespace K60
open PySem PySem.Spec PyProof.Rows L2
section
variable {P : Program} {w : World} {K : PySem.W.Frag} {mg : Str → Option Value} {base : Heap} {f : Addr} {fd : FuncData}

def spBy (K : PySem.W.Frag) (g : PyData → Bool) : Sp := fun vs H Q _ => ∃ v d, vs = [v] ∧ Dp K H v d ∧ Q (.bl (g d)) H
theorem sc5 : FnScope ["value"] ["value"] (defScope (top 5)) := ⟨rfl, rfl, rfl, by decide +kernel, rfl, by decide +kernel, by decide +kernel⟩
theorem ok_is_integer (F : Fun K "is_integer" "is_integer" (top 5) f fd) (N : Nm mg) : FnOk P w K mg base CX0 1 f fd ["value"] (spBy K isIntD) := by
  refine F.ok sc5 (fun vs H Q E h => ?_) (fun cdv A outer s H vs Q E hr h => ?_)
  · obtain ⟨v, d, rfl, _⟩ := h
    rfl
  · obtain ⟨v, d, rfl, hd, q⟩ := h
    refine ⟨_, pss_one (ps_ret (pe_and
      (pe_callB call_isi rfl N.isinstance (by decide +kernel) (pa_cons (pv 0) (pa_cons (pe_bltn (v := .ty "int") rfl N.int (by decide +kernel) rfl) pa_nil)))
      (pe_one (pe_not (pe_callB call_isi rfl N.isinstance (by decide +kernel) (pa_cons (pv 0) (pa_cons (pe_bltn (v := .ty "bool") rfl N.bool (by decide +kernel) rfl) pa_nil))))))), ?_⟩
    refine ⟨v, rfl, v, .ty "int", _, _, _, rfl, .ty "int", tyx hd, kit_int d, _, rfl, ?_⟩
    cases d with
    | int i =>
      refine iteT ?_
      refine ⟨v, rfl, v, .ty "bool", _, _, _, rfl, .ty "bool", tyx hd, kit_bool _, _, rfl, ?_⟩
      exact q
    | bool b =>
      refine iteT ?_
      refine ⟨v, rfl, v, .ty "bool", _, _, _, rfl, .ty "bool", tyx hd, kit_bool _, _, rfl, ?_⟩
      exact q
    | none => exact iteF q
    | str x => exact iteF q
    | list xs => exact iteF q
    | tuple xs => exact iteF q
    | dict kvs => exact iteF q

theorem sc6 : FnScope ["value"] ["value"] (defScope (top 6)) := ⟨rfl, rfl, rfl, by decide +kernel, rfl, by decide +kernel, by decide +kernel⟩
theorem ok_is_number (F : Fun K "is_number" "is_number" (top 6) f fd) (c : Cl P w K mg base CX0 1 "is_integer" ["value"] (spBy K isIntD)) : FnOk P w K mg base CX0 2 f fd ["value"] (spBy K isNumD) := by
  refine F.ok sc6 (fun vs H Q E h => ?_) (fun cdv A outer s H vs Q E hr h => ?_)
  · obtain ⟨v, d, rfl, _⟩ := h
    rfl
  · obtain ⟨v, d, rfl, hd, q⟩ := h
    refine ⟨_, pss_one (ps_ret (pe_and (pe_cl c hr (Nat.le_refl _) pass0 (pa_cons (pv 0) pa_nil)) (pe_one (pe_cmpR op_ge (pv 0) pe_int (nomark _))))), ?_⟩
    refine ⟨v, rfl, v, d, rfl, hd, _, rfl, ?_⟩
    cases d with
    | int i =>
      refine iteT ?_
      cases dInv_int hd
      exact ⟨_, rfl, _, _, rfl, rfl, q⟩
    | bool b => exact iteF q
    | none => exact iteF q
    | str x => exact iteF q
    | list xs => exact iteF q
    | tuple xs => exact iteF q
    | dict kvs => exact iteF q

/-- for a reader that lays nothing but what is dropped: H grows -/
def spGr (K : PySem.W.Frag) (g : PyData → Bool) : Sp := fun vs H Q _ => ∃ v d, vs = [v] ∧ Dp K H v d ∧ ∀ H', Same H H' → Q (.bl (g d)) H'
theorem sc7 : FnScope ["value"] ["value"] (defScope (top 7)) := ⟨rfl, rfl, rfl, by decide +kernel, rfl, by decide +kernel, by decide +kernel⟩
theorem ok_is_sequence (F : Fun K "is_sequence" "is_sequence" (top 7) f fd) (N : Nm mg) : FnOk P w K mg base CX0 1 f fd ["value"] (spGr K isSeqD) := by
  refine F.ok sc7 (fun vs H Q E h => ?_) (fun cdv A outer s H vs Q E hr h => ?_)
  · obtain ⟨v, d, rfl, _⟩ := h
    rfl
  · obtain ⟨v, d, rfl, hd, q⟩ := h
    refine ⟨_, pss_one (ps_ret (pe_callB call_isiT rfl N.isinstance (by decide +kernel) (pa_cons (pv 0) (pa_cons (pe_tup (pa_cons (pe_bltn (v := .ty "list") rfl N.list (by decide +kernel) rfl) (pa_cons (pe_bltn (v := .ty "tuple") rfl N.tuple (by decide +kernel) rfl) pa_nil))) pa_nil)))), ?_⟩
    refine ⟨v, rfl, ?_⟩
    refine ⟨by show 2 ≤ sizeLine; decide, fun p hp => ?_⟩
    refine ⟨v, p, _, _, _, _, rfl, upd_same, .cons (.ty "list") (.cons (.ty "tuple") .nil), tyx (Dm hd (Same.nw hp)), kit_seq d, ?_⟩
    exact q _ (Same.nw hp)
end
end K60
/-! K60Exc: own errors over ValueError whose __init__ says super().__init__(text), then one field. -/
namespace K60
open PySem PySem.Spec PyProof.Rows L2

/-- self is an error that is being made; its one field is stored -/
def spExI (C : Addr) (n : Str) : Sp := fun vs H Q _ => ∃ (a : Addr) (v : V), vs = [.ref a, v] ∧ H a = some (exo a C none) ∧
  ∀ dx, H dx = none → dx ≠ a → Q .non (upd (upd H dx (exd dx [(n, v)])) a (exo a C (some dx)))

/-- what stands of such a class and of its __init__ -/
structure SupC (P : Program) (K : PySem.W.Frag) (C fI : Addr) (qual n : Str) (params : Arguments) (body : List Stmt) (scope : Scope) (fd : FuncData) : Prop where
  oex : OexC K C
  nof : PySem.W.findIn K (.ref C) n = some none
  ex : ∃ (cc cda : Addr) (oc kV doc pm ct ccl cl : Value) (od an cdd cld : Option Addr) (osl ccs csl : Array (Option Value)) (vs : Array Value) (file : Str) (tf : Tok) (cd : ClassData),
    fd = PySem.W.ksFn "__init__" qual params body scope .none kV doc pm an (.ref cda) ct cc ∧ K.lookup fI = some ⟨oc, od, .func fd, osl⟩ ∧ PySem.W.codeIn K (.ref cda) qual = true ∧
    K.lookup cda = some ⟨ccl, cdd, .fields vs, ccs⟩ ∧ vs[2]? = some (.str file tf) ∧ ((P.main.file : Str) == file) = true ∧ K.lookup cc = some ⟨cl, cld, .cell (some (.ref C)), csl⟩ ∧ PySem.W.clsIn K C = some cd
  selfsub : PySem.W.mroIn K C (.ref C) = some true
  sup : PySem.W.ks_superIn K C C "__init__" = some (some (.builtin "ValueError.__init__"))
  sub : PySem.W.subIn K (.ref C) (.type "ValueError") = some true
  third : PySem.W.nsIn K PySem.cStatics "thirdparty.any" = some none
  findI : PySem.W.findIn K (.ref C) "__init__" = some (some (.ref fI))
  typI : PySem.W.typeIn K (.ref fI) = some (.type "function")
  topS : (P.main.scope.names.lookup ("super" : Str)).isSome = false

section
variable {prog : Program} {w : World} {A : Around} {E : Value → Shared → Prop} {h : Heap} {g : Array GenState} {d : Drawn} {t : Nat} {os : OsState}
/-- the built-in __init__, bound to the error, is called: the error's args are laid anew -/
theorem call_mw {C u e t1 : Addr} {nm q : Str} {N : Addr} {bs bm : List Value} {hd : Bool} {sn : List Str} {sb : List Value} {ab : Bool} {col : Option Bool} {dd : Option Addr} {k0 k1 k2 k3 k5 : Option Value} {rest : List Value} {Q : Value → Shared → Prop}
    (hC : h.get? C = some (excClassObj nm q C N bs bm hd sn sb ab col dd k0 k1 k2 k3 k5 "ValueError.__new__"))
    (he : h.get? e = some ({ cls := .ref C, dict := none, data := .fields #[.ref t1, .none, .none, .none, .bool false, .none] } : Obj))
    (hu : h.get? u = some (PySem.W.kxs_mw "ValueError.__init__" e)) (hz : rest.length ≤ sizeLine)
    (hq : ∀ h' t2, (∀ b o, b ≠ e → h.get? b = some o → h'.get? b = some o) → h'.get? e = some ({ cls := .ref C, dict := none, data := .fields #[.ref t2, .none, .none, .none, .bool false, .none] } : Obj) → Q .none ⟨h', g, d, t, os⟩) :
    wpAny (model prog w) A (call (.ref u) rest) Q E ⟨h, g, d, t, os⟩ := by
  have F := PySem.F.excBase_ValueError
  refine wpAny_call (codeAny_of_tree ?_)
  show wpAny _ A.in1 (callAny (.ref u) ⟨rest, []⟩) _ _ _
  simp only [callAny]
  refine wpAny_bind (wpAny_load hu ?_)
  have c1 : (Value.type "method-wrapper" == Value.type "method" || Value.type "method-wrapper" == Value.type "builtin_function_or_method" || Value.type "method-wrapper" == Value.type "method-wrapper") = true := by decide
  simp only [PySem.W.kxs_mw, c1, if_true]
  refine PySem.W.KFB.if_so (by decide) ?_
  refine wpAny_bind (PySem.W.check_bound_init F.toExcCallFacts hC he rfl ?_)
  refine wpAny_bind (wpAny_pure (wpAny_pure ?_))
  refine ⟨PySem.plainId_quiet F.init.plain _, codeAny_builtin F.initEntry ?_⟩
  exact PySem.W.exc_init_tree (cls := .ref C) (t0 := t1) (dv := none) (c2 := .none) (c3 := .none) (b4 := .bool false) he hz fun h' kp k1 _ => hq h' _ kp k1
end

section
variable {P : Program} {w : World} {K : PySem.W.Frag} {mg : Str → Option Value} {base : Heap} {C fI : Addr} {qual n : Str} {fd : FuncData} {tx : Str} {j : Nat} {p0 p1 p2 p3 p4 p5 p6 p7 p8 p9 : Pos} {params : Arguments} {scope : Scope}
/-- super().__init__(text); self.n = n -/
abbrev bodyI (n tx : Str) (j : Nat) (p0 p1 p2 p3 p4 p5 p6 p7 p8 p9 : Pos) : List Stmt :=
  [.Expr (.Call (.Attribute (.Call (.Name "super" p0) [] [] p1) "__init__" p2) [.Constant (.str tx) j p3] [] p4) p5,
    .Assign [.Attribute (.Name "self" p6) n p7] (.Name n p8) p9]
/-- the scope of such a def -/
structure ScI (n : Str) (params : Arguments) (scope : Scope) : Prop where
  kind : scope.kind = .function
  co : scope.isCoroutine = false
  gen : scope.isGenerator = false
  slf : scope.names.lookup ("self" : Str) = some .local
  nn : scope.names.lookup n = some .local
  cls : scope.names.lookup ("__class__" : Str) = some .free
  sup : scope.names.lookup ("super" : Str) = some .globalImplicit
  noc : ∀ x ∈ scope.names, x.2 ≠ .cell
  only : ∀ x ∈ scope.names, x.2 = .free → x.1 = "__class__"
  arg : ∃ ar, (params.posonlyargs ++ params.args).head? = some ar ∧ ar.arg = "self"
  ne : n ≠ "self"
  dbg : (n == ("__debug__" : Str)) = false
  cdi : (n == ("__classdict__" : Str)) = false

/-- the context of the body -/
def cxI (P : Program) (w : World) (K : PySem.W.Frag) (mg : Str → Option Value) (base : Heap) (n qual : Str) (scope : Scope) (fI cda cc : Addr) (A : Around) (outer : List Env) (s : Shared) (H : Hp) (xe : Value → Shared → Prop) : Cx where
  prog := P
  w := w
  K := K
  mg := mg
  base := base
  A := A.deeper (PySem.W.ksEnv qual scope s.heap.objs.size fI (.ref cda) cc)
  N := ["self", n]
  s_0 := s
  H_0 := H
  env := PySem.W.ksEnv qual scope s.heap.objs.size fI (.ref cda) cc
  outer := outer
  stack := PySem.W.ksEnv qual scope s.heap.objs.size fI (.ref cda) cc :: outer
  ex := []
  fn := fun _ => false
  calm := true
  pn := []
  xe := xe

/-- how the call is made, its places being as they are -/
def CallForm (tx : Str) (j : Nat) (p0 p1 p2 p3 p4 : Pos) : Prop := ∀ env : Env, ∃ pl : Sem Bool, eval (.Call (.Attribute (.Call (.Name "super" p0) [] [] p1) "__init__" p2) [.Constant (.str tx) j p3] [] p4) env = (do
  let ov ← attributeBase (.Call (.Name "super" p0) [] [] p1) "__init__" env (eval (.Call (.Name "super" p0) [] [] p1) env)
  standAt p2.atName
  let (f, first) ← holding [ov] (getMethod ov "__init__" pl)
  callWith p4 f first (backTo p4 (starEach [.Constant (.str tx) j p3] env)) [])

theorem ok_exinit (CF : CallForm tx j p0 p1 p2 p3 p4) (Sc : ScI n params scope) (N : Nm mg) (T : SupC P K C fI qual n params (bodyI n tx j p0 p1 p2 p3 p4 p5 p6 p7 p8 p9) scope fd) :
    FnOk P w K mg base CX0 1 fI fd ["self", n] (spExI C n) := by
  obtain ⟨cc, cda, oc, kV, doc, pm, ct, ccl, cl, od, an, cdd, cld, osl, ccs, csl, vs0, file, tf, cd, rfl, lk, hcd, lcda, hvs, hfile, lcc, hcl⟩ := T.ex
  refine ⟨fun vs H Q E h => ?_, fun A outer s H args us vs Q E hr e0 hb r hsp => ?_⟩
  · obtain ⟨a, v, rfl, _⟩ := h
    rfl
  obtain ⟨a, v, rfl, ha, hQ⟩ := hsp
  have KX : K.In s.heap := e0.mod.kin.keeps fun b o e => (e0.bs b o e).1
  have lim : s.heap.NoLimit := e0.mod.nolimit.keeps fun b o e => (e0.bs b o e).1
  obtain ⟨ua, uv, rfl, ra, rv⟩ := vals2 r
  obtain rfl : ua = Value.ref a := ra
  refine PySem.ks_codeAny_call_defAt (fd := PySem.W.ksFn "__init__" qual params (bodyI n tx j p0 p1 p2 p3 p4 p5 p6 p7 p8 p9) scope .none kV doc pm an (.ref cda) ct cc) (body := bodyI n tx j p0 p1 p2 p3 p4 p5 p6 p7 p8 p9)
    (binds := (["self", n] : List Str).zip [Value.ref a, uv]) hr.depth (KX _ _ lk) rfl lim (PySem.W.codeRec_of KX hcd) rfl hb Sc.noc ?_ ?_ Sc.co Sc.gen Sc.kind
  · intro x hx
    rcases List.mem_cons.mp hx with e | hx
    · rw [e]
      exact Sc.slf
    · rcases List.mem_cons.mp hx with e | hx
      · rw [e]
        exact Sc.nn
      · cases hx
  intro h0 hns hk0
  let X : Cx := cxI P w K mg base n qual scope fI cda cc A outer s H (fun e s' => wpAny (model P w) (A.deeper (PySem.W.ksEnv qual scope s.heap.objs.size fI (.ref cda) cc)) (leaving (PySem.W.ksEnv qual scope s.heap.objs.size fI (.ref cda) cc) e) (fun _ s'' => CR CX0 outer P w H s Q E (.error e) s'') (fun e' s'' => CR CX0 outer P w H s Q E (.error e') s'') s')
  have noA : ∀ b : Addr, b ∉ X.ex := fun b z => absurd (show b ∈ ([] : List Addr) from z) (by simp)
  have look1 : ∀ {x : Str} {c : Addr}, X.env.cells.lookup x = some c → x = "__class__" ∧ c = cc := by
    intro x c hx
    have hx : List.lookup x [(("__class__" : Str), cc)] = some c := hx
    by_cases e : x = "__class__"
    · subst e
      rw [List.lookup_cons_self] at hx
      exact ⟨rfl, (Option.some.inj hx).symm⟩
    · have e' : (x == ("__class__" : Str)) = false := by simpa using e
      simp only [List.lookup, e'] at hx
      cases hx
  have ok : X.Ok := by
    refine ⟨e0.mod, Sc.kind, rfl, rfl, Nat.le_refl _, fun x y c h1 h2 => ?_, fun x hx => ?_, fun x c z _ => ?_, fun _ => hr.hd, Around.frames_deeper e0.frames, .inr ⟨rfl, rfl⟩, fun b z => absurd z (noA b), e0.bs, e0.bsz, fun b _ _ => noA b, fun b z => absurd z (noA b), e0.funs, e0.frf⟩
    · rw [(look1 h1).1, (look1 h2).1]
    · have hx : scope.names.lookup x = some .cell ∨ scope.names.lookup x = some .free := hx
      rcases hx with hx | hx
      · exact absurd rfl (Sc.noc _ (PySem.mem_of_lookup hx))
      · have e := Sc.only _ (PySem.mem_of_lookup hx) rfl
        refine ⟨cc, ?_⟩
        rw [show x = "__class__" from e]
        exact List.lookup_cons_self
    · have z : false = true := z
      cases z
  have hL : H s.heap.objs.size = none := e0.hok.fresh (Nat.le_refl _)
  have hcc : base.get? cc = some _ := e0.mod.kin _ _ lcc
  have I0 : L2.Inv X [] [some (.ref a), some v] H { s with heap := h0, toks := s.toks + ((["self", n] : List Str).zip [Value.ref a, uv]).length } := by
    refine ⟨ok, rfl, e0.bare, Un.kept hk0, ⟨_, hns, fun i x y h1 h2 h3 => ?_⟩, fun x c hx => ?_, hL, fun x c hx => ?_, fun p hp => absurd (show p ∈ ([] : List (Addr × Obj)) from hp) (by simp), e0.hok.kept hk0, rfl⟩
    · have h1 : (["self", n] : List Str)[i]? = some x := h1
      match i, h1, h2 with
      | 0, h1, h2 =>
        have ex : ("self" : Str) = x := Option.some.inj h1
        have ey : V.ref a = y := Option.some.inj (Option.some.inj h2)
        subst ex ey
        refine ⟨.ref a, rfl, .inl ⟨Sc.slf, ?_⟩⟩
        have e' : (("self" : Str) == n) = false := by
          have := Ne.symm Sc.ne
          simpa using this
        show List.lookup ("self" : Str) [(n, uv), ("self", Value.ref a)] = some (Value.ref a)
        simp only [List.lookup, e', beq_self_eq_true]
      | 1, h1, h2 =>
        have ex : n = x := Option.some.inj h1
        have ey : v = y := Option.some.inj (Option.some.inj h2)
        subst ex ey
        refine ⟨uv, rv, .inl ⟨Sc.nn, ?_⟩⟩
        show List.lookup n [(n, uv), ("self", Value.ref a)] = some uv
        rw [List.lookup_cons_self]
      | i + 2, h1, h2 => simp at h1
    · rw [(look1 hx).2]
      exact ⟨_, _, hk0 _ _ ((e0.bs _ _ hcc).1), rfl⟩
    · rw [(look1 hx).2]
      exact (e0.bs _ _ hcc).2
  have hself : wpAny (model P w) X.A (eval (.Name "self" p6) X.env) (EP X [] [some (.ref a), some v] (fun x H1 => x = .ref a)) X.xe { s with heap := h0, toks := s.toks + ((["self", n] : List Str).zip [Value.ref a, uv]).length } := by
    refine (pe_var (X := X) (i := 0) (x := "self") (pos := p6) rfl (.inl Sc.slf)).run [] _ _ H _ I0 ?_
    exact ⟨.ref a, rfl, rfl⟩
  show _root_.PySem.wpAt (model P w) X.A (.func (bodyI n tx j p0 p1 p2 p3 p4 p5 p6 p7 p8 p9) X.env) (execs (bodyI n tx j p0 p1 p2 p3 p4 p5 p6 p7 p8 p9) X.env) _ X.xe _
  have hint : interactive X.env = false := by
    unfold interactive
    rw [show X.env.scope.kind = .function from Sc.kind]
    rfl
  obtain ⟨nm, q, N0, bs, bm, sn, sb, ab, col, dd, k0, k1, k2, k3, k5, hCK, hbm⟩ := T.oex.cls
  obtain ⟨⟨arg, ann, apos⟩, har, rfl⟩ := Sc.arg
  have hns0 : h0.Ns s.heap.objs.size (fun x => ((["self", n] : List Str).zip [Value.ref a, uv]).reverse.lookup x) := hns
  have hself : ((["self", n] : List Str).zip [Value.ref a, uv]).reverse.lookup ("self" : Str) = some (Value.ref a) := by
    have e' : (("self" : Str) == n) = false := by
      have := Ne.symm Sc.ne
      simpa using this
    show List.lookup ("self" : Str) [(n, uv), ("self", Value.ref a)] = some (Value.ref a)
    simp only [List.lookup, e', beq_self_eq_true]
  refine PySem.ks_wpAt_execs_cons (PySem.ks_wpAt_Expr_any ?_ hint rfl)
  obtain ⟨pl, hpl⟩ := CF X.env
  refine PySem.ks_wpAt_MethodCall (pl := pl) ?_ hpl
  · refine PySem.ks_wpAt_super_base (env := X.env) (f := fI) (cc := cda) Sc.sup Sc.cls (by decide) rfl (I0.kIn _ _ lk) rfl har rfl (I0.kIn _ _ lcda) rfl hvs hfile T.topS ?_
    obtain ⟨mb, hb1, hb2⟩ := I0.mod.blt
    refine PySem.W.ks_loadName_global Sc.kind Sc.sup (Calls.loadGlobal_builtin (I0.mod.glob.keeps I0.bk) N.super (hb1.keeps I0.bk) ((hb2 "super" (by decide)).trans (show bootBuiltins "super" = some (.type "super") by decide +kernel)) ⟨rfl, ?_⟩)
    refine wpAny_loadName_free (c := cc) (v := .ref C) Sc.kind Sc.cls List.lookup_cons_self ⟨_, I0.kIn _ _ lcc, rfl⟩ ?_
    refine wpAny_loadName_local Sc.kind Sc.slf hns0 hself ?_
    refine PySem.ks_wpAny_isType_cls (I0.kIn _ _ hCK) rfl ⟨rfl, ?_⟩
    obtain ⟨t1, hobj⟩ := exo_at I0.hok ha
    refine PySem.ks_wpAny_call_super (I0.kIn _ _ hCK) rfl hobj rfl (fun c e => by cases e) (PySem.W.looks_mroIn I0.kIn T.selfsub) (fun h1 hso kp1 => ?_)
    have J1 : L2.Inv X [] [some (.ref a), some v] H ⟨h1, s.gens, s.drawn, s.toks + ((["self", n] : List Str).zip [Value.ref a, uv]).length, s.os⟩ := I0.kept kp1
    have hsup := T.sup
    unfold PySem.W.ks_superIn at hsup
    rw [hcl] at hsup
    have IA : PySem.W.InstAt h1 a ({ cls := .ref C, dict := none, data := .fields #[.ref t1, .none, .none, .none, .bool false, .none] } : Obj) C none := ⟨kp1 _ _ hobj, rfl, rfl, trivial⟩
    refine PySem.W.kxs_getMethod PySem.W.kxs_ValueError (so := h0.objs.size) (D := C) (x := a) (C := C) (l₀ := cd.mro) hso (PySem.W.looks_opaque J1.kIn T.third)
      (fun A' Q' E' s' k q' => wpAny_bind ((PySem.W.looks_clsIn J1.kIn hcl) A' _ E' s' k (wpAny_pure q'))) rfl J1.kIn hsup (IA.type.andThen (PySem.W.looks_subIn J1.kIn T.sub)) (PySem.W.ks_ne J1.kIn IA hcl) (by decide) ?_
    -- the text is reckoned, the built-in __init__ bound to the error is called
    have J2 : L2.Inv X [(h1.objs.size, PySem.W.kxs_mw "ValueError.__init__" a)] [some (.ref a), some v] H ⟨h1.push (PySem.W.kxs_mw "ValueError.__init__" a), s.gens, s.drawn, s.toks + ((["self", n] : List Str).zip [Value.ref a, uv]).length + 1, s.os⟩ := by
      have J2' : L2.Inv X [] [some (.ref a), some v] H ⟨h1.push (PySem.W.kxs_mw "ValueError.__init__" a), s.gens, s.drawn, s.toks + ((["self", n] : List Str).zip [Value.ref a, uv]).length + 1, s.os⟩ := J1.kept (t' := s.toks + ((["self", n] : List Str).zip [Value.ref a, uv]).length + 1) fun b o e => Heap.get?_push_of_some _ e
      refine J2'.pins_of fun p hp => ?_
      obtain rfl : p = (h1.objs.size, PySem.W.kxs_mw "ValueError.__init__" a) := by simpa using hp
      exact ⟨Heap.get?_push_size _ rfl, J1.hok.fresh (Nat.le_refl _), Nat.ne_of_gt J1.lt, J1.nofs (Nat.le_refl _), fun v z => by cases z⟩
    have hpa : PA X [.Constant (.str tx) j p3] (tCons (tC (.str tx)) tNil) := pa_cons pe_str pa_nil
    refine PySem.W.kxs_callWith (i := "ValueError.__init__") (x := a) (by rfl) (Calls.evalArgs_plain (thn (hpa.run p4 _ _ _ H (fun vs H1 => vs = [.str tx] ∧ H1 = H) J2 ⟨rfl, rfl⟩) fun us1 s1 hh => ?_))
    obtain ⟨ws, H1, J3, rr, ew, eH⟩ := hh
    subst ew eH
    obtain ⟨hp1, _⟩ := J3.pin (h1.objs.size, PySem.W.kxs_mw "ValueError.__init__" a) (List.mem_append_right _ (List.mem_singleton.mpr rfl))
    refine ⟨hp1, ?_⟩
    obtain ⟨t2, hobj2⟩ := exo_at J3.hok ha
    have hz : us1.length ≤ sizeLine := by
      rw [← rr.length]
      show 1 ≤ sizeLine
      decide
    obtain ⟨hh2, gg, dd2, tt, oo⟩ := s1
    refine call_mw (J3.kIn _ _ hCK) hobj2 hp1 hz fun h2 t3 kp2 ho2 => ?_
    have J4 := J3.write (t' := tt) (x := a) (e := a) (o := exo a C none) (by rw [ha]; exact True.intro) (.inl rfl) kp2 ⟨_, ho2⟩ (exo_ok ho2)
    have eu : upd H1 a (exo a C none) = H1 := by
      funext b
      by_cases hb : b = a
      · rw [hb, upd_same, ha]
      · rw [upd_ne hb]
    rw [eu] at J4
    -- self.n = n
    refine wpAt_of_wpAny ?_
    have hst : PSs X [.Assign [.Attribute (.Name "self" p6) n p7] (.Name n p8) p9] _ := pss_one (ps_ost (p' := p7) (pos := p9) (pe_var (X := X) (i := 0) (x := "self") (pos := p6) rfl (.inl Sc.slf)) (pe_var (X := X) (i := 1) (x := n) (pos := p8) rfl (.inl Sc.nn) Sc.dbg Sc.cdi))
    refine thn (hst.run _ _ _ H1 { nx := fun _ H' => Q .non H', rt := fun _ _ => False } J4 ?_) fun fl s2 q2 => ?_
    · refine ⟨v, rfl, .ref a, rfl, a, C, rfl, T.oex, T.nof, .inl ⟨ha, fun dx h1 h2 => hQ dx h1 h2⟩⟩
    · cases fl with
      | next =>
        obtain ⟨σ', H', J5, q5⟩ := q2
        exact ⟨.non, H', J5.os, J5.bare, J5.base, J5.hok, rfl, q5⟩
      | ret u =>
        obtain ⟨_, _, _, _, _, z⟩ := q2
        exact z.elim
      | brk =>
        obtain ⟨_, _, _, z⟩ := q2
        exact z.elim
      | cont =>
        obtain ⟨_, _, _, z⟩ := q2
        exact z.elim
end
end K60
/-! K60Seq: lists and tuples alike: walked, zipped in any mix, indexed, cut, measured, turned. -/
namespace K60
open PySem PySem.Spec PyProof.Rows L2

/-- a tuple (t) or a list -/
def SqF (t : Bool) (K : PySem.W.Frag) (H : Hp) (a : Addr) (xs : List V) : Prop := match t with
  | true => SqT K H a xs
  | false => SqL K H a xs
section
variable {K : PySem.W.Frag} {H H' : Hp} {t : Bool} {a : Addr} {xs : List V}
theorem SqF.up (h : SqF t K H a xs) (e : Same H H') : SqF t K H' a xs := by
  cases t with
  | true => exact seqT e h
  | false => exact e.seq h
/-- the flag of a piece of data -/
theorem seqOf {v : V} {d : PyData} {ds : List PyData} (h : Dp K H v d) (e : seqD d = some ds) : ∃ t a xs, v = .ref a ∧ SqF t K H a xs ∧ DpAll K H xs ds ∧ d = (if t then .tuple ds else .list ds) := by
  cases d with
  | list es =>
    have e' : es = ds := Option.some.inj e
    subst e'
    obtain ⟨a, xs, h1, h2, h3⟩ := dInv_lst h
    exact ⟨false, a, xs, h1, h2, h3, rfl⟩
  | tuple es =>
    have e' : es = ds := Option.some.inj e
    subst e'
    obtain ⟨a, xs, h1, h2, h3⟩ := dInv_tup h
    exact ⟨true, a, xs, h1, h2, h3, rfl⟩
  | none => cases e
  | bool _ => cases e
  | int _ => cases e
  | str _ => cases e
  | dict _ => cases e
theorem seqBack {t : Bool} {ds : List PyData} (h : SqF t K H a xs) (g : DpAll K H xs ds) : Dp K H (.ref a) (if t then .tuple ds else .list ds) := by
  cases t with
  | true => exact .tup h g
  | false => exact .lst h g
end
section
variable {X : Cx} {pins : List (Addr × Obj)} {σ : L2.St} {H : Hp} {s : Shared} {t : Bool} {a : Addr} {xs : List V}
/-- its iterator stands at i -/
def ItrF (t : Bool) (h : Heap) (it a : Addr) (i : Nat) : Prop := match t with
  | true => h.IsTupleIter it a i
  | false => h.IsListIter it a i
def ItemsF (t : Bool) (h : Heap) (a : Addr) (its : Array Value) : Prop := match t with
  | true => h.IsTuple a its
  | false => h.IsList a its
theorem itemsF (I : L2.Inv X pins σ H s) (h : SqF t X.K H a xs) : ∃ its : List Value, Vals xs its ∧ ItemsF t s.heap a its.toArray ∧ a < s.heap.objs.size := by
  cases t with
  | true =>
    obtain ⟨its, r, p, _⟩ := I.tuple h
    exact ⟨its, r, p, p.lt⟩
  | false =>
    obtain ⟨its, r, p, _⟩ := I.list h
    exact ⟨its, r, p.isList, p.lt⟩
def itO (t : Bool) (a : Addr) : Obj := match t with
  | true => { cls := .type "tuple_iterator", data := .fields #[.ref a, .int 0 0] }
  | false => { cls := .type "list_iterator", data := .fields #[.ref a, .int 0 0] }
theorem beginsF (t : Bool) (a : Addr) (its : Array Value) : Begins (.ref a) (itO t a) fun h => ItemsF t h a its := by
  cases t with
  | true => exact begins_tuple a its
  | false => exact begins_list a its
theorem itrF_new {h : Heap} {it : Addr} (e : h.get? it = some (itO t a)) : ItrF t h it a 0 := by
  cases t with
  | true => exact ⟨_, e, rfl, rfl⟩
  | false => exact ⟨_, e, rfl, rfl⟩
theorem itrF_at {h h' : Heap} {it : Addr} {i : Nat} (x : ItrF t h it a i) (k : ∀ o, h.get? it = some o → h'.get? it = some o) : ItrF t h' it a i := by
  cases t with
  | true => exact Heap.IsTupleIter.at x k
  | false => exact Heap.IsListIter.at x k
theorem itrF_obj {h : Heap} {it : Addr} {i : Nat} (x : ItrF t h it a i) : ∃ o, h.get? it = some o ∧ ∀ v, o.data ≠ .cell v := by
  cases t with
  | true =>
    obtain ⟨o, e, _, d⟩ := (show h.IsTupleIter it a i from x)
    exact ⟨o, e, fun v z => by rw [d] at z; cases z⟩
  | false =>
    obtain ⟨o, e, _, d⟩ := (show h.IsListIter it a i from x)
    exact ⟨o, e, fun v z => by rw [d] at z; cases z⟩
theorem drawsF {prog : Program} {w : World} {A : Around} (hh : A.handled = none) (t : Bool) (it a : Addr) (hne : a ≠ it) (its : Array Value) :
    Draws prog w A it [it, a] its.size (fun i v => its[i]? = some v) (fun i h => ItrF t h it a i ∧ ItemsF t h a its) := by
  cases t with
  | true => exact Draws.tuple hh it a hne its
  | false => exact Draws.list hh it a hne its
end

/-- both at each turn, in new pairs -/
def ItzF (K : PySem.W.Frag) (t u : Bool) (a b : Addr) (xs ys : List V) : It :=
  ⟨fun i H => i < xs.length ∧ i < ys.length ∧ SqF t K H a xs ∧ SqF u K H b ys,
    fun i H v H' => ∃ T x y, v = .ref T ∧ H T = none ∧ H' = upd H T (.tup [x, y]) ∧ xs[i]? = some x ∧ ys[i]? = some y,
    fun i H => i ≤ xs.length ∧ i ≤ ys.length ∧ (i = xs.length ∨ i = ys.length) ∧ SqF t K H a xs ∧ SqF u K H b ys⟩
theorem walk_zipF {K : PySem.W.Frag} {t u : Bool} {a b : Addr} {xs ys : List V} : Walk (ItzF K t u a b xs ys) (min xs.length ys.length) (fun H => SqF t K H a xs ∧ SqF u K H b ys) (YPair (fun i => xs[i]?) (fun i => ys[i]?)) := by
  refine ⟨fun i H hi g => ⟨by omega, by omega, g.1, g.2⟩, fun H g => ⟨by omega, by omega, by omega, g.1, g.2⟩, fun i H x H' _ _ y => ?_⟩
  obtain ⟨T, p, q, h1, h2, h3, h4, h5⟩ := y
  exact ⟨T, p, q, h1, h2, h3, h4, h5⟩

theorem turn_zipF {P : Program} {w : World} {K : PySem.W.Frag} {elts : List Expr} {kk : Nat} {tpos : Pos} {t u : Bool} {a b z TI TO i1 i2 : Addr} {xs ys : List V} (S : ZipSep2 z TI TO i1 i2 [i1, a] [i2, b]) (ha : a ≠ i1) (hb : b ≠ i2) :
    Turn P w K (.Tuple elts kk tpos) (ItzF K t u a b xs ys) [z, TI, TO, i1, i2] z (fun i h => IsZip h z TI TO .none ∧ IsTupOf2 h TI (.ref i1) (.ref i2) ∧ (∃ x y, IsTupOf2 h TO x y) ∧ ItrF t h i1 a i ∧ ItrF u h i2 b i) where
  mem := List.mem_cons_self
  obj := fun i h st c hc => by
    obtain ⟨hz, hTI, ⟨x, y, hTO⟩, h1, h2⟩ := st
    rcases (show c = z ∨ c = TI ∨ c = TO ∨ c = i1 ∨ c = i2 by simpa using hc) with e | e | e | e | e <;> rw [e]
    · exact ⟨_, hz, fun v q => nomatch q⟩
    · exact ⟨_, hTI, fun v q => nomatch q⟩
    · exact ⟨_, hTO, fun v q => nomatch q⟩
    · exact itrF_obj h1
    · exact itrF_obj h2
  keep := fun i h h' st k => by
    obtain ⟨hz, hTI, ⟨x, y, hTO⟩, h1, h2⟩ := st
    refine ⟨k z (by simp) _ hz, k TI (by simp) _ hTI, ⟨x, y, k TO (by simp) _ hTO⟩, itrF_at h1 fun o e => k i1 (by simp) o e, itrF_at h2 fun o e => k i2 (by simp) o e⟩
  item := by
    intro X hP hw hK hc i pins s σ H E I hf st hg
    subst hP hw hK
    obtain ⟨hz, hTI, ⟨x0, y0, hTO⟩, h1, h2⟩ := st
    obtain ⟨l1, l2, q1, q2⟩ := hg
    obtain ⟨its, r1, p1, lt1⟩ := itemsF I q1
    obtain ⟨its2, r2, p2, lt2⟩ := itemsF I q2
    have n1 := r1.length
    have n2 := r2.length
    have hh : X.A.in1.handled = none := I.ok.hd hc
    have zlt : z < s.heap.objs.size := Heap.lt_size hz
    refine wpAny_pyNext_zipD2_item S (drawsF hh t i1 a ha its.toArray) (drawsF hh u i2 b hb its2.toArray) hz hTI hTO ⟨h1, p1⟩ ⟨h2, p2⟩ (by simp; omega) (by simp; omega) fun v1 v2 h' tk e1 e2 hz' hTO' s1 s2 hT _ hk => ?_
    obtain ⟨x, hx, rx⟩ : ∃ x, xs[i]? = some x ∧ RelV x v1 := by
      have hx : xs[i]? = some xs[i] := List.getElem?_eq_getElem l1
      obtain ⟨u1, hu, ru⟩ := r1.get hx
      have e1' : its[i]? = some v1 := by simpa using e1
      rw [hu] at e1'
      cases e1'
      exact ⟨_, hx, ru⟩
    obtain ⟨y, hy, ry⟩ : ∃ y, ys[i]? = some y ∧ RelV y v2 := by
      have hy : ys[i]? = some ys[i] := List.getElem?_eq_getElem l2
      obtain ⟨u1, hu, ru⟩ := r2.get hy
      have e2' : its2[i]? = some v2 := by simpa using e2
      rw [hu] at e2'
      cases e2'
      exact ⟨_, hy, ru⟩
    refine ⟨_, rfl, wpAny_letOwnedTupleGo_zip (s := { s with heap := h', toks := tk }) hz' fun h2' hz2 sb => ?_⟩
    have hT2 : h2'.get? s.heap.objs.size = some { cls := .type "tuple", data := .seq #[v1, v2] } := (sb.2 _ (Nat.ne_of_gt zlt)).trans hT
    have fresh : H s.heap.objs.size = none := I.hok.fresh (Nat.le_refl _)
    have new : ObjOk X.prog X.w (upd H s.heap.objs.size (.tup [x, y])) h2' s.heap.objs.size (.tup [x, y]) := ⟨(show 2 ≤ sizeLine by decide), [v1, v2], .cons rx (.cons ry .nil), ⟨_, hT2, rfl, _, rfl⟩⟩
    have kk2 : ∀ c o, c ∉ [z, TI, TO, i1, i2] → s.heap.get? c = some o → h2'.get? c = some o := fun c o hn e => by
      have nn : c ≠ z ∧ c ≠ TI ∧ c ≠ TO ∧ c ≠ i1 ∧ c ≠ i2 := by simpa using hn
      exact (sb.2 c nn.1).trans (hk c o nn.1 nn.2.2.1 nn.2.2.2.1 nn.2.2.2.2 e)
    have J := I.turnedNew (t' := tk) (ch := [z, TI, TO, i1, i2]) kk2 hf (Nat.le_refl _) new
    refine ⟨.ref s.heap.objs.size, _, J, rfl, ⟨_, x, y, rfl, fresh, rfl, hx, hy⟩, ⟨hz2, ?_, ⟨v1, v2, ?_⟩, ?_, ?_⟩, fun c hcm => ?_⟩
    · have nTO : TI ≠ TO := S.TITO
      exact (sb.2 _ S.TIz).trans (hk _ _ S.TIz nTO S.TIi1 S.TIi2 hTI)
    · exact (sb.2 _ S.TOz).trans hTO'
    · exact itrF_at s1.1 fun o e => (sb.2 _ (Ne.symm S.zi1)).trans e
    · exact itrF_at s2.1 fun o e => (sb.2 _ (Ne.symm S.zi2)).trans e
    · have hlt : c < s.heap.objs.size := by
        rcases (show c = z ∨ c = TI ∨ c = TO ∨ c = i1 ∨ c = i2 by simpa using hcm) with e | e | e | e | e <;> rw [e]
        · exact zlt
        · exact Heap.lt_size hTI
        · exact Heap.lt_size hTO
        · obtain ⟨o, e', _⟩ := itrF_obj h1
          exact Heap.lt_size e'
        · obtain ⟨o, e', _⟩ := itrF_obj h2
          exact Heap.lt_size e'
      exact (upd_ne (Nat.ne_of_lt hlt)).trans (hf c hcm).1
  done := by
    intro X hP hw hK hc i pins s σ H E I hf st hg
    subst hP hw hK
    obtain ⟨hz, hTI, ⟨x0, y0, hTO⟩, h1, h2⟩ := st
    obtain ⟨l1, l2, hend, q1, q2⟩ := hg
    obtain ⟨its, r1, p1, lt1⟩ := itemsF I q1
    obtain ⟨its2, r2, p2, lt2⟩ := itemsF I q2
    have n1 := r1.length
    have n2 := r2.length
    have hh : X.A.in1.handled = none := I.ok.hd hc
    refine wpAny_pyNext_zipD2_end S (drawsF hh t i1 a ha its.toArray) (drawsF hh u i2 b hb its2.toArray) hz hTI hTO ⟨h1, p1⟩ ⟨h2, p2⟩ (by simp; omega) (by simp; omega) (by simp; omega) fun h' tk hk => ⟨rfl, ?_⟩
    refine I.turnedL (t' := tk) (ch := [z, TI, TO, i1, i2]) (fun c o hn e => ?_) hf
    have nn : c ≠ z ∧ c ≠ TI ∧ c ≠ TO ∧ c ≠ i1 ∧ c ≠ i2 := by simpa using hn
    exact hk c o nn.1 nn.2.2.1 nn.2.2.2.1 nn.2.2.2.2 e
  self := fun A i s Q E st h => wpAny_pyIter_zip st.1 h

section
variable {X : Cx}
/-- zip(e, e2), of lists and tuples in any mix, that stay as they are -/
def iZipF (K : PySem.W.Frag) (ta : TA) : TI := fun σ H R => ta σ H fun vs H1 => ∃ (t u : Bool) (a b : Addr) (xs ys : List V), vs = [.ref a, .ref b] ∧ SqF t K H1 a xs ∧ SqF u K H1 b ys ∧
  ∀ J, Walk J (min xs.length ys.length) (fun H => SqF t K H a xs ∧ SqF u K H b ys) (YPair (fun i => xs[i]?) (fun i => ys[i]?)) → R J H1
theorem pi_zipF {e e2 : Expr} {ta : TA} {p pos tpos : Pos} {elts : List Expr} {kk : Nat} (hm : X.mg "zip" = none) (ha : PA X [e, e2] ta) (hg : Gl X "zip" := by rfl)
    (hs : starEach [e, e2] X.env = (false, eval e X.env) :: starEach [e2] X.env := by rfl) (hpl : (backTo pos (starEach [e2] X.env)).any (·.1) = false := by rfl) :
    PI X (.Tuple elts kk tpos) (.Call (.Name "zip" p) [e, e2] [] pos) (iZipF X.K ta) := by
  refine ⟨fun pins s σ H R I h => ?_⟩
  refine Call_ (ld_blt I hg hm PyProof.Rows.boot_zip (PyProof.Rows.callWith_type1 (thn (ha.run pos pins s σ H _ I h) fun us s1 hh => ?_) hs hpl))
  obtain ⟨vs, H1, I1, r1, t, u, a, b, xs, ys, ex, q1, q2, q⟩ := hh
  subst ex
  obtain ⟨ua, ub, rfl, ra, rb⟩ := vals2 r1
  cases ra
  cases rb
  obtain ⟨its, _, p1, la⟩ := itemsF I1 q1
  obtain ⟨its2, _, p2, lb⟩ := itemsF I1 q2
  refine zip_begins2 (beginsF t a its.toArray) (beginsF u b its2.toArray) p1 p2 fun h' hz hTI hTO g1 g2 hsz hk => wpAny_pyIter_zip hz ?_
  have I2 : L2.Inv X pins σ H1 { s1 with heap := h' } := I1.kept (t' := s1.toks) hk
  have low1 : ∀ c ∈ [a], c < s1.heap.objs.size := fun c hc => by
    rw [List.mem_singleton.mp hc]
    exact la
  have low2 : ∀ c ∈ [b], c < s1.heap.objs.size := fun c hc => by
    rw [List.mem_singleton.mp hc]
    exact lb
  refine ⟨s1.heap.objs.size + 4, [s1.heap.objs.size + 4, s1.heap.objs.size + 2, s1.heap.objs.size + 3, s1.heap.objs.size, s1.heap.objs.size + 1], _, _, H1, rfl, I2,
    turn_zipF (zip_sep2 low1 low2) (Nat.ne_of_lt la) (Nat.ne_of_lt (Nat.lt_of_lt_of_le lb (Nat.le_add_right _ _))), ⟨hz, hTI, ⟨_, _, hTO⟩, itrF_new g1, itrF_new g2⟩, fun c hcm => ?_, q _ walk_zipF⟩
  have hle : s1.heap.objs.size ≤ c := by
    rcases (show c = s1.heap.objs.size + 4 ∨ c = s1.heap.objs.size + 2 ∨ c = s1.heap.objs.size + 3 ∨ c = s1.heap.objs.size ∨ c = s1.heap.objs.size + 1 by simpa using hcm) with e | e | e | e | e <;> rw [e]
    all_goals first | exact Nat.le_add_right _ _ | exact Nat.le_refl _
  exact I1.fpOk hle (I1.hok.fresh hle)

/-- a list or a tuple that stays as it is, walked -/
def iSeqF (K : PySem.W.Frag) (te : TE) : TI := fun σ H R => te σ H fun v H1 => ∃ (t : Bool) (a : Addr) (xs : List V), v = .ref a ∧ SqF t K H1 a xs ∧ ∀ J, Walk J xs.length (fun H => SqF t K H a xs) (YAt xs) → R J H1
theorem pi_seqF {tg e : Expr} {te : TE} (he : PE X e te) : PI X tg e (iSeqF X.K te) := by
  refine ⟨fun pins s σ H R I h => ?_⟩
  refine thn (he.run pins s σ H _ I h) fun v s1 hh => ?_
  obtain ⟨x, H1, I1, r1, t, a, xs, ex, q1, q⟩ := hh
  subst ex
  cases r1
  have fp : ∀ c ∈ [s1.heap.objs.size], FpOk X pins H1 c := fun c hc => by
    rw [List.mem_singleton.mp hc]
    exact I1.fpOk (Nat.le_refl _) (I1.hok.fresh (Nat.le_refl _))
  cases t with
  | false =>
    obtain ⟨its, _, p, _⟩ := I1.list q1
    exact wpAny_pyIter_list p.isList ⟨s1.heap.objs.size, [s1.heap.objs.size], _, _, H1, rfl, I1.kept (t' := s1.toks) fun c o e => Heap.get?_push_of_some _ e, turn_list a _, ⟨_, Heap.get?_push_size _ rfl, rfl, rfl⟩, fp, q _ walk_list⟩
  | true =>
    obtain ⟨its, _, p, _⟩ := I1.tuple q1
    exact wpAny_pyIter_tuple (show s1.heap.IsTuple a its.toArray from p) ⟨s1.heap.objs.size, [s1.heap.objs.size], _, _, H1, rfl, I1.kept (t' := s1.toks) fun c o e => Heap.get?_push_of_some _ e, turn_tuple a _, ⟨_, Heap.get?_push_size _ rfl, rfl, rfl⟩, fp, q _ walk_tup⟩
end
end K60
/-! K60Rd: readings of data: cut, turned, indexed, measured, made a tuple, added, found in a tuple. -/
namespace K60
open PySem PySem.Spec PyProof.Rows L2

/-! ### plain -/
def cutL {α : Type} (xs : List α) (lo hi : Option Int) : List α := (xs.drop (HT.sIx xs.length 0 lo)).take (HT.sIx xs.length xs.length hi - HT.sIx xs.length 0 lo)
/-- of the same kind -/
def like (d : PyData) (es : List PyData) : PyData := match d with
  | .tuple _ => .tuple es
  | _ => .list es
theorem cutL_nat {α : Type} (xs : List α) (i j : Nat) : cutL xs (some (i : Int)) (some (j : Int)) = (xs.drop i).take (j - i) := by
  unfold cutL
  rw [HT.sIx_nat, HT.sIx_nat]
  by_cases h : i ≤ xs.length
  · rw [Nat.min_eq_left h]
    by_cases h2 : j ≤ xs.length
    · rw [Nat.min_eq_left h2]
    · have e : min j xs.length = xs.length := by omega
      rw [e]
      rw [List.take_of_length_le (by rw [List.length_drop]; omega), List.take_of_length_le (by rw [List.length_drop]; omega)]
  · have e : min i xs.length = xs.length := by omega
    rw [e, List.drop_eq_nil_of_le (Nat.le_refl _), List.drop_eq_nil_of_le (show xs.length ≤ i by omega)]
    simp
theorem cutL_from {α : Type} (xs : List α) (i : Nat) : cutL xs (some (i : Int)) none = xs.drop i := by
  unfold cutL
  rw [HT.sIx_nat, HT.sIx_none]
  by_cases h : i ≤ xs.length
  · rw [Nat.min_eq_left h, List.take_of_length_le (by rw [List.length_drop]; omega)]
  · have e : min i xs.length = xs.length := by omega
    rw [e, List.drop_eq_nil_of_le (Nat.le_refl _), List.drop_eq_nil_of_le (show xs.length ≤ i by omega)]
    simp
theorem cutL_to {α : Type} (xs : List α) (j : Nat) : cutL xs none (some (j : Int)) = xs.take j := by
  unfold cutL
  rw [HT.sIx_nat, HT.sIx_none, List.drop_zero, Nat.sub_zero]
  by_cases h : j ≤ xs.length
  · rw [Nat.min_eq_left h]
  · have e : min j xs.length = xs.length := by omega
    rw [e, List.take_of_length_le (Nat.le_refl _), List.take_of_length_le (show xs.length ≤ j by omega)]
theorem seqD_like {d : PyData} {ds : List PyData} (h : seqD d = some ds) : d = like d ds := by
  cases d with
  | list es => cases h; rfl
  | tuple es => cases h; rfl
  | none => cases h
  | bool _ => cases h
  | int _ => cases h
  | str _ => cases h
  | dict _ => cases h
theorem like_seq (d : PyData) (es : List PyData) : seqD (like d es) = some es := by
  cases d <;> rfl
theorem daCut {K : PySem.W.Frag} {H : Hp} {vs : List V} {ds : List PyData} (h : DpAll K H vs ds) (lo hi : Option Int) : DpAll K H (cutL vs lo hi) (cutL ds lo hi) := by
  unfold cutL
  rw [daLen h]
  exact daTake _ (daDrop _ h)

/-! ### t[::-1] of a tuple -/
section
variable {prog : Program} {w : World} {A : Around} {E : Value → Shared → Prop} {s : Shared}
theorem fmC {α β : Type} {f g : α → Option β} : ∀ l : List α, (∀ m ∈ l, f m = g m) → l.filterMap f = l.filterMap g
  | [], _ => rfl
  | x :: l, h => by
    rw [List.filterMap_cons, List.filterMap_cons, h x List.mem_cons_self, fmC l fun m hm => h m (List.mem_cons_of_mem _ hm)]
theorem rev_pick (items : Array Value) : ((List.range items.size).filterMap fun (m : Nat) => items[(((items.size : Int) - 1) + (m : Int) * (-1)).toNat]?).toArray = items.toList.reverse.toArray := by
  have h := HT.pick_gen items.toList.reverse.toArray 0 items.size
  rw [List.drop_zero, List.take_of_length_le (by simp)] at h
  rw [← h]
  congr 1
  refine fmC _ fun m hm => ?_
  have hm' : m < items.size := List.mem_range.mp hm
  have e1 : ((((0 : Nat) : Int)) + (m : Int) * 1).toNat = m := by omega
  have e2 : (((items.size : Int) - 1) + (m : Int) * (-1)).toNat = items.size - 1 - m := by omega
  have e3 : items.toList.reverse.toArray[m]? = items.toList.reverse[m]? := by simp only [List.getElem?_toArray]
  have e4 : items[items.size - 1 - m]? = items.toList[items.size - 1 - m]? := by simp only [Array.getElem?_toList]
  rw [e1, e2, e3, e4, List.getElem?_reverse (by simpa using hm')]
  simp only [Array.length_toList]
theorem sliceApplied_rev {sl : Addr} {vl vu vs : Value} {n : Nat} {Q : Int × Int × Nat → Shared → Prop} (hs : s.heap.IsSliceOf sl vl vu vs) (pl : IsPart vl none) (pu : IsPart vu none) (ps : IsPart vs (some (-1)))
    (h : Q (((n : Int) - 1), -1, n) s) : wpAny (model prog w) A (Builtin.Slice.sliceApplied (.ref sl) (pure (n : Int))) Q E s := by
  obtain ⟨os, hos, hcs, hds⟩ := id hs
  unfold Builtin.Slice.sliceApplied Builtin.Slice.sliceFields
  refine wpAny_bind (wpAny_bind (wpAny_field hos hds (x := vl) rfl (wpAny_bind (wpAny_field hos hds (x := vu) rfl (wpAny_bind (wpAny_field hos hds (x := vs) rfl (wpAny_pure ?_)))))))
  refine wpAny_bind (HT.slicePart_ ps ?_)
  show wpAny _ _ (if ((-1 : Int) == 0) = true then _ else _) _ _ s
  rw [if_neg (by decide)]
  refine wpAny_bind (HT.slicePart_ pl (wpAny_bind (HT.slicePart_ pu (wpAny_bind (wpAny_pure ?_)))))
  show wpAny _ _ (match Builtin.Slice.sliceAdjust none none (-1) (n : Int) with | (lo, hi) => pure (lo, (-1 : Int), Builtin.Slice.slicePlaces lo hi (-1))) _ _ s
  have e1 : Builtin.Slice.sliceAdjust none none (-1) (n : Int) = ((n : Int) - 1, -1) := rfl
  rw [e1]
  have e2 : Builtin.Slice.slicePlaces ((n : Int) - 1) (-1) (-1) = n := by
    unfold Builtin.Slice.slicePlaces
    rw [if_neg (by decide)]
    by_cases h0 : (n : Int) - 1 > -1
    · rw [if_pos h0]
      have e : ((n : Int) - 1 - -1 - 1) / (- -1) = (n : Int) - 1 := by
        have : (- -1 : Int) = 1 := by decide
        rw [this, Int.ediv_one] <;> omega
      rw [e]
      omega
    · rw [if_neg h0]
      omega
  show wpAny _ _ (pure ((n : Int) - 1, (-1 : Int), Builtin.Slice.slicePlaces ((n : Int) - 1) (-1) (-1))) _ _ s
  rw [e2]
  exact wpAny_pure h
theorem getItem_tuple_rev {t sl : Addr} {items : Array Value} {vl vu vs : Value} {Q : Value → Shared → Prop} (ht : IsTup s.heap t items) (hs : s.heap.IsSliceOf sl vl vu vs) (pl : IsPart vl none) (pu : IsPart vu none) (ps : IsPart vs (some (-1)))
    (h : Q (.ref s.heap.objs.size) { s with heap := s.heap.push { cls := .type "tuple", data := .seq items.toList.reverse.toArray } })
    (hsz : items.size ≤ sizeLine) : wpAny (model prog w) A (getItem (.ref t) (.ref sl)) Q E s := by
  have htake : sizeOk (.seq items.toList.reverse.toArray) := by
    show items.toList.reverse.toArray.size ≤ sizeLine
    rw [List.size_toArray, List.length_reverse, Array.length_toList]
    exact hsz
  obtain ⟨os, hos, hcs, hds⟩ := id hs
  have hTs : s.TypeIs (.ref sl) "slice" := ⟨os, hos, hcs⟩
  unfold getItem
  try with_reducible refine wpAny_holding ?_
  first | refine wpAny_bind (wpAny_pure ?_) | skip
  refine wpAny_bind (wpAny_sequenceKey ht.typeIs (by decide) ?_)
  refine wpAny_bind (wpAny_callSpecial?_slot (name := Str.ofString "__getitem__") ht.typeIs PyProof.Rows.slot_tuple_getitem
    (wpAny_call_entry PyProof.Rows.slot_tuple_getitem ht.typeIs entry_tuple_getitem ?_ (args_tuple_getitem _ _)))
  show wpAny _ _ (Builtin.Tuple.tupleItemsOf (.ref t) >>= _) _ _ s
  refine wpAny_bind (tupleItemsOf_ ht ?_)
  refine wpAny_bind (wpAny_typeOf hTs ?_)
  rw [if_pos (by decide)]
  refine wpAny_bind (sliceApplied_rev hs pl pu ps ?_)
  have hno : ¬ ((((items.size : Int) - 1) == 0 && (-1 : Int) == 1 && items.size == items.size) = true) := by
    intro q
    rw [Bool.and_eq_true, Bool.and_eq_true] at q
    exact absurd q.1.2 (by decide)
  show wpAny _ _ (if (((items.size : Int) - 1) == 0 && (-1 : Int) == 1 && items.size == items.size) = true then _ else _) _ _ s
  rw [if_neg hno, rev_pick]
  first
    | exact wpAny_bind (m := Builtin.Tuple.tupleExact _) (wpAny_newObj_type (wpAny_pure ⟨_, rfl, wpAny_pure h⟩) htake)
    | exact wpAny_bind (m := Builtin.Tuple.tupleExact _) (wpAny_newObj_type (wpAny_bind (wpAny_pure (wpAny_pure ⟨_, rfl, wpAny_pure h⟩))) htake)
    | exact wpAny_bind (wpAny_bind (m := Builtin.Tuple.tupleExact _) (wpAny_newObj_type (wpAny_pure (wpAny_pure ⟨_, rfl, wpAny_pure h⟩)) htake))
    | exact wpAny_bind (wpAny_bind (m := Builtin.Tuple.tupleExact _) (wpAny_newObj_type (wpAny_pure ⟨_, rfl, wpAny_pure h⟩) htake))
end

section
variable {X : Cx}
def tRevD (K : PySem.W.Frag) (te : TE) : TE := fun σ H Q => te σ H fun x H1 => ∃ ds, Dp K H1 x (.tuple ds) ∧ ∀ v H', Same H1 H' → Dp K H' v (.tuple ds.reverse) → Q v H'
theorem pe_revD {e : Expr} {te : TE} {k : Nat} {p1 p2 p3 pos : Pos} (he : PE X e te) : PE X (.Subscript e (.Slice none none (some (.UnaryOp .USub (.Constant (.int 1) k p1) p2)) p3) pos) (tRevD X.K te) := by
  refine ⟨fun pins s σ H Q I h => ?_⟩
  refine Subscript_ (thn (he.run pins s σ H _ I h) fun v s1 ⟨x, H1, I1, r1, q1⟩ => ?_)
  obtain ⟨ds, hd, q⟩ := q1
  obtain ⟨a, xs, ex, hx, ha⟩ := dInv_tup hd
  subst ex
  cases r1
  have hst : PO X (some (.UnaryOp .USub (.Constant (.int 1) k p1) p2)) (tPart (tUn (rU fun i => .int (-i)) (tC (.int 1)))) := po_some (pe_un un_neg pe_int)
  refine wpAny_Slice (thn (po_none.run pins s1 σ H1 (fun o H2 => o = none ∧ H2 = H1) I1 ⟨rfl, rfl⟩) fun vl s2 ⟨l, H2, I2, pl, el, e2⟩ => ?_)
  subst el e2
  refine thn (po_none.run pins s2 σ H2 (fun o H3 => o = none ∧ H3 = H2) I2 ⟨rfl, rfl⟩) fun vu s3 ⟨u, H3, I3, pu, eu, e3⟩ => ?_
  subst eu e3
  refine thn (hst.run pins s3 σ H3 (fun o H4 => o = some (-1) ∧ H4 = H3) I3 ⟨1, rfl, -1, rfl, rfl, rfl⟩) fun vs s4 ⟨o, H4, I4, ps, eo, e4⟩ => ?_
  subst eo e4
  have I5 : L2.Inv X pins σ H4 { s4 with heap := s4.heap.push { cls := .type "slice", data := .fields #[vl, vu, vs] } } := I4.kept (t' := s4.toks) fun b ob q => Heap.get?_push_of_some _ q
  obtain ⟨its, r, ht, hz⟩ := I5.tuple hx
  have hlen := r.length
  show wpAny (model X.prog X.w) X.A (subscriptTail e (.Slice none none (some (.UnaryOp .USub (.Constant (.int 1) k p1) p2)) p3) (.ref a) (.ref s4.heap.objs.size)) (EP X pins σ Q) X.xe { s4 with heap := s4.heap.push { cls := .type "slice", data := .fields #[vl, vu, vs] } }
  refine tail_any (ops := [.ref a, .ref s4.heap.objs.size]) ht.typeIs (PyProof.Rows.slot_tuple_getitem.lookup) ?_ (by with_unfolding_all rfl)
  have hsz : its.toArray.size ≤ sizeLine := by rw [List.size_toArray]; omega
  have fresh := I5.hok.fresh (Nat.le_refl _)
  refine getItem_tuple_rev ht (Heap.IsSliceOf.new _ vl vu vs) pl pu ps ?_ hsz
  refine ⟨.ref _, _, I5.laid (t' := s4.toks) (o := .tup xs.reverse) (fun b ob q => Heap.get?_push_of_some _ q) (Nat.le_refl _) ?_, rfl, q _ _ (Same.nw fresh) (dTup upd_same (DmA (daRev ha) (Same.nw fresh)))⟩
  exact ⟨by rw [List.length_reverse]; exact hz, _, r.reverse, IsTup.new _ _⟩

/-! ### d[lo:hi] -/
def rSlD (K : PySem.W.Frag) : V → Option Int → Option Int → Hp → VK → Prop := fun x lo hi H Q => ∃ d ds, Dp K H x d ∧ seqD d = some ds ∧ ∀ v H', Same H H' → Dp K H' v (like d (cutL ds lo hi)) → Q v H'
theorem sl_D : SlR X (rSlD X.K) := by
  intro pins s σ H x v vl vu lo hi sl Q I rx hs pl pu h
  obtain ⟨d, ds, hd, hs2, q⟩ := h
  refine (sl_list.or sl_tupA) pins s σ H x v vl vu lo hi sl Q I rx hs pl pu ?_
  cases d with
  | list es =>
    cases hs2
    obtain ⟨a, xs, rfl, h1, h2⟩ := dInv_lst hd
    exact .inl ⟨a, xs, rfl, h1, fun p hp => q _ _ (Same.nw hp) (dLst upd_same (DmA (daCut h2 lo hi) (Same.nw hp)))⟩
  | tuple es =>
    cases hs2
    obtain ⟨a, xs, rfl, h1, h2⟩ := dInv_tup hd
    refine .inr ⟨a, xs, rfl, h1, fun hw => ?_, fun _ p hp => q _ _ (Same.nw hp) (dTup upd_same (DmA (daCut h2 lo hi) (Same.nw hp)))⟩
    refine q _ _ (fun _ _ e => e) ?_
    have e : cutL ds lo hi = ds := by
      unfold cutL
      rw [← daLen h2, hw.1, hw.2, List.drop_zero, Nat.sub_zero, daLen h2, List.take_length]
    rw [e]
    exact hd
  | none => cases hs2
  | bool _ => cases hs2
  | int _ => cases hs2
  | str _ => cases hs2
  | dict _ => cases hs2

/-! ### len, index, tuple() -/
def rLenD (K : PySem.W.Frag) : List V → Hp → VK → Prop := fun xs H Q => ∃ v d ds, xs = [v] ∧ Dp K H v d ∧ seqD d = some ds ∧ Q (.int ds.length) H
theorem call_lenD : CallR X (.builtin "len") (rLenD X.K) := by
  intro pins s σ H xs us Q I r h
  obtain ⟨v, d, ds, rfl, hd, hs, q⟩ := h
  obtain ⟨t, a, ys, rfl, h1, h2, _⟩ := seqOf hd hs
  refine call_len_seq pins s σ H _ us Q I r ⟨a, ys, rfl, ?_, ?_⟩
  · cases t with
    | true => exact .inr h1
    | false => exact .inl h1
  · rw [daLen h2]
    exact q
theorem daAt {K : PySem.W.Frag} {H : Hp} {vs : List V} {ds : List PyData} {i : Int} {e : PyData} (h : DpAll K H vs ds) (a : atI ds i = some e) : ∃ v, atI vs i = some v ∧ Dp K H v e := by
  unfold atI at a ⊢
  rw [daLen h]
  cases hj : ixN ds.length i with
  | none => rw [hj] at a; cases a
  | some j =>
    rw [hj] at a
    exact daGet' h a
def rIxDD (K : PySem.W.Frag) : R2 := fun x y H Q => ∃ d ds i e, Dp K H x d ∧ seqD d = some ds ∧ y = .int i ∧ atI ds i = some e ∧ ∀ v, Dp K H v e → Q v H
theorem ix_D : IxR X (rIxDD X.K) := by
  intro value slice pins s σ H x y v u Q I rx ry h hs
  obtain ⟨d, ds, i, e, hd, hsq, rfl, ha, q⟩ := h
  obtain ⟨t, a, ys, rfl, h1, h2, _⟩ := seqOf hd hsq
  obtain ⟨z, hz, hdz⟩ := daAt h2 ha
  refine ix_seq value slice pins s σ H _ _ v u Q I rx ry ?_ hs
  cases t with
  | true => exact .inr (.inl ⟨a, ys, i, z, rfl, rfl, h1, hz, q z hdz⟩)
  | false => exact .inl ⟨a, ys, i, z, rfl, rfl, h1, hz, q z hdz⟩
def rTupD (K : PySem.W.Frag) : List V → Hp → VK → Prop := fun xs H Q => ∃ v d ds, xs = [v] ∧ Dp K H v d ∧ seqD d = some ds ∧ ∀ v' H', Same H H' → Dp K H' v' (.tuple ds) → Q v' H'
theorem call_tupleD : CallR X (.type "tuple") (rTupD X.K) := by
  intro pins s σ H xs us Q I r h
  obtain ⟨v, d, ds, rfl, hd, hs, q⟩ := h
  obtain ⟨t, a, ys, rfl, h1, h2, hdd⟩ := seqOf hd hs
  refine call_tuple_of pins s σ H _ us Q I r ⟨a, ys, rfl, ?_⟩
  cases t with
  | true => exact .inr ⟨h1, q _ _ (fun _ _ e => e) (.tup h1 h2)⟩
  | false => exact .inl ⟨h1, fun l hl => q _ _ (Same.nw hl) (dTup upd_same (DmA h2 (Same.nw hl)))⟩
/-! ### tuple + tuple -/
def rCatD (K : PySem.W.Frag) : R2 := fun x y H Q => ∃ ds es, Dp K H x (.tuple ds) ∧ Dp K H y (.tuple es) ∧ ds.length + es.length ≤ sizeLine ∧ ∀ v H', Same H H' → Dp K H' v (.tuple (ds ++ es)) → Q v H'
theorem op_catD : OpR X (binaryOp .Add) (rCatD X.K) := by
  intro pins s σ H x y v u Q I rx ry h
  obtain ⟨ds, es, hd, he, hz, q⟩ := h
  obtain ⟨a, xs, rfl, h1, h2⟩ := dInv_tup hd
  obtain ⟨b, ys, rfl, h3, h4⟩ := dInv_tup he
  have l1 := daLen h2
  have l2 := daLen h4
  refine op_catA pins s σ H _ _ v u Q I rx ry ⟨a, b, xs, ys, rfl, rfl, h1, h3, by omega, fun e => ?_, fun _ e => ?_, fun _ _ p hp => ?_⟩
  · subst e
    cases h2
    exact q _ _ (fun _ _ e => e) he
  · subst e
    cases h4
    rw [List.append_nil] at q
    exact q _ _ (fun _ _ e => e) hd
  · exact q _ _ (Same.nw hp) (dTup upd_same (DmA (daApp h2 h4) (Same.nw hp)))
/-! ### x in a tuple -/
def rInTD (K : PySem.W.Frag) : R2 := fun x y H Q => ∃ d ds, Dp K H x d ∧ Dp K H y (.tuple ds) ∧ SeqAt.shaped d = true ∧ SeqAt.shaped (.list ds) = true ∧ Q (.bl (ds.any fun z => PyData.eqv z d)) H
theorem op_inTD (hu : X.A.units + 65 < cLine) : OpR X (compareOp .In) (rInTD X.K) := by
  intro pins s σ H x y v u Q I rx ry h
  obtain ⟨d, ds, hd, he, sd, se, q⟩ := h
  obtain ⟨as, r1⟩ := Dp.reads I d x v hd rx
  obtain ⟨bs, r2⟩ := Dp.reads I (.tuple ds) y u he ry
  exact SeqAt.in_tuple_reads r2 r1 (SeqAt.canLay_of_shaped se) (SeqAt.canLay_of_shaped sd) (room_in_shaped sd hu) ⟨.bl _, H, I, rfl, q⟩
/-- the items of a list, of a tuple, in a comprehension or a loop, by data -/
theorem dItem {K : PySem.W.Frag} {H : Hp} {xs : List V} {ds : List PyData} {i : Nat} {v : V} (h : DpAll K H xs ds) (e : xs[i]? = some v) : ∃ d, ds[i]? = some d ∧ Dp K H v d := daGet h e
end
end K60
/-! K60Er: raise X(e), X an own error with one field. -/
namespace K60
open PySem PySem.Spec PyProof.Rows L2

/-- the own error class at C, bound to x, with its one field n -/
structure ErC (P : Program) (w : World) (K : PySem.W.Frag) (mg : Str → Option Value) (base : Heap) (x : Str) (C : Addr) (n : Str) : Prop where
  oex : OexC K C
  ex : ∃ (fI : Addr) (fd : FuncData), PySem.W.findIn K (.ref C) "__init__" = some (some (.ref fI)) ∧ PySem.W.typeIn K (.ref fI) = some (.type "function") ∧ FnOk P w K mg base CX0 1 fI fd ["self", n] (spExI C n) ∧ Binds K fd ["self", n] []
  hm : mg x = some (.ref C)

/-- what is let out: an error of the class at C whose one field is v -/
def Out (H : Hp) (C : Addr) (n : Str) (v : V) (E : XK) : Prop := ∀ d H', Same H H' → H' d = some (.xd [(n, v)]) → E (.ref C) (some d) H'
theorem Out.at {H H' : Hp} {C : Addr} {n : Str} {v : V} {E : XK} (h : Out H C n v E) (e : Same H H') : Out H' C n v E := fun d H2 e2 hd => h d H2 (fun a o q => e2 a o (e a o q)) hd

theorem mk_er {H1 : Hp} {C : Addr} {n : Str} {v : V} {Q : XK} (h : Out H1 C n v Q) : ([v] : List V).length ≤ 1000 ∧ ∀ a, H1 a = none → spExI C n (.ref a :: ([v] ++ [])) (upd H1 a (exo a C none))
    (fun u H2 => u = .non ∧ ∃ (d : Addr) (fs : List (Str × V)), H2 a = some (exo a C (some d)) ∧ H2 d = some (exd d fs) ∧ H1 d = none ∧ Q (.ref C) (some d) (upd (del H2 a) d (.xd fs))) (fun _ _ _ => False) := by
  refine ⟨by show 1 ≤ 1000; decide, fun a ha => ⟨a, v, rfl, upd_same, fun dx hdx hne => ?_⟩⟩
  rw [upd_ne hne] at hdx
  refine ⟨rfl, dx, [(n, v)], upd_same, ?_, hdx, h dx _ (fun b u e => ?_) upd_same⟩
  · rw [upd_ne hne, upd_same]
  · have hb : b ≠ a := ne_of_none e ha
    have hb2 : b ≠ dx := ne_of_none e hdx
    rw [upd_ne hb2, del_ne hb, upd_ne hb, upd_ne hb2, upd_ne hb]
    exact e

section
variable {X : Cx} {x : Str} {C : Addr} {n : Str} {e : Expr} {te : TE} {W : WX} {p pos pos2 : Pos}
theorem ps_raiseEr (hc : X.calm = true) (tk : Takes X W) (c : ErC X.prog X.w X.K X.mg X.base x C n) (hr : Room 2 X.A) (he : PE X e te) (hg : Gl X x := by rfl)
    (hdb : (x == ("__debug__" : Str)) = false := by decide) (hs : starEach [e] X.env = (false, eval e X.env) :: starEach [] X.env := by rfl) (hpl : (backTo pos (starEach [] X.env)).any (·.1) = false := by rfl) :
    PS X (.Raise (some (.Call (.Name x p) [e] [] pos)) none pos2) (fun _ σ H => tMkO C (spExI C n) [] (tCons te tNil) σ H fun cls d H' => W cls d σ H') := by
  obtain ⟨fI, fd, iC, tI, F1, hb⟩ := c.ex
  exact ps_raise hc tk (pmk_oex c.oex iC tI F1 hr hb .nil pass0 hg c.hm (pa_cons he pa_nil hs) hdb hs hpl)
end
end K60
/-! K60F1: check_things, is_hunk. -/
namespace K60
open PySem PySem.Spec PyProof.Rows L2

theorem ifT {c : Bool} {A B : Prop} (h : c = true) (q : A) : if c = true then A else B := by
  rw [if_pos h]
  exact q
theorem ifF {c : Bool} {A B : Prop} (h : c = false) (q : B) : if c = true then A else B := by
  rw [if_neg (by rw [h]; exact Bool.false_ne_true)]
  exact q
theorem sameR {H : Hp} : Same H H := fun _ _ e => e
theorem sameT {H H1 H2 : Hp} (a : Same H H1) (b : Same H1 H2) : Same H H2 := fun x o e => b x o (a x o e)

def isHunkD (d : PyData) : Bool := match seqD d with
  | some [p, o, n] => isNumD p && (isSeqD o && isSeqD n)
  | _ => false
/-- a list or a tuple as a tuple, or refused -/
def spTh (K : PySem.W.Frag) (C : Addr) : Sp := fun vs H Q E => ∃ v d, vs = [v] ∧ Dp K H v d ∧ (∀ ds, seqD d = some ds → ∀ v' H', Same H H' → Dp K H' v' (.tuple ds) → Q v' H') ∧ (seqD d = none → Out H C "at" v E)

section
variable {P : Program} {w : World} {K : PySem.W.Frag} {mg : Str → Option Value} {base : Heap} {f C : Addr} {fd : FuncData}

theorem sc9 : FnScope ["value"] ["value"] (defScope (top 9)) := ⟨rfl, rfl, rfl, by decide +kernel, rfl, by decide +kernel, by decide +kernel⟩
theorem ok_check_things (F : Fun K "check_things" "check_things" (top 9) f fd) (N : Nm mg) (cs : Cl P w K mg base CX0 1 "is_sequence" ["value"] (spGr K isSeqD)) (er : ErC P w K mg base "Refused" C "at") :
    FnOk P w K mg base (L2.CX P w) 3 f fd ["value"] (spTh K C) := by
  refine F.okX sc9 (fun vs H Q E h => ?_) (fun cdv A outer s H vs Q E hr h => ?_)
  · obtain ⟨v, d, rfl, _⟩ := h
    rfl
  · obtain ⟨v, d, rfl, hd, q1, q2⟩ := h
    refine ⟨_, pss_cons (ps_if (pt_not (pt_val (pe_cl cs hr (by decide) pass0 (pa_cons (pv 0) pa_nil)))) (pss_one (ps_raiseEr rfl (takes_of rfl rfl rfl rfl) er hr (pv 0))) pss_nil)
      (pss_one (ps_ret (pe_callTy call_tupleD rfl N.tuple (by decide +kernel) (pa_cons (pv 0) pa_nil)))), ?_⟩
    refine ⟨v, rfl, v, d, rfl, hd, fun H' e => ⟨_, rfl, ?_⟩⟩
    cases hs : seqD d with
    | none =>
      have e1 : isSeqD d = false := by unfold isSeqD; rw [hs]; rfl
      rw [e1]
      exact iteT ⟨v, rfl, mk_er ((q2 hs).at e)⟩
    | some ds =>
      have e1 : isSeqD d = true := by unfold isSeqD; rw [hs]; rfl
      rw [e1]
      exact iteF ⟨v, rfl, v, d, ds, rfl, Dm hd e, hs, fun v' H2 e2 hd2 => q1 ds hs v' H2 (sameT e e2) hd2⟩

theorem sc11 : FnScope ["value"] ["value"] (defScope (top 11)) := ⟨rfl, rfl, rfl, by decide +kernel, rfl, by decide +kernel, by decide +kernel⟩
theorem ok_is_hunk (F : Fun K "is_hunk" "is_hunk" (top 11) f fd) (N : Nm mg) (cs : Cl P w K mg base CX0 1 "is_sequence" ["value"] (spGr K isSeqD)) (cn : Cl P w K mg base CX0 2 "is_number" ["value"] (spBy K isNumD)) :
    FnOk P w K mg base CX0 3 f fd ["value"] (spGr K isHunkD) := by
  refine F.ok sc11 (fun vs H Q E h => ?_) (fun cdv A outer s H vs Q E hr h => ?_)
  · obtain ⟨v, d, rfl, _⟩ := h
    rfl
  · obtain ⟨v, d, rfl, hd, q⟩ := h
    refine ⟨_, pss_cons (ps_if (PW.pt (pw_or (pt_not (pt_val (pe_cl cs hr (by decide) pass0 (pa_cons (pv 0) pa_nil))))
        (pw_or (pt_cmp (pc_neI (pe_callB call_lenD rfl N.len (by decide +kernel) (pa_cons (pv 0) pa_nil)) pe_int))
        (pw_or1 (pt_not (pt_val (pe_cl cn hr (by decide) pass0 (pa_cons (pe_ix ix_D (pv 0) pe_int (fun _ _ => rfl)) pa_nil)))))))) (pss_one (ps_ret pe_bl)) pss_nil)
      (pss_one (ps_ret (pe_and (pe_cl cs hr (by decide) pass0 (pa_cons (pe_ix ix_D (pv 0) pe_int (fun _ _ => rfl)) pa_nil)) (pe_one (pe_cl cs hr (by decide) pass0 (pa_cons (pe_ix ix_D (pv 0) pe_int (fun _ _ => rfl)) pa_nil)))))), ?_⟩
    refine ⟨v, rfl, v, d, rfl, hd, fun H1 e1 => ⟨_, rfl, ?_⟩⟩
    cases hs : seqD d with
    | none =>
      have e0 : isSeqD d = false := by unfold isSeqD; rw [hs]; rfl
      have eh : isHunkD d = false := by unfold isHunkD; rw [hs]
      rw [e0]
      rw [eh] at q
      exact iteT (iteT (q _ e1))
    | some ds =>
      have e0 : isSeqD d = true := by unfold isSeqD; rw [hs]; rfl
      rw [e0]
      refine iteF ?_
      refine ⟨v, rfl, v, d, ds, rfl, Dm hd e1, hs, _, _, rfl, rfl, _, rfl, ?_⟩
      by_cases hl : ds.length = 3
      · obtain ⟨p, o, n, rfl⟩ : ∃ p o n, ds = [p, o, n] := by
          match ds, hl with
          | [p, o, n], _ => exact ⟨p, o, n, rfl⟩
        refine ifF rfl ?_
        refine ⟨v, rfl, d, [p, o, n], 0, p, Dm hd e1, hs, rfl, rfl, fun vp hp => ?_⟩
        refine ⟨vp, p, rfl, hp, _, rfl, ?_⟩
        have eh : isHunkD d = (isNumD p && (isSeqD o && isSeqD n)) := by unfold isHunkD; rw [hs]
        rw [eh] at q
        cases hn : isNumD p with
        | false =>
          rw [hn] at q
          exact iteT (q _ e1)
        | true =>
          rw [hn] at q
          refine iteF ?_
          refine ⟨v, rfl, d, [p, o, n], 1, o, Dm hd e1, hs, rfl, rfl, fun vo ho => ?_⟩
          refine ⟨vo, o, rfl, ho, fun H2 e2 => ⟨_, rfl, ?_⟩⟩
          cases hso : isSeqD o with
          | false =>
            rw [hso] at q
            exact iteF (q _ (sameT e1 e2))
          | true =>
            rw [hso] at q
            refine iteT ?_
            refine ⟨v, rfl, d, [p, o, n], 2, n, Dm hd (sameT e1 e2), hs, rfl, rfl, fun vn hn2 => ?_⟩
            exact ⟨vn, n, rfl, hn2, fun H3 e3 => q _ (sameT (sameT e1 e2) e3)⟩
      · have eh : isHunkD d = false := by
          unfold isHunkD
          rw [hs]
          split
          · rename_i p o n e
            cases e
            exact absurd rfl hl
          · rfl
        rw [eh] at q
        refine ifT ?_ (iteT (q _ e1))
        have e3 : ¬ (((ds.length : Nat) : Int) = 3) := by omega
        show (!decide _) = true
        rw [decide_eq_false e3]
        rfl
end
end K60
/-! K60Lc: comprehensions and loops by data. -/
namespace K60
open PySem PySem.Spec PyProof.Rows L2

/-! ### data without lists: they stay while lists change -/
mutual
def nl : PyData → Bool
  | .list _ => false
  | .tuple ds => nlA ds
  | .dict _ => false
  | _ => true
def nlA : List PyData → Bool
  | [] => true
  | d :: ds => nl d && nlA ds
end
theorem nlA_iff : ∀ {ds : List PyData}, nlA ds = true ↔ ∀ d ∈ ds, nl d = true
  | [] => ⟨fun _ _ h => (by cases h), fun _ => by simp only [nlA]⟩
  | d :: ds => by
    simp only [nlA, Bool.and_eq_true, List.mem_cons, forall_eq_or_imp]
    rw [nlA_iff]
theorem nl_tuple {ds : List PyData} : nl (.tuple ds) = nlA ds := by simp only [nl]
/-- all but the lists stay -/
def SameN (H H' : Hp) : Prop := ∀ b o, H b = some o → (∀ xs, o ≠ .lst xs) → H' b = some o
section
variable {K : PySem.W.Frag} {H H' : Hp}
theorem seqN {a : Addr} {xs : List V} (e : SameN H H') (h : SqT K H a xs) : SqT K H' a xs := by
  rcases h with (h | ⟨o, h⟩) | h
  · exact .inl (.inl (e _ _ h fun xs z => by cases z))
  · exact .inl (.inr ⟨o, e _ _ h fun xs z => by cases z⟩)
  · exact .inr h
mutual
theorem dN (e : SameN H H') : ∀ (d : PyData) (v : V), nl d = true → Dp K H v d → Dp K H' v d
  | .none, _, _, h => by cases h; exact .non
  | .bool b, _, _, h => by cases h; exact .bl b
  | .int i, _, _, h => by cases h; exact .int i
  | .str x, _, _, h => by cases h; exact .str x
  | .list ds, _, n, h => by simp only [nl] at n; cases n
  | .tuple ds, _, n, h => by
    cases h with
    | tup hs ha => exact .tup (seqN e hs) (dNA e ds _ (by simpa only [nl] using n) ha)
  | .dict _, _, _, h => by cases h
theorem dNA (e : SameN H H') : ∀ (ds : List PyData) (vs : List V), nlA ds = true → DpAll K H vs ds → DpAll K H' vs ds
  | [], _, _, h => by cases h; exact .nil
  | d :: ds, _, n, h => by
    cases h with
    | cons h1 h2 =>
      simp only [nlA, Bool.and_eq_true] at n
      exact .cons (dN e d _ n.1 h1) (dNA e ds _ n.2 h2)
end
theorem sameN_lst {D : Addr} {xs ys : List V} (h : H D = some (.lst xs)) : SameN H (upd H D (.lst ys)) := fun b o e n => by
  by_cases hb : b = D
  · rw [hb, h] at e
    cases e
    exact absurd rfl (n xs)
  · rw [upd_ne hb]
    exact e
theorem Same.n (h : Same H H') : SameN H H' := fun b o e _ => h b o e
/-- a new object, then others grow -/
theorem Same.out {D : Addr} {o : HO} {H1 : Hp} (h : Same H H1) (hD : H D = none) : Same H (upd H1 D o) := Same.md h hD
end

/-! ### the rules, K by name (within a comprehension's block) -/
section
variable {X : Cx}
theorem ixK (K : PySem.W.Frag) (h : X.K = K := by rfl) : IxR X (rIxDD K) := h ▸ ix_D
theorem slK (K : PySem.W.Frag) (h : X.K = K := by rfl) : SlR X (rSlD K) := h ▸ sl_D
theorem lenK (K : PySem.W.Frag) (h : X.K = K := by rfl) : CallR X (.builtin "len") (rLenD K) := h ▸ call_lenD
theorem tupK (K : PySem.W.Frag) (h : X.K = K := by rfl) : CallR X (.type "tuple") (rTupD K) := h ▸ call_tupleD
theorem catK (K : PySem.W.Frag) (h : X.K = K := by rfl) : OpR X (binaryOp .Add) (rCatD K) := h ▸ op_catD
theorem eqK (K : PySem.W.Frag) (hu : X.A.units + 64 < cLine) (h : X.K = K := by rfl) : OpR X (compareOp .Eq) (rEqD K) := h ▸ op_eqD hu
theorem revK (K : PySem.W.Frag) {e : Expr} {te : TE} {k : Nat} {p1 p2 p3 pos : Pos} (he : PE X e te) (h : X.K = K := by rfl) : PE X (.Subscript e (.Slice none none (some (.UnaryOp .USub (.Constant (.int 1) k p1) p2)) p3) pos) (tRevD K te) := h ▸ pe_revD he
theorem tupG (K : PySem.W.Frag) {es : List Expr} {k : Nat} {t : TGs} {n : Nat} {pos : Pos} (hc : X.calm = true) (hh : PGs X es t) (h : X.K = K := by rfl)
    (hn : (assignEach es X.env).length = n := by rfl) (hst : (assignEach es X.env).findIdx? (·.1) = none := by rfl) : PG X (.Tuple es k pos) (gTup K n t) := h ▸ pg_tup hc hh hn hst
end

/-! ### a pair to two names -/
theorem g_pair {K : PySem.W.Frag} {i j : Nat} {x y : V} {T : Addr} {σ : L2.St} {H : Hp} {Q : L2.St → Hp → Prop} (h : H T = some (.tup [x, y])) (q : Q ((σ.set i (some x)).set j (some y)) H) :
    gTup K 2 (gCons (gName i) (gCons (gName j) gNil)) (.ref T) σ H Q := ⟨T, [x, y], rfl, SqT.of h, rfl, x, [y], rfl, y, [], rfl, rfl, q⟩
/-- of data -/
theorem g_pairD {K : PySem.W.Frag} {i j : Nat} {v : V} {d e : PyData} {σ : L2.St} {H : Hp} {Q : L2.St → Hp → Prop} (h : Dp K H v (.tuple [d, e])) (q : ∀ x y, Dp K H x d → Dp K H y e → Q ((σ.set i (some x)).set j (some y)) H) :
    gTup K 2 (gCons (gName i) (gCons (gName j) gNil)) v σ H Q := by
  obtain ⟨a, xs, rfl, h1, h2⟩ := dInv_tup h
  cases h2 with
  | cons p1 r =>
    cases r with
    | cons p2 r =>
      cases r
      exact ⟨a, _, rfl, h1, rfl, _, _, rfl, _, _, rfl, rfl, q _ _ p1 p2⟩
theorem g_tripD {K : PySem.W.Frag} {i j l : Nat} {v : V} {d e c : PyData} {σ : L2.St} {H : Hp} {Q : L2.St → Hp → Prop} (h : Dp K H v (.tuple [d, e, c])) (q : ∀ x y z, Dp K H x d → Dp K H y e → Dp K H z c → Q (((σ.set i (some x)).set j (some y)).set l (some z)) H) :
    gTup K 3 (gCons (gName i) (gCons (gName j) (gCons (gName l) gNil))) v σ H Q := by
  obtain ⟨a, xs, rfl, h1, h2⟩ := dInv_tup h
  cases h2 with
  | cons p1 r =>
    cases r with
    | cons p2 r =>
      cases r with
      | cons p3 r =>
        cases r
        exact ⟨a, _, rfl, h1, rfl, _, _, rfl, _, _, rfl, _, _, rfl, rfl, q _ _ _ p1 p2 p3⟩
theorem zipOf {K : PySem.W.Frag} {H : Hp} {v v2 : V} {d d2 : PyData} {ds es : List PyData} (h1 : Dp K H v d) (e1 : seqD d = some ds) (h2 : Dp K H v2 d2) (e2 : seqD d2 = some es) :
    ∃ (t u : Bool) (a b : Addr) (xs ys : List V), [v, v2] = [.ref a, .ref b] ∧ SqF t K H a xs ∧ SqF u K H b ys ∧ DpAll K H xs ds ∧ DpAll K H ys es := by
  obtain ⟨t, a, xs, rfl, p1, p2, _⟩ := seqOf h1 e1
  obtain ⟨u, b, ys, rfl, q1, q2, _⟩ := seqOf h2 e2
  exact ⟨t, u, a, b, xs, ys, rfl, p1, q1, p2, q2⟩

/-! ### a comprehension whose items are data without lists -/
section
variable {K : PySem.W.Frag} {J : It} {n : Nat} {G : Hp → Prop} {Y : Nat → Hp → V → Hp → Prop} {g : TG} {tt : TT} {te : TE} {vs : List Nat} {σ : L2.St} {H1 : Hp} {D : Addr} {Qd : Hp → Prop}
theorem lc_data (f : Nat → Option PyData) (w : Walk J n G Y) (hn : n ≤ sizeLine) (hD : H1 D = none) (hnl : ∀ i e, i < n → f i = some e → nl e = true) (hG : ∀ H, Same H1 H → G H)
    (hs : ∀ i x H H' (Ky : V → Hp → Prop) (Kn : Hp → Prop), i < n → Same H1 H → Y i H x H' → (∀ e, f i = some e → ∀ y H4, Same H H4 → Dp K H4 y e → Ky y H4) → (f i = none → ∀ H4, Same H H4 → Kn H4) →
      g x (wipe σ vs) H' fun σ2 H2 => wipe σ2 vs = wipe σ vs ∧ tt σ2 H2 fun b H3 => if b = true then te σ2 H3 Ky else Kn H3)
    (hd : ∀ H acc, Same H1 H → H D = some (.lst acc) → DpAll K H acc ((List.range n).filterMap f) → Qd H) :
    ∃ W : Nat → Nat → Hp → Prop, (∃ m, W 0 m (upd H1 D (.lst []))) ∧ ∀ i m H, W i m H →
      (J.stop i H ∧ Qd H) ∨ (J.go i H ∧ ∃ Nx : Hp → Prop, (∀ H', Nx H' → ∃ m', m' < m ∧ W (i + 1) m' H') ∧ ∀ x H', J.yld i H x H' → g x (wipe σ vs) H' fun σ2 H2 => wipe σ2 vs = wipe σ vs ∧ tt σ2 H2 fun b H3 =>
        if b = true then te σ2 H3 fun y H4 => ∃ acc, H4 D = some (.lst acc) ∧ acc.length < sizeLine ∧ Nx (upd H4 D (.lst (acc ++ [y]))) else Nx H3) := by
  have sub : ∀ i, i ≤ n → nlA ((List.range i).filterMap f) = true := fun i hi => nlA_iff.mpr fun d hd => by
    obtain ⟨j, hj, e⟩ := List.mem_filterMap.mp hd
    exact hnl j d (by have := List.mem_range.mp hj; omega) e
  refine lc_it w (fun i H => Same H1 H ∧ ∃ acc, H D = some (.lst acc) ∧ acc.length ≤ i ∧ DpAll K H acc ((List.range i).filterMap f)) ⟨Same.nw hD, [], upd_same, Nat.le_refl _, .nil⟩ (fun i H _ p => hG H p.1) (fun i x H H' hi p y => ?_) (fun H p => ?_)
  · obtain ⟨s1, acc, ha, hl, hda⟩ := p
    refine hs i x H H' _ _ hi s1 y (fun e he y4 H4 s4 hy => ?_) (fun he H4 s4 => ?_)
    · refine ⟨acc, s4 _ _ ha, by omega, Same.md (sameT s1 s4) hD, acc ++ [y4], upd_same, by rw [List.length_append]; show acc.length + 1 ≤ i + 1; omega, ?_⟩
      rw [List.range_succ, List.filterMap_append]
      have e1 : List.filterMap f [i] = [e] := by simp [he]
      rw [e1]
      refine dNA (sameN_lst (s4 _ _ ha)) _ _ ?_ (daApp (DmA hda s4) (daOne hy))
      refine nlA_iff.mpr fun d hd => ?_
      rcases List.mem_append.mp hd with hd | hd
      · exact nlA_iff.mp (sub i (Nat.le_of_lt hi)) d hd
      · rw [List.mem_singleton.mp hd]
        exact hnl i e hi he
    · refine ⟨sameT s1 s4, acc, s4 _ _ ha, by omega, ?_⟩
      rw [List.range_succ, List.filterMap_append]
      have e1 : List.filterMap f [i] = [] := by simp [he]
      rw [e1, List.append_nil]
      exact DmA hda s4
  · obtain ⟨s1, acc, ha, hl, hda⟩ := p
    exact hd H acc s1 ha hda
end
/-- what a map over a list gives, by places -/
theorem range_map {α β : Type} (l : List α) (h : α → β) {n : Nat} (hn : n = l.length) : (List.range n).filterMap (fun i => l[i]?.map h) = l.map h := by
  subst hn
  have key : ∀ l : List α, (List.range l.length).filterMap (fun i => l[i]?.map h) = l.map h := by
    intro l
    induction l with
    | nil => rfl
    | cons x l ih =>
      rw [List.length_cons, List.range_succ_eq_map, List.filterMap_cons]
      show h x :: _ = _
      rw [List.filterMap_map, List.map_cons, ← ih]
      rfl
  exact key l
end K60
/-! K60F2: check_patch. -/
namespace K60
open PySem PySem.Spec PyProof.Rows L2

abbrev H3 := Nat × List PyData × List PyData
def hkD (d : PyData) : Option H3 := match seqD d with
  | some [.int p, o, n] => match decide (0 ≤ p), seqD o, seqD n with
    | true, some os, some ns => some (p.toNat, os, ns)
    | _, _, _ => none
  | _ => none
theorem hkD_iff {d : PyData} {h : H3} (e : hkD d = some h) : ∃ o n, seqD d = some [.int (h.1 : Int), o, n] ∧ seqD o = some h.2.1 ∧ seqD n = some h.2.2 := by
  unfold hkD at e
  split at e
  · rename_i p o n e1
    split at e
    · rename_i os ns e2 e3 e4
      cases e
      have e2' := of_decide_eq_true e2
      refine ⟨o, n, ?_, e3, e4⟩
      rw [e1, Int.toNat_of_nonneg e2']
    · cases e
  · cases e
theorem isHunk_hk {d : PyData} (e : isHunkD d = true) : ∃ h, hkD d = some h := by
  unfold isHunkD at e
  split at e
  · rename_i p o n e1
    simp only [Bool.and_eq_true] at e
    obtain ⟨e2, e3, e4⟩ := e
    unfold isNumD at e2
    split at e2
    · rename_i i
      unfold isSeqD at e3 e4
      obtain ⟨os, e5⟩ := Option.isSome_iff_exists.mp e3
      obtain ⟨ns, e6⟩ := Option.isSome_iff_exists.mp e4
      exact ⟨(i.toNat, os, ns), by unfold hkD; rw [e1]; simp only [e2, e5, e6]⟩
    · cases e2
  · cases e
theorem hk_isHunk {d : PyData} {h : H3} (e : hkD d = some h) : isHunkD d = true := by
  obtain ⟨o, n, h1, h2, h3⟩ := hkD_iff e
  unfold isHunkD isSeqD
  rw [h1]
  simp [isNumD, h2, h3]
def tup3 (h : H3) : PyData := .tuple [.int (h.1 : Int), .tuple h.2.1, .tuple h.2.2]
def Ord3 (hs : List H3) : Prop := ∀ i a b, hs[i]? = some a → hs[i + 1]? = some b → a.1 + a.2.1.length ≤ b.1
/-- the patch that is told by a value -/
def Told (d : PyData) (hs : List H3) : Prop := ∃ ds, seqD d = some ds ∧ ds.map hkD = hs.map some ∧ Ord3 hs
def nl3 (h : H3) : Bool := nlA h.2.1 && nlA h.2.2
theorem map_get {ds : List PyData} {hs : List H3} (e : ds.map hkD = hs.map some) {i : Nat} {d : PyData} (hd : ds[i]? = some d) : ∃ h, hs[i]? = some h ∧ hkD d = some h := by
  have h1 : (ds.map hkD)[i]? = some (hkD d) := by rw [List.getElem?_map, hd]; rfl
  rw [e, List.getElem?_map] at h1
  cases h2 : hs[i]? with
  | none => rw [h2] at h1; cases h1
  | some h =>
    rw [h2] at h1
    exact ⟨h, rfl, (Option.some.inj h1).symm⟩
theorem map_get' {ds : List PyData} {hs : List H3} (e : ds.map hkD = hs.map some) {i : Nat} {h : H3} (hd : hs[i]? = some h) : ∃ d, ds[i]? = some d ∧ hkD d = some h := by
  have h1 : (hs.map some)[i]? = some (some h) := by rw [List.getElem?_map, hd]; rfl
  rw [← e, List.getElem?_map] at h1
  cases h2 : ds[i]? with
  | none => rw [h2] at h1; cases h1
  | some d =>
    rw [h2] at h1
    exact ⟨d, rfl, Option.some.inj h1⟩
theorem map_len {ds : List PyData} {hs : List H3} (e : ds.map hkD = hs.map some) : ds.length = hs.length := by
  have := congrArg List.length e
  simpa using this
theorem all_hunks : ∀ {ds : List PyData}, ds.all isHunkD = true → ∃ hs : List H3, ds.map hkD = hs.map some
  | [], _ => ⟨[], rfl⟩
  | d :: ds, h => by
    rw [List.all_cons, Bool.and_eq_true] at h
    obtain ⟨a, ha⟩ := isHunk_hk h.1
    obtain ⟨hs, hh⟩ := all_hunks h.2
    exact ⟨a :: hs, by rw [List.map_cons, List.map_cons, ha, hh]⟩
theorem hunks_all {ds : List PyData} {hs : List H3} (e : ds.map hkD = hs.map some) : ds.all isHunkD = true := by
  refine List.all_eq_true.mpr fun d hd => ?_
  obtain ⟨i, hi⟩ := List.getElem?_of_mem hd
  obtain ⟨h, _, h2⟩ := map_get e hi
  exact hk_isHunk h2
/-- a patch, checked -/
def spCp (K : PySem.W.Frag) (C : Addr) : Sp := fun vs H Q E => ∃ v d, vs = [v] ∧ Dp K H v d ∧ (∀ ds, seqD d = some ds → ds.length ≤ 1000) ∧ (∀ hs, Told d hs → hs.all nl3 = true ∧ ∀ v' H', Same H H' → Dp K H' v' (.tuple (hs.map tup3)) → Q v' H') ∧ ((∀ hs, ¬ Told d hs) → Out H C "at" v E)
theorem nl_tup3 {h : H3} (n : nl3 h = true) : nl (tup3 h) = true := by
  unfold nl3 at n
  rw [Bool.and_eq_true] at n
  simp [tup3, nl, nlA, n.1, n.2]

section
variable {P : Program} {w : World} {K : PySem.W.Frag} {mg : Str → Option Value} {base : Heap} {f C : Addr} {fd : FuncData}

abbrev N12 : List Str := ["value", "one", "other", "hunk"]
theorem sc12 : FnScope N12 ["value"] (defScope (top 12)) := ⟨rfl, rfl, rfl, by decide +kernel, rfl, by decide +kernel, by decide +kernel⟩
theorem bl_all {K : PySem.W.Frag} {H : Hp} : ∀ {acc : List V} {bs : List Bool}, DpAll K H acc (bs.map .bool) → acc = bs.map V.bl
  | _, [], h => by cases h; rfl
  | _, b :: bs, h => by
    cases h with
    | cons h1 h2 =>
      cases h1
      rw [bl_all h2]
      rfl
theorem ok_check_patch (F : Fun K "check_patch" "check_patch" (top 12) f fd) (N : Nm mg) (cs : Cl P w K mg base CX0 1 "is_sequence" ["value"] (spGr K isSeqD)) (ch : Cl P w K mg base CX0 3 "is_hunk" ["value"] (spGr K isHunkD)) (er : ErC P w K mg base "Refused" C "at") :
    FnOk P w K mg base (L2.CX P w) 4 f fd ["value"] (spCp K C) := by
  have nd : (N12).Nodup := by decide +kernel
  refine F.okX sc12 (fun vs H Q E h => ?_) (fun cdv A outer s H vs Q E hr h => ?_)
  · obtain ⟨v, d, rfl, _⟩ := h
    rfl
  · obtain ⟨v, d, rfl, hd, hsm, q1, q2⟩ := h
    refine ⟨_, pss_cons (ps_if (PW.pt (pw_or (pt_not (pt_val (pe_cl cs hr (by decide) pass0 (pa_cons (pv 0) pa_nil))))
        (pw_or1 (pt_not (pt_val (pe_callB (cr_all rfl) rfl N.all (by decide +kernel) (pa_cons (pe_lc (own := [("hunk", 3)]) (g := gName 3) (tt := tYes) rfl nd (pi_seqF (pv 0)) (blkOk_by (N := N12) (sc := defScope (top 12)) (by decide +kernel))
          (fun _ _ _ _ _ => pg_name (i := 3) nd rfl (Or.inl rfl)) (fun _ _ _ _ _ => pts_nil) (fun _ _ _ _ _ => pe_cl ch hr (by decide) pass0 (pa_cons (pv 3) pa_nil))) pa_nil))))))) (pss_one (ps_raiseEr rfl (takes_of rfl rfl rfl rfl) er (hr.mono (by decide)) (pv 0))) pss_nil)
      (pss_cons (ps_for (passes_of rfl) rfl (pi_zipF N.zip (pa_cons (pv 0) (pa_cons (pe_slice (slK K) (pv 0) (po_some pe_int) po_none) pa_nil))) (pg_tup rfl (pgs_cons (pg_name (i := 1) nd rfl (Or.inl rfl)) (pgs_cons (pg_name (i := 2) nd rfl (Or.inl rfl)) pgs_nil)))
        (pss_one (ps_if (pt_cmp (pc_gt (pe_add (pe_ix (ixK K) (pv 1) pe_int (fun _ _ => rfl)) (pe_callB (id := "len") (lenK K) rfl N.len (by decide +kernel) (pa_cons (pe_ix (ixK K) (pv 1) pe_int (fun _ _ => rfl)) pa_nil))) (pe_ix (ixK K) (pv 2) pe_int (fun _ _ => rfl))))
          (pss_one (ps_raiseEr rfl (takes_of rfl rfl rfl rfl) er (hr.mono (by decide)) (pv 0))) pss_nil)))
      (pss_one (ps_ret (pe_callTy (T := "tuple") (tupK K) rfl N.tuple (by decide +kernel) (pa_cons (pe_lc (own := [("hunk", 3)]) (g := gName 3) (tt := tYes) rfl nd (pi_seqF (pv 0)) (blkOk_by (N := N12) (sc := defScope (top 12)) (by decide +kernel))
          (fun _ _ _ _ _ => pg_name (i := 3) nd rfl (Or.inl rfl)) (fun _ _ _ _ _ => pts_nil) (fun _ _ _ _ _ => pe_tup (pa_cons (pe_ix (ixK K) (pv 3) pe_int (fun _ _ => rfl)) (pa_cons (pe_callTy (T := "tuple") (tupK K) rfl N.tuple (by decide +kernel) (pa_cons (pe_ix (ixK K) (pv 3) pe_int (fun _ _ => rfl)) pa_nil))
            (pa_cons (pe_callTy (T := "tuple") (tupK K) rfl N.tuple (by decide +kernel) (pa_cons (pe_ix (ixK K) (pv 3) pe_int (fun _ _ => rfl)) pa_nil)) pa_nil))))) pa_nil))))), ?_⟩
    refine ⟨v, rfl, v, d, rfl, hd, fun H1 e1 => ⟨_, rfl, ?_⟩⟩
    cases hs : seqD d with
    | none =>
      have e0 : isSeqD d = false := by unfold isSeqD; rw [hs]; rfl
      rw [e0]
      refine iteT (iteT ⟨v, rfl, mk_er ((q2 fun hs' ⟨ds, h1, _⟩ => ?_).at e1)⟩)
      rw [hs] at h1
      cases h1
    | some ds =>
      have e0 : isSeqD d = true := by unfold isSeqD; rw [hs]; rfl
      rw [e0]
      refine iteF ?_
      have hsm := hsm ds hs
      have hsl : (1000 : Nat) ≤ sizeLine := by rw [sizeLine_eq]; decide
      obtain ⟨t, a, xs, ev, hq, ha, _⟩ := seqOf (Dm hd e1) hs
      have hln := daLen ha
      refine ⟨v, rfl, t, a, xs, ev, hq, fun J wk D hD => lc_data (K := K) (fun i => (ds[i]?).map fun d => .bool (isHunkD d)) wk (by omega) hD (fun i e hi he => ?_) (fun H2 s2 => hq.up s2) (fun i x H2 H3 Ky Kn hi s2 y ky kn => ?_) (fun H2 acc s2 hacc hda => ?_)⟩
      · obtain ⟨d', _, rfl⟩ := Option.map_eq_some_iff.mp he
        rfl
      · obtain ⟨rfl, hx⟩ := y
        obtain ⟨d', hd', hx'⟩ := daGet ha hx
        exact ⟨rfl, x, rfl, x, d', rfl, Dm hx' s2, fun H4 s4 => ky (.bool (isHunkD d')) (by rw [hd']; rfl) _ _ s4 (.bl _)⟩
      rw [range_map ds (fun d => PyData.bool (isHunkD d)) hln, show ds.map (fun d => PyData.bool (isHunkD d)) = (ds.map isHunkD).map .bool by rw [List.map_map]; rfl] at hda
      have eacc := bl_all hda
      rw [eacc] at hacc
      refine ⟨D, ds.map isHunkD, rfl, SqL.of hacc, _, rfl, ?_⟩
      have eall : (ds.map isHunkD).all id = ds.all isHunkD := by rw [List.all_map]; rfl
      rw [eall]
      have s02 : Same H H2 := sameT e1 s2
      cases hal : ds.all isHunkD with
      | false =>
        refine iteT ⟨v, rfl, mk_er ((q2 fun hs' ⟨ds', h1, h2, _⟩ => ?_).at s02)⟩
        rw [hs] at h1
        cases h1
        rw [hunks_all h2] at hal
        cases hal
      | true =>
        refine iteF ?_
        obtain ⟨hs3, hmap⟩ := all_hunks hal
        have hd2 := Dm hd s02
        refine ⟨v, rfl, v, rfl, _, rfl, d, ds, hd2, hs, fun v2 H3 s3 hv2 => ?_⟩
        rw [show (some (1 : Int)) = some ((1 : Nat) : Int) from rfl, cutL_from] at hv2
        obtain ⟨t, u, a, b, xs, ys, ez, z1, z2, z3, z4⟩ := zipOf (Dm hd2 s3) hs hv2 (like_seq _ _)
        have hlx := daLen z3
        have hly := daLen z4
        rw [List.length_drop] at hly
        have s03 := sameT s02 s3
        refine ⟨t, u, a, b, xs, ys, ez, z1, z2, fun J wk => ?_⟩
        refine for_it wk (fun i σ H' => (∃ a b c, σ = [some v, a, b, c]) ∧ Same H3 H' ∧ ∀ j, j < i → ∀ a b, hs3[j]? = some a → hs3[j + 1]? = some b → a.1 + a.2.1.length ≤ b.1) ⟨⟨_, _, _, rfl⟩, sameR, fun j hj => by omega⟩
          (fun i σ H' _ p => ⟨z1.up p.2.1, z2.up p.2.1⟩) (fun i x σ H4 H5 hi p y => ?_) (fun σ H4 p => ?_)
        · obtain ⟨⟨c1, c2, c3, rfl⟩, s4, hj⟩ := p
          obtain ⟨T, x1, x2, rfl, hT, rfl, g1, g2⟩ := y
          have s45 : Same H4 (upd H4 T (.tup [x1, x2])) := Same.nw hT
          have s05 := sameT (sameT s03 s4) s45
          obtain ⟨d1, k1, w1⟩ := daGet z3 g1
          obtain ⟨d2, k2, w2⟩ := daGet z4 g2
          rw [List.getElem?_drop] at k2
          obtain ⟨h1, m1, n1⟩ := map_get hmap k1
          obtain ⟨h2, m2, n2⟩ := map_get hmap k2
          obtain ⟨o1, n1', u1, u2, u3⟩ := hkD_iff n1
          obtain ⟨o2, n2', u4, u5, u6⟩ := hkD_iff n2
          have w1' := Dm w1 (sameT s4 s45)
          have w2' := Dm w2 (sameT s4 s45)
          refine g_pair upd_same ?_
          refine ⟨x1, rfl, _, _, 0, _, w1', u1, rfl, rfl, fun v1 hv1 => ?_⟩
          refine ⟨x1, rfl, _, _, 1, _, w1', u1, rfl, rfl, fun vo hvo => ⟨vo, o1, _, rfl, hvo, u2, ?_⟩⟩
          refine ⟨_, _, dInv_int hv1, rfl, ?_⟩
          refine ⟨x2, rfl, _, _, 0, _, w2', u4, rfl, rfl, fun v3 hv3 => ⟨_, _, rfl, dInv_int hv3, _, rfl, ?_⟩⟩
          by_cases hle : h1.1 + h1.2.1.length ≤ h2.1
          · refine ifF (decide_eq_false (by omega)) ?_
            refine ⟨⟨_, _, _, rfl⟩, sameT s4 s45, fun j hji a b ja jb => ?_⟩
            by_cases hje : j = i
            · subst hje
              rw [Nat.add_comm] at m2
              rw [m1] at ja
              rw [m2] at jb
              cases ja
              cases jb
              exact hle
            · exact hj j (by omega) a b ja jb
          · refine ifT (decide_eq_true (by omega)) ⟨v, rfl, mk_er ((q2 fun hs' ⟨ds', v1, v2, v3⟩ => ?_).at s05)⟩
            rw [hs] at v1
            cases v1
            rw [hmap] at v2
            have e : hs3 = hs' := List.map_inj_right (fun a b h => Option.some.inj h) |>.mp v2
            subst e
            rw [Nat.add_comm] at m2
            exact hle (v3 i h1 h2 m1 m2)
        · obtain ⟨⟨c1, c2, c3, rfl⟩, s4, hj⟩ := p
          have s04 := sameT s03 s4
          have hold : Told d hs3 := by
            refine ⟨ds, hs, hmap, fun i a b ia ib => hj i ?_ a b ia ib⟩
            have l1 := (List.getElem?_eq_some_iff.mp ib).1
            have l2 := map_len hmap
            omega
          obtain ⟨hnl, fin⟩ := q1 hs3 hold
          obtain ⟨t, a, xs, ev, hq, ha, _⟩ := seqOf (Dm hd s04) hs
          have hln := daLen ha
          have hml := map_len hmap
          refine ⟨v, rfl, t, a, xs, ev, hq, fun J wk D hD => lc_data (K := K) (fun i => (hs3[i]?).map tup3) wk (by omega) hD (fun i e hi he => ?_) (fun H2 s2 => hq.up s2) (fun i x H5 H6 Ky Kn hi s5 y ky kn => ?_) (fun H5 acc s5 hacc hda => ?_)⟩
          · obtain ⟨h', hh', rfl⟩ := Option.map_eq_some_iff.mp he
            exact nl_tup3 (List.all_eq_true.mp hnl h' (List.mem_of_getElem? hh'))
          · obtain ⟨rfl, hx⟩ := y
            obtain ⟨d', hd', hx'⟩ := daGet ha hx
            obtain ⟨h', m', n'⟩ := map_get hmap hd'
            obtain ⟨o', n2', u1, u2, u3⟩ := hkD_iff n'
            have hx5 := Dm hx' s5
            refine ⟨rfl, ?_⟩
            refine ⟨x, rfl, _, _, 0, _, hx5, u1, rfl, rfl, fun vp hvp => ?_⟩
            refine ⟨x, rfl, _, _, 1, _, hx5, u1, rfl, rfl, fun vo hvo => ⟨vo, o', _, rfl, hvo, u2, fun vo' H7 s7 hvo' => ?_⟩⟩
            refine ⟨x, rfl, _, _, 2, _, Dm hx5 s7, u1, rfl, rfl, fun vn hvn => ⟨vn, n2', _, rfl, hvn, u3, fun vn' H8 s8 hvn' => ?_⟩⟩
            refine ⟨by show 3 ≤ sizeLine; decide, fun T hT => ky (tup3 h') (by rw [m']; rfl) _ _ (sameT (sameT s7 s8) (Same.nw hT)) (dTup upd_same ?_)⟩
            have e8 := Same.nw (o := .tup [vp, vo', vn']) hT
            exact .cons (Dm hvp (sameT (sameT s7 s8) e8)) (.cons (Dm hvo' (sameT s8 e8)) (.cons (Dm hvn' e8) .nil))
          · rw [range_map hs3 tup3 (by omega)] at hda
            exact ⟨.ref D, .list (hs3.map tup3), _, rfl, dLst hacc hda, rfl, fun v' H' s' hv' => fin v' H' (sameT (sameT s04 s5) s') hv'⟩
end
end K60
/-! K60F3: fits_at, are_places. -/
namespace K60
open PySem PySem.Spec PyProof.Rows L2

/-! ### shaped rows -/
def shA (ds : List PyData) : Prop := SeqAt.shaped (.tuple ds) = true
theorem layA_iff : ∀ {ds : List PyData}, PyData.canLayAll0 ds = true ↔ ∀ d ∈ ds, d.canLay0 = true
  | [] => ⟨fun _ _ h => (by cases h), fun _ => by simp only [PyData.canLayAll0]⟩
  | d :: ds => by
    simp only [PyData.canLayAll0, Bool.and_eq_true, List.mem_cons, forall_eq_or_imp]
    rw [layA_iff]
theorem depA_iff {n : Nat} : ∀ {ds : List PyData}, PyData.depthAll ds ≤ n ↔ ∀ d ∈ ds, d.depth ≤ n
  | [] => ⟨fun _ _ h => (by cases h), fun _ => by simp only [PyData.depthAll]; exact Nat.zero_le _⟩
  | d :: ds => by
    simp only [PyData.depthAll, List.mem_cons, forall_eq_or_imp]
    rw [← depA_iff (ds := ds)]
    omega
theorem shA_iff {ds : List PyData} : shA ds ↔ ∀ d ∈ ds, d.canLay0 = true ∧ d.depth ≤ 63 := by
  have e : shA ds ↔ (PyData.canLayAll0 ds && decide (PyData.depthAll ds + 1 ≤ 64)) = true := by
    unfold shA SeqAt.shaped
    simp only [PyData.canLay0, PyData.depth]
    exact Iff.rfl
  rw [e, Bool.and_eq_true, decide_eq_true_eq, layA_iff]
  have e2 : PyData.depthAll ds + 1 ≤ 64 ↔ PyData.depthAll ds ≤ 63 := by omega
  rw [e2, depA_iff]
  exact ⟨fun h d hd => ⟨h.1 d hd, h.2 d hd⟩, fun h => ⟨fun d hd => (h d hd).1, fun d hd => (h d hd).2⟩⟩
theorem shA.sub {ds es : List PyData} (h : shA ds) (s : ∀ d ∈ es, d ∈ ds) : shA es := shA_iff.mpr fun d hd => shA_iff.mp h d (s d hd)
theorem shA.cut {ds : List PyData} (h : shA ds) (a b : Nat) : shA ((ds.drop a).take b) := h.sub fun d hd => List.mem_of_mem_drop (List.mem_of_mem_take hd)
theorem shA.rev {ds : List PyData} (h : shA ds) : shA ds.reverse := h.sub fun d hd => List.mem_reverse.mp hd
theorem u64 {k : Nat} {A : Around} (h : Room k A) : A.units + 64 < cLine := by have := h.un; omega
theorem u65 {k : Nat} {A : Around} (h : Room k A) : A.units + 65 < cLine := by have := h.un; omega
def pI (p : Nat) : PyData := .int (p : Int)

/-- whether old stands in r at p -/
def spFit (K : PySem.W.Frag) : Sp := fun vs H Q _ => ∃ vr vo r old, ∃ p : Nat, vs = [vr, vo, .int (p : Int)] ∧ Dp K H vr (.tuple r) ∧ Dp K H vo (.tuple old) ∧ shA r ∧ shA old ∧ ∀ H', Same H H' → Q (.bl (fitsAt r old p)) H'
section
variable {P : Program} {w : World} {K : PySem.W.Frag} {mg : Str → Option Value} {base : Heap} {f C : Addr} {fd : FuncData}
theorem sc13 : FnScope ["rows", "old", "place"] ["rows", "old", "place"] (defScope (top 13)) := ⟨rfl, rfl, rfl, by decide +kernel, rfl, by decide +kernel, by decide +kernel⟩
theorem ok_fits_at (F : Fun K "fits_at" "fits_at" (top 13) f fd) (N : Nm mg) : FnOk P w K mg base CX0 1 f fd ["rows", "old", "place"] (spFit K) := by
  refine F.ok sc13 (fun vs H Q E h => ?_) (fun cdv A outer s H vs Q E hr h => ?_)
  · obtain ⟨vr, vo, r, old, p, rfl, _⟩ := h
    rfl
  · obtain ⟨vr, vo, r, old, p, rfl, hd1, hd2, sr, so, q⟩ := h
    refine ⟨_, pss_one (ps_ret (pe_and (pe_cmp (pc_le (pe_add (pv 2) (pe_callB (id := "len") (lenK K) rfl N.len (by decide +kernel) (pa_cons (pv 1) pa_nil))) (pe_callB (id := "len") (lenK K) rfl N.len (by decide +kernel) (pa_cons (pv 0) pa_nil))))
      (pe_one (pe_cmpR (eqK K (u64 hr)) (pe_slice (slK K) (pv 0) (po_some (pv 2)) (po_some (pe_add (pv 2) (pe_callB (id := "len") (lenK K) rfl N.len (by decide +kernel) (pa_cons (pv 1) pa_nil))))) (pv 1) (nomark _))))), ?_⟩
    refine ⟨_, rfl, vo, rfl, vo, _, _, rfl, hd2, rfl, _, _, rfl, rfl, vr, rfl, vr, _, _, rfl, hd1, rfl, _, _, rfl, rfl, _, rfl, ?_⟩
    by_cases hle : p + old.length ≤ r.length
    · refine ifT (decide_eq_true (by omega)) ?_
      refine ⟨vr, rfl, _, rfl, _, rfl, _, rfl, vo, rfl, vo, _, _, rfl, hd2, rfl, _, _, rfl, rfl, _, rfl, _, _, hd1, rfl, fun v1 H1 s1 h1 => ?_⟩
      have e1 : cutL r (some (p : Int)) (some ((p : Int) + (old.length : Int))) = (r.drop p).take old.length := by
        have : ((p : Int) + (old.length : Int)) = ((p + old.length : Nat) : Int) := by omega
        rw [this, cutL_nat, Nat.add_sub_cancel_left]
      rw [e1] at h1
      refine ⟨vo, rfl, _, _, h1, Dm hd2 s1, sr.cut _ _, so, ?_⟩
      have e2 : PyData.eqv (like (.tuple r) ((r.drop p).take old.length)) (.tuple old) = fitsAt r old p := by
        unfold fitsAt
        rw [decide_eq_true hle, Bool.true_and]
        show PyData.eqv (.tuple _) (.tuple _) = _
        simp only [PyData.eqv]
      rw [e2]
      exact q _ s1
    · refine ifF (decide_eq_false (by omega)) ?_
      have e2 : fitsAt r old p = false := by
        unfold fitsAt
        rw [decide_eq_false hle, Bool.false_and]
      have q' := q H sameR
      rw [e2] at q'
      exact q'

/-- whether the value tells places where the patch fits -/
def spAre (K : PySem.W.Frag) : Sp := fun vs H Q _ => ∃ vp vr vv r d, ∃ hs : List H3, vs = [vp, vr, vv] ∧ Dp K H vp (.tuple (hs.map tup3)) ∧ Dp K H vr (.tuple r) ∧ Dp K H vv d ∧ hs.length ≤ 1000 ∧ shA r ∧ (∀ h ∈ hs, shA h.2.1) ∧
  (∀ pl, seqD d = some (pl.map pI) → Fit r 0 (hs.map (·.2.1)) pl → ∀ H', Same H H' → Q (.bl true) H') ∧ ((∀ pl, seqD d = some (pl.map pI) → ¬ Fit r 0 (hs.map (·.2.1)) pl) → ∀ H', Same H H' → Q (.bl false) H')
theorem all_nums : ∀ {es : List PyData}, es.all isNumD = true → ∃ pl : List Nat, es = pl.map pI
  | [], _ => ⟨[], rfl⟩
  | d :: es, h => by
    rw [List.all_cons, Bool.and_eq_true] at h
    obtain ⟨pl, rfl⟩ := all_nums h.2
    have h1 := h.1
    unfold isNumD at h1
    split at h1
    · rename_i i
      refine ⟨i.toNat :: pl, ?_⟩
      rw [List.map_cons]
      unfold pI
      rw [Int.toNat_of_nonneg (of_decide_eq_true h1)]
    · cases h1
theorem nums_all (pl : List Nat) : (pl.map pI).all isNumD = true := List.all_eq_true.mpr fun d hd => by
  obtain ⟨p, _, rfl⟩ := List.mem_map.mp hd
  exact decide_eq_true (Int.natCast_nonneg p)
theorem pI_inj {a b : List Nat} (h : a.map pI = b.map pI) : a = b := (List.map_inj_right (fun x y e => by
  have e' := PyData.int.inj e
  omega)).mp h
abbrev N14 : List Str := ["patch", "rows", "value", "behind", "place", "hunk"]
theorem sc14 : FnScope N14 ["patch", "rows", "value"] (defScope (top 14)) := ⟨rfl, rfl, rfl, by decide +kernel, rfl, by decide +kernel, by decide +kernel⟩
theorem ok_are_places (F : Fun K "are_places" "are_places" (top 14) f fd) (N : Nm mg) (cs : Cl P w K mg base CX0 1 "is_sequence" ["value"] (spGr K isSeqD)) (cn : Cl P w K mg base CX0 2 "is_number" ["value"] (spBy K isNumD))
    (cf : Cl P w K mg base CX0 1 "fits_at" ["rows", "old", "place"] (spFit K)) : FnOk P w K mg base CX0 3 f fd ["patch", "rows", "value"] (spAre K) := by
  have nd : (N14).Nodup := by decide +kernel
  refine F.ok sc14 (fun vs H Q E h => ?_) (fun cdv A outer s H vs Q E hr h => ?_)
  · obtain ⟨vp, vr, vv, r, d, hs, rfl, _⟩ := h
    rfl
  · obtain ⟨vp, vr, vv, r, d, hs, rfl, hp, hd, hv, hsm, sr, so, q1, q2⟩ := h
    refine ⟨_, pss_cons (ps_if (PW.pt (pw_or (pt_not (pt_val (pe_cl cs hr (by decide) pass0 (pa_cons (pv 2) pa_nil))))
        (pw_or (pt_cmp (pc_neI (pe_callB (id := "len") (lenK K) rfl N.len (by decide +kernel) (pa_cons (pv 2) pa_nil)) (pe_callB (id := "len") (lenK K) rfl N.len (by decide +kernel) (pa_cons (pv 0) pa_nil))))
        (pw_or1 (pt_not (pt_val (pe_callB (cr_all rfl) rfl N.all (by decide +kernel) (pa_cons (pe_lc (own := [("place", 4)]) (g := gName 4) (tt := tYes) rfl nd (pi_seqF (pv 2)) (blkOk_by (N := N14) (sc := defScope (top 14)) (by decide +kernel))
          (fun _ _ _ _ _ => pg_name (i := 4) nd rfl (Or.inl rfl)) (fun _ _ _ _ _ => pts_nil) (fun _ _ _ _ _ => pe_cl cn hr (by decide) pass0 (pa_cons (pv 4) pa_nil))) pa_nil)))))))) (pss_one (ps_ret pe_bl)) pss_nil)
      (pss_cons (ps_set (i := 3) nd rfl (Or.inl rfl) pe_int)
      (pss_cons (ps_for PassesOwn.never rfl (pi_zipF N.zip (pa_cons (pv 2) (pa_cons (pv 0) pa_nil))) (tupG K rfl (pgs_cons (pg_name (i := 4) nd rfl (Or.inl rfl)) (pgs_cons (pg_name (i := 5) nd rfl (Or.inl rfl)) pgs_nil)))
        (pss_cons (ps_if (PW.pt (pw_or (pt_cmp (pc_lt (pv 4) (pv 3))) (pw_or1 (pt_not (pt_val (pe_cl cf hr (by decide) pass0 (pa_cons (pv 1) (pa_cons (pe_ix (ixK K) (pv 5) pe_int (fun _ _ => rfl)) (pa_cons (pv 4) pa_nil)))))))))
          (pss_one (ps_ret pe_bl)) pss_nil)
        (pss_one (ps_set (i := 3) nd rfl (Or.inl rfl) (pe_add (pv 4) (pe_callB (id := "len") (lenK K) rfl N.len (by decide +kernel) (pa_cons (pe_ix (ixK K) (pv 5) pe_int (fun _ _ => rfl)) pa_nil)))))))
      (pss_one (ps_ret pe_bl)))), ?_⟩
    refine ⟨vv, rfl, vv, d, rfl, hv, fun H1 e1 => ⟨_, rfl, ?_⟩⟩
    cases hs0 : seqD d with
    | none =>
      have e0 : isSeqD d = false := by unfold isSeqD; rw [hs0]; rfl
      rw [e0]
      refine iteT (iteT (q2 (fun pl h => ?_) _ e1))
      rw [hs0] at h
      cases h
    | some es =>
      have e0 : isSeqD d = true := by unfold isSeqD; rw [hs0]; rfl
      rw [e0]
      refine iteF ?_
      refine ⟨vv, rfl, vv, d, es, rfl, Dm hv e1, hs0, vp, rfl, vp, _, _, rfl, Dm hp e1, rfl, _, _, rfl, rfl, _, rfl, ?_⟩
      have lm : (hs.map tup3).length = hs.length := List.length_map _
      by_cases hl : es.length = hs.length
      · refine ifF (by rw [lm, hl]; simp) ?_
        have hsl : (1000 : Nat) ≤ sizeLine := by rw [sizeLine_eq]; decide
        obtain ⟨t, a, xs, ev, hq, ha, _⟩ := seqOf (Dm hv e1) hs0
        have hln := daLen ha
        refine ⟨vv, rfl, t, a, xs, ev, hq, fun J wk D hD => lc_data (K := K) (fun i => (es[i]?).map fun d => .bool (isNumD d)) wk (by omega) hD (fun i e hi he => ?_) (fun H2 s2 => hq.up s2) (fun i x H2 H3 Ky Kn hi s2 y ky kn => ?_) (fun H2 acc s2 hacc hda => ?_)⟩
        · obtain ⟨d', _, rfl⟩ := Option.map_eq_some_iff.mp he
          rfl
        · obtain ⟨rfl, hx⟩ := y
          obtain ⟨d', hd', hx'⟩ := daGet ha hx
          exact ⟨rfl, x, rfl, x, d', rfl, Dm hx' s2, ky (.bool (isNumD d')) (by rw [hd']; rfl) _ _ sameR (.bl _)⟩
        rw [range_map es (fun d => PyData.bool (isNumD d)) hln, show es.map (fun d => PyData.bool (isNumD d)) = (es.map isNumD).map .bool by rw [List.map_map]; rfl] at hda
        have eacc := bl_all hda
        rw [eacc] at hacc
        refine ⟨D, es.map isNumD, rfl, SqL.of hacc, _, rfl, ?_⟩
        have eall : (es.map isNumD).all id = es.all isNumD := by rw [List.all_map]; rfl
        rw [eall]
        have s02 : Same H H2 := sameT e1 s2
        cases hal : es.all isNumD with
        | false =>
          refine iteT (q2 (fun pl h => ?_) _ s02)
          rw [hs0] at h
          cases h
          rw [nums_all] at hal
          cases hal
        | true =>
          refine iteF ?_
          obtain ⟨pl, rfl⟩ := all_nums hal
          obtain ⟨t, u, a, b, xs, ys, ez, z1, z2, z3, z4⟩ := zipOf (Dm hv s02) hs0 (Dm hp s02) (rfl : seqD (.tuple (hs.map tup3)) = some _)
          have hlx := daLen z3
          have hly := daLen z4
          rw [List.length_map] at hlx hly hl
          refine ⟨vv, rfl, vp, rfl, t, u, a, b, xs, ys, ez, z1, z2, fun J wk => ?_⟩
          refine for_it wk (fun i σ H' => (∃ (c b : Nat) (x4 x5 : Option V), σ = [some vp, some vr, some vv, some (.int (b : Int)), x4, x5] ∧ (Fit r 0 (hs.map (·.2.1)) pl ↔ Fit r b ((hs.map (·.2.1)).drop i) (pl.drop i))) ∧ Same H2 H') ⟨⟨0, 0, _, _, rfl, Iff.rfl⟩, sameR⟩
            (fun i σ H' _ p => ⟨z1.up p.2, z2.up p.2⟩) (fun i x σ H4 H5 hi p y => ?_) (fun σ H4 p => ?_)
          · obtain ⟨⟨_, b, x4, x5, rfl, hfit⟩, s4⟩ := p
            obtain ⟨T, x1, x2, rfl, hT, rfl, g1, g2⟩ := y
            have s45 : Same H4 (upd H4 T (.tup [x1, x2])) := Same.nw hT
            have s25 := sameT s4 s45
            have s05 := sameT s02 s25
            obtain ⟨d1, k1, w1⟩ := daGet z3 g1
            obtain ⟨d2, k2, w2⟩ := daGet z4 g2
            rw [List.getElem?_map] at k1 k2
            obtain ⟨p, m1, rfl⟩ := Option.map_eq_some_iff.mp k1
            obtain ⟨h, m2, rfl⟩ := Option.map_eq_some_iff.mp k2
            have ep := dInv_int w1
            subst ep
            have w2' := Dm w2 s25
            refine g_pair upd_same ?_
            have edp : pl.drop i = p :: pl.drop (i + 1) := by
              obtain ⟨hlt, e⟩ := List.getElem?_eq_some_iff.mp m1
              rw [List.drop_eq_getElem_cons hlt, e]
            have edo : (hs.map (·.2.1)).drop i = h.2.1 :: (hs.map (·.2.1)).drop (i + 1) := by
              have m3 : (hs.map (·.2.1))[i]? = some h.2.1 := by rw [List.getElem?_map, m2]; rfl
              obtain ⟨hlt, e⟩ := List.getElem?_eq_some_iff.mp m3
              rw [List.drop_eq_getElem_cons hlt, e]
            rw [edp, edo] at hfit
            have shh : shA h.2.1 := so h (List.mem_of_getElem? m2)
            have no : ¬ Fit r b (h.2.1 :: (hs.map (·.2.1)).drop (i + 1)) (p :: pl.drop (i + 1)) → ∀ pl', seqD d = some (pl'.map pI) → ¬ Fit r 0 (hs.map (·.2.1)) pl' := fun hn pl' h1 h2 => by
              rw [hs0] at h1
              have e := pI_inj (Option.some.inj h1)
              subst e
              exact hn (hfit.mp h2)
            refine ⟨_, rfl, _, rfl, _, _, rfl, rfl, _, rfl, ?_⟩
            by_cases hpb : p < b
            · refine ifT (decide_eq_true (by omega)) (iteT (q2 (no ?_) _ s05))
              rintro ⟨p', ps', e, h1, _⟩
              cases e
              omega
            · refine ifF (decide_eq_false (by omega)) ?_
              refine ⟨vr, rfl, x2, rfl, _, _, 1, _, w2', rfl, rfl, rfl, fun vo hvo => ⟨_, rfl, ?_⟩⟩
              refine ⟨vr, vo, r, h.2.1, p, rfl, Dm hd s05, hvo, sr, shh, fun H6 s6 => ⟨_, rfl, ?_⟩⟩
              cases hf : fitsAt r h.2.1 p with
              | false =>
                refine iteT (q2 (no ?_) _ (sameT s05 s6))
                rintro ⟨p', ps', e, _, h2, _⟩
                cases e
                rw [hf] at h2
                cases h2
              | true =>
                refine iteF ⟨_, rfl, x2, rfl, _, _, 1, _, Dm w2' s6, rfl, rfl, rfl, fun vo' hvo' => ⟨vo', _, _, rfl, hvo', rfl, _, _, rfl, rfl, ?_⟩⟩
                refine ⟨⟨0, p + h.2.1.length, _, _, rfl, hfit.trans ⟨fun hh => ?_, fun hh => ⟨p, _, rfl, by omega, hf, hh⟩⟩⟩, sameT s25 s6⟩
                obtain ⟨p', ps', e, _, _, h3⟩ := hh
                cases e
                exact h3
          · obtain ⟨⟨_, b, x4, x5, rfl, hfit⟩, s4⟩ := p
            refine q1 pl hs0 (hfit.mpr ?_) _ (sameT s02 s4)
            rw [List.drop_eq_nil_of_le (by rw [List.length_map]; omega), List.drop_eq_nil_of_le (by omega)]
            exact rfl
      · refine ifT (by rw [lm]; show (!decide _) = true; rw [decide_eq_false (by omega)]; rfl) (iteT (q2 (fun pl h hf => ?_) _ e1))
        rw [hs0] at h
        cases h
        have e := hf.length
        rw [List.length_map] at e hl
        exact hl e
end
end K60
/-! K60F4: first_fit. -/
namespace K60
open PySem PySem.Spec PyProof.Rows L2

/-! ### the places within a range -/
theorem fm_filter {α β : Type} (p : α → Bool) (g : α → β) : ∀ l : List α, l.filterMap (fun i => if p i = true then some (g i) else none) = (l.filter p).map g
  | [] => rfl
  | x :: l => by
    rw [List.filterMap_cons, List.filter_cons]
    cases h : p x with
    | true =>
      rw [if_pos rfl, if_pos rfl, List.map_cons, ← fm_filter p g l]
    | false =>
      rw [if_neg Bool.false_ne_true, if_neg Bool.false_ne_true, ← fm_filter p g l]
theorem spots_range (r old : List PyData) (b : Nat) (g : Nat → PyData) :
    (List.range (r.length + 1 - old.length - b)).filterMap (fun i => if fitsAt r old (b + i) = true then some (g (b + i)) else none) = (spots r old b).map g := by
  rw [fm_filter (fun i => fitsAt r old (b + i)) (fun i => g (b + i))]
  unfold spots
  rw [List.range'_eq_map_range, List.filter_map, List.map_map]
  rfl
theorem pIs {K : PySem.W.Frag} {H : Hp} : ∀ {vs : List V} {ps : List Nat}, DpAll K H vs (ps.map pI) → vs = ps.map fun p : Nat => V.int (p : Int)
  | _, [], h => by cases h; rfl
  | _, p :: ps, h => by
    cases h with
    | cons h1 h2 =>
      rw [dInv_int h1, pIs h2]
      rfl
theorem pIs' {K : PySem.W.Frag} {H : Hp} : ∀ ps : List Nat, DpAll K H (ps.map fun p : Nat => V.int (p : Int)) (ps.map pI)
  | [] => .nil
  | p :: ps => .cons (.int _) (pIs' ps)
theorem pI_nl (ps : List Nat) : nlA (ps.map pI) = true := nlA_iff.mpr fun d hd => by
  obtain ⟨p, _, rfl⟩ := List.mem_map.mp hd
  rfl

theorem at0 {α : Type} {x : α} {l : List α} : atI (x :: l) (0 : Int) = some x := atI_nat (j := 0) rfl
def resFF : Option (List Nat) → PyData
  | none => .none
  | some pl => .tuple (pl.map pI)
/-- as early as can be -/
def spFF (K : PySem.W.Frag) : Sp := fun vs H Q _ => ∃ vh vr olds r, vs = [vh, vr] ∧ Dp K H vh (.list (olds.map .tuple)) ∧ Dp K H vr (.tuple r) ∧ olds.length ≤ 1000 ∧ r.length ≤ 1000 ∧ shA r ∧ (∀ o ∈ olds, shA o ∧ o.length ≤ 1000) ∧
  ∀ v' H', Same H H' → Dp K H' v' (resFF (firstFit r 0 olds)) → Q v' H'
section
variable {P : Program} {w : World} {K : PySem.W.Frag} {mg : Str → Option Value} {base : Heap} {f C : Addr} {fd : FuncData}
abbrev N16 : List Str := ["hunk_rows", "rows", "found", "behind", "old", "some", "at"]
theorem sc16 : FnScope N16 ["hunk_rows", "rows"] (defScope (top 16)) := ⟨rfl, rfl, rfl, by decide +kernel, rfl, by decide +kernel, by decide +kernel⟩
theorem ok_first_fit (F : Fun K "first_fit" "first_fit" (top 16) f fd) (N : Nm mg) (cf : Cl P w K mg base CX0 1 "fits_at" ["rows", "old", "place"] (spFit K)) : FnOk P w K mg base CX0 2 f fd ["hunk_rows", "rows"] (spFF K) := by
  have nd : (N16).Nodup := by decide +kernel
  refine F.ok sc16 (fun vs H Q E h => ?_) (fun cdv A outer s H vs Q E hr h => ?_)
  · obtain ⟨vh, vr, olds, r, rfl, _⟩ := h
    rfl
  · obtain ⟨vh, vr, olds, r, rfl, hh, hd, lo, lr, sr, so, q⟩ := h
    refine ⟨_, pss_cons (ps_par (i := 2) (j := 3) rfl nd rfl rfl (by decide) rfl rfl (pa_cons (pe_lst pa_nil) (pa_cons pe_int pa_nil)) rfl)
      (pss_cons (ps_for PassesOwn.never rfl (pi_seqF (pv 0)) (pg_name (i := 4) nd rfl (Or.inr rfl))
        (pss_cons (ps_setLc (i := 5) (own := [("at", 6)]) (g := gName 6) rfl nd rfl rfl (sw_true rfl rfl rfl (by decide +kernel))
            (pi_range2 rfl N.range (pa_cons (pv 3) (pa_cons (pe_add (pe_sub (pe_callB (id := "len") (lenK K) rfl N.len (by decide +kernel) (pa_cons (pv 1) pa_nil)) (pe_callB (id := "len") (lenK K) rfl N.len (by decide +kernel) (pa_cons (pv 4) pa_nil))) pe_int) pa_nil)))
            (blkOk_by (N := N16) (sc := defScope (top 16)) (by decide +kernel)) (fun _ _ _ _ _ => pg_name (i := 6) nd rfl (Or.inl rfl)) (fun _ _ _ _ _ => pts_one (pt_val (pe_cl cf hr (by decide) pass0 (pa_cons (pv 1) (pa_cons (pv 4) (pa_cons (pv 6) pa_nil)))))) (fun _ _ _ _ _ => pv 6))
        (pss_cons (ps_if (pt_cmp (pc_eqI (pe_callB (id := "len") (lenK K) rfl N.len (by decide +kernel) (pa_cons (pv 5) pa_nil)) pe_int)) (pss_one (ps_ret pe_non)) pss_nil)
        (pss_cons (ps_expr (pe_bm PySem.F.plainAttrs_list PySem.F.slot_list_append PySem.F.type_list_append mt_append (pv 2) (pa_cons (pe_ix (ixK K) (pv 5) pe_int (fun _ _ => rfl)) pa_nil)))
        (pss_one (ps_set (i := 3) nd rfl (Or.inl rfl) (pe_add (pe_ix (ixK K) (pv 5) pe_int (fun _ _ => rfl)) (pe_callB (id := "len") (lenK K) rfl N.len (by decide +kernel) (pa_cons (pv 4) pa_nil)))))))))
      (pss_one (ps_ret (pe_callTy (T := "tuple") (tupK K) rfl N.tuple (by decide +kernel) (pa_cons (pv 2) pa_nil))))), ?_⟩
    refine ⟨by show 0 ≤ sizeLine; exact Nat.zero_le _, fun L hL => ⟨_, _, rfl, ?_⟩⟩
    have hsl : (1000 : Nat) ≤ sizeLine := by rw [sizeLine_eq]; decide
    have hsl2 : (1001 : Nat) ≤ sizeLine := by rw [sizeLine_eq]; decide
    have s1 : Same H (upd H L (.lst [])) := Same.nw hL
    obtain ⟨a, xs, ev, hq, ha⟩ := dInv_lst hh
    have hln := daLen ha
    rw [List.length_map] at hln
    refine ⟨vh, rfl, false, a, xs, ev, (show SqF false K H a xs from hq).up s1, fun J wk => ?_⟩
    refine for_it wk (fun i σ H' => (∃ (b : Nat) (pl : List Nat) (x4 x5 x6 : Option V), σ = [some vh, some vr, some (.ref L), some (.int (b : Int)), x4, x5, x6] ∧ H' L = some (.lst (pl.map fun p : Nat => V.int (p : Int))) ∧ pl.length = i ∧ b ≤ r.length ∧
        firstFit r 0 olds = (firstFit r b (olds.drop i)).map (pl ++ ·)) ∧ Same H H') ⟨⟨0, [], _, _, _, rfl, upd_same, rfl, Nat.zero_le _, by simp⟩, s1⟩
      (fun i σ H' _ p => (show SqF false K H a xs from hq).up p.2) (fun i x σ H4 H5 hi p y => ?_) (fun σ H4 p => ?_)
    · obtain ⟨⟨b, pl, x4, x5, x6, rfl, hLl, hpl, hbr, hff⟩, s4⟩ := p
      obtain ⟨rfl, hx⟩ := y
      obtain ⟨d', hd', hx'⟩ := daGet ha hx
      rw [List.getElem?_map] at hd'
      obtain ⟨old, m1, rfl⟩ := Option.map_eq_some_iff.mp hd'
      have hxo : Dp K H5 x (.tuple old) := Dm hx' s4
      have hdr : Dp K H5 vr (.tuple r) := Dm hd s4
      obtain ⟨hso, hol⟩ := so old (List.mem_of_getElem? m1)
      have edo : olds.drop i = old :: olds.drop (i + 1) := by
        obtain ⟨hlt, e⟩ := List.getElem?_eq_some_iff.mp m1
        rw [List.drop_eq_getElem_cons hlt, e]
      have hi1 : i < olds.length := by omega
      have en : (((r.length : Int) - (old.length : Int) + 1) - (b : Int)).toNat = r.length + 1 - old.length - b := by omega
      refine ⟨_, rfl, vr, rfl, vr, _, _, rfl, hdr, rfl, x, rfl, x, _, _, rfl, hxo, rfl, _, _, rfl, rfl, _, _, rfl, rfl, _, _, rfl, ?_, ?_⟩
      · show -(2 ^ 62) ≤ (b : Int) ∧ (b : Int) < 2 ^ 62 ∧ -(2 ^ 62) ≤ ((r.length : Int) - (old.length : Int) + 1) ∧ ((r.length : Int) - (old.length : Int) + 1) < 2 ^ 62
        omega
      intro D hD
      refine lc_data (K := K) (fun i => if fitsAt r old (b + i) = true then some (pI (b + i)) else none) walk_range ?_ hD (fun i e hi he => ?_) (fun _ _ => trivial) (fun j z H6 H7 Ky Kn hj s6 y ky kn => ?_) (fun H6 acc s6 hacc hda => ?_)
      · show (((r.length : Int) - (old.length : Int) + 1) - (b : Int)).toNat ≤ sizeLine
        omega
      · split at he
        · cases he
          rfl
        · cases he
      · obtain ⟨rfl, rfl⟩ := y
        refine ⟨rfl, vr, rfl, x, rfl, _, rfl, ?_⟩
        refine ⟨vr, x, r, old, b + j, ?_, Dm hdr s6, Dm hxo s6, sr, hso, fun H8 s8 => ⟨_, rfl, ?_⟩⟩
        · show [vr, x, V.int ((b : Int) + (j : Int))] = _
          rw [Int.natCast_add]
        cases hf : fitsAt r old (b + j) with
        | true =>
          refine iteT ⟨_, rfl, ky (pI (b + j)) (by rw [if_pos hf]) _ _ s8 ?_⟩
          show Dp K H8 (.int ((b : Int) + (j : Int))) (.int ((b + j : Nat) : Int))
          rw [Int.natCast_add]
          exact .int _
        | false => exact iteF (kn (by rw [if_neg (by rw [hf]; exact Bool.false_ne_true)]) _ s8)
      · have hda' : DpAll K H6 acc ((spots r old b).map pI) := by
          rw [← spots_range r old b pI, ← en]
          exact hda
        have s56 : Same H H6 := sameT s4 s6
        have hsp : Dp K H6 (.ref D) (.list ((spots r old b).map pI)) := dLst hacc hda'
        refine ⟨_, rfl, .ref D, _, _, rfl, hsp, rfl, _, _, rfl, rfl, _, rfl, ?_⟩
        have hcase : firstFit r b (olds.drop i) = match (spots r old b).head? with
          | none => none
          | some p => (firstFit r (p + old.length) (olds.drop (i + 1))).map (p :: ·) := by
          rw [edo]
          rfl
        cases hspl : spots r old b with
        | nil =>
          refine ifT (by rw [List.length_map]; simp) ?_
          rw [hspl] at hcase
          have e : firstFit r 0 olds = none := by
            rw [hff, hcase]
            rfl
          rw [e] at q
          exact q _ _ s56 .non
        | cons p rest =>
          refine ifF (by rw [List.length_map]; simp; omega) ?_
          rw [hspl] at hsp hcase
          have hL6 := s6 _ _ hLl
          have hmem : p ∈ spots r old b := by rw [hspl]; exact List.mem_cons_self
          have hple := fitsAt_le (mem_spots.mp hmem).2
          refine ⟨_, rfl, .inl ⟨rfl, _, SqL.of hL6⟩, _, rfl, _, _, 0, pI p, hsp, rfl, rfl, at0, fun vp hvp => ?_⟩
          have ep := dInv_int hvp
          subst ep
          refine ⟨L, _, _, rfl, rfl, hL6, by rw [List.length_map]; omega, ?_⟩
          have s67 : Same H (upd H6 L (.lst ((pl.map fun p : Nat => V.int (p : Int)) ++ [.int (p : Int)]))) := Same.md s56 hL
          have hDL : D ≠ L := fun e => by
            rw [e] at hD
            rw [hD] at hLl
            cases hLl
          have hsp7 : Dp K (upd H6 L (.lst ((pl.map fun p : Nat => V.int (p : Int)) ++ [.int (p : Int)]))) (.ref D) (.list ((p :: rest).map pI)) := by
            rw [hspl] at hda'
            refine dLst (by rw [upd_ne hDL]; exact hacc) ?_
            have e := pIs hda'
            rw [e]
            exact pIs' _
          refine ⟨_, rfl, _, _, 0, pI p, hsp7, rfl, rfl, at0, fun vp hvp => ?_⟩
          have ep := dInv_int hvp
          subst ep
          refine ⟨x, rfl, x, _, _, rfl, Dm (Dm hx' sameR) s67, rfl, _, _, rfl, rfl, ?_⟩
          refine ⟨⟨p + old.length, pl ++ [p], _, _, _, rfl, ?_, ?_, hple, ?_⟩, s67⟩
          · rw [upd_same, List.map_append]
            rfl
          · rw [List.length_append, hpl]
            rfl
          · rw [hff, hcase]
            show ((firstFit r (p + old.length) (olds.drop (i + 1))).map (p :: ·)).map (pl ++ ·) = _
            rw [Option.map_map]
            congr 1
            funext l
            show pl ++ p :: l = pl ++ [p] ++ l
            rw [List.append_assoc]
            rfl
    · obtain ⟨⟨b, pl, x4, x5, x6, rfl, hLl, hpl, hbr, hff⟩, s4⟩ := p
      rw [List.drop_eq_nil_of_le (by omega)] at hff
      have e : firstFit r 0 olds = some pl := by
        rw [hff]
        show some (pl ++ []) = some pl
        rw [List.append_nil]
      rw [e] at q
      exact ⟨_, rfl, .ref L, .list (pl.map pI), _, rfl, dLst hLl (pIs' pl), rfl, fun v' H' s' hv' => q v' H' (sameT s4 s') hv'⟩
end
end K60
/-! K60F5: only_fit. -/
namespace K60
open PySem PySem.Spec PyProof.Rows L2

structure OkHs (hs : List H3) : Prop where
  len : hs.length ≤ 3
  each : ∀ h ∈ hs, nl3 h = true ∧ shA h.2.1 ∧ h.2.1.length ≤ 100 ∧ h.2.2.length ≤ 100
structure OkR (r : List PyData) : Prop where
  len : r.length ≤ 20
  sh : shA r
abbrev oldsOf (hs : List H3) : List (List PyData) := hs.map (·.2.1)
theorem OkHs.nl {hs : List H3} (h : OkHs hs) : hs.all nl3 = true := List.all_eq_true.mpr fun x hx => (h.each x hx).1
/-- a patch and a row are given: ok of what they tell, or refused -/
def Pre (K : PySem.W.Frag) (C : Addr) (H : Hp) (vp vr : V) (E : XK) (ok : List H3 → List PyData → Prop) : Prop := ∃ dp dr, Dp K H vp dp ∧ Dp K H vr dr ∧ (∀ ds, seqD dp = some ds → ds.length ≤ 1000) ∧
  (∀ hs, Told dp hs → OkHs hs ∧ (∀ r, seqD dr = some r → OkR r ∧ ok hs r) ∧ (seqD dr = none → Out H C "at" vr E)) ∧ ((∀ hs, ¬ Told dp hs) → Out H C "at" vp E)
def onlyF (r : List PyData) (olds : List (List PyData)) : Option (List Nat) := if (fitsFrom r 0 olds).length = 1 then (fitsFrom r 0 olds).head? else none
def spOnly (K : PySem.W.Frag) (C : Addr) : Sp := fun vs H Q E => ∃ vp vr, vs = [vp, vr] ∧ Pre K C H vp vr E fun hs r => ∀ v' H', Same H H' → Dp K H' v' (resFF (onlyF r (oldsOf hs))) → Q v' H'

/-! ### plain -/
theorem fit_at {r : List PyData} : ∀ {olds : List (List PyData)} {b i : Nat} {pl : List Nat} {o : List PyData} {p : Nat}, Fit r b olds pl → olds[i]? = some o → pl[i]? = some p → fitsAt r o p = true
  | [], b, i, pl, o, p, _, h1, _ => by cases h1
  | old :: olds, b, 0, pl, o, p, h, h1, h2 => by
    obtain ⟨q, ps, rfl, _, h3, _⟩ := h
    have e1 : old = o := Option.some.inj h1
    have e2 : q = p := Option.some.inj h2
    rw [← e1, ← e2]
    exact h3
  | old :: olds, b, i + 1, pl, o, p, h, h1, h2 => by
    obtain ⟨q, ps, rfl, _, _, h4⟩ := h
    exact fit_at (i := i) h4 h1 h2
theorem mirs_zip (r : List PyData) : ∀ (os : List (List PyData)) (ps : List Nat), mirs r os ps = (List.zipWith (fun p o => mir r o p) ps os).reverse
  | [], [] => rfl
  | [], _ :: _ => rfl
  | _ :: _, [] => rfl
  | o :: os, p :: ps => by
    show mirs r os ps ++ [mir r o p] = _
    rw [mirs_zip r os ps, List.zipWith_cons_cons, List.reverse_cons]
theorem lastL (r : List PyData) (olds : List (List PyData)) (bk : List Nat) (h : bk.length = olds.length) : mirs r.reverse (revs olds) bk = List.zipWith (fun p o => r.length - p - o.length) bk.reverse olds := by
  rw [mirs_zip, List.reverse_zipWith (by rw [revs_length]; exact h)]
  unfold revs
  rw [List.reverse_reverse, List.zipWith_map_right]
  unfold mir
  simp only [List.length_reverse]
theorem pI_eqv : ∀ (a b : List Nat), PyData.eqvAll (a.map pI) (b.map pI) = decide (a = b)
  | [], [] => by simp [PyData.eqvAll]
  | [], _ :: _ => by simp [PyData.eqvAll]
  | _ :: _, [] => by simp [PyData.eqvAll]
  | x :: a, y :: b => by
    simp only [List.map_cons, PyData.eqvAll]
    rw [pI_eqv a b]
    have e : PyData.eqv (pI x) (pI y) = decide (x = y) := by
      unfold pI
      simp only [PyData.eqv]
      by_cases h : x = y
      · subst h
        simp
      · rw [decide_eq_false h]
        exact beq_eq_false_iff_ne.mpr (by omega)
    rw [e]
    by_cases h : x = y
    · subst h
      by_cases h2 : a = b
      · subst h2
        simp
      · simp [h2]
    · simp [h]
theorem shA_pI (ps : List Nat) : shA (ps.map pI) := shA_iff.mpr fun d hd => by
  obtain ⟨p, _, rfl⟩ := List.mem_map.mp hd
  unfold pI
  simp [PyData.canLay0, PyData.depth]

section
variable {P : Program} {w : World} {K : PySem.W.Frag} {mg : Str → Option Value} {base : Heap} {f C : Addr} {fd : FuncData}
abbrev N17 : List Str := ["patch", "rows", "told", "here", "first", "back", "last", "place", "old", "new", "at", "hunk"]
theorem sc17 : FnScope N17 ["patch", "rows"] (defScope (top 17)) := ⟨rfl, rfl, rfl, by decide +kernel, rfl, by decide +kernel, by decide +kernel⟩
theorem ok_only_fit (F : Fun K "only_fit" "only_fit" (top 17) f fd) (N : Nm mg) (cp : Cl P w K mg base (L2.CX P w) 4 "check_patch" ["value"] (spCp K C)) (ct : Cl P w K mg base (L2.CX P w) 3 "check_things" ["value"] (spTh K C))
    (cf : Cl P w K mg base CX0 2 "first_fit" ["hunk_rows", "rows"] (spFF K)) : FnOk P w K mg base (L2.CX P w) 5 f fd ["patch", "rows"] (spOnly K C) := by
  have nd : (N17).Nodup := by decide +kernel
  refine F.okX sc17 (fun vs H Q E h => ?_) (fun cdv A outer s H vs Q E hr h => ?_)
  · obtain ⟨vp, vr, rfl, _⟩ := h
    rfl
  · obtain ⟨vp, vr, rfl, dp, dr, hdp, hdr, hsm, qt, qn⟩ := h
    have tk : Takes (L2.cxOf (L2.CX P w) P w K mg base N17 "only_fit" (defScope (top 17)) f cdv A outer s H E) (fun cls d _ H => E cls d H) := takes_of rfl rfl rfl rfl
    refine ⟨_, pss_cons (ps_asg (pe_tup (pa_cons (pe_cl (E := E) cp hr (by decide) (passes_call tk fun _ _ _ _ h => h) (pa_cons (pv 0) pa_nil)) (pa_cons (pe_cl (E := E) ct hr (by decide) (passes_call tk fun _ _ _ _ h => h) (pa_cons (pv 1) pa_nil)) pa_nil)))
        (tupG K rfl (pgs_cons (pg_name (i := 2) nd rfl (Or.inl rfl)) (pgs_cons (pg_name (i := 3) nd rfl (Or.inr rfl)) pgs_nil))))
      (pss_cons (ps_set (i := 4) nd rfl (Or.inl rfl) (pe_cl cf hr (by decide) pass0 (pa_cons (pe_lc (own := [("place", 7), ("old", 8), ("new", 9)]) (tt := tYes) rfl nd (pi_seqF (pv 2)) (blkOk_by (N := N17) (sc := defScope (top 17)) (by decide +kernel))
          (fun _ _ _ _ _ => tupG K (n := 3) rfl (pgs_cons (pg_name (i := 7) nd rfl (Or.inl rfl)) (pgs_cons (pg_name (i := 8) nd rfl (Or.inl rfl)) (pgs_cons (pg_name (i := 9) nd rfl (Or.inl rfl)) pgs_nil)))) (fun _ _ _ _ _ => pts_nil) (fun _ _ _ _ _ => pv 8)) (pa_cons (pv 3) pa_nil))))
      (pss_cons (ps_set (i := 5) nd rfl (Or.inl rfl) (pe_cl cf hr (by decide) pass0 (pa_cons (pe_lc (own := [("place", 7), ("old", 8), ("new", 9)]) (tt := tYes) rfl nd (pi_seqF (revK K (pv 2))) (blkOk_by (N := N17) (sc := defScope (top 17)) (by decide +kernel))
          (fun _ _ _ _ _ => tupG K (n := 3) rfl (pgs_cons (pg_name (i := 7) nd rfl (Or.inl rfl)) (pgs_cons (pg_name (i := 8) nd rfl (Or.inl rfl)) (pgs_cons (pg_name (i := 9) nd rfl (Or.inl rfl)) pgs_nil)))) (fun _ _ _ _ _ => pts_nil) (fun _ _ _ _ _ => revK K (pv 8))) (pa_cons (revK K (pv 3)) pa_nil))))
      (pss_cons (ps_if (PW.pt (pw_or (pt_cmp (pc_isN (pv 4))) (pw_or1 (pt_cmp (pc_isN (pv 5)))))) (pss_one (ps_ret pe_non)) pss_nil)
      (pss_cons (ps_set (i := 6) nd rfl (Or.inl rfl) (pe_callTy (T := "tuple") (tupK K) rfl N.tuple (by decide +kernel) (pa_cons (pe_lc (own := [("at", 10), ("hunk", 11)]) (tt := tYes) rfl nd (pi_zipF N.zip (pa_cons (revK K (pv 5)) (pa_cons (pv 2) pa_nil))) (blkOk_by (N := N17) (sc := defScope (top 17)) (by decide +kernel))
          (fun _ _ _ _ _ => tupG K (n := 2) rfl (pgs_cons (pg_name (i := 10) nd rfl (Or.inl rfl)) (pgs_cons (pg_name (i := 11) nd rfl (Or.inl rfl)) pgs_nil))) (fun _ _ _ _ _ => pts_nil)
          (fun _ _ _ _ _ => pe_sub (pe_sub (pe_callB (id := "len") (lenK K) rfl N.len (by decide +kernel) (pa_cons (pv 3) pa_nil)) (pv 10)) (pe_callB (id := "len") (lenK K) rfl N.len (by decide +kernel) (pa_cons (pe_ix (ixK K) (pv 11) pe_int (fun _ _ => rfl)) pa_nil)))) pa_nil)))
      (pss_one (ps_ret (pe_ifExp (pt_cmpR (eqK K (u64 hr)) (pv 4) (pv 6) (nomark _)) (pv 4) pe_non))))))), ?_⟩
    have hsl : (1000 : Nat) ≤ sizeLine := by rw [sizeLine_eq]; decide
    refine ⟨vp, rfl, vp, dp, rfl, hdp, hsm, fun hs hold => ?_, fun no => qn no⟩
    obtain ⟨okh, qr, qrn⟩ := qt hs hold
    refine ⟨okh.nl, fun vt H1 s1 hvt => ?_⟩
    refine ⟨vr, rfl, vr, dr, rfl, Dm hdr s1, fun r er vh H2 s2 hvh => ?_, fun nn => (qrn nn).at s1⟩
    obtain ⟨okr, fin⟩ := qr r er
    refine ⟨by show 2 ≤ sizeLine; decide, fun T hT => g_pair upd_same ?_⟩
    have s3 := Same.nw (o := .tup [vt, vh]) hT
    generalize hH3 : upd H2 T (.tup [vt, vh]) = H3 at s3
    have s03 : Same H H3 := sameT (sameT s1 s2) s3
    have hvt := Dm hvt (sameT s2 s3)
    have hvh := Dm hvh s3
    clear hH3 hT
    have hlen : hs.length ≤ 1000 := by have := okh.len; omega
    have hlr : r.length ≤ 1000 := by have := okr.len; omega
    have lm : (hs.map tup3).length = hs.length := List.length_map _
    -- first
    obtain ⟨a, xs, ev, hq, ha⟩ := dInv_tup hvt
    have hln := daLen ha
    refine ⟨vt, rfl, true, a, xs, ev, hq, fun J wk D hD => lc_data (K := K) (fun i => (hs[i]?).map fun h => .tuple h.2.1) wk (by omega) hD (fun i e hi he => ?_) (fun H2 s2 => (show SqF true K H3 a xs from hq).up s2) (fun i x H4 H5 Ky Kn hi s4 y ky kn => ?_) (fun H4 acc s4 hacc hda => ?_)⟩
    · obtain ⟨h, hh, rfl⟩ := Option.map_eq_some_iff.mp he
      have := (okh.each h (List.mem_of_getElem? hh)).1
      unfold nl3 at this
      rw [Bool.and_eq_true] at this
      rw [nl_tuple]
      exact this.1
    · obtain ⟨rfl, hx⟩ := y
      obtain ⟨d', hd', hx'⟩ := daGet ha hx
      rw [List.getElem?_map] at hd'
      obtain ⟨h, m1, rfl⟩ := Option.map_eq_some_iff.mp hd'
      exact g_tripD (Dm hx' s4) fun x1 x2 x3 w1 w2 w3 => ⟨rfl, _, rfl, ky (.tuple h.2.1) (by rw [m1]; rfl) _ _ sameR w2⟩
    have hda1 : DpAll K H4 acc ((oldsOf hs).map .tuple) := by
      rw [range_map hs (fun h => PyData.tuple h.2.1) (by omega)] at hda
      rw [List.map_map]
      exact hda
    have sh1 : ∀ o ∈ oldsOf hs, shA o ∧ o.length ≤ 1000 := fun o ho => by
      obtain ⟨h, hm, rfl⟩ := List.mem_map.mp ho
      have := okh.each h hm
      exact ⟨this.2.1, by omega⟩
    have lo1 : (oldsOf hs).length ≤ 1000 := by rw [List.length_map]; exact hlen
    refine ⟨vh, rfl, .ref D, vh, oldsOf hs, r, rfl, dLst hacc hda1, Dm hvh s4, lo1, hlr, okr.sh, sh1, fun vf H5 s5 hvf => ?_⟩
    have s35 := sameT s4 s5
    -- back
    refine ⟨vt, rfl, hs.map tup3, Dm hvt s35, fun vtr H6 s6 hvtr => ?_⟩
    rw [← List.map_reverse] at hvtr
    obtain ⟨a2, xs2, ev2, hq2, ha2⟩ := dInv_tup hvtr
    have hln2 := daLen ha2
    rw [List.length_map, List.length_reverse] at hln2
    refine ⟨true, a2, xs2, ev2, hq2, fun J wk D2 hD2 => lc_data (K := K) (fun i => (hs.reverse[i]?).map fun h => .tuple h.2.1.reverse) wk (by omega) hD2 (fun i e hi he => ?_) (fun H2 s2 => (show SqF true K H6 a2 xs2 from hq2).up s2) (fun i x H7 H8 Ky Kn hi s7 y ky kn => ?_) (fun H7 acc2 s7 hacc2 hda2 => ?_)⟩
    · obtain ⟨h, hh, rfl⟩ := Option.map_eq_some_iff.mp he
      have := (okh.each h (List.mem_reverse.mp (List.mem_of_getElem? hh))).1
      unfold nl3 at this
      rw [Bool.and_eq_true] at this
      rw [nl_tuple]
      exact nlA_iff.mpr fun d hd => nlA_iff.mp this.1 d (List.mem_reverse.mp hd)
    · obtain ⟨rfl, hx⟩ := y
      obtain ⟨d', hd', hx'⟩ := daGet ha2 hx
      rw [List.getElem?_map] at hd'
      obtain ⟨h, m1, rfl⟩ := Option.map_eq_some_iff.mp hd'
      exact g_tripD (Dm hx' s7) fun x1 x2 x3 w1 w2 w3 => ⟨rfl, _, rfl, h.2.1, w2, fun v9 H9 s9 hv9 => ky (.tuple h.2.1.reverse) (by rw [m1]; rfl) _ _ s9 hv9⟩
    have hda3 : DpAll K H7 acc2 ((revs (oldsOf hs)).map .tuple) := by
      rw [range_map hs.reverse (fun h => PyData.tuple h.2.1.reverse) (by rw [List.length_reverse]; omega)] at hda2
      have e : (revs (oldsOf hs)).map PyData.tuple = hs.reverse.map (fun h => PyData.tuple h.2.1.reverse) := by
        unfold revs
        rw [List.map_map, ← List.map_reverse, List.map_map]
        rfl
      rw [e]
      exact hda2
    have s37 := sameT s35 (sameT s6 s7)
    have s57 := sameT s6 s7
    refine ⟨vh, rfl, r, Dm hvh s37, fun vhr H8 s8 hvhr => ?_⟩
    have sh2 : ∀ o ∈ revs (oldsOf hs), shA o ∧ o.length ≤ 1000 := fun o ho => by
      unfold revs at ho
      obtain ⟨o', hm, rfl⟩ := List.mem_map.mp (List.mem_reverse.mp ho)
      have := sh1 o' hm
      exact ⟨this.1.rev, by rw [List.length_reverse]; exact this.2⟩
    refine ⟨.ref D2, vhr, revs (oldsOf hs), r.reverse, rfl, dLst (s8 _ _ hacc2) (DmA hda3 s8), hvhr, by rw [revs_length]; exact lo1, by rw [List.length_reverse]; exact hlr, okr.sh.rev, sh2, fun vb H9 s9 hvb => ?_⟩
    have s59 := sameT s57 (sameT s8 s9)
    have s39 := sameT s35 s59
    have s09 := sameT s03 s39
    have hvf9 := Dm hvf s59
    have law := only_law r (oldsOf hs)
    cases h1 : firstFit r 0 (oldsOf hs) with
    | none =>
      rw [h1] at hvf9 law
      cases hvf9
      have law : none = onlyF r (oldsOf hs) := law
      refine ⟨.non, rfl, _, rfl, iteT (iteT ?_)⟩
      rw [← law] at fin
      exact fin _ _ s09 .non
    | some fl =>
      rw [h1] at hvf9 law
      have hvf9' : Dp K H9 vf (.tuple (fl.map pI)) := hvf9
      obtain ⟨af, xf, evf, hqf, haf⟩ := dInv_tup hvf9'
      have nf : decide (vf = .non) = false := decide_eq_false (by rw [evf]; intro z; cases z)
      refine ⟨vf, rfl, _, rfl, ?_⟩
      refine ifF nf ?_
      cases h2 : firstFit r.reverse 0 (revs (oldsOf hs)) with
      | none =>
        rw [h2] at hvb law
        cases hvb
        have law : none = onlyF r (oldsOf hs) := law
        refine ⟨.non, rfl, _, rfl, iteT ?_⟩
        rw [← law] at fin
        exact fin _ _ s09 .non
      | some bk =>
        rw [h2] at hvb law
        have hvb' : Dp K H9 vb (.tuple (bk.map pI)) := hvb
        obtain ⟨ab, xb, evb, hqb, hab⟩ := dInv_tup hvb'
        have nb : decide (vb = .non) = false := decide_eq_false (by rw [evb]; intro z; cases z)
        refine ⟨vb, rfl, _, rfl, ifF nb ?_⟩
        have law : (if fl = mirs r.reverse (revs (oldsOf hs)) bk then some fl else none) = onlyF r (oldsOf hs) := law
        have fbk := (firstFit_some h2).1
        have lbk : bk.length = (oldsOf hs).length := by rw [fbk.length, revs_length]
        rw [lastL r _ bk lbk] at law
        refine ⟨vb, rfl, bk.map pI, hvb', fun vbr HA sA hvbr => ?_⟩
        rw [← List.map_reverse] at hvbr
        have s3A := sameT s39 sA
        have hvtA := Dm hvt s3A
        obtain ⟨t, u, a, b, xs, ys, ez, z1, z2, z3, z4⟩ := zipOf hvbr rfl hvtA rfl
        have hlx := daLen z3
        have hly := daLen z4
        rw [List.length_map, List.length_reverse] at hlx
        rw [List.length_map] at hly lbk
        refine ⟨vt, rfl, t, u, a, b, xs, ys, ez, z1, z2, fun J wk D3 hD3 => lc_data (K := K) (fun i => ((List.zipWith (fun p o => r.length - p - o.length) bk.reverse (oldsOf hs))[i]?).map pI) wk (by omega) hD3 (fun i e hi he => ?_)
          (fun H2 s2 => ⟨z1.up s2, z2.up s2⟩) (fun i x HB HC Ky Kn hi sB y ky kn => ?_) (fun HB acc4 sB hacc4 hda4 => ?_)⟩
        · obtain ⟨p, _, rfl⟩ := Option.map_eq_some_iff.mp he
          rfl
        · obtain ⟨T, x1, x2, rfl, hT, rfl, g1, g2⟩ := y
          have sBC : Same HB (upd HB T (.tup [x1, x2])) := Same.nw hT
          obtain ⟨d1, k1, w1⟩ := daGet z3 g1
          obtain ⟨d2, k2, w2⟩ := daGet z4 g2
          rw [List.getElem?_map] at k1 k2
          obtain ⟨p, m1, rfl⟩ := Option.map_eq_some_iff.mp k1
          obtain ⟨h, m2, rfl⟩ := Option.map_eq_some_iff.mp k2
          have ep := dInv_int w1
          subst ep
          have w2' := Dm w2 (sameT sB sBC)
          have hvhC := Dm hvh (sameT s3A (sameT sB sBC))
          have m2' : (oldsOf hs)[i]? = some h.2.1 := by rw [List.getElem?_map, m2]; rfl
          have hi2 : i < bk.length := by
            have := (List.getElem?_eq_some_iff.mp m1).1
            rw [List.length_reverse] at this
            exact this
          have hfit : p + h.2.1.length ≤ r.length := by
            have hrv : (revs (oldsOf hs))[bk.length - 1 - i]? = some h.2.1.reverse := by
              unfold revs
              rw [List.getElem?_reverse (by rw [List.length_map, List.length_map]; omega)]
              have e : ((oldsOf hs).map List.reverse).length - 1 - (bk.length - 1 - i) = i := by
                rw [List.length_map, List.length_map]
                omega
              rw [e, List.getElem?_map, m2']
              rfl
            have hbv : bk[bk.length - 1 - i]? = some p := by
              rw [List.getElem?_reverse hi2] at m1
              exact m1
            have := fitsAt_le (fit_at fbk hrv hbv)
            rw [List.length_reverse, List.length_reverse] at this
            exact this
          refine g_pair upd_same ⟨rfl, vh, rfl, vh, _, _, rfl, hvhC, rfl, _, rfl, _, _, rfl, rfl, x2, rfl, _, _, 1, _, w2', rfl, rfl, rfl, fun vo hvo => ⟨vo, _, _, rfl, hvo, rfl, _, _, rfl, rfl, ?_⟩⟩
          refine ky (pI (r.length - p - h.2.1.length)) ?_ _ _ sBC ?_
          · rw [List.getElem?_zipWith, m1, m2']
            rfl
          · show Dp K _ (.int (((r.length : Int) - (p : Int)) - (h.2.1.length : Int))) (.int ((r.length - p - h.2.1.length : Nat) : Int))
            have e : (((r.length : Int) - (p : Int)) - (h.2.1.length : Int)) = ((r.length - p - h.2.1.length : Nat) : Int) := by omega
            rw [e]
            exact .int _
        · generalize hL : List.zipWith (fun p o => r.length - p - o.length) bk.reverse (oldsOf hs) = L at law hda4
          have lL : L.length = hs.length := by
            rw [← hL, List.length_zipWith, List.length_reverse, List.length_map]
            omega
          rw [range_map L pI (by omega)] at hda4
          refine ⟨.ref D3, .list (L.map pI), _, rfl, dLst hacc4 hda4, rfl, fun vl HD sD hvl => ?_⟩
          have s9D := sameT sA (sameT sB sD)
          have hvfD := Dm hvf9' s9D
          have s0D := sameT s09 s9D
          refine ⟨vf, rfl, vl, rfl, _, _, hvfD, hvl, shA_pI fl, shA_pI L, _, rfl, ?_⟩
          have e : PyData.eqv (.tuple (fl.map pI)) (.tuple (L.map pI)) = decide (fl = L) := by
            simp only [PyData.eqv]
            exact pI_eqv fl L
          rw [e]
          by_cases hfl : fl = L
          · refine ifT (decide_eq_true hfl) ⟨vf, rfl, fin _ _ s0D ?_⟩
            rw [← law, if_pos hfl]
            exact hvfD
          · refine ifF (decide_eq_false hfl) (fin _ _ s0D ?_)
            rw [← law, if_neg hfl]
            exact .non
end
end K60
/-! K60F6: all_fits. -/
namespace K60
open PySem PySem.Spec PyProof.Rows L2

def tupI (pl : List Nat) : PyData := .tuple (pl.map pI)
def pq (q : List Nat × Nat) : PyData := .tuple [.tuple (q.1.map pI), pI q.2]
theorem tupI_nl (pl : List Nat) : nl (tupI pl) = true := by
  unfold tupI
  rw [nl_tuple]
  exact pI_nl pl
theorem pq_nl (q : List Nat × Nat) : nl (pq q) = true := by
  have e : nl (pI q.2) = true := rfl
  unfold pq
  rw [nl_tuple]
  simp [nlA, nl_tuple, pI_nl, e]
theorem pqs_nl (qs : List (List Nat × Nat)) : nlA (qs.map pq) = true := nlA_iff.mpr fun d hd => by
  obtain ⟨q, _, rfl⟩ := List.mem_map.mp hd
  exact pq_nl q
theorem stepB_app (r : List PyData) (a b : List (List Nat × Nat)) (old : List PyData) : stepB r (a ++ b) old = stepB r a old ++ stepB r b old := by
  unfold stepB
  rw [List.flatMap_append]
theorem stepB_one (r : List PyData) (q : List Nat × Nat) (old : List PyData) : stepB r [q] old = (spots r old q.2).map fun p => (q.1 ++ [p], p + old.length) := by
  unfold stepB
  simp
theorem fitsB_le (r : List PyData) : ∀ (n : Nat) (olds : List (List PyData)), olds.length = n → ∀ q ∈ fitsB r olds, q.2 ≤ r.length
  | 0, olds, h, q, hq => by
    have e : olds = [] := List.length_eq_zero_iff.mp h
    subst e
    have : q = ([], 0) := by simpa [fitsB] using hq
    subst this
    exact Nat.zero_le _
  | n + 1, olds, h, q, hq => by
    obtain ⟨l, x, rfl⟩ : ∃ l x, olds = l ++ [x] := by
      rcases List.eq_nil_or_concat olds with rfl | ⟨l, x, rfl⟩
      · cases h
      · exact ⟨l, x, by simp⟩
    rw [fitsB_snoc] at hq
    unfold stepB at hq
    obtain ⟨q', hq', hm⟩ := List.mem_flatMap.mp hq
    obtain ⟨p, hp, rfl⟩ := List.mem_map.mp hm
    exact fitsAt_le (mem_spots.mp hp).2
theorem take_next {α : Type} {l : List α} {i : Nat} {x : α} (h : l[i]? = some x) : l.take (i + 1) = l.take i ++ [x] := by
  rw [List.take_add_one, h]
  rfl
theorem stepB_pre (r : List PyData) (qs : List (List Nat × Nat)) (old : List PyData) (j : Nat) : (stepB r (qs.take j) old).length ≤ (stepB r qs old).length := by
  have e : stepB r qs old = stepB r (qs.take j) old ++ stepB r (qs.drop j) old := by
    rw [← stepB_app, List.take_append_drop]
  rw [e, List.length_append]
  omega
/-- all places, or too many -/
def spAF (K : PySem.W.Frag) (C C2 : Addr) : Sp := fun vs H Q E => ∃ vp vr, ∃ m : Nat, vs = [vp, vr, .int (m : Int)] ∧ 1 ≤ m ∧ Pre K C H vp vr E fun hs r =>
  ((∀ i, i ≤ hs.length → (fitsB r ((oldsOf hs).take i)).length ≤ m) → ∀ v' H', Same H H' → Dp K H' v' (.tuple ((fitsFrom r 0 (oldsOf hs)).map tupI)) → Q v' H') ∧
  (∀ i, i ≤ hs.length → m < (fitsB r ((oldsOf hs).take i)).length → Out H C2 "most" (.int (m : Int)) E)

section
variable {P : Program} {w : World} {K : PySem.W.Frag} {mg : Str → Option Value} {base : Heap} {f C C2 : Addr} {fd : FuncData}
abbrev N15 : List Str := ["patch", "rows", "most", "told", "here", "found", "place", "old", "new", "longer", "places", "behind", "some", "at"]
theorem sc15 : FnScope N15 ["patch", "rows", "most"] (defScope (top 15)) := ⟨rfl, rfl, rfl, by decide +kernel, rfl, by decide +kernel, by decide +kernel⟩
theorem ok_all_fits (F : Fun K "all_fits" "all_fits" (top 15) f fd) (N : Nm mg) (cp : Cl P w K mg base (L2.CX P w) 4 "check_patch" ["value"] (spCp K C)) (ct : Cl P w K mg base (L2.CX P w) 3 "check_things" ["value"] (spTh K C))
    (cf : Cl P w K mg base CX0 1 "fits_at" ["rows", "old", "place"] (spFit K)) (er : ErC P w K mg base "TooGreat" C2 "most") : FnOk P w K mg base (L2.CX P w) 5 f fd ["patch", "rows", "most"] (spAF K C C2) := by
  have nd : (N15).Nodup := by decide +kernel
  refine F.okX sc15 (fun vs H Q E h => ?_) (fun cdv A outer s H vs Q E hr h => ?_)
  · obtain ⟨vp, vr, m, rfl, _⟩ := h
    rfl
  · obtain ⟨vp, vr, m, rfl, hm1, dp, dr, hdp, hdr, hsm, qt, qn⟩ := h
    have tk : Takes (L2.cxOf (L2.CX P w) P w K mg base N15 "all_fits" (defScope (top 15)) f cdv A outer s H E) (fun cls d _ H => E cls d H) := takes_of rfl rfl rfl rfl
    refine ⟨_, pss_cons (ps_asg (pe_tup (pa_cons (pe_cl (E := E) cp hr (by decide) (passes_call tk fun _ _ _ _ h => h) (pa_cons (pv 0) pa_nil)) (pa_cons (pe_cl (E := E) ct hr (by decide) (passes_call tk fun _ _ _ _ h => h) (pa_cons (pv 1) pa_nil)) pa_nil)))
        (tupG K rfl (pgs_cons (pg_name (i := 3) nd rfl (Or.inl rfl)) (pgs_cons (pg_name (i := 4) nd rfl (Or.inr rfl)) pgs_nil))))
      (pss_cons (ps_set (i := 5) nd rfl (Or.inl rfl) (pe_lst (pa_cons (pe_tup (pa_cons (pe_tup pa_nil) (pa_cons pe_int pa_nil))) pa_nil)))
      (pss_cons (ps_for (passes_of rfl) rfl (pi_seqF (pv 3)) (tupG K (n := 3) rfl (pgs_cons (pg_name (i := 6) nd rfl (Or.inl rfl)) (pgs_cons (pg_name (i := 7) nd rfl (Or.inr rfl)) (pgs_cons (pg_name (i := 8) nd rfl (Or.inl rfl)) pgs_nil))))
        (pss_cons (ps_set (i := 9) nd rfl (Or.inl rfl) (pe_lst pa_nil))
        (pss_cons (ps_for (passes_of rfl) rfl (pi_seqF (pv 5)) (tupG K (n := 2) rfl (pgs_cons (pg_name (i := 10) nd rfl (Or.inr rfl)) (pgs_cons (pg_name (i := 11) nd rfl (Or.inl rfl)) pgs_nil)))
          (pss_cons (ps_setLc (i := 12) (own := [("at", 13)]) (g := gName 13) rfl nd rfl rfl (sw_true rfl rfl rfl (by decide +kernel))
              (pi_range2 rfl N.range (pa_cons (pv 11) (pa_cons (pe_add (pe_sub (pe_callB (id := "len") (lenK K) rfl N.len (by decide +kernel) (pa_cons (pv 4) pa_nil)) (pe_callB (id := "len") (lenK K) rfl N.len (by decide +kernel) (pa_cons (pv 7) pa_nil))) pe_int) pa_nil)))
              (blkOk_by (N := N15) (sc := defScope (top 15)) (by decide +kernel)) (fun _ _ _ _ _ => pg_name (i := 13) nd rfl (Or.inl rfl)) (fun _ _ _ _ _ => pts_one (pt_val (pe_cl cf hr (by decide) pass0 (pa_cons (pv 4) (pa_cons (pv 7) (pa_cons (pv 13) pa_nil)))))) (fun _ _ _ _ _ => pv 13))
          (pss_cons (ps_expr (pe_bm PySem.F.plainAttrs_list PySem.F.slot_list_extend PySem.F.type_list_extend mt_extend (pv 9) (pa_cons
              (pe_lc (own := [("at", 13)]) (g := gName 13) (tt := tYes) rfl nd (pi_seqF (pv 12)) (blkOk_by (N := N15) (sc := defScope (top 15)) (by decide +kernel)) (fun _ _ _ _ _ => pg_name (i := 13) nd rfl (Or.inl rfl)) (fun _ _ _ _ _ => pts_nil)
                (fun _ _ _ _ _ => pe_tup (pa_cons (pe_op (catK K) (pv 10) (pe_tup (pa_cons (pv 13) pa_nil))) (pa_cons (pe_add (pv 13) (pe_callB (id := "len") (lenK K) rfl N.len (by decide +kernel) (pa_cons (pv 7) pa_nil))) pa_nil)))) pa_nil)))
          (pss_one (ps_if (pt_cmp (pc_gt (pe_callB (id := "len") (lenK K) rfl N.len (by decide +kernel) (pa_cons (pv 9) pa_nil)) (pv 2))) (pss_one (ps_raiseEr rfl tk er (hr.mono (by decide)) (pv 2))) pss_nil)))))
        (pss_one (ps_set (i := 5) nd rfl (Or.inl rfl) (pv 9))))))
      (pss_one (ps_ret (pe_callTy (T := "tuple") (tupK K) rfl N.tuple (by decide +kernel) (pa_cons (pe_lc (own := [("places", 10), ("behind", 11)]) (tt := tYes) rfl nd (pi_seqF (pv 5)) (blkOk_by (N := N15) (sc := defScope (top 15)) (by decide +kernel))
          (fun _ _ _ _ _ => tupG K (n := 2) rfl (pgs_cons (pg_name (i := 10) nd rfl (Or.inl rfl)) (pgs_cons (pg_name (i := 11) nd rfl (Or.inl rfl)) pgs_nil))) (fun _ _ _ _ _ => pts_nil) (fun _ _ _ _ _ => pv 10)) pa_nil)))))), ?_⟩
    have hsl : (10000 : Nat) ≤ sizeLine := by rw [sizeLine_eq]; decide
    refine ⟨vp, rfl, vp, dp, rfl, hdp, hsm, fun hs hold => ?_, fun no => qn no⟩
    obtain ⟨okh, qr, qrn⟩ := qt hs hold
    refine ⟨okh.nl, fun vt H1 s1 hvt => ?_⟩
    refine ⟨vr, rfl, vr, dr, rfl, Dm hdr s1, fun r er vh H2 s2 hvh => ?_, fun nn => (qrn nn).at s1⟩
    obtain ⟨okr, fin, fout⟩ := qr r er
    refine ⟨by show 2 ≤ sizeLine; decide, fun T hT => g_pair upd_same ?_⟩
    have s3 := Same.nw (o := .tup [vt, vh]) hT
    generalize hH3 : upd H2 T (.tup [vt, vh]) = H3 at s3
    have s03 : Same H H3 := sameT (sameT s1 s2) s3
    have hvt := Dm hvt (sameT s2 s3)
    have hvh := Dm hvh s3
    clear hH3 hT
    -- found = [((), 0)]
    refine ⟨by show 0 ≤ sizeLine; exact Nat.zero_le _, fun T0 hT0 => ⟨by show 2 ≤ sizeLine; decide, fun T1 hT1 => ⟨by show 1 ≤ sizeLine; decide, fun L0 hL0 => ?_⟩⟩⟩
    have sT0 : Same H3 (upd H3 T0 (.tup [])) := Same.nw hT0
    have sT1 := Same.nw (o := .tup [.ref T0, .int 0]) hT1
    have sL0 := Same.nw (o := .lst [.ref T1]) hL0
    have hq0 : DpAll K (upd (upd (upd H3 T0 (.tup [])) T1 (.tup [.ref T0, .int 0])) L0 (.lst [.ref T1])) [.ref T1] ((fitsB r ((oldsOf hs).take 0)).map pq) := by
      refine DmA (daOne (dTup upd_same (.cons (Dm (dTup upd_same .nil) sT1) (.cons (.int 0) .nil)))) sL0
    have s34 := sameT (sameT sT0 sT1) sL0
    generalize hH4 : upd (upd (upd H3 T0 (.tup [])) T1 (.tup [.ref T0, .int 0])) L0 (.lst [.ref T1]) = H4 at hq0 s34
    have hL04 : H4 L0 = some (.lst [.ref T1]) := by rw [← hH4, upd_same]
    clear hH4 hL0 hT1 hT0 sT0 sT1 sL0
    obtain ⟨a, xs, ev, hq, ha⟩ := dInv_tup hvt
    have hln := daLen ha
    rw [List.length_map] at hln
    refine ⟨vt, rfl, true, a, xs, ev, (show SqF true K H3 a xs from hq).up s34, fun J wk => ?_⟩
    refine for_it wk (fun i σ H' => (∃ (L : Addr) (vs : List V) (x6 x7 x8 x9 x10 x11 x12 x13 : Option V), σ = [some vp, some vr, some (.int (m : Int)), some vt, some vh, some (.ref L), x6, x7, x8, x9, x10, x11, x12, x13] ∧ H' L = some (.lst vs) ∧
        DpAll K H' vs ((fitsB r ((oldsOf hs).take i)).map pq) ∧ ∀ i', i' ≤ i → (fitsB r ((oldsOf hs).take i')).length ≤ m) ∧ Same H3 H') ⟨⟨L0, _, _, _, _, _, _, _, _, _, rfl, hL04, hq0, fun i' hi' => ?_⟩, s34⟩
      (fun i σ H' _ p => (show SqF true K H3 a xs from hq).up p.2) (fun i x σ H5 H5' hi p y => ?_) (fun σ H5 p => ?_)
    · have e : i' = 0 := by omega
      subst e
      exact hm1
    · obtain ⟨⟨L, vs, x6, x7, x8, x9, x10, x11, x12, x13, rfl, hL5, hvs, hall⟩, s35⟩ := p
      obtain ⟨rfl, hx⟩ := y
      obtain ⟨d', hd', hx'⟩ := daGet ha hx
      rw [List.getElem?_map] at hd'
      obtain ⟨h, mh, rfl⟩ := Option.map_eq_some_iff.mp hd'
      have okx := okh.each h (List.mem_of_getElem? mh)
      have mo : (oldsOf hs)[i]? = some h.2.1 := by rw [List.getElem?_map, mh]; rfl
      refine g_tripD (Dm hx' s35) fun x1 x2 x3 w1 w2 w3 => ?_
      refine ⟨by show 0 ≤ sizeLine; exact Nat.zero_le _, fun Lg hLg => ?_⟩
      have s5g : Same H5' (upd H5' Lg (.lst [])) := Same.nw hLg
      have hLgL : L ≠ Lg := fun e => by
        rw [← e, hL5] at hLg
        cases hLg
      generalize hqs : fitsB r ((oldsOf hs).take i) = qs at hvs
      have hqn : fitsB r ((oldsOf hs).take (i + 1)) = stepB r qs h.2.1 := by rw [take_next mo, fitsB_snoc, hqs]
      have hli : i + 1 ≤ hs.length := by omega
      have hsmall : (stepB r qs h.2.1).length ≤ 9261 := by
        rw [← hqn]
        refine fitsB_small okr.len ?_
        rw [List.length_take, List.length_map]
        have := okh.len
        omega
      have hvl := daLen hvs
      rw [List.length_map] at hvl
      refine ⟨_, rfl, false, L, vs, rfl, (show SqF false K H5' L vs from SqL.of hL5).up s5g, fun J2 wk2 => ?_⟩
      refine for_it wk2 (fun j σ H' => (∃ (ws : List V) (y10 y11 y12 y13 : Option V), σ = [some vp, some vr, some (.int (m : Int)), some vt, some vh, some (.ref L), some x1, some x2, some x3, some (.ref Lg), y10, y11, y12, y13] ∧ H' Lg = some (.lst ws) ∧
          DpAll K H' ws ((stepB r (qs.take j) h.2.1).map pq) ∧ (stepB r (qs.take j) h.2.1).length ≤ m) ∧ Same H5' H') ⟨⟨[], _, _, _, _, rfl, upd_same, .nil, Nat.zero_le _⟩, s5g⟩
        (fun j σ H' _ p => (show SqF false K H5' L vs from SqL.of hL5).up p.2) (fun j z σ H6 H6' hj p y => ?_) (fun σ H6 p => ?_)
      · obtain ⟨⟨ws, y10, y11, y12, y13, rfl, hLg6, hws, hwm⟩, s56⟩ := p
        obtain ⟨rfl, hz⟩ := y
        obtain ⟨d', hd', hz'⟩ := daGet hvs hz
        rw [List.getElem?_map] at hd'
        obtain ⟨q, mq, rfl⟩ := Option.map_eq_some_iff.mp hd'
        have hq2 : q.2 ≤ r.length := fitsB_le r _ _ rfl q (by rw [hqs]; exact List.mem_of_getElem? mq)
        refine g_pairD (Dm hz' s56) fun z1 z2 u1 u2 => ?_
        have ez := dInv_int u2
        subst ez
        have s36 := sameT s35 s56
        have hvh6 := Dm hvh s36
        have w26 := Dm w2 s56
        have hrl := okr.len
        have hol := okx.2.2.1
        have en : (((r.length : Int) - (h.2.1.length : Int) + 1) - (q.2 : Int)).toNat = r.length + 1 - h.2.1.length - q.2 := by omega
        refine ⟨_, rfl, vh, rfl, vh, _, _, rfl, hvh6, rfl, x2, rfl, x2, _, _, rfl, w26, rfl, _, _, rfl, rfl, _, _, rfl, rfl, _, _, rfl, ?_, ?_⟩
        · show -(2 ^ 62) ≤ (q.2 : Int) ∧ (q.2 : Int) < 2 ^ 62 ∧ -(2 ^ 62) ≤ ((r.length : Int) - (h.2.1.length : Int) + 1) ∧ ((r.length : Int) - (h.2.1.length : Int) + 1) < 2 ^ 62
          omega
        intro D hD
        refine lc_data (K := K) (fun i => if fitsAt r h.2.1 (q.2 + i) = true then some (pI (q.2 + i)) else none) walk_range ?_ hD (fun i e hi he => ?_) (fun _ _ => trivial) (fun k z' H7 H7' Ky Kn hk s7 y ky kn => ?_) (fun H7 acc s7 hacc hda => ?_)
        · show (((r.length : Int) - (h.2.1.length : Int) + 1) - (q.2 : Int)).toNat ≤ sizeLine
          omega
        · split at he
          · cases he
            rfl
          · cases he
        · obtain ⟨rfl, rfl⟩ := y
          refine ⟨rfl, vh, rfl, x2, rfl, _, rfl, ?_⟩
          refine ⟨vh, x2, r, h.2.1, q.2 + k, ?_, Dm hvh6 s7, Dm w26 s7, okr.sh, okx.2.1, fun H8 s8 => ⟨_, rfl, ?_⟩⟩
          · show [vh, x2, V.int ((q.2 : Int) + (k : Int))] = _
            rw [Int.natCast_add]
          cases hf : fitsAt r h.2.1 (q.2 + k) with
          | true =>
            refine iteT ⟨_, rfl, ky (pI (q.2 + k)) (by rw [if_pos hf]) _ _ s8 ?_⟩
            show Dp K H8 (.int ((q.2 : Int) + (k : Int))) (.int ((q.2 + k : Nat) : Int))
            rw [Int.natCast_add]
            exact .int _
          | false => exact iteF (kn (by rw [if_neg (by rw [hf]; exact Bool.false_ne_true)]) _ s8)
        · have hda' : DpAll K H7 acc ((spots r h.2.1 q.2).map pI) := by
            rw [← spots_range r h.2.1 q.2 pI, ← en]
            exact hda
          have hsl2 := spots_len r h.2.1 q.2
          have hal := daLen hda'
          rw [List.length_map] at hal
          have hLg7 := s7 _ _ hLg6
          refine ⟨_, rfl, .inl ⟨rfl, _, SqL.of hLg7⟩, _, rfl, false, D, acc, rfl, SqL.of hacc, fun J3 wk3 D2 hD2 => ?_⟩
          refine lc_data (K := K) (fun k => ((spots r h.2.1 q.2)[k]?).map fun p => pq (q.1 ++ [p], p + h.2.1.length)) wk3 (by omega) hD2 (fun k e hk he => ?_) (fun H2 s2 => (show SqF false K H7 D acc from SqL.of hacc).up s2) (fun k z' H8 H8' Ky Kn hk s8 y ky kn => ?_) (fun H8 acc2 s8 hacc2 hda2 => ?_)
          · obtain ⟨p, _, rfl⟩ := Option.map_eq_some_iff.mp he
            exact pq_nl _
          · obtain ⟨rfl, hz'⟩ := y
            obtain ⟨d', hd', hzd⟩ := daGet hda' hz'
            rw [List.getElem?_map] at hd'
            obtain ⟨p, mp, rfl⟩ := Option.map_eq_some_iff.mp hd'
            have ep := dInv_int hzd
            subst ep
            have s68 := sameT s7 s8
            have hple := fitsAt_le (mem_spots.mp (List.mem_of_getElem? mp)).2
            have hql : (q.1.map pI).length ≤ 1000 := by
              have := (fitsB_mem r _ _ rfl q (by rw [hqs]; exact List.mem_of_getElem? mq)).1
              rw [List.length_map, this, List.length_take, List.length_map]
              have := okh.len
              omega
            refine ⟨rfl, _, rfl, _, rfl, by show 1 ≤ sizeLine; decide, fun T hT => ?_⟩
            have sT := Same.nw (o := .tup [V.int (p : Int)]) hT
            refine ⟨q.1.map pI, [pI p], Dm (Dm u1 s68) sT, dTup upd_same (.cons (.int _) .nil), by show (q.1.map pI).length + 1 ≤ sizeLine; omega, fun v9 H9 s9 hv9 => ?_⟩
            have s89 := sameT sT s9
            refine ⟨_, rfl, x2, rfl, x2, _, _, rfl, Dm (Dm w26 s68) s89, rfl, _, _, rfl, rfl, by show 2 ≤ sizeLine; decide, fun T2 hT2 => ?_⟩
            have sT2 := Same.nw (o := .tup [v9, V.int ((p : Int) + (h.2.1.length : Int))]) hT2
            refine ky (pq (q.1 ++ [p], p + h.2.1.length)) (by rw [mp]; rfl) _ _ (sameT s89 sT2) (dTup upd_same (.cons (Dm ?_ sT2) (.cons ?_ .nil)))
            · rw [List.map_append]
              exact hv9
            · show Dp K _ (.int ((p : Int) + (h.2.1.length : Int))) (.int ((p + h.2.1.length : Nat) : Int))
              rw [Int.natCast_add]
              exact .int _
          · rw [range_map (spots r h.2.1 q.2) (fun p => pq (q.1 ++ [p], p + h.2.1.length)) (by omega)] at hda2
            have hLg8 := s8 _ _ hLg7
            have s68 := sameT s7 s8
            have enext : stepB r (qs.take (j + 1)) h.2.1 = stepB r (qs.take j) h.2.1 ++ (spots r h.2.1 q.2).map fun p => (q.1 ++ [p], p + h.2.1.length) := by
              rw [take_next mq, stepB_app, stepB_one]
            have hdw : DpAll K H8 (ws ++ acc2) ((stepB r (qs.take (j + 1)) h.2.1).map pq) := by
              rw [enext, List.map_append, List.map_map]
              exact daApp (DmA hws s68) hda2
            have hwl := daLen hdw
            rw [List.length_append, List.length_map] at hwl
            have hpre := stepB_pre r qs h.2.1 (j + 1)
            refine ⟨Lg, D2, ws, acc2, rfl, rfl, hLg8, hacc2, by omega, ?_⟩
            have hdw2 : DpAll K (upd H8 Lg (.lst (ws ++ acc2))) (ws ++ acc2) ((stepB r (qs.take (j + 1)) h.2.1).map pq) := dNA (sameN_lst hLg8) _ _ (pqs_nl _) hdw
            have s59 : Same H5' (upd H8 Lg (.lst (ws ++ acc2))) := Same.md (sameT s56 s68) hLg
            refine ⟨_, rfl, .ref Lg, _, _, rfl, dLst upd_same hdw2, rfl, _, rfl, _, _, rfl, rfl, _, rfl, ?_⟩
            by_cases hgt : m < (stepB r (qs.take (j + 1)) h.2.1).length
            · refine ifT ?_ ⟨_, rfl, mk_er ((fout (i + 1) hli ?_).at (sameT s03 (sameT s35 s59)))⟩
              · rw [List.length_map]
                exact decide_eq_true (by omega)
              · rw [hqn]
                omega
            · refine ifF ?_ ⟨⟨ws ++ acc2, _, _, _, _, rfl, upd_same, hdw2, by omega⟩, s59⟩
              rw [List.length_map]
              exact decide_eq_false (by omega)
      · obtain ⟨⟨ws, y10, y11, y12, y13, rfl, hLg6, hws, hwm⟩, s56⟩ := p
        rw [List.take_of_length_le (by omega)] at hws hwm
        refine ⟨_, rfl, ⟨Lg, ws, _, _, _, _, _, _, _, _, rfl, hLg6, by rw [hqn]; exact hws, fun i' hi' => ?_⟩, sameT s35 s56⟩
        by_cases e : i' = i + 1
        · rw [e, hqn]
          exact hwm
        · exact hall i' (by omega)
    · obtain ⟨⟨L, vs, x6, x7, x8, x9, x10, x11, x12, x13, rfl, hL5, hvs, hall⟩, s35⟩ := p
      rw [List.take_of_length_le (by rw [List.length_map]; omega)] at hvs
      have hvl := daLen hvs
      rw [List.length_map] at hvl
      have hsmall : (fitsB r (oldsOf hs)).length ≤ 9261 := fitsB_small okr.len (by rw [List.length_map]; exact okh.len)
      refine ⟨_, rfl, false, L, vs, rfl, SqL.of hL5, fun J3 wk3 D2 hD2 => ?_⟩
      refine lc_data (K := K) (fun k => ((fitsB r (oldsOf hs))[k]?).map fun q => tupI q.1) wk3 (by omega) hD2 (fun k e hk he => ?_) (fun H2 s2 => (show SqF false K H5 L vs from SqL.of hL5).up s2) (fun k z' H8 H8' Ky Kn hk s8 y ky kn => ?_) (fun H8 acc2 s8 hacc2 hda2 => ?_)
      · obtain ⟨p, _, rfl⟩ := Option.map_eq_some_iff.mp he
        exact tupI_nl _
      · obtain ⟨rfl, hz'⟩ := y
        obtain ⟨d', hd', hzd⟩ := daGet hvs hz'
        rw [List.getElem?_map] at hd'
        obtain ⟨q, mq, rfl⟩ := Option.map_eq_some_iff.mp hd'
        exact g_pairD (Dm hzd s8) fun z1 z2 u1 u2 => ⟨rfl, _, rfl, ky (tupI q.1) (by rw [mq]; rfl) _ _ sameR u1⟩
      · rw [range_map (fitsB r (oldsOf hs)) (fun q => tupI q.1) (by omega)] at hda2
        have e : (fitsB r (oldsOf hs)).map (fun q => tupI q.1) = (fitsFrom r 0 (oldsOf hs)).map tupI := by
          rw [← fitsB_fst, List.map_map]
          rfl
        rw [e] at hda2
        refine ⟨_, _, _, rfl, dLst hacc2 hda2, rfl, fun v' H' s' hv' => fin (fun i hi => ?_) v' H' (sameT s03 (sameT s35 (sameT s8 s'))) hv'⟩
        exact hall i (by omega)
end
end K60
/-! K60F7: patched_at, patched. -/
namespace K60
open PySem PySem.Spec PyProof.Rows L2

abbrev prs (hs : List H3) : List (List PyData × List PyData) := hs.map (·.2)
theorem told_uniq {d : PyData} {a b : List H3} (h1 : Told d a) (h2 : Told d b) : a = b := by
  obtain ⟨ds, e1, e2, _⟩ := h1
  obtain ⟨ds', e3, e4, _⟩ := h2
  rw [e1] at e3
  cases e3
  rw [e2] at e4
  exact (List.map_inj_right (fun a b h => Option.some.inj h)).mp e4
def spPA (K : PySem.W.Frag) (C : Addr) : Sp := fun vs H Q E => ∃ vp vr vv dv, vs = [vp, vr, vv] ∧ Dp K H vv dv ∧ Pre K C H vp vr E fun hs r =>
  (∀ pl, seqD dv = some (pl.map pI) → Fit r 0 (oldsOf hs) pl → ∀ v' H', Same H H' → Dp K H' v' (.tuple (putFrom r [] 0 (prs hs) pl)) → Q v' H') ∧
  ((∀ pl, seqD dv = some (pl.map pI) → ¬ Fit r 0 (oldsOf hs) pl) → Out H C "at" vv E)
def spPD (K : PySem.W.Frag) (C : Addr) : Sp := fun vs H Q E => ∃ vp vr, vs = [vp, vr] ∧ Pre K C H vp vr E fun hs r =>
  (∀ pl, onlyF r (oldsOf hs) = some pl → ∀ v' H', Same H H' → Dp K H' v' (.tuple (putFrom r [] 0 (prs hs) pl)) → Q v' H') ∧ (onlyF r (oldsOf hs) = none → Out H C "at" vr E)

section
variable {P : Program} {w : World} {K : PySem.W.Frag} {mg : Str → Option Value} {base : Heap} {f C : Addr} {fd : FuncData}
abbrev N18 : List Str := ["patch", "rows", "places", "told", "here", "found", "at", "place", "hunk"]
theorem sc18 : FnScope N18 ["patch", "rows", "places"] (defScope (top 18)) := ⟨rfl, rfl, rfl, by decide +kernel, rfl, by decide +kernel, by decide +kernel⟩
theorem ok_patched_at (F : Fun K "patched_at" "patched_at" (top 18) f fd) (N : Nm mg) (cp : Cl P w K mg base (L2.CX P w) 4 "check_patch" ["value"] (spCp K C)) (ct : Cl P w K mg base (L2.CX P w) 3 "check_things" ["value"] (spTh K C))
    (ca : Cl P w K mg base CX0 3 "are_places" ["patch", "rows", "value"] (spAre K)) (er : ErC P w K mg base "Refused" C "at") : FnOk P w K mg base (L2.CX P w) 5 f fd ["patch", "rows", "places"] (spPA K C) := by
  have nd : (N18).Nodup := by decide +kernel
  refine F.okX sc18 (fun vs H Q E h => ?_) (fun cdv A outer s H vs Q E hr h => ?_)
  · obtain ⟨vp, vr, vv, dv, rfl, _⟩ := h
    rfl
  · obtain ⟨vp, vr, vv, dv, rfl, hdv, dp, dr, hdp, hdr, hsm, qt, qn⟩ := h
    have tk : Takes (L2.cxOf (L2.CX P w) P w K mg base N18 "patched_at" (defScope (top 18)) f cdv A outer s H E) (fun cls d _ H => E cls d H) := takes_of rfl rfl rfl rfl
    refine ⟨_, pss_cons (ps_par (i := 3) (j := 4) rfl nd rfl rfl (by decide) rfl rfl (pa_cons (pe_cl (E := E) cp hr (by decide) (passes_call tk fun _ _ _ _ h => h) (pa_cons (pv 0) pa_nil)) (pa_cons (pe_cl (E := E) ct hr (by decide) (passes_call tk fun _ _ _ _ h => h) (pa_cons (pv 1) pa_nil)) pa_nil)) rfl)
      (pss_cons (ps_if (pt_not (pt_val (pe_cl ca hr (by decide) pass0 (pa_cons (pv 3) (pa_cons (pv 4) (pa_cons (pv 2) pa_nil)))))) (pss_one (ps_raiseEr rfl tk er (hr.mono (by decide)) (pv 2))) pss_nil)
      (pss_cons (ps_asg (pe_tup (pa_cons (pe_tup pa_nil) (pa_cons pe_int pa_nil))) (tupG K (n := 2) rfl (pgs_cons (pg_name (i := 5) nd rfl (Or.inl rfl)) (pgs_cons (pg_name (i := 6) nd rfl (Or.inl rfl)) pgs_nil))))
      (pss_cons (ps_for (passes_of rfl) rfl (pi_zipF N.zip (pa_cons (pv 2) (pa_cons (pv 3) pa_nil))) (tupG K (n := 2) rfl (pgs_cons (pg_name (i := 7) nd rfl (Or.inl rfl)) (pgs_cons (pg_name (i := 8) nd rfl (Or.inl rfl)) pgs_nil)))
        (pss_one (ps_par (i := 5) (j := 6) rfl nd rfl rfl (by decide) rfl rfl (pa_cons (pe_op (catK K) (pe_op (catK K) (pv 5) (pe_slice (slK K) (pv 4) (po_some (pv 6)) (po_some (pv 7)))) (pe_ix (ixK K) (pv 8) pe_int (fun _ _ => rfl)))
          (pa_cons (pe_add (pv 7) (pe_callB (id := "len") (lenK K) rfl N.len (by decide +kernel) (pa_cons (pe_ix (ixK K) (pv 8) pe_int (fun _ _ => rfl)) pa_nil))) pa_nil)) rfl)))
      (pss_one (ps_ret (pe_op (catK K) (pv 5) (pe_slice (slK K) (pv 4) (po_some (pv 6)) po_none))))))), ?_⟩
    have hsl : (10000 : Nat) ≤ sizeLine := by rw [sizeLine_eq]; decide
    refine ⟨vp, rfl, vp, dp, rfl, hdp, hsm, fun hs hold => ?_, fun no => qn no⟩
    obtain ⟨okh, qr, qrn⟩ := qt hs hold
    refine ⟨okh.nl, fun vt H1 s1 hvt => ?_⟩
    refine ⟨vr, rfl, vr, dr, rfl, Dm hdr s1, fun r er vh H2 s2 hvh => ?_, fun nn => (qrn nn).at s1⟩
    obtain ⟨okr, fin, fout⟩ := qr r er
    have s02 : Same H H2 := sameT s1 s2
    have hvt := Dm hvt s2
    have hlen := okh.len
    have hrl := okr.len
    refine ⟨_, _, rfl, ?_⟩
    refine ⟨_, rfl, _, rfl, _, rfl, vt, vh, vv, r, dv, hs, rfl, hvt, hvh, Dm hdv s02, by omega, okr.sh, fun h hh => (okh.each h hh).2.1, fun pl e1 e2 H3 s3 => ⟨_, rfl, iteF ?_⟩, fun no H3 s3 => ⟨_, rfl, iteT ⟨_, rfl, mk_er ((fout no).at (sameT s02 s3))⟩⟩⟩
    have fin := fin pl e1 e2
    refine ⟨by show 0 ≤ sizeLine; exact Nat.zero_le _, fun T0 hT0 => ⟨by show 2 ≤ sizeLine; decide, fun T1 hT1 => g_pair upd_same ?_⟩⟩
    have sT0 : Same H3 (upd H3 T0 (.tup [])) := Same.nw hT0
    have sT1 := Same.nw (o := .tup [.ref T0, .int 0]) hT1
    have s34 := sameT sT0 sT1
    have hf0 : Dp K (upd (upd H3 T0 (.tup [])) T1 (.tup [.ref T0, .int 0])) (.ref T0) (.tuple []) := Dm (dTup upd_same .nil) sT1
    generalize upd (upd H3 T0 (.tup [])) T1 (.tup [.ref T0, .int 0]) = H4 at s34 hf0
    have s04 := sameT s02 (sameT s3 s34)
    have s24 := sameT s3 s34
    obtain ⟨t, u, a, b, xs, ys, ez, z1, z2, z3, z4⟩ := zipOf (Dm hdv s04) e1 (Dm hvt s24) rfl
    have hlx := daLen z3
    have hly := daLen z4
    have hpl := e2.length
    rw [List.length_map] at hlx hly hpl
    refine ⟨vv, rfl, vt, rfl, t, u, a, b, xs, ys, ez, z1, z2, fun J wk => ?_⟩
    refine for_it wk (fun i σ H' => (∃ (acc : List PyData) (at_ : Nat) (vf : V) (x7 x8 : Option V), σ = [some vp, some vr, some vv, some vt, some vh, some vf, some (.int (at_ : Int)), x7, x8] ∧ Dp K H' vf (.tuple acc) ∧ acc.length ≤ 120 * i ∧
        putFrom r [] 0 (prs hs) pl = putFrom r acc at_ ((prs hs).drop i) (pl.drop i)) ∧ Same H4 H') ⟨⟨[], 0, _, _, _, rfl, hf0, Nat.le_refl _, rfl⟩, sameR⟩
      (fun i σ H' _ p => ⟨z1.up p.2, z2.up p.2⟩) (fun i x σ H5 H5' hi p y => ?_) (fun σ H5 p => ?_)
    · obtain ⟨⟨acc, at_, vf, x7, x8, rfl, hvf, hac, hput⟩, s45⟩ := p
      obtain ⟨T, x1, x2, rfl, hT, rfl, g1, g2⟩ := y
      have sT : Same H5 (upd H5 T (.tup [x1, x2])) := Same.nw hT
      have s46 := sameT s45 sT
      obtain ⟨d1, k1, w1⟩ := daGet z3 g1
      obtain ⟨d2, k2, w2⟩ := daGet z4 g2
      rw [List.getElem?_map] at k1 k2
      obtain ⟨p, m1, rfl⟩ := Option.map_eq_some_iff.mp k1
      obtain ⟨h, m2, rfl⟩ := Option.map_eq_some_iff.mp k2
      have ep := dInv_int w1
      subst ep
      have w26 := Dm w2 s46
      have okx := okh.each h (List.mem_of_getElem? m2)
      have hnl := okx.2.2.2
      have hi3 : i < 3 := by
        have := (List.getElem?_eq_some_iff.mp m2).1
        omega
      have lcut : ((r.drop at_).take (p - at_)).length ≤ 20 := by
        rw [List.length_take, List.length_drop]
        omega
      refine g_pair upd_same ?_
      refine ⟨vf, rfl, vh, rfl, _, rfl, _, rfl, _, rfl, _, rfl, .tuple r, r, Dm hvh (sameT s24 s46), rfl, fun v1 H7 s7 hv1 => ?_⟩
      rw [cutL_nat] at hv1
      refine ⟨acc, (r.drop at_).take (p - at_), Dm hvf (sameT sT s7), hv1, by omega, fun v2 H8 s8 hv2 => ?_⟩
      have s68 := sameT s7 s8
      refine ⟨x2, rfl, _, _, 2, _, Dm w26 s68, rfl, rfl, rfl, fun v3 hv3 => ?_⟩
      refine ⟨acc ++ (r.drop at_).take (p - at_), h.2.2, hv2, hv3, by rw [List.length_append]; omega, fun v4 H9 s9 hv4 => ?_⟩
      have s69 := sameT s68 s9
      refine ⟨_, rfl, x2, rfl, _, _, 1, _, Dm w26 s69, rfl, rfl, rfl, fun v5 hv5 => ⟨v5, _, _, rfl, hv5, rfl, _, _, rfl, rfl, _, _, rfl, ?_⟩⟩
      refine ⟨⟨acc ++ ((r.drop at_).take (p - at_) ++ h.2.2), p + h.2.1.length, v4, _, _, rfl, ?_, ?_, ?_⟩, sameT s46 s69⟩
      · rw [← List.append_assoc]
        exact hv4
      · rw [List.length_append, List.length_append]
        omega
      · rw [hput]
        have ed1 : pl.drop i = p :: pl.drop (i + 1) := by
          obtain ⟨hlt, e⟩ := List.getElem?_eq_some_iff.mp m1
          rw [List.drop_eq_getElem_cons hlt, e]
        have ed2 : (prs hs).drop i = h.2 :: (prs hs).drop (i + 1) := by
          have m3 : (prs hs)[i]? = some h.2 := by rw [List.getElem?_map, m2]; rfl
          obtain ⟨hlt, e⟩ := List.getElem?_eq_some_iff.mp m3
          rw [List.drop_eq_getElem_cons hlt, e]
        rw [ed1, ed2]
        rfl
    · obtain ⟨⟨acc, at_, vf, x7, x8, rfl, hvf, hac, hput⟩, s45⟩ := p
      refine ⟨vf, rfl, vh, rfl, _, rfl, _, rfl, .tuple r, r, Dm hvh (sameT s24 s45), rfl, fun v1 H7 s7 hv1 => ?_⟩
      rw [cutL_from] at hv1
      have ld : (r.drop at_).length ≤ 20 := by
        rw [List.length_drop]
        omega
      have hm3 : min xs.length ys.length ≤ 3 := by omega
      refine ⟨acc, r.drop at_, Dm hvf s7, hv1, by omega, fun v2 H8 s8 hv2 => ?_⟩
      refine fin v2 H8 (sameT s04 (sameT s45 (sameT s7 s8))) ?_
      rw [hput, List.drop_eq_nil_of_le (by rw [List.length_map]; omega), List.drop_eq_nil_of_le (by omega)]
      exact hv2

abbrev N19 : List Str := ["patch", "rows", "places"]
theorem sc19 : FnScope N19 ["patch", "rows"] (defScope (top 19)) := ⟨rfl, rfl, rfl, by decide +kernel, rfl, by decide +kernel, by decide +kernel⟩
theorem onlyF_fit {r : List PyData} {olds : List (List PyData)} {pl : List Nat} (h : onlyF r olds = some pl) : Fit r 0 olds pl := by
  unfold onlyF at h
  split at h
  · exact mem_fitsFrom.mp (List.mem_of_head? h)
  · cases h
theorem ok_patched (F : Fun K "patched" "patched" (top 19) f fd) (N : Nm mg) (co : Cl P w K mg base (L2.CX P w) 5 "only_fit" ["patch", "rows"] (spOnly K C))
    (ca : Cl P w K mg base (L2.CX P w) 5 "patched_at" ["patch", "rows", "places"] (spPA K C)) (er : ErC P w K mg base "Refused" C "at") : FnOk P w K mg base (L2.CX P w) 6 f fd ["patch", "rows"] (spPD K C) := by
  have nd : (N19).Nodup := by decide +kernel
  refine F.okX sc19 (fun vs H Q E h => ?_) (fun cdv A outer s H vs Q E hr h => ?_)
  · obtain ⟨vp, vr, rfl, _⟩ := h
    rfl
  · obtain ⟨vp, vr, rfl, dp, dr, hdp, hdr, hsm, qt, qn⟩ := h
    have tk : Takes (L2.cxOf (L2.CX P w) P w K mg base N19 "patched" (defScope (top 19)) f cdv A outer s H E) (fun cls d _ H => E cls d H) := takes_of rfl rfl rfl rfl
    refine ⟨_, pss_cons (ps_set (i := 2) nd rfl (Or.inl rfl) (pe_cl (E := E) co hr (by decide) (passes_call tk fun _ _ _ _ h => h) (pa_cons (pv 0) (pa_cons (pv 1) pa_nil))))
      (pss_cons (ps_if (pt_cmp (pc_isN (pv 2))) (pss_one (ps_raiseEr rfl tk er (hr.mono (by decide)) (pv 1))) pss_nil)
      (pss_one (ps_ret (pe_cl (E := E) ca hr (by decide) (passes_call tk fun _ _ _ _ h => h) (pa_cons (pv 0) (pa_cons (pv 1) (pa_cons (pv 2) pa_nil))))))), ?_⟩
    refine ⟨vp, rfl, vr, rfl, vp, vr, rfl, dp, dr, hdp, hdr, hsm, fun hs hold => ?_, qn⟩
    obtain ⟨okh, qr, qrn⟩ := qt hs hold
    refine ⟨okh, fun r er => ?_, qrn⟩
    obtain ⟨okr, fin, fout⟩ := qr r er
    refine ⟨okr, fun v1 H1 s1 hv1 => ?_⟩
    cases ho : onlyF r (oldsOf hs) with
    | none =>
      rw [ho] at hv1
      cases hv1
      exact ⟨.non, rfl, _, rfl, iteT ⟨_, rfl, mk_er ((fout ho).at s1)⟩⟩
    | some pl =>
      rw [ho] at hv1
      have hv1' : Dp K H1 v1 (.tuple (pl.map pI)) := hv1
      obtain ⟨a1, x1, ev1, _, _⟩ := dInv_tup hv1'
      refine ⟨v1, rfl, _, rfl, ifF (decide_eq_false (by rw [ev1]; intro z; cases z)) ?_⟩
      refine ⟨vp, rfl, vr, rfl, v1, rfl, vp, vr, v1, _, rfl, hv1', dp, dr, Dm hdp s1, Dm hdr s1, hsm, fun hs' hold' => ?_, fun no => absurd hold (no hs)⟩
      have e := told_uniq hold' hold
      subst e
      refine ⟨okh, fun r' er' => ?_, fun nn => absurd (er.symm.trans nn) (fun z => by cases z)⟩
      rw [er] at er'
      cases er'
      refine ⟨okr, fun pl' e1 e2 v' H' s' hv' => ?_, fun no => absurd (onlyF_fit ho) (no pl rfl)⟩
      have e := pI_inj (Option.some.inj e1)
      subst e
      exact fin _ ho v' H' (sameT s1 s') hv'
end
end K60
/-! K60L1: the law's box of chance: _law_box, _law_take. -/
namespace K60
open PySem PySem.Spec PyProof.Rows L2

/-- the box's two numbers -/
structure BoxOk (g r : Int) : Prop where
  g0 : 0 ≤ g
  r0 : 0 ≤ r
  rm : r ≤ 2147483587
def spBox (K : PySem.W.Frag) : Sp := fun vs H Q _ => ∃ v, ∃ ns : List Int, ∃ k : Nat, vs = [v, .int (k : Int)] ∧ Dp K H v (.list (ns.map .int)) ∧ ∀ l g r, H l = none → BoxOk g r → Q (.ref l) (upd H l (.lst [.int g, .int r]))
theorem atInts {ns : List Int} {k : Nat} (h : k < ns.length) : ∃ i : Int, atI (ns.map PyData.int) ((k : Nat) : Int) = some (.int i) := by
  refine ⟨ns[k], atI_nat (j := k) ?_⟩
  rw [List.getElem?_map, List.getElem?_eq_getElem h]
  rfl
section
variable {P : Program} {w : World} {K : PySem.W.Frag} {mg : Str → Option Value} {base : Heap} {f C : Addr} {fd : FuncData}
abbrev N21 : List Str := ["_law_script", "_law_k", "_law_cell", "_law_great"]
theorem sc21 : FnScope N21 ["_law_script", "_law_k"] (defScope (top 21)) := ⟨rfl, rfl, rfl, by decide +kernel, rfl, by decide +kernel, by decide +kernel⟩
theorem ok_law_box (F : Fun K "_law_box" "_law_box" (top 21) f fd) (N : Nm mg) : FnOk P w K mg base CX0 1 f fd ["_law_script", "_law_k"] (spBox K) := by
  have nd : (N21).Nodup := by decide +kernel
  refine F.ok sc21 (fun vs H Q E h => ?_) (fun cdv A outer s H vs Q E hr h => ?_)
  · obtain ⟨v, ns, k, rfl, _⟩ := h
    rfl
  · obtain ⟨v, ns, k, rfl, hd, q⟩ := h
    refine ⟨_, pss_cons (ps_set (i := 2) nd rfl (Or.inl rfl) (pe_add (pe_mul pe_int (pv 1)) pe_int))
      (pss_cons (ps_if (pt_cmp (pc_lt (pv 1) (pe_callB (id := "len") (lenK K) rfl N.len (by decide +kernel) (pa_cons (pv 0) pa_nil))))
        (pss_one (ps_set (i := 2) nd rfl (Or.inl rfl) (pe_callB call_abs rfl N.abs (by decide +kernel) (pa_cons (pe_callTy call_int1 rfl N.int (by decide +kernel) (pa_cons (pe_ix (ixK K) (pv 0) (pv 1) (fun _ _ => rfl)) pa_nil)) pa_nil))))
        (pss_one (ps_if (pt_cmp (pc_gt (pe_callB (id := "len") (lenK K) rfl N.len (by decide +kernel) (pa_cons (pv 0) pa_nil)) pe_int))
          (pss_one (ps_set (i := 2) nd rfl (Or.inl rfl) (pe_add (pv 2) (pe_mul (pe_op op_mod (pe_callTy call_int1 rfl N.int (by decide +kernel) (pa_cons (pe_callB call_abs rfl N.abs (by decide +kernel) (pa_cons (pe_callTy call_int1 rfl N.int (by decide +kernel)
            (pa_cons (pe_ix (ixK K) (pv 0) (pe_op op_mod (pe_callTy call_int1 rfl N.int (by decide +kernel) (pa_cons (pv 1) pa_nil)) (pe_callB (id := "len") (lenK K) rfl N.len (by decide +kernel) (pa_cons (pv 0) pa_nil))) (fun _ _ => rfl)) pa_nil)) pa_nil)) pa_nil)) pe_int) pe_int))))
          pss_nil)))
      (pss_cons (ps_set (i := 3) nd rfl (Or.inl rfl) (pe_ifExp (pt_cmp (pc_ge (pv 2) (pe_op op_pow pe_int pe_int))) (pv 2) pe_int))
      (pss_one (ps_ret (pe_lst (pa_cons (pv 3) (pa_cons (pe_add (pe_op op_mod (pe_callTy call_int1 rfl N.int (by decide +kernel) (pa_cons (pe_add (pe_mul (pe_op op_mod (pe_callTy call_int1 rfl N.int (by decide +kernel) (pa_cons (pv 2) pa_nil)) pe_int) pe_int) (pe_mul pe_int (pv 1))) pa_nil)) pe_int) pe_int) pa_nil))))))), ?_⟩
    have hl : (ns.map PyData.int).length = ns.length := List.length_map _
    refine ⟨_, rfl, _, _, rfl, rfl, ⟨by decide, by decide⟩, _, _, rfl, rfl, ?_⟩
    refine ⟨_, rfl, v, rfl, v, _, _, rfl, hd, rfl, _, _, rfl, rfl, _, rfl, ?_⟩
    have fin : ∀ c : Int, ∀ l, H l = none → Q (.ref l) (upd H l (.lst [.int (if c ≥ 10 ^ 18 then c else 0), .int ((c % 2147483587 * 69767 + 103 * (k : Int)) % 2147483587 + 1)])) := fun c l hl => by
      refine q l _ _ hl ⟨?_, ?_, ?_⟩
      · split <;> omega
      · omega
      · omega
    by_cases h1 : k < ns.length
    · obtain ⟨i, hi⟩ := atInts h1
      refine ifT (decide_eq_true (by rw [hl]; omega)) ?_
      refine ⟨v, rfl, _, rfl, _, _, _, _, hd, rfl, rfl, hi, fun z hz => ?_⟩
      have ez := dInv_int hz
      subst ez
      refine .inl ⟨i, rfl, _, rfl, ?_⟩
      generalize (if i < 0 then -i else i) = c
      refine ⟨_, rfl, _, _, rfl, rfl, ⟨by decide, by decide, by decide⟩, _, _, rfl, rfl, _, rfl, ?_⟩
      by_cases h2 : (10 : Int) ^ 18 ≤ c
      · refine ifT (decide_eq_true h2) ?_
        refine ⟨_, rfl, _, rfl, _, rfl, .inl ⟨_, rfl, _, _, rfl, rfl, (by decide : (0 : Int) < 2147483587), _, _, rfl, rfl, ?_, _, rfl, _, _, rfl, rfl, ⟨by decide, by decide⟩, _, _, rfl, rfl, .inl ⟨_, rfl, _, _, rfl, rfl, (by decide : (0 : Int) < 2147483587), _, _, rfl, rfl, by show 2 ≤ sizeLine; decide, fun l hl => ?_⟩⟩⟩
        · omega
        · have := fin c l hl
          rw [if_pos h2] at this
          exact this
      · refine ifF (decide_eq_false h2) ?_
        refine ⟨_, rfl, _, rfl, .inl ⟨_, rfl, _, _, rfl, rfl, (by decide : (0 : Int) < 2147483587), _, _, rfl, rfl, ?_, _, rfl, _, _, rfl, rfl, ⟨by decide, by decide⟩, _, _, rfl, rfl, .inl ⟨_, rfl, _, _, rfl, rfl, (by decide : (0 : Int) < 2147483587), _, _, rfl, rfl, by show 2 ≤ sizeLine; decide, fun l hl => ?_⟩⟩⟩
        · omega
        · have := fin c l hl
          rw [if_neg h2] at this
          exact this
    · refine ifF (decide_eq_false (by rw [hl]; omega)) ?_
      refine ⟨v, rfl, v, _, _, rfl, hd, rfl, _, _, rfl, rfl, _, rfl, ?_⟩
      by_cases h3 : 0 < ns.length
      · refine ifT (decide_eq_true (by rw [hl]; omega)) ?_
        have hm : k % ns.length < ns.length := Nat.mod_lt _ h3
        obtain ⟨i, hi⟩ := atInts hm
        refine ⟨_, rfl, v, rfl, _, rfl, .inl ⟨_, rfl, v, rfl, v, _, _, rfl, hd, rfl, _, _, rfl, rfl, (by show (0 : Int) < (((ns.map PyData.int).length : Nat) : Int); rw [hl]; omega), ?_⟩⟩
        refine ⟨_, _, _, _, hd, rfl, rfl, (by rw [hl, ← Int.natCast_emod]; exact hi), fun z hz => ?_⟩
        have ez := dInv_int hz
        subst ez
        refine .inl ⟨i, rfl, _, rfl, .inl ⟨_, rfl, ?_⟩⟩
        generalize (if i < 0 then -i else i) = c0
        refine ⟨_, _, rfl, rfl, (by decide : (0 : Int) < 2147483587), _, _, rfl, rfl, ?_, _, _, rfl, rfl, ?_⟩
        · omega
        have hc := fin (6977 * (k : Int) + 103 + c0 % 2147483587 * 50551)
        refine ⟨_, rfl, _, _, rfl, rfl, ⟨by decide, by decide, by decide⟩, _, _, rfl, rfl, _, rfl, ?_⟩
        by_cases h2 : (10 : Int) ^ 18 ≤ 6977 * (k : Int) + 103 + c0 % 2147483587 * 50551
        · refine ifT (decide_eq_true h2) ?_
          refine ⟨_, rfl, _, rfl, _, rfl, .inl ⟨_, rfl, _, _, rfl, rfl, (by decide : (0 : Int) < 2147483587), _, _, rfl, rfl, ?_, _, rfl, _, _, rfl, rfl, ⟨by decide, by decide⟩, _, _, rfl, rfl, .inl ⟨_, rfl, _, _, rfl, rfl, (by decide : (0 : Int) < 2147483587), _, _, rfl, rfl, by show 2 ≤ sizeLine; decide, fun l hl => ?_⟩⟩⟩
          · omega
          · have := hc l hl
            rw [if_pos h2] at this
            exact this
        · refine ifF (decide_eq_false h2) ?_
          refine ⟨_, rfl, _, rfl, .inl ⟨_, rfl, _, _, rfl, rfl, (by decide : (0 : Int) < 2147483587), _, _, rfl, rfl, ?_, _, rfl, _, _, rfl, rfl, ⟨by decide, by decide⟩, _, _, rfl, rfl, .inl ⟨_, rfl, _, _, rfl, rfl, (by decide : (0 : Int) < 2147483587), _, _, rfl, rfl, by show 2 ≤ sizeLine; decide, fun l hl => ?_⟩⟩⟩
          · omega
          · have := hc l hl
            rw [if_neg h2] at this
            exact this
      · refine ifF (decide_eq_false (by rw [hl]; omega)) ?_
        have hc := fin (6977 * (k : Int) + 103)
        refine ⟨_, rfl, _, _, rfl, rfl, ⟨by decide, by decide, by decide⟩, _, _, rfl, rfl, _, rfl, ?_⟩
        by_cases h2 : (10 : Int) ^ 18 ≤ 6977 * (k : Int) + 103
        · refine ifT (decide_eq_true h2) ?_
          refine ⟨_, rfl, _, rfl, _, rfl, .inl ⟨_, rfl, _, _, rfl, rfl, (by decide : (0 : Int) < 2147483587), _, _, rfl, rfl, ?_, _, rfl, _, _, rfl, rfl, ⟨by decide, by decide⟩, _, _, rfl, rfl, .inl ⟨_, rfl, _, _, rfl, rfl, (by decide : (0 : Int) < 2147483587), _, _, rfl, rfl, by show 2 ≤ sizeLine; decide, fun l hl => ?_⟩⟩⟩
          · omega
          · have := hc l hl
            rw [if_pos h2] at this
            exact this
        · refine ifF (decide_eq_false h2) ?_
          refine ⟨_, rfl, _, rfl, .inl ⟨_, rfl, _, _, rfl, rfl, (by decide : (0 : Int) < 2147483587), _, _, rfl, rfl, ?_, _, rfl, _, _, rfl, rfl, ⟨by decide, by decide⟩, _, _, rfl, rfl, .inl ⟨_, rfl, _, _, rfl, rfl, (by decide : (0 : Int) < 2147483587), _, _, rfl, rfl, by show 2 ≤ sizeLine; decide, fun l hl => ?_⟩⟩⟩
          · omega
          · have := hc l hl
            rw [if_neg h2] at this
            exact this
end
end K60
/-! K60L2: what stays while the box changes; _law_take, _law_pick, _law_row. -/
namespace K60
open PySem PySem.Spec PyProof.Rows L2

/-! ### all but the box -/
def Bx (H : Hp) (b : Addr) : Prop := ∃ g r, H b = some (.lst [.int g, .int r]) ∧ BoxOk g r
def Aside (b : Addr) (H H' : Hp) : Prop := Same (del H b) (del H' b)
def DB (K : PySem.W.Frag) (H : Hp) (b : Addr) (v : V) (d : PyData) : Prop := Dp K (del H b) v d
section
variable {K : PySem.W.Frag} {H H' H2 : Hp} {b p : Addr} {v : V} {d : PyData} {o : HO}
theorem Aside.refl : Aside b H H := sameR
theorem Aside.trans (a : Aside b H H') (c : Aside b H' H2) : Aside b H H2 := sameT a c
theorem Aside.of (e : Same H H') : Aside b H H' := fun c u h => by
  by_cases hc : c = b
  · rw [hc, del_same] at h
    cases h
  · rw [del_ne hc] at h ⊢
    exact e c u h
theorem Aside.get (a : Aside b H H') (n : p ≠ b) (h : H p = some o) : H' p = some o := by
  have := a p o (by rw [del_ne n]; exact h)
  rw [del_ne n] at this
  exact this
theorem Bx.ne (h : Bx H b) (n : H p = none) : p ≠ b := fun e => by
  obtain ⟨g, r, h1, _⟩ := h
  rw [e, h1] at n
  cases n
theorem Bx.up (h : Bx H b) (e : Same H H') : Bx H' b := by
  obtain ⟨g, r, h1, h2⟩ := h
  exact ⟨g, r, e _ _ h1, h2⟩
theorem Bx.upd (h : Bx H b) (n : p ≠ b) : Bx (upd H p o) b := by
  obtain ⟨g, r, h1, h2⟩ := h
  exact ⟨g, r, by rw [upd_ne (Ne.symm n)]; exact h1, h2⟩
theorem Aside.box : Aside b H (L2.upd H b o) := fun c u h => by
  by_cases hc : c = b
  · rw [hc, del_same] at h
    cases h
  · rw [del_ne hc] at h ⊢
    rw [upd_ne hc]
    exact h
/-- a place that is free later was free before -/
theorem Aside.free (a : Aside b H H') (h : Bx H' b) (n : H' p = none) : p ≠ b ∧ H p = none := by
  have n1 := h.ne n
  refine ⟨n1, ?_⟩
  cases e : H p with
  | none => rfl
  | some u =>
    rw [a.get n1 e] at n
    cases n
theorem Aside.new (h : Bx H b) (n : H p = none) : Aside b H (L2.upd H p o) := Aside.of (Same.nw n)
/-- a new object of one's own is written again -/
theorem Aside.own (a : Aside b H H') (n : H p = none) : Aside b H (L2.upd H' p o) := fun c u h => by
  by_cases hc : c = b
  · rw [hc, del_same] at h
    cases h
  · have h' : H c = some u := by rw [del_ne hc] at h; exact h
    have hp : c ≠ p := ne_of_none h' n
    rw [del_ne hc, upd_ne hp]
    exact a.get hc h'
theorem DB.dp (h : DB K H b v d) : Dp K H v d := Dm h fun c u e => by
  by_cases hc : c = b
  · rw [hc, del_same] at e
    cases e
  · rw [del_ne hc] at e
    exact e
theorem DB.up (h : DB K H b v d) (a : Aside b H H') : DB K H' b v d := Dm h a
theorem sameN_del (h : Bx H b) : SameN H (del H b) := fun c u e n => by
  by_cases hc : c = b
  · obtain ⟨g, r, h1, _⟩ := h
    rw [hc, h1] at e
    cases e
    exact absurd rfl (n _)
  · rw [del_ne hc]
    exact e
theorem DB.of (h : Dp K H v d) (n : nl d = true) (x : Bx H b) : DB K H b v d := dN (sameN_del x) d v n h
theorem DB.lst {xs : List V} {ds : List PyData} (h : H p = some (.lst xs)) (hp : p ≠ b) (a : DpAll K H xs ds) (n : nlA ds = true) (x : Bx H b) : DB K H b (.ref p) (.list ds) :=
  dLst (by rw [del_ne hp]; exact h) (dNA (sameN_del x) _ _ n a)
end

/-! ### the helpers -/
def spTake : Sp := fun vs H Q _ => ∃ b many, vs = [.ref b, .int many] ∧ Bx H b ∧ 0 < many ∧ many < 1000000 ∧ ∀ d H', 0 ≤ d → d < many → Aside b H H' → Bx H' b → Q (.int d) H'
/-- one of a list's items -/
def spPick : Sp := fun vs H Q _ => ∃ b l xs, vs = [.ref b, .ref l] ∧ Bx H b ∧ H l = some (.lst xs) ∧ l ≠ b ∧ 0 < xs.length ∧ xs.length < 1000000 ∧ ∀ v H', v ∈ xs → Aside b H H' → Bx H' b → Q v H'
inductive RowItem : PyData → Prop
  | int {i : Int} : 0 ≤ i → i < 1000000 → RowItem (.int i)
  | str : RowItem (.str "a")
  | tup : RowItem (.tuple [.int 1, .int 2])
  | non : RowItem .none
theorem RowItem.nl {d : PyData} (h : RowItem d) : nl d = true := by cases h <;> rfl
/-- a row -/
def spRow (K : PySem.W.Frag) : Sp := fun vs H Q _ => ∃ b most letters, ∃ n : Nat, vs = [.ref b, .int most, .int letters] ∧ Bx H b ∧ most = (n : Int) ∧ n < 1000 ∧ 0 < letters ∧ letters < 1000000 ∧
  ∀ l xs ds H', H l = none → Aside b H H' → Bx H' b → H' l = some (.lst xs) → DpAll K H' xs ds → ds.length ≤ n → (∀ d ∈ ds, RowItem d) → Q (.ref l) H'
section
variable {P : Program} {w : World} {K : PySem.W.Frag} {mg : Str → Option Value} {base : Heap} {f C : Addr} {fd : FuncData}
abbrev N22 : List Str := ["_law_box_here", "_law_many", "_law_digit", "_law_raw"]
theorem sc22 : FnScope N22 ["_law_box_here", "_law_many"] (defScope (top 22)) := ⟨rfl, rfl, rfl, by decide +kernel, rfl, by decide +kernel, by decide +kernel⟩
theorem ok_law_take (F : Fun K "_law_take" "_law_take" (top 22) f fd) (N : Nm mg) : FnOk P w K mg base CX0 1 f fd ["_law_box_here", "_law_many"] spTake := by
  have nd : (N22).Nodup := by decide +kernel
  refine F.ok sc22 (fun vs H Q E h => ?_) (fun cdv A outer s H vs Q E hr h => ?_)
  · obtain ⟨b, many, rfl, _⟩ := h
    rfl
  · obtain ⟨b, many, rfl, ⟨g, r, hb, hok⟩, m0, m1, q⟩ := h
    refine ⟨_, pss_cons (ps_if (pt_cmp (pc_gt (pe_ix ix_seq (pv 0) pe_int (fun _ _ => rfl)) pe_int))
        (pss_cons (ps_set (i := 2) nd rfl (Or.inl rfl) (pe_op op_mod (pe_callTy call_int1 rfl N.int (by decide +kernel) (pa_cons (pe_ix ix_seq (pv 0) pe_int (fun _ _ => rfl)) pa_nil)) (pv 1)))
        (pss_cons (ps_asg (pe_op op_fdiv (pe_ix ix_seq (pv 0) pe_int (fun _ _ => rfl)) (pv 1)) (pg_sub (pv 0) pe_int set_list))
        (pss_one (ps_ret (pv 2))))) pss_nil)
      (pss_cons (ps_set (i := 3) nd rfl (Or.inl rfl) (pe_op op_mod (pe_callTy call_int1 rfl N.int (by decide +kernel) (pa_cons (pe_add (pe_mul (pe_ix ix_seq (pv 0) pe_int (fun _ _ => rfl)) pe_int) pe_int) pa_nil)) pe_int))
      (pss_cons (ps_asg (pe_add (pe_op op_mod (pe_callTy call_int1 rfl N.int (by decide +kernel) (pa_cons (pe_add (pe_mul (pv 3) pe_int) pe_int) pa_nil)) pe_int) pe_int) (pg_sub (pv 0) pe_int set_list))
      (pss_one (ps_ret (pe_op op_mod (pe_callTy call_int1 rfl N.int (by decide +kernel) (pa_cons (pe_op op_fdiv (pe_add (pe_mul (pv 3) pe_int) (pe_ix ix_seq (pv 0) pe_int (fun _ _ => rfl))) pe_int) pa_nil)) (pv 1)))))), ?_⟩
    obtain ⟨g0, r0, rm⟩ := hok
    refine ⟨_, rfl, .inl ⟨b, _, 0, _, rfl, rfl, SqL.of hb, rfl, _, _, rfl, rfl, _, rfl, ?_⟩⟩
    by_cases hg : 0 < g
    · refine ifT (decide_eq_true hg) ?_
      refine ⟨_, rfl, .inl ⟨b, _, 0, _, rfl, rfl, SqL.of hb, rfl, .inl ⟨_, rfl, _, rfl, _, _, rfl, rfl, m0, ?_⟩⟩⟩
      refine ⟨_, rfl, .inl ⟨b, _, 0, _, rfl, rfl, SqL.of hb, rfl, _, rfl, _, _, rfl, rfl, ⟨m0, by omega⟩, _, rfl, b, _, 0, 0, rfl, rfl, hb, rfl, ?_⟩⟩
      refine ⟨_, rfl, q _ _ (Int.emod_nonneg _ (by omega)) (Int.emod_lt_of_pos _ m0) Aside.box ⟨_, _, upd_same, Int.ediv_nonneg g0 (by omega), r0, rm⟩⟩
    · refine ifF (decide_eq_false hg) ?_
      refine ⟨_, rfl, .inl ⟨b, _, 1, _, rfl, rfl, SqL.of hb, rfl, _, _, rfl, rfl, ⟨by omega, by omega⟩, _, _, rfl, rfl, .inl ⟨_, rfl, _, _, rfl, rfl, (by decide : (0 : Int) < 2147483399), ?_⟩⟩⟩
      have h1 := Int.emod_nonneg (r * 40692 + 89) (show (2147483399 : Int) ≠ 0 by decide)
      have h2 := Int.emod_lt_of_pos (r * 40692 + 89) (show (0 : Int) < 2147483399 by decide)
      generalize hraw : (r * 40692 + 89) % 2147483399 = raw at h1 h2
      refine ⟨_, rfl, _, _, rfl, rfl, ⟨by show -(2 ^ 64) < (r * 40692 + 89) % 2147483399; omega, by show (r * 40692 + 89) % 2147483399 < 2 ^ 64; omega⟩, _, _, rfl, rfl, .inl ⟨_, rfl, _, _, rfl, rfl, (by decide : (0 : Int) < 2147483587), _, _, rfl, rfl, ?_⟩⟩
      refine ⟨_, rfl, b, _, 1, 1, rfl, rfl, hb, rfl, ?_⟩
      refine ⟨_, rfl, _, _, rfl, rfl, ⟨by show -(2 ^ 64) < (r * 40692 + 89) % 2147483399; omega, by show (r * 40692 + 89) % 2147483399 < 2 ^ 64; omega⟩, _, rfl, .inl ⟨b, _, 1, _, rfl, rfl, SqL.of upd_same, rfl, _, _, rfl, rfl, _, _, rfl, rfl, ⟨by decide, by decide⟩, .inl ⟨_, rfl, _, rfl, _, _, rfl, rfl, m0, ?_⟩⟩⟩
      refine q _ _ (Int.emod_nonneg _ (by omega)) (Int.emod_lt_of_pos _ m0) Aside.box ⟨_, _, upd_same, g0, ?_, ?_⟩
      · omega
      · omega

abbrev N23 : List Str := ["_law_box_here", "_law_some"]
theorem sc23 : FnScope N23 ["_law_box_here", "_law_some"] (defScope (top 23)) := ⟨rfl, rfl, rfl, by decide +kernel, rfl, by decide +kernel, by decide +kernel⟩
theorem ok_law_pick (F : Fun K "_law_pick" "_law_pick" (top 23) f fd) (N : Nm mg) (ct : Cl P w K mg base CX0 1 "_law_take" ["_law_box_here", "_law_many"] spTake) : FnOk P w K mg base CX0 2 f fd ["_law_box_here", "_law_some"] spPick := by
  refine F.ok sc23 (fun vs H Q E h => ?_) (fun cdv A outer s H vs Q E hr h => ?_)
  · obtain ⟨b, l, xs, rfl, _⟩ := h
    rfl
  · obtain ⟨b, l, xs, rfl, hb, hl, hlb, h0, h1, q⟩ := h
    refine ⟨_, pss_one (ps_ret (pe_ix ix_seq (pv 1) (pe_cl ct hr (by decide) pass0 (pa_cons (pv 0) (pa_cons (pe_callB call_len_seq rfl N.len (by decide +kernel) (pa_cons (pv 1) pa_nil)) pa_nil))) (fun _ _ => rfl))), ?_⟩
    refine ⟨_, rfl, _, rfl, _, rfl, l, xs, rfl, .inl (SqL.of hl), b, _, rfl, hb, by omega, by omega, fun d H' d0 d1 ha hb' => ?_⟩
    obtain ⟨j, rfl⟩ : ∃ j : Nat, d = (j : Int) := ⟨d.toNat, by omega⟩
    have hj : j < xs.length := by omega
    exact .inl ⟨l, xs, (j : Int), xs[j], rfl, rfl, SqL.of (ha.get hlb hl), atI_nat (List.getElem?_eq_getElem hj), q _ _ (List.getElem_mem hj) ha hb'⟩

abbrev N30 : List Str := ["_law_box_here", "_law_most", "_law_letters", "_law_turn"]
theorem sc30 : FnScope N30 ["_law_box_here", "_law_most", "_law_letters"] (defScope (top 30)) := ⟨rfl, rfl, rfl, by decide +kernel, rfl, by decide +kernel, by decide +kernel⟩
theorem ok_law_row (F : Fun K "_law_row" "_law_row" (top 30) f fd) (N : Nm mg) (ct : Cl P w K mg base CX0 1 "_law_take" ["_law_box_here", "_law_many"] spTake) (cp : Cl P w K mg base CX0 2 "_law_pick" ["_law_box_here", "_law_some"] spPick) :
    FnOk P w K mg base CX0 3 f fd ["_law_box_here", "_law_most", "_law_letters"] (spRow K) := by
  have nd : (N30).Nodup := by decide +kernel
  refine F.ok sc30 (fun vs H Q E h => ?_) (fun cdv A outer s H vs Q E hr h => ?_)
  · obtain ⟨b, most, letters, n, rfl, _⟩ := h
    rfl
  · obtain ⟨b, most, letters, n, rfl, hb, hn, hn1, l0, l1, q⟩ := h
    subst hn
    refine ⟨_, pss_one (ps_ret (pe_lc (own := [("_law_turn", 3)]) (g := gName 3) (tt := tYes) rfl nd (pi_range1 rfl N.range (pa_cons (pe_cl ct hr (by decide) pass0 (pa_cons (pv 0) (pa_cons (pe_add (pv 1) pe_int) pa_nil))) pa_nil)) (blkOk_by (N := N30) (sc := defScope (top 30)) (by decide +kernel))
      (fun _ _ _ _ _ => pg_name (i := 3) nd rfl (Or.inl rfl)) (fun _ _ _ _ _ => pts_nil)
      (fun _ _ _ _ _ => pe_ifExp (pt_cmp (pc_gt (pe_cl ct hr (by decide) pass0 (pa_cons (pv 0) (pa_cons pe_int pa_nil))) pe_int)) (pe_cl ct hr (by decide) pass0 (pa_cons (pv 0) (pa_cons (pv 2) pa_nil)))
        (pe_cl cp hr (by decide) pass0 (pa_cons (pv 0) (pa_cons (pe_lst (pa_cons pe_str (pa_cons (pe_tup (pa_cons pe_int (pa_cons pe_int pa_nil))) (pa_cons pe_non pa_nil)))) pa_nil)))))), ?_⟩
    have hsl : (10000 : Nat) ≤ sizeLine := by rw [sizeLine_eq]; decide
    refine ⟨_, rfl, _, rfl, _, _, rfl, rfl, b, _, rfl, hb, by omega, by omega, fun d H1 d0 d1 a1 b1 => ⟨d, rfl, by omega, by omega, fun D hD => ?_⟩⟩
    obtain ⟨m, rfl⟩ : ∃ m : Nat, d = (m : Int) := ⟨d.toNat, by omega⟩
    obtain ⟨nDb, hDH⟩ := a1.free b1 hD
    refine lc_it walk_range (fun i H' => Aside b H H' ∧ Bx H' b ∧ ∃ acc ds, H' D = some (.lst acc) ∧ DpAll K H' acc ds ∧ ds.length = i ∧ ∀ d ∈ ds, RowItem d)
      ⟨a1.own hDH, b1.upd nDb, [], [], upd_same, .nil, rfl, fun d hd => by cases hd⟩ (fun _ _ _ _ => trivial) (fun i x H2 H3 hi p y => ?_) (fun H2 p => ?_)
    · obtain ⟨a2, b2, acc, ds, hD2, hda, hlen, hri⟩ := p
      obtain ⟨rfl, rfl⟩ := y
      have hnl : nlA ds = true := nlA_iff.mpr fun d hd => (hri d hd).nl
      have hal := daLen hda
      have him : i < m := by
        have h : i < (m : Int).toNat := hi
        omega
      have stay : ∀ H4, Aside b H3 H4 → Bx H4 b → H4 D = some (.lst acc) ∧ DpAll K H4 acc ds := fun H4 a4 b4 => by
        have h1 : DpAll K (del H4 b) acc ds := DmA (dNA (sameN_del b2) _ _ hnl hda) a4
        refine ⟨a4.get nDb hD2, DmA h1 fun c u e => ?_⟩
        by_cases hc : c = b
        · rw [hc, del_same] at e
          cases e
        · rw [del_ne hc] at e
          exact e
      have fin : ∀ H4 y d, Aside b H3 H4 → Bx H4 b → Dp K H4 y d → RowItem d → ∃ acc, H4 D = some (.lst acc) ∧ acc.length < sizeLine ∧ (Aside b H (upd H4 D (.lst (acc ++ [y]))) ∧ Bx (upd H4 D (.lst (acc ++ [y]))) b ∧ ∃ acc' ds', upd H4 D (.lst (acc ++ [y])) D = some (.lst acc') ∧
          DpAll K (upd H4 D (.lst (acc ++ [y]))) acc' ds' ∧ ds'.length = i + 1 ∧ ∀ d ∈ ds', RowItem d) := fun H4 y d a4 b4 hy hd => by
        obtain ⟨h4, h5⟩ := stay H4 a4 b4
        refine ⟨acc, h4, by omega, (a2.trans a4).own hDH, b4.upd nDb, acc ++ [y], ds ++ [d], upd_same, ?_, by rw [List.length_append, hlen]; rfl, fun e he => ?_⟩
        · refine dNA (sameN_lst h4) _ _ ?_ (daApp h5 (daOne hy))
          refine nlA_iff.mpr fun e he => ?_
          rcases List.mem_append.mp he with he | he
          · exact (hri e he).nl
          · rw [List.mem_singleton.mp he]
            exact hd.nl
        · rcases List.mem_append.mp he with he | he
          · exact hri e he
          · rw [List.mem_singleton.mp he]
            exact hd
      refine ⟨rfl, _, rfl, b, 9, rfl, b2, by decide, by decide, fun d H4 d0 d1 a4 b4 => ⟨_, _, rfl, rfl, _, rfl, ?_⟩⟩
      by_cases hd0 : 0 < d
      · refine ifT (decide_eq_true hd0) ?_
        exact ⟨_, rfl, _, rfl, b, letters, rfl, b4, l0, l1, fun e H5 e0 e1 a5 b5 => fin H5 _ (.int e) (a4.trans a5) b5 (.int e) (.int e0 (by omega))⟩
      · refine ifF (decide_eq_false hd0) ?_
        refine ⟨_, rfl, by show 2 ≤ sizeLine; decide, fun T hT => ⟨by show 3 ≤ sizeLine; decide, fun L hL => ?_⟩⟩
        have s1 := Same.nw (o := .tup [.int 1, .int 2]) hT
        have s2 := Same.nw (o := .lst [.str "a", .ref T, .non]) hL
        have b6 := (b4.up s1).up s2
        have nL : L ≠ b := (b4.up s1).ne hL
        refine ⟨b, L, _, rfl, b6, upd_same, nL, (by show 0 < 3; decide), (by show 3 < 1000000; decide), fun v H5 hv a5 b5 => ?_⟩
        have a6 := a4.trans ((Aside.of (sameT s1 s2)).trans a5)
        have hT5 : DB K H5 b (.ref T) (.tuple [.int 1, .int 2]) := (DB.of (Dm (dTup upd_same (.cons (.int 1) (.cons (.int 2) .nil))) s2) rfl b6).up a5
        have hv : v ∈ [V.str "a", V.ref T, V.non] := hv
        rcases List.mem_cons.mp hv with e | hv
        · subst e
          exact fin H5 _ _ a6 b5 (.str "a") .str
        · rcases List.mem_cons.mp hv with e | hv
          · subst e
            exact fin H5 _ _ a6 b5 hT5.dp .tup
          · rw [List.mem_singleton.mp hv]
            exact fin H5 _ _ a6 b5 .non .non
    · obtain ⟨a2, b2, acc, ds, hD2, hda, hlen, hri⟩ := p
      refine q D acc ds H2 hDH a2 b2 hD2 hda ?_ hri
      have h : ds.length = (m : Int).toNat := hlen
      omega
end
end K60
/-! K60L3: _law_patch. -/
namespace K60
open PySem PySem.Spec PyProof.Rows L2

structure PatchOk (hs : List H3) : Prop where
  ord : Ord3 hs
  len : hs.length ≤ 3
  each : ∀ h ∈ hs, h.2.1.length ≤ 3 ∧ h.2.2.length ≤ 3 ∧ (∀ d ∈ h.2.1, RowItem d) ∧ ∀ d ∈ h.2.2, RowItem d
  pos : ∀ h ∈ hs, h.1 ≤ 100
theorem RowItem.sh {d : PyData} (h : RowItem d) : d.canLay0 = true ∧ d.depth ≤ 63 := by
  cases h with
  | int _ _ => exact ⟨by simp only [PyData.canLay0], by simp only [PyData.depth]; decide⟩
  | str => exact ⟨by simp only [PyData.canLay0]; decide +kernel, by simp only [PyData.depth]; decide⟩
  | tup => exact ⟨by simp [PyData.canLay0, PyData.canLayAll0], by simp [PyData.depth, PyData.depthAll]⟩
  | non => exact ⟨by simp only [PyData.canLay0], by simp only [PyData.depth]; decide⟩
theorem rows_nl {ds : List PyData} (h : ∀ d ∈ ds, RowItem d) : nlA ds = true := nlA_iff.mpr fun d hd => (h d hd).nl
theorem rows_sh {ds : List PyData} (h : ∀ d ∈ ds, RowItem d) : shA ds := shA_iff.mpr fun d hd => (h d hd).sh
theorem PatchOk.okHs {hs : List H3} (p : PatchOk hs) : OkHs hs := ⟨p.len, fun h hh => by
  obtain ⟨h1, h2, h3, h4⟩ := p.each h hh
  refine ⟨?_, rows_sh h3, by omega, by omega⟩
  unfold nl3
  rw [rows_nl h3, rows_nl h4]
  rfl⟩
theorem PatchOk.nlt {hs : List H3} (p : PatchOk hs) : nlA (hs.map tup3) = true := nlA_iff.mpr fun d hd => by
  obtain ⟨h, hh, rfl⟩ := List.mem_map.mp hd
  exact nl_tup3 (p.okHs.each h hh).1
theorem ord_snoc {hs : List H3} {x : H3} (o : Ord3 hs) (l : ∀ h, hs.getLast? = some h → h.1 + h.2.1.length ≤ x.1) : Ord3 (hs ++ [x]) := fun i a b ha hb => by
  have hi : i + 1 < (hs ++ [x]).length := (List.getElem?_eq_some_iff.mp hb).1
  rw [List.length_append] at hi
  have hi : i + 1 < hs.length + 1 := hi
  rw [List.getElem?_append_left (by omega)] at ha
  by_cases h : i + 1 < hs.length
  · rw [List.getElem?_append_left h] at hb
    exact o i a b ha hb
  · have e : i + 1 = hs.length := by omega
    rw [e, List.getElem?_append_right (Nat.le_refl _), Nat.sub_self] at hb
    have eb : x = b := Option.some.inj hb
    subst eb
    refine l a ?_
    rw [List.getLast?_eq_getElem?, ← e, Nat.add_sub_cancel]
    exact ha
def spPatch (K : PySem.W.Frag) : Sp := fun vs H Q _ => ∃ b vr rs, vs = [.ref b, vr] ∧ Bx H b ∧ DB K H b vr (.list rs) ∧ (∀ d ∈ rs, RowItem d) ∧
  ∀ l xs hs H', H l = none → Aside b H H' → Bx H' b → H' l = some (.lst xs) → DpAll K H' xs (hs.map tup3) → PatchOk hs → Q (.ref l) H'
theorem seqDel {K : PySem.W.Frag} {H : Hp} {b a : Addr} {xs : List V} (h : SqL K (del H b) a xs) : SqL K H a xs := Same.seq (fun c u e => by
  by_cases hc : c = b
  · rw [hc, del_same] at e
    cases e
  · rw [del_ne hc] at e
    exact e) h
theorem daUndel {K : PySem.W.Frag} {H : Hp} {b : Addr} {xs : List V} {ds : List PyData} (h : DpAll K (del H b) xs ds) : DpAll K H xs ds := DmA h fun c u e => by
  by_cases hc : c = b
  · rw [hc, del_same] at e
    cases e
  · rw [del_ne hc] at e
    exact e
section
variable {P : Program} {w : World} {K : PySem.W.Frag} {mg : Str → Option Value} {base : Heap} {f C : Addr} {fd : FuncData}
abbrev N35 : List Str := ["_law_box_here", "_law_row_here", "_law_found", "_law_at", "_law_turn", "_law_place", "_law_old"]
theorem sc35 : FnScope N35 ["_law_box_here", "_law_row_here"] (defScope (top 35)) := ⟨rfl, rfl, rfl, by decide +kernel, rfl, by decide +kernel, by decide +kernel⟩
theorem ok_law_patch (F : Fun K "_law_patch" "_law_patch" (top 35) f fd) (N : Nm mg) (ct : Cl P w K mg base CX0 1 "_law_take" ["_law_box_here", "_law_many"] spTake) (cr : Cl P w K mg base CX0 3 "_law_row" ["_law_box_here", "_law_most", "_law_letters"] (spRow K)) :
    FnOk P w K mg base CX0 4 f fd ["_law_box_here", "_law_row_here"] (spPatch K) := by
  have nd : (N35).Nodup := by decide +kernel
  refine F.ok sc35 (fun vs H Q E h => ?_) (fun cdv A outer s H vs Q E hr h => ?_)
  · obtain ⟨b, vr, rs, rfl, _⟩ := h
    rfl
  · obtain ⟨b, vr, rs, rfl, hb, hrow, hri, q⟩ := h
    refine ⟨_, pss_cons (ps_par (i := 2) (j := 3) rfl nd rfl rfl (by decide) rfl rfl (pa_cons (pe_lst pa_nil) (pa_cons pe_int pa_nil)) rfl)
      (pss_cons (ps_for PassesOwn.never rfl (pi_range1 rfl N.range (pa_cons (pe_cl ct hr (by decide) pass0 (pa_cons (pv 0) (pa_cons pe_int pa_nil))) pa_nil)) (pg_name (i := 4) nd rfl (Or.inl rfl))
        (pss_cons (ps_set (i := 5) nd rfl (Or.inl rfl) (pe_add (pv 3) (pe_cl ct hr (by decide) pass0 (pa_cons (pv 0) (pa_cons pe_int pa_nil)))))
        (pss_cons (ps_set (i := 6) nd rfl (Or.inl rfl) (pe_ifExp (pt_cmp (pc_gt (pe_cl ct hr (by decide) pass0 (pa_cons (pv 0) (pa_cons pe_int pa_nil))) pe_int))
            (pe_slice sl_list (pv 1) (po_some (pv 5)) (po_some (pe_add (pv 5) (pe_cl ct hr (by decide) pass0 (pa_cons (pv 0) (pa_cons pe_int pa_nil))))))
            (pe_cl cr hr (by decide) pass0 (pa_cons (pv 0) (pa_cons pe_int (pa_cons pe_int pa_nil))))))
        (pss_cons (ps_expr (pe_bm PySem.F.plainAttrs_list PySem.F.slot_list_append PySem.F.type_list_append mt_append (pv 2) (pa_cons (pe_tup (pa_cons (pv 5) (pa_cons (pe_callTy (T := "tuple") (tupK K) rfl N.tuple (by decide +kernel) (pa_cons (pv 6) pa_nil))
            (pa_cons (pe_callTy (T := "tuple") (tupK K) rfl N.tuple (by decide +kernel) (pa_cons (pe_cl cr hr (by decide) pass0 (pa_cons (pv 0) (pa_cons pe_int (pa_cons pe_int pa_nil)))) pa_nil)) pa_nil)))) pa_nil)))
        (pss_one (ps_set (i := 3) nd rfl (Or.inl rfl) (pe_add (pv 5) (pe_callB (id := "len") (lenK K) rfl N.len (by decide +kernel) (pa_cons (pv 6) pa_nil)))))))))
      (pss_one (ps_ret (pv 2)))), ?_⟩
    have hsl : (10000 : Nat) ≤ sizeLine := by rw [sizeLine_eq]; decide
    refine ⟨by show 0 ≤ sizeLine; exact Nat.zero_le _, fun L hL => ⟨_, _, rfl, ?_⟩⟩
    have nL : L ≠ b := hb.ne hL
    refine ⟨_, rfl, b, 4, rfl, hb.upd nL, by decide, by decide, fun m H1 m0 m1 a1 b1 => ⟨m, rfl, by omega, by omega, ?_⟩⟩
    obtain ⟨m, rfl⟩ : ∃ k : Nat, m = (k : Int) := ⟨m.toNat, by omega⟩
    have a01 : Aside b H H1 := (Aside.new hb hL).trans a1
    refine for_it walk_range (fun i σ H' => Aside b H H' ∧ Bx H' b ∧ ∃ (xs : List V) (hs : List H3) (at_ : Nat) (x4 x5 x6 : Option V), σ = [some (.ref b), some vr, some (.ref L), some (.int (at_ : Int)), x4, x5, x6] ∧ H' L = some (.lst xs) ∧ DpAll K H' xs (hs.map tup3) ∧ PatchOk hs ∧ hs.length = i ∧
        (∀ h, hs.getLast? = some h → h.1 + h.2.1.length ≤ at_) ∧ at_ ≤ 6 * i) ⟨a01, b1, [], [], 0, _, _, _, rfl, a1.get nL upd_same, .nil, ⟨fun i a b h => by (cases h), Nat.zero_le _, fun h hh => (by cases hh), fun h hh => (by cases hh)⟩, rfl, fun h hh => (by cases hh), Nat.zero_le _⟩ (fun _ _ _ _ _ => trivial) (fun i x σ H2 H3' hi p y => ?_) (fun σ H2 p => ?_)
    · obtain ⟨a2, b2, xs, hs, at_, x4, x5, x6, rfl, hL2, hda, hok, hlen, hlast, hat⟩ := p
      obtain ⟨rfl, rfl⟩ := y
      have him : i < m := by
        have h : i < (m : Int).toNat := hi
        omega
      have hal := daLen hda
      rw [List.length_map] at hal
      have stay : ∀ H4, Aside b H3' H4 → Bx H4 b → H4 L = some (.lst xs) ∧ DpAll K H4 xs (hs.map tup3) := fun H4 a4 b4 => ⟨a4.get nL hL2, daUndel (DmA (dNA (sameN_del b2) _ _ hok.nlt hda) a4)⟩
      -- the rest of a turn, the old ones being known
      have rest : ∀ (pl : Nat) (lo : Addr) (ys : List V) (os : List PyData) (H6 : Hp), at_ ≤ pl → pl ≤ 100 → Aside b H3' H6 → Bx H6 b → H6 lo = some (.lst ys) → lo ≠ b → lo ≠ L → DpAll K H6 ys os → os.length ≤ 3 → (∀ d ∈ os, RowItem d) →
          ∀ (lr : Addr) (zs : List V) (ns : List PyData) (vo : V) (H7 H8 : Hp), Same H6 H7 → Dp K H7 vo (.tuple os) → Aside b H7 H8 → Bx H8 b → H8 lr = some (.lst zs) → DpAll K H8 zs ns → ns.length ≤ 2 → (∀ d ∈ ns, RowItem d) →
          ∀ (vn : V) (H9 : Hp), Same H8 H9 → Dp K H9 vn (.tuple ns) → ∀ T, H9 T = none →
            ∃ xs', upd H9 T (.tup [.int (pl : Int), vo, vn]) L = some (.lst xs') ∧ xs'.length < sizeLine ∧ (Aside b H (upd (upd H9 T (.tup [.int (pl : Int), vo, vn])) L (.lst (xs' ++ [.ref T]))) ∧ Bx (upd (upd H9 T (.tup [.int (pl : Int), vo, vn])) L (.lst (xs' ++ [.ref T]))) b ∧
              DpAll K (upd (upd H9 T (.tup [.int (pl : Int), vo, vn])) L (.lst (xs' ++ [.ref T]))) (xs' ++ [.ref T]) ((hs ++ [(pl, os, ns)]).map tup3) ∧ PatchOk (hs ++ [(pl, os, ns)]) ∧
              Dp K (upd (upd H9 T (.tup [.int (pl : Int), vo, vn])) L (.lst (xs' ++ [.ref T]))) (.ref lo) (.list os)) := by
        intro pl lo ys os H6 hpl hpl2 a6 b6 hlo nlo nloL hos los ros lr zs ns vo H7 H8 s67 hvo a78 b8 hlr hns lns rns vn H9 s89 hvn T hT
        have b7 := b6.up s67
        have a68 : Aside b H6 H8 := (Aside.of s67).trans a78
        have a69 : Aside b H6 H9 := a68.trans (Aside.of s89)
        have a39 := a6.trans a69
        have b9 := b8.up s89
        obtain ⟨h1, h2⟩ := stay H9 a39 b9
        have sT := Same.nw (o := .tup [.int (pl : Int), vo, vn]) hT
        have hvo9 : Dp K H9 vo (.tuple os) := ((DB.of hvo (by rw [nl_tuple]; exact rows_nl ros) b7).up (a78.trans (Aside.of s89))).dp
        have hlo9 := a69.get nlo hlo
        have hos9 : DpAll K H9 ys os := daUndel (DmA (dNA (sameN_del b6) _ _ (rows_nl ros) hos) a69)
        refine ⟨xs, sT _ _ h1, by have := hok.len; omega, ?_, ?_, ?_, ?_, ?_⟩
        · exact ((a2.trans a39).trans (Aside.of sT)).own hL
        · exact (b9.up sT).upd nL
        · rw [List.map_append]
          refine dNA (sameN_lst (sT _ _ h1)) _ _ ?_ (daApp (DmA h2 sT) (daOne (dTup upd_same (.cons (.int _) (.cons (Dm hvo9 sT) (.cons (Dm hvn sT) .nil))))))
          refine nlA_iff.mpr fun e he => ?_
          rcases List.mem_append.mp he with he | he
          · exact nlA_iff.mp hok.nlt e he
          · rw [List.mem_singleton.mp he]
            refine nl_tup3 ?_
            unfold nl3
            rw [rows_nl ros, rows_nl rns]
            rfl
        · refine ⟨ord_snoc hok.ord fun h hh => Nat.le_trans (hlast h hh) hpl, by rw [List.length_append]; show hs.length + 1 ≤ 3; omega, fun h hh => ?_, fun h hh => ?_⟩
          · rcases List.mem_append.mp hh with hh | hh
            · exact hok.each h hh
            · rw [List.mem_singleton.mp hh]
              exact ⟨los, (by show ns.length ≤ 3; omega), ros, rns⟩
          · rcases List.mem_append.mp hh with hh | hh
            · exact hok.pos h hh
            · rw [List.mem_singleton.mp hh]
              exact hpl2
        · refine dLst (by rw [upd_ne nloL]; exact sT _ _ hlo9) ?_
          exact dNA (sameN_lst (sT _ _ h1)) _ _ (rows_nl ros) (DmA hos9 sT)
      refine ⟨_, rfl, _, rfl, b, 4, rfl, b2, by decide, by decide, fun d H4 d0 d1 a4 b4 => ⟨_, _, rfl, rfl, ?_⟩⟩
      obtain ⟨dn, rfl⟩ : ∃ k : Nat, d = (k : Int) := ⟨d.toNat, by omega⟩
      have epl : (at_ : Int) + (dn : Int) = ((at_ + dn : Nat) : Int) := by omega
      refine ⟨_, rfl, b, 6, rfl, b4, by decide, by decide, fun d2 H5 d0 d1 a5 b5 => ⟨_, _, rfl, rfl, _, rfl, ?_⟩⟩
      have a35 := a4.trans a5
      by_cases hd2 : 0 < d2
      · refine ifT (decide_eq_true hd2) ?_
        refine ⟨_, rfl, _, rfl, _, rfl, _, rfl, _, rfl, b, 4, rfl, b5, by decide, by decide, fun d3 H6 d30 d31 a6 b6 => ⟨_, _, rfl, rfl, _, rfl, ?_⟩⟩
        obtain ⟨d3n, rfl⟩ : ∃ k : Nat, d3 = (k : Int) := ⟨d3.toNat, by omega⟩
        have a06 := (a2.trans a35).trans a6
        obtain ⟨ar, xr, er, hqr, har⟩ := dInv_lst (hrow.up a06)
        refine ⟨ar, xr, er, seqDel hqr, fun lo hlo => ?_⟩
        have nlo := b6.ne hlo
        have a36 := a35.trans a6
        have hL6 := (stay H6 a36 b6).1
        have nloL : lo ≠ L := fun e => by
          rw [e, hL6] at hlo
          cases hlo
        have slo := Same.nw (o := .lst (cutL xr (some ((at_ : Int) + (dn : Int))) (some ((at_ : Int) + (dn : Int) + (d3n : Int))))) hlo
        have hcut : cutL rs (some ((at_ : Int) + (dn : Int))) (some ((at_ : Int) + (dn : Int) + (d3n : Int))) = (rs.drop (at_ + dn)).take d3n := by
          rw [show (at_ : Int) + (dn : Int) + (d3n : Int) = ((at_ + dn + d3n : Nat) : Int) by omega, epl, cutL_nat, Nat.add_sub_cancel_left]
        have hcd := daCut (daUndel har) (some ((at_ : Int) + (dn : Int))) (some ((at_ : Int) + (dn : Int) + (d3n : Int)))
        rw [hcut] at hcd
        have los : ((rs.drop (at_ + dn)).take d3n).length ≤ 3 := by
          rw [List.length_take]
          omega
        have ros : ∀ d ∈ (rs.drop (at_ + dn)).take d3n, RowItem d := fun d hd => hri d (List.mem_of_mem_drop (List.mem_of_mem_take hd))
        have rest := rest (at_ + dn) lo _ _ _ (Nat.le_add_right _ _) (by omega) (a36.trans (Aside.of slo)) (b6.up slo) upd_same nlo nloL (DmA hcd slo) los ros
        refine ⟨_, rfl, .inl ⟨rfl, _, SqL.of (slo _ _ hL6)⟩, _, rfl, _, rfl, .ref lo, .list _, _, rfl, dLst upd_same (DmA hcd slo), rfl, fun vo H7 s7 hvo => ?_⟩
        refine ⟨_, rfl, b, 2, 3, 2, rfl, (b6.up slo).up s7, rfl, by decide, by decide, by decide, fun lr zs ns H8 hlr a8 b8 hzs hns lns rns => ?_⟩
        refine ⟨.ref lr, .list ns, ns, rfl, dLst hzs hns, rfl, fun vn H9 s9 hvn => ⟨by show 3 ≤ sizeLine; decide, fun T hT => ?_⟩⟩
        have rest := rest lr zs ns vo H7 H8 s7 hvo a8 b8 hzs hns lns rns vn H9 s9 hvn T hT
        rw [← epl] at rest
        obtain ⟨xs', r1, r2, r3, r4, r5, r6, r7⟩ := rest
        refine ⟨L, xs', _, rfl, rfl, r1, r2, ?_⟩
        refine ⟨_, rfl, _, rfl, .ref lo, _, _, rfl, r7, rfl, _, _, rfl, rfl, ?_⟩
        refine ⟨r3, r4, _, hs ++ [(at_ + dn, (rs.drop (at_ + dn)).take d3n, ns)], at_ + dn + ((rs.drop (at_ + dn)).take d3n).length, some (.int (0 + (i : Int))), some (.int ((at_ : Int) + (dn : Int))), some (.ref lo), ?_, upd_same, r5, r6, by rw [List.length_append, hlen]; rfl, fun h hh => ?_, by omega⟩
        · rw [Int.natCast_add, ← epl]
          rfl
        · rw [List.getLast?_append] at hh
          simp at hh
          subst hh
          exact Nat.le_refl _
      · refine ifF (decide_eq_false hd2) ?_
        refine ⟨_, rfl, b, 2, 3, 2, rfl, b5, rfl, by decide, by decide, by decide, fun lo ys os H6 hlo a6 b6 hys hos lns0 ros => ?_⟩
        have a36 := a35.trans a6
        have hL5 := (stay H5 a35 b5).1
        have hL6 := (stay H6 a36 b6).1
        have nlo := b5.ne hlo
        have nloL : lo ≠ L := fun e => by
          rw [e, hL5] at hlo
          cases hlo
        have rest := rest (at_ + dn) lo ys os H6 (Nat.le_add_right _ _) (by omega) a36 b6 hys nlo nloL hos (by omega) ros
        refine ⟨_, rfl, .inl ⟨rfl, _, SqL.of hL6⟩, _, rfl, _, rfl, .ref lo, .list os, os, rfl, dLst hys hos, rfl, fun vo H7 s7 hvo => ?_⟩
        refine ⟨_, rfl, b, 2, 3, 2, rfl, b6.up s7, rfl, by decide, by decide, by decide, fun lr zs ns H8 hlr a8 b8 hzs hns lns rns => ?_⟩
        refine ⟨.ref lr, .list ns, ns, rfl, dLst hzs hns, rfl, fun vn H9 s9 hvn => ⟨by show 3 ≤ sizeLine; decide, fun T hT => ?_⟩⟩
        have rest := rest lr zs ns vo H7 H8 s7 hvo a8 b8 hzs hns lns rns vn H9 s9 hvn T hT
        rw [← epl] at rest
        obtain ⟨xs', r1, r2, r3, r4, r5, r6, r7⟩ := rest
        refine ⟨L, xs', _, rfl, rfl, r1, r2, ?_⟩
        refine ⟨_, rfl, _, rfl, .ref lo, _, _, rfl, r7, rfl, _, _, rfl, rfl, ?_⟩
        refine ⟨r3, r4, _, hs ++ [(at_ + dn, os, ns)], at_ + dn + os.length, some (.int (0 + (i : Int))), some (.int ((at_ : Int) + (dn : Int))), some (.ref lo), ?_, upd_same, r5, r6, by rw [List.length_append, hlen]; rfl, fun h hh => ?_, by omega⟩
        · rw [Int.natCast_add, ← epl]
          rfl
        · rw [List.getLast?_append] at hh
          simp at hh
          subst hh
          exact Nat.le_refl _
    · obtain ⟨a2, b2, xs, hs, at_, x4, x5, x6, rfl, hL2, hda, hok, hlen, hlast, hat⟩ := p
      exact ⟨_, rfl, q L xs hs H2 hL a2 b2 hL2 hda hok⟩
end
end K60
/-! K60L4: _law_fits, _law_put. -/
namespace K60
open PySem PySem.Spec PyProof.Rows L2

def spLF (K : PySem.W.Frag) : Sp := fun vs H Q _ => ∃ vp vr r, ∃ hs : List H3, vs = [vp, vr] ∧ Dp K H vp (.list (hs.map tup3)) ∧ Dp K H vr (.list r) ∧ OkHs hs ∧ OkR r ∧
  ∀ v' H', Same H H' → Dp K H' v' (.tuple ((fitsFrom r 0 (oldsOf hs)).map tupI)) → Q v' H'
def spPut (K : PySem.W.Frag) : Sp := fun vs H Q _ => ∃ vp vr vv r d pl, ∃ hs : List H3, vs = [vp, vr, vv] ∧ Dp K H vp (.list (hs.map tup3)) ∧ Dp K H vr (.list r) ∧ Dp K H vv d ∧ seqD d = some (pl.map pI) ∧ OkHs hs ∧ OkR r ∧
  ∀ v' H', Same H H' → Dp K H' v' (.tuple (putFrom r [] 0 (prs hs) pl)) → Q v' H'
theorem fitsAt_eq {r old : List PyData} {p : Nat} (h : p + old.length ≤ r.length) : PyData.eqv (.tuple ((r.drop p).take old.length)) (.tuple old) = fitsAt r old p := by
  unfold fitsAt
  rw [decide_eq_true h, Bool.true_and]
  simp only [PyData.eqv]
section
variable {P : Program} {w : World} {K : PySem.W.Frag} {mg : Str → Option Value} {base : Heap} {f C : Addr} {fd : FuncData}
abbrev N31 : List Str := ["_law_patch_here", "_law_row_here", "_law_found", "_law_at", "_law_old", "_law_longer", "_law_places", "_law_behind", "_law_place"]
theorem sc31 : FnScope N31 ["_law_patch_here", "_law_row_here"] (defScope (top 31)) := ⟨rfl, rfl, rfl, by decide +kernel, rfl, by decide +kernel, by decide +kernel⟩
theorem ok_law_fits (F : Fun K "_law_fits" "_law_fits" (top 31) f fd) (N : Nm mg) : FnOk P w K mg base CX0 1 f fd ["_law_patch_here", "_law_row_here"] (spLF K) := by
  have nd : (N31).Nodup := by decide +kernel
  refine F.ok sc31 (fun vs H Q E h => ?_) (fun cdv A outer s H vs Q E hr h => ?_)
  · obtain ⟨vp, vr, r, hs, rfl, _⟩ := h
    rfl
  · obtain ⟨vp, vr, r, hs, rfl, hp, hd, okh, okr, q⟩ := h
    refine ⟨_, pss_cons (ps_set (i := 2) nd rfl (Or.inl rfl) (pe_lst (pa_cons (pe_tup pa_nil) pa_nil)))
      (pss_cons (ps_for PassesOwn.never rfl (pi_range1 rfl N.range (pa_cons (pe_callB (id := "len") (lenK K) rfl N.len (by decide +kernel) (pa_cons (pv 0) pa_nil)) pa_nil)) (pg_name (i := 3) nd rfl (Or.inl rfl))
        (pss_cons (ps_asg (pe_tup (pa_cons (pe_callTy (T := "tuple") (tupK K) rfl N.tuple (by decide +kernel) (pa_cons (pe_ix (ixK K) (pe_ix (ixK K) (pv 0) (pv 3) (fun _ _ => rfl)) pe_int (fun _ _ => rfl)) pa_nil)) (pa_cons (pe_lst pa_nil) pa_nil)))
            (tupG K (n := 2) rfl (pgs_cons (pg_name (i := 4) nd rfl (Or.inr rfl)) (pgs_cons (pg_name (i := 5) nd rfl (Or.inl rfl)) pgs_nil))))
        (pss_cons (ps_for PassesOwn.never rfl (pi_seqF (pv 2)) (pg_name (i := 6) nd rfl (Or.inr rfl))
          (pss_cons (ps_set (i := 7) nd rfl (Or.inl rfl) (pe_ifExp (pt_cmp (pc_gt (pv 3) pe_int)) (pe_add (pe_ix (ixK K) (pv 6) (pe_sub (pv 3) pe_int) (fun _ _ => rfl))
              (pe_callB (id := "len") (lenK K) rfl N.len (by decide +kernel) (pa_cons (pe_ix (ixK K) (pe_ix (ixK K) (pv 0) (pe_sub (pv 3) pe_int) (fun _ _ => rfl)) pe_int (fun _ _ => rfl)) pa_nil))) pe_int))
          (pss_one (ps_set (i := 5) nd rfl (Or.inl rfl) (pe_op op_cat (pv 5) (pe_lc (own := [("_law_place", 8)]) (g := gName 8) rfl nd
              (pi_range2 rfl N.range (pa_cons (pv 7) (pa_cons (pe_add (pe_sub (pe_callB (id := "len") (lenK K) rfl N.len (by decide +kernel) (pa_cons (pv 1) pa_nil)) (pe_callB (id := "len") (lenK K) rfl N.len (by decide +kernel) (pa_cons (pv 4) pa_nil))) pe_int) pa_nil)))
              (blkOk_by (N := N31) (sc := defScope (top 31)) (by decide +kernel)) (fun _ _ _ _ _ => pg_name (i := 8) nd rfl (Or.inl rfl))
              (fun _ _ _ _ _ => pts_one (pt_cmpR (eqK K (u64 hr)) (pe_callTy (T := "tuple") (tupK K) rfl N.tuple (by decide +kernel) (pa_cons (pe_slice (slK K) (pv 1) (po_some (pv 8)) (po_some (pe_add (pv 8) (pe_callB (id := "len") (lenK K) rfl N.len (by decide +kernel) (pa_cons (pv 4) pa_nil))))) pa_nil)) (pv 4) (nomark _)))
              (fun _ _ _ _ _ => pe_op (catK K) (pv 6) (pe_tup (pa_cons (pv 8) pa_nil)))))))))
        (pss_one (ps_set (i := 2) nd rfl (Or.inl rfl) (pv 5))))))
      (pss_one (ps_ret (pe_callTy (T := "tuple") (tupK K) rfl N.tuple (by decide +kernel) (pa_cons (pv 2) pa_nil))))), ?_⟩
    have hsl : (10000 : Nat) ≤ sizeLine := by rw [sizeLine_eq]; decide
    have hrl := okr.len
    have hhl := okh.len
    refine ⟨by show 0 ≤ sizeLine; exact Nat.zero_le _, fun T0 hT0 => ⟨by show 1 ≤ sizeLine; decide, fun L0 hL0 => ?_⟩⟩
    have sT0 : Same H (upd H T0 (.tup [])) := Same.nw hT0
    have sL0 := Same.nw (o := .lst [.ref T0]) hL0
    have hq0 : DpAll K (upd (upd H T0 (.tup [])) L0 (.lst [.ref T0])) [.ref T0] ((fitsB r ((oldsOf hs).take 0)).map fun q => tupI q.1) := DmA (daOne (dTup upd_same .nil)) sL0
    have s04 := sameT sT0 sL0
    have hL04 : upd (upd H T0 (.tup [])) L0 (.lst [.ref T0]) L0 = some (.lst [.ref T0]) := upd_same
    generalize upd (upd H T0 (.tup [])) L0 (.lst [.ref T0]) = H4 at hq0 s04 hL04
    have lm : (hs.map tup3).length = hs.length := List.length_map _
    refine ⟨vp, rfl, vp, _, _, rfl, Dm hp s04, rfl, _, rfl, by rw [lm]; omega, by rw [lm]; omega, ?_⟩
    have en : (((hs.map tup3).length : Nat) : Int).toNat = hs.length := by rw [lm]; omega
    rw [en]
    refine for_it walk_range (fun i σ H' => (∃ (L : Addr) (vs : List V) (x3 x4 x5 x6 x7 x8 : Option V), σ = [some vp, some vr, some (.ref L), x3, x4, x5, x6, x7, x8] ∧ H' L = some (.lst vs) ∧ DpAll K H' vs ((fitsB r ((oldsOf hs).take i)).map fun q => tupI q.1)) ∧ Same H H')
      ⟨⟨L0, _, _, _, _, _, _, _, rfl, hL04, hq0⟩, s04⟩ (fun _ _ _ _ _ => trivial) (fun i x σ H5 H5' hi p y => ?_) (fun σ H5 p => ?_)
    · obtain ⟨⟨L, vs, x3, x4, x5, x6, x7, x8, rfl, hL5, hvs⟩, s05⟩ := p
      obtain ⟨rfl, rfl⟩ := y
      have ei : (0 : Int) + (i : Int) = ((i : Nat) : Int) := by omega
      obtain ⟨h, mh⟩ : ∃ h, hs[i]? = some h := ⟨hs[i], List.getElem?_eq_getElem hi⟩
      have okx := okh.each h (List.mem_of_getElem? mh)
      have mo : (oldsOf hs)[i]? = some h.2.1 := by rw [List.getElem?_map, mh]; rfl
      have at1 : atI (hs.map tup3) ((0 : Int) + (i : Int)) = some (tup3 h) := by
        rw [ei]
        exact atI_nat (by rw [List.getElem?_map, mh]; rfl)
      refine ⟨vp, rfl, _, rfl, _, _, _, tup3 h, Dm hp s05, rfl, rfl, at1, fun v1 hv1 => ⟨_, _, 1, _, hv1, rfl, rfl, rfl, fun v2 hv2 => ?_⟩⟩
      refine ⟨v2, _, _, rfl, hv2, rfl, fun vo H6 s6 hvo => ⟨by show 0 ≤ sizeLine; exact Nat.zero_le _, fun Lg hLg => ⟨by show 2 ≤ sizeLine; decide, fun T hT => g_pair upd_same ?_⟩⟩⟩
      have sg := Same.nw (o := .lst []) hLg
      have sT := Same.nw (o := .tup [vo, .ref Lg]) hT
      have s57 := sameT s6 (sameT sg sT)
      have hLg7 : upd (upd H6 Lg (.lst [])) T (.tup [vo, .ref Lg]) Lg = some (.lst []) := sT _ _ upd_same
      have hvo7 := Dm hvo (sameT sg sT)
      generalize upd (upd H6 Lg (.lst [])) T (.tup [vo, .ref Lg]) = H7 at s57 hLg7 hvo7
      generalize hqs : fitsB r ((oldsOf hs).take i) = qs at hvs
      have hqn : fitsB r ((oldsOf hs).take (i + 1)) = stepB r qs h.2.1 := by rw [take_next mo, fitsB_snoc, hqs]
      have hsmall : (stepB r qs h.2.1).length ≤ 9261 := by
        rw [← hqn]
        refine fitsB_small okr.len ?_
        rw [List.length_take, List.length_map]
        omega
      have hvl := daLen hvs
      rw [List.length_map] at hvl
      refine ⟨_, rfl, false, L, vs, rfl, (show SqF false K H5' L vs from SqL.of hL5).up s57, fun J2 wk2 => ?_⟩
      refine for_it wk2 (fun j σ H' => (∃ (Lg : Addr) (ws : List V) (y6 y7 y8 : Option V), σ = [some vp, some vr, some (.ref L), some (.int ((0 : Int) + (i : Int))), some vo, some (.ref Lg), y6, y7, y8] ∧ H' Lg = some (.lst ws) ∧
          DpAll K H' ws ((stepB r (qs.take j) h.2.1).map fun q => tupI q.1)) ∧ Same H7 H') ⟨⟨Lg, [], _, _, _, rfl, hLg7, .nil⟩, sameR⟩
        (fun j σ H' _ p => ((show SqF false K H5' L vs from SqL.of hL5).up s57).up p.2) (fun j z σ H8 H8' hj p y => ?_) (fun σ H8 p => ?_)
      · obtain ⟨⟨Lg, ws, y6, y7, y8, rfl, hLg8, hws⟩, s78⟩ := p
        obtain ⟨rfl, hz⟩ := y
        obtain ⟨d', hd', hz'⟩ := daGet hvs hz
        rw [List.getElem?_map] at hd'
        obtain ⟨q0, mq, rfl⟩ := Option.map_eq_some_iff.mp hd'
        have hq2 : q0.2 ≤ r.length := fitsB_le r _ _ rfl q0 (by rw [hqs]; exact List.mem_of_getElem? mq)
        have hmem := fitsB_mem r _ _ rfl q0 (by rw [hqs]; exact List.mem_of_getElem? mq)
        have hlen1 : ((oldsOf hs).take i).length = i := by rw [List.length_take, List.length_map]; omega
        rw [hlen1] at hmem
        obtain ⟨hm1, hm2, hm3⟩ := hmem
        have s58 := sameT s57 s78
        have s08 := sameT s05 s58
        have hz8 := Dm hz' s58
        have hvo8 := Dm hvo7 s78
        have hvr8 := Dm hd s08
        have hrest : ∀ nb : Int, nb = (q0.2 : Int) → ∃ R : Prop, R → R := fun _ _ => ⟨True, id⟩
        -- behind is q0.2
        have hol := okx.2.2.1
        have en2 : (((r.length : Int) - (h.2.1.length : Int) + 1) - (q0.2 : Int)).toNat = r.length + 1 - h.2.1.length - q0.2 := by omega
        have body : ∀ (vb : V), vb = .int (q0.2 : Int) →
            ∃ l xs', (.ref Lg : V) = .ref l ∧ H8' l = some (.lst xs') ∧ True := fun vb _ => ⟨Lg, ws, rfl, hLg8, trivial⟩
        clear body hrest
        refine ⟨_, rfl, _, _, rfl, rfl, _, rfl, ?_⟩
        by_cases hi0 : 0 < i
        · obtain ⟨g, mg1⟩ : ∃ g, hs[i - 1]? = some g := ⟨hs[i - 1]'(by omega), List.getElem?_eq_getElem _⟩
          obtain ⟨pp, mp1⟩ : ∃ pp, q0.1[i - 1]? = some pp := ⟨q0.1[i - 1]'(by omega), List.getElem?_eq_getElem _⟩
          have e1 : ((0 : Int) + (i : Int)) - 1 = ((i - 1 : Nat) : Int) := by omega
          have hb2 : q0.2 = pp + g.2.1.length := by
            refine hm3 pp g.2.1 ?_ ?_
            · rw [List.getLast?_eq_getElem?, hm1]
              exact mp1
            · rw [List.getLast?_eq_getElem?, hlen1, List.getElem?_take_of_lt (by omega), List.getElem?_map, mg1]
              rfl
          refine ifT (decide_eq_true (by omega)) ?_
          have hp8 := Dm hp s08
          refine ⟨z, rfl, _, rfl, _, _, rfl, rfl, _, _, _, pI pp, hz8, rfl, rfl, (by rw [e1]; exact atI_nat (by rw [List.getElem?_map, mp1]; rfl)), fun v4 hv4 => ?_⟩
          refine ⟨vp, rfl, _, rfl, _, _, rfl, rfl, _, _, _, tup3 g, hp8, rfl, rfl, (by rw [e1]; exact atI_nat (by rw [List.getElem?_map, mg1]; rfl)), fun v5 hv5 => ⟨_, _, 1, _, hv5, rfl, rfl, rfl, fun v6 hv6 => ?_⟩⟩
          have e4 := dInv_int hv4
          subst e4
          refine ⟨v6, _, _, rfl, hv6, rfl, _, _, rfl, rfl, ?_⟩
          have eb : (pp : Int) + (g.2.1.length : Int) = (q0.2 : Int) := by omega
          dsimp only
          rw [eb]
          refine ⟨_, rfl, _, rfl, vr, rfl, vr, _, _, rfl, hvr8, rfl, vo, rfl, vo, _, _, rfl, hvo8, rfl, _, _, rfl, rfl, _, _, rfl, rfl, _, _, rfl, ?_, fun D hD => ?_⟩
          · show -(2 ^ 62) ≤ (q0.2 : Int) ∧ (q0.2 : Int) < 2 ^ 62 ∧ -(2 ^ 62) ≤ ((r.length : Int) - (h.2.1.length : Int) + 1) ∧ ((r.length : Int) - (h.2.1.length : Int) + 1) < 2 ^ 62
            omega
          refine lc_data (K := K) (fun k => if fitsAt r h.2.1 (q0.2 + k) = true then some (tupI (q0.1 ++ [q0.2 + k])) else none) walk_range ?_ hD (fun i e hi he => ?_) (fun _ _ => trivial) (fun k z' H9 H9' Ky Kn hk s9 y ky kn => ?_) (fun H9 acc s9 hacc hda => ?_)
          · show (((r.length : Int) - (h.2.1.length : Int) + 1) - (q0.2 : Int)).toNat ≤ sizeLine
            omega
          · split at he
            · cases he
              exact tupI_nl _
            · cases he
          · obtain ⟨rfl, rfl⟩ := y
            have hk2 : k < (((r.length : Int) - (h.2.1.length : Int) + 1) - (q0.2 : Int)).toNat := hk
            have hple : q0.2 + k + h.2.1.length ≤ r.length := by omega
            refine ⟨rfl, vr, rfl, _, rfl, _, rfl, _, rfl, vo, rfl, vo, _, _, rfl, Dm hvo8 s9, rfl, _, _, rfl, rfl, _, rfl, _, _, Dm hvr8 s9, rfl, fun va HA sA hva => ⟨va, _, _, rfl, hva, rfl, fun vb HB sB hvb => ?_⟩⟩
            have ecut : cutL r (some ((q0.2 : Int) + (k : Int))) (some ((q0.2 : Int) + (k : Int) + (h.2.1.length : Int))) = (r.drop (q0.2 + k)).take h.2.1.length := by
              rw [show (q0.2 : Int) + (k : Int) + (h.2.1.length : Int) = ((q0.2 + k + h.2.1.length : Nat) : Int) by omega, show (q0.2 : Int) + (k : Int) = ((q0.2 + k : Nat) : Int) by omega, cutL_nat, Nat.add_sub_cancel_left]
            rw [ecut] at hvb
            have s9B := sameT sA sB
            refine ⟨vo, rfl, _, _, hvb, Dm hvo8 (sameT s9 s9B), okr.sh.cut _ _, okx.2.1, _, rfl, ?_⟩
            rw [fitsAt_eq hple]
            cases hf : fitsAt r h.2.1 (q0.2 + k) with
            | true =>
              refine iteT ⟨z, rfl, _, rfl, by show 1 ≤ sizeLine; decide, fun T hT => ?_⟩
              have sT := Same.nw (o := .tup [V.int ((q0.2 : Int) + (k : Int))]) hT
              refine ⟨q0.1.map pI, [pI (q0.2 + k)], Dm (Dm hz8 (sameT s9 s9B)) sT, dTup upd_same (.cons ?_ .nil), by show (q0.1.map pI).length + 1 ≤ sizeLine; rw [List.length_map, hm1]; omega, fun v9 HC sC hv9 => ?_⟩
              · show Dp K _ (.int ((q0.2 : Int) + (k : Int))) (.int ((q0.2 + k : Nat) : Int))
                rw [Int.natCast_add]
                exact .int _
              · refine ky (tupI (q0.1 ++ [q0.2 + k])) (by rw [if_pos hf]) _ _ (sameT s9B (sameT sT sC)) ?_
                unfold tupI
                rw [List.map_append]
                exact hv9
            | false => exact iteF (kn (by rw [if_neg (by rw [hf]; exact Bool.false_ne_true)]) _ s9B)
          · have hda' : DpAll K H9 acc ((spots r h.2.1 q0.2).map fun p => tupI (q0.1 ++ [p])) := by
              rw [← spots_range r h.2.1 q0.2 (fun p => tupI (q0.1 ++ [p])), ← en2]
              exact hda
            have enext : stepB r (qs.take (j + 1)) h.2.1 = stepB r (qs.take j) h.2.1 ++ (spots r h.2.1 q0.2).map fun p => (q0.1 ++ [p], p + h.2.1.length) := by
              rw [take_next mq, stepB_app, stepB_one]
            have hdw : DpAll K H9 (ws ++ acc) ((stepB r (qs.take (j + 1)) h.2.1).map fun q => tupI q.1) := by
              rw [enext, List.map_append, List.map_map]
              exact daApp (DmA hws s9) hda'
            have hwl := daLen hdw
            rw [List.length_append, List.length_map] at hwl
            have hpre := stepB_pre r qs h.2.1 (j + 1)
            refine ⟨Lg, D, ws, acc, rfl, rfl, s9 _ _ hLg8, hacc, by omega, fun Ln hLn => ?_⟩
            have sLn := Same.nw (o := .lst (ws ++ acc)) hLn
            exact ⟨⟨Ln, ws ++ acc, _, _, _, rfl, upd_same, DmA hdw sLn⟩, sameT s78 (sameT s9 sLn)⟩
        · refine ifF (decide_eq_false (by omega)) ?_
          have hb2 : q0.2 = 0 := hm2 (by omega)
          refine ⟨_, rfl, _, rfl, vr, rfl, vr, _, _, rfl, hvr8, rfl, vo, rfl, vo, _, _, rfl, hvo8, rfl, _, _, rfl, rfl, _, _, rfl, rfl, _, _, rfl, ?_, fun D hD => ?_⟩
          · show -(2 ^ 62) ≤ (0 : Int) ∧ (0 : Int) < 2 ^ 62 ∧ -(2 ^ 62) ≤ ((r.length : Int) - (h.2.1.length : Int) + 1) ∧ ((r.length : Int) - (h.2.1.length : Int) + 1) < 2 ^ 62
            omega
          rw [hb2] at en2
          have en2 : (((r.length : Int) - (h.2.1.length : Int) + 1) - (0 : Int)).toNat = r.length + 1 - h.2.1.length - 0 := en2
          refine lc_data (K := K) (fun k => if fitsAt r h.2.1 (0 + k) = true then some (tupI (q0.1 ++ [0 + k])) else none) walk_range ?_ hD (fun i e hi he => ?_) (fun _ _ => trivial) (fun k z' H9 H9' Ky Kn hk s9 y ky kn => ?_) (fun H9 acc s9 hacc hda => ?_)
          · show (((r.length : Int) - (h.2.1.length : Int) + 1) - (0 : Int)).toNat ≤ sizeLine
            omega
          · split at he
            · cases he
              exact tupI_nl _
            · cases he
          · obtain ⟨rfl, rfl⟩ := y
            have hk2 : k < (((r.length : Int) - (h.2.1.length : Int) + 1) - (0 : Int)).toNat := hk
            have hple : 0 + k + h.2.1.length ≤ r.length := by omega
            refine ⟨rfl, vr, rfl, _, rfl, _, rfl, _, rfl, vo, rfl, vo, _, _, rfl, Dm hvo8 s9, rfl, _, _, rfl, rfl, _, rfl, _, _, Dm hvr8 s9, rfl, fun va HA sA hva => ⟨va, _, _, rfl, hva, rfl, fun vb HB sB hvb => ?_⟩⟩
            have ecut : cutL r (some ((0 : Int) + (k : Int))) (some ((0 : Int) + (k : Int) + (h.2.1.length : Int))) = (r.drop (0 + k)).take h.2.1.length := by
              rw [show (0 : Int) + (k : Int) + (h.2.1.length : Int) = ((0 + k + h.2.1.length : Nat) : Int) by omega, show (0 : Int) + (k : Int) = ((0 + k : Nat) : Int) by omega, cutL_nat, Nat.add_sub_cancel_left]
            rw [ecut] at hvb
            have s9B := sameT sA sB
            refine ⟨vo, rfl, _, _, hvb, Dm hvo8 (sameT s9 s9B), okr.sh.cut _ _, okx.2.1, _, rfl, ?_⟩
            rw [fitsAt_eq hple]
            cases hf : fitsAt r h.2.1 (0 + k) with
            | true =>
              refine iteT ⟨z, rfl, _, rfl, by show 1 ≤ sizeLine; decide, fun T hT => ?_⟩
              have sT := Same.nw (o := .tup [V.int ((0 : Int) + (k : Int))]) hT
              refine ⟨q0.1.map pI, [pI (0 + k)], Dm (Dm hz8 (sameT s9 s9B)) sT, dTup upd_same (.cons ?_ .nil), by show (q0.1.map pI).length + 1 ≤ sizeLine; rw [List.length_map, hm1]; omega, fun v9 HC sC hv9 => ?_⟩
              · show Dp K _ (.int ((0 : Int) + (k : Int))) (.int ((0 + k : Nat) : Int))
                rw [show (0 : Int) + (k : Int) = ((0 + k : Nat) : Int) by omega]
                exact .int _
              · refine ky (tupI (q0.1 ++ [0 + k])) (by rw [if_pos hf]) _ _ (sameT s9B (sameT sT sC)) ?_
                unfold tupI
                rw [List.map_append]
                exact hv9
            | false => exact iteF (kn (by rw [if_neg (by rw [hf]; exact Bool.false_ne_true)]) _ s9B)
          · have hda' : DpAll K H9 acc ((spots r h.2.1 q0.2).map fun p => tupI (q0.1 ++ [p])) := by
              rw [hb2, ← spots_range r h.2.1 0 (fun p => tupI (q0.1 ++ [p])), ← en2]
              exact hda
            have enext : stepB r (qs.take (j + 1)) h.2.1 = stepB r (qs.take j) h.2.1 ++ (spots r h.2.1 q0.2).map fun p => (q0.1 ++ [p], p + h.2.1.length) := by
              rw [take_next mq, stepB_app, stepB_one]
            have hdw : DpAll K H9 (ws ++ acc) ((stepB r (qs.take (j + 1)) h.2.1).map fun q => tupI q.1) := by
              rw [enext, List.map_append, List.map_map]
              exact daApp (DmA hws s9) hda'
            have hwl := daLen hdw
            rw [List.length_append, List.length_map] at hwl
            have hpre := stepB_pre r qs h.2.1 (j + 1)
            refine ⟨Lg, D, ws, acc, rfl, rfl, s9 _ _ hLg8, hacc, by omega, fun Ln hLn => ?_⟩
            have sLn := Same.nw (o := .lst (ws ++ acc)) hLn
            exact ⟨⟨Ln, ws ++ acc, _, _, _, rfl, upd_same, DmA hdw sLn⟩, sameT s78 (sameT s9 sLn)⟩
      · obtain ⟨⟨Lg, ws, y6, y7, y8, rfl, hLg8, hws⟩, s78⟩ := p
        rw [List.take_of_length_le (by omega)] at hws
        exact ⟨_, rfl, ⟨Lg, ws, _, _, _, _, _, _, rfl, hLg8, by rw [hqn]; exact hws⟩, sameT s05 (sameT s57 s78)⟩
    · obtain ⟨⟨L, vs, x3, x4, x5, x6, x7, x8, rfl, hL5, hvs⟩, s05⟩ := p
      rw [List.take_of_length_le (by rw [List.length_map]; omega)] at hvs
      have e : (fitsB r (oldsOf hs)).map (fun q => tupI q.1) = (fitsFrom r 0 (oldsOf hs)).map tupI := by
        rw [← fitsB_fst, List.map_map]
        rfl
      rw [e] at hvs
      exact ⟨_, rfl, _, _, _, rfl, dLst hL5 hvs, rfl, fun v' H' s' hv' => q v' H' (sameT s05 s') hv'⟩
end
end K60
/-! K60L5: _law_put. -/
namespace K60
open PySem PySem.Spec PyProof.Rows L2
section
variable {P : Program} {w : World} {K : PySem.W.Frag} {mg : Str → Option Value} {base : Heap} {f C : Addr} {fd : FuncData}
abbrev N32 : List Str := ["_law_patch_here", "_law_row_here", "_law_places", "_law_found", "_law_at", "_law_place", "_law_hunk"]
theorem sc32 : FnScope N32 ["_law_patch_here", "_law_row_here", "_law_places"] (defScope (top 32)) := ⟨rfl, rfl, rfl, by decide +kernel, rfl, by decide +kernel, by decide +kernel⟩
theorem ok_law_put (F : Fun K "_law_put" "_law_put" (top 32) f fd) (N : Nm mg) : FnOk P w K mg base CX0 1 f fd ["_law_patch_here", "_law_row_here", "_law_places"] (spPut K) := by
  have nd : (N32).Nodup := by decide +kernel
  refine F.ok sc32 (fun vs H Q E h => ?_) (fun cdv A outer s H vs Q E hr h => ?_)
  · obtain ⟨vp, vr, vv, r, d, pl, hs, rfl, _⟩ := h
    rfl
  · obtain ⟨vp, vr, vv, r, d, pl, hs, rfl, hp, hd, hv, e1, okh, okr, q⟩ := h
    refine ⟨_, pss_cons (ps_asg (pe_tup (pa_cons (pe_tup pa_nil) (pa_cons pe_int pa_nil))) (tupG K (n := 2) rfl (pgs_cons (pg_name (i := 3) nd rfl (Or.inl rfl)) (pgs_cons (pg_name (i := 4) nd rfl (Or.inl rfl)) pgs_nil))))
      (pss_cons (ps_for PassesOwn.never rfl (pi_zipF N.zip (pa_cons (pv 2) (pa_cons (pv 0) pa_nil))) (tupG K (n := 2) rfl (pgs_cons (pg_name (i := 5) nd rfl (Or.inl rfl)) (pgs_cons (pg_name (i := 6) nd rfl (Or.inl rfl)) pgs_nil)))
        (pss_one (ps_par (i := 3) (j := 4) rfl nd rfl rfl (by decide) rfl rfl (pa_cons (pe_op (catK K) (pe_op (catK K) (pv 3) (pe_callTy (T := "tuple") (tupK K) rfl N.tuple (by decide +kernel) (pa_cons (pe_slice (slK K) (pv 1) (po_some (pv 4)) (po_some (pv 5))) pa_nil)))
            (pe_callTy (T := "tuple") (tupK K) rfl N.tuple (by decide +kernel) (pa_cons (pe_ix (ixK K) (pv 6) pe_int (fun _ _ => rfl)) pa_nil)))
          (pa_cons (pe_add (pv 5) (pe_callB (id := "len") (lenK K) rfl N.len (by decide +kernel) (pa_cons (pe_ix (ixK K) (pv 6) pe_int (fun _ _ => rfl)) pa_nil))) pa_nil)) rfl)))
      (pss_one (ps_ret (pe_op (catK K) (pv 3) (pe_callTy (T := "tuple") (tupK K) rfl N.tuple (by decide +kernel) (pa_cons (pe_slice (slK K) (pv 1) (po_some (pv 4)) po_none) pa_nil)))))), ?_⟩
    have hsl : (10000 : Nat) ≤ sizeLine := by rw [sizeLine_eq]; decide
    have hlen := okh.len
    have hrl := okr.len
    refine ⟨by show 0 ≤ sizeLine; exact Nat.zero_le _, fun T0 hT0 => ⟨by show 2 ≤ sizeLine; decide, fun T1 hT1 => g_pair upd_same ?_⟩⟩
    have sT0 : Same H (upd H T0 (.tup [])) := Same.nw hT0
    have sT1 := Same.nw (o := .tup [.ref T0, .int 0]) hT1
    have s04 := sameT sT0 sT1
    have hf0 : Dp K (upd (upd H T0 (.tup [])) T1 (.tup [.ref T0, .int 0])) (.ref T0) (.tuple []) := Dm (dTup upd_same .nil) sT1
    generalize upd (upd H T0 (.tup [])) T1 (.tup [.ref T0, .int 0]) = H4 at s04 hf0
    obtain ⟨t, u, a, b, xs, ys, ez, z1, z2, z3, z4⟩ := zipOf (Dm hv s04) e1 (Dm hp s04) rfl
    have hlx := daLen z3
    have hly := daLen z4
    rw [List.length_map] at hlx hly
    refine ⟨vv, rfl, vp, rfl, t, u, a, b, xs, ys, ez, z1, z2, fun J wk => ?_⟩
    refine for_it wk (fun i σ H' => (∃ (acc : List PyData) (at_ : Nat) (vf : V) (x5 x6 : Option V), σ = [some vp, some vr, some vv, some vf, some (.int (at_ : Int)), x5, x6] ∧ Dp K H' vf (.tuple acc) ∧ acc.length ≤ 120 * i ∧
        putFrom r [] 0 (prs hs) pl = putFrom r acc at_ ((prs hs).drop i) (pl.drop i)) ∧ Same H4 H') ⟨⟨[], 0, _, _, _, rfl, hf0, Nat.le_refl _, rfl⟩, sameR⟩
      (fun i σ H' _ p => ⟨z1.up p.2, z2.up p.2⟩) (fun i x σ H5 H5' hi p y => ?_) (fun σ H5 p => ?_)
    · obtain ⟨⟨acc, at_, vf, x5, x6, rfl, hvf, hac, hput⟩, s45⟩ := p
      obtain ⟨T, x1, x2, rfl, hT, rfl, g1, g2⟩ := y
      have sT : Same H5 (upd H5 T (.tup [x1, x2])) := Same.nw hT
      have s46 := sameT s45 sT
      obtain ⟨d1, k1, w1⟩ := daGet z3 g1
      obtain ⟨d2, k2, w2⟩ := daGet z4 g2
      rw [List.getElem?_map] at k1 k2
      obtain ⟨p, m1, rfl⟩ := Option.map_eq_some_iff.mp k1
      obtain ⟨h, m2, rfl⟩ := Option.map_eq_some_iff.mp k2
      have ep := dInv_int w1
      subst ep
      have w26 := Dm w2 s46
      have okx := okh.each h (List.mem_of_getElem? m2)
      have hnl := okx.2.2.2
      have hi3 : i < 3 := by
        have := (List.getElem?_eq_some_iff.mp m2).1
        omega
      have lcut : ((r.drop at_).take (p - at_)).length ≤ 20 := by
        rw [List.length_take, List.length_drop]
        omega
      refine g_pair upd_same ?_
      refine ⟨vf, rfl, vr, rfl, _, rfl, _, rfl, _, rfl, _, rfl, .list r, r, Dm hd (sameT s04 s46), rfl, fun v0 H7 s7 hv0 => ⟨v0, _, _, rfl, hv0, rfl, fun v1 H7b s7b hv1 => ?_⟩⟩
      rw [cutL_nat] at hv1
      have s7 := sameT s7 s7b
      refine ⟨acc, (r.drop at_).take (p - at_), Dm hvf (sameT sT s7), hv1, by omega, fun v2 H8 s8 hv2 => ?_⟩
      have s68 := sameT s7 s8
      refine ⟨x2, rfl, _, _, 2, _, Dm w26 s68, rfl, rfl, rfl, fun v3 hv3 => ⟨v3, _, _, rfl, hv3, rfl, fun v3b H8b s8b hv3b => ?_⟩⟩
      refine ⟨acc ++ (r.drop at_).take (p - at_), h.2.2, Dm hv2 s8b, hv3b, by rw [List.length_append]; omega, fun v4 H9 s9 hv4 => ?_⟩
      have s69 := sameT (sameT s68 s8b) s9
      refine ⟨_, rfl, x2, rfl, _, _, 1, _, Dm w26 s69, rfl, rfl, rfl, fun v5 hv5 => ⟨v5, _, _, rfl, hv5, rfl, _, _, rfl, rfl, _, _, rfl, ?_⟩⟩
      refine ⟨⟨acc ++ ((r.drop at_).take (p - at_) ++ h.2.2), p + h.2.1.length, v4, _, _, rfl, ?_, ?_, ?_⟩, sameT s46 s69⟩
      · rw [← List.append_assoc]
        exact hv4
      · rw [List.length_append, List.length_append]
        omega
      · rw [hput]
        have ed1 : pl.drop i = p :: pl.drop (i + 1) := by
          obtain ⟨hlt, e⟩ := List.getElem?_eq_some_iff.mp m1
          rw [List.drop_eq_getElem_cons hlt, e]
        have ed2 : (prs hs).drop i = h.2 :: (prs hs).drop (i + 1) := by
          have m3 : (prs hs)[i]? = some h.2 := by rw [List.getElem?_map, m2]; rfl
          obtain ⟨hlt, e⟩ := List.getElem?_eq_some_iff.mp m3
          rw [List.drop_eq_getElem_cons hlt, e]
        rw [ed1, ed2]
        rfl
    · obtain ⟨⟨acc, at_, vf, x5, x6, rfl, hvf, hac, hput⟩, s45⟩ := p
      refine ⟨vf, rfl, vr, rfl, _, rfl, _, rfl, .list r, r, Dm hd (sameT s04 s45), rfl, fun v0 H7 s7 hv0 => ⟨v0, _, _, rfl, hv0, rfl, fun v1 H7b s7b hv1 => ?_⟩⟩
      rw [cutL_from] at hv1
      have s7 := sameT s7 s7b
      have ld : (r.drop at_).length ≤ 20 := by
        rw [List.length_drop]
        omega
      have hm3 : min xs.length ys.length ≤ 3 := by omega
      refine ⟨acc, r.drop at_, Dm hvf s7, hv1, by omega, fun v2 H8 s8 hv2 => ?_⟩
      refine q v2 H8 (sameT s04 (sameT s45 (sameT s7 s8))) ?_
      have efin : putFrom r acc at_ ((prs hs).drop (min xs.length ys.length)) (pl.drop (min xs.length ys.length)) = acc ++ r.drop at_ := by
        by_cases hc : xs.length ≤ ys.length
        · have e : pl.drop (min xs.length ys.length) = [] := List.drop_eq_nil_of_le (by omega)
          rw [e]
          cases (prs hs).drop (min xs.length ys.length) <;> rfl
        · have e : (prs hs).drop (min xs.length ys.length) = [] := List.drop_eq_nil_of_le (by rw [List.length_map]; omega)
          rw [e]
          rfl
      rw [hput, efin]
      exact hv2
end
end K60
/-! K60Rp: repr of data, where no guard stands. -/
namespace K60
open PySem PySem.Spec PyProof.Rows L2

/-- data that is shown: depth at most k, bulk at most m -/
structure Sw (k m : Nat) (d : PyData) : Prop where
  lay : d.canLay0 = true
  short : d.intsShort 13 = true
  sho : d.showable = true
  dep : d.depth ≤ k
  blk : d.bulk ≤ m
theorem Sw.mono {k m k' m' : Nat} {d : PyData} (h : Sw k m d) (h1 : k ≤ k') (h2 : m ≤ m') : Sw k' m' d := ⟨h.lay, h.short, h.sho, Nat.le_trans h.dep h1, Nat.le_trans h.blk h2⟩
theorem Sw.int {i : Int} (h1 : -1000000 ≤ i) (h2 : i ≤ 1000000) : Sw 0 0 (.int i) := by
  have h3 : i.natAbs < 10 ^ 12 := by
    have : (10 : Nat) ^ 12 = 1000000000000 := by decide
    omega
  refine ⟨by simp only [PyData.canLay0], ?_, ?_, by simp only [PyData.depth]; exact Nat.le_refl _, by simp only [PyData.bulk]; exact Nat.le_refl _⟩
  · simp only [PyData.intsShort]
    exact decide_eq_true (PyData.shown_int_le h3)
  · simp only [PyData.showable]
    refine decide_eq_true ?_
    by_cases h0 : i.natAbs = 0
    · rw [h0]
      decide
    · refine Nat.lt_of_lt_of_le ((Nat.log2_lt h0).mpr (show i.natAbs < 2 ^ 40 from ?_)) (by decide)
      have : (2 : Nat) ^ 40 = 1099511627776 := by decide
      omega
theorem Sw.non : Sw 0 0 .none := ⟨by simp only [PyData.canLay0], by simp only [PyData.intsShort], by simp only [PyData.showable], by simp only [PyData.depth]; exact Nat.le_refl _, by simp only [PyData.bulk]; exact Nat.le_refl _⟩
theorem Sw.bool {b : Bool} : Sw 0 0 (.bool b) := ⟨by simp only [PyData.canLay0], by simp only [PyData.intsShort], by simp only [PyData.showable], by simp only [PyData.depth]; exact Nat.le_refl _, by simp only [PyData.bulk]; exact Nat.le_refl _⟩
theorem Sw.str {x : Str} (h : PyData.canLay0 (.str x) = true) (hn : x.cps.size ≤ 10) : Sw 0 10 (.str x) := ⟨h, by simp only [PyData.intsShort], by simp only [PyData.showable], by simp only [PyData.depth]; exact Nat.le_refl _, by simp only [PyData.bulk]; exact hn⟩
theorem swAll {k m : Nat} : ∀ {ds : List PyData}, (∀ d ∈ ds, Sw k m d) → PyData.canLayAll0 ds = true ∧ PyData.intsShortAll 13 ds = true ∧ PyData.showableAll ds = true ∧ PyData.depthAll ds ≤ k ∧ PyData.bulkAll ds ≤ ds.length * (m + 1)
  | [], _ => ⟨by simp only [PyData.canLayAll0], by simp only [PyData.intsShortAll], by simp only [PyData.showableAll], by simp only [PyData.depthAll]; exact Nat.zero_le _, by simp only [PyData.bulkAll]; exact Nat.zero_le _⟩
  | d :: ds, h => by
    obtain ⟨a1, a2, a3, a4, a5⟩ := swAll fun e he => h e (List.mem_cons_of_mem _ he)
    obtain ⟨b1, b2, b3, b4, b5⟩ := h d List.mem_cons_self
    refine ⟨?_, ?_, ?_, ?_, ?_⟩
    · simp only [PyData.canLayAll0, a1, b1, Bool.and_self]
    · simp only [PyData.intsShortAll, a2, b2, Bool.and_self]
    · simp only [PyData.showableAll, a3, b3, Bool.and_self]
    · simp only [PyData.depthAll]
      exact Nat.max_le.mpr ⟨b4, a4⟩
    · simp only [PyData.bulkAll, List.length_cons]
      rw [Nat.succ_mul]
      omega
theorem Sw.tuple {k m : Nat} {ds : List PyData} (h : ∀ d ∈ ds, Sw k m d) : Sw (k + 1) (ds.length * (m + 1)) (.tuple ds) := by
  obtain ⟨a1, a2, a3, a4, a5⟩ := swAll h
  exact ⟨by simp only [PyData.canLay0]; exact a1, by simp only [PyData.intsShort]; exact a2, by simp only [PyData.showable]; exact a3, by simp only [PyData.depth]; omega, by simp only [PyData.bulk]; exact a5⟩
theorem Sw.list {k m : Nat} {ds : List PyData} (h : ∀ d ∈ ds, Sw k m d) : Sw (k + 1) (ds.length * (m + 1)) (.list ds) := by
  obtain ⟨a1, a2, a3, a4, a5⟩ := swAll h
  exact ⟨by simp only [PyData.canLay0]; exact a1, by simp only [PyData.intsShort]; exact a2, by simp only [PyData.showable]; exact a3, by simp only [PyData.depth]; omega, by simp only [PyData.bulk]; exact a5⟩
theorem Sw.fits {k m : Nat} {d : PyData} (h : Sw k m d) (hm : m ≤ 1048576) : d.shown.length ≤ sizeLine :=
  PyData.shown_fits_bulk (B := 13) (by decide) (by decide) (PyData.leavesShort_of_canLay0 13 d h.lay h.short) (Nat.le_trans h.blk (Nat.le_trans hm (by decide)))
theorem Sw.len {k m : Nat} {ds : List PyData} (h : Sw k m (.list ds)) : ds.length ≤ m := by
  have key : ∀ l : List PyData, l.length ≤ PyData.bulkAll l := by
    intro l
    induction l with
    | nil => exact Nat.zero_le _
    | cons x l ih =>
      simp only [PyData.bulkAll, List.length_cons]
      omega
  have h2 := h.blk
  simp only [PyData.bulk] at h2
  exact Nat.le_trans (key ds) h2

def rRep (K : PySem.W.Frag) : List V → Hp → VK → Prop := fun xs H Q => ∃ v d, xs = [v] ∧ Dp K H v d ∧ Sw 60 1000000 d ∧ Q (.str d.shown) H
section
variable {X : Cx}
theorem call_reprD (hg : X.A.guards = some []) (hu : X.A.units + 65 < cLine) : CallR X (.builtin "repr") (rRep X.K) := by
  intro pins s σ H xs us Q I r h
  obtain ⟨v, d, rfl, hd, sw, q⟩ := h
  obtain ⟨u, rfl, rv⟩ := vals1 r
  obtain ⟨as, rd⟩ := Dp.reads I d v u hd rv
  have hz := sw.fits (by decide)
  have hs := sw.sho
  have big : ∀ a, u = .ref a → wpAny (model X.prog X.w) X.A (call (.builtin "repr") [u]) (EP X pins σ Q) X.xe s := fun a e => by
    subst e
    refine PySem.repr_of_reads' rd hs (PyData.noDict_hsm (PyData.hasDict_of_canLay d sw.lay)) hg (by have := sw.dep; omega) (fun _ _ e => e) (fun h' t tk hk => ?_) hz
    exact ⟨.str d.shown, H, I.kept (t' := tk) hk, ⟨_, rfl⟩, q⟩
  cases d with
  | none =>
    cases rd
    exact PySem.P.repr_of_none ⟨.str (PyData.shown .none), H, I.tok _, ⟨_, rfl⟩, q⟩
  | bool b =>
    cases rd
    refine PySem.P.repr_of_bool ⟨.str (PyData.shown (.bool b)), H, I.tok _, ⟨s.toks, ?_⟩, q⟩
    cases b <;> rfl
  | int i =>
    cases rd
    refine PySem.P.repr_of_int (by simp only [PyData.showable] at hs; exact of_decide_eq_true hs) ⟨.str (PyData.shown (.int i)), H, I.tok _, ⟨_, rfl⟩, q⟩
  | str x =>
    cases rd
    exact PySem.P.repr_of_str ⟨.str (PyData.shown (.str x)), H, I.tok _, ⟨_, rfl⟩, q⟩ hz
  | list ds =>
    cases rd
    exact big _ rfl
  | tuple ds =>
    cases rd
    exact big _ rfl
  | dict _ => cases hd
end
end K60
/-! K60Try: try with several clauses, each except X as n. -/
namespace K60
open PySem PySem.Spec PyProof.Rows L2

/-- one clause as it is looked at: its class, the name's slot, its suite's reading -/
structure Cls1 where
  c : Value
  i : Nat
  ts : Addr → Value → Option Addr → TS
/-- the ends of a suite whose name goes -/
abbrev endsOf (i : Nat) (D : Ends) : Ends := { nx := fun σ' H' => D.nx (σ'.set i none) H', rt := D.rt, bk := fun σ' H' => D.bk (σ'.set i none) H', ct := fun σ' H' => D.ct (σ'.set i none) H' }
/-- the wish of an exception: the first clause that takes it -/
def wishOf (K : PySem.W.Frag) (Wout : WX) (D : Ends) : List Cls1 → WX
  | [] => Wout
  | k :: r => fun cls d σ H => ∃ b, PySem.W.exmOne K cls k.c = some b ∧ (b = true → ∀ a, H a = none → k.ts a cls d (endsOf k.i D) (σ.set k.i (some (.ref a))) H) ∧ (b = false → wishOf K Wout D r cls d σ H)
inductive ClsOk (X : Cx) : List ExceptHandler → List Cls1 → Prop
  | nil : ClsOk X [] []
  | cons {x n : Str} {k : Cls1} {b₀ : Stmt} {suite : List Stmt} {np pos' : Pos} {hds : List ExceptHandler} {l : List Cls1} (hi : X.N[k.i]? = some n) (hl : X.env.kindOf n = some .local) (hc : Names X x k.c)
      (hsu : ∀ (a : Addr) (oe : Obj) (cls : Value) (d : Option Addr) (pn : List (Addr × Obj)), Zc cls d oe → (∃ vs, oe.data = .fields vs) → PSs (X.suite a ((a, oe) :: pn)) (b₀ :: suite) (k.ts a cls d)) (r : ClsOk X hds l) :
      ClsOk X (.ExceptHandler (some (.Name x np)) (some n) (b₀ :: suite) pos' :: hds) (k :: l)

section
variable {X : Cx} {pins : List (Addr × Obj)} {D : Ends}
/-- behind the try's own body -/
theorem sp_body {f : Flow} {s1 : Shared} {xe : Value → Shared → Prop} (ok : X.Ok) (h : SP (X.tr (X.pn ++ pins) xe) [] D f s1) : SP X pins D f s1 := by
  cases f with
  | next =>
    obtain ⟨σ', H', J, q⟩ := h
    exact ⟨σ', H', J.ofTry ok, q⟩
  | brk =>
    obtain ⟨σ', H', J, q⟩ := h
    exact ⟨σ', H', J.ofTry ok, q⟩
  | cont =>
    obtain ⟨σ', H', J, q⟩ := h
    exact ⟨σ', H', J.ofTry ok, q⟩
  | ret u =>
    obtain ⟨v, σ', H', J, r, q⟩ := h
    exact ⟨v, σ', H', J.ofTry ok, r, q⟩
/-- behind a suite: the name goes -/
theorem sp_suite {a : Addr} {q : Addr × Obj} {i : Nat} {n : Str} {pos : Pos} {f : Flow} {s6 : Shared} (ok : X.Ok) (hN : X.N.Nodup) (hi : X.N[i]? = some n) (hl : X.env.kindOf n = some .local) (h : SP (X.suite a (q :: (X.pn ++ pins))) [] (endsOf i D) f s6) :
    wpAny (model X.prog X.w) X.A (do bindName X.env n .none; unbindBehindTheSuite X.env n pos) (fun _ s7 => SP X pins D f s7) X.xe s6 := by
  cases f with
  | next =>
    obtain ⟨σ6, H6, S6, q6⟩ := h
    exact gone_ok (S6.unsuite ok) hN hi hl fun s7 J7 => ⟨_, _, J7, q6⟩
  | brk =>
    obtain ⟨σ6, H6, S6, q6⟩ := h
    exact gone_ok (S6.unsuite ok) hN hi hl fun s7 J7 => ⟨_, _, J7, q6⟩
  | cont =>
    obtain ⟨σ6, H6, S6, q6⟩ := h
    exact gone_ok (S6.unsuite ok) hN hi hl fun s7 J7 => ⟨_, _, J7, q6⟩
  | ret u =>
    obtain ⟨v6, σ6, H6, S6, r6, q6⟩ := h
    exact gone_ok (S6.unsuite ok) hN hi hl fun s7 J7 => ⟨_, _, _, J7, r6, q6⟩
end

section
variable {X : Cx} {body : List Stmt} {h₀ : ExceptHandler} {hds : List ExceptHandler} {l : List Cls1} {pos : Pos} {tb : WX → TS} {Wout : WX}
theorem ps_try_ass (hs : X.stack = X.env :: X.outer) (hf : X.env.frame = some X.env.locals) (hN : X.N.Nodup) (tk : Takes X Wout)
    (hb : ∀ (W : WX) (pn : List (Addr × Obj)) (xe : Value → Shared → Prop), Takes (X.tr pn xe) W → PassesOwn (model X.prog X.w) X.A X.env xe → PSs (X.tr pn xe) body (tb W))
    (hh : ClsOk X (h₀ :: hds) l) : PS X (.Try body (h₀ :: hds) [] [] pos) (fun D σ H => tb (fun cls d σ H => σ.length = X.N.length → wishOf X.K Wout D l cls d σ H) D σ H) := by
  refine ⟨fun pins s σ H D I h => ?_⟩
  have ok := I.ok
  have hfr : X.A.frames = some (X.env :: X.outer) := by rw [ok.frames, hs]
  refine wpAny_Try_except (wpAny_mono ((hb (fun cls d σ H => σ.length = X.N.length → wishOf X.K Wout D l cls d σ H) (X.pn ++ pins) (fun e s₁ => wpAny (model X.prog X.w) X.A (noteFrame e X.env) (fun _ s₂ => wpAny (model X.prog X.w) X.A (setFlight e none) (fun _ s₃ =>
    wpAny (model X.prog X.w) X.A (handleBy e X.env (h₀ :: hds)) (SP X pins D) X.xe s₃) X.xe s₂) X.xe s₁) (fun u s' xx => ?_) PassesOwn.looking).run [] s σ H D (I.toTry _) h) (fun f s1 hsp => ?_) (fun e s1 he => he))
  · obtain ⟨a, B, sI, pins', σ', H', cls, d, rfl, J', nb, up, sky, na, os, ag, wish⟩ := xx
    have J : L2.Inv X pins σ' H' sI := J'.ofTry ok
    rw [hs] at sky
    refine Sky.land Zc.steady hfr hf sky fun h3 fl3 up3 => ?_
    have J3 : L2.Inv X pins σ' H' { s' with heap := h3 } := J.landed nb fl3.1 (up.trans up3) os ag
    obtain ⟨oe3, vs3, he3, hz3, hd3⟩ := fl3.there
    -- the exception's own object is no frame
    have nfr : a ∉ frs (X.env :: X.outer) := fun hm => by
      obtain ⟨_, o', e', hnf⟩ := fl3.2.2.1.mem hm
      rw [he3] at e'
      cases e'
      exact hnf _ hd3
    have nL : a ≠ X.env.locals := fun z => nfr (List.mem_filterMap.mpr ⟨X.env, List.mem_cons_self, by rw [hf, z]⟩)
    have nF : a ∉ X.fs := fun hm => by
      obtain ⟨e, he, q⟩ := List.mem_filterMap.mp hm
      exact nfr (List.mem_filterMap.mpr ⟨e, List.mem_cons_of_mem _ he, q⟩)
    have S3 := J3.suite he3 hd3 na nL nF
    have LT : PySem.W.Looks (model X.prog X.w) h3 (typeOf (.ref a)) cls := fun A Q E s k q => wpAny_typeOf_ref (k _ _ he3) (by rw [hz3.1]; exact q)
    -- clause by clause
    have go : ∀ (hds' : List ExceptHandler) (l' : List Cls1), ClsOk X hds' l' → wishOf X.K Wout D l' cls d σ' H' → wpAny (model X.prog X.w) X.A (handleBy (.ref a) X.env hds') (SP X pins D) X.xe { s' with heap := h3 } := by
      intro hds' l' hk
      induction hk with
      | nil =>
        intro wish
        refine wpAny_handleBy_nil ?_
        obtain ⟨_, _, _, oe, vs, T, oT, ts', he, hz, hd, h1, _⟩ := id fl3
        unfold PySem.passOn
        refine wpAny_bind (wpAny_field he hd h1 ?_)
        rw [if_neg (show ¬ ((Value.ref T == Value.none) = true) from by simp)]
        have fin : wpAny (model X.prog X.w) X.A (setFlight (.ref a) X.env.frame) (fun _ s4 => wpAny (model X.prog X.w) X.A (throw (.ref a) : Sem Flow) (SP X pins D) X.xe s4) X.xe { s' with heap := h3 } := by
          rw [hf]
          refine HandSPX.setFlight_upZ fl3 fun h4 hh4 up4 => wpAny_throw (tk _ _ ?_)
          exact ⟨a, B, sI, pins, σ', H', cls, d, rfl, J, nb, (up.trans up3).trans up4, .inr (.inr (by rw [hs]; exact hh4)), na, os, ag, wish⟩
        first
          | exact wpAny_bind (wpAny_pure (wpAny_bind fin))
          | exact wpAny_bind fin
      | @cons x n k b₀ suite np pos' hds2 l2 hi hl hc hsu r ih =>
        intro wish
        obtain ⟨b, hb1, hyes, hno⟩ := wish
        refine wpAny_handleBy_cons (codeAny_handlers_test ?_) (by intro q; cases q)
        have LM := PySem.W.exm_one (M := model X.prog X.w) (J3.kIn) LT hb1
        have named : ∀ {Q : Value → Shared → Prop} {E : Value → Shared → Prop}, Q k.c { s' with heap := h3 } → wpAny (model X.prog X.w) (X.A.mark (some (.ref a))) (eval (.Name x np) X.env) Q E { s' with heap := h3 } := fun {Q E} q => by
          obtain ⟨hg, hdbg, hm | ⟨hm, hv, hnn⟩⟩ := hc
          · exact ld_glob (X := X.suite a ((a, oe3) :: (X.pn ++ pins))) S3 hg hm q hdbg
          · exact ld_blt (X := X.suite a ((a, oe3) :: (X.pn ++ pins))) S3 hg hm hv q hnn hdbg
        refine named (LM.here ?_)
        cases b with
        | false =>
          show wpAny _ X.A (handleBy (.ref a) X.env hds2) _ _ _
          exact ih (hno rfl)
        | true =>
          refine codeAny_handlers_suite_as (HandSPX.lands_againZ fl3 fun h4 fl4 up4 => ?_)
          have J4 : L2.Inv X pins σ' H' { s' with heap := h4 } := J.landed nb fl4.1 ((up.trans up3).trans up4) os ag
          obtain ⟨oe4, vs4, he4, hz4, hd4⟩ := fl4.there
          have S4 := J4.suite he4 hd4 na nL nF
          refine store_ok (X := X.suite a ((a, oe4) :: (X.pn ++ pins))) (v := .ref a) S4 hN hi (.inl hl) rfl (fun s5 S5 => ?_) (.inr hl)
          exact wpAny_mono ((hsu a oe4 cls d (X.pn ++ pins) hz4 ⟨_, hd4⟩).run [] s5 _ H' _ S5 (hyes rfl a na)) (fun f s6 hsp => sp_suite ok hN hi hl hsp) (fun _ _ z => False.elim z)
    exact go _ _ hh (wish J.len)
  · have hsp' := sp_body ok hsp
    cases f with
    | next => exact wpAny_execs_nil hsp'
    | brk => exact hsp'
    | cont => exact hsp'
    | ret u => exact hsp'
end
end K60
/-! K60Hd: _law_heard. -/
namespace K60
open PySem PySem.Spec PyProof.Rows L2

/-- isinstance(e, c), e the caught exception with its dict -/
def rIsX (K : PySem.W.Frag) (cls : Value) (d : Option Addr) (D a : Addr) : List V → Hp → VK → Prop := fun xs H Q => ∃ (c : V) (cv : Value) (b : Bool) (dd : Addr) (fs : List (Str × V)), xs = [.ref a, c] ∧ cls = .ref D ∧ d = some dd ∧ H dd = some (.xd fs) ∧
  (∀ u, RelV c u → u = cv) ∧ PySem.W.kitOne K (.ref D) cv = some b ∧ Q (.bl b) H
theorem call_isX {X : Cx} {a D : Addr} {oe : Obj} {cls : Value} {d : Option Addr} {pn : List (Addr × Obj)} (C : ExcC X.K D) (hz : Zc cls d oe) (hf : ∃ vs, oe.data = .fields vs) : CallR (X.suite a ((a, oe) :: pn)) (.builtin "isinstance") (rIsX X.K cls d D a) := by
  intro pins s σ H xs us Q I r h
  obtain ⟨c, cv, b, dd, fs, rfl, rfl, rfl, ea, hcv, e, q⟩ := h
  obtain ⟨u1, u2, rfl, rx, rt⟩ := vals2 r
  cases rx
  have ec := hcv _ rt
  subst ec
  obtain ⟨hget, _⟩ := I.pin (a, oe) (List.mem_append.mpr (.inl List.mem_cons_self))
  obtain ⟨vs, hv⟩ := hf
  have hx : ObjOk X.prog X.w H s.heap dd (.xd fs) := I.hok dd _ ea
  obtain ⟨mA, hns, _⟩ := hx
  obtain ⟨od, ho, _⟩ := lookIn_ns hns
  have J : PySem.W.InstAt s.heap a oe D (some od) := ⟨hget, hz.1, by unfold PySem.W.notCls; rw [hv] <;> rfl, by rw [hz.2]; exact ho⟩
  have hcl : (PySem.W.clsIn X.K D).isSome = true := by
    obtain ⟨cd, hc, _⟩ := PySem.W.any_some C.hd
    rw [hc]
    rfl
  exact PySem.W.kia_one (PySem.W.kitx_exc hcl C.hg C.hk C.hs C.ha C.hn C.ht C.hm) I.kIn J e (fun z => nomatch z) fun tk => ⟨.bl b, H, I.kept (t' := tk) fun _ _ z => z, rfl, q⟩

/-- the three error classes -/
structure ErrF (K : PySem.W.Frag) (mg : Str → Option Value) (CT CR CK : Addr) : Prop where
  mT : mg "TooGreat" = some (.ref CT)
  mR : mg "Refused" = some (.ref CR)
  mK : mg "KeepError" = some (.ref CK)
  tt : PySem.W.exmOne K (.ref CT) (.ref CT) = some true
  rt : PySem.W.exmOne K (.ref CR) (.ref CT) = some false
  rr : PySem.W.exmOne K (.ref CR) (.ref CR) = some true
  xT : XfC K CT
  xR : XfC K CR
  nT : PySem.W.findIn K (.ref CT) "most" = some none
  nR : PySem.W.findIn K (.ref CR) "at" = some none
  eT : ExcC K CT
  eR : ExcC K CR
  kT : PySem.W.kitOne K (.ref CT) (.ref CK) = some true
  kR : PySem.W.kitOne K (.ref CR) (.ref CK) = some true

/-- what is heard of an error -/
def HE (K : PySem.W.Frag) (CT CR : Addr) (Q : VK) : XK := fun cls d H =>
  (cls = .ref CT ∧ ∃ dd v, d = some dd ∧ H dd = some (.xd [("most", v)]) ∧ ∀ T, H T = none → Q (.ref T) (upd H T (.tup [.str "great", v, .bl true]))) ∨
  (cls = .ref CR ∧ ∃ dd v dv, d = some dd ∧ H dd = some (.xd [("at", v)]) ∧ Dp K H v dv ∧ Sw 60 1000000 dv ∧ ∀ T, H T = none → Q (.ref T) (upd H T (.tup [.str "refused", .str dv.shown, .bl true])))
def TTh (K : PySem.W.Frag) (CT CR : Addr) : (XK → Hp → VK → Prop) → Hp → VK → Prop := fun tl H Q =>
  tl (HE K CT CR Q) H (fun v H' => ∀ T, H' T = none → Q (.ref T) (upd H' T (.tup [.str "told", v])))
abbrev N34 : List Str := ["_law_ask", "fault"]
abbrev hdCx (X : Cx) (g : Addr) (cdg : Value) (s : Shared) (H : Hp) : Cx := (cxOf C8.CX0 X.prog X.w X.K X.mg X.base N34 "_law_heard" (defScope (top 34)) g cdg X.A X.stack s H C8.E0).nox
theorem heard_gives {X : Cx} {q : Str} {g CT CR CK : Addr} {cdg : Value} {k : Nat} (ef : ErrF X.K X.mg CT CR CK) (N : Nm X.mg) (hg : X.A.guards = some []) (hr : Room (k + 1) X.A) :
    LamX.GivesTo X N34 "_law_heard" (defScope (top 34)) g cdg (defBody (top 34)) "_law_ask" q (TTh X.K CT CR) := by
  intro f c' s H Q tl act hc h
  have nd : (N34).Nodup := by decide +kernel
  have hr' : Room k (X.A.deeper (envOfC "_law_heard" (defScope (top 34)) s.heap.objs.size g cdg)) := hr.deeper _
  refine ⟨_, pss_one (ps_try_ass (X := (cxOf C8.CX0 X.prog X.w X.K X.mg X.base N34 "_law_heard" (defScope (top 34)) g cdg X.A X.stack s H C8.E0).nox)
      (tb := fun W D σ H => ∃ Ech : XK, (∀ cls d σ' H', Ech cls d H' → W cls d σ' H') ∧ σ[0]? = some (some (.ref f)) ∧ H c' = some (LamX.CodeO c' q) ∧ tl Ech H (fun v H' => ∀ T, H' T = none → D.rt (.ref T) (upd H' T (.tup [.str "told", v]))))
      (l := [⟨.ref CT, 1, fun a cls d => tRet (tTup (tCons (tC (.str "great")) (tCons (tXf a cls d CT "most" (tVar 1)) (tCons (tCB (rIsX X.K cls d CT a) (tCons (tVar 1) (tCons (tC (.ref CK)) tNil))) tNil))))⟩,
        ⟨.ref CR, 1, fun a cls d => tRet (tTup (tCons (tC (.str "refused")) (tCons (tCB (rRep X.K) (tCons (tXf a cls d CR "at" (tVar 1)) tNil)) (tCons (tCB (rIsX X.K cls d CR a) (tCons (tVar 1) (tCons (tC (.ref CK)) tNil))) tNil))))⟩])
      rfl rfl nd LamX.takes0 (fun W pn xe tk _ => ?_)
      (.cons (k := ⟨.ref CT, 1, _⟩) rfl rfl ⟨rfl, by decide, .inl ef.mT⟩ (fun a oe cls d pn hz hf => ?_) (.cons (k := ⟨.ref CR, 1, _⟩) rfl rfl ⟨rfl, by decide, .inl ef.mR⟩ (fun a oe cls d pn hz hf => ?_) .nil))), ?_⟩
  · refine ⟨fun pins s' σ H' D I h' => ?_⟩
    obtain ⟨Ech, hW, h1, h2, h3⟩ := h'
    exact (pss_one (ps_ret (pe_tup (pa_cons pe_str (pa_cons (act W pn xe Ech _ _ tk hW) pa_nil))))).run pins s' σ H' D I ⟨h1, h2, by
      refine (?_ : tl Ech H' _)
      have e : (fun (v : V) (H' : Hp) => ∀ T, H' T = none → D.rt (.ref T) (upd H' T (.tup [.str "told", v]))) = (fun (v : V) (H' : Hp) => ([.str "told", v] : List V).length ≤ sizeLine ∧ ∀ T, H' T = none → D.rt (.ref T) (upd H' T (.tup [.str "told", v]))) := by
        funext v H'
        refine propext ⟨fun z => ⟨by show 2 ≤ sizeLine; decide, z⟩, fun z => z.2⟩
      rw [e] at h3
      exact h3⟩
  · refine (?_ : PSs _ _ (tRet (tTup (tCons (tC (.str "great")) (tCons (tXf a cls d CT "most" (tVar 1)) (tCons (tCB (rIsX X.K cls d CT a) (tCons (tVar 1) (tCons (tC (.ref CK)) tNil))) tNil))))))
    exact pss_one (ps_ret (pe_tup (pa_cons pe_str (pa_cons (pe_xf (X := hdCx X g cdg s H) (a := a) (oe := oe) (pn := pn) ef.xT ef.nT hz hf (pv 1)) (pa_cons (pe_callB (X := ((hdCx X g cdg s H).suite a ((a, oe) :: pn))) (call_isX (X := hdCx X g cdg s H) (a := a) (oe := oe) (pn := pn) ef.eT hz hf) rfl N.isinstance (by decide +kernel) (pa_cons (X := ((hdCx X g cdg s H).suite a ((a, oe) :: pn))) (pv 1) (pa_cons (pe_glob (X := ((hdCx X g cdg s H).suite a ((a, oe) :: pn))) rfl ef.mK rfl) pa_nil))) pa_nil)))))
  · refine (?_ : PSs _ _ (tRet (tTup (tCons (tC (.str "refused")) (tCons (tCB (rRep X.K) (tCons (tXf a cls d CR "at" (tVar 1)) tNil)) (tCons (tCB (rIsX X.K cls d CR a) (tCons (tVar 1) (tCons (tC (.ref CK)) tNil))) tNil))))))
    exact pss_one (ps_ret (pe_tup (pa_cons pe_str (pa_cons (pe_callB (X := ((hdCx X g cdg s H).suite a ((a, oe) :: pn))) (call_reprD (X := ((hdCx X g cdg s H).suite a ((a, oe) :: pn))) hg (by have h := u65 hr'; exact h)) rfl N.repr (by decide +kernel) (pa_cons (pe_xf (X := hdCx X g cdg s H) (a := a) (oe := oe) (pn := pn) ef.xR ef.nR hz hf (pv 1)) pa_nil)) (pa_cons (pe_callB (X := ((hdCx X g cdg s H).suite a ((a, oe) :: pn))) (call_isX (X := hdCx X g cdg s H) (a := a) (oe := oe) (pn := pn) ef.eR hz hf) rfl N.isinstance (by decide +kernel) (pa_cons (X := ((hdCx X g cdg s H).suite a ((a, oe) :: pn))) (pv 1) (pa_cons (pe_glob (X := ((hdCx X g cdg s H).suite a ((a, oe) :: pn))) rfl ef.mK rfl) pa_nil))) pa_nil)))))
  · refine ⟨HE X.K CT CR Q, fun cls d σ' H' he => ?_, rfl, hc, h⟩
    intro hlen
    have hset : ∀ a : Addr, (σ'.set 1 (some (V.ref a)))[1]? = some (some (V.ref a)) := fun a => by
      rw [List.getElem?_set_self]
      rw [hlen]
      show 1 < 2
      decide
    rcases he with ⟨rfl, dd, v, rfl, hdd, hq⟩ | ⟨rfl, dd, v, dv, rfl, hdd, hdv, hsw, hq⟩
    · refine ⟨true, ef.tt, fun _ a ha => ?_, fun z => nomatch z⟩
      refine ⟨.ref a, hset a, rfl, rfl, dd, _, v, rfl, hdd, rfl, .ref a, hset a, .ref CK, .ref CK, true, dd, _, rfl, rfl, rfl, hdd, fun u r => r, ef.kT, by show 3 ≤ sizeLine; decide, hq⟩
    · refine ⟨false, ef.rt, (fun z => nomatch z), fun _ => ⟨true, ef.rr, fun _ a ha => ?_, fun z => nomatch z⟩⟩
      refine ⟨.ref a, hset a, rfl, rfl, dd, _, v, rfl, hdd, rfl, v, dv, rfl, hdv, hsw, .ref a, hset a, .ref CK, .ref CK, true, dd, _, rfl, rfl, rfl, hdd, fun u r => r, ef.kR, by show 3 ≤ sizeLine; decide, hq⟩
end K60
/-! K60Lm: lambdas with parameters that capture nothing: made, kept in a list, called. -/
namespace K60
open PySem PySem.Spec PyProof.Rows L2 LamX

/-- the function of such a lambda, its code object at c' -/
def LamO (f : Addr) (q : Str) (params : Arguments) (body : Expr) (scope : Scope) (c' : Addr) : HO := .ext fun h => ∃ pm ctv, h.get? f = some (PySem.W.kla_obj "<lambda>" q params body scope [] pm c' ctv)
theorem lamO_at {P : Program} {w : World} {H : Hp} {h : Heap} {f c' : Addr} {q : Str} {params : Arguments} {body : Expr} {scope : Scope} (hok : HOk P w H h) (e : H f = some (LamO f q params body scope c')) :
    ∃ pm ctv, h.get? f = some (PySem.W.kla_obj "<lambda>" q params body scope [] pm c' ctv) := by
  have x : ObjOk P w H h f (.ext fun h => ∃ pm ctv, h.get? f = some (PySem.W.kla_obj "<lambda>" q params body scope [] pm c' ctv)) := hok f _ e
  exact x.1
theorem lamO_ne {f c' : Addr} {q : Str} {params : Arguments} {body : Expr} {scope : Scope} (ps : Array Value) : LamO f q params body scope c' ≠ .tbl ps := fun z => by
  unfold LamO at z
  cases z

theorem updN {H : Hp} {a b : Addr} {o : HO} (e : upd H a o b = none) : H b = none := by
  unfold upd at e
  split at e
  · cases e
  · exact e
/-! ### made -/
def tLamV (T : List (Addr × Str)) (q : Str) (params : Arguments) (body : Expr) (scope : Scope) : TE := fun σ H Q => Tabs T H ∧ ∀ (f c' : Addr) (H1 : Hp), ExtN H H1 → (∀ b, H1 b = none → H b = none) → Tabs T H1 → H f = none →
  H1 f = some (LamO f q params body scope c') → H1 c' = some (CodeO c' q) → Q (.ref f) H1
section
variable {X : Cx} {pins : List (Addr × Obj)} {σ : L2.St} {H : Hp} {s : Shared}
/-- a function object just made is known from now on -/
theorem inv_lam {q : Str} {params : Arguments} {body : Expr} {scope : Scope} {pm ctv : Value} {c' : Addr} {t' : Nat} (I : L2.Inv X pins σ H s) :
    L2.Inv X pins σ (upd H s.heap.objs.size (LamO s.heap.objs.size q params body scope c')) { s with heap := s.heap.push (PySem.W.kla_obj "<lambda>" q params body scope [] pm c' ctv), toks := t' } := by
  refine I.laid (a := s.heap.objs.size) (fun b u e => Heap.get?_push_of_some _ e) (Nat.le_refl _) ?_
  have e : (s.heap.push (PySem.W.kla_obj "<lambda>" q params body scope [] pm c' ctv)).get? s.heap.objs.size = some (PySem.W.kla_obj "<lambda>" q params body scope [] pm c' ctv) := Heap.get?_push_size _ rfl
  exact ⟨⟨pm, ctv, e⟩, ⟨_, e⟩, fun h1 h2 ⟨p, t, z⟩ st => ⟨p, t, st _ z⟩⟩
theorem pe_lam {T : List (Addr × Str)} {c P : Addr} {params : Arguments} {body : Expr} {scope : Scope} {pos : Pos} (TB : TabB X.base X.mg c P) (hcode : X.env.code = .ref c) (hmT : (P, X.env.qual ++ "<lambda>") ∈ T) (hu : ∀ p ∈ T, p.1 = P → p.2 = X.env.qual ++ "<lambda>")
    (hdef : defaultsOf params X.env = ([], [])) (hcl : cloFrom X.env.cells scope.names [] = []) (hnf : ∀ y ∈ scope.names, y.2 ≠ .free) :
    PE X (.Lambda params body scope pos) (tLamV T (X.env.qual ++ "<lambda>") params body scope) := by
  refine ⟨fun pins s σ H Q I h => ?_⟩
  obtain ⟨hT, h⟩ := h
  obtain ⟨ps, hP, ht, ha⟩ := hT _ hmT
  refine PySem.W.kla_eval hdef ?_
  have hfree : ∀ y ∈ scope.names, y.2 = .free → ∃ c, X.env.cells.lookup y.1 = some c := fun y hy e => absurd e (hnf y hy)
  have hclo := closure_ok hfree
  rw [hcl] at hclo
  have bP : s.heap.BuiltinsAt X.mg P := TB.bm.keeps I.bk
  have hP' : s.heap.get? P = some { cls := .none, data := .fields ps } := I.hok P _ hP
  cases hc : codeAmong pos ps.toList with
  | none =>
    refine PySem.W.kla_makeFunction (mg := X.mg) (c := c) (P := P) (ps := ps) hclo I.ok.glob (I.mod.glob.keeps I.bk) hcode (TB.code.keeps I.bk) hP' ht hc TB.gP bP fun c' ctv h' tk hx hge hlt hrec htb => ?_
    obtain ⟨c2, oc, vs, t, e2, hoc, hd, hv⟩ := hrec
    cases e2
    have nC : H c' = none := I.hok.fresh hge
    have I1 := inv_table (t' := tk) (more := #[rawInt pos.line, rawInt pos.col, .ref c']) (h' := h') I hP (fun b o hb e => hx b o hb e) htb hge ⟨oc, vs, t, hoc, hd, hv⟩
    have hE : ExtN H (upd (upd H P (.tbl (ps ++ #[rawInt pos.line, rawInt pos.col, .ref c']))) c' (CodeO c' (X.env.qual ++ "<lambda>"))) := fun b o e n => by
      rw [upd_ne (ne_of_none e nC), upd_ne (fun z => n ps (Option.some.inj (e.symm.trans (by rw [z]; exact hP))))]
      exact e
    have eL : (ps ++ #[rawInt pos.line, rawInt pos.col, .ref c']).toList = ps.toList ++ [rawInt pos.line, rawInt pos.col, .ref c'] := by simp
    have T1 : Tabs T (upd (upd H P (.tbl (ps ++ #[rawInt pos.line, rawInt pos.col, .ref c']))) c' (CodeO c' (X.env.qual ++ "<lambda>"))) := fun p hp => by
      by_cases hb : p.1 = P
      · rw [hu p hp hb, hb]
        refine ⟨_, by rw [upd_ne (ne_of_none hP nC), upd_same], by rw [eL]; exact PySem.TriplesOk_snoc _ _ _ _ ht, fun p' cv hcv => ?_⟩
        rw [eL] at hcv
        rcases among_app _ ht hcv with z | z
        · obtain ⟨c0, e1, e2⟩ := ha p' cv z
          exact ⟨c0, e1, hE _ _ e2 codeO_ne⟩
        · exact ⟨c', z, upd_same⟩
      · obtain ⟨ps', a1, a2, a3⟩ := hT p hp
        refine ⟨ps', by rw [upd_ne (ne_of_none a1 nC), upd_ne hb]; exact a1, a2, fun p' cv hcv => ?_⟩
        obtain ⟨c0, e1, e2⟩ := a3 p' cv hcv
        exact ⟨c0, e1, hE _ _ e2 codeO_ne⟩
    have nF := I1.hok.fresh (Nat.le_refl _)
    have I2 := inv_lam (q := X.env.qual ++ "<lambda>") (params := params) (body := body) (scope := scope) (pm := (X.mg "__name__").getD .none) (ctv := ctv) (c' := c') (t' := tk) I1
    refine ⟨.ref h'.objs.size, _, I2, rfl, h h'.objs.size c' _ (fun b o e n => ?_) (fun b e => updN (updN (updN e))) (T1.ext fun b o e => ?_) (I.hok.fresh (Nat.le_trans hge (Nat.le_of_lt hlt))) upd_same ?_⟩
    · have e1 := hE b o e n
      exact (upd_ne (ne_of_none e1 nF)).trans e1
    · exact (upd_ne (ne_of_none e nF)).trans e
    · exact (upd_ne (Nat.ne_of_lt hlt)).trans upd_same
  | some cv =>
    obtain ⟨c', e, hco⟩ := ha pos cv hc
    subst e
    refine PySem.W.kla_makeFunctionHit (mg := X.mg) (c := c) (P := P) (ps := ps) hclo I.ok.glob (I.mod.glob.keeps I.bk) hcode (TB.code.keeps I.bk) hP' ht hc bP fun ctv h' tk hx hsz => ?_
    have I1 : L2.Inv X pins σ H { s with heap := h', toks := tk } := I.kept hx
    have nF : H h'.objs.size = none := I1.hok.fresh (Nat.le_refl _)
    have I2 := inv_lam (q := X.env.qual ++ "<lambda>") (params := params) (body := body) (scope := scope) (pm := (X.mg "__name__").getD .none) (ctv := ctv) (c' := c') (t' := tk) I1
    refine ⟨.ref h'.objs.size, _, I2, rfl, h h'.objs.size c' _ (fun b o e n => ?_) (fun b e => updN e) (hT.ext fun b o e => ?_) nF upd_same ?_⟩
    · exact (upd_ne (ne_of_none e nF)).trans e
    · exact (upd_ne (ne_of_none e nF)).trans e
    · exact (upd_ne (ne_of_none hco nF)).trans hco
end

/-! ### called -/
/-- such a lambda keeps its promise -/
structure LOk (P : Program) (w : World) (K : PySem.W.Frag) (mg : Str → Option Value) (base : Heap) (k : Nat) (q : Str) (params : Arguments) (body : Expr) (scope : Scope) (sp : Sp) : Prop where
  run : ∀ (f c' : Addr) (A : Around) (outer : List Env) (s : Shared) (H : Hp) (us : List Value) (vs : List V) (Q : VK) (E : XK), Room k A → Env0 P w K mg base A outer s H → H f = some (LamO f q params body scope c') → H c' = some (CodeO c' q) → Vals vs us → sp vs H Q E →
    codeAny (model P w) A (.call (.ref f) ⟨us, []⟩) (CR (L2.CX P w) outer P w H s Q E) s
theorem lok_of {P : Program} {w : World} {K : PySem.W.Frag} {mg : Str → Option Value} {base : Heap} {k : Nat} {q : Str} {params : Arguments} {body : Expr} {scope : Scope} {sp : Sp} {N ps : List Str} (S : FnScope N ps scope)
    (hb : ∀ (pm cv ctv : Value) (us : List Value), us.length = ps.length → bindArgs (PySem.W.kla_fn "<lambda>" q params body scope [] pm cv ctv) ⟨us, []⟩ = pure (ps.zip us)) (len : ∀ vs H Q E, sp vs H Q E → vs.length = ps.length)
    (hbody : ∀ (f c' : Addr) (A : Around) (outer : List Env) (s : Shared) (H : Hp) (vs : List V) (Q : VK) (E : XK), Room k (A.deeper (envOfC q scope s.heap.objs.size f (.ref c'))) → sp vs H Q E →
      ∃ t, PE (cxOf (L2.CX P w) P w K mg base N q scope f (.ref c') A outer s H E) body t ∧ t (L2.start N vs) H Q) : LOk P w K mg base (k + 1) q params body scope sp := by
  refine ⟨fun f c' A outer s H us vs Q E hr e0 hf hc r hsp => ?_⟩
  obtain ⟨pm, ctv, of1⟩ := lamO_at e0.hok hf
  obtain ⟨⟨oc, os, t, hoc, hdc, hvc⟩, _, _⟩ := e0.hok c' _ hc
  have hl : us.length = ps.length := by rw [← r.length]; exact len _ _ _ _ hsp
  have lim : s.heap.NoLimit := e0.mod.nolimit.keeps fun b o e => (e0.bs b o e).1
  refine PySem.W.kla_callFunE hr.depth of1 rfl S.co S.gen rfl ⟨c', oc, os, t, rfl, hoc, hdc, hvc⟩ ?_
  rw [hb pm (.ref c') ctv us hl]
  refine wpAny_pure ?_
  have hkind : ∀ y ∈ ps.zip us, scope.names.lookup y.1 = some .local ∨ (scope.names.lookup y.1 = some .cell ∧ ((cellsFrom (s.heap.objs.size + 1) scope.names []).lookup y.1).isSome = true) := fun ⟨n, v⟩ hy => by
    rcases S.par n (List.of_mem_zip hy).1 with q | q
    · exact .inl q
    · exact .inr ⟨q, PySem.W.cellsFrom_some _ _ _ (.inl q)⟩
  refine wpAny_newFunctionEnv_cells S.kind hkind fun env he s1 x => ?_
  subst he
  refine ⟨lim.keeps x.toInCall.keep, ?_⟩
  obtain ⟨t, ht, hq⟩ := hbody f c' A outer s H vs Q E (hr.deeper _) hsp
  have I : L2.Inv (cxOf (L2.CX P w) P w K mg base N q scope f (.ref c') A outer s H E) [] (L2.start N vs) H s1 := inv_start S hr.hd e0 (len _ _ _ _ hsp) r x
  refine PySem.W.kla_codeExpr (wpAny_mono (ht.run [] s1 _ H Q I hq) (fun v s' hv => ?_) fun e s' he => he)
  obtain ⟨w', H', J, rv, qv⟩ := hv
  exact ⟨w', H', J.os, J.bare, J.base, J.hok, rv, qv⟩
/-- x(e, ..), x a name that holds such a lambda -/
def tLamC (P : Program) (w : World) (K : PySem.W.Frag) (mg : Str → Option Value) (base : Heap) (k i : Nat) (E : XK) (t : TA) : TE := fun σ H Q => ∃ (f c' : Addr) (q : Str) (params : Arguments) (body : Expr) (scope : Scope) (sp : Sp), σ[i]? = some (some (.ref f)) ∧
  H f = some (LamO f q params body scope c') ∧ LOk P w K mg base k q params body scope sp ∧ t σ H fun vs H1 => H1 f = some (LamO f q params body scope c') ∧ H1 c' = some (CodeO c' q) ∧ sp vs H1 Q E
theorem lamFn {X : Cx} {pins : List (Addr × Obj)} {σ : L2.St} {H : Hp} {s : Shared} {f c' : Addr} {q : Str} {params : Arguments} {body : Expr} {scope : Scope} (I : L2.Inv X pins σ H s) (e : H f = some (LamO f q params body scope c')) : PySem.W.FnAt f s.heap := by
  obtain ⟨pm, ctv, ho⟩ := lamO_at I.hok e
  exact ⟨_, none, _, _, ho⟩
theorem pe_callLm {X : Cx} {k j i : Nat} {x : Str} {E : XK} {t : TA} {e : Expr} {es : List Expr} {p pos : Pos} (hr : Room j X.A) (hk : k ≤ j) (hx : Passes (L2.CX X.prog X.w) X E) (hN : X.N[i]? = some x) (hv : Vis X.env.scope x) (ha : PA X (e :: es) t)
    (hd : (x == ("__debug__" : Str)) = false := by decide) (hcd : (x == ("__classdict__" : Str)) = false := by decide)
    (he : starEach (e :: es) X.env = (false, eval e X.env) :: starEach es X.env := by rfl) (hpl : (backTo pos (starEach es X.env)).any (·.1) = false := by rfl) :
    PE X (.Call (.Name x p) (e :: es) [] pos) (tLamC X.prog X.w X.K X.mg X.base k i E t) := by
  refine ⟨fun pins s σ H Q I h => ?_⟩
  obtain ⟨f, c', q, params, body, scope, sp, hs, hf, ok, ht⟩ := h
  refine wpAny_Call_Name_kw (thn ((pe_var (pos := p) hN hv hd hcd).run pins s σ H (fun v H1 => v = .ref f ∧ H1 = H) I ⟨.ref f, hs, rfl, rfl⟩) fun u s1 ⟨v, H1, I1, r1, q1⟩ => ?_)
  obtain ⟨ev, eH⟩ := q1
  subst ev
  rw [eH] at I1
  obtain rfl : u = Value.ref f := r1
  refine PySem.W.callWith_F (first := []) (lamFn I1 hf) (thn (ha.run pos pins s1 σ H _ I1 ht) fun us s2 ⟨vs, H2, I2, r, h1, h2, qq⟩ => ⟨lamFn I2 h1, ?_⟩) he hpl
  show wpAny _ _ (call (.ref f) us) _ _ _
  refine wpAny_call (codeAny_mono (ok.run f c' X.A X.stack s2 H2 us vs Q E (hr.mono hk) I2.env0 h1 h2 r qq) fun r s' hq => ?_)
  cases r with
  | error e => exact hx pins σ H2 s2 e s' I2 hq
  | ok fl =>
    cases fl with
    | ret u => exact I2.after hq
    | next => exact False.elim hq
    | brk => exact False.elim hq
    | cont => exact False.elim hq
end K60
/-! K60Kw: calls with keywords. -/
namespace K60
open PySem PySem.Spec PyProof.Rows L2

structure ClK (P : Program) (w : World) (K : PySem.W.Frag) (mg : Str → Option Value) (base : Heap) (CX : CXT) (k : Nat) (x : Str) (ps : List Str) (sp : Sp) (n : Nat) (ks : List Str) (g : List Value → List Value → List Value) (gV : List V → List V → List V) : Prop where
  ex : ∃ (f : Addr) (fd : FuncData), FnOk P w K mg base CX k f fd ps sp ∧ mg x = some (.ref f) ∧ PySem.W.keepIn K (.ref f) = true ∧ KBn K fd ps n ks g gV
section
variable {X : Cx} {CX : CXT} {j k n : Nat} {x : Str} {ps ks : List Str} {sp : Sp} {E : XK} {e : Expr} {es : List Expr} {t tk : TA} {p pos : Pos} {kws : List Keyword} {g : List Value → List Value → List Value} {gV : List V → List V → List V}
theorem pe_clK (c : ClK X.prog X.w X.K X.mg X.base CX k x ps sp n ks g gV) (hr : Room j X.A) (hk : k ≤ j) (hx : Passes CX X E) (ha : PA X (e :: es) t) (hkw : PK X kws tk) (hg : Gl X x := by rfl)
    (hall : (backToKw pos (keywordEach kws X.env)).all (·.1.isSome) = true := by rfl) (hks : (backToKw pos (keywordEach kws X.env)).filterMap (·.1) = ks := by rfl)
    (hdb : (x == ("__debug__" : Str)) = false := by decide) (he : starEach (e :: es) X.env = (false, eval e X.env) :: starEach es X.env := by rfl)
    (hpl : ((backTo pos (starEach (e :: es) X.env)).any (·.1) || (backToKw pos (keywordEach kws X.env)).any (·.1.isNone)) = false := by rfl) :
    PE X (.Call (.Name x p) (e :: es) kws pos) (L2.tCallN n ks.length sp gV E t tk) := by
  obtain ⟨f, fd, F, hm, hkp, hb⟩ := c.ex
  exact pe_callN F (hr.mono hk) hg hm hkp hb hx ha hkw hall hks hdb he hpl
theorem pe_clK0 (c : ClK X.prog X.w X.K X.mg X.base CX k x ps sp 0 ks g gV) (hr : Room j X.A) (hk : k ≤ j) (hx : Passes CX X E) (hkw : PK X kws tk) (hg : Gl X x := by rfl)
    (hall : (backToKw pos (keywordEach kws X.env)).all (·.1.isSome) = true := by rfl) (hks : (backToKw pos (keywordEach kws X.env)).filterMap (·.1) = ks := by rfl)
    (hdb : (x == ("__debug__" : Str)) = false := by decide) (hpl : ((backTo pos (starEach [] X.env)).any (·.1) || (backToKw pos (keywordEach kws X.env)).any (·.1.isNone)) = false := by rfl) :
    PE X (.Call (.Name x p) [] kws pos) (L2.tCallN 0 ks.length sp gV E tNil tk) := by
  obtain ⟨f, fd, F, hm, hkp, hb⟩ := c.ex
  refine ⟨fun pins s σ H Q I h => ?_⟩
  refine wpAny_Call_Name_kw (ld_glob I hg hm ?_ hdb)
  refine PySem.W.callWith_KW0 (h₀ := X.base) I.ok.mod.kin hkp hall (thn (hkw.run pos pins s σ H _ I h) fun ws s2 ⟨zs, H2, I2, rz, l0, l2, q2⟩ => ⟨I2.kIn, ?_⟩) hpl
  rw [hks]
  exact run_fnN F (hr.mono hk) hb hx I2 .nil rz rfl l2 q2
end

/-! ### the calls of this text -/
def gApp {α : Type} (us ws : List α) : List α := us ++ ws
def gRev {α : Type} (us ws : List α) : List α := ws.reverse
theorem kb_all {K : PySem.W.Frag} {f : Addr} {fd : FuncData} (F : Fun K "all_fits" "all_fits" (top 15) f fd) : KBn K fd ["patch", "rows", "most"] 2 ["most"] gApp gApp := by
  obtain ⟨oc, od, kV, doc, pm, an, cdv, ct, osl, rfl, lk, hcd⟩ := F.ex
  refine ⟨fun s us ws _ l1 l2 => ?_, fun r1 r2 => r1.append r2⟩
  obtain ⟨u1, u2, rfl⟩ : ∃ u1 u2, us = [u1, u2] := by
    match us, l1 with
    | [u1, u2], _ => exact ⟨u1, u2, rfl⟩
  obtain ⟨w1, rfl⟩ : ∃ w1, ws = [w1] := by
    match ws, l2 with
    | [w1], _ => exact ⟨w1, rfl⟩
  exact .of_eq rfl

theorem kb_all0 {K : PySem.W.Frag} {f : Addr} {fd : FuncData} (F : Fun K "all_fits" "all_fits" (top 15) f fd) : KBn K fd ["patch", "rows", "most"] 0 ["most", "rows", "patch"] gRev gRev := by
  obtain ⟨oc, od, kV, doc, pm, an, cdv, ct, osl, rfl, lk, hcd⟩ := F.ex
  refine ⟨fun s us ws _ l1 l2 => ?_, fun r1 r2 => r2.reverse⟩
  obtain rfl : us = [] := List.length_eq_zero_iff.mp l1
  obtain ⟨w1, w2, w3, rfl⟩ : ∃ w1 w2 w3, ws = [w1, w2, w3] := by
    match ws, l2 with
    | [w1, w2, w3], _ => exact ⟨w1, w2, w3, rfl⟩
  exact .of_eq rfl
theorem kb_only0 {K : PySem.W.Frag} {f : Addr} {fd : FuncData} (F : Fun K "only_fit" "only_fit" (top 17) f fd) : KBn K fd ["patch", "rows"] 0 ["rows", "patch"] gRev gRev := by
  obtain ⟨oc, od, kV, doc, pm, an, cdv, ct, osl, rfl, lk, hcd⟩ := F.ex
  refine ⟨fun s us ws _ l1 l2 => ?_, fun r1 r2 => r2.reverse⟩
  obtain rfl : us = [] := List.length_eq_zero_iff.mp l1
  obtain ⟨w1, w2, rfl⟩ : ∃ w1 w2, ws = [w1, w2] := by
    match ws, l2 with
    | [w1, w2], _ => exact ⟨w1, w2, rfl⟩
  exact .of_eq rfl
theorem kb_patched0 {K : PySem.W.Frag} {f : Addr} {fd : FuncData} (F : Fun K "patched" "patched" (top 19) f fd) : KBn K fd ["patch", "rows"] 0 ["rows", "patch"] gRev gRev := by
  obtain ⟨oc, od, kV, doc, pm, an, cdv, ct, osl, rfl, lk, hcd⟩ := F.ex
  refine ⟨fun s us ws _ l1 l2 => ?_, fun r1 r2 => r2.reverse⟩
  obtain rfl : us = [] := List.length_eq_zero_iff.mp l1
  obtain ⟨w1, w2, rfl⟩ : ∃ w1 w2, ws = [w1, w2] := by
    match ws, l2 with
    | [w1, w2], _ => exact ⟨w1, w2, rfl⟩
  exact .of_eq rfl
end K60
/-! K60W0: the law's body: statements by words between them, what stays. -/
namespace K60
open PySem PySem.Spec PyProof.Rows L2 LamX

/-! ### statements -/
/-- from Pre the statement goes on with Mid; it does not return -/
def Tri (X : Cx) (st : Stmt) (Pre Mid : L2.St → Hp → Prop) : Prop := ∃ t, PS X st t ∧ ∀ (D : Ends) σ H, Pre σ H → t { D with nx := Mid } σ H
def Tris (X : Cx) (sts : List Stmt) (Pre Post : L2.St → Hp → Prop) : Prop := ∃ t, PSs X sts t ∧ ∀ (D : Ends) σ H, Pre σ H → (∀ σ' H', Post σ' H' → D.nx σ' H') → t D σ H
theorem Tris.nil {X : Cx} {Pre : L2.St → Hp → Prop} : Tris X [] Pre Pre := ⟨_, pss_nil, fun D σ H h hp => hp _ _ h⟩
theorem Tris.cons {X : Cx} {st : Stmt} {rest : List Stmt} {Pre Mid Post : L2.St → Hp → Prop} (h1 : Tri X st Pre Mid) (h2 : Tris X rest Mid Post) : Tris X (st :: rest) Pre Post := by
  obtain ⟨t, ht, h1⟩ := h1
  obtain ⟨u, hu, h2⟩ := h2
  exact ⟨_, C8.pss_cut ht hu, fun D σ H h hp => ⟨Mid, h1 D σ H h, fun σ' H' m => h2 D σ' H' m hp⟩⟩

/-! ### slots -/
def At (σ : L2.St) (i : Nat) (v : V) : Prop := σ[i]? = some (some v)
theorem At.set {σ : L2.St} {i j : Nat} {v : V} {x : Option V} (h : At σ i v) (n : j ≠ i) : At (σ.set j x) i v := by
  unfold At
  rw [List.getElem?_set_ne n]
  exact h
theorem At.new {σ : L2.St} {i n : Nat} {v : V} (hl : σ.length = n) (h : i < n) : At (σ.set i (some v)) i v := by
  unfold At
  rw [List.getElem?_set_self (by omega)]
theorem setL {σ : L2.St} {i n : Nat} {x : Option V} (h : σ.length = n) : (σ.set i x).length = n := by rw [List.length_set, h]
theorem At.wipe {σ : L2.St} {i j : Nat} {v : V} (h : At σ i v) (n : j ≠ i) : At (wipe σ [j]) i v := h.set n
theorem wipe1 {σ : L2.St} {j : Nat} {x : Option V} : wipe ((wipe σ [j]).set j x) [j] = wipe σ [j] := by
  show ((σ.set j none).set j x).set j none = σ.set j none
  rw [List.set_set, List.set_set]

/-! ### what stays: all but the box and the tables -/
def Far (b : Addr) (H H' : Hp) : Prop := ExtN (del H b) (del H' b)
section
variable {K : PySem.W.Frag} {H H' H2 : Hp} {b p : Addr} {v : V} {d : PyData} {o : HO} {T : List (Addr × Str)}
theorem Far.of (a : Aside b H H') : Far b H H' := fun c o e _ => a c o e
theorem Far.trans (a : Far b H H') (c : Far b H' H2) : Far b H H2 := ExtN.trans a c
theorem Far.refl : Far b H H := ExtN.refl _
theorem Far.ext (e : ExtN H H') : Far b H H' := fun c u h n => by
  by_cases hc : c = b
  · rw [hc, del_same] at h
    cases h
  · rw [del_ne hc] at h ⊢
    exact e c u h n
theorem Far.get (a : Far b H H') (n : p ≠ b) (h : H p = some o) (t : ∀ ps, o ≠ .tbl ps) : H' p = some o := by
  have := a p o (by rw [del_ne n]; exact h) t
  rw [del_ne n] at this
  exact this
theorem seqX {a : Addr} {xs : List V} (e : ExtN H H') (h : SqL K H a xs) : SqL K H' a xs := by
  rcases h with (h | ⟨o, h⟩) | h
  · exact .inl (.inl (e _ _ h fun ps z => by cases z))
  · exact .inl (.inr ⟨o, e _ _ h fun ps z => by cases z⟩)
  · exact .inr h
theorem seqTX {a : Addr} {xs : List V} (e : ExtN H H') (h : SqT K H a xs) : SqT K H' a xs := by
  rcases h with (h | ⟨o, h⟩) | h
  · exact .inl (.inl (e _ _ h fun ps z => by cases z))
  · exact .inl (.inr ⟨o, e _ _ h fun ps z => by cases z⟩)
  · exact .inr h
mutual
theorem dX (e : ExtN H H') : ∀ (d : PyData) (v : V), Dp K H v d → Dp K H' v d
  | .none, _, h => by cases h; exact .non
  | .bool b, _, h => by cases h; exact .bl b
  | .int i, _, h => by cases h; exact .int i
  | .str x, _, h => by cases h; exact .str x
  | .list ds, _, h => by
    cases h with
    | lst hs ha => exact .lst (seqX e hs) (dXA e ds _ ha)
  | .tuple ds, _, h => by
    cases h with
    | tup hs ha => exact .tup (seqTX e hs) (dXA e ds _ ha)
  | .dict _, _, h => by cases h
theorem dXA (e : ExtN H H') : ∀ (ds : List PyData) (vs : List V), DpAll K H vs ds → DpAll K H' vs ds
  | [], _, h => by cases h; exact .nil
  | d :: ds, _, h => by
    cases h with
    | cons h1 h2 => exact .cons (dX e d _ h1) (dXA e ds _ h2)
end
theorem DB.far (h : DB K H b v d) (a : Far b H H') : DB K H' b v d := dX a d v h
theorem Bx.ext (h : Bx H b) (e : ExtN H H') : Bx H' b := by
  obtain ⟨g, r, h1, h2⟩ := h
  exact ⟨g, r, e _ _ h1 (fun ps z => by cases z), h2⟩
theorem lst_ne_tbl {xs : List V} (ps : Array Value) : HO.lst xs ≠ .tbl ps := fun z => by cases z
theorem tup_ne_tbl {xs : List V} (ps : Array Value) : HO.tup xs ≠ .tbl ps := fun z => by cases z
/-- the tables stand where all but the box stays -/
theorem tabsAside (t : Tabs T H) (x : Bx H b) (a : Aside b H H') : Tabs T H' := fun p hp => by
  obtain ⟨ps, h1, h2, h3⟩ := t p hp
  obtain ⟨g, r, hb, _⟩ := x
  have n1 : p.1 ≠ b := fun e => by
    rw [e, hb] at h1
    cases h1
  refine ⟨ps, a.get n1 h1, h2, fun pos cv hc => ?_⟩
  obtain ⟨c, e1, e2⟩ := h3 pos cv hc
  have n2 : c ≠ b := fun e => by
    rw [e, hb] at e2
    unfold CodeO at e2
    cases e2
  exact ⟨c, e1, a.get n2 e2⟩
theorem delNone (h : H b = none) : del H b = H := by
  funext c
  by_cases hc : c = b
  · rw [hc, del_same, h]
  · rw [del_ne hc]
theorem delUpd : del (upd H b o) b = del H b := by
  funext c
  by_cases hc : c = b
  · rw [hc, del_same, del_same]
  · rw [del_ne hc, del_ne hc, upd_ne hc]
end

/-! ### the parameters of a turn -/
structure Par where
  b : Addr
  vr : V
  vp : V
  vd : V
  rs : List PyData
  hs : List H3
  vs : V
  ns : List Int
abbrev Par.due (p : Par) : List (List Nat) := fitsFrom p.rs 0 (oldsOf p.hs)
/-- the script, the box, the row, the patch, the fits -/
structure Gd (K : PySem.W.Frag) (T : List (Addr × Str)) (p : Par) (H : Hp) : Prop where
  bx : Bx H p.b
  tb : Tabs T H
  ds : DB K H p.b p.vs (.list (p.ns.map .int))
  dr : DB K H p.b p.vr (.list p.rs)
  dp : DB K H p.b p.vp (.list (p.hs.map tup3))
  dd : DB K H p.b p.vd (.tuple (p.due.map tupI))
  okp : PatchOk p.hs
  lr : p.rs.length ≤ 20
  ri : ∀ d ∈ p.rs, RowItem d
section
variable {K : PySem.W.Frag} {T : List (Addr × Str)} {p : Par} {H H' : Hp}
theorem Gd.far (g : Gd K T p H) (a : Far p.b H H') (x : Bx H' p.b) (t : Tabs T H') : Gd K T p H' := ⟨x, t, g.ds.far a, g.dr.far a, g.dp.far a, g.dd.far a, g.okp, g.lr, g.ri⟩
theorem Gd.same (g : Gd K T p H) (e : Same H H') : Gd K T p H' := g.far (Far.of (Aside.of e)) (g.bx.up e) (g.tb.ext e)
theorem Gd.aside (g : Gd K T p H) (a : Aside p.b H H') (x : Bx H' p.b) : Gd K T p H' := g.far (Far.of a) x (tabsAside g.tb g.bx a)
theorem Gd.ext (g : Gd K T p H) (e : ExtN H H') (t : Tabs T H') : Gd K T p H' := g.far (Far.ext e) (g.bx.ext e) t
theorem Gd.okR (g : Gd K T p H) : OkR p.rs := ⟨g.lr, rows_sh g.ri⟩
end
/-- the slots of a turn -/
structure Sl (p : Par) (σ : L2.St) : Prop where
  len : σ.length = 22
  a0 : At σ 0 p.vs
  a2 : At σ 2 (.ref p.b)
  a3 : At σ 3 p.vr
  a4 : At σ 4 p.vp
  a5 : At σ 5 p.vd
theorem Sl.set {p : Par} {σ : L2.St} {j : Nat} {x : Option V} (s : Sl p σ) (h : 6 ≤ j) : Sl p (σ.set j x) := ⟨setL s.len, s.a0.set (by omega), s.a2.set (by omega), s.a3.set (by omega), s.a4.set (by omega), s.a5.set (by omega)⟩

/-! ### patches and rows as they are handed over -/
theorem hk_tup3 (h : H3) : hkD (tup3 h) = some h := by
  obtain ⟨p, o, n⟩ := h
  have e : decide (0 ≤ (p : Int)) = true := decide_eq_true (Int.natCast_nonneg p)
  unfold hkD tup3
  simp only [seqD, e, Int.toNat_natCast]
def lst3 (h : H3) : PyData := .list [.int (h.1 : Int), .tuple h.2.1, .tuple h.2.2]
theorem hk_lst3 (h : H3) : hkD (lst3 h) = some h := by
  obtain ⟨p, o, n⟩ := h
  have e : decide (0 ≤ (p : Int)) = true := decide_eq_true (Int.natCast_nonneg p)
  unfold hkD lst3
  simp only [seqD, e, Int.toNat_natCast]
theorem map_hk {g : H3 → PyData} (h : ∀ x, hkD (g x) = some x) (hs : List H3) : (hs.map g).map hkD = hs.map some := by
  rw [List.map_map]
  exact List.map_congr_left fun x _ => h x
theorem pre_ok {K : PySem.W.Frag} {C : Addr} {H : Hp} {vp vr : V} {E : XK} {ok : List H3 → List PyData → Prop} {dp dr : PyData} {hs : List H3} {rs ds : List PyData} (h1 : Dp K H vp dp) (h2 : Dp K H vr dr) (e1 : seqD dp = some ds) (e2 : ds.map hkD = hs.map some) (okp : PatchOk hs)
    (e3 : seqD dr = some rs) (okr : OkR rs) (h : ok hs rs) : Pre K C H vp vr E ok := by
  have told : Told dp hs := ⟨ds, e1, e2, okp.ord⟩
  refine ⟨dp, dr, h1, h2, fun ds' e => ?_, fun hs' t => ?_, fun no => absurd told (no hs)⟩
  · rw [e1] at e
    cases e
    have := map_len e2
    have := okp.len
    omega
  · have e := told_uniq t told
    subst e
    refine ⟨okp.okHs, fun r er => ?_, fun nn => ?_⟩
    · rw [e3] at er
      cases er
      exact ⟨okr, h⟩
    · rw [e3] at nn
      cases nn
end K60
/-! K60W1: the law's turn: box, row, patch, fits. -/
namespace K60
open PySem PySem.Spec PyProof.Rows L2 LamX

abbrev N36 : List Str := ["_law_script", "_law_k", "_law_box_here", "_law_row_here", "_law_patch_here", "_law_due", "_law_many", "_law_least", "_law_heard_here", "_law_places", "_law_answer", "_law_values", "_law_value", "_law_right", "_law_plain", "_law_bad", "_law_odd", "_law_asks", "_law_ask", "_law_at", "_law_hunk", "_law_one"]
theorem nd36 : (N36).Nodup := by decide +kernel
def loopBody : List Stmt := match defBody (top 36) with
  | .For _ _ b _ _ :: _ => b
  | _ => []
def lst (i : Nat) : Stmt := loopBody.getD i (.Pass ⟨0, 0, 0, 0⟩)
/-- where the law runs -/
abbrev lawX (P : Program) (w : World) (K : PySem.W.Frag) (mg : Str → Option Value) (base : Heap) (f : Addr) (cdv : Value) (A : Around) (outer : List Env) (s : Shared) (H : Hp) (E : XK) : Cx := (cxOf CX0 P w K mg base N36 "law" (defScope (top 36)) f cdv A outer s H E).nox

/-- the helpers -/
structure Hlp (P : Program) (w : World) (K : PySem.W.Frag) (mg : Str → Option Value) (base : Heap) : Prop where
  nm : Nm mg
  box : Cl P w K mg base CX0 1 "_law_box" ["_law_script", "_law_k"] (spBox K)
  take : Cl P w K mg base CX0 1 "_law_take" ["_law_box_here", "_law_many"] spTake
  pick : Cl P w K mg base CX0 2 "_law_pick" ["_law_box_here", "_law_some"] spPick
  row : Cl P w K mg base CX0 3 "_law_row" ["_law_box_here", "_law_most", "_law_letters"] (spRow K)
  patch : Cl P w K mg base CX0 4 "_law_patch" ["_law_box_here", "_law_row_here"] (spPatch K)
  fits : Cl P w K mg base CX0 1 "_law_fits" ["_law_patch_here", "_law_row_here"] (spLF K)
  put : Cl P w K mg base CX0 1 "_law_put" ["_law_patch_here", "_law_row_here", "_law_places"] (spPut K)

/-- a row's list, of one's own -/
def RowL (K : PySem.W.Frag) (H : Hp) (b : Addr) (v : V) (rs : List PyData) : Prop := ∃ l xs, v = .ref l ∧ l ≠ b ∧ H l = some (.lst xs) ∧ DpAll K H xs rs ∧ ∀ d ∈ rs, RowItem d
section
variable {K : PySem.W.Frag} {H H' : Hp} {b : Addr} {v : V} {rs : List PyData}
theorem RowL.aside (r : RowL K H b v rs) (x : Bx H b) (a : Aside b H H') : RowL K H' b v rs := by
  obtain ⟨l, xs, rfl, n, h, hd, hr⟩ := r
  exact ⟨l, xs, rfl, n, a.get n h, daUndel (DmA (dNA (sameN_del x) _ _ (rows_nl hr) hd) a), hr⟩
theorem RowL.db (r : RowL K H b v rs) (x : Bx H b) : DB K H b v (.list rs) := by
  obtain ⟨l, xs, rfl, n, h, hd, hr⟩ := r
  exact .lst h n hd (rows_nl hr) x
end
structure S0 (K : PySem.W.Frag) (T : List (Addr × Str)) (v : V) (ns : List Int) (σ : L2.St) (H : Hp) : Prop where
  len : σ.length = 22
  a0 : At σ 0 v
  a1 : ∃ k : Nat, At σ 1 (.int (k : Int))
  tb : Tabs T H
  ds : Dp K H v (.list (ns.map .int))
structure S1 (K : PySem.W.Frag) (T : List (Addr × Str)) (v : V) (ns : List Int) (b : Addr) (σ : L2.St) (H : Hp) : Prop where
  len : σ.length = 22
  a0 : At σ 0 v
  a2 : At σ 2 (.ref b)
  bx : Bx H b
  tb : Tabs T H
  ds : DB K H b v (.list (ns.map .int))
theorem S1.aside {K : PySem.W.Frag} {T : List (Addr × Str)} {v : V} {ns : List Int} {b : Addr} {σ : L2.St} {H H' : Hp} (s : S1 K T v ns b σ H) (a : Aside b H H') (x : Bx H' b) : S1 K T v ns b σ H' := ⟨s.len, s.a0, s.a2, x, tabsAside s.tb s.bx a, s.ds.up a⟩
theorem S1.set {K : PySem.W.Frag} {T : List (Addr × Str)} {v : V} {ns : List Int} {b : Addr} {σ : L2.St} {H : Hp} {i : Nat} {x : Option V} (s : S1 K T v ns b σ H) (h : 3 ≤ i) : S1 K T v ns b (σ.set i x) H := ⟨setL s.len, s.a0.set (by omega), s.a2.set (by omega), s.bx, s.tb, s.ds⟩
section
variable {P : Program} {w : World} {K : PySem.W.Frag} {mg : Str → Option Value} {base : Heap} {f : Addr} {cdv : Value} {A : Around} {outer : List Env} {s : Shared} {H0 : Hp} {E : XK} {T : List (Addr × Str)} {v : V} {ns : List Int}

theorem st0 (h : Hlp P w K mg base) (hr : Room 8 (A.deeper (envOfC "law" (defScope (top 36)) s.heap.objs.size f cdv))) : Tri (lawX P w K mg base f cdv A outer s H0 E) (lst 0) (S0 K T v ns) (fun σ H => ∃ b, S1 K T v ns b σ H) := by
  refine ⟨_, ps_set (i := 2) nd36 rfl (Or.inl rfl) (pe_cl h.box hr (by decide) pass0 (pa_cons (pv 0) (pa_cons (pv 1) pa_nil))), fun D σ H p => ?_⟩
  obtain ⟨len, a0, ⟨k, a1⟩, tb, ds⟩ := p
  refine ⟨v, a0, _, a1, v, ns, k, rfl, ds, fun l g r hl hok => ⟨l, setL len, a0.set (by decide), At.new len (by decide), ⟨g, r, upd_same, hok⟩, tb.ext (Same.nw hl), ?_⟩⟩
  unfold DB
  rw [delUpd, delNone hl]
  exact ds
theorem st1 (h : Hlp P w K mg base) (hr : Room 8 (A.deeper (envOfC "law" (defScope (top 36)) s.heap.objs.size f cdv))) : Tri (lawX P w K mg base f cdv A outer s H0 E) (lst 1) (fun σ H => ∃ b, S1 K T v ns b σ H)
    (fun σ H => ∃ b vr rs, S1 K T v ns b σ H ∧ At σ 3 vr ∧ RowL K H b vr rs ∧ rs.length ≤ 14) := by
  refine ⟨_, ps_set (i := 3) nd36 rfl (Or.inr rfl) (pe_cl h.row hr (by decide) pass0 (pa_cons (pv 2) (pa_cons (pe_cl h.pick hr (by decide) pass0 (pa_cons (pv 2) (pa_cons (pe_lst (pa_cons pe_int (pa_cons pe_int (pa_cons pe_int pa_nil)))) pa_nil)))
      (pa_cons (pe_add pe_int (pe_cl h.take hr (by decide) pass0 (pa_cons (pv 2) (pa_cons pe_int pa_nil)))) pa_nil)))), fun D σ H p => ?_⟩
  obtain ⟨b, p⟩ := p
  refine ⟨_, p.a2, _, p.a2, by show 3 ≤ sizeLine; decide, fun l hl => ?_⟩
  have nl := p.bx.ne hl
  refine ⟨b, l, _, rfl, p.bx.upd nl, upd_same, nl, (by show 0 < 3; decide), (by show 3 < 1000000; decide), fun m H1 hm a1 b1 => ?_⟩
  have a01 : Aside b H H1 := (Aside.new p.bx hl).trans a1
  obtain ⟨n, hn, rfl⟩ : ∃ n : Nat, n ≤ 14 ∧ m = .int (n : Int) := by
    have hm : m ∈ [V.int 4, V.int 9, V.int 14] := hm
    rcases List.mem_cons.mp hm with e | hm
    · exact ⟨4, by decide, e⟩
    · rcases List.mem_cons.mp hm with e | hm
      · exact ⟨9, by decide, e⟩
      · exact ⟨14, by decide, List.mem_singleton.mp hm⟩
  refine ⟨_, p.a2, b, 4, rfl, b1, by decide, by decide, fun d H2 d0 d1 a2 b2 => ⟨_, _, rfl, rfl, b, (n : Int), 1 + d, n, rfl, b2, rfl, by omega, by omega, by omega, fun lr xs ds H3 hlr a3 b3 hx hda hdl hri => ?_⟩⟩
  have a03 := (a01.trans a2).trans a3
  exact ⟨b, .ref lr, ds, (p.aside a03 b3).set (by decide), At.new p.len (by decide), ⟨lr, xs, rfl, b2.ne hlr, hx, hda, hri⟩, by omega⟩
theorem st2 (h : Hlp P w K mg base) (hr : Room 8 (A.deeper (envOfC "law" (defScope (top 36)) s.heap.objs.size f cdv))) : Tri (lawX P w K mg base f cdv A outer s H0 E) (lst 2) (fun σ H => ∃ b vr rs, S1 K T v ns b σ H ∧ At σ 3 vr ∧ RowL K H b vr rs ∧ rs.length ≤ 14)
    (fun σ H => ∃ b vr rs vp hs, S1 K T v ns b σ H ∧ At σ 3 vr ∧ RowL K H b vr rs ∧ rs.length ≤ 14 ∧ At σ 4 vp ∧ DB K H b vp (.list (hs.map tup3)) ∧ PatchOk hs) := by
  refine ⟨_, ps_set (i := 4) nd36 rfl (Or.inr rfl) (pe_cl h.patch hr (by decide) pass0 (pa_cons (pv 2) (pa_cons (pv 3) pa_nil))), fun D σ H p => ?_⟩
  obtain ⟨b, vr, rs, p, a3, hrow, hl⟩ := p
  refine ⟨_, p.a2, _, a3, b, vr, rs, rfl, p.bx, hrow.db p.bx, ?_, fun l xs hs H1 hl1 a1 b1 hx hda hok => ?_⟩
  · obtain ⟨_, _, _, _, _, _, hri⟩ := hrow
    exact hri
  · exact ⟨b, vr, rs, .ref l, hs, (p.aside a1 b1).set (by decide), a3.set (by decide), hrow.aside p.bx a1, hl, At.new p.len (by decide), .lst hx (p.bx.ne hl1) hda hok.nlt b1, hok⟩
theorem st3 (h : Hlp P w K mg base) (hr : Room 8 (A.deeper (envOfC "law" (defScope (top 36)) s.heap.objs.size f cdv))) : Tri (lawX P w K mg base f cdv A outer s H0 E) (lst 3) (fun σ H => ∃ b vr rs vp hs, S1 K T v ns b σ H ∧ At σ 3 vr ∧ RowL K H b vr rs ∧ rs.length ≤ 14 ∧ At σ 4 vp ∧ DB K H b vp (.list (hs.map tup3)) ∧ PatchOk hs)
    (fun σ H => ∃ b vr rs vp hs, S1 K T v ns b σ H ∧ At σ 3 vr ∧ RowL K H b vr rs ∧ rs.length ≤ 20 ∧ At σ 4 vp ∧ DB K H b vp (.list (hs.map tup3)) ∧ PatchOk hs) := by
  refine ⟨_, ps_set (i := 3) nd36 rfl (Or.inr rfl) (pe_op op_cat (pe_op op_cat (pe_cl h.row hr (by decide) pass0 (pa_cons (pv 2) (pa_cons (pe_cl h.pick hr (by decide) pass0 (pa_cons (pv 2) (pa_cons (pe_lst (pa_cons pe_int (pa_cons pe_int (pa_cons pe_int pa_nil)))) pa_nil))) (pa_cons pe_int pa_nil)))) (pv 3))
      (pe_cl h.row hr (by decide) pass0 (pa_cons (pv 2) (pa_cons (pe_cl h.pick hr (by decide) pass0 (pa_cons (pv 2) (pa_cons (pe_lst (pa_cons pe_int (pa_cons pe_int pa_nil))) pa_nil))) (pa_cons pe_int pa_nil))))), fun D σ H p => ?_⟩
  obtain ⟨b, vr, rs, vp, hs, p, a3, hrow, hl14, a4, hdp, hok⟩ := p
  have hsl : (10000 : Nat) ≤ sizeLine := by rw [sizeLine_eq]; decide
  refine ⟨_, p.a2, _, p.a2, by show 3 ≤ sizeLine; decide, fun l hl => ?_⟩
  have nl := p.bx.ne hl
  refine ⟨b, l, _, rfl, p.bx.upd nl, upd_same, nl, (by show 0 < 3; decide), (by show 3 < 1000000; decide), fun m H1 hm a1 b1 => ?_⟩
  have a01 : Aside b H H1 := (Aside.new p.bx hl).trans a1
  obtain ⟨n, hn, rfl⟩ : ∃ n : Nat, n ≤ 4 ∧ m = .int (n : Int) := by
    have hm : m ∈ [V.int 0, V.int 2, V.int 4] := hm
    rcases List.mem_cons.mp hm with e | hm
    · exact ⟨0, by decide, e⟩
    · rcases List.mem_cons.mp hm with e | hm
      · exact ⟨2, by decide, e⟩
      · exact ⟨4, by decide, List.mem_singleton.mp hm⟩
  refine ⟨b, (n : Int), 3, n, rfl, b1, rfl, by omega, by decide, by decide, fun lr xs ds H2 hlr a2 b2 hx hda hdl hri => ?_⟩
  have a02 := a01.trans a2
  have row1 : RowL K H2 b (.ref lr) ds := ⟨lr, xs, rfl, b1.ne hlr, hx, hda, hri⟩
  obtain ⟨l0, xs0, rfl, n0, h0, hda0, hri0⟩ := hrow.aside p.bx a02
  have e1 := daLen hda
  have e0 := daLen hda0
  refine ⟨_, a3, lr, l0, xs, xs0, rfl, rfl, hx, h0, by omega, fun l2 hl2 => ?_⟩
  have n2 := b2.ne hl2
  have s23 := Same.nw (o := .lst (xs ++ xs0)) hl2
  have b3 := b2.up s23
  have row2 : RowL K (upd H2 l2 (.lst (xs ++ xs0))) b (.ref l2) (ds ++ rs) := ⟨l2, _, rfl, n2, upd_same, DmA (daApp hda hda0) s23, fun d hd => (List.mem_append.mp hd).elim (hri d) (hri0 d)⟩
  refine ⟨_, p.a2, _, p.a2, by show 2 ≤ sizeLine; decide, fun l4 hl4 => ?_⟩
  have n4 := b3.ne hl4
  refine ⟨b, l4, _, rfl, b3.upd n4, upd_same, n4, (by show 0 < 2; decide), (by show 2 < 1000000; decide), fun m H5 hm a5 b5 => ?_⟩
  obtain ⟨n', hn', rfl⟩ : ∃ n : Nat, n ≤ 2 ∧ m = .int (n : Int) := by
    have hm : m ∈ [V.int 0, V.int 2] := hm
    rcases List.mem_cons.mp hm with e | hm
    · exact ⟨0, by decide, e⟩
    · exact ⟨2, by decide, List.mem_singleton.mp hm⟩
  have a35 := (Aside.new (o := .lst [V.int 0, V.int 2]) b3 hl4).trans a5
  refine ⟨b, (n' : Int), 3, n', rfl, b5, rfl, by omega, by decide, by decide, fun lq xq dq H6 hlq a6 b6 hxq hdaq hdlq hriq => ?_⟩
  have a36 := a35.trans a6
  obtain ⟨l2', xs2, e2, n2', h2, hda2, hri2⟩ := row2.aside b3 a36
  cases e2
  have e2 := daLen hda2
  have eq := daLen hdaq
  rw [List.length_append] at e2
  refine ⟨l2, lq, xs2, xq, rfl, rfl, h2, hxq, by omega, fun l7 hl7 => ?_⟩
  have n7 := b6.ne hl7
  have s67 := Same.nw (o := .lst (xs2 ++ xq)) hl7
  have a07 : Aside b H (upd H6 l7 (.lst (xs2 ++ xq))) := (a02.trans (Aside.of s23)).trans (a36.trans (Aside.of s67))
  have b7 := b6.up s67
  refine ⟨b, .ref l7, (ds ++ rs) ++ dq, vp, hs, (p.aside a07 b7).set (by decide), At.new p.len (by decide), ⟨l7, _, rfl, n7, upd_same, DmA (daApp hda2 hdaq) s67, fun d hd => (List.mem_append.mp hd).elim (hri2 d) (hriq d)⟩, ?_, a4.set (by decide), hdp.up a07, hok⟩
  rw [List.length_append, List.length_append]
  omega
/-- from here on all is told by p -/
def S5 (K : PySem.W.Frag) (T : List (Addr × Str)) (v : V) (ns : List Int) (p : Par) (σ : L2.St) (H : Hp) : Prop := p.vs = v ∧ p.ns = ns ∧ Gd K T p H ∧ Sl p σ
theorem st4 (h : Hlp P w K mg base) (hr : Room 8 (A.deeper (envOfC "law" (defScope (top 36)) s.heap.objs.size f cdv))) : Tri (lawX P w K mg base f cdv A outer s H0 E) (lst 4) (fun σ H => ∃ b vr rs vp hs, S1 K T v ns b σ H ∧ At σ 3 vr ∧ RowL K H b vr rs ∧ rs.length ≤ 20 ∧ At σ 4 vp ∧ DB K H b vp (.list (hs.map tup3)) ∧ PatchOk hs)
    (fun σ H => ∃ p, S5 K T v ns p σ H) := by
  refine ⟨_, ps_set (i := 5) nd36 rfl (Or.inl rfl) (pe_cl h.fits hr (by decide) pass0 (pa_cons (pv 4) (pa_cons (pv 3) pa_nil))), fun D σ H p => ?_⟩
  obtain ⟨b, vr, rs, vp, hs, p, a3, hrow, hl20, a4, hdp, hok⟩ := p
  have hri : ∀ d ∈ rs, RowItem d := by
    obtain ⟨_, _, _, _, _, _, hri⟩ := hrow
    exact hri
  have hdr := hrow.db p.bx
  refine ⟨_, a4, _, a3, vp, vr, rs, hs, rfl, hdp.dp, hdr.dp, hok.okHs, ⟨hl20, rows_sh hri⟩, fun vd H1 s1 hvd => ?_⟩
  have b1 := p.bx.up s1
  have a1 := Aside.of (b := b) s1
  have nldue : nl (.tuple ((fitsFrom rs 0 (oldsOf hs)).map tupI)) = true := by
    rw [nl_tuple]
    refine nlA_iff.mpr fun d hd => ?_
    obtain ⟨q, _, rfl⟩ := List.mem_map.mp hd
    exact tupI_nl q
  refine ⟨⟨b, vr, vp, vd, rs, hs, v, ns⟩, rfl, rfl, ⟨b1, p.tb.ext s1, p.ds.up a1, hdr.up a1, hdp.up a1, .of hvd nldue b1, hok, hl20, hri⟩, ⟨setL p.len, p.a0.set (by decide), p.a2.set (by decide), a3.set (by decide), a4.set (by decide), At.new p.len (by decide)⟩⟩
end
end K60
/-! K60W2: how many fit; all_fits by keywords. -/
namespace K60
open PySem PySem.Spec PyProof.Rows L2 LamX

/-- the text's own functions -/
structure Fns (P : Program) (w : World) (K : PySem.W.Frag) (mg : Str → Option Value) (base : Heap) (CR CT CK : Addr) : Prop where
  all : ClK P w K mg base (L2.CX P w) 5 "all_fits" ["patch", "rows", "most"] (spAF K CR CT) 2 ["most"] gApp gApp
  all0 : ClK P w K mg base (L2.CX P w) 5 "all_fits" ["patch", "rows", "most"] (spAF K CR CT) 0 ["most", "rows", "patch"] gRev gRev
  only : Cl P w K mg base (L2.CX P w) 5 "only_fit" ["patch", "rows"] (spOnly K CR)
  only0 : ClK P w K mg base (L2.CX P w) 5 "only_fit" ["patch", "rows"] (spOnly K CR) 0 ["rows", "patch"] gRev gRev
  pd : Cl P w K mg base (L2.CX P w) 6 "patched" ["patch", "rows"] (spPD K CR)
  pd0 : ClK P w K mg base (L2.CX P w) 6 "patched" ["patch", "rows"] (spPD K CR) 0 ["rows", "patch"] gRev gRev
  pa : Cl P w K mg base (L2.CX P w) 5 "patched_at" ["patch", "rows", "places"] (spPA K CR)
  ef : ErrF K mg CT CR CK

/-! ### plain -/
abbrev cnt (p : Par) (i : Nat) : Nat := (fitsB p.rs ((oldsOf p.hs).take i)).length
structure Many (p : Par) (m : Nat) : Prop where
  le : ∀ i, i ≤ p.hs.length → cnt p i ≤ m
  ex : ∃ i, i ≤ p.hs.length ∧ cnt p i = m
theorem cnt0 (p : Par) : cnt p 0 = 1 := rfl
theorem Many.one {p : Par} {m : Nat} (h : Many p m) : 1 ≤ m := by
  have := h.le 0 (Nat.zero_le _)
  rw [cnt0] at this
  exact this
theorem fits_cnt (r : List PyData) (olds : List (List PyData)) : (fitsFrom r 0 olds).length = (fitsB r olds).length := by rw [← fitsB_fst, List.length_map]
theorem cnt_small {p : Par} {m : Nat} (hr : p.rs.length ≤ 20) (hh : p.hs.length ≤ 3) {i : Nat} : cnt p i ≤ 9261 := fitsB_small hr (by rw [List.length_take, List.length_map]; omega)
theorem sw_tupI {pl : List Nat} (h : ∀ q ∈ pl, q ≤ 1000000) (hl : pl.length ≤ 3) : Sw 1 3 (tupI pl) := by
  have h1 : Sw 1 ((pl.map pI).length * (0 + 1)) (.tuple (pl.map pI)) := Sw.tuple fun d hd => by
    obtain ⟨q, hq, rfl⟩ := List.mem_map.mp hd
    have := h q hq
    exact Sw.int (by omega) (by omega)
  exact h1.mono (Nat.le_refl _) (by rw [List.length_map]; omega)
theorem sw_fits {r : List PyData} {olds : List (List PyData)} (hr : r.length ≤ 20) (ho : olds.length ≤ 3) : ∀ pl ∈ fitsFrom r 0 olds, Sw 1 3 (tupI pl) := fun pl hm => by
  have hf := mem_fitsFrom.mp hm
  exact sw_tupI (fun q hq => by have := hf.le q hq; omega) (by rw [hf.length]; exact ho)
theorem sw_due {r : List PyData} {olds : List (List PyData)} (hr : r.length ≤ 20) (ho : olds.length ≤ 3) : Sw 2 40000 (.tuple ((fitsFrom r 0 olds).map tupI)) := by
  have h1 : Sw 2 (((fitsFrom r 0 olds).map tupI).length * (3 + 1)) (.tuple ((fitsFrom r 0 olds).map tupI)) := Sw.tuple fun d hd => by
    obtain ⟨q, hq, rfl⟩ := List.mem_map.mp hd
    exact sw_fits hr ho q hq
  refine h1.mono (Nat.le_refl _) ?_
  rw [List.length_map, fits_cnt]
  have := fitsB_small hr ho
  omega
theorem sw_two {k m : Nat} {d e : PyData} (h1 : Sw k m d) (h2 : Sw k m e) : Sw (k + 1) (2 * (m + 1)) (.list [d, e]) := Sw.list fun x hx => by
  rcases List.mem_cons.mp hx with e1 | hx
  · rw [e1]
    exact h1
  · rw [List.mem_singleton.mp hx]
    exact h2
theorem PatchOk.take {hs : List H3} (p : PatchOk hs) (i : Nat) : OkHs (hs.take i) := ⟨by rw [List.length_take]; have := p.len; omega, fun h hh => p.okHs.each h (List.mem_of_mem_take hh)⟩
theorem ints_of {K : PySem.W.Frag} {H : Hp} : ∀ {acc : List V} {is : List Int}, DpAll K H acc (is.map .int) → acc = is.map V.int
  | _, [], h => by cases h; rfl
  | _, i :: is, h => by
    cases h with
    | cons h1 h2 =>
      rw [dInv_int h1, ints_of h2]
      rfl
theorem range_some {α : Type} (g : Nat → α) : ∀ n : Nat, (List.range n).filterMap (fun i => some (g i)) = (List.range n).map g := fun n => by
  rw [← List.filterMap_eq_map]
  rfl

section
variable {P : Program} {w : World} {K : PySem.W.Frag} {mg : Str → Option Value} {base : Heap} {f : Addr} {cdv : Value} {A : Around} {outer : List Env} {s : Shared} {H0 : Hp} {E : XK} {T : List (Addr × Str)} {v : V} {ns : List Int} {CR CT CK : Addr}
def S6 (K : PySem.W.Frag) (T : List (Addr × Str)) (v : V) (ns : List Int) (σ : L2.St) (H : Hp) : Prop := ∃ p m, S5 K T v ns p σ H ∧ Many p m ∧ At σ 6 (.int (m : Int))
theorem st5 (h : Hlp P w K mg base) (hr : Room 8 (A.deeper (envOfC "law" (defScope (top 36)) s.heap.objs.size f cdv))) : Tri (lawX P w K mg base f cdv A outer s H0 E) (lst 5) (fun σ H => ∃ p, S5 K T v ns p σ H) (S6 K T v ns) := by
  refine ⟨_, ps_set (i := 6) nd36 rfl (Or.inl rfl) (pe_callB (cr_max rfl) rfl h.nm.max (by decide +kernel) (pa_cons (pe_lc (own := [("_law_at", 19)]) (g := gName 19) (tt := tYes) rfl nd36 (pi_range1 rfl h.nm.range (pa_cons (pe_add (pe_callB (id := "len") (lenK K) rfl h.nm.len (by decide +kernel) (pa_cons (pv 4) pa_nil)) pe_int) pa_nil))
      (blkOk_by (N := N36) (sc := defScope (top 36)) (by decide +kernel)) (fun _ _ _ _ _ => pg_name (i := 19) nd36 rfl (Or.inl rfl)) (fun _ _ _ _ _ => pts_nil)
      (fun _ _ _ _ _ => pe_callB (id := "len") (lenK K) rfl h.nm.len (by decide +kernel) (pa_cons (pe_cl h.fits hr (by decide) pass0 (pa_cons (pe_slice (slK K) (pv 4) po_none (po_some (pv 19))) (pa_cons (pv 3) pa_nil))) pa_nil))) pa_nil)), fun D σ H p => ?_⟩
  obtain ⟨p, e1, e2, gd, sl⟩ := p
  have hsl : (10000 : Nat) ≤ sizeLine := by rw [sizeLine_eq]; decide
  have hlen := gd.okp.len
  have lm : (p.hs.map tup3).length = p.hs.length := List.length_map _
  have en : (((p.hs.map tup3).length : Int) + 1).toNat = p.hs.length + 1 := by rw [lm]; omega
  refine ⟨p.vp, sl.a4, p.vp, _, _, rfl, gd.dp.dp, rfl, _, _, rfl, rfl, _, rfl, by rw [lm]; omega, by rw [lm]; omega, fun L hL => ?_⟩
  refine lc_data (K := K) (fun i => some (.int ((fitsFrom p.rs 0 (oldsOf (p.hs.take i))).length : Int))) walk_range (by rw [en]; omega) hL (fun i e hi he => by cases he; rfl) (fun _ _ => trivial) (fun i x H2 H2' Ky Kn hi s2 y ky kn => ?_) (fun H2 acc s2 hacc hda => ?_)
  · obtain ⟨rfl, rfl⟩ := y
    have ei : (0 : Int) + (i : Int) = ((i : Nat) : Int) := by omega
    refine ⟨wipe1, p.vp, (sl.a4.wipe (by decide)).set (by decide), _, At.new (n := 22) (setL sl.len) (by decide), _, rfl, _, _, Dm gd.dp.dp s2, rfl, fun v3 H3 s3 hv3 => ?_⟩
    have ecut : cutL (p.hs.map tup3) none (some ((0 : Int) + (i : Int))) = (p.hs.take i).map tup3 := by rw [ei, cutL_to, List.map_take]
    rw [ecut] at hv3
    refine ⟨p.vr, (sl.a3.wipe (by decide)).set (by decide), v3, p.vr, p.rs, p.hs.take i, rfl, hv3, Dm gd.dr.dp (sameT s2 s3), gd.okp.take i, gd.okR, fun v4 H4 s4 hv4 => ?_⟩
    refine ⟨v4, _, _, rfl, hv4, rfl, ky _ rfl _ _ (sameT s3 s4) ?_⟩
    rw [List.length_map]
    exact .int _
  · rw [en, range_some (fun i : Nat => PyData.int ((fitsFrom p.rs 0 (oldsOf (p.hs.take i))).length : Int))] at hda
    have hacc2 : acc = ((List.range (p.hs.length + 1)).map fun i => ((cnt p i : Nat) : Int)).map V.int := by
      refine ints_of (K := K) (H := H2) ?_
      rw [List.map_map]
      have e : (List.range (p.hs.length + 1)).map (PyData.int ∘ fun i => ((cnt p i : Nat) : Int)) = (List.range (p.hs.length + 1)).map (fun i : Nat => PyData.int ((fitsFrom p.rs 0 (oldsOf (p.hs.take i))).length : Int)) := by
        refine List.map_congr_left fun i _ => ?_
        show PyData.int ((cnt p i : Nat) : Int) = _
        rw [fits_cnt]
        show PyData.int ((fitsB p.rs ((oldsOf p.hs).take i)).length : Int) = PyData.int ((fitsB p.rs (oldsOf (p.hs.take i))).length : Int)
        rw [← List.map_take]
      rw [e]
      exact hda
    rw [hacc2] at hacc
    refine ⟨L, _, rfl, SqL.of hacc, by rw [List.length_map, List.length_range]; omega, fun m hm hmax => ?_⟩
    obtain ⟨i, hi, rfl⟩ := List.mem_map.mp hm
    have hi := List.mem_range.mp hi
    refine ⟨p, cnt p i, ⟨e1, e2, gd.same s2, sl.set (by decide)⟩, ⟨fun j hj => ?_, i, by omega, rfl⟩, At.new sl.len (by decide)⟩
    have := hmax _ (List.mem_map.mpr ⟨j, List.mem_range.mpr (by omega), rfl⟩)
    omega
/-- a statement that is skipped, the test read by words -/
theorem st6 (h : Hlp P w K mg base) (n : Fns P w K mg base CR CT CK) (hgu : A.guards = some []) (hr : Room 8 (A.deeper (envOfC "law" (defScope (top 36)) s.heap.objs.size f cdv))) : Tri (lawX P w K mg base f cdv A outer s H0 E) (lst 6) (S6 K T v ns) (S6 K T v ns) := by
  refine ⟨_, ps_if (pt_cmpR op_ne (pe_callB (call_reprD hgu (u65 hr)) rfl h.nm.repr (by decide +kernel) (pa_cons (pe_lst (pa_cons (pe_clK (E := E0) n.all hr (by decide) (passes_call L2.takes0 fun _ _ _ _ h => h) (pa_cons (pv 4) (pa_cons (pv 3) pa_nil)) (pk_cons (pv 6) pk_nil))
      (pa_cons (pe_clK0 (E := E0) n.all0 hr (by decide) (passes_call L2.takes0 fun _ _ _ _ h => h) (pk_cons pe_int (pk_cons (pe_callTy (T := "tuple") (tupK K) rfl h.nm.tuple (by decide +kernel) (pa_cons (pv 3) pa_nil)) (pk_cons (pe_callTy (T := "tuple") (tupK K) rfl h.nm.tuple (by decide +kernel) (pa_cons (pv 4) pa_nil)) pk_nil)))) pa_nil))) pa_nil))
      (pe_callB (call_reprD hgu (u65 hr)) rfl h.nm.repr (by decide +kernel) (pa_cons (pe_lst (pa_cons (pv 5) (pa_cons (pv 5) pa_nil))) pa_nil)) (nomark _)) (pss_one (ps_ret pe_bl)) pss_nil, fun D σ H q => ?_⟩
  obtain ⟨p, m, ⟨e1, e2, gd, sl⟩, hm, a6⟩ := q
  have hlen := gd.okp.len
  have hsw := sw_due (r := p.rs) (olds := oldsOf p.hs) gd.lr (by rw [List.length_map]; exact hlen)
  have hsw2 := (sw_two hsw hsw).mono (show 3 ≤ 60 by decide) (show 2 * (40000 + 1) ≤ 1000000 by decide)
  refine ⟨_, sl.a4, _, sl.a3, _, a6, rfl, rfl, p.vp, p.vr, m, rfl, hm.one, pre_ok gd.dp.dp gd.dr.dp rfl (map_hk hk_tup3 _) gd.okp rfl gd.okR ⟨fun _ v1 H1 s1 hv1 => ?_, fun i hi hlt => ?_⟩⟩
  · have g1 := gd.same s1
    refine ⟨_, sl.a3, p.vr, _, _, rfl, g1.dr.dp, rfl, fun vr2 H2 s2 hvr2 => ?_⟩
    have g2 := g1.same s2
    refine ⟨_, sl.a4, p.vp, _, _, rfl, g2.dp.dp, rfl, fun vp2 H3 s3 hvp2 => ?_⟩
    have g3 := g2.same s3
    refine ⟨rfl, rfl, vp2, vr2, 9999, rfl, by decide, pre_ok hvp2 (Dm hvr2 s3) rfl (map_hk hk_tup3 _) gd.okp rfl gd.okR ⟨fun _ v4 H4 s4 hv4 => ?_, fun i hi hlt => ?_⟩⟩
    · have s14 := sameT s2 (sameT s3 s4)
      have g4 := g3.same s4
      refine ⟨by show 2 ≤ sizeLine; decide, fun L hL => ?_⟩
      have sL := Same.nw (o := .lst [v1, v4]) hL
      refine ⟨.ref L, .list [.tuple (p.due.map tupI), .tuple (p.due.map tupI)], rfl, dLst upd_same (.cons (Dm hv1 (sameT s14 sL)) (.cons (Dm hv4 sL) .nil)), hsw2, ?_⟩
      have g5 := g4.same sL
      refine ⟨_, sl.a5, _, sl.a5, by show 2 ≤ sizeLine; decide, fun L2 hL2 => ?_⟩
      have sL2 := Same.nw (o := .lst [p.vd, p.vd]) hL2
      have g6 := g5.same sL2
      refine ⟨.ref L2, .list [.tuple (p.due.map tupI), .tuple (p.due.map tupI)], rfl, dLst upd_same (.cons g6.dd.dp (.cons g6.dd.dp .nil)), hsw2, ?_⟩
      exact ⟨rfl, _, rfl, ifF (by simp) ⟨p, m, ⟨e1, e2, g6, sl⟩, hm, a6⟩⟩
    · have := cnt_small (p := p) (m := m) gd.lr hlen (i := i)
      exact absurd hlt (Nat.not_lt.mpr (Nat.le_trans this (by decide)))
  · exact absurd hlt (Nat.not_lt.mpr (hm.le i hi))
end
end K60
/-! K60So: what is shown is text that may be laid; equality of told things. -/
namespace K60
open PySem PySem.Spec PyProof.Rows L2 LamX

/-! ### strOk of what is shown -/
theorem so_app {a b : Str} (h1 : PyData.strOk a = true) (h2 : PyData.strOk b = true) : PyData.strOk (a ++ b) = true := by
  unfold PyData.strOk at *
  show (a.cps ++ b.cps).all _ = true
  rw [Array.all_append, h1, h2]
  rfl
theorem so_of (s : String) : PyData.strOk (Str.ofString s) = true := by
  rw [Str.ofString_eq_toList]
  unfold PyData.strOk
  simp only [List.all_toArray, List.all_map, List.all_eq_true]
  intro c _
  have h := c.valid
  show decide (c.toNat < 0x110000) = true
  refine decide_eq_true ?_
  have h2 : c.val.toNat < 0xd800 ∨ (0xdfff < c.val.toNat ∧ c.val.toNat < 0x110000) := h
  show c.val.toNat < 0x110000
  omega
theorem so_from : ∀ (ts : List Str) (k : Nat) (acc : Str), PyData.strOk acc = true → (∀ t ∈ ts, PyData.strOk t = true) → PyData.strOk (textFrom k acc ts) = true
  | [], _, _, h, _ => h
  | t :: ts, k, acc, h, ht => so_from ts (k + 1) _ (so_app (so_app h (so_of _)) (ht t List.mem_cons_self)) fun x hx => ht x (List.mem_cons_of_mem _ hx)
theorem so_join : ∀ ts : List Str, (∀ t ∈ ts, PyData.strOk t = true) → PyData.strOk (Str.join ", " ts) = true
  | [], _ => by decide +kernel
  | [x], h => h x List.mem_cons_self
  | x :: y :: r, h => so_app (so_app (h x List.mem_cons_self) (so_of _)) (so_join (y :: r) fun t ht => h t (List.mem_cons_of_mem _ ht))
def SO (d : PyData) : Prop := PyData.strOk d.shown = true
theorem so_all : ∀ {ds : List PyData}, (∀ d ∈ ds, SO d) → ∀ t ∈ PyData.shownAll ds, PyData.strOk t = true
  | [], _, t, ht => by
    simp only [PyData.shownAll] at ht
    cases ht
  | d :: ds, h, t, ht => by
    simp only [PyData.shownAll] at ht
    rcases List.mem_cons.mp ht with e | ht
    · rw [e]
      exact h d List.mem_cons_self
    · exact so_all (fun x hx => h x (List.mem_cons_of_mem _ hx)) t ht
theorem SO.list {ds : List PyData} (h : ∀ d ∈ ds, SO d) : SO (.list ds) := by
  unfold SO
  simp only [PyData.shown]
  exact so_app (so_from _ _ _ (so_of _) (so_all h)) (so_of _)
theorem SO.tuple {ds : List PyData} (h : ∀ d ∈ ds, SO d) : SO (.tuple ds) := by
  unfold SO
  simp only [PyData.shown]
  exact so_app (so_app (so_of _) (so_join _ (so_all h))) (so_of _)
theorem SO.int {i : Int} : SO (.int i) := by
  unfold SO
  simp only [PyData.shown]
  exact so_of _
theorem SO.non : SO .none := by
  unfold SO
  simp only [PyData.shown]
  exact so_of _
theorem SO.bool {b : Bool} : SO (.bool b) := by
  unfold SO
  simp only [PyData.shown]
  cases b with
  | true => exact so_of "True"
  | false => exact so_of "False"
theorem SO.row {d : PyData} (h : RowItem d) : SO d := by
  cases h with
  | int _ _ => exact .int
  | str => unfold SO; decide +kernel
  | tup =>
    refine SO.tuple fun d hd => ?_
    rcases List.mem_cons.mp hd with e | hd
    · rw [e]
      exact SO.int
    · rw [List.mem_singleton.mp hd]
      exact SO.int
  | non => exact SO.non
theorem Sw.row {d : PyData} (h : RowItem d) : Sw 1 20 d := by
  cases h with
  | int h1 h2 => exact (Sw.int (by omega) (by omega)).mono (by decide) (by decide)
  | str => exact (Sw.str (by decide +kernel) (by decide)).mono (by decide) (by decide)
  | tup =>
    have h1 : Sw 1 (2 * (0 + 1)) (.tuple [.int 1, .int 2]) := Sw.tuple fun d hd => by
      rcases List.mem_cons.mp hd with e | hd
      · rw [e]
        exact Sw.int (i := 1) (by decide) (by decide)
      · rw [List.mem_singleton.mp hd]
        exact Sw.int (i := 2) (by decide) (by decide)
    exact h1.mono (Nat.le_refl _) (by decide)
  | non => exact Sw.non.mono (by decide) (by decide)
theorem sw_row {rs : List PyData} (h : ∀ d ∈ rs, RowItem d) (hl : rs.length ≤ 20) : Sw 60 1000000 (.list rs) := by
  have h1 := Sw.list fun d hd => Sw.row (h d hd)
  refine h1.mono (by decide) ?_
  have : rs.length * (20 + 1) ≤ 20 * 21 := Nat.mul_le_mul_right _ hl
  omega

/-! ### equality -/
mutual
theorem eqv_refl : ∀ d : PyData, d.canLay0 = true → PyData.eqv d d = true
  | .none, _ => by simp only [PyData.eqv]
  | .bool b, _ => by simp only [PyData.eqv, beq_self_eq_true]
  | .int i, _ => by simp only [PyData.eqv, beq_self_eq_true]
  | .str x, _ => by simp only [PyData.eqv, beq_self_eq_true]
  | .list ds, h => by
    simp only [PyData.eqv]
    exact eqvAll_refl ds (by simpa only [PyData.canLay0] using h)
  | .tuple ds, h => by
    simp only [PyData.eqv]
    exact eqvAll_refl ds (by simpa only [PyData.canLay0] using h)
  | .dict _, h => by simp only [PyData.canLay0] at h; cases h
theorem eqvAll_refl : ∀ ds : List PyData, PyData.canLayAll0 ds = true → PyData.eqvAll ds ds = true
  | [], _ => by simp only [PyData.eqvAll]
  | d :: ds, h => by
    simp only [PyData.canLayAll0, Bool.and_eq_true] at h
    simp only [PyData.eqvAll, eqv_refl d h.1, eqvAll_refl ds h.2, Bool.and_self]
end
def tTold (d : PyData) : PyData := .tuple [.str "told", d]
def tRef (x : Str) : PyData := .tuple [.str "refused", .str x, .bool true]
def tGreat (l : Nat) : PyData := .tuple [.str "great", .int (l : Int), .bool true]
/-- data that may be compared and keeps without lists -/
structure Cmp (d : PyData) : Prop where
  sh : SeqAt.shaped d = true
  nl : nl d = true
theorem Cmp.refl {d : PyData} (h : Cmp d) : PyData.eqv d d = true := eqv_refl d (SeqAt.canLay_of_shaped h.sh)
theorem cmp_told {ds : List PyData} (h : shA ds) (hd : ∀ d ∈ ds, d.depth ≤ 60) (n : nlA ds = true) : Cmp (tTold (.tuple ds)) := by
  have h1 := shA_iff.mp h
  have hs : shA [.str "told", .tuple ds] := shA_iff.mpr fun d hdm => by
    rcases List.mem_cons.mp hdm with e | hdm
    · rw [e]
      exact ⟨by simp only [PyData.canLay0]; decide +kernel, by simp only [PyData.depth]; decide⟩
    · rw [List.mem_singleton.mp hdm]
      refine ⟨by simp only [PyData.canLay0]; exact layA_iff.mpr fun d hd => (h1 d hd).1, ?_⟩
      simp only [PyData.depth]
      have := (depA_iff (n := 60)).mpr hd
      omega
  exact ⟨hs, by simp [tTold, K60.nl, nlA, n]⟩
theorem cmp_ref {x : Str} (h : PyData.strOk x = true) : Cmp (tRef x) := by
  have hs : shA [.str "refused", .str x, .bool true] := shA_iff.mpr fun d hdm => by
    rcases List.mem_cons.mp hdm with e | hdm
    · rw [e]
      exact ⟨by simp only [PyData.canLay0]; decide +kernel, by simp only [PyData.depth]; decide⟩
    · rcases List.mem_cons.mp hdm with e | hdm
      · rw [e]
        exact ⟨by simp only [PyData.canLay0]; exact h, by simp only [PyData.depth]; decide⟩
      · rw [List.mem_singleton.mp hdm]
        exact ⟨by simp only [PyData.canLay0], by simp only [PyData.depth]; decide⟩
  exact ⟨hs, by simp [tRef, K60.nl, nlA]⟩
theorem cmp_great {l : Nat} : Cmp (tGreat l) := by
  have hs : shA [.str "great", .int (l : Int), .bool true] := shA_iff.mpr fun d hdm => by
    rcases List.mem_cons.mp hdm with e | hdm
    · rw [e]
      exact ⟨by simp only [PyData.canLay0]; decide +kernel, by simp only [PyData.depth]; decide⟩
    · rcases List.mem_cons.mp hdm with e | hdm
      · rw [e]
        exact ⟨by simp only [PyData.canLay0], by simp only [PyData.depth]; decide⟩
      · rw [List.mem_singleton.mp hdm]
        exact ⟨by simp only [PyData.canLay0], by simp only [PyData.depth]; decide⟩
  exact ⟨hs, by simp [tGreat, K60.nl, nlA]⟩
theorem cmp_due {p : Par} (h : ∀ pl ∈ p.due, Sw 1 3 (tupI pl)) : Cmp (tTold (.tuple (p.due.map tupI))) := by
  refine cmp_told (shA_iff.mpr fun d hd => ?_) (fun d hd => ?_) (nlA_iff.mpr fun d hd => ?_)
  · obtain ⟨pl, hpl, rfl⟩ := List.mem_map.mp hd
    have := h pl hpl
    exact ⟨this.lay, Nat.le_trans this.dep (by decide)⟩
  · obtain ⟨pl, hpl, rfl⟩ := List.mem_map.mp hd
    exact Nat.le_trans (h pl hpl).dep (by decide)
  · obtain ⟨pl, hpl, rfl⟩ := List.mem_map.mp hd
    exact tupI_nl pl
theorem told_great {l : Nat} {d : PyData} : PyData.eqv (tGreat l) (tTold d) = false := by
  unfold tGreat tTold
  simp only [PyData.eqv, PyData.eqvAll]
  rfl
end K60
/-! K60W3: what is heard; all_fits with a least. -/
namespace K60
open PySem PySem.Spec PyProof.Rows L2 LamX

/-- the law's code object and its table -/
structure LamEnv (X : Cx) (T : List (Addr × Str)) : Prop where
  ex : ∃ c Pt, TabB X.base X.mg c Pt ∧ X.env.code = .ref c ∧ (Pt, X.env.qual ++ "<lambda>") ∈ T ∧ ∀ p ∈ T, p.1 = Pt → p.2 = X.env.qual ++ "<lambda>"
structure Hrd (K : PySem.W.Frag) (mg : Str → Option Value) : Prop where
  ex : ∃ g fd, Fun K "_law_heard" "_law_heard" (top 34) g fd ∧ mg "_law_heard" = some (.ref g)
theorem sc34 : FnScope N34 ["_law_ask"] (defScope (top 34)) := ⟨rfl, rfl, rfl, by decide +kernel, rfl, by decide +kernel, by decide +kernel⟩
theorem bind1 {K : PySem.W.Frag} {kV doc pm cdv ct : Value} {an : Option Addr} : L2.Binds K (PySem.W.fnOf "_law_heard" "_law_heard" (defArgs (top 34)) (defBody (top 34)) (defScope (top 34)) .none kV doc pm an cdv ct) ["_law_ask"] [] := .all fun us hl => by
  match us, hl with
  | [u], _ => rfl
section
variable {P : Program} {w : World} {K : PySem.W.Frag} {mg : Str → Option Value} {base : Heap} {f : Addr} {cdv : Value} {A : Around} {outer : List Env} {s : Shared} {H0 : Hp} {E : XK} {T : List (Addr × Str)} {v : V} {ns : List Int} {CR CT CK : Addr}
theorem pe_heard {kk : Nat} {params : Arguments} {body : Expr} {scope : Scope} {t : XK → TE} {p lpos pos : Pos} (h : Hlp P w K mg base) (hd : Hrd K mg) (ef : ErrF K mg CT CR CK) (le : LamEnv (lawX P w K mg base f cdv A outer s H0 E) T) (hgu : A.guards = some []) (hr : Room (kk + 2) (A.deeper (envOfC "law" (defScope (top 36)) s.heap.objs.size f cdv)))
    (L : LamS (defScope (top 36)) scope) (hdef : defaultsOf params (lawX P w K mg base f cdv A outer s H0 E).env = ([], []) := by rfl)
    (hbind : ∀ (q : Str) (cl : List (Str × Addr)) (pm cv ctv : Value), bindArgs (PySem.W.kla_fn "<lambda>" q params body scope cl pm cv ctv) ⟨[], []⟩ = pure [] := by intros; rfl)
    (hbody : ∀ (A' : Around) (outer' : List Env) (s' : Shared) (H' : Hp) (E' : XK) (f' c' : Addr), Room kk (A'.deeper (lamEnv (lawX P w K mg base f cdv A outer s H0 E) scope s'.heap.objs.size f' c')) → PE (lamCx (lawX P w K mg base f cdv A outer s H0 E) A' outer' s' H' E' scope f' c') body (t E')) :
    PE (lawX P w K mg base f cdv A outer s H0 E) (.Call (.Name "_law_heard" p) [.Lambda params body scope lpos] [] pos) (tLam T (TTh K CT CR) t) := by
  obtain ⟨g, fd, F, hm⟩ := hd.ex
  obtain ⟨c, Pt, TB, hcode, hmT, hu⟩ := le.ex
  obtain ⟨oc, od, kV, doc, pm, an, cdg, ct, osl, rfl, lk, hcg⟩ := F.ex
  exact pe_lamcall (X := lawX P w K mg base f cdv A outer s H0 E) (k := kk) rfl hm F.kp lk hcg bind1 sc34 rfl (Or.inl rfl) (heard_gives (k := kk + 1) ef h.nm hgu hr) TB hcode hmT hu hr L hdef hbind hbody

structure S7 (K : PySem.W.Frag) (T : List (Addr × Str)) (v : V) (ns : List Int) (p : Par) (m l : Nat) (σ : L2.St) (H : Hp) : Prop where
  s : S5 K T v ns p σ H
  many : Many p m
  a6 : At σ 6 (.int (m : Int))
  a7 : At σ 7 (.int (l : Int))
  l1 : 1 ≤ l
theorem st7 (h : Hlp P w K mg base) (hr : Room 8 (A.deeper (envOfC "law" (defScope (top 36)) s.heap.objs.size f cdv))) : Tri (lawX P w K mg base f cdv A outer s H0 E) (lst 7) (S6 K T v ns) (fun σ H => ∃ p m l, S7 K T v ns p m l σ H) := by
  refine ⟨_, ps_set (i := 7) nd36 rfl (Or.inr rfl) (pe_add pe_int (pe_cl h.take hr (by decide) pass0 (pa_cons (pv 2) (pa_cons pe_int pa_nil)))), fun D σ H q => ?_⟩
  obtain ⟨p, m, ⟨e1, e2, gd, sl⟩, hm, a6⟩ := q
  refine ⟨_, sl.a2, p.b, 9, rfl, gd.bx, by decide, by decide, fun d H1 d0 d1 a1 b1 => ⟨_, _, rfl, rfl, ?_⟩⟩
  obtain ⟨n, rfl⟩ : ∃ n : Nat, d = (n : Int) := ⟨d.toNat, by omega⟩
  refine ⟨p, m, 1 + n, ⟨e1, e2, gd.aside a1 b1, sl.set (by decide)⟩, hm, a6.set (by decide), ?_, by omega⟩
  have e : ((1 + n : Nat) : Int) = 1 + (n : Int) := by omega
  rw [e]
  exact At.new sl.len (by decide)
/-- what a pair told holds -/
theorem told_dp {H : Hp} {T0 : Addr} {v : V} {d : PyData} (h : Dp K H v d) (hT : H T0 = none) : Dp K (upd H T0 (.tup [.str "told", v])) (.ref T0) (tTold d) := dTup upd_same (.cons (.str _) (.cons (Dm h (Same.nw hT)) .nil))
theorem ref_dp {H : Hp} {T0 : Addr} {x : Str} : Dp K (upd H T0 (.tup [.str "refused", .str x, .bl true])) (.ref T0) (tRef x) := dTup upd_same (.cons (.str _) (.cons (.str _) (.cons (.bl _) .nil)))
theorem great_dp {H : Hp} {T0 : Addr} {l : Nat} : Dp K (upd H T0 (.tup [.str "great", .int (l : Int), .bl true])) (.ref T0) (tGreat l) := dTup upd_same (.cons (.str _) (.cons (.int _) (.cons (.bl _) .nil)))
structure S8 (K : PySem.W.Frag) (T : List (Addr × Str)) (v : V) (ns : List Int) (p : Par) (m l : Nat) (σ : L2.St) (H : Hp) : Prop where
  s : S7 K T v ns p m l σ H
  a8 : ∃ vh, At σ 8 vh ∧ (Dp K H vh (tTold (.tuple (p.due.map tupI))) ∨ (Dp K H vh (tGreat l) ∧ l < m))
theorem st8 (h : Hlp P w K mg base) (hd : Hrd K mg) (n : Fns P w K mg base CR CT CK) (le : LamEnv (lawX P w K mg base f cdv A outer s H0 E) T) (hgu : A.guards = some []) (hr : Room 8 (A.deeper (envOfC "law" (defScope (top 36)) s.heap.objs.size f cdv))) :
    Tri (lawX P w K mg base f cdv A outer s H0 E) (lst 8) (fun σ H => ∃ p m l, S7 K T v ns p m l σ H) (fun σ H => ∃ p m l, S8 K T v ns p m l σ H) := by
  refine ⟨_, ps_set (i := 8) nd36 rfl (Or.inl rfl) (pe_heard (t := fun E' => L2.tCallN 2 1 (spAF K CR CT) gApp E' (tCons (tVar 4) (tCons (tVar 3) tNil)) (tCons (tVar 7) tNil)) h hd n.ef le hgu hr (lamS_by (by decide +kernel)) rfl (by intros; rfl)
      (fun A' outer' s' H' E' f' c' hr' => pe_clK (X := lamCx (lawX P w K mg base f cdv A outer s H0 E) A' outer' s' H' E' _ f' c') (E := E') n.all hr' (by decide) (passes_call (takes_of rfl rfl rfl rfl) fun _ _ _ _ h => h) (pa_cons (pv 4) (pa_cons (pv 3) pa_nil)) (pk_cons (pv 7) pk_nil))), fun D σ H q => ?_⟩
  obtain ⟨p, m, l, ⟨⟨e1, e2, gd, sl⟩, hm, a6, a7, l1⟩⟩ := q
  refine ⟨gd.tb, fun H1 eH t1 => ?_⟩
  have g1 := gd.ext eH t1
  refine ⟨_, sl.a4, _, sl.a3, _, a7, rfl, rfl, p.vp, p.vr, l, rfl, l1, pre_ok g1.dp.dp g1.dr.dp rfl (map_hk hk_tup3 _) g1.okp rfl g1.okR ⟨fun _ v1 H2 s2 hv1 T0 hT0 => ?_, fun i hi hlt d H2 s2 hd2 => .inl ⟨rfl, d, .int (l : Int), rfl, hd2, fun T0 hT0 => ?_⟩⟩⟩
  · have g2 := (g1.same s2).same (Same.nw (o := .tup [.str "told", v1]) hT0)
    exact ⟨p, m, l, ⟨⟨e1, e2, g2, sl.set (by decide)⟩, hm, a6.set (by decide), a7.set (by decide), l1⟩, .ref T0, At.new sl.len (by decide), .inl (told_dp hv1 hT0)⟩
  · have g2 := (g1.same s2).same (Same.nw (o := .tup [.str "great", .int (l : Int), .bl true]) hT0)
    refine ⟨p, m, l, ⟨⟨e1, e2, g2, sl.set (by decide)⟩, hm, a6.set (by decide), a7.set (by decide), l1⟩, .ref T0, At.new sl.len (by decide), .inr ⟨great_dp, ?_⟩⟩
    exact Nat.lt_of_lt_of_le hlt (hm.le i hi)
theorem st9 (h : Hlp P w K mg base) (hr : Room 8 (A.deeper (envOfC "law" (defScope (top 36)) s.heap.objs.size f cdv))) :
    Tri (lawX P w K mg base f cdv A outer s H0 E) (lst 9) (fun σ H => ∃ p m l, S8 K T v ns p m l σ H) (fun σ H => ∃ p, S5 K T v ns p σ H) := by
  refine ⟨_, ps_if (PW.pt (pw_and (pt_cmpR (op_neD (u64 hr)) (pv 8) (pe_tup (pa_cons pe_str (pa_cons (pv 5) pa_nil))) (nomark _))
      (pw_and1 (PW.pt (pw_or (pt_cmpR (op_neD (u64 hr)) (pv 8) (pe_tup (pa_cons pe_str (pa_cons (pv 7) (pa_cons pe_bl pa_nil)))) (nomark _)) (pw_or1 (pt_cmp (pc_le (pv 6) (pv 7))))))))) (pss_one (ps_ret pe_bl)) pss_nil, fun D σ H q => ?_⟩
  obtain ⟨p, m, l, ⟨⟨⟨e1, e2, gd, sl⟩, hm, a6, a7, l1⟩, vh, a8, hvh⟩⟩ := q
  have hcd : Cmp (tTold (.tuple (p.due.map tupI))) := cmp_due (sw_fits gd.lr (by rw [List.length_map]; exact gd.okp.len))
  refine ⟨vh, a8, _, sl.a5, by show 2 ≤ sizeLine; decide, fun T0 hT0 => ?_⟩
  have s1 := Same.nw (o := .tup [.str "told", p.vd]) hT0
  have hd2 := told_dp gd.dd.dp hT0
  have g1 := gd.same s1
  rcases hvh with hvh | ⟨hvh, hlm⟩
  · refine ⟨_, _, Dm hvh s1, hd2, hcd.sh, hcd.sh, _, rfl, ?_⟩
    rw [hcd.refl]
    exact ifF rfl (ifF rfl ⟨p, e1, e2, g1, sl⟩)
  · refine ⟨_, _, Dm hvh s1, hd2, cmp_great.sh, hcd.sh, _, rfl, ?_⟩
    rw [told_great]
    refine ifT rfl ?_
    refine ⟨vh, a8, _, a7, by show 3 ≤ sizeLine; decide, fun T2 hT2 => ?_⟩
    have s2 := Same.nw (o := .tup [.str "great", .int (l : Int), .bl true]) hT2
    refine ⟨_, _, Dm (Dm hvh s1) s2, great_dp, cmp_great.sh, cmp_great.sh, _, rfl, ?_⟩
    rw [cmp_great.refl]
    refine ifF rfl ?_
    refine ⟨_, a6, _, a7, _, _, rfl, rfl, _, rfl, ?_⟩
    exact ifF (decide_eq_false (by omega)) ⟨p, e1, e2, g1.same s2, sl⟩
end
end K60
/-! K60W4: the only fit; the answer; patched. -/
namespace K60
open PySem PySem.Spec PyProof.Rows L2 LamX

/-- a comprehension whose items do not lean on its own list -/
theorem lc_dataD {K : PySem.W.Frag} {J : It} {n : Nat} {G : Hp → Prop} {Y : Nat → Hp → V → Hp → Prop} {g : TG} {te : TE} {vs : List Nat} {σ : L2.St} {H1 : Hp} {D : Addr} {Qd : Hp → Prop} (f : Nat → PyData) (w : Walk J n G Y) (hn : n ≤ sizeLine) (hD : H1 D = none) (hG : ∀ H, Same H1 H → G H)
    (hs : ∀ i x H H' (Ky : V → Hp → Prop), i < n → Same H1 H → (∃ acc, H D = some (.lst acc)) → Y i H x H' → (∀ y H4, Same H H4 → Dp K (del H4 D) y (f i) → Ky y H4) → g x (wipe σ vs) H' fun σ2 H2 => wipe σ2 vs = wipe σ vs ∧ te σ2 H2 Ky)
    (hd : ∀ H acc, Same H1 H → H D = some (.lst acc) → DpAll K H acc ((List.range n).map f) → Qd H) :
    ∃ W : Nat → Nat → Hp → Prop, (∃ m, W 0 m (upd H1 D (.lst []))) ∧ ∀ i m H, W i m H →
      (J.stop i H ∧ Qd H) ∨ (J.go i H ∧ ∃ Nx : Hp → Prop, (∀ H', Nx H' → ∃ m', m' < m ∧ W (i + 1) m' H') ∧ ∀ x H', J.yld i H x H' → g x (wipe σ vs) H' fun σ2 H2 => wipe σ2 vs = wipe σ vs ∧ tYes σ2 H2 fun b H3 =>
        if b = true then te σ2 H3 fun y H4 => ∃ acc, H4 D = some (.lst acc) ∧ acc.length < sizeLine ∧ Nx (upd H4 D (.lst (acc ++ [y]))) else Nx H3) := by
  refine lc_it w (fun i H => Same H1 H ∧ ∃ acc, H D = some (.lst acc) ∧ acc.length ≤ i ∧ DpAll K (del H D) acc ((List.range i).map f)) ⟨Same.nw hD, [], upd_same, Nat.le_refl _, .nil⟩ (fun i H _ p => hG H p.1) (fun i x H H' hi p y => ?_) (fun H p => ?_)
  · obtain ⟨s1, acc, ha, hl, hda⟩ := p
    have k := hs i x H H' (fun y H4 => ∃ acc, H4 D = some (.lst acc) ∧ acc.length < sizeLine ∧ (Same H1 (upd H4 D (.lst (acc ++ [y]))) ∧ ∃ acc', upd H4 D (.lst (acc ++ [y])) D = some (.lst acc') ∧ acc'.length ≤ i + 1 ∧ DpAll K (del (upd H4 D (.lst (acc ++ [y]))) D) acc' ((List.range (i + 1)).map f))) hi s1 ⟨acc, ha⟩ y (fun y4 H4 s4 hy => ?_)
    · exact k
    · refine ⟨acc, s4 _ _ ha, by omega, Same.md (sameT s1 s4) hD, acc ++ [y4], upd_same, by rw [List.length_append]; show acc.length + 1 ≤ i + 1; omega, ?_⟩
      rw [delUpd, List.range_succ, List.map_append]
      exact daApp (DmA hda (Aside.of s4)) (daOne hy)
  · obtain ⟨s1, acc, ha, hl, hda⟩ := p
    exact hd H acc s1 ha (daUndel hda)
def rLstO (K : PySem.W.Frag) : List V → Hp → VK → Prop := fun xs H Q => ∃ p ys, xs = [.ref p] ∧ (SqL K H p ys ∨ SqT K H p ys) ∧ ∀ l, H l = none → Q (.ref l) (upd H l (.lst ys))
theorem lstK {X : Cx} (K : PySem.W.Frag) (h : X.K = K := by rfl) : CallR X (.type "list") (rLstO K) := h ▸ call_list_of
theorem range_get {α β : Type} [Inhabited α] (l : List α) (g : α → β) {n : Nat} (hn : n = l.length) : (List.range n).map (fun i => g (l.getD i default)) = l.map g := by
  subst hn
  apply List.ext_getElem?
  intro i
  rw [List.getElem?_map, List.getElem?_map]
  by_cases h : i < l.length
  · rw [List.getElem?_range h, List.getElem?_eq_getElem h]
    simp [List.getD_eq_getElem?_getD, List.getElem?_eq_getElem h]
  · rw [List.getElem?_eq_none (by simpa using h), List.getElem?_eq_none (by omega)]
    rfl

def dA (p : Par) : PyData := match onlyF p.rs (oldsOf p.hs) with
  | some pl => tTold (.tuple (putFrom p.rs [] 0 (prs p.hs) pl))
  | none => tRef (PyData.shown (.list p.rs))
theorem resFF_nl (o : Option (List Nat)) : nl (resFF o) = true := by
  cases o with
  | none => rfl
  | some pl => exact tupI_nl pl
theorem only_due {p : Par} {pl : List Nat} (h : onlyF p.rs (oldsOf p.hs) = some pl) : pl ∈ p.due := mem_fitsFrom.mpr (onlyF_fit h)
theorem sw_only {p : Par} (hr : p.rs.length ≤ 20) (hh : p.hs.length ≤ 3) : Sw 1 3 (resFF (onlyF p.rs (oldsOf p.hs))) := by
  cases h : onlyF p.rs (oldsOf p.hs) with
  | none => exact Sw.non.mono (by decide) (by decide)
  | some pl => exact sw_fits hr (by rw [List.length_map]; exact hh) pl (only_due h)
/-- what is put together is made of row items -/
theorem put_items (r : List PyData) (hr : ∀ d ∈ r, RowItem d) : ∀ (hs : List (List PyData × List PyData)) (pl : List Nat) (acc : List PyData) (a : Nat), (∀ d ∈ acc, RowItem d) → (∀ h ∈ hs, ∀ d ∈ h.2, RowItem d) → ∀ d ∈ putFrom r acc a hs pl, RowItem d
  | [], pl, acc, a, ha, _, d, hd => by
    have hd : d ∈ acc ++ r.drop a := by
      cases pl <;> exact hd
    exact (List.mem_append.mp hd).elim (ha d) fun h => hr d (List.mem_of_mem_drop h)
  | h :: hs, [], acc, a, ha, _, d, hd => by
    have hd : d ∈ acc ++ r.drop a := hd
    exact (List.mem_append.mp hd).elim (ha d) fun h => hr d (List.mem_of_mem_drop h)
  | (o, n) :: hs, q :: pl, acc, a, ha, hh, d, hd => by
    refine put_items r hr hs pl (acc ++ ((r.drop a).take (q - a) ++ n)) (q + o.length) (fun e he => ?_) (fun h hm => hh h (List.mem_cons_of_mem _ hm)) d hd
    rcases List.mem_append.mp he with he | he
    · exact ha e he
    · rcases List.mem_append.mp he with he | he
      · exact hr e (List.mem_of_mem_drop (List.mem_of_mem_take he))
      · exact hh (o, n) List.mem_cons_self e he
theorem put_row {p : Par} (hr : ∀ d ∈ p.rs, RowItem d) (ok : PatchOk p.hs) (pl : List Nat) : ∀ d ∈ putFrom p.rs [] 0 (prs p.hs) pl, RowItem d :=
  put_items p.rs hr _ pl [] 0 (fun d hd => by cases hd) fun h hm => by
    obtain ⟨x, hx, rfl⟩ := List.mem_map.mp hm
    exact (ok.each x hx).2.2.2
theorem cmp_put {p : Par} (hr : ∀ d ∈ p.rs, RowItem d) (ok : PatchOk p.hs) (pl : List Nat) : Cmp (tTold (.tuple (putFrom p.rs [] 0 (prs p.hs) pl))) := by
  have h := put_row hr ok pl
  exact cmp_told (rows_sh h) (fun d hd => Nat.le_trans (Sw.row (h d hd)).dep (by decide)) (rows_nl h)
theorem cmp_dA {p : Par} (hr : ∀ d ∈ p.rs, RowItem d) (ok : PatchOk p.hs) : Cmp (dA p) := by
  unfold dA
  cases onlyF p.rs (oldsOf p.hs) with
  | none => exact cmp_ref (SO.list fun d hd => SO.row (hr d hd))
  | some pl => exact cmp_put hr ok pl

section
variable {P : Program} {w : World} {K : PySem.W.Frag} {mg : Str → Option Value} {base : Heap} {f : Addr} {cdv : Value} {A : Around} {outer : List Env} {s : Shared} {H0 : Hp} {E : XK} {T : List (Addr × Str)} {v : V} {ns : List Int} {CR CT CK : Addr}
structure S10 (K : PySem.W.Frag) (T : List (Addr × Str)) (v : V) (ns : List Int) (p : Par) (σ : L2.St) (H : Hp) : Prop where
  s : S5 K T v ns p σ H
  a9 : ∃ vq, At σ 9 vq ∧ DB K H p.b vq (resFF (onlyF p.rs (oldsOf p.hs)))
theorem st10 (h : Hlp P w K mg base) (hr : Room 8 (A.deeper (envOfC "law" (defScope (top 36)) s.heap.objs.size f cdv))) : Tri (lawX P w K mg base f cdv A outer s H0 E) (lst 10) (fun σ H => ∃ p, S5 K T v ns p σ H) (fun σ H => ∃ p, S10 K T v ns p σ H) := by
  refine ⟨_, ps_set (i := 9) nd36 rfl (Or.inl rfl) (pe_ifExp (pt_cmp (pc_eqI (pe_callB (id := "len") (lenK K) rfl h.nm.len (by decide +kernel) (pa_cons (pv 5) pa_nil)) pe_int)) (pe_ix (ixK K) (pv 5) pe_int (fun _ _ => rfl)) pe_non), fun D σ H q => ?_⟩
  obtain ⟨p, e1, e2, gd, sl⟩ := q
  refine ⟨_, sl.a5, p.vd, _, _, rfl, gd.dd.dp, rfl, _, _, rfl, rfl, _, rfl, ?_⟩
  have lm : (p.due.map tupI).length = p.due.length := List.length_map _
  by_cases h1 : p.due.length = 1
  · refine ifT (decide_eq_true (by rw [lm, h1]; rfl)) ?_
    obtain ⟨pl, hpl⟩ := List.length_eq_one_iff.mp h1
    have e : onlyF p.rs (oldsOf p.hs) = some pl := by
      unfold onlyF
      rw [if_pos h1, show fitsFrom p.rs 0 (oldsOf p.hs) = [pl] from hpl]
      rfl
    refine ⟨_, sl.a5, _, _, 0, tupI pl, gd.dd.dp, rfl, rfl, (by rw [show p.due = [pl] from hpl]; exact at0), fun vq hvq => ⟨p, ⟨e1, e2, gd, sl.set (by decide)⟩, vq, At.new sl.len (by decide), ?_⟩⟩
    rw [e]
    exact .of hvq (tupI_nl pl) gd.bx
  · refine ifF (decide_eq_false (by rw [lm]; omega)) ?_
    have e : onlyF p.rs (oldsOf p.hs) = none := by
      unfold onlyF
      exact if_neg h1
    refine ⟨p, ⟨e1, e2, gd, sl.set (by decide)⟩, .non, At.new sl.len (by decide), ?_⟩
    rw [e]
    exact .non
instance : Inhabited H3 := ⟨(0, [], [])⟩
theorem st11 (h : Hlp P w K mg base) (n : Fns P w K mg base CR CT CK) (hgu : A.guards = some []) (hr : Room 8 (A.deeper (envOfC "law" (defScope (top 36)) s.heap.objs.size f cdv))) : Tri (lawX P w K mg base f cdv A outer s H0 E) (lst 11) (fun σ H => ∃ p, S10 K T v ns p σ H) (fun σ H => ∃ p, S10 K T v ns p σ H) := by
  refine ⟨_, ps_if (pt_cmpR op_ne (pe_callB (call_reprD hgu (u65 hr)) rfl h.nm.repr (by decide +kernel) (pa_cons (pe_lst (pa_cons (pe_cl (E := E0) n.only hr (by decide) (passes_call L2.takes0 fun _ _ _ _ h => h) (pa_cons (pv 4) (pa_cons (pv 3) pa_nil)))
      (pa_cons (pe_clK0 (E := E0) n.only0 hr (by decide) (passes_call L2.takes0 fun _ _ _ _ h => h) (pk_cons (pe_callTy (T := "tuple") (tupK K) rfl h.nm.tuple (by decide +kernel) (pa_cons (pv 3) pa_nil))
        (pk_cons (pe_lc (own := [("_law_hunk", 20)]) (g := gName 20) (tt := tYes) rfl nd36 (pi_seqF (pv 4)) (blkOk_by (N := N36) (sc := defScope (top 36)) (by decide +kernel)) (fun _ _ _ _ _ => pg_name (i := 20) nd36 rfl (Or.inl rfl)) (fun _ _ _ _ _ => pts_nil)
          (fun _ _ _ _ _ => pe_callTy (T := "list") (lstK K) rfl h.nm.list (by decide +kernel) (pa_cons (pv 20) pa_nil))) pk_nil))) pa_nil))) pa_nil))
      (pe_callB (call_reprD hgu (u65 hr)) rfl h.nm.repr (by decide +kernel) (pa_cons (pe_lst (pa_cons (pv 9) (pa_cons (pv 9) pa_nil))) pa_nil)) (nomark _)) (pss_one (ps_ret pe_bl)) pss_nil, fun D σ H q => ?_⟩
  obtain ⟨p, ⟨e1, e2, gd, sl⟩, vq, a9, hvq⟩ := q
  have hlen := gd.okp.len
  have hsl : (10000 : Nat) ≤ sizeLine := by rw [sizeLine_eq]; decide
  have hsw := sw_only gd.lr hlen
  have hsw2 := (sw_two hsw hsw).mono (show 2 ≤ 60 by decide) (show 2 * (3 + 1) ≤ 1000000 by decide)
  refine ⟨_, sl.a4, _, sl.a3, p.vp, p.vr, rfl, pre_ok gd.dp.dp gd.dr.dp rfl (map_hk hk_tup3 _) gd.okp rfl gd.okR fun v1 H1 s1 hv1 => ?_⟩
  have g1 := gd.same s1
  refine ⟨_, sl.a3, p.vr, _, _, rfl, g1.dr.dp, rfl, fun vr2 H2 s2 hvr2 => ?_⟩
  have g2 := g1.same s2
  obtain ⟨t, a, xs, ev, hq, ha, _⟩ := seqOf g2.dp.dp rfl
  have hlx := daLen ha
  rw [List.length_map] at hlx
  refine ⟨_, sl.a4, t, a, xs, ev, hq, fun J wk D hD => ?_⟩
  refine lc_dataD (K := K) (fun i => lst3 (p.hs.getD i default)) wk (by omega) hD (fun H s => hq.up s) (fun i x H4 H4' Ky hi s4 hDa y ky => ?_) (fun H3 acc s3 hacc hda => ?_)
  · obtain ⟨rfl, hx⟩ := y
    obtain ⟨acc, hDa⟩ := hDa
    obtain ⟨d', hd', hx'⟩ := daGet ha hx
    rw [List.getElem?_map] at hd'
    obtain ⟨hh, mh, rfl⟩ := Option.map_eq_some_iff.mp hd'
    have eg : p.hs.getD i default = hh := by
      rw [List.getD_eq_getElem?_getD, mh]
      rfl
    obtain ⟨a1, xs1, rfl, q1, q2⟩ := dInv_tup (Dm hx' s4)
    have hnl : nlA [.int (hh.1 : Int), .tuple hh.2.1, .tuple hh.2.2] = true := nl_tup3 (g2.okp.okHs.each hh (List.mem_of_getElem? mh)).1
    refine ⟨wipe1, _, At.new (n := 22) (setL sl.len) (by decide), a1, xs1, rfl, .inr q1, fun l hl => ky (.ref l) _ (Same.nw hl) ?_⟩
    rw [eg]
    have nl : l ≠ D := fun e => by
      rw [e, hDa] at hl
      cases hl
    refine dLst (by rw [del_ne nl]; exact upd_same) (dNA (fun c u e no => ?_) _ _ hnl (DmA q2 (Same.nw (o := .lst xs1) hl)))
    by_cases hc : c = D
    · rw [hc, upd_ne (Ne.symm nl), hDa] at e
      cases e
      exact absurd rfl (no _)
    · rw [del_ne hc]
      exact e
  · have g3 := g2.same s3
    rw [range_get p.hs lst3 hlx] at hda
    refine ⟨rfl, rfl, .ref D, vr2, rfl, pre_ok (dLst hacc hda) (Dm hvr2 s3) rfl (map_hk hk_lst3 _) g3.okp rfl g3.okR fun v4 H4 s4 hv4 => ?_⟩
    have g4 := g3.same s4
    have s14 := sameT s2 (sameT s3 s4)
    refine ⟨by show 2 ≤ sizeLine; decide, fun L hL => ?_⟩
    have sL := Same.nw (o := .lst [v1, v4]) hL
    refine ⟨.ref L, .list [resFF (onlyF p.rs (oldsOf p.hs)), resFF (onlyF p.rs (oldsOf p.hs))], rfl, dLst upd_same (.cons (Dm hv1 (sameT s14 sL)) (.cons (Dm hv4 sL) .nil)), hsw2, ?_⟩
    have g5 := g4.same sL
    have hq5 := hvq.up (Aside.of (b := p.b) (sameT s1 (sameT s14 sL)))
    refine ⟨_, a9, _, a9, by show 2 ≤ sizeLine; decide, fun L2 hL2 => ?_⟩
    have sL2 := Same.nw (o := .lst [vq, vq]) hL2
    have hq6 := hq5.up (Aside.of (b := p.b) sL2)
    refine ⟨.ref L2, .list [resFF (onlyF p.rs (oldsOf p.hs)), resFF (onlyF p.rs (oldsOf p.hs))], rfl, dLst upd_same (.cons hq6.dp (.cons hq6.dp .nil)), hsw2, ?_⟩
    exact ⟨rfl, _, rfl, ifF (by simp) ⟨p, ⟨e1, e2, g5.same sL2, sl⟩, vq, a9, hq6⟩⟩
end
end K60
/-! K60W5: the answer; patched, asked twice. -/
namespace K60
open PySem PySem.Spec PyProof.Rows L2 LamX
section
variable {P : Program} {w : World} {K : PySem.W.Frag} {mg : Str → Option Value} {base : Heap} {f : Addr} {cdv : Value} {A : Around} {outer : List Env} {s : Shared} {H0 : Hp} {E : XK} {T : List (Addr × Str)} {v : V} {ns : List Int} {CR CT CK : Addr}
structure S12 (K : PySem.W.Frag) (T : List (Addr × Str)) (v : V) (ns : List Int) (p : Par) (σ : L2.St) (H : Hp) : Prop where
  s : S5 K T v ns p σ H
  a10 : ∃ va, At σ 10 va ∧ DB K H p.b va (dA p)
theorem st12 (h : Hlp P w K mg base) (hgu : A.guards = some []) (hr : Room 8 (A.deeper (envOfC "law" (defScope (top 36)) s.heap.objs.size f cdv))) : Tri (lawX P w K mg base f cdv A outer s H0 E) (lst 12) (fun σ H => ∃ p, S10 K T v ns p σ H) (fun σ H => ∃ p, S12 K T v ns p σ H) := by
  refine ⟨_, ps_set (i := 10) nd36 rfl (Or.inl rfl) (pe_ifExp (pt_cmp (pc_notN (pv 9))) (pe_tup (pa_cons pe_str (pa_cons (pe_cl h.put hr (by decide) pass0 (pa_cons (pv 4) (pa_cons (pv 3) (pa_cons (pv 9) pa_nil)))) pa_nil)))
      (pe_tup (pa_cons pe_str (pa_cons (pe_callB (call_reprD hgu (u65 hr)) rfl h.nm.repr (by decide +kernel) (pa_cons (pv 3) pa_nil)) (pa_cons pe_bl pa_nil))))), fun D σ H q => ?_⟩
  obtain ⟨p, ⟨e1, e2, gd, sl⟩, vq, a9, hvq⟩ := q
  have hcmp := cmp_dA gd.ri gd.okp
  cases ho : onlyF p.rs (oldsOf p.hs) with
  | none =>
    rw [ho] at hvq
    have hvq : DB K H p.b vq .none := hvq
    cases hvq
    have e : dA p = tRef (PyData.shown (.list p.rs)) := by unfold dA; rw [ho]
    refine ⟨_, a9, _, rfl, ifF rfl ⟨_, sl.a3, p.vr, _, rfl, gd.dr.dp, sw_row gd.ri gd.lr, by show 3 ≤ sizeLine; decide, fun T0 hT0 => ?_⟩⟩
    have s1 := Same.nw (o := .tup [.str "refused", .str (PyData.shown (.list p.rs)), .bl true]) hT0
    have g1 := gd.same s1
    refine ⟨p, ⟨e1, e2, g1, sl.set (by decide)⟩, .ref T0, At.new sl.len (by decide), .of ?_ hcmp.nl g1.bx⟩
    rw [e]
    exact ref_dp
  | some pl =>
    rw [ho] at hvq
    have hvq : DB K H p.b vq (.tuple (pl.map pI)) := hvq
    have e : dA p = tTold (.tuple (putFrom p.rs [] 0 (prs p.hs) pl)) := by unfold dA; rw [ho]
    obtain ⟨a1, x1, ev1, _, _⟩ := dInv_tup hvq
    refine ⟨_, a9, _, rfl, ifT (by rw [ev1]; rfl) ⟨_, sl.a4, _, sl.a3, _, a9, p.vp, p.vr, vq, p.rs, .tuple (pl.map pI), pl, p.hs, rfl, gd.dp.dp, gd.dr.dp, hvq.dp, rfl, gd.okp.okHs, gd.okR, fun v1 H1 s1 hv1 => ?_⟩⟩
    refine ⟨by show 2 ≤ sizeLine; decide, fun T0 hT0 => ?_⟩
    have s2 := Same.nw (o := .tup [.str "told", v1]) hT0
    have g2 := (gd.same s1).same s2
    refine ⟨p, ⟨e1, e2, g2, sl.set (by decide)⟩, .ref T0, At.new sl.len (by decide), .of ?_ hcmp.nl g2.bx⟩
    rw [e]
    exact told_dp hv1 hT0
/-- what the answer is, told or refused -/
theorem ans_told {p : Par} {pl : List Nat} (ho : onlyF p.rs (oldsOf p.hs) = some pl) : dA p = tTold (.tuple (putFrom p.rs [] 0 (prs p.hs) pl)) := by unfold dA; rw [ho]
theorem ans_ref {p : Par} (ho : onlyF p.rs (oldsOf p.hs) = none) : dA p = tRef (PyData.shown (.list p.rs)) := by unfold dA; rw [ho]
theorem st13 (h : Hlp P w K mg base) (hd : Hrd K mg) (n : Fns P w K mg base CR CT CK) (le : LamEnv (lawX P w K mg base f cdv A outer s H0 E) T) (hgu : A.guards = some []) (hr : Room 8 (A.deeper (envOfC "law" (defScope (top 36)) s.heap.objs.size f cdv))) :
    Tri (lawX P w K mg base f cdv A outer s H0 E) (lst 13) (fun σ H => ∃ p, S12 K T v ns p σ H) (fun σ H => ∃ p, S12 K T v ns p σ H) := by
  refine ⟨_, ps_if (pt_cmpR (op_neD (u64 hr)) (pe_heard (t := fun E' => tCall (spPD K CR) [] E' (tCons (tVar 4) (tCons (tVar 3) tNil))) h hd n.ef le hgu hr (lamS_by (by decide +kernel)) rfl (by intros; rfl)
      (fun A' outer' s' H' E' f' c' hr' => pe_cl (X := lamCx (lawX P w K mg base f cdv A outer s H0 E) A' outer' s' H' E' _ f' c') (E := E') n.pd hr' (by decide) (passes_call (takes_of rfl rfl rfl rfl) fun _ _ _ _ h => h) (pa_cons (pv 4) (pa_cons (pv 3) pa_nil)))) (pv 10) (nomark _)) (pss_one (ps_ret pe_bl)) pss_nil, fun D σ H q => ?_⟩
  obtain ⟨p, ⟨e1, e2, gd, sl⟩, va, a10, hva⟩ := q
  have hcmp := cmp_dA gd.ri gd.okp
  refine ⟨gd.tb, fun H1 eH t1 => ?_⟩
  have g1 := gd.ext eH t1
  have hva1 := hva.far (Far.ext (b := p.b) eH)
  refine ⟨_, sl.a4, _, sl.a3, p.vp, p.vr, rfl, pre_ok g1.dp.dp g1.dr.dp rfl (map_hk hk_tup3 _) g1.okp rfl g1.okR ⟨fun pl ho v1 H2 s2 hv1 T0 hT0 => ?_, fun ho d H2 s2 hd2 => .inr ⟨rfl, d, p.vr, .list p.rs, rfl, hd2, (g1.same s2).dr.dp, sw_row gd.ri gd.lr, fun T0 hT0 => ?_⟩⟩⟩
  · have s3 := Same.nw (o := .tup [.str "told", v1]) hT0
    have hv3 := told_dp hv1 hT0
    rw [← ans_told ho] at hv3
    have hva3 := hva1.up (Aside.of (b := p.b) (sameT s2 s3))
    refine ⟨va, a10, _, _, hv3, hva3.dp, hcmp.sh, hcmp.sh, _, rfl, ?_⟩
    rw [hcmp.refl]
    exact ifF rfl ⟨p, ⟨e1, e2, (g1.same s2).same s3, sl⟩, va, a10, hva3⟩
  · have s3 := Same.nw (o := .tup [.str "refused", .str (PyData.shown (.list p.rs)), .bl true]) hT0
    have hv3 : Dp K (upd H2 T0 (.tup [.str "refused", .str (PyData.shown (.list p.rs)), .bl true])) (.ref T0) (dA p) := by
      rw [ans_ref ho]
      exact ref_dp
    have hva3 := hva1.up (Aside.of (b := p.b) (sameT s2 s3))
    refine ⟨va, a10, _, _, hv3, hva3.dp, hcmp.sh, hcmp.sh, _, rfl, ?_⟩
    rw [hcmp.refl]
    exact ifF rfl ⟨p, ⟨e1, e2, (g1.same s2).same s3, sl⟩, va, a10, hva3⟩
theorem st14 (h : Hlp P w K mg base) (hd : Hrd K mg) (n : Fns P w K mg base CR CT CK) (le : LamEnv (lawX P w K mg base f cdv A outer s H0 E) T) (hgu : A.guards = some []) (hr : Room 8 (A.deeper (envOfC "law" (defScope (top 36)) s.heap.objs.size f cdv))) :
    Tri (lawX P w K mg base f cdv A outer s H0 E) (lst 14) (fun σ H => ∃ p, S12 K T v ns p σ H) (fun σ H => ∃ p, S5 K T v ns p σ H) := by
  refine ⟨_, ps_if (pt_cmpR (op_neD (u64 hr)) (pe_heard (t := fun E' => L2.tCallN 0 2 (spPD K CR) gRev E' tNil (tCons (tVar 3) (tCons (tVar 4) tNil))) h hd n.ef le hgu hr (lamS_by (by decide +kernel)) rfl (by intros; rfl)
      (fun A' outer' s' H' E' f' c' hr' => pe_clK0 (X := lamCx (lawX P w K mg base f cdv A outer s H0 E) A' outer' s' H' E' _ f' c') (E := E') n.pd0 hr' (by decide) (passes_call (takes_of rfl rfl rfl rfl) fun _ _ _ _ h => h) (pk_cons (pv 3) (pk_cons (pv 4) pk_nil)))) (pv 10) (nomark _)) (pss_one (ps_ret pe_bl)) pss_nil, fun D σ H q => ?_⟩
  obtain ⟨p, ⟨e1, e2, gd, sl⟩, va, a10, hva⟩ := q
  have hcmp := cmp_dA gd.ri gd.okp
  refine ⟨gd.tb, fun H1 eH t1 => ?_⟩
  have g1 := gd.ext eH t1
  have hva1 := hva.far (Far.ext (b := p.b) eH)
  refine ⟨_, sl.a3, _, sl.a4, rfl, rfl, p.vp, p.vr, rfl, pre_ok g1.dp.dp g1.dr.dp rfl (map_hk hk_tup3 _) g1.okp rfl g1.okR ⟨fun pl ho v1 H2 s2 hv1 T0 hT0 => ?_, fun ho d H2 s2 hd2 => .inr ⟨rfl, d, p.vr, .list p.rs, rfl, hd2, (g1.same s2).dr.dp, sw_row gd.ri gd.lr, fun T0 hT0 => ?_⟩⟩⟩
  · have s3 := Same.nw (o := .tup [.str "told", v1]) hT0
    have hv3 := told_dp hv1 hT0
    rw [← ans_told ho] at hv3
    have hva3 := hva1.up (Aside.of (b := p.b) (sameT s2 s3))
    refine ⟨va, a10, _, _, hv3, hva3.dp, hcmp.sh, hcmp.sh, _, rfl, ?_⟩
    rw [hcmp.refl]
    exact ifF rfl ⟨p, e1, e2, (g1.same s2).same s3, sl⟩
  · have s3 := Same.nw (o := .tup [.str "refused", .str (PyData.shown (.list p.rs)), .bl true]) hT0
    have hv3 : Dp K (upd H2 T0 (.tup [.str "refused", .str (PyData.shown (.list p.rs)), .bl true])) (.ref T0) (dA p) := by
      rw [ans_ref ho]
      exact ref_dp
    have hva3 := hva1.up (Aside.of (b := p.b) (sameT s2 s3))
    refine ⟨va, a10, _, _, hv3, hva3.dp, hcmp.sh, hcmp.sh, _, rfl, ?_⟩
    rw [hcmp.refl]
    exact ifF rfl ⟨p, e1, e2, (g1.same s2).same s3, sl⟩
end
end K60
/-! K60Tm: a tuple of one item times an int, of any size from 0. -/
namespace K60
open PySem PySem.Spec PyProof.Rows L2
/-- once: the tuple itself -/
theorem tuple_mul1 (l : Addr) (items : Array Value) (n : Nat) (dd : Option Addr) (sl : Array (Option Value)) (u : Tok) :
    Meets (Builtin.«tuple.__mul__» ⟨[.ref l, .int 1 u], []⟩) (fun _ R s => s.heap.get? l = some { cls := .type "tuple", dict := dd, data := .seq items n, slots := sl } ∧ R (.ok (.ret (Value.ref l))) s) :=
  .of_wp fun prog w A R s h => by
    obtain ⟨hp, g, d, tk, os⟩ := s
    obtain ⟨hl, h⟩ := h
    have f1 := AutoSeq1.idx_int
    have c1 : (items.isEmpty || (1 : Int) == 1) = true := by simp
    wp_walk using wpAny_loadPart' hl
    repeat (first
      | (refine wpAny_ite_true (decide_eq_true (by rw [c1])) ?_; wp_walk using wpAny_loadPart' hl)
      | (refine wpAny_ite_true rfl ?_; wp_walk using wpAny_loadPart' hl)
      | (refine wpAny_ite_false (decide_eq_false (by decide)) ?_; wp_walk using wpAny_loadPart' hl))
    exact ⟨_, rfl, h⟩
/-- no times: an empty tuple, laid anew -/
theorem tuple_mul0 (l : Addr) (items : Array Value) (n : Nat) (dd : Option Addr) (sl : Array (Option Value)) (u : Tok) (hi : items.isEmpty = false) :
    Meets (Builtin.«tuple.__mul__» ⟨[.ref l, .int 0 u], []⟩) (fun _ R s => s.heap.get? l = some { cls := .type "tuple", dict := dd, data := .seq items n, slots := sl } ∧
      R (.ok (.ret (Value.ref s.heap.objs.size))) { s with heap := s.heap.push { cls := Value.type "tuple", data := Data.seq #[] }, toks := s.toks }) :=
  .of_wp fun prog w A R s h => by
    obtain ⟨hp, g, d, tk, os⟩ := s
    obtain ⟨hl, h⟩ := h
    have f1 := AutoSeq1.idx_int
    have c1 : (items.isEmpty || (0 : Int) == 1) = false := by rw [hi]; rfl
    have c2 : (decide ((0 : Int) ≤ 0) || items.isEmpty) = true := by simp
    wp_walk using wpAny_loadPart' hl
    repeat (first
      | (refine wpAny_ite_false (decide_eq_false (by rw [c1]; exact Bool.false_ne_true)) ?_; wp_walk using wpAny_loadPart' hl)
      | (refine wpAny_ite_true (decide_eq_true (by rw [c2])) ?_; wp_walk using wpAny_loadPart' hl)
      | (refine wpAny_ite_true rfl ?_; wp_walk using wpAny_loadPart' hl)
      | (refine wpAny_ite_false (decide_eq_false (by decide)) ?_; wp_walk using wpAny_loadPart' hl))
    exact ⟨_, rfl, h⟩

def rRepN (K : PySem.W.Frag) : R2 := fun x y H Q => ∃ d, ∃ k : Nat, Dp K H x (.tuple [d]) ∧ y = .int (k : Int) ∧ k ≤ 1000 ∧ ∀ v H', Same H H' → Dp K H' v (.tuple (List.replicate k d)) → Q v H'
theorem flat1 {α : Type} (x : α) : ∀ n : Nat, (List.replicate n [x]).flatten = List.replicate n x
  | 0 => rfl
  | n + 1 => by
    rw [List.replicate_succ, List.flatten_cons, flat1 x n, List.replicate_succ]
    rfl
theorem daRep {K : PySem.W.Frag} {H : Hp} {v : V} {d : PyData} (h : Dp K H v d) : ∀ n : Nat, DpAll K H (List.replicate n v) (List.replicate n d)
  | 0 => .nil
  | n + 1 => .cons h (daRep h n)
section
variable {X : Cx}
theorem op_repN : OpR X (binaryOp .Mult) (rRepN X.K) := by
  intro pins s σ H x y v u Q I rx ry h
  obtain ⟨d, k, hd, rfl, hk, q⟩ := h
  obtain ⟨l, xs, rfl, hT, ha⟩ := dInv_tup hd
  obtain ⟨z, rfl, hz⟩ : ∃ z, xs = [z] ∧ Dp X.K H z d := by
    cases ha with
    | cons h1 h2 =>
      cases h2
      exact ⟨_, rfl, h1⟩
  by_cases h2 : 2 ≤ k
  · refine op_repT pins s σ H _ _ v u Q I rx ry ⟨l, (k : Int), [z], rfl, rfl, hT, (by simp), by omega, by omega, (by show 1 ≤ 1000; decide), fun p hp => ?_⟩
    rw [Int.toNat_natCast, flat1]
    exact q _ _ (Same.nw hp) (dTup upd_same (DmA (daRep hz k) (Same.nw hp)))
  · cases rx
    obtain ⟨t, rfl⟩ := ry
    obtain ⟨its, r, ⟨⟨cls, dd, data, sl⟩, ho, hc, n, hdt⟩, hs⟩ := I.tuple hT
    simp only at hc hdt
    subst hc hdt
    have hle : its.length = 1 := r.length.symm
    have hi : its.toArray.isEmpty = false := by
      cases its with
      | nil => cases hle
      | cons a b => rfl
    by_cases h1 : k = 1
    · subst h1
      refine wpAny_binaryOp_repeat_ref (T := "tuple") (U := "int") (by decide) ⟨_, ho, rfl⟩ (fun s' => typeIs_int s' 1 t) noFill_tuple_mul F.fills_int_mul F.slot_int_rmul repeat_tuple F.slot_int_index.lookup
        (call_meets F.slot_int_rmul (typeIs_int s 1 t) F.entry_int_rmul (F.args_int_rmul_2 _ _) (int_rmul_tuple 1 t l its.toArray n dd sl)
          ⟨ho, rfl, ⟨_, ho, rfl⟩, call_meets F.slot_tuple_mul ⟨_, ho, rfl⟩ F.entry_tuple_mul (F.args_tuple_mul_2 _ _) (tuple_mul1 l its.toArray n dd sl t) ⟨ho, ?_⟩⟩)
      exact ⟨.ref l, H, I, rfl, q _ _ sameR hd⟩
    · obtain rfl : k = 0 := by omega
      refine wpAny_binaryOp_repeat_ref (T := "tuple") (U := "int") (by decide) ⟨_, ho, rfl⟩ (fun s' => typeIs_int s' 0 t) noFill_tuple_mul F.fills_int_mul F.slot_int_rmul repeat_tuple F.slot_int_index.lookup
        (call_meets F.slot_int_rmul (typeIs_int s 0 t) F.entry_int_rmul (F.args_int_rmul_2 _ _) (int_rmul_tuple 0 t l its.toArray n dd sl)
          ⟨ho, rfl, ⟨_, ho, rfl⟩, call_meets F.slot_tuple_mul ⟨_, ho, rfl⟩ F.entry_tuple_mul (F.args_tuple_mul_2 _ _) (tuple_mul0 l its.toArray n dd sl t hi) ⟨ho, ?_⟩⟩)
      refine ⟨.ref s.heap.objs.size, _, I.laid (t' := s.toks) (o := .tup []) (fun b ob q => Heap.get?_push_of_some _ q) (Nat.le_refl _) ?_, rfl, q _ _ (Same.nw (I.hok.fresh (Nat.le_refl _))) (dTup upd_same .nil)⟩
      exact ⟨by show 0 ≤ sizeLine; exact Nat.zero_le _, _, .nil, IsTup.new _ _⟩
end
theorem repK {X : Cx} (K : PySem.W.Frag) (h : X.K = K := by rfl) : OpR X (binaryOp .Mult) (rRepN K) := h ▸ op_repN
end K60
/-! K60W6: the values that are tried as places. -/
namespace K60
open PySem PySem.Spec PyProof.Rows L2 LamX

inductive VItem : PyData → Prop
  | int {i : Int} : -1000 ≤ i → i ≤ 1000 → VItem (.int i)
  | bl {b : Bool} : VItem (.bool b)
inductive ValOk : PyData → Prop
  | non : ValOk .none
  | tup {es : List PyData} : es.length ≤ 4 → (∀ e ∈ es, VItem e) → ValOk (.tuple es)
  | lst {es : List PyData} : es.length ≤ 4 → (∀ e ∈ es, VItem e) → ValOk (.list es)
def valsOf (p : Par) : List PyData := ((p.due.take 2).map tupI) ++ [.tuple (p.hs.map fun h => pI h.1), .none, .tuple [], .list (List.replicate p.hs.length (.int 0)), .tuple (List.replicate p.hs.length (.int (0 - 1))),
  .tuple (List.replicate p.hs.length (.bool true)), .tuple (List.replicate p.hs.length (.int 99)), .tuple (List.replicate (p.hs.length + 1) (.int 0))]
theorem rep_items {n : Nat} {d : PyData} (h : VItem d) : ∀ e ∈ List.replicate n d, VItem e := fun e he => by
  rw [(List.mem_replicate.mp he).2]
  exact h
theorem vals_ok {p : Par} (hr : p.rs.length ≤ 20) (ok : PatchOk p.hs) : ∀ d ∈ valsOf p, ValOk d := fun d hd => by
  have hl := ok.len
  have rl : ∀ {n : Nat} {d : PyData}, n ≤ 4 → (List.replicate n d).length ≤ 4 := fun h => by rw [List.length_replicate]; exact h
  rcases List.mem_append.mp hd with hd | hd
  · obtain ⟨pl, hpl, rfl⟩ := List.mem_map.mp hd
    have hf := mem_fitsFrom.mp (List.mem_of_mem_take hpl)
    refine .tup (by rw [List.length_map, hf.length, List.length_map]; omega) fun e he => ?_
    obtain ⟨q, hq, rfl⟩ := List.mem_map.mp he
    have := hf.le q hq
    exact .int (by omega) (by omega)
  · have hd : d ∈ [PyData.tuple (p.hs.map fun h => pI h.1), .none, .tuple [], .list (List.replicate p.hs.length (.int 0)), .tuple (List.replicate p.hs.length (.int (0 - 1))),
      .tuple (List.replicate p.hs.length (.bool true)), .tuple (List.replicate p.hs.length (.int 99)), .tuple (List.replicate (p.hs.length + 1) (.int 0))] := hd
    simp only [List.mem_cons, List.not_mem_nil, or_false] at hd
    rcases hd with e | e | e | e | e | e | e | e <;> rw [e]
    · refine .tup (by rw [List.length_map]; omega) fun e he => ?_
      obtain ⟨h, hh, rfl⟩ := List.mem_map.mp he
      have := ok.pos h hh
      exact .int (by omega) (by omega)
    · exact .non
    · exact .tup (by show 0 ≤ 4; decide) fun e he => by cases he
    · exact .lst (rl (by omega)) (rep_items (.int (by decide) (by decide)))
    · exact .tup (rl (by omega)) (rep_items (.int (by decide) (by decide)))
    · exact .tup (rl (by omega)) (rep_items .bl)
    · exact .tup (rl (by omega)) (rep_items (.int (by decide) (by decide)))
    · exact .tup (rl (by omega)) (rep_items (.int (by decide) (by decide)))
theorem VItem.sw {d : PyData} (h : VItem d) : Sw 0 0 d := by
  cases h with
  | int h1 h2 => exact Sw.int (by omega) (by omega)
  | bl => exact Sw.bool
theorem VItem.so {d : PyData} (h : VItem d) : SO d := by
  cases h with
  | int _ _ => exact SO.int
  | bl => exact SO.bool
theorem VItem.nl {d : PyData} (h : VItem d) : K60.nl d = true := by cases h <;> rfl
theorem ValOk.sw {d : PyData} (h : ValOk d) : Sw 60 1000000 d := by
  cases h with
  | non => exact Sw.non.mono (by decide) (by decide)
  | tup hl hi => exact (Sw.tuple fun e he => (hi e he).sw).mono (by decide) (by omega)
  | lst hl hi => exact (Sw.list fun e he => (hi e he).sw).mono (by decide) (by omega)
theorem ValOk.so {d : PyData} (h : ValOk d) : SO d := by
  cases h with
  | non => exact SO.non
  | tup hl hi => exact SO.tuple fun e he => (hi e he).so
  | lst hl hi => exact SO.list fun e he => (hi e he).so

section
variable {P : Program} {w : World} {K : PySem.W.Frag} {mg : Str → Option Value} {base : Heap} {f : Addr} {cdv : Value} {A : Around} {outer : List Env} {s : Shared} {H0 : Hp} {E : XK} {T : List (Addr × Str)} {v : V} {ns : List Int} {CR CT CK : Addr}
structure S15 (K : PySem.W.Frag) (T : List (Addr × Str)) (v : V) (ns : List Int) (p : Par) (σ : L2.St) (H : Hp) : Prop where
  s : S5 K T v ns p σ H
  a11 : ∃ vv, At σ 11 vv ∧ DB K H p.b vv (.list (valsOf p))
theorem daNlB {K : PySem.W.Frag} {H : Hp} {b : Addr} {v : V} {d : PyData} (h : Dp K H v d) (x : Bx H b) (n : nl d = true) : Dp K (del H b) v d := dN (sameN_del x) d v n h
theorem rep_nl {n : Nat} {d : PyData} (h : nl d = true) : nl (.tuple (List.replicate n d)) = true := by
  rw [nl_tuple]
  exact nlA_iff.mpr fun e he => by
    rw [(List.mem_replicate.mp he).2]
    exact h
theorem st15 (h : Hlp P w K mg base) (hr : Room 8 (A.deeper (envOfC "law" (defScope (top 36)) s.heap.objs.size f cdv))) : Tri (lawX P w K mg base f cdv A outer s H0 E) (lst 15) (fun σ H => ∃ p, S5 K T v ns p σ H) (fun σ H => ∃ p, S15 K T v ns p σ H) := by
  refine ⟨_, ps_set (i := 11) nd36 rfl (Or.inl rfl) (pe_op op_cat (pe_callTy (T := "list") (lstK K) rfl h.nm.list (by decide +kernel) (pa_cons (pe_slice (slK K) (pv 5) po_none (po_some pe_int)) pa_nil))
      (pe_lst (pa_cons (pe_callTy (T := "tuple") (tupK K) rfl h.nm.tuple (by decide +kernel) (pa_cons (pe_lc (own := [("_law_hunk", 20)]) (g := gName 20) (tt := tYes) rfl nd36 (pi_seqF (pv 4)) (blkOk_by (N := N36) (sc := defScope (top 36)) (by decide +kernel)) (fun _ _ _ _ _ => pg_name (i := 20) nd36 rfl (Or.inl rfl)) (fun _ _ _ _ _ => pts_nil)
          (fun _ _ _ _ _ => pe_ix (ixK K) (pv 20) pe_int (fun _ _ => rfl))) pa_nil))
        (pa_cons pe_non (pa_cons (pe_tup pa_nil) (pa_cons (pe_op op_rep (pe_lst (pa_cons pe_int pa_nil)) (pe_callB (id := "len") (lenK K) rfl h.nm.len (by decide +kernel) (pa_cons (pv 4) pa_nil)))
        (pa_cons (pe_op (repK K) (pe_tup (pa_cons (pe_sub pe_int pe_int) pa_nil)) (pe_callB (id := "len") (lenK K) rfl h.nm.len (by decide +kernel) (pa_cons (pv 4) pa_nil)))
        (pa_cons (pe_op (repK K) (pe_tup (pa_cons pe_bl pa_nil)) (pe_callB (id := "len") (lenK K) rfl h.nm.len (by decide +kernel) (pa_cons (pv 4) pa_nil)))
        (pa_cons (pe_op (repK K) (pe_tup (pa_cons pe_int pa_nil)) (pe_callB (id := "len") (lenK K) rfl h.nm.len (by decide +kernel) (pa_cons (pv 4) pa_nil)))
        (pa_cons (pe_op (repK K) (pe_tup (pa_cons pe_int pa_nil)) (pe_add (pe_callB (id := "len") (lenK K) rfl h.nm.len (by decide +kernel) (pa_cons (pv 4) pa_nil)) pe_int)) pa_nil))))))))))
      , fun D σ H q => ?_⟩
  obtain ⟨p, e1, e2, gd, sl⟩ := q
  have hlen := gd.okp.len
  have hsl : (10000 : Nat) ≤ sizeLine := by rw [sizeLine_eq]; decide
  have lm : (p.hs.map tup3).length = p.hs.length := List.length_map _
  refine ⟨_, sl.a5, _, rfl, _, _, gd.dd.dp, rfl, fun v1 H1 s1 hv1 => ?_⟩
  rw [show (some (2 : Int)) = some ((2 : Nat) : Int) from rfl, cutL_to, ← List.map_take] at hv1
  obtain ⟨a1, ys1, rfl, hq1, ha1⟩ := dInv_tup hv1
  have hl1' := daLen ha1
  rw [List.length_map, List.length_take] at hl1'
  refine ⟨a1, ys1, rfl, .inr hq1, fun l1 hl1 => ?_⟩
  have sl1 := Same.nw (o := .lst ys1) hl1
  have g2 := (gd.same s1).same sl1
  have nl1 := (gd.same s1).bx.ne hl1
  have hH2 : upd H1 l1 (.lst ys1) l1 = some (.lst ys1) := upd_same
  have hy2 := DmA ha1 sl1
  generalize upd H1 l1 (.lst ys1) = H2 at g2 hH2 hy2
  -- tuple([hunk[0] ..])
  obtain ⟨t, a, xs, ev, hq, ha, _⟩ := seqOf g2.dp.dp rfl
  have hlx := daLen ha
  rw [List.length_map] at hlx
  refine ⟨_, sl.a4, t, a, xs, ev, hq, fun J wk D hD => ?_⟩
  refine lc_data (K := K) (fun i => (p.hs[i]?).map fun h => pI h.1) wk (by omega) hD (fun i e hi he => ?_) (fun H s => hq.up s) (fun i x H4 H4' Ky Kn hi s4 y ky kn => ?_) (fun H3 acc s3 hacc hda => ?_)
  · obtain ⟨hh, _, rfl⟩ := Option.map_eq_some_iff.mp he
    rfl
  · obtain ⟨rfl, hx⟩ := y
    obtain ⟨d', hd', hx'⟩ := daGet ha hx
    rw [List.getElem?_map] at hd'
    obtain ⟨hh, mh, rfl⟩ := Option.map_eq_some_iff.mp hd'
    exact ⟨wipe1, _, At.new (n := 22) (setL sl.len) (by decide), _, _, 0, _, Dm hx' s4, rfl, rfl, rfl, fun v9 hv9 => ky (pI hh.1) (by rw [mh]; rfl) _ _ sameR hv9⟩
  rw [range_map p.hs (fun h => pI h.1) hlx] at hda
  refine ⟨.ref D, .list _, _, rfl, dLst hacc hda, rfl, fun v2 H5 s5 hv2 => ?_⟩
  have s25 := sameT s3 s5
  have g5 := g2.same s25
  refine ⟨by show 0 ≤ sizeLine; exact Nat.zero_le _, fun T3 hT3 => ?_⟩
  have sT3 := Same.nw (o := .tup []) hT3
  have g6 := g5.same sT3
  have h63 : Dp K (upd H5 T3 (.tup [])) (.ref T3) (.tuple []) := dTup upd_same .nil
  generalize upd H5 T3 (.tup []) = H6 at sT3 g6 h63
  refine ⟨by show 1 ≤ sizeLine; decide, fun l4 hl4 => ?_⟩
  have sl4 := Same.nw (o := .lst [V.int 0]) hl4
  have g7 := g6.same sl4
  refine ⟨_, sl.a4, p.vp, _, _, rfl, g7.dp.dp, rfl, l4, _, [V.int 0], rfl, rfl, upd_same, by rw [lm]; omega, by rw [lm]; omega, by show 1 * (((p.hs.map tup3).length : Nat) : Int).toNat ≤ sizeLine; rw [lm]; omega, fun p4 hp4 => ?_⟩
  rw [Int.toNat_natCast, lm, flat1]
  have np4 := g7.bx.ne hp4
  have sp4 := Same.nw (o := .lst (List.replicate p.hs.length (V.int 0))) hp4
  have s68 := sameT sl4 sp4
  have g8 := g7.same sp4
  have h84 : upd (upd H6 l4 (.lst [V.int 0])) p4 (.lst (List.replicate p.hs.length (V.int 0))) p4 = some (.lst (List.replicate p.hs.length (V.int 0))) := upd_same
  generalize upd (upd H6 l4 (.lst [V.int 0])) p4 (.lst (List.replicate p.hs.length (V.int 0))) = H8 at s68 g8 h84
  have b84 : DB K H8 p.b (.ref p4) (.list (List.replicate p.hs.length (.int 0))) := .lst h84 np4 (daRep (.int 0) _) (nlA_iff.mpr fun e he => by rw [(List.mem_replicate.mp he).2]; rfl) g8.bx
  refine ⟨_, _, rfl, rfl, by show 1 ≤ sizeLine; decide, fun T5 hT5 => ?_⟩
  have sT5 := Same.nw (o := .tup [V.int (0 - 1)]) hT5
  have g9 := g8.same sT5
  refine ⟨_, sl.a4, p.vp, _, _, rfl, g9.dp.dp, rfl, .int (0 - 1), _, dTup upd_same (.cons (.int _) .nil), rfl, by rw [lm]; omega, fun v5 HA sA hv5 => ?_⟩
  have s8A := sameT sT5 sA
  have gA := g8.same s8A
  refine ⟨by show 1 ≤ sizeLine; decide, fun T6 hT6 => ?_⟩
  have sT6 := Same.nw (o := .tup [V.bl true]) hT6
  have gB := gA.same sT6
  refine ⟨_, sl.a4, p.vp, _, _, rfl, gB.dp.dp, rfl, .bool true, _, dTup upd_same (.cons (.bl _) .nil), rfl, by rw [lm]; omega, fun v6 HC sC hv6 => ?_⟩
  have sAC := sameT sT6 sC
  have gC := gA.same sAC
  refine ⟨by show 1 ≤ sizeLine; decide, fun T7 hT7 => ?_⟩
  have sT7 := Same.nw (o := .tup [V.int 99]) hT7
  have gD := gC.same sT7
  refine ⟨_, sl.a4, p.vp, _, _, rfl, gD.dp.dp, rfl, .int 99, _, dTup upd_same (.cons (.int _) .nil), rfl, by rw [lm]; omega, fun v7 HE' sE hv7 => ?_⟩
  have sCE := sameT sT7 sE
  have gE := gC.same sCE
  refine ⟨by show 1 ≤ sizeLine; decide, fun T8 hT8 => ?_⟩
  have sT8 := Same.nw (o := .tup [V.int 0]) hT8
  have gF := gE.same sT8
  refine ⟨_, sl.a4, p.vp, _, _, rfl, gF.dp.dp, rfl, _, _, rfl, rfl, .int 0, (p.hs.map tup3).length + 1, dTup upd_same (.cons (.int _) .nil), rfl, by rw [lm]; omega, fun v8 HG sG hv8 => ?_⟩
  have sEG := sameT sT8 sG
  have gG := gE.same sEG
  rw [lm] at hv5 hv6 hv7 hv8
  refine ⟨by show 8 ≤ sizeLine; decide, fun l9 hl9 => ?_⟩
  have s2G : Same H2 HG := sameT s25 (sameT sT3 (sameT s68 (sameT s8A (sameT sAC (sameT sCE sEG)))))
  have sl9 := Same.nw (o := .lst [v2, .non, .ref T3, .ref p4, v5, v6, v7, v8]) hl9
  refine ⟨l1, l9, ys1, _, rfl, rfl, sl9 _ _ (s2G _ _ hH2), upd_same, by show ys1.length + 8 ≤ sizeLine; omega, fun lv hlv => ?_⟩
  have slv := Same.nw (o := .lst (ys1 ++ [v2, .non, .ref T3, .ref p4, v5, v6, v7, v8])) hlv
  have gH := (gG.same sl9).same slv
  have nlv := (gG.same sl9).bx.ne hlv
  have sGf := sameT sl9 slv
  have hlvf : upd (upd HG l9 (.lst [v2, .non, .ref T3, .ref p4, v5, v6, v7, v8])) lv (.lst (ys1 ++ [v2, .non, .ref T3, .ref p4, v5, v6, v7, v8])) lv = some (.lst (ys1 ++ [v2, .non, .ref T3, .ref p4, v5, v6, v7, v8])) := upd_same
  generalize upd (upd HG l9 (.lst [v2, .non, .ref T3, .ref p4, v5, v6, v7, v8])) lv (.lst (ys1 ++ [v2, .non, .ref T3, .ref p4, v5, v6, v7, v8])) = Hf at sGf gH hlvf
  have bx := gH.bx
  have sEf := sameT sEG sGf
  have sCf := sameT sCE sEf
  have sAf := sameT sAC sCf
  have s8f := sameT s8A sAf
  have s6f := sameT s68 s8f
  have s5f := sameT sT3 s6f
  have s2f := sameT s2G sGf
  have nl2 : nlA ((p.due.take 2).map tupI) = true := nlA_iff.mpr fun d hd => by
    obtain ⟨pl, _, rfl⟩ := List.mem_map.mp hd
    exact tupI_nl pl
  have nlp : nl (.tuple (p.hs.map fun h => pI h.1)) = true := by
    rw [nl_tuple]
    exact nlA_iff.mpr fun d hd => by
      obtain ⟨x, _, rfl⟩ := List.mem_map.mp hd
      rfl
  refine ⟨p, ⟨e1, e2, gH, sl.set (by decide)⟩, .ref lv, At.new sl.len (by decide), dLst (by rw [del_ne nlv]; exact hlvf) (daApp (dNA (sameN_del bx) _ _ nl2 (DmA hy2 s2f)) ?_)⟩
  refine .cons (daNlB (Dm hv2 s5f) bx nlp) (.cons .non (.cons (daNlB (Dm h63 s6f) bx rfl) (.cons (b84.up (Aside.of s8f)) (.cons (daNlB (Dm hv5 sAf) bx (rep_nl rfl)) (.cons (daNlB (Dm hv6 sCf) bx (rep_nl rfl))
    (.cons (daNlB (Dm hv7 sEf) bx (rep_nl rfl)) (.cons (daNlB (Dm hv8 sGf) bx (rep_nl rfl)) .nil)))))))
end
end K60
/-! K60W7: patched_at at the values. -/
namespace K60
open PySem PySem.Spec PyProof.Rows L2 LamX

def in16 : List Stmt := match lst 16 with
  | .For _ _ b _ _ => b
  | _ => []
def i16 (i : Nat) : Stmt := in16.getD i (.Pass ⟨0, 0, 0, 0⟩)
theorem isiK {X : Cx} (K : PySem.W.Frag) (h : X.K = K := by rfl) : CallR X (.builtin "isinstance") (rIsi K) := h ▸ call_isi
/-- a statement in a loop, what the loop is about being fixed -/
structure Ix where
  p : Par
  a : Addr
  xs : List V
  d : PyData
def TriP {ι : Type} (X : Cx) (st : Stmt) (Pre Mid : ι → L2.St → Hp → Prop) : Prop := ∃ t, PS X st t ∧ ∀ (i : ι) (D : Ends) σ H, Pre i σ H → t { D with nx := Mid i } σ H
def TrisP {ι : Type} (X : Cx) (sts : List Stmt) (Pre Post : ι → L2.St → Hp → Prop) : Prop := ∃ t, PSs X sts t ∧ ∀ (i : ι) (D : Ends) σ H, Pre i σ H → (∀ σ' H', Post i σ' H' → D.nx σ' H') → t D σ H
theorem TrisP.nil {ι : Type} {X : Cx} {Pre : ι → L2.St → Hp → Prop} : TrisP X [] Pre Pre := ⟨_, pss_nil, fun i D σ H h hp => hp _ _ h⟩
theorem TrisP.cons {ι : Type} {X : Cx} {st : Stmt} {rest : List Stmt} {Pre Mid Post : ι → L2.St → Hp → Prop} (h1 : TriP X st Pre Mid) (h2 : TrisP X rest Mid Post) : TrisP X (st :: rest) Pre Post := by
  obtain ⟨t, ht, h1⟩ := h1
  obtain ⟨u, hu, h2⟩ := h2
  exact ⟨_, C8.pss_cut ht hu, fun i D σ H h hp => ⟨Mid i, h1 i D σ H h, fun σ' H' m => h2 i D σ' H' m hp⟩⟩
/-! ### plain -/
theorem eqv_ints : ∀ (pl : List Nat) (es : List PyData), (∀ e ∈ es, VItem e) → (∀ e ∈ es, isBoolD e = false) → PyData.eqvAll (pl.map pI) es = true → es = pl.map pI
  | [], [], _, _, _ => rfl
  | [], _ :: _, _, _, h => by simp [PyData.eqvAll] at h
  | _ :: _, [], _, _, h => by simp [PyData.eqvAll] at h
  | q :: pl, e :: es, hv, hb, h => by
    simp only [List.map_cons, PyData.eqvAll, Bool.and_eq_true] at h
    have ih := eqv_ints pl es (fun x hx => hv x (List.mem_cons_of_mem _ hx)) (fun x hx => hb x (List.mem_cons_of_mem _ hx)) h.2
    have h1 := hv e List.mem_cons_self
    have h2 := hb e List.mem_cons_self
    cases h1 with
    | int _ _ =>
      have h3 := h.1
      unfold pI at h3
      simp only [PyData.eqv] at h3
      rw [ih, List.map_cons]
      unfold pI
      rw [eq_of_beq h3]
    | bl => cases h2
/-- the places that a value tells, fitting or not -/
def Fits (p : Par) (d : PyData) (pl : List Nat) : Prop := seqD d = some (pl.map pI) ∧ Fit p.rs 0 (oldsOf p.hs) pl
def Right (p : Par) (d : PyData) (r : Bool) : Prop := (r = true → ∃ pl, Fits p d pl) ∧ (r = false → ∀ pl, ¬ Fits p d pl)
def Plain (p : Par) (d dp : PyData) : Prop := (∃ pl, Fits p d pl ∧ dp = tTold (.tuple (putFrom p.rs [] 0 (prs p.hs) pl))) ∨ ((∀ pl, ¬ Fits p d pl) ∧ dp = tRef d.shown)
theorem plain_cmp {p : Par} {d dp : PyData} (h : Plain p d dp) (hv : ValOk d) (hr : ∀ d ∈ p.rs, RowItem d) (ok : PatchOk p.hs) : Cmp dp := by
  rcases h with ⟨pl, _, rfl⟩ | ⟨_, rfl⟩
  · exact cmp_put hr ok pl
  · exact cmp_ref hv.so
theorem ValOk.seq {d : PyData} (h : ValOk d) {es : List PyData} (e : seqD d = some es) : es.length ≤ 4 ∧ ∀ x ∈ es, VItem x := by
  cases h with
  | non => cases e
  | tup h1 h2 => cases e; exact ⟨h1, h2⟩
  | lst h1 h2 => cases e; exact ⟨h1, h2⟩
theorem right_of {p : Par} {d : PyData} {es : List PyData} (e : seqD d = some es) (hv : ∀ x ∈ es, VItem x) : Right p d ((p.due.map tupI).any (fun z => PyData.eqv z (.tuple es)) && decide (es.filter isBoolD = [])) := by
  refine ⟨fun h => ?_, fun h pl hf => ?_⟩
  · rw [Bool.and_eq_true, List.any_eq_true, decide_eq_true_eq] at h
    obtain ⟨⟨z, hz, he⟩, hb⟩ := h
    obtain ⟨pl, hpl, rfl⟩ := List.mem_map.mp hz
    have hb2 : ∀ x ∈ es, isBoolD x = false := fun x hx => by
      cases hxb : isBoolD x with
      | false => rfl
      | true =>
        have : x ∈ es.filter isBoolD := List.mem_filter.mpr ⟨hx, hxb⟩
        rw [hb] at this
        cases this
    unfold tupI at he
    simp only [PyData.eqv] at he
    have ee := eqv_ints pl es hv hb2 he
    exact ⟨pl, by rw [e, ee], mem_fitsFrom.mp hpl⟩
  · obtain ⟨h1, h2⟩ := hf
    rw [e] at h1
    have ee := Option.some.inj h1
    subst ee
    have h3 : ((p.due.map tupI).any (fun z => PyData.eqv z (.tuple (pl.map pI))) && decide ((pl.map pI).filter isBoolD = [])) = true := by
      rw [Bool.and_eq_true, List.any_eq_true, decide_eq_true_eq]
      refine ⟨⟨tupI pl, List.mem_map.mpr ⟨pl, mem_fitsFrom.mpr h2, rfl⟩, ?_⟩, ?_⟩
      · unfold tupI
        simp only [PyData.eqv]
        rw [pI_eqv]
        exact decide_eq_true rfl
      · refine List.filter_eq_nil_iff.mpr fun x hx => ?_
        obtain ⟨q, _, rfl⟩ := List.mem_map.mp hx
        exact Bool.false_ne_true
    rw [h3] at h
    cases h
theorem fm_filter2 (es : List PyData) {n : Nat} (hn : n = es.length) : (List.range n).filterMap (fun i => (es[i]?).bind fun e => if isBoolD e = true then some e else none) = es.filter isBoolD := by
  subst hn
  have key : ∀ l : List PyData, (List.range l.length).filterMap (fun i => (l[i]?).bind fun e => if isBoolD e = true then some e else none) = l.filter isBoolD := by
    intro l
    induction l with
    | nil => rfl
    | cons x l ih =>
      rw [List.length_cons, List.range_succ_eq_map, List.filterMap_cons, List.filter_cons, List.filterMap_map]
      have e2 : ((fun i => ((x :: l)[i]?).bind fun e => if isBoolD e = true then some e else none) ∘ Nat.succ) = fun i => (l[i]?).bind fun e => if isBoolD e = true then some e else none := rfl
      rw [e2, ih]
      have e3 : (((x :: l)[0]?).bind fun e => if isBoolD e = true then some e else none) = if isBoolD x = true then some x else none := rfl
      rw [e3]
      cases isBoolD x <;> rfl
  exact key es
theorem eqv_nil (l : List PyData) : PyData.eqv (.list l) (.list []) = decide (l = []) := by
  simp only [PyData.eqv]
  cases l with
  | nil => simp [PyData.eqvAll]
  | cons x l => simp [PyData.eqvAll]

section
variable {P : Program} {w : World} {K : PySem.W.Frag} {mg : Str → Option Value} {base : Heap} {f : Addr} {cdv : Value} {A : Around} {outer : List Env} {s : Shared} {H0 : Hp} {E : XK} {T : List (Addr × Str)} {v : V} {ns : List Int} {CR CT CK : Addr} {p : Par} {a : Addr} {xs : List V} {d : PyData}
/-- within the loop: the list of values at a stands, d is the value at hand -/
structure I0 (K : PySem.W.Frag) (T : List (Addr × Str)) (v : V) (ns : List Int) (p : Par) (a : Addr) (xs : List V) (σ : L2.St) (H : Hp) : Prop where
  s : S5 K T v ns p σ H
  q : SqL K (del H p.b) a xs
  ds : DpAll K (del H p.b) xs (valsOf p)
structure I1 (K : PySem.W.Frag) (T : List (Addr × Str)) (v : V) (ns : List Int) (p : Par) (a : Addr) (xs : List V) (d : PyData) (σ : L2.St) (H : Hp) : Prop where
  i : I0 K T v ns p a xs σ H
  ok : ValOk d
  a12 : ∃ vl, At σ 12 vl ∧ DB K H p.b vl d
theorem I0.far {σ : L2.St} {H H' : Hp} (i : I0 K T v ns p a xs σ H) (e : Far p.b H H') (x : Bx H' p.b) (t : Tabs T H') : I0 K T v ns p a xs σ H' := ⟨⟨i.s.1, i.s.2.1, i.s.2.2.1.far e x t, i.s.2.2.2⟩, seqX e i.q, dXA e _ _ i.ds⟩
theorem I0.same {σ : L2.St} {H H' : Hp} (i : I0 K T v ns p a xs σ H) (e : Same H H') : I0 K T v ns p a xs σ H' := i.far (Far.of (Aside.of e)) (i.s.2.2.1.bx.up e) (i.s.2.2.1.tb.ext e)
theorem I0.set {σ : L2.St} {H : Hp} {j : Nat} {x : Option V} (i : I0 K T v ns p a xs σ H) (h : 6 ≤ j) : I0 K T v ns p a xs (σ.set j x) H := ⟨⟨i.s.1, i.s.2.1, i.s.2.2.1, i.s.2.2.2.set h⟩, i.q, i.ds⟩
theorem I1.same {σ : L2.St} {H H' : Hp} (i : I1 K T v ns p a xs d σ H) (e : Same H H') : I1 K T v ns p a xs d σ H' := by
  obtain ⟨i0, ok, vl, h1, h2⟩ := i
  exact ⟨i0.same e, ok, vl, h1, h2.up (Aside.of e)⟩
theorem I1.set {σ : L2.St} {H : Hp} {j : Nat} {x : Option V} (i : I1 K T v ns p a xs d σ H) (h : 13 ≤ j) : I1 K T v ns p a xs d (σ.set j x) H := by
  obtain ⟨i0, ok, vl, h1, h2⟩ := i
  exact ⟨i0.set (by omega), ok, vl, h1.set (by omega), h2⟩
theorem sa16 (h : Hlp P w K mg base) (hr : Room 8 (A.deeper (envOfC "law" (defScope (top 36)) s.heap.objs.size f cdv))) : TriP (lawX P w K mg base f cdv A outer s H0 E) (i16 0) (fun i : Ix => I1 K T v ns i.p i.a i.xs i.d) (fun i σ H => I1 K T v ns i.p i.a i.xs i.d σ H ∧ ∃ r, At σ 13 (.bl r) ∧ Right i.p i.d r) := by
  refine ⟨_, ps_set (i := 13) nd36 rfl (Or.inl rfl) (pe_and (pe_callB call_isiT rfl h.nm.isinstance (by decide +kernel) (pa_cons (pv 12) (pa_cons (pe_tup (pa_cons (pe_bltn (v := .ty "list") rfl h.nm.list (by decide +kernel) rfl) (pa_cons (pe_bltn (v := .ty "tuple") rfl h.nm.tuple (by decide +kernel) rfl) pa_nil))) pa_nil)))
      (pe_and (pe_cmpR (op_inTD (u65 hr)) (pe_callTy (T := "tuple") (tupK K) rfl h.nm.tuple (by decide +kernel) (pa_cons (pv 12) pa_nil)) (pv 5) (by with_unfolding_all rfl))
      (pe_one (pe_cmpR (op_eqD (u64 hr)) (pe_lc (own := [("_law_one", 21)]) (g := gName 21) rfl nd36 (pi_seqF (pv 12)) (blkOk_by (N := N36) (sc := defScope (top 36)) (by decide +kernel)) (fun _ _ _ _ _ => pg_name (i := 21) nd36 rfl (Or.inl rfl))
        (fun _ _ _ _ _ => pts_one (pt_val (pe_callB (id := "isinstance") (isiK K) rfl h.nm.isinstance (by decide +kernel) (pa_cons (pv 21) (pa_cons (pe_bltn (v := .ty "bool") rfl h.nm.bool (by decide +kernel) rfl) pa_nil))))) (fun _ _ _ _ _ => pv 21)) (pe_lst pa_nil) (nomark _))))), fun ⟨p, a, xs, d⟩ D σ H q => ?_⟩
  have q : I1 K T v ns p a xs d σ H := q
  obtain ⟨⟨⟨e1, e2, gd, sl⟩, hq, hds⟩, ok, vl, a12, hvl⟩ := id q
  refine ⟨vl, a12, by show 2 ≤ sizeLine; decide, fun p0 hp0 => ?_⟩
  have s1 := Same.nw (o := .tup [.ty "list", .ty "tuple"]) hp0
  have q1 := q.same s1
  have g1 := gd.same s1
  have hvl1 := hvl.up (Aside.of (b := p.b) s1)
  refine ⟨vl, p0, _, _, _, _, rfl, upd_same, .cons (.ty "list") (.cons (.ty "tuple") .nil), tyx hvl1.dp, kit_seq d, _, rfl, ?_⟩
  cases hs : seqD d with
  | none =>
    have e0 : isSeqD d = false := by unfold isSeqD; rw [hs]; rfl
    rw [e0]
    refine iteF ⟨q1.set (by decide), false, At.new sl.len (by decide), (fun z => nomatch z), fun _ pl hf => ?_⟩
    have h1 : seqD d = some (pl.map pI) := hf.1
    rw [hs] at h1
    cases h1
  | some es =>
    have e0 : isSeqD d = true := by unfold isSeqD; rw [hs]; rfl
    rw [e0]
    refine iteT ?_
    obtain ⟨hel, hev⟩ := ok.seq hs
    have hrt := right_of (p := p) hs hev
    have sh1 : SeqAt.shaped (.tuple es) = true := shA_iff.mpr fun x hx => ⟨(hev x hx).sw.lay, Nat.le_trans (hev x hx).sw.dep (by decide)⟩
    have sh2 : SeqAt.shaped (.list (p.due.map tupI)) = true := by
      have hh : shA (p.due.map tupI) := shA_iff.mpr fun x hx => by
        obtain ⟨pl, hpl, rfl⟩ := List.mem_map.mp hx
        have := sw_fits gd.lr (by rw [List.length_map]; exact gd.okp.len) pl hpl
        exact ⟨this.lay, Nat.le_trans this.dep (by decide)⟩
      have e : SeqAt.shaped (.list (p.due.map tupI)) = SeqAt.shaped (.tuple (p.due.map tupI)) := by
        unfold SeqAt.shaped
        simp only [PyData.canLay0, PyData.depth]
        rfl
      rw [e]
      exact hh
    refine ⟨vl, a12, vl, d, es, rfl, hvl1.dp, hs, fun vt H2 s2 hvt => ?_⟩
    have q2 := q1.same s2
    have g2 := g1.same s2
    have hvl2 := hvl1.up (Aside.of (b := p.b) s2)
    refine ⟨_, sl.a5, .tuple es, p.due.map tupI, hvt, g2.dd.dp, sh1, sh2, _, rfl, ?_⟩
    cases hany : (p.due.map tupI).any (fun z => PyData.eqv z (.tuple es)) with
    | false =>
      rw [hany, Bool.false_and] at hrt
      exact iteF ⟨q2.set (by decide), false, At.new sl.len (by decide), hrt⟩
    | true =>
      rw [hany, Bool.true_and] at hrt
      refine iteT ?_
      obtain ⟨t, a', xs', ev, hq', ha', _⟩ := seqOf hvl2.dp hs
      have hlx := daLen ha'
      have hsl : (10000 : Nat) ≤ sizeLine := by rw [sizeLine_eq]; decide
      refine ⟨vl, a12, t, a', xs', ev, hq', fun J wk D hD => ?_⟩
      refine lc_data (K := K) (fun i => (es[i]?).bind fun e => if isBoolD e = true then some e else none) wk (by omega) hD (fun i e hi he => ?_) (fun H s => hq'.up s) (fun i x H4 H4' Ky Kn hi s4 y ky kn => ?_) (fun H3 acc s3 hacc hda => ?_)
      · obtain ⟨e', he', h2⟩ := Option.bind_eq_some_iff.mp he
        split at h2
        · cases h2
          exact (hev _ (List.mem_of_getElem? he')).nl
        · cases h2
      · obtain ⟨rfl, hx⟩ := y
        obtain ⟨d', hd', hx'⟩ := daGet ha' hx
        have hx4 := Dm hx' s4
        refine ⟨wipe1, _, At.new (n := 22) (setL sl.len) (by decide), x, .ty "bool", _, _, _, rfl, .ty "bool", tyx hx4, kit_bool d', _, rfl, ?_⟩
        cases hb : isBoolD d' with
        | true => exact iteT ⟨_, At.new (n := 22) (setL sl.len) (by decide), ky d' (by rw [hd']; exact if_pos hb) _ _ sameR hx4⟩
        | false => exact iteF (kn (by rw [hd']; exact if_neg (by rw [hb]; exact Bool.false_ne_true)) _ sameR)
      · rw [fm_filter2 es hlx] at hda
        refine ⟨by show 0 ≤ sizeLine; exact Nat.zero_le _, fun L hL => ?_⟩
        have sL := Same.nw (o := .lst []) hL
        have shb : SeqAt.shaped (.list (es.filter isBoolD)) = true := by
          have hh : shA (es.filter isBoolD) := shA_iff.mpr fun x hx => ⟨(hev x (List.mem_filter.mp hx).1).sw.lay, Nat.le_trans (hev x (List.mem_filter.mp hx).1).sw.dep (by decide)⟩
          have e : SeqAt.shaped (.list (es.filter isBoolD)) = SeqAt.shaped (.tuple (es.filter isBoolD)) := by
            unfold SeqAt.shaped
            simp only [PyData.canLay0, PyData.depth]
            rfl
          rw [e]
          exact hh
        refine ⟨_, .list [], Dm (dLst hacc hda) sL, dLst upd_same .nil, shb, by decide +kernel, ?_⟩
        rw [eqv_nil]
        exact ⟨((q2.same s3).same sL).set (by decide), _, At.new sl.len (by decide), hrt⟩
theorem sb16 (h : Hlp P w K mg base) (hgu : A.guards = some []) (hr : Room 8 (A.deeper (envOfC "law" (defScope (top 36)) s.heap.objs.size f cdv))) : TriP (lawX P w K mg base f cdv A outer s H0 E) (i16 1) (fun (i : Ix) σ H => I1 K T v ns i.p i.a i.xs i.d σ H ∧ ∃ r, At σ 13 (.bl r) ∧ Right i.p i.d r)
    (fun i σ H => I1 K T v ns i.p i.a i.xs i.d σ H ∧ ∃ vq dp, At σ 14 vq ∧ DB K H i.p.b vq dp ∧ Plain i.p i.d dp) := by
  refine ⟨_, ps_set (i := 14) nd36 rfl (Or.inl rfl) (pe_ifExp (pt_val (pv 13)) (pe_tup (pa_cons pe_str (pa_cons (pe_cl h.put hr (by decide) pass0 (pa_cons (pv 4) (pa_cons (pv 3) (pa_cons (pv 12) pa_nil)))) pa_nil)))
      (pe_tup (pa_cons pe_str (pa_cons (pe_callB (call_reprD hgu (u65 hr)) rfl h.nm.repr (by decide +kernel) (pa_cons (pv 12) pa_nil)) (pa_cons pe_bl pa_nil))))), fun ⟨p, a, xs, d⟩ D σ H q => ?_⟩
  obtain ⟨i1, r, a13, hrt⟩ := q
  have i1 : I1 K T v ns p a xs d σ H := i1
  have hrt : Right p d r := hrt
  obtain ⟨⟨⟨e1, e2, gd, sl⟩, hq, hds⟩, ok, vl, a12, hvl⟩ := id i1
  refine ⟨_, a13, r, rfl, ?_⟩
  cases r with
  | true =>
    obtain ⟨pl, hf⟩ := hrt.1 rfl
    refine iteT ⟨_, sl.a4, _, sl.a3, _, a12, p.vp, p.vr, vl, p.rs, d, pl, p.hs, rfl, gd.dp.dp, gd.dr.dp, hvl.dp, hf.1, gd.okp.okHs, gd.okR, fun v1 H1 s1 hv1 => ⟨by show 2 ≤ sizeLine; decide, fun T0 hT0 => ?_⟩⟩
    have s2 := Same.nw (o := .tup [.str "told", v1]) hT0
    have j := (i1.same s1).same s2
    have hpl : Plain p d (tTold (.tuple (putFrom p.rs [] 0 (prs p.hs) pl))) := .inl ⟨pl, hf, rfl⟩
    exact ⟨j.set (by decide), .ref T0, _, At.new sl.len (by decide), .of (told_dp hv1 hT0) (plain_cmp hpl ok gd.ri gd.okp).nl j.i.s.2.2.1.bx, hpl⟩
  | false =>
    have hno := hrt.2 rfl
    refine iteF ⟨_, a12, vl, d, rfl, hvl.dp, ok.sw, by show 3 ≤ sizeLine; decide, fun T0 hT0 => ?_⟩
    have s1 := Same.nw (o := .tup [.str "refused", .str d.shown, .bl true]) hT0
    have j := i1.same s1
    have hpl : Plain p d (tRef d.shown) := .inr ⟨hno, rfl⟩
    exact ⟨j.set (by decide), .ref T0, _, At.new sl.len (by decide), .of ref_dp (plain_cmp hpl ok gd.ri gd.okp).nl j.i.s.2.2.1.bx, hpl⟩
theorem sc16' (h : Hlp P w K mg base) (hd : Hrd K mg) (n : Fns P w K mg base CR CT CK) (le : LamEnv (lawX P w K mg base f cdv A outer s H0 E) T) (hgu : A.guards = some []) (hr : Room 8 (A.deeper (envOfC "law" (defScope (top 36)) s.heap.objs.size f cdv))) :
    TriP (lawX P w K mg base f cdv A outer s H0 E) (i16 2) (fun (i : Ix) σ H => I1 K T v ns i.p i.a i.xs i.d σ H ∧ ∃ vq dp, At σ 14 vq ∧ DB K H i.p.b vq dp ∧ Plain i.p i.d dp) (fun i => I0 K T v ns i.p i.a i.xs) := by
  refine ⟨_, ps_if (pt_cmpR (op_neD (u64 hr)) (pe_heard (t := fun E' => tCall (spPA K CR) [] E' (tCons (tVar 4) (tCons (tVar 3) (tCons (tVar 12) tNil)))) h hd n.ef le hgu hr (lamS_by (by decide +kernel)) rfl (by intros; rfl)
      (fun A' outer' s' H' E' f' c' hr' => pe_cl (X := lamCx (lawX P w K mg base f cdv A outer s H0 E) A' outer' s' H' E' _ f' c') (E := E') n.pa hr' (by decide) (passes_call (takes_of rfl rfl rfl rfl) fun _ _ _ _ h => h) (pa_cons (pv 4) (pa_cons (pv 3) (pa_cons (pv 12) pa_nil))))) (pv 14) (nomark _)) (pss_one (ps_ret pe_bl)) pss_nil, fun ⟨p, a, xs, d⟩ D σ H q => ?_⟩
  obtain ⟨i1, vq, dp, a14, hvq, hpl⟩ := q
  have i1 : I1 K T v ns p a xs d σ H := i1
  have hvq : DB K H p.b vq dp := hvq
  have hpl : Plain p d dp := hpl
  obtain ⟨i0, ok, vl, a12, hvl⟩ := i1
  obtain ⟨e1, e2, gd, sl⟩ := i0.s
  have hcmp := plain_cmp hpl ok gd.ri gd.okp
  refine ⟨gd.tb, fun H1 eH t1 => ?_⟩
  have j1 := i0.far (Far.ext eH) (gd.bx.ext eH) t1
  have g1 := gd.ext eH t1
  have hvq1 := hvq.far (Far.ext (b := p.b) eH)
  have hvl1 := hvl.far (Far.ext (b := p.b) eH)
  refine ⟨_, sl.a4, _, sl.a3, _, a12, p.vp, p.vr, vl, d, rfl, hvl1.dp, pre_ok g1.dp.dp g1.dr.dp rfl (map_hk hk_tup3 _) g1.okp rfl g1.okR ⟨fun pl h1 h2 v1 H2 s2 hv1 T0 hT0 => ?_, fun no dd H2 s2 hd2 => .inr ⟨rfl, dd, vl, d, rfl, hd2, (hvl1.up (Aside.of (b := p.b) s2)).dp, ok.sw, fun T0 hT0 => ?_⟩⟩⟩
  · have s3 := Same.nw (o := .tup [.str "told", v1]) hT0
    have hv3 := told_dp hv1 hT0
    have hvq3 := hvq1.up (Aside.of (b := p.b) (sameT s2 s3))
    have edp : dp = tTold (.tuple (putFrom p.rs [] 0 (prs p.hs) pl)) := by
      rcases hpl with ⟨pl', hf, e⟩ | ⟨no, _⟩
      · have e3 := hf.1
        rw [h1] at e3
        have e4 := pI_inj (Option.some.inj e3)
        rw [e, e4]
      · exact absurd ⟨h1, h2⟩ (no pl)
    rw [← edp] at hv3
    refine ⟨vq, a14, _, _, hv3, hvq3.dp, hcmp.sh, hcmp.sh, _, rfl, ?_⟩
    rw [hcmp.refl]
    exact ifF rfl ((j1.same s2).same s3)
  · have s3 := Same.nw (o := .tup [.str "refused", .str d.shown, .bl true]) hT0
    have hvq3 := hvq1.up (Aside.of (b := p.b) (sameT s2 s3))
    have edp : dp = tRef d.shown := by
      rcases hpl with ⟨pl', hf, e⟩ | ⟨_, e⟩
      · exact absurd hf.2 (no pl' hf.1)
      · exact e
    have hv3 : Dp K (upd H2 T0 (.tup [.str "refused", .str d.shown, .bl true])) (.ref T0) dp := by
      rw [edp]
      exact ref_dp
    refine ⟨vq, a14, _, _, hv3, hvq3.dp, hcmp.sh, hcmp.sh, _, rfl, ?_⟩
    rw [hcmp.refl]
    exact ifF rfl ((j1.same s2).same s3)
theorem st16 (h : Hlp P w K mg base) (hd : Hrd K mg) (n : Fns P w K mg base CR CT CK) (le : LamEnv (lawX P w K mg base f cdv A outer s H0 E) T) (hgu : A.guards = some []) (hr : Room 8 (A.deeper (envOfC "law" (defScope (top 36)) s.heap.objs.size f cdv))) :
    Tri (lawX P w K mg base f cdv A outer s H0 E) (lst 16) (fun σ H => ∃ p, S15 K T v ns p σ H) (fun σ H => ∃ p, S5 K T v ns p σ H) := by
  have body : TrisP (lawX P w K mg base f cdv A outer s H0 E) in16 (fun i : Ix => I1 K T v ns i.p i.a i.xs i.d) (fun i => I0 K T v ns i.p i.a i.xs) :=
    (TrisP.cons (sa16 h hr) (TrisP.cons (sb16 h hgu hr) (TrisP.cons (sc16' h hd n le hgu hr) TrisP.nil)) : TrisP (lawX P w K mg base f cdv A outer s H0 E) [i16 0, i16 1, i16 2] (fun i : Ix => I1 K T v ns i.p i.a i.xs i.d) (fun i => I0 K T v ns i.p i.a i.xs))
  obtain ⟨tb, hb, hread⟩ := body
  refine ⟨_, ps_for PassesOwn.never rfl (pi_seqF (pv 11)) (pg_name (i := 12) nd36 rfl (Or.inr rfl)) hb, fun D σ H q => ?_⟩
  obtain ⟨p, ⟨e1, e2, gd, sl⟩, vv, a11, hvv⟩ := q
  obtain ⟨a, xs, rfl, hq, ha⟩ := dInv_lst hvv
  refine ⟨_, a11, false, a, xs, rfl, seqDel hq, fun J wk => ?_⟩
  refine for_it wk (fun i σ H => I0 K T v ns p a xs σ H) ⟨⟨e1, e2, gd, sl⟩, hq, ha⟩ (fun i σ H _ i0 => seqDel i0.q) (fun i x σ H1 H1' hi i0 y => ?_) (fun σ H1 i0 => ⟨p, i0.s⟩)
  obtain ⟨rfl, hx⟩ := y
  obtain ⟨d, hd', hx'⟩ := daGet i0.ds hx
  exact hread ⟨p, a, xs, d⟩ _ _ _ ⟨i0.set (by decide), vals_ok gd.lr gd.okp d (List.mem_of_getElem? hd'), x, At.new i0.s.2.2.2.len (by decide), hx'⟩ fun σ' H' z => z
end
end K60
/-! K60W8: bad patches and odd rows. -/
namespace K60
open PySem PySem.Spec PyProof.Rows L2 LamX

inductive Bad : PyData → Prop
  | b0 : Bad .none
  | b1 : Bad (.list [.none])
  | b2 : Bad (.list [.tuple [.int 0, .tuple [.int 1]]])
  | b3 : Bad (.list [.tuple [.int 0, .tuple [.int 1, .int 2], .tuple []], .tuple [.int 1, .tuple [], .tuple []]])
inductive Odd : PyData → Prop
  | o0 : Odd .none
  | o1 : Odd (.int 5)
  | o2 : Odd (.str "row")
theorem Odd.seq {d : PyData} (h : Odd d) : seqD d = none := by cases h <;> rfl
theorem Odd.nl {d : PyData} (h : Odd d) : K60.nl d = true := by cases h <;> rfl
theorem Odd.sw {d : PyData} (h : Odd d) : Sw 60 1000000 d := by
  cases h with
  | o0 => exact Sw.non.mono (by decide) (by decide)
  | o1 => exact (Sw.int (i := 5) (by decide) (by decide)).mono (by decide) (by decide)
  | o2 => exact (Sw.str (x := "row") (by decide +kernel) (by decide)).mono (by decide) (by decide)
theorem Odd.so {d : PyData} (h : Odd d) : SO d := by
  cases h with
  | o0 => exact SO.non
  | o1 => exact SO.int
  | o2 => unfold SO; decide +kernel
theorem Bad.no {d : PyData} (h : Bad d) : ∀ hs, ¬ Told d hs := by
  rintro hs ⟨ds, h1, h2, h3⟩
  cases h with
  | b0 => cases h1
  | b1 =>
    cases h1
    cases hs with
    | nil => cases h2
    | cons x hs =>
      have h4 : hkD .none = some x := (List.cons.inj h2).1
      cases h4
  | b2 =>
    cases h1
    cases hs with
    | nil => cases h2
    | cons x hs =>
      have h4 : hkD (.tuple [.int 0, .tuple [.int 1]]) = some x := (List.cons.inj h2).1
      cases h4
  | b3 =>
    cases h1
    have e : [PyData.tuple [.int 0, .tuple [.int 1, .int 2], .tuple []], .tuple [.int 1, .tuple [], .tuple []]].map hkD = [some (0, [.int 1, .int 2], []), some (1, [], [])] := rfl
    rw [e] at h2
    have e1 : ([some (0, [PyData.int 1, PyData.int 2], []), some (1, [], [])] : List (Option H3)) = ([(0, [PyData.int 1, PyData.int 2], []), (1, [], [])] : List H3).map some := rfl
    have e2 : hs = [(0, [PyData.int 1, PyData.int 2], []), (1, [], [])] := (List.map_inj_right (fun a b h => Option.some.inj h)).mp (h2.symm.trans e1)
    subst e2
    have := h3 0 _ _ rfl rfl
    exact absurd this (by decide)
theorem Bad.len {d : PyData} (h : Bad d) {ds : List PyData} (e : seqD d = some ds) : ds.length ≤ 1000 := by
  cases h with
  | b0 => cases e
  | b1 => cases e; decide
  | b2 => cases e; decide
  | b3 => cases e; decide
theorem sw0 {i : Int} (h1 : -1000000 ≤ i) (h2 : i ≤ 1000000) {k m : Nat} : Sw k m (.int i) := (Sw.int h1 h2).mono (Nat.zero_le _) (Nat.zero_le _)
theorem sw_t0 {k : Nat} {m : Nat} : Sw (k + 1) m (.tuple []) := (Sw.tuple (k := k) (m := 0) fun e he => by cases he).mono (Nat.le_refl _) (by show 0 * 1 ≤ m; omega)
theorem Bad.sw {d : PyData} (h : Bad d) : Sw 60 1000000 d := by
  have i12 : Sw 2 10 (.tuple [.int 1, .int 2]) := (Sw.tuple (k := 1) (m := 0) fun e he => by
    simp only [List.mem_cons, List.not_mem_nil, or_false] at he
    rcases he with e | e <;> rw [e] <;> exact sw0 (by decide) (by decide)).mono (by decide) (by decide)
  have i1 : Sw 2 10 (.tuple [.int 1]) := (Sw.tuple (k := 1) (m := 0) fun e he => by
    simp only [List.mem_cons, List.not_mem_nil, or_false] at he
    rw [he]
    exact sw0 (by decide) (by decide)).mono (by decide) (by decide)
  cases h with
  | b0 => exact Sw.non.mono (by decide) (by decide)
  | b1 =>
    refine (Sw.list (k := 0) (m := 0) fun e he => ?_).mono (by decide) (by decide)
    simp only [List.mem_cons, List.not_mem_nil, or_false] at he
    rw [he]
    exact Sw.non
  | b2 =>
    refine (Sw.list (k := 3) (m := 100) fun e he => ?_).mono (by decide) (by decide)
    simp only [List.mem_cons, List.not_mem_nil, or_false] at he
    rw [he]
    refine (Sw.tuple (k := 2) (m := 10) fun e he => ?_).mono (by decide) (by decide)
    simp only [List.mem_cons, List.not_mem_nil, or_false] at he
    rcases he with e | e <;> rw [e]
    · exact sw0 (by decide) (by decide)
    · exact i1
  | b3 =>
    refine (Sw.list (k := 3) (m := 100) fun e he => ?_).mono (by decide) (by decide)
    simp only [List.mem_cons, List.not_mem_nil, or_false] at he
    rcases he with e | e <;> rw [e]
    · refine (Sw.tuple (k := 2) (m := 10) fun e he => ?_).mono (by decide) (by decide)
      simp only [List.mem_cons, List.not_mem_nil, or_false] at he
      rcases he with e | e | e <;> rw [e]
      · exact sw0 (by decide) (by decide)
      · exact i12
      · exact sw_t0
    · refine (Sw.tuple (k := 2) (m := 10) fun e he => ?_).mono (by decide) (by decide)
      simp only [List.mem_cons, List.not_mem_nil, or_false] at he
      rcases he with e | e | e <;> rw [e]
      · exact sw0 (by decide) (by decide)
      · exact sw_t0
      · exact sw_t0
theorem Bad.so {d : PyData} (h : Bad d) : SO d := by
  cases h with
  | b0 => exact SO.non
  | b1 => unfold SO; decide +kernel
  | b2 => unfold SO; decide +kernel
  | b3 => unfold SO; decide +kernel

section
variable {P : Program} {w : World} {K : PySem.W.Frag} {mg : Str → Option Value} {base : Heap} {f : Addr} {cdv : Value} {A : Around} {outer : List Env} {s : Shared} {H0 : Hp} {E : XK} {T : List (Addr × Str)} {v : V} {ns : List Int} {CR CT CK : Addr}
structure S17 (K : PySem.W.Frag) (T : List (Addr × Str)) (v : V) (ns : List Int) (p : Par) (vb vo : V) (db dd : PyData) (σ : L2.St) (H : Hp) : Prop where
  s : S5 K T v ns p σ H
  a15 : At σ 15 vb
  a16 : At σ 16 vo
  hb : DB K H p.b vb db
  ho : DB K H p.b vo dd
  ob : Bad db
  oo : Odd dd
theorem st17 (h : Hlp P w K mg base) (hr : Room 8 (A.deeper (envOfC "law" (defScope (top 36)) s.heap.objs.size f cdv))) : Tri (lawX P w K mg base f cdv A outer s H0 E) (lst 17) (fun σ H => ∃ p, S5 K T v ns p σ H) (fun σ H => ∃ p vb vo db dd, S17 K T v ns p vb vo db dd σ H) := by
  refine ⟨_, ps_asg (pe_tup (pa_cons (pe_cl h.pick hr (by decide) pass0 (pa_cons (pv 2) (pa_cons (pe_lst (pa_cons pe_non (pa_cons (pe_lst (pa_cons pe_non pa_nil)) (pa_cons (pe_lst (pa_cons (pe_tup (pa_cons pe_int (pa_cons (pe_tup (pa_cons pe_int pa_nil)) pa_nil))) pa_nil))
        (pa_cons (pe_lst (pa_cons (pe_tup (pa_cons pe_int (pa_cons (pe_tup (pa_cons pe_int (pa_cons pe_int pa_nil))) (pa_cons (pe_tup pa_nil) pa_nil)))) (pa_cons (pe_tup (pa_cons pe_int (pa_cons (pe_tup pa_nil) (pa_cons (pe_tup pa_nil) pa_nil)))) pa_nil))) pa_nil))))) pa_nil)))
      (pa_cons (pe_cl h.pick hr (by decide) pass0 (pa_cons (pv 2) (pa_cons (pe_lst (pa_cons pe_non (pa_cons pe_int (pa_cons pe_str pa_nil)))) pa_nil))) pa_nil)))
      (tupG K (n := 2) rfl (pgs_cons (pg_name (i := 15) nd36 rfl (Or.inr rfl)) (pgs_cons (pg_name (i := 16) nd36 rfl (Or.inr rfl)) pgs_nil))), fun D σ H q => ?_⟩
  obtain ⟨p, e1, e2, gd, sl⟩ := q
  have bx := gd.bx
  refine ⟨_, sl.a2, by show 1 ≤ sizeLine; decide, fun l1 hl1 => ?_⟩
  have s1 := Same.nw (o := .lst [V.non]) hl1
  have d1 : DB K (upd H l1 (.lst [V.non])) p.b (.ref l1) (.list [.none]) := .lst upd_same (bx.ne hl1) (.cons .non .nil) rfl (bx.up s1)
  have b1 := bx.up s1
  generalize upd H l1 (.lst [V.non]) = H1 at s1 d1 b1
  refine ⟨by show 1 ≤ sizeLine; decide, fun t1 ht1 => ⟨by show 2 ≤ sizeLine; decide, fun t2 ht2 => ⟨by show 1 ≤ sizeLine; decide, fun l2 hl2 => ?_⟩⟩⟩
  have u1 := Same.nw (o := .tup [V.int 1]) ht1
  have u2 := Same.nw (o := .tup [V.int 0, .ref t1]) ht2
  have u3 := Same.nw (o := .lst [V.ref t2]) hl2
  have b2 := ((b1.up u1).up u2)
  have d2 : DB K _ p.b (.ref l2) (.list [.tuple [.int 0, .tuple [.int 1]]]) := .lst (H := upd (upd (upd H1 t1 (.tup [V.int 1])) t2 (.tup [V.int 0, .ref t1])) l2 (.lst [V.ref t2])) upd_same (b2.ne hl2)
    (.cons (Dm (dTup upd_same (.cons (.int 0) (.cons (Dm (dTup upd_same (.cons (.int 1) .nil)) u2) .nil))) u3) .nil) rfl (b2.up u3)
  have s2 := sameT u1 (sameT u2 u3)
  have b3 := b2.up u3
  generalize upd (upd (upd H1 t1 (.tup [V.int 1])) t2 (.tup [V.int 0, .ref t1])) l2 (.lst [V.ref t2]) = H2 at s2 d2 b3
  clear u1 u2 u3 ht1 ht2 hl2
  refine ⟨by show 2 ≤ sizeLine; decide, fun t3 ht3 => ⟨by show 0 ≤ sizeLine; exact Nat.zero_le _, fun t4 ht4 => ⟨by show 3 ≤ sizeLine; decide, fun t5 ht5 => ⟨by show 0 ≤ sizeLine; exact Nat.zero_le _, fun t6 ht6 => ⟨by show 0 ≤ sizeLine; exact Nat.zero_le _, fun t7 ht7 => ⟨by show 3 ≤ sizeLine; decide, fun t8 ht8 => ⟨by show 2 ≤ sizeLine; decide, fun l3 hl3 => ?_⟩⟩⟩⟩⟩⟩⟩
  have u3 := Same.nw (o := .tup [V.int 1, V.int 2]) ht3
  have u4 := Same.nw (o := .tup []) ht4
  have u5 := Same.nw (o := .tup [V.int 0, .ref t3, .ref t4]) ht5
  have u6 := Same.nw (o := .tup []) ht6
  have u7 := Same.nw (o := .tup []) ht7
  have u8 := Same.nw (o := .tup [V.int 1, .ref t6, .ref t7]) ht8
  have u9 := Same.nw (o := .lst [V.ref t5, .ref t8]) hl3
  have b4 := (((((b3.up u3).up u4).up u5).up u6).up u7).up u8
  have w1 := dTup (K := K) upd_same (DpAll.cons (.int 0) (.cons (Dm (dTup upd_same (.cons (.int 1) (.cons (.int 2) .nil))) (sameT u4 u5)) (.cons (Dm (dTup upd_same .nil) u5) .nil)))
  have w2 := dTup (K := K) upd_same (DpAll.cons (.int 1) (.cons (Dm (dTup upd_same .nil) (sameT u7 u8)) (.cons (Dm (dTup upd_same .nil) u8) .nil)))
  have d3 := DB.lst (K := K) upd_same (b4.ne hl3) (.cons (Dm w1 (sameT u6 (sameT u7 (sameT u8 u9)))) (.cons (Dm w2 u9) .nil)) rfl (b4.up u9)
  have s3 := sameT u3 (sameT u4 (sameT u5 (sameT u6 (sameT u7 (sameT u8 u9)))))
  have b5 := b4.up u9
  clear w1 w2 u3 u4 u5 u6 u7 u8 u9 b4
  generalize upd (upd (upd (upd (upd (upd (upd H2 t3 (.tup [V.int 1, V.int 2])) t4 (.tup [])) t5 (.tup [V.int 0, .ref t3, .ref t4])) t6 (.tup [])) t7 (.tup [])) t8 (.tup [V.int 1, .ref t6, .ref t7])) l3 (.lst [V.ref t5, .ref t8]) = H3 at s3 d3 b5
  refine ⟨by show 4 ≤ sizeLine; decide, fun L hL => ?_⟩
  have uL := Same.nw (o := .lst [V.non, .ref l1, .ref l2, .ref l3]) hL
  have nL := b5.ne hL
  have s13 := sameT s2 (sameT s3 uL)
  have s03 := sameT s1 s13
  have g4 := gd.same s03
  refine ⟨p.b, L, _, rfl, g4.bx, upd_same, nL, (by show 0 < 4; decide), (by show 4 < 1000000; decide), fun vb H5 hvb a5 b6 => ?_⟩
  have c1 := (d1.up (Aside.of s13)).up a5
  have c2 := (d2.up (Aside.of (sameT s3 uL))).up a5
  have c3 := (d3.up (Aside.of uL)).up a5
  have g5 := g4.aside a5 b6
  obtain ⟨db, hdb, ob⟩ : ∃ db, DB K H5 p.b vb db ∧ Bad db := by
    have hvb : vb ∈ [V.non, .ref l1, .ref l2, .ref l3] := hvb
    simp only [List.mem_cons, List.not_mem_nil, or_false] at hvb
    rcases hvb with e | e | e | e <;> rw [e]
    · exact ⟨_, .non, .b0⟩
    · exact ⟨_, c1, .b1⟩
    · exact ⟨_, c2, .b2⟩
    · exact ⟨_, c3, .b3⟩
  refine ⟨_, sl.a2, by show 3 ≤ sizeLine; decide, fun L2 hL2 => ?_⟩
  have uL2 := Same.nw (o := .lst [V.non, .int 5, .str "row"]) hL2
  have nL2 := b6.ne hL2
  have g6 := g5.same uL2
  refine ⟨p.b, L2, _, rfl, g6.bx, upd_same, nL2, (by show 0 < 3; decide), (by show 3 < 1000000; decide), fun vo H7 hvo a7 b7 => ?_⟩
  have g7 := g6.aside a7 b7
  obtain ⟨dd, hdd, oo⟩ : ∃ dd, DB K H7 p.b vo dd ∧ Odd dd := by
    have hvo : vo ∈ [V.non, .int 5, .str "row"] := hvo
    simp only [List.mem_cons, List.not_mem_nil, or_false] at hvo
    rcases hvo with e | e | e <;> rw [e]
    · exact ⟨_, .non, .o0⟩
    · exact ⟨_, .int 5, .o1⟩
    · exact ⟨_, .str "row", .o2⟩
  refine ⟨by show 2 ≤ sizeLine; decide, fun T0 hT0 => g_pair upd_same ?_⟩
  have uT := Same.nw (o := .tup [vb, vo]) hT0
  have g8 := g7.same uT
  refine ⟨p, vb, vo, db, dd, ⟨e1, e2, g8, (sl.set (by decide)).set (by decide)⟩, (At.new sl.len (by decide)).set (by decide), At.new (n := 22) (setL sl.len) (by decide), (hdb.up ((Aside.of uL2).trans a7)).up (Aside.of uT), hdd.up (Aside.of uT), ob, oo⟩
end
end K60
/-! K60W9: the four asks: lambdas in a list. -/
namespace K60
open PySem PySem.Spec PyProof.Rows L2 LamX

def lamP : Expr → Arguments
  | .Lambda p _ _ _ => p
  | _ => { posonlyargs := [], args := [], vararg := none, kwonlyargs := [], kw_defaults := [], kwarg := none, defaults := [] }
def lamB : Expr → Expr
  | .Lambda _ b _ _ => b
  | e => e
def lamSc : Expr → Scope
  | .Lambda _ _ s _ => s
  | _ => defScope (top 36)
def lamOf : Stmt → Expr
  | .Assign _ (.List (l :: _) _) _ => l
  | .Expr (.Call _ (l :: _) _ _) _ => l
  | _ => .Constant .none 0 ⟨0, 0, 0, 0⟩
def lamE (i : Nat) : Expr := lamOf (lst (18 + i))
abbrev N2 : List Str := ["_law_one", "_law_two"]
/-- what each ask says of a bad patch, of an odd row -/
def spAsk (K : PySem.W.Frag) (CR : Addr) : Sp := fun vs H Q E => ∃ v1 v2 d1 d2, vs = [v1, v2] ∧ Dp K H v1 d1 ∧ Dp K H v2 d2 ∧ (∀ ds, seqD d1 = some ds → ds.length ≤ 1000) ∧
  (((∀ hs, ¬ Told d1 hs) ∧ Out H CR "at" v1 E) ∨ (∃ hs, Told d1 hs ∧ PatchOk hs ∧ seqD d2 = none ∧ Out H CR "at" v2 E))
theorem ask_pre {K : PySem.W.Frag} {C : Addr} {H : Hp} {v1 v2 : V} {d1 d2 : PyData} {E : XK} {ok : List H3 → List PyData → Prop} (h1 : Dp K H v1 d1) (h2 : Dp K H v2 d2) (hl : ∀ ds, seqD d1 = some ds → ds.length ≤ 1000)
    (h : ((∀ hs, ¬ Told d1 hs) ∧ Out H C "at" v1 E) ∨ (∃ hs, Told d1 hs ∧ PatchOk hs ∧ seqD d2 = none ∧ Out H C "at" v2 E)) : Pre K C H v1 v2 E ok := by
  refine ⟨d1, d2, h1, h2, hl, fun hs t => ?_, fun no => ?_⟩
  · rcases h with ⟨no, _⟩ | ⟨hs', t', okp, hn, o⟩
    · exact absurd t (no hs)
    · have e := told_uniq t t'
      subst e
      exact ⟨okp.okHs, fun r er => (by rw [hn] at er; cases er), fun _ => o⟩
  · rcases h with ⟨_, o⟩ | ⟨hs', t', _⟩
    · exact o
    · exact absurd t' (no hs')
section
variable {P : Program} {w : World} {K : PySem.W.Frag} {mg : Str → Option Value} {base : Heap} {CR CT CK : Addr} {q : Str}
theorem scL0 : FnScope N2 N2 (lamSc (lamE 0)) := ⟨rfl, rfl, rfl, by decide +kernel, rfl, by decide +kernel, by decide +kernel⟩
theorem scL1 : FnScope N2 N2 (lamSc (lamE 1)) := ⟨rfl, rfl, rfl, by decide +kernel, rfl, by decide +kernel, by decide +kernel⟩
theorem scL2 : FnScope N2 N2 (lamSc (lamE 2)) := ⟨rfl, rfl, rfl, by decide +kernel, rfl, by decide +kernel, by decide +kernel⟩
theorem scL3 : FnScope N2 N2 (lamSc (lamE 3)) := ⟨rfl, rfl, rfl, by decide +kernel, rfl, by decide +kernel, by decide +kernel⟩
theorem two_of {us : List Value} (h : us.length = N2.length) : ∃ a b, us = [a, b] := by
  match us, h with
  | [a, b], _ => exact ⟨a, b, rfl⟩
theorem lok0 (n : Fns P w K mg base CR CT CK) : LOk P w K mg base 7 q (lamP (lamE 0)) (lamB (lamE 0)) (lamSc (lamE 0)) (spAsk K CR) := by
  refine lok_of scL0 (fun pm cv ctv us hu => ?_) (fun vs H Q E h => ?_) (fun f c' A outer s H vs Q E hr h => ?_)
  · obtain ⟨a, b, rfl⟩ := two_of hu
    rfl
  · obtain ⟨v1, v2, _, _, rfl, _⟩ := h
    rfl
  · obtain ⟨v1, v2, d1, d2, rfl, h1, h2, hl, hh⟩ := h
    refine ⟨_, pe_clK (X := cxOf (L2.CX P w) P w K mg base N2 q (lamSc (lamE 0)) f (.ref c') A outer s H E) (E := E) n.all hr (by decide) (passes_call (takes_of rfl rfl rfl rfl) fun _ _ _ _ h => h) (pa_cons (pv 0) (pa_cons (pv 1) pa_nil)) (pk_cons pe_int pk_nil), ?_⟩
    exact ⟨_, rfl, _, rfl, rfl, rfl, v1, v2, 5, rfl, by decide, ask_pre h1 h2 hl hh⟩
theorem lok1 (n : Fns P w K mg base CR CT CK) : LOk P w K mg base 7 q (lamP (lamE 1)) (lamB (lamE 1)) (lamSc (lamE 1)) (spAsk K CR) := by
  refine lok_of scL1 (fun pm cv ctv us hu => ?_) (fun vs H Q E h => ?_) (fun f c' A outer s H vs Q E hr h => ?_)
  · obtain ⟨a, b, rfl⟩ := two_of hu
    rfl
  · obtain ⟨v1, v2, _, _, rfl, _⟩ := h
    rfl
  · obtain ⟨v1, v2, d1, d2, rfl, h1, h2, hl, hh⟩ := h
    refine ⟨_, pe_cl (X := cxOf (L2.CX P w) P w K mg base N2 q (lamSc (lamE 1)) f (.ref c') A outer s H E) (E := E) n.only hr (by decide) (passes_call (takes_of rfl rfl rfl rfl) fun _ _ _ _ h => h) (pa_cons (pv 0) (pa_cons (pv 1) pa_nil)), ?_⟩
    exact ⟨_, rfl, _, rfl, v1, v2, rfl, ask_pre h1 h2 hl hh⟩
theorem lok2 (n : Fns P w K mg base CR CT CK) : LOk P w K mg base 7 q (lamP (lamE 2)) (lamB (lamE 2)) (lamSc (lamE 2)) (spAsk K CR) := by
  refine lok_of scL2 (fun pm cv ctv us hu => ?_) (fun vs H Q E h => ?_) (fun f c' A outer s H vs Q E hr h => ?_)
  · obtain ⟨a, b, rfl⟩ := two_of hu
    rfl
  · obtain ⟨v1, v2, _, _, rfl, _⟩ := h
    rfl
  · obtain ⟨v1, v2, d1, d2, rfl, h1, h2, hl, hh⟩ := h
    refine ⟨_, pe_cl (X := cxOf (L2.CX P w) P w K mg base N2 q (lamSc (lamE 2)) f (.ref c') A outer s H E) (E := E) n.pd hr (by decide) (passes_call (takes_of rfl rfl rfl rfl) fun _ _ _ _ h => h) (pa_cons (pv 0) (pa_cons (pv 1) pa_nil)), ?_⟩
    exact ⟨_, rfl, _, rfl, v1, v2, rfl, ask_pre h1 h2 hl hh⟩
theorem lok3 (n : Fns P w K mg base CR CT CK) : LOk P w K mg base 7 q (lamP (lamE 3)) (lamB (lamE 3)) (lamSc (lamE 3)) (spAsk K CR) := by
  refine lok_of scL3 (fun pm cv ctv us hu => ?_) (fun vs H Q E h => ?_) (fun f c' A outer s H vs Q E hr h => ?_)
  · obtain ⟨a, b, rfl⟩ := two_of hu
    rfl
  · obtain ⟨v1, v2, _, _, rfl, _⟩ := h
    rfl
  · obtain ⟨v1, v2, d1, d2, rfl, h1, h2, hl, hh⟩ := h
    refine ⟨_, pe_cl (X := cxOf (L2.CX P w) P w K mg base N2 q (lamSc (lamE 3)) f (.ref c') A outer s H E) (E := E) n.pa hr (by decide) (passes_call (takes_of rfl rfl rfl rfl) fun _ _ _ _ h => h) (pa_cons (pv 0) (pa_cons (pv 1) (pa_cons pe_non pa_nil))), ?_⟩
    exact ⟨_, rfl, _, rfl, v1, v2, .non, .none, rfl, .non, ask_pre h1 h2 hl hh⟩

/-! ### the list of asks -/
/-- a function that keeps the asks' promise -/
def Ask (P : Program) (w : World) (K : PySem.W.Frag) (mg : Str → Option Value) (base : Heap) (CR : Addr) (H : Hp) (x : V) : Prop := ∃ (f c' : Addr) (q : Str) (params : Arguments) (body : Expr) (scope : Scope), x = .ref f ∧ H f = some (LamO f q params body scope c') ∧ H c' = some (CodeO c' q) ∧
  LOk P w K mg base 7 q params body scope (spAsk K CR)
theorem lamO_lst {f c' : Addr} {q : Str} {params : Arguments} {body : Expr} {scope : Scope} {xs : List V} : LamO f q params body scope c' ≠ .lst xs := fun z => by
  unfold LamO at z
  cases z
theorem codeO_lst {c : Addr} {q : Str} {xs : List V} : CodeO c q ≠ .lst xs := fun z => by
  unfold CodeO at z
  cases z
/-- what is no list and no table stays -/
theorem Ask.far {H H' : Hp} {x : V} (a : Ask P w K mg base CR H x) (e : ∀ b o, H b = some o → (∀ xs, o ≠ .lst xs) → (∀ ps, o ≠ .tbl ps) → H' b = some o) : Ask P w K mg base CR H' x := by
  obtain ⟨f, c', q, params, body, scope, rfl, h1, h2, h3⟩ := a
  exact ⟨f, c', q, params, body, scope, rfl, e _ _ h1 (fun _ => lamO_lst) lamO_ne, e _ _ h2 (fun _ => codeO_lst) codeO_ne, h3⟩
theorem Ask.same {H H' : Hp} {x : V} (a : Ask P w K mg base CR H x) (e : Same H H') : Ask P w K mg base CR H' x := a.far fun b o h _ _ => e b o h
theorem Ask.ext {H H' : Hp} {x : V} (a : Ask P w K mg base CR H x) (e : ExtN H H') : Ask P w K mg base CR H' x := a.far fun b o h _ t => e b o h t
theorem Ask.app {H : Hp} {x : V} {l : Addr} {xs ys : List V} (a : Ask P w K mg base CR H x) (h : H l = some (.lst xs)) : Ask P w K mg base CR (upd H l (.lst ys)) x := a.far fun b o e n _ => sameN_lst h b o e n
variable {f : Addr} {cdv : Value} {A : Around} {outer : List Env} {s : Shared} {H0 : Hp} {E : XK} {T : List (Addr × Str)} {v : V} {ns : List Int}
structure S18 (P : Program) (w : World) (K : PySem.W.Frag) (mg : Str → Option Value) (base : Heap) (CR : Addr) (T : List (Addr × Str)) (v : V) (ns : List Int) (p : Par) (vb vo : V) (db dd : PyData) (l : Addr) (fs : List V) (σ : L2.St) (H : Hp) : Prop where
  s : S17 K T v ns p vb vo db dd σ (del H l)
  a17 : At σ 17 (.ref l)
  nl : l ≠ p.b
  hl : H l = some (.lst fs)
  len : fs.length ≤ 4
  ask : ∀ x ∈ fs, Ask P w K mg base CR H x
theorem S17.far {p : Par} {vb vo : V} {db dd : PyData} {σ : L2.St} {H H' : Hp} (i : S17 K T v ns p vb vo db dd σ H) (e : Far p.b H H') (x : Bx H' p.b) (t : Tabs T H') : S17 K T v ns p vb vo db dd σ H' :=
  ⟨⟨i.s.1, i.s.2.1, i.s.2.2.1.far e x t, i.s.2.2.2⟩, i.a15, i.a16, i.hb.far e, i.ho.far e, i.ob, i.oo⟩
theorem S17.ext {p : Par} {vb vo : V} {db dd : PyData} {σ : L2.St} {H H' : Hp} (i : S17 K T v ns p vb vo db dd σ H) (e : ExtN H H') (t : Tabs T H') : S17 K T v ns p vb vo db dd σ H' := i.far (Far.ext e) (i.s.2.2.1.bx.ext e) t
theorem S17.same {p : Par} {vb vo : V} {db dd : PyData} {σ : L2.St} {H H' : Hp} (i : S17 K T v ns p vb vo db dd σ H) (e : Same H H') : S17 K T v ns p vb vo db dd σ H' := i.far (Far.of (Aside.of e)) (i.s.2.2.1.bx.up e) (i.s.2.2.1.tb.ext e)
theorem S17.set {p : Par} {vb vo : V} {db dd : PyData} {σ : L2.St} {H : Hp} {j : Nat} {x : Option V} (i : S17 K T v ns p vb vo db dd σ H) (h : 17 ≤ j) : S17 K T v ns p vb vo db dd (σ.set j x) H :=
  ⟨⟨i.s.1, i.s.2.1, i.s.2.2.1, i.s.2.2.2.set (by omega)⟩, i.a15.set (by omega), i.a16.set (by omega), i.hb, i.ho, i.ob, i.oo⟩
theorem sameDel {H : Hp} {l : Addr} : Same (del H l) H := fun c u e => by
  by_cases hc : c = l
  · rw [hc, del_same] at e
    cases e
  · rw [del_ne hc] at e
    exact e
theorem tabsDel {H : Hp} {l : Addr} {xs : List V} (t : Tabs T H) (h : H l = some (.lst xs)) : Tabs T (del H l) := fun p hp => by
  obtain ⟨ps, h1, h2, h3⟩ := t p hp
  have n1 : p.1 ≠ l := fun e => by
    rw [e, h] at h1
    cases h1
  refine ⟨ps, by rw [del_ne n1]; exact h1, h2, fun pos cv hc => ?_⟩
  obtain ⟨c, e1, e2⟩ := h3 pos cv hc
  have n2 : c ≠ l := fun e => by
    rw [e, h] at e2
    exact codeO_lst (Option.some.inj e2).symm
  exact ⟨c, e1, by rw [del_ne n2]; exact e2⟩
theorem st18 (n : Fns P w K mg base CR CT CK) (le : LamEnv (lawX P w K mg base f cdv A outer s H0 E) T) : Tri (lawX P w K mg base f cdv A outer s H0 E) (lst 18) (fun σ H => ∃ p vb vo db dd, S17 K T v ns p vb vo db dd σ H)
    (fun σ H => ∃ p vb vo db dd l fs, S18 P w K mg base CR T v ns p vb vo db dd l fs σ H ∧ fs.length = 1) := by
  obtain ⟨c, Pt, TB, hcode, hmT, hu⟩ := le.ex
  refine ⟨_, ps_set (i := 17) nd36 rfl (Or.inl rfl) (pe_lst (pa_cons (pe_lam (X := lawX P w K mg base f cdv A outer s H0 E) TB hcode hmT hu rfl rfl (by decide +kernel)) pa_nil)), fun D σ H q => ?_⟩
  obtain ⟨p, vb, vo, db, dd, i⟩ := q
  refine ⟨i.s.2.2.1.tb, fun g c' H1 eH _ t1 _ hg hc => ⟨by show 1 ≤ sizeLine; decide, fun l hl => ?_⟩⟩
  have sl := Same.nw (o := .lst [V.ref g]) hl
  have i1 := i.ext eH t1
  have i2 : S17 K T v ns p vb vo db dd σ (del (upd H1 l (.lst [V.ref g])) l) := by
    rw [delUpd, delNone hl]
    exact i1
  refine ⟨p, vb, vo, db, dd, l, [.ref g], ⟨i2.set (by decide), At.new i2.s.2.2.2.len (by decide), (i.ext eH t1).s.2.2.1.bx.ne hl, upd_same, (by show 1 ≤ 4; decide), fun x hx => ?_⟩, rfl⟩
  rw [List.mem_singleton.mp hx]
  exact ⟨g, c', _, _, _, _, rfl, sl _ _ hg, sl _ _ hc, (lok0 n : LOk P w K mg base 7 _ (lamP (lamE 0)) (lamB (lamE 0)) (lamSc (lamE 0)) (spAsk K CR))⟩
theorem app_read {p : Par} {vb vo : V} {db dd : PyData} {l : Addr} {fs : List V} {σ : L2.St} {H H1 : Hp} {g c' : Addr} {q : Str} {params : Arguments} {body : Expr} {scope : Scope} (i : S18 P w K mg base CR T v ns p vb vo db dd l fs σ H) (hf : fs.length ≤ 3) (eH : ExtN H H1) (t1 : Tabs T H1)
    (hg : H1 g = some (LamO g q params body scope c')) (hc : H1 c' = some (CodeO c' q)) (ok : LOk P w K mg base 7 q params body scope (spAsk K CR)) :
    H1 l = some (.lst fs) ∧ fs.length < sizeLine ∧ S18 P w K mg base CR T v ns p vb vo db dd l (fs ++ [.ref g]) σ (upd H1 l (.lst (fs ++ [.ref g]))) := by
  have hsl : (10000 : Nat) ≤ sizeLine := by rw [sizeLine_eq]; decide
  have hl1 := eH _ _ i.hl lst_ne_tbl
  have i1 : S17 K T v ns p vb vo db dd σ (del H1 l) := i.s.ext (Far.ext (b := l) eH) (tabsDel t1 hl1)
  refine ⟨hl1, by omega, ?_, i.a17, i.nl, upd_same, by rw [List.length_append]; show fs.length + 1 ≤ 4; omega, fun x hx => ?_⟩
  · rw [delUpd]
    exact i1
  · rcases List.mem_append.mp hx with hx | hx
    · exact ((i.ask x hx).ext eH).app hl1
    · rw [List.mem_singleton.mp hx]
      exact Ask.app ⟨g, c', q, params, body, scope, rfl, hg, hc, ok⟩ hl1
theorem st19 (n : Fns P w K mg base CR CT CK) (le : LamEnv (lawX P w K mg base f cdv A outer s H0 E) T) : Tri (lawX P w K mg base f cdv A outer s H0 E) (lst 19) (fun σ H => ∃ p vb vo db dd l fs, S18 P w K mg base CR T v ns p vb vo db dd l fs σ H ∧ fs.length = 1)
    (fun σ H => ∃ p vb vo db dd l fs, S18 P w K mg base CR T v ns p vb vo db dd l fs σ H ∧ fs.length = 2) := by
  obtain ⟨c, Pt, TB, hcode, hmT, hu⟩ := le.ex
  refine ⟨_, ps_expr (pe_bm PySem.F.plainAttrs_list PySem.F.slot_list_append PySem.F.type_list_append mt_append (pv 17) (pa_cons (pe_lam (X := lawX P w K mg base f cdv A outer s H0 E) TB hcode hmT hu rfl rfl (by decide +kernel)) pa_nil)), fun D σ H q => ?_⟩
  obtain ⟨p, vb, vo, db, dd, l, fs, i, hf⟩ := q
  refine ⟨_, i.a17, .inl ⟨rfl, _, SqL.of i.hl⟩, (i.s.same sameDel).s.2.2.1.tb, fun g c' H1 eH _ t1 _ hg hc => ?_⟩
  obtain ⟨h1, h2, h3⟩ := app_read i (by omega) eH t1 hg hc (lok1 n : LOk P w K mg base 7 _ (lamP (lamE 1)) (lamB (lamE 1)) (lamSc (lamE 1)) (spAsk K CR))
  exact ⟨l, fs, _, rfl, rfl, h1, h2, p, vb, vo, db, dd, l, _, h3, by rw [List.length_append, hf]; rfl⟩
theorem st20 (n : Fns P w K mg base CR CT CK) (le : LamEnv (lawX P w K mg base f cdv A outer s H0 E) T) : Tri (lawX P w K mg base f cdv A outer s H0 E) (lst 20) (fun σ H => ∃ p vb vo db dd l fs, S18 P w K mg base CR T v ns p vb vo db dd l fs σ H ∧ fs.length = 2)
    (fun σ H => ∃ p vb vo db dd l fs, S18 P w K mg base CR T v ns p vb vo db dd l fs σ H ∧ fs.length = 3) := by
  obtain ⟨c, Pt, TB, hcode, hmT, hu⟩ := le.ex
  refine ⟨_, ps_expr (pe_bm PySem.F.plainAttrs_list PySem.F.slot_list_append PySem.F.type_list_append mt_append (pv 17) (pa_cons (pe_lam (X := lawX P w K mg base f cdv A outer s H0 E) TB hcode hmT hu rfl rfl (by decide +kernel)) pa_nil)), fun D σ H q => ?_⟩
  obtain ⟨p, vb, vo, db, dd, l, fs, i, hf⟩ := q
  refine ⟨_, i.a17, .inl ⟨rfl, _, SqL.of i.hl⟩, (i.s.same sameDel).s.2.2.1.tb, fun g c' H1 eH _ t1 _ hg hc => ?_⟩
  obtain ⟨h1, h2, h3⟩ := app_read i (by omega) eH t1 hg hc (lok2 n : LOk P w K mg base 7 _ (lamP (lamE 2)) (lamB (lamE 2)) (lamSc (lamE 2)) (spAsk K CR))
  exact ⟨l, fs, _, rfl, rfl, h1, h2, p, vb, vo, db, dd, l, _, h3, by rw [List.length_append, hf]; rfl⟩
theorem st21 (n : Fns P w K mg base CR CT CK) (le : LamEnv (lawX P w K mg base f cdv A outer s H0 E) T) : Tri (lawX P w K mg base f cdv A outer s H0 E) (lst 21) (fun σ H => ∃ p vb vo db dd l fs, S18 P w K mg base CR T v ns p vb vo db dd l fs σ H ∧ fs.length = 3)
    (fun σ H => ∃ p vb vo db dd l fs, S18 P w K mg base CR T v ns p vb vo db dd l fs σ H ∧ fs.length = 4) := by
  obtain ⟨c, Pt, TB, hcode, hmT, hu⟩ := le.ex
  refine ⟨_, ps_expr (pe_bm PySem.F.plainAttrs_list PySem.F.slot_list_append PySem.F.type_list_append mt_append (pv 17) (pa_cons (pe_lam (X := lawX P w K mg base f cdv A outer s H0 E) TB hcode hmT hu rfl rfl (by decide +kernel)) pa_nil)), fun D σ H q => ?_⟩
  obtain ⟨p, vb, vo, db, dd, l, fs, i, hf⟩ := q
  refine ⟨_, i.a17, .inl ⟨rfl, _, SqL.of i.hl⟩, (i.s.same sameDel).s.2.2.1.tb, fun g c' H1 eH _ t1 _ hg hc => ?_⟩
  obtain ⟨h1, h2, h3⟩ := app_read i (by omega) eH t1 hg hc (lok3 n : LOk P w K mg base 7 _ (lamP (lamE 3)) (lamB (lamE 3)) (lamSc (lamE 3)) (spAsk K CR))
  exact ⟨l, fs, _, rfl, rfl, h1, h2, p, vb, vo, db, dd, l, _, h3, by rw [List.length_append, hf]; rfl⟩
end
end K60
/-! K60WA: each ask refuses. -/
namespace K60
open PySem PySem.Spec PyProof.Rows L2 LamX

def in22 : List Stmt := match lst 22 with
  | .For _ _ b _ _ => b
  | _ => []
def i22 (i : Nat) : Stmt := in22.getD i (.Pass ⟨0, 0, 0, 0⟩)
structure Iy where
  p : Par
  vb : V
  vo : V
  db : PyData
  dd : PyData
  l : Addr
  fs : List V
  x : V
section
variable {P : Program} {w : World} {K : PySem.W.Frag} {mg : Str → Option Value} {base : Heap} {CR CT CK : Addr} {f : Addr} {cdv : Value} {A : Around} {outer : List Env} {s : Shared} {H0 : Hp} {E : XK} {T : List (Addr × Str)} {v : V} {ns : List Int}
theorem S18.ext {p : Par} {vb vo : V} {db dd : PyData} {l : Addr} {fs : List V} {σ : L2.St} {H H1 : Hp} (i : S18 P w K mg base CR T v ns p vb vo db dd l fs σ H) (eH : ExtN H H1) (t1 : Tabs T H1) : S18 P w K mg base CR T v ns p vb vo db dd l fs σ H1 :=
  ⟨i.s.ext (Far.ext (b := l) eH) (tabsDel t1 (eH _ _ i.hl lst_ne_tbl)), i.a17, i.nl, eH _ _ i.hl lst_ne_tbl, i.len, fun x hx => (i.ask x hx).ext eH⟩
theorem S18.same {p : Par} {vb vo : V} {db dd : PyData} {l : Addr} {fs : List V} {σ : L2.St} {H H1 : Hp} (i : S18 P w K mg base CR T v ns p vb vo db dd l fs σ H) (e : Same H H1) : S18 P w K mg base CR T v ns p vb vo db dd l fs σ H1 :=
  ⟨i.s.same (Aside.of (b := l) e), i.a17, i.nl, e _ _ i.hl, i.len, fun x hx => (i.ask x hx).same e⟩
theorem S18.set {p : Par} {vb vo : V} {db dd : PyData} {l : Addr} {fs : List V} {σ : L2.St} {H : Hp} {j : Nat} {y : Option V} (i : S18 P w K mg base CR T v ns p vb vo db dd l fs σ H) (h : 18 ≤ j) : S18 P w K mg base CR T v ns p vb vo db dd l fs (σ.set j y) H :=
  ⟨i.s.set (by omega), i.a17.set (by omega), i.nl, i.hl, i.len, i.ask⟩
theorem S18.all {p : Par} {vb vo : V} {db dd : PyData} {l : Addr} {fs : List V} {σ : L2.St} {H : Hp} (i : S18 P w K mg base CR T v ns p vb vo db dd l fs σ H) : S17 K T v ns p vb vo db dd σ H := i.s.same sameDel
structure J1 (P : Program) (w : World) (K : PySem.W.Frag) (mg : Str → Option Value) (base : Heap) (CR : Addr) (T : List (Addr × Str)) (v : V) (ns : List Int) (y : Iy) (σ : L2.St) (H : Hp) : Prop where
  i : S18 P w K mg base CR T v ns y.p y.vb y.vo y.db y.dd y.l y.fs σ H
  a18 : At σ 18 y.x
  hx : Ask P w K mg base CR H y.x
theorem sa22 (h : Hlp P w K mg base) (hd : Hrd K mg) (n : Fns P w K mg base CR CT CK) (le : LamEnv (lawX P w K mg base f cdv A outer s H0 E) T) (hgu : A.guards = some []) (hr : Room 9 (A.deeper (envOfC "law" (defScope (top 36)) s.heap.objs.size f cdv))) :
    TriP (lawX P w K mg base f cdv A outer s H0 E) (i22 0) (fun y : Iy => J1 P w K mg base CR T v ns y) (fun y => J1 P w K mg base CR T v ns y) := by
  refine ⟨_, ps_if (pt_cmpR (op_neD (u64 hr)) (pe_heard (kk := 7) (t := fun E' => tLamC P w K mg base 7 18 E' (tCons (tVar 15) (tCons (tVar 16) tNil))) h hd n.ef le hgu hr (lamS_by (by decide +kernel)) rfl (by intros; rfl)
      (fun A' outer' s' H' E' f' c' hr' => pe_callLm (X := lamCx (lawX P w K mg base f cdv A outer s H0 E) A' outer' s' H' E' _ f' c') (k := 7) (j := 7) (i := 18) (E := E') hr' (Nat.le_refl _) (passes_call (takes_of rfl rfl rfl rfl) fun _ _ _ _ h => h) rfl (Or.inr (Or.inr rfl)) (pa_cons (pv 15) (pa_cons (pv 16) pa_nil))))
      (pe_tup (pa_cons pe_str (pa_cons (pe_callB (call_reprD hgu (u65 hr)) rfl h.nm.repr (by decide +kernel) (pa_cons (pv 15) pa_nil)) (pa_cons pe_bl pa_nil)))) (nomark _)) (pss_one (ps_ret pe_bl)) pss_nil, fun ⟨p, vb, vo, db, dd, l, fs, x⟩ D σ H q => ?_⟩
  have q : J1 P w K mg base CR T v ns ⟨p, vb, vo, db, dd, l, fs, x⟩ σ H := q
  obtain ⟨i, a18, hx⟩ := q
  have i : S18 P w K mg base CR T v ns p vb vo db dd l fs σ H := i
  have a18 : At σ 18 x := a18
  refine ⟨i.all.s.2.2.1.tb, fun H1 eH t1 => ?_⟩
  have i1 := i.ext eH t1
  have hx1 : Ask P w K mg base CR H1 x := hx.ext eH
  obtain ⟨g, c', qn, params, body, scope, rfl, h1, h2, ok⟩ := id hx1
  have j1 := i1.all
  have hcmp := cmp_ref (x := db.shown) j1.ob.so
  refine ⟨g, c', qn, params, body, scope, _, a18, h1, ok, vb, j1.a15, vo, j1.a16, h1, h2, vb, vo, db, dd, rfl, j1.hb.dp, j1.ho.dp, fun ds e => j1.ob.len e, .inl ⟨j1.ob.no, fun dq H2 s2 hd2 => ?_⟩⟩
  have i2 := i1.same s2
  refine .inr ⟨rfl, dq, vb, db, rfl, hd2, i2.all.hb.dp, j1.ob.sw, fun T0 hT0 => ?_⟩
  have s3 := Same.nw (o := .tup [.str "refused", .str db.shown, .bl true]) hT0
  have i3 := i2.same s3
  refine ⟨vb, j1.a15, vb, db, rfl, i3.all.hb.dp, j1.ob.sw, by show 3 ≤ sizeLine; decide, fun T2 hT2 => ?_⟩
  have s4 := Same.nw (o := .tup [.str "refused", .str db.shown, .bl true]) hT2
  refine ⟨_, _, Dm ref_dp s4, ref_dp, hcmp.sh, hcmp.sh, _, rfl, ?_⟩
  rw [hcmp.refl]
  exact ifF rfl ⟨i3.same s4, a18, hx1.same (sameT s2 (sameT s3 s4))⟩
theorem sb22 (h : Hlp P w K mg base) (hd : Hrd K mg) (n : Fns P w K mg base CR CT CK) (le : LamEnv (lawX P w K mg base f cdv A outer s H0 E) T) (hgu : A.guards = some []) (hr : Room 9 (A.deeper (envOfC "law" (defScope (top 36)) s.heap.objs.size f cdv))) :
    TriP (lawX P w K mg base f cdv A outer s H0 E) (i22 1) (fun y : Iy => J1 P w K mg base CR T v ns y) (fun y => S18 P w K mg base CR T v ns y.p y.vb y.vo y.db y.dd y.l y.fs) := by
  refine ⟨_, ps_if (pt_cmpR (op_neD (u64 hr)) (pe_heard (kk := 7) (t := fun E' => tLamC P w K mg base 7 18 E' (tCons (tVar 4) (tCons (tVar 16) tNil))) h hd n.ef le hgu hr (lamS_by (by decide +kernel)) rfl (by intros; rfl)
      (fun A' outer' s' H' E' f' c' hr' => pe_callLm (X := lamCx (lawX P w K mg base f cdv A outer s H0 E) A' outer' s' H' E' _ f' c') (k := 7) (j := 7) (i := 18) (E := E') hr' (Nat.le_refl _) (passes_call (takes_of rfl rfl rfl rfl) fun _ _ _ _ h => h) rfl (Or.inr (Or.inr rfl)) (pa_cons (pv 4) (pa_cons (pv 16) pa_nil))))
      (pe_tup (pa_cons pe_str (pa_cons (pe_callB (call_reprD hgu (u65 hr)) rfl h.nm.repr (by decide +kernel) (pa_cons (pv 16) pa_nil)) (pa_cons pe_bl pa_nil)))) (nomark _)) (pss_one (ps_ret pe_bl)) pss_nil, fun ⟨p, vb, vo, db, dd, l, fs, x⟩ D σ H q => ?_⟩
  have q : J1 P w K mg base CR T v ns ⟨p, vb, vo, db, dd, l, fs, x⟩ σ H := q
  obtain ⟨i, a18, hx⟩ := q
  have i : S18 P w K mg base CR T v ns p vb vo db dd l fs σ H := i
  have a18 : At σ 18 x := a18
  refine ⟨i.all.s.2.2.1.tb, fun H1 eH t1 => ?_⟩
  have i1 := i.ext eH t1
  have hx1 : Ask P w K mg base CR H1 x := hx.ext eH
  obtain ⟨g, c', qn, params, body, scope, rfl, h1, h2, ok⟩ := id hx1
  have j1 := i1.all
  have gd := j1.s.2.2.1
  have hcmp := cmp_ref (x := dd.shown) j1.oo.so
  have told : Told (.list (p.hs.map tup3)) p.hs := ⟨_, rfl, map_hk hk_tup3 _, gd.okp.ord⟩
  refine ⟨g, c', qn, params, body, scope, _, a18, h1, ok, p.vp, j1.s.2.2.2.a4, vo, j1.a16, h1, h2, p.vp, vo, _, dd, rfl, gd.dp.dp, j1.ho.dp, fun ds e => ?_, .inr ⟨p.hs, told, gd.okp, j1.oo.seq, fun dq H2 s2 hd2 => ?_⟩⟩
  · cases e
    rw [List.length_map]
    have := gd.okp.len
    omega
  have i2 := i1.same s2
  refine .inr ⟨rfl, dq, vo, dd, rfl, hd2, i2.all.ho.dp, j1.oo.sw, fun T0 hT0 => ?_⟩
  have s3 := Same.nw (o := .tup [.str "refused", .str dd.shown, .bl true]) hT0
  have i3 := i2.same s3
  refine ⟨vo, j1.a16, vo, dd, rfl, i3.all.ho.dp, j1.oo.sw, by show 3 ≤ sizeLine; decide, fun T2 hT2 => ?_⟩
  have s4 := Same.nw (o := .tup [.str "refused", .str dd.shown, .bl true]) hT2
  refine ⟨_, _, Dm ref_dp s4, ref_dp, hcmp.sh, hcmp.sh, _, rfl, ?_⟩
  rw [hcmp.refl]
  exact ifF rfl (i3.same s4)
theorem st22 (h : Hlp P w K mg base) (hd : Hrd K mg) (n : Fns P w K mg base CR CT CK) (le : LamEnv (lawX P w K mg base f cdv A outer s H0 E) T) (hgu : A.guards = some []) (hr : Room 9 (A.deeper (envOfC "law" (defScope (top 36)) s.heap.objs.size f cdv))) :
    Tri (lawX P w K mg base f cdv A outer s H0 E) (lst 22) (fun σ H => ∃ p vb vo db dd l fs, S18 P w K mg base CR T v ns p vb vo db dd l fs σ H ∧ fs.length = 4) (fun σ H => ∃ p, S5 K T v ns p σ H) := by
  have body : TrisP (lawX P w K mg base f cdv A outer s H0 E) in22 (fun y : Iy => J1 P w K mg base CR T v ns y) (fun y => S18 P w K mg base CR T v ns y.p y.vb y.vo y.db y.dd y.l y.fs) :=
    (TrisP.cons (sa22 h hd n le hgu hr) (TrisP.cons (sb22 h hd n le hgu hr) TrisP.nil) : TrisP (lawX P w K mg base f cdv A outer s H0 E) [i22 0, i22 1] (fun y : Iy => J1 P w K mg base CR T v ns y) (fun y => S18 P w K mg base CR T v ns y.p y.vb y.vo y.db y.dd y.l y.fs))
  obtain ⟨tb, hb, hread⟩ := body
  refine ⟨_, ps_for PassesOwn.never rfl (pi_seqF (pv 17)) (pg_name (i := 18) nd36 rfl (Or.inr rfl)) hb, fun D σ H q => ?_⟩
  obtain ⟨p, vb, vo, db, dd, l, fs, i, hf⟩ := q
  refine ⟨_, i.a17, false, l, fs, rfl, SqL.of i.hl, fun J wk => ?_⟩
  refine for_it wk (fun _ σ H => S18 P w K mg base CR T v ns p vb vo db dd l fs σ H) i (fun _ σ H _ i => SqL.of i.hl) (fun j x σ H1 H1' hj i0 y => ?_) (fun σ H1 i0 => ⟨p, i0.all.s⟩)
  obtain ⟨rfl, hx⟩ := y
  exact hread ⟨p, vb, vo, db, dd, l, fs, x⟩ _ _ _ ⟨i0.set (by decide), At.new i0.all.s.2.2.2.len (by decide), i0.ask x (List.mem_of_getElem? hx)⟩ fun σ' H' z => z
end
end K60
/-! K60WB: the law's turn and body. -/
namespace K60
open PySem PySem.Spec PyProof.Rows L2 LamX
section
variable {P : Program} {w : World} {K : PySem.W.Frag} {mg : Str → Option Value} {base : Heap} {CR CT CK : Addr} {f : Addr} {cdv : Value} {A : Around} {outer : List Env} {s : Shared} {H0 : Hp} {E : XK} {T : List (Addr × Str)} {v : V} {ns : List Int}
theorem law_turn (h : Hlp P w K mg base) (hd : Hrd K mg) (n : Fns P w K mg base CR CT CK) (le : LamEnv (lawX P w K mg base f cdv A outer s H0 E) T) (hgu : A.guards = some []) (hr9 : Room 9 (A.deeper (envOfC "law" (defScope (top 36)) s.heap.objs.size f cdv))) :
    Tris (lawX P w K mg base f cdv A outer s H0 E) loopBody (S0 K T v ns) (fun σ H => ∃ p, S5 K T v ns p σ H) := by
  have hr : Room 8 (A.deeper (envOfC "law" (defScope (top 36)) s.heap.objs.size f cdv)) := hr9.mono (by decide)
  have b : Tris (lawX P w K mg base f cdv A outer s H0 E) [lst 0, lst 1, lst 2, lst 3, lst 4, lst 5, lst 6, lst 7, lst 8, lst 9, lst 10, lst 11, lst 12, lst 13, lst 14, lst 15, lst 16, lst 17, lst 18, lst 19, lst 20, lst 21, lst 22] (S0 K T v ns) (fun σ H => ∃ p, S5 K T v ns p σ H) :=
    .cons (st0 h hr) (.cons (st1 h hr) (.cons (st2 h hr) (.cons (st3 h hr) (.cons (st4 h hr) (.cons (st5 h hr) (.cons (st6 h n hgu hr) (.cons (st7 h hr) (.cons (st8 h hd n le hgu hr) (.cons (st9 h hr)
      (.cons (st10 h hr) (.cons (st11 h n hgu hr) (.cons (st12 h hgu hr) (.cons (st13 h hd n le hgu hr) (.cons (st14 h hd n le hgu hr) (.cons (st15 h hr) (.cons (st16 h hd n le hgu hr) (.cons (st17 h hr)
        (.cons (st18 n le) (.cons (st19 n le) (.cons (st20 n le) (.cons (st21 n le) (.cons (st22 h hd n le hgu hr9) .nil))))))))))))))))))))))
  exact b
/-- what the law takes: the script -/
def spLaw (K : PySem.W.Frag) (T : List (Addr × Str)) (ns : List Int) : Sp := fun vs H Q E => ∃ v, vs = [v] ∧ Tabs T H ∧ Dp K H v (.list (ns.map .int)) ∧ ∀ H1, Q (.bl true) H1
theorem scLaw : FnScope N36 ["_law_script"] (defScope (top 36)) := ⟨rfl, rfl, rfl, by decide +kernel, rfl, by decide +kernel, by decide +kernel⟩
theorem law_body (h : Hlp P w K mg base) (hd : Hrd K mg) (n : Fns P w K mg base CR CT CK) (le : LamEnv (lawX P w K mg base f cdv A outer s H0 E) T) (hgu : A.guards = some []) (hr9 : Room 9 (A.deeper (envOfC "law" (defScope (top 36)) s.heap.objs.size f cdv))) :
    ∃ t, PSs (lawX P w K mg base f cdv A outer s H0 E) (defBody (top 36)) t ∧ ∀ (D : Ends) (H : Hp), Tabs T H → Dp K H v (.list (ns.map .int)) → (∀ H1, D.rt (.bl true) H1) → t D (L2.start N36 [v]) H := by
  obtain ⟨tb, hb, hread⟩ := law_turn (v := v) (ns := ns) h hd n le hgu hr9
  refine ⟨_, pss_cons (ps_for PassesOwn.never rfl (pi_range1 rfl h.nm.range (pa_cons pe_int pa_nil)) (pg_name (i := 1) nd36 rfl (Or.inl rfl)) hb) (pss_one (ps_ret pe_bl)), fun D H ht hds hq => ?_⟩
  refine ⟨5, rfl, by decide, by decide, ?_⟩
  refine for_it walk_range (fun _ σ H => σ.length = 22 ∧ At σ 0 v ∧ Tabs T H ∧ Dp K H v (.list (ns.map .int))) ⟨rfl, rfl, ht, hds⟩ (fun _ _ _ _ _ => trivial) (fun i x σ H1 H1' hi p y => ?_) (fun σ H1 p => hq H1)
  obtain ⟨rfl, rfl⟩ := y
  obtain ⟨len, a0, tb1, ds1⟩ := p
  refine hread _ _ _ ⟨setL len, a0.set (by decide), ⟨i, ?_⟩, tb1, ds1⟩ fun σ' H' ⟨p, e1, e2, gd, sl⟩ => ⟨sl.len, by rw [← e1]; exact sl.a0, gd.tb, by rw [← e1, ← e2]; exact gd.ds.dp⟩
  have e : (0 : Int) + (i : Int) = (i : Int) := Int.zero_add _
  show At (σ.set 1 (some (V.int (0 + (i : Int))))) 1 (V.int (i : Int))
  rw [e]
  exact At.new len (by decide)
end
end K60
/-! K60End: the law called by the outermost caller, its own table of code objects told. -/
namespace K60
open PySem PySem.Spec PyProof.Rows L2 LamX
section
variable {P : Program} {w : World} {K : PySem.W.Frag} {mg mb : Str → Option Value} {fa a c Pt : Addr} {s₁ : Shared} {vs : List Value} {ns : List Int}
abbrev oScript (vs : List Value) : Obj := { cls := .type "list", data := .seq vs.toArray }
abbrev oTab : Obj := { cls := .none, data := .fields #[] }
/-- what is told at the law's start: its table, and the script where the fragment does not tell it -/
def startH (K : PySem.W.Frag) (a Pt : Addr) (vs : List Value) (ns : List Int) : Hp := fun b =>
  if b = Pt then some (.tbl #[]) else if b = a ∧ (K.lookup a).isNone = true then some (.frz (oScript vs) (.lst (ns.map V.int))) else none
theorem startH_cases {b : Addr} {u : HO} (e : startH K a Pt vs ns b = some u) : (b = Pt ∧ u = .tbl #[]) ∨ (b = a ∧ b ≠ Pt ∧ K.lookup a = none ∧ u = .frz (oScript vs) (.lst (ns.map V.int))) := by
  unfold startH at e
  split at e
  · rename_i h
    exact .inl ⟨h, (Option.some.inj e).symm⟩
  · rename_i h
    split at e
    · rename_i h2
      exact .inr ⟨h2.1, h, Option.isNone_iff_eq_none.mp h2.2, (Option.some.inj e).symm⟩
    · cases e
theorem startH_tab : startH K a Pt vs ns Pt = some (.tbl #[]) := if_pos rfl
theorem startH_none {b : Addr} (h1 : b ≠ Pt) (h2 : b = a → K.lookup a ≠ none) : startH K a Pt vs ns b = none := by
  cases e : startH K a Pt vs ns b with
  | none => rfl
  | some u =>
    rcases startH_cases e with ⟨z, _⟩ | ⟨z, _, y, _⟩
    · exact absurd z h1
    · exact absurd y (h2 z)
structure AtCall (P : Program) (w : World) (K : PySem.W.Frag) (mg mb : Str → Option Value) (a c Pt : Addr) (s₁ : Shared) (vs : List Value) (ns : List Int) : Prop where
  kin : K.In s₁.heap
  g : s₁.heap.Ns mainGlobals mg
  b : s₁.heap.Ns builtinsNs mb
  bb : ∀ x : Str, x ≠ "__name__" → mb x = bootBuiltins x
  lim : s₁.heap.NoLimit
  gens : s₁.gens = #[]
  tab : s₁.heap.get? Pt = some oTab
  ntab : K.lookup Pt = none
  code : PySem.W.CodeHd s₁.heap c Pt
  bm : ∃ (bm : Addr) (ob : Obj), mg "__builtins__" = some (.ref bm) ∧ bm ≠ builtinsNs ∧ s₁.heap.get? bm = some ob ∧ ob.cls = .type "module" ∧ ob.dict = some builtinsNs ∧ ob.data = .plain
  scr : s₁.heap.get? a = some (oScript vs)
  scri : IntsAre vs ns
  len : ns.length ≤ sizeLine
variable (C : AtCall P w K mg mb a c Pt s₁ vs ns)
include C
theorem AtCall.ne : a ≠ Pt := fun e => by
  have h := C.scr
  rw [e, C.tab] at h
  exact absurd (congrArg Obj.data (Option.some.inj h)) (fun z => by cases z)
theorem AtCall.quiet {b : Addr} {o : Obj} (e : s₁.heap.get? b = some o) (h1 : o.data ≠ .fields #[]) (h2 : o.data ≠ .seq vs.toArray) : startH K a Pt vs ns b = none := startH_none (fun z => by
    rw [z, C.tab] at e
    exact h1 (by rw [← Option.some.inj e])) (fun z => by
    rw [z, C.scr] at e
    exact absurd (by rw [← Option.some.inj e]) h2)
theorem AtCall.dict {b : Addr} {m : Str → Option Value} (h : s₁.heap.Ns b m) : (hidT s₁.heap (startH K a Pt vs ns)).Ns b m := by
  obtain ⟨o, es, ep, e, d, r⟩ := h
  exact ⟨o, es, ep, hidT_get e (C.quiet e (fun z => by rw [d] at z; cases z) fun z => by rw [d] at z; cases z), d, r⟩
theorem AtCall.kinB : K.In (hidT s₁.heap (startH K a Pt vs ns)) := fun b o e => hidT_get (C.kin b o e) (startH_none (fun z => by
    rw [z, C.ntab] at e
    cases e) fun z y => by
    rw [z, y] at e
    cases e)
theorem AtCall.mod : L2.Mod K mg (hidT s₁.heap (startH K a Pt vs ns)) := by
  refine ⟨C.kinB, C.dict C.g, ⟨mb, C.dict C.b, C.bb⟩, ?_⟩
  obtain ⟨mc, h1, h2⟩ := C.lim
  exact ⟨mc, C.dict h1, h2⟩
theorem AtCall.tabB : TabB (hidT s₁.heap (startH K a Pt vs ns)) mg c Pt := by
  refine ⟨?_, ?_, fun z => ?_⟩
  · obtain ⟨o, us, file, tf, flags, tg, inF, text, tt, e1, r1, r2, r3, rest⟩ := C.code
    exact ⟨o, us, file, tf, flags, tg, inF, text, tt, hidT_get e1 (C.quiet e1 (fun z => by
      rw [r2] at z
      cases z
      simp at r3) fun z => by
      rw [r2] at z
      cases z), r1, r2, r3, rest⟩
  · obtain ⟨bm, ob, b1, b2, b3, b4, b5, b6⟩ := C.bm
    refine ⟨bm, ob, b1, b2, fun q => ?_, fun q => ?_, hidT_get b3 (C.quiet b3 (fun z => by rw [b6] at z; cases z) fun z => by rw [b6] at z; cases z), b4, b5, b6⟩
    · obtain ⟨o, es, ep, e, hd, _⟩ := C.g
      rw [q, e] at b3
      cases b3
      rw [hd] at b6
      cases b6
    · rw [q, C.tab] at b3
      cases b3
      cases b6
  · obtain ⟨o, es, ep, e, hd, _⟩ := C.g
    rw [z, C.tab] at e
    cases e
    cases hd
theorem AtCall.hok : HOk P w (startH K a Pt vs ns) s₁.heap := fun b u e => by
  rcases startH_cases e with ⟨z, y⟩ | ⟨z, _, _, y⟩
  · rw [z, y]
    exact C.tab
  · rw [z, y]
    exact ⟨C.scr, by rw [List.length_map]; exact C.len, vs, _, vals_ints C.scri, C.scr⟩
theorem AtCall.env0 : Env0 P w K mg (hidT s₁.heap (startH K a Pt vs ns)) callerA [] s₁ (startH K a Pt vs ns) :=
  ⟨rfl, C.mod, fun _ _ e => of_hidT e, Nat.le_of_eq (hidT_size _ _), trivial, fun b hb => absurd (show b ∈ ([] : List Addr) from hb) (by simp), C.hok, .of_eq C.gens⟩
theorem AtCall.sq : SqL K (startH K a Pt vs ns) a (ns.map V.int) := by
  cases hk : K.lookup a with
  | some o =>
    have e := C.kin a o hk
    rw [C.scr] at e
    cases e
    exact .inr ⟨_, vs.toArray, _, hk, rfl, rfl, rfl, by rw [List.size_toArray, C.scri.length]; exact C.len, by simpa using vals_ints C.scri⟩
  | none =>
    refine .inl (.inr ⟨oScript vs, ?_⟩)
    unfold startH
    rw [if_neg C.ne, if_pos ⟨rfl, by rw [hk]; rfl⟩]
/-- an answer True, all else as it was -/
theorem AtCall.done (F : codeAny (model P w) callerA (.call (.ref fa) ⟨[.ref a], []⟩) (CR CX0 [] P w (startH K a Pt vs ns) s₁ (fun v _ => v = .bl true) fun _ _ _ => False) s₁) :
    codeAny (model P w) callerA (.call (.ref fa) ⟨[.ref a], []⟩) (fun r s' => r = .ok (.ret (.bool true)) ∧ OldK s₁.heap s'.heap ∧ s'.os = s₁.os ∧ AllBare s'.gens) s₁ := by
  refine codeAny_mono F fun r s' h => ?_
  match r, h with
  | .ok (.ret u), h =>
    obtain ⟨v, H', os, bare, un, hok', rv, q⟩ := h
    cases q
    have hu : u = Value.bool true := rv
    subst hu
    obtain ⟨more, hm⟩ := un.tbls Pt #[] startH_tab
    have grown := hok' Pt _ hm
    have key : ∀ b o, b ≠ Pt → s₁.heap.get? b = some o → s'.heap.get? b = some o := fun b o nb e => by
      cases q : startH K a Pt vs ns b with
      | none => exact un.keep b o e q (by intro z; exact absurd (show b ∈ ([] : List Addr) from z) (by simp)) (by simp)
      | some u =>
        rcases startH_cases q with ⟨z, _⟩ | ⟨z, _, _, y⟩
        · exact absurd z nb
        · rw [y] at q
          have e2 := (hok' b _ (un.frzs b _ _ q)).1
          rw [z, C.scr] at e
          cases e
          exact e2
    refine ⟨rfl, ⟨fun b o e => ?_, fun b o e => ?_⟩, os, bare⟩
    · by_cases hb : b = Pt
      · rw [hb, C.tab] at e
        cases e
        rw [hb]
        exact .inr (.inl ⟨(C.code.tab C.tab).isCodeTable, rfl, #[], _, rfl, by rw [Array.empty_append]; exact grown⟩)
      · exact .inl (key b o hb e)
    · by_cases hb : b = Pt
      · rw [hb]
        exact ⟨_, grown⟩
      · exact ⟨o, key b o hb e⟩
end
end K60
/-! K60Mk (printed by mk.py): from the head's facts to the helpers, the functions, the law. -/
namespace K60
open PySem PySem.Spec PyProof.Rows L2 LamX


/-! ### the two errors -/
def cInit (i : Nat) : Stmt := match top i with
  | .ClassDef _ _ _ (s :: _) .. => s
  | s => s
theorem cf2 : CallForm "no such value here" 0 ⟨7,8,7,13⟩ ⟨7,8,7,15⟩ ⟨7,8,7,24⟩ ⟨7,25,7,45⟩ ⟨7,8,7,46⟩ := fun _ => ⟨_, rfl⟩
theorem cf3 : CallForm "more than is looked at" 0 ⟨12,8,12,13⟩ ⟨12,8,12,15⟩ ⟨12,8,12,24⟩ ⟨12,25,12,49⟩ ⟨12,8,12,50⟩ := fun _ => ⟨_, rfl⟩
theorem si2 : ScI "at" (defArgs (cInit 2)) (defScope (cInit 2)) := ⟨rfl, rfl, rfl, rfl, rfl, rfl, rfl, by decide +kernel, by decide +kernel, ⟨_, rfl, rfl⟩, by decide, by decide, by decide⟩
theorem si3 : ScI "most" (defArgs (cInit 3)) (defScope (cInit 3)) := ⟨rfl, rfl, rfl, rfl, rfl, rfl, rfl, by decide +kernel, by decide +kernel, ⟨_, rfl, rfl⟩, by decide, by decide, by decide⟩
section
variable {P : Program} {w : World} {K : PySem.W.Frag} {mg : Str → Option Value} {base : Heap} {C fI : Addr} {fd : FuncData}
theorem ok_refI (N : Nm mg) (T : SupC P K C fI "Refused.__init__" "at" (defArgs (cInit 2)) (defBody (cInit 2)) (defScope (cInit 2)) fd) : FnOk P w K mg base CX0 1 fI fd ["self", "at"] (spExI C "at") :=
  ok_exinit (p0 := ⟨7,8,7,13⟩) (p1 := ⟨7,8,7,15⟩) (p2 := ⟨7,8,7,24⟩) (p3 := ⟨7,25,7,45⟩) (p4 := ⟨7,8,7,46⟩) (p5 := ⟨7,8,7,46⟩) (p6 := ⟨8,8,8,12⟩) (p7 := ⟨8,8,8,15⟩) (p8 := ⟨8,18,8,20⟩) (p9 := ⟨8,8,8,20⟩) cf2 si2 N T
theorem ok_greI (N : Nm mg) (T : SupC P K C fI "TooGreat.__init__" "most" (defArgs (cInit 3)) (defBody (cInit 3)) (defScope (cInit 3)) fd) : FnOk P w K mg base CX0 1 fI fd ["self", "most"] (spExI C "most") :=
  ok_exinit (p0 := ⟨12,8,12,13⟩) (p1 := ⟨12,8,12,15⟩) (p2 := ⟨12,8,12,24⟩) (p3 := ⟨12,25,12,49⟩) (p4 := ⟨12,8,12,50⟩) (p5 := ⟨12,8,12,50⟩) (p6 := ⟨13,8,13,12⟩) (p7 := ⟨13,8,13,17⟩) (p8 := ⟨13,20,13,24⟩) (p9 := ⟨13,8,13,24⟩) cf3 si3 N T
end

/-! ### what the law stands on -/
structure Setup (P : Program) (w : World) (K : PySem.W.Frag) (mg : Str → Option Value) (fa : Addr) : Prop where
  ex : ∃ (c Pt CR CT CK : Addr) (oc : Value) (od : Option Addr) (kV doc pm : Value) (an : Option Addr) (ct : Value) (osl : Array (Option Value)),
    K.lookup fa = some ⟨oc, od, .func (PySem.W.fnOf "law" "law" (defArgs (top 36)) (defBody (top 36)) (defScope (top 36)) .none kV doc pm an (.ref c) ct), osl⟩ ∧ PySem.W.codeIn K (.ref c) "law" = true ∧ PySem.W.tabIn K "law" = some (c, Pt) ∧ K.lookup Pt = none ∧
    ∀ base : Heap, Hlp P w K mg base ∧ Hrd K mg ∧ Fns P w K mg base CR CT CK
theorem tab_in {K : PySem.W.Frag} {x : Str} {f c Pt : Addr} {oc cc : Value} {od cd : Option Addr} {osl csl : Array (Option Value)} {fd : FuncData} {vs : Array Value} (h1 : PySem.W.nsIn K mainGlobals x = some (some (.ref f))) (h2 : K.lookup f = some ⟨oc, od, .func fd, osl⟩) (h3 : fd.code = .ref c)
    (h4 : K.lookup c = some ⟨cc, cd, .fields vs, csl⟩) (h5 : (vs[11]? : Option Value) = some (.ref Pt)) : PySem.W.tabIn K x = some (c, Pt) := by
  unfold PySem.W.tabIn
  simp only [h1, h2, h3, h4, h5]

/-- the head tells all this -/
theorem all_mk {P : Program} {w : World} {K : PySem.W.Frag} {h : Heap} {mg : Str → Option Value} {fa : Addr} (X : K.In h) (G : h.Ns mainGlobals mg) (hfa : mg "law" = some (.ref fa))
    {C1 C2 C3 c36 Pt f36 f5 f6 f7 f9 f11 f12 f13 f14 f15 f16 f17 f18 f19 f21 f22 f23 f30 f31 f32 f35 f34 : Addr}
    {oc5 kV5 dc5 pm5 ct5 cd5 oc6 kV6 dc6 pm6 ct6 cd6 oc7 kV7 dc7 pm7 ct7 cd7 oc9 kV9 dc9 pm9 ct9 cd9 oc11 kV11 dc11 pm11 ct11 cd11 oc12 kV12 dc12 pm12 ct12 cd12 oc13 kV13 dc13 pm13 ct13 cd13 oc14 kV14 dc14 pm14 ct14 cd14 oc15 kV15 dc15 pm15 ct15 cd15 oc16 kV16 dc16 pm16 ct16 cd16 oc17 kV17 dc17 pm17 ct17 cd17 oc18 kV18 dc18 pm18 ct18 cd18 oc19 kV19 dc19 pm19 ct19 cd19 oc21 kV21 dc21 pm21 ct21 cd21 oc22 kV22 dc22 pm22 ct22 cd22 oc23 kV23 dc23 pm23 ct23 cd23 oc30 kV30 dc30 pm30 ct30 cd30 oc31 kV31 dc31 pm31 ct31 cd31 oc32 kV32 dc32 pm32 ct32 cd32 oc35 kV35 dc35 pm35 ct35 cd35 oc34 kV34 dc34 pm34 ct34 cd34 oc36 kV36 dc36 pm36 ct36 cc36 oI2 kVI2 dcI2 pmI2 ctI2 clI2 ccI2 oI3 kVI3 dcI3 pmI3 ctI3 clI3 ccI3 : Value}
    {od5 an5 od6 an6 od7 an7 od9 an9 od11 an11 od12 an12 od13 an13 od14 an14 od15 an15 od16 an16 od17 an17 od18 an18 od19 an19 od21 an21 od22 an22 od23 an23 od30 an30 od31 an31 od32 an32 od35 an35 od34 an34 od36 an36 cdd36 odI2 anI2 cdI2 cldI2 odI3 anI3 cdI3 cldI3 : Option Addr}
    {sl5 sl6 sl7 sl9 sl11 sl12 sl13 sl14 sl15 sl16 sl17 sl18 sl19 sl21 sl22 sl23 sl30 sl31 sl32 sl35 sl34 sl36 csl36 slI2 csI2 ceI2 slI3 csI3 ceI3 : Array (Option Value)}
    {vs36 : Array Value}
    {nm2 q2 : Str} {Nn2 : Addr} {bs2 bm2 sub2 : List Value} {sn2 : List Str} {ab2 : Bool} {col2 : Option Bool} {dd2 : Option Addr} {m02 m12 m22 m32 m52 : Option Value} {fI2 cda2 cce2 : Addr} {vsI2 : Array Value} {file2 : Str} {tf2 : Tok} {cdt2 : ClassData}
    {nm3 q3 : Str} {Nn3 : Addr} {bs3 bm3 sub3 : List Value} {sn3 : List Str} {ab3 : Bool} {col3 : Option Bool} {dd3 : Option Addr} {m03 m13 m23 m33 m53 : Option Value} {fI3 cda3 cce3 : Addr} {vsI3 : Array Value} {file3 : Str} {tf3 : Tok} {cdt3 : ClassData}
    (z_isinstance : PySem.W.nsIn K mainGlobals "isinstance" = some none)
    (z_int : PySem.W.nsIn K mainGlobals "int" = some none)
    (z_bool : PySem.W.nsIn K mainGlobals "bool" = some none)
    (z_list : PySem.W.nsIn K mainGlobals "list" = some none)
    (z_tuple : PySem.W.nsIn K mainGlobals "tuple" = some none)
    (z_len : PySem.W.nsIn K mainGlobals "len" = some none)
    (z_all : PySem.W.nsIn K mainGlobals "all" = some none)
    (z_zip : PySem.W.nsIn K mainGlobals "zip" = some none)
    (z_range : PySem.W.nsIn K mainGlobals "range" = some none)
    (z_max : PySem.W.nsIn K mainGlobals "max" = some none)
    (z_repr : PySem.W.nsIn K mainGlobals "repr" = some none)
    (z_abs : PySem.W.nsIn K mainGlobals "abs" = some none)
    (z_super : PySem.W.nsIn K mainGlobals "super" = some none)
    (a5 : PySem.W.nsIn K mainGlobals "is_integer" = some (some (.ref f5)))
    (l5 : K.lookup f5 = some ⟨oc5, od5, .func (PySem.W.fnOf "is_integer" "is_integer" (defArgs (top 5)) (defBody (top 5)) (defScope (top 5)) .none kV5 dc5 pm5 an5 cd5 ct5), sl5⟩)
    (c5 : PySem.W.codeIn K cd5 "is_integer" = true)
    (k5 : PySem.W.keepIn K (.ref f5) = true)
    (a6 : PySem.W.nsIn K mainGlobals "is_number" = some (some (.ref f6)))
    (l6 : K.lookup f6 = some ⟨oc6, od6, .func (PySem.W.fnOf "is_number" "is_number" (defArgs (top 6)) (defBody (top 6)) (defScope (top 6)) .none kV6 dc6 pm6 an6 cd6 ct6), sl6⟩)
    (c6 : PySem.W.codeIn K cd6 "is_number" = true)
    (k6 : PySem.W.keepIn K (.ref f6) = true)
    (a7 : PySem.W.nsIn K mainGlobals "is_sequence" = some (some (.ref f7)))
    (l7 : K.lookup f7 = some ⟨oc7, od7, .func (PySem.W.fnOf "is_sequence" "is_sequence" (defArgs (top 7)) (defBody (top 7)) (defScope (top 7)) .none kV7 dc7 pm7 an7 cd7 ct7), sl7⟩)
    (c7 : PySem.W.codeIn K cd7 "is_sequence" = true)
    (k7 : PySem.W.keepIn K (.ref f7) = true)
    (a9 : PySem.W.nsIn K mainGlobals "check_things" = some (some (.ref f9)))
    (l9 : K.lookup f9 = some ⟨oc9, od9, .func (PySem.W.fnOf "check_things" "check_things" (defArgs (top 9)) (defBody (top 9)) (defScope (top 9)) .none kV9 dc9 pm9 an9 cd9 ct9), sl9⟩)
    (c9 : PySem.W.codeIn K cd9 "check_things" = true)
    (k9 : PySem.W.keepIn K (.ref f9) = true)
    (a11 : PySem.W.nsIn K mainGlobals "is_hunk" = some (some (.ref f11)))
    (l11 : K.lookup f11 = some ⟨oc11, od11, .func (PySem.W.fnOf "is_hunk" "is_hunk" (defArgs (top 11)) (defBody (top 11)) (defScope (top 11)) .none kV11 dc11 pm11 an11 cd11 ct11), sl11⟩)
    (c11 : PySem.W.codeIn K cd11 "is_hunk" = true)
    (k11 : PySem.W.keepIn K (.ref f11) = true)
    (a12 : PySem.W.nsIn K mainGlobals "check_patch" = some (some (.ref f12)))
    (l12 : K.lookup f12 = some ⟨oc12, od12, .func (PySem.W.fnOf "check_patch" "check_patch" (defArgs (top 12)) (defBody (top 12)) (defScope (top 12)) .none kV12 dc12 pm12 an12 cd12 ct12), sl12⟩)
    (c12 : PySem.W.codeIn K cd12 "check_patch" = true)
    (k12 : PySem.W.keepIn K (.ref f12) = true)
    (a13 : PySem.W.nsIn K mainGlobals "fits_at" = some (some (.ref f13)))
    (l13 : K.lookup f13 = some ⟨oc13, od13, .func (PySem.W.fnOf "fits_at" "fits_at" (defArgs (top 13)) (defBody (top 13)) (defScope (top 13)) .none kV13 dc13 pm13 an13 cd13 ct13), sl13⟩)
    (c13 : PySem.W.codeIn K cd13 "fits_at" = true)
    (k13 : PySem.W.keepIn K (.ref f13) = true)
    (a14 : PySem.W.nsIn K mainGlobals "are_places" = some (some (.ref f14)))
    (l14 : K.lookup f14 = some ⟨oc14, od14, .func (PySem.W.fnOf "are_places" "are_places" (defArgs (top 14)) (defBody (top 14)) (defScope (top 14)) .none kV14 dc14 pm14 an14 cd14 ct14), sl14⟩)
    (c14 : PySem.W.codeIn K cd14 "are_places" = true)
    (k14 : PySem.W.keepIn K (.ref f14) = true)
    (a15 : PySem.W.nsIn K mainGlobals "all_fits" = some (some (.ref f15)))
    (l15 : K.lookup f15 = some ⟨oc15, od15, .func (PySem.W.fnOf "all_fits" "all_fits" (defArgs (top 15)) (defBody (top 15)) (defScope (top 15)) .none kV15 dc15 pm15 an15 cd15 ct15), sl15⟩)
    (c15 : PySem.W.codeIn K cd15 "all_fits" = true)
    (k15 : PySem.W.keepIn K (.ref f15) = true)
    (a16 : PySem.W.nsIn K mainGlobals "first_fit" = some (some (.ref f16)))
    (l16 : K.lookup f16 = some ⟨oc16, od16, .func (PySem.W.fnOf "first_fit" "first_fit" (defArgs (top 16)) (defBody (top 16)) (defScope (top 16)) .none kV16 dc16 pm16 an16 cd16 ct16), sl16⟩)
    (c16 : PySem.W.codeIn K cd16 "first_fit" = true)
    (k16 : PySem.W.keepIn K (.ref f16) = true)
    (a17 : PySem.W.nsIn K mainGlobals "only_fit" = some (some (.ref f17)))
    (l17 : K.lookup f17 = some ⟨oc17, od17, .func (PySem.W.fnOf "only_fit" "only_fit" (defArgs (top 17)) (defBody (top 17)) (defScope (top 17)) .none kV17 dc17 pm17 an17 cd17 ct17), sl17⟩)
    (c17 : PySem.W.codeIn K cd17 "only_fit" = true)
    (k17 : PySem.W.keepIn K (.ref f17) = true)
    (a18 : PySem.W.nsIn K mainGlobals "patched_at" = some (some (.ref f18)))
    (l18 : K.lookup f18 = some ⟨oc18, od18, .func (PySem.W.fnOf "patched_at" "patched_at" (defArgs (top 18)) (defBody (top 18)) (defScope (top 18)) .none kV18 dc18 pm18 an18 cd18 ct18), sl18⟩)
    (c18 : PySem.W.codeIn K cd18 "patched_at" = true)
    (k18 : PySem.W.keepIn K (.ref f18) = true)
    (a19 : PySem.W.nsIn K mainGlobals "patched" = some (some (.ref f19)))
    (l19 : K.lookup f19 = some ⟨oc19, od19, .func (PySem.W.fnOf "patched" "patched" (defArgs (top 19)) (defBody (top 19)) (defScope (top 19)) .none kV19 dc19 pm19 an19 cd19 ct19), sl19⟩)
    (c19 : PySem.W.codeIn K cd19 "patched" = true)
    (k19 : PySem.W.keepIn K (.ref f19) = true)
    (a21 : PySem.W.nsIn K mainGlobals "_law_box" = some (some (.ref f21)))
    (l21 : K.lookup f21 = some ⟨oc21, od21, .func (PySem.W.fnOf "_law_box" "_law_box" (defArgs (top 21)) (defBody (top 21)) (defScope (top 21)) .none kV21 dc21 pm21 an21 cd21 ct21), sl21⟩)
    (c21 : PySem.W.codeIn K cd21 "_law_box" = true)
    (k21 : PySem.W.keepIn K (.ref f21) = true)
    (a22 : PySem.W.nsIn K mainGlobals "_law_take" = some (some (.ref f22)))
    (l22 : K.lookup f22 = some ⟨oc22, od22, .func (PySem.W.fnOf "_law_take" "_law_take" (defArgs (top 22)) (defBody (top 22)) (defScope (top 22)) .none kV22 dc22 pm22 an22 cd22 ct22), sl22⟩)
    (c22 : PySem.W.codeIn K cd22 "_law_take" = true)
    (k22 : PySem.W.keepIn K (.ref f22) = true)
    (a23 : PySem.W.nsIn K mainGlobals "_law_pick" = some (some (.ref f23)))
    (l23 : K.lookup f23 = some ⟨oc23, od23, .func (PySem.W.fnOf "_law_pick" "_law_pick" (defArgs (top 23)) (defBody (top 23)) (defScope (top 23)) .none kV23 dc23 pm23 an23 cd23 ct23), sl23⟩)
    (c23 : PySem.W.codeIn K cd23 "_law_pick" = true)
    (k23 : PySem.W.keepIn K (.ref f23) = true)
    (a30 : PySem.W.nsIn K mainGlobals "_law_row" = some (some (.ref f30)))
    (l30 : K.lookup f30 = some ⟨oc30, od30, .func (PySem.W.fnOf "_law_row" "_law_row" (defArgs (top 30)) (defBody (top 30)) (defScope (top 30)) .none kV30 dc30 pm30 an30 cd30 ct30), sl30⟩)
    (c30 : PySem.W.codeIn K cd30 "_law_row" = true)
    (k30 : PySem.W.keepIn K (.ref f30) = true)
    (a31 : PySem.W.nsIn K mainGlobals "_law_fits" = some (some (.ref f31)))
    (l31 : K.lookup f31 = some ⟨oc31, od31, .func (PySem.W.fnOf "_law_fits" "_law_fits" (defArgs (top 31)) (defBody (top 31)) (defScope (top 31)) .none kV31 dc31 pm31 an31 cd31 ct31), sl31⟩)
    (c31 : PySem.W.codeIn K cd31 "_law_fits" = true)
    (k31 : PySem.W.keepIn K (.ref f31) = true)
    (a32 : PySem.W.nsIn K mainGlobals "_law_put" = some (some (.ref f32)))
    (l32 : K.lookup f32 = some ⟨oc32, od32, .func (PySem.W.fnOf "_law_put" "_law_put" (defArgs (top 32)) (defBody (top 32)) (defScope (top 32)) .none kV32 dc32 pm32 an32 cd32 ct32), sl32⟩)
    (c32 : PySem.W.codeIn K cd32 "_law_put" = true)
    (k32 : PySem.W.keepIn K (.ref f32) = true)
    (a35 : PySem.W.nsIn K mainGlobals "_law_patch" = some (some (.ref f35)))
    (l35 : K.lookup f35 = some ⟨oc35, od35, .func (PySem.W.fnOf "_law_patch" "_law_patch" (defArgs (top 35)) (defBody (top 35)) (defScope (top 35)) .none kV35 dc35 pm35 an35 cd35 ct35), sl35⟩)
    (c35 : PySem.W.codeIn K cd35 "_law_patch" = true)
    (k35 : PySem.W.keepIn K (.ref f35) = true)
    (a34 : PySem.W.nsIn K mainGlobals "_law_heard" = some (some (.ref f34)))
    (l34 : K.lookup f34 = some ⟨oc34, od34, .func (PySem.W.fnOf "_law_heard" "_law_heard" (defArgs (top 34)) (defBody (top 34)) (defScope (top 34)) .none kV34 dc34 pm34 an34 cd34 ct34), sl34⟩)
    (c34 : PySem.W.codeIn K cd34 "_law_heard" = true)
    (k34 : PySem.W.keepIn K (.ref f34) = true)
    (a36 : PySem.W.nsIn K mainGlobals "law" = some (some (.ref f36)))
    (l36 : K.lookup f36 = some ⟨oc36, od36, .func (PySem.W.fnOf "law" "law" (defArgs (top 36)) (defBody (top 36)) (defScope (top 36)) .none kV36 dc36 pm36 an36 (.ref c36) ct36), sl36⟩)
    (c36h : PySem.W.codeIn K (.ref c36) "law" = true)
    (k36 : PySem.W.keepIn K (.ref f36) = true)
    (lc36 : K.lookup c36 = some ⟨cc36, cdd36, .fields vs36, csl36⟩)
    (t36 : (vs36[11]? : Option Value) = some (.ref Pt))
    (n36 : K.lookup Pt = none)
    (aC1 : PySem.W.nsIn K mainGlobals "KeepError" = some (some (.ref C1)))
    (aC2 : PySem.W.nsIn K mainGlobals "Refused" = some (some (.ref C2)))
    (xC2 : K.lookup C2 = some (excClassObj nm2 q2 C2 Nn2 bs2 bm2 true sn2 sub2 ab2 col2 dd2 m02 m12 m22 m32 m52 "ValueError.__new__"))
    (rC2 : PySem.HandSPX.refsVE bm2 = true)
    (saC2 : PySem.W.findIn K (.ref C2) "__setattr__" = some (some (.builtin "object.__setattr__")))
    (eC2 : PySem.W.subIn K (.ref C2) (.type "BaseException") = some true)
    (tyC2 : PySem.W.typeIn K (.ref C2) = some (.type "type"))
    (kC2 : PySem.W.keepIn K (.ref C2) = true)
    (noC2 : PySem.W.findIn K (.ref C2) "at" = some none)
    (fiC2 : PySem.W.findIn K (.ref C2) "__init__" = some (some (.ref fI2)))
    (tiC2 : PySem.W.typeIn K (.ref fI2) = some (.type "function"))
    (lC2 : K.lookup fI2 = some ⟨oI2, odI2, .func (PySem.W.ksFn "__init__" "Refused.__init__" (defArgs (cInit 2)) (defBody (cInit 2)) (defScope (cInit 2)) .none kVI2 dcI2 pmI2 anI2 (.ref cda2) ctI2 cce2), slI2⟩)
    (cdC2 : PySem.W.codeIn K (.ref cda2) "Refused.__init__" = true)
    (ldC2 : K.lookup cda2 = some ⟨ccI2, cdI2, .fields vsI2, csI2⟩)
    (vC2 : (vsI2[2]? : Option Value) = some (.str file2 tf2))
    (fC2 : ((P.main.file : Str) == file2) = true)
    (lcC2 : K.lookup cce2 = some ⟨clI2, cldI2, .cell (some (.ref C2)), ceI2⟩)
    (clC2 : PySem.W.clsIn K C2 = some cdt2)
    (mrC2 : PySem.W.mroIn K C2 (.ref C2) = some true)
    (suC2 : PySem.W.ks_superIn K C2 C2 "__init__" = some (some (.builtin "ValueError.__init__")))
    (svC2 : PySem.W.subIn K (.ref C2) (.type "ValueError") = some true)
    (gaC2 : PySem.W.findIn K (.ref C2) "__getattribute__" = some (some (.builtin "BaseException.__getattribute__")))
    (ggC2 : PySem.W.findIn K (.ref C2) "__getattr__" = some none)
    (hdC2 : PySem.W.hasDictIn K C2 = true)
    (caC2 : PySem.W.findIn K (.ref C2) "__class__" = some (some (.builtin "object.__class__")))
    (moC2 : PySem.W.mroIn K C2 (.type "object") = some true)
    (ssC2 : PySem.W.subIn K (.ref C2) (.ref C2) = some true)
    (kiC2 : PySem.W.kitOne K (.ref C2) (.ref C1) = some true)
    (aC3 : PySem.W.nsIn K mainGlobals "TooGreat" = some (some (.ref C3)))
    (xC3 : K.lookup C3 = some (excClassObj nm3 q3 C3 Nn3 bs3 bm3 true sn3 sub3 ab3 col3 dd3 m03 m13 m23 m33 m53 "ValueError.__new__"))
    (rC3 : PySem.HandSPX.refsVE bm3 = true)
    (saC3 : PySem.W.findIn K (.ref C3) "__setattr__" = some (some (.builtin "object.__setattr__")))
    (eC3 : PySem.W.subIn K (.ref C3) (.type "BaseException") = some true)
    (tyC3 : PySem.W.typeIn K (.ref C3) = some (.type "type"))
    (kC3 : PySem.W.keepIn K (.ref C3) = true)
    (noC3 : PySem.W.findIn K (.ref C3) "most" = some none)
    (fiC3 : PySem.W.findIn K (.ref C3) "__init__" = some (some (.ref fI3)))
    (tiC3 : PySem.W.typeIn K (.ref fI3) = some (.type "function"))
    (lC3 : K.lookup fI3 = some ⟨oI3, odI3, .func (PySem.W.ksFn "__init__" "TooGreat.__init__" (defArgs (cInit 3)) (defBody (cInit 3)) (defScope (cInit 3)) .none kVI3 dcI3 pmI3 anI3 (.ref cda3) ctI3 cce3), slI3⟩)
    (cdC3 : PySem.W.codeIn K (.ref cda3) "TooGreat.__init__" = true)
    (ldC3 : K.lookup cda3 = some ⟨ccI3, cdI3, .fields vsI3, csI3⟩)
    (vC3 : (vsI3[2]? : Option Value) = some (.str file3 tf3))
    (fC3 : ((P.main.file : Str) == file3) = true)
    (lcC3 : K.lookup cce3 = some ⟨clI3, cldI3, .cell (some (.ref C3)), ceI3⟩)
    (clC3 : PySem.W.clsIn K C3 = some cdt3)
    (mrC3 : PySem.W.mroIn K C3 (.ref C3) = some true)
    (suC3 : PySem.W.ks_superIn K C3 C3 "__init__" = some (some (.builtin "ValueError.__init__")))
    (svC3 : PySem.W.subIn K (.ref C3) (.type "ValueError") = some true)
    (gaC3 : PySem.W.findIn K (.ref C3) "__getattribute__" = some (some (.builtin "BaseException.__getattribute__")))
    (ggC3 : PySem.W.findIn K (.ref C3) "__getattr__" = some none)
    (hdC3 : PySem.W.hasDictIn K C3 = true)
    (caC3 : PySem.W.findIn K (.ref C3) "__class__" = some (some (.builtin "object.__class__")))
    (moC3 : PySem.W.mroIn K C3 (.type "object") = some true)
    (ssC3 : PySem.W.subIn K (.ref C3) (.ref C3) = some true)
    (kiC3 : PySem.W.kitOne K (.ref C3) (.ref C1) = some true)
    (third : PySem.W.nsIn K PySem.cStatics "thirdparty.any" = some none)
    (topS : (P.main.scope.names.lookup ("super" : Str)).isSome = false)
    (gsp : PySem.W.specialIn K (.builtin "object.__class__") "__get__" = some (some (.builtin "getset_descriptor.__get__")))
    (gtk : PySem.W.takesIn K (.builtin "object.__class__") = some true)
    (rt : PySem.W.subIn K (.ref C2) (.ref C3) = some false)
    : Setup P w K mg fa := by
  have e := hfa.symm.trans (PySem.W.mg_of X G a36)
  cases e
  have N : Nm mg := ⟨PySem.W.mg_none_of X G z_isinstance, PySem.W.mg_none_of X G z_int, PySem.W.mg_none_of X G z_bool, PySem.W.mg_none_of X G z_list, PySem.W.mg_none_of X G z_tuple, PySem.W.mg_none_of X G z_len, PySem.W.mg_none_of X G z_all, PySem.W.mg_none_of X G z_zip, PySem.W.mg_none_of X G z_range, PySem.W.mg_none_of X G z_max, PySem.W.mg_none_of X G z_repr, PySem.W.mg_none_of X G z_abs, PySem.W.mg_none_of X G z_super⟩
  have F5 := fun_mk (st := top 5) l5 c5 k5
  have F6 := fun_mk (st := top 6) l6 c6 k6
  have F7 := fun_mk (st := top 7) l7 c7 k7
  have F9 := fun_mk (st := top 9) l9 c9 k9
  have F11 := fun_mk (st := top 11) l11 c11 k11
  have F12 := fun_mk (st := top 12) l12 c12 k12
  have F13 := fun_mk (st := top 13) l13 c13 k13
  have F14 := fun_mk (st := top 14) l14 c14 k14
  have F15 := fun_mk (st := top 15) l15 c15 k15
  have F16 := fun_mk (st := top 16) l16 c16 k16
  have F17 := fun_mk (st := top 17) l17 c17 k17
  have F18 := fun_mk (st := top 18) l18 c18 k18
  have F19 := fun_mk (st := top 19) l19 c19 k19
  have F21 := fun_mk (st := top 21) l21 c21 k21
  have F22 := fun_mk (st := top 22) l22 c22 k22
  have F23 := fun_mk (st := top 23) l23 c23 k23
  have F30 := fun_mk (st := top 30) l30 c30 k30
  have F31 := fun_mk (st := top 31) l31 c31 k31
  have F32 := fun_mk (st := top 32) l32 c32 k32
  have F35 := fun_mk (st := top 35) l35 c35 k35
  have F34 := fun_mk (st := top 34) l34 c34 k34
  have O2 : OexC K C2 := ⟨⟨_, _, _, _, _, _, _, _, _, _, _, _, _, _, _, xC2, rC2⟩, saC2, eC2, tyC2, kC2⟩
  have S2 : SupC P K C2 fI2 "Refused.__init__" "at" (defArgs (cInit 2)) (defBody (cInit 2)) (defScope (cInit 2)) _ := ⟨O2, noC2, ⟨cce2, cda2, _, _, _, _, _, _, _, _, _, _, _, _, _, _, vsI2, file2, tf2, cdt2, rfl, lC2, cdC2, ldC2, vC2, fC2, lcC2, clC2⟩, mrC2, suC2, svC2, third, fiC2, tiC2, topS⟩
  have X2 : ExcC K C2 := ⟨gaC2, ggC2, eC2, hdC2, caC2, gsp, gtk, moC2⟩
  have O3 : OexC K C3 := ⟨⟨_, _, _, _, _, _, _, _, _, _, _, _, _, _, _, xC3, rC3⟩, saC3, eC3, tyC3, kC3⟩
  have S3 : SupC P K C3 fI3 "TooGreat.__init__" "most" (defArgs (cInit 3)) (defBody (cInit 3)) (defScope (cInit 3)) _ := ⟨O3, noC3, ⟨cce3, cda3, _, _, _, _, _, _, _, _, _, _, _, _, _, _, vsI3, file3, tf3, cdt3, rfl, lC3, cdC3, ldC3, vC3, fC3, lcC3, clC3⟩, mrC3, suC3, svC3, third, fiC3, tiC3, topS⟩
  have X3 : ExcC K C3 := ⟨gaC3, ggC3, eC3, hdC3, caC3, gsp, gtk, moC3⟩
  have ef : ErrF K mg C3 C2 C1 := ⟨PySem.W.mg_of X G aC3, PySem.W.mg_of X G aC2, PySem.W.mg_of X G aC1, PySem.W.exm_ref eC3 hdC3 tyC3 ssC3, PySem.W.exm_ref eC3 hdC3 tyC3 rt, PySem.W.exm_ref eC2 hdC2 tyC2 ssC2, ⟨gaC3, ggC3, eC3, hdC3⟩, ⟨gaC2, ggC2, eC2, hdC2⟩, noC3, noC2, X3, X2, kiC3, kiC2⟩
  refine ⟨c36, Pt, C2, C3, C1, _, _, _, _, _, _, _, _, l36, c36h, tab_in a36 l36 rfl lc36 t36, n36, fun base => ?_⟩
  have eR : ErC P w K mg base "Refused" C2 "at" := ⟨O2, ⟨fI2, _, fiC2, tiC2, ok_refI N S2, .all fun us hl => match us, hl with | [_, _], _ => rfl⟩, PySem.W.mg_of X G aC2⟩
  have eT : ErC P w K mg base "TooGreat" C3 "most" := ⟨O3, ⟨fI3, _, fiC3, tiC3, ok_greI N S3, .all fun us hl => match us, hl with | [_, _], _ => rfl⟩, PySem.W.mg_of X G aC3⟩
  have Y5 : Cl P w K mg base CX0 1 "is_integer" ["value"] (spBy K isIntD) := ⟨_, _, ok_is_integer F5 N, PySem.W.mg_of X G a5, k5, F5.binds fun _ _ _ _ _ _ us hl => match us, hl with | [_], _ => rfl⟩
  have Y6 : Cl P w K mg base CX0 2 "is_number" ["value"] (spBy K isNumD) := ⟨_, _, ok_is_number F6 Y5, PySem.W.mg_of X G a6, k6, F6.binds fun _ _ _ _ _ _ us hl => match us, hl with | [_], _ => rfl⟩
  have Y7 : Cl P w K mg base CX0 1 "is_sequence" ["value"] (spGr K isSeqD) := ⟨_, _, ok_is_sequence F7 N, PySem.W.mg_of X G a7, k7, F7.binds fun _ _ _ _ _ _ us hl => match us, hl with | [_], _ => rfl⟩
  have Y9 : Cl P w K mg base (L2.CX P w) 3 "check_things" ["value"] (spTh K C2) := ⟨_, _, ok_check_things F9 N Y7 eR, PySem.W.mg_of X G a9, k9, F9.binds fun _ _ _ _ _ _ us hl => match us, hl with | [_], _ => rfl⟩
  have Y11 : Cl P w K mg base CX0 3 "is_hunk" ["value"] (spGr K isHunkD) := ⟨_, _, ok_is_hunk F11 N Y7 Y6, PySem.W.mg_of X G a11, k11, F11.binds fun _ _ _ _ _ _ us hl => match us, hl with | [_], _ => rfl⟩
  have Y12 : Cl P w K mg base (L2.CX P w) 4 "check_patch" ["value"] (spCp K C2) := ⟨_, _, ok_check_patch F12 N Y7 Y11 eR, PySem.W.mg_of X G a12, k12, F12.binds fun _ _ _ _ _ _ us hl => match us, hl with | [_], _ => rfl⟩
  have Y13 : Cl P w K mg base CX0 1 "fits_at" ["rows", "old", "place"] (spFit K) := ⟨_, _, ok_fits_at F13 N, PySem.W.mg_of X G a13, k13, F13.binds fun _ _ _ _ _ _ us hl => match us, hl with | [_, _, _], _ => rfl⟩
  have Y14 : Cl P w K mg base CX0 3 "are_places" ["patch", "rows", "value"] (spAre K) := ⟨_, _, ok_are_places F14 N Y7 Y6 Y13, PySem.W.mg_of X G a14, k14, F14.binds fun _ _ _ _ _ _ us hl => match us, hl with | [_, _, _], _ => rfl⟩
  have Y16 : Cl P w K mg base CX0 2 "first_fit" ["hunk_rows", "rows"] (spFF K) := ⟨_, _, ok_first_fit F16 N Y13, PySem.W.mg_of X G a16, k16, F16.binds fun _ _ _ _ _ _ us hl => match us, hl with | [_, _], _ => rfl⟩
  have Y17 : Cl P w K mg base (L2.CX P w) 5 "only_fit" ["patch", "rows"] (spOnly K C2) := ⟨_, _, ok_only_fit F17 N Y12 Y9 Y16, PySem.W.mg_of X G a17, k17, F17.binds fun _ _ _ _ _ _ us hl => match us, hl with | [_, _], _ => rfl⟩
  have Y18 : Cl P w K mg base (L2.CX P w) 5 "patched_at" ["patch", "rows", "places"] (spPA K C2) := ⟨_, _, ok_patched_at F18 N Y12 Y9 Y14 eR, PySem.W.mg_of X G a18, k18, F18.binds fun _ _ _ _ _ _ us hl => match us, hl with | [_, _, _], _ => rfl⟩
  have Y19 : Cl P w K mg base (L2.CX P w) 6 "patched" ["patch", "rows"] (spPD K C2) := ⟨_, _, ok_patched F19 N Y17 Y18 eR, PySem.W.mg_of X G a19, k19, F19.binds fun _ _ _ _ _ _ us hl => match us, hl with | [_, _], _ => rfl⟩
  have Y21 : Cl P w K mg base CX0 1 "_law_box" ["_law_script", "_law_k"] (spBox K) := ⟨_, _, ok_law_box F21 N, PySem.W.mg_of X G a21, k21, F21.binds fun _ _ _ _ _ _ us hl => match us, hl with | [_, _], _ => rfl⟩
  have Y22 : Cl P w K mg base CX0 1 "_law_take" ["_law_box_here", "_law_many"] (spTake) := ⟨_, _, ok_law_take F22 N, PySem.W.mg_of X G a22, k22, F22.binds fun _ _ _ _ _ _ us hl => match us, hl with | [_, _], _ => rfl⟩
  have Y23 : Cl P w K mg base CX0 2 "_law_pick" ["_law_box_here", "_law_some"] (spPick) := ⟨_, _, ok_law_pick F23 N Y22, PySem.W.mg_of X G a23, k23, F23.binds fun _ _ _ _ _ _ us hl => match us, hl with | [_, _], _ => rfl⟩
  have Y30 : Cl P w K mg base CX0 3 "_law_row" ["_law_box_here", "_law_most", "_law_letters"] (spRow K) := ⟨_, _, ok_law_row F30 N Y22 Y23, PySem.W.mg_of X G a30, k30, F30.binds fun _ _ _ _ _ _ us hl => match us, hl with | [_, _, _], _ => rfl⟩
  have Y31 : Cl P w K mg base CX0 1 "_law_fits" ["_law_patch_here", "_law_row_here"] (spLF K) := ⟨_, _, ok_law_fits F31 N, PySem.W.mg_of X G a31, k31, F31.binds fun _ _ _ _ _ _ us hl => match us, hl with | [_, _], _ => rfl⟩
  have Y32 : Cl P w K mg base CX0 1 "_law_put" ["_law_patch_here", "_law_row_here", "_law_places"] (spPut K) := ⟨_, _, ok_law_put F32 N, PySem.W.mg_of X G a32, k32, F32.binds fun _ _ _ _ _ _ us hl => match us, hl with | [_, _, _], _ => rfl⟩
  have Y35 : Cl P w K mg base CX0 4 "_law_patch" ["_law_box_here", "_law_row_here"] (spPatch K) := ⟨_, _, ok_law_patch F35 N Y22 Y30, PySem.W.mg_of X G a35, k35, F35.binds fun _ _ _ _ _ _ us hl => match us, hl with | [_, _], _ => rfl⟩
  refine ⟨⟨N, Y21, Y22, Y23, Y30, Y35, Y31, Y32⟩, ⟨_, _, F34, PySem.W.mg_of X G a34⟩, ⟨⟨_, _, ok_all_fits F15 N Y12 Y9 Y13 eT, PySem.W.mg_of X G a15, k15, kb_all F15⟩, ⟨_, _, ok_all_fits F15 N Y12 Y9 Y13 eT, PySem.W.mg_of X G a15, k15, kb_all0 F15⟩, Y17,
    ⟨_, _, ok_only_fit F17 N Y12 Y9 Y16, PySem.W.mg_of X G a17, k17, kb_only0 F17⟩, Y19, ⟨_, _, ok_patched F19 N Y17 Y18 eR, PySem.W.mg_of X G a19, k19, kb_patched0 F19⟩, Y18, ef⟩⟩

/-! ### the law's walk -/
theorem ints_dp {K : PySem.W.Frag} {H : Hp} : ∀ ns : List Int, DpAll K H (ns.map V.int) (ns.map .int)
  | [] => .nil
  | n :: ns => .cons (.int n) (ints_dp ns)
theorem law_call {P : Program} {w : World} {K : PySem.W.Frag} {mg mb : Str → Option Value} {fa a c Pt CR CT CK : Addr} {s₁ : Shared} {vs : List Value} {ns : List Int} {oc : Value} {od : Option Addr} {kV doc pm : Value} {an : Option Addr} {ct : Value} {osl : Array (Option Value)} (C : AtCall P w K mg mb a c Pt s₁ vs ns)
    (lk : K.lookup fa = some ⟨oc, od, .func (PySem.W.fnOf "law" "law" (defArgs (top 36)) (defBody (top 36)) (defScope (top 36)) .none kV doc pm an (.ref c) ct), osl⟩) (hc : PySem.W.codeIn K (.ref c) "law" = true) (hF : ∀ base : Heap, Hlp P w K mg base ∧ Hrd K mg ∧ Fns P w K mg base CR CT CK) :
    codeAny (model P w) callerA (.call (.ref fa) ⟨[.ref a], []⟩) (fun r s' => r = .ok (.ret (.bool true)) ∧ OldK s₁.heap s'.heap ∧ s'.os = s₁.os ∧ AllBare s'.gens) s₁ := by
  refine C.done ?_
  obtain ⟨hp, hd, n⟩ := hF (hidT s₁.heap (startH K a Pt vs ns))
  refine run_ofS (k := 9) (us := [.ref a]) (vs := [.ref a]) lk hc scLaw ⟨rfl, by decide, by decide⟩ C.env0 (.of_eq rfl) (.cons rfl .nil) rfl fun hr => ?_
  have le : LamEnv (lawX P w K mg (hidT s₁.heap (startH K a Pt vs ns)) fa (.ref c) callerA [] s₁ (startH K a Pt vs ns) fun _ _ _ => False) [(Pt, "law" ++ ".<locals>." ++ "<lambda>")] := ⟨c, Pt, C.tabB, rfl, List.mem_singleton.mpr rfl, fun p hp _ => by rw [List.mem_singleton.mp hp]; rfl⟩
  obtain ⟨t, ht, hq⟩ := law_body (v := .ref a) (ns := ns) hp hd n le rfl hr
  refine ⟨t, ht.nox, hq _ _ (fun p hp => ?_) (.lst C.sq (ints_dp ns)) fun H1 => rfl⟩
  rw [List.mem_singleton.mp hp]
  exact .nil startH_tab
theorem walk_k60 {l : PySem.W.OpenLaw} {q : Program} {loose : List Str} {XP : (Str → Option Value) → Heap → Prop} {YP : World → Heap → Prop} {d : DefRec} {K : Params → PySem.W.Frag} (hn : l.most = some 63) (hdf : d.params.defaults = []) (hname : d.name = "law") (hrec : ((recsOf q).find? fun e => e.name == ("law" : Str)).isSome = true)
    (hY : ∀ (w : World) (h : Heap), YP w h → (K w.params).In h)
    (F : ∀ (w : World) (mg : Str → Option Value) (fa : Addr) (h : Heap), (K w.params).In h → h.Ns mainGlobals mg → mg "law" = some (.ref fa) → Setup l.prog w (K w.params) mg fa) :
    PySem.W.WalkO q loose XP YP l.row.toRowW d [] (fun f vs => PySem.call f vs) := by
  refine Att.attach_callB hn hdf fun w s₀ s₁ mg mb fa o pm cd doc a vs ns G Y ho hd hcd hmg hobj hints hlen hbits hg => ?_
  have KX := hY w _ Y
  rw [hname] at hmg
  obtain ⟨c, Pt, CR, CT, CK, oc, od, kV, doc', pm', an, ct, osl, lk, hc, ht, hno, hF⟩ := (F w mg fa _ KX G.T.g hmg).ex
  obtain ⟨d', hd'⟩ := Option.isSome_iff_exists.mp hrec
  obtain ⟨hcode, htab⟩ := PySem.W.tab_of G.T KX hd' ht
  exact law_call ⟨KX, G.T.g, G.T.b, G.T.builtins, G.T.nolimit, hg, htab, hno, hcode, G.T.bmain, hobj, hints, Nat.le_trans hlen (by decide)⟩ lk hc hF

end K60
open PySem PySem.W PyProof.Rows
set_option maxRecDepth 100000 in
set_option maxHeartbeats 16000000 in
theorem PySem.Challenge.cw_keptwhole_k60_whole_patches_where_they_f_holds : PySem.Challenge.rw_keptwhole_k60_whole_patches_where_they_f.Holds := by
  w_on; o_law; k_head; (case hw => w_witness2)
  k_fill
  refine K60.walk_k60 (l := PySem.Challenge.rw_keptwhole_k60_whole_patches_where_they_f) rfl rfl rfl (by kernel_rfl) (fun w h Y => by first | exact PySem.W.kIn_of Y | exact PySem.W.km_in_of Y) ?F
  case F =>
    intro w mg fa h KX G hmg
    refine' K60.all_mk KX G hmg ?z_isinstance ?z_int ?z_bool ?z_list ?z_tuple ?z_len ?z_all ?z_zip ?z_range ?z_max ?z_repr ?z_abs ?z_super ?a5 ?l5 ?c5 ?k5 ?a6 ?l6 ?c6 ?k6 ?a7 ?l7 ?c7 ?k7 ?a9 ?l9 ?c9 ?k9 ?a11 ?l11 ?c11 ?k11 ?a12 ?l12 ?c12 ?k12 ?a13 ?l13 ?c13 ?k13 ?a14 ?l14 ?c14 ?k14 ?a15 ?l15 ?c15 ?k15 ?a16 ?l16 ?c16 ?k16 ?a17 ?l17 ?c17 ?k17 ?a18 ?l18 ?c18 ?k18 ?a19 ?l19 ?c19 ?k19 ?a21 ?l21 ?c21 ?k21 ?a22 ?l22 ?c22 ?k22 ?a23 ?l23 ?c23 ?k23 ?a30 ?l30 ?c30 ?k30 ?a31 ?l31 ?c31 ?k31 ?a32 ?l32 ?c32 ?k32 ?a35 ?l35 ?c35 ?k35 ?a34 ?l34 ?c34 ?k34 ?a36 ?l36 ?c36h ?k36 ?lc36 ?t36 ?n36 ?aC1 ?aC2 ?xC2 ?rC2 ?saC2 ?eC2 ?tyC2 ?kC2 ?noC2 ?fiC2 ?tiC2 ?lC2 ?cdC2 ?ldC2 ?vC2 ?fC2 ?lcC2 ?clC2 ?mrC2 ?suC2 ?svC2 ?gaC2 ?ggC2 ?hdC2 ?caC2 ?moC2 ?ssC2 ?kiC2 ?aC3 ?xC3 ?rC3 ?saC3 ?eC3 ?tyC3 ?kC3 ?noC3 ?fiC3 ?tiC3 ?lC3 ?cdC3 ?ldC3 ?vC3 ?fC3 ?lcC3 ?clC3 ?mrC3 ?suC3 ?svC3 ?gaC3 ?ggC3 ?hdC3 ?caC3 ?moC3 ?ssC3 ?kiC3 ?third ?topS ?gsp ?gtk ?rt
    (case z_isinstance => k_is)
    (case z_int => k_is)
    (case z_bool => k_is)
    (case z_list => k_is)
    (case z_tuple => k_is)
    (case z_len => k_is)
    (case z_all => k_is)
    (case z_zip => k_is)
    (case z_range => k_is)
    (case z_max => k_is)
    (case z_repr => k_is)
    (case z_abs => k_is)
    (case z_super => k_is)
    (case a5 => k_is)
    (case l5 => k_is)
    (case c5 => k_is)
    (case k5 => k_is)
    (case a6 => k_is)
    (case l6 => k_is)
    (case c6 => k_is)
    (case k6 => k_is)
    (case a7 => k_is)
    (case l7 => k_is)
    (case c7 => k_is)
    (case k7 => k_is)
    (case a9 => k_is)
    (case l9 => k_is)
    (case c9 => k_is)
    (case k9 => k_is)
    (case a11 => k_is)
    (case l11 => k_is)
    (case c11 => k_is)
    (case k11 => k_is)
    (case a12 => k_is)
    (case l12 => k_is)
    (case c12 => k_is)
    (case k12 => k_is)
    (case a13 => k_is)
    (case l13 => k_is)
    (case c13 => k_is)
    (case k13 => k_is)
    (case a14 => k_is)
    (case l14 => k_is)
    (case c14 => k_is)
    (case k14 => k_is)
    (case a15 => k_is)
    (case l15 => k_is)
    (case c15 => k_is)
    (case k15 => k_is)
    (case a16 => k_is)
    (case l16 => k_is)
    (case c16 => k_is)
    (case k16 => k_is)
    (case a17 => k_is)
    (case l17 => k_is)
    (case c17 => k_is)
    (case k17 => k_is)
    (case a18 => k_is)
    (case l18 => k_is)
    (case c18 => k_is)
    (case k18 => k_is)
    (case a19 => k_is)
    (case l19 => k_is)
    (case c19 => k_is)
    (case k19 => k_is)
    (case a21 => k_is)
    (case l21 => k_is)
    (case c21 => k_is)
    (case k21 => k_is)
    (case a22 => k_is)
    (case l22 => k_is)
    (case c22 => k_is)
    (case k22 => k_is)
    (case a23 => k_is)
    (case l23 => k_is)
    (case c23 => k_is)
    (case k23 => k_is)
    (case a30 => k_is)
    (case l30 => k_is)
    (case c30 => k_is)
    (case k30 => k_is)
    (case a31 => k_is)
    (case l31 => k_is)
    (case c31 => k_is)
    (case k31 => k_is)
    (case a32 => k_is)
    (case l32 => k_is)
    (case c32 => k_is)
    (case k32 => k_is)
    (case a35 => k_is)
    (case l35 => k_is)
    (case c35 => k_is)
    (case k35 => k_is)
    (case a34 => k_is)
    (case l34 => k_is)
    (case c34 => k_is)
    (case k34 => k_is)
    (case a36 => k_is)
    (case l36 => k_is)
    (case c36h => k_is)
    (case k36 => k_is)
    (case lc36 => k_is)
    (case t36 => rfl)
    (case n36 => kernel_rfl)
    (case aC1 => k_is)
    (case aC2 => k_is)
    (case xC2 => k_is)
    (case rC2 => rfl)
    (case saC2 => k_is)
    (case eC2 => k_is)
    (case tyC2 => k_is)
    (case kC2 => k_is)
    (case noC2 => k_is)
    (case fiC2 => k_is)
    (case tiC2 => k_is)
    (case lC2 => k_is)
    (case cdC2 => k_is)
    (case ldC2 => k_is)
    (case vC2 => rfl)
    (case fC2 => kernel_rfl)
    (case lcC2 => k_is)
    (case clC2 => k_is)
    (case mrC2 => k_is)
    (case suC2 => ks_is)
    (case svC2 => k_is)
    (case gaC2 => k_is)
    (case ggC2 => k_is)
    (case hdC2 => k_is)
    (case caC2 => k_is)
    (case moC2 => k_is)
    (case ssC2 => first | rfl | k_is)
    (case kiC2 => kit_is)
    (case aC3 => k_is)
    (case xC3 => k_is)
    (case rC3 => rfl)
    (case saC3 => k_is)
    (case eC3 => k_is)
    (case tyC3 => k_is)
    (case kC3 => k_is)
    (case noC3 => k_is)
    (case fiC3 => k_is)
    (case tiC3 => k_is)
    (case lC3 => k_is)
    (case cdC3 => k_is)
    (case ldC3 => k_is)
    (case vC3 => rfl)
    (case fC3 => kernel_rfl)
    (case lcC3 => k_is)
    (case clC3 => k_is)
    (case mrC3 => k_is)
    (case suC3 => ks_is)
    (case svC3 => k_is)
    (case gaC3 => k_is)
    (case ggC3 => k_is)
    (case hdC3 => k_is)
    (case caC3 => k_is)
    (case moC3 => k_is)
    (case ssC3 => first | rfl | k_is)
    (case kiC3 => kit_is)
    (case third => k_is)
    (case topS => kernel_rfl)
    (case gsp => k_is)
    (case gtk => k_is)
    (case rt => k_is)
