import PyProof.Rows.All
import Wide.All
import OpenK.AllK
import Wide.FinOn
import HandS.Base
import HandS.Call
import HandS.List
import HandS.Comp
import HandS.Ends
import HandS.Words
import KE.DataEq
import KE.DataCmp
import KE.DataMinMax
import KE.SortData
import HandS.TupAny
import HandS.IsInst
import HandS.Iter
import HandS.SetFor
import HandS.Style
import KE.Datum
import KE.DatumOrd
import KE.GoesEnum
import HandS.TupSets
import HandS.Strs
import KE.KeyNested
import KE.KDictKeyed
import HandS.Set
import PyProof.SetRoads
import HandS.Dict
import KE.KDictWalk
import KE.KStateDown
import HandS.Defaults
import HandS.Head0
import HandS.Head1
import HandS.Head2
import HandS.HeadEnd
import HandS.HeadHook1
import HandS.HeadHook2
import PySem.Challenge.RW_levellers_k57_whole_webs_of_few_places
set_option Elab.async false
set_option linter.all false
set_option maxRecDepth 100000
set_option maxHeartbeats 0
/-! The mirror: what the defs compute, in plain Lean. -/
namespace Mir
abbrev Edge := Int × Int
abbrev Web := Int × List Edge

/-- lo, lo + 1, .. (n of them) -/
def upto (lo : Int) (n : Nat) : List Int := (List.range n).map fun (i : Nat) => lo + (i : Int)
theorem upto_length (lo : Int) (n : Nat) : (upto lo n).length = n := by simp [upto]
theorem upto_get {lo : Int} {n i : Nat} (h : i < n) : (upto lo n)[i]? = some (lo + (i : Int)) := by simp [upto, h]
theorem mem_upto {lo x : Int} {n : Nat} : x ∈ upto lo n ↔ lo ≤ x ∧ x < lo + n := by
  unfold upto
  rw [List.mem_map]
  constructor
  · rintro ⟨i, hi, rfl⟩
    have := List.mem_range.mp hi
    omega
  · rintro ⟨h1, h2⟩
    exact ⟨(x - lo).toNat, List.mem_range.mpr (by omega), by omega⟩

/-! ### all heights -/
/-- a place more -/
def widen (roof : Nat) (l : List (List Int)) : List (List Int) := l.flatMap fun h => (upto 0 (roof + 1)).map fun x => h ++ [x]
def every : Nat → Nat → List (List Int)
  | 0, _ => [[]]
  | k + 1, roof => widen roof (every k roof)
theorem widen_length (roof : Nat) : ∀ l : List (List Int), (widen roof l).length = l.length * (roof + 1)
  | [] => by simp [widen]
  | h :: l => by
    have ih := widen_length roof l
    unfold widen at ih ⊢
    rw [List.flatMap_cons, List.length_append, ih, List.length_map, upto_length, List.length_cons, Nat.add_mul]
    omega
theorem every_length (roof : Nat) : ∀ k, (every k roof).length = (roof + 1) ^ k
  | 0 => rfl
  | k + 1 => by
    show (widen roof (every k roof)).length = _
    rw [widen_length, every_length roof k, Nat.pow_succ]
theorem mem_widen {roof : Nat} {l : List (List Int)} {g : List Int} : g ∈ widen roof l ↔ ∃ h ∈ l, ∃ x, 0 ≤ x ∧ x ≤ (roof : Int) ∧ g = h ++ [x] := by
  unfold widen
  rw [List.mem_flatMap]
  constructor
  · rintro ⟨h, hh, hg⟩
    obtain ⟨x, hx, rfl⟩ := List.mem_map.mp hg
    have := mem_upto.mp hx
    exact ⟨h, hh, x, by omega, by omega, rfl⟩
  · rintro ⟨h, hh, x, h1, h2, rfl⟩
    exact ⟨h, hh, List.mem_map.mpr ⟨x, mem_upto.mpr (by omega), rfl⟩⟩
/-- heights of k places under a roof -/
def IsH (k roof : Nat) (h : List Int) : Prop := h.length = k ∧ ∀ x ∈ h, 0 ≤ x ∧ x ≤ (roof : Int)
theorem mem_every {roof : Nat} : ∀ {k : Nat} {h : List Int}, h ∈ every k roof → IsH k roof h
  | 0, h, hh => by
    have e : h = [] := by simpa [every] using hh
    subst e
    exact ⟨rfl, by simp⟩
  | k + 1, h, hh => by
    obtain ⟨g, hg, x, h1, h2, rfl⟩ := mem_widen.mp hh
    obtain ⟨l, b⟩ := mem_every hg
    refine ⟨by simp [l], fun y hy => ?_⟩
    rcases List.mem_append.mp hy with z | z
    · exact b y z
    · rw [List.mem_singleton.mp z]; exact ⟨h1, h2⟩

/-! ### steep edges -/
def ht (h : List Int) (i : Int) : Int := h.getD i.toNat 0
def steepOne (h : List Int) (e : Edge) : Option Edge :=
  if ht h e.2 - ht h e.1 ≥ 2 then some e else if ht h e.1 - ht h e.2 ≥ 2 then some (e.2, e.1) else none
def leE (a b : Edge) : Bool := decide (a.1 < b.1 ∨ (a.1 = b.1 ∧ a.2 ≤ b.2))
def sortE (l : List Edge) : List Edge := l.mergeSort leE
def steep (es : List Edge) (h : List Int) : List Edge := sortE (es.filterMap (steepOne h))
def lawUp (h : List Int) (e : Edge) : Option Edge := if ht h e.2 > ht h e.1 + 1 then some e else none
def lawDown (h : List Int) (e : Edge) : Option Edge := if ht h e.1 > ht h e.2 + 1 then some (e.2, e.1) else none
def lawSteep (es : List Edge) (h : List Int) : List Edge := sortE (es.filterMap (lawUp h) ++ es.filterMap (lawDown h))
theorem leE_trans (a b c : Edge) (h1 : leE a b = true) (h2 : leE b c = true) : leE a c = true := by
  simp only [leE, decide_eq_true_eq] at h1 h2 ⊢
  omega
theorem leE_total (a b : Edge) : (leE a b || leE b a) = true := by
  simp only [leE, Bool.or_eq_true, decide_eq_true_eq]
  omega
theorem leE_anti (a b : Edge) (h1 : leE a b = true) (h2 : leE b a = true) : a = b := by
  simp only [leE, decide_eq_true_eq] at h1 h2
  exact Prod.ext (by omega) (by omega)
theorem sortE_perm {l m : List Edge} (h : l.Perm m) : sortE l = sortE m := by
  unfold sortE
  refine List.Perm.eq_of_pairwise (le := fun a b => leE a b = true) (fun a b _ _ h1 h2 => leE_anti a b h1 h2) ?_ ?_ ?_
  · exact List.pairwise_mergeSort leE_trans leE_total l
  · exact List.pairwise_mergeSort leE_trans leE_total m
  · exact (List.mergeSort_perm l leE).trans (h.trans (List.mergeSort_perm m leE).symm)
theorem split_perm (h : List Int) : ∀ es : List Edge, (es.filterMap (lawUp h) ++ es.filterMap (lawDown h)).Perm (es.filterMap (steepOne h))
  | [] => by simp
  | e :: es => by
    have ih := split_perm h es
    by_cases h1 : ht h e.2 - ht h e.1 ≥ 2
    · have u : lawUp h e = some e := by unfold lawUp; rw [if_pos (by omega)]
      have d : lawDown h e = none := by unfold lawDown; rw [if_neg (by omega)]
      have s : steepOne h e = some e := by unfold steepOne; rw [if_pos h1]
      rw [List.filterMap_cons_some u, List.filterMap_cons_none d, List.filterMap_cons_some s]
      exact ih.cons e
    · by_cases h2 : ht h e.1 - ht h e.2 ≥ 2
      · have u : lawUp h e = none := by unfold lawUp; rw [if_neg (by omega)]
        have d : lawDown h e = some (e.2, e.1) := by unfold lawDown; rw [if_pos (by omega)]
        have s : steepOne h e = some (e.2, e.1) := by unfold steepOne; rw [if_neg h1, if_pos h2]
        rw [List.filterMap_cons_none u, List.filterMap_cons_some d, List.filterMap_cons_some s]
        exact List.perm_middle.trans (ih.cons _)
      · have u : lawUp h e = none := by unfold lawUp; rw [if_neg (by omega)]
        have d : lawDown h e = none := by unfold lawDown; rw [if_neg (by omega)]
        have s : steepOne h e = none := by unfold steepOne; rw [if_neg h1, if_neg h2]
        rw [List.filterMap_cons_none u, List.filterMap_cons_none d, List.filterMap_cons_none s]
        exact ih
theorem lawSteep_eq (es : List Edge) (h : List Int) : lawSteep es h = steep es h := sortE_perm (split_perm h es)

/-! ### what comes -/
def barred (one other : List Int) (e : Edge) : Bool := decide (ht one e.1 > ht other e.1) || decide (ht other e.2 > ht one e.2)
def comes (es : List Edge) (one other : List Int) : Bool := ((steep es other).filter (barred one other)).isEmpty
def lawEnds (other : List Int) (e : Edge) : Edge := if ht other e.1 ≤ ht other e.2 then e else (e.2, e.1)
def lawBad (one other : List Int) (e : Edge) : Bool := decide (ht other (lawEnds other e).2 > ht other (lawEnds other e).1 + 1) && (decide (ht one (lawEnds other e).1 > ht other (lawEnds other e).1) || decide (ht one (lawEnds other e).2 < ht other (lawEnds other e).2))
def lawComes (es : List Edge) (one other : List Int) : Bool := !es.any (lawBad one other)
theorem mem_steep {es : List Edge} {h : List Int} {x : Edge} : x ∈ steep es h ↔ ∃ e ∈ es, steepOne h e = some x := by
  unfold steep sortE
  rw [List.mem_mergeSort, List.mem_filterMap]
theorem bad_one (one other : List Int) (e : Edge) : lawBad one other e = true ↔ ∃ x, steepOne other e = some x ∧ barred one other x = true := by
  unfold lawBad lawEnds steepOne barred
  by_cases h1 : ht other e.2 - ht other e.1 ≥ 2
  · rw [if_pos h1, if_pos (by omega)]
    simp only [Bool.and_eq_true, Bool.or_eq_true, decide_eq_true_eq, Option.some.injEq]
    constructor
    · rintro ⟨_, h⟩
      exact ⟨e, rfl, by omega⟩
    · rintro ⟨x, rfl, h⟩
      exact ⟨by omega, by omega⟩
  · by_cases h2 : ht other e.1 - ht other e.2 ≥ 2
    · rw [if_neg h1, if_pos h2, if_neg (by omega)]
      simp only [Bool.and_eq_true, Bool.or_eq_true, decide_eq_true_eq, Option.some.injEq]
      constructor
      · rintro ⟨_, h⟩
        exact ⟨_, rfl, by dsimp only; omega⟩
      · rintro ⟨x, rfl, h⟩
        have h' : ht one e.2 > ht other e.2 ∨ ht other e.1 > ht one e.1 := h
        exact ⟨show ht other e.1 > ht other e.2 + 1 by omega, show ht one e.2 > ht other e.2 ∨ ht one e.1 < ht other e.1 by omega⟩
    · rw [if_neg h1, if_neg h2]
      simp only [Bool.and_eq_true, Bool.or_eq_true, decide_eq_true_eq, reduceCtorEq, false_and, exists_false, iff_false, not_and]
      intro h
      exfalso
      by_cases hl : ht other e.1 ≤ ht other e.2
      · rw [if_pos hl] at h
        omega
      · rw [if_neg hl] at h
        have h' : ht other e.1 > ht other e.2 + 1 := h
        omega
theorem lawComes_eq (es : List Edge) (one other : List Int) : lawComes es one other = comes es one other := by
  rw [Bool.eq_iff_iff]
  unfold lawComes comes
  rw [Bool.not_eq_true', List.isEmpty_iff, List.filter_eq_nil_iff]
  rw [← Bool.not_eq_true, List.any_eq_true]
  constructor
  · intro h x hx hb
    obtain ⟨e, he, hs⟩ := mem_steep.mp hx
    exact h ⟨e, he, (bad_one one other e).mpr ⟨x, hs, hb⟩⟩
  · rintro h ⟨e, he, hb⟩
    obtain ⟨x, hs, hx⟩ := (bad_one one other e).mp hb
    exact h x (mem_steep.mpr ⟨e, he, hs⟩) hx

/-! ### lots -/
abbrev Quad := Int × Int × Int × Int
def quad (h : List Int) (e : Edge) : Quad := (e.1, e.2, ht h e.1, ht h e.2)
def lotOf (es : List Edge) (h : List Int) : List Quad := (steep es h).map (quad h)
theorem steep_in {es : List Edge} {h : List Int} {x : Edge} (hx : x ∈ steep es h) : ∃ e ∈ es, x = e ∨ x = (e.2, e.1) := by
  obtain ⟨e, he, hs⟩ := mem_steep.mp hx
  refine ⟨e, he, ?_⟩
  unfold steepOne at hs
  split at hs
  · exact .inl (Option.some.inj hs).symm
  · split at hs
    · exact .inr (Option.some.inj hs).symm
    · cases hs
theorem sortE_length (l : List Edge) : (sortE l).length = l.length := List.length_mergeSort l
theorem steep_length (es : List Edge) (h : List Int) : (steep es h).length ≤ es.length := by
  unfold steep
  rw [sortE_length]
  exact List.length_filterMap_le _ _

/-! ### greatest common divisors -/
def gcdI (a b : Int) : Int := (Int.gcd a b : Nat)
theorem gcdI_pos {a b : Int} (h : 0 < b) : 0 < gcdI a b := by
  have : 0 < Int.gcd a b := Int.gcd_pos_of_ne_zero_right a (by omega)
  unfold gcdI
  omega
theorem gcdI_le {a b : Int} (h : 0 < b) : gcdI a b ≤ b := by
  unfold gcdI
  exact Int.le_of_dvd h (Int.gcd_dvd_right a b)
theorem gcdI_step {a b : Int} (ha : 0 ≤ a) (hb : 0 ≤ b) : gcdI b (a % b) = gcdI a b := by
  obtain ⟨m, rfl⟩ := Int.eq_ofNat_of_zero_le ha
  obtain ⟨k, rfl⟩ := Int.eq_ofNat_of_zero_le hb
  unfold gcdI Int.gcd
  rw [← Int.natCast_emod]
  show ((Nat.gcd k (m % k) : Nat) : Int) = ((Nat.gcd m k : Nat) : Int)
  rw [Nat.gcd_comm m k, Nat.gcd_rec k m, Nat.gcd_comm]
theorem gcdI_abs (a b : Int) : gcdI (if a < 0 then -a else a) (if b < 0 then -b else b) = gcdI a b := by
  unfold gcdI Int.gcd
  congr 2 <;> (split <;> simp)
theorem gcdI_zero {a : Int} (ha : 0 ≤ a) : gcdI a 0 = a := by
  unfold gcdI Int.gcd
  rw [Int.natAbs_zero, Nat.gcd_zero_right]
  omega
end Mir

/-! What sorted(set(..)) gives: the one strictly ascending list of the same items. -/
namespace Mir
structure Slo {α : Type} (lt : α → α → Bool) : Prop where
  irr : ∀ a, lt a a = false
  tr : ∀ a b c, lt a b = true → lt b c = true → lt a c = true
  tri : ∀ a b, lt a b = false → lt b a = false → a = b
section
variable {α : Type} (lt : α → α → Bool)
/-- a put in its place, once -/
def ins (a : α) : List α → List α
  | [] => [a]
  | b :: l => if lt a b = true then a :: b :: l else if lt b a = true then b :: ins a l else b :: l
def sd : List α → List α
  | [] => []
  | a :: l => ins lt a (sd l)
variable {lt}
theorem mem_ins (S : Slo lt) {a x : α} : ∀ {l : List α}, x ∈ ins lt a l ↔ x = a ∨ x ∈ l
  | [] => by simp [ins]
  | b :: l => by
    unfold ins
    by_cases h1 : lt a b = true
    · rw [if_pos h1]; simp
    · rw [if_neg h1]
      by_cases h2 : lt b a = true
      · rw [if_pos h2, List.mem_cons, mem_ins S, List.mem_cons]
        constructor
        · rintro (h | h | h)
          · exact .inr (.inl h)
          · exact .inl h
          · exact .inr (.inr h)
        · rintro (h | h | h)
          · exact .inr (.inl h)
          · exact .inl h
          · exact .inr (.inr h)
      · rw [if_neg h2]
        have e := S.tri a b (by simpa using h1) (by simpa using h2)
        subst e
        simp
theorem pw_ins (S : Slo lt) {a : α} : ∀ {l : List α}, l.Pairwise (fun x y => lt x y = true) → (ins lt a l).Pairwise (fun x y => lt x y = true)
  | [], _ => by simp [ins]
  | b :: l, h => by
    rw [List.pairwise_cons] at h
    unfold ins
    by_cases h1 : lt a b = true
    · rw [if_pos h1, List.pairwise_cons, List.pairwise_cons]
      refine ⟨fun y hy => ?_, h⟩
      rcases List.mem_cons.mp hy with rfl | hy
      · exact h1
      · exact S.tr _ _ _ h1 (h.1 y hy)
    · rw [if_neg h1]
      by_cases h2 : lt b a = true
      · rw [if_pos h2, List.pairwise_cons]
        refine ⟨fun y hy => ?_, pw_ins S h.2⟩
        rcases (mem_ins S).mp hy with rfl | hy
        · exact h2
        · exact h.1 y hy
      · rw [if_neg h2, List.pairwise_cons]
        exact h
theorem mem_sd (S : Slo lt) {x : α} : ∀ {l : List α}, x ∈ sd lt l ↔ x ∈ l
  | [] => by simp [sd]
  | a :: l => by
    show x ∈ ins lt a (sd lt l) ↔ _
    rw [mem_ins S, mem_sd S, List.mem_cons]
theorem pw_sd (S : Slo lt) : ∀ l : List α, (sd lt l).Pairwise (fun x y => lt x y = true)
  | [] => by simp [sd]
  | a :: l => pw_ins S (pw_sd S l)
theorem asc_one (S : Slo lt) : ∀ l m : List α, l.Pairwise (fun x y => lt x y = true) → m.Pairwise (fun x y => lt x y = true) → (∀ x, x ∈ l ↔ x ∈ m) → l = m
  | [], [], _, _, _ => rfl
  | [], b :: m, _, _, h => by have := (h b).mpr List.mem_cons_self; cases this
  | a :: l, [], _, _, h => by have := (h a).mp List.mem_cons_self; cases this
  | a :: l, b :: m, hl, hm, h => by
    rw [List.pairwise_cons] at hl hm
    have nlt : ∀ {x y : α}, lt x y = true → lt y x = true → False := fun {x y} p q => by
      have := S.tr _ _ _ p q
      rw [S.irr] at this
      cases this
    have e : a = b := by
      rcases List.mem_cons.mp ((h a).mp List.mem_cons_self) with e | ha
      · exact e
      · rcases List.mem_cons.mp ((h b).mpr List.mem_cons_self) with e | hb
        · exact e.symm
        · exact (nlt (hm.1 a ha) (hl.1 b hb)).elim
    subst e
    congr 1
    refine asc_one S l m hl.2 hm.2 fun x => ⟨fun hx => ?_, fun hx => ?_⟩
    · rcases List.mem_cons.mp ((h x).mp (List.mem_cons_of_mem _ hx)) with e | hx'
      · subst e
        have := hl.1 x hx
        rw [S.irr] at this
        cases this
      · exact hx'
    · rcases List.mem_cons.mp ((h x).mpr (List.mem_cons_of_mem _ hx)) with e | hx'
      · subst e
        have := hm.1 x hx
        rw [S.irr] at this
        cases this
      · exact hx'
theorem sd_unique (S : Slo lt) {l m : List α} (hm : m.Pairwise (fun x y => lt x y = true)) (h : ∀ x, x ∈ m ↔ x ∈ l) : m = sd lt l :=
  asc_one S _ _ hm (pw_sd S l) fun x => (h x).trans (mem_sd S).symm
theorem ins_length (a : α) : ∀ l : List α, (ins lt a l).length ≤ l.length + 1
  | [] => by simp [ins]
  | b :: l => by
    unfold ins
    split
    · simp
    · split
      · have := ins_length a l
        simp only [List.length_cons]
        omega
      · simp
theorem sd_length : ∀ l : List α, (sd lt l).length ≤ l.length
  | [] => by simp [sd]
  | a :: l => by
    have h1 := ins_length (lt := lt) a (sd lt l)
    have h2 := sd_length l
    show (ins lt a (sd lt l)).length ≤ _
    simp only [List.length_cons]
    omega
end
def ltI (a b : Int) : Bool := decide (a < b)
theorem sloI : Slo ltI := ⟨fun a => by simp [ltI], fun a b c h1 h2 => by simp only [ltI, decide_eq_true_eq] at *; omega, fun a b h1 h2 => by simp only [ltI, decide_eq_false_iff_not] at *; omega⟩
def ltE (a b : Int × Int) : Bool := decide (a.1 < b.1 ∨ (a.1 = b.1 ∧ a.2 < b.2))
theorem sloE : Slo ltE := ⟨fun a => by simp [ltE], fun a b c h1 h2 => by simp only [ltE, decide_eq_true_eq] at *; omega, fun a b h1 h2 => by
  simp only [ltE, decide_eq_false_iff_not] at *
  exact Prod.ext (by omega) (by omega)⟩
end Mir

/-! Data logic: what an expression is worth, said of plain data (PyData). -/
namespace Lv
open PySem PySem.Spec PyProof.Rows L2

/-! ### data that a value stands for -/
mutual
inductive Rep (H : Hp) : V → PyData → Prop
  | non : Rep H .non .none
  | bl (b : Bool) : Rep H (.bl b) (.bool b)
  | int (i : Int) : Rep H (.int i) (.int i)
  | lst {a : Addr} {xs : List V} {ds : List PyData} : H a = some (.lst xs) → RepL H xs ds → Rep H (.ref a) (.list ds)
  | tup {a : Addr} {xs : List V} {ds : List PyData} : H a = some (.tup xs) → RepL H xs ds → Rep H (.ref a) (.tuple ds)
inductive RepL (H : Hp) : List V → List PyData → Prop
  | nil : RepL H [] []
  | cons {v : V} {vs : List V} {d : PyData} {ds : List PyData} : Rep H v d → RepL H vs ds → RepL H (v :: vs) (d :: ds)
end

mutual
theorem Rep.mono {H H' : Hp} (s : Same H H') : ∀ {v : V} {d : PyData}, Rep H v d → Rep H' v d
  | _, _, .non => .non
  | _, _, .bl b => .bl b
  | _, _, .int i => .int i
  | _, _, .lst h r => .lst (s _ _ h) (RepL.mono s r)
  | _, _, .tup h r => .tup (s _ _ h) (RepL.mono s r)
theorem RepL.mono {H H' : Hp} (s : Same H H') : ∀ {vs : List V} {ds : List PyData}, RepL H vs ds → RepL H' vs ds
  | _, _, .nil => .nil
  | _, _, .cons r t => .cons (Rep.mono s r) (RepL.mono s t)
end

theorem RepL.length {H : Hp} : ∀ {vs : List V} {ds : List PyData}, RepL H vs ds → vs.length = ds.length
  | _, _, .nil => rfl
  | _, _, .cons _ t => congrArg (· + 1) (RepL.length t)
theorem RepL.at {H : Hp} : ∀ {vs : List V} {ds : List PyData} {i : Nat} {d : PyData}, RepL H vs ds → ds[i]? = some d → ∃ v, vs[i]? = some v ∧ Rep H v d
  | _, _, _, _, .nil, h => by simp at h
  | _, _, 0, _, .cons r _, h => by simp at h; subst h; exact ⟨_, rfl, r⟩
  | _, _, i + 1, d, .cons _ t, h => by
    obtain ⟨v, h1, h2⟩ := RepL.at (i := i) (d := d) t (by simpa using h)
    exact ⟨v, by simpa using h1, h2⟩
theorem RepL.at' {H : Hp} : ∀ {vs : List V} {ds : List PyData} {i : Nat} {v : V}, RepL H vs ds → vs[i]? = some v → ∃ d, ds[i]? = some d ∧ Rep H v d
  | _, _, _, _, .nil, h => by simp at h
  | _, _, 0, _, .cons r _, h => by simp at h; subst h; exact ⟨_, rfl, r⟩
  | _, _, i + 1, v, .cons _ t, h => by
    obtain ⟨d, h1, h2⟩ := RepL.at' (i := i) (v := v) t (by simpa using h)
    exact ⟨d, by simpa using h1, h2⟩
theorem RepL.append {H : Hp} : ∀ {vs ws : List V} {ds es : List PyData}, RepL H vs ds → RepL H ws es → RepL H (vs ++ ws) (ds ++ es)
  | _, _, _, _, .nil, s => s
  | _, _, _, _, .cons r t, s => .cons r (RepL.append t s)

/-- worlds: H0 the part of the heap H that never changes, H all that is tracked -/
structure Le (H0 H H0' H' : Hp) : Prop where
  s : Same H H'
  s0 : Same H0 H0'
  w : Same H0' H'
  ow : ∀ a o, H a = some o → H0 a = none → H0' a = none
theorem Le.refl {H0 H : Hp} (w : Same H0 H) : Le H0 H H0 H := ⟨Same.refl _, Same.refl _, w, fun _ _ _ h => h⟩
theorem Le.trans {H0 H H1 H2 H3 H4 : Hp} (a : Le H0 H H1 H2) (b : Le H1 H2 H3 H4) : Le H0 H H3 H4 :=
  ⟨a.s.trans b.s, a.s0.trans b.s0, b.w, fun c o h n => b.ow c o (a.s _ _ h) (a.ow c o h n)⟩
theorem Le.new {H0 H : Hp} {p : Addr} {o : HO} (w : Same H0 H) (n : H p = none) : Le H0 H (upd H0 p o) (upd H p o) := by
  have n0 : H0 p = none := w.free n
  refine ⟨fun b u e => ?_, fun b u e => ?_, fun b u e => ?_, fun b u e z => ?_⟩
  · rw [upd_ne (ne_of_none e n)]; exact e
  · rw [upd_ne (ne_of_none e n0)]; exact e
  · by_cases hb : b = p
    · subst hb; rw [upd_same] at e ⊢; exact e
    · rw [upd_ne hb] at e ⊢; exact w _ _ e
  · rw [upd_ne (ne_of_none e n)]; exact z

/-! ### what the slots hold -/
abbrev Env1 := List (Option PyData)
structure St (H0 : Hp) (σ : L2.St) (ρ : Env1) : Prop where
  len : ρ.length = σ.length
  at_ : ∀ (i : Nat) (d : PyData), ρ[i]? = some (some d) → ∃ v, σ[i]? = some (some v) ∧ Rep H0 v d
theorem St.mono {H0 H0' : Hp} {σ : L2.St} {ρ : Env1} (s : Same H0 H0') (h : St H0 σ ρ) : St H0' σ ρ :=
  ⟨h.len, fun i d e => let ⟨v, h1, h2⟩ := h.at_ i d e; ⟨v, h1, h2.mono s⟩⟩
theorem St.set {H0 : Hp} {σ : L2.St} {ρ : Env1} (h : St H0 σ ρ) {v : V} {d : PyData} (i : Nat) (r : Rep H0 v d) : St H0 (σ.set i (some v)) (ρ.set i (some d)) := by
  refine ⟨by simp [h.len], fun j e hj => ?_⟩
  by_cases hij : i = j
  · subst hij
    by_cases hl : i < ρ.length
    · rw [List.getElem?_set_self hl] at hj
      cases hj
      exact ⟨v, by rw [List.getElem?_set_self (by rw [← h.len]; exact hl)], r⟩
    · rw [List.getElem?_eq_none (by simpa using hl)] at hj
      cases hj
  · rw [List.getElem?_set_ne hij] at hj ⊢
    exact h.at_ j e hj
theorem St.drop {H0 : Hp} {σ : L2.St} {ρ : Env1} (h : St H0 σ ρ) (i : Nat) (x : Option V) : St H0 (σ.set i x) (ρ.set i none) := by
  refine ⟨by simp [h.len], fun j e hj => ?_⟩
  by_cases hij : i = j
  · subst hij
    by_cases hl : i < ρ.length
    · rw [List.getElem?_set_self hl] at hj; cases hj
    · rw [List.getElem?_eq_none (by simpa using hl)] at hj; cases hj
  · rw [List.getElem?_set_ne hij] at hj ⊢
    exact h.at_ j e hj
/-- fewer slots known -/
def Sub (ρ' ρ : Env1) : Prop := ρ'.length = ρ.length ∧ ∀ (i : Nat) (d : PyData), ρ'[i]? = some (some d) → ρ[i]? = some (some d)
theorem Sub.refl (ρ : Env1) : Sub ρ ρ := ⟨rfl, fun _ _ h => h⟩
theorem St.sub {H0 : Hp} {σ : L2.St} {ρ ρ' : Env1} (h : St H0 σ ρ) (s : Sub ρ' ρ) : St H0 σ ρ' :=
  ⟨s.1.trans h.len, fun i d e => h.at_ i d (s.2 i d e)⟩
def wipeE (ρ : Env1) : List Nat → Env1
  | [] => ρ
  | v :: vs => (wipeE ρ vs).set v none
theorem St.wipe {H0 : Hp} {σ : L2.St} {ρ : Env1} (h : St H0 σ ρ) : ∀ vs : List Nat, St H0 (wipe σ vs) (wipeE ρ vs)
  | [] => h
  | v :: vs => by
    show St H0 ((L2.wipe σ vs).set v none) ((wipeE ρ vs).set v none)
    exact (St.wipe h vs).drop v none

structure Wd (H0 H : Hp) (σ : L2.St) (ρ : Env1) : Prop where
  w : Same H0 H
  st : St H0 σ ρ
theorem Wd.le {H0 H H0' H' : Hp} {σ : L2.St} {ρ : Env1} (h : Wd H0 H σ ρ) (l : Le H0 H H0' H') : Wd H0' H' σ ρ := ⟨l.w, h.st.mono l.s0⟩
theorem Wd.set {H0 H : Hp} {σ : L2.St} {ρ : Env1} {v : V} {d : PyData} (h : Wd H0 H σ ρ) (i : Nat) (r : Rep H0 v d) : Wd H0 H (σ.set i (some v)) (ρ.set i (some d)) := ⟨h.w, h.st.set i r⟩
theorem Wd.sub {H0 H : Hp} {σ : L2.St} {ρ ρ' : Env1} (h : Wd H0 H σ ρ) (s : Sub ρ' ρ) : Wd H0 H σ ρ' := ⟨h.w, h.st.sub s⟩

/-! ### the weakest readings -/
def wE (X : Cx) (e : Expr) : TE := fun σ H Q => ∀ pins s, Inv X pins σ H s → wpAny (model X.prog X.w) X.A (eval e X.env) (EP X pins σ Q) X.xe s
def wT (X : Cx) (e : Expr) : TT := fun σ H Q => ∀ pins s, Inv X pins σ H s → wpAny (model X.prog X.w) X.A (isTrue e X.env (eval e X.env)) (TP X pins σ Q) X.xe s
def wW (X : Cx) (e : Expr) : TT := fun σ H Q => ∀ (whole : Sem Value) pins s, Inv X pins σ H s → wpAny (model X.prog X.w) X.A (isTrue e X.env whole) (TP X pins σ Q) X.xe s
def wA (X : Cx) (es : List Expr) : TA := fun σ H Q => ∀ (pos : Pos) pins s, Inv X pins σ H s → wpAny (model X.prog X.w) X.A (spliced (backTo pos (starEach es X.env))) (AP X pins σ Q) X.xe s
def wS (X : Cx) (st : Stmt) : TS := fun D σ H => ∀ pins s, Inv X pins σ H s → wpAny (model X.prog X.w) X.A (exec st X.env) (SP X pins D) X.xe s
def wB (X : Cx) (st : List Stmt) : TS := fun D σ H => ∀ pins s, Inv X pins σ H s → wpAny (model X.prog X.w) X.A (execs st X.env) (SP X pins D) X.xe s
theorem pe_self {X : Cx} {e : Expr} : PE X e (wE X e) := ⟨fun pins s _ _ _ I h => h pins s I⟩
theorem pt_self {X : Cx} {e : Expr} : PT X e (wT X e) := ⟨fun pins s _ _ _ I h => h pins s I⟩
theorem pw_self {X : Cx} {e : Expr} : PW X e (wW X e) := ⟨fun wh pins s _ _ _ I h => h wh pins s I⟩
theorem pa_self {X : Cx} {es : List Expr} : PA X es (wA X es) := ⟨fun pos pins s _ _ _ I h => h pos pins s I⟩
theorem ps_self {X : Cx} {st : Stmt} : PS X st (wS X st) := ⟨fun pins s _ _ _ I h => h pins s I⟩
theorem pb_self {X : Cx} {st : List Stmt} : PSs X st (wB X st) := ⟨fun pins s _ _ _ I h => h pins s I⟩
theorem of_pe {X : Cx} {e : Expr} {t : TE} (h : PE X e t) {σ : L2.St} {H : Hp} {Q : VK} (q : t σ H Q) : wE X e σ H Q := fun pins s I => h.run pins s σ H Q I q
theorem of_pt {X : Cx} {e : Expr} {t : TT} (h : PT X e t) {σ : L2.St} {H : Hp} {Q : Bool → Hp → Prop} (q : t σ H Q) : wT X e σ H Q := fun pins s I => h.run pins s σ H Q I q
theorem of_pw {X : Cx} {e : Expr} {t : TT} (h : PW X e t) {σ : L2.St} {H : Hp} {Q : Bool → Hp → Prop} (q : t σ H Q) : wW X e σ H Q := fun wh pins s I => h.run wh pins s σ H Q I q
theorem of_pa {X : Cx} {es : List Expr} {t : TA} (h : PA X es t) {σ : L2.St} {H : Hp} {Q : List V → Hp → Prop} (q : t σ H Q) : wA X es σ H Q := fun pos pins s I => h.run pos pins s σ H Q I q
theorem of_ps {X : Cx} {st : Stmt} {t : TS} (h : PS X st t) {σ : L2.St} {H : Hp} {D : Ends} (q : t D σ H) : wS X st D σ H := fun pins s I => h.run pins s σ H D I q
theorem of_pb {X : Cx} {st : List Stmt} {t : TS} (h : PSs X st t) {σ : L2.St} {H : Hp} {D : Ends} (q : t D σ H) : wB X st D σ H := fun pins s I => h.run pins s σ H D I q
theorem wE.imp {X : Cx} {e : Expr} {σ : L2.St} {H : Hp} {Q Q' : VK} (h : wE X e σ H Q) (q : ∀ v H', Q v H' → Q' v H') : wE X e σ H Q' := fun pins s I =>
  thn (h pins s I) fun _ _ ⟨v, H', I', r, z⟩ => ⟨v, H', I', r, q _ _ z⟩

/-! ### the judgements -/
/-- in slots that hold ρ, e is worth d -/
def J (X : Cx) (ρ : Env1) (e : Expr) (d : PyData) : Prop := ∀ H0 H σ (Q : VK), Wd H0 H σ ρ → (∀ v H0' H', Le H0 H H0' H' → Rep H0' v d → Q v H') → wE X e σ H Q
def JT (X : Cx) (ρ : Env1) (e : Expr) (b : Bool) : Prop := ∀ H0 H σ (Q : Bool → Hp → Prop), Wd H0 H σ ρ → (∀ H0' H', Le H0 H H0' H' → Q b H') → wT X e σ H Q
def JW (X : Cx) (ρ : Env1) (e : Expr) (b : Bool) : Prop := ∀ H0 H σ (Q : Bool → Hp → Prop), Wd H0 H σ ρ → (∀ H0' H', Le H0 H H0' H' → Q b H') → wW X e σ H Q
def JA (X : Cx) (ρ : Env1) (es : List Expr) (ds : List PyData) : Prop := ∀ H0 H σ (Q : List V → Hp → Prop), Wd H0 H σ ρ → (∀ vs H0' H', Le H0 H H0' H' → RepL H0' vs ds → Q vs H') → wA X es σ H Q
/-- how a block ends: it falls through, the slots then holding ρ, or it returns d -/
inductive Res | fall (ρ : Env1) | ret (d : PyData)
def Res.ok (r : Res) (H0 H : Hp) (D : Ends) : Prop := match r with
  | .fall ρ' => ∀ σ' H0' H', Le H0 H H0' H' → Wd H0' H' σ' ρ' → D.nx σ' H'
  | .ret d => ∀ v H0' H', Le H0 H H0' H' → Rep H0' v d → D.rt v H'
theorem Res.ok.le {r : Res} {H0 H H0' H' : Hp} {D : Ends} (h : r.ok H0 H D) (l : Le H0 H H0' H') : r.ok H0' H' D := by
  cases r with
  | fall ρ' => exact fun σ' A B l2 w => h σ' A B (l.trans l2) w
  | ret d => exact fun v A B l2 w => h v A B (l.trans l2) w
def J1 (X : Cx) (ρ : Env1) (st : Stmt) (r : Res) : Prop := ∀ H0 H σ (D : Ends), Wd H0 H σ ρ → r.ok H0 H D → wS X st D σ H
def JS (X : Cx) (ρ : Env1) (sts : List Stmt) (r : Res) : Prop := ∀ H0 H σ (D : Ends), Wd H0 H σ ρ → r.ok H0 H D → wB X sts D σ H

section
variable {X : Cx} {ρ ρ1 : Env1} {e a b c : Expr} {es : List Expr} {d : PyData} {ds : List PyData} {pos : Pos} {st : Stmt} {sts : List Stmt} {r : Res}
theorem J.run (h : J X ρ e d) {H0 H : Hp} {σ : L2.St} {Q : VK} (w : Wd H0 H σ ρ) (q : ∀ v H0' H', Le H0 H H0' H' → Wd H0' H' σ ρ → Rep H0' v d → Q v H') : wE X e σ H Q :=
  h H0 H σ Q w fun v H0' H' l rv => q v H0' H' l (w.le l) rv
theorem js_nil : JS X ρ [] (.fall ρ) := fun _ H σ _ w q => of_pb pss_nil (q σ _ H (Le.refl w.w) w)
theorem js_cons (h1 : J1 X ρ st (.fall ρ1)) (h2 : JS X ρ1 sts r) : JS X ρ (st :: sts) r := fun H0 H σ D w q =>
  of_pb (pss_cons ps_self pb_self) (h1 H0 H σ _ w fun σ' H0' H' l w' => h2 H0' H' σ' D w' (q.le l))
theorem js_end (h1 : J1 X ρ st (.ret d)) : JS X ρ (st :: sts) (.ret d) := fun H0 H σ D w q =>
  of_pb (pss_cons ps_self pb_self) (h1 H0 H σ _ w q)
theorem js_sub {ρ2 : Env1} (h : JS X ρ sts (.fall ρ1)) (s : Sub ρ2 ρ1) : JS X ρ sts (.fall ρ2) := fun H0 H σ D w q =>
  h H0 H σ D w fun σ' H0' H' l w' => q σ' H0' H' l (w'.sub s)
theorem js_pre {ρ2 : Env1} (s : Sub ρ2 ρ) (h : JS X ρ2 sts r) : JS X ρ sts r := fun H0 H σ D w q => h H0 H σ D (w.sub s) q

/-! ### expressions -/
theorem j_var {i : Nat} {x : Str} (hd : ρ[i]? = some (some d)) (hN : X.N[i]? = some x) (hv : Vis X.env.scope x) (h1 : (x == ("__debug__" : Str)) = false) (h2 : (x == ("__classdict__" : Str)) = false) : J X ρ (.Name x pos) d := fun H0 H σ Q w q => by
  obtain ⟨v, e, rv⟩ := w.st.at_ i d hd
  exact of_pe (pe_var hN hv h1 h2) ⟨v, e, q v H0 H (Le.refl w.w) rv⟩
theorem j_const {v : V} (h : PE X e (tC v)) (r : ∀ H, Rep H v d) : J X ρ e d := fun H0 H _ _ w q => of_pe h (q v H0 H (Le.refl w.w) (r H0))
theorem j_int {i : Int} {j} : J X ρ (.Constant (.int i) j pos) (.int i) := j_const pe_int fun _ => .int i
theorem j_bl {k : Bool} {j} : J X ρ (.Constant (.bool k) j pos) (.bool k) := j_const pe_bl fun _ => .bl k
theorem j_non {j} : J X ρ (.Constant .none j pos) .none := j_const pe_non fun _ => .non

theorem rep_int {H : Hp} {v : V} {i : Int} (r : Rep H v (.int i)) : v = .int i := by cases r; rfl
theorem rep_bl {H : Hp} {v : V} {i : Bool} (r : Rep H v (.bool i)) : v = .bl i := by cases r; rfl
theorem rep_non {H : Hp} {v : V} (r : Rep H v .none) : v = .non := by cases r; rfl
theorem rep_tup {H : Hp} {v : V} {ds : List PyData} (r : Rep H v (.tuple ds)) : ∃ a xs, v = .ref a ∧ H a = some (.tup xs) ∧ RepL H xs ds := by cases r; exact ⟨_, _, rfl, ‹_›, ‹_›⟩
theorem rep_lst {H : Hp} {v : V} {ds : List PyData} (r : Rep H v (.list ds)) : ∃ a xs, v = .ref a ∧ H a = some (.lst xs) ∧ RepL H xs ds := by cases r; exact ⟨_, _, rfl, ‹_›, ‹_›⟩

/-- a two-place operation of ints -/
theorem j_opI {op : Operator} {C : Int → Int → Prop} {g : Int → Int → V} {i j : Int} (ho : OpR X (binaryOp op) (rI C g)) (ha : J X ρ a (.int i)) (hb : J X ρ b (.int j)) (hc : C i j) (hg : ∀ H, Rep H (g i j) d) : J X ρ (.BinOp a op b pos) d := fun H0 H σ Q w q =>
  of_pe (pe_op ho pe_self pe_self) (ha.run w fun x H1 H2 l1 w1 r1 => hb.run w1 fun y H3 H4 l2 w2 r2 =>
    ⟨i, j, rep_int r1, rep_int r2, hc, q _ _ _ (l1.trans l2) (hg _)⟩)
theorem j_opI0 {op : Operator} {g : Int → Int → V} {i j : Int} (ho : OpR X (binaryOp op) (rI0 g)) (ha : J X ρ a (.int i)) (hb : J X ρ b (.int j)) (hg : ∀ H, Rep H (g i j) d) : J X ρ (.BinOp a op b pos) d := fun H0 H σ Q w q =>
  of_pe (pe_op ho pe_self pe_self) (ha.run w fun x H1 H2 l1 w1 r1 => hb.run w1 fun y H3 H4 l2 w2 r2 =>
    ⟨i, j, rep_int r1, rep_int r2, q _ _ _ (l1.trans l2) (hg _)⟩)
theorem j_add {i j : Int} (ha : J X ρ a (.int i)) (hb : J X ρ b (.int j)) : J X ρ (.BinOp a .Add b pos) (.int (i + j)) := j_opI0 op_add ha hb fun _ => .int _
theorem j_sub {i j : Int} (ha : J X ρ a (.int i)) (hb : J X ρ b (.int j)) : J X ρ (.BinOp a .Sub b pos) (.int (i - j)) := j_opI0 op_sub ha hb fun _ => .int _
theorem j_mul {i j : Int} (ha : J X ρ a (.int i)) (hb : J X ρ b (.int j)) (hc : CMul i j) : J X ρ (.BinOp a .Mult b pos) (.int (i * j)) := j_opI op_mul ha hb hc fun _ => .int _
theorem j_mod {i j : Int} (ha : J X ρ a (.int i)) (hb : J X ρ b (.int j)) (hc : 0 < j) : J X ρ (.BinOp a .Mod b pos) (.int (i % j)) := j_opI op_mod ha hb hc fun _ => .int _
theorem j_fdiv {i j : Int} (ha : J X ρ a (.int i)) (hb : J X ρ b (.int j)) (hc : CDiv i j) : J X ρ (.BinOp a .FloorDiv b pos) (.int (i / j)) := j_opI op_fdiv ha hb hc fun _ => .int _
theorem j_neg {i : Int} (ha : J X ρ a (.int i)) : J X ρ (.UnaryOp .USub a pos) (.int (-i)) := fun H0 H σ Q w q =>
  of_pe (pe_un un_neg pe_self) (ha.run w fun x H1 H2 l1 w1 r1 => ⟨i, rep_int r1, q _ _ _ l1 (.int _)⟩)

/-! ### comparisons of ints; as values, as tests -/
theorem j_cmpI {op : CmpOp} {g : Int → Int → V} {i j : Int} {k : Bool} (ho : OpR X (compareOp op) (rI0 g)) (hm : behindInMarks op b = false) (ha : J X ρ a (.int i)) (hb : J X ρ b (.int j)) (hg : g i j = .bl k) : J X ρ (.Compare a [op] [b] pos) (.bool k) := fun H0 H σ Q w q =>
  of_pe (pe_cmpR ho pe_self pe_self hm) (ha.run w fun x H1 H2 l1 w1 r1 => hb.run w1 fun y H3 H4 l2 w2 r2 =>
    ⟨i, j, rep_int r1, rep_int r2, q _ _ _ (l1.trans l2) (by rw [hg]; exact .bl k)⟩)
theorem j_lt {i j : Int} (ha : J X ρ a (.int i)) (hb : J X ρ b (.int j)) : J X ρ (.Compare a [.Lt] [b] pos) (.bool (decide (i < j))) := j_cmpI op_lt (nomark _) ha hb rfl
theorem j_le {i j : Int} (ha : J X ρ a (.int i)) (hb : J X ρ b (.int j)) : J X ρ (.Compare a [.LtE] [b] pos) (.bool (decide (i ≤ j))) := j_cmpI op_le (nomark _) ha hb rfl
theorem j_gt {i j : Int} (ha : J X ρ a (.int i)) (hb : J X ρ b (.int j)) : J X ρ (.Compare a [.Gt] [b] pos) (.bool (decide (j < i))) := j_cmpI op_gt (nomark _) ha hb rfl
theorem j_ge {i j : Int} (ha : J X ρ a (.int i)) (hb : J X ρ b (.int j)) : J X ρ (.Compare a [.GtE] [b] pos) (.bool (decide (j ≤ i))) := j_cmpI op_ge (nomark _) ha hb rfl

/-- any expression whose test is its value's truth, the value a bool -/
theorem jt_val {k : Bool} (h : J X ρ e (.bool k)) (he : ∀ whole, isTrue e X.env whole = (do let v ← whole; standAt e.pos; holding [v] (truthy v))) : JT X ρ e k := fun H0 H σ Q w q =>
  of_pt (pt_val pe_self he) (h.run w fun x H1 H2 l1 w1 r1 => ⟨k, rep_bl r1, q _ _ l1⟩)
theorem jt_not {k : Bool} (h : JT X ρ e k) : JT X ρ (.UnaryOp .Not e pos) (!k) := fun H0 H σ Q w q =>
  of_pt (pt_not pt_self) (h H0 H σ _ w fun H0' H' l => q _ _ l)
theorem jt_pw {k : Bool} (h : JW X ρ e k) : JT X ρ e k := fun H0 H σ Q w q => of_pt (pw_self (X := X)).pt (h H0 H σ Q w q)
end
end Lv

namespace Lv
open PySem PySem.Spec PyProof.Rows L2

/-! ### data in the concrete heap -/
mutual
theorem rep_reads {X : Cx} {pins : List (Addr × Obj)} {σ : L2.St} {H0 H : Hp} {s : Shared} (I : Inv X pins σ H s) (w : Same H0 H) : ∀ {v : V} {d : PyData} {u : Value}, Rep H0 v d → RelV v u → ∃ as, Reads s.heap u d as
  | _, _, _, .non, r => by cases (show _ = Value.none from r); exact ⟨_, .none⟩
  | _, _, _, .bl b, r => by cases (show _ = Value.bool b from r); exact ⟨_, .bool b⟩
  | _, _, _, .int i, r => by obtain ⟨t, rfl⟩ := (show ∃ t, _ = Value.int i t from r); exact ⟨_, .int i t⟩
  | _, _, _, @Rep.lst _ a xs ds h rl, r => by
    cases (show _ = Value.ref a from r)
    obtain ⟨_, its, n, rv, e⟩ := I.hok a _ (w a _ h)
    obtain ⟨as, q⟩ := repL_reads I w rl rv
    exact ⟨_, Reads.list e rfl rfl q⟩
  | _, _, _, @Rep.tup _ a xs ds h rl, r => by
    cases (show _ = Value.ref a from r)
    obtain ⟨_, its, rv, o, e, hc, n, hd⟩ := I.hok a _ (w a _ h)
    obtain ⟨as, q⟩ := repL_reads I w rl rv
    exact ⟨_, Reads.tuple e hc hd q⟩
theorem repL_reads {X : Cx} {pins : List (Addr × Obj)} {σ : L2.St} {H0 H : Hp} {s : Shared} (I : Inv X pins σ H s) (w : Same H0 H) : ∀ {vs : List V} {ds : List PyData} {us : List Value}, RepL H0 vs ds → Vals vs us → ∃ as, ReadsAll s.heap us ds as
  | _, _, _, .nil, .nil => ⟨_, .nil⟩
  | _, _, _, .cons r t, .cons rv tv => by
    obtain ⟨as, q⟩ := rep_reads I w r rv
    obtain ⟨bs, q'⟩ := repL_reads I w t tv
    exact ⟨_, .cons q q'⟩
end

section
variable {X : Cx} {ρ ρ1 : Env1} {e a b c : Expr} {es : List Expr} {d : PyData} {ds : List PyData} {pos : Pos} {st : Stmt} {sts : List Stmt} {r : Res}

/-! ### == and <= of data -/
def rCmpD (A : Around) (P : PyData → PyData → Prop) (f : PyData → PyData → Bool) : R2 := fun x y H Q => ∃ H0 da db, Same H0 H ∧ Rep H0 x da ∧ Rep H0 y db ∧ P da db ∧ Q (.bl (f da db)) H
def PEq (A : Around) (x y : PyData) : Prop := x.plain = true ∧ y.plain = true ∧ A.units + min x.depth y.depth < cLine
theorem op_eqD : OpR X (compareOp .Eq) (rCmpD X.A (PEq X.A) PyData.eqv) := by
  intro pins s σ H x y v u Q I rx ry h
  obtain ⟨H0, da, db, w, ra, rb, ⟨pa, pb, hu⟩, q⟩ := h
  obtain ⟨as, qa⟩ := rep_reads I w ra rx
  obtain ⟨bs, qb⟩ := rep_reads I w rb ry
  exact PySem.SeqAt.eq_plain qa qb pa pb hu ⟨.bl _, H, I, rfl, q⟩
theorem op_neD : OpR X (compareOp .NotEq) (rCmpD X.A (PEq X.A) fun x y => !PyData.eqv x y) := by
  intro pins s σ H x y v u Q I rx ry h
  obtain ⟨H0, da, db, w, ra, rb, ⟨pa, pb, hu⟩, q⟩ := h
  obtain ⟨as, qa⟩ := rep_reads I w ra rx
  obtain ⟨bs, qb⟩ := rep_reads I w rb ry
  exact PySem.SeqAt.ne_plain qa qb pa pb hu ⟨.bl _, H, I, rfl, q⟩
def PLe (A : Around) (x y : PyData) : Prop := PySem.W.alike x y = true ∧ x ≠ .none ∧ A.units + min x.depth y.depth < cLine
theorem op_leD : OpR X (compareOp .LtE) (rCmpD X.A (PLe X.A) fun x y => !PySem.W.dataLt y x) := by
  intro pins s σ H x y v u Q I rx ry h
  obtain ⟨H0, da, db, w, ra, rb, ⟨pa, pb, hu⟩, q⟩ := h
  obtain ⟨as, qa⟩ := rep_reads I w ra rx
  obtain ⟨bs, qb⟩ := rep_reads I w rb ry
  exact PySem.W.le_data qa qb pa pb hu ⟨.bl _, H, I, rfl, q⟩
theorem j_cmpD {op : CmpOp} {P : PyData → PyData → Prop} {f : PyData → PyData → Bool} {da db : PyData} (ho : OpR X (compareOp op) (rCmpD X.A P f)) (hm : behindInMarks op b = false) (ha : J X ρ a da) (hb : J X ρ b db) (hp : P da db) : J X ρ (.Compare a [op] [b] pos) (.bool (f da db)) := fun H0 H σ Q w q =>
  of_pe (pe_cmpR ho pe_self pe_self hm) (ha.run w fun x H1 H2 l1 w1 r1 => hb.run w1 fun y H3 H4 l2 w2 r2 =>
    ⟨_, da, db, w2.w, r1.mono l2.s0, r2, hp, q _ _ _ (l1.trans l2) (.bl _)⟩)
theorem j_eq {da db : PyData} (ha : J X ρ a da) (hb : J X ρ b db) (hp : PEq X.A da db) : J X ρ (.Compare a [.Eq] [b] pos) (.bool (PyData.eqv da db)) := j_cmpD op_eqD (nomark _) ha hb hp
theorem j_ne {da db : PyData} (ha : J X ρ a da) (hb : J X ρ b db) (hp : PEq X.A da db) : J X ρ (.Compare a [.NotEq] [b] pos) (.bool (!PyData.eqv da db)) := j_cmpD op_neD (nomark _) ha hb hp
theorem j_leD {da db : PyData} (ha : J X ρ a da) (hb : J X ρ b db) (hp : PLe X.A da db) : J X ρ (.Compare a [.LtE] [b] pos) (.bool (!PySem.W.dataLt db da)) := j_cmpD op_leD (nomark _) ha hb hp
/-- least <= value <= most, of ints -/
theorem j_chain {i j k : Int} (hm : lastMarks [.LtE, .LtE] [b, c] = false) (ha : J X ρ a (.int i)) (hb : J X ρ b (.int j)) (hc : J X ρ c (.int k)) : J X ρ (.Compare a [.LtE, .LtE] [b, c] pos) (.bool (decide (i ≤ j) && decide (j ≤ k))) := fun H0 H σ Q w q =>
  of_pe (pe_chain op_le op_le pe_self pe_self pe_self hm) (ha.run w fun x H1 H2 l1 w1 r1 => hb.run w1 fun y H3 H4 l2 w2 r2 => by
    refine ⟨i, j, rep_int r1, rep_int r2, decide (i ≤ j), rfl, ?_⟩
    by_cases h : i ≤ j
    · rw [decide_eq_true h] at q ⊢
      exact iteT (hc.run w2 fun z H5 H6 l3 w3 r3 => ⟨j, k, rep_int r2, rep_int r3, q _ _ _ (l1.trans (l2.trans l3)) (.bl _)⟩)
    · rw [decide_eq_false h] at q ⊢
      exact iteF (q _ _ _ (l1.trans l2) (.bl _)))

/-! ### and, or, not; as values, as tests -/
theorem j_and {k : Bool} {es' : List Expr} (ha : J X ρ a (.bool k)) (hb : k = true → J X ρ (.BoolOp .And (b :: es') pos) d) (hf : k = false → d = .bool false) : J X ρ (.BoolOp .And (a :: b :: es') pos) d := fun H0 H σ Q w q =>
  of_pe (pe_and pe_self pe_self) (ha.run w fun x H1 H2 l1 w1 r1 => ⟨k, rep_bl r1, by
    cases k with
    | true => exact iteT ((hb rfl).run w1 fun v H3 H4 l2 w2 r2 => q _ _ _ (l1.trans l2) r2)
    | false => exact iteF (q _ _ _ l1 (by rw [hf rfl]; exact .bl false))⟩)
theorem j_or {k : Bool} {es' : List Expr} (ha : J X ρ a (.bool k)) (hb : k = false → J X ρ (.BoolOp .Or (b :: es') pos) d) (hf : k = true → d = .bool true) : J X ρ (.BoolOp .Or (a :: b :: es') pos) d := fun H0 H σ Q w q =>
  of_pe (pe_or pe_self pe_self) (ha.run w fun x H1 H2 l1 w1 r1 => ⟨k, rep_bl r1, by
    cases k with
    | false => exact iteF ((hb rfl).run w1 fun v H3 H4 l2 w2 r2 => q _ _ _ (l1.trans l2) r2)
    | true => exact iteT (q _ _ _ l1 (by rw [hf rfl]; exact .bl true))⟩)
theorem j_one {op : BoolOp} (ha : J X ρ a d) : J X ρ (.BoolOp op [a] pos) d := fun H0 H σ Q w q =>
  of_pe (pe_one pe_self) (ha.run w fun x H1 H2 l1 w1 r1 => q _ _ _ l1 r1)
theorem j_not {k : Bool} (ha : J X ρ a (.bool k)) : J X ρ (.UnaryOp .Not a pos) (.bool (!k)) := fun H0 H σ Q w q =>
  of_pe (pe_not pe_self) (ha.run w fun x H1 H2 l1 w1 r1 => ⟨k, rep_bl r1, q _ _ _ l1 (.bl _)⟩)
theorem jw_and1 {k : Bool} (ha : JT X ρ a k) : JW X ρ (.BoolOp .And [a] pos) k := fun H0 H σ Q w q => of_pw (pw_and1 pt_self) (ha H0 H σ Q w q)
theorem jw_or1 {k : Bool} (ha : JT X ρ a k) : JW X ρ (.BoolOp .Or [a] pos) k := fun H0 H σ Q w q => of_pw (pw_or1 pt_self) (ha H0 H σ Q w q)
theorem jw_and {k l : Bool} {es' : List Expr} (ha : JT X ρ a k) (hb : k = true → JW X ρ (.BoolOp .And (b :: es') pos) l) (hf : k = false → l = false) : JW X ρ (.BoolOp .And (a :: b :: es') pos) l := fun H0 H σ Q w q =>
  of_pw (pw_and pt_self pw_self) (ha H0 H σ _ w fun H0' H' l1 => by
    cases k with
    | true => exact iteT (hb rfl _ _ _ _ (w.le l1) fun H3 H4 l2 => q _ _ (l1.trans l2))
    | false => exact iteF (by rw [← hf rfl]; exact q _ _ l1))
theorem jw_or {k l : Bool} {es' : List Expr} (ha : JT X ρ a k) (hb : k = false → JW X ρ (.BoolOp .Or (b :: es') pos) l) (hf : k = true → l = true) : JW X ρ (.BoolOp .Or (a :: b :: es') pos) l := fun H0 H σ Q w q =>
  of_pw (pw_or pt_self pw_self) (ha H0 H σ _ w fun H0' H' l1 => by
    cases k with
    | false => exact iteF (hb rfl _ _ _ _ (w.le l1) fun H3 H4 l2 => q _ _ (l1.trans l2))
    | true => exact iteT (by rw [← hf rfl]; exact q _ _ l1))
/-- a if c else b -/
theorem j_if {k : Bool} (hc : JT X ρ c k) (ha : k = true → J X ρ a d) (hb : k = false → J X ρ b d) : J X ρ (.IfExp c a b pos) d := fun H0 H σ Q w q =>
  of_pe (pe_ifExp pt_self pe_self pe_self) (hc H0 H σ _ w fun H0' H' l1 => by
    cases k with
    | true => exact iteT ((ha rfl).run (w.le l1) fun v H3 H4 l2 w2 r2 => q _ _ _ (l1.trans l2) r2)
    | false => exact iteF ((hb rfl).run (w.le l1) fun v H3 H4 l2 w2 r2 => q _ _ _ (l1.trans l2) r2))

/-! ### argument lists, displays -/
theorem ja_nil : JA X ρ [] [] := fun H0 H σ Q w q => of_pa pa_nil (q [] H0 H (Le.refl w.w) .nil)
theorem ja_cons (ha : J X ρ e d) (hr : JA X ρ es ds) (hs : starEach (e :: es) X.env = (false, eval e X.env) :: starEach es X.env) : JA X ρ (e :: es) (d :: ds) := fun H0 H σ Q w q =>
  of_pa (pa_cons pe_self pa_self hs) (ha.run w fun v H1 H2 l1 w1 r1 => hr _ _ _ _ w1 fun vs H3 H4 l2 r2 => q _ _ _ (l1.trans l2) (.cons (r1.mono l2.s0) r2))
theorem small {n : Nat} (h : n ≤ 100000) : n ≤ sizeLine := by rw [sizeLine_eq]; omega
theorem j_tup {k} (h : JA X ρ es ds) (hz : ds.length ≤ 100000) : J X ρ (.Tuple es k pos) (.tuple ds) := fun H0 H σ Q w q =>
  of_pe (pe_tup pa_self) (h _ _ _ _ w fun vs H1 H2 l1 r1 => ⟨by rw [r1.length]; exact small hz, fun p np =>
    q _ _ _ (l1.trans (Le.new l1.w np)) (.tup upd_same (r1.mono (Le.new l1.w np).s0))⟩)
theorem j_lst (h : JA X ρ es ds) (hz : ds.length ≤ 100000) : J X ρ (.List es pos) (.list ds) := fun H0 H σ Q w q =>
  of_pe (pe_lst pa_self) (h _ _ _ _ w fun vs H1 H2 l1 r1 => ⟨by rw [r1.length]; exact small hz, fun p np =>
    q _ _ _ (l1.trans (Le.new l1.w np)) (.lst upd_same (r1.mono (Le.new l1.w np).s0))⟩)

/-! ### subscripts, + of tuples and lists -/
theorem j_ixT {i : Int} {n : Nat} (ha : J X ρ a (.tuple ds)) (hb : J X ρ b (.int i)) (hi : i = (n : Int)) (hd : ds[n]? = some d) (hs : PlainIx b) : J X ρ (.Subscript a b pos) d := fun H0 H σ Q w q =>
  of_pe (pe_ix ix_tup pe_self pe_self hs) (ha.run w fun x H1 H2 l1 w1 r1 => hb.run w1 fun y H3 H4 l2 w2 r2 => by
    obtain ⟨p, xs, rfl, hp, rl⟩ := rep_tup r1
    obtain ⟨v, hv, rv⟩ := rl.at hd
    exact ⟨p, xs, i, v, rfl, rep_int r2, SqT.of (w2.w _ _ (l2.s0 _ _ hp)), by rw [hi]; exact atI_nat hv, q _ _ _ (l1.trans l2) (rv.mono l2.s0)⟩)
theorem j_ixL {i : Int} {n : Nat} (ha : J X ρ a (.list ds)) (hb : J X ρ b (.int i)) (hi : i = (n : Int)) (hd : ds[n]? = some d) (hs : PlainIx b) : J X ρ (.Subscript a b pos) d := fun H0 H σ Q w q =>
  of_pe (pe_ix ix_list pe_self pe_self hs) (ha.run w fun x H1 H2 l1 w1 r1 => hb.run w1 fun y H3 H4 l2 w2 r2 => by
    obtain ⟨p, xs, rfl, hp, rl⟩ := rep_lst r1
    obtain ⟨v, hv, rv⟩ := rl.at hd
    exact ⟨p, xs, i, v, rfl, rep_int r2, SqL.of (w2.w _ _ (l2.s0 _ _ hp)), by rw [hi]; exact atI_nat hv, q _ _ _ (l1.trans l2) (rv.mono l2.s0)⟩)
theorem RepL.nil_iff {H : Hp} {vs : List V} {ds : List PyData} (r : RepL H vs ds) : vs = [] ↔ ds = [] := by
  cases r with
  | nil => simp
  | cons _ _ => simp
theorem j_catT {es' : List PyData} (ha : J X ρ a (.tuple ds)) (hb : J X ρ b (.tuple es')) (hz : ds.length + es'.length ≤ 100000) : J X ρ (.BinOp a .Add b pos) (.tuple (ds ++ es')) := fun H0 H σ Q w q =>
  of_pe (pe_op op_catA pe_self pe_self) (ha.run w fun x H1 H2 l1 w1 r1 => hb.run w1 fun y H3 H4 l2 w2 r2 => by
    obtain ⟨p, xs, rfl, hp, rl⟩ := rep_tup r1
    obtain ⟨p', ys, rfl, hp', rl'⟩ := rep_tup r2
    refine ⟨p, p', xs, ys, rfl, rfl, SqT.of (w2.w _ _ (l2.s0 _ _ hp)), SqT.of (w2.w _ _ hp'), by rw [rl.length, rl'.length]; exact small hz, fun e => ?_, fun e1 e2 => ?_, fun _ _ p2 np => ?_⟩
    · have z := rl.nil_iff.mp e
      subst z
      exact q _ _ _ (l1.trans l2) r2
    · have z := rl'.nil_iff.mp e2
      subst z
      rw [List.append_nil] at q
      exact q _ _ _ (l1.trans l2) (r1.mono l2.s0)
    · exact q _ _ _ (l1.trans (l2.trans (Le.new l2.w np))) (.tup upd_same (.append (rl.mono (l2.s0.trans (Le.new l2.w np).s0)) (rl'.mono (Le.new l2.w np).s0))))
theorem j_catL {es' : List PyData} (ha : J X ρ a (.list ds)) (hb : J X ρ b (.list es')) (hz : ds.length + es'.length ≤ 100000) : J X ρ (.BinOp a .Add b pos) (.list (ds ++ es')) := fun H0 H σ Q w q =>
  of_pe (pe_op op_cat pe_self pe_self) (ha.run w fun x H1 H2 l1 w1 r1 => hb.run w1 fun y H3 H4 l2 w2 r2 => by
    obtain ⟨p, xs, rfl, hp, rl⟩ := rep_lst r1
    obtain ⟨p', ys, rfl, hp', rl'⟩ := rep_lst r2
    refine ⟨p, p', xs, ys, rfl, rfl, w2.w _ _ (l2.s0 _ _ hp), w2.w _ _ hp', by rw [rl.length, rl'.length]; exact small hz, fun p2 np => ?_⟩
    exact q _ _ _ (l1.trans (l2.trans (Le.new l2.w np))) (.lst upd_same (.append (rl.mono (l2.s0.trans (Le.new l2.w np).s0)) (rl'.mono (Le.new l2.w np).s0))))

end
end Lv

namespace Lv
open PySem PySem.Spec PyProof.Rows L2

/-! ### sorted(x) of a list or a tuple of data -/
section
variable {prog : Program} {w : World} {A : Around} {E : Value → Shared → Prop} {s : Shared}
/-- the items of a tuple, gathered into a new list -/
theorem gather_tuple {l : Addr} {vs : List Value} {Q : List Value → Shared → Prop} (ht : s.heap.IsTuple l vs.toArray) (hz : vs.length ≤ sizeLine)
    (q : Q vs { s with heap := (s.heap.push (seqObj "list" #[] 0)).update s.heap.objs.size (Obj.mapSeq (· ++ vs.toArray)) }) : wpAny (model prog w) A (collect (.ref l)) Q E s := by
  obtain ⟨ob, hob, hcl, cnt, hdat⟩ := id ht
  have stay : (s.heap.push (seqObj "list" #[] 0)).get? l = some ob := Heap.get?_push_of_some _ hob
  have fresh : (s.heap.push (seqObj "list" #[] 0)).get? s.heap.objs.size = some (seqObj "list" #[] 0) := Heap.get?_push_size _ rfl
  unfold collect
  apply wpAny_bind
  refine wpAny_runValue (codeAny_builtin entry_proto_collect' ?_)
  show wpAny _ _ (do again (.builtin "list.__iadd__" ⟨[← newList [], .ref l], []⟩)) _ _ s
  apply wpAny_bind
  refine wpAny_newList ?_
  refine wpAny_pure ⟨Code.quiet_builtin _ (by decide +kernel), codeAny_builtin entry_list_iadd' ?_⟩
  show wpAny _ _ (Builtin.List.listExtendWith (.ref s.heap.objs.size) (.ref l) (.ref s.heap.objs.size)) _ _ { s with heap := s.heap.push (seqObj "list" #[] 0) }
  unfold Builtin.List.listExtendWith
  apply wpAny_bind
  refine wpAny_typeOf (T := "tuple") ⟨ob, stay, hcl⟩ ?_
  have tt : (Value.type "tuple" == Value.type "tuple") = true := by rfl
  rw [if_pos (by rw [tt]; simp)]
  apply wpAny_bind
  refine listItems_at stay hdat ?_
  apply wpAny_bind
  refine listItems_at (xs := #[]) (n := 0) fresh rfl ?_
  rw [if_neg (by simp)]
  apply wpAny_bind
  refine listUpdate_at (xs := #[]) (n := 0) fresh rfl ?_ (Nat.zero_le _) (by
    show (#[] ++ vs.toArray).size ≤ sizeLine + 1
    simp only [Array.size_append, List.size_toArray, List.length_nil]
    omega)
  apply wpAny_pure
  show wpAny (model prog w) A (do
      let o ← load s.heap.objs.size
      match o.data with
      | .seq xs _ => pure xs.toList
      | _ => unsupported "internal:collect") Q E { s with heap := (s.heap.push (seqObj "list" #[] 0)).update s.heap.objs.size (Obj.mapSeq (· ++ vs.toArray)) }
  apply wpAny_bind
  refine wpAny_load (get?_update_seq fresh _) ?_
  show wpAny _ _ (pure ((#[] : Array Value) ++ vs.toArray).toList) Q E _
  have e : ((#[] : Array Value) ++ vs.toArray).toList = vs := by simp
  rw [e]
  exact wpAny_pure q
open PySem.W in
/-- sorted of a tuple whose items read as data -/
theorem sorted_tuple_data {l : Addr} {β : Type} {vs : List Value} {bs : List β} {enc : β → PyData} {R : Value → β → Prop} {Q : Value → Shared → Prop} (ht : s.heap.IsTuple l vs.toArray) (e : EachIs R vs bs) (er : EachIs (fun v b => ∃ as, Reads s.heap v (enc b) as) vs bs)
    (hal : AllAlike (bs.map enc)) (hk : Sortable (bs.map enc)) (hL : bs.length ≤ sizeLine) (hu : ∀ b, b ∈ bs → A.units + 2 + (enc b).depth < cLine)
    (h : ∀ out, out.length = bs.length → EachIs R out (bs.mergeSort (dataLe false enc)) → Q (.ref (s.heap.objs.size + 1)) { s with heap := sortedAll s.heap vs (List.toArray out) }) : wpAny (model prog w) A (call (.builtin "sorted") [.ref l]) Q E s := by
  have er' : EachIs (fun v b => ∃ as, Reads (sortingHeap (copyHeap s.heap vs) (s.heap.objs.size + 1) vs) v (enc b) as) vs bs :=
    er.mono fun v b hv => let ⟨as, rd⟩ := hv; ⟨as, PyProof.Rows.Reads.keeps (fun _ _ q => sorting_copy_old q) rd⟩
  have hz : vs.length ≤ sizeLine := by rw [e.length]; exact hL
  have S : SortsAt prog w A.in1.in1 { s with heap := sortingHeap (copyHeap s.heap vs) (s.heap.objs.size + 1) vs } _ vs :=
    SortsAt.data (each_map (R := fun v d => ∃ as, Reads (sortingHeap (copyHeap s.heap vs) (s.heap.objs.size + 1) vs) v d as) enc er') hal hk (bound_map hu)
  have two : ((s.heap.push (seqObj "list" #[] 0)).update s.heap.objs.size (Obj.mapSeq (· ++ vs.toArray))).objs.size = s.heap.objs.size + 1 := by rw [Heap.size_update, size_push']
  refine call_function_entry_kw kind_sorted plain_sorted entry_sorted (args_sorted1 _) ?_
  unfold Builtin.«sorted»
  refine wpAny_bind (m := checkCount "sorted" 1 1 _) (wpAny_pure ?_)
  refine wpAny_bind (gather_tuple ht hz ?_)
  refine wpAny_bind (wpAny_newList ?_ hz)
  show wpAny _ _ _ _ _ { s with heap := copyHeap s.heap vs }
  rw [two]
  refine wpAny_bind (wpAny_holding (wpAny_call_entry_kw slot_list_sort ⟨_, copyHeap_at s.heap vs, rfl⟩ entry_list_sort ?body (args_list_sort _)))
  case body =>
    refine list_sort_vals (s := { s with heap := copyHeap s.heap vs }) (copyHeap_at s.heap vs) S hz ?_
    refine ⟨_, rfl, wpAny_pure ⟨_, rfl, ?_⟩⟩
    exact h _ (by rw [sortVals_length false rfl]; exact e.length) (sortVals_data false e er' hal)
end

abbrev sortD (ds : List PyData) : List PyData := ds.mergeSort (PySem.W.dataLe false id)
open PySem.W in
theorem eachIs_of {H : Hp} : ∀ {us : List Value} {vs : List V} {ds : List PyData}, Vals vs us → RepL H vs ds → EachIs (fun u d => ∃ v, RelV v u ∧ Rep H v d) us ds
  | _, _, _, .nil, .nil => .nil
  | _, _, _, .cons r t, .cons r' t' => .cons ⟨_, r, r'⟩ (eachIs_of t t')
open PySem.W in
theorem of_eachIs {H : Hp} : ∀ {us : List Value} {ds : List PyData}, EachIs (fun u d => ∃ v, RelV v u ∧ Rep H v d) us ds → ∃ vs, Vals vs us ∧ RepL H vs ds
  | _, _, .nil => ⟨[], .nil, .nil⟩
  | _, _, .cons ⟨v, r, r'⟩ t => let ⟨vs, t1, t2⟩ := of_eachIs t; ⟨v :: vs, .cons r t1, .cons r' t2⟩
open PySem.W in
theorem eachIs_reads {h : Heap} : ∀ {us : List Value} {ds : List PyData} {as : List Addr}, ReadsAll h us ds as → EachIs (fun v b => ∃ as, Reads h v (id b) as) us ds
  | _, _, _, .nil => .nil
  | _, _, _, .cons r t => .cons ⟨_, r⟩ (eachIs_reads t)

section
variable {X : Cx}
open PySem.W in
def rSortD (A : Around) : List V → Hp → VK → Prop := fun vs H Q => ∃ H0 x ds, vs = [x] ∧ Same H0 H ∧ (Rep H0 x (.list ds) ∨ Rep H0 x (.tuple ds)) ∧ AllAlike ds ∧ Sortable ds ∧ ds.length ≤ 100000 ∧ (∀ d ∈ ds, A.units + 2 + d.depth < cLine) ∧
  ∀ p ys, H p = none → RepL H0 ys (sortD ds) → Q (.ref p) (upd H p (.lst ys))
theorem cr_sortD : CallR X (.builtin "sorted") (rSortD X.A) := by
  intro pins s σ H vs us Q I rv h
  obtain ⟨H0, x, ds, rfl, w, hx, hal, hk, hz, hu, q⟩ := h
  obtain ⟨u, rfl, rx⟩ := vals1 rv
  have fin : ∀ (its out : List Value), out.length = ds.length → PySem.W.EachIs (fun u d => ∃ v, RelV v u ∧ Rep H0 v d) out (ds.mergeSort (PySem.W.dataLe false id)) → EP X pins σ Q (.ref (s.heap.objs.size + 1)) { s with heap := sortedAll s.heap its (List.toArray out) } := fun its out hl he => by
    obtain ⟨ys, r1, r2⟩ := of_eachIs he
    have hn : H (s.heap.objs.size + 1) = none := I.hok.fresh (Nat.le_succ _)
    obtain ⟨c, hc⟩ := sortedAll_at s.heap its out.toArray
    have hy : ys.length ≤ sizeLine := by rw [r1.length, hl]; exact small hz
    exact ⟨.ref _, upd H _ (.lst ys), I.laid (t' := s.toks) (fun b o e => sortedAll_old e) (Nat.le_succ _) ⟨hy, out, c, r1, hc⟩, rfl, q _ ys hn r2⟩
  have hal' : PySem.W.AllAlike (ds.map id) := by rw [List.map_id]; exact hal
  have hk' : PySem.W.Sortable (ds.map id) := by rw [List.map_id]; exact hk
  rcases hx with hx | hx
  · obtain ⟨a, xs, rfl, ha, rl⟩ := rep_lst hx
    cases (show u = Value.ref a from rx)
    obtain ⟨its, r, pl, hzz⟩ := I.list (SqL.of (w _ _ ha))
    obtain ⟨as, rd⟩ := repL_reads I w rl r
    exact PySem.W.sorted_data pl.isList (eachIs_of r rl) (eachIs_reads rd) hal' hk' (small hz) hu (fin its)
  · obtain ⟨a, xs, rfl, ha, rl⟩ := rep_tup hx
    cases (show u = Value.ref a from rx)
    obtain ⟨its, r, pl, hzz⟩ := I.tuple (SqT.of (w _ _ ha))
    obtain ⟨as, rd⟩ := repL_reads I w rl r
    exact sorted_tuple_data pl (eachIs_of r rl) (eachIs_reads rd) hal' hk' (small hz) hu (fin its)

/-! ### min(x) of a list of data -/
open PySem.W in
def rMinD (A : Around) : List V → Hp → VK → Prop := fun vs H Q => ∃ H0 x d ds, vs = [x] ∧ Same H0 H ∧ Rep H0 x (.list (d :: ds)) ∧ AlikeAll (d :: ds) ∧ A.units + 1 + PyData.depthAll (d :: ds) < cLine ∧ (PyData.plainAll (d :: ds) = true) ∧
  ∀ v, Rep H0 v (minD d ds) → Q v H
end

/-! ### calls of the program's own defs -/
/-- the promise «given data ds, it gives back d», for R ds d -/
def SpR (R : List PyData → PyData → Prop) : Sp := fun vs H Q _ => ∃ H0 ds d, Same H0 H ∧ RepL H0 vs ds ∧ R ds d ∧ ∀ v H0' H', Le H0 H H0' H' → Rep H0' v d → Q v H'
/-- a def as its callers know it -/
structure Cal (P : Program) (w : World) (K : PySem.W.Frag) (mg : Str → Option Value) (base : Heap) (k : Nat) (x : Str) (ps : List Str) (sp : Sp) : Prop where
  ex : ∃ f fd, mg x = some (.ref f) ∧ PySem.W.keepIn K (.ref f) = true ∧ Binds K fd ps [] ∧ FnOk P w K mg base CX0 k f fd ps sp

section
variable {X : Cx} {ρ ρ1 : Env1} {e a b c : Expr} {es : List Expr} {d : PyData} {ds : List PyData} {pos p : Pos} {st : Stmt} {sts : List Stmt} {r : Res} {x : Str} {k : Nat} {ps : List Str} {R : List PyData → PyData → Prop}
theorem j_call (C : Cal X.prog X.w X.K X.mg X.base k x ps (SpR R)) (hr : Room k X.A) (hg : Gl X x) (ha : JA X ρ (e :: es) ds) (hR : R ds d) (hdb : (x == ("__debug__" : Str)) = false)
    (he : starEach (e :: es) X.env = (false, eval e X.env) :: starEach es X.env) (hpl : (backTo pos (starEach es X.env)).any (·.1) = false) : J X ρ (.Call (.Name x p) (e :: es) [] pos) d := fun H0 H σ Q w q => by
  obtain ⟨f, fd, hm, hk, hb, F⟩ := C.ex
  refine of_pe (pe_call F hr hg hm hk hb .nil pass0 pa_self hdb he hpl) (ha _ _ _ _ w fun vs H1 H2 l1 r1 => ?_)
  rw [List.append_nil]
  exact ⟨H1, ds, d, l1.w, r1, hR, fun v H3 H4 l2 r2 => q v _ _ (l1.trans l2) r2⟩
theorem j_bltF {id : String} {rr : List V → Hp → VK → Prop} (hc : CallR X (.builtin id) rr) (hg : Gl X x) (hm : X.mg x = none) (hv : bootBuiltins x = some (.builtin id)) (ha : JA X ρ (e :: es) ds)
    (hq : ∀ H0 H vs (Q : VK), Same H0 H → RepL H0 vs ds → (∀ v H0' H', Le H0 H H0' H' → Rep H0' v d → Q v H') → rr vs H Q) (hn : x ≠ "__name__") (hdb : (x == ("__debug__" : Str)) = false)
    (he : starEach (e :: es) X.env = (false, eval e X.env) :: starEach es X.env) (hpl : (backTo pos (starEach es X.env)).any (·.1) = false) : J X ρ (.Call (.Name x p) (e :: es) [] pos) d := fun H0 H σ Q w q =>
  of_pe (pe_callB hc hg hm hv pa_self hn hdb he hpl) (ha _ _ _ _ w fun vs H1 H2 l1 r1 => hq H1 H2 vs Q l1.w r1 fun v H3 H4 l2 r2 => q v _ _ (l1.trans l2) r2)
theorem j_bltT {T : String} {rr : List V → Hp → VK → Prop} (hc : CallR X (.type T) rr) (hg : Gl X x) (hm : X.mg x = none) (hv : bootBuiltins x = some (.type T)) (ha : JA X ρ (e :: es) ds)
    (hq : ∀ H0 H vs (Q : VK), Same H0 H → RepL H0 vs ds → (∀ v H0' H', Le H0 H H0' H' → Rep H0' v d → Q v H') → rr vs H Q) (hn : x ≠ "__name__") (hdb : (x == ("__debug__" : Str)) = false)
    (he : starEach (e :: es) X.env = (false, eval e X.env) :: starEach es X.env) (hpl : (backTo pos (starEach es X.env)).any (·.1) = false) : J X ρ (.Call (.Name x p) (e :: es) [] pos) d := fun H0 H σ Q w q =>
  of_pe (pe_callTy hc hg hm hv pa_self hn hdb he hpl) (ha _ _ _ _ w fun vs H1 H2 l1 r1 => hq H1 H2 vs Q l1.w r1 fun v H3 H4 l2 r2 => q v _ _ (l1.trans l2) r2)

theorem RepL.one {H : Hp} {vs : List V} {d : PyData} (r : RepL H vs [d]) : ∃ v, vs = [v] ∧ Rep H v d := by
  cases r with
  | cons h t => cases t; exact ⟨_, rfl, h⟩
/-- what the built-ins ask, in data -/
theorem q_lenL (H0 H : Hp) (vs : List V) (Q : VK) (w : Same H0 H) (r : RepL H0 vs [.list ds]) (q : ∀ v H0' H', Le H0 H H0' H' → Rep H0' v (.int ds.length) → Q v H') :
    ∃ p ys, vs = [.ref p] ∧ (SqL X.K H p ys ∨ SqT X.K H p ys) ∧ Q (.int ys.length) H := by
  obtain ⟨v, rfl, r1⟩ := r.one
  obtain ⟨a, xs, rfl, ha, rl⟩ := rep_lst r1
  exact ⟨a, xs, rfl, .inl (SqL.of (w _ _ ha)), q _ _ _ (Le.refl w) (by rw [rl.length]; exact .int _)⟩
theorem q_lenT (H0 H : Hp) (vs : List V) (Q : VK) (w : Same H0 H) (r : RepL H0 vs [.tuple ds]) (q : ∀ v H0' H', Le H0 H H0' H' → Rep H0' v (.int ds.length) → Q v H') :
    ∃ p ys, vs = [.ref p] ∧ (SqL X.K H p ys ∨ SqT X.K H p ys) ∧ Q (.int ys.length) H := by
  obtain ⟨v, rfl, r1⟩ := r.one
  obtain ⟨a, xs, rfl, ha, rl⟩ := rep_tup r1
  exact ⟨a, xs, rfl, .inr (SqT.of (w _ _ ha)), q _ _ _ (Le.refl w) (by rw [rl.length]; exact .int _)⟩
theorem q_tuple (H0 H : Hp) (vs : List V) (Q : VK) (w : Same H0 H) (r : RepL H0 vs [.list ds]) (q : ∀ v H0' H', Le H0 H H0' H' → Rep H0' v (.tuple ds) → Q v H') :
    ∃ p ys, vs = [.ref p] ∧ ((SqL X.K H p ys ∧ ∀ l, H l = none → Q (.ref l) (upd H l (.tup ys))) ∨ (SqT X.K H p ys ∧ Q (.ref p) H)) := by
  obtain ⟨v, rfl, r1⟩ := r.one
  obtain ⟨a, xs, rfl, ha, rl⟩ := rep_lst r1
  exact ⟨a, xs, rfl, .inl ⟨SqL.of (w _ _ ha), fun l hl => q _ _ _ (Le.new w hl) (.tup upd_same (rl.mono (Le.new w hl).s0))⟩⟩
theorem rep_ints {H : Hp} : ∀ {vs : List V} {ns : List Int}, RepL H vs (ns.map .int) → vs = ns.map V.int
  | _, [], .nil => rfl
  | _, n :: ns, .cons r t => by rw [rep_int r, rep_ints t]; rfl
theorem ints_rep {H : Hp} : ∀ ns : List Int, RepL H (ns.map V.int) (ns.map .int)
  | [] => .nil
  | n :: ns => .cons (.int n) (ints_rep ns)
theorem q_sum {ns : List Int} (H0 H : Hp) (vs : List V) (Q : VK) (w : Same H0 H) (r : RepL H0 vs [.list (ns.map .int)]) (q : ∀ v H0' H', Le H0 H H0' H' → Rep H0' v (.int ns.sum) → Q v H') : rSum X.K vs H Q := by
  obtain ⟨v, rfl, r1⟩ := r.one
  obtain ⟨a, xs, rfl, ha, rl⟩ := rep_lst r1
  have e := rep_ints rl
  subst e
  exact ⟨a, ns, rfl, SqL.of (w _ _ ha), q _ _ _ (Le.refl w) (.int _)⟩
theorem q_sort (hal : PySem.W.AllAlike ds) (hk : PySem.W.Sortable ds) (hz : ds.length ≤ 100000) (hu : ∀ d ∈ ds, X.A.units + 2 + d.depth < cLine) (H0 H : Hp) (vs : List V) (Q : VK) (w : Same H0 H) (r : RepL H0 vs [.list ds] ∨ RepL H0 vs [.tuple ds])
    (q : ∀ v H0' H', Le H0 H H0' H' → Rep H0' v (.list (sortD ds)) → Q v H') : rSortD X.A vs H Q := by
  have fin : ∀ p ys, H p = none → RepL H0 ys (sortD ds) → Q (.ref p) (upd H p (.lst ys)) := fun p ys np ry => q _ _ _ (Le.new w np) (.lst upd_same (ry.mono (Le.new w np).s0))
  rcases r with r | r
  · obtain ⟨v, rfl, r1⟩ := r.one
    exact ⟨H0, v, ds, rfl, w, .inl r1, hal, hk, hz, hu, fin⟩
  · obtain ⟨v, rfl, r1⟩ := r.one
    exact ⟨H0, v, ds, rfl, w, .inr r1, hal, hk, hz, hu, fin⟩
end
end Lv

namespace Lv
open PySem PySem.Spec PyProof.Rows L2

/-! ### what is walked -/
/-- from the world (G0, G) on the iterator yields the data ds -/
def Yields (it : It) (G0 : Hp) (ds : List PyData) : Prop := ∀ i H0 H, Same G0 H0 → Same H0 H →
  (i = ds.length → it.stop i H) ∧ (∀ d, ds[i]? = some d → it.go i H ∧ ∀ x H', it.yld i H x H' → ∃ H0', Le H0 H H0' H' ∧ Rep H0' x d)
def wI (X : Cx) (tg iter : Expr) : TI := fun σ H R => ∀ pins s, Inv X pins σ H s → wpAny (model X.prog X.w) X.A (eval iter X.env) (fun v s1 => wpAny (model X.prog X.w) X.A (pyIter v) (PIE X pins σ tg R) X.xe s1) X.xe s
theorem pi_self {X : Cx} {tg iter : Expr} : PI X tg iter (wI X tg iter) := ⟨fun pins s _ _ _ I h => h pins s I⟩
theorem of_pi {X : Cx} {tg iter : Expr} {t : TI} (h : PI X tg iter t) {σ : L2.St} {H : Hp} {R : It → Hp → Prop} (q : t σ H R) : wI X tg iter σ H R := fun pins s I => h.run pins s σ H R I q
def JI (X : Cx) (ρ : Env1) (tg iter : Expr) (ds : List PyData) : Prop := ∀ H0 H σ (R : It → Hp → Prop), Wd H0 H σ ρ → (∀ it H0' H', Le H0 H H0' H' → Yields it H0' ds → R it H') → wI X tg iter σ H R

section
variable {X : Cx} {ρ ρ1 : Env1} {e a b c tg iter elt : Expr} {es ifs : List Expr} {d : PyData} {ds : List PyData} {pos p : Pos} {st : Stmt} {sts body : List Stmt} {r : Res} {x y z : Str} {k : Nat}

theorem ji_list (h : J X ρ e (.list ds)) : JI X ρ tg e ds := fun H0 H σ R w q =>
  of_pi (pi_list pe_self) (h.run w fun v H1 H2 l w1 r1 => by
    obtain ⟨a, xs, rfl, ha, rl⟩ := rep_lst r1
    refine ⟨a, rfl, ⟨xs, SqL.of (w1.w _ _ ha)⟩, q _ _ _ l fun i G0 G s1 s2 => ⟨fun hi => ⟨xs, SqL.of (s2 _ _ (s1 _ _ ha)), by rw [rl.length, hi]; exact Nat.le_refl _⟩, fun d hd => ?_⟩⟩
    obtain ⟨v, hv, rv⟩ := rl.at hd
    refine ⟨⟨xs, v, SqL.of (s2 _ _ (s1 _ _ ha)), hv⟩, fun y H' hy => ?_⟩
    obtain ⟨rfl, hy⟩ := hy
    have e := hy xs (SqL.of (s2 _ _ (s1 _ _ ha)))
    rw [hv] at e
    cases e
    exact ⟨G0, Le.refl s2, rv.mono s1⟩)
theorem ji_tup (h : J X ρ e (.tuple ds)) : JI X ρ tg e ds := fun H0 H σ R w q =>
  of_pi (pi_tup pe_self) (h.run w fun v H1 H2 l w1 r1 => by
    obtain ⟨a, xs, rfl, ha, rl⟩ := rep_tup r1
    refine ⟨a, rfl, ⟨xs, SqT.of (w1.w _ _ ha)⟩, q _ _ _ l fun i G0 G s1 s2 => ⟨fun hi => ⟨xs, SqT.of (s2 _ _ (s1 _ _ ha)), by rw [rl.length, hi]; exact Nat.le_refl _⟩, fun d hd => ?_⟩⟩
    obtain ⟨v, hv, rv⟩ := rl.at hd
    refine ⟨⟨xs, v, SqT.of (s2 _ _ (s1 _ _ ha)), hv⟩, fun y H' hy => ?_⟩
    obtain ⟨rfl, hy⟩ := hy
    have e := hy xs (SqT.of (s2 _ _ (s1 _ _ ha)))
    rw [hv] at e
    cases e
    exact ⟨G0, Le.refl s2, rv.mono s1⟩)
/-- lo, lo + 1, .. (n of them) -/
abbrev rangeI (lo : Int) (n : Nat) : List Int := Mir.upto lo n
theorem rangeI_length (lo : Int) (n : Nat) : (rangeI lo n).length = n := Mir.upto_length lo n
theorem rangeI_get {lo : Int} {n i : Nat} (h : i < n) : (rangeI lo n)[i]? = some (lo + (i : Int)) := Mir.upto_get h
theorem yields_range {G0 : Hp} {lo : Int} {n : Nat} : Yields (Itr lo n) G0 ((rangeI lo n).map .int) := fun i H0 H s1 s2 => by
  refine ⟨fun hi => ?_, fun d hd => ?_⟩
  · rw [List.length_map, rangeI_length] at hi
    subst hi
    exact Nat.le_refl _
  · rw [List.getElem?_map] at hd
    by_cases h : i < n
    · rw [rangeI_get h] at hd
      cases hd
      refine ⟨h, fun x H' hx => ?_⟩
      obtain ⟨rfl, rfl⟩ := hx
      exact ⟨H0, Le.refl s2, .int _⟩
    · rw [List.getElem?_eq_none (by rw [rangeI_length]; omega)] at hd
      cases hd
theorem ji_range1 {j : Int} (hg : Gl X "range") (hm : X.mg "range" = none) (h : J X ρ e (.int j)) (h1 : -100000 ≤ j) (h2 : j ≤ 100000) (hs : starEach [e] X.env = [(false, eval e X.env)]) : JI X ρ tg (.Call (.Name "range" p) [e] [] pos) ((rangeI 0 j.toNat).map .int) := fun H0 H σ R w q =>
  of_pi (pi_range1 hg hm (pa_cons pe_self pa_nil hs) hs) (h.run w fun v H1 H2 l w1 r1 => ⟨j, by rw [rep_int r1], by omega, by omega, q _ _ _ l yields_range⟩)
theorem ji_range2 {i j : Int} (hg : Gl X "range") (hm : X.mg "range" = none) (ha : J X ρ a (.int i)) (hb : J X ρ b (.int j)) (h1 : -100000 ≤ i) (h2 : i ≤ 100000) (h3 : -100000 ≤ j) (h4 : j ≤ 100000)
    (hs : starEach [a, b] X.env = [(false, eval a X.env), (false, eval b X.env)]) (hs2 : starEach [b] X.env = [(false, eval b X.env)]) : JI X ρ tg (.Call (.Name "range" p) [a, b] [] pos) ((rangeI i (j - i).toNat).map .int) := fun H0 H σ R w q =>
  of_pi (pi_range2 hg hm (pa_cons pe_self (pa_cons pe_self pa_nil hs2) (by rw [hs, hs2])) hs hs2) (ha.run w fun v H1 H2 l w1 r1 => hb.run w1 fun v' H3 H4 l2 w2 r2 =>
    ⟨i, j, by rw [rep_int r1, rep_int r2], ⟨by omega, by omega, by omega, by omega⟩, q _ _ _ (l.trans l2) yields_range⟩)

/-! ### targets -/
/-- storing d into the target changes the slots vs at most -/
def JG (g : TG) (ρ : Env1) (d : PyData) (ρ' : Env1) (vs : List Nat) : Prop := ∀ H0 H σ v (Q : L2.St → Hp → Prop), Wd H0 H σ ρ → Rep H0 v d → (∀ σ', Wd H0 H σ' ρ' → wipe σ' vs = wipe σ vs → Q σ' H) → g v σ H Q
theorem wipe_comm (σ : L2.St) (i : Nat) (v : Option V) : ∀ vs : List Nat, i ∉ vs → wipe (σ.set i v) vs = (wipe σ vs).set i v
  | [], _ => rfl
  | j :: vs, h => by
    show (wipe (σ.set i v) vs).set j none = ((wipe σ vs).set j none).set i v
    rw [wipe_comm σ i v vs fun z => h (List.mem_cons_of_mem _ z), List.set_comm]
    intro z
    exact h (z ▸ List.mem_cons_self)
theorem wipe_set (σ : L2.St) (i : Nat) (v : Option V) : ∀ vs : List Nat, i ∈ vs → wipe (σ.set i v) vs = wipe σ vs
  | [], h => by cases h
  | j :: vs, h => by
    show (wipe (σ.set i v) vs).set j none = (wipe σ vs).set j none
    by_cases hm : i ∈ vs
    · rw [wipe_set σ i v vs hm]
    · have e : i = j := by
        rcases List.mem_cons.mp h with z | z
        · exact z
        · exact absurd z hm
      subst e
      rw [wipe_comm σ i v vs hm, List.set_set]
theorem wipe_wipe (σ : L2.St) : ∀ vs us : List Nat, (∀ i ∈ us, i ∈ vs) → wipe (wipe σ us) vs = wipe σ vs
  | vs, [], _ => rfl
  | vs, u :: us, h => by
    show wipe ((wipe σ us).set u none) vs = wipe σ vs
    rw [wipe_set _ _ _ vs (h u List.mem_cons_self), wipe_wipe σ vs us fun i hi => h i (List.mem_cons_of_mem _ hi)]
theorem jg_name {i : Nat} {vs : List Nat} (hi : i ∈ vs) : JG (gName i) ρ d (ρ.set i (some d)) vs := fun H0 H σ v Q w r q =>
  q _ (w.set i r) (wipe_set σ i _ vs hi)
theorem jg_pair {K : PySem.W.Frag} {i j : Nat} {vs : List Nat} {d1 d2 : PyData} (hi : i ∈ vs) (hj : j ∈ vs) : JG (gTup K 2 (gCons (gName i) (gCons (gName j) gNil))) ρ (.tuple [d1, d2]) ((ρ.set i (some d1)).set j (some d2)) vs := fun H0 H σ v Q w r q => by
  obtain ⟨a, xs, rfl, ha, rl⟩ := rep_tup r
  cases rl with
  | cons r1 t =>
    cases t with
    | cons r2 t =>
      cases t
      refine ⟨a, _, rfl, SqT.of (w.w _ _ ha), rfl, _, _, rfl, _, _, rfl, rfl, ?_⟩
      exact q _ ((w.set i r1).set j r2) (by rw [wipe_set _ _ _ vs hj, wipe_set _ _ _ vs hi])

/-! ### list comprehensions -/
/-- the tests of a clause -/
def wTs (X : Cx) (ifs : List Expr) : TT := fun σ H Q => ∀ pins s, Inv X pins σ H s → wpAny (model X.prog X.w) X.A (forIn ifs true fun c r => if r = true then do let ok ← isTrue c X.env (eval c X.env); pure (ForInStep.yield ok) else pure (ForInStep.yield r)) (TP X pins σ Q) X.xe s
def JTs (X : Cx) (ρ : Env1) (ifs : List Expr) (k : Bool) : Prop := ∀ H0 H σ (Q : Bool → Hp → Prop), Wd H0 H σ ρ → (∀ H0' H', Le H0 H H0' H' → Q k H') → wTs X ifs σ H Q
theorem jts_nil : JTs X ρ [] true := fun H0 H σ Q w q pins s I => (pts_nil (X := X)).run pins s σ H Q I (q H0 H (Le.refl w.w))
theorem jts_one {l : Bool} (h : JT X ρ c l) : JTs X ρ [c] l := fun H0 H σ Q w q pins s I => (pts_one (X := X) pt_self).run pins s σ H Q I (h H0 H σ Q w q)

/-- the contexts in which a comprehension's block may run -/
abbrev Blk (X : Cx) (scope : Scope) (P : Cx → Prop) : Prop := ∀ (s : Shared) (H : Hp) (C : Addr) (cl : List (Str × Addr)) (fp : List Addr), P (X.blk s H scope (compEnvC scope cl C X.env) fp)
theorem filterMap_snoc {α β : Type} (f : α → Option β) : ∀ {l : List α} {i : Nat} {x : α}, l[i]? = some x → (l.take (i + 1)).filterMap f = (l.take i).filterMap f ++ (f x).toList := fun {l i x} h => by
  rw [List.take_add_one, h, Option.toList_some, List.filterMap_append]
  congr 1
/-- [elt for tg in iter if ..]: f x is what the turn of x adds; the reading -/
theorem lc_reads {α : Type} {scope : Scope} {own : List (Str × Nat)} {gT : TG} {enc : α → PyData} {xs : List α} {f : α → Option PyData} (hi : JI X ρ tg iter (xs.map enc))
    (turn : ∀ x ∈ xs, ∃ ρx, JG gT (wipeE ρ (own.map (·.2))) (enc x) ρx (own.map (·.2)) ∧ Blk X scope fun Y => JTs Y ρx ifs (f x).isSome ∧ ∀ d, f x = some d → J Y ρx elt d)
    (hz : xs.length ≤ 100000) {H0 H : Hp} {σ : L2.St} {Q : VK} (w : Wd H0 H σ ρ) (q : ∀ v H0' H', Le H0 H H0' H' → Rep H0' v (.list (xs.filterMap f)) → Q v H') :
    tLc (wI X tg iter) gT (fun σ H Q => Blk X scope fun Y => wTs Y ifs σ H Q) (fun σ H Q => Blk X scope fun Y => wE Y elt σ H Q) (own.map (·.2)) σ H Q := by
  refine hi H0 H σ _ w fun it H1 H2 l1 yl => ?_
  intro D hD
  have hD1 : H1 D = none := l1.w.free hD
  -- the worlds while the list grows: the list itself is not among what never changes
  refine ⟨fun i m G => m = xs.length - i ∧ i ≤ xs.length ∧ ∃ G0 acc, Le H1 H2 G0 (fun b => if b = D then none else G b) ∧ G D = some (.lst acc) ∧ RepL G0 acc ((xs.take i).filterMap f), ⟨xs.length, by simp, Nat.zero_le _, H1, [], ?_, upd_same, .nil⟩, ?_⟩
  · refine ⟨fun b o e => ?_, Same.refl _, fun b o e => ?_, fun _ _ _ h => h⟩
    · have nb : b ≠ D := ne_of_none e hD
      show (if b = D then none else upd H2 D _ b) = _
      rw [if_neg nb, upd_ne nb]; exact e
    · have nb : b ≠ D := ne_of_none e hD1
      show (if b = D then none else upd H2 D _ b) = _
      rw [if_neg nb, upd_ne nb]; exact l1.w _ _ e
  · rintro i m G ⟨rfl, hi, G0, acc, le, hG, rl⟩
    have hG0 : G0 D = none := le.w.free (if_pos rfl)
    have w0 : Same G0 G := fun b o e => by
      have q1 := le.w b o e
      by_cases hb : b = D
      · subst hb; rw [if_pos rfl] at q1; cases q1
      · rw [if_neg hb] at q1; exact q1
    obtain ⟨y1, y2⟩ := yl i G0 G le.s0 w0
    by_cases hlt : i < xs.length
    · right
      have hx : xs[i]? = some xs[i] := by simp [hlt]
      obtain ⟨go, yld⟩ := y2 (enc xs[i]) (by rw [List.getElem?_map, hx]; rfl)
      refine ⟨go, fun G' => ∃ G0' acc', Le H1 H2 G0' (fun b => if b = D then none else G' b) ∧ G' D = some (.lst acc') ∧ RepL G0' acc' ((xs.take (i + 1)).filterMap f), fun G' p => ⟨xs.length - (i + 1), by omega, rfl, hlt, p⟩, fun v G1 hv => ?_⟩
      obtain ⟨G01, l2, rx⟩ := yld v G1 hv
      obtain ⟨ρx, jg, tn⟩ := turn xs[i] (List.getElem_mem hlt)
      have wd : Wd G01 G1 (wipe σ (own.map (·.2))) (wipeE ρ (own.map (·.2))) := ⟨l2.w, ((w.le l1).st.mono (le.s0.trans l2.s0)).wipe _⟩
      -- from a world behind (G01, G1) back to the form of the invariant
      have back : ∀ {G02 G2 : Hp}, Le G01 G1 G02 G2 → G2 D = some (.lst acc) ∧ G02 D = none ∧ ∀ acc', Le H1 H2 G02 (fun b => if b = D then none else upd G2 D (.lst acc') b) := fun {G02 G2} l3 => by
        have ll := l2.trans l3
        have n2 : G02 D = none := ll.ow D _ hG hG0
        refine ⟨ll.s _ _ hG, n2, fun acc' => ⟨fun b o e => ?_, le.s0.trans ll.s0, fun b o e => ?_, fun b o e n => ?_⟩⟩
        · have nb : b ≠ D := ne_of_none e hD
          have e1 := le.s b o e
          rw [if_neg nb] at e1
          show (if b = D then none else upd G2 D _ b) = _
          rw [if_neg nb, upd_ne nb]; exact ll.s _ _ e1
        · have nb : b ≠ D := ne_of_none e n2
          show (if b = D then none else upd G2 D _ b) = _
          rw [if_neg nb, upd_ne nb]; exact ll.w _ _ e
        · have nb : b ≠ D := ne_of_none e hD
          have e1 := le.s b o e
          rw [if_neg nb] at e1
          exact ll.ow b o e1 (le.ow b o e n)
      refine jg G01 G1 _ v _ wd rx fun σ2 wd2 hw => ⟨?_, fun s H C cl fp => (tn s H C cl fp).1 G01 G1 σ2 _ wd2 fun G02 G2 l3 => ?_⟩
      · rw [hw]; exact wipe_wipe σ _ _ fun i hi => hi
      · cases e : f xs[i] with
        | none =>
          refine iteF ?_
          obtain ⟨b1, b2, b3⟩ := back l3
          refine ⟨G02, acc, ?_, b1, ?_⟩
          · have z := b3 acc
            have eq : (fun b => if b = D then none else upd G2 D (.lst acc) b) = fun b => if b = D then none else G2 b := by
              funext b
              by_cases hb : b = D
              · rw [if_pos hb, if_pos hb]
              · rw [if_neg hb, if_neg hb, upd_ne hb]
            rw [eq] at z
            exact z
          · rw [filterMap_snoc f hx, e]
            simp only [Option.toList_none, List.append_nil]
            exact rl.mono (l2.s0.trans l3.s0)
        | some dx =>
          refine iteT fun s' H' C' cl' fp' => ((tn s' H' C' cl' fp').2 dx e) G02 G2 σ2 _ (wd2.le l3) fun y G03 G3 l4 ry => ?_
          obtain ⟨b1, b2, b3⟩ := back (l3.trans l4)
          have hlen : acc.length ≤ xs.length := by
            rw [rl.length]
            exact Nat.le_trans (List.length_filterMap_le _ _) (by rw [List.length_take]; omega)
          refine ⟨acc, b1, Nat.lt_of_le_of_lt (Nat.le_trans hlen hz) (by rw [sizeLine_eq]; omega), G03, acc ++ [y], b3 _, upd_same, ?_⟩
          rw [filterMap_snoc f hx, e]
          exact (rl.mono (l2.s0.trans (l3.s0.trans l4.s0))).append (.cons ry .nil)
    · left
      refine ⟨y1 (by rw [List.length_map]; omega), ?_⟩
      have hi' : i = xs.length := by omega
      subst hi'
      rw [List.take_length] at rl
      -- the new list joins what never changes
      have s0 : Same G0 (upd G0 D (.lst acc)) := fun b o e => by rw [upd_ne (ne_of_none e hG0)]; exact e
      refine q (.ref D) (upd G0 D (.lst acc)) G (l1.trans ⟨fun b o e => ?_, le.s0.trans s0, fun b o e => ?_, fun b o e n => ?_⟩) (.lst upd_same (rl.mono s0))
      · have nb : b ≠ D := ne_of_none e hD
        have e1 := le.s b o e
        rw [if_neg nb] at e1
        exact e1
      · by_cases hb : b = D
        · subst hb; rw [upd_same] at e; cases e; exact hG
        · rw [upd_ne hb] at e; exact w0 _ _ e
      · have nb : b ≠ D := ne_of_none e hD
        rw [upd_ne nb]
        exact le.ow b o e n
/-- .. as an expression -/
theorem j_lc {α : Type} {scope : Scope} {own : List (Str × Nat)} {gT : TG} {enc : α → PyData} {xs : List α} {f : α → Option PyData} (hc : X.calm = true) (hN : X.N.Nodup) (hi : JI X ρ tg iter (xs.map enc)) (ok : BlkOk X.N X.env.scope scope own)
    (hg : Blk X scope fun Y => PG Y tg gT)
    (turn : ∀ x ∈ xs, ∃ ρx, JG gT (wipeE ρ (own.map (·.2))) (enc x) ρx (own.map (·.2)) ∧ Blk X scope fun Y => JTs Y ρx ifs (f x).isSome ∧ ∀ d, f x = some d → J Y ρx elt d)
    (hz : xs.length ≤ 100000) (hs : ∀ x, foldedSetIterable iter X.env x = pure x) : J X ρ (.ListComp elt [⟨tg, iter, ifs, 0⟩] scope pos) (.list (xs.filterMap f)) := fun H0 H σ Q w q =>
  of_pe (pe_lc (te := fun σ H Q => Blk X scope fun Y => wE Y elt σ H Q) (tt := fun σ H Q => Blk X scope fun Y => wTs Y ifs σ H Q) hc hN pi_self ok hg
    (fun s H C cl fp => ⟨fun pins s' σ' H' Q' I h => h s H C cl fp pins s' I⟩) (fun s H C cl fp => ⟨fun pins s' σ' H' Q' I h => h s H C cl fp pins s' I⟩) hs) (lc_reads hi turn hz w q)
/-- name = [..], on one line, the name a plain local -/
theorem j1_setLc {α : Type} {i : Nat} {px spos : Pos} {scope : Scope} {own : List (Str × Nat)} {gT : TG} {enc : α → PyData} {xs : List α} {f : α → Option PyData} (hc : X.calm = true) (hN : X.N.Nodup) (hy : X.N[i]? = some x) (hyl : X.env.scope.names.lookup x = some .local)
    (hsw : swapsWith (.ListComp elt [⟨tg, iter, ifs, 0⟩] scope pos) (some (.Name x px)) spos.line X.env = pure true) (hi : JI X ρ tg iter (xs.map enc)) (ok : BlkOk X.N X.env.scope scope own)
    (hg : Blk X scope fun Y => PG Y tg gT)
    (turn : ∀ x ∈ xs, ∃ ρx, JG gT (wipeE ρ (own.map (·.2))) (enc x) ρx (own.map (·.2)) ∧ Blk X scope fun Y => JTs Y ρx ifs (f x).isSome ∧ ∀ d, f x = some d → J Y ρx elt d)
    (hz : xs.length ≤ 100000) (hs : ∀ x, foldedSetIterable iter X.env x = pure x) : J1 X ρ (.Assign [.Name x px] (.ListComp elt [⟨tg, iter, ifs, 0⟩] scope pos) spos) (.fall (ρ.set i (some (.list (xs.filterMap f))))) := fun H0 H σ D w q =>
  of_ps (ps_setLc (te := fun σ H Q => Blk X scope fun Y => wE Y elt σ H Q) (tt := fun σ H Q => Blk X scope fun Y => wTs Y ifs σ H Q) hc hN hy hyl hsw pi_self ok hg
    (fun s H C cl fp => ⟨fun pins s' σ' H' Q' I h => h s H C cl fp pins s' I⟩) (fun s H C cl fp => ⟨fun pins s' σ' H' Q' I h => h s H C cl fp pins s' I⟩) hs)
    (lc_reads hi turn hz w fun v H0' H' l r => q _ _ _ l ((w.le l).set i r))

/-! ### statements -/
theorem j1_set {i : Nat} {px : Pos} (hN : X.N.Nodup) (hi : X.N[i]? = some x) (hx : Loc X.env.scope x) (he : J X ρ e d) (hs : swapsWith e (some (.Name x px)) pos.line X.env = pure false) (hf : X.fn x = true ∨ X.env.scope.names.lookup x = some .local) :
    J1 X ρ (.Assign [.Name x px] e pos) (.fall (ρ.set i (some d))) := fun H0 H σ D w q =>
  of_ps (ps_set hN hi hx pe_self hs hf) (he.run w fun v H1 H2 l w1 r => q _ _ _ l (w1.set i r))
theorem j1_ret (he : J X ρ e d) : J1 X ρ (.Return (some e) pos) (.ret d) := fun H0 H σ D w q =>
  of_ps (ps_ret pe_self) (he.run w fun v H1 H2 l w1 r => q v _ _ l r)
theorem j1_expr (he : J X ρ e d) (hs : swapsWith e none pos.line X.env = pure false) : J1 X ρ (.Expr e pos) (.fall ρ) := fun H0 H σ D w q =>
  of_ps (ps_expr pe_self hs) (he.run w fun v H1 H2 l w1 r => q _ _ _ l w1)
theorem j1_pass : J1 X ρ (.Pass pos) (.fall ρ) := fun H0 H σ D w q => of_ps ps_pass (q _ _ _ (Le.refl w.w) w)
theorem j1_if {l : Bool} {A B : List Stmt} (hc : JT X ρ c l) (hA : l = true → JS X ρ A r) (hB : l = false → JS X ρ B r) : J1 X ρ (.If c A B pos) r := fun H0 H σ D w q =>
  of_ps (ps_if pt_self pb_self pb_self) (hc H0 H σ _ w fun H0' H' l1 => by
    cases l with
    | true => exact iteT (hA rfl _ _ _ _ (w.le l1) (q.le l1))
    | false => exact iteF (hB rfl _ _ _ _ (w.le l1) (q.le l1)))
theorem j1_aug {i : Nat} {px : Pos} {op : Operator} {g : Int → Int → V} {C : Int → Int → Prop} {n m : Int} (hN : X.N.Nodup) (hi : X.N[i]? = some x) (hx : Loc X.env.scope x) (hv : ρ[i]? = some (some (.int n))) (he : J X ρ e (.int m))
    (ho : PIp X op (rI C g)) (hC : C n m) (hg : ∀ H, Rep H (g n m) d) (hf : X.fn x = true ∨ X.env.scope.names.lookup x = some .local) : J1 X ρ (.AugAssign (.Name x px) op e pos) (.fall (ρ.set i (some d))) := fun H0 H σ D w q => by
  obtain ⟨v, hv1, hv2⟩ := w.st.at_ i _ hv
  refine of_ps (ps_aug hN hi hx pe_self ho hf) ⟨v, hv1, he.run w fun u H1 H2 l w1 r => ⟨n, m, rep_int hv2, rep_int r, hC, q _ _ _ l (w1.set i (hg _))⟩⟩
/-- a, b = x, y with plain local names -/
theorem j1_par2 {i j : Nat} {px py pt : Pos} {kt k2 pt2} {d1 d2 : PyData} (hc : X.calm = true) (hN : X.N.Nodup) (hi : X.N[i]? = some x) (hj : X.N[j]? = some y) (hij : i ≠ j)
    (hx : X.env.scope.names.lookup x = some .local) (hy : X.env.scope.names.lookup y = some .local) (ha : JA X ρ [a, b] [d1, d2])
    (hw : swappedStores [.Tuple [.Name x px, .Name y py] kt pt] (.Tuple [a, b] k2 pt2) X.env = pure (some [x, y]))
    (hs : swapsWithSole [.Tuple [.Name x px, .Name y py] kt pt] (.Tuple [a, b] k2 pt2) pos.line X.env = pure false) :
    J1 X ρ (.Assign [.Tuple [.Name x px, .Name y py] kt pt] (.Tuple [a, b] k2 pt2) pos) (.fall ((ρ.set i (some d1)).set j (some d2))) := fun H0 H σ D w q =>
  of_ps (ps_par hc hN hi hj hij hx hy pa_self hw hs) (ha _ _ _ _ w fun vs H1 H2 l r => by
    cases r with
    | cons r1 t =>
      cases t with
      | cons r2 t =>
        cases t
        exact ⟨_, _, rfl, q _ _ _ l (((w.le l).set i r1).set j r2)⟩)
/-- target = e, any target that JG knows -/
theorem j1_asg {g : TG} {vs : List Nat} (he : J X ρ e d) (hg : PG X tg g) (jg : JG g ρ d ρ1 vs) (hs : swapsWithSole [tg] e pos.line X.env = pure false) (hw : swappedStores [tg] e X.env = pure none)
    (h1 : (assignEach [tg] X.env).map (·.2) = [assign tg X.env]) : J1 X ρ (.Assign [tg] e pos) (.fall ρ1) := fun H0 H σ D w q =>
  of_ps (ps_asg pe_self hg hs hw h1) (he.run w fun v H1 H2 l w1 r => jg H1 H2 σ v _ w1 r fun σ' w2 _ => q _ _ _ l w2)
/-- a loop: R k holds ahead of the k-th turn; it ends behind all, or returns in turn m -/
theorem j1_for {α : Type} {g : TG} {enc : α → PyData} {xs : List α} (R : Nat → Env1) (m : Nat) (hp : PassesOwn (model X.prog X.w) X.A X.env X.xe) (hc : X.calm = true) (hi : JI X ρ tg iter (xs.map enc)) (hg : PG X tg g) (h0 : Sub (R 0) ρ)
    (turn : ∀ (k : Nat) (u : α), xs[k]? = some u → k < m → ∃ ρx vs, JG g (R k) (enc u) ρx vs ∧ JS X ρx body (.fall (R (k + 1))))
    (last : (m = xs.length ∧ r = .fall (R m)) ∨ ∃ u d' ρx vs, xs[m]? = some u ∧ r = .ret d' ∧ JG g (R m) (enc u) ρx vs ∧ JS X ρx body (.ret d'))
    (hs : ∀ x, foldedSetIterable iter X.env x = pure x) : J1 X ρ (.For tg iter body [] pos) r := fun H0 H σ D w q => by
  refine of_ps (ps_for hp hc pi_self hg pb_self hs) (hi H0 H σ _ w fun it H1 H2 l1 yl => ?_)
  refine ⟨fun i n σ' G => n = xs.length - i ∧ i ≤ m ∧ i ≤ xs.length ∧ ∃ G0, Le H1 H2 G0 G ∧ Wd G0 G σ' (R i), ⟨xs.length, by simp, Nat.zero_le _, Nat.zero_le _, H1, Le.refl l1.w, (w.le l1).sub h0⟩, ?_⟩
  rintro i n σ' G ⟨rfl, him, hix, G0, le, wd⟩
  obtain ⟨y1, y2⟩ := yl i G0 G le.s0 wd.w
  by_cases hlt : i < xs.length
  · right
    have hx : xs[i]? = some xs[i] := by simp [hlt]
    obtain ⟨go, yld⟩ := y2 (enc xs[i]) (by rw [List.getElem?_map, hx]; rfl)
    refine ⟨go, fun σ2 G2 => i + 1 ≤ m ∧ ∃ G02, Le H1 H2 G02 G2 ∧ Wd G02 G2 σ2 (R (i + 1)), fun σ2 G2 p => ⟨xs.length - (i + 1), by omega, rfl, p.1, hlt, p.2⟩, fun v G1 hv => ?_⟩
    obtain ⟨G01, l2, rx⟩ := yld v G1 hv
    by_cases hm : i < m
    · obtain ⟨ρx, vs, jg, jb⟩ := turn i xs[i] hx hm
      exact jg G01 G1 σ' v _ (wd.le l2) rx fun σ2 w2 _ => jb G01 G1 σ2 _ w2 fun σ3 G02 G2 l3 w3 => ⟨hm, G02, le.trans (l2.trans l3), w3⟩
    · have e : i = m := by omega
      subst e
      rcases last with ⟨e, _⟩ | ⟨u, d', ρx, vs, hu, rfl, jg, jb⟩
      · omega
      · rw [hx] at hu
        cases hu
        exact jg G01 G1 σ' v _ (wd.le l2) rx fun σ2 w2 _ => jb G01 G1 σ2 _ w2 fun u' G02 G2 l3 r3 => q u' _ _ (l1.trans (le.trans (l2.trans l3))) r3
  · left
    have e : i = xs.length := by omega
    subst e
    refine ⟨y1 (List.length_map ..).symm, ?_⟩
    rcases last with ⟨e, rfl⟩ | ⟨u, d', ρx, vs, hu, _, _, _⟩
    · rw [← e] at wd
      exact q _ _ _ (l1.trans le) wd
    · have hlt2 := (List.getElem?_eq_some_iff.mp hu).1
      omega
theorem j1_while (R : Nat → Env1) (m : Nat) (hp : PassesOwn (model X.prog X.w) X.A X.env X.xe) (h0 : Sub (R 0) ρ) (turn : ∀ k, k < m → JT X (R k) c true ∧ JS X (R k) body (.fall (R (k + 1)))) (last : JT X (R m) c false) :
    J1 X ρ (.While c body [] pos) (.fall (R m)) := fun H0 H σ D w q => by
  refine of_ps (ps_while hp pt_self pb_self) ⟨fun n σ' G => ∃ i, n = m - i ∧ i ≤ m ∧ ∃ G0, Le H0 H G0 G ∧ Wd G0 G σ' (R i), ⟨m, 0, by simp, Nat.zero_le _, H0, Le.refl w.w, w.sub h0⟩, ?_⟩
  rintro n σ' G ⟨i, rfl, him, G0, le, wd⟩
  by_cases hm : i < m
  · obtain ⟨t1, t2⟩ := turn i hm
    refine t1 G0 G σ' _ wd fun G01 G1 l1 => iteT ⟨fun σ2 G2 => ∃ G02, Le H0 H G02 G2 ∧ Wd G02 G2 σ2 (R (i + 1)), fun σ2 G2 p => ⟨m - (i + 1), by omega, i + 1, rfl, hm, p⟩, ?_⟩
    exact t2 G01 G1 σ' _ (wd.le l1) fun σ2 G02 G2 l2 w2 => ⟨G02, le.trans (l1.trans l2), w2⟩
  · have e : i = m := by omega
    subst e
    exact last G0 G σ' _ wd fun G01 G1 l1 => iteF (q _ _ _ (le.trans l1) (wd.le l1))
end

/-! ### a def -/
def startE : List Str → List PyData → Env1
  | [], _ => []
  | _ :: N, [] => none :: startE N []
  | _ :: N, d :: ds => some d :: startE N ds
theorem startE_nil : ∀ N : List Str, startE N [] = List.replicate N.length none
  | [] => rfl
  | _ :: N => by
    show none :: startE N [] = _
    rw [startE_nil N]
    rfl
theorem startE_eq : ∀ (N : List Str) (ds : List PyData), ds.length ≤ N.length → startE N ds = ds.map some ++ List.replicate (N.length - ds.length) none
  | N, [], _ => by rw [startE_nil]; rfl
  | [], _ :: _, h => by simp at h
  | n :: N, d :: ds, h => by
    show some d :: startE N ds = _
    rw [startE_eq N ds (by simpa using h)]
    simp
theorem RepL.starts {H : Hp} {N : List Str} {vs : List V} {ds : List PyData} (r : RepL H vs ds) (hl : ds.length ≤ N.length) : St H (start N vs) (startE N ds) := by
  rw [startE_eq N ds hl]
  refine ⟨by simp [L2.start, r.length], fun i d h => ?_⟩
  by_cases hi : i < ds.length
  · rw [List.getElem?_append_left (by simpa using hi), List.getElem?_map] at h
    cases e : ds[i]? with
    | none => rw [e] at h; cases h
    | some d' =>
      rw [e] at h
      cases h
      obtain ⟨v, hv, rv⟩ := r.at e
      refine ⟨v, ?_, rv⟩
      unfold L2.start
      rw [List.getElem?_append_left (by rw [List.length_map, r.length]; exact hi), List.getElem?_map, hv]
      rfl
  · rw [List.getElem?_append_right (by simpa using hi)] at h
    have := List.getElem?_replicate (a := (none : Option PyData)) (n := N.length - ds.length) (i := i - (ds.map some).length)
    rw [this] at h
    split at h <;> cases h
/-- a def's body, said in data, keeps the promise -/
theorem fn_ok {P : Program} {w : World} {K : PySem.W.Frag} {mg : Str → Option Value} {base : Heap} {x qual : Str} {st : Stmt} {f : Addr} {fd : FuncData} {N ps : List Str} {k : Nat} {R : List PyData → PyData → Prop} (F : Fun K x qual st f fd) (S : FnScope N ps (defScope st))
    (len : ∀ ds d, R ds d → ds.length = ps.length)
    (body : ∀ (cdv : Value) (A : Around) (outer : List Env) (s : Shared) (H : Hp) (E : XK), Room k (A.deeper (envOfC qual (defScope st) s.heap.objs.size f cdv)) → ∀ ds d, R ds d →
      ∃ r, JS (cxOf CX0 P w K mg base N qual (defScope st) f cdv A outer s H E).nox (startE N ds) (defBody st) r ∧ (r = .ret d ∨ (d = .none ∧ ∃ ρ', r = .fall ρ'))) : FnOk P w K mg base CX0 (k + 1) f fd ps (SpR R) := by
  refine F.ok S (fun vs H Q E h => ?_) (fun cdv A outer s H vs Q E hr h => ?_)
  · obtain ⟨H0, ds, d, _, rl, hR, _⟩ := h
    rw [rl.length]
    exact len ds d hR
  · obtain ⟨H0, ds, d, w0, rl, hR, q⟩ := h
    obtain ⟨r, js, hr⟩ := body cdv A outer s H E hr ds d hR
    have hl : ds.length ≤ N.length := by
      rw [len ds d hR]
      have z := congrArg List.length S.pre
      rw [List.length_take] at z
      omega
    refine ⟨wB _ (defBody st), pb_self, js H0 H _ _ ⟨w0, rl.starts hl⟩ ?_⟩
    rcases hr with rfl | ⟨rfl, ρ', rfl⟩
    · exact fun v H1 H2 l r => q v _ _ l r
    · exact fun σ' H1 H2 l _ => q .non _ _ l .non
end Lv

namespace Lv
open PySem PySem.Spec PyProof.Rows L2

section
variable {X : Cx} {ρ ρ1 : Env1} {e a b c tg iter elt : Expr} {es ifs : List Expr} {d : PyData} {ds : List PyData} {pos p p2 p3 tp : Pos} {st : Stmt} {sts body : List Stmt} {r : Res} {x y z : Str} {k : Nat}

/-! ### isinstance -/
def tyD : PyData → String
  | .none => "NoneType" | .bool _ => "bool" | .int _ => "int" | .str _ => "str" | .list _ => "list" | .tuple _ => "tuple" | .dict _ => "dict"
theorem rep_ty {K : PySem.W.Frag} {H0 H : Hp} {v : V} {d : PyData} (w : Same H0 H) (r : Rep H0 v d) : TyX K H v (.type (tyD d)) := by
  cases r with
  | non => exact .base .non
  | bl b => exact .base (.bl b)
  | int i => exact .base (.int i)
  | lst h _ => exact .base (.lst (w _ _ h))
  | tup h _ => exact .base (.tup (w _ _ h))
theorem j_isi {T : String} {l : Bool} (ha : J X ρ a d) (hl : kitB (tyD d) T = some l) (hg : Gl X "isinstance") (hm : X.mg "isinstance" = none) (hg2 : Gl X x) (hm2 : X.mg x = none) (hv : bootBuiltins x = some (.type T)) (hb : bootBuiltins "isinstance" = some (.builtin "isinstance"))
    (hn : x ≠ "__name__") (hdb : (x == ("__debug__" : Str)) = false) (h1 : starEach [a, .Name x p2] X.env = (false, eval a X.env) :: starEach [.Name x p2] X.env) (h2 : starEach [.Name x p2] X.env = (false, eval (.Name x p2) X.env) :: starEach [] X.env)
    (hpl : (backTo pos (starEach [.Name x p2] X.env)).any (·.1) = false) : J X ρ (.Call (.Name "isinstance" p) [a, .Name x p2] [] pos) (.bool l) := fun H0 H σ Q w q =>
  of_pe (pe_callB call_isi hg hm hb (pa_cons pe_self (pa_cons (pe_bltn (v := .ty T) hg2 hm2 hv rfl hn hdb) pa_nil h2) h1) (by decide) (by decide) h1 hpl)
    (ha.run w fun v H1 H2 l1 w1 r1 => ⟨v, .ty T, _, _, l, rfl, .ty T, rep_ty w1.w r1, kit_ty hl, q _ _ _ l1 (.bl l)⟩)
theorem j_isiT {T U : String} {kk : Nat} {l : Bool} (ha : J X ρ a d) (hl : PySem.W.kitAny X.K (.type (tyD d)) [.type T, .type U] = some l) (hg : Gl X "isinstance") (hm : X.mg "isinstance" = none) (hg2 : Gl X x) (hm2 : X.mg x = none) (hv : bootBuiltins x = some (.type T))
    (hg3 : Gl X y) (hm3 : X.mg y = none) (hv3 : bootBuiltins y = some (.type U)) (hb : bootBuiltins "isinstance" = some (.builtin "isinstance"))
    (hn : x ≠ "__name__") (hdb : (x == ("__debug__" : Str)) = false) (hn3 : y ≠ "__name__") (hdb3 : (y == ("__debug__" : Str)) = false)
    (h1 : starEach [a, .Tuple [.Name x p2, .Name y p3] kk tp] X.env = (false, eval a X.env) :: starEach [.Tuple [.Name x p2, .Name y p3] kk tp] X.env) (h2 : starEach [.Tuple [.Name x p2, .Name y p3] kk tp] X.env = (false, eval (.Tuple [.Name x p2, .Name y p3] kk tp) X.env) :: starEach [] X.env)
    (h3 : starEach [.Name x p2, .Name y p3] X.env = (false, eval (.Name x p2) X.env) :: starEach [.Name y p3] X.env) (h4 : starEach [.Name y p3] X.env = (false, eval (.Name y p3) X.env) :: starEach [] X.env)
    (hpl : (backTo pos (starEach [.Tuple [.Name x p2, .Name y p3] kk tp] X.env)).any (·.1) = false) : J X ρ (.Call (.Name "isinstance" p) [a, .Tuple [.Name x p2, .Name y p3] kk tp] [] pos) (.bool l) := fun H0 H σ Q w q =>
  of_pe (pe_callB call_isiT hg hm hb (pa_cons pe_self (pa_cons (pe_tup (pa_cons (pe_bltn (v := .ty T) hg2 hm2 hv rfl hn hdb) (pa_cons (pe_bltn (v := .ty U) hg3 hm3 hv3 rfl hn3 hdb3) pa_nil h4) h3)) pa_nil h2) h1) (by decide) (by decide) h1 hpl)
    (ha.run w fun v H1 H2 l1 w1 r1 => ⟨by show 2 ≤ sizeLine; rw [sizeLine_eq]; omega, fun t nt => ⟨v, t, _, _, _, l, rfl, upd_same, .cons (.ty T) (.cons (.ty U) .nil), rep_ty (w1.w.trans (Le.new w1.w nt).s) r1, hl,
      q _ _ _ (l1.trans (Le.new w1.w nt)) (.bl l)⟩⟩)

/-! ### min of a list of data -/
theorem plain_of : ∀ {xs : List PyData} {i : Nat} {u : PyData}, PyData.plainAll xs = true → xs[i]? = some u → u.plain = true
  | [], _, _, _, h => by simp at h
  | u :: us, 0, _, h, e => by
    have h' : (u.plain && PyData.plainAll us) = true := h
    simp at e
    subst e
    exact (Bool.and_eq_true_iff.mp h').1
  | u :: us, i + 1, v, h, e => by
    have h' : (u.plain && PyData.plainAll us) = true := h
    exact plain_of (i := i) (Bool.and_eq_true_iff.mp h').2 (by simpa using e)
open PySem.W in
theorem cr_minD (hc : X.calm = true) : CallR X (.builtin "min") (rMinD X.A) := by
  intro pins s σ H vs us Q I rv h
  obtain ⟨H0, x, d, ds, rfl, w, hx, hal, hu, hp, q⟩ := h
  obtain ⟨u, rfl, rx⟩ := vals1 rv
  obtain ⟨a, xs, rfl, ha, rl⟩ := rep_lst hx
  cases (show u = Value.ref a from rx)
  obtain ⟨its, r, pl, hzz⟩ := I.list (SqL.of (w _ _ ha))
  obtain ⟨as, rd⟩ := repL_reads I w rl r
  refine min_list_data (vs := its.toArray) (I.ok.hd hc) pl.isList rd hal hu fun i v h' tk bs hv hb hk => ?_
  have hi : its[i]? = some v := by simpa using hv
  -- the item's own data
  obtain ⟨y, hy, ry⟩ : ∃ y, xs[i]? = some y ∧ RelV y v := by
    cases e : xs[i]? with
    | none => rw [r.none_of e] at hi; cases hi
    | some y =>
      obtain ⟨u', e1, e2⟩ := r.get e
      rw [hi] at e1
      cases e1
      exact ⟨y, rfl, e2⟩
  obtain ⟨dy, hdy, rdy⟩ := rl.at' hy
  obtain ⟨cs, rc⟩ := rep_reads I w rdy ry
  have rc' := Reads.keeps hk rc
  have py : dy.plain = true := plain_of hp hdy
  have e := SeqAt.plain_unique dy (minD d ds) v cs bs py rc' hb
  exact ⟨y, H, I.kept (h' := h') (t' := tk) hk, ry, q y (by rw [← e]; exact rdy)⟩
theorem q_min {d : PyData} {ds : List PyData} (hal : PySem.W.AlikeAll (d :: ds)) (hu : X.A.units + 1 + PyData.depthAll (d :: ds) < cLine) (hp : PyData.plainAll (d :: ds) = true) (H0 H : Hp) (vs : List V) (Q : VK) (w : Same H0 H) (r : RepL H0 vs [.list (d :: ds)])
    (q : ∀ v H0' H', Le H0 H H0' H' → Rep H0' v (PySem.W.minD d ds) → Q v H') : rMinD X.A vs H Q := by
  obtain ⟨v, rfl, r1⟩ := r.one
  exact ⟨H0, v, d, ds, rfl, w, r1, hal, hu, hp, fun v rv => q v _ _ (Le.refl w) rv⟩
/-! ### a module's number -/
theorem j_glob {n : Int} {t : Tok} (hg : Gl X x) (hm : X.mg x = some (.int n t)) (hd : (x == ("__debug__" : Str)) = false) : J X ρ (.Name x pos) (.int n) := j_const (pe_glob (v := .int n) hg hm ⟨t, rfl⟩ hd) fun _ => .int n
/-! ### xs.count(k) of a list of ints -/
theorem j_count {ns : List Int} {n : Int} {o : Expr} {apos : Pos} (ho : J X ρ o (.list (ns.map .int))) (ha : J X ρ e (.int n)) (hbase : attributeBase o "count" X.env (eval o X.env) = eval o X.env)
    (hfew : ((backTo pos (starEach (e :: []) X.env)).all (fun x => !x.1) && (backToKw pos (keywordEach [] X.env)).all (fun x => x.1.isSome) && decide ((e :: []).length + ([] : List Keyword).length + (if ([] : List Keyword).isEmpty then 0 else 1) < 30)) = true)
    (hline : (apos.endLine == pos.line) = true) (hs : starEach (e :: []) X.env = (false, eval e X.env) :: starEach [] X.env) (hplain : (backTo pos (starEach [] X.env)).any (·.1) = false) :
    J X ρ (.Call (.Attribute o "count" apos) [e] [] pos) (.int (ns.count n : Nat)) := fun H0 H σ Q w q =>
  of_pe (pe_bm PySem.F.plainAttrs_list PySem.F.slot_list_count PySem.F.type_list_count mt_lcount pe_self (pa_cons pe_self pa_nil hs) hbase hfew hline hs hplain)
    (ho.run w fun v H1 H2 l1 w1 r1 => by
      obtain ⟨a, xs, rfl, hA, rl⟩ := rep_lst r1
      have e := rep_ints rl
      subst e
      exact ⟨.inl ⟨rfl, _, SqL.of (w1.w _ _ hA)⟩, ha.run w1 fun u H3 H4 l2 w2 r2 => ⟨a, ns, n, rfl, by rw [rep_int r2], SqL.of (w2.w _ _ (l2.s0 _ _ hA)), q _ _ _ (l1.trans l2) (.int _)⟩⟩)

/-! ### comparisons as tests -/
theorem jt_cmpI {op : CmpOp} {g : Int → Int → V} {i j : Int} {l : Bool} (ho : OpR X (compareOp op) (rI0 g)) (hm : behindInMarks op b = false) (ha : J X ρ a (.int i)) (hb : J X ρ b (.int j)) (hg : g i j = .bl l) : JT X ρ (.Compare a [op] [b] pos) l := fun H0 H σ Q w q =>
  of_pt (pt_cmpR ho pe_self pe_self hm) (ha.run w fun x H1 H2 l1 w1 r1 => hb.run w1 fun y H3 H4 l2 w2 r2 =>
    ⟨i, j, rep_int r1, rep_int r2, l, hg, q _ _ (l1.trans l2)⟩)
theorem jt_lt {i j : Int} (ha : J X ρ a (.int i)) (hb : J X ρ b (.int j)) : JT X ρ (.Compare a [.Lt] [b] pos) (decide (i < j)) := jt_cmpI op_lt (nomark _) ha hb rfl
theorem jt_le {i j : Int} (ha : J X ρ a (.int i)) (hb : J X ρ b (.int j)) : JT X ρ (.Compare a [.LtE] [b] pos) (decide (i ≤ j)) := jt_cmpI op_le (nomark _) ha hb rfl
theorem jt_gt {i j : Int} (ha : J X ρ a (.int i)) (hb : J X ρ b (.int j)) : JT X ρ (.Compare a [.Gt] [b] pos) (decide (j < i)) := jt_cmpI op_gt (nomark _) ha hb rfl
theorem jt_ge {i j : Int} (ha : J X ρ a (.int i)) (hb : J X ρ b (.int j)) : JT X ρ (.Compare a [.GtE] [b] pos) (decide (j ≤ i)) := jt_cmpI op_ge (nomark _) ha hb rfl
theorem jt_cmpD {op : CmpOp} {P : PyData → PyData → Prop} {f : PyData → PyData → Bool} {da db : PyData} (ho : OpR X (compareOp op) (rCmpD X.A P f)) (hm : behindInMarks op b = false) (ha : J X ρ a da) (hb : J X ρ b db) (hp : P da db) : JT X ρ (.Compare a [op] [b] pos) (f da db) := fun H0 H σ Q w q =>
  of_pt (pt_cmpR ho pe_self pe_self hm) (ha.run w fun x H1 H2 l1 w1 r1 => hb.run w1 fun y H3 H4 l2 w2 r2 =>
    ⟨_, da, db, w2.w, r1.mono l2.s0, r2, hp, _, rfl, q _ _ (l1.trans l2)⟩)
theorem jt_eq {da db : PyData} (ha : J X ρ a da) (hb : J X ρ b db) (hp : PEq X.A da db) : JT X ρ (.Compare a [.Eq] [b] pos) (PyData.eqv da db) := jt_cmpD op_eqD (nomark _) ha hb hp
theorem jt_ne {da db : PyData} (ha : J X ρ a da) (hb : J X ρ b db) (hp : PEq X.A da db) : JT X ρ (.Compare a [.NotEq] [b] pos) (!PyData.eqv da db) := jt_cmpD op_neD (nomark _) ha hb hp
theorem jt_leD {da db : PyData} (ha : J X ρ a da) (hb : J X ρ b db) (hp : PLe X.A da db) : JT X ρ (.Compare a [.LtE] [b] pos) (!PySem.W.dataLt db da) := jt_cmpD op_leD (nomark _) ha hb hp
theorem peq_ints (hu : X.A.units < cLine) (i j : Int) : PEq X.A (.int i) (.int j) := ⟨rfl, rfl, hu⟩
theorem eqv_int (i j : Int) : PyData.eqv (.int i) (.int j) = decide (i = j) := by
  simp only [PyData.eqv]
  exact PySem.W.beq_decide i j
theorem jt_eqI {i j : Int} (hu : X.A.units < cLine) (ha : J X ρ a (.int i)) (hb : J X ρ b (.int j)) : JT X ρ (.Compare a [.Eq] [b] pos) (decide (i = j)) := by
  rw [← eqv_int]
  exact jt_eq ha hb (peq_ints hu i j)
theorem jt_neI {i j : Int} (hu : X.A.units < cLine) (ha : J X ρ a (.int i)) (hb : J X ρ b (.int j)) : JT X ρ (.Compare a [.NotEq] [b] pos) (!decide (i = j)) := by
  rw [← eqv_int]
  exact jt_ne ha hb (peq_ints hu i j)
/-- a list against the empty one -/
theorem eqv_nil (ds : List PyData) : PyData.eqv (.list ds) (.list []) = ds.isEmpty := by
  cases ds <;> simp [PyData.eqv, PyData.eqvAll]
theorem peq_nil {ds : List PyData} (hp : PyData.plainAll ds = true) (hu : X.A.units + 1 < cLine) : PEq X.A (.list ds) (.list []) := ⟨hp, rfl, by
  have e : PyData.depth (.list []) = 1 := rfl
  rw [e]
  omega⟩
end
end Lv

namespace Lv
open PySem PySem.Spec PyProof.Rows L2

/-! ### lists that a def makes and fills -/
/-- l is the def's own, not among what never changes: it was not there at the entry (H), it holds the data acc -/
structure Own (H K0 K : Hp) (l : Addr) (acc : List PyData) : Prop where
  new : H l = none
  out : K0 l = none
  at_ : ∃ xs, K l = some (.lst xs) ∧ RepL K0 xs acc
theorem Own.le {H K0 K K0' K' : Hp} {l : Addr} {acc : List PyData} (h : Own H K0 K l acc) (le : Le K0 K K0' K') : Own H K0' K' l acc := by
  obtain ⟨n, o, xs, e, r⟩ := h
  exact ⟨n, le.ow _ _ e o, xs, le.s _ _ e, r.mono le.s0⟩
/-- an item more -/
theorem Own.push {H K0 K : Hp} {l : Addr} {acc : List PyData} {y : V} {d : PyData} {xs : List V} (h : Own H K0 K l acc) (e : K l = some (.lst xs)) (r : RepL K0 xs acc) (ry : Rep K0 y d) : Own H K0 (upd K l (.lst (xs ++ [y]))) l (acc ++ [d]) :=
  ⟨h.new, h.out, _, upd_same, r.append (.cons ry .nil)⟩
theorem Own.other {H K0 K : Hp} {l m : Addr} {acc : List PyData} {o : HO} (h : Own H K0 K l acc) (n : l ≠ m) : Own H K0 (upd K m o) l acc := by
  obtain ⟨a, b, xs, e, r⟩ := h
  exact ⟨a, b, xs, by rw [upd_ne n]; exact e, r⟩
/-- what an own object's change leaves -/
theorem Le.own {H0 H K0 K : Hp} {l : Addr} {o : HO} (le : Le H0 H K0 K) (n : H l = none) (n0 : K0 l = none) : Le H0 H K0 (upd K l o) :=
  ⟨fun b u e => by rw [upd_ne (ne_of_none e n)]; exact le.s _ _ e, le.s0, fun b u e => by rw [upd_ne (ne_of_none e n0)]; exact le.w _ _ e, le.ow⟩
theorem same_own {K0 K : Hp} {l : Addr} {o : HO} (s : Same K0 K) (n0 : K0 l = none) : Same K0 (upd K l o) := fun b u e => by rw [upd_ne (ne_of_none e n0)]; exact s _ _ e
/-- from now on it never changes -/
theorem Own.freeze {H0 H K0 K : Hp} {l : Addr} {acc : List PyData} (h : Own H K0 K l acc) (le : Le H0 H K0 K) : ∃ K0', Le H0 H K0' K ∧ Same K0 K0' ∧ (∀ m, m ≠ l → K0 m = none → K0' m = none) ∧ Rep K0' (.ref l) (.list acc) := by
  obtain ⟨n, n0, xs, e, r⟩ := h
  have s0 : Same K0 (upd K0 l (.lst xs)) := fun b o z => by rw [upd_ne (ne_of_none z n0)]; exact z
  refine ⟨upd K0 l (.lst xs), ⟨le.s, le.s0.trans s0, fun b o z => ?_, fun b o z1 z2 => ?_⟩, s0, fun m hm z => by rw [upd_ne hm]; exact z, .lst upd_same (r.mono s0)⟩
  · by_cases hb : b = l
    · subst hb; rw [upd_same] at z; cases z; exact e
    · rw [upd_ne hb] at z; exact le.w _ _ z
  · rw [upd_ne (ne_of_none z1 n)]; exact le.ow b o z1 z2

theorem keep_slot {τ σ : L2.St} {vs : List Nat} {i : Nat} (h : wipe τ vs = wipe σ vs) (hi : i ∉ vs) : τ[i]? = σ[i]? := by
  have e1 : (wipe τ vs)[i]? = τ[i]? := wipe_out hi
  have e2 : (wipe σ vs)[i]? = σ[i]? := wipe_out hi
  rw [← e1, h, e2]
theorem Wd.know {H0 H : Hp} {σ : L2.St} {ρ : Env1} {i : Nat} {v : V} {d : PyData} (h : Wd H0 H σ ρ) (hσ : σ[i]? = some (some v)) (r : Rep H0 v d) : Wd H0 H σ (ρ.set i (some d)) := by
  refine ⟨h.w, by simp [h.st.len], fun j e hj => ?_⟩
  by_cases hij : i = j
  · subst hij
    by_cases hl : i < ρ.length
    · rw [List.getElem?_set_self hl] at hj
      cases hj
      exact ⟨v, hσ, r⟩
    · rw [List.getElem?_eq_none (by simpa using hl)] at hj
      cases hj
  · rw [List.getElem?_set_ne hij] at hj
    exact h.st.at_ j e hj
theorem Wd.more {H0 H0' H : Hp} {σ : L2.St} {ρ : Env1} (h : Wd H0 H σ ρ) (s : Same H0 H0') (w : Same H0' H) : Wd H0' H σ ρ := ⟨w, h.st.mono s⟩
section
variable {X : Cx} {ρ ρ1 : Env1} {e a b c tg iter elt : Expr} {es ifs : List Expr} {d : PyData} {ds : List PyData} {pos p : Pos} {st : Stmt} {sts body : List Stmt} {r : Res} {x y z : Str} {k : Nat} {H0 H : Hp} {σ : L2.St} {D : Ends}
theorem b_cons (h : wS X st { D with nx := fun σ' H' => wB X sts D σ' H' } σ H) : wB X (st :: sts) D σ H := of_pb (pss_cons ps_self pb_self) h
theorem b_nil (h : D.nx σ H) : wB X [] D σ H := of_pb pss_nil h
theorem s_of {ρ' : Env1} (h : J1 X ρ st (.fall ρ')) (w : Wd H0 H σ ρ) (q : ∀ σ' H0' H', Le H0 H H0' H' → Wd H0' H' σ' ρ' → D.nx σ' H') : wS X st D σ H := h H0 H σ D w q
/-- a plain store leaves the other slots' values -/
theorem s_set {i : Nat} {px : Pos} (hN : X.N.Nodup) (hi : X.N[i]? = some x) (hx : Loc X.env.scope x) (he : J X ρ e d) (hs : swapsWith e (some (.Name x px)) pos.line X.env = pure false) (hf : X.fn x = true ∨ X.env.scope.names.lookup x = some .local)
    (w : Wd H0 H σ ρ) (q : ∀ v H0' H', Le H0 H H0' H' → Wd H0' H' (σ.set i (some v)) (ρ.set i (some d)) → Rep H0' v d → D.nx (σ.set i (some v)) H') : wS X (.Assign [.Name x px] e pos) D σ H :=
  of_ps (ps_set hN hi hx pe_self hs hf) (he.run w fun v H1 H2 l w1 r => q v _ _ l (w1.set i r) r)
/-- x = []: an own list -/
theorem s_new {i : Nat} {px lp : Pos} (hN : X.N.Nodup) (hi : X.N[i]? = some x) (hx : Loc X.env.scope x) (hs : swapsWith (.List [] lp) (some (.Name x px)) pos.line X.env = pure false) (hf : X.fn x = true ∨ X.env.scope.names.lookup x = some .local)
    (w : Wd H0 H σ ρ) (q : ∀ l, H l = none → Le H0 H H0 (upd H l (.lst [])) → Own H H0 (upd H l (.lst [])) l [] → Wd H0 (upd H l (.lst [])) (σ.set i (some (.ref l))) (ρ.set i none) → D.nx (σ.set i (some (.ref l))) (upd H l (.lst []))) : wS X (.Assign [.Name x px] (.List [] lp) pos) D σ H :=
  of_ps (ps_set hN hi hx (pe_lst pa_nil) hs hf) ⟨Nat.zero_le _, fun l nl => by
    have n0 := w.w.free nl
    exact q l nl ((Le.refl w.w).own nl n0) ⟨nl, n0, [], upd_same, .nil⟩ ⟨same_own w.w n0, w.st.drop i _⟩⟩
/-- x.append(e) -/
theorem s_app {i : Nat} {o : Str} {l : Addr} {acc : List PyData} {apos cpos op : Pos} {He : Hp} (hN : X.N[i]? = some o) (hv : Vis X.env.scope o) (h1 : (o == ("__debug__" : Str)) = false) (h2 : (o == ("__classdict__" : Str)) = false) (he : J X ρ e d)
    (hbase : attributeBase (.Name o op) "append" X.env (eval (.Name o op) X.env) = eval (.Name o op) X.env)
    (hfew : ((backTo cpos (starEach (e :: []) X.env)).all (fun x => !x.1) && (backToKw cpos (keywordEach [] X.env)).all (fun x => x.1.isSome) && decide ((e :: []).length + ([] : List Keyword).length + (if ([] : List Keyword).isEmpty then 0 else 1) < 30)) = true)
    (hline : (apos.endLine == cpos.line) = true) (hs : starEach (e :: []) X.env = (false, eval e X.env) :: starEach [] X.env) (hplain : (backTo cpos (starEach [] X.env)).any (·.1) = false) (hsw : swapsWith (.Call (.Attribute (.Name o op) "append" apos) [e] [] cpos) none pos.line X.env = pure false)
    (w : Wd H0 H σ ρ) (hσ : σ[i]? = some (some (.ref l))) (own : Own He H0 H l acc) (hz : acc.length ≤ 100000)
    (q : ∀ K0 K ob, Le H0 H K0 K → Own He K0 (upd K l ob) l (acc ++ [d]) → Wd K0 (upd K l ob) σ ρ → D.nx σ (upd K l ob)) : wS X (.Expr (.Call (.Attribute (.Name o op) "append" apos) [e] [] cpos) pos) D σ H :=
  of_ps (ps_expr (pe_bm PySem.F.plainAttrs_list PySem.F.slot_list_append PySem.F.type_list_append mt_append (pe_var hN hv h1 h2) (pa_cons pe_self pa_nil hs) hbase hfew hline hs hplain) hsw)
    ⟨.ref l, hσ, by
      obtain ⟨_, _, xs, e1, _⟩ := id own
      exact .inl ⟨rfl, xs, SqL.of e1⟩, he.run w fun v H1 H2 le w1 r1 => by
      have own1 := own.le le
      obtain ⟨_, n0, xs, e1, r2⟩ := id own1
      refine ⟨l, xs, v, rfl, rfl, e1, Nat.lt_of_le_of_lt (by rw [r2.length]; exact hz) (by rw [sizeLine_eq]; omega), ?_⟩
      exact q H1 H2 _ le (own1.push e1 r2 r1) ⟨same_own w1.w n0, w1.st⟩⟩
/-- for target in iter: body, over an invariant of the whole state -/
theorem s_for {α : Type} {g : TG} {enc : α → PyData} {xs : List α} (hp : PassesOwn (model X.prog X.w) X.A X.env X.xe) (hc : X.calm = true) (hi : JI X ρ tg iter (xs.map enc)) (hg : PG X tg g) (hs : ∀ x, foldedSetIterable iter X.env x = pure x) (w : Wd H0 H σ ρ)
    (h : ∀ G0 G, Le H0 H G0 G → Wd G0 G σ ρ → ∃ Iv : Nat → Hp → Hp → L2.St → Prop, Iv 0 G0 G σ ∧ (∀ k K0 K τ, Iv k K0 K τ → Same G0 K0 ∧ Same K0 K) ∧
      (∀ k u K0 K τ, xs[k]? = some u → Iv k K0 K τ → ∀ v K0' K', Le K0 K K0' K' → Rep K0' v (enc u) → g v τ K' fun τ2 K2 => wB X body { D with nx := fun τ' K' => ∃ K0', Iv (k + 1) K0' K' τ', ct := fun τ' K' => ∃ K0', Iv (k + 1) K0' K' τ', bk := D.nx } τ2 K2) ∧
      (∀ K0 K τ, Iv xs.length K0 K τ → D.nx τ K)) : wS X (.For tg iter body [] pos) D σ H :=
  of_ps (ps_for hp hc pi_self hg pb_self hs) (hi H0 H σ _ w fun it H1 H2 l1 yl => by
    obtain ⟨Iv, i0, iw, turn, fin⟩ := h H1 H2 l1 (w.le l1)
    refine ⟨fun i n σ' G => n = xs.length - i ∧ i ≤ xs.length ∧ ∃ G0, Iv i G0 G σ', ⟨xs.length, by simp, Nat.zero_le _, H1, i0⟩, ?_⟩
    rintro i n σ' G ⟨rfl, hix, G0, iv⟩
    obtain ⟨s1, s2⟩ := iw i G0 G σ' iv
    obtain ⟨y1, y2⟩ := yl i G0 G s1 s2
    by_cases hlt : i < xs.length
    · right
      have hx : xs[i]? = some xs[i] := by simp [hlt]
      obtain ⟨go, yld⟩ := y2 (enc xs[i]) (by rw [List.getElem?_map, hx]; rfl)
      refine ⟨go, fun σ2 G2 => ∃ G02, Iv (i + 1) G02 G2 σ2, fun σ2 G2 p => ⟨xs.length - (i + 1), by omega, rfl, hlt, p⟩, fun v G1 hv => ?_⟩
      obtain ⟨G01, l2, rx⟩ := yld v G1 hv
      exact turn i xs[i] G0 G σ' hx iv v G01 G1 l2 rx
    · left
      have e : i = xs.length := by omega
      subst e
      exact ⟨y1 (List.length_map ..).symm, fin G0 G σ' iv⟩)
theorem s_if {l : Bool} {A B : List Stmt} (hc : JT X ρ c l) (w : Wd H0 H σ ρ) (hA : l = true → ∀ K0 K, Le H0 H K0 K → Wd K0 K σ ρ → wB X A D σ K) (hB : l = false → ∀ K0 K, Le H0 H K0 K → Wd K0 K σ ρ → wB X B D σ K) : wS X (.If c A B pos) D σ H :=
  of_ps (ps_if pt_self pb_self pb_self) (hc H0 H σ _ w fun H0' H' l1 => by
    cases l with
    | true => exact iteT (hA rfl _ _ l1 (w.le l1))
    | false => exact iteF (hB rfl _ _ l1 (w.le l1)))
end
/-- a while over states of one's own: E tells the slots, go the test's answer, step a turn, μ falls -/
def turns {S : Type} (step : S → S) : Nat → S → S
  | 0, s => s
  | n + 1, s => turns step n (step s)
theorem turns_succ {S : Type} (step : S → S) : ∀ (n : Nat) (s : S), turns step (n + 1) s = step (turns step n s)
  | 0, _ => rfl
  | n + 1, s => turns_succ step n (step s)
theorem turns_end {S : Type} {step : S → S} {go : S → Bool} {Pv : S → Prop} {μ : S → Nat} (hs : ∀ s, Pv s → go s = true → Pv (step s) ∧ μ (step s) < μ s) :
    ∀ (b : Nat) (s : S), μ s < b → Pv s → ∃ m, (∀ k, k < m → Pv (turns step k s) ∧ go (turns step k s) = true) ∧ Pv (turns step m s) ∧ go (turns step m s) = false
  | 0, _, h, _ => absurd h (Nat.not_lt_zero _)
  | b + 1, s, h, p => by
    cases hg : go s with
    | false => exact ⟨0, fun k hk => absurd hk (Nat.not_lt_zero _), p, hg⟩
    | true =>
      obtain ⟨p', l⟩ := hs s p hg
      obtain ⟨m, h1, h2, h3⟩ := turns_end hs b (step s) (by omega) p'
      refine ⟨m + 1, fun k hk => ?_, h2, h3⟩
      match k with
      | 0 => exact ⟨p, hg⟩
      | k + 1 => exact h1 k (by omega)
theorem while_on {X : Cx} {ρ : Env1} {c : Expr} {body : List Stmt} {pos : Pos} {S : Type} (E : S → Env1) (step : S → S) (go : S → Bool) (Pv : S → Prop) (μ : S → Nat) (s0 : S) (hp : PassesOwn (model X.prog X.w) X.A X.env X.xe) (h0 : Sub (E s0) ρ) (p0 : Pv s0)
    (hs : ∀ s, Pv s → go s = true → Pv (step s) ∧ μ (step s) < μ s) (test : ∀ s, Pv s → JT X (E s) c (go s)) (turn : ∀ s, Pv s → go s = true → JS X (E s) body (.fall (E (step s)))) :
    ∃ s, Pv s ∧ go s = false ∧ J1 X ρ (.While c body [] pos) (.fall (E s)) := by
  obtain ⟨m, h1, h2, h3⟩ := turns_end hs (μ s0 + 1) s0 (Nat.lt_succ_self _) p0
  refine ⟨turns step m s0, h2, h3, j1_while (fun k => E (turns step k s0)) m hp h0 (fun k hk => ?_) ?_⟩
  · obtain ⟨p, g⟩ := h1 k hk
    have t := test _ p
    rw [g] at t
    have b := turn _ p g
    rw [← turns_succ step k s0] at b
    exact ⟨t, b⟩
  · have t := test _ h2
    rw [h3] at t
    exact t
theorem js_while {X : Cx} {ρ : Env1} {c : Expr} {body rest : List Stmt} {pos : Pos} {r : Res} {S : Type} (E : S → Env1) (step : S → S) (go : S → Bool) (Pv : S → Prop) (μ : S → Nat) (s0 : S) (hp : PassesOwn (model X.prog X.w) X.A X.env X.xe) (h0 : Sub (E s0) ρ) (p0 : Pv s0)
    (hs : ∀ s, Pv s → go s = true → Pv (step s) ∧ μ (step s) < μ s) (test : ∀ s, Pv s → JT X (E s) c (go s)) (turn : ∀ s, Pv s → go s = true → JS X (E s) body (.fall (E (step s))))
    (fin : ∀ s, Pv s → go s = false → JS X (E s) rest r) : JS X ρ (.While c body [] pos :: rest) r :=
  let ⟨s, p, g, h⟩ := while_on E step go Pv μ s0 hp h0 p0 hs test turn
  js_cons h (fin s p g)
/-- a def's body at the level of states -/
theorem fn_raw {P : Program} {w : World} {K : PySem.W.Frag} {mg : Str → Option Value} {base : Heap} {x qual : Str} {st : Stmt} {f : Addr} {fd : FuncData} {N ps : List Str} {k : Nat} {R : List PyData → PyData → Prop} (F : Fun K x qual st f fd) (S : FnScope N ps (defScope st))
    (len : ∀ ds d, R ds d → ds.length = ps.length)
    (body : ∀ (cdv : Value) (A : Around) (outer : List Env) (s : Shared) (H : Hp) (E : XK), Room k (A.deeper (envOfC qual (defScope st) s.heap.objs.size f cdv)) → ∀ ds d, R ds d → ∀ H0 G σ (Q : VK), Wd H0 G σ (startE N ds) → (∀ v H0' H', Le H0 G H0' H' → Rep H0' v d → Q v H') →
      wB (cxOf CX0 P w K mg base N qual (defScope st) f cdv A outer s H E).nox (defBody st) { nx := fun _ H' => Q .non H', rt := Q } σ G) : FnOk P w K mg base CX0 (k + 1) f fd ps (SpR R) := by
  refine F.ok S (fun vs H Q E h => ?_) (fun cdv A outer s H vs Q E hr h => ?_)
  · obtain ⟨H0, ds, d, _, rl, hR, _⟩ := h
    rw [rl.length]
    exact len ds d hR
  · obtain ⟨H0, ds, d, w0, rl, hR, q⟩ := h
    have hl : ds.length ≤ N.length := by
      rw [len ds d hR]
      have z := congrArg List.length S.pre
      rw [List.length_take] at z
      omega
    exact ⟨wB _ (defBody st), pb_self, body cdv A outer s H E hr ds d hR H0 H _ Q ⟨w0, rl.starts hl⟩ q⟩
end Lv

namespace Lv
open PySem PySem.Spec PyProof.Rows L2

/-! ### short forms -/
section
variable {X : Cx} {ρ ρ1 : Env1} {e a b c tg iter elt : Expr} {es ifs : List Expr} {d : PyData} {ds : List PyData} {pos p p2 p3 tp : Pos} {st : Stmt} {sts body : List Stmt} {r : Res} {x y z : Str} {k : Nat} {ps : List Str} {R : List PyData → PyData → Prop}
theorem v' (i : Nat) (hd : ρ[i]? = some (some d) := by rfl) (hN : X.N[i]? = some x := by rfl) (hv : Vis X.env.scope x := by first | exact Or.inl rfl | exact Or.inr (Or.inl rfl) | exact Or.inr (Or.inr rfl)) (h1 : (x == ("__debug__" : Str)) = false := by decide) (h2 : (x == ("__classdict__" : Str)) = false := by decide) : J X ρ (.Name x pos) d := j_var hd hN hv h1 h2
theorem a1 (ha : J X ρ e d) (hs : starEach (e :: []) X.env = (false, eval e X.env) :: starEach [] X.env := by rfl) : JA X ρ [e] [d] := ja_cons ha ja_nil hs
theorem a2 {e2 : Expr} {d2 : PyData} (ha : J X ρ e d) (hb : JA X ρ (e2 :: es) (d2 :: ds)) (hs : starEach (e :: e2 :: es) X.env = (false, eval e X.env) :: starEach (e2 :: es) X.env := by rfl) : JA X ρ (e :: e2 :: es) (d :: d2 :: ds) := ja_cons ha hb hs
theorem c' (C : Cal X.prog X.w X.K X.mg X.base k x ps (SpR R)) (hr : Room k X.A) (ha : JA X ρ (e :: es) ds) (hR : R ds d) (hg : Gl X x := by rfl) (hdb : (x == ("__debug__" : Str)) = false := by decide)
    (he : starEach (e :: es) X.env = (false, eval e X.env) :: starEach es X.env := by rfl) (hpl : (backTo pos (starEach es X.env)).any (·.1) = false := by rfl) : J X ρ (.Call (.Name x p) (e :: es) [] pos) d := j_call C hr hg ha hR hdb he hpl
theorem isi' {T : String} {l : Bool} (d : PyData) (ha : J X ρ a d) (hl : kitB (tyD d) T = some l) (hm : X.mg "isinstance" = none) (hm2 : X.mg x = none) (hv : bootBuiltins x = some (.type T)) (hg : Gl X "isinstance" := by rfl) (hg2 : Gl X x := by rfl) (hb : bootBuiltins "isinstance" = some (.builtin "isinstance") := by decide +kernel)
    (hn : x ≠ "__name__" := by decide) (hdb : (x == ("__debug__" : Str)) = false := by decide) (h1 : starEach [a, .Name x p2] X.env = (false, eval a X.env) :: starEach [.Name x p2] X.env := by rfl) (h2 : starEach [.Name x p2] X.env = (false, eval (.Name x p2) X.env) :: starEach [] X.env := by rfl)
    (hpl : (backTo pos (starEach [.Name x p2] X.env)).any (·.1) = false := by rfl) : J X ρ (.Call (.Name "isinstance" p) [a, .Name x p2] [] pos) (.bool l) := j_isi ha hl hg hm hg2 hm2 hv hb hn hdb h1 h2 hpl
theorem ch' {i j l : Int} (ha : J X ρ a (.int i)) (hb : J X ρ b (.int j)) (hc : J X ρ c (.int l)) (hm : lastMarks [.LtE, .LtE] [b, c] = false := by with_unfolding_all rfl) : J X ρ (.Compare a [.LtE, .LtE] [b, c] pos) (.bool (decide (i ≤ j) && decide (j ≤ l))) := j_chain hm ha hb hc
theorem rg1' {j : Int} (hm : X.mg "range" = none) (h : J X ρ e (.int j)) (h1 : -100000 ≤ j) (h2 : j ≤ 100000) (hg : Gl X "range" := by rfl) (hs : starEach [e] X.env = [(false, eval e X.env)] := by rfl) : JI X ρ tg (.Call (.Name "range" p) [e] [] pos) ((rangeI 0 j.toNat).map .int) := ji_range1 hg hm h h1 h2 hs
theorem rg2' {i j : Int} (hm : X.mg "range" = none) (ha : J X ρ a (.int i)) (hb : J X ρ b (.int j)) (h1 : -100000 ≤ i) (h2 : i ≤ 100000) (h3 : -100000 ≤ j) (h4 : j ≤ 100000) (hg : Gl X "range" := by rfl)
    (hs : starEach [a, b] X.env = [(false, eval a X.env), (false, eval b X.env)] := by rfl) (hs2 : starEach [b] X.env = [(false, eval b X.env)] := by rfl) : JI X ρ tg (.Call (.Name "range" p) [a, b] [] pos) ((rangeI i (j - i).toNat).map .int) := ji_range2 hg hm ha hb h1 h2 h3 h4 hs hs2
theorem set' (i : Nat) {px : Pos} (hN : X.N.Nodup) (he : J X ρ e d) (hi : X.N[i]? = some x := by rfl) (hx : Loc X.env.scope x := by first | exact Or.inl rfl | exact Or.inr rfl) (hs : swapsWith e (some (.Name x px)) pos.line X.env = pure false := by rfl) (hf : X.fn x = true ∨ X.env.scope.names.lookup x = some .local := by first | exact .inl rfl | exact .inr rfl) :
    J1 X ρ (.Assign [.Name x px] e pos) (.fall (ρ.set i (some d))) := j1_set hN hi hx he hs hf
theorem aug' (i : Nat) {px : Pos} {op : Operator} {n m : Int} {g : Int → Int → V} {C : Int → Int → Prop} (hN : X.N.Nodup) (ho : PIp X op (rI C g)) (he : J X ρ e (.int m)) (hC : C n m) (hg : ∀ H, Rep H (g n m) d) (hv : ρ[i]? = some (some (.int n)) := by rfl) (hi : X.N[i]? = some x := by rfl)
    (hx : Loc X.env.scope x := by first | exact Or.inl rfl | exact Or.inr rfl) (hf : X.fn x = true ∨ X.env.scope.names.lookup x = some .local := by first | exact .inl rfl | exact .inr rfl) : J1 X ρ (.AugAssign (.Name x px) op e pos) (.fall (ρ.set i (some d))) := j1_aug hN hi hx hv he ho hC hg hf
theorem g' (i : Nat) (hN : X.N.Nodup) (hi : X.N[i]? = some x := by rfl) (hx : Loc X.env.scope x := by first | exact Or.inl rfl | exact Or.inr rfl) (hf : X.fn x = true ∨ X.env.scope.names.lookup x = some .local := by first | exact .inl rfl | exact .inr rfl) : PG X (.Name x pos) (gName i) := pg_name hN hi hx hf
theorem g2' (i j : Nat) {px py : Pos} {kk : Nat} (hc : X.calm = true) (hN : X.N.Nodup) (hi : X.N[i]? = some x := by rfl) (hx : Loc X.env.scope x := by first | exact Or.inl rfl | exact Or.inr rfl) (hf : X.fn x = true ∨ X.env.scope.names.lookup x = some .local := by first | exact .inl rfl | exact .inr rfl)
    (hj : X.N[j]? = some y := by rfl) (hy : Loc X.env.scope y := by first | exact Or.inl rfl | exact Or.inr rfl) (hf2 : X.fn y = true ∨ X.env.scope.names.lookup y = some .local := by first | exact .inl rfl | exact .inr rfl)
    (h1 : (assignEach [.Name x px, .Name y py] X.env).map (·.2) = assign (.Name x px) X.env :: (assignEach [.Name y py] X.env).map (·.2) := by rfl) (h2 : (assignEach [.Name y py] X.env).map (·.2) = assign (.Name y py) X.env :: (assignEach [] X.env).map (·.2) := by rfl)
    (hn : (assignEach [.Name x px, .Name y py] X.env).length = 2 := by rfl) (hst : (assignEach [.Name x px, .Name y py] X.env).findIdx? (·.1) = none := by rfl) : PG X (.Tuple [.Name x px, .Name y py] kk pos) (gTup X.K 2 (gCons (gName i) (gCons (gName j) gNil))) :=
  pg_tup hc (pgs_cons (pg_name hN hi hx hf) (pgs_cons (pg_name hN hj hy hf2) pgs_nil h2) h1) hn hst
theorem blt' {id : String} {rr : List V → Hp → VK → Prop} (hc : CallR X (.builtin id) rr) (hm : X.mg x = none) (hv : bootBuiltins x = some (.builtin id)) (ha : JA X ρ (e :: es) ds)
    (hq : ∀ H0 H vs (Q : VK), Same H0 H → RepL H0 vs ds → (∀ v H0' H', Le H0 H H0' H' → Rep H0' v d → Q v H') → rr vs H Q) (hg : Gl X x := by rfl) (hn : x ≠ "__name__" := by decide) (hdb : (x == ("__debug__" : Str)) = false := by decide)
    (he : starEach (e :: es) X.env = (false, eval e X.env) :: starEach es X.env := by rfl) (hpl : (backTo pos (starEach es X.env)).any (·.1) = false := by rfl) : J X ρ (.Call (.Name x p) (e :: es) [] pos) d := j_bltF hc hg hm hv ha hq hn hdb he hpl
theorem bty' {T : String} {rr : List V → Hp → VK → Prop} (hc : CallR X (.type T) rr) (hm : X.mg x = none) (hv : bootBuiltins x = some (.type T)) (ha : JA X ρ (e :: es) ds)
    (hq : ∀ H0 H vs (Q : VK), Same H0 H → RepL H0 vs ds → (∀ v H0' H', Le H0 H H0' H' → Rep H0' v d → Q v H') → rr vs H Q) (hg : Gl X x := by rfl) (hn : x ≠ "__name__" := by decide) (hdb : (x == ("__debug__" : Str)) = false := by decide)
    (he : starEach (e :: es) X.env = (false, eval e X.env) :: starEach es X.env := by rfl) (hpl : (backTo pos (starEach es X.env)).any (·.1) = false := by rfl) : J X ρ (.Call (.Name x p) (e :: es) [] pos) d := j_bltT hc hg hm hv ha hq hn hdb he hpl
theorem lenL' (hm : X.mg "len" = none) (ha : J X ρ e (.list ds)) (hg : Gl X "len" := by rfl) (he : starEach (e :: []) X.env = (false, eval e X.env) :: starEach [] X.env := by rfl) (hpl : (backTo pos (starEach [] X.env)).any (·.1) = false := by rfl) : J X ρ (.Call (.Name "len" p) [e] [] pos) (.int ds.length) :=
  j_bltF call_len_seq hg hm PySem.boot_len (ja_cons ha ja_nil he) q_lenL (by decide) (by decide) he hpl
theorem lenT' (hm : X.mg "len" = none) (ha : J X ρ e (.tuple ds)) (hg : Gl X "len" := by rfl) (he : starEach (e :: []) X.env = (false, eval e X.env) :: starEach [] X.env := by rfl) (hpl : (backTo pos (starEach [] X.env)).any (·.1) = false := by rfl) : J X ρ (.Call (.Name "len" p) [e] [] pos) (.int ds.length) :=
  j_bltF call_len_seq hg hm PySem.boot_len (ja_cons ha ja_nil he) q_lenT (by decide) (by decide) he hpl
/-- x[n], n written -/
theorem ix' (n : Nat) (ha : J X ρ a (.tuple ds)) (hd : ds[n]? = some d := by rfl) {j p2} (hs : PlainIx (.Constant (.int (n : Int)) j p2) := by intro _ _; rfl) : J X ρ (.Subscript a (.Constant (.int (n : Int)) j p2) pos) d := j_ixT ha j_int rfl hd hs
/-- x[i] -/
theorem ixv' {i : Int} (ha : J X ρ a (.tuple ds)) (hb : J X ρ b (.int i)) (h0 : 0 ≤ i) (hd : ds[i.toNat]? = some d) (hs : PlainIx b := by intro _ _; rfl) : J X ρ (.Subscript a b pos) d := j_ixT ha hb (Int.toNat_of_nonneg h0).symm hd hs
/-- a test by its value -/
theorem tv' {l : Bool} (h : J X ρ e (.bool l)) (he : ∀ whole, isTrue e X.env whole = (do let v ← whole; standAt e.pos; holding [v] (truthy v)) := by intro _; rfl) : JT X ρ e l := jt_val h he
theorem gl' {n : Int} (hm : ∃ t, X.mg x = some (.int n t)) (hg : Gl X x := by rfl) (hd : (x == ("__debug__" : Str)) = false := by decide) : J X ρ (.Name x pos) (.int n) := let ⟨_, h⟩ := hm; j_glob hg h hd
theorem ex' (he : J X ρ e d) (hs : swapsWith e none pos.line X.env = pure false := by rfl) : J1 X ρ (.Expr e pos) (.fall ρ) := j1_expr he hs
theorem lc' {α : Type} {scope : Scope} (own : List (Str × Nat)) {gT : TG} {enc : α → PyData} {xs : List α} {f : α → Option PyData} (hc : X.calm = true) (hN : X.N.Nodup) (hi : JI X ρ tg iter (xs.map enc)) (ok : BlkOk X.N X.env.scope scope own)
    (hg : Blk X scope fun Y => PG Y tg gT)
    (turn : ∀ x ∈ xs, ∃ ρx, JG gT (wipeE ρ (own.map (·.2))) (enc x) ρx (own.map (·.2)) ∧ Blk X scope fun Y => JTs Y ρx ifs (f x).isSome ∧ ∀ d, f x = some d → J Y ρx elt d)
    (hz : xs.length ≤ 100000) (hs : ∀ x, foldedSetIterable iter X.env x = pure x := by intro _; rfl) : J X ρ (.ListComp elt [⟨tg, iter, ifs, 0⟩] scope pos) (.list (xs.filterMap f)) := j_lc hc hN hi ok hg turn hz hs
theorem slc' {α : Type} (i : Nat) {px spos : Pos} {scope : Scope} (own : List (Str × Nat)) {gT : TG} {enc : α → PyData} {xs : List α} {f : α → Option PyData} (hc : X.calm = true) (hN : X.N.Nodup) (hi : JI X ρ tg iter (xs.map enc)) (ok : BlkOk X.N X.env.scope scope own)
    (hg : Blk X scope fun Y => PG Y tg gT)
    (turn : ∀ x ∈ xs, ∃ ρx, JG gT (wipeE ρ (own.map (·.2))) (enc x) ρx (own.map (·.2)) ∧ Blk X scope fun Y => JTs Y ρx ifs (f x).isSome ∧ ∀ d, f x = some d → J Y ρx elt d)
    (hz : xs.length ≤ 100000) (hsw : swapsWith (.ListComp elt [⟨tg, iter, ifs, 0⟩] scope pos) (some (.Name x px)) spos.line X.env = pure true) (hs : ∀ x, foldedSetIterable iter X.env x = pure x := by intro _; rfl) (hy : X.N[i]? = some x := by rfl) (hyl : X.env.scope.names.lookup x = some .local := by rfl) :
    J1 X ρ (.Assign [.Name x px] (.ListComp elt [⟨tg, iter, ifs, 0⟩] scope pos) spos) (.fall (ρ.set i (some (.list (xs.filterMap f))))) := j1_setLc hc hN hy hyl hsw hi ok hg turn hz hs
theorem par2' (i j : Nat) {px py pt : Pos} {kt k2 pt2} {d1 d2 : PyData} (hc : X.calm = true) (hN : X.N.Nodup) (hij : i ≠ j) (h1 : J X ρ a d1) (h2 : J X ρ b d2)
    (hi : X.N[i]? = some x := by rfl) (hj : X.N[j]? = some y := by rfl) (hx : X.env.scope.names.lookup x = some .local := by rfl) (hy : X.env.scope.names.lookup y = some .local := by rfl)
    (hs1 : starEach (a :: [b]) X.env = (false, eval a X.env) :: starEach [b] X.env := by rfl) (hs2 : starEach (b :: []) X.env = (false, eval b X.env) :: starEach [] X.env := by rfl)
    (hw : swappedStores [.Tuple [.Name x px, .Name y py] kt pt] (.Tuple [a, b] k2 pt2) X.env = pure (some [x, y]) := by rfl)
    (hs : swapsWithSole [.Tuple [.Name x px, .Name y py] kt pt] (.Tuple [a, b] k2 pt2) pos.line X.env = pure false := by rfl) :
    J1 X ρ (.Assign [.Tuple [.Name x px, .Name y py] kt pt] (.Tuple [a, b] k2 pt2) pos) (.fall ((ρ.set i (some d1)).set j (some d2))) := j1_par2 hc hN hi hj hij hx hy (ja_cons h1 (ja_cons h2 ja_nil hs2) hs1) hw hs
theorem asg' {g : TG} {vs : List Nat} (he : J X ρ e d) (hg : PG X tg g) (jg : JG g ρ d ρ1 vs) (hs : swapsWithSole [tg] e pos.line X.env = pure false := by rfl) (hw : swappedStores [tg] e X.env = pure none := by rfl)
    (h1 : (assignEach [tg] X.env).map (·.2) = [assign tg X.env] := by rfl) : J1 X ρ (.Assign [tg] e pos) (.fall ρ1) := j1_asg he hg jg hs hw h1
theorem app' (i : Nat) {o : Str} {l : Addr} {acc : List PyData} {apos cpos op : Pos} {He H0 H : Hp} {σ : L2.St} {D : Ends} (he : J X ρ e d) (w : Wd H0 H σ ρ) (hσ : σ[i]? = some (some (.ref l))) (own : Own He H0 H l acc) (hz : acc.length ≤ 100000)
    (q : ∀ K0 K ob, Le H0 H K0 K → Own He K0 (upd K l ob) l (acc ++ [d]) → Wd K0 (upd K l ob) σ ρ → D.nx σ (upd K l ob))
    (hN : X.N[i]? = some o := by rfl) (hv : Vis X.env.scope o := by first | exact Or.inl rfl | exact Or.inr (Or.inl rfl) | exact Or.inr (Or.inr rfl)) (h1 : (o == ("__debug__" : Str)) = false := by decide) (h2 : (o == ("__classdict__" : Str)) = false := by decide)
    (hbase : attributeBase (.Name o op) "append" X.env (eval (.Name o op) X.env) = eval (.Name o op) X.env := by rfl)
    (hfew : ((backTo cpos (starEach (e :: []) X.env)).all (fun x => !x.1) && (backToKw cpos (keywordEach [] X.env)).all (fun x => x.1.isSome) && decide ((e :: []).length + ([] : List Keyword).length + (if ([] : List Keyword).isEmpty then 0 else 1) < 30)) = true := by rfl)
    (hline : (apos.endLine == cpos.line) = true := by rfl) (hs : starEach (e :: []) X.env = (false, eval e X.env) :: starEach [] X.env := by rfl) (hplain : (backTo cpos (starEach [] X.env)).any (·.1) = false := by rfl) (hsw : swapsWith (.Call (.Attribute (.Name o op) "append" apos) [e] [] cpos) none pos.line X.env = pure false := by rfl) :
    wS X (.Expr (.Call (.Attribute (.Name o op) "append" apos) [e] [] cpos) pos) D σ H := s_app hN hv h1 h2 he hbase hfew hline hs hplain hsw w hσ own hz q
theorem new' (i : Nat) {px lp : Pos} {H0 H : Hp} {σ : L2.St} {D : Ends} (hN : X.N.Nodup) (w : Wd H0 H σ ρ) (q : ∀ l, H l = none → Le H0 H H0 (upd H l (.lst [])) → Own H H0 (upd H l (.lst [])) l [] → Wd H0 (upd H l (.lst [])) (σ.set i (some (.ref l))) (ρ.set i none) → D.nx (σ.set i (some (.ref l))) (upd H l (.lst [])))
    (hi : X.N[i]? = some x := by rfl) (hx : Loc X.env.scope x := by first | exact Or.inl rfl | exact Or.inr rfl) (hs : swapsWith (.List [] lp) (some (.Name x px)) pos.line X.env = pure false := by rfl) (hf : X.fn x = true ∨ X.env.scope.names.lookup x = some .local := by first | exact .inl rfl | exact .inr rfl) : wS X (.Assign [.Name x px] (.List [] lp) pos) D σ H := s_new hN hi hx hs hf w q
theorem count' {ns : List Int} {n : Int} {o : Expr} {apos : Pos} (ho : J X ρ o (.list (ns.map .int))) (ha : J X ρ e (.int n)) (hbase : attributeBase o "count" X.env (eval o X.env) = eval o X.env := by rfl)
    (hfew : ((backTo pos (starEach (e :: []) X.env)).all (fun x => !x.1) && (backToKw pos (keywordEach [] X.env)).all (fun x => x.1.isSome) && decide ((e :: []).length + ([] : List Keyword).length + (if ([] : List Keyword).isEmpty then 0 else 1) < 30)) = true := by rfl)
    (hline : (apos.endLine == pos.line) = true := by rfl) (hs : starEach (e :: []) X.env = (false, eval e X.env) :: starEach [] X.env := by rfl) (hplain : (backTo pos (starEach [] X.env)).any (·.1) = false := by rfl) :
    J X ρ (.Call (.Attribute o "count" apos) [e] [] pos) (.int (ns.count n : Nat)) := j_count ho ha hbase hfew hline hs hplain
end

theorem jc {X : Cx} {ρ : Env1} {e : Expr} {d d' : PyData} (j : J X ρ e d) (h : d = d') : J X ρ e d' := h ▸ j
theorem jtc {X : Cx} {ρ : Env1} {e : Expr} {k k' : Bool} (j : JT X ρ e k) (h : k = k') : JT X ρ e k' := h ▸ j
theorem ru {k m : Nat} {A : Around} (hr : Room k A) (hm : m ≤ 60 := by decide) : A.units + m < cLine := by
  have := hr.units
  omega
/-! ### fewer slots known, slot by slot -/
theorem sub_nil : Sub [] [] := Sub.refl _
theorem sub_cons {x y : Option PyData} {ρ ρ' : Env1} (h : ∀ d, x = some d → y = some d) (s : Sub ρ' ρ) : Sub (x :: ρ') (y :: ρ) :=
  ⟨congrArg (· + 1) s.1, fun i d e => by
    match i, e with
    | 0, e => simp only [List.getElem?_cons_zero, Option.some.injEq] at e ⊢; exact h d e
    | i + 1, e => simp only [List.getElem?_cons_succ] at e ⊢; exact s.2 i d e⟩
theorem sk {x : Option PyData} {ρ ρ' : Env1} (s : Sub ρ' ρ) : Sub (x :: ρ') (x :: ρ) := sub_cons (fun _ h => h) s
theorem sd {x : Option PyData} {ρ ρ' : Env1} (s : Sub ρ' ρ) : Sub (none :: ρ') (x :: ρ) := sub_cons (fun _ h => nomatch h) s
theorem se {x y : PyData} {ρ ρ' : Env1} (e : x = y) (s : Sub ρ' ρ) : Sub (some x :: ρ') (some y :: ρ) := sub_cons (fun _ h => by rw [← h, e]) s
/-! ### what isinstance says of built-in types -/
theorem ii : kitB "int" "int" = some true := by decide +kernel
theorem ib : kitB "int" "bool" = some false := by decide +kernel
theorem tt : kitB "tuple" "tuple" = some true := by decide +kernel
theorem il : kitB "int" "list" = some false := by decide +kernel
theorem tl : kitB "tuple" "list" = some false := by decide +kernel
theorem is_ : kitB "int" "str" = some false := by decide +kernel
theorem b_int : bootBuiltins "int" = some (.type "int") := by decide +kernel
theorem b_bool : bootBuiltins "bool" = some (.type "bool") := by decide +kernel
theorem b_tuple : bootBuiltins "tuple" = some (.type "tuple") := by decide +kernel
theorem b_list : bootBuiltins "list" = some (.type "list") := by decide +kernel
theorem b_str : bootBuiltins "str" = some (.type "str") := by decide +kernel

/-! ### the text -/
def top (i : Nat) : Stmt := PySem.Challenge.pw_levellers_k57_whole_webs_of_few_places.main.body.getD i (.Pass ⟨0, 0, 0, 0⟩)
/-- what the text's names are -/
structure Txt (mg : Str → Option Value) : Prop where
  isinstance : mg "isinstance" = none
  int : mg "int" = none
  bool : mg "bool" = none
  str : mg "str" = none
  tuple : mg "tuple" = none
  list : mg "list" = none
  len : mg "len" = none
  abs : mg "abs" = none
  range : mg "range" = none
  sorted : mg "sorted" = none
  set : mg "set" = none
  min : mg "min" = none
  sum : mg "sum" = none
  enumerate : mg "enumerate" = none
  places : ∃ t, mg "MOST_PLACES" = some (.int 9 t)
  roof : ∃ t, mg "MOST_ROOF" = some (.int 9 t)
  listed : ∃ t, mg "MOST_LISTED" = some (.int 3000 t)
  high : ∃ t, mg "HIGH" = some (.int 2 t)
  pairs : ∃ t, mg "MOST_PAIRS" = some (.int 300 t)
  few : ∃ t, mg "MOST_FEW" = some (.int 3 t)


/-! ### what a comprehension gathers -/
theorem fm_some {α β : Type} (g : α → β) : ∀ l : List α, l.filterMap (fun x => some (g x)) = l.map g
  | [] => rfl
  | x :: l => by
    show g x :: l.filterMap (fun x => some (g x)) = g x :: l.map g
    rw [fm_some g l]
theorem fm_if {α β : Type} (p : α → Bool) (g : α → β) : ∀ l : List α, l.filterMap (fun x => if p x = true then some (g x) else none) = (l.filter p).map g
  | [] => rfl
  | x :: l => by
    cases h : p x with
    | true =>
      rw [List.filterMap_cons, List.filter_cons_of_pos h, if_pos h, List.map_cons, ← fm_if p g l]
    | false =>
      have hn : ¬ p x = true := by rw [h]; simp
      rw [List.filterMap_cons, List.filter_cons_of_neg hn, if_neg hn, ← fm_if p g l]
/-! ### the data's forms -/
abbrev eH (h : List Int) : PyData := .tuple (h.map .int)
abbrev eE (e : Mir.Edge) : PyData := .tuple [.int e.1, .int e.2]
abbrev eW (n : Int) (es : List Mir.Edge) : PyData := .tuple [.int n, .tuple (es.map eE)]
theorem eH_get {h : List Int} {i : Int} (h0 : 0 ≤ i) (h1 : i < h.length) : (h.map PyData.int)[i.toNat]? = some (.int (Mir.ht h i)) := by
  have hl : i.toNat < h.length := by omega
  rw [List.getElem?_map, List.getElem?_eq_getElem hl]
  unfold Mir.ht
  rw [List.getD_eq_getElem?_getD, List.getElem?_eq_getElem hl]
  rfl
theorem plain_ints : ∀ h : List Int, PyData.plainAll (h.map .int) = true
  | [] => rfl
  | n :: h => by
    show (PyData.plain (.int n) && PyData.plainAll (h.map .int)) = true
    rw [plain_ints h]
    rfl
theorem plain_edges : ∀ es : List Mir.Edge, PyData.plainAll (es.map eE) = true
  | [] => rfl
  | e :: es => by
    show (PyData.plain (eE e) && PyData.plainAll (es.map eE)) = true
    rw [plain_edges es]
    rfl
theorem alike_edges (es : List Mir.Edge) : PySem.W.AllAlike (es.map eE) := PySem.W.AllAlike.of fun _ _ => rfl
theorem sortable_edges (es : List Mir.Edge) : PySem.W.Sortable (es.map eE) := PySem.W.Sortable.tuples fun _ => ⟨_, _, rfl⟩
theorem sort_edges (es : List Mir.Edge) : sortD (es.map eE) = (Mir.sortE es).map eE := by
  unfold sortD Mir.sortE
  refine (PySem.W.sort_maps eE fun a _ b _ => ?_).symm
  have h := congrFun (congrFun (PySem.W.dataLe_ii (β := Mir.Edge) Prod.fst Prod.snd) a) b
  exact h.symm
theorem depth_edge (e : Mir.Edge) : (eE e).depth = 1 := rfl
end Lv

namespace Lv
open PySem PySem.Spec PyProof.Rows L2

/-! ### enumerate over a tuple -/
abbrev tupIt (a : Addr) : Obj := { cls := .type "tuple_iterator", data := .fields #[.ref a, .int 0 0] }
abbrev enumOb (i : Addr) : Obj := { cls := .type "enumerate", data := .fields #[.none, .bool false, .ref i, rawInt 0, .none, .none] }
set_option maxHeartbeats 1000000 in
theorem meets_enumT (a : Addr) (items : Array Value) :
    Meets (Builtin.«enumerate.__new__» ⟨[.type "enumerate", .ref a], []⟩) (fun _ R s => s.heap.IsTuple a items ∧
      R (.ok (.ret (.ref (s.heap.push (tupIt a)).objs.size))) { s with heap := (s.heap.push (tupIt a)).push (enumOb s.heap.objs.size) }) :=
  .of_wp fun prog w A R s hyp => by
    obtain ⟨heap, gens, drawn, toks, os⟩ := s
    obtain ⟨isT, fin⟩ := hyp
    have sub := sub_enumerate
    have walk : ∀ {A' : Around} {E Q : Value → Shared → Prop}, Q (.ref heap.objs.size) ⟨heap.push (tupIt a), gens, drawn, toks, os⟩ → wpAny (model prog w) A' (pyIter (.ref a)) Q E ⟨heap, gens, drawn, toks, os⟩ := fun q =>
      wpAny_pyIter_tuple (s := ⟨heap, gens, drawn, toks, os⟩) isT q
    wp_walk using walk
    refine wpAny_stack_any fun st => wpAny_pure ?_
    split
    · rename_i c _ _ _ _ _
      cases (c == Value.type "enumerate") <;> (wp_walk using walk; exact ⟨_, rfl, fin⟩)
    · wp_walk using walk
      exact ⟨_, rfl, fin⟩
theorem call_enumT {prog : Program} {w : World} {A : Around} {E : Value → Shared → Prop} {s : Shared} {a : Addr} {items : Array Value} {Q : Value → Shared → Prop} (isT : s.heap.IsTuple a items)
    (q : ∀ h', IsEnum h' (s.heap.objs.size + 1) s.heap.objs.size 0 .none → h'.IsTupleIter s.heap.objs.size a 0 → (∀ b o, s.heap.get? b = some o → h'.get? b = some o) → Q (.ref (s.heap.objs.size + 1)) { s with heap := h' }) :
    wpAny (model prog w) A (call (.type "enumerate") [.ref a]) Q E s := by
  refine callType_new F.called_enumerate (by decide) (F.typeCall_enumerate_1 _) (F.newCall_enumerate_1 _) (fun obj => F.args_object_init_2 obj _) F.entry_enumerate_new (meets_enumT a items) ⟨isT, ?_⟩
  have one : (s.heap.push (tupIt a)).objs.size = s.heap.objs.size + 1 := Heap.size_push ..
  have made := Heap.get?_push_size (s.heap.push (tupIt a)) (o := enumOb s.heap.objs.size) rfl
  show _ ∧ _
  rw [one] at made ⊢
  exact ⟨⟨_, made, rfl⟩, q _ made ⟨_, Heap.get?_push_of_some _ (Heap.get?_push_size _ rfl), rfl, rfl⟩ fun b o x => Heap.get?_push_of_some _ (Heap.get?_push_of_some _ x)⟩

/-- the tuple at a, its items in new pairs with their places -/
def ItE (K : PySem.W.Frag) (a : Addr) : It where
  go := fun i H => ∃ (xs : List V) (x : V), SqT K H a xs ∧ xs[i]? = some x
  yld := fun i H v H' => ∃ T x, v = .ref T ∧ H T = none ∧ H' = upd H T (.tup [.int (i : Nat), x]) ∧ ∀ xs, SqT K H a xs → xs[i]? = some x
  stop := fun i H => ∃ xs : List V, SqT K H a xs ∧ i = xs.length
theorem turn_enumT {P : Program} {w : World} {K : PySem.W.Frag} {elts : List Expr} {kk : Nat} {tpos : Pos} (a e it : Addr) :
    Turn P w K (.Tuple elts kk tpos) (ItE K a) [e, it] e (fun i h => (∃ old, IsEnum h e it ((i : Nat) : Int) old) ∧ h.IsTupleIter it a i ∧ e ≠ it ∧ a ≠ it ∧ a ≠ e) := by
  refine ⟨by simp, fun i h st b hb => ?_, fun i h h' st k => ?_, fun X hP hw hK hc i pins s σ H E I hf st hg => ?_, fun X hP hw hK hc i pins s σ H E I hf st hg => ?_, fun A i s Q E st h => let ⟨⟨_, he⟩, _⟩ := st; wpAny_pyIter_enum he h⟩
  · obtain ⟨⟨old, he⟩, ⟨o, ho, _, hd⟩, _⟩ := st
    simp only [List.mem_cons, List.not_mem_nil, or_false] at hb
    rcases hb with rfl | rfl
    · exact ⟨_, he, fun v q => nomatch q⟩
    · exact ⟨o, ho, fun v q => by rw [hd] at q; cases q⟩
  · obtain ⟨⟨old, he⟩, hi, n1, n2, n3⟩ := st
    exact ⟨⟨old, k e (by simp) _ he⟩, hi.at fun o q => k it (by simp) o q, n1, n2, n3⟩
  · subst hP hw hK
    obtain ⟨⟨old, he⟩, hit, n1, n2, n3⟩ := st
    obtain ⟨xs, x, hq, hx⟩ := hg
    obtain ⟨its, rv, tup, _⟩ := I.tuple hq
    obtain ⟨u, hu, ru⟩ := rv.get hx
    have lte : e < s.heap.objs.size := Heap.lt_size he
    have lti : it < s.heap.objs.size := let ⟨_, q, _⟩ := hit; Heap.lt_size q
    have hi : i < its.toArray.size := by simpa using (List.getElem?_eq_some_iff.mp hu).1
    have hh : X.A.in1.handled = none := I.ok.hd hc
    refine wpAny_pyNext_enum_itemC (Draws.tuple hh it a n2 its.toArray) he ⟨hit, tup⟩ hi n1 (by simp only [List.mem_cons, List.not_mem_nil, or_false, not_or]; exact ⟨n1, n3.symm⟩) fun x' h' tk hx' ho st' hT hsz hk => ?_
    have ex : x' = u := by
      have h2 : its[i]? = some x' := by simpa using hx'
      rw [hu] at h2
      exact (Option.some.inj h2).symm
    subst ex
    refine ⟨_, rfl, wpAny_letOwnedTupleGo_enum (s := { s with heap := h', toks := tk + 1 }) ho fun h'' he' sb => ?_⟩
    have hT2 := (sb.2 _ (Nat.ne_of_gt lte)).trans hT
    have ob : ObjOk X.prog X.w (upd H s.heap.objs.size (.tup [.int (i : Nat), x])) h'' s.heap.objs.size (.tup [.int (i : Nat), x]) :=
      ⟨small (by simp), [.int i tk, x'], .cons ⟨_, rfl⟩ (.cons ru .nil), ⟨_, hT2, rfl, _, rfl⟩⟩
    have I1 : Inv X pins σ (upd H s.heap.objs.size (.tup [.int (i : Nat), x])) { s with heap := h'', toks := tk + 1 } :=
      I.turnedNew (ch := [e, it]) (fun b o hb q => (sb.2 b (fun z => hb (by simp [z]))).trans (hk b o (fun z => hb (by simp [z])) (fun z => hb (by simp [z])) q)) hf (Nat.le_refl _) ob
    refine ⟨.ref s.heap.objs.size, _, I1, rfl, ⟨_, x, rfl, I.hok.fresh (Nat.le_refl _), rfl, fun ys hy => by rw [I.tuple_inj hy hq]; exact hx⟩, ⟨⟨x', ?_⟩, st'.1.at fun o q => (sb.2 it n1.symm).trans q, n1, n2, n3⟩, fun b hb => ?_⟩
    · have e1 : ((i + 1 : Nat) : Int) = (i : Int) + 1 := by omega
      rw [e1]
      exact he'
    · have lt : b < s.heap.objs.size := by
        simp only [List.mem_cons, List.not_mem_nil, or_false] at hb
        rcases hb with rfl | rfl
        · exact lte
        · exact lti
      rw [upd_ne (Nat.ne_of_lt lt)]
      exact (hf b hb).1
  · subst hP hw hK
    obtain ⟨⟨old, he⟩, hit, n1, n2, n3⟩ := st
    obtain ⟨xs, hq, hx⟩ := hg
    obtain ⟨its, rv, tup, _⟩ := I.tuple hq
    obtain ⟨f0, f1, f2, f3, f4, f5⟩ := hf it (by simp)
    have hl := rv.length
    have hh : X.A.in1.handled = none := I.ok.hd hc
    have hn : i = its.toArray.size := by
      rw [List.size_toArray]
      omega
    subst hn
    refine wpAny_pyNext_enum_endD (Draws.tuple hh it a n2 its.toArray) he ⟨hit, tup⟩ fun h' eb => ⟨rfl, I.turned (t' := s.toks) (fun b o hb q => eb b o hb q) f0 f1 f3 f4 f5⟩
theorem pi_enumT {X : Cx} {e : Expr} {te : TE} {p pos tpos : Pos} {elts : List Expr} {kk : Nat} (hg : Gl X "enumerate") (hm : X.mg "enumerate" = none) (he : PE X e te) (hs : starEach [e] X.env = [(false, eval e X.env)]) :
    PI X (.Tuple elts kk tpos) (.Call (.Name "enumerate" p) [e] [] pos) (fun σ H R => te σ H fun v H1 => ∃ a xs, v = .ref a ∧ SqT X.K H1 a xs ∧ R (ItE X.K a) H1) := by
  refine ⟨fun pins s σ H R I h => ?_⟩
  refine Call_ (ld_blt I hg hm boot_enumerate (PyProof.Rows.callWith_type1 (thn ((pa_cons he pa_nil hs).run pos pins s σ H (fun vs H1 => match vs with
    | [v] => ∃ a xs, v = .ref a ∧ SqT X.K H1 a xs ∧ R (ItE X.K a) H1
    | _ => False) I h) fun us s1 ⟨vs, H1, I1, r1, q1⟩ => ?_) hs rfl))
  match vs, r1, q1 with
  | [v], r1, q1 =>
    obtain ⟨a, xs, rfl, hq, q⟩ := q1
    cases r1 with
    | cons r rr =>
      cases rr
      cases r
      obtain ⟨its, rv, tup, _⟩ := I1.tuple hq
      have lta : a < s1.heap.objs.size := tup.lt
      refine call_enumT tup fun h' hen hit hk => wpAny_pyIter_enum hen ?_
      refine ⟨s1.heap.objs.size + 1, [s1.heap.objs.size + 1, s1.heap.objs.size], _, _, H1, rfl, I1.kept (t' := s1.toks) hk, turn_enumT a (s1.heap.objs.size + 1) s1.heap.objs.size, ⟨⟨.none, hen⟩, hit, Nat.succ_ne_self _, Nat.ne_of_lt lta, Nat.ne_of_lt (Nat.lt_succ_of_lt lta)⟩, fun b hb => ?_, q⟩
      have le : s1.heap.objs.size ≤ b := by
        simp only [List.mem_cons, List.not_mem_nil, or_false] at hb
        rcases hb with rfl | rfl
        · exact Nat.le_succ _
        · exact Nat.le_refl _
      exact I1.fpOk le (I1.hok.fresh le)

/-- pairs of a place and the item there -/
def placed (ds : List PyData) : List PyData := ds.zipIdx.map fun p => .tuple [.int (p.2 : Nat), p.1]
theorem placed_get {ds : List PyData} {i : Nat} {d : PyData} (h : ds[i]? = some d) : (placed ds)[i]? = some (.tuple [.int (i : Nat), d]) := by
  unfold placed
  rw [List.getElem?_map, List.getElem?_zipIdx, h]
  simp
theorem placed_length (ds : List PyData) : (placed ds).length = ds.length := by simp [placed]
theorem ji_enum {X : Cx} {ρ : Env1} {e : Expr} {ds : List PyData} {p pos tpos : Pos} {elts : List Expr} {kk : Nat} (hm : X.mg "enumerate" = none) (h : J X ρ e (.tuple ds)) (hg : Gl X "enumerate" := by rfl) (hs : starEach [e] X.env = [(false, eval e X.env)] := by rfl) :
    JI X ρ (.Tuple elts kk tpos) (.Call (.Name "enumerate" p) [e] [] pos) (placed ds) := fun H0 H σ R w q =>
  of_pi (pi_enumT hg hm pe_self hs) (h.run w fun v H1 H2 l w1 r1 => by
    obtain ⟨a, xs, rfl, ha, rl⟩ := rep_tup r1
    refine ⟨a, xs, rfl, SqT.of (w1.w _ _ ha), q _ _ _ l fun i G0 G s1 s2 => ⟨fun hi => ⟨xs, SqT.of (s2 _ _ (s1 _ _ ha)), by rw [rl.length, hi, placed_length]⟩, fun d hd => ?_⟩⟩
    have hl : i < ds.length := by
      have := (List.getElem?_eq_some_iff.mp hd).1
      rwa [placed_length] at this
    have hi : ds[i]? = some ds[i] := List.getElem?_eq_getElem hl
    rw [placed_get hi] at hd
    cases hd
    obtain ⟨v, hv, rv⟩ := rl.at hi
    refine ⟨⟨xs, v, SqT.of (s2 _ _ (s1 _ _ ha)), hv⟩, fun y H' hy => ?_⟩
    obtain ⟨t, x, rfl, nt, rfl, hx⟩ := hy
    have e := hx xs (SqT.of (s2 _ _ (s1 _ _ ha)))
    rw [hv] at e
    cases e
    have le := Le.new (o := .tup [.int (i : Nat), v]) s2 nt
    exact ⟨_, le, .tup upd_same (.cons (.int _) (.cons (rv.mono (s1.trans le.s0)) .nil))⟩)
end Lv

namespace Lv
open PySem PySem.Spec PyProof.Rows L2

/-! ### set(xs) of a list, by what the update's loop does -/
abbrev emptySet (w : World) : Obj := { cls := .type "set", dict := none, data := .set #[] 0 (.fresh 0 0 (!w.params.followText "set-order")) }
abbrev listIt (l : Addr) : Obj := { cls := .type "list_iterator", data := .fields #[.ref l, .int 0 0] }
section
variable {P : Program} {w : World} {A : Around} {E : Value → Shared → Prop} {s : Shared}
set_option maxHeartbeats 3200000 in
theorem set_of_list {l : Addr} {items : Array Value} {Q : Value → Shared → Prop} (isL : s.heap.IsList l items) (Z : Heap → Prop)
    (loop : ∀ R : Result → Shared → Prop, (∀ h' tk, Z h' → (∀ b o, s.heap.get? b = some o → h'.get? b = some o) → R (.ok (.ret .none)) { s with heap := h', toks := tk }) →
      codeAny (model P w) A.in1.in1 (.builtin "set.update.loop" ⟨[.ref s.heap.objs.size, .ref (s.heap.push (emptySet w)).objs.size], []⟩) R { s with heap := (s.heap.push (emptySet w)).push (listIt l) })
    (q : ∀ h' tk, Z h' → (∀ b o, s.heap.get? b = some o → h'.get? b = some o) → Q (.ref s.heap.objs.size) { s with heap := h', toks := tk }) : wpAny (model P w) A (call (.type "set") [.ref l]) Q E s := by
  obtain ⟨mroHead, mroTail, hmro⟩ := F.called_set.mro
  have isMade := F.called_set.made
  have subSet := F.called_set.sub
  apply wpAny_call
  apply codeAny_of_tree
  show wpAny _ _ (callAny (.type "set") _) _ _ _
  apply wpAny_pure
  refine ⟨Code.quiet_builtin _ (by decide +kernel), codeAny_builtin F.entry_type_call ?_⟩
  rw [Around.under_plain (weight_type_call_type "set" [.ref l] []) rfl]
  have c1 := F.called_set.notType
  have c2 := F.called_set.canCreate
  have c3 := F.typeCall_set_1 (.ref l)
  repeat (any_goals (first | assumption | wp_step))
  have step1 := code_set_led1 (P := P) (w := w) (A := A.in1) (E := E) (s := s) (.ref l) (Q₁ := fun ob s₁ => ob = .ref s.heap.objs.size ∧ s₁ = { s with heap := s.heap.push (emptySet w) }) ⟨rfl, rfl⟩
  refine codeAny_mono step1 fun res s₁ hres => ?_
  match res, hres with
  | .error e, hres => exact hres
  | .ok (.ret ob), hres =>
    obtain ⟨rfl, rfl⟩ := hres
    have atS : (s.heap.push (emptySet w)).get? s.heap.objs.size = some (emptySet w) := Heap.get?_push_size _ rfl
    have tyS : Shared.TypeIs { s with heap := s.heap.push (emptySet w) } (.ref s.heap.objs.size) "set" := ⟨_, atS, rfl⟩
    have i1 := F.called_set.init.lookup
    have i2 := F.called_set.init.bind (.ref s.heap.objs.size)
    repeat (any_goals (first | assumption | wp_step))
    have step2 : codeAny (model P w) A.in1 (.call (.builtin "set.__init__") ⟨[.ref s.heap.objs.size, .ref l], []⟩)
        (wants (fun r s₂ => r = .none ∧ ∃ h' tk, s₂ = { s with heap := h', toks := tk } ∧ Z h' ∧ ∀ b o, s.heap.get? b = some o → h'.get? b = some o) E) { s with heap := s.heap.push (emptySet w) } := by
      refine codeAny_call_builtin F.called_set.init.plain F.entry_set_init (check_set_init_1 tyS ?_)
      obtain ⟨⟨oc, od, odat, osl⟩, hol, hcl, cnt, hdat⟩ := id isL
      dsimp only at hcl hdat
      subst hcl hdat
      have atL : (s.heap.push (emptySet w)).get? l = some { cls := .type "list", dict := od, data := .seq items cnt, slots := osl } := Heap.get?_push_of_some _ hol
      have k1 := F.sub_list_set
      have k2 := F.sub_list_frozenset
      have k3 : (Value.type "list" == Value.type "dict") = false := by decide
      have isL1 : (s.heap.push (emptySet w)).IsList l items := ⟨_, atL, rfl, cnt, rfl⟩
      unfold Builtin.«set.__init__» noKeywords Builtin.Frozenset.updateFrom
      generalize hit : pyIter = iterate
      wp_walk
      subst hit
      refine wpAny_pyIter_list isL1 ?_
      apply wpAny_bind
      apply wpAny_runValue
      refine loop _ fun h' tk z kept => ?_
      show wpAny _ _ _ _ _ _
      apply wpAny_pure
      show wpAny _ _ (ret Value.none) _ _ _
      exact wpAny_pure ⟨rfl, h', tk, rfl, z, kept⟩
    refine codeAny_mono step2 fun res2 s₂ hres2 => ?_
    match res2, hres2 with
    | .error e, hres2 => exact hres2
    | .ok (.ret r), hres2 =>
      obtain ⟨rfl, h', tk, rfl, z, kept⟩ := hres2
      repeat (any_goals (first | assumption | wp_step))
      exact q _ _ z kept
    | .ok .next, hres2 => exact hres2.elim
    | .ok .brk, hres2 => exact hres2.elim
    | .ok .cont, hres2 => exact hres2.elim
  | .ok .next, hres => exact hres.elim
  | .ok .brk, hres => exact hres.elim
  | .ok .cont, hres => exact hres.elim
end
end Lv

namespace Lv
open PySem PySem.Spec PyProof.Rows L2
section
variable {X : Cx}
/-- set(xs), xs a list of ints -/
def rSetI (K : PySem.W.Frag) (w : World) : List V → Hp → VK → Prop := fun vs H Q => ∃ (a : Addr) (ns : List Int), vs = [V.ref a] ∧ SqL K H a (ns.map V.int) ∧ ns.length ≤ 1000 ∧
  ∀ p c, H p = none → c ≤ ns.length → Q (.ref p) (upd H p (SetO w p (fun j => decide (j ∈ ns)) c))
theorem cr_setI (hc : X.calm = true) : CallR X (.type "set") (rSetI X.K X.w) := by
  intro pins s σ H vs us Q I rv h
  obtain ⟨a, ns, rfl, hl, hz, q⟩ := h
  obtain ⟨u, rfl, rx⟩ := vals1 rv
  cases (show u = Value.ref a from rx)
  obtain ⟨its, r, pl, _⟩ := I.list hl
  have hints : IntsAre its ns := by
    have go : ∀ (ns : List Int) (its : List Value), Vals (ns.map V.int) its → IntsAre its ns := by
      intro ns
      induction ns with
      | nil => intro its r; cases r; exact .nil
      | cons n ns ih =>
        intro its r
        cases r with
        | cons r t =>
          obtain ⟨tk, rfl⟩ := r
          exact .cons n tk (ih _ t)
    exact go ns its r
  have hlen : its.toArray.size = ns.length := by rw [List.size_toArray, ← r.length, List.length_map]
  have hn : H s.heap.objs.size = none := I.hok.fresh (Nat.le_refl _)
  have lta : a < s.heap.objs.size := let ⟨o, ho, _⟩ := pl.isList; Heap.lt_size ho
  have one : (s.heap.push (emptySet X.w)).objs.size = s.heap.objs.size + 1 := Heap.size_push ..
  refine set_of_list (P := X.prog) (w := X.w) pl.isList (fun h' => ∃ c, c ≤ ns.length ∧ SetR X.w h' s.heap.objs.size (fun j => decide (j ∈ ns)) c) (fun R hR => ?_) fun h' tk z kept => ?_
  · have hh : X.A.in1.in1.in1.handled = none := I.ok.hd hc
    have neI : a ≠ (s.heap.push (emptySet X.w)).objs.size := by rw [one]; exact Nat.ne_of_lt (Nat.lt_succ_of_lt lta)
    have notin : s.heap.objs.size ∉ [(s.heap.push (emptySet X.w)).objs.size, a] := by
      rw [one]
      simp only [List.mem_cons, List.not_mem_nil, or_false, not_or]
      exact ⟨Nat.ne_of_lt (Nat.lt_succ_self _), Nat.ne_of_gt lta⟩
    have fresh : ((s.heap.push (emptySet X.w)).push (listIt a)).get? s.heap.objs.size = some (emptySet X.w) := Heap.get?_push_of_some _ (Heap.get?_push_size _ rfl)
    refine set_update_ints ((Walks.list hh _ a neI its.toArray).toS) s.heap.objs.size notin ns hlen (by show ns.length + 1 < 4096; omega) (fun i v hv => ?_) (its.toArray.size - 0) 0 _ rfl (Nat.zero_le _)
      ⟨⟨_, Heap.get?_push_size _ rfl, rfl, rfl⟩, (pl.isList.push _).push _⟩ ⟨0, Nat.le_refl 0, setR_new_at fresh⟩ fun s' c hm hcn hS => ?_
    · have hi : i < ns.length := by rw [← hlen]; exact (Array.getElem?_eq_some_iff.mp hv).1
      obtain ⟨t, e⟩ := PyProof.Rows.IntsAre.int_at hints i v (by simpa using hv)
      refine ⟨ns[i], t, List.getElem?_eq_getElem hi, ?_⟩
      rw [e, List.getD_eq_getElem?_getD, List.getElem?_eq_getElem hi]
      rfl
    · obtain ⟨h', g', d', tk', os'⟩ := s'
      obtain rfl : g' = s.gens := hm.gens
      obtain rfl : d' = s.drawn := hm.drawn
      obtain rfl : os' = s.os := hm.os
      rw [hlen] at hcn
      refine hR h' tk' ⟨c, hcn, hS⟩ fun b o e => ?_
      have lb := Heap.lt_size e
      exact hm.heap b o (by
        simp only [List.mem_cons, List.not_mem_nil, or_false, not_or]
        exact ⟨Nat.ne_of_lt lb, by rw [one]; exact Nat.ne_of_lt (Nat.lt_succ_of_lt lb)⟩) (Heap.get?_push_of_some _ (Heap.get?_push_of_some _ e))
  · obtain ⟨c, hcn, hS⟩ := z
    exact ⟨.ref s.heap.objs.size, _, I.laid (t' := tk) kept (Nat.le_refl _) (setO_new hS), rfl, q _ c hn hcn⟩

section
variable {ρ : Env1} {e : Expr} {pos p p2 q2 : Pos}
/-- sorted(set(xs)) of ints -/
theorem j_sortSetI {ns : List Int} (hc : X.calm = true) (ha : J X ρ e (.list (ns.map .int))) (hz : ns.length < 64) (hm1 : X.mg "sorted" = none) (hm2 : X.mg "set" = none) (hg1 : Gl X "sorted" := by rfl) (hg2 : Gl X "set" := by rfl)
    (h1 : starEach (e :: []) X.env = (false, eval e X.env) :: starEach [] X.env := by rfl) (h2 : (backTo q2 (starEach [] X.env)).any (·.1) = false := by rfl)
    (h3 : starEach (.Call (.Name "set" p2) [e] [] q2 :: []) X.env = (false, eval (.Call (.Name "set" p2) [e] [] q2) X.env) :: starEach [] X.env := by rfl) (h4 : (backTo pos (starEach [] X.env)).any (·.1) = false := by rfl) :
    J X ρ (.Call (.Name "sorted" p) [.Call (.Name "set" p2) [e] [] q2] [] pos) (.list ((Mir.sd Mir.ltI ns).map .int)) := fun H0 H σ Q w q =>
  of_pe (pe_callB (cr_sortedSet hc) hg1 hm1 (by decide +kernel) (pa_cons (pe_callTy (cr_setI hc) hg2 hm2 boot_set (pa_cons pe_self pa_nil h1) (by decide) (by decide) h1 h2) pa_nil h3) (by decide) (by decide) h3 h4)
    (ha.run w fun v H1 H2 l1 w1 r1 => by
      obtain ⟨a, xs, rfl, hA, rl⟩ := rep_lst r1
      have ex := rep_ints rl
      subst ex
      refine ⟨a, ns, rfl, SqL.of (w1.w _ _ hA), by omega, fun s c ns' hc' => ?_⟩
      have ns0 : H1 s = none := w1.w.free ns'
      have le1 : Le H1 H2 H1 (upd H2 s (SetO X.w s (fun j => decide (j ∈ ns)) c)) := (Le.refl w1.w).own ns' ns0
      refine ⟨s, _, c, rfl, upd_same, by omega, fun ms l hpw hmem hlen hl => ?_⟩
      have hms : ms = Mir.sd Mir.ltI ns := Mir.sd_unique Mir.sloI (hpw.imp fun h => decide_eq_true h) fun x => by rw [hmem x, decide_eq_true_eq]
      have le2 := Le.new (o := .lst (ms.map V.int)) le1.w hl
      exact q _ _ _ (l1.trans (le1.trans le2)) (.lst upd_same (by rw [hms]; exact ints_rep _)))
/-- what the pairs' own lists are -/
abbrev pairL (e : Mir.Edge) : List Int := [e.1, e.2]
theorem sorted_pairs {es : List Mir.Edge} (hb : ∀ e ∈ es, (0 ≤ e.1 ∧ e.1 < 64) ∧ (0 ≤ e.2 ∧ e.2 < 64)) {L : List (Addr × List Int)} (nd : (L.map (·.2)).Nodup) (pw : L.Pairwise fun q r => TS.code 64 q.2 ≤ TS.code 64 r.2) (h1 : ∀ p ∈ L, ∃ e ∈ es, p.2 = pairL e) (h2 : ∀ e ∈ es, pairL e ∈ L.map (·.2)) :
    L.map (·.2) = (Mir.sd Mir.ltE es).map pairL := by
  obtain ⟨ms, hms⟩ : ∃ ms : List Mir.Edge, L.map (·.2) = ms.map pairL := by
    clear pw nd h2
    induction L with
    | nil => exact ⟨[], rfl⟩
    | cons p L ih =>
      obtain ⟨ms, hm⟩ := ih fun q hq => h1 q (List.mem_cons_of_mem _ hq)
      obtain ⟨e, _, he⟩ := h1 p List.mem_cons_self
      exact ⟨e :: ms, by rw [List.map_cons, List.map_cons, hm, he]⟩
  have inj : ∀ {a b : Mir.Edge}, pairL a = pairL b → a = b := fun {a b} h => by
    simp only [pairL, List.cons.injEq, and_true] at h
    exact Prod.ext h.1 h.2
  have hmem : ∀ x, x ∈ ms ↔ x ∈ es := fun x => by
    have e1 : x ∈ ms ↔ pairL x ∈ ms.map pairL := by
      rw [List.mem_map]
      exact ⟨fun h => ⟨x, h, rfl⟩, fun ⟨y, hy, e⟩ => inj e ▸ hy⟩
    rw [e1, ← hms]
    constructor
    · intro h
      obtain ⟨p, hp, ep⟩ := List.mem_map.mp h
      obtain ⟨e, he, ee⟩ := h1 p hp
      have := inj (ep.symm.trans ee)
      rw [this]
      exact he
    · exact h2 x
  have hpw : ms.Pairwise fun a b => Mir.ltE a b = true := by
    have p1 : (L.map (·.2)).Pairwise fun a b => TS.code 64 a ≤ TS.code 64 b := by
      rw [List.pairwise_map]
      exact pw
    rw [hms] at p1 nd
    have p2 := List.pairwise_map.mp p1
    have p3 : ms.Pairwise fun a b => pairL a ≠ pairL b := List.pairwise_map.mp nd
    refine List.Pairwise.imp_of_mem (fun {a b} ha hb' h => ?_) (p2.and p3)
    have ba := hb a ((hmem a).mp ha)
    have bb := hb b ((hmem b).mp hb')
    exact decide_eq_true (pair_lt h.1 h.2 ba.1 ba.2 bb.1 bb.2)
  rw [hms, Mir.sd_unique Mir.sloE hpw hmem]
theorem rep_pairs {H : Hp} : ∀ {vs : List V} {es : List Mir.Edge}, RepL H vs (es.map eE) → ∃ ks : List (Addr × List Int), vs = ks.map (fun p => V.ref p.1) ∧ ks.map (·.2) = es.map pairL ∧ ∀ p ∈ ks, H p.1 = some (.tup (p.2.map V.int))
  | _, [], .nil => ⟨[], rfl, rfl, fun p hp => by cases hp⟩
  | _, e :: es, .cons r t => by
    obtain ⟨a, xs, rfl, ha, rl⟩ := rep_tup r
    have ex := rep_ints (ns := [e.1, e.2]) rl
    subst ex
    obtain ⟨ks, h1, h2, h3⟩ := rep_pairs t
    refine ⟨(a, pairL e) :: ks, by rw [h1]; rfl, by rw [List.map_cons, List.map_cons, h2], fun p hp => ?_⟩
    rcases List.mem_cons.mp hp with rfl | hp
    · exact ha
    · exact h3 p hp
theorem pairs_rep {H : Hp} : ∀ {L : List (Addr × List Int)} {es : List Mir.Edge}, (∀ p ∈ L, H p.1 = some (.tup (p.2.map V.int))) → L.map (·.2) = es.map pairL → RepL H (L.map fun q => V.ref q.1) (es.map eE)
  | [], [], _, _ => .nil
  | [], _ :: _, _, h => by cases h
  | _ :: _, [], _, h => by cases h
  | p :: L, e :: es, h, he => by
    simp only [List.map_cons, List.cons.injEq] at he
    refine .cons ?_ (pairs_rep (fun q hq => h q (List.mem_cons_of_mem _ hq)) he.2)
    have hp := h p List.mem_cons_self
    rw [he.1] at hp
    exact .tup hp (.cons (.int _) (.cons (.int _) .nil))
/-- sorted(set(xs)) of pairs of small ints -/
theorem j_sortSetE {es : List Mir.Edge} (hc : X.calm = true) (hu : X.A.units + 64 < cLine) (ha : J X ρ e (.list (es.map eE))) (hz : es.length < 64) (hb : ∀ e ∈ es, (0 ≤ e.1 ∧ e.1 < 64) ∧ (0 ≤ e.2 ∧ e.2 < 64)) (hm1 : X.mg "sorted" = none) (hm2 : X.mg "set" = none) (hg1 : Gl X "sorted" := by rfl) (hg2 : Gl X "set" := by rfl)
    (h1 : starEach (e :: []) X.env = (false, eval e X.env) :: starEach [] X.env := by rfl) (h2 : (backTo q2 (starEach [] X.env)).any (·.1) = false := by rfl)
    (h3 : starEach (.Call (.Name "set" p2) [e] [] q2 :: []) X.env = (false, eval (.Call (.Name "set" p2) [e] [] q2) X.env) :: starEach [] X.env := by rfl) (h4 : (backTo pos (starEach [] X.env)).any (·.1) = false := by rfl) :
    J X ρ (.Call (.Name "sorted" p) [.Call (.Name "set" p2) [e] [] q2] [] pos) (.list ((Mir.sd Mir.ltE es).map eE)) := fun H0 H σ Q w q =>
  of_pe (pe_callB (cr_sortedT hc) hg1 hm1 (by decide +kernel) (pa_cons (pe_callTy (cr_setOfT hc hu) hg2 hm2 boot_set (pa_cons pe_self pa_nil h1) (by decide) (by decide) h1 h2) pa_nil h3) (by decide) (by decide) h3 h4)
    (ha.run w fun v H1 H2 l1 w1 r1 => by
      obtain ⟨a, xs, rfl, hA, rl⟩ := rep_lst r1
      obtain ⟨ks, rfl, hks, hkt⟩ := rep_pairs rl
      have hlen : ks.length = es.length := by
        have := congrArg List.length hks
        simpa using this
      have kE : ∀ p ∈ ks, ∃ e ∈ es, p.2 = pairL e := fun p hp => by
        have : p.2 ∈ es.map pairL := by rw [← hks]; exact List.mem_map.mpr ⟨p, hp, rfl⟩
        obtain ⟨e, he, ee⟩ := List.mem_map.mp this
        exact ⟨e, he, ee.symm⟩
      refine ⟨a, ks, rfl, SqL.of (w1.w _ _ hA), fun p hp => SqT.of (w1.w _ _ (hkt p hp)), by omega, fun s L ns' hL1 hL2 => ?_⟩
      have le1 : Le H1 H2 H1 (upd H2 s (SetTO X.prog X.w s L)) := (Le.refl w1.w).own ns' (w1.w.free ns')
      refine ⟨s, L, 2, 64, rfl, upd_same, fun p hp => SqT.of (le1.w _ _ (hkt p (hL1 p hp))), by decide, fun p hp => ?_, fun L' l pm nd few pw nl => ?_⟩
      · obtain ⟨e, he, ee⟩ := kE p (hL1 p hp)
        rw [ee]
        refine ⟨rfl, fun m hm => ?_⟩
        have := hb e he
        simp only [pairL, List.mem_cons, List.not_mem_nil, or_false] at hm
        rcases hm with rfl | rfl
        · exact this.1
        · exact this.2
      · have hL' := sorted_pairs (es := es) hb nd pw (fun p hp => kE p (hL1 p (pm.mem_iff.mp hp))) fun e he => by
          have : pairL e ∈ ks.map (·.2) := by rw [hks]; exact List.mem_map.mpr ⟨e, he, rfl⟩
          obtain ⟨p, hp, ep⟩ := List.mem_map.mp this
          rw [← ep]
          exact (pm.map (·.2)).mem_iff.mpr (hL2 p hp)
        have le2 := Le.new (o := .lst (L'.map fun q => V.ref q.1)) le1.w nl
        exact q _ _ _ (l1.trans (le1.trans le2)) (.lst upd_same (pairs_rep (fun p hp => le2.s0 _ _ (hkt p (hL1 p (pm.mem_iff.mp hp)))) hL')))
end
end
end Lv

/-! Sets of objects with a hash, an equality and nothing to be seen of either: for tuples of tuples of numbers. -/
namespace Lv
open PySem PySem.Spec PyProof.Rows L2 TS

/-- what a set asks of its items: is h k a says that the object at a is the key k -/
structure KOps (P : Program) (w : World) (κ : Type) [DecidableEq κ] (is : Heap → κ → Addr → Prop) (hs : κ → Int) : Prop where
  eqv : ∀ {A : Around} {E : Value → Shared → Prop} {s : Shared} {x y : κ} {a b : Addr} {Q : Bool → Shared → Prop}, A.units + 16 < cLine → is s.heap x a → is s.heap y b → Q (decide (x = y)) s → wpAny (model P w) A (eqBool (.ref a) (.ref b)) Q E s
  quiet : ∀ {A : Around} {E : Value → Shared → Prop} {s : Shared} {k : κ} {a : Addr} {Q : Bool → Shared → Prop}, is s.heap k a → Q true s → wpAny (model P w) A (eqIsQuiet 8 (.ref a)) Q E s
  ofA : ∀ {A : Around} {E : Value → Shared → Prop} {s : Shared} {k : κ} {a : Addr} {Q : Bool → Shared → Prop}, is s.heap k a → Q false s → wpAny (model P w) A (ofAClassStatement 8 (.ref a)) Q E s
  byv : ∀ {A : Around} {E : Value → Shared → Prop} {s : Shared} {k : κ} {a : Addr} {Q : Bool → Shared → Prop}, is s.heap k a → Q true s → wpAny (model P w) A (hashByValue 8 (.ref a)) Q E s
  hash : ∀ {A : Around} {E : Value → Shared → Prop} {s : Shared} {k : κ} {a : Addr} {Q : Int → Shared → Prop}, A.units + 16 < cLine → is s.heap k a → (∀ tk, s.toks ≤ tk → Q (hs k) { s with toks := tk }) → wpAny (model P w) A (pyHash (.ref a)) Q E s
  keep : ∀ {h h' : Heap} {k : κ} {b : Addr}, is h k b → (∀ c o, h.get? c = some o → (∀ es ep t, o.data ≠ .set es ep t) → h'.get? c = some o) → is h' k b

section
variable {P : Program} {w : World} {κ : Type} [DecidableEq κ] {is : Heap → κ → Addr → Prop} {hs : κ → Int} {A : Around} {E : Value → Shared → Prop} {s : Shared}
/-- one search shows nothing to the others -/
theorem KOps.seen (O : KOps P w κ is hs) {k : κ} {x : Addr} {Q : Bool → Shared → Prop} (hx : is s.heap k x) {ys : List Value} (hy : ∀ y ∈ ys, ∃ k' c, y = Value.ref c ∧ is s.heap k' c) (q : Q false s) : wpAny (model P w) A (searchCouldBeSeen (.ref x) ys) Q E s := by
  unfold searchCouldBeSeen
  apply wpAny_bind
  refine wpAny_forIn_list _ (fun rest acc s' => acc.1 = none ∧ s' = s ∧ ∀ y ∈ rest, ∃ k' c, y = Value.ref c ∧ is s.heap k' c) _ ?turn ?stop _ _ ⟨rfl, rfl, hy⟩
  case turn =>
    rintro y rest acc s' ⟨hacc, rfl, all⟩
    obtain ⟨k', c, rfl, hc⟩ := all y List.mem_cons_self
    have tail : ∀ y ∈ rest, ∃ k' c, y = Value.ref c ∧ is s'.heap k' c := fun y hy' => all y (List.mem_cons_of_mem _ hy')
    dsimp only
    by_cases same : (x == c || (carriedByValue (.ref x) && carriedByValue (.ref c))) = true
    · exact wp_if_pos same (wpAny_pure ⟨rfl, rfl, tail⟩)
    · refine wp_if_neg same ?_
      apply wpAny_bind
      refine O.quiet hx ?_
      simp only [Bool.not_true, Bool.false_eq_true, if_false]
      apply wpAny_bind
      refine O.quiet hc ?_
      simp only [Bool.not_true, Bool.false_eq_true, if_false]
      apply wpAny_bind
      refine O.ofA hx ?_
      simp only [Bool.false_eq_true, if_false]
      apply wpAny_bind
      refine O.ofA hc ?_
      simp only [Bool.false_eq_true, if_false]
      exact wpAny_pure ⟨rfl, rfl, tail⟩
  case stop =>
    rintro ⟨c1, c2⟩ s' ⟨h1, rfl, _⟩
    dsimp only at h1
    subst h1
    exact wpAny_pure q

/-- the entries of a set that holds L -/
def rowsK (hs : κ → Int) (L : List (Addr × κ)) : List (Int × Value) := L.map fun p => (hs p.2, Value.ref p.1)
theorem rowsK_length (L : List (Addr × κ)) : (rowsK hs L).length = L.length := List.length_map ..
structure SetK' (w : World) (hs : κ → Int) (h : Heap) (a : Addr) (L : List (Addr × κ)) (es : Array (Int × Value)) (ep : Nat) (t : SetTable) : Prop where
  ob : ∃ o, h.get? a = some o ∧ o.ExactSet ∧ o.data = .set es ep t
  rows : es.toList = rowsK hs L
  tab : TabOk t (L.map fun p => hs p.2)
  nd : (L.map (·.2)).Nodup
  plain : t.plain = true
  led : w.params.followText "set-order" = true ∨ t.led = true
  room : L.length * 5 < t.mask * 3
  few : L.length < 64
variable {a : Addr} {L : List (Addr × κ)} {es : Array (Int × Value)} {ep : Nat} {t : SetTable} {h : Heap}
theorem SetK'.size (R : SetK' w hs h a L es ep t) : es.size = L.length := by
  rw [← Array.length_toList, R.rows, rowsK_length]
theorem SetK'.psize (R : SetK' w hs h a L es ep t) : t.place.size = L.length := by
  have := R.tab.sz
  rwa [List.length_map] at this
theorem fits_of {n m : Nat} (h1 : t.place.size = n) (h2 : t.dummies = #[]) (h3 : n ≤ t.mask) : t.fits n = true := by
  unfold SetTable.fits SetTable.fill
  rw [h2, Bool.and_eq_true, beq_iff_eq, decide_eq_true_eq]
  exact ⟨h1, by show t.place.size + 0 ≤ t.mask; omega⟩
theorem SetK'.fits (R : SetK' w hs h a L es ep t) : t.fits es.size = true := by
  rw [R.size]
  have := R.room
  exact fits_of (m := 0) R.psize R.tab.dm (by omega)
theorem SetK'.entry (R : SetK' w hs h a L es ep t) {i : Nat} {p : Addr × κ} (e : L[i]? = some p) : es[i]? = some (hs p.2, Value.ref p.1) := by
  rw [← Array.getElem?_toList, R.rows, rowsK, List.getElem?_map, e]
  rfl
theorem SetK'.stands (R : SetK' w hs h a L es ep t) : ¬ t.gaveWay = true := by
  unfold SetTable.gaveWay
  rw [mask_odd R.tab.mok]
  decide

/-- the way of a hash through the table -/
abbrev road (t : SetTable) (n : Int) : SetTable.Probe := runAt t.mask (SetTable.bits n % (t.mask + 1)) (SetTable.bits n)
theorem nodummy (m : Nat) : ∀ (n : Nat) (p : SetTable.Probe), p.dummy = none → (nth m p n).dummy = none
  | 0, _, e => e
  | n + 1, p, e => nodummy m n (adv m p) (by unfold adv; split <;> exact e)
/-- THE SEARCH from the c-th step of the road on: K is the first empty place -/
theorem seekK (O : KOps P w κ is hs) (R : SetK' w hs s.heap a L es ep t) (at_ : ∀ p ∈ L, is s.heap p.2 p.1) {x : Addr} {k : κ} (hx : is s.heap k x) (hu : A.units + 16 < cLine) {K : Nat} (hK0 : K < 10 * SetTable.turns t.mask)
    (hK : way t.mask (hs k) K ∉ t.place.toList) (hKb : ∀ c, c < K → way t.mask (hs k) c ∈ t.place.toList) {Q : SetFound → Shared → Prop} (there : k ∈ L.map (·.2) → Q (.there none) s) (free : k ∉ L.map (·.2) → Q (.free (way t.mask (hs k) K) false) s) :
    ∀ (f c : Nat) (stand : Option SetTable.Probe), stand.getD (t.probeStart (hs k)) = nth t.mask (road t (hs k)) c → c ≤ K → K - c < f →
      (∀ (i : Nat) p, L[i]? = some p → p.2 = k → ∃ c', c ≤ c' ∧ c' < K ∧ t.place.toList[i]? = some (way t.mask (hs k) c')) → wpAny (model P w) A (setSearchFrom a (.ref x) (hs k) true f stand) Q E s := by
  intro f
  induction f with
  | zero => intro c stand _ _ hf _; exact absurd hf (Nat.not_lt_zero _)
  | succ f ih =>
    intro c stand hst hc hf ahead
    obtain ⟨o, ho, hex, hd⟩ := R.ob
    have step : ∀ q, (nth t.mask (nth t.mask (road t (hs k)) c) q).j = way t.mask (hs k) (c + q) := fun q => congrArg SetTable.Probe.j (nth_add t.mask c _ q).symm
    have hashAt : ∀ (i : Nat) p, L[i]? = some p → (es[i]?.map (·.1)).getD 0 = hs p.2 := fun i p e => by rw [R.entry e]; rfl
    have spec := go_spec t R.tab.ris R.tab.dm (fun i => (es[i]?.map (·.1)).getD 0) (hs k) (10 * SetTable.turns t.mask) (K - c) (nth t.mask (road t (hs k)) c) (nodummy _ _ _ rfl) (by omega)
      (fun q hq => by rw [step]; exact hKb (c + q) (by omega)) (by rw [step, show c + (K - c) = K by omega]; exact hK)
    rw [setSearchFrom_succ]
    apply wpAny_bind
    refine wpAny_setState_of ho hd R.fits ?_
    dsimp only
    refine wp_if_neg R.stands ?_
    try refine wpAny_bind (wpAny_pure ?_)
    rcases spec with ⟨q, i, hq, hi, hh, hno, hpr⟩ | ⟨hno, hpr⟩
    · -- an item of this hash stands here
      have met : t.probe (fun i => (es[i]?.map (·.1)).getD 0) (hs k) (stand.getD (t.probeStart (hs k))) = some (.candidate (way t.mask (hs k) (c + q)) i (nth t.mask (road t (hs k)) (c + (q + 1)))) := by
        rw [hst, ← step, nth_add t.mask c _ (q + 1)]
        exact hpr
      rw [met]
      dsimp only
      rw [step] at hi
      have hil : i < L.length := by
        have := (List.getElem?_eq_some_iff.mp hi).1
        rwa [Array.length_toList, R.psize] at this
      obtain ⟨p, hp⟩ : ∃ p, L[i]? = some p := ⟨_, List.getElem?_eq_getElem hil⟩
      have hmem := List.mem_of_getElem? hp
      have live : t.slot (way t.mask (hs k) (c + q)) = .live i := slot_live R.tab.ris hi
      have rest : wpAny (model P w) A (searchRest a (.ref x) (hs k) true f es t (way t.mask (hs k) (c + q)) i (nth t.mask (road t (hs k)) (c + (q + 1)))) Q E s := by
        unfold searchRest
        rw [R.entry hp]
        dsimp only
        apply wpAny_bind
        apply wpAny_holding
        refine O.eqv hu (at_ p hmem) hx ?_
        apply wpAny_bind
        refine wpAny_setState_of ho hd R.fits ?_
        dsimp only
        by_cases hkk : p.2 = k
        · exact wp_if_pos (by simp [hkk]) (wpAny_pure (there (List.mem_map.mpr ⟨p, hmem, hkk⟩)))
        · refine wp_if_neg (by simp [hkk]) ?_
          try refine wpAny_bind (wpAny_pure ?_)
          rw [sameMem]
          dsimp only
          simp only [if_true, live, R.entry hp]
          apply wpAny_bind
          refine wpAny_isSame_ref_self ?_
          apply wpAny_bind
          apply wpAny_pure
          simp only [if_true]
          refine wp_if_neg (by simp [hkk]) ?_
          refine ih (c + (q + 1)) _ rfl (by omega) (by omega) fun i0 p0 e0 ek => ?_
          obtain ⟨c', b1, b2, b3⟩ := ahead i0 p0 e0 ek
          refine ⟨c', ?_, b2, b3⟩
          -- the item of the key itself is not passed
          by_cases z1 : c' < c + q
          · exact absurd ((hashAt i0 p0 e0).trans (congrArg hs ek)) (hno (c' - c) i0 (by omega) (by rw [step, show c + (c' - c) = c' by omega]; exact b3))
          · by_cases z2 : c' = c + q
            · exfalso
              rw [z2] at b3
              have l2 := slot_live R.tab.ris b3
              rw [live] at l2
              injection l2 with l2
              rw [← l2, hp] at e0
              cases e0
              exact hkk ek
            · omega
      by_cases hl : t.led = true
      · refine wp_if_neg (by simp [hl]) ?_
        try refine wpAny_bind (wpAny_pure ?_)
        exact rest
      · refine wp_if_pos (by simp [hl]) ?_
        apply wpAny_bind
        refine O.seen hx (fun y hy => ?_) ?_
        · obtain ⟨en, hen, een⟩ := List.mem_map.mp hy
          have m1 : en ∈ es ∧ en.1 = hs k := by simpa using hen
          have m2 : en ∈ es.toList := by simpa using m1.1
          rw [R.rows, rowsK] at m2
          obtain ⟨p2, hp2, e2⟩ := List.mem_map.mp m2
          exact ⟨p2.2, p2.1, by rw [← een, ← e2], at_ p2 hp2⟩
        · refine wp_if_neg (by decide) ?_
          try refine wpAny_bind (wpAny_pure ?_)
          exact rest
    · -- the empty place
      have met : t.probe (fun i => (es[i]?.map (·.1)).getD 0) (hs k) (stand.getD (t.probeStart (hs k))) = some (.empty (way t.mask (hs k) K) none) := by
        have e2 := step (K - c)
        rw [show c + (K - c) = K by omega] at e2
        rw [hst, ← e2]
        exact hpr
      rw [met]
      dsimp only
      refine wpAny_pure (free fun hm => ?_)
      obtain ⟨p0, h0, ek⟩ := List.mem_map.mp hm
      obtain ⟨i0, e0⟩ := List.mem_iff_getElem?.mp h0
      obtain ⟨c', b1, b2, b3⟩ := ahead i0 p0 e0 ek
      exact hno (c' - c) i0 (by omega) (by rw [step, show c + (c' - c) = c' by omega]; exact b3) ((hashAt i0 p0 e0).trans (congrArg hs ek))
theorem searchK (O : KOps P w κ is hs) (R : SetK' w hs s.heap a L es ep t) (at_ : ∀ p ∈ L, is s.heap p.2 p.1) {x : Addr} {k : κ} (hx : is s.heap k x) (hu : A.units + 16 < cLine) {Q : SetFound → Shared → Prop} (there : k ∈ L.map (·.2) → Q (.there none) s)
    (free : ∀ K, k ∉ L.map (·.2) → way t.mask (hs k) K ∉ t.place.toList → (∀ c, c < K → way t.mask (hs k) c ∈ t.place.toList) → Q (.free (way t.mask (hs k) K) false) s) : wpAny (model P w) A (setSearch a (.ref x) (hs k) true) Q E s := by
  obtain ⟨K, hK0, hK, hKb⟩ := R.tab.first (by rw [List.length_map]; have := R.room; omega) (hs k)
  have small : 10 * SetTable.turns t.mask ≤ 1420 := by
    unfold SetTable.turns
    rcases R.tab.mok with e | e | e <;> omega
  unfold setSearch
  refine seekK O R at_ hx hu hK0 hK hKb there (fun z => free K z hK hKb) 100000 0 none rfl (Nat.zero_le _) (by omega) fun i p hp hk => ?_
  have hi : (L.map fun p => hs p.2)[i]? = some (hs k) := by rw [List.getElem?_map, hp, ← hk]; rfl
  have hil : i < t.place.toList.length := by
    rw [Array.length_toList, R.psize]
    exact (List.getElem?_eq_some_iff.mp hp).1
  have hj := List.getElem?_eq_getElem hil
  obtain ⟨c, hc, e⟩ := R.tab.before hK hi hj
  exact ⟨c, Nat.zero_le _, hc, by rw [hj, e]⟩
end
end Lv

namespace Lv
open PySem PySem.Spec PyProof.Rows L2 TS
section
variable {P : Program} {w : World} {κ : Type} [DecidableEq κ] {is : Heap → κ → Addr → Prop} {hs : κ → Int} {A : Around} {E : Value → Shared → Prop} {s : Shared}

/-- entries taken in another order are entries of another list -/
theorem reorderK {L : List (Addr × κ)} {es : Array (Int × Value)} (hr : es.toList = rowsK hs L) {order : Array Nat} (hp : order.toList.Perm (List.range L.length)) :
    ∃ L2, (order.filterMap (es[·]?)).toList = rowsK hs L2 ∧ L2.Perm L ∧ (L2.map fun p => hs p.2) = order.toList.map fun i => (es.map (·.1)).getD i 0 := by
  have size : es.size = L.length := by rw [← Array.length_toList, hr, rowsK_length]
  have entry : ∀ i (h : i < L.length), es[i]? = some (hs L[i].2, Value.ref L[i].1) := fun i h => by
    rw [← Array.getElem?_toList, hr, rowsK, List.getElem?_map, List.getElem?_eq_getElem h]
    rfl
  have inside : ∀ i ∈ order.toList, i < L.length := fun i hi => List.mem_range.mp (hp.mem_iff.mp hi)
  have go : ∀ l : List Nat, (∀ i ∈ l, i < L.length) → l.filterMap (fun i => es[i]?) = rowsK hs (l.filterMap fun i => L[i]?) ∧ ((l.filterMap fun i => L[i]?).map fun p => hs p.2) = l.map fun i => (es.map (·.1)).getD i 0 := by
    intro l
    induction l with
    | nil => intro _; exact ⟨rfl, rfl⟩
    | cons i l ih =>
      intro hl
      have hi := hl i List.mem_cons_self
      obtain ⟨e1, e2⟩ := ih fun j hj => hl j (List.mem_cons_of_mem _ hj)
      have c1 : (i :: l).filterMap (fun i => L[i]?) = L[i] :: l.filterMap fun i => L[i]? := List.filterMap_cons_some (List.getElem?_eq_getElem hi)
      have c2 : (i :: l).filterMap (fun i => es[i]?) = (hs L[i].2, Value.ref L[i].1) :: l.filterMap fun i => es[i]? := List.filterMap_cons_some (entry i hi)
      have c3 : (es.map (·.1)).getD i 0 = hs L[i].2 := by
        have : (es.map (·.1))[i]? = some (hs L[i].2) := by rw [Array.getElem?_map, entry i hi]; rfl
        simp [Array.getD_eq_getD_getElem?, this]
      rw [c1, c2, List.map_cons, List.map_cons, e1, e2, c3]
      exact ⟨rfl, rfl⟩
  have whole : (List.range L.length).filterMap (fun i => L[i]?) = L := by
    have upto : ∀ n, n ≤ L.length → (List.range n).filterMap (fun i => L[i]?) = L.take n := by
      intro n
      induction n with
      | zero => intro _; rfl
      | succ n ih =>
        intro hn
        rw [List.range_succ, List.filterMap_append, ih (Nat.le_of_lt hn), List.take_add_one]
        congr 1
    rw [upto _ (Nat.le_refl _), List.take_length]
  obtain ⟨g1, g2⟩ := go order.toList inside
  refine ⟨order.toList.filterMap fun i => L[i]?, ?_, ?_, g2⟩
  · rw [Array.toList_filterMap]
    exact g1
  · have := hp.filterMap fun i => L[i]?
    rw [whole] at this
    exact this

variable {a : Addr} {L : List (Addr × κ)} {es : Array (Int × Value)} {ep : Nat} {t : SetTable}
/-- the table is laid anew, larger -/
theorem relayK {o : Obj} (ho : s.heap.get? a = some o) (hex : o.ExactSet) (hd : o.data = .set es ep t) (rows : es.toList = rowsK hs L) (psize : t.place.size = L.length) (dm : t.dummies = #[]) (fill : L.length ≤ t.mask) (nd : (L.map (·.2)).Nodup) (pl : t.plain = true)
    (ld : w.params.followText "set-order" = true ∨ t.led = true) (few : L.length < 64) {wanted M : Nat} (hw : SetTable.sizeAbove wanted - 1 = M) (hM : MaskOk M) (hw2 : SetTable.sizeAbove wanted ≤ 128) (hn : L.length * 5 < M * 3) {Q : Unit → Shared → Prop}
    (q : ∀ h' L' es' ep' t', Heap.SameBut a s.heap h' → SetK' w hs h' a L' es' ep' t' → L'.Perm L → Q () { s with heap := h' }) : wpAny (model P w) A (setRelay a wanted) Q E s := by
  have size : es.size = L.length := by rw [← Array.length_toList, rows, rowsK_length]
  have fits : t.fits es.size = true := by rw [size]; exact fits_of (m := 0) psize dm fill
  obtain ⟨t', order, e, hp, tab, em, el, epl, ed⟩ := relaid_ok t (hs := es.map (·.1)) (wanted := wanted) hw hM (by rw [Array.size_map, size]; omega)
  rw [Array.size_map, size] at hp
  obtain ⟨L2, r1, r2, r3⟩ := reorderK rows hp
  rw [← r3] at tab
  have size2 : (order.filterMap (es[·]?)).size = es.size := by rw [← Array.length_toList, r1, rowsK_length, r2.length_eq, size]
  rw [setRelay_eq]
  apply wpAny_bind
  refine wpAny_setState_of ho hd fits ?_
  dsimp only
  refine wp_if_neg (by rw [sizeLine_eq]; omega) ?_
  try refine wpAny_bind (wpAny_pure ?_)
  rw [e]
  dsimp only
  apply wpAny_bind
  refine wp_if_neg (by rw [size2]; simp) ?_
  try refine wpAny_bind (wpAny_pure ?_)
  apply wpAny_pure
  dsimp only
  refine wpAny_storeSet_of ho hd ?_ (by rw [size2, size, sizeLine_eq]; omega)
  refine q _ L2 (order.filterMap (es[·]?)) (ep + 1) t' (Heap.SameBut.update ..) ⟨⟨_, store_at ho hd, ⟨hex.1, hex.2.1, hex.2.2⟩, rfl⟩, r1, tab, (r2.map (·.2)).nodup_iff.mpr nd, by rw [epl]; exact pl, by rw [el]; exact ld, ?_, by rw [r2.length_eq]; exact few⟩ r2
  rw [r2.length_eq, em]
  exact hn

/-- ADDING x, whose key is k -/
theorem addK (O : KOps P w κ is hs) (R : SetK' w hs s.heap a L es ep t) (at_ : ∀ p ∈ L, is s.heap p.2 p.1) {x : Addr} {k : κ} (hx : is s.heap k x) (hu : A.units + 16 < cLine) (few : k ∉ L.map (·.2) → L.length + 1 < 64) {Q : Bool → Shared → Prop}
    (q : ∀ b h' L' es' ep' t', Heap.SameBut a s.heap h' → SetK' w hs h' a L' es' ep' t' → (k ∈ L.map (·.2) → L' = L) → (k ∉ L.map (·.2) → L'.Perm ((x, k) :: L)) → Q b { s with heap := h' }) : wpAny (model P w) A (setAddHashed a (.ref x) (hs k)) Q E s := by
  obtain ⟨o, ho, hex, hd⟩ := R.ob
  have size := R.size
  have room := R.room
  unfold setAddHashed
  apply wpAny_holding
  rw [show (100000 : Nat) = 99999 + 1 from rfl, setAddHashedIn_succ]
  apply wpAny_bind
  refine wpAny_setState_of ho hd R.fits ?_
  dsimp only
  refine wp_if_neg (by simp [byScan, Value.scannable]) ?_
  try refine wpAny_bind (wpAny_pure ?_)
  apply wpAny_bind
  refine searchK O R at_ hx hu (fun hm => ?_) fun K hm hK hKb => ?_
  · dsimp only
    exact wpAny_pure (q false s.heap L es ep t (Heap.SameBut.refl a s.heap) R (fun _ => rfl) fun z => absurd hm z)
  · dsimp only
    have few' := few hm
    apply wpAny_bind
    refine wpAny_setState_of ho hd R.fits ?_
    dsimp only
    obtain ⟨put, q2, tab1, q4, q5, q6, q7, q8, q9⟩ := R.tab.put hK hKb
    have plain1 : (t.put (way t.mask (hs k) K)).1.plain = true := by rw [q6]; exact R.plain
    generalize hpt : t.put (way t.mask (hs k) K) = pt at put tab1 q4 q5 q6 q7 q8 q9 plain1 ⊢
    obtain ⟨t1, p⟩ := pt
    dsimp only at put tab1 q4 q5 q6 q7 q8 q9 plain1 ⊢
    subst put
    first
      | (apply wpAny_bind; refine wp_if_pos plain1 ?_; refine O.byv hx ?_)
      | (refine wp_if_pos plain1 ?_; apply wpAny_bind; refine O.byv hx ?_)
    simp only [if_true]
    have entries : (SetTable.insertAt es (SetTable.below t.place (way t.mask (hs k) K)) (hs k, Value.ref x)).toList = rowsK hs (L.take (SetTable.below t.place (way t.mask (hs k) K)) ++ (x, k) :: L.drop (SetTable.below t.place (way t.mask (hs k) K))) := by
      rw [SetTable.toList_insertAt, R.rows, rowsK, rowsK, List.map_append, List.map_cons, List.map_take, List.map_drop]
    generalize SetTable.below t.place (way t.mask (hs k) K) = b at q2 tab1 entries ⊢
    have pm := put_perm L b (x, k)
    have hashes : (L.take b ++ (x, k) :: L.drop b).map (fun p => hs p.2) = (L.map fun p => hs p.2).take b ++ hs k :: (L.map fun p => hs p.2).drop b := by
      rw [List.map_append, List.map_cons, List.map_take, List.map_drop]
    rw [← hashes] at tab1
    generalize SetTable.insertAt es b (hs k, Value.ref x) = es1 at entries ⊢
    generalize L.take b ++ (x, k) :: L.drop b = L1 at pm tab1 entries
    have len1 : L1.length = L.length + 1 := pm.length_eq
    have size1 : es1.size = L.length + 1 := by rw [← Array.length_toList, entries, rowsK_length, len1]
    have nd1 : (L1.map (·.2)).Nodup := (pm.map (·.2)).nodup_iff.mpr (by rw [List.map_cons]; exact List.nodup_cons.mpr ⟨hm, R.nd⟩)
    apply wpAny_bind
    refine wpAny_storeSet_of ho hd ?_ (by rw [size1, sizeLine_eq]; omega)
    have sb : Heap.SameBut a s.heap (s.heap.update a (Obj.putSet es1 t1)) := Heap.SameBut.update ..
    have ho1 := store_at (es' := es1) (t' := t1) ho hd
    generalize s.heap.update a (Obj.putSet es1 t1) = h1 at sb ho1 ⊢
    have ld1 : w.params.followText "set-order" = true ∨ t1.led = true := by rw [q5]; exact R.led
    have full : t1.tooFull = decide ((L.length + 1) * 5 ≥ t1.mask * 3) := by
      unfold SetTable.tooFull
      rw [q9, List.length_map]
    by_cases hf : t1.tooFull = true
    · first
        | (apply wpAny_bind; refine wp_if_pos (by simp [hf]) ?_)
        | (refine wp_if_pos (by simp [hf]) ?_; apply wpAny_bind)
      have hfull : (L.length + 1) * 5 ≥ t1.mask * 3 := by
        rw [full, decide_eq_true_eq] at hf
        exact hf
      rw [size]
      have psize1 : t1.place.size = L1.length := by
        have := tab1.sz
        rwa [List.length_map] at this
      have two : (t.mask = 7 ∧ L.length = 4) ∨ (t.mask = 31 ∧ L.length = 18) := by
        rcases R.tab.mok with e | e | e
        · left; rw [q4, e] at hfull; rw [e] at room; exact ⟨e, by omega⟩
        · right; rw [q4, e] at hfull; rw [e] at room; exact ⟨e, by omega⟩
        · exfalso; rw [q4, e] at hfull; omega
      have go : ∀ M, SetTable.sizeAbove (SetTable.grown (L.length + 1)) - 1 = M → MaskOk M → SetTable.sizeAbove (SetTable.grown (L.length + 1)) ≤ 128 → (L.length + 1) * 5 < M * 3 →
          wpAny (model P w) A (setRelay a (SetTable.grown (L.length + 1))) (fun _ s' => wpAny (model P w) A (pure true) Q E s') E { s with heap := h1 } := fun M m1 m2 m3 m4 => by
        refine relayK (s := { s with heap := h1 }) (hs := hs) (L := L1) ho1 ⟨hex.1, hex.2.1, hex.2.2⟩ rfl entries psize1 tab1.dm (by rw [len1, q4]; rcases two with ⟨e, e2⟩ | ⟨e, e2⟩ <;> omega) nd1 plain1 ld1 (by rw [len1]; exact few') m1 m2 m3 (by rw [len1]; exact m4) ?_
        intro h2 L2 es2 ep2 t2 sb2 R2 pm2
        exact wpAny_pure (q true h2 L2 es2 ep2 t2 (sb.trans sb2) R2 (fun z => absurd z hm) fun _ => pm2.trans pm)
      rcases two with ⟨_, e2⟩ | ⟨_, e2⟩
      · exact go 31 (by rw [e2, size_20]) (.inr (.inl rfl)) (by rw [e2, size_20]; decide) (by omega)
      · exact go 127 (by rw [e2, size_76]) (.inr (.inr rfl)) (by rw [e2, size_76]; decide) (by omega)
    · first
        | refine wp_if_neg (by simp [hf]) ?_
        | (apply wpAny_bind; refine wp_if_neg (by simp [hf]) ?_; apply wpAny_pure)
      refine wpAny_pure (q true h1 L1 es1 (ep + 1) t1 sb ⟨⟨_, ho1, ⟨hex.1, hex.2.1, hex.2.2⟩, rfl⟩, entries, tab1, nd1, plain1, ld1, ?_, by rw [len1]; exact few'⟩ (fun z => absurd z hm) fun _ => pm)
      rw [full, decide_eq_true_eq] at hf
      rw [len1]
      omega
end
end Lv

namespace Lv
open PySem PySem.Spec PyProof.Rows L2 TS
/-! ### the lots as keys -/
def kQ (q : Mir.Quad) : NestedKey := .tup [.num q.1, .num q.2.1, .num q.2.2.1, .num q.2.2.2]
def kL (l : List Mir.Quad) : NestedKey := .tup (l.map kQ)
theorem kQ_inj {a b : Mir.Quad} (h : kQ a = kQ b) : a = b := by
  obtain ⟨a1, a2, a3, a4⟩ := a
  obtain ⟨b1, b2, b3, b4⟩ := b
  simp only [kQ, NestedKey.tup.injEq, List.cons.injEq, NestedKey.num.injEq, and_true] at h
  obtain ⟨rfl, rfl, rfl, rfl⟩ := h
  rfl
theorem kL_inj {a b : List Mir.Quad} (h : kL a = kL b) : a = b := by
  have h' : a.map kQ = b.map kQ := NestedKey.tup.inj h
  exact List.map_inj_right (fun _ _ => kQ_inj) |>.mp h'
theorem kL_decide (a b : List Mir.Quad) : decide (kL a = kL b) = decide (a = b) := by
  by_cases h : a = b
  · subst h; simp
  · rw [decide_eq_false h, decide_eq_false fun e => h (kL_inj e)]
theorem kQ_depth (l : List Mir.Quad) : NestedKey.depthAll (l.map kQ) ≤ 1 := by
  induction l with
  | nil => exact Nat.zero_le _
  | cons q l ih =>
    show max (kQ q).depth (NestedKey.depthAll (l.map kQ)) ≤ 1
    exact Nat.max_le.mpr ⟨Nat.le_refl 1, ih⟩
theorem kL_depth (l : List Mir.Quad) : (kL l).depth ≤ 8 := by
  show NestedKey.depthAll (l.map kQ) + 1 ≤ 8
  have := kQ_depth l
  omega
abbrev IsLot (h : Heap) (l : List Mir.Quad) (a : Addr) : Prop := NestedIs h (kL l) (.ref a)
def lotHash (w : World) (l : List Mir.Quad) : Int := (kL l).hash w
def lotKind (P : Program) (w : World) : HeapKind P w (List Mir.Quad) where
  is := IsLot
  hash := lotHash w
  draws := fun l => (kL l).draws
  room := fun A => A.units + 8 < cLine
  inj := fun hx hy => kL_inj (NestedIs.inj _ _ _ hx hy)
  keeps := fun {h h' k a d o es ep} x ho hd hs => ((nestedKind P w).keeps (k := kL k) ⟨x, kL_depth k⟩ ho hd hs).1
  pyHash := fun {A E s k a Q} hu hk h => (nestedKind P w).pyHash (k := kL k) hu ⟨hk, kL_depth k⟩ h
  eqBool := fun {A E s x y a b Q} hu hx hy h => (nestedKind P w).eqBool (x := kL x) (y := kL y) hu ⟨hx, kL_depth x⟩ ⟨hy, kL_depth y⟩ (by rw [kL_decide]; exact h)
  quiet := fun {A E s k a Q} hk h => (nestedKind P w).quiet (k := kL k) ⟨hk, kL_depth k⟩ h
theorem lotKind_stays {P : Program} {w : World} : (lotKind P w).Stays where
  stays := fun hk x => NestedIs.at hk _ _ x
  tuple := fun {s k a} x => (nestedKind_stays (prog := P) (w := w)).tuple (k := kL k) ⟨x, kL_depth k⟩

section
variable {P : Program} {w : World}
def OfA (P : Program) (w : World) (n : Nat) (s : Shared) (v : Value) : Prop := ∀ (A : Around) (E : Value → Shared → Prop) (Q : Bool → Shared → Prop), Q false s → wpAny (model P w) A (ofAClassStatement n v) Q E s
def ByV (P : Program) (w : World) (n : Nat) (s : Shared) (v : Value) : Prop := ∀ (A : Around) (E : Value → Shared → Prop) (Q : Bool → Shared → Prop), Q true s → wpAny (model P w) A (hashByValue n v) Q E s
theorem ofA_num {n : Nat} {s : Shared} {i : Int} {v : Value} (h : NestedIs s.heap (.num i) v) : OfA P w n s v := fun A E Q q => by
  cases h <;> cases n <;> exact wpAny_pure q
theorem byV_num {n : Nat} {s : Shared} {i : Int} {v : Value} (h : NestedIs s.heap (.num i) v) : ByV P w n s v := fun A E Q q => by
  cases h <;> cases n <;> exact wpAny_pure q
theorem ofA_tup {n : Nat} {s : Shared} {a : Addr} {o : Obj} {items : Array Value} {m : Nat} (ho : s.heap.get? a = some o) (hc : o.cls = .type "tuple") (hd : o.data = .seq items m) (hq : ∀ v ∈ items.toList, OfA P w n s v) : OfA P w (n + 1) s (.ref a) := fun A E Q h => by
  have hT : s.TypeIs (.ref a) "tuple" := ⟨o, ho, hc⟩
  unfold ofAClassStatement
  refine wpAny_bind (wpAny_typeOf hT ?_)
  dsimp only
  have e : (("tuple" : String) == "tuple") = true := by decide
  simp only [e, if_true, Bool.not_true, Bool.false_eq_true, if_false]
  try refine wpAny_bind (wpAny_pure ?_)
  try simp only [Bool.not_true, Bool.false_eq_true, if_false]
  show wpAny _ _ (seqItems? (.ref a) >>= _) _ _ s
  refine wpAny_bind (wpAny_seqItems ho hd ?_)
  dsimp only
  refine wpAny_bind ?_
  show wpAny _ _ (forIn items _ _) _ _ s
  rw [← Array.forIn_toList]
  refine wpAny_forIn_list _ (fun rest r s' => r.1 = none ∧ s' = s ∧ ∀ v ∈ rest, OfA P w n s v) _ ?_ ?_ _ _ ⟨rfl, rfl, hq⟩
  · rintro v rest r s' ⟨hr, rfl, hall⟩
    refine wpAny_bind (hall v List.mem_cons_self _ _ _ ?_)
    simp only [Bool.false_eq_true, if_false]
    exact wpAny_pure ⟨rfl, rfl, fun u hu' => hall u (List.mem_cons_of_mem _ hu')⟩
  · rintro ⟨r1, r2⟩ s' ⟨hr, rfl, _⟩
    simp only at hr
    subst hr
    exact wpAny_pure h
theorem byV_tup {n : Nat} {s : Shared} {a : Addr} {o : Obj} {items : Array Value} {m : Nat} (ho : s.heap.get? a = some o) (hc : o.cls = .type "tuple") (hd : o.data = .seq items m) (hq : ∀ v ∈ items.toList, ByV P w n s v) : ByV P w (n + 1) s (.ref a) := fun A E Q h => by
  have hT : s.TypeIs (.ref a) "tuple" := ⟨o, ho, hc⟩
  unfold hashByValue
  refine wpAny_bind (wpAny_specialOf hT F.slot_tuple_hash.lookup ?_)
  show wpAny _ _ (seqItems? (.ref a) >>= _) _ _ s
  refine wpAny_bind (wpAny_seqItems ho hd ?_)
  refine wpAny_bind ?_
  show wpAny _ _ (forIn items _ _) _ _ s
  rw [← Array.forIn_toList]
  refine wpAny_forIn_list _ (fun rest r s' => r.1 = none ∧ s' = s ∧ ∀ v ∈ rest, ByV P w n s v) _ ?_ ?_ _ _ ⟨rfl, rfl, hq⟩
  · rintro v rest r s' ⟨hr, rfl, hall⟩
    refine wpAny_bind (hall v List.mem_cons_self _ _ _ ?_)
    simp only [Bool.not_true, Bool.false_eq_true, if_false]
    exact wpAny_pure ⟨rfl, rfl, fun u hu' => hall u (List.mem_cons_of_mem _ hu')⟩
  · rintro ⟨r1, r2⟩ s' ⟨hr, rfl, _⟩
    simp only at hr
    subst hr
    exact wpAny_pure h
theorem nestedAll_each {h : Heap} {R : Value → Prop} : ∀ {ks : List NestedKey} {vs : List Value}, NestedAll h ks vs → (∀ k ∈ ks, ∀ v, NestedIs h k v → R v) → ∀ v ∈ vs, R v
  | [], _, r, _, v, hv => by cases r; cases hv
  | k :: ks, _, r, f, v, hv => by
    cases r with
    | cons r1 r2 =>
      rcases List.mem_cons.mp hv with rfl | hv
      · exact f k List.mem_cons_self _ r1
      · exact nestedAll_each r2 (fun k' hk => f k' (List.mem_cons_of_mem _ hk)) v hv
theorem num_in {q : Mir.Quad} {k : NestedKey} (h : k ∈ [NestedKey.num q.1, .num q.2.1, .num q.2.2.1, .num q.2.2.2]) : ∃ i, k = .num i := by
  simp only [List.mem_cons, List.not_mem_nil, or_false] at h
  rcases h with rfl | rfl | rfl | rfl <;> exact ⟨_, rfl⟩
theorem lot_ofA {s : Shared} {l : List Mir.Quad} {a : Addr} (h : IsLot s.heap l a) : OfA P w 8 s (.ref a) := by
  cases h with
  | tup h1 h2 h3 h4 =>
    refine ofA_tup h1 h2 h3 (nestedAll_each h4 fun k hk v r => ?_)
    obtain ⟨q, _, rfl⟩ := List.mem_map.mp hk
    cases r with
    | tup h1 h2 h3 h4 =>
      refine ofA_tup h1 h2 h3 (nestedAll_each h4 fun k hk v r => ?_)
      obtain ⟨i, rfl⟩ := num_in hk
      exact ofA_num r
theorem lot_byV {s : Shared} {l : List Mir.Quad} {a : Addr} (h : IsLot s.heap l a) : ByV P w 8 s (.ref a) := by
  cases h with
  | tup h1 h2 h3 h4 =>
    refine byV_tup h1 h2 h3 (nestedAll_each h4 fun k hk v r => ?_)
    obtain ⟨q, _, rfl⟩ := List.mem_map.mp hk
    cases r with
    | tup h1 h2 h3 h4 =>
      refine byV_tup h1 h2 h3 (nestedAll_each h4 fun k hk v r => ?_)
      obtain ⟨i, rfl⟩ := num_in hk
      exact byV_num r
theorem lotOps (P : Program) (w : World) : KOps P w (List Mir.Quad) IsLot (lotHash w) where
  eqv := fun {A E s x y a b Q} hu hx hy q => (lotKind P w).eqBool (show A.units + 8 < cLine by omega) hx hy q
  quiet := fun hx q => (lotKind P w).quiet hx q
  ofA := fun hx q => lot_ofA hx _ _ _ q
  byv := fun hx q => lot_byV hx _ _ _ q
  hash := fun {A E s k a Q} hu hx q => (lotKind P w).pyHash (show A.units + 8 < cLine by omega) hx (q _ (Nat.le_add_right _ _))
  keep := fun {h h' k b} hx hk => NestedIs.at (fun c o vs n e d => hk c o e fun es ep t z => by rw [d] at z; cases z) _ _ hx
end
end Lv

namespace Lv
open PySem PySem.Spec PyProof.Rows L2 TS
/-- what the set has got from the first i items -/
structure GotK {κ : Type} (ks : List (Addr × κ)) (i : Nat) (L : List (Addr × κ)) : Prop where
  sub : ∀ p ∈ L, p ∈ ks.take i
  all : ∀ p ∈ ks.take i, p.2 ∈ L.map (·.2)
theorem GotK.zero {κ : Type} (ks : List (Addr × κ)) : GotK ks 0 [] := ⟨fun p h => (by cases h), fun p h => (by simp at h)⟩
theorem GotK.same {κ : Type} {ks L : List (Addr × κ)} {i : Nat} {x : Addr × κ} (g : GotK ks i L) (h : ks[i]? = some x) (hm : x.2 ∈ L.map (·.2)) : GotK ks (i + 1) L := by
  refine ⟨fun p hp => ?_, fun p hp => ?_⟩
  · rw [take_next h]
    exact List.mem_append_left _ (g.sub p hp)
  · rw [take_next h] at hp
    rcases List.mem_append.mp hp with z | z
    · exact g.all p z
    · rw [List.mem_singleton.mp z]; exact hm
theorem GotK.more {κ : Type} {ks L L' : List (Addr × κ)} {i : Nat} {x : Addr × κ} (g : GotK ks i L) (h : ks[i]? = some x) (pm : L'.Perm (x :: L)) : GotK ks (i + 1) L' := by
  refine ⟨fun p hp => ?_, fun p hp => ?_⟩
  · rw [take_next h]
    rcases List.mem_cons.mp (pm.mem_iff.mp hp) with e | z
    · rw [e]; exact List.mem_append_right _ (List.mem_singleton.mpr rfl)
    · exact List.mem_append_left _ (g.sub p z)
  · rw [(pm.map (·.2)).mem_iff, List.map_cons]
    rw [take_next h] at hp
    rcases List.mem_append.mp hp with z | z
    · exact List.mem_cons_of_mem _ (g.all p z)
    · rw [List.mem_singleton.mp z]; exact List.mem_cons_self
section
variable {P : Program} {w : World} {κ : Type} [DecidableEq κ] {is : Heap → κ → Addr → Prop} {hs : κ → Int} {A : Around} {E : Value → Shared → Prop} {s : Shared}
theorem SetK'.keep {h h' : Heap} {a : Addr} {L : List (Addr × κ)} {es : Array (Int × Value)} {ep : Nat} {t : SetTable} (R : SetK' w hs h a L es ep t) (ha : ∀ o, h.get? a = some o → h'.get? a = some o) : SetK' w hs h' a L es ep t := by
  obtain ⟨o, ho, r⟩ := R.ob
  exact ⟨⟨o, ha o ho, r⟩, R.rows, R.tab, R.nd, R.plain, R.led, R.room, R.few⟩
theorem setK_fresh {h : Heap} {a : Addr} (ho : h.get? a = some (emptySet w)) : SetK' (κ := κ) w hs h a [] #[] 0 (.fresh 0 0 (!w.params.followText "set-order")) where
  ob := ⟨_, ho, ⟨rfl, rfl, rfl⟩, rfl⟩
  rows := rfl
  tab := ⟨List.Pairwise.nil, rfl, rfl, .inl rfl, fun x hx => (by cases hx), fun i h j hi => (by simp at hi)⟩
  nd := List.nodup_nil
  plain := rfl
  led := by
    show _ ∨ (!w.params.followText "set-order") = true
    cases w.params.followText "set-order"
    · exact .inr rfl
    · exact .inl rfl
  room := by
    show 0 * 5 < 7 * 3
    decide
  few := by
    show 0 < 64
    decide
/-- set.update's loop -/
theorem set_update_K (O : KOps P w κ is hs) {I : Addr} {fp wr : List Addr} {G : Array GenState → Array GenState → Prop} {n : Nat} {Pv : Nat → Value → Prop} {St : Nat → Shared → Prop} {R : Result → Shared → Prop}
    (W : WalksS P w A.in1 I fp wr G n Pv St) (S : Addr) (hSf : S ∉ fp) (ks : List (Addr × κ)) (hn : n = ks.length) (hfew : ∀ D : List κ, D.Nodup → (∀ x ∈ D, x ∈ ks.map (·.2)) → D.length < 64) (hval : ∀ i v, Pv i v → ∃ p, ks[i]? = some p ∧ v = .ref p.1)
    (h0 : Heap) (hk : ∀ p ∈ ks, is h0 p.2 p.1) (hS0 : h0.get? S = none) (hw0 : ∀ b ∈ wr, h0.get? b = none) (hu : A.in1.units + 16 < cLine) :
    ∀ (k i : Nat) (s : Shared), n - i = k → i ≤ n → St i s → (∀ b o, h0.get? b = some o → s.heap.get? b = some o) → (∃ L es ep t, SetK' w hs s.heap S L es ep t ∧ GotK ks i L) →
      (∀ s' L es ep t, Moved (S :: wr) G s s' → SetK' w hs s'.heap S L es ep t → GotK ks n L → (∀ b o, h0.get? b = some o → s'.heap.get? b = some o) → R (.ok (.ret .none)) s') →
      codeAny (model P w) A (.builtin "set.update.loop" ⟨[.ref S, .ref I], []⟩) R s := by
  have hSw : S ∉ wr := fun h => hSf (W.sub _ h)
  have hsub : ∀ b ∈ wr, b ∈ S :: wr := fun b hb => List.mem_cons_of_mem _ hb
  have isk : ∀ {h' : Heap} {k : κ} {b : Addr}, is h0 k b → (∀ c o, h0.get? c = some o → h'.get? c = some o) → is h' k b := fun x y => O.keep x fun c o e _ => y c o e
  have keepM : ∀ {s s' : Shared}, Moved wr G s s' → (∀ b o, h0.get? b = some o → s.heap.get? b = some o) → ∀ b o, h0.get? b = some o → s'.heap.get? b = some o := fun hm hkp b o e =>
    hm.heap b o (fun hb => by rw [hw0 b hb] at e; cases e) (hkp b o e)
  intro k
  induction k with
  | zero =>
    intro i s hk' hi hst hkp ⟨L, es, ep, t, hS, g⟩ hR
    have hin : i = n := by omega
    subst hin
    refine codeAny_builtin F.entry_set_update_loop ?_
    rw [Around.under_plainId F.plain_set_update_loop _]
    show wpAny _ A.in1 (pyNext (.ref I) >>= _) _ _ s
    refine wpAny_bind (W.done s _ _ hst fun s' hm => ?_)
    show wpAny _ A.in1 (ret Value.none) _ _ s'
    have hkp' := keepM hm hkp
    exact wpAny_pure (hR s' L es ep t (hm.mono hsub) (hS.keep fun o e => hm.heap S o hSw e) g hkp')
  | succ k ih =>
    intro i s hk' hi hst hkp ⟨L, es, ep, t, hS, g⟩ hR
    have hlt : i < n := by omega
    refine codeAny_builtin F.entry_set_update_loop ?_
    rw [Around.under_plainId F.plain_set_update_loop _]
    show wpAny _ A.in1 (pyNext (.ref I) >>= _) _ _ s
    refine wpAny_bind (W.item i s _ _ hlt hst fun v s' hP hst' hm => ?_)
    obtain ⟨p, hp, rfl⟩ := hval i v hP
    have hkp' := keepM hm hkp
    have sub : ∀ p ∈ L, p ∈ ks := fun p hp => List.mem_of_mem_take (g.sub p hp)
    have hS' : SetK' w hs s'.heap S L es ep t := hS.keep fun o e => hm.heap S o hSw e
    have hx : is s'.heap p.2 p.1 := isk (hk p (List.mem_of_getElem? hp)) hkp'
    show wpAny _ A.in1 (holding [Value.ref p.1] (setAdd S (.ref p.1)) >>= _) _ _ s'
    refine wpAny_bind (wpAny_holding ?_)
    unfold setAdd
    refine wpAny_holding ?_
    refine wpAny_bind (O.hash hu hx fun tk htk => ?_)
    refine addK (s := { s' with toks := tk }) O hS' (fun q hq => isk (hk q (sub q hq)) hkp') hx hu (fun hm2 => ?_) fun b h' L' es' ep' t' hsb hS2 c1 c2 => ?_
    · have := hfew (p.2 :: L.map (·.2)) (List.nodup_cons.mpr ⟨hm2, hS'.nd⟩) fun x hx => by
        rcases List.mem_cons.mp hx with rfl | hx
        · exact List.mem_map.mpr ⟨p, List.mem_of_getElem? hp, rfl⟩
        · obtain ⟨q, hq, rfl⟩ := List.mem_map.mp hx
          exact List.mem_map.mpr ⟨q, sub q hq, rfl⟩
      simpa using this
    have g' : GotK ks (i + 1) L' := by
      rcases Classical.em (p.2 ∈ L.map (·.2)) with c | c
      · rw [c1 c]; exact g.same hp c
      · exact g.more hp (c2 c)
    have hkp2 : ∀ b o, h0.get? b = some o → h'.get? b = some o := fun b o e => (hsb.2 b (fun z => by rw [z, hS0] at e; cases e)).trans (hkp' b o e)
    refine wpAny_pure ⟨plainId_quiet F.plain_set_update_loop _, ih (i + 1) _ (by omega) hlt (W.frame _ s' _ _ hst' htk fun b hb o e => ?_) hkp2 ⟨L', es', ep', t', hS2, g'⟩ fun s'' L2 es2 ep2 t2 hm'' hS'' g'' hkp'' => ?_⟩
    · rw [hsb.2 b (fun h : b = S => hSf (by rw [← h]; exact hb))]; exact e
    · refine hR s'' L2 es2 ep2 t2 (Moved.trans W.gtrans ((hm.mono hsub).then_heap htk fun b o hb e => ?_) hm'') hS'' g'' hkp''
      rw [hsb.2 b (fun h : b = S => hb (by rw [h]; exact List.mem_cons_self))]; exact e
theorem call_set_K (O : KOps P w κ is hs) {l : Addr} {items : Array Value} (ks : List (Addr × κ)) {Q : Value → Shared → Prop} (hh : A.handled = none) (hl : s.heap.IsList l items) (hit : items.toList = ks.map fun p => Value.ref p.1)
    (hk : ∀ p ∈ ks, is s.heap p.2 p.1) (hfew : ∀ D : List κ, D.Nodup → (∀ x ∈ D, x ∈ ks.map (·.2)) → D.length < 64) (hu : A.units + 20 < cLine)
    (q : ∀ h' tk L es ep t, SetK' w hs h' s.heap.objs.size L es ep t → GotK ks ks.length L → (∀ b o, s.heap.get? b = some o → h'.get? b = some o) → Q (.ref s.heap.objs.size) { s with heap := h', toks := tk }) : wpAny (model P w) A (call (.type "set") [.ref l]) Q E s := by
  have hlen : items.size = ks.length := by
    have z := congrArg List.length hit
    rwa [Array.length_toList, List.length_map] at z
  have lta : l < s.heap.objs.size := let ⟨o, ho, _⟩ := hl; Heap.lt_size ho
  have one : (s.heap.push (emptySet w)).objs.size = s.heap.objs.size + 1 := Heap.size_push ..
  refine set_of_list hl (fun h' => ∃ L es ep t, SetK' w hs h' s.heap.objs.size L es ep t ∧ GotK ks ks.length L) (fun R hR => ?_) fun h' tk ⟨L, es, ep, t, R, g⟩ kept => q h' tk L es ep t R g kept
  have neI : l ≠ (s.heap.push (emptySet w)).objs.size := by rw [one]; exact Nat.ne_of_lt (Nat.lt_succ_of_lt lta)
  have notin : s.heap.objs.size ∉ [(s.heap.push (emptySet w)).objs.size, l] := by
    rw [one]
    simp only [List.mem_cons, List.not_mem_nil, or_false, not_or]
    exact ⟨Nat.ne_of_lt (Nat.lt_succ_self _), Nat.ne_of_gt lta⟩
  have fresh : ((s.heap.push (emptySet w)).push (listIt l)).get? s.heap.objs.size = some (emptySet w) := Heap.get?_push_of_some _ (Heap.get?_push_size _ rfl)
  have keep0 : ∀ b o, s.heap.get? b = some o → ((s.heap.push (emptySet w)).push (listIt l)).get? b = some o := fun b o e => Heap.get?_push_of_some _ (Heap.get?_push_of_some _ e)
  refine set_update_K O ((Walks.list (A := A.in1.in1.in1) hh _ l neI items).toS) s.heap.objs.size notin ks hlen hfew (fun i v hv => ?_) s.heap hk (Heap.get?_none_of_le (Nat.le_refl _)) (fun b hb => ?_) (by simp only [Around.in1_units]; omega) (items.size - 0) 0 _ rfl (Nat.zero_le _)
    ⟨⟨_, Heap.get?_push_size _ rfl, rfl, rfl⟩, (hl.push _).push _⟩ keep0 ⟨[], _, _, _, setK_fresh fresh, GotK.zero ks⟩ fun s' L es ep t hm hS g kp => ?_
  · have e : (ks.map fun p => Value.ref p.1)[i]? = some v := by rw [← hit, Array.getElem?_toList]; exact hv
    rw [List.getElem?_map] at e
    obtain ⟨p, hp, rfl⟩ := Option.map_eq_some_iff.mp e
    exact ⟨p, hp, rfl⟩
  · rw [List.mem_singleton.mp hb]
    exact Heap.get?_none_of_le (by rw [one]; exact Nat.le_succ _)
  · obtain ⟨h', g', d', tk', os'⟩ := s'
    obtain rfl : g' = s.gens := hm.gens
    obtain rfl : d' = s.drawn := hm.drawn
    obtain rfl : os' = s.os := hm.os
    exact hR h' tk' ⟨L, es, ep, t, hS, by rw [← hlen]; exact g⟩ kp
end
end Lv

namespace Lv
open PySem PySem.Spec PyProof.Rows L2 TS
abbrev eQ (q : Mir.Quad) : PyData := .tuple [.int q.1, .int q.2.1, .int q.2.2.1, .int q.2.2.2]
abbrev eL (l : List Mir.Quad) : PyData := .tuple (l.map eQ)
section
variable {X : Cx} {pins : List (Addr × Obj)} {σ : L2.St} {H0 H : Hp} {s : Shared}
theorem ints_nested : ∀ {ns : List Int} {us : List Value} {h : Heap}, Vals (ns.map V.int) us → NestedAll h (ns.map NestedKey.num) us
  | [], _, _, .nil => .nil
  | n :: ns, _, _, .cons r t => by
    obtain ⟨tk, rfl⟩ := r
    exact .cons (.int n tk) (ints_nested t)
theorem quads_nested (I : Inv X pins σ H s) (w : Same H0 H) : ∀ {qs : List Mir.Quad} {xs : List V} {us : List Value}, RepL H0 xs (qs.map eQ) → Vals xs us → NestedAll s.heap (qs.map kQ) us
  | [], _, _, .nil, .nil => .nil
  | q :: qs, _, _, .cons r t, .cons ru tu => by
    refine .cons ?_ (quads_nested I w t tu)
    obtain ⟨a, xs, rfl, ha, rl⟩ := rep_tup r
    cases ru
    have ex := rep_ints (ns := [q.1, q.2.1, q.2.2.1, q.2.2.2]) rl
    subst ex
    obtain ⟨its, rv, ⟨o, ho, hc, n, hd⟩, _⟩ := I.tuple (SqT.of (w _ _ ha))
    exact .tup ho hc hd (by simpa using ints_nested (ns := [q.1, q.2.1, q.2.2.1, q.2.2.2]) rv)
theorem lot_at (I : Inv X pins σ H s) (w : Same H0 H) {l : List Mir.Quad} {v : V} {u : Value} (r : Rep H0 v (eL l)) (ru : RelV v u) : ∃ a, v = .ref a ∧ u = .ref a ∧ IsLot s.heap l a := by
  obtain ⟨a, xs, rfl, ha, rl⟩ := rep_tup r
  cases ru
  obtain ⟨its, rv, ⟨o, ho, hc, n, hd⟩, _⟩ := I.tuple (SqT.of (w _ _ ha))
  exact ⟨a, rfl, rfl, .tup ho hc hd (by simpa using quads_nested I w rl rv)⟩
theorem lots_at (I : Inv X pins σ H s) (w : Same H0 H) : ∀ {ls : List (List Mir.Quad)} {xs : List V} {us : List Value}, RepL H0 xs (ls.map eL) → Vals xs us → ∃ ks : List (Addr × List Mir.Quad), us = ks.map (fun p => Value.ref p.1) ∧ ks.map (·.2) = ls ∧ ∀ p ∈ ks, IsLot s.heap p.2 p.1
  | [], _, _, .nil, .nil => ⟨[], rfl, rfl, fun p h => by cases h⟩
  | l :: ls, _, _, .cons r t, .cons ru tu => by
    obtain ⟨a, rfl, rfl, hl⟩ := lot_at I w r ru
    obtain ⟨ks, h1, h2, h3⟩ := lots_at I w t tu
    refine ⟨(a, l) :: ks, by rw [h1]; rfl, by rw [List.map_cons, h2], fun p hp => ?_⟩
    rcases List.mem_cons.mp hp with rfl | hp
    · exact hl
    · exact h3 p hp
end
theorem nodup_le {κ : Type} [DecidableEq κ] : ∀ {D E : List κ}, D.Nodup → (∀ x ∈ D, x ∈ E) → D.length ≤ E.length
  | [], _, _, _ => Nat.zero_le _
  | x :: D, E, hD, hs => by
    have h1 := List.nodup_cons.mp hD
    have hx := hs x List.mem_cons_self
    have ih := nodup_le (E := E.erase x) h1.2 fun y hy => by
      rw [List.mem_erase_of_ne (fun e => h1.1 (by rw [← e]; exact hy))]
      exact hs y (List.mem_cons_of_mem _ hy)
    have := List.length_erase_of_mem hx
    have hpos : 0 < E.length := List.length_pos_of_mem hx
    simp only [List.length_cons]
    omega
section
variable {X : Cx} {ρ : Env1} {e f : Expr} {p p2 q2 pos cpos apos op : Pos} {H0 H : Hp} {σ : L2.St}
/-- len(set(xs)) of lots -/
theorem j_lenSet {ls D : List (List Mir.Quad)} (hc : X.calm = true) (hu : X.A.units + 64 < cLine) (ha : J X ρ e (.list (ls.map eL))) (hD : D.Nodup) (hm : ∀ x, x ∈ D ↔ x ∈ ls) (h64 : D.length < 64) (hm1 : X.mg "len" = none) (hm2 : X.mg "set" = none) (hg1 : Gl X "len" := by rfl) (hg2 : Gl X "set" := by rfl)
    (na : starEach [e] X.env = (false, eval e X.env) :: starEach [] X.env := by rfl) : J X ρ (.Call (.Name "len" p) [.Call (.Name "set" p2) [e] [] q2] [] pos) (.int D.length) := fun H0 H σ Q w q pins s I => by
  refine Call_ (ld_blt I hg1 hm1 PySem.boot_len ?_)
  refine PyProof.Rows.callWith_builtin1 (PyProof.Rows.args_cons ?_ rfl) rfl rfl
  refine Call_ (ld_blt I hg2 hm2 PyProof.Rows.boot_set ?_)
  refine PyProof.Rows.callWith_type1 (PyProof.Rows.args_cons (thn (ha.run w (Q := fun v H' => ∃ a xs H0', v = V.ref a ∧ H' a = some (.lst xs) ∧ Le H0 H H0' H' ∧ RepL H0' xs (ls.map eL)) (fun v H1 H2 l1 w1 r1 => by
    obtain ⟨a, xs, rfl, hA, rl⟩ := rep_lst r1
    exact ⟨a, xs, H1, rfl, w1.w _ _ hA, l1, rl⟩) pins s I) fun v s1 ⟨x, H1, I1, r1, q1⟩ => PyProof.Rows.args_nil ?_) na) na rfl
  obtain ⟨a, xs, H0', rfl, hA, l1, rl⟩ := q1
  cases r1
  obtain ⟨its, r, pl, hz⟩ := I1.list (SqL.of hA)
  obtain ⟨ks, h1, h2, h3⟩ := lots_at I1 l1.w rl r
  refine call_set_K (lotOps X.prog X.w) ks (I1.ok.hd hc) pl.isList (by simpa using h1) h3 (fun E hE hs => ?_) (by omega) fun h' tk L es ep t R g hk => ?_
  · rw [h2] at hs
    exact Nat.lt_of_le_of_lt (nodup_le hE fun x hx => (hm x).mpr (hs x hx)) h64
  · obtain ⟨o, ho, hex, hd⟩ := R.ob
    have I2 : Inv X pins σ H1 { s1 with heap := h', toks := tk } := I1.kept fun b o e => hk b o e
    refine PyProof.Rows.args_nil ?_
    have hL : L.length = D.length := by
      have m1 : ∀ x, x ∈ L.map (·.2) ↔ x ∈ D := fun x => by
        rw [hm, ← h2]
        constructor
        · intro hx
          obtain ⟨y, hy, rfl⟩ := List.mem_map.mp hx
          exact List.mem_map.mpr ⟨y, List.mem_of_mem_take (g.sub y hy), rfl⟩
        · intro hx
          obtain ⟨y, hy, rfl⟩ := List.mem_map.mp hx
          exact g.all y (by rw [List.take_length]; exact hy)
      have a1 := nodup_le R.nd fun x hx => (m1 x).mp hx
      have a2 := nodup_le hD fun x hx => (m1 x).mpr hx
      rw [List.length_map] at a1 a2
      omega
    refine call_len_set ho hex hd R.fits (by rw [R.size]; have := R.few; omega) ⟨.int D.length, H1, I2.tok _, ⟨_, by rw [R.size, hL]⟩, q _ H0' H1 l1 (.int _)⟩

/-! ### dicts keyed by lots -/
abbrev dictO (d : Addr) (o : Obj) : HO := .ext fun h => h.get? d = some o ∧ (d == sysModules) = false
theorem dictO_ok {P : Program} {w : World} {H : Hp} {h : Heap} {d : Addr} {o : Obj} (e : h.get? d = some o) (n : (d == sysModules) = false) : ObjOk P w H h d (dictO d o) :=
  ⟨⟨e, n⟩, ⟨o, e⟩, fun _ _ p k => ⟨k o p.1, p.2⟩⟩
abbrev Ent := List Mir.Quad × Addr × Value
abbrev DD := List (List Mir.Quad × PyData)
structure DOk (P : Program) (w : World) (o : Obj) (xs : List Ent) : Prop where
  ex : o.ExactDict
  dat : ∃ es ep, o.data = .dict es ep ∧ es.toList = xs.map (entryOfKey (lotKind P w))
  nd : (xs.map (·.1)).Nodup
def EntRel (H0 : Hp) (x : Ent) (p : List Mir.Quad × PyData) : Prop := x.1 = p.1 ∧ Rep H0 (.ref x.2.1) (eL x.1) ∧ ∃ v, RelV v x.2.2 ∧ Rep H0 v p.2
theorem EntRel.mono {H0 H0' : Hp} (s : Same H0 H0') {x : Ent} {p : List Mir.Quad × PyData} (h : EntRel H0 x p) : EntRel H0' x p := ⟨h.1, h.2.1.mono s, let ⟨v, a, b⟩ := h.2.2; ⟨v, a, b.mono s⟩⟩
/-- at l, a dict that holds ps -/
def DAt (P : Program) (w : World) (H0 H : Hp) (l : Addr) (ps : DD) : Prop := ∃ o xs, H l = some (dictO l o) ∧ DOk P w o xs ∧ Paired (EntRel H0) xs ps
theorem DAt.le {P : Program} {w : World} {H0 H H0' H' : Hp} {l : Addr} {ps : DD} (h : DAt P w H0 H l ps) (le : Le H0 H H0' H') : DAt P w H0' H' l ps :=
  let ⟨o, xs, e, k, r⟩ := h; ⟨o, xs, le.s _ _ e, k, Paired.mapP r fun _ _ z => z.mono le.s0⟩
def getD (ps : DD) (k : List Mir.Quad) : Option PyData := (ps.find? fun p => decide (p.1 = k)).map (·.2)
def putD (ps : DD) (k : List Mir.Quad) (d : PyData) : DD := if (getD ps k).isSome then ps.map (fun p => if p.1 = k then (p.1, d) else p) else ps ++ [(k, d)]
theorem atKey_rel {H0 : Hp} {k : List Mir.Quad} : ∀ {xs : List Ent} {ps : DD}, Paired (EntRel H0) xs ps → (∃ b u v d, atKey xs k = some (b, u) ∧ getD ps k = some d ∧ RelV v u ∧ Rep H0 v d) ∨ (atKey xs k = none ∧ getD ps k = none)
  | _, _, .nil => .inr ⟨rfl, rfl⟩
  | x :: xs, p :: ps, .cons r t => by
    obtain ⟨h1, _, v, h3, h4⟩ := r
    by_cases hk : x.1 = k
    · left
      refine ⟨x.2.1, x.2.2, v, p.2, ?_, ?_, h3, h4⟩
      · unfold atKey; rw [List.find?_cons_of_pos (by simpa using hk)]; rfl
      · unfold getD; rw [List.find?_cons_of_pos (by rw [← h1]; simpa using hk)]; rfl
    · have e1 : atKey (x :: xs) k = atKey xs k := by unfold atKey; rw [List.find?_cons_of_neg (by simpa using hk)]
      have e2 : getD (p :: ps) k = getD ps k := by unfold getD; rw [List.find?_cons_of_neg (by rw [← h1]; simpa using hk)]
      rw [e1, e2]
      exact atKey_rel t
theorem put_rel {H0 : Hp} {k : List Mir.Quad} {b : Addr} {v : V} {u : Value} {d : PyData} (rb : Rep H0 (.ref b) (eL k)) (ru : RelV v u) (rd : Rep H0 v d) {xs : List Ent} {ps : DD} (h : Paired (EntRel H0) xs ps) : Paired (EntRel H0) (storedH xs k b u) (putD ps k d) := by
  have app : ∀ {xs : List Ent} {ps : DD}, Paired (EntRel H0) xs ps → Paired (EntRel H0) (xs ++ [(k, b, u)]) (ps ++ [(k, d)]) := fun {xs ps} h => by
    induction h with
    | nil => exact .cons ⟨rfl, rb, v, ru, rd⟩ .nil
    | cons r _ ih => exact .cons r ih
  have mp : ∀ {xs : List Ent} {ps : DD}, Paired (EntRel H0) xs ps → Paired (EntRel H0) (xs.map (putAt k u)) (ps.map fun p => if p.1 = k then (p.1, d) else p) := fun {xs ps} h => by
    induction h with
    | nil => exact .nil
    | @cons x p _ _ r _ ih =>
      refine .cons ?_ ih
      obtain ⟨h1, h2, h3⟩ := r
      unfold putAt
      dsimp only
      by_cases hk : x.1 = k
      · rw [if_pos hk, if_pos (h1 ▸ hk)]
        exact ⟨h1, h2, v, ru, rd⟩
      · rw [if_neg hk, if_neg (h1 ▸ hk)]
        exact ⟨h1, h2, h3⟩
  unfold storedH putD
  rcases atKey_rel (k := k) h with ⟨b', u', v', d', e1, e2, _, _⟩ | ⟨e1, e2⟩
  · rw [e1, e2]
    exact mp h
  · rw [e1, e2]
    exact app h
theorem DAt.raw {P : Program} {w : World} {pins : List (Addr × Obj)} {s : Shared} {l : Addr} {o : Obj} (hP : X.prog = P) (hw : X.w = w) (I : Inv X pins σ H s) (e : H l = some (dictO l o)) : s.heap.get? l = some o ∧ (l == sysModules) = false :=
  (I.hok l _ e).1
theorem ent_keys {pins : List (Addr × Obj)} {s : Shared} (I : Inv X pins σ H s) (w : Same H0 H) : ∀ {xs : List Ent} {ps : DD}, Paired (EntRel H0) xs ps → ∀ x ∈ xs, IsLot s.heap x.1 x.2.1
  | _, _, .nil, x, hx => by cases hx
  | y :: xs, _ :: ps, .cons r t, x, hx => by
    rcases List.mem_cons.mp hx with rfl | hx
    · obtain ⟨a, e1, e2, h⟩ := lot_at I w r.2.1 (u := .ref x.2.1) rfl
      cases e1
      exact h
    · exact ent_keys I w t x hx
theorem DOk.full {pins : List (Addr × Obj)} {s : Shared} {l : Addr} {o : Obj} {xs : List Ent} {ps : DD} (k : DOk X.prog X.w o xs) (I : Inv X pins σ H s) (w : Same H0 H) (e : H l = some (dictO l o)) (r : Paired (EntRel H0) xs ps) : s.heap.DictOfH (lotKind X.prog X.w) l xs :=
  let ⟨es, ep, h1, h2⟩ := k.dat
  ⟨o, es, ep, (I.hok l _ e).1.1, k.ex, h1, h2, ent_keys I w r, k.nd⟩
theorem DOk.of {P : Program} {w : World} {h : Heap} {l : Addr} {xs : List Ent} (d : h.DictOfH (lotKind P w) l xs) : ∃ o, h.get? l = some o ∧ DOk P w o xs :=
  let ⟨o, es, ep, h1, h2, h3, h4, _, h6⟩ := d
  ⟨o, h1, h2, ⟨es, ep, h3, h4⟩, h6⟩
/-- {} -/
theorem w_dnew {Q : VK} (w : Wd H0 H σ ρ) (q : ∀ l, H l = none → Le H0 H H0 (upd H l (dictO l { cls := .type "dict", data := .dict #[] })) → DAt X.prog X.w H0 (upd H l (dictO l { cls := .type "dict", data := .dict #[] })) l [] → Q (.ref l) (upd H l (dictO l { cls := .type "dict", data := .dict #[] }))) :
    wE X (.Dict [] [] pos) σ H Q := fun pins s I =>
  wpAny_Dict_empty ⟨.ref s.heap.objs.size, _, I.laid (a := s.heap.objs.size) (t' := s.toks) (fun _ _ q => Heap.get?_push_of_some _ q) (Nat.le_refl _) (dictO_ok (Heap.get?_push_size _ rfl) (beq_eq_false_iff_ne.mpr (Ne.symm (Nat.ne_of_lt I.big)))), rfl, by
    have n := I.hok.fresh (Nat.le_refl s.heap.objs.size)
    exact q _ n ((Le.refl w.w).own n (w.w.free n)) ⟨_, [], upd_same, ⟨⟨rfl, rfl, rfl⟩, ⟨#[], 0, rfl, rfl⟩, List.nodup_nil⟩, .nil⟩⟩
section
variable {i : Nat} {nm : Str} {l : Addr} {ps : DD} {k : List Mir.Quad} {df d : PyData}
theorem lot_room {A : Around} (hu : A.units + 64 < cLine) : A.in1.units + 8 < cLine := by
  simp only [Around.in1_units]
  omega
/-- d.get(k, x) -/
theorem w_dget2 {Q : VK} (hu : X.A.units + 64 < cLine) (m : M2 X (.Name nm op) "get" apos e f cpos) (hN : X.N[i]? = some nm) (hv : Vis X.env.scope nm) (hd : (nm == ("__debug__" : Str)) = false) (hcd : (nm == ("__classdict__" : Str)) = false)
    (he : J X ρ e (eL k)) (hf : J X ρ f df) (w : Wd H0 H σ ρ) (hσ : σ[i]? = some (some (.ref l))) (at_ : DAt X.prog X.w H0 H l ps)
    (q : ∀ v H0' H', Le H0 H H0' H' → Rep H0' v ((getD ps k).getD df) → Q v H') : wE X (.Call (.Attribute (.Name nm op) "get" apos) [e, f] [] cpos) σ H Q := fun pins s I => by
  refine wpAny_Call_method m.base m.few m.line PySem.F.plainAttrs_dict PySem.F.slot_dict_get PySem.F.type_dict_get (thn ((pe_var hN hv hd hcd).run pins s σ H (fun x H1 => x = .ref l ∧ H1 = H) I ⟨_, hσ, rfl, rfl⟩) fun u s1 ⟨x, H1, I1, rx, q1⟩ => ?_)
  obtain ⟨rfl, rfl⟩ := q1
  obtain rfl : u = Value.ref l := rx
  obtain ⟨o, xs, e1, ok, r⟩ := id at_
  have full := ok.full I1 w.w e1 r
  refine ⟨full.typeIs, fun b z => by cases z; exact ⟨o, (I1.hok l _ e1).1.1, ok.ex.2.1⟩, ?_⟩
  rw [m.trees]
  refine Calls.callWith_builtin rfl (Calls.evalArgs_plain (Calls.spliced_cons (thn (he.run w (Q := fun y H2 => ∃ H0', Le H0 H1 H0' H2 ∧ Wd H0' H2 σ ρ ∧ Rep H0' y (eL k)) (fun v A B l1 w1 r1 => ⟨A, l1, w1, r1⟩) pins s1 I1) fun iv s2 ⟨y, H2, I2, ry, H0', l1, w1, r1⟩ =>
    Calls.spliced_cons (thn (hf.run w1 (Q := fun z H3 => ∃ H0'', Le H0' H2 H0'' H3 ∧ Rep H0'' z df) (fun v A B l2 w2 r2 => ⟨A, l2, r2⟩) pins s2 I2) fun fv s3 ⟨z, H3, I3, rz, H0'', l2, r2⟩ => Calls.spliced_nil ?_))))
  obtain ⟨b, rfl, rfl, hlot⟩ := lot_at I3 l2.w (r1.mono l2.s0) ry
  obtain ⟨o', xs', e2, ok2, rr⟩ := at_.le (l1.trans l2)
  have full2 := ok2.full I3 l2.w e2 rr
  refine call_meetsIn PySem.F.slot_dict_get full2.typeIs PySem.F.entry_dict_get (PySem.F.args_dict_get_3 _ _ _) (meetsH_dict_get_default (lotKind X.prog X.w) l b (I3.hok l _ e2).1.2 fv) ⟨lot_room hu, k, xs', hlot, full2, ?_⟩
  rcases atKey_rel (k := k) rr with ⟨b', u', v', d', h1, h2, h3, h4⟩ | ⟨h1, h2⟩
  · rw [h1]
    refine ⟨v', H3, I3.tok _, h3, q v' H0'' H3 (l1.trans l2) ?_⟩
    rw [h2]
    exact h4
  · rw [h1]
    refine ⟨z, H3, I3.tok _, rz, q z H0'' H3 (l1.trans l2) ?_⟩
    rw [h2]
    exact r2
/-- d[k] -/
theorem w_dget {Q : VK} (hu : X.A.units + 64 < cLine) (hN : X.N[i]? = some nm) (hv : Vis X.env.scope nm) (hd : (nm == ("__debug__" : Str)) = false) (hcd : (nm == ("__classdict__" : Str)) = false) (hs : NoSl e)
    (he : J X ρ e (eL k)) (w : Wd H0 H σ ρ) (hσ : σ[i]? = some (some (.ref l))) (at_ : DAt X.prog X.w H0 H l ps) (hk : getD ps k = some d)
    (q : ∀ v H0' H', Le H0 H H0' H' → Rep H0' v d → Q v H') : wE X (.Subscript (.Name nm op) e pos) σ H Q := fun pins s I => by
  refine subD_of PySem.F.slot_dict_getitem.lookup hs (thn ((pe_var hN hv hd hcd).run pins s σ H (fun x H1 => x = .ref l ∧ H1 = H) I ⟨_, hσ, rfl, rfl⟩) fun u s1 ⟨x, H1, I1, rx, q1⟩ => thn (he.run (H := H1) (by obtain ⟨rfl, rfl⟩ := q1; exact w) (Q := fun y H2 => ∃ H0', Le H0 H1 H0' H2 ∧ Rep H0' y (eL k)) (fun v A B l1 w1 r1 => ⟨A, l1, r1⟩) pins s1 I1) fun iv s2 ⟨y, H2, I2, ry, H0', l1, r1⟩ => ?_)
  obtain ⟨rfl, rfl⟩ := q1
  obtain rfl : u = Value.ref l := rx
  obtain ⟨b, rfl, rfl, hlot⟩ := lot_at I2 l1.w r1 ry
  obtain ⟨o', xs', e2, ok2, rr⟩ := at_.le l1
  have full2 := ok2.full I2 l1.w e2 rr
  refine ⟨full2.typeIs, ?_⟩
  rcases atKey_rel (k := k) rr with ⟨b', u', v', d', h1, h2, h3, h4⟩ | ⟨h1, h2⟩
  · rw [hk] at h2
    cases h2
    exact wpAny_getItem_heap (lot_room hu) hlot full2 h1 ⟨v', H2, I2.tok _, h3, q v' H0' H2 l1 h4⟩
  · rw [hk] at h2
    cases h2
/-- k not in d -/
theorem w_dnotin {Q : Bool → Hp → Prop} (hu : X.A.units + 64 < cLine) (hN : X.N[i]? = some nm) (hv : Vis X.env.scope nm) (hd : (nm == ("__debug__" : Str)) = false) (hcd : (nm == ("__classdict__" : Str)) = false)
    (he : J X ρ e (eL k)) (w : Wd H0 H σ ρ) (hσ : σ[i]? = some (some (.ref l))) (at_ : DAt X.prog X.w H0 H l ps)
    (q : ∀ H0' H', Le H0 H H0' H' → Q (!(getD ps k).isSome) H') : wT X (.Compare e [.NotIn] [.Name nm op] pos) σ H Q := by
  have pc : PC X .NotIn e (.Name nm op) (fun σ' H' Q' => σ' = σ ∧ H' = H ∧ ∀ H0' H'', Le H0 H H0' H'' → Q' (.bl (!(getD ps k).isSome)) H'') := ⟨fun pins s σ' H' Q' I ⟨e1, e2, h⟩ => by
    subst e1 e2
    refine thn (he.run w (Q := fun y H2 => ∃ H0', Le H0 H' H0' H2 ∧ Rep H0' y (eL k)) (fun v A B l1 w1 r1 => ⟨A, l1, r1⟩) pins s I) fun iv s1 ⟨y, H1, I1, ry, H0', l1, r1⟩ => thn ((pe_var hN hv hd hcd).run pins s1 σ' H1 (fun x H2 => x = .ref l ∧ H2 = H1) I1 ⟨_, hσ, rfl, rfl⟩) fun u s2 ⟨x, H2, I2, rx, q1⟩ => ?_
    obtain ⟨rfl, rfl⟩ := q1
    obtain rfl : u = Value.ref l := rx
    obtain ⟨b, rfl, rfl, hlot⟩ := lot_at I2 l1.w r1 ry
    obtain ⟨o', xs', e2, ok2, rr⟩ := at_.le l1
    have full2 := ok2.full I2 l1.w e2 rr
    refine wpAny_notIn_heap (lot_room hu) hlot (I2.hok l _ e2).1.2 full2 ?_
    have : (atKey xs' k).isSome = (getD ps k).isSome := by
      rcases atKey_rel (k := k) rr with ⟨b', u', v', d', h1, h2, h3, h4⟩ | ⟨h1, h2⟩
      · rw [h1, h2]; rfl
      · rw [h1, h2]; rfl
    rw [this]
    exact ⟨.bl (!(getD ps k).isSome), H2, I2.tok _, rfl, h _ _ l1⟩⟩
  exact of_pt (pt_cmp pc) ⟨rfl, rfl, fun H0' H'' l1 => ⟨_, rfl, q _ _ l1⟩⟩
end
end
end Lv

namespace Lv
open PySem PySem.Spec PyProof.Rows L2
section
variable {P : Program} {w : World} {K : PySem.W.Frag} {mg : Str → Option Value} {base : Heap}

/-! ### is_in -/
def RIsIn : List PyData → PyData → Prop := fun ds d => ∃ i lo hi : Int, ds = [.int i, .int lo, .int hi] ∧ d = .bool (decide (lo ≤ i) && decide (i ≤ hi))
theorem sc7 : FnScope ["value", "least", "most"] ["value", "least", "most"] (defScope (top 7)) := ⟨rfl, rfl, rfl, by decide +kernel, rfl, by decide +kernel, by decide +kernel⟩
theorem ok_is_in {f : Addr} {fd : FuncData} (F : Fun K "is_in" "is_in" (top 7) f fd) (T : Txt mg) : FnOk P w K mg base CX0 1 f fd ["value", "least", "most"] (SpR RIsIn) := by
  refine fn_ok F sc7 (fun ds d h => by obtain ⟨_, _, _, rfl, _⟩ := h; rfl) (fun cdv A outer s H E hr ds d h => ?_)
  obtain ⟨i, lo, hi, rfl, rfl⟩ := h
  refine ⟨_, js_end (j1_ret ?_), .inl rfl⟩
  refine j_and (isi' (.int i) (v' 0) ii T.isinstance T.int b_int) (fun _ => ?_) (fun h => nomatch h)
  refine j_and (j_not (isi' (.int i) (v' 0) ib T.isinstance T.bool b_bool)) (fun _ => ?_) (fun h => nomatch h)
  exact j_one (ch' (v' 1) (v' 0) (v' 2))

/-! ### power -/
def powI (b : Int) (n : Nat) : Int := b ^ n
def RPower : List PyData → PyData → Prop := fun ds d => ∃ (b : Int) (n : Nat), ds = [.int b, .int n] ∧ 0 ≤ b ∧ b ≤ 100 ∧ n ≤ 9 ∧ d = .int (b ^ n)
theorem sc19 : FnScope ["base", "times", "found", "k"] ["base", "times"] (defScope (top 19)) := ⟨rfl, rfl, rfl, by decide +kernel, rfl, by decide +kernel, by decide +kernel⟩
theorem ok_power {f : Addr} {fd : FuncData} (F : Fun K "power" "power" (top 19) f fd) (T : Txt mg) : FnOk P w K mg base CX0 1 f fd ["base", "times"] (SpR RPower) := by
  refine fn_ok F sc19 (fun ds d h => by obtain ⟨_, _, rfl, _⟩ := h; rfl) (fun cdv A outer s H E hr ds d h => ?_)
  obtain ⟨b, n, rfl, hb0, hb1, hn, rfl⟩ := h
  refine ⟨_, js_cons (set' 2 sc19.nd j_int) (js_cons (j1_for (xs := rangeI 0 (Int.toNat n)) (enc := .int) (fun k => [some (.int b), some (.int n), some (.int (b ^ k)), none]) (rangeI 0 (Int.toNat n)).length
    PassesOwn.never rfl (rg1' T.range (v' 1) (by omega) (by omega)) (g' 3 sc19.nd) ?_ (fun k u hu hk => ?_) (.inl ⟨rfl, rfl⟩) (fun _ => rfl)) (js_end (j1_ret (v' 2)))), .inl ?_⟩
  · exact sk (sk (se (by simp) (sk sub_nil)))
  · refine ⟨_, [3], jg_name (by simp), ?_⟩
    refine js_sub (js_cons (aug' 2 sc19.nd iop_mul (v' 0) ?_ (fun _ => .int _)) js_nil) ?_
    · exact .inr ⟨by omega, by omega⟩
    · exact sk (sk (se (by rw [Int.pow_succ]) (sd sub_nil)))
  · rw [rangeI_length]
    simp
end
end Lv

namespace Lv
open PySem PySem.Spec PyProof.Rows L2
section
variable {P : Program} {w : World} {K : PySem.W.Frag} {mg : Str → Option Value} {base : Heap}

/-! ### need_roof -/
def RRoof : List PyData → PyData → Prop := fun ds d => ∃ r : Int, ds = [.int r] ∧ 1 ≤ r ∧ r ≤ 9 ∧ d = .none
theorem sc16 : FnScope ["roof"] ["roof"] (defScope (top 16)) := ⟨rfl, rfl, rfl, by decide +kernel, rfl, by decide +kernel, by decide +kernel⟩
theorem ok_need_roof {f : Addr} {fd : FuncData} (F : Fun K "need_roof" "need_roof" (top 16) f fd) (T : Txt mg) (C7 : Cal P w K mg base 1 "is_in" ["value", "least", "most"] (SpR RIsIn)) : FnOk P w K mg base CX0 2 f fd ["roof"] (SpR RRoof) := by
  refine fn_ok F sc16 (fun ds d h => by obtain ⟨_, rfl, _⟩ := h; rfl) (fun cdv A outer s H E hr ds d h => ?_)
  obtain ⟨r, rfl, h1, h2, rfl⟩ := h
  refine ⟨_, js_cons (j1_if (jt_not (tv' (c' C7 hr (a2 (v' 0) (a2 j_int (a1 (gl' T.roof)))) ⟨_, _, _, rfl, rfl⟩))) (fun h => ?_) (fun _ => js_nil)) js_nil, .inr ⟨rfl, _, rfl⟩⟩
  rw [decide_eq_true h1, decide_eq_true h2] at h
  cases h

/-! ### is_edge -/
def REdge : List PyData → PyData → Prop := fun ds d => ∃ (e : Mir.Edge) (n : Int), ds = [eE e, .int n] ∧ 0 ≤ e.1 ∧ e.1 < e.2 ∧ e.2 < n ∧ d = .bool true
abbrev N14 : List Str := ["value", "many", "one"]
theorem sc14 : FnScope N14 ["value", "many"] (defScope (top 14)) := ⟨rfl, rfl, rfl, by decide +kernel, rfl, by decide +kernel, by decide +kernel⟩
theorem ok_is_edge {f : Addr} {fd : FuncData} (F : Fun K "is_edge" "is_edge" (top 14) f fd) (T : Txt mg) (C7 : Cal P w K mg base 1 "is_in" ["value", "least", "most"] (SpR RIsIn)) : FnOk P w K mg base CX0 2 f fd ["value", "many"] (SpR REdge) := by
  refine fn_ok F sc14 (fun ds d h => by obtain ⟨_, _, rfl, _⟩ := h; rfl) (fun cdv A outer s H E hr ds d h => ?_)
  obtain ⟨⟨i, j⟩, n, rfl, h0, h1, h2, rfl⟩ := h
  dsimp only at h0 h1 h2
  refine ⟨_, js_cons (j1_if (jt_pw (jw_or (jt_not (tv' (isi' (eE (i, j)) (v' 0) tt T.isinstance T.tuple b_tuple))) (fun _ => jw_or1 (jtc (k' := false) (jt_neI hr.units0 (lenT' T.len (v' 0)) j_int) rfl)) (fun h => nomatch (show false = true from h)))) (fun h => nomatch (show false = true from h)) (fun _ => js_nil)) (js_end (j1_ret ?_)), .inl rfl⟩
  refine j_and (k := true) (jc (j_eq (lc' (xs := [i, j]) (enc := PyData.int) (f := fun _ => none) [("one", 2)] rfl sc14.nd (ji_tup (ds := [PyData.int i, PyData.int j]) (v' 0)) (blkOk_by (N := N14) (sc := defScope (top 14)) (by decide +kernel)) (fun _ _ _ _ _ => g' 2 sc14.nd)
    (fun x hx => ⟨_, jg_name (by simp), fun _ _ _ _ _ => ⟨jts_one (jtc (jt_not (tv' (c' C7 hr (a2 (v' 2) (a2 j_int (a1 (j_sub (v' 1) j_int)))) ⟨x, 0, n - 1, rfl, rfl⟩))) ?_), fun d h => nomatch h⟩⟩) (by simp)) (j_lst ja_nil (Nat.zero_le _)) (peq_nil rfl (ru hr))) rfl) (fun _ => j_one ?_) (fun h => nomatch h)
  · have hk : (decide (0 ≤ x) && decide (x ≤ n - 1)) = true := by
      rw [Bool.and_eq_true, decide_eq_true_eq, decide_eq_true_eq]
      simp only [List.mem_cons, List.not_mem_nil, or_false] at hx
      omega
    rw [hk]
    rfl
  · exact jc (j_lt (ix' 0 (v' 0)) (ix' 1 (v' 0))) (by rw [decide_eq_true h1])
end
end Lv

namespace Lv
open PySem PySem.Spec PyProof.Rows L2
/-- a web of at most nine places: the edges' places, the edges strictly ascending -/
structure WebOk (n : Int) (es : List Mir.Edge) : Prop where
  lo : 1 ≤ n
  hi : n ≤ 9
  edge : ∀ e ∈ es, 0 ≤ e.1 ∧ e.1 < e.2 ∧ e.2 < n
  asc : ∀ (k : Nat) a b, es[k]? = some a → es[k + 1]? = some b → Mir.leE b a = false
  few : es.length ≤ 36
theorem le_edge (a b : Mir.Edge) : (!PySem.W.dataLt (eE b) (eE a)) = Mir.leE a b := congrFun (congrFun (PySem.W.dataLe_ii (β := Mir.Edge) Prod.fst Prod.snd) a) b
theorem placed_edges (es : List Mir.Edge) : placed (es.map eE) = es.zipIdx.map fun p => .tuple [.int (p.2 : Nat), eE p.1] := by
  unfold placed
  rw [List.zipIdx_map, List.map_map]
  rfl
section
variable {P : Program} {w : World} {K : PySem.W.Frag} {mg : Str → Option Value} {base : Heap}

/-! ### need_web -/
def RWeb : List PyData → PyData → Prop := fun ds d => ∃ n es, ds = [eW n es] ∧ WebOk n es ∧ d = .none
abbrev N15 : List Str := ["web", "index", "one"]
theorem sc15 : FnScope N15 ["web"] (defScope (top 15)) := ⟨rfl, rfl, rfl, by decide +kernel, rfl, by decide +kernel, by decide +kernel⟩
theorem ok_need_web {f : Addr} {fd : FuncData} (F : Fun K "need_web" "need_web" (top 15) f fd) (T : Txt mg) (C7 : Cal P w K mg base 1 "is_in" ["value", "least", "most"] (SpR RIsIn))
    (C14 : Cal P w K mg base 2 "is_edge" ["value", "many"] (SpR REdge)) : FnOk P w K mg base CX0 3 f fd ["web"] (SpR RWeb) := by
  refine fn_ok F sc15 (fun ds d h => by obtain ⟨_, _, rfl, _⟩ := h; rfl) (fun cdv A outer s H E hr ds d h => ?_)
  obtain ⟨n, es, rfl, W, rfl⟩ := h
  refine ⟨_, js_cons (j1_if (l := false) ?_ (fun h => nomatch h) (fun _ => js_nil)) (js_cons (j1_if (l := false) (jtc (jt_not (tv' (c' C7 (hr.mono (by decide)) (a2 (ix' 0 (v' 0)) (a2 j_int (a1 (gl' T.places)))) ⟨_, _, _, rfl, rfl⟩))) ?_) (fun h => nomatch h) (fun _ => js_nil))
    (js_cons (j1_for (xs := es.zipIdx) (enc := fun p => .tuple [.int (p.2 : Nat), eE p.1]) (fun _ => [some (eW n es), none, none]) es.zipIdx.length PassesOwn.never rfl
      (by rw [← placed_edges]; exact ji_enum T.enumerate (ix' 1 (v' 0))) (g2' 1 2 rfl sc15.nd) (sk (sk (sk sub_nil))) (fun k u hu hk => ⟨_, [1, 2], jg_pair (by simp) (by simp), js_sub (js_cons (j1_if (l := false) ?_ (fun h => nomatch h) (fun _ => js_nil)) js_nil) (sk (sd (sd sub_nil)))⟩)
      (.inl ⟨rfl, rfl⟩) (fun _ => rfl)) js_nil)), .inr ⟨rfl, _, rfl⟩⟩
  · refine jt_pw (jw_or (k := false) (jtc (jt_not (tv' (isi' (eW n es) (v' 0) tt T.isinstance T.tuple b_tuple))) rfl) (fun _ => jw_or (k := false) (jtc (jt_neI hr.units0 (lenT' T.len (v' 0)) j_int) rfl) (fun _ => jw_or1 (jtc (jt_not (tv' (isi' (.tuple (es.map eE)) (ix' 1 (v' 0)) tt T.isinstance T.tuple b_tuple))) rfl)) (fun h => nomatch h)) (fun h => nomatch h))
  · rw [decide_eq_true W.lo, decide_eq_true W.hi]
    rfl
  · obtain ⟨⟨i, j⟩, m⟩ := u
    have hm := List.getElem?_eq_some_iff.mp hu
    rw [List.getElem?_zipIdx] at hu
    cases hes : es[k]? with
    | none => rw [hes] at hu; cases hu
    | some e0 =>
      rw [hes] at hu
      simp only [Option.map_some, Option.some.injEq, Prod.mk.injEq, Nat.zero_add] at hu
      obtain ⟨rfl, rfl⟩ := hu
      have hv := W.edge _ (List.mem_of_getElem? hes)
      refine jt_pw (jw_or (k := false) (jtc (jt_not (tv' (c' C14 hr (a2 (v' 2) (a1 (ix' 0 (v' 0)))) ⟨(i, j), n, rfl, hv.1, hv.2.1, hv.2.2, rfl⟩))) rfl) (fun _ => jw_or1 (jt_pw ?_)) (fun h => nomatch h))
      by_cases hk0 : k = 0
      · subst hk0
        exact jw_and (k := false) (jtc (jt_gt (v' 1) j_int) rfl) (fun h => nomatch h) (fun _ => rfl)
      · obtain ⟨q, rfl⟩ : ∃ q, k = q + 1 := ⟨k - 1, by omega⟩
        have hl : q < es.length := by
          have := (List.getElem?_eq_some_iff.mp hes).1
          omega
        have hq : es[q]? = some es[q] := List.getElem?_eq_getElem hl
        refine jw_and (k := true) (jtc (jt_gt (v' 1) j_int) (decide_eq_true (by omega))) (fun _ => jw_and1 (jtc (jt_leD (v' 2) (ixv' (ix' 1 (v' 0)) (j_sub (v' 1) j_int) (by omega) (d := eE es[q]) ?_) ⟨rfl, by simp, ?_⟩) ?_)) (fun h => nomatch h)
        · have e1 : (((q + 1 : Nat) : Int) - 1).toNat = q := by omega
          rw [e1, List.getElem?_map, hq]
          rfl
        · exact ru (m := 1) hr
        · rw [le_edge]
          exact W.asc q _ _ hq hes
end
end Lv

namespace Lv
open PySem PySem.Spec PyProof.Rows L2
section
variable {P : Program} {w : World} {K : PySem.W.Frag} {mg : Str → Option Value} {base : Heap}

/-! ### need_table -/
def RTable : List PyData → PyData → Prop := fun ds d => ∃ n es r, ds = [eW n es, .int r] ∧ WebOk n es ∧ 1 ≤ r ∧ r ≤ 9 ∧ d = .none
abbrev N17 : List Str := ["web", "roof"]
theorem sc17 : FnScope N17 ["web", "roof"] (defScope (top 17)) := ⟨rfl, rfl, rfl, by decide +kernel, rfl, by decide +kernel, by decide +kernel⟩
theorem ok_need_table {f : Addr} {fd : FuncData} (F : Fun K "need_table" "need_table" (top 17) f fd) (T : Txt mg) (C15 : Cal P w K mg base 3 "need_web" ["web"] (SpR RWeb)) (C16 : Cal P w K mg base 2 "need_roof" ["roof"] (SpR RRoof)) :
    FnOk P w K mg base CX0 4 f fd ["web", "roof"] (SpR RTable) := by
  refine fn_ok F sc17 (fun ds d h => by obtain ⟨_, _, _, rfl, _⟩ := h; rfl) (fun cdv A outer s H E hr ds d h => ?_)
  obtain ⟨n, es, r, rfl, W, h1, h2, rfl⟩ := h
  exact ⟨_, js_cons (ex' (c' C15 hr (a1 (v' 0)) ⟨n, es, rfl, W, rfl⟩)) (js_cons (ex' (c' C16 (hr.mono (by decide)) (a1 (v' 1)) ⟨r, rfl, h1, h2, rfl⟩)) js_nil), .inr ⟨rfl, _, rfl⟩⟩

/-! ### all_heights -/
def RAll : List PyData → PyData → Prop := fun ds d => ∃ n r : Nat, ds = [.int n, .int r] ∧ n ≤ 9 ∧ r ≤ 9 ∧ (r + 1) ^ n ≤ 3000 ∧ d = .list ((Mir.every n r).map eH)
theorem every_le {n r k : Nat} (hk : k ≤ n) (h : (r + 1) ^ n ≤ 3000) : (Mir.every k r).length ≤ 3000 := by
  rw [Mir.every_length]
  exact Nat.le_trans (Nat.pow_le_pow_right (by omega) hk) h
theorem take_snoc {α : Type} {l : List α} {i : Nat} {x : α} (h : l[i]? = some x) : l.take (i + 1) = l.take i ++ [x] := by
  rw [List.take_add_one, h]
  rfl
theorem widen_snoc (r : Nat) (l : List (List Int)) (h : List Int) : Mir.widen r (l ++ [h]) = Mir.widen r l ++ (Mir.upto 0 (r + 1)).map fun x => h ++ [x] := by
  unfold Mir.widen
  rw [List.flatMap_append]
  simp
abbrev N18 : List Str := ["many", "roof", "found", "place", "more", "one", "height"]
theorem sc18 : FnScope N18 ["many", "roof"] (defScope (top 18)) := ⟨rfl, rfl, rfl, by decide +kernel, rfl, by decide +kernel, by decide +kernel⟩
theorem ok_all_heights {f : Addr} {fd : FuncData} (F : Fun K "all_heights" "all_heights" (top 18) f fd) (T : Txt mg) : FnOk P w K mg base CX0 1 f fd ["many", "roof"] (SpR RAll) := by
  refine fn_ok F sc18 (fun ds d h => by obtain ⟨_, _, rfl, _⟩ := h; rfl) (fun cdv A outer s H E hr ds d h => ?_)
  obtain ⟨n, r, rfl, hn, hr9, hz, rfl⟩ := h
  refine ⟨_, js_cons (set' 2 sc18.nd (j_lst (a1 (j_tup ja_nil (Nat.zero_le _))) (by simp))) (js_cons
    (j1_for (xs := rangeI 0 (Int.toNat n)) (enc := .int) (fun k => [some (.int n), some (.int r), some (.list ((Mir.every k r).map eH)), none, none, none, none]) (rangeI 0 (Int.toNat n)).length PassesOwn.never rfl
      (rg1' T.range (v' 0) (by omega) (by omega)) (g' 3 sc18.nd) (sk (sk (sk (sk (sk (sk (sk sub_nil))))))) (fun k u hu hk => ⟨_, [3], jg_name (by simp), ?_⟩) (.inl ⟨rfl, rfl⟩) (fun _ => rfl)) (js_end (j1_ret (v' 2)))), .inl ?_⟩
  · have hk' : k < n := by
      rw [rangeI_length] at hk
      omega
    have hl := every_le (Nat.le_of_lt hk') hz
    have hl2 := every_le hk' hz
    refine js_sub (js_cons (set' 4 sc18.nd (j_lst ja_nil (Nat.zero_le _))) (js_cons (j1_for (xs := Mir.every k r) (enc := eH) (fun i => [some (.int n), some (.int r), some (.list ((Mir.every k r).map eH)), some (.int u), some (.list ((Mir.widen r ((Mir.every k r).take i)).map eH)), none, none]) (Mir.every k r).length
      PassesOwn.never rfl (ji_list (v' 2)) (g' 5 sc18.nd) (sk (sk (sk (sk (sk (sk (sk sub_nil))))))) (fun i h hi hlt => ⟨_, [5], jg_name (by simp), ?_⟩) (.inl ⟨rfl, rfl⟩) (fun _ => rfl)) (js_cons (set' 2 sc18.nd (v' 4)) js_nil))) ?_
    · have hw : (Mir.widen r ((Mir.every k r).take i)).length + (r + 1) ≤ 3000 := by
        refine Nat.le_trans ?_ hl2
        show _ ≤ (Mir.widen r (Mir.every k r)).length
        rw [Mir.widen_length, Mir.widen_length, List.length_take, ← Nat.succ_mul]
        exact Nat.mul_le_mul_right _ (by omega)
      have hlen : h.length = k := (Mir.mem_every (List.mem_of_getElem? hi)).1
      refine js_sub (js_cons (set' 4 sc18.nd (j_catL (v' 4) (lc' (xs := rangeI 0 (Int.toNat (r + 1))) (enc := .int) (f := fun x => some (eH (h ++ [x]))) [("height", 6)] rfl sc18.nd (rg1' T.range (j_add (v' 1) j_int) (by omega) (by omega)) (blkOk_by (N := N18) (sc := defScope (top 18)) (by decide +kernel)) (fun _ _ _ _ _ => g' 6 sc18.nd)
        (fun x hx => ⟨_, jg_name (by simp), fun _ _ _ _ _ => ⟨jts_nil, fun d hd => ?_⟩⟩) (by rw [rangeI_length]; omega)) ?_)) js_nil) ?_
      · cases hd
        exact jc (j_catT (v' 5) (j_tup (a1 (v' 6)) (by simp)) (by simp; omega)) (by simp [eH])
      · rw [List.length_map, fm_some, List.length_map, rangeI_length]
        omega
      · refine sk (sk (sk (sk (se ?_ (sd (sk sub_nil))))))
        rw [take_snoc hi, widen_snoc, List.map_append, fm_some, List.map_map]
        have e1 : Int.toNat ((r : Int) + 1) = r + 1 := by omega
        rw [e1]
        rfl
    · rw [List.take_length]
      exact sk (sk (sk (sd (sd (sk (sk sub_nil))))))
  · rw [rangeI_length]
    simp
end
end Lv

namespace Lv
open PySem PySem.Spec PyProof.Rows L2
section
variable {P : Program} {w : World} {K : PySem.W.Frag} {mg : Str → Option Value} {base : Heap}

/-! ### need_listed, need_pairs -/
def RListed (most : Nat) : List PyData → PyData → Prop := fun ds d => ∃ (n r : Nat) (es : List Mir.Edge), ds = [eW n es, .int r] ∧ n ≤ 9 ∧ r ≤ 9 ∧ (r + 1) ^ n ≤ most ∧ d = .none
theorem pow_cast (r n : Nat) : ((r : Int) + 1) ^ n = (((r + 1) ^ n : Nat) : Int) := by
  rw [Int.natCast_pow]
  rfl
abbrev N20 : List Str := ["web", "roof"]
theorem sc20 : FnScope N20 ["web", "roof"] (defScope (top 20)) := ⟨rfl, rfl, rfl, by decide +kernel, rfl, by decide +kernel, by decide +kernel⟩
theorem ok_need_listed {f : Addr} {fd : FuncData} (F : Fun K "need_listed" "need_listed" (top 20) f fd) (T : Txt mg) (C19 : Cal P w K mg base 1 "power" ["base", "times"] (SpR RPower)) : FnOk P w K mg base CX0 2 f fd ["web", "roof"] (SpR (RListed 3000)) := by
  refine fn_ok F sc20 (fun ds d h => by obtain ⟨_, _, _, rfl, _⟩ := h; rfl) (fun cdv A outer s H E hr ds d h => ?_)
  obtain ⟨n, r, es, rfl, hn, hr9, hz, rfl⟩ := h
  refine ⟨_, js_cons (j1_if (l := false) (jtc (jt_gt (c' C19 hr (a2 (j_add (v' 1) j_int) (a1 (ix' 0 (v' 0)))) ⟨(r : Int) + 1, n, rfl, by omega, by omega, hn, rfl⟩) (gl' T.listed)) ?_) (fun h => nomatch h) (fun _ => js_nil)) js_nil, .inr ⟨rfl, _, rfl⟩⟩
  rw [pow_cast]
  exact decide_eq_false (by omega)
theorem sc27 : FnScope N20 ["web", "roof"] (defScope (top 27)) := ⟨rfl, rfl, rfl, by decide +kernel, rfl, by decide +kernel, by decide +kernel⟩
theorem ok_need_pairs {f : Addr} {fd : FuncData} (F : Fun K "need_pairs" "need_pairs" (top 27) f fd) (T : Txt mg) (C19 : Cal P w K mg base 1 "power" ["base", "times"] (SpR RPower)) : FnOk P w K mg base CX0 2 f fd ["web", "roof"] (SpR (RListed 300)) := by
  refine fn_ok F sc27 (fun ds d h => by obtain ⟨_, _, _, rfl, _⟩ := h; rfl) (fun cdv A outer s H E hr ds d h => ?_)
  obtain ⟨n, r, es, rfl, hn, hr9, hz, rfl⟩ := h
  refine ⟨_, js_cons (j1_if (l := false) (jtc (jt_gt (c' C19 hr (a2 (j_add (v' 1) j_int) (a1 (ix' 0 (v' 0)))) ⟨(r : Int) + 1, n, rfl, by omega, by omega, hn, rfl⟩) (gl' T.pairs)) ?_) (fun h => nomatch h) (fun _ => js_nil)) js_nil, .inr ⟨rfl, _, rfl⟩⟩
  rw [pow_cast]
  exact decide_eq_false (by omega)

/-! ### steep_in -/
/-- edges and heights that fit -/
def Fit (es : List Mir.Edge) (h : List Int) : Prop := es.length ≤ 36 ∧ ∀ e ∈ es, 0 ≤ e.1 ∧ e.1 < h.length ∧ 0 ≤ e.2 ∧ e.2 < h.length
def RSteep : List PyData → PyData → Prop := fun ds d => ∃ (n : Int) (es : List Mir.Edge) (h : List Int), ds = [eW n es, eH h] ∧ Fit es h ∧ d = .list ((Mir.steep es h).map eE)
theorem snoc_fm {α β : Type} (f : α → Option β) {l : List α} {i : Nat} {x : α} (h : l[i]? = some x) : (l.take (i + 1)).filterMap f = (l.take i).filterMap f ++ (f x).toList := filterMap_snoc f h
abbrev N23 : List Str := ["web", "heights", "found", "one", "other"]
theorem sc23 : FnScope N23 ["web", "heights"] (defScope (top 23)) := ⟨rfl, rfl, rfl, by decide +kernel, rfl, by decide +kernel, by decide +kernel⟩
theorem ok_steep_in {f : Addr} {fd : FuncData} (F : Fun K "steep_in" "steep_in" (top 23) f fd) (T : Txt mg) : FnOk P w K mg base CX0 1 f fd ["web", "heights"] (SpR RSteep) := by
  refine fn_raw F sc23 (fun ds d h => by obtain ⟨_, _, _, rfl, _⟩ := h; rfl) (fun cdv A outer s H E hr ds d h H0 G σ Q wd q => ?_)
  obtain ⟨n, es, h, rfl, ⟨few, fit⟩, rfl⟩ := h
  refine b_cons (new' 2 sc23.nd wd fun l nl le0 own0 w0 => b_cons (s_for (ρ := [some (eW n es), some (eH h), none, none, none]) (xs := es) (enc := eE) PassesOwn.never rfl (ji_tup (ix' 1 (v' 0))) (g2' 3 4 rfl sc23.nd) (fun _ => rfl) w0 fun G0 G1 le1 w1 => ?_))
  refine ⟨fun k K0 K τ => Same G0 K0 ∧ Le H0 G K0 K ∧ Own G K0 K l (((es.take k).filterMap (Mir.steepOne h)).map eE) ∧ Wd K0 K τ [some (eW n es), some (eH h), none, none, none] ∧ τ[2]? = some (some (.ref l)),
    ⟨Same.refl _, le0.trans le1, own0.le le1, w1, ?_⟩, fun k K0 K τ iv => ⟨iv.1, iv.2.1.w⟩, ?_, ?_⟩
  · rw [List.getElem?_set_self (by rw [← wd.st.len]; exact (by decide : 2 < 5))]
  · rintro k ⟨i, j⟩ K0 K τ hk ⟨s0, le, own, wd2, hτ⟩ v K0' K' le2 rv
    obtain ⟨f1, f2, f3, f4⟩ := fit _ (List.mem_of_getElem? hk)
    dsimp only at f1 f2 f3 f4
    have sn := snoc_fm (Mir.steepOne h) hk
    have len : (((es.take k).filterMap (Mir.steepOne h)).map eE).length ≤ 100000 := by
      rw [List.length_map]
      refine Nat.le_trans (List.length_filterMap_le _ _) ?_
      rw [List.length_take]
      omega
    refine jg_pair (ρ := [some (eW n es), some (eH h), none, none, none]) (vs := [3, 4]) (by simp) (by simp) K0' K' τ v _ (wd2.le le2) rv fun τ2 wd3 hw => ?_
    have hτ2 : τ2[2]? = some (some (.ref l)) := (keep_slot hw (by simp)).trans hτ
    have fin : ∀ {M0 M : Hp} {acc : List PyData}, Same K0' M0 → Le H0 G M0 M → Own G M0 M l acc → Wd M0 M τ2 [some (eW n es), some (eH h), none, some (.int i), some (.int j)] → acc = ((es.take (k + 1)).filterMap (Mir.steepOne h)).map eE →
        (∃ K0'', Same G0 K0'' ∧ Le H0 G K0'' M ∧ Own G K0'' M l (((es.take (k + 1)).filterMap (Mir.steepOne h)).map eE) ∧ Wd K0'' M τ2 [some (eW n es), some (eH h), none, none, none] ∧ τ2[2]? = some (some (.ref l))) := fun {M0 M acc} sm l4 o3 w3 e3 =>
      ⟨M0, s0.trans (le2.s0.trans sm), l4, e3 ▸ o3, w3.sub (sk (sk (sk (sd (sd sub_nil))))), hτ2⟩
    refine b_cons (s_if (ρ := [some (eW n es), some (eH h), none, some (.int i), some (.int j)]) (jt_ge (j_sub (ixv' (v' 1) (v' 4) f3 (eH_get f3 f4)) (ixv' (v' 1) (v' 3) f1 (eH_get f1 f2))) (gl' T.high)) wd3 (fun hc J0 J1 l3 w3 => ?_) (fun hc J0 J1 l3 w3 => ?_))
    · have hs : Mir.steepOne h (i, j) = some (i, j) := by
        unfold Mir.steepOne
        rw [if_pos (of_decide_eq_true hc)]
      refine b_cons (app' 2 (j_tup (a2 (v' 3) (a1 (v' 4))) (by simp)) w3 hτ2 ((own.le le2).le l3) len fun M0 M ob l4 o4 w4 => b_nil (b_nil ?_))
      exact fin (l3.s0.trans l4.s0) ((le.trans (le2.trans (l3.trans l4))).own own.new o4.out) o4 w4 (by rw [sn, hs]; simp)
    · refine b_cons (s_if (ρ := [some (eW n es), some (eH h), none, some (.int i), some (.int j)]) (jt_ge (j_sub (ixv' (v' 1) (v' 3) f1 (eH_get f1 f2)) (ixv' (v' 1) (v' 4) f3 (eH_get f3 f4))) (gl' T.high)) w3 (fun hc2 I0 I1 l5 w5 => ?_) (fun hc2 I0 I1 l5 w5 => ?_))
      · have hs : Mir.steepOne h (i, j) = some (j, i) := by
          unfold Mir.steepOne
          rw [if_neg (of_decide_eq_false hc), if_pos (of_decide_eq_true hc2)]
        refine b_cons (app' 2 (j_tup (a2 (v' 4) (a1 (v' 3))) (by simp)) w5 hτ2 (((own.le le2).le l3).le l5) len fun M0 M ob l4 o4 w4 => b_nil (b_nil (b_nil ?_)))
        exact fin (l3.s0.trans (l5.s0.trans l4.s0)) ((le.trans (le2.trans (l3.trans (l5.trans l4)))).own own.new o4.out) o4 w4 (by rw [sn, hs]; simp)
      · have hs : Mir.steepOne h (i, j) = none := by
          unfold Mir.steepOne
          rw [if_neg (of_decide_eq_false hc), if_neg (of_decide_eq_false hc2)]
        exact b_nil (b_nil (b_nil (fin (l3.s0.trans l5.s0) (le.trans (le2.trans (l3.trans l5))) (((own.le le2).le l3).le l5) w5 (by rw [sn, hs]; simp))))
  · rintro K0 K τ ⟨s0, le, own, wd2, hτ⟩
    rw [List.take_length] at own
    obtain ⟨M0, le3, s3, _, rl⟩ := own.freeze le
    have w3 := (wd2.more s3 le3.w).know hτ rl
    refine (js_end (d := .list ((Mir.steep es h).map eE)) (j1_ret (jc (blt' cr_sortD T.sorted (by decide +kernel) (a1 (v' 2)) (fun H0 H vs Q w r q => q_sort (alike_edges _) (sortable_edges _) ?_ ?_ H0 H vs Q w (.inl r) q)) ?_))) M0 K τ _ w3 (fun v J0 J1 l4 r4 => q v _ _ (le3.trans l4) r4)
    · rw [List.length_map]
      exact Nat.le_trans (List.length_filterMap_le _ _) (by omega)
    · intro d hd
      obtain ⟨e, _, rfl⟩ := List.mem_map.mp hd
      exact ru (m := 3) hr
    · rw [sort_edges]
      rfl
end
end Lv

namespace Lv
open PySem PySem.Spec PyProof.Rows L2
theorem WebOk.fit {n r : Nat} {es : List Mir.Edge} {h : List Int} (W : WebOk n es) (i : Mir.IsH n r h) : Fit es h := by
  refine ⟨W.few, fun e he => ?_⟩
  obtain ⟨h1, h2, h3⟩ := W.edge e he
  have := i.1
  omega
theorem fit_steep {es : List Mir.Edge} {h g : List Int} {x : Mir.Edge} (F : Fit es h) (hx : x ∈ Mir.steep es g) : 0 ≤ x.1 ∧ x.1 < h.length ∧ 0 ≤ x.2 ∧ x.2 < h.length := by
  obtain ⟨e, he, rfl | rfl⟩ := Mir.steep_in hx
  · exact F.2 _ he
  · obtain ⟨a, b, c, d⟩ := F.2 _ he
    exact ⟨c, d, a, b⟩
section
variable {P : Program} {w : World} {K : PySem.W.Frag} {mg : Str → Option Value} {base : Heap}

/-! ### comes_in -/
def RComes : List PyData → PyData → Prop := fun ds d => ∃ (n : Int) (es : List Mir.Edge) (one other : List Int), ds = [eW n es, eH one, eH other] ∧ Fit es one ∧ Fit es other ∧ d = .bool (Mir.comes es one other)
abbrev N26 : List Str := ["web", "one", "other", "some", "edge"]
theorem sc26 : FnScope N26 ["web", "one", "other"] (defScope (top 26)) := ⟨rfl, rfl, rfl, by decide +kernel, rfl, by decide +kernel, by decide +kernel⟩
theorem ok_comes_in {f : Addr} {fd : FuncData} (F : Fun K "comes_in" "comes_in" (top 26) f fd) (T : Txt mg) (C23 : Cal P w K mg base 1 "steep_in" ["web", "heights"] (SpR RSteep)) : FnOk P w K mg base CX0 2 f fd ["web", "one", "other"] (SpR RComes) := by
  refine fn_ok F sc26 (fun ds d h => by obtain ⟨_, _, _, _, rfl, _⟩ := h; rfl) (fun cdv A outer s H E hr ds d h => ?_)
  obtain ⟨n, es, one, other, rfl, F1, F2, rfl⟩ := h
  refine ⟨_, js_cons (set' 3 sc26.nd (c' C23 hr (a2 (v' 0) (a1 (v' 2))) ⟨n, es, other, rfl, F2, rfl⟩)) (js_end (j1_ret (jc (j_eq (lc' (xs := Mir.steep es other) (enc := eE) (f := fun e => if Mir.barred one other e = true then some (eE e) else none) [("edge", 4)] rfl sc26.nd (ji_list (v' 3))
    (blkOk_by (N := N26) (sc := defScope (top 26)) (by decide +kernel)) (fun _ _ _ _ _ => g' 4 sc26.nd) (fun e he => ⟨_, jg_name (by simp), fun _ _ _ _ _ => ⟨?_, fun d hd => ?_⟩⟩) ?_) (j_lst ja_nil (Nat.zero_le _)) (peq_nil ?_ (ru hr))) ?_))), .inl rfl⟩
  · obtain ⟨a1', a2', a3', a4'⟩ := fit_steep F1 he
    obtain ⟨b1', b2', b3', b4'⟩ := fit_steep F2 he
    have hb : (if Mir.barred one other e = true then some (eE e) else none).isSome = Mir.barred one other e := by
      cases Mir.barred one other e <;> rfl
    rw [hb]
    refine jts_one (jt_pw (jw_or (jt_gt (ixv' (v' 1) (ix' 0 (v' 4)) a1' (eH_get a1' a2')) (ixv' (v' 2) (ix' 0 (v' 4)) b1' (eH_get b1' b2'))) (fun hk => jw_or1 (jtc (jt_gt (ixv' (v' 2) (ix' 1 (v' 4)) b3' (eH_get b3' b4')) (ixv' (v' 1) (ix' 1 (v' 4)) a3' (eH_get a3' a4'))) ?_)) (fun hk => ?_)))
    · unfold Mir.barred
      show _ = (decide (Mir.ht other e.1 < Mir.ht one e.1) || decide (Mir.ht one e.2 < Mir.ht other e.2))
      rw [hk]
      rfl
    · unfold Mir.barred
      show (decide (Mir.ht other e.1 < Mir.ht one e.1) || decide (Mir.ht one e.2 < Mir.ht other e.2)) = true
      rw [hk]
      rfl
  · cases hb : Mir.barred one other e with
    | true =>
      rw [hb] at hd
      cases hd
      exact v' 4
    | false =>
      rw [hb] at hd
      cases hd
  · exact Nat.le_trans (Mir.steep_length es other) (Nat.le_trans F1.1 (by omega))
  · rw [fm_if]
    exact plain_edges _
  · rw [eqv_nil, fm_if]
    unfold Mir.comes
    rw [List.isEmpty_map]

/-! ### gentle_in -/
def RGentle : List PyData → PyData → Prop := fun ds d => ∃ (n r : Nat) (es : List Mir.Edge), ds = [eW n es, .int r] ∧ WebOk n es ∧ r ≤ 9 ∧ (r + 1) ^ n ≤ 3000 ∧ d = .list (((Mir.every n r).filter fun h => (Mir.steep es h).isEmpty).map eH)
abbrev N29 : List Str := ["web", "roof", "one"]
theorem sc29 : FnScope N29 ["web", "roof"] (defScope (top 29)) := ⟨rfl, rfl, rfl, by decide +kernel, rfl, by decide +kernel, by decide +kernel⟩
theorem ok_gentle_in {f : Addr} {fd : FuncData} (F : Fun K "gentle_in" "gentle_in" (top 29) f fd) (T : Txt mg) (C18 : Cal P w K mg base 1 "all_heights" ["many", "roof"] (SpR RAll)) (C23 : Cal P w K mg base 1 "steep_in" ["web", "heights"] (SpR RSteep)) :
    FnOk P w K mg base CX0 2 f fd ["web", "roof"] (SpR RGentle) := by
  refine fn_ok F sc29 (fun ds d h => by obtain ⟨_, _, _, rfl, _⟩ := h; rfl) (fun cdv A outer s H E hr ds d h => ?_)
  obtain ⟨n, r, es, rfl, W, hr9, hz, rfl⟩ := h
  have hn9 := W.hi
  refine ⟨_, js_end (j1_ret (jc (lc' (xs := Mir.every n r) (enc := eH) (f := fun h => if (Mir.steep es h).isEmpty = true then some (eH h) else none) [("one", 2)] rfl sc29.nd (ji_list (c' C18 hr (a2 (ix' 0 (v' 0)) (a1 (v' 1))) ⟨n, r, rfl, by omega, hr9, hz, rfl⟩))
    (blkOk_by (N := N29) (sc := defScope (top 29)) (by decide +kernel)) (fun _ _ _ _ _ => g' 2 sc29.nd) (fun h hh => ⟨_, jg_name (by simp), fun _ _ _ _ _ => ⟨jts_one (jtc (jt_eq (c' C23 hr (a2 (v' 0) (a1 (v' 2))) ⟨n, es, h, rfl, W.fit (Mir.mem_every hh), rfl⟩) (j_lst ja_nil (Nat.zero_le _)) (peq_nil (plain_edges _) (ru hr))) ?_), fun d hd => ?_⟩⟩) ?_) ?_)), .inl rfl⟩
  · rw [eqv_nil, List.isEmpty_map]
    cases (Mir.steep es h).isEmpty <;> rfl
  · cases hb : (Mir.steep es h).isEmpty with
    | true =>
      rw [hb] at hd
      cases hd
      exact v' 2
    | false =>
      rw [hb] at hd
      cases hd
  · rw [Mir.every_length]
    omega
  · rw [fm_if]

/-! ### lot_of -/


def RLot : List PyData → PyData → Prop := fun ds d => ∃ (n : Int) (es : List Mir.Edge) (h : List Int), ds = [eW n es, eH h] ∧ Fit es h ∧ d = eL (Mir.lotOf es h)
abbrev N31 : List Str := ["web", "heights", "low", "high"]
theorem sc31 : FnScope N31 ["web", "heights"] (defScope (top 31)) := ⟨rfl, rfl, rfl, by decide +kernel, rfl, by decide +kernel, by decide +kernel⟩
theorem ok_lot_of {f : Addr} {fd : FuncData} (F : Fun K "lot_of" "lot_of" (top 31) f fd) (T : Txt mg) (C23 : Cal P w K mg base 1 "steep_in" ["web", "heights"] (SpR RSteep)) : FnOk P w K mg base CX0 2 f fd ["web", "heights"] (SpR RLot) := by
  refine fn_ok F sc31 (fun ds d h => by obtain ⟨_, _, _, rfl, _⟩ := h; rfl) (fun cdv A outer s H E hr ds d h => ?_)
  obtain ⟨n, es, h, rfl, F1, rfl⟩ := h
  refine ⟨_, js_end (j1_ret (jc (bty' call_tuple_of T.tuple b_tuple (a1 (lc' (xs := Mir.steep es h) (enc := eE) (f := fun e => some (eQ (Mir.quad h e))) [("low", 2), ("high", 3)] rfl sc31.nd (ji_list (c' C23 hr (a2 (v' 0) (a1 (v' 1))) ⟨n, es, h, rfl, F1, rfl⟩))
    (blkOk_by (N := N31) (sc := defScope (top 31)) (by decide +kernel)) (fun _ _ _ _ _ => g2' 2 3 rfl sc31.nd) (fun e he => ⟨_, jg_pair (by simp) (by simp), fun _ _ _ _ _ => ⟨jts_nil, fun d hd => ?_⟩⟩) ?_)) q_tuple) ?_)), .inl rfl⟩
  · cases hd
    obtain ⟨a1', a2', a3', a4'⟩ := fit_steep F1 he
    exact j_tup (a2 (v' 2) (a2 (v' 3) (a2 (ixv' (v' 1) (v' 2) a1' (eH_get a1' a2')) (a1 (ixv' (v' 1) (v' 3) a3' (eH_get a3' a4')))))) (by simp)
  · exact Nat.le_trans (Mir.steep_length es h) (Nat.le_trans F1.1 (by omega))
  · rw [fm_some]
    show _ = eL ((Mir.steep es h).map (Mir.quad h))
    rw [eL, List.map_map]
    rfl

/-! ### gcd, reduced -/
theorem q_abs {i : Int} (H0 H : Hp) (vs : List V) (Q : VK) (w : Same H0 H) (r : RepL H0 vs [.int i]) (q : ∀ v H0' H', Le H0 H H0' H' → Rep H0' v (.int (if i < 0 then -i else i)) → Q v H') : ∃ i, vs = [.int i] ∧ Q (.int (if i < 0 then -i else i)) H := by
  obtain ⟨v, rfl, r1⟩ := r.one
  exact ⟨i, by rw [rep_int r1], q _ _ _ (Le.refl w) (.int _)⟩
def RGcd : List PyData → PyData → Prop := fun ds d => ∃ a b : Int, ds = [.int a, .int b] ∧ d = .int (Mir.gcdI a b)
abbrev N8 : List Str := ["one", "other"]
theorem sc8 : FnScope N8 ["one", "other"] (defScope (top 8)) := ⟨rfl, rfl, rfl, by decide +kernel, rfl, by decide +kernel, by decide +kernel⟩
theorem ok_gcd {f : Addr} {fd : FuncData} (F : Fun K "gcd" "gcd" (top 8) f fd) (T : Txt mg) : FnOk P w K mg base CX0 1 f fd ["one", "other"] (SpR RGcd) := by
  refine fn_ok F sc8 (fun ds d h => by obtain ⟨_, _, rfl, _⟩ := h; rfl) (fun cdv A outer s H E hr ds d h => ?_)
  obtain ⟨a, b, rfl, rfl⟩ := h
  refine ⟨.ret (.int (Mir.gcdI a b)), js_cons (par2' 0 1 rfl sc8.nd (by decide) (blt' call_abs T.abs (by decide +kernel) (a1 (v' 0)) q_abs) (blt' call_abs T.abs (by decide +kernel) (a1 (v' 1)) q_abs)) ?_, .inl rfl⟩
  refine js_while (S := Int × Int) (fun p => [some (.int p.1), some (.int p.2)]) (fun p => (p.2, p.1 % p.2)) (fun p => !decide (p.2 = 0)) (fun p => 0 ≤ p.1 ∧ 0 ≤ p.2 ∧ Mir.gcdI p.1 p.2 = Mir.gcdI a b) (fun p => p.2.toNat) (if a < 0 then -a else a, if b < 0 then -b else b)
    PassesOwn.never (sk (sk sub_nil)) ⟨?_, ?_, Mir.gcdI_abs a b⟩ ?_ ?_ ?_ ?_
  · dsimp only
    split <;> omega
  · dsimp only
    split <;> omega
  · rintro ⟨x, y⟩ ⟨hx, hy, hg⟩ hgo
    dsimp only at hx hy hg hgo ⊢
    have hy0 : y ≠ 0 := by simpa using hgo
    have h1 := Int.emod_nonneg x hy0
    have h2 := Int.emod_lt_of_pos x (show 0 < y by omega)
    exact ⟨⟨hy, h1, (Mir.gcdI_step hx hy).trans hg⟩, by omega⟩
  · rintro ⟨x, y⟩ _
    exact jt_neI hr.units0 (v' 1) j_int
  · rintro ⟨x, y⟩ ⟨hx, hy, hg⟩ hgo
    have hy0 : y ≠ 0 := by simpa using hgo
    dsimp only at hx hy
    exact js_cons (par2' 0 1 rfl sc8.nd (by decide) (v' 1) (j_mod (v' 0) (v' 1) (by omega))) js_nil
  · rintro ⟨x, y⟩ ⟨hx, hy, hg⟩ hgo
    have hy0 : y = 0 := by simpa using hgo
    dsimp only at hx hy hg
    subst hy0
    rw [Mir.gcdI_zero hx] at hg
    rw [← hg]
    exact js_end (j1_ret (v' 0))
def RReduced : List PyData → PyData → Prop := fun ds d => ∃ a b : Int, ds = [.int a, .int b] ∧ 0 < b ∧ b ≤ 100000 ∧ d = .tuple [.int (a / Mir.gcdI a b), .int (b / Mir.gcdI a b)]
abbrev N9 : List Str := ["numerator", "denominator", "common"]
theorem sc9 : FnScope N9 ["numerator", "denominator"] (defScope (top 9)) := ⟨rfl, rfl, rfl, by decide +kernel, rfl, by decide +kernel, by decide +kernel⟩
theorem ok_reduced {f : Addr} {fd : FuncData} (F : Fun K "reduced" "reduced" (top 9) f fd) (T : Txt mg) (C8 : Cal P w K mg base 1 "gcd" ["one", "other"] (SpR RGcd)) : FnOk P w K mg base CX0 2 f fd ["numerator", "denominator"] (SpR RReduced) := by
  refine fn_ok F sc9 (fun ds d h => by obtain ⟨_, _, rfl, _⟩ := h; rfl) (fun cdv A outer s H E hr ds d h => ?_)
  obtain ⟨a, b, rfl, hb, hb2, rfl⟩ := h
  have hg : CDiv a (Mir.gcdI a b) ∧ CDiv b (Mir.gcdI a b) := by
    have h1 := Mir.gcdI_pos (a := a) hb
    have h2 := Mir.gcdI_le (a := a) hb
    exact ⟨⟨h1, by omega⟩, ⟨h1, by omega⟩⟩
  exact ⟨_, js_cons (set' 2 sc9.nd (c' C8 hr (a2 (v' 0) (a1 (v' 1))) ⟨a, b, rfl, rfl⟩)) (js_cons (j1_if (l := false) (jtc (jt_lt (v' 1) j_int) (decide_eq_false (by omega))) (fun h => nomatch h) (fun _ => js_nil))
    (js_end (j1_ret (j_tup (a2 (j_fdiv (v' 0) (v' 2) hg.1) (a1 (j_fdiv (v' 1) (v' 2) hg.2))) (by simp))))), .inl rfl⟩
end
end Lv

namespace Lv
open PySem PySem.Spec PyProof.Rows L2
/-! ### own dicts -/
structure OwnD (P : Program) (w : World) (He K0 K : Hp) (l : Addr) (ps : DD) : Prop where
  new : He l = none
  out : K0 l = none
  at_ : DAt P w K0 K l ps
section
variable {P : Program} {w : World} {H K0 K K0' K' : Hp} {l m : Addr} {ps : DD} {o : HO}
theorem OwnD.le (h : OwnD P w H K0 K l ps) (le : Le K0 K K0' K') : OwnD P w H K0' K' l ps := by
  obtain ⟨o, xs, e, _⟩ := id h.at_
  exact ⟨h.new, le.ow _ _ e h.out, h.at_.le le⟩
theorem DAt.other (h : DAt P w K0 K l ps) (n : l ≠ m) : DAt P w K0 (upd K m o) l ps :=
  let ⟨o', xs, e, r⟩ := h; ⟨o', xs, by rw [upd_ne n]; exact e, r⟩
theorem OwnD.other (h : OwnD P w H K0 K l ps) (n : l ≠ m) : OwnD P w H K0 (upd K m o) l ps := ⟨h.new, h.out, h.at_.other n⟩
theorem DAt.up (h : DAt P w K0 K0 l ps) (s0 : Same K0 K0') (s : Same K0' K') : DAt P w K0' K' l ps :=
  let ⟨o', xs, e, k, r⟩ := h; ⟨o', xs, s _ _ (s0 _ _ e), k, Paired.mapP r fun _ _ z => z.mono s0⟩
theorem OwnD.freeze {H0 : Hp} (h : OwnD P w H K0 K l ps) (le : Le H0 H K0 K) : ∃ K0', Le H0 H K0' K ∧ Same K0 K0' ∧ (∀ m, m ≠ l → K0 m = none → K0' m = none) ∧ DAt P w K0' K0' l ps := by
  obtain ⟨n, n0, o, xs, e, k, r⟩ := h
  have s0 : Same K0 (upd K0 l (dictO l o)) := fun b o z => by rw [upd_ne (ne_of_none z n0)]; exact z
  refine ⟨upd K0 l (dictO l o), ⟨le.s, le.s0.trans s0, fun b o z => ?_, fun b o z1 z2 => ?_⟩, s0, fun m hm z => by rw [upd_ne hm]; exact z, o, xs, upd_same, k, Paired.mapP r fun _ _ z => z.mono s0⟩
  · by_cases hb : b = l
    · subst hb; rw [upd_same] at z; cases z; exact e
    · rw [upd_ne hb] at z; exact le.w _ _ z
  · rw [upd_ne (ne_of_none z1 n)]; exact le.ow b o z1 z2
theorem DAt.len (h : DAt P w K0 K l ps) : ∃ o xs, K l = some (dictO l o) ∧ DOk P w o xs ∧ Paired (EntRel K0) xs ps ∧ xs.length = ps.length :=
  let ⟨o, xs, e, k, r⟩ := h; ⟨o, xs, e, k, r, Paired.length r⟩
end
section
variable {X : Cx} {ρ : Env1} {e f value : Expr} {p p2 q2 pos cpos apos op pos' : Pos} {H0 H : Hp} {σ : L2.St} {i : Nat} {nm : Str} {l : Addr} {ps : DD} {k : List Mir.Quad} {df d : PyData} {tg : Expr}
/-- d[k] = v -/
theorem w_dput {D : Ends} (hu : X.A.units + 64 < cLine) (hN : X.N[i]? = some nm) (hv : Vis X.env.scope nm) (hd : (nm == ("__debug__" : Str)) = false) (hcd : (nm == ("__classdict__" : Str)) = false) (hs : swapsWith value (some (.Subscript (.Name nm op) e pos')) pos.line X.env = pure false)
    (hσ : σ[i]? = some (some (.ref l))) (hz : ps.length ≤ 100000) (he : J X ρ e (eL k))
    (val : wE X value σ H fun v H1 => ∃ H0', Le H0 H H0' H1 ∧ Wd H0' H1 σ ρ ∧ Rep H0' v d ∧ DAt X.prog X.w H0' H1 l ps)
    (q : ∀ H0' K ob, Le H0 H H0' K → Wd H0' K σ ρ → DAt X.prog X.w H0' (upd K l ob) l (putD ps k d) → D.nx σ (upd K l ob)) : wS X (.Assign [.Subscript (.Name nm op) e pos'] value pos) D σ H := fun pins s I => by
  refine wpAny_Assign_Subscript (thn (val pins s I) fun r s1 ⟨v, H1, I1, rv, H0', l1, w1, rd, at1⟩ => thn ((pe_var hN hv hd hcd).run pins s1 σ H1 (fun x H2 => x = .ref l ∧ H2 = H1) I1 ⟨_, hσ, rfl, rfl⟩) fun u s2 ⟨x, H2, I2, rx, q1⟩ =>
    thn (he.run (H := H2) (by obtain ⟨rfl, rfl⟩ := q1; exact w1) (Q := fun y H3 => ∃ H0'', Le H0' H2 H0'' H3 ∧ Wd H0'' H3 σ ρ ∧ Rep H0'' y (eL k)) (fun v A B l2 w2 r2 => ⟨A, l2, w2, r2⟩) pins s2 I2) fun iv s3 ⟨y, H3, I3, ry, H0'', l2, w2, r2⟩ => ?_) hs
  obtain ⟨rfl, rfl⟩ := q1
  obtain rfl : u = Value.ref l := rx
  obtain ⟨b, rfl, rfl, hlot⟩ := lot_at I3 l2.w r2 ry
  obtain ⟨o', xs', e2, ok2, rr, hl⟩ := (at1.le l2).len
  have full2 := ok2.full I3 l2.w e2 rr
  refine wpAny_setItem_heap (hsz := by rw [hl, sizeLine_eq]; omega) (lot_room hu) hlot full2 fun h' dd' sb => ?_
  obtain ⟨on, h1, okn⟩ := DOk.of dd'
  have ne := (I3.hok l _ e2).1.2
  have I4 : Inv X pins σ (upd H3 l (dictO l on)) { s3 with heap := h', toks := s3.toks + (lotKind X.prog X.w).draws k } := I3.write (x := l) (e := l) (by rw [e2]; exact True.intro) (.inl rfl) (fun b q hb z => (sb.2 b hb).trans z) ⟨on, h1⟩ (dictO_ok h1 ne)
  exact ⟨σ, _, I4, q H0'' H3 _ (l1.trans l2) w2 ⟨on, _, upd_same, okn, put_rel r2 rv (rd.mono l2.s0) rr⟩⟩

/-! ### walks over a dict -/
def Itk' (l : Addr) (o : Obj) (xs : List Ent) : It := ⟨fun i H => H l = some (dictO l o) ∧ i < xs.length, fun i H v H' => H' = H ∧ ∃ x, xs[i]? = some x ∧ v = .ref x.2.1, fun i H => H l = some (dictO l o) ∧ xs.length ≤ i⟩
def Itv' (l : Addr) (o : Obj) (vs : List V) : It := ⟨fun i H => H l = some (dictO l o) ∧ i < vs.length, fun i H v H' => H' = H ∧ vs[i]? = some v, fun i H => H l = some (dictO l o) ∧ vs.length ≤ i⟩
theorem turn_keysL {P : Program} {w : World} {K : PySem.W.Frag} {o : Obj} {xs : List Ent} (it : Addr) {es : Array DictEntry} {ep : Nat} (hod : o.data = .dict es ep) (hes : es.toList = xs.map (entryOfKey (lotKind P w))) : Turn P w K tg (Itk' l o xs) [it] it (fun i h => h.IsKeyIter it l i xs.length ep) where
  mem := by simp
  obj := fun i h st b hb => by
    have e : b = it := by simpa using hb
    subst e
    obtain ⟨oi, e, c, dd⟩ := st
    exact ⟨oi, e, fun v z => by rw [dd] at z; cases z⟩
  keep := fun i h h' st k => st.at fun oi e => k it (by simp) oi e
  item := by
    intro X hP hw hK hc i pins s σ H E I hf st hg
    subst hP hw hK
    obtain ⟨hd, hi⟩ := hg
    obtain ⟨f0, f1, f2, f3, f4, f5⟩ := hf it (by simp)
    have hgd := (I.hok l _ hd).1.1
    obtain ⟨x, hx⟩ : ∃ x, xs[i]? = some x := ⟨xs[i], List.getElem?_eq_getElem hi⟩
    have hen := entry_at hes i
    rw [hx] at hen
    refine next_key_item st hgd hod (size_of_entries hes) hen fun h' st' sb => ?_
    have I1 : Inv X pins σ H { s with heap := h' } := I.turned (t' := s.toks) (fun b ob hb e => (sb.2 b hb).trans e) f0 f1 f3 f4 f5
    obtain ⟨oi, e, c, dd⟩ := id st'
    exact ⟨_, rfl, go_of (s := { s with heap := h' }) e c dd (by decide) ⟨.ref x.2.1, H, I1, rfl, ⟨rfl, x, hx, rfl⟩, st', fun b hb => (hf b hb).1⟩⟩
  done := by
    intro X hP hw hK hc i pins s σ H E I hf st hg
    subst hP hw hK
    obtain ⟨hd, hi⟩ := hg
    obtain ⟨f0, f1, f2, f3, f4, f5⟩ := hf it (by simp)
    have hgd := (I.hok l _ hd).1.1
    exact next_key_end (I.ok.hd hc) st hgd hod (size_of_entries hes) hi fun h' eb => ⟨rfl, I.turned (t' := s.toks) (fun b ob hb e => eb b ob hb e) f0 f1 f3 f4 f5⟩
  self := fun A i s Q E st h => by
    refine wpAny_pyIter_slot st.typeIs F.slot_dict_keyiterator_iter (wpAny_call_entry F.slot_dict_keyiterator_iter st.typeIs F.entry_dict_keyiterator_iter ?_ (F.args_dict_keyiterator_iter_1 _))
    show wpAny _ _ (ret (.ref it)) _ _ s
    exact wpAny_pure ⟨_, rfl, "dict_keyiterator", _, st.typeIs, F.slot_dict_keyiterator_next.lookup, h⟩
theorem turn_valsL {P : Program} {w : World} {K : PySem.W.Frag} {o : Obj} {xs : List Ent} {vs : List V} (it : Addr) {es : Array DictEntry} {ep : Nat} (hex : o.ExactDict) (hod : o.data = .dict es ep) (hes : es.toList = xs.map (entryOfKey (lotKind P w))) (hvs : Vals vs (xs.map (·.2.2))) :
    Turn P w K tg (Itv' l o vs) [it] it (fun i h => h.IsValIter it l i es.size ep) where
  mem := by simp
  obj := fun i h st b hb => by
    have e : b = it := by simpa using hb
    subst e
    obtain ⟨oi, e, c, dd⟩ := st
    exact ⟨oi, e, fun v z => by rw [dd] at z; cases z⟩
  keep := fun i h h' st k => st.at fun oi e => k it (by simp) oi e
  item := by
    intro X hP hw hK hc i pins s σ H E I hf st hg
    subst hP hw hK
    obtain ⟨hd, hi⟩ := hg
    obtain ⟨f0, f1, f2, f3, f4, f5⟩ := hf it (by simp)
    have hgd := (I.hok l _ hd).1.1
    obtain ⟨v, hv⟩ : ∃ v, vs[i]? = some v := ⟨vs[i], List.getElem?_eq_getElem hi⟩
    obtain ⟨u, hu, ru⟩ := hvs.get hv
    have hsz := size_of_entries hes
    have hvl := hvs.length
    rw [List.length_map] at hvl
    have hlt : i < es.size := by omega
    have hen := entry_at hes i
    rw [List.getElem?_map] at hu
    obtain ⟨x, hx, hxu⟩ := Option.map_eq_some_iff.mp hu
    rw [hx, Array.getElem?_eq_getElem hlt] at hen
    have hen' := Option.some.inj hen
    refine wpAny_pyNext_values_item_raw st ⟨o, hgd, hex, hod⟩ hlt fun h' st' sb => ?_
    have I1 : Inv X pins σ H { s with heap := h' } := I.turned (t' := s.toks) (fun b ob hb e => (sb.2 b hb).trans e) f0 f1 f3 f4 f5
    obtain ⟨oi, e, c, dd⟩ := id st'
    exact ⟨_, rfl, go_of (s := { s with heap := h' }) e c dd (by decide) ⟨v, H, I1, by rw [hen']; show RelV v x.2.2; rw [hxu]; exact ru, ⟨rfl, hv⟩, st', fun b hb => (hf b hb).1⟩⟩
  done := by
    intro X hP hw hK hc i pins s σ H E I hf st hg
    subst hP hw hK
    obtain ⟨hd, hi⟩ := hg
    obtain ⟨f0, f1, f2, f3, f4, f5⟩ := hf it (by simp)
    have hgd := (I.hok l _ hd).1.1
    have hsz := size_of_entries hes
    have hvl := hvs.length
    rw [List.length_map] at hvl
    exact wpAny_pyNext_values_end_raw (I.ok.hd hc) st ⟨o, hgd, hex, hod⟩ (by omega) fun h' eb => ⟨rfl, I.turned (t' := s.toks) (fun b ob hb e => eb b ob hb e) f0 f1 f3 f4 f5⟩
  self := fun A i s Q E st h => wpAny_pyIter_valiter st h
theorem ent_vals {H0 : Hp} : ∀ {xs : List Ent} {ps : DD}, Paired (EntRel H0) xs ps → ∃ vs, Vals vs (xs.map (·.2.2)) ∧ RepL H0 vs (ps.map (·.2))
  | _, _, .nil => ⟨[], .nil, .nil⟩
  | _, _, .cons r t => by
    obtain ⟨_, _, v, h1, h2⟩ := r
    obtain ⟨vs, h3, h4⟩ := ent_vals t
    exact ⟨v :: vs, .cons h1 h3, .cons h2 h4⟩
theorem ent_keyD {H0 : Hp} : ∀ {xs : List Ent} {ps : DD}, Paired (EntRel H0) xs ps → RepL H0 (xs.map fun x => V.ref x.2.1) (ps.map fun p => eL p.1)
  | _, _, .nil => .nil
  | x :: _, p :: _, .cons r t => by
    obtain ⟨h1, h2, _⟩ := r
    rw [h1] at h2
    exact .cons h2 (ent_keyD t)
/-- for k in d.keys() -/
theorem wi_keys (hN : X.N[i]? = some nm) (hv : Vis X.env.scope nm) (hd : (nm == ("__debug__" : Str)) = false) (hcd : (nm == ("__classdict__" : Str)) = false) (hσ : σ[i]? = some (some (.ref l))) (w : Wd H0 H σ ρ) (fz : DAt X.prog X.w H0 H0 l ps)
    (hbase : attributeBase (.Name nm op) "keys" X.env (eval (.Name nm op) X.env) = eval (.Name nm op) X.env) (hline : (apos.endLine == cpos.line) = true) {R : It → Hp → Prop}
    (q : ∀ it, Yields it H0 (ps.map fun p => eL p.1) → R it H) : wI X tg (.Call (.Attribute (.Name nm op) "keys" apos) [] [] cpos) σ H R := fun pins s I => by
  refine wpAny_Call_method (T := "dict") (id := "dict.keys") hbase rfl hline F.plainAttrs_dict F.slot_dict_keys F.type_dict_keys (thn ((pe_var hN hv hd hcd).run pins s σ H (fun x H1 => x = .ref l ∧ H1 = H) I ⟨_, hσ, rfl, rfl⟩) fun u s1 ⟨x, H1, I1, rx, q1⟩ => ?_)
  obtain ⟨rfl, rfl⟩ := q1
  obtain rfl : u = Value.ref l := rx
  obtain ⟨o, xs, e, ok, r⟩ := fz
  have e1 := w.w _ _ e
  obtain ⟨hg, ne⟩ := (I1.hok l _ e1).1
  obtain ⟨es, ep, hdat, hes⟩ := ok.dat
  have raw : s1.heap.DictRaw l es ep := ⟨o, hg, ok.ex, hdat⟩
  refine ⟨raw.typeIs, fun b z => by cases z; exact ⟨o, hg, ok.ex.2.1⟩, ?_⟩
  have I2 : Inv X pins σ H1 { s1 with heap := s1.heap.push { cls := .type "dict_keys", data := .fields #[.ref l] } } := I1.kept (t' := s1.toks) fun b ob q => Heap.get?_push_of_some _ q
  have fin : wpAny (model X.prog X.w) X.A (pyIter (.ref s1.heap.objs.size)) (PIE X pins σ tg R) X.xe { s1 with heap := s1.heap.push { cls := .type "dict_keys", data := .fields #[.ref l] } } := by
    refine wpAny_pyIter_keys_raw (d := l) ⟨_, Heap.get?_push_size _ rfl, rfl, rfl⟩ (raw.at fun o' z => Heap.get?_push_of_some _ z) (pi_one (tk := s1.toks) I2 _ (turn_keysL (l := l) _ hdat hes) ⟨_, Heap.get?_push_size _ rfl, rfl, ?_⟩ (q _ ?_))
    · rw [size_of_entries hes] <;> rfl
    · intro j G0 G a1 a2
      have hz : xs.length = ps.length := Paired.length r
      have eG := a2 _ _ (a1 _ _ e)
      refine ⟨fun hj => ⟨eG, by rw [hj, List.length_map]; omega⟩, fun dd hdd => ?_⟩
      obtain ⟨v, hv1, hv2⟩ := (ent_keyD r).at hdd
      rw [List.getElem?_map] at hv1
      obtain ⟨x, hx, hxv⟩ := Option.map_eq_some_iff.mp hv1
      refine ⟨⟨eG, (List.getElem?_eq_some_iff.mp hx).1⟩, fun y H' hy => ?_⟩
      obtain ⟨rfl, x', hx', rfl⟩ := hy
      rw [hx] at hx'
      cases hx'
      exact ⟨G0, Le.refl a2, hxv ▸ hv2.mono a1⟩
  show wpAny _ _ (callWith cpos (.builtin "dict.keys") [.ref l] [] []) _ X.xe s1
  exact method_meetsIn F.slot_dict_keys F.entry_dict_keys rfl (PySem.evalArgs_none ⟨rfl, raw.typeIs, F.args_dict_keys_1 _, _, meets_dict_keys_raw l ne, ⟨es, ep, raw⟩, fin⟩)
/-- for v in d.values() -/
theorem wi_values (hN : X.N[i]? = some nm) (hv : Vis X.env.scope nm) (hd : (nm == ("__debug__" : Str)) = false) (hcd : (nm == ("__classdict__" : Str)) = false) (hσ : σ[i]? = some (some (.ref l))) (w : Wd H0 H σ ρ) (fz : DAt X.prog X.w H0 H0 l ps)
    (hbase : attributeBase (.Name nm op) "values" X.env (eval (.Name nm op) X.env) = eval (.Name nm op) X.env) (hline : (apos.endLine == cpos.line) = true) {R : It → Hp → Prop}
    (q : ∀ it, Yields it H0 (ps.map (·.2)) → R it H) : wI X tg (.Call (.Attribute (.Name nm op) "values" apos) [] [] cpos) σ H R := fun pins s I => by
  refine wpAny_Call_method (T := "dict") (id := "dict.values") hbase rfl hline F.plainAttrs_dict F.slot_dict_values F.type_dict_values (thn ((pe_var hN hv hd hcd).run pins s σ H (fun x H1 => x = .ref l ∧ H1 = H) I ⟨_, hσ, rfl, rfl⟩) fun u s1 ⟨x, H1, I1, rx, q1⟩ => ?_)
  obtain ⟨rfl, rfl⟩ := q1
  obtain rfl : u = Value.ref l := rx
  obtain ⟨o, xs, e, ok, r⟩ := fz
  have e1 := w.w _ _ e
  obtain ⟨hg, ne⟩ := (I1.hok l _ e1).1
  obtain ⟨es, ep, hdat, hes⟩ := ok.dat
  obtain ⟨vs, hvs, rvs⟩ := ent_vals r
  have raw : s1.heap.DictRaw l es ep := ⟨o, hg, ok.ex, hdat⟩
  refine ⟨raw.typeIs, fun b z => by cases z; exact ⟨o, hg, ok.ex.2.1⟩, ?_⟩
  have I2 : Inv X pins σ H1 { s1 with heap := s1.heap.push { cls := .type "dict_values", data := .fields #[.ref l] } } := I1.kept (t' := s1.toks) fun b ob q => Heap.get?_push_of_some _ q
  have fin : wpAny (model X.prog X.w) X.A (pyIter (.ref s1.heap.objs.size)) (PIE X pins σ tg R) X.xe { s1 with heap := s1.heap.push { cls := .type "dict_values", data := .fields #[.ref l] } } := by
    refine wpAny_pyIter_values_raw (d := l) ⟨_, Heap.get?_push_size _ rfl, rfl, rfl⟩ (raw.at fun o' z => Heap.get?_push_of_some _ z) (pi_one (tk := s1.toks) I2 _ (turn_valsL (l := l) _ ok.ex hdat hes hvs) ⟨_, Heap.get?_push_size _ rfl, rfl, rfl⟩ (q _ ?_))
    intro j G0 G a1 a2
    have eG := a2 _ _ (a1 _ _ e)
    refine ⟨fun hj => ⟨eG, by rw [hj, rvs.length]; exact Nat.le_refl _⟩, fun dd hdd => ?_⟩
    obtain ⟨v, hv1, hv2⟩ := rvs.at hdd
    refine ⟨⟨eG, (List.getElem?_eq_some_iff.mp hv1).1⟩, fun y H' hy => ?_⟩
    obtain ⟨rfl, hy⟩ := hy
    rw [hv1] at hy
    cases hy
    exact ⟨G0, Le.refl a2, hv2.mono a1⟩
  show wpAny _ _ (callWith cpos (.builtin "dict.values") [.ref l] [] []) _ X.xe s1
  exact method_meetsIn F.slot_dict_values F.entry_dict_values rfl (PySem.evalArgs_none ⟨rfl, raw.typeIs, F.args_dict_values_1 _, _, meets_dict_values_raw l ne, ⟨es, ep, raw⟩, fin⟩)
end
end Lv

namespace Lv
open PySem PySem.Spec PyProof.Rows L2
section
variable {X : Cx} {ρ ρ1 : Env1} {e a b c tg iter elt : Expr} {es ifs : List Expr} {d : PyData} {ds : List PyData} {pos p : Pos} {st : Stmt} {sts body : List Stmt} {r : Res} {x y z : Str} {k : Nat}
theorem lc_readsX {α : Type} {scope : Scope} {own : List (Str × Nat)} {gT : TG} {enc : α → PyData} {xs : List α} {f : α → Option PyData} {H0 H : Hp} {σ : L2.St} (hi : ∀ (R : It → Hp → Prop), (∀ it H0' H', Le H0 H H0' H' → Yields it H0' (xs.map enc) → R it H') → wI X tg iter σ H R)
    (turn : ∀ x ∈ xs, ∃ ρx, JG gT (wipeE ρ (own.map (·.2))) (enc x) ρx (own.map (·.2)) ∧ Blk X scope fun Y => JTs Y ρx ifs (f x).isSome ∧ ∀ d, f x = some d → ∀ G0 G τ (Q : VK), Wd G0 G τ ρx → Same H0 G0 → wipe τ (own.map (·.2)) = wipe σ (own.map (·.2)) → (∀ v G0' G', Le G0 G G0' G' → Rep G0' v d → Q v G') → wE Y elt τ G Q)
    (hz : xs.length ≤ 100000) {Q : VK} (w : Wd H0 H σ ρ) (q : ∀ v H0' H', Le H0 H H0' H' → Rep H0' v (.list (xs.filterMap f)) → Q v H') :
    tLc (wI X tg iter) gT (fun σ H Q => Blk X scope fun Y => wTs Y ifs σ H Q) (fun σ H Q => Blk X scope fun Y => wE Y elt σ H Q) (own.map (·.2)) σ H Q := by
  refine hi _ fun it H1 H2 l1 yl => ?_
  intro D hD
  have hD1 : H1 D = none := l1.w.free hD
  -- the worlds while the list grows: the list itself is not among what never changes
  refine ⟨fun i m G => m = xs.length - i ∧ i ≤ xs.length ∧ ∃ G0 acc, Le H1 H2 G0 (fun b => if b = D then none else G b) ∧ G D = some (.lst acc) ∧ RepL G0 acc ((xs.take i).filterMap f), ⟨xs.length, by simp, Nat.zero_le _, H1, [], ?_, upd_same, .nil⟩, ?_⟩
  · refine ⟨fun b o e => ?_, Same.refl _, fun b o e => ?_, fun _ _ _ h => h⟩
    · have nb : b ≠ D := ne_of_none e hD
      show (if b = D then none else upd H2 D _ b) = _
      rw [if_neg nb, upd_ne nb]; exact e
    · have nb : b ≠ D := ne_of_none e hD1
      show (if b = D then none else upd H2 D _ b) = _
      rw [if_neg nb, upd_ne nb]; exact l1.w _ _ e
  · rintro i m G ⟨rfl, hi, G0, acc, le, hG, rl⟩
    have hG0 : G0 D = none := le.w.free (if_pos rfl)
    have w0 : Same G0 G := fun b o e => by
      have q1 := le.w b o e
      by_cases hb : b = D
      · subst hb; rw [if_pos rfl] at q1; cases q1
      · rw [if_neg hb] at q1; exact q1
    obtain ⟨y1, y2⟩ := yl i G0 G le.s0 w0
    by_cases hlt : i < xs.length
    · right
      have hx : xs[i]? = some xs[i] := by simp [hlt]
      obtain ⟨go, yld⟩ := y2 (enc xs[i]) (by rw [List.getElem?_map, hx]; rfl)
      refine ⟨go, fun G' => ∃ G0' acc', Le H1 H2 G0' (fun b => if b = D then none else G' b) ∧ G' D = some (.lst acc') ∧ RepL G0' acc' ((xs.take (i + 1)).filterMap f), fun G' p => ⟨xs.length - (i + 1), by omega, rfl, hlt, p⟩, fun v G1 hv => ?_⟩
      obtain ⟨G01, l2, rx⟩ := yld v G1 hv
      obtain ⟨ρx, jg, tn⟩ := turn xs[i] (List.getElem_mem hlt)
      have wd : Wd G01 G1 (wipe σ (own.map (·.2))) (wipeE ρ (own.map (·.2))) := ⟨l2.w, ((w.le l1).st.mono (le.s0.trans l2.s0)).wipe _⟩
      -- from a world behind (G01, G1) back to the form of the invariant
      have back : ∀ {G02 G2 : Hp}, Le G01 G1 G02 G2 → G2 D = some (.lst acc) ∧ G02 D = none ∧ ∀ acc', Le H1 H2 G02 (fun b => if b = D then none else upd G2 D (.lst acc') b) := fun {G02 G2} l3 => by
        have ll := l2.trans l3
        have n2 : G02 D = none := ll.ow D _ hG hG0
        refine ⟨ll.s _ _ hG, n2, fun acc' => ⟨fun b o e => ?_, le.s0.trans ll.s0, fun b o e => ?_, fun b o e n => ?_⟩⟩
        · have nb : b ≠ D := ne_of_none e hD
          have e1 := le.s b o e
          rw [if_neg nb] at e1
          show (if b = D then none else upd G2 D _ b) = _
          rw [if_neg nb, upd_ne nb]; exact ll.s _ _ e1
        · have nb : b ≠ D := ne_of_none e n2
          show (if b = D then none else upd G2 D _ b) = _
          rw [if_neg nb, upd_ne nb]; exact ll.w _ _ e
        · have nb : b ≠ D := ne_of_none e hD
          have e1 := le.s b o e
          rw [if_neg nb] at e1
          exact ll.ow b o e1 (le.ow b o e n)
      refine jg G01 G1 _ v _ wd rx fun σ2 wd2 hw => ⟨?_, fun s H C cl fp => (tn s H C cl fp).1 G01 G1 σ2 _ wd2 fun G02 G2 l3 => ?_⟩
      · rw [hw]; exact wipe_wipe σ _ _ fun i hi => hi
      · cases e : f xs[i] with
        | none =>
          refine iteF ?_
          obtain ⟨b1, b2, b3⟩ := back l3
          refine ⟨G02, acc, ?_, b1, ?_⟩
          · have z := b3 acc
            have eq : (fun b => if b = D then none else upd G2 D (.lst acc) b) = fun b => if b = D then none else G2 b := by
              funext b
              by_cases hb : b = D
              · rw [if_pos hb, if_pos hb]
              · rw [if_neg hb, if_neg hb, upd_ne hb]
            rw [eq] at z
            exact z
          · rw [filterMap_snoc f hx, e]
            simp only [Option.toList_none, List.append_nil]
            exact rl.mono (l2.s0.trans l3.s0)
        | some dx =>
          refine iteT fun s' H' C' cl' fp' => ((tn s' H' C' cl' fp').2 dx e) G02 G2 σ2 _ (wd2.le l3) (l1.s0.trans (le.s0.trans (l2.s0.trans l3.s0))) (hw.trans (wipe_wipe σ _ _ fun i hi => hi)) fun y G03 G3 l4 ry => ?_
          obtain ⟨b1, b2, b3⟩ := back (l3.trans l4)
          have hlen : acc.length ≤ xs.length := by
            rw [rl.length]
            exact Nat.le_trans (List.length_filterMap_le _ _) (by rw [List.length_take]; omega)
          refine ⟨acc, b1, Nat.lt_of_le_of_lt (Nat.le_trans hlen hz) (by rw [sizeLine_eq]; omega), G03, acc ++ [y], b3 _, upd_same, ?_⟩
          rw [filterMap_snoc f hx, e]
          exact (rl.mono (l2.s0.trans (l3.s0.trans l4.s0))).append (.cons ry .nil)
    · left
      refine ⟨y1 (by rw [List.length_map]; omega), ?_⟩
      have hi' : i = xs.length := by omega
      subst hi'
      rw [List.take_length] at rl
      -- the new list joins what never changes
      have s0 : Same G0 (upd G0 D (.lst acc)) := fun b o e => by rw [upd_ne (ne_of_none e hG0)]; exact e
      refine q (.ref D) (upd G0 D (.lst acc)) G (l1.trans ⟨fun b o e => ?_, le.s0.trans s0, fun b o e => ?_, fun b o e n => ?_⟩) (.lst upd_same (rl.mono s0))
      · have nb : b ≠ D := ne_of_none e hD
        have e1 := le.s b o e
        rw [if_neg nb] at e1
        exact e1
      · by_cases hb : b = D
        · subst hb; rw [upd_same] at e; cases e; exact hG
        · rw [upd_ne hb] at e; exact w0 _ _ e
      · have nb : b ≠ D := ne_of_none e hD
        rw [upd_ne nb]
        exact le.ow b o e n

/-- [elt for ..] at a state that is known -/
theorem w_lc {α : Type} {scope : Scope} {own : List (Str × Nat)} {gT : TG} {enc : α → PyData} {xs : List α} {f : α → Option PyData} {H0 H : Hp} {σ : L2.St} {Q : VK} (hc : X.calm = true) (hN : X.N.Nodup) (hi : ∀ (R : It → Hp → Prop), (∀ it H0' H', Le H0 H H0' H' → Yields it H0' (xs.map enc) → R it H') → wI X tg iter σ H R) (ok : BlkOk X.N X.env.scope scope own)
    (hg : Blk X scope fun Y => PG Y tg gT)
    (turn : ∀ x ∈ xs, ∃ ρx, JG gT (wipeE ρ (own.map (·.2))) (enc x) ρx (own.map (·.2)) ∧ Blk X scope fun Y => JTs Y ρx ifs (f x).isSome ∧ ∀ d, f x = some d → ∀ G0 G τ (Q : VK), Wd G0 G τ ρx → Same H0 G0 → wipe τ (own.map (·.2)) = wipe σ (own.map (·.2)) → (∀ v G0' G', Le G0 G G0' G' → Rep G0' v d → Q v G') → wE Y elt τ G Q)
    (hz : xs.length ≤ 100000) (hs : ∀ x, foldedSetIterable iter X.env x = pure x) (w : Wd H0 H σ ρ) (q : ∀ v H0' H', Le H0 H H0' H' → Rep H0' v (.list (xs.filterMap f)) → Q v H') : wE X (.ListComp elt [⟨tg, iter, ifs, 0⟩] scope pos) σ H Q :=
  of_pe (pe_lc (te := fun σ H Q => Blk X scope fun Y => wE Y elt σ H Q) (tt := fun σ H Q => Blk X scope fun Y => wTs Y ifs σ H Q) hc hN pi_self ok hg
    (fun s H C cl fp => ⟨fun pins s' σ' H' Q' I h => h s H C cl fp pins s' I⟩) (fun s H C cl fp => ⟨fun pins s' σ' H' Q' I h => h s H C cl fp pins s' I⟩) hs) (lc_readsX hi turn hz w q)
end
end Lv

namespace Lv
open PySem PySem.Spec PyProof.Rows L2
abbrev Lot := List Mir.Quad
/-- the keys, each once, as they come -/
def addF (acc : List Lot) (k : Lot) : List Lot := if k ∈ acc then acc else acc ++ [k]
def firstsOf (ks : List Lot) : List Lot := ks.foldl addF []
theorem firsts_snoc (ks : List Lot) (k : Lot) : firstsOf (ks ++ [k]) = addF (firstsOf ks) k := by
  unfold firstsOf
  rw [List.foldl_append]
  rfl
theorem snoc_ind {α : Type} {p : List α → Prop} (h0 : p []) (h1 : ∀ l x, p l → p (l ++ [x])) : ∀ l, p l := fun l => by
  have go : ∀ n (l : List α), l.length = n → p l := by
    intro n
    induction n with
    | zero => intro l hl; rw [List.length_eq_zero_iff.mp hl]; exact h0
    | succ n ih =>
      intro l hl
      rcases List.eq_nil_or_concat l with rfl | ⟨l', x, rfl⟩
      · exact h0
      · rw [List.concat_eq_append] at hl ⊢
        exact h1 l' x (ih l' (by simpa using hl))
  exact go _ l rfl
theorem mem_firsts (ks : List Lot) : ∀ x, x ∈ firstsOf ks ↔ x ∈ ks := by
  refine snoc_ind (p := fun ks => ∀ x, x ∈ firstsOf ks ↔ x ∈ ks) (fun x => Iff.rfl) (fun l y ih x => ?_) ks
  rw [firsts_snoc, addF, List.mem_append, List.mem_singleton]
  split
  · rename_i h
    rw [ih]
    constructor
    · exact .inl
    · rintro (z | rfl)
      · exact z
      · exact (ih _).mp h
  · rw [List.mem_append, List.mem_singleton, ih]
theorem nodup_firsts (ks : List Lot) : (firstsOf ks).Nodup := by
  refine snoc_ind (p := fun ks => (firstsOf ks).Nodup) List.nodup_nil (fun l y ih => ?_) ks
  rw [firsts_snoc, addF]
  split
  · exact ih
  · rename_i h
    rw [List.nodup_append]
    refine ⟨ih, List.nodup_cons.mpr ⟨List.not_mem_nil, List.nodup_nil⟩, fun a ha b hb => ?_⟩
    rw [List.mem_singleton.mp hb]
    exact fun e => h (e ▸ ha)
theorem firsts_le (ks : List Lot) : (firstsOf ks).length ≤ ks.length := nodup_le (nodup_firsts ks) fun x hx => (mem_firsts ks x).mp hx
theorem getD_map (g : Lot → PyData) (k : Lot) : ∀ L : List Lot, getD (L.map fun k => (k, g k)) k = if k ∈ L then some (g k) else none
  | [] => rfl
  | x :: L => by
    have ih := getD_map g k L
    unfold getD at ih ⊢
    rw [List.map_cons]
    by_cases h : x = k
    · subst h
      rw [List.find?_cons_of_pos (by simp), if_pos List.mem_cons_self]
      rfl
    · rw [List.find?_cons_of_neg (by simpa using h), ih]
      by_cases m : k ∈ L
      · rw [if_pos m, if_pos (List.mem_cons_of_mem _ m)]
      · rw [if_neg m, if_neg (fun z => (List.mem_cons.mp z).elim (fun e => h e.symm) m)]
theorem putD_map (g g' : Lot → PyData) (k : Lot) (d : PyData) (L : List Lot) (hk : g' k = d) (ho : ∀ x ∈ L, x ≠ k → g' x = g x) : putD (L.map fun k => (k, g k)) k d = (addF L k).map fun k => (k, g' k) := by
  unfold putD addF
  rw [getD_map]
  by_cases m : k ∈ L
  · rw [if_pos m, if_pos m]
    show ((L.map fun k => (k, g k)).map fun p => if p.1 = k then (p.1, d) else p) = _
    rw [List.map_map]
    refine List.map_congr_left fun x hx => ?_
    show (if x = k then (x, d) else (x, g x)) = (x, g' x)
    by_cases h : x = k
    · rw [if_pos h, h, hk]
    · rw [if_neg h, ho x hx h]
  · rw [if_neg m, if_neg m]
    show (L.map fun k => (k, g k)) ++ [(k, d)] = _
    rw [List.map_append, List.map_cons, hk]
    congr 1
    refine List.map_congr_left fun x hx => ?_
    rw [ho x hx (fun e => m (e ▸ hx))]
/-- how often each -/
def sizesD (ks : List Lot) : DD := (firstsOf ks).map fun k => (k, .int (ks.count k))
theorem sizes_get (ks : List Lot) (k : Lot) : (getD (sizesD ks) k).getD (.int 0) = .int (ks.count k) := by
  unfold sizesD
  rw [getD_map]
  by_cases m : k ∈ firstsOf ks
  · rw [if_pos m]; rfl
  · rw [if_neg m]
    have : ks.count k = 0 := List.count_eq_zero.mpr fun z => m ((mem_firsts ks k).mpr z)
    rw [this]
    rfl
theorem sizes_snoc (ks : List Lot) (k : Lot) : putD (sizesD ks) k (.int ((ks.count k : Nat) + 1)) = sizesD (ks ++ [k]) := by
  unfold sizesD
  rw [firsts_snoc]
  refine putD_map _ _ k _ _ ?_ fun x _ hx => ?_
  · rw [List.count_append, List.count_singleton_self]
    rfl
  · rw [List.count_append, List.count_singleton, if_neg (by simpa using fun e => hx e.symm)]
    rfl
/-- the first of each -/
def firstH (f : List Int → Lot) (hs : List (List Int)) (k : Lot) : List Int := (hs.find? fun h => decide (f h = k)).getD []
def firstsD (f : List Int → Lot) (hs : List (List Int)) : DD := (firstsOf (hs.map f)).map fun k => (k, eH (firstH f hs k))
theorem firsts_has (f : List Int → Lot) (hs : List (List Int)) (k : Lot) : (getD (firstsD f hs) k).isSome = decide (k ∈ hs.map f) := by
  unfold firstsD
  rw [getD_map]
  by_cases m : k ∈ firstsOf (hs.map f)
  · rw [if_pos m, decide_eq_true ((mem_firsts _ _).mp m)]; rfl
  · rw [if_neg m, decide_eq_false fun z => m ((mem_firsts _ _).mpr z)]; rfl
theorem firsts_old (f : List Int → Lot) (hs : List (List Int)) (h : List Int) (m : f h ∈ hs.map f) : firstsD f (hs ++ [h]) = firstsD f hs := by
  unfold firstsD
  rw [List.map_append, List.map_cons, List.map_nil, firsts_snoc, addF, if_pos ((mem_firsts _ _).mpr m)]
  refine List.map_congr_left fun k hk => ?_
  obtain ⟨g, hg, e⟩ := List.mem_map.mp ((mem_firsts _ _).mp hk)
  have : firstH f (hs ++ [h]) k = firstH f hs k := by
    unfold firstH
    rw [List.find?_append]
    have : (hs.find? fun h => decide (f h = k)).isSome := List.find?_isSome.mpr ⟨g, hg, decide_eq_true e⟩
    obtain ⟨y, hy⟩ := Option.isSome_iff_exists.mp this
    rw [hy]
    rfl
  rw [this]
theorem firsts_new (f : List Int → Lot) (hs : List (List Int)) (h : List Int) (m : f h ∉ hs.map f) : putD (firstsD f hs) (f h) (eH h) = firstsD f (hs ++ [h]) := by
  unfold firstsD
  rw [List.map_append, List.map_cons, List.map_nil, firsts_snoc]
  refine putD_map _ _ _ _ _ ?_ fun x hx hne => ?_
  · have : firstH f (hs ++ [h]) (f h) = h := by
      unfold firstH
      rw [List.find?_append]
      have : (hs.find? fun g => decide (f g = f h)) = none := List.find?_eq_none.mpr fun g hg z => m (List.mem_map.mpr ⟨g, hg, of_decide_eq_true z⟩)
      rw [this, List.find?_cons_of_pos (by simp)]
      rfl
    rw [this]
  · obtain ⟨g, hg, e⟩ := List.mem_map.mp ((mem_firsts _ _).mp hx)
    have : firstH f (hs ++ [h]) x = firstH f hs x := by
      unfold firstH
      rw [List.find?_append]
      have : (hs.find? fun h => decide (f h = x)).isSome := List.find?_isSome.mpr ⟨g, hg, decide_eq_true e⟩
      obtain ⟨y, hy⟩ := Option.isSome_iff_exists.mp this
      rw [hy]
      rfl
    rw [this]
/-- what all_lots tells: (the first heights, how many), sorted -/
abbrev eS (p : List Int × Int) : PyData := .tuple [eH p.1, .int p.2]
def lotsOf (f : List Int → Lot) (hs : List (List Int)) : List (List Int × Int) := (firstsOf (hs.map f)).map fun k => (firstH f hs k, ((hs.map f).count k : Nat))
def sortS (l : List (List Int × Int)) : List (List Int × Int) := l.mergeSort (PySem.W.dataLe false eS)
theorem sortS_perm (l : List (List Int × Int)) : (sortS l).Perm l := List.mergeSort_perm _ _
theorem sort_lots (l : List (List Int × Int)) : sortD (l.map eS) = (sortS l).map eS := by
  unfold sortD sortS
  exact (PySem.W.sort_maps eS fun a _ b _ => rfl).symm
theorem alike_ints : ∀ a b : List Int, PySem.W.alikeAll (a.map .int) (b.map .int) = true
  | [], [] => rfl
  | [], _ :: _ => rfl
  | _ :: _, [] => rfl
  | x :: a, y :: b => by
    show (PySem.W.alike (.int x) (.int y) && PySem.W.alikeAll (a.map .int) (b.map .int)) = true
    rw [alike_ints a b]
    rfl
theorem alike_lots (l : List (List Int × Int)) : PySem.W.AllAlike (l.map eS) := PySem.W.AllAlike.of fun a b => by
  show (PySem.W.alikeAll (a.1.map .int) (b.1.map .int) && (PySem.W.alike (.int a.2) (.int b.2) && true)) = true
  rw [alike_ints]
  rfl
theorem sortable_lots (l : List (List Int × Int)) : PySem.W.Sortable (l.map eS) := PySem.W.Sortable.tuples fun _ => ⟨_, _, rfl⟩
theorem depth_ints : ∀ h : List Int, PyData.depthAll (h.map .int) = 0
  | [] => rfl
  | x :: h => by
    show max 0 (PyData.depthAll (h.map .int)) = 0
    rw [depth_ints h]
    rfl
theorem depth_lot (p : List Int × Int) : (eS p).depth ≤ 2 := by
  show max (PyData.depthAll (p.1.map .int) + 1) (max 0 0) + 1 ≤ 2
  rw [depth_ints]
  decide
end Lv

namespace Lv
open PySem PySem.Spec PyProof.Rows L2
section
variable {P : Program} {w : World} {K : PySem.W.Frag} {mg : Str → Option Value} {base : Heap}
/-! ### all_lots -/
def RLots : List PyData → PyData → Prop := fun ds d => ∃ (n r : Nat) (es : List Mir.Edge), ds = [eW n es, .int r] ∧ WebOk n es ∧ r ≤ 9 ∧ (r + 1) ^ n ≤ 3000 ∧ d = .list ((sortS (lotsOf (Mir.lotOf es) (Mir.every n r))).map eS)
abbrev N32 : List Str := ["web", "roof", "sizes", "firsts", "one", "told"]
theorem sc32 : FnScope N32 ["web", "roof"] (defScope (top 32)) := ⟨rfl, rfl, rfl, by decide +kernel, rfl, by decide +kernel, by decide +kernel⟩
theorem ok_all_lots {f : Addr} {fd : FuncData} (F : Fun K "all_lots" "all_lots" (top 32) f fd) (T : Txt mg) (C18 : Cal P w K mg base 1 "all_heights" ["many", "roof"] (SpR RAll)) (C31 : Cal P w K mg base 2 "lot_of" ["web", "heights"] (SpR RLot)) :
    FnOk P w K mg base CX0 3 f fd ["web", "roof"] (SpR RLots) := by
  refine fn_raw F sc32 (fun ds d h => by obtain ⟨_, _, _, rfl, _⟩ := h; rfl) (fun cdv A outer s H E hr ds d h H0 G σ Q wd q => ?_)
  obtain ⟨n, r, es, rfl, W, hr9, hz, rfl⟩ := h
  have hn9 := W.hi
  refine b_cons (of_ps (ps_asg (pe_tup (pa_cons pe_self (pa_cons pe_self pa_nil rfl) rfl)) (g2' 2 3 rfl sc32.nd) rfl rfl rfl) ?_)
  refine w_dnew wd fun l1 n1 le1 at1 => w_dnew (wd.le le1) fun l2 n2 le2 at2 => ⟨show 2 ≤ sizeLine from by decide, fun p np => ?_⟩
  refine ⟨p, _, rfl, SqT.of upd_same, rfl, _, _, rfl, _, _, rfl, rfl, ?_⟩
  have e12 : l1 ≠ l2 := ne_of_none upd_same n2
  have le3 := Le.new (o := .tup [V.ref l1, V.ref l2]) le2.w np
  have own1 : OwnD P w G H0 _ l1 (sizesD []) := ⟨n1, wd.w.free n1, at1.le le2⟩
  have own2 : OwnD P w G H0 _ l2 (firstsD (Mir.lotOf es) []) := ⟨by have := n2; rwa [upd_ne e12.symm] at this, le1.w.free n2, at2⟩
  have w0 : Wd _ _ _ [some (eW n es), some (.int r), none, none, none, none] := ⟨le3.w, (((wd.st.mono le1.s0).mono le2.s0).drop 2 (some (V.ref l1))).drop 3 (some (V.ref l2)) |>.mono le3.s0⟩
  have le0 := (le1.trans le2).trans le3
  have slot2 : ((σ.set 2 (some (V.ref l1))).set 3 (some (V.ref l2)))[2]? = some (some (V.ref l1)) := by
    rw [List.getElem?_set_ne (by decide), List.getElem?_set_self (by rw [← wd.st.len]; exact (by decide : 2 < 6))]
  have slot3 : ((σ.set 2 (some (V.ref l1))).set 3 (some (V.ref l2)))[3]? = some (some (V.ref l2)) := by
    rw [List.getElem?_set_self (by rw [List.length_set, ← wd.st.len]; exact (by decide : 3 < 6))]
  have own1' := own1.le le3
  have own2' := own2.le le3
  clear own1 own2 at1 at2
  refine b_cons (s_for (ρ := [some (eW n es), some (.int r), none, none, none, none]) (xs := Mir.every n r) (enc := eH) PassesOwn.never rfl (ji_list (c' C18 (hr.mono (by decide)) (a2 (ix' 0 (v' 0)) (a1 (v' 1))) ⟨n, r, rfl, by omega, hr9, hz, rfl⟩)) (g' 4 sc32.nd) (fun _ => rfl) w0 fun G0 G1 le4 w1 => ?_)
  refine ⟨fun k K0 K τ => Same G0 K0 ∧ Le H0 G K0 K ∧ OwnD P w G K0 K l1 (sizesD (((Mir.every n r).take k).map (Mir.lotOf es))) ∧ OwnD P w G K0 K l2 (firstsD (Mir.lotOf es) ((Mir.every n r).take k)) ∧ Wd K0 K τ [some (eW n es), some (.int r), none, none, none, none] ∧ τ[2]? = some (some (.ref l1)) ∧ τ[3]? = some (some (.ref l2)),
    ⟨Same.refl _, le0.trans le4, own1'.le le4, own2'.le le4, w1, slot2, slot3⟩, fun k K0 K τ iv => ⟨iv.1, iv.2.1.w⟩, ?_, ?_⟩
  · rintro k h K0 K τ hk ⟨s0, le, o1, o2, wd2, t2, t3⟩ v K0' K' le5 rv
    have hin := Mir.mem_every (List.mem_of_getElem? hk)
    have tk : (Mir.every n r).take (k + 1) = (Mir.every n r).take k ++ [h] := by rw [List.take_add_one, hk]; rfl
    have len : ∀ ks : List Lot, ks.length ≤ 100000 → (sizesD ks).length ≤ 100000 := fun ks hk => by
      unfold sizesD; rw [List.length_map]; exact Nat.le_trans (firsts_le ks) hk
    have klen : ((Mir.every n r).take k).length ≤ 100000 := by rw [List.length_take, Mir.every_length]; omega
    refine jg_name (ρ := [some (eW n es), some (.int r), none, none, none, none]) (vs := [4]) (by simp) K0' K' τ v _ (wd2.le le5) rv fun τ2 wd3 hw => ?_
    have t2' : τ2[2]? = some (some (.ref l1)) := (keep_slot hw (by simp)).trans t2
    have t3' : τ2[3]? = some (some (.ref l2)) := (keep_slot hw (by simp)).trans t3
    refine b_cons (s_set (i := 5) sc32.nd rfl (Or.inl rfl) (c' C31 (hr.mono (by decide)) (a2 (v' 0) (a1 (v' 4))) ⟨n, es, h, rfl, W.fit hin, rfl⟩) rfl (.inr rfl) wd3 fun vt M0 M le6 w4 rt => ?_)
    have u2 : (τ2.set 5 (some vt))[2]? = some (some (.ref l1)) := by rw [List.getElem?_set_ne (by decide)]; exact t2'
    have u3 : (τ2.set 5 (some vt))[3]? = some (some (.ref l2)) := by rw [List.getElem?_set_ne (by decide)]; exact t3'
    have o1' := (o1.le le5).le le6
    have o2' := (o2.le le5).le le6
    generalize τ2.set 5 (some vt) = τ3 at u2 u3 w4 ⊢
    refine b_cons (w_dput (H0 := M0) (i := 2) (d := .int ((((Mir.every n r).take k).map (Mir.lotOf es)).count (Mir.lotOf es h) + 1 : Nat)) (ρ := [some (eW n es), some (.int r), none, none, some (eH h), some (eL (Mir.lotOf es h))]) hr.units rfl (Or.inr (Or.inl rfl)) (by decide) (by decide) rfl u2 (len (((Mir.every n r).take k).map (Mir.lotOf es)) (by rw [List.length_map]; exact klen)) (v' 5) ?_ fun M1 M2 ob le7 w5 at5 => ?_)
    · refine of_pe (pe_op op_add pe_self pe_self) (w_dget2 (i := 2) (df := .int 0) hr.units ⟨rfl, rfl, rfl, rfl⟩ rfl (Or.inr (Or.inl rfl)) (by decide) (by decide) (v' 5) j_int w4 u2 o1'.at_ fun v1 A0 A le8 r8 => (j_int (i := 1)).run (w4.le le8) fun v2 B0 B le9 w9 r9 => ?_)
      rw [sizes_get] at r8
      exact ⟨_, _, rep_int r8, rep_int r9, B0, le8.trans le9, w9, .int _, (o1'.at_.le le8).le le9⟩
    · have put : putD (sizesD (((Mir.every n r).take k).map (Mir.lotOf es))) (Mir.lotOf es h) (.int ((((Mir.every n r).take k).map (Mir.lotOf es)).count (Mir.lotOf es h) + 1 : Nat)) = sizesD (((Mir.every n r).take (k + 1)).map (Mir.lotOf es)) := by
        rw [tk, List.map_append]
        exact sizes_snoc _ _
      rw [put] at at5
      have n1' : M1 l1 = none := (o1'.le le7).out
      have le7' : Le H0 G M1 (upd M2 l1 ob) := ((((le.trans le5).trans le6).trans le7)).own n1 n1'
      have s7 : Same G0 M1 := s0.trans (le5.s0.trans (le6.s0.trans le7.s0))
      have o2'' : OwnD P w G M1 (upd M2 l1 ob) l2 (firstsD (Mir.lotOf es) ((Mir.every n r).take k)) := (o2'.le le7).other e12.symm
      have w5' : Wd M1 (upd M2 l1 ob) τ3 [some (eW n es), some (.int r), none, none, some (eH h), some (eL (Mir.lotOf es h))] := ⟨same_own w5.w n1', w5.st⟩
      refine b_cons (of_ps (ps_if pt_self pb_self pb_self) (w_dnotin (i := 3) hr.units rfl (Or.inr (Or.inl rfl)) (by decide) (by decide) (v' 5) w5' u3 o2''.at_ fun J0 J1 le10 => ?_))
      have o1f : OwnD P w G J0 J1 l1 (sizesD (((Mir.every n r).take (k + 1)).map (Mir.lotOf es))) := OwnD.le ⟨o1'.new, n1', at5⟩ le10
      rw [firsts_has]
      by_cases hm : Mir.lotOf es h ∈ ((Mir.every n r).take k).map (Mir.lotOf es)
      · rw [decide_eq_true hm]
        refine iteF (b_nil (b_nil ⟨J0, s7.trans le10.s0, le7'.trans le10, o1f, ?_, (w5'.le le10).sub (sk (sk (sk (sk (sd (sd sub_nil)))))), u2, u3⟩))
        rw [tk, firsts_old _ _ _ hm]
        exact o2''.le le10
      · rw [decide_eq_false hm]
        refine iteT (b_cons (w_dput (H0 := J0) (i := 3) (d := eH h) hr.units rfl (Or.inr (Or.inl rfl)) (by decide) (by decide) rfl u3 ?_ (v' 5) ((v' 4).run (w5'.le le10) fun vv A0 A le11 w11 r11 => ⟨A0, le11, w11, r11, (o2''.le le10).at_.le le11⟩) fun M3 M4 ob2 le12 w12 at12 => b_nil (b_nil ?_)))
        · unfold firstsD; rw [List.length_map]; exact Nat.le_trans (firsts_le _) (by rw [List.length_map]; exact klen)
        · have put2 : putD (firstsD (Mir.lotOf es) ((Mir.every n r).take k)) (Mir.lotOf es h) (eH h) = firstsD (Mir.lotOf es) ((Mir.every n r).take (k + 1)) := by
            rw [tk]
            exact firsts_new _ _ _ hm
          rw [put2] at at12
          have n2' : M3 l2 = none := ((o2''.le le10).le le12).out
          exact ⟨M3, s7.trans (le10.s0.trans le12.s0), ((le7'.trans le10).trans le12).own o2''.new n2', (o1f.le le12).other e12, ⟨o2''.new, n2', at12⟩, (show Wd _ _ _ _ from ⟨same_own w12.w n2', w12.st⟩).sub (sk (sk (sk (sk (sd (sd sub_nil)))))), u2, u3⟩
  · rintro K0 K τ ⟨s0, le, o1, o2, wd2, t2, t3⟩
    rw [List.take_length] at o1 o2
    obtain ⟨F0, lef, sf, keepf, fz1⟩ := o1.freeze le
    have o2f : OwnD P w G F0 K l2 _ := ⟨o2.new, keepf _ e12.symm o2.out, let ⟨o, xs, e, k, r⟩ := o2.at_; ⟨o, xs, e, k, Paired.mapP r fun _ _ z => z.mono sf⟩⟩
    obtain ⟨F1, lef2, sf2, keepf2, fz2⟩ := o2f.freeze lef
    have fz1' : DAt P w F1 F1 l1 _ := fz1.up sf2 (Same.refl _)
    have wf : Wd F1 K τ [some (eW n es), some (.int r), none, none, none, none] := wd2.more (sf.trans sf2) lef2.w
    refine b_cons (of_ps (ps_ret pe_self) (of_pe (pe_callB cr_sortD (by rfl) T.sorted (by decide +kernel) (pa_cons pe_self pa_nil rfl) (by decide) (by decide) rfl rfl) ?_))
    refine w_lc (xs := firstsOf ((Mir.every n r).map (Mir.lotOf es))) (enc := eL) (f := fun k => some (eS (firstH (Mir.lotOf es) (Mir.every n r) k, (((Mir.every n r).map (Mir.lotOf es)).count k : Nat)))) (own := [("told", 5)]) rfl sc32.nd (fun R hR => wi_keys (i := 3) rfl (Or.inr (Or.inl rfl)) (by decide) (by decide) t3 wf fz2 rfl rfl fun it y => hR it F1 K (Le.refl wf.w) ?_)
      (blkOk_by (N := N32) (sc := defScope (top 32)) (by decide +kernel)) (fun _ _ _ _ _ => g' 5 sc32.nd) (fun k hk => ⟨_, jg_name (by simp), fun _ _ _ _ _ => ⟨jts_nil, fun d hd G2 G3 τ3 Q2 wd3 sm hw q2 => ?_⟩⟩) ?_ (fun _ => rfl) wf fun v J0 J1 le13 r13 => ?_
    · have e : (firstsD (Mir.lotOf es) (Mir.every n r)).map (fun p => eL p.1) = (firstsOf ((Mir.every n r).map (Mir.lotOf es))).map eL := by
        unfold firstsD
        rw [List.map_map]
        rfl
      rw [e] at y
      exact y
    · cases hd
      have t2' : τ3[2]? = some (some (.ref l1)) := (keep_slot hw (by simp)).trans t2
      have t3' : τ3[3]? = some (some (.ref l2)) := (keep_slot hw (by simp)).trans t3
      refine of_pe (pe_tup (pa_cons pe_self (pa_cons pe_self pa_nil rfl) rfl)) (w_dget (i := 3) (d := eH (firstH (Mir.lotOf es) (Mir.every n r) k)) hr.units rfl (by first | exact Or.inl rfl | exact Or.inr (Or.inl rfl) | exact Or.inr (Or.inr rfl)) (by decide) (by decide) (fun _ _ => rfl) (v' 5) wd3 t3' (fz2.up sm wd3.w) ?_ fun v1 A0 A le8 r8 =>
        w_dget (i := 2) (d := .int (((Mir.every n r).map (Mir.lotOf es)).count k : Nat)) hr.units rfl (by first | exact Or.inl rfl | exact Or.inr (Or.inl rfl) | exact Or.inr (Or.inr rfl)) (by decide) (by decide) (fun _ _ => rfl) (v' 5) (wd3.le le8) t2' ((fz1'.up sm wd3.w).le le8) ?_ fun v2 B0 B le9 r9 => ⟨show 2 ≤ sizeLine from by decide, fun p np => q2 _ _ _ ((le8.trans le9).trans (Le.new le9.w np)) (.tup upd_same (.cons (r8.mono (le9.s0.trans (Le.new le9.w np).s0)) (.cons (r9.mono (Le.new le9.w np).s0) .nil)))⟩)
      · unfold firstsD
        rw [getD_map, if_pos hk]
      · unfold sizesD
        rw [getD_map, if_pos hk]
    · exact Nat.le_trans (firsts_le _) (by rw [List.length_map, Mir.every_length]; omega)
    · rw [fm_some] at r13
      have e : (firstsOf ((Mir.every n r).map (Mir.lotOf es))).map (fun k => eS (firstH (Mir.lotOf es) (Mir.every n r) k, (((Mir.every n r).map (Mir.lotOf es)).count k : Nat))) = (lotsOf (Mir.lotOf es) (Mir.every n r)).map eS := by
        unfold lotsOf
        rw [List.map_map]
        rfl
      rw [e] at r13
      refine q_sort (alike_lots _) (sortable_lots _) ?_ ?_ J0 J1 _ _ le13.w (.inl (.cons r13 .nil)) fun v2 L0 L1 le14 r14 => ?_
      · unfold lotsOf
        rw [List.length_map, List.length_map]
        exact Nat.le_trans (firsts_le _) (by rw [List.length_map, Mir.every_length]; omega)
      · intro d hd
        obtain ⟨x, _, rfl⟩ := List.mem_map.mp hd
        have h1 := depth_lot x
        have h2 := ru (m := 10) hr
        exact Nat.lt_of_le_of_lt (Nat.add_le_add_left h1 _) (Nat.lt_of_le_of_lt (Nat.add_le_add_left (by decide : 2 ≤ 8) _) h2)
      · rw [sort_lots] at r14
        exact q _ _ _ ((lef2.trans le13).trans le14) r14
end
end Lv

namespace Lv
open PySem PySem.Spec PyProof.Rows L2
/-! ### few webs -/
def pairsUp (m : Nat) : Nat → List Mir.Edge
  | 0 => []
  | k + 1 => pairsUp m k ++ (Mir.upto ((k : Int) + 1) (m - (k + 1))).map fun j => ((k : Int), j)
def pairsOf (m : Nat) : List Mir.Edge := pairsUp m m
def websStep (acc : List (List Mir.Edge)) (e : Mir.Edge) : List (List Mir.Edge) := acc ++ acc.map fun es => es ++ [e]
def websOf (ps : List Mir.Edge) : List (List Mir.Edge) := ps.foldl websStep [[]]
theorem webs_snoc (ps : List Mir.Edge) (e : Mir.Edge) : websOf (ps ++ [e]) = websStep (websOf ps) e := by
  unfold websOf
  rw [List.foldl_append]
  rfl
theorem webs_sub (ps : List Mir.Edge) : ∀ es ∈ websOf ps, es.Sublist ps := by
  refine snoc_ind (p := fun ps => ∀ es ∈ websOf ps, es.Sublist ps) (fun es h => ?_) (fun l e ih es h => ?_) ps
  · rw [List.mem_singleton.mp h]
    exact List.Sublist.refl _
  · rw [webs_snoc, websStep, List.mem_append] at h
    rcases h with h | h
    · exact (ih es h).trans (List.sublist_append_left _ _)
    · obtain ⟨fs, hf, rfl⟩ := List.mem_map.mp h
      exact (ih fs hf).append (List.Sublist.refl _)
theorem webs_len (ps : List Mir.Edge) : (websOf ps).length = 2 ^ ps.length := by
  refine snoc_ind (p := fun ps => (websOf ps).length = 2 ^ ps.length) rfl (fun l e ih => ?_) ps
  rw [webs_snoc, websStep, List.length_append, List.length_map, ih, List.length_append, List.length_singleton, Nat.pow_succ]
  omega
theorem pairs_one : pairsOf 1 = [] := by decide
theorem pairs_two : pairsOf 2 = [(0, 1)] := by decide
theorem pairs_three : pairsOf 3 = [(0, 1), (0, 2), (1, 2)] := by decide
theorem pairs_asc {m : Nat} (h1 : 1 ≤ m) (h3 : m ≤ 3) : (pairsOf m).Pairwise fun a b => Mir.ltE a b = true := by
  obtain rfl | rfl | rfl : m = 1 ∨ m = 2 ∨ m = 3 := by omega
  · rw [pairs_one]; exact List.Pairwise.nil
  · rw [pairs_two]; decide
  · rw [pairs_three]; decide
theorem pairs_len {m : Nat} (h1 : 1 ≤ m) (h3 : m ≤ 3) : (pairsOf m).length ≤ 3 := by
  obtain rfl | rfl | rfl : m = 1 ∨ m = 2 ∨ m = 3 := by omega
  · rw [pairs_one]; decide
  · rw [pairs_two]; decide
  · rw [pairs_three]; decide
theorem pairs_in {m : Nat} (h1 : 1 ≤ m) (h3 : m ≤ 3) : ∀ e ∈ pairsOf m, 0 ≤ e.1 ∧ e.1 < e.2 ∧ e.2 < (m : Int) := by
  obtain rfl | rfl | rfl : m = 1 ∨ m = 2 ∨ m = 3 := by omega
  · rw [pairs_one]; decide
  · rw [pairs_two]; decide
  · rw [pairs_three]; decide
theorem lt_le {a b : Mir.Edge} (h : Mir.ltE a b = true) : Mir.leE a b = true := by
  simp only [Mir.ltE, Mir.leE, decide_eq_true_eq] at h ⊢
  omega
theorem sortE_asc {l : List Mir.Edge} (h : l.Pairwise fun a b => Mir.ltE a b = true) : Mir.sortE l = l := List.mergeSort_of_pairwise (h.imp fun z => lt_le z)
theorem asc_next {es : List Mir.Edge} (h : es.Pairwise fun a b => Mir.ltE a b = true) (k : Nat) (a b : Mir.Edge) (ha : es[k]? = some a) (hb : es[k + 1]? = some b) : Mir.leE b a = false := by
  obtain ⟨h1, rfl⟩ := List.getElem?_eq_some_iff.mp ha
  obtain ⟨h2, rfl⟩ := List.getElem?_eq_some_iff.mp hb
  have := List.pairwise_iff_getElem.mp h k (k + 1) h1 h2 (Nat.lt_succ_self k)
  simp only [Mir.ltE, Mir.leE, decide_eq_true_eq, decide_eq_false_iff_not] at this ⊢
  omega
theorem web_ok {m : Nat} (h1 : 1 ≤ m) (h3 : m ≤ 3) {es : List Mir.Edge} (h : es ∈ websOf (pairsOf m)) : WebOk m es := by
  have sub := webs_sub _ _ h
  have len := sub.length_le
  have pl := pairs_len h1 h3
  exact ⟨by omega, by omega, fun e he => pairs_in h1 h3 e (sub.subset he), asc_next ((pairs_asc h1 h3).sublist sub), by omega⟩
section
variable {P : Program} {w : World} {K : PySem.W.Frag} {mg : Str → Option Value} {base : Heap}
/-! ### all_webs -/
def RWebs : List PyData → PyData → Prop := fun ds d => ∃ m : Nat, ds = [.int m] ∧ 1 ≤ m ∧ m ≤ 3 ∧ d = .list ((websOf (pairsOf m)).map (eW m))
abbrev eEs (es : List Mir.Edge) : PyData := .tuple (es.map eE)
abbrev N35 : List Str := ["many", "pairs", "found", "k", "j", "edge", "edges"]
theorem sc35 : FnScope N35 ["many"] (defScope (top 35)) := ⟨rfl, rfl, rfl, by decide +kernel, rfl, by decide +kernel, by decide +kernel⟩
theorem ok_all_webs {f : Addr} {fd : FuncData} (F : Fun K "all_webs" "all_webs" (top 35) f fd) (T : Txt mg) : FnOk P w K mg base CX0 1 f fd ["many"] (SpR RWebs) := by
  refine fn_ok F sc35 (fun ds d h => by obtain ⟨_, rfl, _⟩ := h; rfl) (fun cdv A outer s H E hr ds d h => ?_)
  obtain ⟨m, rfl, h1, h3, rfl⟩ := h
  have hpl := pairs_len h1 h3
  have hup : ∀ k, k ≤ 3 → (pairsUp m k).length ≤ 9 := by
    intro k
    induction k with
    | zero => intro _; exact Nat.zero_le _
    | succ k ih =>
      intro hk
      show (pairsUp m k ++ _).length ≤ 9
      obtain rfl | rfl | rfl : k = 0 ∨ k = 1 ∨ k = 2 := by omega
      · simp only [pairsUp, List.nil_append, List.length_map, Mir.upto_length]; omega
      · simp only [pairsUp, List.nil_append, List.length_append, List.length_map, Mir.upto_length]; omega
      · simp only [pairsUp, List.nil_append, List.length_append, List.length_map, Mir.upto_length]; omega
  have hwl : ∀ k, (websOf ((pairsOf m).take k)).length ≤ 8 := fun k => by
    rw [webs_len]
    have : ((pairsOf m).take k).length ≤ 3 := by rw [List.length_take]; omega
    exact Nat.le_trans (Nat.pow_le_pow_right (by omega) this) (by decide)
  refine ⟨_, js_cons (par2' 1 2 rfl sc35.nd (by decide) (j_lst ja_nil (Nat.zero_le _)) (j_lst (a1 (j_tup ja_nil (Nat.zero_le _))) (by simp))) (js_cons
    (j1_for (xs := rangeI 0 (Int.toNat m)) (enc := .int) (fun k => [some (.int m), some (.list ((pairsUp m k).map eE)), some (.list ((websOf []).map eEs)), none, none, none, none]) m PassesOwn.never rfl
      (rg1' T.range (v' 0) (by omega) (by omega)) (g' 3 sc35.nd) (sk (sk (sk (sk (sk (sk (sk sub_nil))))))) (fun k u hu hk => ⟨_, [3], jg_name (by simp), ?_⟩) (.inl ⟨by rw [rangeI_length]; omega, rfl⟩) (fun _ => rfl)) (js_cons
    (j1_for (ρ := [some (.int m), some (.list ((pairsOf m).map eE)), some (.list ((websOf []).map eEs)), none, none, none, none]) (xs := pairsOf m) (enc := eE) (fun k => [some (.int m), some (.list ((pairsOf m).map eE)), some (.list ((websOf ((pairsOf m).take k)).map eEs)), none, none, none, none]) (pairsOf m).length PassesOwn.never rfl
      (ji_list (v' 1)) (g' 5 sc35.nd) (sk (sk (sk (sk (sk (sk (sk sub_nil))))))) (fun k u hu hk => ⟨_, [5], jg_name (by simp), ?_⟩) (.inl ⟨rfl, rfl⟩) (fun _ => rfl))
    (js_end (j1_ret (jc (lc' (xs := websOf ((pairsOf m).take (pairsOf m).length)) (enc := eEs) (f := fun es => some (eW m es)) [("edges", 6)] rfl sc35.nd (ji_list (v' 2)) (blkOk_by (N := N35) (sc := defScope (top 35)) (by decide +kernel)) (fun _ _ _ _ _ => g' 6 sc35.nd)
        (fun es hes => ⟨_, jg_name (by simp), fun _ _ _ _ _ => ⟨jts_nil, fun d hd => ?_⟩⟩) (Nat.le_trans (hwl _) (by decide))) ?_))))), .inl rfl⟩
  · have hk' : k < m := hk
    have eu : u = (k : Int) := by
      rw [rangeI_get (by omega)] at hu
      cases hu
      omega
    subst eu
    refine js_sub (js_cons (set' 1 sc35.nd (j_catL (v' 1) (lc' (xs := rangeI ((k : Int) + 1) (Int.toNat ((m : Int) - ((k : Int) + 1)))) (enc := .int) (f := fun j => some (eE ((k : Int), j))) [("j", 4)] rfl sc35.nd (rg2' T.range (j_add (v' 3) j_int) (v' 0) (by omega) (by omega) (by omega) (by omega)) (blkOk_by (N := N35) (sc := defScope (top 35)) (by decide +kernel)) (fun _ _ _ _ _ => g' 4 sc35.nd)
        (fun x hx => ⟨_, jg_name (by simp), fun _ _ _ _ _ => ⟨jts_nil, fun d hd => ?_⟩⟩) (by rw [rangeI_length]; omega)) ?_)) js_nil) ?_
    · cases hd
      exact j_tup (a2 (v' 3) (a1 (v' 4))) (by simp)
    · rw [List.length_map, fm_some, List.length_map, rangeI_length]
      have := hup k (by omega)
      omega
    · refine sk (se ?_ (sk (sd (sk (sk (sk sub_nil))))))
      have e1 : Int.toNat ((m : Int) - ((k : Int) + 1)) = m - (k + 1) := by omega
      rw [fm_some, e1]
      show PyData.list ((pairsUp m k ++ _).map eE) = _
      rw [List.map_append, List.map_map]
      rfl
  · have tk : (pairsOf m).take (k + 1) = (pairsOf m).take k ++ [u] := take_snoc hu
    refine js_sub (js_cons (set' 2 sc35.nd (j_catL (v' 2) (lc' (xs := websOf ((pairsOf m).take k)) (enc := eEs) (f := fun es => some (eEs (es ++ [u]))) [("edges", 6)] rfl sc35.nd (ji_list (v' 2)) (blkOk_by (N := N35) (sc := defScope (top 35)) (by decide +kernel)) (fun _ _ _ _ _ => g' 6 sc35.nd)
        (fun es hes => ⟨_, jg_name (by simp), fun _ _ _ _ _ => ⟨jts_nil, fun d hd => ?_⟩⟩) (Nat.le_trans (hwl _) (by decide))) ?_)) js_nil) ?_
    · cases hd
      have sub : (es ++ [u]).Sublist (pairsOf m) := by
        refine List.Sublist.trans ?_ (List.take_sublist (k + 1) (pairsOf m))
        rw [tk]
        exact (webs_sub _ _ hes).append (List.Sublist.refl _)
      have asc := (pairs_asc h1 h3).sublist sub
      have len := sub.length_le
      refine jc (bty' call_tuple_of T.tuple b_tuple (a1 (blt' cr_sortD T.sorted (by decide +kernel) (a1 (jc (j_catT (v' 6) (j_tup (a1 (v' 5)) (by simp)) ?_) (show _ = PyData.tuple ((es ++ [u]).map eE) by rw [List.map_append]; rfl))) (fun H0 H vs Q w r q => q_sort (alike_edges _) (sortable_edges _) ?_ ?_ H0 H vs Q w (.inr r) q))) q_tuple) ?_
      · rw [List.length_append] at len
        rw [List.length_map]
        simp at len ⊢
        omega
      · rw [List.length_map]
        omega
      · intro d hd
        obtain ⟨e, _, rfl⟩ := List.mem_map.mp hd
        exact ru (m := 3) hr
      · rw [sort_edges, sortE_asc asc]
    · rw [List.length_map, fm_some, List.length_map]
      have := hwl k
      omega
    · refine sk (sk (se ?_ (sk (sk (sd (sk sub_nil))))))
      rw [fm_some, tk, webs_snoc, websStep, List.map_append, List.map_map]
      rfl
  · cases hd
    exact j_tup (a2 (v' 0) (a1 (v' 6))) (by simp)
  · rw [fm_some, List.take_length]
end
end Lv

namespace Lv
open PySem PySem.Spec PyProof.Rows L2
/-- each number once, with how often -/
def tally (ns : List Int) : PyData := .tuple ((Mir.sd Mir.ltI ns).map fun k => .tuple [.int k, .int (ns.count k : Nat)])
def gentleN (m r : Nat) : List Int := (websOf (pairsOf m)).map fun es => (((Mir.every m r).filter fun h => (Mir.steep es h).isEmpty).length : Int)
def lotsN (m r : Nat) : List Int := (websOf (pairsOf m)).map fun es => ((firstsOf ((Mir.every m r).map (Mir.lotOf es))).length : Int)
theorem webs8 {m : Nat} (h1 : 1 ≤ m) (h3 : m ≤ 3) : (websOf (pairsOf m)).length ≤ 8 := by
  rw [webs_len]
  exact Nat.le_trans (Nat.pow_le_pow_right (by omega) (pairs_len h1 h3)) (by decide)
theorem pow64 {m r : Nat} (h3 : m ≤ 3) (hr : r ≤ 3) : (r + 1) ^ m ≤ 64 := by
  refine Nat.le_trans (Nat.pow_le_pow_left (show r + 1 ≤ 4 by omega) m) ?_
  exact Nat.le_trans (Nat.pow_le_pow_right (by omega) h3) (by decide)
section
variable {P : Program} {w : World} {K : PySem.W.Frag} {mg : Str → Option Value} {base : Heap}
def RSmall : List PyData → PyData → Prop := fun ds d => ∃ m r : Nat, ds = [.int m, .int r] ∧ 1 ≤ m ∧ m ≤ 3 ∧ 1 ≤ r ∧ r ≤ 9 ∧ d = .none
abbrev N36 : List Str := ["many", "roof"]
theorem sc36 : FnScope N36 ["many", "roof"] (defScope (top 36)) := ⟨rfl, rfl, rfl, by decide +kernel, rfl, by decide +kernel, by decide +kernel⟩
theorem ok_need_small {f : Addr} {fd : FuncData} (F : Fun K "need_small" "need_small" (top 36) f fd) (T : Txt mg) (C7 : Cal P w K mg base 1 "is_in" ["value", "least", "most"] (SpR RIsIn)) (C16 : Cal P w K mg base 2 "need_roof" ["roof"] (SpR RRoof)) :
    FnOk P w K mg base CX0 3 f fd ["many", "roof"] (SpR RSmall) := by
  refine fn_ok F sc36 (fun ds d h => by obtain ⟨_, _, rfl, _⟩ := h; rfl) (fun cdv A outer s H E hr ds d h => ?_)
  obtain ⟨m, r, rfl, h1, h2, h3, h4, rfl⟩ := h
  refine ⟨_, js_cons (j1_if (jt_not (tv' (c' C7 (hr.mono (by decide)) (a2 (v' 0) (a2 j_int (a1 (gl' T.few)))) ⟨_, _, _, rfl, rfl⟩))) (fun h => ?_) (fun _ => js_nil)) (js_cons (ex' (c' C16 hr (a1 (v' 1)) ⟨r, rfl, by omega, by omega, rfl⟩)) js_nil), .inr ⟨rfl, _, rfl⟩⟩
  rw [decide_eq_true (show (1 : Int) ≤ m by omega), decide_eq_true (show (m : Int) ≤ 3 by omega)] at h
  cases h
def RGW (ns : Nat → Nat → List Int) : List PyData → PyData → Prop := fun ds d => ∃ m r : Nat, ds = [.int m, .int r] ∧ 1 ≤ m ∧ m ≤ 3 ∧ 1 ≤ r ∧ r ≤ 3 ∧ d = tally (ns m r)
abbrev N37 : List Str := ["many", "roof", "web", "told", "one"]
theorem sc37 : FnScope N37 ["many", "roof"] (defScope (top 37)) := ⟨rfl, rfl, rfl, by decide +kernel, rfl, by decide +kernel, by decide +kernel⟩
theorem ok_gentle_webs {f : Addr} {fd : FuncData} (F : Fun K "gentle_webs" "gentle_webs" (top 37) f fd) (T : Txt mg) (C36 : Cal P w K mg base 3 "need_small" ["many", "roof"] (SpR RSmall)) (C35 : Cal P w K mg base 1 "all_webs" ["many"] (SpR RWebs)) (C29 : Cal P w K mg base 2 "gentle_in" ["web", "roof"] (SpR RGentle)) :
    FnOk P w K mg base CX0 4 f fd ["many", "roof"] (SpR (RGW gentleN)) := by
  refine fn_ok F sc37 (fun ds d h => by obtain ⟨_, _, rfl, _⟩ := h; rfl) (fun cdv A outer s H E hr ds d h => ?_)
  obtain ⟨m, r, rfl, h1, h2, h3, h4, rfl⟩ := h
  have hw := webs8 h1 h2
  have hp := pow64 h2 h4
  refine ⟨_, js_cons (ex' (c' C36 hr (a2 (v' 0) (a1 (v' 1))) ⟨m, r, rfl, h1, h2, h3, by omega, rfl⟩)) (js_cons (set' (d := .list ((gentleN m r).map .int)) 3 sc37.nd (jc (lc' (xs := websOf (pairsOf m)) (enc := eW m) (f := fun es => some (.int ((((Mir.every m r).filter fun h => (Mir.steep es h).isEmpty).map eH).length))) [("web", 2)] rfl sc37.nd (ji_list (c' C35 (hr.mono (by decide)) (a1 (v' 0)) ⟨m, rfl, h1, h2, rfl⟩)) (blkOk_by (N := N37) (sc := defScope (top 37)) (by decide +kernel)) (fun _ _ _ _ _ => g' 2 sc37.nd)
        (fun es hes => ⟨_, jg_name (by simp), fun _ _ _ _ _ => ⟨jts_nil, fun d hd => ?_⟩⟩) (by omega)) ?_)) (js_end (j1_ret (jc (bty' call_tuple_of T.tuple b_tuple (a1 (lc' (xs := Mir.sd Mir.ltI (gentleN m r)) (enc := .int) (f := fun k => some (.tuple [.int k, .int ((gentleN m r).count k : Nat)])) [("one", 4)] rfl sc37.nd (ji_list (j_sortSetI rfl (v' 3) ?_ T.sorted T.set)) (blkOk_by (N := N37) (sc := defScope (top 37)) (by decide +kernel)) (fun _ _ _ _ _ => g' 4 sc37.nd)
        (fun k hk => ⟨_, jg_name (by simp), fun _ _ _ _ _ => ⟨jts_nil, fun d hd => ?_⟩⟩) ?_)) q_tuple) ?_)))), .inl rfl⟩
  · cases hd
    exact lenL' T.len (c' C29 (hr.mono (by decide)) (a2 (v' 2) (a1 (v' 1))) ⟨m, r, es, rfl, web_ok h1 h2 hes, by omega, by omega, rfl⟩)
  · rw [fm_some]
    unfold gentleN
    rw [List.map_map]
    congr 1
    refine List.map_congr_left fun es _ => ?_
    rw [List.length_map]
    rfl
  · unfold gentleN
    rw [List.length_map]
    omega
  · cases hd
    exact j_tup (a2 (v' 4) (a1 (count' (v' 3) (v' 4)))) (by simp)
  · refine Nat.le_trans (Mir.sd_length _) ?_
    unfold gentleN
    rw [List.length_map]
    omega
  · rw [fm_some]
    rfl
abbrev N38 : List Str := ["many", "roof", "web", "told", "one"]
theorem sc38 : FnScope N38 ["many", "roof"] (defScope (top 38)) := ⟨rfl, rfl, rfl, by decide +kernel, rfl, by decide +kernel, by decide +kernel⟩
theorem ok_lot_webs {f : Addr} {fd : FuncData} (F : Fun K "lot_webs" "lot_webs" (top 38) f fd) (T : Txt mg) (C36 : Cal P w K mg base 3 "need_small" ["many", "roof"] (SpR RSmall)) (C35 : Cal P w K mg base 1 "all_webs" ["many"] (SpR RWebs)) (C32 : Cal P w K mg base 3 "all_lots" ["web", "roof"] (SpR RLots)) :
    FnOk P w K mg base CX0 4 f fd ["many", "roof"] (SpR (RGW lotsN)) := by
  refine fn_ok F sc38 (fun ds d h => by obtain ⟨_, _, rfl, _⟩ := h; rfl) (fun cdv A outer s H E hr ds d h => ?_)
  obtain ⟨m, r, rfl, h1, h2, h3, h4, rfl⟩ := h
  have hw := webs8 h1 h2
  have hp := pow64 h2 h4
  refine ⟨_, js_cons (ex' (c' C36 hr (a2 (v' 0) (a1 (v' 1))) ⟨m, r, rfl, h1, h2, h3, by omega, rfl⟩)) (js_cons (set' (d := .list ((lotsN m r).map .int)) 3 sc38.nd (jc (lc' (xs := websOf (pairsOf m)) (enc := eW m) (f := fun es => some (.int (((sortS (lotsOf (Mir.lotOf es) (Mir.every m r))).map eS).length))) [("web", 2)] rfl sc38.nd (ji_list (c' C35 (hr.mono (by decide)) (a1 (v' 0)) ⟨m, rfl, h1, h2, rfl⟩)) (blkOk_by (N := N38) (sc := defScope (top 38)) (by decide +kernel)) (fun _ _ _ _ _ => g' 2 sc38.nd)
        (fun es hes => ⟨_, jg_name (by simp), fun _ _ _ _ _ => ⟨jts_nil, fun d hd => ?_⟩⟩) (by omega)) ?_)) (js_end (j1_ret (jc (bty' call_tuple_of T.tuple b_tuple (a1 (lc' (xs := Mir.sd Mir.ltI (lotsN m r)) (enc := .int) (f := fun k => some (.tuple [.int k, .int ((lotsN m r).count k : Nat)])) [("one", 4)] rfl sc38.nd (ji_list (j_sortSetI rfl (v' 3) ?_ T.sorted T.set)) (blkOk_by (N := N38) (sc := defScope (top 38)) (by decide +kernel)) (fun _ _ _ _ _ => g' 4 sc38.nd)
        (fun k hk => ⟨_, jg_name (by simp), fun _ _ _ _ _ => ⟨jts_nil, fun d hd => ?_⟩⟩) ?_)) q_tuple) ?_)))), .inl rfl⟩
  · cases hd
    exact lenL' T.len (c' C32 hr (a2 (v' 2) (a1 (v' 1))) ⟨m, r, es, rfl, web_ok h1 h2 hes, by omega, by omega, rfl⟩)
  · rw [fm_some]
    unfold lotsN
    rw [List.map_map]
    congr 1
    refine List.map_congr_left fun es _ => ?_
    rw [List.length_map, (sortS_perm _).length_eq]
    unfold lotsOf
    rw [List.length_map]
    rfl
  · unfold lotsN
    rw [List.length_map]
    omega
  · cases hd
    exact j_tup (a2 (v' 4) (a1 (count' (v' 3) (v' 4)))) (by simp)
  · refine Nat.le_trans (Mir.sd_length _) ?_
    unfold lotsN
    rw [List.length_map]
    omega
  · rw [fm_some]
    rfl
end
end Lv

namespace Lv
open PySem PySem.Spec PyProof.Rows L2
/-! ### where the text's expressions stand -/
def lcScope : Expr → Scope
  | .ListComp _ _ s _ => s
  | _ => defScope (top 7)
def argOf : Expr → Nat → Expr
  | .Call _ as _ _, i => as.getD i (.Constant (.int 0) 0 ⟨0, 0, 0, 0⟩)
  | e, _ => e
def valOf : Stmt → Expr
  | .Assign _ v _ => v
  | .Return (some v) _ => v
  | .Expr v _ => v
  | _ => .Constant (.int 0) 0 ⟨0, 0, 0, 0⟩
def stOf (i k : Nat) : Stmt := (defBody (top i)).getD k (.Pass ⟨0, 0, 0, 0⟩)
/-! ### the most steep -/
abbrev eM (p : Int × List Int) : PyData := .tuple [.int p.1, eH p.2]
def bestL : List (Int × List Int) → Int × List Int
  | [] => (0, [])
  | x :: xs => xs.foldl (fun a y => if PySem.W.dataLt (eM y) (eM a) then y else a) x
theorem min_best (x : Int × List Int) : ∀ xs : List (Int × List Int), PySem.W.minD (eM x) (xs.map eM) = eM (bestL (x :: xs)) := by
  intro xs
  show (xs.map eM).foldl (fun a y => if PySem.W.dataLt y a then y else a) (eM x) = eM (xs.foldl (fun a y => if PySem.W.dataLt (eM y) (eM a) then y else a) x)
  induction xs generalizing x with
  | nil => rfl
  | cons y r ih =>
    rw [List.map_cons, List.foldl_cons, List.foldl_cons]
    by_cases h : PySem.W.dataLt (eM y) (eM x) = true
    · rw [if_pos h, if_pos h]; exact ih y
    · rw [if_neg h, if_neg h]; exact ih x
theorem alike_ms (l : List (Int × List Int)) : PySem.W.AlikeAll (l.map eM) := by
  refine ⟨fun x hx y hy => ?_, fun x hx => ?_⟩
  · obtain ⟨a, _, rfl⟩ := List.mem_map.mp hx
    obtain ⟨b, _, rfl⟩ := List.mem_map.mp hy
    show (PySem.W.alike (.int a.1) (.int b.1) && (PySem.W.alikeAll (a.2.map .int) (b.2.map .int) && true)) = true
    rw [alike_ints]
    rfl
  · obtain ⟨a, _, rfl⟩ := List.mem_map.mp hx
    exact fun z => nomatch z
theorem depth_ms : ∀ l : List (Int × List Int), PyData.depthAll (l.map eM) ≤ 2
  | [] => Nat.zero_le _
  | p :: l => by
    show max (max 0 (max (PyData.depthAll (p.2.map .int) + 1) 0) + 1) (PyData.depthAll (l.map eM)) ≤ 2
    rw [depth_ints]
    exact Nat.max_le.mpr ⟨by decide, depth_ms l⟩
theorem plain_ms : ∀ l : List (Int × List Int), PyData.plainAll (l.map eM) = true
  | [] => rfl
  | p :: l => by
    show ((true && (PyData.plainAll (p.2.map .int) && true)) && PyData.plainAll (l.map eM)) = true
    rw [plain_ints, plain_ms l]
    rfl
def steepL (n r : Nat) (es : List Mir.Edge) : List (Int × List Int) := (Mir.every n r).map fun h => (-((Mir.steep es h).length : Int), h)
def mostD (n r : Nat) (es : List Mir.Edge) : PyData := .tuple [.int (-(bestL (steepL n r es)).1), eH (bestL (steepL n r es)).2]
theorem every_some (n r : Nat) : Mir.every n r ≠ [] := fun h => by
  have := Mir.every_length r n
  rw [h] at this
  have h2 : 0 < (r + 1) ^ n := Nat.pow_pos (by omega)
  rw [← this] at h2
  exact absurd h2 (by simp)
/-- j: min over the list -/
theorem j_min' {X : Cx} {ρ : Env1} {e : Expr} {p pos : Pos} {l : List (Int × List Int)} (hc : X.calm = true) (hm : X.mg "min" = none) (hu : X.A.units + 16 < cLine) (hl : l ≠ []) (ha : J X ρ e (.list (l.map eM))) (hg : Gl X "min" := by rfl)
    (he : starEach (e :: []) X.env = (false, eval e X.env) :: starEach [] X.env := by rfl) (hpl : (backTo pos (starEach [] X.env)).any (·.1) = false := by rfl) : J X ρ (.Call (.Name "min" p) [e] [] pos) (eM (bestL l)) := by
  cases l with
  | nil => exact absurd rfl hl
  | cons x xs =>
    rw [← min_best]
    have hd := depth_ms (x :: xs)
    exact j_bltF (cr_minD hc) hg hm (by decide +kernel) (ja_cons ha ja_nil he) (fun H0 H vs Q w r q => q_min (alike_ms (x :: xs)) (by
      have : PyData.depthAll (eM x :: xs.map eM) ≤ 2 := hd
      omega) (plain_ms (x :: xs)) H0 H vs Q w r q) (by decide) (by decide) he hpl
section
variable {P : Program} {w : World} {K : PySem.W.Frag} {mg : Str → Option Value} {base : Heap}
def RMost (most : Nat) (f : Nat → Nat → List Mir.Edge → PyData) : List PyData → PyData → Prop := fun ds d => ∃ (n r : Nat) (es : List Mir.Edge), ds = [eW n es, .int r] ∧ WebOk n es ∧ 1 ≤ r ∧ r ≤ 9 ∧ (r + 1) ^ n ≤ most ∧ d = f n r es
abbrev N39 : List Str := ["web", "roof", "one", "best"]
theorem sc39 : FnScope N39 ["web", "roof"] (defScope (top 39)) := ⟨rfl, rfl, rfl, by decide +kernel, rfl, by decide +kernel, by decide +kernel⟩
theorem ok_most_steep {f : Addr} {fd : FuncData} (F : Fun K "most_steep" "most_steep" (top 39) f fd) (T : Txt mg) (C17 : Cal P w K mg base 4 "need_table" ["web", "roof"] (SpR RTable)) (C20 : Cal P w K mg base 2 "need_listed" ["web", "roof"] (SpR (RListed 3000))) (C18 : Cal P w K mg base 1 "all_heights" ["many", "roof"] (SpR RAll)) (C23 : Cal P w K mg base 1 "steep_in" ["web", "heights"] (SpR RSteep)) :
    FnOk P w K mg base CX0 5 f fd ["web", "roof"] (SpR (RMost 3000 mostD)) := by
  refine fn_ok F sc39 (fun ds d h => by obtain ⟨_, _, _, rfl, _⟩ := h; rfl) (fun cdv A outer s H E hr ds d h => ?_)
  obtain ⟨n, r, es, rfl, W, h1, h2, hz, rfl⟩ := h
  have hn9 := W.hi
  refine ⟨_, js_cons (ex' (c' C17 hr (a2 (v' 0) (a1 (v' 1))) ⟨n, es, r, rfl, W, by omega, by omega, rfl⟩)) (js_cons (ex' (c' C20 (hr.mono (by decide)) (a2 (v' 0) (a1 (v' 1))) ⟨n, r, es, rfl, by omega, by omega, hz, rfl⟩)) (js_cons
    (set' (d := eM (bestL (steepL n r es))) 3 sc39.nd (j_min' rfl T.min (ru (m := 16) hr) (by unfold steepL; simpa using every_some n r) (jc (lc' (xs := Mir.every n r) (enc := eH) (f := fun h => some (eM (-((Mir.steep es h).length : Int), h))) [("one", 2)] rfl sc39.nd (ji_list (c' C18 (hr.mono (by decide)) (a2 (ix' 0 (v' 0)) (a1 (v' 1))) ⟨n, r, rfl, by omega, h2, hz, rfl⟩))
      (blkOk_by (N := N39) (sc := defScope (top 39)) (by decide +kernel)) (fun _ _ _ _ _ => g' 2 sc39.nd) (fun h hh => ⟨_, jg_name (by simp), fun _ _ _ _ _ => ⟨jts_nil, fun d hd => ?_⟩⟩) (by rw [Mir.every_length]; omega)) ?_)))
    (js_end (j1_ret (j_tup (a2 (j_neg (ix' 0 (v' 3))) (a1 (ix' 1 (v' 3)))) (by simp)))))), .inl rfl⟩
  · cases hd
    refine j_tup (a2 (jc (j_neg (lenL' T.len (c' C23 (hr.mono (by decide)) (a2 (v' 0) (a1 (v' 2))) ⟨n, es, h, rfl, W.fit (Mir.mem_every hh), rfl⟩))) ?_) (a1 (v' 2))) (by simp)
    rw [List.length_map]
  · rw [fm_some]
    unfold steepL
    rw [List.map_map]
    rfl
/-! ### the mean of what comes -/
def comesN (n r : Nat) (es : List Mir.Edge) : Int := ((Mir.every n r).map fun one => (((Mir.every n r).filter fun other => Mir.comes es one other).length : Int)).sum
def ratioD (a b : Int) : PyData := .tuple [.int (a / Mir.gcdI a b), .int (b / Mir.gcdI a b)]
def meanD (n r : Nat) (es : List Mir.Edge) : PyData := ratioD (comesN n r es) (((r : Int) + 1) ^ n)
abbrev N40 : List Str := ["web", "roof", "every", "one", "other", "whole"]
theorem sc40 : FnScope N40 ["web", "roof"] (defScope (top 40)) := ⟨rfl, rfl, rfl, by decide +kernel, rfl, by decide +kernel, by decide +kernel⟩
abbrev sc40i : Scope := { kind := .function, names := [(".0", .local), ("one", .cell), ("len", .globalImplicit), ("every", .cell), ("web", .cell)], isGenerator := false, isCoroutine := false, more := [] }
theorem ok_mean_come {f : Addr} {fd : FuncData} (F : Fun K "mean_come" "mean_come" (top 40) f fd) (T : Txt mg) (C17 : Cal P w K mg base 4 "need_table" ["web", "roof"] (SpR RTable)) (C27 : Cal P w K mg base 2 "need_pairs" ["web", "roof"] (SpR (RListed 300))) (C18 : Cal P w K mg base 1 "all_heights" ["many", "roof"] (SpR RAll)) (C26 : Cal P w K mg base 2 "comes_in" ["web", "one", "other"] (SpR RComes))
    (C9 : Cal P w K mg base 2 "reduced" ["numerator", "denominator"] (SpR RReduced)) (C19 : Cal P w K mg base 1 "power" ["base", "times"] (SpR RPower)) :
    FnOk P w K mg base CX0 5 f fd ["web", "roof"] (SpR (RMost 300 meanD)) := by
  refine fn_ok F sc40 (fun ds d h => by obtain ⟨_, _, _, rfl, _⟩ := h; rfl) (fun cdv A outer s H E hr ds d h => ?_)
  obtain ⟨n, r, es, rfl, W, h1, h2, hz, rfl⟩ := h
  have hn9 := W.hi
  have hp : (0 : Int) < ((r : Int) + 1) ^ n := Int.pow_pos (by omega)
  have hp2 : ((r : Int) + 1) ^ n ≤ 100000 := by rw [pow_cast]; omega
  refine ⟨_, js_cons (ex' (c' C17 hr (a2 (v' 0) (a1 (v' 1))) ⟨n, es, r, rfl, W, by omega, by omega, rfl⟩)) (js_cons (ex' (c' C27 (hr.mono (by decide)) (a2 (v' 0) (a1 (v' 1))) ⟨n, r, es, rfl, by omega, by omega, hz, rfl⟩)) (js_cons
    (set' 2 sc40.nd (c' C18 (hr.mono (by decide)) (a2 (ix' 0 (v' 0)) (a1 (v' 1))) ⟨n, r, rfl, by omega, h2, by omega, rfl⟩)) (js_cons
    (set' (d := .int (comesN n r es)) 5 sc40.nd (jc (blt' (cr_sum rfl) T.sum (by decide +kernel) (a1 (jc (lc' (xs := Mir.every n r) (enc := eH) (f := fun one => some (.int (((Mir.every n r).filter fun other => Mir.comes es one other).map eH).length)) [("one", 3)] rfl sc40.nd (ji_list (v' 2))
      (blkOk_by (N := N40) (sc := defScope (top 40)) (by decide +kernel)) (fun _ _ _ _ _ => g' 3 sc40.nd) (fun one h1' => ⟨_, jg_name (by simp), fun _ _ _ _ _ => ⟨jts_nil, fun d hd => ?_⟩⟩) (by rw [Mir.every_length]; omega)) (?_ : _ = PyData.list (((Mir.every n r).map fun one => (((Mir.every n r).filter fun other => Mir.comes es one other).length : Int)).map .int)))) (fun H0 H vs Q w r q => q_sum H0 H vs Q w r q)) rfl))
    (js_end (j1_ret (c' C9 (hr.mono (by decide)) (a2 (v' 5) (a1 (c' C19 (hr.mono (by decide)) (a2 (j_add (v' 1) j_int) (a1 (ix' 0 (v' 0)))) ⟨(r : Int) + 1, n, rfl, by omega, by omega, by omega, rfl⟩))) ⟨_, _, rfl, hp, hp2, rfl⟩)))))), .inl rfl⟩
  · cases hd
    refine lenL' T.len (jc (lc' (xs := Mir.every n r) (enc := eH) (f := fun other => if Mir.comes es one other = true then some (eH other) else none) [("other", 4)] rfl sc40.nd (ji_list (v' 2))
      (blkOk_by (N := N40) (sc := sc40i) (by decide +kernel)) (fun _ _ _ _ _ => g' 4 sc40.nd) (fun other h2' => ⟨_, jg_name (by simp), fun _ _ _ _ _ => ⟨jts_one (jtc (tv' (c' C26 (hr.mono (by decide)) (a2 (v' 0) (a2 (v' 3) (a1 (v' 4)))) ⟨n, es, one, other, rfl, W.fit (Mir.mem_every h1'), W.fit (Mir.mem_every h2'), rfl⟩)) ?_), fun d hd => ?_⟩⟩) (by rw [Mir.every_length]; omega)) ?_)
    · cases Mir.comes es one other <;> rfl
    · cases hb : Mir.comes es one other with
      | true =>
        rw [hb] at hd
        cases hd
        exact v' 4
      | false =>
        rw [hb] at hd
        cases hd
    · rw [fm_if]
  · rw [fm_some, List.map_map]
    congr 1
    refine List.map_congr_left fun one _ => ?_
    rw [List.length_map]
    rfl
/-! ### a drawn lot -/
theorem sum_perm {a b : List Int} (h : a.Perm b) : a.sum = b.sum := by
  induction h with
  | nil => rfl
  | cons x _ ih => rw [List.sum_cons, List.sum_cons, ih]
  | swap x y l => simp only [List.sum_cons]; omega
  | trans _ _ h1 h2 => exact h1.trans h2
def drawnN (n r : Nat) (es : List Mir.Edge) : Int := ((lotsOf (Mir.lotOf es) (Mir.every n r)).map fun p => p.2 * p.2).sum
def drawnD (n r : Nat) (es : List Mir.Edge) : PyData := ratioD (drawnN n r es) (((r : Int) + 1) ^ n)
theorem lots_small {f : List Int → Lot} {hs : List (List Int)} {p : List Int × Int} (h : p ∈ sortS (lotsOf f hs)) : 0 ≤ p.2 ∧ p.2 ≤ hs.length := by
  have h' := (sortS_perm _).mem_iff.mp h
  unfold lotsOf at h'
  obtain ⟨k, _, rfl⟩ := List.mem_map.mp h'
  have : (hs.map f).count k ≤ (hs.map f).length := List.count_le_length
  rw [List.length_map] at this
  dsimp only
  omega
abbrev N41 : List Str := ["web", "roof", "one", "size"]
theorem sc41 : FnScope N41 ["web", "roof"] (defScope (top 41)) := ⟨rfl, rfl, rfl, by decide +kernel, rfl, by decide +kernel, by decide +kernel⟩
theorem ok_drawn_lot {f : Addr} {fd : FuncData} (F : Fun K "drawn_lot" "drawn_lot" (top 41) f fd) (T : Txt mg) (C17 : Cal P w K mg base 4 "need_table" ["web", "roof"] (SpR RTable)) (C20 : Cal P w K mg base 2 "need_listed" ["web", "roof"] (SpR (RListed 3000))) (C32 : Cal P w K mg base 3 "all_lots" ["web", "roof"] (SpR RLots))
    (C9 : Cal P w K mg base 2 "reduced" ["numerator", "denominator"] (SpR RReduced)) (C19 : Cal P w K mg base 1 "power" ["base", "times"] (SpR RPower)) :
    FnOk P w K mg base CX0 5 f fd ["web", "roof"] (SpR (RMost 3000 drawnD)) := by
  refine fn_ok F sc41 (fun ds d h => by obtain ⟨_, _, _, rfl, _⟩ := h; rfl) (fun cdv A outer s H E hr ds d h => ?_)
  obtain ⟨n, r, es, rfl, W, h1, h2, hz, rfl⟩ := h
  have hn9 := W.hi
  have hp : (0 : Int) < ((r : Int) + 1) ^ n := Int.pow_pos (by omega)
  have hp2 : ((r : Int) + 1) ^ n ≤ 100000 := by rw [pow_cast]; omega
  refine ⟨_, js_cons (ex' (c' C17 hr (a2 (v' 0) (a1 (v' 1))) ⟨n, es, r, rfl, W, by omega, by omega, rfl⟩)) (js_cons (ex' (c' C20 (hr.mono (by decide)) (a2 (v' 0) (a1 (v' 1))) ⟨n, r, es, rfl, by omega, by omega, hz, rfl⟩))
    (js_end (j1_ret (c' C9 (hr.mono (by decide)) (a2 (jc (blt' (cr_sum rfl) T.sum (by decide +kernel) (a1 (jc (lc' (xs := sortS (lotsOf (Mir.lotOf es) (Mir.every n r))) (enc := eS) (f := fun p => some (.int (p.2 * p.2))) [("one", 2), ("size", 3)] rfl sc41.nd (ji_list (c' C32 (hr.mono (by decide)) (a2 (v' 0) (a1 (v' 1))) ⟨n, r, es, rfl, W, h2, hz, rfl⟩))
      (blkOk_by (N := N41) (sc := defScope (top 41)) (by decide +kernel)) (fun _ _ _ _ _ => g2' 2 3 rfl sc41.nd) (fun p hp' => ⟨_, jg_pair (by simp) (by simp), fun _ _ _ _ _ => ⟨jts_nil, fun d hd => ?_⟩⟩) ?_) (?_ : _ = PyData.list (((sortS (lotsOf (Mir.lotOf es) (Mir.every n r))).map fun p => p.2 * p.2).map .int)))) (fun H0 H vs Q w r q => q_sum H0 H vs Q w r q)) (?_ : _ = PyData.int (drawnN n r es)))
      (a1 (c' C19 (hr.mono (by decide)) (a2 (j_add (v' 1) j_int) (a1 (ix' 0 (v' 0)))) ⟨(r : Int) + 1, n, rfl, by omega, by omega, by omega, rfl⟩))) ⟨_, _, rfl, hp, hp2, rfl⟩)))), .inl rfl⟩
  · cases hd
    have hb := lots_small hp'
    rw [Mir.every_length] at hb
    exact j_mul (v' 3) (v' 3) (.inl ⟨by omega, by omega⟩)
  · rw [(sortS_perm _).length_eq]
    unfold lotsOf
    rw [List.length_map]
    exact Nat.le_trans (firsts_le _) (by rw [List.length_map, Mir.every_length]; omega)
  · rw [fm_some, List.map_map]
    rfl
  · unfold drawnN
    congr 1
    exact sum_perm ((sortS_perm _).map _)
end
end Lv

namespace Lv
open PySem PySem.Spec PyProof.Rows L2

section
variable {X : Cx} {ρ : Env1} {e : Expr} {p pos : Pos}
theorem q_int {i : Int} (H0 H : Hp) (vs : List V) (Q : VK) (w : Same H0 H) (r : RepL H0 vs [.int i]) (q : ∀ v H0' H', Le H0 H H0' H' → Rep H0' v (.int i) → Q v H') : (∃ i, vs = [.int i] ∧ Q (.int i) H) ∨ ∃ k, vs = [.bl k] ∧ Q (.int (if k then 1 else 0)) H := by
  obtain ⟨v, rfl, r1⟩ := r.one
  exact .inl ⟨i, by rw [rep_int r1], q _ _ _ (Le.refl w) (.int _)⟩
theorem int' {i : Int} (hm : X.mg "int" = none) (ha : J X ρ e (.int i)) (hg : Gl X "int" := by rfl) (he : starEach (e :: []) X.env = (false, eval e X.env) :: starEach [] X.env := by rfl) (hpl : (backTo pos (starEach [] X.env)).any (·.1) = false := by rfl) : J X ρ (.Call (.Name "int" p) [e] [] pos) (.int i) :=
  j_bltT call_int1 hg hm b_int (ja_cons ha ja_nil he) q_int (by decide) (by decide) he hpl
end
section
variable {P : Program} {w : World} {K : PySem.W.Frag} {mg : Str → Option Value} {base : Heap}
/-! ### _law_every -/
abbrev N44 : List Str := ["_law_many_here", "_law_roof", "_law_found", "_law_k", "_law_more", "_law_one", "_law_height"]
theorem sc44 : FnScope N44 ["_law_many_here", "_law_roof"] (defScope (top 44)) := ⟨rfl, rfl, rfl, by decide +kernel, rfl, by decide +kernel, by decide +kernel⟩
theorem ok_l_every {f : Addr} {fd : FuncData} (F : Fun K "_law_every" "_law_every" (top 44) f fd) (T : Txt mg) : FnOk P w K mg base CX0 1 f fd ["_law_many_here", "_law_roof"] (SpR RAll) := by
  refine fn_ok F sc44 (fun ds d h => by obtain ⟨_, _, rfl, _⟩ := h; rfl) (fun cdv A outer s H E hr ds d h => ?_)
  obtain ⟨n, r, rfl, hn, hr9, hz, rfl⟩ := h
  refine ⟨_, js_cons (set' 2 sc44.nd (j_lst (a1 (j_tup ja_nil (Nat.zero_le _))) (by simp))) (js_cons
    (j1_for (xs := rangeI 0 (Int.toNat n)) (enc := .int) (fun k => [some (.int n), some (.int r), some (.list ((Mir.every k r).map eH)), none, none, none, none]) (rangeI 0 (Int.toNat n)).length PassesOwn.never rfl
      (rg1' T.range (v' 0) (by omega) (by omega)) (g' 3 sc44.nd) (sk (sk (sk (sk (sk (sk (sk sub_nil))))))) (fun k u hu hk => ⟨_, [3], jg_name (by simp), ?_⟩) (.inl ⟨rfl, rfl⟩) (fun _ => rfl)) (js_end (j1_ret (v' 2)))), .inl ?_⟩
  · have hk' : k < n := by
      rw [rangeI_length] at hk
      omega
    have hl := every_le (Nat.le_of_lt hk') hz
    have hl2 := every_le hk' hz
    refine js_sub (js_cons (set' 4 sc44.nd (j_lst ja_nil (Nat.zero_le _))) (js_cons (j1_for (xs := Mir.every k r) (enc := eH) (fun i => [some (.int n), some (.int r), some (.list ((Mir.every k r).map eH)), some (.int u), some (.list ((Mir.widen r ((Mir.every k r).take i)).map eH)), none, none]) (Mir.every k r).length
      PassesOwn.never rfl (ji_list (v' 2)) (g' 5 sc44.nd) (sk (sk (sk (sk (sk (sk (sk sub_nil))))))) (fun i h hi hlt => ⟨_, [5], jg_name (by simp), ?_⟩) (.inl ⟨rfl, rfl⟩) (fun _ => rfl)) (js_cons (set' 2 sc44.nd (v' 4)) js_nil))) ?_
    · have hw : (Mir.widen r ((Mir.every k r).take i)).length + (r + 1) ≤ 3000 := by
        refine Nat.le_trans ?_ hl2
        show _ ≤ (Mir.widen r (Mir.every k r)).length
        rw [Mir.widen_length, Mir.widen_length, List.length_take, ← Nat.succ_mul]
        exact Nat.mul_le_mul_right _ (by omega)
      have hlen : h.length = k := (Mir.mem_every (List.mem_of_getElem? hi)).1
      refine js_sub (js_cons (set' 4 sc44.nd (j_catL (v' 4) (lc' (xs := rangeI 0 (Int.toNat (r + 1))) (enc := .int) (f := fun x => some (eH (h ++ [x]))) [("_law_height", 6)] rfl sc44.nd (rg1' T.range (j_add (v' 1) j_int) (by omega) (by omega)) (blkOk_by (N := N44) (sc := defScope (top 44)) (by decide +kernel)) (fun _ _ _ _ _ => g' 6 sc44.nd)
        (fun x hx => ⟨_, jg_name (by simp), fun _ _ _ _ _ => ⟨jts_nil, fun d hd => ?_⟩⟩) (by rw [rangeI_length]; omega)) ?_)) js_nil) ?_
      · cases hd
        exact jc (j_catT (v' 5) (j_tup (a1 (v' 6)) (by simp)) (by simp; omega)) (by simp [eH])
      · rw [List.length_map, fm_some, List.length_map, rangeI_length]
        omega
      · refine sk (sk (sk (sk (se ?_ (sd (sk sub_nil))))))
        rw [take_snoc hi, widen_snoc, List.map_append, fm_some, List.map_map]
        have e1 : Int.toNat ((r : Int) + 1) = r + 1 := by omega
        rw [e1]
        rfl
    · rw [List.take_length]
      exact sk (sk (sk (sd (sd (sk (sk sub_nil))))))
  · rw [rangeI_length]
    simp

/-! ### _law_steep -/
abbrev N45 : List Str := ["_law_web", "_law_heights", "_law_a", "_law_b", "_law_found"]
theorem sc45 : FnScope N45 ["_law_web", "_law_heights"] (defScope (top 45)) := ⟨rfl, rfl, rfl, by decide +kernel, rfl, by decide +kernel, by decide +kernel⟩
theorem fm_map {α β γ : Type} (f : α → Option β) (g : β → γ) : ∀ l : List α, l.filterMap (fun x => (f x).map g) = (l.filterMap f).map g
  | [] => rfl
  | x :: l => by
    have ih := fm_map f g l
    cases h : f x with
    | none => rw [List.filterMap_cons_none (by rw [h]; rfl), List.filterMap_cons_none h, ih]
    | some y => rw [List.filterMap_cons_some (by rw [h]; rfl), List.filterMap_cons_some h, List.map_cons, ih]
theorem ok_l_steep {f : Addr} {fd : FuncData} (F : Fun K "_law_steep" "_law_steep" (top 45) f fd) (T : Txt mg) : FnOk P w K mg base CX0 1 f fd ["_law_web", "_law_heights"] (SpR RSteep) := by
  refine fn_ok F sc45 (fun ds d h => by obtain ⟨_, _, _, rfl, _⟩ := h; rfl) (fun cdv A outer s H E hr ds d h => ?_)
  obtain ⟨n, es, h, rfl, F1, rfl⟩ := h
  have few := F1.1
  have l1 : (es.filterMap (Mir.lawUp h)).length ≤ 36 := Nat.le_trans (List.length_filterMap_le _ _) few
  have l2 : (es.filterMap (Mir.lawDown h)).length ≤ 36 := Nat.le_trans (List.length_filterMap_le _ _) few
  refine ⟨_, js_cons (slc' 4 (xs := es) (enc := eE) (f := fun e => (Mir.lawUp h e).map eE) [("_law_a", 2), ("_law_b", 3)] rfl sc45.nd (ji_tup (ix' 1 (v' 0))) (blkOk_by (N := N45) (sc := defScope (top 45)) (by decide +kernel)) (fun _ _ _ _ _ => g2' 2 3 rfl sc45.nd) (fun e he => ⟨_, jg_pair (by simp) (by simp), fun _ _ _ _ _ => ⟨?_, fun d hd => ?_⟩⟩) (by omega) rfl)
    (js_end (j1_ret (jc (blt' cr_sortD T.sorted (by decide +kernel) (a1 (jc (j_catL (v' 4) (lc' (xs := es) (enc := eE) (f := fun e => (Mir.lawDown h e).map eE) [("_law_a", 2), ("_law_b", 3)] rfl sc45.nd (ji_tup (ix' 1 (v' 0))) (blkOk_by (N := N45) (sc := defScope (top 45)) (by decide +kernel)) (fun _ _ _ _ _ => g2' 2 3 rfl sc45.nd) (fun e he => ⟨_, jg_pair (by simp) (by simp), fun _ _ _ _ _ => ⟨?_, fun d hd => ?_⟩⟩) (by omega)) ?_) (?_ : _ = PyData.list ((es.filterMap (Mir.lawUp h) ++ es.filterMap (Mir.lawDown h)).map eE)))) (fun H0 H vs Q w r q => q_sort (alike_edges _) (sortable_edges _) ?_ ?_ H0 H vs Q w (.inl r) q)) ?_))), .inl rfl⟩
  · obtain ⟨a1', a2', a3', a4'⟩ := F1.2 e he
    refine jts_one (jtc (jt_gt (ixv' (v' 1) (v' 3) a3' (eH_get a3' a4')) (j_add (ixv' (v' 1) (v' 2) a1' (eH_get a1' a2')) j_int)) ?_)
    rw [Option.isSome_map]
    unfold Mir.lawUp
    by_cases c : Mir.ht h e.2 > Mir.ht h e.1 + 1
    · rw [if_pos c, decide_eq_true c]; rfl
    · rw [if_neg c, decide_eq_false c]; rfl
  · unfold Mir.lawUp at hd
    by_cases c : Mir.ht h e.2 > Mir.ht h e.1 + 1
    · rw [if_pos c] at hd
      cases hd
      exact j_tup (a2 (v' 2) (a1 (v' 3))) (by simp)
    · rw [if_neg c] at hd
      cases hd
  · obtain ⟨a1', a2', a3', a4'⟩ := F1.2 e he
    refine jts_one (jtc (jt_gt (ixv' (v' 1) (v' 2) a1' (eH_get a1' a2')) (j_add (ixv' (v' 1) (v' 3) a3' (eH_get a3' a4')) j_int)) ?_)
    rw [Option.isSome_map]
    unfold Mir.lawDown
    by_cases c : Mir.ht h e.1 > Mir.ht h e.2 + 1
    · rw [if_pos c, decide_eq_true c]; rfl
    · rw [if_neg c, decide_eq_false c]; rfl
  · unfold Mir.lawDown at hd
    by_cases c : Mir.ht h e.1 > Mir.ht h e.2 + 1
    · rw [if_pos c] at hd
      cases hd
      exact j_tup (a2 (v' 3) (a1 (v' 2))) (by simp)
    · rw [if_neg c] at hd
      cases hd
  · rw [fm_map, fm_map, List.length_map, List.length_map]
    omega
  · rw [fm_map, fm_map, List.map_append]
  · rw [List.length_map, List.length_append]
    omega
  · intro d hd
    obtain ⟨e, _, rfl⟩ := List.mem_map.mp hd
    exact ru (m := 3) hr
  · rw [sort_edges, ← Mir.lawSteep_eq]
    rfl
/-! ### _law_key -/
abbrev N46 : List Str := ["_law_web", "_law_heights", "_law_a", "_law_b"]
theorem sc46 : FnScope N46 ["_law_web", "_law_heights"] (defScope (top 46)) := ⟨rfl, rfl, rfl, by decide +kernel, rfl, by decide +kernel, by decide +kernel⟩
theorem ok_l_key {f : Addr} {fd : FuncData} (F : Fun K "_law_key" "_law_key" (top 46) f fd) (T : Txt mg) (C23 : Cal P w K mg base 1 "_law_steep" ["_law_web", "_law_heights"] (SpR RSteep)) : FnOk P w K mg base CX0 2 f fd ["_law_web", "_law_heights"] (SpR RLot) := by
  refine fn_ok F sc46 (fun ds d h => by obtain ⟨_, _, _, rfl, _⟩ := h; rfl) (fun cdv A outer s H E hr ds d h => ?_)
  obtain ⟨n, es, h, rfl, F1, rfl⟩ := h
  refine ⟨_, js_end (j1_ret (jc (bty' call_tuple_of T.tuple b_tuple (a1 (lc' (xs := Mir.steep es h) (enc := eE) (f := fun e => some (eQ (Mir.quad h e))) [("_law_a", 2), ("_law_b", 3)] rfl sc46.nd (ji_list (c' C23 hr (a2 (v' 0) (a1 (v' 1))) ⟨n, es, h, rfl, F1, rfl⟩))
    (blkOk_by (N := N46) (sc := defScope (top 46)) (by decide +kernel)) (fun _ _ _ _ _ => g2' 2 3 rfl sc46.nd) (fun e he => ⟨_, jg_pair (by simp) (by simp), fun _ _ _ _ _ => ⟨jts_nil, fun d hd => ?_⟩⟩) ?_)) q_tuple) ?_)), .inl rfl⟩
  · cases hd
    obtain ⟨a1', a2', a3', a4'⟩ := fit_steep F1 he
    exact j_tup (a2 (v' 2) (a2 (v' 3) (a2 (ixv' (v' 1) (v' 2) a1' (eH_get a1' a2')) (a1 (ixv' (v' 1) (v' 3) a3' (eH_get a3' a4')))))) (by simp)
  · exact Nat.le_trans (Mir.steep_length es h) (Nat.le_trans F1.1 (by omega))
  · rw [fm_some]
    show _ = eL ((Mir.steep es h).map (Mir.quad h))
    rw [eL, List.map_map]
    rfl


/-! ### _law_gcd, _law_ratio -/
abbrev N51 : List Str := ["_law_one", "_law_other"]
theorem sc51 : FnScope N51 ["_law_one", "_law_other"] (defScope (top 51)) := ⟨rfl, rfl, rfl, by decide +kernel, rfl, by decide +kernel, by decide +kernel⟩
theorem ok_l_gcd {f : Addr} {fd : FuncData} (F : Fun K "_law_gcd" "_law_gcd" (top 51) f fd) (T : Txt mg) : FnOk P w K mg base CX0 1 f fd ["_law_one", "_law_other"] (SpR RGcd) := by
  refine fn_ok F sc51 (fun ds d h => by obtain ⟨_, _, rfl, _⟩ := h; rfl) (fun cdv A outer s H E hr ds d h => ?_)
  obtain ⟨a, b, rfl, rfl⟩ := h
  refine ⟨.ret (.int (Mir.gcdI a b)), js_cons (par2' 0 1 rfl sc51.nd (by decide) (blt' call_abs T.abs (by decide +kernel) (a1 (v' 0)) q_abs) (blt' call_abs T.abs (by decide +kernel) (a1 (v' 1)) q_abs)) ?_, .inl rfl⟩
  refine js_while (S := Int × Int) (fun p => [some (.int p.1), some (.int p.2)]) (fun p => (p.2, p.1 % p.2)) (fun p => !decide (p.2 = 0)) (fun p => 0 ≤ p.1 ∧ 0 ≤ p.2 ∧ Mir.gcdI p.1 p.2 = Mir.gcdI a b) (fun p => p.2.toNat) (if a < 0 then -a else a, if b < 0 then -b else b)
    PassesOwn.never (sk (sk sub_nil)) ⟨?_, ?_, Mir.gcdI_abs a b⟩ ?_ ?_ ?_ ?_
  · dsimp only
    split <;> omega
  · dsimp only
    split <;> omega
  · rintro ⟨x, y⟩ ⟨hx, hy, hg⟩ hgo
    dsimp only at hx hy hg hgo ⊢
    have hy0 : y ≠ 0 := by simpa using hgo
    have h1 := Int.emod_nonneg x hy0
    have h2 := Int.emod_lt_of_pos x (show 0 < y by omega)
    exact ⟨⟨hy, h1, (Mir.gcdI_step hx hy).trans hg⟩, by omega⟩
  · rintro ⟨x, y⟩ _
    exact jt_neI hr.units0 (v' 1) j_int
  · rintro ⟨x, y⟩ ⟨hx, hy, hg⟩ hgo
    have hy0 : y ≠ 0 := by simpa using hgo
    dsimp only at hx hy
    exact js_cons (par2' 0 1 rfl sc51.nd (by decide) (v' 1) (j_mod (int' T.int (v' 0)) (v' 1) (by omega))) js_nil
  · rintro ⟨x, y⟩ ⟨hx, hy, hg⟩ hgo
    have hy0 : y = 0 := by simpa using hgo
    dsimp only at hx hy hg
    subst hy0
    rw [Mir.gcdI_zero hx] at hg
    rw [← hg]
    exact js_end (j1_ret (v' 0))

abbrev N52 : List Str := ["_law_numerator", "_law_denominator", "_law_common"]
theorem sc52 : FnScope N52 ["_law_numerator", "_law_denominator"] (defScope (top 52)) := ⟨rfl, rfl, rfl, by decide +kernel, rfl, by decide +kernel, by decide +kernel⟩
theorem ok_l_ratio {f : Addr} {fd : FuncData} (F : Fun K "_law_ratio" "_law_ratio" (top 52) f fd) (T : Txt mg) (C51 : Cal P w K mg base 1 "_law_gcd" ["_law_one", "_law_other"] (SpR RGcd)) : FnOk P w K mg base CX0 2 f fd ["_law_numerator", "_law_denominator"] (SpR RReduced) := by
  refine fn_ok F sc52 (fun ds d h => by obtain ⟨_, _, rfl, _⟩ := h; rfl) (fun cdv A outer s H E hr ds d h => ?_)
  obtain ⟨a, b, rfl, hb, hb2, rfl⟩ := h
  have hg : CDiv a (Mir.gcdI a b) ∧ CDiv b (Mir.gcdI a b) := by
    have h1 := Mir.gcdI_pos (a := a) hb
    have h2 := Mir.gcdI_le (a := a) hb
    exact ⟨⟨h1, by omega⟩, ⟨h1, by omega⟩⟩
  exact ⟨_, js_cons (set' 2 sc52.nd (c' C51 hr (a2 (v' 0) (a1 (v' 1))) ⟨a, b, rfl, rfl⟩)) (js_cons (set' (d := .int (Mir.gcdI a b)) 2 sc52.nd (j_if (k := false) (jtc (jt_lt (v' 1) j_int) (decide_eq_false (by omega))) (fun h => nomatch h) (fun _ => v' 2)))
    (js_end (j1_ret (j_tup (a2 (j_fdiv (v' 0) (v' 2) hg.1) (a1 (j_fdiv (v' 1) (v' 2) hg.2))) (by simp))))), .inl rfl⟩
/-! ### _law_many -/
theorem sc49 : FnScope ["_law_roof", "_law_many_here", "_law_found", "_law_k"] ["_law_roof", "_law_many_here"] (defScope (top 49)) := ⟨rfl, rfl, rfl, by decide +kernel, rfl, by decide +kernel, by decide +kernel⟩
def RLMany : List PyData → PyData → Prop := fun ds d => ∃ (r n : Nat), ds = [.int r, .int n] ∧ r ≤ 100 ∧ n ≤ 9 ∧ d = .int (((r : Int) + 1) ^ n)
theorem ok_l_many {f : Addr} {fd : FuncData} (F : Fun K "_law_many" "_law_many" (top 49) f fd) (T : Txt mg) : FnOk P w K mg base CX0 1 f fd ["_law_roof", "_law_many_here"] (SpR RLMany) := by
  refine fn_ok F sc49 (fun ds d h => by obtain ⟨_, _, rfl, _⟩ := h; rfl) (fun cdv A outer s H E hr ds d h => ?_)
  obtain ⟨r, n, rfl, hr1, hn, rfl⟩ := h
  refine ⟨_, js_cons (set' 2 sc49.nd j_int) (js_cons (j1_for (xs := rangeI 0 (Int.toNat n)) (enc := .int) (fun k => [some (.int r), some (.int n), some (.int (((r : Int) + 1) ^ k)), none]) n
    PassesOwn.never rfl (rg1' T.range (v' 1) (by omega) (by omega)) (g' 3 sc49.nd) ?_ (fun k u hu hk => ?_) (.inl ⟨by rw [rangeI_length]; omega, rfl⟩) (fun _ => rfl)) (js_end (j1_ret (v' 2)))), .inl rfl⟩
  · exact sk (sk (se (by simp) (sk sub_nil)))
  · refine ⟨_, [3], jg_name (by simp), ?_⟩
    refine js_sub (js_cons (set' 2 sc49.nd (j_mul (v' 2) (j_add (v' 0) j_int) ?_)) js_nil) ?_
    · exact .inr ⟨by omega, by omega⟩
    · exact sk (sk (se (by rw [Int.pow_succ]) (sd sub_nil)))
/-! ### _law_comes -/
abbrev N53 : List Str := ["_law_web", "_law_one", "_law_other", "_law_a", "_law_b", "_law_low", "_law_high"]
theorem sc53 : FnScope N53 ["_law_web", "_law_one", "_law_other"] (defScope (top 53)) := ⟨rfl, rfl, rfl, by decide +kernel, rfl, by decide +kernel, by decide +kernel⟩
theorem ends_fit {es : List Mir.Edge} {g h : List Int} {e : Mir.Edge} (F : Fit es h) (he : e ∈ es) : 0 ≤ (Mir.lawEnds g e).1 ∧ (Mir.lawEnds g e).1 < h.length ∧ 0 ≤ (Mir.lawEnds g e).2 ∧ (Mir.lawEnds g e).2 < h.length := by
  obtain ⟨a, b, c, d⟩ := F.2 _ he
  unfold Mir.lawEnds
  split
  · exact ⟨a, b, c, d⟩
  · exact ⟨c, d, a, b⟩
theorem ok_l_comes {f : Addr} {fd : FuncData} (F : Fun K "_law_comes" "_law_comes" (top 53) f fd) (T : Txt mg) : FnOk P w K mg base CX0 1 f fd ["_law_web", "_law_one", "_law_other"] (SpR RComes) := by
  refine fn_ok F sc53 (fun ds d h => by obtain ⟨_, _, _, _, rfl, _⟩ := h; rfl) (fun cdv A outer s H E hr ds d h => ?_)
  obtain ⟨n, es, one, other, rfl, F1, F2, rfl⟩ := h
  rw [← Mir.lawComes_eq]
  have bad1 : ∀ {u : Mir.Edge}, decide (Mir.ht other (Mir.lawEnds other u).1 + 1 < Mir.ht other (Mir.lawEnds other u).2) = true → decide (Mir.ht other (Mir.lawEnds other u).1 < Mir.ht one (Mir.lawEnds other u).1) = false → decide (Mir.ht one (Mir.lawEnds other u).2 < Mir.ht other (Mir.lawEnds other u).2) = Mir.lawBad one other u := fun {u} h1 h2 => by
    unfold Mir.lawBad
    show _ = (decide (Mir.ht other (Mir.lawEnds other u).1 + 1 < Mir.ht other (Mir.lawEnds other u).2) && (decide (Mir.ht other (Mir.lawEnds other u).1 < Mir.ht one (Mir.lawEnds other u).1) || _))
    rw [h1, h2]
    rfl
  have bad2 : ∀ {u : Mir.Edge}, decide (Mir.ht other (Mir.lawEnds other u).1 + 1 < Mir.ht other (Mir.lawEnds other u).2) = true → decide (Mir.ht other (Mir.lawEnds other u).1 < Mir.ht one (Mir.lawEnds other u).1) = true → Mir.lawBad one other u = true := fun {u} h1 h2 => by
    unfold Mir.lawBad
    show (decide (Mir.ht other (Mir.lawEnds other u).1 + 1 < Mir.ht other (Mir.lawEnds other u).2) && (decide (Mir.ht other (Mir.lawEnds other u).1 < Mir.ht one (Mir.lawEnds other u).1) || _)) = true
    rw [h1, h2]
    rfl
  have bad3 : ∀ {u : Mir.Edge}, decide (Mir.ht other (Mir.lawEnds other u).1 + 1 < Mir.ht other (Mir.lawEnds other u).2) = false → Mir.lawBad one other u = false := fun {u} h1 => by
    unfold Mir.lawBad
    show (decide (Mir.ht other (Mir.lawEnds other u).1 + 1 < Mir.ht other (Mir.lawEnds other u).2) && _) = false
    rw [h1]
    rfl
  have base0 : Sub [some (eW n es), some (eH one), some (eH other), none, none, none, none] [some (eW n es), some (eH one), some (eH other), none, none, none, none] := Sub.refl _
  have good : ∀ k u, es[k]? = some u → k < es.findIdx (Mir.lawBad one other) → Mir.lawBad one other u = false := fun k u hu hk => by
    obtain ⟨h1, rfl⟩ := List.getElem?_eq_some_iff.mp hu
    have := List.not_of_lt_findIdx hk
    simpa using this
  cases hany : es.any (Mir.lawBad one other) with
  | false =>
    have hm : es.findIdx (Mir.lawBad one other) = es.length := by
      refine List.findIdx_eq_length.mpr fun x hx => ?_
      have := List.any_eq_false.mp hany x hx
      simpa using this
    refine ⟨_, js_cons (j1_for (xs := es) (enc := eE) (fun _ => [some (eW n es), some (eH one), some (eH other), none, none, none, none]) (es.findIdx (Mir.lawBad one other)) PassesOwn.never rfl (ji_tup (ix' 1 (v' 0))) (g2' 3 4 rfl sc53.nd) base0 (fun k u hu hk => ⟨_, [3, 4], jg_pair (by simp) (by simp), ?_⟩) (.inl ⟨hm, rfl⟩) (fun _ => rfl)) (js_end (j1_ret j_bl)), .inl (by unfold Mir.lawComes; rw [hany]; rfl)⟩
    have hin := List.mem_of_getElem? hu
    obtain ⟨b1, b2, b3, b4⟩ := F2.2 u hin
    obtain ⟨o1, o2, o3, o4⟩ := ends_fit (g := other) F2 hin
    obtain ⟨n1, n2, n3, n4⟩ := ends_fit (g := other) F1 hin
    exact js_sub (js_cons (asg' (j_if (k := decide (Mir.ht other u.1 ≤ Mir.ht other u.2)) (d := .tuple [.int (Mir.lawEnds other u).1, .int (Mir.lawEnds other u).2]) (jt_le (ixv' (v' 2) (v' 3) b1 (eH_get b1 b2)) (ixv' (v' 2) (v' 4) b3 (eH_get b3 b4))) (fun hk => jc (j_tup (a2 (v' 3) (a1 (v' 4))) (by simp)) (by unfold Mir.lawEnds; rw [if_pos (of_decide_eq_true hk)])) (fun hk => jc (j_tup (a2 (v' 4) (a1 (v' 3))) (by simp)) (by unfold Mir.lawEnds; rw [if_neg (of_decide_eq_false hk)]))) (g2' 5 6 rfl sc53.nd) (jg_pair (vs := [5, 6]) (by simp) (by simp))) (js_cons (j1_if (l := false) (jtc (jt_pw (jw_and (l := Mir.lawBad one other u) (jt_gt (ixv' (v' 2) (v' 6) o3 (eH_get o3 o4)) (j_add (ixv' (v' 2) (v' 5) o1 (eH_get o1 o2)) j_int)) (fun hk => jw_and1 (jt_pw (jw_or (l := Mir.lawBad one other u) (jt_gt (ixv' (v' 1) (v' 5) n1 (eH_get n1 n2)) (ixv' (v' 2) (v' 5) o1 (eH_get o1 o2))) (fun hk2 => jw_or1 (jtc (jt_lt (ixv' (v' 1) (v' 6) n3 (eH_get n3 n4)) (ixv' (v' 2) (v' 6) o3 (eH_get o3 o4))) (bad1 hk hk2))) (fun hk2 => bad2 hk hk2)))) (fun hk => bad3 hk))) (good k u hu hk)) (fun h => nomatch h) (fun _ => js_nil)) js_nil)) (sk (sk (sk (sd (sd (sd (sd sub_nil)))))))
  | true =>
    obtain ⟨x, hx, hbx⟩ := List.any_eq_true.mp hany
    have hlt : es.findIdx (Mir.lawBad one other) < es.length := List.findIdx_lt_length_of_exists ⟨x, hx, hbx⟩
    have hb : Mir.lawBad one other es[es.findIdx (Mir.lawBad one other)] = true := List.findIdx_getElem (w := hlt)
    generalize hu0 : es[es.findIdx (Mir.lawBad one other)] = u at hb
    have hu1 : es[es.findIdx (Mir.lawBad one other)]? = some u := by rw [List.getElem?_eq_getElem hlt, hu0]
    refine ⟨.ret (.bool false), js_end (j1_for (xs := es) (enc := eE) (fun _ => [some (eW n es), some (eH one), some (eH other), none, none, none, none]) (es.findIdx (Mir.lawBad one other)) PassesOwn.never rfl (ji_tup (ix' 1 (v' 0))) (g2' 3 4 rfl sc53.nd) base0 (fun k u hu hk => ⟨_, [3, 4], jg_pair (by simp) (by simp), ?_⟩) (.inr ⟨u, _, _, [3, 4], hu1, rfl, jg_pair (by simp) (by simp), ?_⟩) (fun _ => rfl)), .inl (by unfold Mir.lawComes; rw [hany]; rfl)⟩
    · have hin := List.mem_of_getElem? hu
      obtain ⟨b1, b2, b3, b4⟩ := F2.2 u hin
      obtain ⟨o1, o2, o3, o4⟩ := ends_fit (g := other) F2 hin
      obtain ⟨n1, n2, n3, n4⟩ := ends_fit (g := other) F1 hin
      exact js_sub (js_cons (asg' (j_if (k := decide (Mir.ht other u.1 ≤ Mir.ht other u.2)) (d := .tuple [.int (Mir.lawEnds other u).1, .int (Mir.lawEnds other u).2]) (jt_le (ixv' (v' 2) (v' 3) b1 (eH_get b1 b2)) (ixv' (v' 2) (v' 4) b3 (eH_get b3 b4))) (fun hk => jc (j_tup (a2 (v' 3) (a1 (v' 4))) (by simp)) (by unfold Mir.lawEnds; rw [if_pos (of_decide_eq_true hk)])) (fun hk => jc (j_tup (a2 (v' 4) (a1 (v' 3))) (by simp)) (by unfold Mir.lawEnds; rw [if_neg (of_decide_eq_false hk)]))) (g2' 5 6 rfl sc53.nd) (jg_pair (vs := [5, 6]) (by simp) (by simp))) (js_cons (j1_if (l := false) (jtc (jt_pw (jw_and (l := Mir.lawBad one other u) (jt_gt (ixv' (v' 2) (v' 6) o3 (eH_get o3 o4)) (j_add (ixv' (v' 2) (v' 5) o1 (eH_get o1 o2)) j_int)) (fun hk => jw_and1 (jt_pw (jw_or (l := Mir.lawBad one other u) (jt_gt (ixv' (v' 1) (v' 5) n1 (eH_get n1 n2)) (ixv' (v' 2) (v' 5) o1 (eH_get o1 o2))) (fun hk2 => jw_or1 (jtc (jt_lt (ixv' (v' 1) (v' 6) n3 (eH_get n3 n4)) (ixv' (v' 2) (v' 6) o3 (eH_get o3 o4))) (bad1 hk hk2))) (fun hk2 => bad2 hk hk2)))) (fun hk => bad3 hk))) (good k u hu hk)) (fun h => nomatch h) (fun _ => js_nil)) js_nil)) (sk (sk (sk (sd (sd (sd (sd sub_nil)))))))
    · have hin := List.mem_of_getElem? hu1
      obtain ⟨b1, b2, b3, b4⟩ := F2.2 u hin
      obtain ⟨o1, o2, o3, o4⟩ := ends_fit (g := other) F2 hin
      obtain ⟨n1, n2, n3, n4⟩ := ends_fit (g := other) F1 hin
      exact js_cons (asg' (j_if (k := decide (Mir.ht other u.1 ≤ Mir.ht other u.2)) (d := .tuple [.int (Mir.lawEnds other u).1, .int (Mir.lawEnds other u).2]) (jt_le (ixv' (v' 2) (v' 3) b1 (eH_get b1 b2)) (ixv' (v' 2) (v' 4) b3 (eH_get b3 b4))) (fun hk => jc (j_tup (a2 (v' 3) (a1 (v' 4))) (by simp)) (by unfold Mir.lawEnds; rw [if_pos (of_decide_eq_true hk)])) (fun hk => jc (j_tup (a2 (v' 4) (a1 (v' 3))) (by simp)) (by unfold Mir.lawEnds; rw [if_neg (of_decide_eq_false hk)]))) (g2' 5 6 rfl sc53.nd) (jg_pair (vs := [5, 6]) (by simp) (by simp))) (js_end (j1_if (l := true) (jtc (jt_pw (jw_and (l := Mir.lawBad one other u) (jt_gt (ixv' (v' 2) (v' 6) o3 (eH_get o3 o4)) (j_add (ixv' (v' 2) (v' 5) o1 (eH_get o1 o2)) j_int)) (fun hk => jw_and1 (jt_pw (jw_or (l := Mir.lawBad one other u) (jt_gt (ixv' (v' 1) (v' 5) n1 (eH_get n1 n2)) (ixv' (v' 2) (v' 5) o1 (eH_get o1 o2))) (fun hk2 => jw_or1 (jtc (jt_lt (ixv' (v' 1) (v' 6) n3 (eH_get n3 n4)) (ixv' (v' 2) (v' 6) o3 (eH_get o3 o4))) (bad1 hk hk2))) (fun hk2 => bad2 hk hk2)))) (fun hk => bad3 hk))) hb) (fun _ => js_end (j1_ret j_bl)) (fun h => nomatch h)))
end
end Lv

namespace Lv
open PySem PySem.Spec PyProof.Rows L2
section
variable {X : Cx} {ρ : Env1} {a e : Expr} {p p2 p3 tp pos : Pos} {x y : Str} {kk : Nat}
theorem isiT' {T U : String} {l : Bool} (d : PyData) (ha : J X ρ a d) (hl : PySem.W.kitAny X.K (.type (tyD d)) [.type T, .type U] = some l) (hm : X.mg "isinstance" = none) (hm2 : X.mg x = none) (hv : bootBuiltins x = some (.type T)) (hm3 : X.mg y = none) (hv3 : bootBuiltins y = some (.type U))
    (hg : Gl X "isinstance" := by rfl) (hg2 : Gl X x := by rfl) (hg3 : Gl X y := by rfl) (hb : bootBuiltins "isinstance" = some (.builtin "isinstance") := by decide +kernel)
    (hn : x ≠ "__name__" := by decide) (hdb : (x == ("__debug__" : Str)) = false := by decide) (hn3 : y ≠ "__name__" := by decide) (hdb3 : (y == ("__debug__" : Str)) = false := by decide)
    (h1 : starEach [a, .Tuple [.Name x p2, .Name y p3] kk tp] X.env = (false, eval a X.env) :: starEach [.Tuple [.Name x p2, .Name y p3] kk tp] X.env := by rfl) (h2 : starEach [.Tuple [.Name x p2, .Name y p3] kk tp] X.env = (false, eval (.Tuple [.Name x p2, .Name y p3] kk tp) X.env) :: starEach [] X.env := by rfl)
    (h3 : starEach [.Name x p2, .Name y p3] X.env = (false, eval (.Name x p2) X.env) :: starEach [.Name y p3] X.env := by rfl) (h4 : starEach [.Name y p3] X.env = (false, eval (.Name y p3) X.env) :: starEach [] X.env := by rfl)
    (hpl : (backTo pos (starEach [.Tuple [.Name x p2, .Name y p3] kk tp] X.env)).any (·.1) = false := by rfl) : J X ρ (.Call (.Name "isinstance" p) [a, .Tuple [.Name x p2, .Name y p3] kk tp] [] pos) (.bool l) :=
  j_isiT ha hl hg hm hg2 hm2 hv hg3 hm3 hv3 hb hn hdb hn3 hdb3 h1 h2 h3 h4 hpl
theorem it' : kitB "int" "tuple" = some false := by decide +kernel
theorem tup_any {K : PySem.W.Frag} {ds : List PyData} : PySem.W.kitAny K (.type (tyD (.tuple ds))) [.type "tuple", .type "list"] = some true := kitAny_cons (b := true) (kit_ty tt) (fun h => nomatch h) (fun _ => rfl)
theorem int_any {K : PySem.W.Frag} {i : Int} : PySem.W.kitAny K (.type (tyD (.int i))) [.type "tuple", .type "list"] = some false := kitAny_cons (b := false) (kit_ty it') (fun _ => kitAny_cons (b := false) (kit_ty il) (fun _ => kitAny_nil) (fun h => nomatch h)) (fun h => nomatch h)
theorem peq_bl (hu : X.A.units < cLine) (i j : Bool) : PEq X.A (.bool i) (.bool j) := ⟨rfl, rfl, hu⟩
theorem jt_isN {i : Int} {j pos'} (ha : J X ρ a (.int i)) : JT X ρ (.Compare a [.Is] [.Constant .none j pos'] pos) false := fun H0 H σ Q w q =>
  of_pt (pt_cmpR op_isN pe_self pe_self (by rfl)) (ha.run w fun x H1 H2 l1 w1 r1 => (j_non (X := X) (ρ := ρ)).run w1 fun y H3 H4 l2 w2 r2 =>
    ⟨rep_non r2, false, by rw [rep_int r1]; rfl, q _ _ (l1.trans l2)⟩)
end
theorem fm_none {α β : Type} : ∀ l : List α, l.filterMap (fun _ => (none : Option β)) = []
  | [] => rfl
  | _ :: l => by rw [List.filterMap_cons_none rfl, fm_none l]
/-- numbers, and tuples of such -/
def AlikeD : Nat → PyData → Prop
  | 0, d => ∃ i, d = .int i
  | k + 1, d => (∃ i, d = .int i) ∨ ∃ ds : List PyData, d = .tuple ds ∧ ds.length ≤ 5000 ∧ ∀ x ∈ ds, AlikeD k x
def RAlike (k : Nat) : List PyData → PyData → Prop := fun ds d => ∃ x, AlikeD k x ∧ ds = [x, x] ∧ d = .bool true
section
variable {P : Program} {w : World} {K : PySem.W.Frag} {mg : Str → Option Value} {base : Heap}
abbrev N47 : List Str := ["_law_found", "_law_due", "_law_k"]
theorem sc47 : FnScope N47 ["_law_found", "_law_due"] (defScope (top 47)) := ⟨rfl, rfl, rfl, by decide +kernel, rfl, by decide +kernel, by decide +kernel⟩
theorem int_alike {cdv : Value} {A : Around} {outer : List Env} {s : Shared} {H : Hp} {E : XK} {f : Addr} {n : Nat} (T : Txt mg) (hr : Room n (A.deeper (envOfC "_law_alike" (defScope (top 47)) s.heap.objs.size f cdv))) (i : Int) :
    JS (cxOf CX0 P w K mg base N47 "_law_alike" (defScope (top 47)) f cdv A outer s H E).nox [some (.int i), some (.int i), none] (defBody (top 47)) (.ret (.bool true)) := by
  refine js_cons (j1_if (l := false) (tv' (isiT' (.int i) (v' 1) int_any T.isinstance T.tuple b_tuple T.list b_list)) (fun h => nomatch h) (fun _ => js_nil)) (js_cons (j1_if (l := false) (jt_pw (jw_or (k := false) (jt_isN (v' 1)) (fun _ => jw_or1 (tv' (isi' (.int i) (v' 1) is_ T.isinstance T.str b_str))) (fun h => nomatch h))) (fun h => nomatch h) (fun _ => js_nil)) (js_end (j1_ret ?_)))
  refine j_and (k := true) (isi' (.int i) (v' 0) ii T.isinstance T.int b_int) (fun _ => ?_) (fun h => nomatch h)
  refine j_and (k := true) (jc (j_eq (isi' (.int i) (v' 0) ib T.isinstance T.bool b_bool) (isi' (.int i) (v' 1) ib T.isinstance T.bool b_bool) (peq_bl hr.units0 false false)) rfl) (fun _ => ?_) (fun h => nomatch h)
  exact j_one (jc (j_eq (v' 0) (v' 1) (peq_ints hr.units0 i i)) (by rw [eqv_int, decide_eq_true rfl]))
theorem ok_l_alike0 {f : Addr} {fd : FuncData} (F : Fun K "_law_alike" "_law_alike" (top 47) f fd) (T : Txt mg) : FnOk P w K mg base CX0 1 f fd ["_law_found", "_law_due"] (SpR (RAlike 0)) := by
  refine fn_ok F sc47 (fun ds d h => by obtain ⟨_, _, rfl, _⟩ := h; rfl) (fun cdv A outer s H E hr ds d h => ?_)
  obtain ⟨x, ⟨i, rfl⟩, rfl, rfl⟩ := h
  exact ⟨_, int_alike T hr i, .inl rfl⟩
theorem ok_l_alike (k : Nat) {f : Addr} {fd : FuncData} (F : Fun K "_law_alike" "_law_alike" (top 47) f fd) (T : Txt mg) (C47 : Cal P w K mg base (k + 1) "_law_alike" ["_law_found", "_law_due"] (SpR (RAlike k))) : FnOk P w K mg base CX0 (k + 2) f fd ["_law_found", "_law_due"] (SpR (RAlike (k + 1))) := by
  refine fn_ok F sc47 (fun ds d h => by obtain ⟨_, _, rfl, _⟩ := h; rfl) (fun cdv A outer s H E hr ds d h => ?_)
  obtain ⟨x, hx, rfl, rfl⟩ := h
  rcases hx with ⟨i, rfl⟩ | ⟨xs, rfl, hz, hxs⟩
  · exact ⟨_, int_alike T hr i, .inl rfl⟩
  refine ⟨.ret (.bool true), js_end (j1_if (l := true) (tv' (isiT' (.tuple xs) (v' 1) tup_any T.isinstance T.tuple b_tuple T.list b_list)) (fun _ => ?_) (fun h => nomatch h)), .inl rfl⟩
  refine js_cons (j1_if (l := false) (jt_pw (jw_or (k := false) (jtc (jt_not (tv' (isiT' (.tuple xs) (v' 0) tup_any T.isinstance T.tuple b_tuple T.list b_list))) rfl) (fun _ => jw_or1 (jtc (jt_ne (isi' (.tuple xs) (v' 0) tl T.isinstance T.list b_list) (isi' (.tuple xs) (v' 1) tl T.isinstance T.list b_list) (peq_bl hr.units0 false false)) rfl)) (fun h => nomatch h))) (fun h => nomatch h) (fun _ => js_nil))
    (js_cons (j1_if (l := false) (jtc (jt_neI hr.units0 (lenT' T.len (v' 0)) (lenT' T.len (v' 1))) (by simp)) (fun h => nomatch h) (fun _ => js_nil))
    (js_end (j1_ret (jc (j_eq (lc' (xs := rangeI 0 (Int.toNat xs.length)) (enc := .int) (f := fun _ => none) [("_law_k", 2)] rfl sc47.nd (rg1' T.range (lenT' T.len (v' 1)) (by omega) (by omega)) (blkOk_by (N := N47) (sc := defScope (top 47)) (by decide +kernel)) (fun _ _ _ _ _ => g' 2 sc47.nd)
      (fun j hj => ⟨_, jg_name (by simp), fun _ _ _ _ _ => ⟨?_, fun d h => nomatch h⟩⟩) (by rw [rangeI_length]; omega)) (j_lst ja_nil (Nat.zero_le _)) (peq_nil (by rw [fm_none]; rfl) (ru hr))) (by rw [fm_none]; rfl)))))
  have hb := Mir.mem_upto.mp hj
  have hlt : j.toNat < xs.length := by omega
  have hx : xs[j.toNat]? = some xs[j.toNat] := List.getElem?_eq_getElem hlt
  exact jts_one (jtc (jt_not (tv' (c' C47 hr (a2 (ixv' (v' 0) (v' 2) hb.1 hx) (a1 (ixv' (v' 1) (v' 2) hb.1 hx))) ⟨_, hxs _ (List.getElem_mem hlt), rfl, rfl⟩))) rfl)
end
end Lv

namespace Lv
open PySem PySem.Spec PyProof.Rows L2
/-! ### the row of draws: [script, place, seed, rest] -/
abbrev rowV (a : Addr) (i x r : Int) : List V := [.ref a, .int i, .int x, .int r]
def spTaken (K : PySem.W.Frag) : Sp := fun vs H Q _ => ∃ (l a : Addr) (ns : List Int) (m i x r : Int) (H1 : Hp), vs = [.ref l, .int m] ∧ H l = some (.lst (rowV a i x r)) ∧ Same H1 H ∧ H1 l = none ∧ SqL K H1 a (ns.map V.int) ∧ 0 < m ∧ m ≤ 1000 ∧ 0 ≤ i ∧ 0 ≤ x ∧ x < 2147483647 ∧ 0 ≤ r ∧
  ∀ t i' x' r', 0 ≤ t → t < m → 0 ≤ i' → 0 ≤ x' → x' < 2147483647 → 0 ≤ r' → Q (.int t) (upd H l (.lst (rowV a i' x' r')))
section
variable {P : Program} {w : World} {K : PySem.W.Frag} {mg : Str → Option Value} {base : Heap}
abbrev N43 : List Str := ["_law_row", "_law_many_here", "_law_found", "_law_cell"]
theorem sc43 : FnScope N43 ["_law_row", "_law_many_here"] (defScope (top 43)) := ⟨rfl, rfl, rfl, by decide +kernel, rfl, by decide +kernel, by decide +kernel⟩
theorem ok_taken {f : Addr} {fd : FuncData} (F : Fun K "_law_taken" "_law_taken" (top 43) f fd) (T : Txt mg) : FnOk P w K mg base CX0 1 f fd ["_law_row", "_law_many_here"] (spTaken K) := by
  refine F.ok sc43 (fun vs H Q E h => by obtain ⟨_, _, _, _, _, _, _, _, rfl, _⟩ := h; rfl) (fun cdv A outer s H vs Q E hr h => ?_)
  obtain ⟨l, a, ns, m, i, x, r, H1, rfl, hl, sm, nl, hS, m0, m1, i0, x0, x1, r0, q⟩ := h
  have hd : CDiv r m := ⟨m0, by omega⟩
  refine ⟨wB (cxOf CX0 P w K mg base N43 "_law_taken" (defScope (top 43)) f cdv A outer s H E).nox (defBody (top 43)), pb_self, ?_⟩
  show wB _ _ _ [some (.ref l), some (.int m), none, none] H
  refine b_cons (of_ps (ps_if (pt_cmpR op_gt (pe_ix ix_list (pv 0) pe_int (by intro _ _; rfl)) pe_int (nomark _)) pb_self pb_self) ?_)
  refine ⟨_, rfl, l, _, 3, _, rfl, rfl, SqL.of hl, atI_nat (j := 3) rfl, _, _, rfl, rfl, _, rfl, ?_⟩
  by_cases hr0 : (0 : Int) < r
  · rw [decide_eq_true hr0]
    refine iteT (b_cons (of_ps (ps_set (i := 2) sc43.nd rfl (Or.inl rfl) (pe_op op_mod (pe_callTy call_int1 (by rfl) T.int b_int (pa_cons (pe_ix ix_list (pv 0) pe_int (by intro _ _; rfl)) pa_nil)) (pv 1))) ?_))
    refine ⟨_, rfl, l, _, 3, _, rfl, rfl, SqL.of hl, atI_nat (j := 3) rfl, .inl ⟨_, rfl, _, rfl, _, _, rfl, rfl, m0, ?_⟩⟩
    refine b_cons (of_ps (ps_asg (pe_op op_fdiv (pe_ix ix_list (pv 0) pe_int (by intro _ _; rfl)) (pv 1)) (pg_sub (pv 0) pe_int set_list)) ?_)
    refine ⟨_, rfl, l, _, 3, _, rfl, rfl, SqL.of hl, atI_nat (j := 3) rfl, _, rfl, _, _, rfl, rfl, hd, _, rfl, l, _, 3, 3, rfl, rfl, hl, rfl, ?_⟩
    refine b_cons (of_ps (ps_ret (pv 2)) ⟨_, rfl, ?_⟩)
    exact q (r % m) i x (r / m) (Int.emod_nonneg r (by omega)) (Int.emod_lt_of_pos r m0) i0 x0 x1 (Int.ediv_nonneg r0 (by omega))
  · rw [decide_eq_false hr0]
    refine iteF (b_nil ?_)
    refine b_cons (of_ps (ps_asg (pe_op op_add (pe_ix ix_list (pv 0) pe_int (by intro _ _; rfl)) pe_int) (pg_sub (pv 0) pe_int set_list)) ?_)
    refine ⟨_, rfl, l, _, 1, _, rfl, rfl, SqL.of hl, atI_nat (j := 1) rfl, _, _, rfl, rfl, _, rfl, l, _, 1, 1, rfl, rfl, hl, rfl, ?_⟩
    have hS1 : ∀ ob, SqL K (upd H l ob) a (ns.map V.int) := fun ob => Same.seq (fun b o e => by rw [upd_ne (ne_of_none e nl)]; exact sm _ _ e) hS
    generalize hH2 : upd H l _ = H2
    have hl2 : H2 l = some (.lst (rowV a (i + 1) x r)) := by rw [← hH2]; exact upd_same
    have hS2 : SqL K H2 a (ns.map V.int) := by rw [← hH2]; exact hS1 _
    have q2 : ∀ t i' x' r', 0 ≤ t → t < m → 0 ≤ i' → 0 ≤ x' → x' < 2147483647 → 0 ≤ r' → Q (.int t) (upd H2 l (.lst (rowV a i' x' r'))) := fun t i' x' r' a1 a2 a3 a4 a5 a6 => by
      rw [← hH2, upd_upd]
      exact q t i' x' r' a1 a2 a3 a4 a5 a6
    have hS3 : ∀ ob, SqL K (upd H2 l ob) a (ns.map V.int) := fun ob => by rw [← hH2, upd_upd]; exact hS1 ob
    clear hH2 hS1
    refine b_cons (of_ps (ps_if (pt_cmpR op_gt (pe_ix ix_list (pv 0) pe_int (by intro _ _; rfl)) (pe_callB call_len_seq (by rfl) T.len PySem.boot_len (pa_cons (pe_ix ix_list (pv 0) pe_int (by intro _ _; rfl)) pa_nil)) (nomark _)) pb_self pb_self) ?_)
    refine ⟨_, rfl, l, _, 1, _, rfl, rfl, SqL.of hl2, atI_nat (j := 1) rfl, _, rfl, l, _, 0, _, rfl, rfl, SqL.of hl2, atI_nat (j := 0) rfl, a, _, rfl, .inl hS2, _, _, rfl, rfl, _, rfl, ?_⟩
    rw [List.length_map]
    have c7 : ∀ y : Int, CDiv y 7 := fun y => ⟨by decide, by decide⟩
    have big : ∀ y : Int, 0 ≤ y % 2147483647 ∧ y % 2147483647 < 2147483647 := fun y => ⟨Int.emod_nonneg y (by decide), Int.emod_lt_of_pos y (by decide)⟩
    have cm : CMul x 48271 := .inr ⟨by decide, by decide⟩
    by_cases hi : (ns.length : Int) < i + 1
    · rw [decide_eq_true hi]
      refine iteT (b_cons (of_ps (ps_asg (pe_op op_mod (pe_callTy call_int1 (by rfl) T.int b_int (pa_cons (pe_op op_add (pe_op op_mul (pe_ix ix_list (pv 0) pe_int (by intro _ _; rfl)) pe_int) pe_int) pa_nil)) pe_int) (pg_sub (pv 0) pe_int set_list)) ?_))
      refine ⟨_, rfl, l, _, 2, _, rfl, rfl, SqL.of hl2, atI_nat (j := 2) rfl, _, _, rfl, rfl, cm, _, _, rfl, rfl, .inl ⟨_, rfl, _, _, rfl, rfl, (by decide : (0 : Int) < 2147483647), _, rfl, l, _, 2, 2, rfl, rfl, hl2, rfl, ?_⟩⟩
      have hb := big (x * 48271 + 11)
      refine b_cons (of_ps (ps_ret (pe_op op_mod (pe_callTy call_int1 (by rfl) T.int b_int (pa_cons (pe_op op_fdiv (pe_ix ix_list (pv 0) pe_int (by intro _ _; rfl)) pe_int) pa_nil)) (pv 1))) ?_)
      refine ⟨_, rfl, l, _, 2, _, rfl, rfl, SqL.of upd_same, atI_nat (j := 2) rfl, _, _, rfl, rfl, c7 _, .inl ⟨_, rfl, _, rfl, _, _, rfl, rfl, m0, ?_⟩⟩
      exact q2 ((x * 48271 + 11) % 2147483647 / 7 % m) (i + 1) ((x * 48271 + 11) % 2147483647) r (Int.emod_nonneg _ (by omega)) (Int.emod_lt_of_pos _ m0) (by omega) hb.1 hb.2 r0
    · rw [decide_eq_false hi]
      refine iteF (b_nil ?_)
      have hlt : i.toNat < ns.length := by omega
      have hc : (ns.map V.int)[i.toNat]? = some (.int ns[i.toNat]) := by rw [List.getElem?_map, List.getElem?_eq_getElem hlt]; rfl
      generalize ns[i.toNat] = c at hc
      have hat : atI (ns.map V.int) (i + 1 - 1) = some (.int c) := by
        have e : i + 1 - 1 = ((i.toNat : Nat) : Int) := by omega
        rw [e]
        exact atI_nat hc
      refine b_cons (of_ps (ps_set (i := 3) sc43.nd rfl (Or.inl rfl) (pe_ix ix_list (pe_ix ix_list (pv 0) pe_int (by intro _ _; rfl)) (pe_op op_sub (pe_ix ix_list (pv 0) pe_int (by intro _ _; rfl)) pe_int) (by intro _ _; rfl))) ?_)
      refine ⟨_, rfl, l, _, 0, _, rfl, rfl, SqL.of hl2, atI_nat (j := 0) rfl, _, rfl, l, _, 1, _, rfl, rfl, SqL.of hl2, atI_nat (j := 1) rfl, _, _, rfl, rfl, a, _, _, _, rfl, rfl, hS2, hat, ?_⟩
      refine b_cons (of_ps (ps_asg (pe_op op_mod (pe_callTy call_int1 (by rfl) T.int b_int (pa_cons (pe_op op_add (pe_op op_add (pe_op op_mul (pe_ix ix_list (pv 0) pe_int (by intro _ _; rfl)) pe_int) (pv 3)) pe_int) pa_nil)) pe_int) (pg_sub (pv 0) pe_int set_list)) ?_)
      refine ⟨_, rfl, l, _, 2, _, rfl, rfl, SqL.of hl2, atI_nat (j := 2) rfl, _, _, rfl, rfl, cm, _, rfl, _, _, rfl, rfl, _, _, rfl, rfl, .inl ⟨_, rfl, _, _, rfl, rfl, (by decide : (0 : Int) < 2147483647), _, rfl, l, _, 2, 2, rfl, rfl, hl2, rfl, ?_⟩⟩
      have hb := big (x * 48271 + c + 11)
      have fin : ∀ (H3 : Hp) (r' : Int), 0 ≤ r' → H3 = upd H2 l (.lst (rowV a (i + 1) ((x * 48271 + c + 11) % 2147483647) r')) → Q (.int (c % m)) H3 := fun H3 r' h1 h2 => by
        rw [h2]
        exact q2 _ (i + 1) ((x * 48271 + c + 11) % 2147483647) r' (Int.emod_nonneg _ (by omega)) (Int.emod_lt_of_pos _ m0) (by omega) hb.1 hb.2 h1
      refine b_cons (of_ps (ps_if (pt_cmpR op_ge (pv 3) (pe_op op_pow pe_int pe_int) (nomark _)) pb_self pb_self) ?_)
      refine ⟨_, rfl, _, _, rfl, rfl, ⟨by decide, by decide, by decide⟩, _, _, rfl, rfl, _, rfl, ?_⟩
      by_cases hg : (10 : Int) ^ (18 : Int).toNat ≤ c
      · rw [decide_eq_true hg]
        have c0 : 0 ≤ c := Int.le_trans (by decide) hg
        refine iteT (b_cons (of_ps (ps_asg (pe_op op_fdiv (pv 3) (pv 1)) (pg_sub (pv 0) pe_int set_list)) ?_))
        refine ⟨_, rfl, _, rfl, _, _, rfl, rfl, ⟨m0, by omega⟩, _, rfl, l, _, 3, 3, rfl, rfl, upd_same, rfl, b_nil ?_⟩
        refine b_cons (of_ps (ps_ret (pe_op op_mod (pe_callTy call_int1 (by rfl) T.int b_int (pa_cons (pv 3) pa_nil)) (pv 1))) ?_)
        refine ⟨_, rfl, .inl ⟨_, rfl, _, rfl, _, _, rfl, rfl, m0, ?_⟩⟩
        exact fin _ (c / m) (Int.ediv_nonneg c0 (by omega)) upd_upd
      · rw [decide_eq_false hg]
        refine iteF (b_nil ?_)
        refine b_cons (of_ps (ps_ret (pe_op op_mod (pe_callTy call_int1 (by rfl) T.int b_int (pa_cons (pv 3) pa_nil)) (pv 1))) ?_)
        refine ⟨_, rfl, .inl ⟨_, rfl, _, rfl, _, _, rfl, rfl, m0, ?_⟩⟩
        exact fin _ r r0 rfl
end
end Lv

namespace Lv
open PySem PySem.Spec PyProof.Rows L2
/-- a world behind, the object at l apart -/
structure LeX (l : Addr) (H0 H H0' H' : Hp) : Prop where
  s : ∀ b o, b ≠ l → H b = some o → H' b = some o
  s0 : Same H0 H0'
  w : Same H0' H'
  ow : ∀ a o, H a = some o → H0 a = none → H0' a = none
section
variable {l m : Addr} {H0 H H1 H2 H3 H4 K0 K : Hp} {Kf : PySem.W.Frag} {ob : HO} {acc : List PyData}
theorem Le.x (h : Le H0 H H1 H2) : LeX l H0 H H1 H2 := ⟨fun b o _ e => h.s b o e, h.s0, h.w, h.ow⟩
theorem LeX.trans (a : LeX l H0 H H1 H2) (b : LeX l H1 H2 H3 H4) (hl : H l ≠ none → H0 l = none → H3 l = none) : LeX l H0 H H3 H4 :=
  ⟨fun c o n e => b.s c o n (a.s c o n e), a.s0.trans b.s0, b.w, fun c o e n => by
    by_cases hc : c = l
    · subst hc
      exact hl (by rw [e]; exact fun z => nomatch z) n
    · exact b.ow c o (a.s c o hc e) (a.ow c o e n)⟩
theorem LeX.put (w : Same H0 H) (n : H0 l = none) : LeX l H0 H H0 (upd H l ob) := ⟨fun b o hb e => by rw [upd_ne hb]; exact e, Same.refl _, same_own w n, fun _ _ _ z => z⟩
/-- the row of draws stands at l -/
def RowAt (Kf : PySem.W.Frag) (H0 H : Hp) (l : Addr) : Prop := H0 l = none ∧ ∃ (a : Addr) (ns : List Int) (i x r : Int), H l = some (.lst (rowV a i x r)) ∧ SqL Kf H0 a (ns.map V.int) ∧ 0 ≤ i ∧ 0 ≤ x ∧ x < 2147483647 ∧ 0 ≤ r
theorem RowAt.le (h : RowAt Kf H0 H l) (le : Le H0 H H1 H2) : RowAt Kf H1 H2 l := by
  obtain ⟨n, a, ns, i, x, r, e, hS, b⟩ := h
  exact ⟨le.ow _ _ e n, a, ns, i, x, r, le.s _ _ e, le.s0.seq hS, b⟩
theorem RowAt.other (h : RowAt Kf H0 H l) (n : l ≠ m) : RowAt Kf H0 (upd H m ob) l := by
  obtain ⟨n0, a, ns, i, x, r, e, hS, b⟩ := h
  exact ⟨n0, a, ns, i, x, r, by rw [upd_ne n]; exact e, hS, b⟩
theorem RowAt.some (h : RowAt Kf H0 H l) : H l ≠ none := by
  obtain ⟨n0, a, ns, i, x, r, e, hS, b⟩ := h
  rw [e]
  exact fun z => nomatch z
theorem Own.leX (h : Own H K0 K m acc) (n : m ≠ l) (le : LeX l K0 K H1 H2) : Own H H1 H2 m acc := by
  obtain ⟨a, b, xs, e, r⟩ := h
  exact ⟨a, le.ow _ _ e b, xs, le.s _ _ n e, r.mono le.s0⟩
end
section
variable {X : Cx} {ρ ρ1 : Env1} {e a b c tg iter elt : Expr} {es ifs : List Expr} {d : PyData} {ds : List PyData} {pos p p1 : Pos} {x y z nm : Str} {k i : Nat} {l : Addr} {H0 H : Hp} {σ : L2.St}
theorem Wd.leX {H0' H' : Hp} (h : Wd H0 H σ ρ) (le : LeX l H0 H H0' H') : Wd H0' H' σ ρ := ⟨le.w, h.st.mono le.s0⟩
/-- _law_taken(row, e) -/
theorem w_taken {m : Int} {Q : VK} (C : Cal X.prog X.w X.K X.mg X.base 1 "_law_taken" ["_law_row", "_law_many_here"] (spTaken X.K)) (hr : Room 1 X.A) (he : J X ρ e (.int m)) (w : Wd H0 H σ ρ) (hσ : σ[i]? = some (some (.ref l))) (row : RowAt X.K H0 H l) (m0 : 0 < m) (m1 : m ≤ 1000)
    (q : ∀ t H0' H', 0 ≤ t → t < m → LeX l H0 H H0' H' → RowAt X.K H0' H' l → Wd H0' H' σ ρ → Q (.int t) H')
    (hN : X.N[i]? = some nm := by rfl) (hv : Vis X.env.scope nm := by first | exact Or.inl rfl | exact Or.inr (Or.inl rfl) | exact Or.inr (Or.inr rfl)) (hd : (nm == ("__debug__" : Str)) = false := by decide) (hcd : (nm == ("__classdict__" : Str)) = false := by decide) (hg : Gl X "_law_taken" := by rfl)
    (h1 : starEach [.Name nm p1, e] X.env = (false, eval (.Name nm p1) X.env) :: starEach [e] X.env := by rfl) (h2 : starEach [e] X.env = (false, eval e X.env) :: starEach [] X.env := by rfl) (hpl : (backTo pos (starEach [e] X.env)).any (·.1) = false := by rfl) :
    wE X (.Call (.Name "_law_taken" p) [.Name nm p1, e] [] pos) σ H Q := by
  obtain ⟨f, fd, hm, hk, hb, F⟩ := C.ex
  refine of_pe (pe_call F hr hg hm hk hb .nil pass0 (pa_cons (pe_var hN hv hd hcd) (pa_cons pe_self pa_nil h2) h1) (by decide) h1 hpl) ⟨_, hσ, he.run w fun v H1 H2 l1 w1 r1 => ?_⟩
  obtain ⟨n0, a, ns, i', x', r', e1, hS, b⟩ := row.le l1
  rw [rep_int r1]
  refine ⟨l, a, ns, m, i', x', r', H1, rfl, e1, w1.w, n0, hS, m0, m1, b.1, b.2.1, b.2.2.1, b.2.2.2, fun t i2 x2 r2 t0 t1 a1 a2 a3 a4 => ?_⟩
  have px : LeX l H1 H2 H1 (upd H2 l (.lst (rowV a i2 x2 r2))) := LeX.put w1.w n0
  exact q t H1 _ t0 t1 (l1.x.trans px fun _ _ => n0) ⟨n0, a, ns, i2, x2, r2, upd_same, hS, a1, a2, a3, a4⟩ ⟨px.w, w1.st⟩
theorem take_paired {α β : Type} {R : α → β → Prop} {xs : List α} {i : Nat} {x : α} (h : xs[i]? = some x) {ds : List β} {d : β} (hp : Paired R (xs.take i) ds) (hd : R x d) : Paired R (xs.take (i + 1)) (ds ++ [d]) := by
  rw [List.take_add_one, h]
  have app : ∀ {as : List α} {bs : List β}, Paired R as bs → Paired R (as ++ [x]) (bs ++ [d]) := fun {as bs} h => by
    induction h with
    | nil => exact .cons hd .nil
    | cons r _ ih => exact .cons r ih
  exact app hp
/-- [elt for ..] whose turns draw from the row -/
theorem lc_readsR {α : Type} {scope : Scope} {own : List (Str × Nat)} {gT : TG} {enc : α → PyData} {xs : List α} {Good : α → PyData → Prop} (hi : JI X ρ tg iter (xs.map enc))
    (turn : ∀ x ∈ xs, ∃ ρx, JG gT (wipeE ρ (own.map (·.2))) (enc x) ρx (own.map (·.2)) ∧ Blk X scope fun Y => ∀ G0 G τ (Q : VK), Wd G0 G τ ρx → RowAt X.K G0 G l → wipe τ (own.map (·.2)) = wipe σ (own.map (·.2)) → (∀ v d G0' G', LeX l G0 G G0' G' → RowAt X.K G0' G' l → Rep G0' v d → Good x d → Q v G') → wE Y elt τ G Q)
    (hz : xs.length ≤ 100000) {Q : VK} (w : Wd H0 H σ ρ) (row : RowAt X.K H0 H l) (q : ∀ v ds H0' H', LeX l H0 H H0' H' → RowAt X.K H0' H' l → Rep H0' v (.list ds) → Paired Good xs ds → Q v H') :
    tLc (wI X tg iter) gT (fun σ H Q => Blk X scope fun Y => wTs Y [] σ H Q) (fun σ H Q => Blk X scope fun Y => wE Y elt σ H Q) (own.map (·.2)) σ H Q := by
  refine hi H0 H σ _ w fun it H1 H2 l1 yl => ?_
  intro D hD
  have hD1 : H1 D = none := l1.w.free hD
  have row1 := row.le l1
  have nDl : l ≠ D := fun z => row1.some (z ▸ hD)
  refine ⟨fun i m G => m = xs.length - i ∧ i ≤ xs.length ∧ ∃ G0 acc ds, LeX l H1 H2 G0 (fun b => if b = D then none else G b) ∧ RowAt X.K G0 G l ∧ G D = some (.lst acc) ∧ RepL G0 acc ds ∧ Paired Good (xs.take i) ds, ⟨xs.length, by simp, Nat.zero_le _, H1, [], [], ?_, row1.other nDl, upd_same, .nil, .nil⟩, ?_⟩
  · refine ⟨fun b o _ e => ?_, Same.refl _, fun b o e => ?_, fun _ _ _ h => h⟩
    · have nb : b ≠ D := ne_of_none e hD
      show (if b = D then none else upd H2 D _ b) = _
      rw [if_neg nb, upd_ne nb]; exact e
    · have nb : b ≠ D := ne_of_none e hD1
      show (if b = D then none else upd H2 D _ b) = _
      rw [if_neg nb, upd_ne nb]; exact l1.w _ _ e
  · rintro i m G ⟨rfl, hi, G0, acc, ds, le, rowG, hG, rl, pg⟩
    have hG0 : G0 D = none := le.w.free (if_pos rfl)
    have w0 : Same G0 G := fun b o e => by
      have q1 := le.w b o e
      by_cases hb : b = D
      · subst hb; rw [if_pos rfl] at q1; cases q1
      · rw [if_neg hb] at q1; exact q1
    obtain ⟨y1, y2⟩ := yl i G0 G le.s0 w0
    by_cases hlt : i < xs.length
    · right
      have hx : xs[i]? = some xs[i] := by simp [hlt]
      obtain ⟨go, yld⟩ := y2 (enc xs[i]) (by rw [List.getElem?_map, hx]; rfl)
      refine ⟨go, fun G' => ∃ G0' acc' ds', LeX l H1 H2 G0' (fun b => if b = D then none else G' b) ∧ RowAt X.K G0' G' l ∧ G' D = some (.lst acc') ∧ RepL G0' acc' ds' ∧ Paired Good (xs.take (i + 1)) ds', fun G' p => ⟨xs.length - (i + 1), by omega, rfl, hlt, p⟩, fun v G1 hv => ?_⟩
      obtain ⟨G01, l2, rx⟩ := yld v G1 hv
      obtain ⟨ρx, jg, tn⟩ := turn xs[i] (List.getElem_mem hlt)
      have wd : Wd G01 G1 (wipe σ (own.map (·.2))) (wipeE ρ (own.map (·.2))) := ⟨l2.w, ((w.le l1).st.mono (le.s0.trans l2.s0)).wipe _⟩
      refine jg G01 G1 _ v _ wd rx fun σ2 wd2 hw => ⟨?_, fun s H C cl fp => jts_nil G01 G1 σ2 _ wd2 fun G02 G2 l3 => ?_⟩
      · rw [hw]; exact wipe_wipe σ _ _ fun i hi => hi
      · refine iteT fun s' H' C' cl' fp' => (tn s' H' C' cl' fp') G02 G2 σ2 _ (wd2.le l3) ((rowG.le l2).le l3) (hw.trans (wipe_wipe σ _ _ fun i hi => hi)) fun y dy G03 G3 l4 row4 ry good => ?_
        have lx : LeX l G0 G G03 G3 := (l2.trans l3).x.trans l4 fun _ _ => row4.1
        have n3 : G03 D = none := lx.ow D _ hG hG0
        have hlen : acc.length ≤ xs.length := by
          rw [rl.length, ← Paired.length pg, List.length_take]
          omega
        refine ⟨acc, lx.s _ _ nDl.symm hG, Nat.lt_of_le_of_lt (Nat.le_trans hlen hz) (by rw [sizeLine_eq]; omega), G03, acc ++ [y], ds ++ [dy], ⟨fun b o nbl e => ?_, le.s0.trans lx.s0, fun b o e => ?_, fun b o e n => ?_⟩, row4.other nDl, upd_same, (rl.mono lx.s0).append (.cons ry .nil), take_paired hx pg good⟩
        · have nb : b ≠ D := ne_of_none e hD
          have e1 := le.s b o nbl e
          rw [if_neg nb] at e1
          show (if b = D then none else upd G3 D _ b) = _
          rw [if_neg nb, upd_ne nb]; exact lx.s _ _ nbl e1
        · have nb : b ≠ D := ne_of_none e n3
          show (if b = D then none else upd G3 D _ b) = _
          rw [if_neg nb, upd_ne nb]; exact lx.w _ _ e
        · have nb : b ≠ D := ne_of_none e hD
          by_cases nbl : b = l
          · rw [nbl]; exact row4.1
          · have e1 := le.s b o nbl e
            rw [if_neg nb] at e1
            exact lx.ow b o e1 (le.ow b o e n)
    · left
      refine ⟨y1 (by rw [List.length_map]; omega), ?_⟩
      have hi' : i = xs.length := by omega
      subst hi'
      rw [List.take_length] at pg
      have s0 : Same G0 (upd G0 D (.lst acc)) := fun b o e => by rw [upd_ne (ne_of_none e hG0)]; exact e
      have nl : l ≠ D := nDl
      have row5 : RowAt X.K (upd G0 D (.lst acc)) G l := by
        obtain ⟨n0, a, ns, i', x', r', e1, hS, b⟩ := rowG
        exact ⟨by rw [upd_ne nl]; exact n0, a, ns, i', x', r', e1, s0.seq hS, b⟩
      refine q (.ref D) ds (upd G0 D (.lst acc)) G (l1.x.trans ⟨fun b o nbl e => ?_, le.s0.trans s0, fun b o e => ?_, fun b o e n => ?_⟩ fun _ _ => row5.1) row5 (.lst upd_same (rl.mono s0)) pg
      · have nb : b ≠ D := ne_of_none e hD
        have e1 := le.s b o nbl e
        rw [if_neg nb] at e1
        exact e1
      · by_cases hb : b = D
        · subst hb; rw [upd_same] at e; cases e; exact hG
        · rw [upd_ne hb] at e; exact w0 _ _ e
      · have nb : b ≠ D := ne_of_none e hD
        rw [upd_ne nb]
        exact le.ow b o e n
end
end Lv

namespace Lv
open PySem PySem.Spec PyProof.Rows L2
theorem wd_none {H0 H : Hp} (w : Same H0 H) (σ : L2.St) : Wd H0 H σ (List.replicate σ.length none) := ⟨w, by simp, fun i d h => by
  rw [List.getElem?_replicate] at h
  split at h
  · cases h
  · cases h⟩
theorem LeX.fresh {l m : Addr} {H0 H H1 H2 : Hp} (le : LeX l H0 H H1 H2) (hl : H2 l ≠ none) (n : H2 m = none) : H m = none := by
  cases e : H m with
  | none => rfl
  | some o =>
    by_cases h : m = l
    · subst h
      exact absurd n hl
    · rw [le.s _ _ h e] at n
      cases n
def spPick (Kf : PySem.W.Frag) : Sp := fun vs H Q _ => ∃ (H0 : Hp) (l : Addr) (v : V) (ts : List Int), vs = [.ref l, v] ∧ Same H0 H ∧ RowAt Kf H0 H l ∧ Rep H0 v (.list (ts.map .int)) ∧ ts ≠ [] ∧ ts.length ≤ 1000 ∧
  ∀ t ∈ ts, ∀ H0' H', LeX l H0 H H0' H' → RowAt Kf H0' H' l → Q (.int t) H'
section
variable {P : Program} {w : World} {K : PySem.W.Frag} {mg : Str → Option Value} {base : Heap}
theorem sc48 : FnScope ["_law_row", "_law_things"] ["_law_row", "_law_things"] (defScope (top 48)) := ⟨rfl, rfl, rfl, by decide +kernel, rfl, by decide +kernel, by decide +kernel⟩
theorem ok_pick {f : Addr} {fd : FuncData} (F : Fun K "_law_pick" "_law_pick" (top 48) f fd) (T : Txt mg) (C43 : Cal P w K mg base 1 "_law_taken" ["_law_row", "_law_many_here"] (spTaken K)) : FnOk P w K mg base CX0 2 f fd ["_law_row", "_law_things"] (spPick K) := by
  refine F.ok sc48 (fun vs H Q E h => by obtain ⟨_, _, _, _, rfl, _⟩ := h; rfl) (fun cdv A outer s H vs Q E hr h => ?_)
  obtain ⟨H0, l, v, ts, rfl, sm, row, rv, hne, hz, q⟩ := h
  refine ⟨wB (cxOf CX0 P w K mg base ["_law_row", "_law_things"] "_law_pick" (defScope (top 48)) f cdv A outer s H E).nox (defBody (top 48)), pb_self, ?_⟩
  show wB _ _ _ [some (.ref l), some v] H
  have w0 : Wd H0 H [some (.ref l), some v] [none, some (.list (ts.map .int))] := (wd_none sm [some (.ref l), some v]).know (i := 1) rfl rv
  have hpos : 0 < ts.length := List.length_pos_iff.mpr hne
  refine b_cons (of_ps (ps_ret (pe_ix ix_list (pv 1) pe_self (by intro _ _; rfl))) ⟨_, rfl, w_taken (i := 0) (m := (ts.map PyData.int).length) (l := l) C43 hr (lenL' T.len (v' 1)) w0 rfl row (by rw [List.length_map]; omega) (by rw [List.length_map]; omega) fun t H1 H2 t0 t1 lx row1 w1 => ?_⟩)
  rw [List.length_map] at t1
  obtain ⟨a, xs, rfl, ha, rl⟩ := rep_lst (rv.mono lx.s0)
  have e := rep_ints rl
  subst e
  have hlt : t.toNat < ts.length := by omega
  have hc : (ts.map V.int)[t.toNat]? = some (.int ts[t.toNat]) := by rw [List.getElem?_map, List.getElem?_eq_getElem hlt]; rfl
  have hmem := List.getElem_mem hlt
  generalize ts[t.toNat] = c at hc hmem
  have hat : atI (ts.map V.int) t = some (.int c) := by
    have e : t = ((t.toNat : Nat) : Int) := by omega
    rw [e]
    exact atI_nat hc
  exact ⟨a, _, t, _, rfl, rfl, SqL.of (lx.w _ _ ha), hat, q _ hmem H1 H2 lx row1⟩
end
section
variable {X : Cx} {ρ ρ1 : Env1} {e a b c tg iter elt : Expr} {es ifs : List Expr} {d : PyData} {ds : List PyData} {pos p p1 : Pos} {x y z nm : Str} {k i : Nat} {l : Addr} {H0 H : Hp} {σ : L2.St}
/-- _law_pick(row, e) -/
theorem w_pick {ts : List Int} {Q : VK} (C : Cal X.prog X.w X.K X.mg X.base 2 "_law_pick" ["_law_row", "_law_things"] (spPick X.K)) (hr : Room 2 X.A) (he : J X ρ e (.list (ts.map .int))) (w : Wd H0 H σ ρ) (hσ : σ[i]? = some (some (.ref l))) (row : RowAt X.K H0 H l) (hne : ts ≠ []) (hz : ts.length ≤ 1000)
    (q : ∀ t ∈ ts, ∀ H0' H', LeX l H0 H H0' H' → RowAt X.K H0' H' l → Wd H0' H' σ ρ → Q (.int t) H')
    (hN : X.N[i]? = some nm := by rfl) (hv : Vis X.env.scope nm := by first | exact Or.inl rfl | exact Or.inr (Or.inl rfl) | exact Or.inr (Or.inr rfl)) (hd : (nm == ("__debug__" : Str)) = false := by decide) (hcd : (nm == ("__classdict__" : Str)) = false := by decide) (hg : Gl X "_law_pick" := by rfl)
    (h1 : starEach [.Name nm p1, e] X.env = (false, eval (.Name nm p1) X.env) :: starEach [e] X.env := by rfl) (h2 : starEach [e] X.env = (false, eval e X.env) :: starEach [] X.env := by rfl) (hpl : (backTo pos (starEach [e] X.env)).any (·.1) = false := by rfl) :
    wE X (.Call (.Name "_law_pick" p) [.Name nm p1, e] [] pos) σ H Q := by
  obtain ⟨f, fd, hm, hk, hb, F⟩ := C.ex
  refine of_pe (pe_call F hr hg hm hk hb .nil pass0 (pa_cons (pe_var hN hv hd hcd) (pa_cons pe_self pa_nil h2) h1) (by decide) h1 hpl) ⟨_, hσ, he.run w fun v H1 H2 l1 w1 r1 => ?_⟩
  exact ⟨H1, l, v, ts, rfl, w1.w, row.le l1, r1, hne, hz, fun t ht H3 H4 lx row1 => q t ht H3 H4 (l1.x.trans lx fun _ _ => row1.1) row1 (w1.leX lx)⟩
/-- name = [..] of draws, on one line -/
theorem s_setLcR {α : Type} {D : Ends} {j : Nat} {px spos : Pos} {scope : Scope} {own : List (Str × Nat)} {gT : TG} {enc : α → PyData} {xs : List α} {Good : α → PyData → Prop} (hc : X.calm = true) (hN : X.N.Nodup) (hy : X.N[j]? = some x) (hyl : X.env.scope.names.lookup x = some .local)
    (hsw : swapsWith (.ListComp elt [⟨tg, iter, [], 0⟩] scope pos) (some (.Name x px)) spos.line X.env = pure true) (hi : JI X ρ tg iter (xs.map enc)) (ok : BlkOk X.N X.env.scope scope own) (hg : Blk X scope fun Y => PG Y tg gT)
    (turn : ∀ x ∈ xs, ∃ ρx, JG gT (wipeE ρ (own.map (·.2))) (enc x) ρx (own.map (·.2)) ∧ Blk X scope fun Y => ∀ G0 G τ (Q : VK), Wd G0 G τ ρx → RowAt X.K G0 G l → wipe τ (own.map (·.2)) = wipe σ (own.map (·.2)) → (∀ v d G0' G', LeX l G0 G G0' G' → RowAt X.K G0' G' l → Rep G0' v d → Good x d → Q v G') → wE Y elt τ G Q)
    (hz : xs.length ≤ 100000) (hs : ∀ x, foldedSetIterable iter X.env x = pure x) (w : Wd H0 H σ ρ) (row : RowAt X.K H0 H l) (q : ∀ v ds H0' H', LeX l H0 H H0' H' → RowAt X.K H0' H' l → Wd H0' H' (σ.set j (some v)) (ρ.set j (some (.list ds))) → Paired Good xs ds → D.nx (σ.set j (some v)) H') :
    wS X (.Assign [.Name x px] (.ListComp elt [⟨tg, iter, [], 0⟩] scope pos) spos) D σ H :=
  of_ps (ps_setLc (te := fun σ H Q => Blk X scope fun Y => wE Y elt σ H Q) (tt := fun σ H Q => Blk X scope fun Y => wTs Y [] σ H Q) hc hN hy hyl hsw pi_self ok hg
    (fun s H C cl fp => ⟨fun pins s' σ' H' Q' I h => h s H C cl fp pins s' I⟩) (fun s H C cl fp => ⟨fun pins s' σ' H' Q' I h => h s H C cl fp pins s' I⟩) hs)
    (lc_readsR hi turn hz w row fun v ds H0' H' lx row1 rv pg => q v ds H0' H' lx row1 ((w.leX lx).set j rv) pg)
/-- the same, of plain data -/
theorem s_setLc {α : Type} {D : Ends} {j : Nat} {px spos : Pos} {scope : Scope} {own : List (Str × Nat)} {gT : TG} {enc : α → PyData} {xs : List α} {f : α → Option PyData} (hc : X.calm = true) (hN : X.N.Nodup) (hy : X.N[j]? = some x) (hyl : X.env.scope.names.lookup x = some .local)
    (hsw : swapsWith (.ListComp elt [⟨tg, iter, ifs, 0⟩] scope pos) (some (.Name x px)) spos.line X.env = pure true) (hi : JI X ρ tg iter (xs.map enc)) (ok : BlkOk X.N X.env.scope scope own) (hg : Blk X scope fun Y => PG Y tg gT)
    (turn : ∀ x ∈ xs, ∃ ρx, JG gT (wipeE ρ (own.map (·.2))) (enc x) ρx (own.map (·.2)) ∧ Blk X scope fun Y => JTs Y ρx ifs (f x).isSome ∧ ∀ d, f x = some d → J Y ρx elt d)
    (hz : xs.length ≤ 100000) (hs : ∀ x, foldedSetIterable iter X.env x = pure x) (w : Wd H0 H σ ρ) (q : ∀ v H0' H', Le H0 H H0' H' → Wd H0' H' (σ.set j (some v)) (ρ.set j (some (.list (xs.filterMap f)))) → D.nx (σ.set j (some v)) H') :
    wS X (.Assign [.Name x px] (.ListComp elt [⟨tg, iter, ifs, 0⟩] scope pos) spos) D σ H :=
  of_ps (ps_setLc (te := fun σ H Q => Blk X scope fun Y => wE Y elt σ H Q) (tt := fun σ H Q => Blk X scope fun Y => wTs Y ifs σ H Q) hc hN hy hyl hsw pi_self ok hg
    (fun s H C cl fp => ⟨fun pins s' σ' H' Q' I h => h s H C cl fp pins s' I⟩) (fun s H C cl fp => ⟨fun pins s' σ' H' Q' I h => h s H C cl fp pins s' I⟩) hs)
    (lc_reads hi turn hz w fun v H0' H' l r => q v H0' H' l ((w.le l).set j r))
end
/-- an own list joins what never changes, the row apart -/
theorem Own.freezeX {Kf : PySem.W.Frag} {l m : Addr} {H0 H K0 K : Hp} {acc : List PyData} (h : Own H K0 K m acc) (le : LeX l H0 H K0 K) (row : RowAt Kf K0 K l) (n : m ≠ l) : ∃ K0', LeX l H0 H K0' K ∧ Same K0 K0' ∧ RowAt Kf K0' K l ∧ Rep K0' (.ref m) (.list acc) ∧ Same K0' K := by
  obtain ⟨nn, n0, xs, e, r⟩ := h
  have s0 : Same K0 (upd K0 m (.lst xs)) := fun b o z => by rw [upd_ne (ne_of_none z n0)]; exact z
  have w0 : Same (upd K0 m (.lst xs)) K := fun b o z => by
    by_cases hb : b = m
    · subst hb; rw [upd_same] at z; cases z; exact e
    · rw [upd_ne hb] at z; exact le.w _ _ z
  obtain ⟨n1, a, ns, i, x, r', e1, hS, b⟩ := row
  refine ⟨upd K0 m (.lst xs), ⟨le.s, le.s0.trans s0, w0, fun b o z1 z2 => ?_⟩, s0, ⟨by rw [upd_ne n.symm]; exact n1, a, ns, i, x, r', e1, s0.seq hS, b⟩, .lst upd_same (r.mono s0), w0⟩
  rw [upd_ne (ne_of_none z1 nn)]
  exact le.ow b o z1 z2
end Lv

namespace Lv
open PySem PySem.Spec PyProof.Rows L2
/-- edges of many places -/
def OkE (n : Nat) (es : List Mir.Edge) : Prop := ∀ e ∈ es, 0 ≤ e.1 ∧ e.1 < e.2 ∧ e.2 < (n : Int)
theorem sd_web {n : Nat} (h1 : 1 ≤ n) (h9 : n ≤ 9) {es : List Mir.Edge} (h : OkE n es) (hl : es.length ≤ 36) : WebOk n (Mir.sd Mir.ltE es) :=
  ⟨by omega, by omega, fun e he => h e ((Mir.mem_sd Mir.sloE).mp he), asc_next (Mir.pw_sd Mir.sloE es), Nat.le_trans (Mir.sd_length _) hl⟩
def spTable (Kf : PySem.W.Frag) : Sp := fun vs H Q _ => ∃ (H0 : Hp) (l : Addr), vs = [.ref l, .int 5, .int 64] ∧ Same H0 H ∧ RowAt Kf H0 H l ∧
  ∀ v H0' H' (n r : Nat) (es : List Mir.Edge), LeX l H0 H H0' H' → RowAt Kf H0' H' l → Rep H0' v (.tuple [eW n es, .int r]) → n ≤ 5 → WebOk n es → 1 ≤ r → r ≤ 5 → (r + 1) ^ n ≤ 64 → Q v H'
section
variable {P : Program} {w : World} {K : PySem.W.Frag} {mg : Str → Option Value} {base : Heap}
abbrev N50 : List Str := ["_law_row", "_law_most", "_law_size", "_law_many_here", "_law_way", "_law_thin", "_law_edges", "_law_roof", "_law_count", "_law_k", "_law_j"]
theorem sc50 : FnScope N50 ["_law_row", "_law_most", "_law_size"] (defScope (top 50)) := ⟨rfl, rfl, rfl, by decide +kernel, rfl, by decide +kernel, by decide +kernel⟩
theorem js_whileE {X : Cx} {ρ : Env1} {c : Expr} {body rest : List Stmt} {pos : Pos} {Post : PyData → Prop} {S : Type} (E : S → Env1) (step : S → S) (go : S → Bool) (Pv : S → Prop) (μ : S → Nat) (s0 : S) (hp : PassesOwn (model X.prog X.w) X.A X.env X.xe) (h0 : Sub (E s0) ρ) (p0 : Pv s0)
    (hs : ∀ s, Pv s → go s = true → Pv (step s) ∧ μ (step s) < μ s) (test : ∀ s, Pv s → JT X (E s) c (go s)) (turn : ∀ s, Pv s → go s = true → JS X (E s) body (.fall (E (step s))))
    (fin : ∀ s, Pv s → go s = false → ∃ d, Post d ∧ JS X (E s) rest (.ret d)) : ∃ d, Post d ∧ JS X ρ (.While c body [] pos :: rest) (.ret d) :=
  let ⟨s, p, g, h⟩ := while_on E step go Pv μ s0 hp h0 p0 hs test turn
  let ⟨d, hd, hf⟩ := fin s p g
  ⟨d, hd, js_cons h hf⟩
theorem table_tail {f : Addr} {cdv : Value} {A : Around} {outer : List Env} {s : Shared} {H : Hp} {E : XK} (T : Txt mg) (C49 : Cal P w K mg base 1 "_law_many" ["_law_roof", "_law_many_here"] (SpR RLMany)) (hr : Room 2 (A.deeper (envOfC "_law_table" (defScope (top 50)) s.heap.objs.size f cdv)))
    {n : Nat} (h1 : 1 ≤ n) (h5 : n ≤ 5) {es : List Mir.Edge} (hes : OkE n es) (hl : es.length ≤ 30) {way thin : Int} {r0 : Nat} (r1 : 1 ≤ r0) (r5 : r0 ≤ 5) :
    ∃ d, (∃ r : Nat, 1 ≤ r ∧ r ≤ 5 ∧ (r + 1) ^ n ≤ 64 ∧ d = .tuple [eW n (Mir.sd Mir.ltE es), .int r]) ∧ JS (cxOf CX0 P w K mg base N50 "_law_table" (defScope (top 50)) f cdv A outer s H E).nox [none, some (.int 5), some (.int 64), some (.int n), some (.int way), some (.int thin), some (.list (es.map eE)), some (.int r0), some (.int 1), none, none] ((defBody (top 50)).drop 5) (.ret d) := by
  refine js_whileE (S := Nat)
    (fun k => [none, some (.int 5), some (.int 64), some (.int n), some (.int way), some (.int thin), some (.list (es.map eE)), some (.int k), some (.int 1), none, none]) (fun k => k - 1) (fun k => decide (1 < k) && decide (64 < (k + 1) ^ n)) (fun k => 1 ≤ k ∧ k ≤ 5) (fun k => k) r0 PassesOwn.never (Sub.refl _) ⟨r1, r5⟩ (fun k ⟨q1, q5⟩ hg => ?_) (fun k ⟨q1, q5⟩ => ?_) (fun k ⟨q1, q5⟩ hg => ?_) (fun r ⟨p1, p5⟩ hgo => ?_)
  · rw [Bool.and_eq_true, decide_eq_true_eq, decide_eq_true_eq] at hg
    exact ⟨⟨by omega, by omega⟩, by omega⟩
  · refine jt_pw (jw_and (k := decide (1 < k)) (jtc (jt_gt (v' 7) j_int) ?_) (fun hk => jw_and1 (jtc (jt_gt (c' C49 (hr.mono (by decide)) (a2 (v' 7) (a1 (v' 3))) ⟨k, n, rfl, by omega, by omega, rfl⟩) (v' 2)) ?_)) (fun hk => ?_))
    · by_cases c : 1 < k
      · rw [decide_eq_true c, decide_eq_true (by omega)]
      · rw [decide_eq_false c, decide_eq_false (by omega)]
    · rw [hk, pow_cast]
      by_cases c : 64 < (k + 1) ^ n
      · rw [decide_eq_true c, decide_eq_true (by omega)]; rfl
      · rw [decide_eq_false c, decide_eq_false (by omega)]; rfl
    · rw [hk]; rfl
  · refine js_sub (js_cons (set' 7 sc50.nd (j_sub (v' 7) j_int)) js_nil) ?_
    rw [Bool.and_eq_true, decide_eq_true_eq, decide_eq_true_eq] at hg
    exact sk (sk (sk (sk (sk (sk (sk (se (by congr 1; omega) (sk (sk (sk sub_nil))))))))))
  · have hfin : (r + 1) ^ n ≤ 64 := by
      rw [Bool.and_eq_false_iff, decide_eq_false_iff_not, decide_eq_false_iff_not] at hgo
      rcases hgo with h | h
      · have e : r = 1 := by omega
        subst e
        exact Nat.le_trans (Nat.pow_le_pow_right (by decide) h5) (by decide)
      · omega
    refine ⟨_, ⟨r, p1, p5, hfin, rfl⟩, js_end (j1_ret (j_tup (a2 (j_tup (a2 (v' 3) (a1 (bty' call_tuple_of T.tuple b_tuple (a1 (j_sortSetE rfl hr.units (v' 6) (by omega) (fun e he => ?_) T.sorted T.set)) q_tuple))) (by simp)) (a1 (v' 7))) (by simp)))⟩
    have := hes e he
    omega
end
end Lv

namespace Lv
open PySem PySem.Spec PyProof.Rows L2
theorem LeX.own {l m : Addr} {H0 H K0 K : Hp} {ob : HO} (le : LeX l H0 H K0 K) (n : H m = none) (n0 : K0 m = none) : LeX l H0 H K0 (upd K m ob) :=
  ⟨fun b o nb e => by rw [upd_ne (ne_of_none e n)]; exact le.s _ _ nb e, le.s0, same_own le.w n0, le.ow⟩
theorem good_edges {n : Nat} : ∀ {xs : List Int} {ds : List PyData}, Paired (fun (k : Int) d => ∃ t, 0 ≤ t ∧ t < k ∧ d = eE (t, k)) xs ds → (∀ k ∈ xs, k < (n : Int)) → ∃ es : List Mir.Edge, ds = es.map eE ∧ OkE n es ∧ es.length = xs.length
  | _, _, .nil, _ => ⟨[], rfl, (fun e h => by cases h), rfl⟩
  | k :: xs, _, .cons r t, h => by
    obtain ⟨t', h0, h1, rfl⟩ := r
    obtain ⟨es, e1, e2, e3⟩ := good_edges t fun x hx => h x (List.mem_cons_of_mem _ hx)
    refine ⟨(t', k) :: es, by rw [e1]; rfl, fun e he => ?_, by simp [e3]⟩
    rcases List.mem_cons.mp he with rfl | he
    · exact ⟨h0, h1, h k List.mem_cons_self⟩
    · exact e2 e he
section
variable {P : Program} {w : World} {K : PySem.W.Frag} {mg : Str → Option Value} {base : Heap}
theorem ok_table {f : Addr} {fd : FuncData} (F : Fun K "_law_table" "_law_table" (top 50) f fd) (T : Txt mg) (C43 : Cal P w K mg base 1 "_law_taken" ["_law_row", "_law_many_here"] (spTaken K)) (C48 : Cal P w K mg base 2 "_law_pick" ["_law_row", "_law_things"] (spPick K)) (C49 : Cal P w K mg base 1 "_law_many" ["_law_roof", "_law_many_here"] (SpR RLMany)) :
    FnOk P w K mg base CX0 3 f fd ["_law_row", "_law_most", "_law_size"] (spTable K) := by
  refine F.ok sc50 (fun vs H Q E h => by obtain ⟨_, _, rfl, _⟩ := h; rfl) (fun cdv A outer s H vs Q E hr h => ?_)
  obtain ⟨H0, l, rfl, sm, row, q⟩ := h
  refine ⟨wB (cxOf CX0 P w K mg base N50 "_law_table" (defScope (top 50)) f cdv A outer s H E).nox (defBody (top 50)), pb_self, ?_⟩
  show wB _ _ _ [some (.ref l), some (.int 5), some (.int 64), none, none, none, none, none, none, none, none] H
  have w0 : Wd H0 H [some (.ref l), some (.int 5), some (.int 64), none, none, none, none, none, none, none, none] [none, some (.int 5), some (.int 64), none, none, none, none, none, none, none, none] :=
    ((wd_none sm [some (.ref l), some (.int 5), some (.int 64), none, none, none, none, none, none, none, none]).know (i := 1) rfl (.int 5)).know (i := 2) rfl (.int 64)
  -- many, way
  refine b_cons (of_ps (ps_par (i := 3) (j := 4) rfl sc50.nd rfl rfl (by decide) rfl rfl (pa_cons (pe_op op_add pe_int pe_self) (pa_cons pe_self pa_nil rfl) rfl) rfl) ?_)
  refine w_taken (i := 0) (m := 5) C43 (hr.mono (by decide)) (v' 1) w0 rfl row (by decide) (by decide) fun t1 A0 A1 t10 t15 lx1 row1 w1 => ⟨1, t1, rfl, rfl, ?_⟩
  refine w_taken (i := 0) (m := 6) C43 (hr.mono (by decide)) j_int w1 rfl row1 (by decide) (by decide) fun t2 B0 B t20 t26 lx2 row2 w2 => ⟨_, _, rfl, ?_⟩
  obtain ⟨n, hn⟩ : ∃ n : Nat, 1 + t1 = (n : Int) := ⟨(1 + t1).toNat, by omega⟩
  have n1 : 1 ≤ n := by omega
  have n5 : n ≤ 5 := by omega
  show wB _ _ _ [some (.ref l), some (.int 5), some (.int 64), some (.int (1 + t1)), some (.int t2), none, none, none, none, none, none] B
  rw [hn]
  have w2' : Wd B0 B [some (.ref l), some (.int 5), some (.int 64), some (.int n), some (.int t2), none, none, none, none, none, none] [none, some (.int 5), some (.int 64), some (.int n), some (.int t2), none, none, none, none, none, none] := (w2.set 3 (Rep.int n)).set 4 (Rep.int t2)
  clear w0 w1 w2
  -- thin, edges, roof, count
  refine b_cons (of_ps (ps_asg (pe_tup (pa_cons pe_self (pa_cons (pe_lst pa_nil) (pa_cons (pe_op op_add pe_int pe_self) (pa_cons pe_int pa_nil rfl) rfl) rfl) rfl)) (pg_tup rfl (pgs_cons (g' 5 sc50.nd) (pgs_cons (g' 6 sc50.nd) (pgs_cons (g' 7 sc50.nd) (pgs_cons (g' 8 sc50.nd) pgs_nil)))) rfl rfl) rfl rfl rfl) ?_)
  refine w_pick (i := 0) (ts := [2, 3, 4]) C48 hr (j_lst (a2 j_int (a2 j_int (a1 j_int))) (by simp)) w2' rfl row2 (by simp) (by decide) fun t3 ht3 D0 D lx3 row3 w3 => ⟨Nat.zero_le _, fun m nm => ?_⟩
  have t32 : 2 ≤ t3 ∧ t3 ≤ 4 := by
    simp only [List.mem_cons, List.not_mem_nil, or_false] at ht3
    omega
  have nm0 : D0 m = none := w3.w.free nm
  have nml : m ≠ l := fun z => row3.some (z ▸ nm)
  have lx123 : LeX l H0 H D0 D := (lx1.trans lx2 fun _ _ => row2.1).trans lx3 fun _ _ => row3.1
  have nmH : H m = none := lx123.fresh row3.some nm
  have le3 : Le D0 D D0 (upd D m (.lst [])) := (Le.refl w3.w).own nm nm0
  have own : Own H D0 (upd D m (.lst [])) m [] := ⟨nmH, nm0, [], upd_same, .nil⟩
  refine w_taken (i := 0) (m := 5) C43 (hr.mono (by decide)) j_int (w3.le le3) rfl (row3.le le3) (by decide) (by decide) fun t4 F0 F t40 t45 lx4 row4 w4 => ⟨1, t4, rfl, rfl, show 4 ≤ sizeLine from by decide, fun p np => ?_⟩
  have le4 := Le.new (o := .tup [V.int t3, V.ref m, V.int (1 + t4), V.int 1]) w4.w np
  refine ⟨p, _, rfl, SqT.of upd_same, rfl, _, _, rfl, _, _, rfl, _, _, rfl, _, _, rfl, rfl, ?_⟩
  obtain ⟨r0, hr0⟩ : ∃ r : Nat, 1 + t4 = (r : Int) := ⟨(1 + t4).toNat, by omega⟩
  have r1 : 1 ≤ r0 := by omega
  have r5 : r0 ≤ 5 := by omega
  show wB _ _ _ [some (.ref l), some (.int 5), some (.int 64), some (.int n), some (.int t2), some (.int t3), some (.ref m), some (.int (1 + t4)), some (.int 1), none, none] (upd F p (.tup [V.int t3, V.ref m, V.int (1 + t4), V.int 1]))
  have w5 : Wd _ _ [some (.ref l), some (.int 5), some (.int 64), some (.int n), some (.int t2), some (.int t3), some (.ref m), some (.int (1 + t4)), some (.int 1), none, none] [none, some (.int 5), some (.int 64), some (.int n), some (.int t2), some (.int t3), none, some (.int r0), some (.int 1), none, none] :=
    (((show Wd _ _ _ _ from ⟨le4.w, (((w4.le le4).set 5 (Rep.int t3)).st.drop 6 (some (.ref m)))⟩).set 7 (hr0 ▸ Rep.int (1 + t4) : Rep _ (.int (1 + t4)) (.int r0))).set 8 (Rep.int 1))
  have own5 := (own.leX nml lx4).le le4
  have row5 := row4.le le4
  have lx5 : LeX l H0 H _ _ := ((lx123.trans le3.x fun _ _ => row3.1).trans lx4 fun _ _ => row4.1).trans le4.x fun _ _ => row5.1
  clear own lx1 lx2 lx3 lx4 le3 le4 w2' w3 w4 lx123 row1 row2 row3 row4
  generalize upd F p _ = F1 at *
  generalize upd F0 p _ = F2 at *
  -- the tail
  have tail : ∀ (K0 K1 : Hp) (τ : L2.St) (es : List Mir.Edge), LeX l H0 H K0 K1 → RowAt K K0 K1 l → Wd K0 K1 τ [none, some (.int 5), some (.int 64), some (.int n), some (.int t2), some (.int t3), some (.list (es.map eE)), some (.int r0), some (.int 1), none, none] → OkE n es → es.length ≤ 30 →
      wB (cxOf CX0 P w K mg base N50 "_law_table" (defScope (top 50)) f cdv A outer s H E).nox ((defBody (top 50)).drop 5) { nx := fun _ H' => Q .non H', rt := Q } τ K1 := fun K0 K1 τ es lx rw_ wd ok len => by
    obtain ⟨d, ⟨r, a1', a2', a3', rfl⟩, js⟩ := table_tail (P := P) (w := w) (K := K) (mg := mg) (base := base) (outer := outer) (H := H) (E := E) T C49 hr n1 n5 ok len (way := t2) (thin := t3) r1 r5
    exact js K0 K1 τ _ wd fun v M0 M le rv => q v M0 M n r _ (lx.trans le.x fun _ _ => (rw_.le le).1) (rw_.le le) rv n5 (sd_web n1 (by omega) ok (by omega)) a1' a2' a3'
  -- the loops
  refine b_cons (s_for (ρ := [none, some (.int 5), some (.int 64), some (.int n), some (.int t2), some (.int t3), none, some (.int r0), some (.int 1), none, none]) (xs := rangeI 0 (Int.toNat n)) (enc := .int) PassesOwn.never rfl (rg1' T.range (v' 3) (by omega) (by omega)) (g' 9 sc50.nd) (fun _ => rfl) w5 fun G0 G le6 w6 => ?_)
  refine ⟨fun k K0 K1 τ => Same G0 K0 ∧ LeX l H0 H K0 K1 ∧ RowAt K K0 K1 l ∧ (∃ es : List Mir.Edge, Own H K0 K1 m (es.map eE) ∧ OkE n es ∧ es.length ≤ 5 * k) ∧ Wd K0 K1 τ [none, some (.int 5), some (.int 64), some (.int n), some (.int t2), some (.int t3), none, some (.int r0), some (.int 1), none, none] ∧ τ[0]? = some (some (.ref l)) ∧ τ[6]? = some (some (.ref m)),
    ⟨Same.refl _, lx5.trans le6.x fun _ _ => (row5.le le6).1, row5.le le6, ⟨[], own5.le le6, (fun e h => by cases h), Nat.zero_le _⟩, w6, rfl, rfl⟩, fun k K0 K1 τ iv => ⟨iv.1, iv.2.1.w⟩, ?_, ?_⟩
  · rintro k u K0 K1 τ hk ⟨s0, lx, rw_, ⟨es, own, ok, len⟩, wd, t0, t6⟩ v K0' K1' le7 rv
    have hkn : k < n := by
      have h := (List.getElem?_eq_some_iff.mp hk).1
      rw [rangeI_length] at h
      omega
    have eu : u = (k : Int) := by
      rw [rangeI_get (by omega)] at hk
      cases hk
      omega
    subst eu
    refine jg_name (ρ := [none, some (.int 5), some (.int 64), some (.int n), some (.int t2), some (.int t3), none, some (.int r0), some (.int 1), none, none]) (vs := [9]) (by simp) K0' K1' τ v _ (wd.le le7) rv fun τ2 wd2 hw => ?_
    have t0' : τ2[0]? = some (some (.ref l)) := (keep_slot hw (by simp)).trans t0
    have t6' : τ2[6]? = some (some (.ref m)) := (keep_slot hw (by simp)).trans t6
    refine b_cons (s_for (ρ := [none, some (.int 5), some (.int 64), some (.int n), some (.int t2), some (.int t3), none, some (.int r0), some (.int 1), some (.int k), none]) (xs := rangeI ((k : Int) + 1) (Int.toNat ((n : Int) - ((k : Int) + 1)))) (enc := .int) PassesOwn.never rfl (rg2' T.range (j_add (v' 9) j_int) (v' 3) (by omega) (by omega) (by omega) (by omega)) (g' 10 sc50.nd) (fun _ => rfl) wd2 fun I0 I1 le8 w8 => ?_)
    refine ⟨fun j M0 M1 τ => Same I0 M0 ∧ Same G0 M0 ∧ LeX l H0 H M0 M1 ∧ RowAt K M0 M1 l ∧ (∃ es : List Mir.Edge, Own H M0 M1 m (es.map eE) ∧ OkE n es ∧ es.length ≤ 5 * k + j) ∧ Wd M0 M1 τ [none, some (.int 5), some (.int 64), some (.int n), some (.int t2), some (.int t3), none, some (.int r0), some (.int 1), some (.int k), none] ∧ τ[0]? = some (some (.ref l)) ∧ τ[6]? = some (some (.ref m)),
      ⟨Same.refl _, s0.trans (le7.trans le8).s0, lx.trans (le7.trans le8).x fun _ _ => (rw_.le (le7.trans le8)).1, rw_.le (le7.trans le8), ⟨es, own.le (le7.trans le8), ok, by omega⟩, w8, t0', t6'⟩, fun j M0 M1 τ iv => ⟨iv.1, iv.2.2.1.w⟩, ?_, ?_⟩
    · rintro j u M0 M1 τ3 hj ⟨si, sg, lx, rw_, ⟨es, own, ok, len⟩, wd, t0, t6⟩ v M0' M1' le9 rv
      have hjn := Mir.mem_upto.mp (List.mem_of_getElem? hj)
      have hjl : j < 5 := by
        have h := (List.getElem?_eq_some_iff.mp hj).1
        rw [rangeI_length] at h
        omega
      refine jg_name (ρ := [none, some (.int 5), some (.int 64), some (.int n), some (.int t2), some (.int t3), none, some (.int r0), some (.int 1), some (.int k), none]) (vs := [10]) (by simp) M0' M1' τ3 v _ (wd.le le9) rv fun τ4 wd4 hw4 => ?_
      have t0'' : τ4[0]? = some (some (.ref l)) := (keep_slot hw4 (by simp)).trans t0
      have t6'' : τ4[6]? = some (some (.ref m)) := (keep_slot hw4 (by simp)).trans t6
      have wd5 : Wd M0' M1' τ4 [none, some (.int 5), some (.int 64), some (.int n), some (.int t2), some (.int t3), none, some (.int r0), some (.int 1), some (.int k), some (.int u)] := wd4
      have fin : ∀ {Z0 Z : Hp} {es' : List Mir.Edge}, Same M0' Z0 → LeX l H0 H Z0 Z → RowAt K Z0 Z l → Own H Z0 Z m (es'.map eE) → OkE n es' → es'.length ≤ 5 * k + (j + 1) → Wd Z0 Z τ4 [none, some (.int 5), some (.int 64), some (.int n), some (.int t2), some (.int t3), none, some (.int r0), some (.int 1), some (.int k), some (.int u)] →
          ∃ Z0, Same I0 Z0 ∧ Same G0 Z0 ∧ LeX l H0 H Z0 Z ∧ RowAt K Z0 Z l ∧ (∃ es : List Mir.Edge, Own H Z0 Z m (es.map eE) ∧ OkE n es ∧ es.length ≤ 5 * k + (j + 1)) ∧ Wd Z0 Z τ4 [none, some (.int 5), some (.int 64), some (.int n), some (.int t2), some (.int t3), none, some (.int r0), some (.int 1), some (.int k), none] ∧ τ4[0]? = some (some (.ref l)) ∧ τ4[6]? = some (some (.ref m)) :=
        fun {Z0 Z es'} sm' lx' rw' ow' ok' len' wd' => ⟨Z0, si.trans (le9.s0.trans sm'), sg.trans (le9.s0.trans sm'), lx', rw', ⟨es', ow', ok', len'⟩, wd'.sub (sk (sk (sk (sk (sk (sk (sk (sk (sk (sk (sd sub_nil))))))))))), t0'', t6''⟩
      have lx' : LeX l H0 H M0' M1' := lx.trans le9.x fun _ _ => (rw_.le le9).1
      have rw' := rw_.le le9
      have own' := own.le le9
      refine b_cons (of_ps (ps_if (pw_and pt_self pw_self).pt pb_self pb_self) ?_)
      refine jt_lt (v' 4) j_int M0' M1' τ4 _ wd5 fun J0 J1 le10 => ?_
      have lx10 : LeX l H0 H J0 J1 := lx'.trans le10.x fun _ _ => (rw'.le le10).1
      by_cases hw4' : t2 < 4
      · rw [decide_eq_true hw4']
        refine iteT (of_pw (pw_and1 pt_self) (of_pt (pt_cmpR op_eqD pe_self pe_self (nomark _)) (w_taken (i := 0) (m := t3) C43 (hr.mono (by decide)) (v' 5) (wd5.le le10) t0'' (rw'.le le10) (by omega) (by omega) fun t L0 L1 _ _ lx11 row11 w11 => (j_int (i := 0)).run w11 fun y L2 L3 le12 w12 r12 => ⟨L2, .int t, .int 0, w12.w, .int t, r12, peq_ints hr.units0 t 0, _, rfl, ?_⟩)))
        have own12 := (((own'.le le10).leX nml lx11).le le12)
        have row12 := row11.le le12
        have lx12 : LeX l H0 H L2 L3 := (lx10.trans lx11 fun _ _ => row11.1).trans le12.x fun _ _ => row12.1
        have s12 : Same M0' L2 := le10.s0.trans (lx11.s0.trans le12.s0)
        rw [eqv_int]
        by_cases ht : t = 0
        · rw [decide_eq_true ht]
          refine iteT (b_cons (app' 6 (j_tup (a2 (v' 9) (a1 (v' 10))) (by simp)) w12 t6'' own12 (by rw [List.length_map]; omega) fun Z0 Z ob le13 own13 w13 => b_nil (b_nil ?_)))
          refine fin (es' := es ++ [((k : Int), u)]) (s12.trans le13.s0) ((lx12.trans le13.x fun _ _ => (row12.le le13).1).own nmH own13.out) ((row12.le le13).other nml.symm) (by rw [List.map_append]; exact own13) (fun e he => ?_) (by simp; omega) w13
          rcases List.mem_append.mp he with z | z
          · exact ok e z
          · rw [List.mem_singleton.mp z]
            show 0 ≤ (k : Int) ∧ (k : Int) < u ∧ u < n
            omega
        · rw [decide_eq_false ht]
          exact iteF (b_nil (b_nil (fin s12 lx12 row12 own12 ok (by omega) w12)))
      · rw [decide_eq_false hw4']
        exact iteF (iteF (b_nil (b_nil (fin le10.s0 lx10 (rw'.le le10) (own'.le le10) ok (by omega) (wd5.le le10)))))
    · rintro M0 M1 τ3 ⟨si, sg, lx, rw_, ⟨es, own, ok, len⟩, wd, t0, t6⟩
      rw [rangeI_length] at len
      exact b_nil ⟨M0, sg, lx, rw_, ⟨es, own, ok, by omega⟩, wd.sub (sk (sk (sk (sk (sk (sk (sk (sk (sk (sd (sk sub_nil))))))))))), t0, t6⟩
  · rintro K0 K1 τ ⟨s0, lx, rw_, ⟨es, own, ok, len⟩, wd, t0, t6⟩
    rw [rangeI_length] at len
    obtain ⟨Z0, lxz, ssz, rowz, rz, wz⟩ := own.freezeX lx rw_ nml
    have wdz : Wd Z0 K1 τ [none, some (.int 5), some (.int 64), some (.int n), some (.int t2), some (.int t3), some (.list (es.map eE)), some (.int r0), some (.int 1), none, none] := (wd.more ssz wz).know t6 rz
    by_cases c4 : t2 = 4
    · refine b_cons (s_if (l := true) (jtc (jt_eqI hr.units0 (v' 4) j_int) (decide_eq_true c4)) wdz (fun _ J0 J1 le8 w8 => b_cons (s_setLc (j := 6) (xs := rangeI 0 (Int.toNat ((n : Int) - 1))) (enc := .int) (f := fun k => some (eE (k, k + 1))) (own := [("_law_k", 9)]) rfl sc50.nd rfl rfl rfl (rg1' T.range (j_sub (v' 3) j_int) (by omega) (by omega)) (blkOk_by (N := N50) (sc := defScope (top 50)) (by decide +kernel)) (fun _ _ _ _ _ => g' 9 sc50.nd)
        (fun x hx => ⟨_, jg_name (by simp), fun _ _ _ _ _ => ⟨jts_nil, fun d hd => ?_⟩⟩) (by rw [rangeI_length]; omega) (fun _ => rfl) w8 fun v9 M0 M le9 w9 => b_nil ?_)) (fun h => nomatch h))
      · cases hd
        exact j_tup (a2 (v' 9) (a1 (j_add (v' 9) j_int))) (by simp)
      · have e : (rangeI 0 (Int.toNat ((n : Int) - 1))).filterMap (fun k => some (eE (k, k + 1))) = ((rangeI 0 (Int.toNat ((n : Int) - 1))).map fun k => (k, k + 1)).map eE := by
          rw [fm_some, List.map_map]
          rfl
        rw [e] at w9
        refine b_cons (s_if (l := false) (jtc (jt_eqI hr.units0 (v' 4) j_int) (decide_eq_false (by omega))) w9 (fun h => nomatch h) (fun _ N0 N1 le10 w10 => b_nil (tail N0 N1 _ _ (lxz.trans ((le8.trans le9).trans le10).x fun _ _ => (rowz.le ((le8.trans le9).trans le10)).1) (rowz.le ((le8.trans le9).trans le10)) w10 (fun e he => ?_) (by rw [List.length_map, rangeI_length]; omega))))
        obtain ⟨x, hx, rfl⟩ := List.mem_map.mp he
        have := Mir.mem_upto.mp hx
        show 0 ≤ x ∧ x < x + 1 ∧ x + 1 < (n : Int)
        omega
    · refine b_cons (s_if (l := false) (jtc (jt_eqI hr.units0 (v' 4) j_int) (decide_eq_false c4)) wdz (fun h => nomatch h) (fun _ J0 J1 le8 w8 => b_nil ?_))
      have lx8 : LeX l H0 H J0 J1 := lxz.trans le8.x fun _ _ => (rowz.le le8).1
      have row8 := rowz.le le8
      by_cases c5 : t2 = 5
      · refine b_cons (s_if (l := true) (jtc (jt_eqI hr.units0 (v' 4) j_int) (decide_eq_true c5)) w8 (fun _ J2 J3 le9 w9 => b_cons (s_setLcR (l := l) (j := 6) (xs := rangeI 1 (Int.toNat ((n : Int) - 1))) (enc := .int) (Good := fun (k : Int) d => ∃ t, 0 ≤ t ∧ t < k ∧ d = eE (t, k)) (own := [("_law_k", 9)]) rfl sc50.nd rfl rfl rfl (rg2' T.range j_int (v' 3) (by omega) (by omega) (by omega) (by omega)) (blkOk_by (N := N50) (sc := defScope (top 50)) (by decide +kernel)) (fun _ _ _ _ _ => g' 9 sc50.nd)
          (fun x hx => ⟨_, jg_name (by simp), fun _ _ _ _ _ G0 G τ' Q' wdx rowx hwx qx => ?_⟩) (by rw [rangeI_length]; omega) (fun _ => rfl) w9 (row8.le le9) fun v9 ds M0 M lx9 row9 w10 pg => b_nil ?_)) (fun h => nomatch h))
        · have hb := Mir.mem_upto.mp hx
          have t0x : τ'[0]? = some (some (.ref l)) := (keep_slot hwx (by simp)).trans t0
          refine of_pe (pe_tup (pa_cons pe_self (pa_cons pe_self pa_nil rfl) rfl)) (w_taken (i := 0) (m := x) C43 (hr.mono (by decide)) (v' 9) wdx t0x rowx (by omega) (by omega) fun t L0 L1 ta tb lx11 row11 w11 => (v' 9).run w11 fun y L2 L3 le12 w12 r12 => ⟨show 2 ≤ sizeLine from by decide, fun p np => ?_⟩)
          have le13 := Le.new (o := .tup [V.int t, y]) w12.w np
          exact qx _ (eE (t, x)) _ _ (lx11.trans (le12.trans le13).x fun _ _ => (row11.le (le12.trans le13)).1) (row11.le (le12.trans le13)) (.tup upd_same (.cons (.int t) (.cons (r12.mono le13.s0) .nil))) ⟨t, ta, tb, rfl⟩
        · obtain ⟨es', rfl, ok', len'⟩ := good_edges (n := n) pg fun k hk => by
            have := Mir.mem_upto.mp hk
            omega
          rw [rangeI_length] at len'
          exact tail M0 M _ es' ((lx8.trans le9.x fun _ _ => (row8.le le9).1).trans lx9 fun _ _ => row9.1) row9 w10 ok' (by omega)
      · exact b_cons (s_if (l := false) (jtc (jt_eqI hr.units0 (v' 4) j_int) (decide_eq_false c5)) w8 (fun h => nomatch h) (fun _ J2 J3 le9 w9 => b_nil (tail J2 J3 _ es (lx8.trans le9.x fun _ _ => (row8.le le9).1) (row8.le le9) w9 ok (by omega))))
end
end Lv

namespace Lv
open PySem PySem.Spec PyProof.Rows L2
section
variable {P : Program} {w : World} {K : PySem.W.Frag} {mg : Str → Option Value} {base : Heap}
abbrev N54 : List Str := ["_law_script", "_law_row", "_law_many_here", "_law_roof", "_law_sets", "_law_pair", "_law_edges", "_law_soft", "_law_lots", "_law_every_here", "_law_web", "_law_one", "_law_size", "_law_sizes", "_law_best", "_law_other", "_law_whole"]
theorem sc54 : FnScope N54 ["_law_script"] (defScope (top 54)) := ⟨rfl, rfl, rfl, by decide +kernel, rfl, by decide +kernel, by decide +kernel⟩
abbrev sc54i : Scope := { kind := .function, names := [(".0", .local), ("_law_one", .cell), ("len", .globalImplicit), ("_law_every_here", .cell), ("_law_web", .cell)], isGenerator := false, isCoroutine := false, more := [] }
theorem best_mem (x : Int × List Int) : ∀ xs : List (Int × List Int), bestL (x :: xs) ∈ x :: xs := by
  intro xs
  show xs.foldl (fun a y => if PySem.W.dataLt (eM y) (eM a) then y else a) x ∈ x :: xs
  induction xs generalizing x with
  | nil => exact List.mem_cons_self
  | cons y r ih =>
    rw [List.foldl_cons]
    by_cases h : PySem.W.dataLt (eM y) (eM x) = true
    · rw [if_pos h]; exact List.mem_cons_of_mem _ (ih y)
    · rw [if_neg h]
      rcases List.mem_cons.mp (ih x) with z | z
      · rw [z]; exact List.mem_cons_self
      · exact List.mem_cons_of_mem _ (List.mem_cons_of_mem _ z)
theorem best_len (n r : Nat) (es : List Mir.Edge) : (bestL (steepL n r es)).2.length = n := by
  have h : bestL (steepL n r es) ∈ steepL n r es := by
    cases e : steepL n r es with
    | nil =>
      have := every_some n r
      unfold steepL at e
      exact absurd (List.map_eq_nil_iff.mp e) this
    | cons x xs => exact best_mem x xs
  unfold steepL at h
  obtain ⟨g, hg, e⟩ := List.mem_map.mp h
  rw [show (bestL (steepL n r es)).2 = g from by
    unfold steepL
    rw [← e]]
  exact (Mir.mem_every hg).1
theorem alike_ints2 (h : List Int) (hz : h.length ≤ 5000) : AlikeD 1 (.tuple (h.map .int)) := .inr ⟨_, rfl, by rw [List.length_map]; exact hz, fun x hx => by
  obtain ⟨i, _, rfl⟩ := List.mem_map.mp hx
  exact ⟨i, rfl⟩⟩
theorem alike_most {n : Nat} (hz : n ≤ 1000) (r : Nat) (es : List Mir.Edge) : AlikeD 2 (mostD n r es) := by
  refine .inr ⟨_, rfl, by simp, fun x hx => ?_⟩
  simp only [List.mem_cons, List.not_mem_nil, or_false] at hx
  rcases hx with rfl | rfl
  · exact .inl ⟨_, rfl⟩
  · exact alike_ints2 _ (by rw [best_len]; omega)
theorem alike_ratio (a b : Int) : AlikeD 2 (ratioD a b) := by
  refine .inr ⟨_, rfl, by simp, fun x hx => ?_⟩
  simp only [List.mem_cons, List.not_mem_nil, or_false] at hx
  rcases hx with rfl | rfl <;> exact .inl ⟨_, rfl⟩
theorem alike_tally (ns : List Int) (hz : ns.length ≤ 1000) : AlikeD 2 (tally ns) := by
  refine .inr ⟨_, rfl, ?_, fun x hx => ?_⟩
  · rw [List.length_map]
    exact Nat.le_trans (Mir.sd_length _) (by omega)
  · obtain ⟨k, _, rfl⟩ := List.mem_map.mp hx
    refine .inr ⟨_, rfl, by simp, fun y hy => ?_⟩
    simp only [List.mem_cons, List.not_mem_nil, or_false] at hy
    rcases hy with rfl | rfl <;> exact ⟨_, rfl⟩
/-- the second half of the law -/
theorem law_tail {f : Addr} {cdv : Value} {A : Around} {outer : List Env} {s : Shared} {H : Hp} {E : XK} {Q : VK} (T : Txt mg) (hr : Room 5 (A.deeper (envOfC "law" (defScope (top 54)) s.heap.objs.size f cdv)))
    (C44 : Cal P w K mg base 1 "_law_every" ["_law_many_here", "_law_roof"] (SpR RAll)) (C45 : Cal P w K mg base 1 "_law_steep" ["_law_web", "_law_heights"] (SpR RSteep)) (C46 : Cal P w K mg base 2 "_law_key" ["_law_web", "_law_heights"] (SpR RLot))
    (C47 : Cal P w K mg base 3 "_law_alike" ["_law_found", "_law_due"] (SpR (RAlike 2))) (C52 : Cal P w K mg base 2 "_law_ratio" ["_law_numerator", "_law_denominator"] (SpR RReduced)) (C53 : Cal P w K mg base 1 "_law_comes" ["_law_web", "_law_one", "_law_other"] (SpR RComes))
    (C39 : Cal P w K mg base 5 "most_steep" ["web", "roof"] (SpR (RMost 3000 mostD))) (C40 : Cal P w K mg base 5 "mean_come" ["web", "roof"] (SpR (RMost 300 meanD))) (C41 : Cal P w K mg base 5 "drawn_lot" ["web", "roof"] (SpR (RMost 3000 drawnD)))
    {n r : Nat} {es : List Mir.Edge} (h5 : n ≤ 5) (W : WebOk n es) (r1 : 1 ≤ r) (r5 : r ≤ 5) (hz : (r + 1) ^ n ≤ 64) {K0 K1 : Hp} {τ : L2.St} (wd : Wd K0 K1 τ [none, none, none, some (.int r), none, none, none, none, none, none, some (eW n es), none, none, none, none, none, none]) (q : ∀ H', Q (.bl true) H') :
    wB (cxOf CX0 P w K mg base N54 "law" (defScope (top 54)) f cdv A outer s H E).nox ((defBody (top 54)).drop 8) { nx := fun _ H' => Q .non H', rt := Q } τ K1 := by
  have hp : (0 : Int) < ((r : Int) + 1) ^ n := Int.pow_pos (by omega)
  have hp2 : ((r : Int) + 1) ^ n ≤ 100000 := by rw [pow_cast]; omega
  have elen : (((Mir.every n r).map eH).length : Int) = ((r : Int) + 1) ^ n := by rw [List.length_map, Mir.every_length, pow_cast]
  have slots : τ.length = 17 := wd.st.len.symm
  refine b_cons (of_ps (ps_asg (pe_tup (pa_cons pe_self (pa_cons pe_self pa_nil rfl) rfl)) (g2' 9 13 rfl sc54.nd) rfl rfl rfl) ?_)
  refine (c' C44 (hr.mono (by decide)) (a2 (ix' 0 (v' 10)) (a1 (v' 3))) ⟨n, r, rfl, by omega, by omega, by omega, rfl⟩).run wd fun v A0 A1 le1 w1 rv => w_dnew w1 fun l nl le2 at2 => ⟨show 2 ≤ sizeLine from by decide, fun p np => ?_⟩
  have le3 := Le.new (o := .tup [v, V.ref l]) le2.w np
  refine ⟨p, _, rfl, SqT.of upd_same, rfl, _, _, rfl, _, _, rfl, rfl, ?_⟩
  have own : OwnD P w A1 A0 _ l (sizesD []) := ⟨nl, w1.w.free nl, at2⟩
  have own3 := own.le le3
  have w3 : Wd _ _ ((τ.set 9 (some v)).set 13 (some (.ref l))) [none, none, none, some (.int r), none, none, none, none, none, some (.list ((Mir.every n r).map eH)), some (eW n es), none, none, none, none, none, none] :=
    ⟨le3.w, ((((w1.le le2).le le3).set 9 (rv.mono (le2.s0.trans le3.s0))).st.drop 13 (some (.ref l)))⟩
  have t13 : ((τ.set 9 (some v)).set 13 (some (V.ref l)))[13]? = some (some (.ref l)) := List.getElem?_set_self (by rw [List.length_set, slots]; decide)
  have leB : Le A0 A1 _ _ := le2.trans le3
  generalize (τ.set 9 (some v)).set 13 (some (V.ref l)) = τ3 at w3 t13 ⊢
  generalize upd (upd A1 l _) p _ = B1 at *
  generalize upd A0 p _ = B0 at *
  -- best
  refine b_cons (s_set (i := 14) (d := eM (bestL (steepL n r es))) sc54.nd rfl (Or.inl rfl) (j_min' rfl T.min (ru (m := 16) hr) (by unfold steepL; simpa using every_some n r) (jc (lc' (xs := Mir.every n r) (enc := eH) (f := fun h => some (eM (-((Mir.steep es h).length : Int), h))) [("_law_one", 11)] rfl sc54.nd (ji_list (v' 9))
      (blkOk_by (N := N54) (sc := defScope (top 54)) (by decide +kernel)) (fun _ _ _ _ _ => g' 11 sc54.nd) (fun h hh => ⟨_, jg_name (by simp), fun _ _ _ _ _ => ⟨jts_nil, fun d hd => ?_⟩⟩) (by rw [Mir.every_length]; omega)) ?_)) rfl (.inr rfl) w3 fun vb C0 C1 le4 w4 rb => ?_)
  · cases hd
    refine j_tup (a2 (jc (j_sub j_int (lenL' T.len (c' C45 (hr.mono (by decide)) (a2 (v' 10) (a1 (v' 11))) ⟨n, es, h, rfl, W.fit (Mir.mem_every hh), rfl⟩))) ?_) (a1 (v' 11))) (by simp)
    rw [List.length_map]
    congr 1
    omega
  · rw [fm_some]
    unfold steepL
    rw [List.map_map]
    rfl
  have t13b : (τ3.set 14 (some vb))[13]? = some (some (.ref l)) := by rw [List.getElem?_set_ne (by decide)]; exact t13
  have own4 := own3.le le4
  have leC := leB.trans le4
  generalize τ3.set 14 (some vb) = τ4 at w4 t13b ⊢
  -- most_steep
  refine b_cons (s_if (l := false) (ρ := [none, none, none, some (.int r), none, none, none, none, none, some (.list ((Mir.every n r).map eH)), some (eW n es), none, none, none, some (eM (bestL (steepL n r es))), none, none]) (jtc (jt_not (tv' (c' C47 (hr.mono (by decide)) (a2 (c' C39 hr (a2 (v' 10) (a1 (v' 3))) ⟨n, r, es, rfl, W, r1, by omega, by omega, rfl⟩) (a1 (jc (j_tup (a2 (j_sub j_int (ix' 0 (v' 14))) (a1 (ix' 1 (v' 14)))) (by simp)) (?_ : _ = mostD n r es)))) ⟨mostD n r es, alike_most (by omega) r es, rfl, rfl⟩))) rfl) w4 (fun h => nomatch h) (fun _ D0 D1 le5 w5 => b_nil ?_))
  · unfold mostD
    rw [Int.zero_sub]
  -- the sizes
  refine b_cons (s_for (ρ := [none, none, none, some (.int r), none, none, none, none, none, some (.list ((Mir.every n r).map eH)), some (eW n es), none, none, none, none, none, none]) (xs := Mir.every n r) (enc := eH) PassesOwn.never rfl (ji_list (v' 9)) (g' 11 sc54.nd) (fun _ => rfl) (w5.sub (sk (sk (sk (sk (sk (sk (sk (sk (sk (sk (sk (sk (sk (sk (sd (sk (sk sub_nil)))))))))))))))))) fun G0 G1 le6 w6 => ?_)
  refine ⟨fun k M0 M1 τ => Same G0 M0 ∧ Le A0 A1 M0 M1 ∧ OwnD P w A1 M0 M1 l (sizesD (((Mir.every n r).take k).map (Mir.lotOf es))) ∧ Wd M0 M1 τ [none, none, none, some (.int r), none, none, none, none, none, some (.list ((Mir.every n r).map eH)), some (eW n es), none, none, none, none, none, none] ∧ τ[13]? = some (some (.ref l)),
    ⟨Same.refl _, (leC.trans le5).trans le6, (own4.le le5).le le6, w6, t13b⟩, fun k M0 M1 τ iv => ⟨iv.1, iv.2.1.w⟩, ?_, ?_⟩
  · rintro k h M0 M1 τ5 hk ⟨s0, le, ow, wd2, t⟩ vh M0' M1' le7 rh
    have hin := Mir.mem_every (List.mem_of_getElem? hk)
    have tk : (Mir.every n r).take (k + 1) = (Mir.every n r).take k ++ [h] := by rw [List.take_add_one, hk]; rfl
    refine jg_name (ρ := [none, none, none, some (.int r), none, none, none, none, none, some (.list ((Mir.every n r).map eH)), some (eW n es), none, none, none, none, none, none]) (vs := [11]) (by simp) M0' M1' τ5 vh _ (wd2.le le7) rh fun τ6 wd3 hw => ?_
    have t' : τ6[13]? = some (some (.ref l)) := (keep_slot hw (by simp)).trans t
    have ow' := ow.le le7
    have key : ∀ {p1 p2 p3 p4}, J (cxOf CX0 P w K mg base N54 "law" (defScope (top 54)) f cdv A outer s H E).nox [none, none, none, some (.int r), none, none, none, none, none, some (.list ((Mir.every n r).map eH)), some (eW n es), some (eH h), none, none, none, none, none] (.Call (.Name "_law_key" p1) [.Name "_law_web" p2, .Name "_law_one" p3] [] p4) (eL (Mir.lotOf es h)) := fun {p1 p2 p3 p4} => c' C46 (hr.mono (by decide)) (a2 (v' 10) (a1 (v' 11))) ⟨n, es, h, rfl, W.fit hin, rfl⟩
    refine b_cons (w_dput (H0 := M0') (i := 13) (ps := sizesD (((Mir.every n r).take k).map (Mir.lotOf es))) (d := .int ((((Mir.every n r).take k).map (Mir.lotOf es)).count (Mir.lotOf es h) + 1 : Nat)) (ρ := [none, none, none, some (.int r), none, none, none, none, none, some (.list ((Mir.every n r).map eH)), some (eW n es), some (eH h), none, none, none, none, none]) hr.units rfl (Or.inl rfl) (by decide) (by decide) rfl t' ?_ key ?_ fun Z0 Z1 ob le8 w8 at8 => b_nil ?_)
    · unfold sizesD
      rw [List.length_map]
      refine Nat.le_trans (firsts_le _) ?_
      rw [List.length_map, List.length_take, Mir.every_length]
      omega
    · refine of_pe (pe_op op_add pe_self pe_self) (w_dget2 (i := 13) (df := .int 0) hr.units ⟨rfl, rfl, rfl, rfl⟩ rfl (Or.inl rfl) (by decide) (by decide) key j_int wd3 t' ow'.at_ fun v1 Y0 Y le9 r9 => (j_int (i := 1)).run (wd3.le le9) fun v2 X0 X1 le10 w10 r10 => ?_)
      rw [sizes_get] at r9
      exact ⟨_, _, rep_int r9, rep_int r10, X0, le9.trans le10, w10, .int _, (ow'.at_.le le9).le le10⟩
    · have put : putD (sizesD (((Mir.every n r).take k).map (Mir.lotOf es))) (Mir.lotOf es h) (.int ((((Mir.every n r).take k).map (Mir.lotOf es)).count (Mir.lotOf es h) + 1 : Nat)) = sizesD (((Mir.every n r).take (k + 1)).map (Mir.lotOf es)) := by
        rw [tk, List.map_append]
        exact sizes_snoc _ _
      rw [put] at at8
      have n1' : Z0 l = none := (ow'.le le8).out
      exact ⟨Z0, s0.trans (le7.s0.trans le8.s0), ((le.trans le7).trans le8).own ow'.new n1', ⟨ow'.new, n1', at8⟩, (show Wd _ _ _ _ from ⟨same_own w8.w n1', w8.st⟩).sub (sk (sk (sk (sk (sk (sk (sk (sk (sk (sk (sk (sd (sk (sk (sk (sk (sk sub_nil))))))))))))))))), t'⟩
  · rintro M0 M1 τ5 ⟨s0, le, ow, wd2, t⟩
    rw [List.take_length] at ow
    obtain ⟨F0, lef, sf, _, fz⟩ := ow.freeze le
    have wf : Wd F0 M1 τ5 [none, none, none, some (.int r), none, none, none, none, none, some (.list ((Mir.every n r).map eH)), some (eW n es), none, none, none, none, none, none] := wd2.more sf lef.w
    -- drawn_lot
    obtain ⟨fa, fda, hma, hka, hba, Fa⟩ := C47.ex
    obtain ⟨fr, fdr, hmr, hkr, hbr, Fr⟩ := C52.ex
    refine b_cons (of_ps (ps_if (pt_not pt_self) pb_self pb_self) (of_pt (pt_val pe_self (by intro _; rfl)) ?_))
    refine of_pe (pe_call Fa (hr.mono (by decide)) (by rfl) hma hka hba .nil pass0 (pa_cons pe_self (pa_cons pe_self pa_nil rfl) rfl) (by decide) rfl rfl) ?_
    refine (c' C41 hr (a2 (v' 10) (a1 (v' 3))) ⟨n, r, es, rfl, W, r1, by omega, by omega, rfl⟩).run wf fun v1 D2 D3 le8 w8 r8 => ?_
    refine of_pe (pe_call Fr (hr.mono (by decide)) (by rfl) hmr hkr hbr .nil pass0 (pa_cons pe_self (pa_cons pe_self pa_nil rfl) rfl) (by decide) rfl rfl) ?_
    refine of_pe (pe_callB (cr_sum rfl) (by rfl) T.sum (by decide +kernel) (pa_cons pe_self pa_nil rfl) (by decide) (by decide) rfl rfl) ?_
    refine w_lc (xs := firstsOf ((Mir.every n r).map (Mir.lotOf es))) (enc := fun k => .int (((Mir.every n r).map (Mir.lotOf es)).count k : Nat)) (f := fun k => some (.int ((((Mir.every n r).map (Mir.lotOf es)).count k : Int) * (((Mir.every n r).map (Mir.lotOf es)).count k : Int)))) (own := [("_law_size", 12)]) rfl sc54.nd (fun R hR => wi_values (i := 13) rfl (Or.inl rfl) (by decide) (by decide) t w8 (fz.up le8.s0 (Same.refl _)) rfl rfl fun it y => hR it D2 D3 (Le.refl w8.w) ?_)
      (blkOk_by (N := N54) (sc := defScope (top 54)) (by decide +kernel)) (fun _ _ _ _ _ => g' 12 sc54.nd) (fun k hk => ⟨_, jg_name (by simp), fun _ _ _ _ _ => ⟨jts_nil, fun d hd G2 G3 τ3 Q2 wd3 sm hw q2 => ?_⟩⟩) ?_ (fun _ => rfl) w8 fun v2 J0 J1 le9 r9 => ?_
    · have e : (sizesD ((Mir.every n r).map (Mir.lotOf es))).map (·.2) = (firstsOf ((Mir.every n r).map (Mir.lotOf es))).map fun k => .int (((Mir.every n r).map (Mir.lotOf es)).count k : Nat) := by
        unfold sizesD
        rw [List.map_map]
        rfl
      rw [e] at y
      exact y
    · cases hd
      have hc : ((Mir.every n r).map (Mir.lotOf es)).count k ≤ 64 := Nat.le_trans List.count_le_length (by rw [List.length_map, Mir.every_length]; exact hz)
      exact j_mul (v' 12) (v' 12) (.inl ⟨by omega, by omega⟩) G2 G3 τ3 Q2 wd3 q2
    · exact Nat.le_trans (firsts_le _) (by rw [List.length_map, Mir.every_length]; omega)
    · have e : (firstsOf ((Mir.every n r).map (Mir.lotOf es))).filterMap (fun k => some (PyData.int ((((Mir.every n r).map (Mir.lotOf es)).count k : Int) * (((Mir.every n r).map (Mir.lotOf es)).count k : Int)))) = ((lotsOf (Mir.lotOf es) (Mir.every n r)).map fun p => p.2 * p.2).map .int := by
        rw [fm_some]
        unfold lotsOf
        rw [List.map_map, List.map_map]
        rfl
      rw [e] at r9
      simp only [tNil, tCons]
      refine q_sum (X := (cxOf CX0 P w K mg base N54 "law" (defScope (top 54)) f cdv A outer s H E).nox) J0 J1 _ _ le9.w (.cons r9 .nil) fun v3 L0 L1 le10 r10 => ?_
      have w10 := (w8.le le9).le le10
      refine (lenL' T.len (v' 9)).run w10 fun v4 O0 O1 le11 w11 r11 => ?_
      refine ⟨O0, _, .tuple [.int (drawnN n r es / Mir.gcdI (drawnN n r es) (((r : Int) + 1) ^ n)), .int ((((r : Int) + 1) ^ n) / Mir.gcdI (drawnN n r es) (((r : Int) + 1) ^ n))], le11.w, .cons (r10.mono le11.s0) (.cons r11 .nil), ⟨drawnN n r es, ((r : Int) + 1) ^ n, by rw [elen]; rfl, hp, hp2, rfl⟩, fun v5 R0 R1 le12 r12 => ?_⟩
      have le13 := ((le9.trans le10).trans le11).trans le12
      refine ⟨R0, _, .bool true, le12.w, .cons (r8.mono le13.s0) (.cons r12 .nil), ⟨drawnD n r es, alike_ratio _ _, rfl, rfl⟩, fun v6 S0 S1 le14 r14 => ?_⟩
      refine ⟨true, rep_bl r14, iteF (b_nil ?_)⟩
      have w14 := ((w8.le le13).le le14)
      refine (js_cons (set' (d := .int (comesN n r es)) 16 sc54.nd (jc (blt' (cr_sum rfl) T.sum (by decide +kernel) (a1 (jc (lc' (xs := Mir.every n r) (enc := eH) (f := fun one => some (.int (((Mir.every n r).filter fun other => Mir.comes es one other).map eH).length)) [("_law_one", 11)] rfl sc54.nd (ji_list (v' 9))
        (blkOk_by (N := N54) (sc := defScope (top 54)) (by decide +kernel)) (fun _ _ _ _ _ => g' 11 sc54.nd) (fun one h1' => ⟨_, jg_name (by simp), fun _ _ _ _ _ => ⟨jts_nil, fun d hd => ?_⟩⟩) (by rw [Mir.every_length]; omega)) (?_ : _ = PyData.list (((Mir.every n r).map fun one => (((Mir.every n r).filter fun other => Mir.comes es one other).length : Int)).map .int)))) (fun H0 H vs Q w r q => q_sum H0 H vs Q w r q)) rfl))
        (js_end (j1_ret (c' C47 (hr.mono (by decide)) (a2 (c' C40 hr (a2 (v' 10) (a1 (v' 3))) ⟨n, r, es, rfl, W, r1, by omega, by omega, rfl⟩) (a1 (c' C52 (hr.mono (by decide)) (a2 (v' 16) (a1 (lenL' T.len (v' 9)))) ⟨comesN n r es, ((r : Int) + 1) ^ n, by rw [elen], hp, hp2, rfl⟩))) ⟨meanD n r es, alike_ratio _ _, rfl, rfl⟩)))) S0 S1 τ5 _ w14 fun v7 U0 U1 _ r15 => by rw [rep_bl r15]; exact q _
      · cases hd
        refine lenL' T.len (jc (lc' (xs := Mir.every n r) (enc := eH) (f := fun other => if Mir.comes es one other = true then some (eH other) else none) [("_law_other", 15)] rfl sc54.nd (ji_list (v' 9))
          (blkOk_by (N := N54) (sc := sc54i) (by decide +kernel)) (fun _ _ _ _ _ => g' 15 sc54.nd) (fun other h2' => ⟨_, jg_name (by simp), fun _ _ _ _ _ => ⟨jts_one (jtc (tv' (c' C53 (hr.mono (by decide)) (a2 (v' 10) (a2 (v' 11) (a1 (v' 15)))) ⟨n, es, one, other, rfl, W.fit (Mir.mem_every h1'), W.fit (Mir.mem_every h2'), rfl⟩)) ?_), fun d hd => ?_⟩⟩) (by rw [Mir.every_length]; omega)) ?_)
        · cases Mir.comes es one other <;> rfl
        · cases hb : Mir.comes es one other with
          | true =>
            rw [hb] at hd
            cases hd
            exact v' 15
          | false =>
            rw [hb] at hd
            cases hd
        · rw [fm_if]
      · rw [fm_some, List.map_map]
        congr 1
        refine List.map_congr_left fun one _ => ?_
        rw [List.length_map]
        rfl
end
end Lv

namespace Lv
open PySem PySem.Spec PyProof.Rows L2
def pairs3 : List Mir.Edge := [(0, 1), (0, 2), (1, 2)]
def setsUp (n k : Nat) : List (List Mir.Edge) := websOf ((pairs3.take k).filter fun e => decide (e.2 < (n : Int)))
theorem sets_all {n : Nat} (h1 : 1 ≤ n) (h3 : n ≤ 3) : setsUp n 3 = websOf (pairsOf n) := by
  obtain rfl | rfl | rfl : n = 1 ∨ n = 2 ∨ n = 3 := by omega
  · rw [pairs_one]; rfl
  · rw [pairs_two]; rfl
  · rw [pairs_three]; rfl
theorem sets_len (n k : Nat) : (setsUp n k).length ≤ 8 := by
  unfold setsUp
  rw [webs_len]
  have : ((pairs3.take k).filter fun e => decide (e.2 < (n : Int))).length ≤ 3 := Nat.le_trans (List.length_filter_le _ _) (by rw [List.length_take]; exact Nat.min_le_right _ _)
  exact Nat.le_trans (Nat.pow_le_pow_right (by omega) this) (by decide)
theorem sets_step {n k : Nat} {e : Mir.Edge} (h : pairs3[k]? = some e) : setsUp n (k + 1) = if e.2 < (n : Int) then setsUp n k ++ (setsUp n k).map (fun es => es ++ [e]) else setsUp n k := by
  unfold setsUp
  rw [take_snoc h, List.filter_append]
  by_cases c : e.2 < (n : Int)
  · rw [if_pos c, List.filter_cons_of_pos (by simpa using c), List.filter_nil, webs_snoc]
    rfl
  · rw [if_neg c, List.filter_cons_of_neg (by simpa using c), List.filter_nil, List.append_nil]
def gOne (n r : Nat) (es : List Mir.Edge) : Int := ((Mir.every n r).filter fun h => (Mir.steep es h).isEmpty).length
def lOne (n r : Nat) (es : List Mir.Edge) : Int := (firstsOf ((Mir.every n r).map (Mir.lotOf es))).length
def spLaw (K : PySem.W.Frag) : Sp := fun vs H Q _ => ∃ (a : Addr) (ns : List Int), vs = [.ref a] ∧ SqL K H a (ns.map V.int) ∧ ∀ H', Q (.bl true) H'
theorem map_take_snoc {α β : Type} (f : α → β) {l : List α} {i : Nat} {x : α} (h : l[i]? = some x) : (l.take (i + 1)).map f = (l.take i).map f ++ [f x] := by
  rw [take_snoc h, List.map_append]
  rfl
theorem Own.freezeY {Kf : PySem.W.Frag} {l m : Addr} {H0 H K0 K : Hp} {acc : List PyData} (h : Own H K0 K m acc) (le : LeX l H0 H K0 K) (row : RowAt Kf K0 K l) (n : m ≠ l) : ∃ K0', LeX l H0 H K0' K ∧ Same K0 K0' ∧ RowAt Kf K0' K l ∧ Rep K0' (.ref m) (.list acc) ∧ Same K0' K ∧ ∀ b, b ≠ m → K0 b = none → K0' b = none := by
  obtain ⟨nn, n0, xs, e, r⟩ := h
  have s0 : Same K0 (upd K0 m (.lst xs)) := fun b o z => by rw [upd_ne (ne_of_none z n0)]; exact z
  have w0 : Same (upd K0 m (.lst xs)) K := fun b o z => by
    by_cases hb : b = m
    · subst hb; rw [upd_same] at z; cases z; exact e
    · rw [upd_ne hb] at z; exact le.w _ _ z
  obtain ⟨n1, a, ns, i, x, r', e1, hS, b⟩ := row
  refine ⟨upd K0 m (.lst xs), ⟨le.s, le.s0.trans s0, w0, fun b o z1 z2 => ?_⟩, s0, ⟨by rw [upd_ne n.symm]; exact n1, a, ns, i, x, r', e1, s0.seq hS, b⟩, .lst upd_same (r.mono s0), w0, fun b hb z => by rw [upd_ne hb]; exact z⟩
  rw [upd_ne (ne_of_none z1 nn)]
  exact le.ow b o z1 z2
theorem flat_in {r : Nat} {c : Int} (h0 : 0 ≤ c) (h1 : c ≤ (r : Int)) : ∀ n, List.replicate n c ∈ Mir.every n r
  | 0 => by simp [Mir.every]
  | n + 1 => by
    show _ ∈ Mir.widen r (Mir.every n r)
    exact Mir.mem_widen.mpr ⟨_, flat_in h0 h1 n, c, h0, h1, List.replicate_succ'⟩
theorem flat_lot {n : Nat} {es : List Mir.Edge} (W : WebOk n es) (c : Int) : Mir.lotOf es (List.replicate n c) = [] := by
  have ht : ∀ i : Int, 0 ≤ i → i < n → Mir.ht (List.replicate n c) i = c := fun i h0 h1 => by
    unfold Mir.ht
    rw [List.getD_eq_getElem?_getD, List.getElem?_replicate, if_pos (by omega)]
    rfl
  have : es.filterMap (Mir.steepOne (List.replicate n c)) = [] := by
    refine List.filterMap_eq_nil_iff.mpr fun e he => ?_
    obtain ⟨a, b, d⟩ := W.edge e he
    unfold Mir.steepOne
    rw [ht e.1 a (by omega), ht e.2 (by omega) d, if_neg (by omega), if_neg (by omega)]
  unfold Mir.lotOf Mir.steep
  rw [this, sortE_asc List.Pairwise.nil]
  rfl
theorem few_lots {n r : Nat} {es : List Mir.Edge} (W : WebOk n es) (n1 : 1 ≤ n) (r1 : 1 ≤ r) (hz : (r + 1) ^ n ≤ 64) : (firstsOf ((Mir.every n r).map (Mir.lotOf es))).length < 64 := by
  have hin := flat_in (r := r) (c := 0) (by omega) (by omega) n
  have hin1 := flat_in (r := r) (c := 1) (by omega) (by omega) n
  have hne : List.replicate n (1 : Int) ≠ List.replicate n 0 := fun h => by
    obtain ⟨m, rfl⟩ : ∃ m, n = m + 1 := ⟨n - 1, by omega⟩
    rw [List.replicate_succ, List.replicate_succ] at h
    have := (List.cons.inj h).1
    omega
  have hle : (firstsOf ((Mir.every n r).map (Mir.lotOf es))).length ≤ (((Mir.every n r).erase (List.replicate n 0)).map (Mir.lotOf es)).length := nodup_le (nodup_firsts _) fun x hx => by
    obtain ⟨h, hh, rfl⟩ := List.mem_map.mp ((mem_firsts _ _).mp hx)
    by_cases e : h = List.replicate n 0
    · refine List.mem_map.mpr ⟨List.replicate n 1, (List.mem_erase_of_ne hne).mpr hin1, ?_⟩
      rw [e, flat_lot W, flat_lot W]
    · exact List.mem_map.mpr ⟨h, (List.mem_erase_of_ne e).mpr hh, rfl⟩
  rw [List.length_map, List.length_erase_of_mem hin, Mir.every_length] at hle
  have : 0 < (r + 1) ^ n := Nat.pow_pos (by omega)
  omega
section
variable {P : Program} {w : World} {K : PySem.W.Frag} {mg : Str → Option Value} {base : Heap}
set_option maxHeartbeats 8000000 in
theorem ok_law {f : Addr} {fd : FuncData} (F : Fun K "law" "law" (top 54) f fd) (T : Txt mg)
    (C43 : Cal P w K mg base 1 "_law_taken" ["_law_row", "_law_many_here"] (spTaken K)) (C50 : Cal P w K mg base 3 "_law_table" ["_law_row", "_law_most", "_law_size"] (spTable K))
    (C44 : Cal P w K mg base 1 "_law_every" ["_law_many_here", "_law_roof"] (SpR RAll)) (C45 : Cal P w K mg base 1 "_law_steep" ["_law_web", "_law_heights"] (SpR RSteep)) (C46 : Cal P w K mg base 2 "_law_key" ["_law_web", "_law_heights"] (SpR RLot))
    (C47 : Cal P w K mg base 3 "_law_alike" ["_law_found", "_law_due"] (SpR (RAlike 2))) (C52 : Cal P w K mg base 2 "_law_ratio" ["_law_numerator", "_law_denominator"] (SpR RReduced)) (C53 : Cal P w K mg base 1 "_law_comes" ["_law_web", "_law_one", "_law_other"] (SpR RComes))
    (C37 : Cal P w K mg base 4 "gentle_webs" ["many", "roof"] (SpR (RGW gentleN))) (C38 : Cal P w K mg base 4 "lot_webs" ["many", "roof"] (SpR (RGW lotsN)))
    (C39 : Cal P w K mg base 5 "most_steep" ["web", "roof"] (SpR (RMost 3000 mostD))) (C40 : Cal P w K mg base 5 "mean_come" ["web", "roof"] (SpR (RMost 300 meanD))) (C41 : Cal P w K mg base 5 "drawn_lot" ["web", "roof"] (SpR (RMost 3000 drawnD))) :
    FnOk P w K mg base CX0 6 f fd ["_law_script"] (spLaw K) := by
  refine F.ok sc54 (fun vs H Q E h => by obtain ⟨_, _, rfl, _⟩ := h; rfl) (fun cdv A outer s H vs Q E hr h => ?_)
  obtain ⟨a, ns, rfl, hS, q⟩ := h
  refine ⟨wB (cxOf CX0 P w K mg base N54 "law" (defScope (top 54)) f cdv A outer s H E).nox (defBody (top 54)), pb_self, ?_⟩
  show wB _ _ _ [some (.ref a), none, none, none, none, none, none, none, none, none, none, none, none, none, none, none, none] H
  -- row
  refine b_cons (of_ps (ps_set (i := 1) sc54.nd rfl (Or.inl rfl) (pe_lst (pa_cons (pv 0) (pa_cons pe_int (pa_cons pe_int (pa_cons pe_int pa_nil)))))) ?_)
  refine ⟨_, rfl, show 4 ≤ sizeLine from by decide, fun l nl => ?_⟩
  show wB _ _ _ [some (.ref a), some (.ref l), none, none, none, none, none, none, none, none, none, none, none, none, none, none, none] (upd H l (.lst (rowV a 0 9757 0)))
  have row : RowAt K H (upd H l (.lst (rowV a 0 9757 0))) l := ⟨nl, a, ns, 0, 9757, 0, upd_same, hS, by decide, by decide, by decide, by decide⟩
  have w0 : Wd H (upd H l (.lst (rowV a 0 9757 0))) [some (.ref a), some (.ref l), none, none, none, none, none, none, none, none, none, none, none, none, none, none, none] [none, none, none, none, none, none, none, none, none, none, none, none, none, none, none, none, none] := wd_none (same_own (Same.refl H) nl) _
  have lx0 : LeX l H H H (upd H l (.lst (rowV a 0 9757 0))) := LeX.put (Same.refl H) nl
  generalize upd H l (.lst (rowV a 0 9757 0)) = Ha at *
  -- many, roof, sets
  refine b_cons (of_ps (ps_par3 (i := 2) (j := 3) (l := 4) rfl sc54.nd rfl rfl rfl (by decide) (by decide) (by decide) rfl rfl rfl (pa_cons (pe_op op_add pe_int pe_self) (pa_cons (pe_op op_add pe_int pe_self) (pa_cons pe_self pa_nil rfl) rfl) rfl) rfl) ?_)
  refine w_taken (i := 1) (m := 3) C43 (hr.mono (by decide)) j_int w0 rfl row (by decide) (by decide) fun t1 A0 A1 t10 t13 lx1 row1 w1 => ⟨1, t1, rfl, rfl, ?_⟩
  refine w_taken (i := 1) (m := 3) C43 (hr.mono (by decide)) j_int w1 rfl row1 (by decide) (by decide) fun t2 B0 B1 t20 t23 lx2 row2 w2 => ⟨1, t2, rfl, rfl, ?_⟩
  refine (j_lst (a1 (j_tup ja_nil (Nat.zero_le _))) (by simp)).run w2 fun vs0 C0 C1 le3 w3 rs => ⟨_, _, _, rfl, ?_⟩
  obtain ⟨n, hn⟩ : ∃ n : Nat, 1 + t1 = (n : Int) := ⟨(1 + t1).toNat, by omega⟩
  obtain ⟨r, hr0⟩ : ∃ r : Nat, 1 + t2 = (r : Int) := ⟨(1 + t2).toNat, by omega⟩
  have n1 : 1 ≤ n := by omega
  have n3 : n ≤ 3 := by omega
  have r1 : 1 ≤ r := by omega
  have r3 : r ≤ 3 := by omega
  have hp64 := pow64 (r := r) n3 r3
  have w4 : Wd C0 C1 [some (.ref a), some (.ref l), some (.int (1 + t1)), some (.int (1 + t2)), some vs0, none, none, none, none, none, none, none, none, none, none, none, none] [none, none, some (.int n), some (.int r), some (.list ((setsUp n 0).map eEs)), none, none, none, none, none, none, none, none, none, none, none, none] :=
    ((w3.set 2 (hn ▸ Rep.int (1 + t1) : Rep _ (.int (1 + t1)) (.int n))).set 3 (hr0 ▸ Rep.int (1 + t2) : Rep _ (.int (1 + t2)) (.int r))).set 4 rs
  have row4 := row2.le le3
  have lx4 : LeX l H H C0 C1 := ((lx0.trans lx1 fun _ _ => row1.1).trans lx2 fun _ _ => row2.1).trans le3.x fun _ _ => row4.1
  show wB _ _ _ [some (.ref a), some (.ref l), some (.int (1 + t1)), some (.int (1 + t2)), some vs0, none, none, none, none, none, none, none, none, none, none, none, none] C1
  clear w0 w1 w2 w3 lx0 lx1 lx2 row row1 row2 le3
  -- the pairs
  refine b_cons (s_for (ρ := [none, none, some (.int n), some (.int r), some (.list ((setsUp n 0).map eEs)), none, none, none, none, none, none, none, none, none, none, none, none]) (xs := pairs3) (enc := eE) PassesOwn.never rfl (ji_list (ds := pairs3.map eE) (j_lst (a2 (j_tup (a2 j_int (a1 j_int)) (by simp)) (a2 (j_tup (a2 j_int (a1 j_int)) (by simp)) (a1 (j_tup (a2 j_int (a1 j_int)) (by simp))))) (by decide))) (g' 5 sc54.nd) (fun _ => rfl) w4 fun G0 G1 le5 w5 => ?_)
  refine ⟨fun k M0 M1 τ => Same G0 M0 ∧ LeX l H H M0 M1 ∧ RowAt K M0 M1 l ∧ Wd M0 M1 τ [none, none, some (.int n), some (.int r), some (.list ((setsUp n k).map eEs)), none, none, none, none, none, none, none, none, none, none, none, none] ∧ τ[1]? = some (some (.ref l)),
    ⟨Same.refl _, lx4.trans le5.x fun _ _ => (row4.le le5).1, row4.le le5, w5, rfl⟩, fun k M0 M1 τ iv => ⟨iv.1, iv.2.1.w⟩, ?_, ?_⟩
  · rintro k e M0 M1 τ hk ⟨s0, lx, rw_, wd, t⟩ v M0' M1' le6 rv
    refine jg_name (ρ := [none, none, some (.int n), some (.int r), some (.list ((setsUp n k).map eEs)), none, none, none, none, none, none, none, none, none, none, none, none]) (vs := [5]) (by simp) M0' M1' τ v _ (wd.le le6) rv fun τ2 wd2 hw => ?_
    have t' : τ2[1]? = some (some (.ref l)) := (keep_slot hw (by simp)).trans t
    refine b_cons (s_set (i := 4) (d := .list ((setsUp n (k + 1)).map eEs)) sc54.nd rfl (Or.inl rfl) (j_if (k := decide (e.2 < (n : Int))) (jt_lt (ix' 1 (v' 5)) (v' 2)) (fun hc => jc (j_catL (v' 4) (lc' (xs := setsUp n k) (enc := eEs) (f := fun es => some (eEs (es ++ [e]))) [("_law_edges", 6)] rfl sc54.nd (ji_list (v' 4)) (blkOk_by (N := N54) (sc := defScope (top 54)) (by decide +kernel)) (fun _ _ _ _ _ => g' 6 sc54.nd)
      (fun es hes => ⟨_, jg_name (by simp), fun _ _ _ _ _ => ⟨jts_nil, fun d hd => ?_⟩⟩) (Nat.le_trans (sets_len n k) (by decide))) ?_) ?_) (fun hc => jc (v' 4) ?_)) rfl (.inr rfl) wd2 fun vt Z0 Z1 le7 w7 rt => b_nil ⟨Z0, s0.trans (le6.s0.trans le7.s0), lx.trans (le6.trans le7).x fun _ _ => (rw_.le (le6.trans le7)).1, rw_.le (le6.trans le7), w7.sub (sk (sk (sk (sk (sk (sd (sk (sk (sk (sk (sk (sk (sk (sk (sk (sk (sk sub_nil))))))))))))))))), by rw [List.getElem?_set_ne (by decide)]; exact t'⟩)
    · cases hd
      refine jc (j_catT (v' 6) (j_tup (a1 (v' 5)) (by simp)) ?_) (by rw [eEs, List.map_append]; rfl)
      have := (webs_sub _ _ hes).length_le
      have h3 : ((pairs3.take k).filter fun e => decide (e.2 < (n : Int))).length ≤ 3 := Nat.le_trans (List.length_filter_le _ _) (by rw [List.length_take]; exact Nat.min_le_right _ _)
      rw [List.length_map]
      simp
      omega
    · rw [List.length_map, fm_some, List.length_map]
      have := sets_len n k
      omega
    · rw [sets_step hk, if_pos (of_decide_eq_true hc), fm_some, List.map_append, List.map_map]
      rfl
    · rw [sets_step hk, if_neg (of_decide_eq_false hc)]
  rintro M0 M1 τ ⟨s0, lx, rw_, wd, t⟩
  have hsets : setsUp n pairs3.length = websOf (pairsOf n) := sets_all n1 n3
  rw [hsets] at wd
  clear w4 lx4 row4 w5 hsets
  have wl := webs8 n1 n3
  -- soft, lots, every
  refine b_cons (of_ps (ps_asg (pe_tup (pa_cons (pe_lst pa_nil) (pa_cons (pe_lst pa_nil) (pa_cons pe_self pa_nil rfl) rfl) rfl)) (pg_tup rfl (pgs_cons (g' 7 sc54.nd) (pgs_cons (g' 8 sc54.nd) (pgs_cons (g' 9 sc54.nd) pgs_nil))) rfl rfl) rfl rfl rfl) ?_)
  refine ⟨Nat.zero_le _, fun m1 nm1 => ⟨Nat.zero_le _, fun m2 nm2 => ?_⟩⟩
  have nm10 : M0 m1 = none := wd.w.free nm1
  have e1l : m1 ≠ l := fun z => rw_.some (z ▸ nm1)
  have leA : Le M0 M1 M0 (upd M1 m1 (.lst [])) := (Le.refl wd.w).own nm1 nm10
  have nm20 : M0 m2 = none := leA.w.free nm2
  have e12 : m1 ≠ m2 := ne_of_none upd_same nm2
  have nm2' : M1 m2 = none := by rwa [upd_ne e12.symm] at nm2
  have e2l : m2 ≠ l := fun z => rw_.some (z ▸ nm2')
  have leB : Le M0 M1 M0 (upd (upd M1 m1 (.lst [])) m2 (.lst [])) := leA.own nm2' nm20
  have h1H : H m1 = none := lx.fresh rw_.some nm1
  have h2H : H m2 = none := lx.fresh rw_.some nm2'
  have own1 : Own H M0 (upd (upd M1 m1 (.lst [])) m2 (.lst [])) m1 [] := ⟨h1H, nm10, [], by rw [upd_ne e12]; exact upd_same, .nil⟩
  have own2 : Own H M0 (upd (upd M1 m1 (.lst [])) m2 (.lst [])) m2 [] := ⟨h2H, nm20, [], upd_same, .nil⟩
  refine (c' C44 (hr.mono (by decide)) (a2 (v' 2) (a1 (v' 3))) ⟨n, r, rfl, by omega, by omega, by omega, rfl⟩).run (wd.le leB) fun ve D0 D1 le6 w6 re => ⟨show 3 ≤ sizeLine from by decide, fun p np => ?_⟩
  have le7 := Le.new (o := .tup [V.ref m1, V.ref m2, ve]) le6.w np
  refine ⟨p, _, rfl, SqT.of upd_same, rfl, _, _, rfl, _, _, rfl, _, _, rfl, rfl, ?_⟩
  have slots : τ.length = 17 := wd.st.len.symm
  have wE7 : Wd _ _ (((τ.set 7 (some (.ref m1))).set 8 (some (.ref m2))).set 9 (some ve)) [none, none, some (.int n), some (.int r), some (.list ((websOf (pairsOf n)).map eEs)), none, none, none, none, some (.list ((Mir.every n r).map eH)), none, none, none, none, none, none, none] :=
    (show Wd _ _ _ _ from ⟨le7.w, (((w6.le le7).st.drop 7 (some (.ref m1))).drop 8 (some (.ref m2)))⟩).set 9 (re.mono le7.s0)
  have u1 : (((τ.set 7 (some (V.ref m1))).set 8 (some (V.ref m2))).set 9 (some ve))[1]? = some (some (.ref l)) := by
    rw [List.getElem?_set_ne (by decide), List.getElem?_set_ne (by decide), List.getElem?_set_ne (by decide)]; exact t
  have u7 : (((τ.set 7 (some (V.ref m1))).set 8 (some (V.ref m2))).set 9 (some ve))[7]? = some (some (.ref m1)) := by
    rw [List.getElem?_set_ne (by decide), List.getElem?_set_ne (by decide), List.getElem?_set_self (by rw [slots]; decide)]
  have u8 : (((τ.set 7 (some (V.ref m1))).set 8 (some (V.ref m2))).set 9 (some ve))[8]? = some (some (.ref m2)) := by
    rw [List.getElem?_set_ne (by decide), List.getElem?_set_self (by rw [List.length_set, slots]; decide)]
  have leC := (leB.trans le6).trans le7
  have lx7 : LeX l H H _ _ := lx.trans leC.x fun _ _ => (rw_.le leC).1
  have row7 := rw_.le leC
  have own1' := (own1.le le6).le le7
  have own2' := (own2.le le6).le le7
  generalize ((τ.set 7 (some (V.ref m1))).set 8 (some (V.ref m2))).set 9 (some ve) = τ7 at wE7 u1 u7 u8 ⊢
  clear wd t lx rw_ s0 leA leB leC own1 own2 w6
  generalize upd D1 p _ = F1 at *
  generalize upd D0 p _ = F0 at *
  -- the webs
  refine b_cons (s_for (ρ := [none, none, some (.int n), some (.int r), some (.list ((websOf (pairsOf n)).map eEs)), none, none, none, none, some (.list ((Mir.every n r).map eH)), none, none, none, none, none, none, none]) (xs := websOf (pairsOf n)) (enc := eEs) PassesOwn.never rfl (ji_list (v' 4)) (g' 6 sc54.nd) (fun _ => rfl) wE7 fun G0' G1' le8 w8 => ?_)
  refine ⟨fun k M0 M1 τ => Same G0' M0 ∧ LeX l H H M0 M1 ∧ RowAt K M0 M1 l ∧ Own H M0 M1 m1 ((((websOf (pairsOf n)).take k).map (gOne n r)).map .int) ∧ Own H M0 M1 m2 ((((websOf (pairsOf n)).take k).map (lOne n r)).map .int) ∧ Wd M0 M1 τ [none, none, some (.int n), some (.int r), some (.list ((websOf (pairsOf n)).map eEs)), none, none, none, none, some (.list ((Mir.every n r).map eH)), none, none, none, none, none, none, none] ∧ τ[1]? = some (some (.ref l)) ∧ τ[7]? = some (some (.ref m1)) ∧ τ[8]? = some (some (.ref m2)),
    ⟨Same.refl _, lx7.trans le8.x fun _ _ => (row7.le le8).1, row7.le le8, own1'.le le8, own2'.le le8, w8, u1, u7, u8⟩, fun k M0 M1 τ iv => ⟨iv.1, iv.2.1.w⟩, ?_, ?_⟩
  · rintro k es M0 M1 τ hk ⟨s0, lx, rw_, o1, o2, wd, t1', t7', t8'⟩ v M0' M1' le9 rv
    have W := web_ok n1 n3 (List.mem_of_getElem? hk)
    have asc := (pairs_asc n1 n3).sublist (webs_sub _ _ (List.mem_of_getElem? hk))
    have elen := W.few
    have klen : ((websOf (pairsOf n)).take k).length ≤ 100 := by rw [List.length_take]; omega
    refine jg_name (ρ := [none, none, some (.int n), some (.int r), some (.list ((websOf (pairsOf n)).map eEs)), none, none, none, none, some (.list ((Mir.every n r).map eH)), none, none, none, none, none, none, none]) (vs := [6]) (by simp) M0' M1' τ v _ (wd.le le9) rv fun τ2 wd2 hw => ?_
    have s1 : τ2[1]? = some (some (.ref l)) := (keep_slot hw (by simp)).trans t1'
    have s7 : τ2[7]? = some (some (.ref m1)) := (keep_slot hw (by simp)).trans t7'
    have s8 : τ2[8]? = some (some (.ref m2)) := (keep_slot hw (by simp)).trans t8'
    refine b_cons (s_set (i := 10) (d := eW n es) sc54.nd rfl (Or.inr rfl) (j_tup (a2 (v' 2) (a1 (bty' call_tuple_of T.tuple b_tuple (a1 (jc (blt' cr_sortD T.sorted (by decide +kernel) (a1 (v' 6)) (fun H0 H vs Q w r q => q_sort (alike_edges _) (sortable_edges _) ?_ ?_ H0 H vs Q w (.inr r) q)) ?_)) q_tuple))) (by simp)) rfl (.inl rfl) wd2 fun vw Z0 Z1 le10 w10 rw10 => ?_)
    · rw [List.length_map]; omega
    · intro d hd
      obtain ⟨e, _, rfl⟩ := List.mem_map.mp hd
      exact ru (m := 3) hr
    · rw [sort_edges, sortE_asc asc]
    have s1b : (τ2.set 10 (some vw))[1]? = some (some (.ref l)) := by rw [List.getElem?_set_ne (by decide)]; exact s1
    have s7b : (τ2.set 10 (some vw))[7]? = some (some (.ref m1)) := by rw [List.getElem?_set_ne (by decide)]; exact s7
    have s8b : (τ2.set 10 (some vw))[8]? = some (some (.ref m2)) := by rw [List.getElem?_set_ne (by decide)]; exact s8
    generalize τ2.set 10 (some vw) = τ3 at w10 s1b s7b s8b ⊢
    have le910 := le9.trans le10
    refine b_cons (app' 7 (d := .int (gOne n r es)) (ρ := [none, none, some (.int n), some (.int r), some (.list ((websOf (pairsOf n)).map eEs)), none, some (eEs es), none, none, some (.list ((Mir.every n r).map eH)), some (eW n es), none, none, none, none, none, none]) (jc (lenL' T.len (lc' (xs := Mir.every n r) (enc := eH) (f := fun h => if (Mir.steep es h).isEmpty = true then some (eH h) else none) [("_law_one", 11)] rfl sc54.nd (ji_list (v' 9))
      (blkOk_by (N := N54) (sc := defScope (top 54)) (by decide +kernel)) (fun _ _ _ _ _ => g' 11 sc54.nd) (fun h hh => ⟨_, jg_name (by simp), fun _ _ _ _ _ => ⟨jts_one (jtc (jt_eq (c' C45 (hr.mono (by decide)) (a2 (v' 10) (a1 (v' 11))) ⟨n, es, h, rfl, W.fit (Mir.mem_every hh), rfl⟩) (j_lst ja_nil (Nat.zero_le _)) (peq_nil (plain_edges _) (ru hr))) ?_), fun d hd => ?_⟩⟩) (by rw [Mir.every_length]; omega))) ?_) w10 s7b (o1.le le910) (by rw [List.length_map, List.length_map]; omega) fun X0 X1 ob le11 own11 w11 => ?_)
    · rw [eqv_nil, List.isEmpty_map]
      cases (Mir.steep es h).isEmpty <;> rfl
    · cases hb : (Mir.steep es h).isEmpty with
      | true =>
        rw [hb] at hd
        cases hd
        exact v' 11
      | false =>
        rw [hb] at hd
        cases hd
    · rw [fm_if, List.length_map]
      rfl
    have le911 := le910.trans le11
    have lx11 : LeX l H H X0 (upd X1 m1 ob) := (lx.trans le911.x fun _ _ => (rw_.le le911).1).own h1H own11.out
    have row11 : RowAt K X0 (upd X1 m1 ob) l := (rw_.le le911).other e1l.symm
    have o2b : Own H X0 (upd X1 m1 ob) m2 _ := (o2.le le911).other e12.symm
    refine b_cons (app' 8 (d := .int (lOne n r es)) (ρ := [none, none, some (.int n), some (.int r), some (.list ((websOf (pairsOf n)).map eEs)), none, some (eEs es), none, none, some (.list ((Mir.every n r).map eH)), some (eW n es), none, none, none, none, none, none]) (j_lenSet (ls := (Mir.every n r).map (Mir.lotOf es)) (D := firstsOf ((Mir.every n r).map (Mir.lotOf es))) rfl hr.units (jc (lc' (xs := Mir.every n r) (enc := eH) (f := fun h => some (eL (Mir.lotOf es h))) [("_law_one", 11)] rfl sc54.nd (ji_list (v' 9))
      (blkOk_by (N := N54) (sc := defScope (top 54)) (by decide +kernel)) (fun _ _ _ _ _ => g' 11 sc54.nd) (fun h hh => ⟨_, jg_name (by simp), fun _ _ _ _ _ => ⟨jts_nil, fun d hd => ?_⟩⟩) (by rw [Mir.every_length]; omega)) ?_) (nodup_firsts _) (mem_firsts _) ?_ T.len T.set) w11 s8b o2b (by rw [List.length_map, List.length_map]; omega) fun Y0 Y1 ob2 le12 own12 w12 => b_nil ?_)
    · cases hd
      exact c' C46 (hr.mono (by decide)) (a2 (v' 10) (a1 (v' 11))) ⟨n, es, h, rfl, W.fit (Mir.mem_every hh), rfl⟩
    · rw [fm_some, List.map_map]
      rfl
    · exact few_lots W n1 r1 hp64
    refine ⟨Y0, s0.trans (le911.s0.trans le12.s0), (lx11.trans le12.x fun _ _ => (row11.le le12).1).own h2H own12.out, (row11.le le12).other e2l.symm, ?_, ?_, w12.sub (sk (sk (sk (sk (sk (sk (sd (sk (sk (sk (sd (sk (sk (sk (sk (sk (sk sub_nil))))))))))))))))), s1b, s7b, s8b⟩
    · rw [map_take_snoc _ hk, List.map_append]
      exact (own11.le le12).other e12
    · rw [map_take_snoc _ hk, List.map_append]
      exact own12
  rintro M0 M1 τ ⟨s0, lx, rw_, o1, o2, wd, t1', t7', t8'⟩
  rw [List.take_length] at o1 o2
  obtain ⟨Z0, lxz, ssz, rowz, rz, wz, kz⟩ := o1.freezeY lx rw_ e1l
  have o2z : Own H Z0 M1 m2 _ := ⟨o2.new, kz _ e12.symm o2.out, let ⟨xs, e, r⟩ := o2.at_; ⟨xs, e, r.mono ssz⟩⟩
  obtain ⟨Y0, lxy, ssy, rowy, ry, wy, _⟩ := o2z.freezeY lxz rowz e2l
  have wdy : Wd Y0 M1 τ [none, none, some (.int n), some (.int r), some (.list ((websOf (pairsOf n)).map eEs)), none, none, some (.list ((gentleN n r).map .int)), some (.list ((lotsN n r).map .int)), some (.list ((Mir.every n r).map eH)), none, none, none, none, none, none, none] :=
    ((wd.more (ssz.trans ssy) wy).know t7' (rz.mono ssy)).know t8' ry
  have gl : (gentleN n r).length ≤ 8 := by unfold gentleN; rw [List.length_map]; exact wl
  have ll : (lotsN n r).length ≤ 8 := by unfold lotsN; rw [List.length_map]; exact wl
  clear wd rz ry wE7 own1' own2' o1 o2 o2z lx rw_ rowz lxz wz
  -- gentle_webs
  refine b_cons (s_if (l := false) (jtc (jt_not (tv' (c' C47 (hr.mono (by decide)) (a2 (c' C37 (hr.mono (by decide)) (a2 (v' 2) (a1 (v' 3))) ⟨n, r, rfl, n1, n3, r1, r3, rfl⟩) (a1 (jc (bty' call_tuple_of T.tuple b_tuple (a1 (lc' (xs := Mir.sd Mir.ltI (gentleN n r)) (enc := .int) (f := fun k => some (.tuple [.int k, .int ((gentleN n r).count k : Nat)])) [("_law_size", 12)] rfl sc54.nd (ji_list (j_sortSetI rfl (v' 7) (by omega) T.sorted T.set)) (blkOk_by (N := N54) (sc := defScope (top 54)) (by decide +kernel)) (fun _ _ _ _ _ => g' 12 sc54.nd)
        (fun k hk => ⟨_, jg_name (by simp), fun _ _ _ _ _ => ⟨jts_nil, fun d hd => ?_⟩⟩) ?_)) q_tuple) (?_ : _ = tally (gentleN n r))))) ⟨tally (gentleN n r), alike_tally _ (by omega), rfl, rfl⟩))) rfl) wdy (fun h => nomatch h) (fun _ D2 D3 le13 w13 => b_nil ?_))
  · cases hd
    exact j_tup (a2 (v' 12) (a1 (count' (v' 7) (v' 12)))) (by simp)
  · exact Nat.le_trans (Mir.sd_length _) (by omega)
  · rw [fm_some]
    rfl
  -- lot_webs
  refine b_cons (s_if (l := false) (jtc (jt_not (tv' (c' C47 (hr.mono (by decide)) (a2 (c' C38 (hr.mono (by decide)) (a2 (v' 2) (a1 (v' 3))) ⟨n, r, rfl, n1, n3, r1, r3, rfl⟩) (a1 (jc (bty' call_tuple_of T.tuple b_tuple (a1 (lc' (xs := Mir.sd Mir.ltI (lotsN n r)) (enc := .int) (f := fun k => some (.tuple [.int k, .int ((lotsN n r).count k : Nat)])) [("_law_size", 12)] rfl sc54.nd (ji_list (j_sortSetI rfl (v' 8) (by omega) T.sorted T.set)) (blkOk_by (N := N54) (sc := defScope (top 54)) (by decide +kernel)) (fun _ _ _ _ _ => g' 12 sc54.nd)
        (fun k hk => ⟨_, jg_name (by simp), fun _ _ _ _ _ => ⟨jts_nil, fun d hd => ?_⟩⟩) ?_)) q_tuple) (?_ : _ = tally (lotsN n r))))) ⟨tally (lotsN n r), alike_tally _ (by omega), rfl, rfl⟩))) rfl) w13 (fun h => nomatch h) (fun _ D4 D5 le14 w14 => b_nil ?_))
  · cases hd
    exact j_tup (a2 (v' 12) (a1 (count' (v' 8) (v' 12)))) (by simp)
  · exact Nat.le_trans (Mir.sd_length _) (by omega)
  · rw [fm_some]
    rfl
  -- the table
  have row14 := (rowy.le le13).le le14
  obtain ⟨ft, fdt, hmt, hkt, hbt, Ft⟩ := C50.ex
  refine b_cons (of_ps (ps_asg pe_self (g2' 10 3 rfl sc54.nd) rfl rfl rfl) ?_)
  refine of_pe (pe_call Ft (hr.mono (by decide)) (by rfl) hmt hkt hbt .nil pass0 (pa_cons (pv 1) (pa_cons pe_int (pa_cons pe_int pa_nil))) (by decide) rfl rfl) ?_
  refine ⟨_, t1', D4, l, rfl, w14.w, row14, fun v E0 E1 n' r' es lx15 row15 rv h5 W' ra rb hz' => ?_⟩
  obtain ⟨at_, xs, rfl, hat, rl⟩ := rep_tup rv
  cases rl with
  | cons q1 tl =>
    cases tl with
    | cons q2 tl =>
      cases tl
      refine ⟨at_, _, rfl, SqT.of (lx15.w _ _ hat), rfl, _, _, rfl, _, _, rfl, rfl, ?_⟩
      have w15 := ((w14.leX lx15).set 10 q1).set 3 q2
      exact law_tail T (hr.mono (by decide)) C44 C45 C46 C47 C52 C53 C39 C40 C41 h5 W' ra rb hz' (w15.sub (sd (sd (sd (sk (sd (sd (sd (sd (sd (sd (sk (sd (sd (sd (sd (sd (sd sub_nil)))))))))))))))))) q
end
end Lv

namespace Lv
open PySem PySem.Spec PyProof.Rows L2
/-! ### the top's defs, names and numbers -/
def dd (x : Str) (i : Nat) : He.DefD := ⟨(x, none), x, x, defArgs (top i), defBody (top i), defScope (top i), [], []⟩
def fn1 : List He.DefD := [dd "is_in" 7, dd "gcd" 8, dd "reduced" 9, dd "is_edge" 14, dd "need_web" 15, dd "need_roof" 16, dd "need_table" 17, dd "all_heights" 18, dd "power" 19, dd "need_listed" 20, dd "steep_in" 23, dd "comes_in" 26, dd "need_pairs" 27, dd "gentle_in" 29, dd "lot_of" 31, dd "all_lots" 32, dd "all_webs" 35, dd "need_small" 36]
def fn2 : List He.DefD := [dd "gentle_webs" 37, dd "lot_webs" 38, dd "most_steep" 39, dd "mean_come" 40, dd "drawn_lot" 41, dd "_law_taken" 43, dd "_law_every" 44, dd "_law_steep" 45, dd "_law_key" 46, dd "_law_alike" 47, dd "_law_pick" 48, dd "_law_many" 49, dd "_law_table" 50, dd "_law_gcd" 51, dd "_law_ratio" 52, dd "_law_comes" 53, dd "law" 54]
def fn : List He.DefD := fn1 ++ fn2
def fa1 : List He.Fa := [.glo "is_in", .glo "gcd", .glo "reduced", .glo "is_edge", .glo "need_web", .glo "need_roof", .glo "need_table", .glo "all_heights", .glo "power", .glo "need_listed", .glo "steep_in", .glo "comes_in", .glo "need_pairs", .glo "gentle_in", .glo "lot_of", .glo "all_lots", .glo "all_webs", .glo "need_small"]
def fa2 : List He.Fa := [.glo "gentle_webs", .glo "lot_webs", .glo "most_steep", .glo "mean_come", .glo "drawn_lot", .glo "_law_taken", .glo "_law_every", .glo "_law_steep", .glo "_law_key", .glo "_law_alike", .glo "_law_pick", .glo "_law_many", .glo "_law_table", .glo "_law_gcd", .glo "_law_ratio", .glo "_law_comes", .glo "law"]
def fa3 : List He.Fa := [.free "isinstance", .free "int", .free "bool", .free "str", .free "tuple", .free "list", .free "len", .free "abs", .free "range", .free "sorted", .free "set", .free "min", .free "sum", .free "enumerate", .int "MOST_PLACES" 9, .int "MOST_ROOF" 9, .int "MOST_LISTED" 3000, .int "HIGH" 2, .int "MOST_PAIRS" 300, .int "MOST_FEW" 3]
def fa : List He.Fa := fa1 ++ (fa2 ++ fa3)
def loose1 : List PySem.Str := ["__name__", "HeapError", "BadWeb", "BadRoof", "BadCount", "TooMany", "is_in", "gcd", "reduced", "is_edge", "need_web", "need_roof", "need_table", "all_heights", "power", "need_listed", "steep_in", "comes_in", "need_pairs", "gentle_in", "lot_of", "all_lots", "all_webs", "need_small"]
def loose2 : List PySem.Str := ["gentle_webs", "lot_webs", "most_steep", "mean_come", "drawn_lot", "_law_taken", "_law_every", "_law_steep", "_law_key", "_law_alike", "_law_pick", "_law_many", "_law_table", "_law_gcd", "_law_ratio", "_law_comes", "MOST_PLACES", "MOST_ROOF", "MOST_LISTED", "HIGH", "MOST_PAIRS", "MOST_FEW"]
def looseN : List PySem.Str := loose1 ++ loose2
theorem fun_of {K : PySem.W.Frag} {x : Str} {st : Stmt} {f : Addr} {fd : FuncData} (F : FunD K x x (defArgs st) (defBody st) (defScope st) [] [] f fd) : Fun K x x st f fd := by
  obtain ⟨oc, od, dV, kV, doc, pm, an, cdv, ct, osl, rfl, lk, hcd, hD, hK⟩ := F.ex
  rcases hD with ⟨_, rfl⟩ | ⟨e, _⟩
  · exact ⟨⟨oc, od, kV, doc, pm, an, cdv, ct, osl, rfl, lk, hcd⟩, F.kp⟩
  · exact absurd rfl e
theorem cal_of {P : Program} {w : World} {K : PySem.W.Frag} {mg : Str → Option Value} {base : Heap} {k : Nat} {x : Str} {st : Stmt} {ps : List Str} {sp : Sp} {f : Addr} {fd : FuncData} (F : Fun K x x st f fd) (hm : mg x = some (.ref f)) (hb : Binds K fd ps []) (ok : FnOk P w K mg base CX0 k f fd ps sp) : Cal P w K mg base k x ps sp :=
  ⟨f, fd, hm, F.kp, hb, ok⟩
theorem facts {P : Program} {w : World} {K : PySem.W.Frag} {h : Heap} {mg : Str → Option Value} {f : Addr} (X : K.In h) (G : h.Ns mainGlobals mg) (hfa : mg ("law" : Str) = some (.ref f)) (c : He.SaysD fa fn K) :
    ∃ fd : FuncData, (∀ (s : Shared) (v : Value), BindsTo s fd ⟨[v], []⟩ [("_law_script", v)]) ∧ ∀ base : Heap, K.In base → base.Ns mainGlobals mg → FnOk P w K mg base CX0 6 f fd ["_law_script"] (spLaw K) := by
  obtain ⟨fd7, G7⟩ := c.def_ 0 (d := dd "is_in" 7) rfl
  have F7 := fun_of (st := top 7) G7
  have B7 := F7.binds (ps := ["value", "least", "most"]) fun _ _ _ _ _ _ us hl => match us, hl with | [_, _, _], _ => rfl
  have g7 := He.glo_ok X G (c.fact 0 (f := .glo "is_in") rfl)
  obtain ⟨fd8, G8⟩ := c.def_ 1 (d := dd "gcd" 8) rfl
  have F8 := fun_of (st := top 8) G8
  have B8 := F8.binds (ps := ["one", "other"]) fun _ _ _ _ _ _ us hl => match us, hl with | [_, _], _ => rfl
  have g8 := He.glo_ok X G (c.fact 1 (f := .glo "gcd") rfl)
  obtain ⟨fd9, G9⟩ := c.def_ 2 (d := dd "reduced" 9) rfl
  have F9 := fun_of (st := top 9) G9
  have B9 := F9.binds (ps := ["numerator", "denominator"]) fun _ _ _ _ _ _ us hl => match us, hl with | [_, _], _ => rfl
  have g9 := He.glo_ok X G (c.fact 2 (f := .glo "reduced") rfl)
  obtain ⟨fd14, G14⟩ := c.def_ 3 (d := dd "is_edge" 14) rfl
  have F14 := fun_of (st := top 14) G14
  have B14 := F14.binds (ps := ["value", "many"]) fun _ _ _ _ _ _ us hl => match us, hl with | [_, _], _ => rfl
  have g14 := He.glo_ok X G (c.fact 3 (f := .glo "is_edge") rfl)
  obtain ⟨fd15, G15⟩ := c.def_ 4 (d := dd "need_web" 15) rfl
  have F15 := fun_of (st := top 15) G15
  have B15 := F15.binds (ps := ["web"]) fun _ _ _ _ _ _ us hl => match us, hl with | [_], _ => rfl
  have g15 := He.glo_ok X G (c.fact 4 (f := .glo "need_web") rfl)
  obtain ⟨fd16, G16⟩ := c.def_ 5 (d := dd "need_roof" 16) rfl
  have F16 := fun_of (st := top 16) G16
  have B16 := F16.binds (ps := ["roof"]) fun _ _ _ _ _ _ us hl => match us, hl with | [_], _ => rfl
  have g16 := He.glo_ok X G (c.fact 5 (f := .glo "need_roof") rfl)
  obtain ⟨fd17, G17⟩ := c.def_ 6 (d := dd "need_table" 17) rfl
  have F17 := fun_of (st := top 17) G17
  have B17 := F17.binds (ps := ["web", "roof"]) fun _ _ _ _ _ _ us hl => match us, hl with | [_, _], _ => rfl
  have g17 := He.glo_ok X G (c.fact 6 (f := .glo "need_table") rfl)
  obtain ⟨fd18, G18⟩ := c.def_ 7 (d := dd "all_heights" 18) rfl
  have F18 := fun_of (st := top 18) G18
  have B18 := F18.binds (ps := ["many", "roof"]) fun _ _ _ _ _ _ us hl => match us, hl with | [_, _], _ => rfl
  have g18 := He.glo_ok X G (c.fact 7 (f := .glo "all_heights") rfl)
  obtain ⟨fd19, G19⟩ := c.def_ 8 (d := dd "power" 19) rfl
  have F19 := fun_of (st := top 19) G19
  have B19 := F19.binds (ps := ["base", "times"]) fun _ _ _ _ _ _ us hl => match us, hl with | [_, _], _ => rfl
  have g19 := He.glo_ok X G (c.fact 8 (f := .glo "power") rfl)
  obtain ⟨fd20, G20⟩ := c.def_ 9 (d := dd "need_listed" 20) rfl
  have F20 := fun_of (st := top 20) G20
  have B20 := F20.binds (ps := ["web", "roof"]) fun _ _ _ _ _ _ us hl => match us, hl with | [_, _], _ => rfl
  have g20 := He.glo_ok X G (c.fact 9 (f := .glo "need_listed") rfl)
  obtain ⟨fd23, G23⟩ := c.def_ 10 (d := dd "steep_in" 23) rfl
  have F23 := fun_of (st := top 23) G23
  have B23 := F23.binds (ps := ["web", "heights"]) fun _ _ _ _ _ _ us hl => match us, hl with | [_, _], _ => rfl
  have g23 := He.glo_ok X G (c.fact 10 (f := .glo "steep_in") rfl)
  obtain ⟨fd26, G26⟩ := c.def_ 11 (d := dd "comes_in" 26) rfl
  have F26 := fun_of (st := top 26) G26
  have B26 := F26.binds (ps := ["web", "one", "other"]) fun _ _ _ _ _ _ us hl => match us, hl with | [_, _, _], _ => rfl
  have g26 := He.glo_ok X G (c.fact 11 (f := .glo "comes_in") rfl)
  obtain ⟨fd27, G27⟩ := c.def_ 12 (d := dd "need_pairs" 27) rfl
  have F27 := fun_of (st := top 27) G27
  have B27 := F27.binds (ps := ["web", "roof"]) fun _ _ _ _ _ _ us hl => match us, hl with | [_, _], _ => rfl
  have g27 := He.glo_ok X G (c.fact 12 (f := .glo "need_pairs") rfl)
  obtain ⟨fd29, G29⟩ := c.def_ 13 (d := dd "gentle_in" 29) rfl
  have F29 := fun_of (st := top 29) G29
  have B29 := F29.binds (ps := ["web", "roof"]) fun _ _ _ _ _ _ us hl => match us, hl with | [_, _], _ => rfl
  have g29 := He.glo_ok X G (c.fact 13 (f := .glo "gentle_in") rfl)
  obtain ⟨fd31, G31⟩ := c.def_ 14 (d := dd "lot_of" 31) rfl
  have F31 := fun_of (st := top 31) G31
  have B31 := F31.binds (ps := ["web", "heights"]) fun _ _ _ _ _ _ us hl => match us, hl with | [_, _], _ => rfl
  have g31 := He.glo_ok X G (c.fact 14 (f := .glo "lot_of") rfl)
  obtain ⟨fd32, G32⟩ := c.def_ 15 (d := dd "all_lots" 32) rfl
  have F32 := fun_of (st := top 32) G32
  have B32 := F32.binds (ps := ["web", "roof"]) fun _ _ _ _ _ _ us hl => match us, hl with | [_, _], _ => rfl
  have g32 := He.glo_ok X G (c.fact 15 (f := .glo "all_lots") rfl)
  obtain ⟨fd35, G35⟩ := c.def_ 16 (d := dd "all_webs" 35) rfl
  have F35 := fun_of (st := top 35) G35
  have B35 := F35.binds (ps := ["many"]) fun _ _ _ _ _ _ us hl => match us, hl with | [_], _ => rfl
  have g35 := He.glo_ok X G (c.fact 16 (f := .glo "all_webs") rfl)
  obtain ⟨fd36, G36⟩ := c.def_ 17 (d := dd "need_small" 36) rfl
  have F36 := fun_of (st := top 36) G36
  have B36 := F36.binds (ps := ["many", "roof"]) fun _ _ _ _ _ _ us hl => match us, hl with | [_, _], _ => rfl
  have g36 := He.glo_ok X G (c.fact 17 (f := .glo "need_small") rfl)
  obtain ⟨fd37, G37⟩ := c.def_ 18 (d := dd "gentle_webs" 37) rfl
  have F37 := fun_of (st := top 37) G37
  have B37 := F37.binds (ps := ["many", "roof"]) fun _ _ _ _ _ _ us hl => match us, hl with | [_, _], _ => rfl
  have g37 := He.glo_ok X G (c.fact 18 (f := .glo "gentle_webs") rfl)
  obtain ⟨fd38, G38⟩ := c.def_ 19 (d := dd "lot_webs" 38) rfl
  have F38 := fun_of (st := top 38) G38
  have B38 := F38.binds (ps := ["many", "roof"]) fun _ _ _ _ _ _ us hl => match us, hl with | [_, _], _ => rfl
  have g38 := He.glo_ok X G (c.fact 19 (f := .glo "lot_webs") rfl)
  obtain ⟨fd39, G39⟩ := c.def_ 20 (d := dd "most_steep" 39) rfl
  have F39 := fun_of (st := top 39) G39
  have B39 := F39.binds (ps := ["web", "roof"]) fun _ _ _ _ _ _ us hl => match us, hl with | [_, _], _ => rfl
  have g39 := He.glo_ok X G (c.fact 20 (f := .glo "most_steep") rfl)
  obtain ⟨fd40, G40⟩ := c.def_ 21 (d := dd "mean_come" 40) rfl
  have F40 := fun_of (st := top 40) G40
  have B40 := F40.binds (ps := ["web", "roof"]) fun _ _ _ _ _ _ us hl => match us, hl with | [_, _], _ => rfl
  have g40 := He.glo_ok X G (c.fact 21 (f := .glo "mean_come") rfl)
  obtain ⟨fd41, G41⟩ := c.def_ 22 (d := dd "drawn_lot" 41) rfl
  have F41 := fun_of (st := top 41) G41
  have B41 := F41.binds (ps := ["web", "roof"]) fun _ _ _ _ _ _ us hl => match us, hl with | [_, _], _ => rfl
  have g41 := He.glo_ok X G (c.fact 22 (f := .glo "drawn_lot") rfl)
  obtain ⟨fd43, G43⟩ := c.def_ 23 (d := dd "_law_taken" 43) rfl
  have F43 := fun_of (st := top 43) G43
  have B43 := F43.binds (ps := ["_law_row", "_law_many_here"]) fun _ _ _ _ _ _ us hl => match us, hl with | [_, _], _ => rfl
  have g43 := He.glo_ok X G (c.fact 23 (f := .glo "_law_taken") rfl)
  obtain ⟨fd44, G44⟩ := c.def_ 24 (d := dd "_law_every" 44) rfl
  have F44 := fun_of (st := top 44) G44
  have B44 := F44.binds (ps := ["_law_many_here", "_law_roof"]) fun _ _ _ _ _ _ us hl => match us, hl with | [_, _], _ => rfl
  have g44 := He.glo_ok X G (c.fact 24 (f := .glo "_law_every") rfl)
  obtain ⟨fd45, G45⟩ := c.def_ 25 (d := dd "_law_steep" 45) rfl
  have F45 := fun_of (st := top 45) G45
  have B45 := F45.binds (ps := ["_law_web", "_law_heights"]) fun _ _ _ _ _ _ us hl => match us, hl with | [_, _], _ => rfl
  have g45 := He.glo_ok X G (c.fact 25 (f := .glo "_law_steep") rfl)
  obtain ⟨fd46, G46⟩ := c.def_ 26 (d := dd "_law_key" 46) rfl
  have F46 := fun_of (st := top 46) G46
  have B46 := F46.binds (ps := ["_law_web", "_law_heights"]) fun _ _ _ _ _ _ us hl => match us, hl with | [_, _], _ => rfl
  have g46 := He.glo_ok X G (c.fact 26 (f := .glo "_law_key") rfl)
  obtain ⟨fd47, G47⟩ := c.def_ 27 (d := dd "_law_alike" 47) rfl
  have F47 := fun_of (st := top 47) G47
  have B47 := F47.binds (ps := ["_law_found", "_law_due"]) fun _ _ _ _ _ _ us hl => match us, hl with | [_, _], _ => rfl
  have g47 := He.glo_ok X G (c.fact 27 (f := .glo "_law_alike") rfl)
  obtain ⟨fd48, G48⟩ := c.def_ 28 (d := dd "_law_pick" 48) rfl
  have F48 := fun_of (st := top 48) G48
  have B48 := F48.binds (ps := ["_law_row", "_law_things"]) fun _ _ _ _ _ _ us hl => match us, hl with | [_, _], _ => rfl
  have g48 := He.glo_ok X G (c.fact 28 (f := .glo "_law_pick") rfl)
  obtain ⟨fd49, G49⟩ := c.def_ 29 (d := dd "_law_many" 49) rfl
  have F49 := fun_of (st := top 49) G49
  have B49 := F49.binds (ps := ["_law_roof", "_law_many_here"]) fun _ _ _ _ _ _ us hl => match us, hl with | [_, _], _ => rfl
  have g49 := He.glo_ok X G (c.fact 29 (f := .glo "_law_many") rfl)
  obtain ⟨fd50, G50⟩ := c.def_ 30 (d := dd "_law_table" 50) rfl
  have F50 := fun_of (st := top 50) G50
  have B50 := F50.binds (ps := ["_law_row", "_law_most", "_law_size"]) fun _ _ _ _ _ _ us hl => match us, hl with | [_, _, _], _ => rfl
  have g50 := He.glo_ok X G (c.fact 30 (f := .glo "_law_table") rfl)
  obtain ⟨fd51, G51⟩ := c.def_ 31 (d := dd "_law_gcd" 51) rfl
  have F51 := fun_of (st := top 51) G51
  have B51 := F51.binds (ps := ["_law_one", "_law_other"]) fun _ _ _ _ _ _ us hl => match us, hl with | [_, _], _ => rfl
  have g51 := He.glo_ok X G (c.fact 31 (f := .glo "_law_gcd") rfl)
  obtain ⟨fd52, G52⟩ := c.def_ 32 (d := dd "_law_ratio" 52) rfl
  have F52 := fun_of (st := top 52) G52
  have B52 := F52.binds (ps := ["_law_numerator", "_law_denominator"]) fun _ _ _ _ _ _ us hl => match us, hl with | [_, _], _ => rfl
  have g52 := He.glo_ok X G (c.fact 32 (f := .glo "_law_ratio") rfl)
  obtain ⟨fd53, G53⟩ := c.def_ 33 (d := dd "_law_comes" 53) rfl
  have F53 := fun_of (st := top 53) G53
  have B53 := F53.binds (ps := ["_law_web", "_law_one", "_law_other"]) fun _ _ _ _ _ _ us hl => match us, hl with | [_, _, _], _ => rfl
  have g53 := He.glo_ok X G (c.fact 33 (f := .glo "_law_comes") rfl)
  obtain ⟨fd54, G54⟩ := c.def_ 34 (d := dd "law" 54) rfl
  have g54 := He.glo_ok X G (c.fact 34 (f := .glo "law") rfl)
  have F54 := fun_of (st := top 54) G54
  have e := hfa.symm.trans g54
  cases e
  have b54 := FunD.bindsA (ps := ["_law_script"]) G54 fun _ _ _ _ _ _ us hl => match us, hl with | [_], _ => rfl
  have T : Txt mg := {
    isinstance := He.free_ok X G (c.fact 35 (f := .free "isinstance") rfl)
    int := He.free_ok X G (c.fact 36 (f := .free "int") rfl)
    bool := He.free_ok X G (c.fact 37 (f := .free "bool") rfl)
    str := He.free_ok X G (c.fact 38 (f := .free "str") rfl)
    tuple := He.free_ok X G (c.fact 39 (f := .free "tuple") rfl)
    list := He.free_ok X G (c.fact 40 (f := .free "list") rfl)
    len := He.free_ok X G (c.fact 41 (f := .free "len") rfl)
    abs := He.free_ok X G (c.fact 42 (f := .free "abs") rfl)
    range := He.free_ok X G (c.fact 43 (f := .free "range") rfl)
    sorted := He.free_ok X G (c.fact 44 (f := .free "sorted") rfl)
    set := He.free_ok X G (c.fact 45 (f := .free "set") rfl)
    min := He.free_ok X G (c.fact 46 (f := .free "min") rfl)
    sum := He.free_ok X G (c.fact 47 (f := .free "sum") rfl)
    enumerate := He.free_ok X G (c.fact 48 (f := .free "enumerate") rfl)
    places := He.int_ok X G (c.fact 49 (f := .int "MOST_PLACES" 9) rfl)
    roof := He.int_ok X G (c.fact 50 (f := .int "MOST_ROOF" 9) rfl)
    listed := He.int_ok X G (c.fact 51 (f := .int "MOST_LISTED" 3000) rfl)
    high := He.int_ok X G (c.fact 52 (f := .int "HIGH" 2) rfl)
    pairs := He.int_ok X G (c.fact 53 (f := .int "MOST_PAIRS" 300) rfl)
    few := He.int_ok X G (c.fact 54 (f := .int "MOST_FEW" 3) rfl)
  }
  refine ⟨fd54, fun s v => b54 s [v] rfl, fun base _ _ => ?_⟩
  have C7 : Cal P w K mg base 1 "is_in" ["value", "least", "most"] (SpR RIsIn) := cal_of F7 g7 B7 (ok_is_in F7 T)
  have C8 : Cal P w K mg base 1 "gcd" ["one", "other"] (SpR RGcd) := cal_of F8 g8 B8 (ok_gcd F8 T)
  have C9 : Cal P w K mg base 2 "reduced" ["numerator", "denominator"] (SpR RReduced) := cal_of F9 g9 B9 (ok_reduced F9 T C8)
  have C14 : Cal P w K mg base 2 "is_edge" ["value", "many"] (SpR REdge) := cal_of F14 g14 B14 (ok_is_edge F14 T C7)
  have C15 : Cal P w K mg base 3 "need_web" ["web"] (SpR RWeb) := cal_of F15 g15 B15 (ok_need_web F15 T C7 C14)
  have C16 : Cal P w K mg base 2 "need_roof" ["roof"] (SpR RRoof) := cal_of F16 g16 B16 (ok_need_roof F16 T C7)
  have C17 : Cal P w K mg base 4 "need_table" ["web", "roof"] (SpR RTable) := cal_of F17 g17 B17 (ok_need_table F17 T C15 C16)
  have C18 : Cal P w K mg base 1 "all_heights" ["many", "roof"] (SpR RAll) := cal_of F18 g18 B18 (ok_all_heights F18 T)
  have C19 : Cal P w K mg base 1 "power" ["base", "times"] (SpR RPower) := cal_of F19 g19 B19 (ok_power F19 T)
  have C20 : Cal P w K mg base 2 "need_listed" ["web", "roof"] (SpR (RListed 3000)) := cal_of F20 g20 B20 (ok_need_listed F20 T C19)
  have C23 : Cal P w K mg base 1 "steep_in" ["web", "heights"] (SpR RSteep) := cal_of F23 g23 B23 (ok_steep_in F23 T)
  have C26 : Cal P w K mg base 2 "comes_in" ["web", "one", "other"] (SpR RComes) := cal_of F26 g26 B26 (ok_comes_in F26 T C23)
  have C27 : Cal P w K mg base 2 "need_pairs" ["web", "roof"] (SpR (RListed 300)) := cal_of F27 g27 B27 (ok_need_pairs F27 T C19)
  have C29 : Cal P w K mg base 2 "gentle_in" ["web", "roof"] (SpR RGentle) := cal_of F29 g29 B29 (ok_gentle_in F29 T C18 C23)
  have C31 : Cal P w K mg base 2 "lot_of" ["web", "heights"] (SpR RLot) := cal_of F31 g31 B31 (ok_lot_of F31 T C23)
  have C32 : Cal P w K mg base 3 "all_lots" ["web", "roof"] (SpR RLots) := cal_of F32 g32 B32 (ok_all_lots F32 T C18 C31)
  have C35 : Cal P w K mg base 1 "all_webs" ["many"] (SpR RWebs) := cal_of F35 g35 B35 (ok_all_webs F35 T)
  have C36 : Cal P w K mg base 3 "need_small" ["many", "roof"] (SpR RSmall) := cal_of F36 g36 B36 (ok_need_small F36 T C7 C16)
  have C37 : Cal P w K mg base 4 "gentle_webs" ["many", "roof"] (SpR (RGW gentleN)) := cal_of F37 g37 B37 (ok_gentle_webs F37 T C36 C35 C29)
  have C38 : Cal P w K mg base 4 "lot_webs" ["many", "roof"] (SpR (RGW lotsN)) := cal_of F38 g38 B38 (ok_lot_webs F38 T C36 C35 C32)
  have C39 : Cal P w K mg base 5 "most_steep" ["web", "roof"] (SpR (RMost 3000 mostD)) := cal_of F39 g39 B39 (ok_most_steep F39 T C17 C20 C18 C23)
  have C40 : Cal P w K mg base 5 "mean_come" ["web", "roof"] (SpR (RMost 300 meanD)) := cal_of F40 g40 B40 (ok_mean_come F40 T C17 C27 C18 C26 C9 C19)
  have C41 : Cal P w K mg base 5 "drawn_lot" ["web", "roof"] (SpR (RMost 3000 drawnD)) := cal_of F41 g41 B41 (ok_drawn_lot F41 T C17 C20 C32 C9 C19)
  have C43 : Cal P w K mg base 1 "_law_taken" ["_law_row", "_law_many_here"] (spTaken K) := cal_of F43 g43 B43 (ok_taken F43 T)
  have C44 : Cal P w K mg base 1 "_law_every" ["_law_many_here", "_law_roof"] (SpR RAll) := cal_of F44 g44 B44 (ok_l_every F44 T)
  have C45 : Cal P w K mg base 1 "_law_steep" ["_law_web", "_law_heights"] (SpR RSteep) := cal_of F45 g45 B45 (ok_l_steep F45 T)
  have C46 : Cal P w K mg base 2 "_law_key" ["_law_web", "_law_heights"] (SpR RLot) := cal_of F46 g46 B46 (ok_l_key F46 T C45)
  have C47a : Cal P w K mg base 1 "_law_alike" ["_law_found", "_law_due"] (SpR (RAlike 0)) := cal_of F47 g47 B47 (ok_l_alike0 F47 T)
  have C47b : Cal P w K mg base 2 "_law_alike" ["_law_found", "_law_due"] (SpR (RAlike 1)) := cal_of F47 g47 B47 (ok_l_alike 0 F47 T C47a)
  have C47 : Cal P w K mg base 3 "_law_alike" ["_law_found", "_law_due"] (SpR (RAlike 2)) := cal_of F47 g47 B47 (ok_l_alike 1 F47 T C47b)
  have C48 : Cal P w K mg base 2 "_law_pick" ["_law_row", "_law_things"] (spPick K) := cal_of F48 g48 B48 (ok_pick F48 T C43)
  have C49 : Cal P w K mg base 1 "_law_many" ["_law_roof", "_law_many_here"] (SpR RLMany) := cal_of F49 g49 B49 (ok_l_many F49 T)
  have C50 : Cal P w K mg base 3 "_law_table" ["_law_row", "_law_most", "_law_size"] (spTable K) := cal_of F50 g50 B50 (ok_table F50 T C43 C48 C49)
  have C51 : Cal P w K mg base 1 "_law_gcd" ["_law_one", "_law_other"] (SpR RGcd) := cal_of F51 g51 B51 (ok_l_gcd F51 T)
  have C52 : Cal P w K mg base 2 "_law_ratio" ["_law_numerator", "_law_denominator"] (SpR RReduced) := cal_of F52 g52 B52 (ok_l_ratio F52 T C51)
  have C53 : Cal P w K mg base 1 "_law_comes" ["_law_web", "_law_one", "_law_other"] (SpR RComes) := cal_of F53 g53 B53 (ok_l_comes F53 T)
  exact ok_law F54 T C43 C50 C44 C45 C46 C47 C52 C53 C37 C38 C39 C40 C41
end Lv

namespace Lv
open PySem PySem.Spec PyProof.Rows L2
abbrev R : PySem.W.OpenRow := PySem.W.OpenLaw.row PySem.Challenge.rw_levellers_k57_whole_webs_of_few_places
abbrev hk : PySem.W.Hook := He.hookD 3 fa fn
def ob (s : PySem.W.SharedT) : He.AlD := He.obsDG 3 fa fn (HandSHeadRun.getT s)
theorem ob_eq (s : PySem.W.SharedT) : ob s = hk.obs s.abs := He.obsDG_eq (HandSHeadRun.getT_eq s)
theorem run (w : World) : HandSHeadRun.RunEq R (PySem.W.view R.prog [54]) hk ob 6000 looseN w := by
  intro os
  kernel_rfl
end Lv

open PySem PySem.W PySem.Calls PyProof.Rows
theorem PySem.Challenge.cw_levellers_k57_whole_webs_of_few_places_holds : PySem.Challenge.rw_levellers_k57_whole_webs_of_few_places.Holds := by
  w_on; o_law
  refine HandSHeadRun.head_any (r := OpenLaw.row PySem.Challenge.rw_levellers_k57_whole_webs_of_few_places) (q := view (OpenLaw.row PySem.Challenge.rw_levellers_k57_whole_webs_of_few_places).prog [54]) (H := Lv.hk) (ob := Lv.ob) (M := 6000) (loose := Lv.looseN) (d := HandSHeadRun.topDef (OpenLaw.row PySem.Challenge.rw_levellers_k57_whole_webs_of_few_places).prog 54) (kwd := []) Lv.ob_eq
    (by kernel_rfl) (fun s => by kernel_rfl) Lv.run (by kernel_rfl) (by kernel_rfl) (by kernel_rfl) (by rfl) (by first | assumption | decide +kernel) (by decide +kernel) ⟨rfl, rfl, rfl, rfl, rfl, by decide +kernel⟩ ?hw ?hc
  case hw => w_witness2
  case hc =>
    refine L2.walk_ofE (l := PySem.Challenge.rw_levellers_k57_whole_webs_of_few_places) (n := 63) (k := 6) (x := "_law_script") (CX := L2.CX0) rfl (by decide) (by kernel_rfl) ⟨rfl, by decide, by decide⟩ ?F (fun _ _ _ _ z => z)
    intro w mg fa h Y G hmg0
    obtain ⟨K, KX, c⟩ := Y
    have hmg : mg ("law" : PySem.Str) = some (.ref fa) := by
      have e : (HandSHeadRun.topDef (OpenLaw.row PySem.Challenge.rw_levellers_k57_whole_webs_of_few_places).prog 54).name = ("law" : PySem.Str) := by kernel_rfl
      rw [← e]
      exact hmg0
    obtain ⟨fd, hb, hF⟩ := Lv.facts (P := (PySem.Challenge.rw_levellers_k57_whole_webs_of_few_places).prog) (w := w) KX G hmg c
    exact ⟨K, fd, Lv.spLaw K, KX, hb, fun H a ns hl _ hS => ⟨a, ns, rfl, hS, fun _ => rfl⟩, hF⟩
