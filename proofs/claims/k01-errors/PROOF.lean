import PyProof.Rows.All
import Wide.All
import OpenK.AllK
import Wide.FinOn
import KE.KStateDown
import Lean
import HandS.ForMost
import HandS.More
import HandS.Exc
import HandS.WordsExc
import HandS.Defaults
import HandS.Flow
import HandS.Style
import HandS.Wide
import HandS.IsInst
import HandS.Head0
import HandS.Head1
import HandS.Head2
import HandS.HeadEnd
import HandS.HeadHook1
import HandS.HeadHook2
import PyProof.NeKinds
import PyProof.InstNe
import OpenK.KMeth
import HandS.Property
import HandS.ClsMeth
import HandS.OwnEq
import KE.KSortKeyAny
import KE.KLam
import HandS.Lambda
import HandS.SortKw
import PyProof.Rows.SortShellAny
import KE.DataMinMax
import HandS.HeadHook4
import HandS.HeadWalk
import HandS.EndTab
import HandS.TupAny
import HandS.ExcInit
import HandS.ExcField
import HandS.ExcIs
import KE.KExcIs
import HandS.ExcOwn
import HandS.TryOnly
import HandS.TupMul
import HandS.Star
import HandS.ReplaceLit
import HandS.Walk
import HandS.ReplaceDef
import HandS.ReplaceList
import HandS.GenList
import HandS.Conv
import HandS.FStr
import HandS.Zip
import HandS.Deep
import HandS.MakeKwOnly
import PySem.Challenge.RW_jetworks_k01_errors_and_their_attributes
set_option Elab.async false
set_option linter.all false
set_option maxRecDepth 100000
set_option exponentiation.threshold 100000
set_option maxHeartbeats 4000000
set_option pp.maxSteps 700
namespace JW
inductive T where
  | jet
  | bas (l : List T)
mutual
def T.codes : T → List Nat
  | .jet => [111]
  | .bas l => 40 :: (codesL l ++ [41])
def codesL : List T → List Nat
  | [] => []
  | t :: r => t.codes ++ codesL r
end
mutual
theorem T.ind' {P : T → Prop} (hj : P .jet) (hb : ∀ l, (∀ t ∈ l, P t) → P (.bas l)) : ∀ t, P t
  | .jet => hj
  | .bas l => hb l (indL' hj hb l)
theorem indL' {P : T → Prop} (hj : P .jet) (hb : ∀ l, (∀ t ∈ l, P t) → P (.bas l)) : ∀ l : List T, ∀ t ∈ l, P t
  | [], _, h => nomatch h
  | u :: r, t, h => by
    rcases List.mem_cons.mp h with e | e
    · exact e ▸ T.ind' hj hb u
    · exact indL' hj hb r t e
end
theorem codes_head : ∀ t : T, (∃ r, t.codes = 111 :: r) ∨ ∃ r, t.codes = 40 :: r
  | .jet => .inl ⟨[], rfl⟩
  | .bas l => .inr ⟨_, rfl⟩
mutual
theorem codes_pre : ∀ (t u : T) (r s : List Nat), t.codes ++ r = u.codes ++ s → t = u ∧ r = s
  | .jet, .jet, r, s, h => ⟨rfl, List.cons.inj h |>.2⟩
  | .jet, .bas l, r, s, h => by
    have h1 : (111 : Nat) = 40 := (List.cons.inj h).1
    cases h1
  | .bas l, .jet, r, s, h => by
    have h1 : (40 : Nat) = 111 := (List.cons.inj h).1
    cases h1
  | .bas l, .bas m, r, s, h => by
    have h1 : codesL l ++ [41] ++ r = codesL m ++ [41] ++ s := (List.cons.inj h).2
    rw [List.append_assoc, List.append_assoc] at h1
    obtain ⟨e1, e2⟩ := codesL_pre l m r s h1
    exact ⟨by rw [e1], e2⟩
theorem codesL_pre : ∀ (l m : List T) (r s : List Nat), codesL l ++ ([41] ++ r) = codesL m ++ ([41] ++ s) → l = m ∧ r = s
  | [], [], r, s, h => ⟨rfl, (List.cons.inj h).2⟩
  | [], u :: m, r, s, h => by
    have h1 : 41 :: r = u.codes ++ (codesL m ++ ([41] ++ s)) := by
      have h2 : codesL (u :: m) ++ ([41] ++ s) = u.codes ++ (codesL m ++ ([41] ++ s)) := List.append_assoc _ _ _
      rw [← h2]
      exact h
    rcases codes_head u with ⟨q, e⟩ | ⟨q, e⟩
    · rw [e] at h1
      cases (List.cons.inj h1).1
    · rw [e] at h1
      cases (List.cons.inj h1).1
  | t :: l, [], r, s, h => by
    have h1 : t.codes ++ (codesL l ++ ([41] ++ r)) = 41 :: s := by
      have h2 : codesL (t :: l) ++ ([41] ++ r) = t.codes ++ (codesL l ++ ([41] ++ r)) := List.append_assoc _ _ _
      rw [← h2]
      exact h
    rcases codes_head t with ⟨q, e⟩ | ⟨q, e⟩
    · rw [e] at h1
      cases (List.cons.inj h1).1
    · rw [e] at h1
      cases (List.cons.inj h1).1
  | t :: l, u :: m, r, s, h => by
    have h1 : t.codes ++ (codesL l ++ ([41] ++ r)) = u.codes ++ (codesL m ++ ([41] ++ s)) := by
      have h2 : codesL (t :: l) ++ ([41] ++ r) = t.codes ++ (codesL l ++ ([41] ++ r)) := List.append_assoc _ _ _
      have h3 : codesL (u :: m) ++ ([41] ++ s) = u.codes ++ (codesL m ++ ([41] ++ s)) := List.append_assoc _ _ _
      rw [← h2, ← h3]
      exact h
    obtain ⟨e1, e2⟩ := codes_pre t u _ _ h1
    obtain ⟨e3, e4⟩ := codesL_pre l m r s e2
    exact ⟨by rw [e1, e3], e4⟩
end
theorem codes_inj {t u : T} (h : t.codes = u.codes) : t = u := (codes_pre t u [] [] (by rw [h])).1
instance : DecidableEq T := fun a b => if h : a.codes = b.codes then isTrue (codes_inj h) else isFalse fun e => h (e ▸ rfl)
def tle (a b : T) : Bool := !decide (b.codes < a.codes)
theorem tle_trans (a b c : T) (h1 : tle a b = true) (h2 : tle b c = true) : tle a c = true := by
  unfold tle at *
  simp only [Bool.not_eq_true', decide_eq_false_iff_not] at *
  exact fun h => h1 (List.lt_of_le_of_lt (List.not_lt.mp h2) h)
theorem tle_total (a b : T) : (tle a b || tle b a) = true := by
  unfold tle
  by_cases h : b.codes < a.codes
  · have h2 : ¬ a.codes < b.codes := List.lt_asymm h
    simp [h2]
  · simp [h]
theorem tle_anti {a b : T} (h1 : tle a b = true) (h2 : tle b a = true) : a = b := by
  unfold tle at *
  simp only [Bool.not_eq_true', decide_eq_false_iff_not] at *
  exact codes_inj (List.le_antisymm (List.not_lt.mp h1) (List.not_lt.mp h2))
abbrev Srt (l : List T) : Prop := l.Pairwise fun a b => tle a b = true
def sortT (l : List T) : List T := l.mergeSort tle
theorem sortT_perm (l : List T) : (sortT l).Perm l := List.mergeSort_perm l tle
theorem sortT_srt (l : List T) : Srt (sortT l) := List.pairwise_mergeSort tle_trans tle_total l
theorem srt_unique : ∀ {a b : List T}, a.Perm b → Srt a → Srt b → a = b
  | [], b, p, _, _ => (List.nil_perm.mp p).symm ▸ rfl
  | x :: a, [], p, _, _ => absurd p.length_eq (by simp)
  | x :: a, y :: b, p, ha, hb => by
    have hx := List.pairwise_cons.mp ha
    have hy := List.pairwise_cons.mp hb
    have exy : x = y := by
      have h1 : x ∈ y :: b := p.mem_iff.mp List.mem_cons_self
      have h2 : y ∈ x :: a := p.mem_iff.mpr List.mem_cons_self
      rcases List.mem_cons.mp h1 with e | h1
      · exact e
      · rcases List.mem_cons.mp h2 with e | h2
        · exact e.symm
        · exact tle_anti (hx.1 y h2) (hy.1 x h1)
    subst exy
    rw [srt_unique (List.Perm.cons_inv p) hx.2 hy.2]
theorem sortT_eq {a b : List T} (p : a.Perm b) (h : Srt a) : a = sortT b := srt_unique (p.trans (sortT_perm b).symm) h (sortT_srt b)
theorem sortT_of {a : List T} (h : Srt a) : sortT a = a := (sortT_eq (List.Perm.refl a) h).symm
mutual
def T.canon : T → T
  | .jet => .jet
  | .bas l => .bas (sortT (canonL l))
def canonL : List T → List T
  | [] => []
  | t :: r => t.canon :: canonL r
end
theorem canonL_map : ∀ l : List T, canonL l = l.map T.canon
  | [] => rfl
  | t :: r => by
    show t.canon :: canonL r = t.canon :: r.map T.canon
    rw [canonL_map r]
theorem canon_bas (l : List T) : (T.bas l).canon = .bas (sortT (l.map T.canon)) := by
  show T.bas (sortT (canonL l)) = _
  rw [canonL_map]
mutual
def Can : T → Prop
  | .jet => True
  | .bas l => Srt l ∧ CanL l
def CanL : List T → Prop
  | [] => True
  | t :: r => Can t ∧ CanL r
end
theorem canL_iff : ∀ {l : List T}, CanL l ↔ ∀ t ∈ l, Can t
  | [] => ⟨fun _ _ h => (nomatch h), fun _ => trivial⟩
  | t :: r => by
    constructor
    · intro h u hu
      have h1 : Can t := h.1
      have h2 : CanL r := h.2
      rcases List.mem_cons.mp hu with e | e
      · exact e ▸ h1
      · exact canL_iff.mp h2 u e
    · exact fun h => ⟨h t List.mem_cons_self, canL_iff.mpr fun u hu => h u (List.mem_cons_of_mem _ hu)⟩
theorem canL_sort {l : List T} (h : CanL l) : CanL (sortT l) := canL_iff.mpr fun t ht => canL_iff.mp h t ((sortT_perm l).mem_iff.mp ht)
theorem can_bas {l : List T} (h : CanL l) : Can (.bas (sortT l)) := ⟨sortT_srt l, canL_sort h⟩
theorem canon_can : ∀ t : T, Can t.canon := by
  refine T.ind' trivial fun l ih => ?_
  rw [canon_bas]
  refine can_bas (canL_iff.mpr fun t ht => ?_)
  obtain ⟨u, hu, e⟩ := List.mem_map.mp ht
  exact e ▸ ih u hu
mutual
def T.size : T → Nat
  | .jet => 1
  | .bas l => 1 + sizeL l
def sizeL : List T → Nat
  | [] => 0
  | t :: r => t.size + sizeL r
end
mutual
def T.jts : T → Nat
  | .jet => 1
  | .bas l => jtsL l
def jtsL : List T → Nat
  | [] => 0
  | t :: r => t.jts + jtsL r
end
mutual
def T.dep : T → Nat
  | .jet => 0
  | .bas l => 1 + depL l
def depL : List T → Nat
  | [] => 0
  | t :: r => max t.dep (depL r)
end
mutual
def T.lng : T → Nat
  | .jet => 0
  | .bas l => 1 + lngL l
def lngL : List T → Nat
  | [] => 0
  | t :: r => if t.jts = 0 then lngL r else max t.lng (lngL r)
end
mutual
def T.sht : T → Nat
  | .jet => 0
  | .bas l => 1 + shtL l
def shtL : List T → Nat
  | [] => 0
  | t :: r => if t.jts = 0 then shtL r else if jtsL r = 0 then t.sht else min t.sht (shtL r)
end
theorem sizeL_sum : ∀ l : List T, sizeL l = (l.map T.size).sum
  | [] => rfl
  | t :: r => by
    show t.size + sizeL r = _
    rw [sizeL_sum r, List.map_cons, List.sum_cons]
theorem jtsL_sum : ∀ l : List T, jtsL l = (l.map T.jts).sum
  | [] => rfl
  | t :: r => by
    show t.jts + jtsL r = _
    rw [jtsL_sum r, List.map_cons, List.sum_cons]
theorem sizeL_perm {a b : List T} (p : a.Perm b) : sizeL a = sizeL b := by rw [sizeL_sum, sizeL_sum, (p.map T.size).sum_nat]
theorem depL_perm {a b : List T} (p : a.Perm b) : depL a = depL b := by
  induction p with
  | nil => rfl
  | cons x _ ih => show max _ _ = max _ _; rw [ih]
  | swap x y l => show max _ (max _ _) = max _ (max _ _); omega
  | trans _ _ h1 h2 => exact h1.trans h2
theorem size_pos : ∀ t : T, 0 < t.size
  | .jet => Nat.zero_lt_one
  | .bas l => by show 0 < 1 + sizeL l; omega
theorem canon_size : ∀ t : T, t.canon.size = t.size := by
  refine T.ind' rfl fun l ih => ?_
  rw [canon_bas]
  show 1 + sizeL (sortT (l.map T.canon)) = 1 + sizeL l
  rw [sizeL_perm (sortT_perm _), sizeL_sum, sizeL_sum, List.map_map, List.map_congr_left (f := T.size ∘ T.canon) fun t ht => ih t ht]
theorem depL_congr {f : T → T} : ∀ {l : List T}, (∀ t ∈ l, (f t).dep = t.dep) → depL (l.map f) = depL l
  | [], _ => rfl
  | t :: r, h => by
    show max _ _ = max _ _
    rw [h t List.mem_cons_self, depL_congr fun u hu => h u (List.mem_cons_of_mem _ hu)]
theorem canon_dep : ∀ t : T, t.canon.dep = t.dep := by
  refine T.ind' rfl fun l ih => ?_
  rw [canon_bas]
  show 1 + depL (sortT (l.map T.canon)) = 1 + depL l
  rw [depL_perm (sortT_perm _), depL_congr ih]
theorem codes_len : ∀ t : T, t.codes.length + t.jts = 2 * t.size ∧ 1 ≤ t.codes.length := by
  refine T.ind' ⟨rfl, Nat.le_refl _⟩ fun l ih => ?_
  have e : ∀ l : List T, (∀ t ∈ l, t.codes.length + t.jts = 2 * t.size ∧ 1 ≤ t.codes.length) → (codesL l).length + jtsL l = 2 * sizeL l := by
    intro l
    induction l with
    | nil => intro _; rfl
    | cons t r ihr =>
      intro h
      have h1 := (h t List.mem_cons_self).1
      have h2 := ihr fun u hu => h u (List.mem_cons_of_mem _ hu)
      show (t.codes ++ codesL r).length + (t.jts + jtsL r) = 2 * (t.size + sizeL r)
      rw [List.length_append]
      omega
  have h := e l ih
  show (40 :: (codesL l ++ [41])).length + jtsL l = 2 * (1 + sizeL l) ∧ 1 ≤ (40 :: (codesL l ++ [41])).length
  rw [List.length_cons, List.length_append, List.length_singleton]
  omega
theorem length_le : ∀ l : List T, l.length ≤ sizeL l
  | [] => Nat.le_refl _
  | t :: r => by
    have := length_le r
    have := size_pos t
    show r.length + 1 ≤ t.size + sizeL r
    omega
abbrev PSt := List (List T) × Option T
def pput (t : T) : List (List T) → PSt
  | [] => ([], some t)
  | p :: r => ((p ++ [t]) :: r, none)
def pstep (s : PSt) (c : Nat) : Option PSt := match s.2 with
  | some _ => none
  | none => if c = 40 then some ([] :: s.1, none) else if c = 111 then some (pput .jet s.1) else if c = 41 then
      (match s.1 with
      | [] => none
      | p :: r => some (pput (.bas (sortT p)) r)) else none
def prun : List Nat → PSt → Option PSt
  | [], s => some s
  | c :: r, s => (pstep s c).bind (prun r)
mutual
theorem prun_codes : ∀ (t : T) (k : List Nat) (st : List (List T)), prun (t.codes ++ k) (st, none) = prun k (pput t.canon st)
  | .jet, k, st => rfl
  | .bas l, k, st => by
    show prun (codesL l ++ [41] ++ k) ([] :: st, none) = _
    rw [List.append_assoc, prun_codesL l ([41] ++ k) [] st, List.nil_append]
    show prun k (pput (.bas (sortT (canonL l))) st) = _
    rfl
theorem prun_codesL : ∀ (l : List T) (k : List Nat) (p : List T) (st : List (List T)), prun (codesL l ++ k) (p :: st, none) = prun k ((p ++ canonL l) :: st, none)
  | [], k, p, st => by
    show prun k _ = prun k ((p ++ []) :: st, none)
    rw [List.append_nil]
  | t :: r, k, p, st => by
    show prun (t.codes ++ codesL r ++ k) _ = prun k ((p ++ (t.canon :: canonL r)) :: st, none)
    rw [List.append_assoc, prun_codes t (codesL r ++ k) (p :: st)]
    show prun (codesL r ++ k) ((p ++ [t.canon]) :: st, none) = _
    rw [prun_codesL r k (p ++ [t.canon]) st, List.append_assoc]
    rfl
end
theorem prun_all (t : T) : prun t.codes ([], none) = some ([], some t.canon) := by
  have h := prun_codes t [] []
  rw [List.append_nil] at h
  exact h
def opn (t : T) : Bool := decide (0 < t.jts)
theorem jtsL_zero : ∀ {l : List T}, jtsL l = 0 ↔ l.filter opn = []
  | [] => ⟨fun _ => rfl, fun _ => rfl⟩
  | t :: r => by
    have ih := jtsL_zero (l := r)
    show t.jts + jtsL r = 0 ↔ _
    rw [List.filter_cons]
    unfold opn at *
    by_cases h : 0 < t.jts
    · simp [h]; omega
    · simp only [h, decide_false]
      simp only [Bool.false_eq_true, if_false]
      rw [← ih]
      omega
theorem lngL_in : ∀ {l : List T}, jtsL l ≠ 0 → lngL l ∈ (l.filter opn).map T.lng
  | [], h => absurd rfl h
  | t :: r, h => by
    have ih := lngL_in (l := r)
    have h2 : t.jts + jtsL r ≠ 0 := h
    show ite _ _ _ ∈ _
    rw [List.filter_cons]
    by_cases ht : t.jts = 0
    · have e : opn t = false := by unfold opn; simp [ht]
      rw [if_pos ht, e]
      simp only [Bool.false_eq_true, if_false]
      exact ih (by omega)
    · have e : opn t = true := by unfold opn; simp; omega
      rw [if_neg ht, e, if_pos rfl, List.map_cons]
      by_cases hr : jtsL r = 0
      · have e2 : lngL r = 0 := by
          have e3 : ∀ l : List T, jtsL l = 0 → lngL l = 0 := by
            intro l
            induction l with
            | nil => intro _; rfl
            | cons u q ihq =>
              intro hq
              have h3 : u.jts + jtsL q = 0 := hq
              show ite _ _ _ = 0
              rw [if_pos (by omega)]
              exact ihq (by omega)
          exact e3 r hr
        rw [e2, Nat.max_eq_left (Nat.zero_le _)]
        exact List.mem_cons_self
      · by_cases hm : t.lng ≤ lngL r
        · rw [Nat.max_eq_right hm]
          exact List.mem_cons_of_mem _ (ih hr)
        · rw [Nat.max_eq_left (by omega)]
          exact List.mem_cons_self
theorem lngL_le : ∀ {l : List T} {t : T}, t ∈ l.filter opn → t.lng ≤ lngL l
  | [], t, h => by cases h
  | u :: r, t, h => by
    show _ ≤ ite _ _ _
    rw [List.filter_cons] at h
    by_cases ht : u.jts = 0
    · have e : opn u = false := by unfold opn; simp [ht]
      rw [e] at h
      rw [if_pos ht]
      exact lngL_le h
    · have e : opn u = true := by unfold opn; simp; omega
      rw [e, if_pos rfl] at h
      rw [if_neg ht]
      rcases List.mem_cons.mp h with z | z
      · subst z; omega
      · have := lngL_le z; omega
theorem shtL_in : ∀ {l : List T}, jtsL l ≠ 0 → shtL l ∈ (l.filter opn).map T.sht
  | [], h => absurd rfl h
  | t :: r, h => by
    have ih := shtL_in (l := r)
    have h2 : t.jts + jtsL r ≠ 0 := h
    show ite _ _ (ite _ _ _) ∈ _
    rw [List.filter_cons]
    by_cases ht : t.jts = 0
    · have e : opn t = false := by unfold opn; simp [ht]
      rw [if_pos ht, e]
      simp only [Bool.false_eq_true, if_false]
      exact ih (by omega)
    · have e : opn t = true := by unfold opn; simp; omega
      rw [if_neg ht, e, if_pos rfl, List.map_cons]
      by_cases hr : jtsL r = 0
      · rw [if_pos hr]
        exact List.mem_cons_self
      · rw [if_neg hr]
        by_cases hm : t.sht ≤ shtL r
        · rw [Nat.min_eq_left hm]
          exact List.mem_cons_self
        · rw [Nat.min_eq_right (by omega)]
          exact List.mem_cons_of_mem _ (ih hr)
theorem shtL_le : ∀ {l : List T} {t : T}, t ∈ l.filter opn → shtL l ≤ t.sht
  | [], t, h => by cases h
  | u :: r, t, h => by
    show ite _ _ (ite _ _ _) ≤ _
    rw [List.filter_cons] at h
    by_cases ht : u.jts = 0
    · have e : opn u = false := by unfold opn; simp [ht]
      rw [e] at h
      rw [if_pos ht]
      exact shtL_le h
    · have e : opn u = true := by unfold opn; simp; omega
      rw [e, if_pos rfl] at h
      rw [if_neg ht]
      rcases List.mem_cons.mp h with z | z
      · subst z; split <;> omega
      · have h1 := shtL_le z
        have h2 : jtsL r ≠ 0 := fun q => by
          rw [jtsL_zero.mp q] at z
          cases z
        rw [if_neg h2]
        omega
theorem lng_max {l : List T} {m : Int} (h : jtsL l ≠ 0) (h1 : m ∈ (l.filter opn).map fun t => (t.lng : Int)) (h2 : ∀ y ∈ (l.filter opn).map (fun t => (t.lng : Int)), y ≤ m) : m = (lngL l : Nat) := by
  obtain ⟨t, ht, e⟩ := List.mem_map.mp h1
  have a := lngL_le ht
  obtain ⟨u, hu, e2⟩ := List.mem_map.mp (lngL_in h)
  have b := h2 _ (List.mem_map.mpr ⟨u, hu, rfl⟩)
  omega
theorem sht_min {l : List T} {m : Int} (h : jtsL l ≠ 0) (h1 : m ∈ (l.filter opn).map fun t => (t.sht : Int)) (h2 : ∀ y ∈ (l.filter opn).map (fun t => (t.sht : Int)), m ≤ y) : m = (shtL l : Nat) := by
  obtain ⟨t, ht, e⟩ := List.mem_map.mp h1
  have a := shtL_le ht
  obtain ⟨u, hu, e2⟩ := List.mem_map.mp (shtL_in h)
  have b := h2 _ (List.mem_map.mpr ⟨u, hu, rfl⟩)
  omega
theorem dep_fold {l : List T} {n : Int} {r : List Int} (h : (l.map fun t => (t.dep : Int)) = n :: r) : r.foldl max n = (depL l : Nat) := by
  have go : ∀ (l : List T) (n : Int), 0 ≤ n → (l.map fun t => (t.dep : Int)).foldl max n = max n (depL l : Nat) := by
    intro l
    induction l with
    | nil =>
      intro n hn
      show n = max n (0 : Nat)
      omega
    | cons t q ih =>
      intro n hn
      rw [List.map_cons, List.foldl_cons, ih _ (by omega)]
      show max (max n (t.dep : Int)) (depL q : Nat) = max n ((max t.dep (depL q) : Nat) : Int)
      omega
  cases l with
  | nil => cases h
  | cons t q =>
    rw [List.map_cons] at h
    injection h with h1 h2
    subst h1 h2
    rw [go q _ (by omega)]
    show max (t.dep : Int) (depL q : Nat) = ((max t.dep (depL q) : Nat) : Int)
    omega
def wtL : List (List T) → Nat
  | [] => 0
  | p :: r => 1 + sizeL p + wtL r
def wtS (s : PSt) : Nat := wtL s.1 + (match s.2 with
  | some t => t.size
  | none => 0)
theorem sizeL_app (a b : List T) : sizeL (a ++ b) = sizeL a + sizeL b := by
  rw [sizeL_sum, sizeL_sum, sizeL_sum, List.map_append, List.sum_append]
theorem pput_wt (t : T) (st : List (List T)) : wtS (pput t st) = wtL st + t.size := by
  cases st with
  | nil => rfl
  | cons p r =>
    show 1 + sizeL (p ++ [t]) + wtL r + 0 = 1 + sizeL p + wtL r + t.size
    rw [sizeL_app]
    show 1 + (sizeL p + (t.size + 0)) + wtL r + 0 = _
    omega
theorem pstep_wt {s s' : PSt} {c : Nat} (h : pstep s c = some s') : wtS s' ≤ wtS s + 1 := by
  obtain ⟨st, fd⟩ := s
  unfold pstep at h
  cases fd with
  | some t => cases h
  | none =>
    simp only at h
    split at h
    · cases h
      show 1 + 0 + wtL st + 0 ≤ wtL st + 0 + 1
      omega
    · split at h
      · cases h
        rw [pput_wt]
        show wtL st + 1 ≤ wtL st + 0 + 1
        omega
      · split at h
        · cases st with
          | nil => cases h
          | cons p r =>
            cases h
            rw [pput_wt]
            show wtL r + (1 + sizeL (sortT p)) ≤ 1 + sizeL p + wtL r + 0 + 1
            rw [sizeL_perm (sortT_perm p)]
            omega
        · cases h
theorem wtL_len : ∀ st : List (List T), st.length ≤ wtL st
  | [] => Nat.le_refl _
  | p :: r => by
    have := wtL_len r
    show r.length + 1 ≤ 1 + sizeL p + wtL r
    omega
theorem prun_step {l : List Nat} {i c : Nat} {s e : PSt} (hc : l[i]? = some c) (h : prun (l.drop i) s = some e) : ∃ s', pstep s c = some s' ∧ prun (l.drop (i + 1)) s' = some e := by
  have hi : i < l.length := (List.getElem?_eq_some_iff.mp hc).1
  rw [List.drop_eq_getElem_cons hi] at h
  have e1 : l[i] = c := (List.getElem?_eq_some_iff.mp hc).2
  rw [e1] at h
  have h2 : (pstep s c).bind (prun (l.drop (i + 1))) = some e := h
  exact Option.bind_eq_some_iff.mp h2
theorem pstep_cases {st : List (List T)} {fd : Option T} {c : Nat} {s' : PSt} (h : pstep (st, fd) c = some s') : fd = none ∧ ((c = 40 ∧ s' = ([] :: st, none)) ∨ (c = 111 ∧ s' = pput .jet st) ∨ (c = 41 ∧ ∃ p r, st = p :: r ∧ s' = pput (.bas (sortT p)) r)) := by
  unfold pstep at h
  cases fd with
  | some t => cases h
  | none =>
    refine ⟨rfl, ?_⟩
    simp only at h
    split at h
    · rename_i e
      cases h
      exact .inl ⟨e, rfl⟩
    · split at h
      · rename_i e
        cases h
        exact .inr (.inl ⟨e, rfl⟩)
      · split at h
        · rename_i e
          cases st with
          | nil => cases h
          | cons p r =>
            cases h
            exact .inr (.inr ⟨e, p, r, rfl, rfl⟩)
        · cases h
end JW
namespace JW
end JW
namespace JW
open PySem PySem.Spec PyProof.Rows L2
structure DefAt (K : PySem.W.Frag) (mg : Str → Option Value) (x qual : Str) (st : Stmt) (dvs : List V) (ps : List Str) : Prop where
  ex : ∃ f fd, mg x = some (.ref f) ∧ FunD K x qual (defArgs st) (defBody st) (defScope st) dvs [] f fd ∧ Binds K fd ps []
structure CallD (P : Program) (w : World) (K : PySem.W.Frag) (mg : Str → Option Value) (base : Heap) (CX : CXT) (k : Nat) (x : Str) (ps : List Str) (dvs : List V) (sp : Sp) : Prop where
  ex : ∃ f fd ds, mg x = some (.ref f) ∧ PySem.W.keepIn K (.ref f) = true ∧ Binds K fd ps ds ∧ Vals dvs ds ∧ FnOk P w K mg base CX k f fd ps sp
section
variable {P : Program} {w : World} {K : PySem.W.Frag} {mg : Str → Option Value} {base : Heap} {CX : CXT}
theorem CallD.mono {j k : Nat} {x : Str} {ps : List Str} {dvs : List V} {sp : Sp} (c : CallD P w K mg base CX j x ps dvs sp) (h : j ≤ k) : CallD P w K mg base CX k x ps dvs sp := by
  obtain ⟨f, fd, ds, h1, h2, h3, h4, F⟩ := c.ex
  exact ⟨f, fd, ds, h1, h2, h3, h4, F.mono h⟩
theorem okF {x qual : Str} {params : Arguments} {body : List Stmt} {scope : Scope} {kws : List (Str × V)} {f : Addr} {fd : FuncData} {N ps : List Str} {k : Nat} {sp : Sp} {dvs : List V} (F : FunD K x qual params body scope dvs kws f fd) (S : FnScope N ps scope)
    (len : ∀ vs H Q E, sp vs H Q E → vs.length = ps.length)
    (hbody : ∀ (cdv : Value) (A : Around) (outer : List Env) (s : Shared) (H : Hp) (vs : List V) (Q : VK) (E : XK), Room k (A.deeper (envOfC qual scope s.heap.objs.size f cdv)) → sp vs H Q E →
      ∃ t, PSs (cxOf CX P w K mg base N qual scope f cdv A outer s H E).nox body t ∧ t { nx := fun _ H' => Q .non H', rt := Q } (start N vs) H) : FnOk P w K mg base CX (k + 1) f fd ps sp :=
  F.ok S len fun cdv A outer s H vs Q E hr h => by
    obtain ⟨t, h, q⟩ := hbody cdv A outer s H vs Q E hr h
    exact ⟨t, h.nox, q⟩
theorem DefAt.ok {x qual : Str} {st : Stmt} {N ps : List Str} {k : Nat} {sp : Sp} {dvs : List V} (D : DefAt K mg x qual st dvs ps) (S : FnScope N ps (defScope st)) (len : ∀ vs H Q E, sp vs H Q E → vs.length = ps.length)
    (hbody : ∀ (f : Addr) (cdv : Value) (A : Around) (outer : List Env) (s : Shared) (H : Hp) (vs : List V) (Q : VK) (E : XK), Room k (A.deeper (envOfC qual (defScope st) s.heap.objs.size f cdv)) → sp vs H Q E →
      ∃ t, PSs (cxOf CX P w K mg base N qual (defScope st) f cdv A outer s H E).nox (defBody st) t ∧ t { nx := fun _ H' => Q .non H', rt := Q } (start N vs) H) : CallD P w K mg base CX (k + 1) x ps [] sp := by
  obtain ⟨f, fd, h1, F, b⟩ := D.ex
  refine ⟨f, fd, [], h1, F.kp, b, .nil, F.ok S len fun cdv A outer s H vs Q E hr h => ?_⟩
  obtain ⟨t, h, q⟩ := hbody f cdv A outer s H vs Q E hr h
  exact ⟨t, h.nox, q⟩
end
section
variable {X : Cx} {CX : CXT} {k : Nat} {ps : List Str} {sp : Sp} {dvs : List V} {E : XK} {x : Str} {p pos : Pos} {e : Expr} {es : List Expr} {t : TA}
theorem pe_callD (C : CallD X.prog X.w X.K X.mg X.base CX k x ps dvs sp) (hr : Room k X.A) (hg : Gl X x) (hx : Passes CX X E) (ha : PA X (e :: es) t) (hdb : (x == ("__debug__" : Str)) = false := by decide)
    (he : starEach (e :: es) X.env = (false, eval e X.env) :: starEach es X.env := by rfl) (hpl : (backTo pos (starEach es X.env)).any (·.1) = false := by rfl) : PE X (.Call (.Name x p) (e :: es) [] pos) (tCall sp dvs E t) := by
  obtain ⟨f, fd, ds, h1, h2, h3, h4, F⟩ := C.ex
  exact pe_call F hr hg h1 h2 h3 h4 hx ha hdb he hpl
end
section
variable {X : Cx} {e : Expr} {st : Stmt}
theorem ep_mono {pins : List (Addr × Obj)} {σ : L2.St} {Q Q' : VK} {u : Value} {s' : Shared} (h : EP X pins σ Q u s') (k : ∀ v H, Q v H → Q' v H) : EP X pins σ Q' u s' := by
  obtain ⟨v, H, I, r, q⟩ := h
  exact ⟨v, H, I, r, k v H q⟩
def tVia (t : TE) : TE := fun σ H Q => ∃ R : VK, t σ H R ∧ ∀ v H', R v H' → Q v H'
theorem pe_via {t : TE} (h : PE X e t) : PE X e (tVia t) := ⟨fun pins s σ H Q I ⟨R, hw, q⟩ => thn (h.run pins s σ H _ I hw) fun _ _ z => ep_mono z q⟩
def tsVia (t : TS) : TS := fun D σ H => ∃ R : L2.St → Hp → Prop, t { D with nx := R } σ H ∧ ∀ σ' H', R σ' H' → D.nx σ' H'
theorem ps_via {t : TS} (h : PS X st t) : PS X st (tsVia t) := ⟨fun pins s σ H D I ⟨R, hw, q⟩ =>
  thn (h.run pins s σ H _ I hw) fun f s' z => by
    cases f with
    | next =>
      obtain ⟨σ', H', I', r⟩ := z
      exact ⟨σ', H', I', q σ' H' r⟩
    | brk => exact z
    | cont => exact z
    | ret u => exact z⟩
end
theorem nI_sum : ∀ xs : List Nat, (xs.map fun x : Nat => (x : Int)).sum = ((xs.sum : Nat) : Int)
  | [] => rfl
  | x :: r => by rw [List.map_cons, List.sum_cons, List.sum_cons, nI_sum r]; omega
theorem sz1 : 1 ≤ sizeLine := by decide
theorem sz2 : 2 ≤ sizeLine := by decide
theorem sz5 : 5 ≤ sizeLine := by decide
end JW
namespace L2
open PySem PySem.Spec PyProof.Rows
section
variable {H H' H1 H2 : Hp} {a b p : Addr} {o u : HO}
theorem Same.new (s : Same H H') (hp : H' p = none) : Same H (upd H' p o) := fun c w e => by
  rw [upd_ne (ne_of_none (s _ _ e) hp)]
  exact s _ _ e
theorem Same.mine (s : Same H H') (hp : H p = none) : Same H (upd H' p o) := fun c w e => by
  rw [upd_ne (ne_of_none e hp)]
  exact s _ _ e
theorem upd_old (h : H a = some o) (hp : H p = none) : upd H p u a = some o := by
  rw [upd_ne (ne_of_none h hp)]
  exact h
end
end L2
namespace JW
open PySem PySem.Spec PyProof.Rows L2
section
variable {X : Cx} {K : PySem.W.Frag} {e : Expr} {te : TE} {tg : Expr} {pos : Pos}
end
end JW
namespace JW
open PySem PySem.Spec PyProof.Rows L2
section
variable {X : Cx} {K : PySem.W.Frag}
end
theorem dget {H : Hp} {a : Addr} {kvs : List (Key × V)} {k : Str} {v : V} (e : H a = some (.dK kvs)) (h : valV kvs (.inr k) = some v) : DGet H a (.str k) (some v) := by
  have z := DGet.k (k := Sum.inr k) e
  rw [h] at z
  exact z
theorem dput {H : Hp} {a : Addr} {kvs kvs' : List (Key × V)} {k : Str} {v : V} (e : H a = some (.dK kvs)) (hl : kvs.length < sizeLine) (h : putK kvs (.inr k) v = kvs') : DPut H a (.str k) v (upd H a (.dK kvs')) := by
  have z := DPut.k (k := Sum.inr k) (v := v) e hl
  rw [h] at z
  exact z
def Same2 (d g : Addr) (H H' : Hp) : Prop := ∀ b o, b ≠ d → b ≠ g → H b = some o → H' b = some o
theorem Same2.refl (d g : Addr) (H : Hp) : Same2 d g H H := fun _ _ _ _ h => h
theorem Same2.trans {d g : Addr} {H H1 H2 : Hp} (a : Same2 d g H H1) (b : Same2 d g H1 H2) : Same2 d g H H2 := fun c o h1 h2 h => b c o h1 h2 (a c o h1 h2 h)
theorem Same2.new {d g p : Addr} {H H1 : Hp} {o : HO} (a : Same2 d g H H1) (hp : H1 p = none) : Same2 d g H (upd H1 p o) := fun c u h1 h2 h => by rw [upd_ne (ne_of_none (a c u h1 h2 h) hp)]; exact a c u h1 h2 h
theorem Same2.same {d g : Addr} {H H1 H2 : Hp} (a : Same2 d g H H1) (b : Same H1 H2) : Same2 d g H H2 := fun c o h1 h2 h => b c o (a c o h1 h2 h)
theorem Same2.of {d g : Addr} {H H1 : Hp} (a : Same H H1) : Same2 d g H H1 := fun c o _ _ h => a c o h
theorem Same2.mine {d g : Addr} {H0 H H' : Hp} (a : Same H0 H) (hd : H0 d = none) (hg : H0 g = none) (b : Same2 d g H H') : Same H0 H' := fun c o h => b c o (ne_of_none h hd) (ne_of_none h hg) (a c o h)
def sackD (g : Addr) (a b c : Int) : List (Key × V) := [(.inr "great", .ref g), (.inr "now", .int a), (.inr "seed", .int b), (.inr "turn", .int c)]
def SackAt (H : Hp) (d g : Addr) : Prop := ∃ (ns : List Int) (a b c : Int), d ≠ g ∧ H d = some (.dK (sackD g a b c)) ∧ H g = some (.lst (ns.map V.int))
theorem SackAt.same {H H' : Hp} {d g : Addr} (h : SackAt H d g) (s : Same H H') : SackAt H' d g := by
  obtain ⟨ns, a, b, c, n, e1, e2⟩ := h
  exact ⟨ns, a, b, c, n, s _ _ e1, s _ _ e2⟩
theorem SackAt.ne {H : Hp} {d g p : Addr} (h : SackAt H d g) (hp : H p = none) : p ≠ d ∧ p ≠ g := by
  obtain ⟨ns, a, b, c, n, e1, e2⟩ := h
  exact ⟨(ne_of_none e1 hp).symm, (ne_of_none e2 hp).symm⟩
end JW
namespace JW
open PySem PySem.Spec PyProof.Rows L2
section
variable {prog : Program} {w : World} {A : Around} {E : Value → Shared → Prop} {s : Shared} {K : PySem.W.Frag} {x C f : Addr} {ox : Obj} {od : Option Obj} {b tb : Value}
theorem ne_own {Q : Value → Shared → Prop} (hu : A.units + 1 < cLine) (X : K.In s.heap) (I : PySem.W.InstAt s.heap x ox C od) (hb : PySem.W.Looks (model prog w) s.heap (typeOf b) tb) (hn : PySem.W.notFirst K C tb = true)
    (hne : PySem.W.findIn K (.ref C) "__ne__" = some (some (.builtin "object.__ne__"))) (heq : PySem.W.findIn K (.ref C) "__eq__" = some (some (.ref f))) (hf : PySem.W.isFn K (.ref f) = true) (hob : PySem.W.subIn K (.ref C) (.type "object") = some true)
    (h : wpAny (model prog w) A.in1 (call (.ref f) [.ref x, b]) (fun v s' => ∃ k, v = .bool k ∧ Q (.bool (!k)) s') E s) : wpAny (model prog w) A (richCompare .NotEq (.ref x) b) Q E s := by
  have one : wpAny (model prog w) A (tryCompare (.ref x) (cmpInfo .NotEq).2.1 b) (fun r s' => ∃ v, r = some v ∧ Q v s') E s := by
    unfold tryCompare
    have hc : wpAny (model prog w) A (call (.builtin "object.__ne__") [.ref x, b]) (fun v s' => ∃ k, v = .bool (!k) ∧ Q (.bool (!k)) s') E s := by
      refine wpAny_call (codeAny_call_builtin F.cmp_object.ne.plain F.cmpEntry_ne ?_)
      refine PySem.W.check_slot F.cmpKind_ne F.cmpSplit_ne (I.type.andThen (PySem.W.looks_subIn X hob)) (F.cmpArgs_ne _ _) ?_
      unfold Builtin.«object.__ne__»
      repeat (first
        | with_reducible refine wpAny_cRoomFor hu ?_
        | (refine wpAny_bind (m := callSpecialIfBound? (.ref x) (Str.ofString "__eq__") [b])
            (PySem.W.ifBound_K X I heq hf (wpAny_mono h (fun r s' hr => by
              obtain ⟨k, rfl, hq⟩ := hr
              repeat (first | exact ⟨k, rfl, hq⟩ | exact wpAny_pure ⟨k, rfl, hq⟩ | exact wpAny_truthy_bool ⟨k, rfl, hq⟩ | (refine wpAny_bind (m := truthy (.bool _)) (wpAny_truthy_bool ?_)) | wp_step)) fun _ _ e => e)))
        | wp_step)
    refine wpAny_bind ?_
    simp only [callSpecialIfBound?, bindSpecialIfBound?]
    refine wpAny_holding (wpAny_bind (wpAny_bind (wpAny_bind (I.type.here ((PySem.W.looks_findIn X hne).here ?_)))))
    have fin : ∀ R : Option Value → Shared → Prop, (∀ k s', Q (.bool (!k)) s' → R (some (.bool (!k))) s') → wpAny (model prog w) A (call (.builtin "object.__ne__") ([.ref x] ++ [b]) >>= fun v => pure (some v)) R E s := fun R hR => by
      refine wpAny_bind (wpAny_mono hc (fun v s' h' => wpAny_pure ?_) fun _ _ h' => h')
      obtain ⟨k, rfl, hq⟩ := h'
      exact hR k s' hq
    refine wpAny_bind (wpAny_askSetting (wpAny_ite ?_))
    split
    · rw [F.cmp_object.ne.bind]
      exact wpAny_bind (wpAny_pure (wpAny_pure (by exact fin _ fun k s' hq => wpAny_pure ⟨_, rfl, hq⟩)))
    · rw [F.cmp_object.ne.bind]
      exact wpAny_tryCatch (wpAny_bind (wpAny_pure (wpAny_pure (by exact fin _ fun k s' hq => wpAny_pure ⟨_, rfl, hq⟩))))
  unfold richCompare
  simp only [oneThing_ref]
  refine wpAny_holding (wpAny_bind (wpAny_cRoomFor (Nat.lt_of_succ_lt hu) ?_))
  refine wpAny_bind (I.type.here (wpAny_bind (hb.here ?_)))
  split
  · rename_i q
    have e : PySem.W.subIn K tb (.ref C) = some false := by
      rcases Bool.or_eq_true_iff.mp hn with e | e
      · rw [beq_iff_eq.mp e] at q; simp at q
      · exact beq_iff_eq.mp e
    refine wpAny_bind ((PySem.W.looks_subIn X e).here ?_)
    simp only [Bool.false_eq_true, if_false]
    refine wpAny_bind (wpAny_mono one (fun r s' z => ?_) fun _ _ e => e)
    obtain ⟨v, rfl, hq⟩ := z
    exact wpAny_pure hq
  · refine wpAny_bind (wpAny_pure ?_)
    simp only [Bool.false_eq_true, if_false]
    refine wpAny_bind (wpAny_mono one (fun r s' z => ?_) fun _ _ e => e)
    obtain ⟨v, rfl, hq⟩ := z
    exact wpAny_pure hq
end
structure MethD (P : Program) (w : World) (K : PySem.W.Frag) (mg : Str → Option Value) (base : Heap) (CX : CXT) (k : Nat) (C : Addr) (m : Str) (ps : List Str) (dvs : List V) (sp : Sp) : Prop where
  ex : ∃ f fd ds, Meth K C m f ∧ Binds K fd ps ds ∧ Vals dvs ds ∧ FnOk P w K mg base CX k f fd ps sp
structure MethAt (K : PySem.W.Frag) (C : Addr) (m qual : Str) (st : Stmt) (ps : List Str) : Prop where
  ex : ∃ f fd, Meth K C m f ∧ FunD K m qual (defArgs st) (defBody st) (defScope st) [] [] f fd ∧ Binds K fd ps []
section
variable {P : Program} {w : World} {K : PySem.W.Frag} {mg : Str → Option Value} {base : Heap} {CX : CXT} {C : Addr}
theorem MethD.mono {j k : Nat} {m : Str} {ps : List Str} {dvs : List V} {sp : Sp} (c : MethD P w K mg base CX j C m ps dvs sp) (h : j ≤ k) : MethD P w K mg base CX k C m ps dvs sp := by
  obtain ⟨f, fd, ds, h1, h2, h3, F⟩ := c.ex
  exact ⟨f, fd, ds, h1, h2, h3, F.mono h⟩
theorem MethAt.ok {m qual : Str} {st : Stmt} {N ps : List Str} {k : Nat} {sp : Sp} (D : MethAt K C m qual st ps) (S : FnScope N ps (defScope st)) (len : ∀ vs H Q E, sp vs H Q E → vs.length = ps.length)
    (hbody : ∀ (f : Addr) (cdv : Value) (A : Around) (outer : List Env) (s : Shared) (H : Hp) (vs : List V) (Q : VK) (E : XK), Room k (A.deeper (envOfC qual (defScope st) s.heap.objs.size f cdv)) → sp vs H Q E →
      ∃ t, PSs (cxOf CX P w K mg base N qual (defScope st) f cdv A outer s H E).nox (defBody st) t ∧ t { nx := fun _ H' => Q .non H', rt := Q } (start N vs) H) : MethD P w K mg base CX (k + 1) C m ps [] sp := by
  obtain ⟨f, fd, h1, F, b⟩ := D.ex
  exact ⟨f, fd, [], h1, b, .nil, okF F S len fun cdv A outer s H vs Q E hr h => hbody f cdv A outer s H vs Q E hr h⟩
end
section
variable {X : Cx} {CX : CXT} {k : Nat} {C : Addr} {ps : List Str} {sp : Sp} {dvs : List V} {E : XK} {m : Str} {pos apos : Pos} {o e : Expr} {es : List Expr} {t : TA} {ta : TE}
theorem relV_back {v : V} {u : Value} {s : Shared} {Q : Value → Shared → Prop} (r : RelV v u) (h : Q u s) : PySem.W.CmpBack Q u s := by
  cases v with
  | non => cases r; exact h
  | bl _ => cases r; exact h
  | int _ => obtain ⟨t, rfl⟩ := r; exact h
  | str _ => obtain ⟨t, rfl⟩ := r; exact h
  | byt _ => obtain ⟨t, rfl⟩ := r; exact h
  | flt _ => obtain ⟨t, rfl⟩ := r; exact h
  | ref _ => cases r; exact h
  | ty _ => cases r; exact h
def rOwnEq (C : Addr) (sp : Sp) (E : XK) (neg : Bool) : R2 := fun x y H Q => ∃ a dx fs b dy gs, x = .ref a ∧ y = .ref b ∧ H a = some (.ins C dx fs) ∧ H b = some (.ins C dy gs) ∧
  sp [x, y] H (fun v H' => ∃ k, v = .bl k ∧ Q (.bl (if neg then !k else k)) H') E
theorem op_own_eq (M : MethD X.prog X.w X.K X.mg X.base CX k C "__eq__" ps [] sp) (hr : Room k X.A) (hx : Passes CX X E) : OpR X (compareOp .Eq) (rOwnEq C sp E false) := by
  intro pins s σ H x y v u Q I rx ry h
  obtain ⟨a, dx, fs, b, dy, gs, rfl, rfl, ha, hb, q⟩ := h
  cases rx
  cases ry
  obtain ⟨f, fd, ds, hm, hbd, hd, F⟩ := M.ex
  cases hd
  obtain ⟨mA, J, _⟩ := ins_get I.hok ha
  obtain ⟨mB, J', _⟩ := ins_get I.hok hb
  obtain ⟨od, J, _⟩ := J.look
  obtain ⟨od', J', _⟩ := J'.look
  obtain ⟨m, hF⟩ := I.fr
  refine PySem.W.cmp_K (op := .Eq) (tb := .ref C) hr.units0 hF I.ok.mod.kin J J'.type (by simp [PySem.W.notFirst]) hm.at_ hm.fn ?_
  refine wpAny_mono (run_fn (us := [.ref a, .ref b]) (vs := [.ref a, .ref b]) F hr hbd .nil hx I (.cons rfl (.cons rfl .nil)) q) (fun v s' z => ?_) fun _ _ z => z
  obtain ⟨v', H', I', r, k, rfl, q'⟩ := z
  exact relV_back r ⟨_, H', I', r, q'⟩
theorem op_own_ne (hne : PySem.W.findIn X.K (.ref C) "__ne__" = some (some (.builtin "object.__ne__"))) (hob : PySem.W.subIn X.K (.ref C) (.type "object") = some true) (M : MethD X.prog X.w X.K X.mg X.base CX k C "__eq__" ps [] sp) (hr : Room (k + 1) X.A) (hx : Passes CX X.nox E) : OpR X (compareOp .NotEq) (rOwnEq C sp E true) := by
  intro pins s σ H x y v u Q I rx ry h
  obtain ⟨a, dx, fs, b, dy, gs, rfl, rfl, ha, hb, q⟩ := h
  cases rx
  cases ry
  obtain ⟨f, fd, ds, hm, hbd, hd, F⟩ := M.ex
  cases hd
  obtain ⟨mA, J, _⟩ := ins_get I.hok ha
  obtain ⟨mB, J', _⟩ := ins_get I.hok hb
  obtain ⟨od, J, _⟩ := J.look
  obtain ⟨od', J', _⟩ := J'.look
  refine ne_own (tb := .ref C) (hu_of hr) I.kIn J J'.type (by simp [PySem.W.notFirst]) hne hm.at_ hm.fn hob ?_
  have hl : ([Value.ref a, Value.ref b] ++ []).length = ps.length := by
    rw [← F.len _ _ _ _ q]
    rfl
  refine wpAny_call (codeAny_mono (F.run X.A.in1 X.stack s H ⟨[.ref a, .ref b], []⟩ [.ref a, .ref b] [.ref a, .ref b] _ E hr.in1 I.env0.in1 (by
    have := hbd s [.ref a, .ref b] I.kIn hl
    simpa using this) (.cons rfl (.cons rfl .nil)) q) fun r s' hq => ?_)
  cases r with
  | error er => exact False.elim (hx pins σ H s er s' (I.wish _) hq)
  | ok fl =>
    cases fl with
    | ret u =>
      obtain ⟨v', H', I', r, k, rfl, q'⟩ := I.after hq
      cases r
      exact ⟨k, rfl, .bl (!k), H', I', rfl, q'⟩
    | next => exact False.elim hq
    | brk => exact False.elim hq
    | cont => exact False.elim hq
structure PropD (P : Program) (w : World) (K : PySem.W.Frag) (mg : Str → Option Value) (base : Heap) (CX : CXT) (k : Nat) (C : Addr) (f : Str) (sp : Sp) : Prop where
  ex : ∃ p g fd, PropOf K C f p g ∧ Binds K fd ["self"] [] ∧ FnOk P w K mg base CX k g fd ["self"] sp
structure PropAt (K : PySem.W.Frag) (C : Addr) (m qual : Str) (st : Stmt) : Prop where
  ex : ∃ p g fd, PropOf K C m p g ∧ FunD K m qual (defArgs st) (defBody st) (defScope st) [] [] g fd ∧ Binds K fd ["self"] []
theorem pe_propD {f : Str} (c : Cls X.K C) (M : PropD X.prog X.w X.K X.mg X.base CX k C f sp) (hr : Room (k + 1) X.A) (hx : Passes CX X.nox E) (he : PE X e ta) (hab : attributeBase e f X.env (eval e X.env) = eval e X.env) : PE X (.Attribute e f pos) (tProp C sp [] E ta) := by
  obtain ⟨p, g, fd, hp, hb, F⟩ := M.ex
  exact pe_prop he c hp F hr hb .nil hx hab
end
end JW
namespace JW
open PySem PySem.Spec PyProof.Rows L2
section
variable {X : Cx} {pins : List (Addr × Obj)} {σ : L2.St} {H : Hp} {s : Shared}
theorem repin {q : Addr} {o o' : Obj} {h' : Heap} {t' : Nat} (I : Inv X ((q, o) :: pins) σ H s) (hs : X.s_0.heap.objs.size ≤ q) (hp : ∀ p ∈ X.pn ++ pins, p.1 ≠ q)
    (k : ∀ b u, b ≠ q → s.heap.get? b = some u → h'.get? b = some u) (hq : h'.get? q = some o') (hc : ∀ v, o'.data ≠ .cell v) : Inv X ((q, o') :: pins) σ H { s with heap := h', toks := t' } := by
  have hpin := I.pin (q, o) (List.mem_append_right _ List.mem_cons_self)
  have I1 := (ClX.unpin I).turned (t' := t') k hpin.2.1 hpin.2.2.1 (.inr hs) (fun x c e z => by
    obtain ⟨v, o2, ho, hdat⟩ := I.cell x c e
    rw [z] at ho
    have h2 : s.heap.get? q = some o := hpin.1
    rw [h2] at ho
    cases ho
    exact hpin.2.2.2.2 v hdat) hp
  refine I1.pins_of fun p hp' => ?_
  rcases List.mem_cons.mp hp' with e | e
  · subst e
    exact ⟨hq, hpin.2.1, hpin.2.2.1, hpin.2.2.2.1, hc⟩
  · exact I1.pin p (List.mem_append_right _ e)
theorem track {a : Addr} {o : Obj} {u : HO} (I : Inv X ((a, o) :: pins) σ H s) (hs : X.s_0.heap.objs.size ≤ a) (hp : ∀ p ∈ X.pn ++ pins, p.1 ≠ a) (new : ObjOk X.prog X.w (upd H a u) s.heap a u) : Inv X pins σ (upd H a u) s := by
  have hpin := I.pin (a, o) (List.mem_append_right _ List.mem_cons_self)
  have hn : H a = none := hpin.2.1
  have I0 := ClX.unpin I
  have ne : ∀ b w, H b = some w → b ≠ a := fun b w e => ne_of_none e hn
  refine ⟨I0.ok, I0.os, I0.bare, ⟨I0.base.keep, I0.base.slot, fun b w e n hx => ?_, I0.base.there, fun b xs e => ?_, fun b w xs e => ?_, fun b ps e => ?_⟩, I0.loc, I0.cell, ?_, fun x c e => ?_, fun p hp' => ?_, fun b w e => ?_, I0.len⟩
  · rw [upd_ne (Nat.ne_of_lt (Nat.lt_of_lt_of_le (Heap.lt_size e) hs))]
    exact I0.base.free b w e n hx
  · have q := I0.base.tups b xs e
    rw [upd_ne (ne b _ q)]
    exact q
  · have q := I0.base.frzs b w xs e
    rw [upd_ne (ne b _ q)]
    exact q
  · obtain ⟨more, q⟩ := I0.base.tbls b ps e
    exact ⟨more, by rw [upd_ne (ne b _ q)]; exact q⟩
  · rw [upd_ne (Ne.symm hpin.2.2.1)]
    exact I0.free
  · rw [upd_ne (fun z => by
      obtain ⟨v, o2, ho, hdat⟩ := I0.cell x c e
      rw [z] at ho
      have h2 : s.heap.get? a = some o := hpin.1
      rw [h2] at ho
      cases ho
      exact hpin.2.2.2.2 v hdat)]
    exact I0.freeC x c e
  · obtain ⟨h1, h2, h3⟩ := I0.pin p hp'
    exact ⟨h1, by rw [upd_ne (hp p hp')]; exact h2, h3⟩
  · by_cases hb : b = a
    · rw [hb, upd_same] at e
      cases e
      rw [hb]
      exact new
    · rw [upd_ne hb] at e
      exact (I0.hok b w e).stay (fun c v _ q => q) (fun c q => by rw [upd_ne (ne c _ q)]; exact q) fun c xs q => by rw [upd_ne (ne c _ q)]; exact q
end
theorem strs_snoc {z : Str} {t : Tok} : ∀ {vs : List Value} {ss : List Str}, StrsAre vs ss → StrsAre (vs ++ [.str z t]) (ss ++ [z])
  | _, _, .nil => .cons z t .nil
  | _, _, .cons x u h => .cons x u (strs_snoc h)
theorem zip_mapL {α β γ : Type} (f : α → γ) : ∀ (xs : List α) (ys : List β), (xs.map f).zip ys = (xs.zip ys).map fun p => (f p.1, p.2)
  | [], _ => rfl
  | _ :: _, [] => rfl
  | x :: xs, y :: ys => by rw [List.map_cons, List.zip_cons_cons, List.zip_cons_cons, List.map_cons, zip_mapL f xs ys]
def Keyd (zs : List Str) (vs out : List Value) : Prop := ∃ ps : List (Str × Value), ps.Perm (zs.zip vs) ∧ ps.Pairwise (fun p q => ¬ q.1.cps.toList < p.1.cps.toList) ∧ out = ps.map (·.2)
theorem key_out {keys : Array Value} {vs : List Value} {zs : List Str} (hk : StrsAre keys.toList zs) {xs : Array Keyed} (hp : xs.Perm (keys.zip vs.toArray)) (hs : SortedToK strKind xs xs.size) : Keyd zs vs (xs.map (·.2)).toList := by
  have hl : xs.toList.Perm (keys.toList.zip vs) := by rw [← PyProof.Rows.ksk_zip]; exact Array.perm_iff_toList_perm.mp hp
  have hmem : ∀ p, p ∈ xs.toList → ∃ z t, p.1 = .str z t := fun p hp' => hk.all p.1 (List.of_mem_zip (hl.mem_iff.mp hp')).1
  refine ⟨xs.toList.map fun p => (strOf p.1, p.2), ?_, ?_, by rw [Array.toList_map, List.map_map]; rfl⟩
  · have h1 := hl.map fun p : Value × Value => (strOf p.1, p.2)
    have e : (keys.toList.zip vs).map (fun p : Value × Value => (strOf p.1, p.2)) = zs.zip vs := by
      rw [← hk.strs, zip_mapL]
    rw [e] at h1
    exact h1
  · rw [List.pairwise_iff_getElem]
    intro i j hi hj hij
    have hi' : i < xs.size := by simpa using hi
    have hj' : j < xs.size := by simpa using hj
    have h1 := hs i j (Nat.le_of_lt hij) hj'
    obtain ⟨x, t, ex⟩ := hmem xs[i] (by simp)
    obtain ⟨y, u, ey⟩ := hmem xs[j] (by simp)
    rw [KK_str hi' (x := x) (t := t) (q := xs[i].2) (Prod.ext ex rfl), KK_str hj' (x := y) (t := u) (q := xs[j].2) (Prod.ext ey rfl)] at h1
    have h2 : decide (y.cps.toList < x.cps.toList) = false := h1
    simp only [List.getElem_map, Array.getElem_toList]
    rw [show strOf xs[i].1 = x by rw [ex]; rfl, show strOf xs[j].1 = y by rw [ey]; rfl]
    exact of_decide_eq_false h2

section
variable {X : Cx} {pins : List (Addr × Obj)} {σ : L2.St} {A : Around} {E : Value → Shared → Prop} {a kS : Addr} {vs : List Value} {xs : List V} {zs : List Str} {R : Hp → Prop} {e1 : Nat} {P : PySem.Fin → Shared → Prop}
structure Own2 (X : Cx) (pins : List (Addr × Obj)) (a kS : Addr) : Prop where
  sk : X.s_0.heap.objs.size ≤ kS
  sa : X.s_0.heap.objs.size ≤ a
  ka : kS ≠ a
  pk : ∀ p ∈ X.pn ++ pins, p.1 ≠ kS
  pa : ∀ p ∈ X.pn ++ pins, p.1 ≠ a
theorem Own2.pk' {o : Obj} (O : Own2 X pins a kS) : ∀ p ∈ X.pn ++ ((a, o) :: pins), p.1 ≠ kS := fun p hp => by
  rcases List.mem_append.mp hp with h | h
  · exact O.pk p (List.mem_append_left _ h)
  · rcases List.mem_cons.mp h with h | h
    · rw [h]
      exact O.ka.symm
    · exact O.pk p (List.mem_append_right _ h)
theorem noCell (ys : Array Value) (n : Nat) : ∀ v, (seqObj "list" ys n).data ≠ .cell v := fun v z => by cases z
theorem key_tail {keys : Array Value} {e : Nat} {H : Hp} {s : Shared} {st : SortSt} (O : Own2 X pins a kS) (I : Inv X ((kS, seqObj "list" keys e) :: (a, seqObj "list" #[] e1) :: pins) σ H s) (hR : R H) (hk : StrsAre keys.toList zs) (hlen : zs.length = vs.length) (hZ : vs.length ≤ sizeLine)
    (hp : (arrOf st).Perm (keys.zip vs.toArray)) (hs : SortedToK strKind (arrOf st) (arrOf st).size) (hfl : failedOf st = none)
    (h : ∀ s' out c, Inv X ((a, seqObj "list" out c) :: pins) σ H s' → R H → Keyd zs vs out.toList → P (.done (.ret .none)) s') :
    wpAny (model X.prog X.w) A (ksk_tail a false e1 (.ref kS) st) P E s := by
  have hZ2 := hZ
  rw [sizeLine_eq] at hZ2
  have hsz : keys.size = vs.length := by
    have h1 := hk.length
    rw [Array.length_toList] at h1
    omega
  have hsz2 : (arrOf st).size = vs.length := by rw [hp.size_eq, Array.size_zip, hsz, List.size_toArray, Nat.min_self]
  have nk : s.heap.get? kS = some (seqObj "list" keys e) := (I.pin (kS, _) (List.mem_append_right _ List.mem_cons_self)).1
  have na : s.heap.get? a = some (seqObj "list" #[] e1) := (I.pin (a, _) (List.mem_append_right _ (List.mem_cons_of_mem _ List.mem_cons_self))).1
  have s1 := Heap.SameBut.update s.heap kS (Obj.mapSeq fun _ => (#[] : Array Value))
  have na1 : (s.heap.update kS (Obj.mapSeq fun _ => (#[] : Array Value))).get? a = some (seqObj "list" #[] e1) := (s1.2 a O.ka.symm).trans na
  obtain ⟨c1, hc1⟩ : ∃ c1, (s.heap.update kS (Obj.mapSeq fun _ => (#[] : Array Value))).get? kS = some (seqObj "list" #[] c1) := ⟨_, get?_update_seq nk fun _ => #[]⟩
  have s2 := Heap.SameBut.update (s.heap.update kS (Obj.mapSeq fun _ => (#[] : Array Value))) a (Obj.mapSeq fun _ => (arrOf st).map (·.2))
  obtain ⟨c2, hc2⟩ : ∃ c2, ((s.heap.update kS (Obj.mapSeq fun _ => (#[] : Array Value))).update a (Obj.mapSeq fun _ => (arrOf st).map (·.2))).get? a = some (seqObj "list" ((arrOf st).map (·.2)) c2) := ⟨_, get?_update_seq na1 fun _ => (arrOf st).map (·.2)⟩
  unfold ksk_tail
  try dsimp only
  refine wpAny_bind (listUpdate_at nk rfl ?_ (by rw [hsz, sizeLine_eq]; omega) (Nat.zero_le _))
  refine wpAny_bind (wpAny_letGo ?_)
  refine wpAny_bind (seqEpoch_at na1 rfl ?_)
  simp only [Bool.false_eq_true, if_false]
  refine wpAny_bind (listUpdate_at na1 rfl ?_ (Nat.zero_le _) (by rw [Array.size_map, hsz2, sizeLine_eq]; omega))
  rw [hfl]
  simp only [bne_self_eq_false, Bool.false_eq_true, if_false]
  have I1 := repin (t' := s.toks) I O.sk O.pk' (fun b u hb q => (s1.2 b hb).trans q) hc1 (noCell _ _)
  have I2 := repin (t' := s.toks) (ClX.unpin I1) O.sa O.pa (fun b u hb q => (s2.2 b hb).trans q) hc2 (noCell _ _)
  exact wpAny_pure (h _ _ c2 I2 hR (key_out hk hp hs))
theorem key_end {keys : Array Value} {e : Nat} {H : Hp} {s : Shared} (O : Own2 X pins a kS) (I : Inv X ((kS, seqObj "list" keys e) :: (a, seqObj "list" #[] e1) :: pins) σ H s) (hR : R H) (hk : StrsAre keys.toList zs) (hlen : zs.length = vs.length) (hZ : vs.length ≤ sizeLine)
    (h : ∀ s' out c, Inv X ((a, seqObj "list" out c) :: pins) σ H s' → R H → Keyd zs vs out.toList → P (.done (.ret .none)) s') :
    wpAny (model X.prog X.w) A (ksk_end a false vs.toArray e1 (.ref kS) keys) P E s := by
  have hZ2 := hZ
  rw [sizeLine_eq] at hZ2
  have hsz : keys.size = vs.length := by
    have h1 := hk.length
    rw [Array.length_toList] at h1
    omega
  have hzs : (keys.zip vs.toArray).size = vs.length := by rw [Array.size_zip, hsz, List.size_toArray, Nat.min_self]
  have kO : KeysOf strKind (keys.zip vs.toArray) := fun p hp => by
    rw [PyProof.Rows.ksk_zip] at hp
    obtain ⟨z, t, e⟩ := hk.all p.1 (List.of_mem_zip hp).1
    exact ⟨z.cps.toList, by rw [e]⟩
  unfold ksk_end
  simp only [Bool.false_eq_true, if_false]
  by_cases h2 : vs.toArray.size < 2
  · rw [if_pos h2, if_pos h2]
    refine wpAny_bind (wpAny_pure ?_)
    rw [StateT.run_pure]
    refine wpAny_bind (wpAny_pure ?_)
    try dsimp only
    refine key_tail (st := SortSt.mk' general' (keys.zip vs.toArray) #[] 7 none) O I hR hk hlen hZ (Array.Perm.refl _) ?_ rfl h
    intro i j hij hj
    have hj2 : j < (keys.zip vs.toArray).size := hj
    rw [hzs] at hj2
    rw [List.size_toArray] at h2
    have : i = j := by omega
    subst this
    exact KeyOrd.kle_refl _
  · rw [if_neg h2, if_neg h2]
    rw [List.size_toArray] at h2
    have kk : keyKind' keys = pure oneType' := by
      match hv : keys.toList, hk with
      | [], _ => rw [← Array.length_toList, hv] at hsz; simp at hsz; omega
      | [_], _ => rw [← Array.length_toList, hv] at hsz; simp at hsz; omega
      | v1 :: v2 :: r, hk' =>
        have e : keys = (v1 :: v2 :: r).toArray := by rw [← hv]
        rw [e]
        exact keyKind_strs hk'
    rw [kk]
    refine wpAny_bind (wpAny_pure ?_)
    refine wpAny_bind (wpAny_mono (wpS_sortRunsAny (κ := strKind) (a₀ := keys.zip vs.toArray) (st := SortSt.mk' oneType' (keys.zip vs.toArray) #[] 7 none)
      (Q := fun _ st' => (arrOf st').Perm (keys.zip vs.toArray) ∧ failedOf st' = none ∧ SortedToK strKind (arrOf st') (keys.zip vs.toArray).size)
      strKind_oneLt kO ⟨Array.Perm.refl _, rfl, rfl⟩ rfl (by rw [hzs]; omega) fun st' a1 a2 a3 => ⟨a1, a2, a3⟩) ?_ fun _ _ e => e)
    rintro ⟨⟨⟩, st'⟩ s' ⟨rfl, hp, hf, hs⟩
    try dsimp only
    exact key_tail O I hR hk hlen hZ hp (by rw [hp.size_eq]; exact hs) hf h
theorem key_rest {f : Value} {H : Hp} {s : Shared} (O : Own2 X pins a kS) (I : Inv X ((kS, seqObj "list" #[] 0) :: (a, seqObj "list" #[] e1) :: pins) σ H s) (hR : R H) (rv : Vals xs vs) (hlen : zs.length = vs.length) (hZ : vs.length ≤ sizeLine)
    (turn : ∀ (i : Nat) (x : V) (z : Str), xs[i]? = some x → zs[i]? = some z → ∀ (pn : List (Addr × Obj)) (s' : Shared) (H' : Hp) (u : Value), Inv X (pn ++ pins) σ H' s' → R H' → RelV x u →
      wpAny (model X.prog X.w) A (call f [u]) (EP X (pn ++ pins) σ fun v H2 => v = .str z ∧ R H2) (fun _ _ => False) s')
    (h : ∀ s' H' out c, Inv X ((a, seqObj "list" out c) :: pins) σ H' s' → R H' → Keyd zs vs out.toList → P (.done (.ret .none)) s') :
    wpAny (model X.prog X.w) A (ksk_rest a f false vs.toArray e1 (.ref kS)) P E s := by
  have hZ2 := hZ
  rw [sizeLine_eq] at hZ2
  unfold ksk_rest
  refine wpAny_bind (wpAny_rule ?_)
  first
    | rw [List.forIn_toArray]
    | (rw [← Array.forIn_toList]; simp only [List.toList_toArray])
    | rw [← Array.forIn_toList]
  refine wpAny_bind (ksk_fold (fun i s' => ∃ H' kA e, Inv X ((kS, seqObj "list" kA e) :: (a, seqObj "list" #[] e1) :: pins) σ H' s' ∧ R H' ∧ StrsAre kA.toList (zs.take i)) vs 0 s
    ⟨H, #[], 0, I, hR, by simpa using StrsAre.nil⟩ ?step ?done)
  case step =>
    rintro j u s' hx ⟨H', kA, e, I', hR', hk⟩
    simp only [Nat.zero_add] at hk ⊢
    have hj : j < vs.length := (List.getElem?_eq_some_iff.mp hx).1
    obtain ⟨z, hzj⟩ : ∃ z, zs[j]? = some z := ⟨_, List.getElem?_eq_getElem (by omega)⟩
    have hz : kA.size ≤ vs.length := by
      have h1 := hk.length
      rw [Array.length_toList, List.length_take] at h1
      omega
    obtain ⟨x, hxj, rx⟩ : ∃ x, xs[j]? = some x ∧ RelV x u := by
      have hjx : j < xs.length := by rw [rv.length]; exact hj
      obtain ⟨u', hu', r'⟩ := rv.get (List.getElem?_eq_getElem hjx)
      rw [hx] at hu'
      cases hu'
      exact ⟨_, List.getElem?_eq_getElem hjx, r'⟩
    refine wpAny_bind (wpAny_attempt (wpAny_mono (turn j x z hxj hzj [(kS, seqObj "list" kA e), (a, seqObj "list" #[] e1)] s' H' u I' hR' rx) (fun v s'' he => ?_) fun _ _ hF => hF.elim))
    obtain ⟨y, H2, I2, ry, rfl, hR2⟩ := he
    obtain ⟨t2, rfl⟩ := ry
    try dsimp only
    have I2' : Inv X ((kS, seqObj "list" kA e) :: (a, seqObj "list" #[] e1) :: pins) σ H2 s'' := I2
    have nk : s''.heap.get? kS = some (seqObj "list" kA e) := (I2'.pin (kS, _) (List.mem_append_right _ List.mem_cons_self)).1
    have s1 := Heap.SameBut.update s''.heap kS (Obj.mapSeq (·.push (.str z t2)))
    obtain ⟨c2, hc2⟩ : ∃ c2, (s''.heap.update kS (Obj.mapSeq (·.push (.str z t2)))).get? kS = some (seqObj "list" (kA.push (.str z t2)) c2) := ⟨_, get?_update_seq nk (·.push (.str z t2))⟩
    have ek : zs.take (j + 1) = zs.take j ++ [z] := by rw [List.take_add_one, hzj]; simp
    have ea : (kA.push (Value.str z t2)).toList = kA.toList ++ [Value.str z t2] := by simp
    refine wpAny_bind (listUpdate_at nk rfl ?_ (by rw [sizeLine_eq]; omega) (Nat.le_trans (Nat.le_of_eq (Array.size_push ..)) (by rw [sizeLine_eq]; omega)))
    refine wpAny_pure ⟨rfl, H2, kA.push (.str z t2), c2, repin (t' := s''.toks) I2' O.sk O.pk' (fun b u hb q => (s1.2 b hb).trans q) hc2 (noCell _ _), hR2, ?_⟩
    rw [ea, ek]
    exact strs_snoc hk
  case done =>
    rintro s' ⟨H', kA, e, I', hR', hk⟩
    have hk' : StrsAre kA.toList zs := by
      have e3 : zs.take (0 + vs.length) = zs := List.take_of_length_le (by omega)
      rw [e3] at hk
      exact hk
    have nk : s'.heap.get? kS = some (seqObj "list" kA e) := (I'.pin (kS, _) (List.mem_append_right _ List.mem_cons_self)).1
    try dsimp only
    refine wpAny_bind (listItems_at nk rfl ?_)
    exact key_end O I' hR' hk' hlen hZ fun s2 out c I2 hR2 k2 => h s2 H' out c I2 hR2 k2
end
section
variable {X : Cx} {pins : List (Addr × Obj)} {σ : L2.St} {E : Value → Shared → Prop} {xs : List V} {zs : List Str} {R : Hp → Prop}
def KeydV (zs : List Str) (xs out : List V) : Prop := ∃ ps : List (Str × V), ps.Perm (zs.zip xs) ∧ ps.Pairwise (fun p q => ¬ q.1.cps.toList < p.1.cps.toList) ∧ out = ps.map (·.2)
theorem keyd_vals {vs out : List Value} (rv : Vals xs vs) (hlen : zs.length = xs.length) (k : Keyd zs vs out) : ∃ ys, Vals ys out ∧ KeydV zs xs ys := by
  obtain ⟨ps, pm, pw, rfl⟩ := k
  -- the places
  have go : ∀ {ps qs : List (Str × Value)}, ps.Perm qs → ∀ ws : List (Str × V), Paired (fun (p : Str × V) (q : Str × Value) => p.1 = q.1 ∧ RelV p.2 q.2) ws qs → ∃ rs : List (Str × V), rs.Perm ws ∧ Paired (fun (p : Str × V) (q : Str × Value) => p.1 = q.1 ∧ RelV p.2 q.2) rs ps := by
    intro ps qs pm
    induction pm with
    | nil =>
      intro ws h
      cases h
      exact ⟨[], List.Perm.refl _, .nil⟩
    | cons x _ ih =>
      intro ws h
      cases h with
      | cons r t =>
        obtain ⟨rs, p1, p2⟩ := ih _ t
        exact ⟨_ :: rs, p1.cons _, .cons r p2⟩
    | swap x y l =>
      intro ws h
      cases h with
      | cons r t =>
        cases t with
        | cons r2 t2 => exact ⟨_ :: _ :: _, List.Perm.swap _ _ _, .cons r2 (.cons r t2)⟩
    | trans _ _ ih1 ih2 =>
      intro ws h
      obtain ⟨rs, p1, p2⟩ := ih2 _ h
      obtain ⟨rs', p3, p4⟩ := ih1 _ p2
      exact ⟨rs', p3.trans p1, p4⟩
  have zp : ∀ {xs : List V} {vs : List Value} (zs : List Str), Vals xs vs → Paired (fun (p : Str × V) (q : Str × Value) => p.1 = q.1 ∧ RelV p.2 q.2) (zs.zip xs) (zs.zip vs) := by
    intro xs vs zs r
    induction r generalizing zs with
    | nil => cases zs <;> exact .nil
    | cons r t ih =>
      cases zs with
      | nil => exact .nil
      | cons z zs => exact .cons ⟨rfl, r⟩ (ih zs)
  obtain ⟨rs, p1, p2⟩ := go pm _ (zp zs rv)
  have m2 : ∀ {rs : List (Str × V)} {ps : List (Str × Value)}, Paired (fun (p : Str × V) (q : Str × Value) => p.1 = q.1 ∧ RelV p.2 q.2) rs ps → Vals (rs.map (·.2)) (ps.map (·.2)) ∧ rs.map (·.1) = ps.map (·.1) := by
    intro rs ps h
    induction h with
    | nil => exact ⟨.nil, rfl⟩
    | cons r t ih => exact ⟨.cons r.2 ih.1, by rw [List.map_cons, List.map_cons, ih.2, r.1]⟩
  refine ⟨rs.map (·.2), (m2 p2).1, rs, p1, ?_, rfl⟩
  have e := (m2 p2).2
  have q1 : (ps.map (·.1)).Pairwise (fun p q : Str => ¬ q.cps.toList < p.cps.toList) := List.pairwise_map.mpr pw
  rw [← e] at q1
  exact List.pairwise_map.mp q1
theorem collect_seq {prog : Program} {w : World} {A : Around} {E : Value → Shared → Prop} {s : Shared} {l : Addr} {vs : List Value} {Q : List Value → Shared → Prop} {T : String} (hl : ∃ o n, s.heap.get? l = some o ∧ o.cls = .type T ∧ o.data = .seq vs.toArray n) (hT : T = "list" ∨ T = "tuple")
    (h : Q vs { s with heap := (s.heap.push (seqObj "list" #[] 0)).update s.heap.objs.size (Obj.mapSeq (· ++ vs.toArray)) }) (hsz : vs.length ≤ sizeLine) :
    wpAny (model prog w) A (collect (.ref l)) Q E s := by
  obtain ⟨o, n, ho, hc, hd⟩ := id hl
  unfold collect
  refine wpAny_bind (wpAny_runValue (codeAny_builtin entry_proto_collect' ?_))
  show wpAny _ _ (do again (.builtin "list.__iadd__" ⟨[← newList [], .ref l], []⟩)) _ _ s
  refine wpAny_bind (wpAny_newList (wpAny_pure ⟨Code.quiet_builtin _ (by decide +kernel), codeAny_builtin entry_list_iadd' ?_⟩))
  show wpAny _ _ (Builtin.List.listExtendWith (.ref s.heap.objs.size) (.ref l) (.ref s.heap.objs.size)) _ _ { s with heap := s.heap.push (seqObj "list" #[] 0) }
  unfold Builtin.List.listExtendWith
  have ho' : (s.heap.push (seqObj "list" #[] 0)).get? l = some o := Heap.get?_push_of_some _ ho
  refine wpAny_bind (wpAny_typeOf (T := T) ⟨o, ho', hc⟩ ?_)
  have t1 : (Value.type "list" == Value.type "list") = true := by rfl
  have t2 : (Value.type "tuple" == Value.type "tuple") = true := by rfl
  rw [if_pos (by
    rcases hT with e | e
    · subst e
      rw [t1]
      simp
    · subst e
      rw [t2]
      simp)]
  refine wpAny_bind (listItems_at ho' hd ?_)
  refine wpAny_bind (listItems_at (xs := #[]) (n := 0) (Heap.get?_push_size _ rfl) rfl ?_)
  rw [if_neg (by simp)]
  refine wpAny_bind (listUpdate_at (xs := #[]) (n := 0) (Heap.get?_push_size _ rfl) rfl ?_ (Nat.zero_le _) (by show (#[] ++ vs.toArray).size ≤ sizeLine + 1; simp only [Array.size_append, List.size_toArray, List.length_nil]; omega))
  refine wpAny_pure ?_
  show wpAny (model prog w) A (do
      let o ← load s.heap.objs.size
      match o.data with
      | .seq xs _ => pure xs.toList
      | _ => unsupported "internal:collect") Q E { s with heap := (s.heap.push (seqObj "list" #[] 0)).update s.heap.objs.size (Obj.mapSeq (· ++ vs.toArray)) }
  refine wpAny_bind (wpAny_load (get?_update_seq (Heap.get?_push_size _ rfl) _) ?_)
  show wpAny _ _ (pure ((#[] : Array Value) ++ vs.toArray).toList) Q E _
  rw [show ((#[] : Array Value) ++ vs.toArray).toList = vs by simp]
  exact wpAny_pure h
def Sq (K : PySem.W.Frag) (H : Hp) (a : Addr) (xs : List V) : Prop := SqL K H a xs ∨ SqT K H a xs
theorem sq_at {H : Hp} {s : Shared} {a : Addr} {xs : List V} (I : Inv X pins σ H s) (h : Sq X.K H a xs) : ∃ its : List Value, Vals xs its ∧ xs.length ≤ sizeLine ∧ ∃ T : String, (T = "list" ∨ T = "tuple") ∧ ∃ o n, s.heap.get? a = some o ∧ o.cls = .type T ∧ o.data = .seq its.toArray n := by
  rcases h with h | h
  · obtain ⟨its, r, ⟨o, n, e, c, _, d⟩, z⟩ := I.list h
    exact ⟨its, r, z, _, .inl rfl, o, n, e, c, d⟩
  · obtain ⟨its, r, ⟨o, e, c, n, d⟩, z⟩ := I.tuple h
    exact ⟨its, r, z, _, .inr rfl, o, n, e, c, d⟩
theorem sorted_key {f : Addr} {l : Addr} {H : Hp} {s : Shared} {Q : Value → Shared → Prop} (I : Inv X pins σ H s) (hR : R H) (hl : Sq X.K H l xs) (hlen : zs.length = xs.length)
    (turn : ∀ (i : Nat) (x : V) (z : Str), xs[i]? = some x → zs[i]? = some z → ∀ (pn : List (Addr × Obj)) (s' : Shared) (H' : Hp) (u : Value), Inv X (pn ++ pins) σ H' s' → R H' → RelV x u →
      wpAny (model X.prog X.w) X.A.in1.in1 (call (.ref f) [u]) (EP X (pn ++ pins) σ fun v H2 => v = .str z ∧ R H2) (fun _ _ => False) s')
    (h : ∀ (D : Addr) (s' : Shared) (H' : Hp) (ys : List V), Inv X pins σ (upd H' D (.lst ys)) s' → H' D = none → R H' → KeydV zs xs ys → Q (.ref D) s') :
    wpAny (model X.prog X.w) X.A (call (.builtin "sorted") [.ref l] [(Str.ofString "key", .ref f)]) Q E s := by
  obtain ⟨vs, rv, hz, T, hT, pl⟩ := sq_at I hl
  have hlv := rv.length
  have hZ : vs.length ≤ sizeLine := by omega
  have hZ2 := hZ
  rw [sizeLine_eq] at hZ2
  refine call_function_entry_kw kind_sorted plain_sorted entry_sorted (PyProof.Rows.ksk_s1 _ _) ?_
  unfold Builtin.«sorted»
  refine wpAny_bind (m := checkCount "sorted" 1 1 _) (wpAny_pure ?_)
  refine wpAny_bind (collect_seq pl hT ?_ (by rw [sizeLine_eq]; omega))
  refine wpAny_bind (wpAny_newList ?_ (by rw [sizeLine_eq]; omega))
  have hsz : ((s.heap.push (seqObj "list" #[] 0)).update s.heap.objs.size (Obj.mapSeq (· ++ vs.toArray))).objs.size = s.heap.objs.size + 1 := by
    rw [Heap.size_update, size_push']
  have hoL : (((s.heap.push (seqObj "list" #[] 0)).update s.heap.objs.size (Obj.mapSeq (· ++ vs.toArray))).push (seqObj "list" vs.toArray 0)).get? (s.heap.objs.size + 1) = some (seqObj "list" vs.toArray 0) := by
    rw [← hsz]; exact Heap.get?_push_size _ rfl
  have keep : ∀ b o, s.heap.get? b = some o → (((s.heap.push (seqObj "list" #[] 0)).update s.heap.objs.size (Obj.mapSeq (· ++ vs.toArray))).push (seqObj "list" vs.toArray 0)).get? b = some o := fun b o q => by
    have hlt : b < s.heap.objs.size := Heap.lt_size q
    rw [Heap.get?_push_ne _ _ _ (by rw [hsz]; exact Nat.ne_of_lt (Nat.lt_succ_of_lt hlt)), Heap.get?_update_ne _ _ _ _ (Nat.ne_of_lt hlt), Heap.get?_push_ne _ _ _ (Nat.ne_of_lt hlt)]
    exact q
  have szA : (((s.heap.push (seqObj "list" #[] 0)).update s.heap.objs.size (Obj.mapSeq (· ++ vs.toArray))).push (seqObj "list" vs.toArray 0)).objs.size = s.heap.objs.size + 2 := by rw [size_push', hsz]
  generalize (((s.heap.push (seqObj "list" #[] 0)).update s.heap.objs.size (Obj.mapSeq (· ++ vs.toArray))).push (seqObj "list" vs.toArray 0)) = hA at hoL keep szA
  show wpAny _ _ _ _ _ { s with heap := hA }
  rw [hsz]
  refine wpAny_bind (wpAny_holding (wpAny_call_entry_kw slot_list_sort ⟨_, hoL, rfl⟩ entry_list_sort ?body (PyProof.Rows.ksk_l1 _ _)))
  case body =>
    show wpAny (model X.prog X.w) X.A.in1.in1 (Builtin.«list.sort» ⟨[.ref (s.heap.objs.size + 1)], [(Str.ofString "key", .ref f)]⟩) _ _ _
    rw [PyProof.Rows.ksk_t1]
    -- the sort's own lists
    have s1 := Heap.SameBut.update hA (s.heap.objs.size + 1) (Obj.mapSeq fun _ => (#[] : Array Value))
    obtain ⟨e1, ho1⟩ : ∃ e1, (hA.update (s.heap.objs.size + 1) (Obj.mapSeq fun _ => (#[] : Array Value))).get? (s.heap.objs.size + 1) = some (seqObj "list" #[] e1) := ⟨_, get?_update_seq hoL fun _ => #[]⟩
    have keep2 : ∀ b o, s.heap.get? b = some o → (((hA.update (s.heap.objs.size + 1) (Obj.mapSeq fun _ => (#[] : Array Value))).push (seqObj "tuple" vs.toArray 0)).push (seqObj "list" #[] 0)).get? b = some o := fun b o q => by
      have hlt : b < s.heap.objs.size := Heap.lt_size q
      exact Heap.get?_push_of_some _ (Heap.get?_push_of_some _ ((s1.2 b (Nat.ne_of_lt (Nat.lt_succ_of_lt hlt))).trans (keep b o q)))
    have hkS : ((hA.update (s.heap.objs.size + 1) (Obj.mapSeq fun _ => (#[] : Array Value))).push (seqObj "tuple" vs.toArray 0)).objs.size = s.heap.objs.size + 3 := by rw [size_push', Heap.size_update, szA]
    have ltp : ∀ p ∈ X.pn ++ pins, p.1 < s.heap.objs.size := fun p hp => Heap.lt_size (I.pin p hp).1
    unfold ksk_tree
    refine wpAny_bind (listItems_at hoL rfl ?_)
    refine wpAny_bind (listUpdate_at hoL rfl ?_ (by rw [List.size_toArray, sizeLine_eq]; omega) (Nat.zero_le _))
    refine wpAny_bind (seqEpoch_at ho1 rfl ?_)
    refine wpAny_bind (wpAny_newTuple ?_ (by show vs.length ≤ _; rw [sizeLine_eq]; omega))
    refine wpAny_bind (wpAny_newList ?_ (Nat.zero_le _))
    refine wpAny_holding ?_
    have O : Own2 X pins (s.heap.objs.size + 1) (s.heap.objs.size + 3) := ⟨Nat.le_trans I.sz (Nat.le_add_right _ _), Nat.le_trans I.sz (Nat.le_add_right _ _), Nat.ne_of_gt (Nat.add_lt_add_left (by decide : 1 < 3) s.heap.objs.size), fun p hp => Nat.ne_of_lt (Nat.lt_of_lt_of_le (ltp p hp) (Nat.le_add_right _ _)), fun p hp => Nat.ne_of_lt (Nat.lt_of_lt_of_le (ltp p hp) (Nat.le_add_right _ _))⟩
    have Ia : Inv X ((s.heap.objs.size + 1, seqObj "list" #[] e1) :: pins) σ H { s with heap := ((hA.update (s.heap.objs.size + 1) (Obj.mapSeq fun _ => (#[] : Array Value))).push (seqObj "tuple" vs.toArray 0)).push (seqObj "list" #[] 0) } :=
      ClX.pin_new (t' := s.toks) I keep2 (Nat.le_succ _) (Heap.get?_push_of_some _ (Heap.get?_push_of_some _ ho1)) (noCell _ _)
    have Ik : Inv X ((s.heap.objs.size + 3, seqObj "list" #[] 0) :: (s.heap.objs.size + 1, seqObj "list" #[] e1) :: pins) σ H { s with heap := ((hA.update (s.heap.objs.size + 1) (Obj.mapSeq fun _ => (#[] : Array Value))).push (seqObj "tuple" vs.toArray 0)).push (seqObj "list" #[] 0) } := by
      refine Ia.pins_of fun p hp => ?_
      rcases List.mem_cons.mp hp with e | e
      · subst e
        refine ⟨?_, I.hok.fresh (Nat.le_add_right s.heap.objs.size 3), Nat.ne_of_gt (Nat.lt_of_lt_of_le I.lt (Nat.le_add_right s.heap.objs.size 3)), I.nofs (Nat.le_add_right s.heap.objs.size 3), noCell _ _⟩
        show Heap.get? _ (s.heap.objs.size + 3) = _
        rw [← hkS]
        exact Heap.get?_push_size _ rfl
      · exact Ia.pin p (List.mem_append_right _ e)
    rw [hkS]
    refine key_rest (R := R) O Ik hR rv (by omega) hZ turn fun s2 H2 out c I2 hR2 k2 => ⟨_, rfl, ?_⟩
    refine wpAny_pure ⟨_, rfl, ?_⟩
    obtain ⟨ys, ry, ky⟩ := keyd_vals rv hlen k2
    have hD : H2 (s.heap.objs.size + 1) = none := ClX.pin_un I2
    have ly : ys.length = xs.length := by
      obtain ⟨ps, pm, _, e⟩ := ky
      rw [e, List.length_map, pm.length_eq, List.length_zip, hlen, Nat.min_self]
    refine h _ s2 H2 ys (track I2 O.sa O.pa ⟨by omega, out.toList, c, ry, ?_⟩) hD hR2 ky
    have := ClX.pin_at I2
    simpa using this
end
end JW
namespace JW
open PySem PySem.Spec PyProof.Rows L2 LamX
theorem lam_run {P : Program} {w : World} {K : PySem.W.Frag} {mg : Str → Option Value} {base : Heap} {CX : CXT} {N ps : List Str} {k : Nat} {nm qual : Str} {params : Arguments} {body : Expr} {scope : Scope} {f c' : Addr} {pm ctv : Value} {A : Around} {outer : List Env} {s : Shared} {H : Hp} {Q : VK} {E : XK}
    {us : List Value} {vs : List V} {t : TE} (ho : s.heap.get? f = some (PySem.W.kla_obj nm qual params body scope [] pm c' ctv)) (hcd : s.heap.CodeRec (.ref c') qual) (S : FnScope N ps scope) (hr : Room (k + 1) A) (e0 : Env0 P w K mg base A outer s H)
    (hb : BindsTo s (PySem.W.kla_fn nm qual params body scope [] pm (.ref c') ctv) ⟨us, []⟩ (ps.zip us)) (hl : vs.length = ps.length) (r : Vals vs us)
    (hbody : PE (cxOf CX P w K mg base N qual scope f (.ref c') A outer s H E).nox body t) (h : t (start N vs) H Q) :
    codeAny (model P w) A (.call (.ref f) ⟨us, []⟩) (CR CX outer P w H s Q E) s := by
  have lim : s.heap.NoLimit := e0.mod.nolimit.keeps fun b o e => (e0.bs b o e).1
  have hkind : ∀ y ∈ ps.zip us, scope.names.lookup y.1 = some .local ∨ (scope.names.lookup y.1 = some .cell ∧ ((cellsFrom (s.heap.objs.size + 1) scope.names []).lookup y.1).isSome = true) := fun ⟨n, v⟩ hy => by
    rcases S.par n (List.of_mem_zip hy).1 with q | q
    · exact .inl q
    · exact .inr ⟨q, PySem.W.cellsFrom_some _ _ _ (.inl q)⟩
  refine PySem.W.kla_callFunE hr.depth ho rfl S.co S.gen rfl hcd (hb _ _ _ _ ?_)
  refine wpAny_newFunctionEnv_cells S.kind hkind fun env he s1 x => ?_
  subst he
  refine ⟨lim.keeps x.toInCall.keep, ?_⟩
  have I : Inv (cxOf CX P w K mg base N qual scope f (.ref c') A outer s H E) [] (start N vs) H s1 := inv_start S hr.hd e0 hl r x
  refine PySem.W.kla_codeExpr (wpAny_mono (hbody.nox.run [] s1 (start N vs) H Q I h) (fun v s' hq => ?_) fun e s' hs => hs)
  obtain ⟨v', H', J, rv, q⟩ := hq
  exact ⟨v', H', J.os, J.bare, J.base, J.hok, rv, q⟩
def tSortKey (K : PySem.W.Frag) (T : List (Addr × Str)) (te : TE) (N : List Str) (tb : TE) : TE := fun σ H Q => te σ H fun x H1 => ∃ (l : Addr) (xs : List V) (zs : List Str), x = .ref l ∧ Sq K H1 l xs ∧ zs.length = xs.length ∧ Tabs T H1 ∧
  ∀ H2, ExtN H1 H2 → Tabs T H2 → ∃ R : Hp → Prop, R H2 ∧ (∀ H', R H' → ExtN H2 H') ∧
    (∀ (i : Nat) (x : V) (z : Str), xs[i]? = some x → zs[i]? = some z → ∀ H', R H' → tb (start N [x]) H' fun v H3 => v = .str z ∧ R H3) ∧
    ∀ (D : Addr) (H' : Hp) (ys : List V), R H' → H' D = none → KeydV zs xs ys → Q (.ref D) (upd H' D (.lst ys))
section
variable {X : Cx} {e : Expr} {te tb : TE} {T : List (Addr × Str)} {c P : Addr} {params : Arguments} {body : Expr} {scope : Scope} {p pos lpos kpos : Pos} {N : List Str} {y : Str} {k : Nat}
theorem pe_sortedKey (he : PE X e te) (hg : Gl X "sorted") (hm : X.mg "sorted" = none) (TB : TabB X.base X.mg c P) (hcode : X.env.code = .ref c) (hT : (P, X.env.qual ++ "<lambda>") ∈ T) (hu : ∀ q ∈ T, q.1 = P → q.2 = X.env.qual ++ "<lambda>") (hr : Room (k + 3) X.A)
    (S : FnScope N [y] scope) (hbd : ∀ (q : Str) (pm cdv ctv u : Value), bindArgs (PySem.W.kla_fn "<lambda>" q params body scope [] pm cdv ctv) ⟨[u], []⟩ = pure [(y, u)])
    (hbody : ∀ (A : Around) (outer : List Env) (s : Shared) (H : Hp) (f : Addr) (cd : Value), Room k (A.deeper (envOfC (X.env.qual ++ "<lambda>") scope s.heap.objs.size f cd)) → PE (cxOf CX0 X.prog X.w X.K X.mg X.base N (X.env.qual ++ "<lambda>") scope f cd A outer s H E0).nox body tb)
    (hdef : defaultsOf params X.env = ([], []) := by rfl) (hclo : cloFrom X.env.cells scope.names [] = [] := by rfl)
    (hst : backTo pos (starEach [e] X.env) = [(false, eval e X.env)] := by rfl) : PE X (.Call (.Name "sorted" p) [e] [⟨some "key", .Lambda params body scope lpos, kpos⟩] pos) (tSortKey X.K T te N tb) := by
  refine ⟨fun pins s σ H Q I h => ?_⟩
  have hfree : ∀ y ∈ scope.names, y.2 = .free → ∃ c, X.env.cells.lookup y.1 = some c := fun y hy e => absurd e (S.nofree y hy)
  refine wpAny_Call_Name_kw (ld_blt I hg hm (by decide +kernel : bootBuiltins "sorted" = some (.builtin "sorted")) ?_ (by decide) (by decide))
  refine PyProof.Rows.callWith_kw (e := e) (rest := []) ?_ hst (by rw [hst]; rfl) (by rfl) (by rfl)
  rw [hst]
  refine Calls.spliced_cons (thn (he.run pins s σ H _ I h) fun u s1 ⟨x, H1, I1, r1, q1⟩ => Calls.spliced_nil ?_)
  obtain ⟨l, xs, zs, rfl, hl, hlen, hTb, q⟩ := q1
  cases r1
  show wpAny _ _ (evalAll [(do let v ← eval (.Lambda params body scope lpos) X.env; standAt pos; pure v)]) _ _ s1
  refine wpAny_evalAll_cons (wpAny_bind ?_)
  refine LamX.lam_make2 I1 TB hcode hT hu hTb hdef hfree fun f c' pm ctv H2 s2 I2 hE hTb2 hf hfn hfr hco => ?_
  rw [hclo] at hf
  refine wpAny_bind (wpAny_standAt (wpAny_pure (wpAny_evalAll_nil ?_)))
  show wpAny (model X.prog X.w) X.A (call (.builtin "sorted") [.ref l] [(Str.ofString "key", .ref f)]) _ _ _
  have fne : f ≠ X.env.locals := fun z => by
    obtain ⟨m, ⟨o, es, ep, ho, hd, _⟩, _⟩ := I2.loc
    rw [← z, hf] at ho
    cases ho
    cases hd
  have ffs : f ∉ X.fs := fun z => hfr (by
    rcases I2.ok.stk with e | ⟨e, _⟩
    · rw [e]
      exact z
    · rw [e]
      obtain ⟨o, ho, he'⟩ := List.mem_filterMap.mp z
      exact List.mem_filterMap.mpr ⟨o, List.mem_cons_of_mem _ ho, he'⟩)
  have I3 : Inv X ((f, PySem.W.kla_obj "<lambda>" (X.env.qual ++ "<lambda>") params body scope [] pm c' ctv) :: pins) σ H2 s2 := by
    refine I2.pins_of fun p hp => ?_
    rcases List.mem_cons.mp hp with e | e
    · subst e
      exact ⟨hf, hfn, fne, ffs, fun v z => by cases z⟩
    · exact I2.pin p (List.mem_append_right _ e)
  obtain ⟨R, hR, hRE, turn, fin⟩ := q H2 hE hTb2
  have hl2 : Sq X.K H2 l xs := by
    rcases hl with ((h | ⟨o, h⟩) | h) | ((h | ⟨o, h⟩) | h)
    · exact .inl (.inl (.inl (hE _ _ h fun ps z => by cases z)))
    · exact .inl (.inl (.inr ⟨o, hE _ _ h fun ps z => by cases z⟩))
    · exact .inl (.inr h)
    · exact .inr (.inl (.inl (hE _ _ h fun ps z => by cases z)))
    · exact .inr (.inl (.inr ⟨o, hE _ _ h fun ps z => by cases z⟩))
    · exact .inr (.inr h)
  refine sorted_key (R := R) I3 hR hl2 hlen (fun i x z hx hz pn s' H' u I' hR' rx => ?_) fun D s' H' ys I' hD hR' ky => ⟨.ref D, _, ClX.unpin I', rfl, fin D H' ys hR' hD ky⟩
  have hf' : s'.heap.get? f = some (PySem.W.kla_obj "<lambda>" (X.env.qual ++ "<lambda>") params body scope [] pm c' ctv) := (I'.pin (f, _) (List.mem_append_right _ (List.mem_append_right _ List.mem_cons_self))).1
  have hco' := hRE H' hR' c' _ hco LamX.codeO_ne
  obtain ⟨⟨oc, vs, t, hoc, hdc, hvc⟩, _, _⟩ := I'.hok c' _ hco'
  have hbi : BindsTo s' (PySem.W.kla_fn "<lambda>" (X.env.qual ++ "<lambda>") params body scope [] pm (.ref c') ctv) ⟨[u], []⟩ ([y].zip [u]) := .of_eq (hbd _ _ _ _ _)
  have hr2 : Room (k + 1) X.A.in1.in1 := hr.in1.in1
  refine wpAny_call (codeAny_mono (lam_run (CX := CX0) (E := E0) (N := N) hf' ⟨c', oc, vs, t, rfl, hoc, hdc, hvc⟩ S hr2 I'.env0.in1.in1 hbi rfl (.cons rx .nil) (hbody _ _ s' H' f _ (hr2.deeper _)) (turn i x z hx hz H' hR')) fun r s'' hq => ?_)
  cases r with
  | error er => exact False.elim hq
  | ok fl =>
    cases fl with
    | ret w' => exact I'.after hq
    | next => exact False.elim hq
    | brk => exact False.elim hq
    | cont => exact False.elim hq
end
end JW
namespace JW
open PySem PySem.Spec PyProof.Rows L2
theorem ints_reads {h : Heap} : ∀ {ns : List Int} {us : List Value}, Vals (ns.map V.int) us → ReadsAll h us (ns.map PyData.int) []
  | [], us, r => by
    cases r
    exact .nil
  | n :: ns, us, r => by
    rw [List.map_cons] at r
    cases r with
    | cons r1 r2 =>
      obtain ⟨t, rfl⟩ := r1
      exact ReadsAll.cons (as := []) (bs := []) (.int n t) (ints_reads r2)
theorem ints_alike (ns : List Int) : PySem.W.AlikeAll (ns.map PyData.int) := ⟨fun x hx y hy => by
  obtain ⟨i, _, rfl⟩ := List.mem_map.mp hx
  obtain ⟨j, _, rfl⟩ := List.mem_map.mp hy
  rfl, fun x hx => by
  obtain ⟨i, _, rfl⟩ := List.mem_map.mp hx
  exact fun z => by cases z⟩
theorem ints_depth : ∀ ns : List Int, PyData.depthAll (ns.map PyData.int) = 0
  | [] => rfl
  | n :: r => by
    rw [List.map_cons]
    show max (PyData.depth (.int n)) (PyData.depthAll (r.map PyData.int)) = 0
    rw [ints_depth r]
    rfl
def rMaxDf (K : PySem.W.Frag) : List V → List V → Hp → VK → Prop := fun vs zs H Q => ∃ (a : Addr) (ns : List Int) (d : Int), vs = [V.ref a] ∧ zs = [.int d] ∧ SqL K H a (ns.map V.int) ∧
  ∀ m : Int, ((ns = [] ∧ m = d) ∨ ∃ n r, ns = n :: r ∧ m = r.foldl max n) → Q (.int m) H
theorem cr_maxDf {X : Cx} (hc : X.calm = true) (hu : X.A.units + 1 < cLine) : CallRK X (.builtin "max") [Str.ofString "default"] (rMaxDf X.K) := by
  intro pins s σ H vs zs us ws Q I r rz h
  obtain ⟨a, ns, d, rfl, rfl, hs, q⟩ := h
  obtain ⟨its, rv, hl, _⟩ := I.list hs
  rw [Vals.ref1 r]
  obtain ⟨w1, rfl, rd⟩ := vals1 rz
  refine PySem.W.max_list_default (vs := its.toArray) (I.ok.hd hc) hl.isList (xs := ns.map PyData.int) (as := []) (ints_reads rv) (ints_alike ns) (by rw [ints_depth]; exact hu) (fun hn h' tk hk => ?_) fun y ys i v h' tk bs he hv hr hk => ?_
  · exact ⟨.int d, H, I.kept hk, rd, q d (.inl ⟨List.map_eq_nil_iff.mp hn, rfl⟩)⟩
  · cases ns with
    | nil => cases he
    | cons n r =>
      rw [List.map_cons] at he
      injection he with e1 e2
      subst e1
      subst e2
      rw [PySem.W.maxD_ints] at hr
      cases hr with
      | int _ t => exact ⟨.int _, H, I.kept hk, ⟨t, rfl⟩, q _ (.inr ⟨n, r, rfl, rfl⟩)⟩
end JW
namespace JW
open PySem PySem.Spec PyProof.Rows L2
theorem draws_str {prog : Program} {w : World} {A : Around} (hh : A.handled = none) (it : Addr) (x : Str) (t : Tok) :
    Draws prog w A it [it] x.cps.size (fun i v => ∃ c u, x.cps[i]? = some c ∧ v = .str ⟨#[c]⟩ u) (fun i h => h.IsStrIter it (strIterType x) x t i) := by
  cases ha : x.cps.all (· < 128)
  · have e : strIterType x = "str_iterator" := by simp [strIterType, ha]
    rw [e]
    exact Draws.strWide hh it x t
  · have e : strIterType x = "str_ascii_iterator" := by simp [strIterType, ha]
    rw [e]
    exact Draws.strAscii hh it x t
def Ites (x : Str) : It :=
  ⟨fun i _ => i < x.cps.size, fun i H v H' => ∃ T c, v = .ref T ∧ H T = none ∧ H' = upd H T (.tup [.int (i : Nat), .str ⟨#[c]⟩]) ∧ x.cps[i]? = some c, fun i _ => i = x.cps.size⟩
theorem turn_enumS {P : Program} {w : World} {K : PySem.W.Frag} {elts : List Expr} {kk : Nat} {tpos : Pos} (x : Str) (t : Tok) (e it : Addr) :
    Turn P w K (.Tuple elts kk tpos) (Ites x) [e, it] e (fun i h => (∃ old, IsEnum h e it ((i : Nat) : Int) old) ∧ h.IsStrIter it (strIterType x) x t i ∧ e ≠ it) where
  mem := by simp
  obj := fun i h st b hb => by
    obtain ⟨⟨old, he⟩, ⟨o, ho, hc, hd⟩, _⟩ := st
    have e' : b = e ∨ b = it := by simpa using hb
    rcases e' with z | z
    · rw [z]; exact ⟨_, he, fun v q => nomatch q⟩
    · rw [z]; exact ⟨o, ho, fun v q => by rw [hd] at q; cases q⟩
  keep := fun i h h' st k => by
    obtain ⟨⟨old, he⟩, ⟨o, ho, r⟩, hne⟩ := st
    exact ⟨⟨old, k e (by simp) _ he⟩, ⟨o, k it (by simp) o ho, r⟩, hne⟩
  item := by
    intro X hP hw hK hc i pins s σ H E I hf st hg
    subst hP hw hK
    obtain ⟨⟨old, he⟩, hit, hne⟩ := st
    have hlt : i < x.cps.size := hg
    have hel : e < s.heap.objs.size := Heap.lt_size he
    have hil : it < s.heap.objs.size := by obtain ⟨_, q, _⟩ := hit; exact Heap.lt_size q
    refine wpAny_pyNext_enum_itemD (draws_str (A := X.A.in1) (I.ok.hd hc) it x t) he hit hlt hne (by simpa using hne) fun y h' tk hy ho hit' hT hsz hk => ?_
    obtain ⟨c, u, hcx, rfl⟩ := hy
    refine ⟨_, rfl, wpAny_letOwnedTupleGo_enum (s := { s with heap := h', toks := tk + 1 }) ho fun h'' he' sb => ?_⟩
    have hT2 : h''.get? s.heap.objs.size = some { cls := .type "tuple", data := .seq #[.int i tk, .str ⟨#[c]⟩ u] } := (sb.2 _ (Nat.ne_of_gt hel)).trans hT
    have new : ObjOk X.prog X.w (upd H s.heap.objs.size (.tup [.int (i : Nat), .str ⟨#[c]⟩])) h'' s.heap.objs.size (.tup [.int (i : Nat), .str ⟨#[c]⟩]) :=
      ⟨by show 2 ≤ sizeLine; decide, [.int i tk, .str ⟨#[c]⟩ u], .cons ⟨_, rfl⟩ (.cons ⟨_, rfl⟩ .nil), ⟨_, hT2, rfl, _, rfl⟩⟩
    have I1 : Inv X pins σ (upd H s.heap.objs.size (.tup [.int (i : Nat), .str ⟨#[c]⟩])) { s with heap := h'', toks := tk + 1 } :=
      I.turnedNew (ch := [e, it]) (fun b ob hb q => (sb.2 b (fun z => hb (by simp [z]))).trans (hk b ob (fun z => hb (by simp [z])) (fun z => hb (by simp [z])) q)) hf (Nat.le_refl _) new
    refine ⟨.ref s.heap.objs.size, _, I1, rfl, ⟨_, c, rfl, I.hok.fresh (Nat.le_refl _), rfl, hcx⟩, ⟨⟨.str ⟨#[c]⟩ u, ?_⟩, ?_, hne⟩, fun b hb => ?_⟩
    · have e1 : ((i + 1 : Nat) : Int) = (i : Int) + 1 := by omega
      rw [e1]; exact he'
    · obtain ⟨o, q, r⟩ := hit'
      exact ⟨o, (sb.2 it (Ne.symm hne)).trans q, r⟩
    · have hb' : b < s.heap.objs.size := by
        have e' : b = e ∨ b = it := by simpa using hb
        rcases e' with z | z
        · rw [z]; exact hel
        · rw [z]; exact hil
      rw [upd_ne (Nat.ne_of_lt hb')]
      exact (hf b hb).1
  done := by
    intro X hP hw hK hc i pins s σ H E I hf st hg
    subst hP hw hK
    obtain ⟨⟨old, he⟩, hit, hne⟩ := st
    have hge : i = x.cps.size := hg
    subst hge
    obtain ⟨f0, f1, f2, f3, f4, f5⟩ := hf it (by simp)
    refine wpAny_pyNext_enum_endD (draws_str (A := X.A.in1) (I.ok.hd hc) it x t) he hit fun h' eb => ⟨rfl, I.turned (t' := s.toks) (fun b o hb q => eb b o hb q) f0 f1 f3 f4 f5⟩
  self := fun A i s Q E st h => let ⟨⟨_, he⟩, _⟩ := st; wpAny_pyIter_enum he h
def iEnumS (ta : TA) : TI := fun σ H R => ta σ H fun vs H1 => ∃ x, vs = [.str x] ∧ R (Ites x) H1
theorem pi_enumS {X : Cx} {e : Expr} {ta : TA} {p pos tpos : Pos} {elts : List Expr} {kk : Nat} (hg : Gl X "enumerate") (hm : X.mg "enumerate" = none) (ha : PA X [e] ta) (hs : starEach [e] X.env = [(false, eval e X.env)] := by rfl) :
    PI X (.Tuple elts kk tpos) (.Call (.Name "enumerate" p) [e] [] pos) (iEnumS ta) := by
  refine ⟨fun pins s σ H R I h => ?_⟩
  refine Call_ (ld_blt I hg hm boot_enumerate (PyProof.Rows.callWith_type1 (thn (ha.run pos pins s σ H _ I h) fun us s1 ⟨vs, H1, I1, r1, q1⟩ => ?_) hs rfl))
  obtain ⟨x, ex, q⟩ := q1
  subst ex
  cases r1 with
  | cons r rr =>
    cases rr
    obtain ⟨t, rfl⟩ := r
    refine call_enumerate_str fun h' he hit hsz hk => wpAny_pyIter_enum he ?_
    have I2 : Inv X pins σ H1 { s1 with heap := h' } := I1.kept (t' := s1.toks) hk
    refine ⟨s1.heap.objs.size + 1, [s1.heap.objs.size + 1, s1.heap.objs.size], _, _, H1, rfl, I2, turn_enumS x t (s1.heap.objs.size + 1) s1.heap.objs.size, ⟨⟨.none, he⟩, hit, Nat.succ_ne_self _⟩, fun b hb => ?_, q⟩
    have e' : b = s1.heap.objs.size + 1 ∨ b = s1.heap.objs.size := by simpa using hb
    have hle : s1.heap.objs.size ≤ b := by
      rcases e' with z | z
      · rw [z]; exact Nat.le_add_right _ _
      · rw [z]; exact Nat.le_refl _
    exact I1.fpOk hle (I1.hok.fresh hle)
theorem for_enumS {x : Str} {g : TG} {tb : TS} {D : Ends} {σ : L2.St} {H : Hp} (Pv : Nat → L2.St → Hp → Prop) (h0 : Pv 0 σ H)
    (hs : ∀ i c σ H T, x.cps[i]? = some c → Pv i σ H → H T = none → g (.ref T) σ (upd H T (.tup [.int (i : Nat), .str ⟨#[c]⟩])) fun σ2 H2 => tb { D with nx := Pv (i + 1), ct := Pv (i + 1), bk := D.nx } σ2 H2) (hd : ∀ σ H, Pv x.cps.size σ H → D.nx σ H) :
    ∃ W : Nat → Nat → L2.St → Hp → Prop, (∃ m, W 0 m σ H) ∧ ∀ i m σ H, W i m σ H →
      ((Ites x).stop i H ∧ D.nx σ H) ∨ ((Ites x).go i H ∧ ∃ N : L2.St → Hp → Prop, (∀ σ' H', N σ' H' → ∃ m', m' < m ∧ W (i + 1) m' σ' H') ∧ ∀ v H', (Ites x).yld i H v H' → g v σ H' fun σ2 H2 => tb { D with nx := N, ct := N, bk := D.nx } σ2 H2) := by
  refine ⟨fun i m σ H => m = x.cps.size - i ∧ i ≤ x.cps.size ∧ Pv i σ H, ⟨x.cps.size, rfl, Nat.zero_le _, h0⟩, ?_⟩
  rintro i m σ H ⟨rfl, hi, p⟩
  by_cases hlt : i < x.cps.size
  · refine .inr ⟨hlt, Pv (i + 1), fun σ' H' p' => ⟨x.cps.size - (i + 1), by omega, rfl, hlt, p'⟩, fun v H' hy => ?_⟩
    obtain ⟨T, c, rfl, hT, rfl, hc⟩ := hy
    exact hs i c σ H T hc p hT
  · have e : i = x.cps.size := by omega
    subst e
    exact .inl ⟨rfl, hd σ H p⟩
end JW
namespace JW
open PySem PySem.Spec PyProof.Rows L2 LamX
abbrev cF (K : PySem.W.Frag) : Addr := He.ga K "Fountain"
def tx (t : T) : Str := ⟨t.codes.toArray⟩
theorem tx_inj {t u : T} (h : tx t = tx u) : t = u := codes_inj (by
  have e : t.codes.toArray = u.codes.toArray := congrArg Str.cps h
  exact congrArg Array.toList e)
theorem tx_jet : tx .jet = "o" := by decide +kernel
def T.kids : T → List T
  | .jet => []
  | .bas l => l
def nums (t : T) : List V := [.int (t.size : Nat), .int (t.jts : Nat), .int (t.dep : Nat), if t.jts = 0 then .non else .int (t.lng : Nat), if t.jts = 0 then .non else .int (t.sht : Nat)]
def flds (t : T) (b n : Addr) : List (Str × V) := [("written", .str (tx t)), ("branches", .ref b), ("numbers", .ref n)]
theorem fl_w {t : T} {b n : Addr} : (flds t b n).lookup ("written" : Str) = some (.str (tx t)) := by kernel_rfl
theorem fl_b {t : T} {b n : Addr} : (flds t b n).lookup ("branches" : Str) = some (.ref b) := by kernel_rfl
theorem fl_n {t : T} {b n : Addr} : (flds t b n).lookup ("numbers" : Str) = some (.ref n) := by kernel_rfl
theorem fl_put {t : T} {b n : Addr} : putF "numbers" (.ref n) (putF "branches" (.ref b) (putF "written" (.str (tx t)) [])) = flds t b n := by kernel_rfl
theorem fl_l1 {v : V} : (putF ("written" : Str) v []).length < 1000 := by
  have e : putF ("written" : Str) v [] = [(("written" : Str), v)] := by kernel_rfl
  rw [e]
  show 1 < 1000
  decide
theorem fl_l2 {v w : V} : (putF ("branches" : Str) w (putF ("written" : Str) v [])).length < 1000 := by
  have e : putF ("branches" : Str) w (putF ("written" : Str) v []) = [(("written" : Str), v), (("branches" : Str), w)] := by kernel_rfl
  rw [e]
  show 2 < 1000
  decide
mutual
def Ftn (C : Addr) (H : Hp) : T → V → Prop
  | .jet, v => ∃ a dx b n, v = .ref a ∧ H a = some (.ins C dx (flds .jet b n)) ∧ H b = some (.tup []) ∧ H n = some (.tup (nums .jet))
  | .bas l, v => ∃ a dx b n vs, v = .ref a ∧ H a = some (.ins C dx (flds (.bas l) b n)) ∧ H b = some (.tup vs) ∧ H n = some (.tup (nums (.bas l))) ∧ FtnL C H l vs
def FtnL (C : Addr) (H : Hp) : List T → List V → Prop
  | [], vs => vs = []
  | t :: ts, vs => ∃ v r, vs = v :: r ∧ Ftn C H t v ∧ FtnL C H ts r
end
section
variable {C : Addr} {H H' : Hp}
theorem ftn_iff {t : T} {v : V} : Ftn C H t v ↔ ∃ a dx b n vs, v = .ref a ∧ H a = some (.ins C dx (flds t b n)) ∧ H b = some (.tup vs) ∧ H n = some (.tup (nums t)) ∧ FtnL C H t.kids vs := by
  cases t with
  | jet =>
    constructor
    · intro h
      have h2 : ∃ a dx b n, v = .ref a ∧ H a = some (.ins C dx (flds .jet b n)) ∧ H b = some (.tup []) ∧ H n = some (.tup (nums .jet)) := h
      obtain ⟨a, dx, b, n, e, h1, h2, h3⟩ := h2
      exact ⟨a, dx, b, n, [], e, h1, h2, h3, rfl⟩
    · intro ⟨a, dx, b, n, vs, e, h1, h2, h3, h4⟩
      have e4 : vs = [] := h4
      subst e4
      exact ⟨a, dx, b, n, e, h1, h2, h3⟩
  | bas l => exact ⟨fun h => h, fun h => h⟩
theorem Same.extN (s : L2.Same H H') : ExtN H H' := ExtN.of s
mutual
theorem ftn_ext (e : ExtN H H') : ∀ (t : T) (v : V), Ftn C H t v → Ftn C H' t v
  | .jet, v, h => by
    have h2 : ∃ a dx b n, v = .ref a ∧ H a = some (.ins C dx (flds .jet b n)) ∧ H b = some (.tup []) ∧ H n = some (.tup (nums .jet)) := h
    obtain ⟨a, dx, b, n, ev, h1, h2, h3⟩ := h2
    exact ⟨a, dx, b, n, ev, e _ _ h1 (fun ps z => by cases z), e _ _ h2 (fun ps z => by cases z), e _ _ h3 (fun ps z => by cases z)⟩
  | .bas l, v, h => by
    have h2 : ∃ a dx b n vs, v = .ref a ∧ H a = some (.ins C dx (flds (.bas l) b n)) ∧ H b = some (.tup vs) ∧ H n = some (.tup (nums (.bas l))) ∧ FtnL C H l vs := h
    obtain ⟨a, dx, b, n, vs, ev, h1, h2, h3, h4⟩ := h2
    exact ⟨a, dx, b, n, vs, ev, e _ _ h1 (fun ps z => by cases z), e _ _ h2 (fun ps z => by cases z), e _ _ h3 (fun ps z => by cases z), ftnL_ext e l vs h4⟩
theorem ftnL_ext (e : ExtN H H') : ∀ (l : List T) (vs : List V), FtnL C H l vs → FtnL C H' l vs
  | [], vs, h => h
  | t :: ts, vs, h => by
    have h2 : ∃ v r, vs = v :: r ∧ Ftn C H t v ∧ FtnL C H ts r := h
    obtain ⟨v, r, ev, h1, h2⟩ := h2
    exact ⟨v, r, ev, ftn_ext e t v h1, ftnL_ext e ts r h2⟩
end
theorem Ftn.ext {t : T} {v : V} (h : Ftn C H t v) (e : ExtN H H') : Ftn C H' t v := ftn_ext e t v h
theorem FtnL.ext {l : List T} {vs : List V} (h : FtnL C H l vs) (e : ExtN H H') : FtnL C H' l vs := ftnL_ext e l vs h
theorem Ftn.same {t : T} {v : V} (h : Ftn C H t v) (e : L2.Same H H') : Ftn C H' t v := h.ext (.of e)
theorem FtnL.same {l : List T} {vs : List V} (h : FtnL C H l vs) (e : L2.Same H H') : FtnL C H' l vs := h.ext (.of e)
theorem FtnL.len : ∀ {l : List T} {vs : List V}, FtnL C H l vs → vs.length = l.length
  | [], vs, h => by
    have e : vs = [] := h
    rw [e] <;> rfl
  | t :: ts, vs, h => by
    obtain ⟨v, r, rfl, _, h2⟩ := (show ∃ v r, vs = v :: r ∧ Ftn C H t v ∧ FtnL C H ts r from h)
    rw [List.length_cons, List.length_cons, h2.len]
theorem FtnL.get : ∀ {l : List T} {vs : List V} {i : Nat} {v : V}, FtnL C H l vs → vs[i]? = some v → ∃ t, l[i]? = some t ∧ Ftn C H t v
  | [], vs, i, v, h, e => by
    have e2 : vs = [] := h
    rw [e2] at e
    simp at e
  | t :: ts, vs, i, v, h, e => by
    obtain ⟨u, r, rfl, h1, h2⟩ := (show ∃ v r, vs = v :: r ∧ Ftn C H t v ∧ FtnL C H ts r from h)
    cases i with
    | zero =>
      have e3 : u = v := by simpa using e
      exact ⟨t, rfl, e3 ▸ h1⟩
    | succ i =>
      obtain ⟨t', e1, e2⟩ := h2.get (i := i) (v := v) (by simpa using e)
      exact ⟨t', by simpa using e1, e2⟩
theorem FtnL.app : ∀ {l m : List T} {vs ws : List V}, FtnL C H l vs → FtnL C H m ws → FtnL C H (l ++ m) (vs ++ ws)
  | [], m, vs, ws, h, h' => by
    have e : vs = [] := h
    rw [e]
    exact h'
  | t :: ts, m, vs, ws, h, h' => by
    obtain ⟨u, r, rfl, h1, h2⟩ := (show ∃ v r, vs = v :: r ∧ Ftn C H t v ∧ FtnL C H ts r from h)
    exact ⟨u, r ++ ws, rfl, h1, h2.app h'⟩
theorem FtnL.one {t : T} {v : V} (h : Ftn C H t v) : FtnL C H [t] [v] := ⟨v, [], rfl, h, rfl⟩
theorem FtnL.zip : ∀ {l : List T} {vs : List V}, FtnL C H l vs → ∀ p ∈ (l.map tx).zip vs, ∃ t, p.1 = tx t ∧ Ftn C H t p.2
  | [], vs, _, p, hp => by
    rw [List.map_nil, List.zip_nil_left] at hp
    cases hp
  | t :: ts, vs, h, p, hp => by
    obtain ⟨u, r, rfl, h1, h2⟩ := (show ∃ v r, vs = v :: r ∧ Ftn C H t v ∧ FtnL C H ts r from h)
    rw [List.map_cons, List.zip_cons_cons] at hp
    rcases List.mem_cons.mp hp with e | e
    · exact ⟨t, by rw [e], by rw [e]; exact h1⟩
    · exact FtnL.zip h2 p e
theorem ftnL_sort {l : List T} {vs ys : List V} (h : FtnL C H l vs) (k : KeydV (l.map tx) vs ys) : FtnL C H (sortT l) ys := by
  obtain ⟨ps, pm, pw, rfl⟩ := k
  have hall : ∀ p ∈ ps, ∃ t, p.1 = tx t ∧ Ftn C H t p.2 := fun p hp => h.zip p (pm.mem_iff.mp hp)
  have go : ∀ ps : List (Str × V), (∀ p ∈ ps, ∃ t, p.1 = tx t ∧ Ftn C H t p.2) → ∃ us : List T, us.map tx = ps.map (·.1) ∧ FtnL C H us (ps.map (·.2)) := by
    intro ps
    induction ps with
    | nil => exact fun _ => ⟨[], rfl, rfl⟩
    | cons p r ih =>
      intro hp
      obtain ⟨us, e1, e2⟩ := ih fun q hq => hp q (List.mem_cons_of_mem _ hq)
      obtain ⟨t, e3, e4⟩ := hp p List.mem_cons_self
      exact ⟨t :: us, by rw [List.map_cons, List.map_cons, e1, e3], p.2, r.map (·.2), rfl, e4, e2⟩
  obtain ⟨us, e1, e2⟩ := go ps hall
  have hs : Srt us := by
    have q1 : (ps.map (·.1)).Pairwise (fun p q : Str => ¬ q.cps.toList < p.cps.toList) := List.pairwise_map.mpr pw
    rw [← e1] at q1
    refine (List.pairwise_map.mp q1).imp fun {a b} z => ?_
    unfold tle
    simp only [Bool.not_eq_true', decide_eq_false_iff_not]
    exact z
  have hfst : ((l.map tx).zip vs).map (·.1) = l.map tx := by
    rw [List.map_fst_zip]
    rw [List.length_map, h.len]
    exact Nat.le_refl _
  have hp : (us.map tx).Perm (l.map tx) := by
    rw [e1, ← hfst]
    exact pm.map _
  have un : ∃ g : Str → T, ∀ t, g (tx t) = t := by
    classical
    refine ⟨fun z => if e : ∃ t, tx t = z then e.choose else .jet, fun t => ?_⟩
    have e : ∃ u, tx u = tx t := ⟨t, rfl⟩
    show (if e : ∃ u, tx u = tx t then e.choose else T.jet) = t
    rw [dif_pos e]
    exact tx_inj e.choose_spec
  obtain ⟨g, hg⟩ := un
  have hp2 := hp.map g
  rw [List.map_map, List.map_map] at hp2
  have eid : (g ∘ tx) = id := funext hg
  rw [eid, List.map_id, List.map_id] at hp2
  rw [← sortT_eq hp2 hs]
  exact e2
end
structure ClsF (K : PySem.W.Frag) (mg : Str → Option Value) : Prop where
  g : mg "Fountain" = some (.ref (cF K))
  c : Cls K (cF K)
  nw : NoAttr K (cF K) "written"
  nb : NoAttr K (cF K) "branches"
  nn : NoAttr K (cF K) "numbers"
  hcl : PySem.W.findIn K (.ref (cF K)) "__class__" = some (some (.builtin "object.__class__"))
  hgs : PySem.W.specialIn K (.builtin "object.__class__") "__get__" = some (some (.builtin "getset_descriptor.__get__"))
  htk : PySem.W.takesIn K (.builtin "object.__class__") = some true
  hmro : PySem.W.mroIn K (cF K) (.type "object") = some true
  hne : PySem.W.findIn K (.ref (cF K)) "__ne__" = some (some (.builtin "object.__ne__"))
  hob : PySem.W.subIn K (.ref (cF K)) (.type "object") = some true
  sf : PySem.W.selfFirst K (cF K) = true
theorem ClsF.ty {K : PySem.W.Frag} {mg : Str → Option Value} (c : ClsF K mg) {H : Hp} {a dx : Addr} {fs : List (Str × V)} (e : H a = some (.ins (cF K) dx fs)) : TyX K H (.ref a) (.ref (cF K)) := .base (.ins e c.c c.hcl c.hgs c.htk c.hmro)
theorem isi_self {K : PySem.W.Frag} : PySem.W.kitOne K (.ref (cF K)) (.ref (cF K)) = some true := by
  unfold PySem.W.kitOne
  exact if_pos (by simp)
structure MakeD (P : Program) (w : World) (K : PySem.W.Frag) (mg : Str → Option Value) (base : Heap) (CX : CXT) (k : Nat) (x : Str) (C : Addr) (ps : List Str) (dvs : List V) (sp : Sp) : Prop where
  ex : ∃ f fd ds, mg x = some (.ref C) ∧ Mk K C f ∧ Binds K fd ps ds ∧ Vals dvs ds ∧ FnOk P w K mg base CX k f fd ps sp
structure InitAt (K : PySem.W.Frag) (mg : Str → Option Value) (x : Str) (C : Addr) (qual : Str) (st : Stmt) (dvs : List V) (ps : List Str) : Prop where
  ex : ∃ f fd, mg x = some (.ref C) ∧ Mk K C f ∧ FunD K "__init__" qual (defArgs st) (defBody st) (defScope st) dvs [] f fd ∧ ∀ j, j ≤ dvs.length → ∃ ds, Vals (dvs.drop j) ds ∧ Binds K fd ps ds
section
variable {P : Program} {w : World} {K : PySem.W.Frag} {mg : Str → Option Value} {base : Heap} {CX : CXT} {C : Addr} {x : Str}
theorem MakeD.mono {j k : Nat} {ps : List Str} {dvs : List V} {sp : Sp} (c : MakeD P w K mg base CX j x C ps dvs sp) (h : j ≤ k) : MakeD P w K mg base CX k x C ps dvs sp := by
  obtain ⟨f, fd, ds, h1, h2, h3, h4, F⟩ := c.ex
  exact ⟨f, fd, ds, h1, h2, h3, h4, F.mono h⟩
theorem InitAt.ok {qual : Str} {st : Stmt} {N ps : List Str} {k : Nat} {sp : Sp} {dvs : List V} (D : InitAt K mg x C qual st dvs ps) (j : Nat) (hj : j ≤ dvs.length) (S : FnScope N ps (defScope st)) (len : ∀ vs H Q E, sp vs H Q E → vs.length = ps.length)
    (hbody : ∀ (f : Addr) (cdv : Value) (A : Around) (outer : List Env) (s : Shared) (H : Hp) (vs : List V) (Q : VK) (E : XK), Room k (A.deeper (envOfC qual (defScope st) s.heap.objs.size f cdv)) → sp vs H Q E →
      ∃ t, PSs (cxOf CX P w K mg base N qual (defScope st) f cdv A outer s H E).nox (defBody st) t ∧ t { nx := fun _ H' => Q .non H', rt := Q } (start N vs) H) : MakeD P w K mg base CX (k + 1) x C ps (dvs.drop j) sp := by
  obtain ⟨f, fd, h1, h2, F, b⟩ := D.ex
  obtain ⟨ds, r, hb⟩ := b j hj
  exact ⟨f, fd, ds, h1, h2, hb, r, okF F S len fun cdv A outer s H vs Q E hr h => hbody f cdv A outer s H vs Q E hr h⟩
end
section
variable {X : Cx} {CX : CXT} {k : Nat} {C : Addr} {ps : List Str} {sp : Sp} {dvs : List V} {E : XK} {x : Str} {p pos : Pos} {e : Expr} {es : List Expr} {t : TA}
theorem pe_makeD (M : MakeD X.prog X.w X.K X.mg X.base CX k x C ps dvs sp) (hr : Room (k + 1) X.A) (hg : Gl X x) (hx : Passes CX X E) (ha : PA X (e :: es) t) (hdb : (x == ("__debug__" : Str)) = false := by decide)
    (he : starEach (e :: es) X.env = (false, eval e X.env) :: starEach es X.env := by rfl) (hpl : (backTo pos (starEach es X.env)).any (·.1) = false := by rfl) : PE X (.Call (.Name x p) (e :: es) [] pos) (tMake C sp dvs E t) := by
  obtain ⟨f, fd, ds, h1, h2, h3, h4, F⟩ := M.ex
  exact pe_make h2 F hr hg h1 h3 h4 hx ha hdb he hpl
end
theorem okC {P : Program} {w : World} {K : PySem.W.Frag} {mg : Str → Option Value} {base : Heap} {CX : CXT} {x qual : Str} {params : Arguments} {body : List Stmt} {scope : Scope} {kws : List (Str × V)} {fd : FuncData} {N ps : List Str} {k : Nat} {sp : Sp} {dvs : List V} {p : Str × Option Str}
    (F : FunD K x qual params body scope dvs kws (He.fAd K p) fd) (S : FnScope N ps scope) (len : ∀ vs H Q E, sp vs H Q E → vs.length = ps.length)
    (hbody : ∀ (A : Around) (outer : List Env) (s : Shared) (H : Hp) (vs : List V) (Q : VK) (E : XK), Room k (A.deeper (envOfC qual scope s.heap.objs.size (He.fAd K p) (.ref (He.codeOf K p)))) → sp vs H Q E →
      ∃ t, PSs (cxOf CX P w K mg base N qual scope (He.fAd K p) (.ref (He.codeOf K p)) A outer s H E).nox body t ∧ t { nx := fun _ H' => Q .non H', rt := Q } (start N vs) H) : FnOk P w K mg base CX (k + 1) (He.fAd K p) fd ps sp := by
  obtain ⟨oc, od, dV, kV, doc, pm, an, cdv, ct, osl, rfl, lk, hcd, _, _⟩ := F.ex
  obtain ⟨c, rfl⟩ := He.codeIn_ref hcd
  have ec : He.codeOf K p = c := He.codeOf_eq lk rfl
  subst ec
  exact fn_of lk hcd S len fun A outer s H vs Q E hr h => by
    obtain ⟨t, h, q⟩ := hbody A outer s H vs Q E hr h
    exact ⟨t, h.nox, q⟩
structure DefAtP (K : PySem.W.Frag) (mg : Str → Option Value) (x qual : Str) (st : Stmt) (ps : List Str) : Prop where
  g : mg x = some (.ref (He.fAd K (x, none)))
  f : ∃ fd, FunD K x qual (defArgs st) (defBody st) (defScope st) [] [] (He.fAd K (x, none)) fd ∧ Binds K fd ps []
theorem DefAtP.at {K : PySem.W.Frag} {mg : Str → Option Value} {x qual : Str} {st : Stmt} {ps : List Str} (d : DefAtP K mg x qual st ps) : DefAt K mg x qual st [] ps := by
  obtain ⟨fd, F, b⟩ := d.f
  exact ⟨_, fd, d.g, F, b⟩
theorem DefAtP.okC {P : Program} {w : World} {K : PySem.W.Frag} {mg : Str → Option Value} {base : Heap} {CX : CXT} {x qual : Str} {st : Stmt} {N ps : List Str} {k : Nat} {sp : Sp} (D : DefAtP K mg x qual st ps) (S : FnScope N ps (defScope st)) (len : ∀ vs H Q E, sp vs H Q E → vs.length = ps.length)
    (hbody : ∀ (A : Around) (outer : List Env) (s : Shared) (H : Hp) (vs : List V) (Q : VK) (E : XK), Room k (A.deeper (envOfC qual (defScope st) s.heap.objs.size (He.fAd K (x, none)) (.ref (He.codeOf K (x, none))))) → sp vs H Q E →
      ∃ t, PSs (cxOf CX P w K mg base N qual (defScope st) (He.fAd K (x, none)) (.ref (He.codeOf K (x, none))) A outer s H E).nox (defBody st) t ∧ t { nx := fun _ H' => Q .non H', rt := Q } (start N vs) H) : CallD P w K mg base CX (k + 1) x ps [] sp := by
  obtain ⟨fd, F, b⟩ := D.f
  exact ⟨_, fd, [], D.g, F.kp, b, .nil, JW.okC F S len hbody⟩
def spV (K : PySem.W.Frag) (f : T → V) : Sp := fun vs H Q _ => ∃ v t, vs = [v] ∧ Ftn (cF K) H t v ∧ Q (f t) H
theorem ev_prop {K : PySem.W.Frag} {f : T → V} {H : Hp} {t : T} {v : V} {Q : VK} {E : XK} (h : Ftn (cF K) H t v) (q : Q (f t) H) : ∃ a dx fs, v = .ref a ∧ H a = some (.ins (cF K) dx fs) ∧ spV K f (.ref a :: []) H Q E := by
  obtain ⟨a, dx, b, n, vs, rfl, h1, _⟩ := ftn_iff.mp h
  exact ⟨a, dx, _, rfl, h1, _, t, rfl, h, q⟩
def spKids (K : PySem.W.Frag) : Sp := fun vs H Q _ => ∃ v t, vs = [v] ∧ Ftn (cF K) H t v ∧ ∀ b xs, H b = some (.tup xs) → FtnL (cF K) H t.kids xs → Q (.ref b) H
theorem ev_kids {K : PySem.W.Frag} {H : Hp} {t : T} {v : V} {Q : VK} {E : XK} (h : Ftn (cF K) H t v) (q : ∀ b xs, H b = some (.tup xs) → FtnL (cF K) H t.kids xs → Q (.ref b) H) : ∃ a dx fs, v = .ref a ∧ H a = some (.ins (cF K) dx fs) ∧ spKids K (.ref a :: []) H Q E := by
  obtain ⟨a, dx, b, n, vs, rfl, h1, _⟩ := ftn_iff.mp h
  exact ⟨a, dx, _, rfl, h1, _, t, rfl, h, q⟩
theorem lc_eachL {K : PySem.W.Frag} {a : Addr} {xs ys : List V} {j : Nat} {te : TE} {σ : L2.St} {H1 : Hp} {D : Addr} {Qd : Hp → Prop} (hD : H1 D = none) (hl : SqL K H1 a xs) (hz : xs.length < sizeLine) (hy : ys.length = xs.length)
    (hw : ∀ x : V, wipe ((wipe σ [j]).set j (some x)) [j] = wipe σ [j]) (hs : ∀ (i : Nat) (x y : V) (H : Hp) (Q : VK), xs[i]? = some x → ys[i]? = some y → L2.Same H1 H → H D ≠ none → (∀ H', L2.Same H H' → Q y H') → te ((wipe σ [j]).set j (some x)) H Q)
    (hd : ∀ H, L2.Same H1 H → H D = some (.lst ys) → Qd H) : ∃ W : Nat → Nat → Hp → Prop, (∃ m, W 0 m (upd H1 D (.lst []))) ∧ ∀ i m H, W i m H →
      ((Itl K a).stop i H ∧ Qd H) ∨ ((Itl K a).go i H ∧ ∃ Nx : Hp → Prop, (∀ H', Nx H' → ∃ m', m' < m ∧ W (i + 1) m' H') ∧ ∀ x H', (Itl K a).yld i H x H' → gName j x (wipe σ [j]) H' fun σ2 H2 => wipe σ2 [j] = wipe σ [j] ∧ tYes σ2 H2 fun b H3 =>
        if b = true then te σ2 H3 fun y H4 => ∃ acc, H4 D = some (.lst acc) ∧ acc.length < sizeLine ∧ Nx (upd H4 D (.lst (acc ++ [y]))) else Nx H3) := by
  have slq : ∀ H, L2.Same H1 H → SqL K H a xs := fun H s => by
    rcases hl with (h | ⟨o, h⟩) | h
    · exact .inl (.inl (s _ _ h))
    · exact .inl (.inr ⟨o, s _ _ h⟩)
    · exact .inr h
  refine lc_list (fun i H => L2.Same H1 H ∧ H D = some (.lst (ys.take i))) ⟨L2.Same.new (L2.Same.refl H1) hD, by rw [upd_same, List.take_zero]⟩ (fun i H _ p => slq H p.1) (fun i x H hx p => ?_) fun H p => hd H p.1 (by rw [p.2, ← hy, List.take_length])
  have hi : i < xs.length := (List.getElem?_eq_some_iff.mp hx).1
  have hyi : ys[i]? = some ys[i] := List.getElem?_eq_getElem (by omega)
  refine ⟨hw x, ?_⟩
  show te _ H _
  refine hs i x ys[i] H _ hx hyi p.1 (by rw [p.2]; exact fun z => by cases z) fun H' s' => ⟨_, s' _ _ p.2, ?_, ?_, ?_⟩
  · rw [List.length_take]; omega
  · exact L2.Same.mine (p.1.trans s') hD
  · rw [upd_same, List.take_succ, hyi]
    rfl
theorem lc_eachT {K : PySem.W.Frag} {a : Addr} {xs ys : List V} {j : Nat} {te : TE} {σ : L2.St} {H1 : Hp} {D : Addr} {Qd : Hp → Prop} (hD : H1 D = none) (hl : SqT K H1 a xs) (hz : xs.length < sizeLine) (hy : ys.length = xs.length)
    (hw : ∀ x : V, wipe ((wipe σ [j]).set j (some x)) [j] = wipe σ [j]) (hs : ∀ (i : Nat) (x y : V) (H : Hp) (Q : VK), xs[i]? = some x → ys[i]? = some y → L2.Same H1 H → H D ≠ none → (∀ H', L2.Same H H' → Q y H') → te ((wipe σ [j]).set j (some x)) H Q)
    (hd : ∀ H, L2.Same H1 H → H D = some (.lst ys) → Qd H) : ∃ W : Nat → Nat → Hp → Prop, (∃ m, W 0 m (upd H1 D (.lst []))) ∧ ∀ i m H, W i m H →
      ((Itt K a).stop i H ∧ Qd H) ∨ ((Itt K a).go i H ∧ ∃ Nx : Hp → Prop, (∀ H', Nx H' → ∃ m', m' < m ∧ W (i + 1) m' H') ∧ ∀ x H', (Itt K a).yld i H x H' → gName j x (wipe σ [j]) H' fun σ2 H2 => wipe σ2 [j] = wipe σ [j] ∧ tYes σ2 H2 fun b H3 =>
        if b = true then te σ2 H3 fun y H4 => ∃ acc, H4 D = some (.lst acc) ∧ acc.length < sizeLine ∧ Nx (upd H4 D (.lst (acc ++ [y]))) else Nx H3) := by
  have slq : ∀ H, L2.Same H1 H → SqT K H a xs := fun H s => by
    rcases hl with (h | ⟨o, h⟩) | h
    · exact .inl (.inl (s _ _ h))
    · exact .inl (.inr ⟨o, s _ _ h⟩)
    · exact .inr h
  refine lc_tup (fun i H => L2.Same H1 H ∧ H D = some (.lst (ys.take i))) ⟨L2.Same.new (L2.Same.refl H1) hD, by rw [upd_same, List.take_zero]⟩ (fun i H _ p => slq H p.1) (fun i x H hx p => ?_) fun H p => hd H p.1 (by rw [p.2, ← hy, List.take_length])
  have hi : i < xs.length := (List.getElem?_eq_some_iff.mp hx).1
  have hyi : ys[i]? = some ys[i] := List.getElem?_eq_getElem (by omega)
  refine ⟨hw x, ?_⟩
  show te _ H _
  refine hs i x ys[i] H _ hx hyi p.1 (by rw [p.2]; exact fun z => by cases z) fun H' s' => ⟨_, s' _ _ p.2, ?_, ?_, ?_⟩
  · rw [List.length_take]; omega
  · exact L2.Same.mine (p.1.trans s') hD
  · rw [upd_same, List.take_succ, hyi]
    rfl
theorem lc_someT {K : PySem.W.Frag} {a : Addr} {xs : List V} {bs : List Bool} {j : Nat} {tt : TT} {te : TE} {σ : L2.St} {H1 : Hp} {D : Addr} {Qd : Hp → Prop} (hD : H1 D = none) (hl : SqT K H1 a xs) (hz : xs.length < sizeLine) (hy : bs.length = xs.length)
    (hw : ∀ x : V, wipe ((wipe σ [j]).set j (some x)) [j] = wipe σ [j]) (ht : ∀ (i : Nat) (x : V) (b : Bool) (H : Hp) (Q : Bool → Hp → Prop), xs[i]? = some x → bs[i]? = some b → L2.Same H1 H → (∀ H', L2.Same H H' → Q b H') → tt ((wipe σ [j]).set j (some x)) H Q)
    (hs : ∀ (i : Nat) (x : V) (H : Hp) (Q : VK), xs[i]? = some x → L2.Same H1 H → (∀ H', L2.Same H H' → Q x H') → te ((wipe σ [j]).set j (some x)) H Q)
    (hd : ∀ H, L2.Same H1 H → H D = some (.lst (((xs.zip bs).filter (·.2)).map (·.1))) → Qd H) : ∃ W : Nat → Nat → Hp → Prop, (∃ m, W 0 m (upd H1 D (.lst []))) ∧ ∀ i m H, W i m H →
      ((Itt K a).stop i H ∧ Qd H) ∨ ((Itt K a).go i H ∧ ∃ Nx : Hp → Prop, (∀ H', Nx H' → ∃ m', m' < m ∧ W (i + 1) m' H') ∧ ∀ x H', (Itt K a).yld i H x H' → gName j x (wipe σ [j]) H' fun σ2 H2 => wipe σ2 [j] = wipe σ [j] ∧ tt σ2 H2 fun b H3 =>
        if b = true then te σ2 H3 fun y H4 => ∃ acc, H4 D = some (.lst acc) ∧ acc.length < sizeLine ∧ Nx (upd H4 D (.lst (acc ++ [y]))) else Nx H3) := by
  have slq : ∀ H, L2.Same H1 H → SqT K H a xs := fun H s => by
    rcases hl with (h | ⟨o, h⟩) | h
    · exact .inl (.inl (s _ _ h))
    · exact .inl (.inr ⟨o, s _ _ h⟩)
    · exact .inr h
  have hzl : (xs.zip bs).length = xs.length := by rw [List.length_zip, hy, Nat.min_self]
  refine lc_tup (fun i H => L2.Same H1 H ∧ H D = some (.lst ((((xs.zip bs).take i).filter (·.2)).map (·.1)))) ⟨L2.Same.new (L2.Same.refl H1) hD, by rw [upd_same, List.take_zero]; rfl⟩ (fun i H _ p => slq H p.1) (fun i x H hx p => ?_) fun H p => hd H p.1 (by rw [p.2, ← hzl, List.take_length])
  have hi : i < xs.length := (List.getElem?_eq_some_iff.mp hx).1
  have hyi : bs[i]? = some bs[i] := List.getElem?_eq_getElem (by omega)
  have hzi : (xs.zip bs)[i]? = some (x, bs[i]) := by
    rw [List.getElem?_zip_eq_some]
    exact ⟨hx, hyi⟩
  refine ⟨hw x, ht i x bs[i] H _ hx hyi p.1 fun H' s' => ?_⟩
  cases hb : bs[i] with
  | true =>
    rw [if_pos rfl]
    refine hs i x H' _ hx (p.1.trans s') fun H2 s2 => ⟨_, s2 _ _ (s' _ _ p.2), ?_, ?_, ?_⟩
    · rw [List.length_map]
      refine Nat.lt_of_le_of_lt (List.length_filter_le _ _) ?_
      rw [List.length_take]
      omega
    · exact L2.Same.mine (p.1.trans (s'.trans s2)) hD
    · rw [upd_same, List.take_succ, hzi, hb]
      rw [List.filter_append, List.map_append]
      rfl
  | false =>
    rw [if_neg (by simp)]
    refine ⟨p.1.trans s', ?_⟩
    rw [s' _ _ p.2, List.take_succ, hzi, hb, List.filter_append, List.map_append]
    show _ = some (HO.lst (_ ++ []))
    rw [List.append_nil]
theorem pe_gint {X : Cx} {x : Str} {i : Int} {pos : Pos} (hg : Gl X x) (h : ∃ t, X.mg x = some (.int i t)) (hd : (x == ("__debug__" : Str)) = false := by decide) : PE X (.Name x pos) (tC (.int i)) := by
  obtain ⟨t, e⟩ := h
  exact pe_glob hg e ⟨t, rfl⟩ hd
theorem pe_gstr {X : Cx} {x z : Str} {pos : Pos} (hg : Gl X x) (h : ∃ t, X.mg x = some (.str z t)) (hd : (x == ("__debug__" : Str)) = false := by decide) : PE X (.Name x pos) (tC (.str z)) := by
  obtain ⟨t, e⟩ := h
  exact pe_glob hg e ⟨t, rfl⟩ hd
theorem PropAt.ok {P : Program} {w : World} {K : PySem.W.Frag} {mg : Str → Option Value} {base : Heap} {CX : CXT} {C : Addr} {m qual : Str} {st : Stmt} {N : List Str} {k : Nat} {sp : Sp} (D : PropAt K C m qual st) (S : FnScope N ["self"] (defScope st)) (len : ∀ vs H Q E, sp vs H Q E → vs.length = (["self"] : List Str).length)
    (hbody : ∀ (f : Addr) (cdv : Value) (A : Around) (outer : List Env) (s : Shared) (H : Hp) (vs : List V) (Q : VK) (E : XK), Room k (A.deeper (envOfC qual (defScope st) s.heap.objs.size f cdv)) → sp vs H Q E →
      ∃ t, PSs (cxOf CX P w K mg base N qual (defScope st) f cdv A outer s H E).nox (defBody st) t ∧ t { nx := fun _ H' => Q .non H', rt := Q } (start N vs) H) : PropD P w K mg base CX (k + 1) C m sp := by
  obtain ⟨p, g, fd, h1, F, b⟩ := D.ex
  exact ⟨p, g, fd, h1, b, okF F S len fun cdv A outer s H vs Q E hr h => hbody g cdv A outer s H vs Q E hr h⟩
theorem PropD.mono {P : Program} {w : World} {K : PySem.W.Frag} {mg : Str → Option Value} {base : Heap} {CX : CXT} {C : Addr} {f : Str} {sp : Sp} {j k : Nat} (c : PropD P w K mg base CX j C f sp) (h : j ≤ k) : PropD P w K mg base CX k C f sp := by
  obtain ⟨p, g, fd, h1, h2, F⟩ := c.ex
  exact ⟨p, g, fd, h1, h2, F.mono h⟩
theorem map_get {α β : Type} {l : List α} {f : α → β} {i : Nat} {t : α} {y : β} (h1 : l[i]? = some t) (h2 : (l.map f)[i]? = some y) : y = f t := by
  rw [List.getElem?_map, h1] at h2
  exact (Option.some.inj h2).symm
theorem lc_propT {K : PySem.W.Frag} {a : Addr} {xs : List V} {l : List T} {f : T → V} {j : Nat} {E : XK} {σ : L2.St} {H1 : Hp} {D : Addr} {Qd : Hp → Prop} (hD : H1 D = none) (hl : SqT K H1 a xs) (hf : FtnL (cF K) H1 l xs) (hz : xs.length < sizeLine)
    (hw : ∀ x : V, wipe ((wipe σ [j]).set j (some x)) [j] = wipe σ [j]) (hv : ∀ x : V, ((wipe σ [j]).set j (some x))[j]? = some (some x)) (hd : ∀ H, L2.Same H1 H → H D = some (.lst (l.map f)) → Qd H) : ∃ W : Nat → Nat → Hp → Prop, (∃ m, W 0 m (upd H1 D (.lst []))) ∧ ∀ i m H, W i m H →
      ((Itt K a).stop i H ∧ Qd H) ∨ ((Itt K a).go i H ∧ ∃ Nx : Hp → Prop, (∀ H', Nx H' → ∃ m', m' < m ∧ W (i + 1) m' H') ∧ ∀ x H', (Itt K a).yld i H x H' → gName j x (wipe σ [j]) H' fun σ2 H2 => wipe σ2 [j] = wipe σ [j] ∧ tYes σ2 H2 fun b H3 =>
        if b = true then tProp (cF K) (spV K f) [] E (tVar j) σ2 H3 fun y H4 => ∃ acc, H4 D = some (.lst acc) ∧ acc.length < sizeLine ∧ Nx (upd H4 D (.lst (acc ++ [y]))) else Nx H3) :=
  lc_eachT (ys := l.map f) hD hl hz (by rw [List.length_map, hf.len]) hw (fun i x y H Q hx hy s _ q => by
    obtain ⟨t, e1, e2⟩ := hf.get hx
    rw [map_get e1 hy] at q
    exact ⟨x, hv x, ev_prop (e2.same s) (q H (L2.Same.refl H))⟩) hd
theorem lc_propL {K : PySem.W.Frag} {a : Addr} {xs : List V} {l : List T} {f : T → V} {j : Nat} {E : XK} {σ : L2.St} {H1 : Hp} {D : Addr} {Qd : Hp → Prop} (hD : H1 D = none) (hl : SqL K H1 a xs) (hf : FtnL (cF K) H1 l xs) (hz : xs.length < sizeLine)
    (hw : ∀ x : V, wipe ((wipe σ [j]).set j (some x)) [j] = wipe σ [j]) (hv : ∀ x : V, ((wipe σ [j]).set j (some x))[j]? = some (some x)) (hd : ∀ H, L2.Same H1 H → H D = some (.lst (l.map f)) → Qd H) : ∃ W : Nat → Nat → Hp → Prop, (∃ m, W 0 m (upd H1 D (.lst []))) ∧ ∀ i m H, W i m H →
      ((Itl K a).stop i H ∧ Qd H) ∨ ((Itl K a).go i H ∧ ∃ Nx : Hp → Prop, (∀ H', Nx H' → ∃ m', m' < m ∧ W (i + 1) m' H') ∧ ∀ x H', (Itl K a).yld i H x H' → gName j x (wipe σ [j]) H' fun σ2 H2 => wipe σ2 [j] = wipe σ [j] ∧ tYes σ2 H2 fun b H3 =>
        if b = true then tProp (cF K) (spV K f) [] E (tVar j) σ2 H3 fun y H4 => ∃ acc, H4 D = some (.lst acc) ∧ acc.length < sizeLine ∧ Nx (upd H4 D (.lst (acc ++ [y]))) else Nx H3) :=
  lc_eachL (ys := l.map f) hD hl hz (by rw [List.length_map, hf.len]) hw (fun i x y H Q hx hy s _ q => by
    obtain ⟨t, e1, e2⟩ := hf.get hx
    rw [map_get e1 hy] at q
    exact ⟨x, hv x, ev_prop (e2.same s) (q H (L2.Same.refl H))⟩) hd
theorem FtnL.filter {C : Addr} {H : Hp} {p : T → Bool} : ∀ {l : List T} {vs : List V}, FtnL C H l vs → FtnL C H (l.filter p) (((vs.zip (l.map p)).filter (·.2)).map (·.1))
  | [], vs, h => by
    have e : vs = [] := h
    subst e
    exact rfl
  | t :: ts, vs, h => by
    obtain ⟨v, r, rfl, h1, h2⟩ := (show ∃ v r, vs = v :: r ∧ Ftn C H t v ∧ FtnL C H ts r from h)
    rw [List.map_cons, List.zip_cons_cons, List.filter_cons, List.filter_cons]
    cases hp : p t with
    | true => exact ⟨v, _, rfl, h1, FtnL.filter h2⟩
    | false =>
      simp only [Bool.false_eq_true, if_false]
      exact FtnL.filter h2
theorem ite_f {b : Bool} {A B : Prop} (h : b = false) (x : B) : if b = true then A else B := by
  subst h
  exact x
theorem ite_t {b : Bool} {A B : Prop} (h : b = true) (x : A) : if b = true then A else B := by
  subst h
  exact x
theorem joinL_nil : ∀ ys : List (List Nat), TL.joinL [] ys = ys.flatten
  | [] => rfl
  | [x] => by
    show x = x ++ []
    rw [List.append_nil]
  | x :: y :: r => by
    show x ++ ([] ++ TL.joinL [] (y :: r)) = x ++ (y :: r).flatten
    rw [List.nil_append, joinL_nil (y :: r)]
theorem codesL_flat : ∀ l : List T, codesL l = (l.map T.codes).flatten
  | [] => rfl
  | t :: r => by
    show t.codes ++ codesL r = t.codes ++ (r.map T.codes).flatten
    rw [codesL_flat r]
theorem nil_S : ("" : Str) = SX.S [] := by decide +kernel
theorem op_S : ("(" : Str) = SX.S [40] := by decide +kernel
theorem cl_S : (")" : Str) = SX.S [41] := by decide +kernel
theorem join_tx (l : List T) : Txt.join "" (l.map tx) = SX.S (codesL l) := by
  have e : l.map tx = (l.map T.codes).map SX.S := by
    rw [List.map_map]
    rfl
  rw [e, nil_S, SX.join_S, joinL_nil, codesL_flat]
theorem tx_bas (l : List T) : (("(" : Str) ++ Txt.join "" (l.map tx)) ++ (")" : Str) = tx (.bas l) := by
  rw [join_tx, op_S, cl_S, SX.S_cat, SX.S_cat]
  rfl
theorem codesL_len (l : List T) : (codesL l).length ≤ 2 * sizeL l := by
  have h := (codes_len (.bas l)).1
  have h2 : (40 :: (codesL l ++ [41])).length + jtsL l = 2 * (1 + sizeL l) := h
  rw [List.length_cons, List.length_append, List.length_singleton] at h2
  omega
theorem lens_tx (l : List T) : ((l.map tx).map (·.length)).sum = (codesL l).length := by
  rw [codesL_flat, List.length_flatten, List.map_map, List.map_map]
  exact congrArg List.sum (List.map_congr_left fun t _ => SX.S_len t.codes)
def PendR (C : Addr) (H : Hp) : List (List T) → List V → Prop
  | [], vs => vs = []
  | p :: r, vs => ∃ a xs ws, vs = .ref a :: ws ∧ H a = some (.tup xs) ∧ FtnL C H p xs ∧ PendR C H r ws
theorem PendR.ext {C : Addr} {H H' : Hp} (e : ExtN H H') : ∀ {st : List (List T)} {vs : List V}, PendR C H st vs → PendR C H' st vs
  | [], _, h => h
  | p :: r, vs, h => by
    obtain ⟨a, xs, ws, rfl, h1, h2, h3⟩ := (show ∃ a xs ws, vs = .ref a :: ws ∧ H a = some (.tup xs) ∧ FtnL C H p xs ∧ PendR C H r ws from h)
    exact ⟨a, xs, ws, rfl, e _ _ h1 (fun ps z => by cases z), h2.ext e, PendR.ext e h3⟩
theorem PendR.len {C : Addr} {H : Hp} : ∀ {st : List (List T)} {vs : List V}, PendR C H st vs → vs.length = st.length
  | [], _, h => by
    rw [show _ = [] from h] <;> rfl
  | p :: r, vs, h => by
    obtain ⟨a, xs, ws, rfl, h1, h2, h3⟩ := (show ∃ a xs ws, vs = .ref a :: ws ∧ H a = some (.tup xs) ∧ FtnL C H p xs ∧ PendR C H r ws from h)
    rw [List.length_cons, List.length_cons, h3.len]
def ExtD (D : Addr) (H H' : Hp) : Prop := ∀ b o, b ≠ D → H b = some o → (∀ ps, o ≠ .tbl ps) → H' b = some o
theorem ExtD.of {D : Addr} {H H' : Hp} (e : ExtN H H') : ExtD D H H' := fun b o _ h n => e b o h n
theorem ExtD.trans {D : Addr} {H H1 H2 : Hp} (a : ExtD D H H1) (b : ExtD D H1 H2) : ExtD D H H2 := fun c o hc h n => b c o hc (a c o hc h n) n
theorem ExtD.put {D : Addr} {H H1 : Hp} {o : HO} (a : ExtD D H H1) : ExtD D H (upd H1 D o) := fun c u hc h n => by rw [upd_ne hc]; exact a c u hc h n
theorem ExtD.refl (D : Addr) (H : Hp) : ExtD D H H := fun _ _ _ h _ => h
section
variable {C D : Addr} {H H' : Hp} {xs : List V}
mutual
theorem ftn_extD (hd : H D = some (.lst xs)) (e : ExtD D H H') : ∀ (t : T) (v : V), Ftn C H t v → Ftn C H' t v
  | .jet, v, h => by
    have h2 : ∃ a dx b n, v = .ref a ∧ H a = some (.ins C dx (flds .jet b n)) ∧ H b = some (.tup []) ∧ H n = some (.tup (nums .jet)) := h
    obtain ⟨a, dx, b, n, ev, h1, h2, h3⟩ := h2
    exact ⟨a, dx, b, n, ev, e _ _ (ne_of h1 hd fun z => by cases z) h1 (fun ps z => by cases z), e _ _ (ne_of h2 hd fun z => by cases z) h2 (fun ps z => by cases z), e _ _ (ne_of h3 hd fun z => by cases z) h3 (fun ps z => by cases z)⟩
  | .bas l, v, h => by
    have h2 : ∃ a dx b n vs, v = .ref a ∧ H a = some (.ins C dx (flds (.bas l) b n)) ∧ H b = some (.tup vs) ∧ H n = some (.tup (nums (.bas l))) ∧ FtnL C H l vs := h
    obtain ⟨a, dx, b, n, vs, ev, h1, h2, h3, h4⟩ := h2
    exact ⟨a, dx, b, n, vs, ev, e _ _ (ne_of h1 hd fun z => by cases z) h1 (fun ps z => by cases z), e _ _ (ne_of h2 hd fun z => by cases z) h2 (fun ps z => by cases z), e _ _ (ne_of h3 hd fun z => by cases z) h3 (fun ps z => by cases z), ftnL_extD hd e l vs h4⟩
theorem ftnL_extD (hd : H D = some (.lst xs)) (e : ExtD D H H') : ∀ (l : List T) (vs : List V), FtnL C H l vs → FtnL C H' l vs
  | [], vs, h => h
  | t :: ts, vs, h => by
    have h2 : ∃ v r, vs = v :: r ∧ Ftn C H t v ∧ FtnL C H ts r := h
    obtain ⟨v, r, ev, h1, h2⟩ := h2
    exact ⟨v, r, ev, ftn_extD hd e t v h1, ftnL_extD hd e ts r h2⟩
end
theorem PendR.extD (hd : H D = some (.lst xs)) (e : ExtD D H H') : ∀ {st : List (List T)} {vs : List V}, PendR C H st vs → PendR C H' st vs
  | [], _, h => h
  | p :: r, vs, h => by
    obtain ⟨a, ys, ws, rfl, h1, h2, h3⟩ := (show ∃ a xs ws, vs = .ref a :: ws ∧ H a = some (.tup xs) ∧ FtnL C H p xs ∧ PendR C H r ws from h)
    exact ⟨a, ys, ws, rfl, e _ _ (ne_of h1 hd fun z => by cases z) h1 (fun ps z => by cases z), ftnL_extD hd e p ys h2, PendR.extD hd e h3⟩
end
theorem Tabs.put {TT : List (Addr × Str)} {H : Hp} {D : Addr} {xs ys : List V} (t : LamX.Tabs TT H) (hd : H D = some (.lst xs)) : LamX.Tabs TT (upd H D (.lst ys)) := fun p hp => by
  obtain ⟨ps, h1, h2, h3⟩ := t p hp
  refine ⟨ps, by rw [upd_ne (ne_of h1 hd fun z => by cases z)]; exact h1, h2, fun pos cv hc => ?_⟩
  obtain ⟨c, e1, e2⟩ := h3 pos cv hc
  exact ⟨c, e1, by rw [upd_ne (ne_of e2 hd fun z => by unfold LamX.CodeO at z; cases z)]; exact e2⟩
theorem Tabs.same {TT : List (Addr × Str)} {H H' : Hp} (t : LamX.Tabs TT H) (s : L2.Same H H') : LamX.Tabs TT H' := LamX.Tabs.ext t s
theorem sq_last {α : Type} (v : α) (r : List α) : ((v :: r).reverse)[(v :: r).reverse.length - 1]? = some v := by
  rw [List.reverse_cons]
  simp
theorem sq_butlast {α : Type} (v : α) (r : List α) : (v :: r).reverse.dropLast = r.reverse := by
  rw [List.reverse_cons, List.dropLast_concat]
theorem ix_last {n : Nat} (h : 0 < n) : ixN n (-1) = some (n - 1) := by
  unfold ixN
  rw [if_neg (by omega), if_pos (by omega)]
  exact congrArg some (by omega)
theorem at_last (v : V) (r : List V) : atI (v :: r).reverse (-1) = some v := by
  unfold atI
  rw [ix_last (by simp)]
  exact sq_last v r
theorem set_last (v w : V) (r : List V) : (v :: r).reverse.set ((v :: r).reverse.length - 1) w = (w :: r).reverse := by
  rw [List.reverse_cons, List.reverse_cons, List.length_append, List.length_singleton]
  simp
theorem tyL {K : PySem.W.Frag} {H : Hp} {D : Addr} {xs : List V} (h : H D = some (.lst xs)) : tyV K "list" (.ref D) H := .inl ⟨rfl, _, SqL.of h⟩
section
variable {C C' D dx' : Addr} {H H' : Hp} {fs : List (Str × V)}
mutual
theorem ftn_extX (hd : H D = some (.ins C' dx' fs)) (hf : fs.length ≠ 3) (e : ExtD D H H') : ∀ (t : T) (v : V), Ftn C H t v → Ftn C H' t v
  | .jet, v, h => by
    have h2 : ∃ a dx b n, v = .ref a ∧ H a = some (.ins C dx (flds .jet b n)) ∧ H b = some (.tup []) ∧ H n = some (.tup (nums .jet)) := h
    obtain ⟨a, dx, b, n, ev, h1, h2, h3⟩ := h2
    exact ⟨a, dx, b, n, ev, e _ _ (ne_of h1 hd fun z => by cases z; exact hf rfl) h1 (fun ps z => by cases z), e _ _ (ne_of h2 hd fun z => by cases z) h2 (fun ps z => by cases z), e _ _ (ne_of h3 hd fun z => by cases z) h3 (fun ps z => by cases z)⟩
  | .bas l, v, h => by
    have h2 : ∃ a dx b n vs, v = .ref a ∧ H a = some (.ins C dx (flds (.bas l) b n)) ∧ H b = some (.tup vs) ∧ H n = some (.tup (nums (.bas l))) ∧ FtnL C H l vs := h
    obtain ⟨a, dx, b, n, vs, ev, h1, h2, h3, h4⟩ := h2
    exact ⟨a, dx, b, n, vs, ev, e _ _ (ne_of h1 hd fun z => by cases z; exact hf rfl) h1 (fun ps z => by cases z), e _ _ (ne_of h2 hd fun z => by cases z) h2 (fun ps z => by cases z), e _ _ (ne_of h3 hd fun z => by cases z) h3 (fun ps z => by cases z), ftnL_extX hd hf e l vs h4⟩
theorem ftnL_extX (hd : H D = some (.ins C' dx' fs)) (hf : fs.length ≠ 3) (e : ExtD D H H') : ∀ (l : List T) (vs : List V), FtnL C H l vs → FtnL C H' l vs
  | [], vs, h => h
  | t :: ts, vs, h => by
    have h2 : ∃ v r, vs = v :: r ∧ Ftn C H t v ∧ FtnL C H ts r := h
    obtain ⟨v, r, ev, h1, h2⟩ := h2
    exact ⟨v, r, ev, ftn_extX hd hf e t v h1, ftnL_extX hd hf e ts r h2⟩
end
end
theorem Tabs.putI {TT : List (Addr × Str)} {H : Hp} {D C C' dx dx' : Addr} {fs gs : List (Str × V)} (t : LamX.Tabs TT H) (hd : H D = some (.ins C dx fs)) : LamX.Tabs TT (upd H D (.ins C' dx' gs)) := fun p hp => by
  obtain ⟨ps, h1, h2, h3⟩ := t p hp
  refine ⟨ps, by rw [upd_ne (ne_of h1 hd fun z => by cases z)]; exact h1, h2, fun pos cv hc => ?_⟩
  obtain ⟨c, e1, e2⟩ := h3 pos cv hc
  exact ⟨c, e1, by rw [upd_ne (ne_of e2 hd fun z => by unfold LamX.CodeO at z; cases z)]; exact e2⟩
theorem kids_size (t : T) : sizeL t.kids ≤ t.size := by
  cases t with
  | jet => exact Nat.zero_le _
  | bas l => show sizeL l ≤ 1 + sizeL l; omega
theorem Ftn.ne {C : Addr} {H : Hp} {t : T} {v : V} (h : Ftn C H t v) : v ≠ .non := by
  obtain ⟨a, _, _, _, _, rfl, _⟩ := ftn_iff.mp h
  exact fun z => by cases z
end JW
namespace JW
open PySem PySem.Spec PyProof.Rows L2 He
def gAd (K : PySem.W.Frag) (p : Str × Str) : Addr := match PySem.W.recIn K (ma K (ga K p.1) p.2) "property" with
  | some (.ref g :: _) => g
  | _ => 0
structure PrD where
  at_ : Str × Str
  name : Str
  qual : Str
  params : Arguments
  body : List Stmt
  scope : Scope
def fnWa (K : PySem.W.Frag) (a : Addr) : FnW := match K.lookup a with
  | some ⟨_, _, .func fd, _⟩ => some (fd.name, fd.qualname, fd.params, fd.body, fd.scope, fd.globals, fd.closure, fd.builtins)
  | _ => none
def PrD.val (d : PrD) : FnW := some (d.name, d.qual, d.params, .stmts d.body, d.scope, mainGlobals, [], builtinsNs)
def PrD.okP (K : PySem.W.Frag) (d : PrD) : Bool := eqO (PySem.W.findIn K (.ref (ga K d.at_.1)) d.at_.2) (some (some (.ref (ma K (ga K d.at_.1) d.at_.2)))) &&
  (eqO (PySem.W.specialIn K (.ref (ma K (ga K d.at_.1) d.at_.2)) "__get__") (some (some (.builtin "property.__get__"))) && (decide (PySem.W.takesIn K (.ref (ma K (ga K d.at_.1) d.at_.2)) = some true) &&
  (match PySem.W.recIn K (ma K (ga K d.at_.1) d.at_.2) "property" with
  | some (.ref _ :: _) => true
  | _ => false)))
def PrD.okF (K : PySem.W.Frag) (d : PrD) : Bool := PySem.W.keepIn K (.ref (gAd K d.at_)) && (match K.lookup (gAd K d.at_) with
  | some ⟨_, _, .func fd, _⟩ => PySem.W.codeIn K fd.code d.qual && (dflB K fd.defaults [] && kwdB K fd.kwdefaults [])
  | _ => false)
def PrD.ok (K : PySem.W.Frag) (d : PrD) : Bool := d.okP K && d.okF K
theorem PrD.propOf {K : PySem.W.Frag} {d : PrD} (h : d.okP K = true) : PropOf K (ga K d.at_.1) d.at_.2 (ma K (ga K d.at_.1) d.at_.2) (gAd K d.at_) := by
  obtain ⟨h1, h2⟩ := ba h
  obtain ⟨h3, h4⟩ := ba h2
  obtain ⟨h5, h6⟩ := ba h4
  refine ⟨eqO_ok h1, eqO_ok h3, of_decide_eq_true h5, ?_⟩
  unfold gAd
  generalize PySem.W.recIn K (ma K (ga K d.at_.1) d.at_.2) "property" = r at h6 ⊢
  cases r with
  | none => cases h6
  | some l =>
    cases l with
    | nil => cases h6
    | cons v rest =>
      cases v with
      | ref g => exact ⟨rest, rfl⟩
      | _ => cases h6
theorem PrD.funD {K : PySem.W.Frag} {d : PrD} (e : fnWa K (gAd K d.at_) = d.val) (c : d.okF K = true) : ∃ fd, FunD K d.name d.qual d.params d.body d.scope [] [] (gAd K d.at_) fd := by
  obtain ⟨kp, c2⟩ := ba c
  unfold fnWa at e
  cases q : K.lookup (gAd K d.at_) with
  | none =>
    rw [q] at c2
    cases c2
  | some o =>
    obtain ⟨oc, od, dt, osl⟩ := o
    rw [q] at c2 e
    cases dt with
    | func fd =>
      obtain ⟨n1, n2, n3, n4, n5, n6, n7, n8, n9, n10, n11, n12, n13, n14, n15⟩ := fd
      have e2 : (some (n1, n2, n3, n4, n5, n6, n7, n15) : FnW) = some (d.name, d.qual, d.params, .stmts d.body, d.scope, mainGlobals, [], builtinsNs) := e
      simp only [Option.some.injEq, Prod.mk.injEq] at e2
      obtain ⟨h1, h2, h3, h4, h5, h6, h7, h8⟩ := e2
      subst h1 h2 h3 h4 h5 h6 h7 h8
      have c3 : (PySem.W.codeIn K n13 d.qual && (dflB K n8 [] && kwdB K n9 [])) = true := c2
      obtain ⟨k1, k2⟩ := ba c3
      obtain ⟨k3, k4⟩ := ba k2
      exact ⟨_, ⟨oc, od, n8, n9, n10, n11, n12, n13, n14, osl, rfl, q, k1, dflB_ok k3, kwdB_ok k4⟩, kp⟩
    | _ => cases c2
def clsX (K : PySem.W.Frag) (x : Str) : Bool := eqO (PySem.W.findIn K (.ref (ga K x)) "__class__") (some (some (.builtin "object.__class__"))) &&
  (eqO (PySem.W.specialIn K (.builtin "object.__class__") "__get__") (some (some (.builtin "getset_descriptor.__get__"))) && (decide (PySem.W.takesIn K (.builtin "object.__class__") = some true) &&
  (decide (PySem.W.mroIn K (ga K x) (.type "object") = some true) && (eqO (PySem.W.findIn K (.ref (ga K x)) "__ne__") (some (some (.builtin "object.__ne__"))) && PySem.W.selfFirst K (ga K x)))))
theorem clsF_of {K : PySem.W.Frag} {mg : Str → Option Value} (g : mg "Fountain" = some (.ref (cF K))) (c : Cls K (cF K)) (nw : NoAttr K (cF K) "written") (nb : NoAttr K (cF K) "branches") (nn : NoAttr K (cF K) "numbers") (h : clsX K "Fountain" = true) : ClsF K mg := by
  obtain ⟨h1, h2⟩ := ba h
  obtain ⟨h3, h4⟩ := ba h2
  obtain ⟨h5, h6⟩ := ba h4
  obtain ⟨h7, h8⟩ := ba h6
  obtain ⟨h9, h10⟩ := ba h8
  exact ⟨g, c, nw, nb, nn, eqO_ok h1, eqO_ok h3, of_decide_eq_true h5, of_decide_eq_true h7, eqO_ok h9, of_decide_eq_true h7, h10⟩
structure SaysJ (fa : List Fa) (fn : List DefD) (tf : List Defn) (ex : PySem.W.Frag → Bool) (pr : List PrD) (w : World) (h : Heap) (K : PySem.W.Frag) : Prop where
  x : SaysX fa fn [] tf ex w h K
  p : pr.map (fun d => fnWa K (gAd K d.at_)) = pr.map PrD.val
  ok : (pr.all fun d => d.ok K) = true
section
variable {fa : List Fa} {fn : List DefD} {tf : List Defn} {ex : PySem.W.Frag → Bool} {pr : List PrD} {w : World} {h : Heap} {K : PySem.W.Frag}
theorem SaysJ.d (c : SaysJ fa fn tf ex pr w h K) : SaysD fa fn K := congrArg (fun z : AlT => z.1) c.x.t
end
end JW
namespace JW
open PySem PySem.Spec PyProof.Rows L2
def feedD (a b c : Int) : List (Key × V) := [(.inr "digits", .int a), (.inr "seed", .int b), (.inr "turn", .int c)]
theorem feed_digits {a b c : Int} : valV (feedD a b c) (.inr "digits") = some (.int a) := by kernel_rfl
theorem feed_seed {a b c : Int} : valV (feedD a b c) (.inr "seed") = some (.int b) := by kernel_rfl
theorem feed_turn {a b c : Int} : valV (feedD a b c) (.inr "turn") = some (.int c) := by kernel_rfl
theorem feed_put_digits {a b c x : Int} : putK (feedD a b c) (.inr "digits") (.int x) = feedD x b c := by kernel_rfl
theorem feed_put_seed {a b c x : Int} : putK (feedD a b c) (.inr "seed") (.int x) = feedD a x c := by kernel_rfl
theorem feed_put_turn {a b c x : Int} : putK (feedD a b c) (.inr "turn") (.int x) = feedD a b x := by kernel_rfl
theorem feed_made {a b c : Int} : mergeK [] (feedD a b c) = feedD a b c := by kernel_rfl
theorem feed_len {a b c : Int} : (feedD a b c).length < sizeLine := by show 3 < sizeLine; decide
def FeedAt (H : Hp) (d : Addr) : Prop := ∃ a b c : Int, H d = some (.dK (feedD a b c))
theorem FeedAt.same {H H' : Hp} {d : Addr} (h : FeedAt H d) (s : L2.Same H H') : FeedAt H' d := by
  obtain ⟨a, b, c, e⟩ := h
  exact ⟨a, b, c, s _ _ e⟩
theorem FeedAt.ne {H : Hp} {d p : Addr} (h : FeedAt H d) (hp : H p = none) : p ≠ d := by
  obtain ⟨a, b, c, e⟩ := h
  exact (ne_of_none e hp).symm
def SamD (d : Addr) (H H' : Hp) : Prop := ∀ b o, b ≠ d → H b = some o → H' b = some o
theorem SamD.refl (d : Addr) (H : Hp) : SamD d H H := fun _ _ _ h => h
theorem SamD.trans {d : Addr} {H H1 H2 : Hp} (a : SamD d H H1) (b : SamD d H1 H2) : SamD d H H2 := fun c o h1 h => b c o h1 (a c o h1 h)
theorem SamD.put {d : Addr} {H H1 : Hp} {o : HO} (a : SamD d H H1) : SamD d H (upd H1 d o) := fun c u h1 h => by rw [upd_ne h1]; exact a c u h1 h
theorem SamD.new {d p : Addr} {H H1 : Hp} {o : HO} (a : SamD d H H1) (hp : H1 p = none) : SamD d H (upd H1 p o) := fun c u h1 h => by rw [upd_ne (ne_of_none (a c u h1 h) hp)]; exact a c u h1 h
theorem SamD.mine {d p : Addr} {H H1 : Hp} {o : HO} (a : SamD d H H1) (hp : H p = none) : SamD d H (upd H1 p o) := fun c u h1 h => by rw [upd_ne (ne_of_none h hp)]; exact a c u h1 h
theorem SamD.of {d : Addr} {H H1 : Hp} (a : L2.Same H H1) : SamD d H H1 := fun c o _ h => a c o h
theorem SamD.same {d : Addr} {H H1 H2 : Hp} (a : SamD d H H1) (b : L2.Same H1 H2) : SamD d H H2 := fun c o h1 h => b c o (a c o h1 h)
theorem Tabs.samD {TT : List (Addr × Str)} {H H' : Hp} {d : Addr} (t : LamX.Tabs TT H) (f : FeedAt H d) (s : SamD d H H') : LamX.Tabs TT H' := fun p hp => by
  obtain ⟨a, b, c0, e⟩ := f
  obtain ⟨ps, h1, h2, h3⟩ := t p hp
  refine ⟨ps, s _ _ (ne_of h1 e fun z => by cases z) h1, h2, fun pos cv hc => ?_⟩
  obtain ⟨c, e1, e2⟩ := h3 pos cv hc
  exact ⟨c, e1, s _ _ (ne_of e2 e fun z => by unfold LamX.CodeO at z; cases z) e2⟩
section
variable {C d : Addr} {H H' : Hp}
end
end JW
namespace PySem
open Sem (wp)
open Builtin Builtin.Str
open AutoSeq1 (wpAny_loadPart')
section
variable {prog : Program} {w : World} {A : Around} {E : Value → Shared → Prop} {s : Shared}
end
section
variable {prog : Program} {w : World} {A : Around} {E : Value → Shared → Prop} {s : Shared}
end
end PySem
namespace JW
open PySem PySem.Spec PyProof.Rows L2
end JW
namespace JW
open PySem PySem.Spec PyProof.Rows L2 LamX
theorem DefAt.none {P : Program} {w : World} {K : PySem.W.Frag} {mg : Str → Option Value} {base : Heap} {CX : CXT} {x qual : Str} {st : Stmt} {ps : List Str} {k : Nat} {sp : Sp} (D : DefAt K mg x qual st [] ps) (h : ∀ vs H Q E, ¬ sp vs H Q E) : CallD P w K mg base CX k x ps [] sp := by
  obtain ⟨f, fd, h1, F, b⟩ := D.ex
  exact ⟨f, fd, [], h1, F.kp, b, .nil, ⟨fun vs H Q E z => absurd z (h _ _ _ _), fun A outer s H args us vs Q E hr e0 hb r z => absurd z (h _ _ _ _)⟩⟩
structure DefAtK (K : PySem.W.Frag) (mg : Str → Option Value) (x qual : Str) (st : Stmt) (kws : List (Str × V)) (ps : List Str) : Prop where
  ex : ∃ f fd, mg x = some (.ref f) ∧ FunD K x qual (defArgs st) (defBody st) (defScope st) [] kws f fd ∧ ∃ ds, Vals (kws.map (·.2)) ds ∧ Binds K fd ps ds
theorem DefAtK.ok {P : Program} {w : World} {K : PySem.W.Frag} {mg : Str → Option Value} {base : Heap} {CX : CXT} {x qual : Str} {st : Stmt} {N ps : List Str} {kws : List (Str × V)} {k : Nat} {sp : Sp} (D : DefAtK K mg x qual st kws ps) (S : FnScope N ps (defScope st)) (len : ∀ vs H Q E, sp vs H Q E → vs.length = ps.length)
    (hbody : ∀ (f : Addr) (cdv : Value) (A : Around) (outer : List Env) (s : Shared) (H : Hp) (vs : List V) (Q : VK) (E : XK), Room k (A.deeper (envOfC qual (defScope st) s.heap.objs.size f cdv)) → sp vs H Q E →
      ∃ t, PSs (cxOf CX P w K mg base N qual (defScope st) f cdv A outer s H E).nox (defBody st) t ∧ t { nx := fun _ H' => Q .non H', rt := Q } (start N vs) H) : CallD P w K mg base CX (k + 1) x ps (kws.map (·.2)) sp := by
  obtain ⟨f, fd, h1, F, ds, r, b⟩ := D.ex
  exact ⟨f, fd, ds, h1, F.kp, b, r, JW.okF F S len fun cdv A outer s H vs Q E hr h => hbody f cdv A outer s H vs Q E hr h⟩
end JW
namespace JW
open PySem PySem.Spec PyProof.Rows L2
mutual
def PT (H : Hp) : T → V → Prop
  | .jet, v => v = .str (tx .jet)
  | .bas l, v => ∃ a vs, v = .ref a ∧ H a = some (.tup vs) ∧ PTL H l vs
def PTL (H : Hp) : List T → List V → Prop
  | [], vs => vs = []
  | t :: ts, vs => ∃ v r, vs = v :: r ∧ PT H t v ∧ PTL H ts r
end
section
variable {H H' : Hp}
def TupS (H H' : Hp) : Prop := ∀ a xs, H a = some (.tup xs) → H' a = some (.tup xs)
theorem TupS.of (s : L2.Same H H') : TupS H H' := fun a _ e => s a _ e
theorem TupS.ext (e : LamX.ExtN H H') : TupS H H' := fun a _ h => e a _ h fun ps z => by cases z
theorem TupS.refl (H : Hp) : TupS H H := fun _ _ h => h
theorem TupS.trans {H1 : Hp} (a : TupS H H1) (b : TupS H1 H') : TupS H H' := fun c xs h => b c xs (a c xs h)
mutual
theorem pt_tup (s : TupS H H') : ∀ (t : T) (v : V), PT H t v → PT H' t v
  | .jet, v, h => h
  | .bas l, v, h => by
    obtain ⟨a, vs, ev, e, h2⟩ := (show ∃ a vs, v = .ref a ∧ H a = some (.tup vs) ∧ PTL H l vs from h)
    exact ⟨a, vs, ev, s _ _ e, ptl_tup s l vs h2⟩
theorem ptl_tup (s : TupS H H') : ∀ (l : List T) (vs : List V), PTL H l vs → PTL H' l vs
  | [], vs, h => h
  | t :: ts, vs, h => by
    obtain ⟨v, r, ev, h1, h2⟩ := (show ∃ v r, vs = v :: r ∧ PT H t v ∧ PTL H ts r from h)
    exact ⟨v, r, ev, pt_tup s t v h1, ptl_tup s ts r h2⟩
end
theorem PT.keep {t : T} {v : V} (h : PT H t v) (s : TupS H H') : PT H' t v := pt_tup s t v h
theorem PTL.keep {l : List T} {vs : List V} (h : PTL H l vs) (s : TupS H H') : PTL H' l vs := ptl_tup s l vs h
theorem PTL.len : ∀ {l : List T} {vs : List V}, PTL H l vs → vs.length = l.length
  | [], vs, h => by
    have e : vs = [] := h
    rw [e] <;> rfl
  | t :: ts, vs, h => by
    obtain ⟨v, r, rfl, _, h2⟩ := (show ∃ v r, vs = v :: r ∧ PT H t v ∧ PTL H ts r from h)
    rw [List.length_cons, List.length_cons, PTL.len h2]
theorem PTL.get : ∀ {l : List T} {vs : List V} {i : Nat} {v : V}, PTL H l vs → vs[i]? = some v → ∃ t, l[i]? = some t ∧ PT H t v
  | [], vs, i, v, h, e => by
    have e2 : vs = [] := h
    rw [e2] at e
    simp at e
  | t :: ts, vs, i, v, h, e => by
    obtain ⟨u, r, rfl, h1, h2⟩ := (show ∃ v r, vs = v :: r ∧ PT H t v ∧ PTL H ts r from h)
    cases i with
    | zero =>
      have e3 : u = v := by simpa using e
      exact ⟨t, rfl, e3 ▸ h1⟩
    | succ i =>
      obtain ⟨t', e1, e2⟩ := PTL.get h2 (i := i) (v := v) (by simpa using e)
      exact ⟨t', by simpa using e1, e2⟩
theorem PTL.app : ∀ {l m : List T} {vs ws : List V}, PTL H l vs → PTL H m ws → PTL H (l ++ m) (vs ++ ws)
  | [], m, vs, ws, h, h' => by
    have e : vs = [] := h
    rw [e]
    exact h'
  | t :: ts, m, vs, ws, h, h' => by
    obtain ⟨u, r, rfl, h1, h2⟩ := (show ∃ v r, vs = v :: r ∧ PT H t v ∧ PTL H ts r from h)
    exact ⟨u, r ++ ws, rfl, h1, PTL.app h2 h'⟩
theorem PTL.one {t : T} {v : V} (h : PT H t v) : PTL H [t] [v] := ⟨v, [], rfl, h, rfl⟩
end
section
variable {K : PySem.W.Frag} {H : Hp}
end
theorem PTL.zip {H : Hp} : ∀ {l : List T} {vs : List V}, PTL H l vs → ∀ p ∈ (l.map tx).zip vs, ∃ t, p.1 = tx t ∧ PT H t p.2
  | [], vs, _, p, hp => by
    rw [List.map_nil, List.zip_nil_left] at hp
    cases hp
  | t :: ts, vs, h, p, hp => by
    obtain ⟨u, r, rfl, h1, h2⟩ := (show ∃ v r, vs = v :: r ∧ PT H t v ∧ PTL H ts r from h)
    rw [List.map_cons, List.zip_cons_cons] at hp
    rcases List.mem_cons.mp hp with e | e
    · exact ⟨t, by rw [e], by rw [e]; exact h1⟩
    · exact PTL.zip h2 p e
theorem PTL.push {H : Hp} {l : List T} {vs : List V} {t : T} {v : V} {P : Addr} (h : PTL H l vs) (hv : PT H t v) (hP : H P = some (.lst vs)) : PTL (upd H P (.lst (vs ++ [v]))) (l ++ [t]) (vs ++ [v]) := by
  have kp : TupS H (upd H P (.lst (vs ++ [v]))) := fun c zs ec => by rw [upd_ne (ne_of ec hP fun z => by cases z)]; exact ec
  exact PTL.keep (PTL.app h (PTL.one hv)) kp
end JW
namespace JW
open PySem PySem.Spec PyProof.Rows L2 LamX
def ExtS (d g : Addr) (H H' : Hp) : Prop := ∀ b o, b ≠ d → b ≠ g → H b = some o → (∀ ps, o ≠ .tbl ps) → H' b = some o
section
variable {d g : Addr} {H H1 H' : Hp}
theorem ExtS.refl (d g : Addr) (H : Hp) : ExtS d g H H := fun _ _ _ _ h _ => h
theorem ExtS.trans (a : ExtS d g H H1) (b : ExtS d g H1 H') : ExtS d g H H' := fun c o h1 h2 h n => b c o h1 h2 (a c o h1 h2 h n) n
theorem SackAt.extN (h : SackAt H d g) (e : ExtN H H') : SackAt H' d g := by
  obtain ⟨ns, a, b, c, n, e1, e2⟩ := h
  exact ⟨ns, a, b, c, n, e _ _ e1 (fun ps z => by cases z), e _ _ e2 (fun ps z => by cases z)⟩
variable {C : Addr}
end
theorem ExtS.mine {d g : Addr} {H0 H H' : Hp} (a : L2.Same H0 H) (hd : H0 d = none) (hg : H0 g = none) (b : ExtS d g H H') : LamX.ExtN H0 H' := fun c o h n => b c o (ne_of_none h hd) (ne_of_none h hg) (a c o h) n
end JW
namespace JW
open PySem PySem.Spec PyProof.Rows L2
section
variable {P : Program} {w : World} {K : PySem.W.Frag} {mg : Str → Option Value} {base : Heap} {C : Addr}
end
section
variable {X : Cx} {CX : CXT} {k : Nat} {f C : Addr} {fd : FuncData} {ps : List Str} {sp : Sp} {dvs : List V} {ds : List Value} {E : L2.St → XK} {x m : Str} {p pos apos : Pos} {e o a b : Expr} {es : List Expr} {ta tb : TE} {t : TA}
end
section
variable {X : Cx} {o e : Expr} {es : List Expr} {ta : TA} {x : Str} {p p' p1 p2 pos : Pos} {D : Addr} {mc : Value}
structure InitBy (K : PySem.W.Frag) (D : Addr) : Prop where
  ex : ∃ mc, ClX.CRead K D mc ∧ PySem.W.findCls K (.ref D) mc "__init__" = some (.val (.builtin "ValueError.__init__"))
theorem pe_cinit {pl : Sem Bool} (hg : Gl X x) (hm : X.mg x = some (.ref D)) (B : InitBy X.K D) (ha : PA X (e :: es) ta) (hdb : (x == ("__debug__" : Str)) = false := by decide)
    (hc : eval (.Call (.Attribute (.Name x p1) "__init__" p2) (e :: es) [] pos) X.env = (do
      let ov ← eval (.Name x p1) X.env
      standAt p2.atName
      let (f, first) ← holding [ov] (getMethod ov "__init__" pl)
      callWith pos f first (backTo pos (starEach (e :: es) X.env)) (backToKw pos (keywordEach [] X.env))) := by rfl)
    (he : starEach (e :: es) X.env = (false, eval e X.env) :: starEach es X.env := by rfl) (hpl : (backTo pos (starEach es X.env)).any (·.1) = false := by rfl) :
    PE X (.Call (.Attribute (.Name x p1) "__init__" p2) (e :: es) [] pos) (tVeI X.K ta) := by
  obtain ⟨mc, r, k⟩ := B.ex
  refine ⟨fun pins s σ H Q I h => ?_⟩
  refine PySem.W.methodCall_KW (ld_glob I hg hm ?_ hdb) hc
  refine PySem.W.method_cls I.kIn r.ga (PySem.W.cls_value I.kIn r.rd k (by decide +kernel) ?_)
  show wpAny _ _ (callWith pos (Value.builtin "ValueError.__init__") [] (backTo pos (starEach (e :: es) X.env)) []) _ _ _
  refine PyProof.Rows.callWith_method1 (thn (ha.run pos pins _ σ H _ (I.tok _) h) fun us s1 ⟨vs, H1, I1, r1, a, C, ws, ev, hl, T, ea, q⟩ => ?_) he hpl
  subst ev
  cases r1 with
  | @cons _ u0 _ ur ra rw' =>
    obtain rfl : u0 = Value.ref a := ra
    have hlen : ur.length ≤ sizeLine := by
      rw [← Paired.length rw', sizeLine_eq]
      omega
    exact oinit_ok T I1 ea hlen fun s' J => ⟨.non, H1, J, rfl, q⟩
end
structure ErrC (K : PySem.W.Frag) (C : Addr) : Prop where
  o : OexC K C
  xf : XfC K C
  ex : ExcC K C
structure ErrAt (K : PySem.W.Frag) (mg : Str → Option Value) (x : Str) (C : Addr) (qual : Str) (st : Stmt) (ps : List Str) : Prop where
  g : mg x = some (.ref C)
  c : ErrC K C
  ex : ∃ f fd, PySem.W.findIn K (.ref C) "__init__" = some (some (.ref f)) ∧ PySem.W.typeIn K (.ref f) = some (.type "function") ∧ FunD K "__init__" qual (defArgs st) (defBody st) (defScope st) [] [] f fd ∧ Binds K fd ps []
structure ErrD (P : Program) (w : World) (K : PySem.W.Frag) (mg : Str → Option Value) (base : Heap) (k : Nat) (x : Str) (C : Addr) (ps : List Str) (sp : Sp) : Prop where
  g : mg x = some (.ref C)
  c : ErrC K C
  ex : ∃ f fd, PySem.W.findIn K (.ref C) "__init__" = some (some (.ref f)) ∧ PySem.W.typeIn K (.ref f) = some (.type "function") ∧ Binds K fd ps [] ∧ FnOk P w K mg base CX0 k f fd ps sp
def spErr (K : PySem.W.Frag) (C : Addr) (f : Str) : Sp := fun vs H Q _ => ∃ a v, vs = [.ref a, v] ∧ H a = some (exo a C none) ∧ ∀ d, H d = none → d ≠ a → Q .non (upd (upd H d (exd d [(f, v)])) a (exo a C (some d)))
section
variable {P : Program} {w : World} {K : PySem.W.Frag} {mg : Str → Option Value} {base : Heap} {C : Addr} {x : Str}
theorem ErrAt.ok {qual : Str} {st : Stmt} {N ps : List Str} {k : Nat} {sp : Sp} (D : ErrAt K mg x C qual st ps) (S : FnScope N ps (defScope st)) (len : ∀ vs H Q E, sp vs H Q E → vs.length = ps.length)
    (hbody : ∀ (f : Addr) (cdv : Value) (A : Around) (outer : List Env) (s : Shared) (H : Hp) (vs : List V) (Q : VK) (E : XK), Room k (A.deeper (envOfC qual (defScope st) s.heap.objs.size f cdv)) → sp vs H Q E →
      ∃ t, PSs (cxOf CX0 P w K mg base N qual (defScope st) f cdv A outer s H E).nox (defBody st) t ∧ t { nx := fun _ H' => Q .non H', rt := Q } (start N vs) H) : ErrD P w K mg base (k + 1) x C ps sp := by
  obtain ⟨f, fd, h1, h2, F, b⟩ := D.ex
  exact ⟨D.g, D.c, f, fd, h1, h2, b, okF F S len fun cdv A outer s H vs Q E hr h => hbody f cdv A outer s H vs Q E hr h⟩
end
section
variable {X : Cx} {e : Expr} {te : TE} {p pos : Pos} {x f : Str} {C : Addr} {k : Nat} {ps : List Str}
end
end JW
namespace JW
open PySem PySem.Spec PyProof.Rows L2
structure BaseAt (mg : Str → Option Value) (x : Str) (C : Addr) : Prop where
  g : mg x = some (.ref C)
structure CmAt (K : PySem.W.Frag) (C : Addr) (m qual : Str) (st : Stmt) (ps : List Str) : Prop where
  ex : ∃ mc p f fd, ClX.CRead K C mc ∧ ClX.CMet K C mc m p f ∧ FunD K m qual (defArgs st) (defBody st) (defScope st) [] [] f fd ∧ Binds K fd ps []
structure CmD (P : Program) (w : World) (K : PySem.W.Frag) (mg : Str → Option Value) (base : Heap) (CX : CXT) (k : Nat) (C : Addr) (m : Str) (ps : List Str) (sp : Sp) : Prop where
  ex : ∃ mc p f fd, ClX.CRead K C mc ∧ ClX.CMet K C mc m p f ∧ Binds K fd ps [] ∧ FnOk P w K mg base CX k f fd ps sp
section
variable {P : Program} {w : World} {K : PySem.W.Frag} {mg : Str → Option Value} {base : Heap} {C : Addr}
theorem CmAt.ok {m qual : Str} {st : Stmt} {N ps : List Str} {k : Nat} {sp : Sp} {CX : CXT} (D : CmAt K C m qual st ps) (S : FnScope N ps (defScope st)) (len : ∀ vs H Q E, sp vs H Q E → vs.length = ps.length)
    (hbody : ∀ (f : Addr) (cdv : Value) (A : Around) (outer : List Env) (s : Shared) (H : Hp) (vs : List V) (Q : VK) (E : XK), Room k (A.deeper (envOfC qual (defScope st) s.heap.objs.size f cdv)) → sp vs H Q E →
      ∃ t, PSs (cxOf CX P w K mg base N qual (defScope st) f cdv A outer s H E).nox (defBody st) t ∧ t { nx := fun _ H' => Q .non H', rt := Q } (start N vs) H) : CmD P w K mg base CX (k + 1) C m ps sp := by
  obtain ⟨mc, p, f, fd, h1, h2, F, b⟩ := D.ex
  exact ⟨mc, p, f, fd, h1, h2, b, okF F S len fun cdv A outer s H vs Q E hr h => hbody f cdv A outer s H vs Q E hr h⟩
end
section
variable {X : Cx} {CX : CXT} {k : Nat} {C : Addr} {ps : List Str} {sp : Sp} {E : L2.St → XK} {x m : Str} {p1 apos pos : Pos} {e : Expr} {es : List Expr} {t : TA}
end
end JW
namespace JW
end JW
namespace JW
open PySem PySem.Spec PyProof.Rows L2
theorem rep_cps (c : Nat) : ∀ (n : Nat) (a : Array Nat), (List.replicate n #[c]).foldl (· ++ ·) a = a ++ (List.replicate n c).toArray
  | 0, a => by simp
  | n + 1, a => by
    rw [List.replicate_succ, List.foldl_cons, rep_cps c n, List.replicate_succ]
    apply Array.ext'
    simp
def rRepS : R2 := fun x y H Q => ∃ (c n : Nat), x = .str (SX.S [c]) ∧ y = .int n ∧ 1 ≤ n ∧ n ≤ 100000 ∧ Q (.str (SX.S (List.replicate n c))) H
theorem op_rep_str {X : Cx} : OpR X (binaryOp .Mult) rRepS := by
  intro pins s σ H x y v u Q I rx ry h
  obtain ⟨c, n, rfl, rfl, h1, h2, q⟩ := h
  obtain ⟨t, rfl⟩ := rx
  obtain ⟨t2, rfl⟩ := ry
  have hl1 : (SX.S [c]).length = 1 := rfl
  refine PySem.P.mul_str (by rw [decide_eq_false (by omega), decide_eq_false (by omega)]; rfl) (fun _ _ => ?_) (fun _ _ => ?_) ?_
  · rw [hl1]
    have h3 : (1 : Int) ≤ (2 ^ 63 - 1) / (n : Int) := by
      rw [Int.le_ediv_iff_mul_le (by omega)]
      omega
    show ¬ (((1 : Nat) : Int) > _)
    omega
  · rw [hl1]
    exact decide_eq_false (show ¬ (1 * ((n : Nat) : Int).toNat > sizeLine) by rw [sizeLine_eq]; omega)
  · rw [if_neg (by omega)]
    by_cases e : n = 1
    · subst e
      rw [if_pos (show (((1 : Nat) : Int) == 1 || (SX.S [c]).length == 0) = true from rfl)]
      exact ⟨.str (SX.S [c]), H, I, ⟨t, rfl⟩, q⟩
    · rw [if_neg (by rw [hl1]; simp; omega)]
      have e2 : (⟨(List.replicate ((n : Nat) : Int).toNat (SX.S [c]).cps).foldl (· ++ ·) #[]⟩ : Str) = SX.S (List.replicate n c) := by
        show (⟨(List.replicate n #[c]).foldl (· ++ ·) #[]⟩ : Str) = ⟨(List.replicate n c).toArray⟩
        rw [rep_cps]
        simp
      rw [e2]
      exact ⟨by rw [SX.S_len, List.length_replicate, sizeLine_eq]; omega, .str (SX.S (List.replicate n c)), H, I.tok _, ⟨_, rfl⟩, q⟩
end JW
namespace JW
open PySem PySem.Spec PyProof.Rows L2 LamX
def ExtF (d : Addr) (H H' : Hp) : Prop := ∀ b o, b ≠ d → H b = some o → (∀ ps, o ≠ .tbl ps) → H' b = some o
section
variable {d : Addr} {H H1 H' : Hp} {C : Addr}
theorem ExtF.refl (d : Addr) (H : Hp) : ExtF d H H := fun _ _ _ h _ => h
theorem ExtF.trans (a : ExtF d H H1) (b : ExtF d H1 H') : ExtF d H H' := fun c o h1 h n => b c o h1 (a c o h1 h n) n
theorem FeedAt.extN (h : FeedAt H d) (e : ExtN H H') : FeedAt H' d := by
  obtain ⟨a, b, c, z⟩ := h
  exact ⟨a, b, c, e _ _ z fun ps q => by cases q⟩
theorem ExtF.mine {H0 : Hp} (a : L2.Same H0 H) (hd : H0 d = none) (b : ExtF d H H') : ExtN H0 H' := fun c o h n => b c o (ne_of_none h hd) (a c o h) n
mutual
theorem ftn_extF (f : FeedAt H d) (s : ExtF d H H') : ∀ (t : T) (v : V), Ftn C H t v → Ftn C H' t v
  | .jet, v, h => by
    have h2 : ∃ a dx b n, v = .ref a ∧ H a = some (.ins C dx (flds .jet b n)) ∧ H b = some (.tup []) ∧ H n = some (.tup (nums .jet)) := h
    obtain ⟨a, dx, b, n, ev, h1, h2, h3⟩ := h2
    obtain ⟨x, y, z, e⟩ := f
    exact ⟨a, dx, b, n, ev, s _ _ (ne_of h1 e fun z => by cases z) h1 (fun ps z => by cases z), s _ _ (ne_of h2 e fun z => by cases z) h2 (fun ps z => by cases z), s _ _ (ne_of h3 e fun z => by cases z) h3 (fun ps z => by cases z)⟩
  | .bas l, v, h => by
    have h2 : ∃ a dx b n vs, v = .ref a ∧ H a = some (.ins C dx (flds (.bas l) b n)) ∧ H b = some (.tup vs) ∧ H n = some (.tup (nums (.bas l))) ∧ FtnL C H l vs := h
    obtain ⟨a, dx, b, n, vs, ev, h1, h2, h3, h4⟩ := h2
    have h4' := ftnL_extF f s l vs h4
    obtain ⟨x, y, z, e⟩ := f
    exact ⟨a, dx, b, n, vs, ev, s _ _ (ne_of h1 e fun z => by cases z) h1 (fun ps z => by cases z), s _ _ (ne_of h2 e fun z => by cases z) h2 (fun ps z => by cases z), s _ _ (ne_of h3 e fun z => by cases z) h3 (fun ps z => by cases z), h4'⟩
theorem ftnL_extF (f : FeedAt H d) (s : ExtF d H H') : ∀ (l : List T) (vs : List V), FtnL C H l vs → FtnL C H' l vs
  | [], vs, h => h
  | t :: ts, vs, h => by
    have h2 : ∃ v r, vs = v :: r ∧ Ftn C H t v ∧ FtnL C H ts r := h
    obtain ⟨v, r, ev, h1, h2⟩ := h2
    exact ⟨v, r, ev, ftn_extF f s t v h1, ftnL_extF f s ts r h2⟩
end
theorem Ftn.fx {t : T} {v : V} (h : Ftn C H t v) (f : FeedAt H d) (s : ExtF d H H') : Ftn C H' t v := ftn_extF f s t v h
end
end JW
namespace JW
open PySem PySem.Spec PyProof.Rows L2 He
def asE (g : Addr → Option Obj) (n : Nat) : List Addr := asD g n ++ [PySem.cStatics]
structure FxD where
  adr : PySem.W.Frag → Addr
  name : Str
  qual : Str
  params : Arguments
  body : List Stmt
  scope : Scope
def FxD.val (d : FxD) : FnW := some (d.name, d.qual, d.params, .stmts d.body, d.scope, mainGlobals, [], builtinsNs)
def FxD.okF (K : PySem.W.Frag) (d : FxD) : Bool := PySem.W.keepIn K (.ref (d.adr K)) && (match K.lookup (d.adr K) with
  | some ⟨_, _, .func fd, _⟩ => PySem.W.codeIn K fd.code d.qual && (dflB K fd.defaults [] && kwdB K fd.kwdefaults [])
  | _ => false)
theorem FxD.funD {K : PySem.W.Frag} {d : FxD} (e : fnWa K (d.adr K) = d.val) (c : d.okF K = true) : ∃ fd, FunD K d.name d.qual d.params d.body d.scope [] [] (d.adr K) fd := by
  obtain ⟨kp, c2⟩ := ba c
  unfold fnWa at e
  cases q : K.lookup (d.adr K) with
  | none =>
    rw [q] at c2
    cases c2
  | some o =>
    obtain ⟨oc, od, dt, osl⟩ := o
    rw [q] at c2 e
    cases dt with
    | func fd =>
      obtain ⟨m1, m2, m3, m4, m5, m6, m7, m8, m9, m10, m11, m12, m13, m14, m15⟩ := fd
      have e2 : (some (m1, m2, m3, m4, m5, m6, m7, m15) : FnW) = some (d.name, d.qual, d.params, .stmts d.body, d.scope, mainGlobals, [], builtinsNs) := e
      simp only [Option.some.injEq, Prod.mk.injEq] at e2
      obtain ⟨h1, h2, h3, h4, h5, h6, h7, h8⟩ := e2
      subst h1 h2 h3 h4 h5 h6 h7 h8
      have c3 : (PySem.W.codeIn K m13 d.qual && (dflB K m8 [] && kwdB K m9 [])) = true := c2
      obtain ⟨k1, k2⟩ := ba c3
      obtain ⟨k3, k4⟩ := ba k2
      exact ⟨_, ⟨oc, od, m8, m9, m10, m11, m12, m13, m14, osl, rfl, q, k1, dflB_ok k3, kwdB_ok k4⟩, kp⟩
    | _ => cases c2
def propB (K : PySem.W.Frag) (p : Str × Str) : Bool := PrD.okP K ⟨p, "", "", defArgs (.Pass ⟨0, 0, 0, 0⟩), [], defScope (.Pass ⟨0, 0, 0, 0⟩)⟩
theorem propB_ok {K : PySem.W.Frag} {p : Str × Str} (h : propB K p = true) : PropOf K (ga K p.1) p.2 (ma K (ga K p.1) p.2) (gAd K p) := PrD.propOf (d := ⟨p, "", "", defArgs (.Pass ⟨0, 0, 0, 0⟩), [], defScope (.Pass ⟨0, 0, 0, 0⟩)⟩) h
def cmAd (K : PySem.W.Frag) (p : Str × Str) : Addr := match PySem.W.findCls K (.ref (ga K p.1)) (.type "type") p.2 with
  | some (.get _ (.ref q) _ _) => q
  | _ => 0
def cgAd (K : PySem.W.Frag) (p : Str × Str) : Addr := match PySem.W.recIn K (cmAd K p) "classmethod" with
  | some (.ref g :: _) => g
  | _ => 0
def readB (K : PySem.W.Frag) (C : Addr) : Bool := PySem.W.readsIn K C (.type "type") && eqO (PySem.W.specialIn K (.ref C) "__getattribute__") (some (some (.builtin "type.__getattribute__")))
theorem readB_ok {K : PySem.W.Frag} {C : Addr} (h : readB K C = true) : ClX.CRead K C (.type "type") := by
  obtain ⟨h1, h2⟩ := ba h
  exact ⟨h1, eqO_ok h2⟩
def cmB (K : PySem.W.Frag) (p : Str × Str) : Bool := readB K (ga K p.1) && ((match PySem.W.findCls K (.ref (ga K p.1)) (.type "type") p.2 with
  | some (.get (.builtin i) (.ref _) .none (.ref c)) => decide (i = "classmethod.__get__") && decide (c = ga K p.1)
  | _ => false) && ((match PySem.W.recIn K (cmAd K p) "classmethod" with
  | some (.ref _ :: _) => true
  | _ => false) && PySem.W.fnIn K (cgAd K p)))
theorem cmB_ok {K : PySem.W.Frag} {p : Str × Str} (h : cmB K p = true) : ClX.CRead K (ga K p.1) (.type "type") ∧ ClX.CMet K (ga K p.1) (.type "type") p.2 (cmAd K p) (cgAd K p) := by
  obtain ⟨h1, h⟩ := ba h
  obtain ⟨h2, h⟩ := ba h
  obtain ⟨h3, h4⟩ := ba h
  refine ⟨readB_ok h1, ?_, ?_, h4⟩
  · unfold cmAd
    generalize PySem.W.findCls K (.ref (ga K p.1)) (.type "type") p.2 = r at h2 ⊢
    cases r with
    | none => cases h2
    | some f =>
      cases f with
      | val v => cases h2
      | get g a o t =>
        cases g with
        | builtin i =>
          cases a with
          | ref q =>
            cases o with
            | none =>
              cases t with
              | ref c =>
                obtain ⟨z1, z2⟩ := ba (show (decide (i = "classmethod.__get__") && decide (c = ga K p.1)) = true from h2)
                rw [of_decide_eq_true z1, of_decide_eq_true z2]
              | _ => cases h2
            | _ => cases h2
          | _ => cases h2
        | _ => cases h2
  · unfold cgAd
    generalize PySem.W.recIn K (cmAd K p) "classmethod" = r at h3 ⊢
    cases r with
    | none => cases h3
    | some l =>
      cases l with
      | nil => cases h3
      | cons v rest =>
        cases v with
        | ref g => exact ⟨rest, rfl⟩
        | _ => cases h3
def oexB (K : PySem.W.Frag) (C : Addr) : Bool := (match K.lookup C with
  | some ⟨.type t, _, .cls cd, sl⟩ => decide (t = "type") && (match cd.mro, sl.toList with
    | .ref c :: bm, [_, _, _, _, some (.builtin n), _] => decide (c = C) && (decide (n = "ValueError.__new__") && (!cd.hasDel && (cd.hasDict && PySem.HandSPX.refsVE bm)))
    | _, _ => false)
  | _ => false) && (eqO (PySem.W.findIn K (.ref C) "__setattr__") (some (some (.builtin "object.__setattr__"))) && (decide (PySem.W.subIn K (.ref C) (.type "BaseException") = some true) && (decide (PySem.W.typeIn K (.ref C) = some (.type "type")) && PySem.W.keepIn K (.ref C))))
theorem oexB_ok {K : PySem.W.Frag} {C : Addr} (h : oexB K C = true) : OexC K C := by
  obtain ⟨h1, h⟩ := ba h
  obtain ⟨h2, h⟩ := ba h
  obtain ⟨h3, h⟩ := ba h
  obtain ⟨h4, h5⟩ := ba h
  refine ⟨?_, eqO_ok h2, of_decide_eq_true h3, of_decide_eq_true h4, h5⟩
  cases q : K.lookup C with
  | none =>
    rw [q] at h1
    cases h1
  | some o =>
    obtain ⟨oc, od, dt, sl⟩ := o
    rw [q] at h1
    cases oc with
    | type t =>
      cases dt with
      | cls cd =>
        obtain ⟨z1, z2⟩ := ba h1
        obtain ⟨nm, bs, mro, ns, qn, hd, sn, sub, ab, col, del⟩ := cd
        dsimp only at z2
        cases mro with
        | nil => cases z2
        | cons v bm =>
          cases v with
          | ref c =>
            obtain ⟨sl⟩ := sl
            match sl, z2 with
            | [k0, k1, k2, k3, some (.builtin n), k5], z2 =>
              obtain ⟨y1, y⟩ := ba (show (decide (c = C) && (decide (n = "ValueError.__new__") && (!del && (hd && PySem.HandSPX.refsVE bm)))) = true from z2)
              obtain ⟨y2, y⟩ := ba y
              obtain ⟨y3, y⟩ := ba y
              obtain ⟨y4, y5⟩ := ba y
              have ec := of_decide_eq_true y1
              have en := of_decide_eq_true y2
              have ed : del = false := by simpa using y3
              have et := of_decide_eq_true z1
              subst ec en ed et y4
              exact ⟨nm, qn, ns, bs, bm, sn, sub, ab, col, od, k0, k1, k2, k3, k5, rfl, y5⟩
          | _ => cases z2
      | _ => cases h1
    | _ => cases h1
def excB (K : PySem.W.Frag) (D : Addr) : Bool := eqO (PySem.W.findIn K (.ref D) "__getattribute__") (some (some (.builtin "BaseException.__getattribute__"))) && (eqO (PySem.W.findIn K (.ref D) "__getattr__") (some none) &&
  (decide (PySem.W.subIn K (.ref D) (.type "BaseException") = some true) && (PySem.W.hasDictIn K D && (eqO (PySem.W.findIn K (.ref D) "__class__") (some (some (.builtin "object.__class__"))) &&
  (eqO (PySem.W.specialIn K (.builtin "object.__class__") "__get__") (some (some (.builtin "getset_descriptor.__get__"))) && (decide (PySem.W.takesIn K (.builtin "object.__class__") = some true) && decide (PySem.W.mroIn K D (.type "object") = some true)))))))
theorem excB_ok {K : PySem.W.Frag} {D : Addr} (h : excB K D = true) : ExcC K D := by
  obtain ⟨h1, h⟩ := ba h
  obtain ⟨h2, h⟩ := ba h
  obtain ⟨h3, h⟩ := ba h
  obtain ⟨h4, h⟩ := ba h
  obtain ⟨h5, h⟩ := ba h
  obtain ⟨h6, h⟩ := ba h
  obtain ⟨h7, h8⟩ := ba h
  exact ⟨eqO_ok h1, eqO_ok h2, of_decide_eq_true h3, h4, eqO_ok h5, eqO_ok h6, of_decide_eq_true h7, of_decide_eq_true h8⟩
def errB (K : PySem.W.Frag) (x : Str) : Bool := oexB K (ga K x) && (xfB K (ga K x) && (excB K (ga K x) && (eqO (PySem.W.findIn K (.ref (ga K x)) "__init__") (some (some (.ref (ma K (ga K x) "__init__")))) && decide (PySem.W.typeIn K (.ref (ma K (ga K x) "__init__")) = some (.type "function")))))
theorem errB_ok {K : PySem.W.Frag} {x : Str} (h : errB K x = true) : ErrC K (ga K x) ∧ PySem.W.findIn K (.ref (ga K x)) "__init__" = some (some (.ref (ma K (ga K x) "__init__"))) ∧ PySem.W.typeIn K (.ref (ma K (ga K x) "__init__")) = some (.type "function") := by
  obtain ⟨h1, h⟩ := ba h
  obtain ⟨h2, h⟩ := ba h
  obtain ⟨h3, h⟩ := ba h
  obtain ⟨h4, h5⟩ := ba h
  exact ⟨⟨oexB_ok h1, xfB_ok h2, excB_ok h3⟩, eqO_ok h4, of_decide_eq_true h5⟩
def baseB (K : PySem.W.Frag) (x : Str) : Bool := readB K (ga K x) && (match PySem.W.findCls K (.ref (ga K x)) (.type "type") "__init__" with
  | some (.val (.builtin i)) => decide (i = "ValueError.__init__")
  | _ => false)
theorem baseB_ok {K : PySem.W.Frag} {x : Str} (h : baseB K x = true) : InitBy K (ga K x) := by
  obtain ⟨h1, h2⟩ := ba h
  refine ⟨.type "type", readB_ok h1, ?_⟩
  generalize PySem.W.findCls K (.ref (ga K x)) (.type "type") "__init__" = r at h2 ⊢
  cases r with
  | none => cases h2
  | some f =>
    cases f with
    | get g a o t => cases h2
    | val v =>
      cases v with
      | builtin i => rw [of_decide_eq_true h2]
      | _ => cases h2
def kitB (K : PySem.W.Frag) (q : Str × Str × Bool) : Bool := decide (PySem.W.kitOne K (.ref (ga K q.1)) (.ref (ga K q.2.1)) = some q.2.2)
def exmB (K : PySem.W.Frag) (q : Str × Str × Bool) : Bool := decide (PySem.W.exmOne K (.ref (ga K q.1)) (.ref (ga K q.2.1)) = some q.2.2)
structure SaysE (fa : List Fa) (fn : List DefD) (tf : List Defn) (ex : PySem.W.Frag → Bool) (fx : List FxD) (h : Heap) (K : PySem.W.Frag) : Prop where
  d : SaysD fa fn K
  more : ex K = true
  hd : ∀ p ∈ tf, PySem.W.codeHdIn K (cT K p).1 (cT K p).2 = true
  out : ∀ p ∈ tf, K.lookup (cT K p).2 = none
  empty : ∀ p ∈ tf, h.get? (cT K p).2 = some { cls := .none, data := .fields #[] }
  p : fx.map (fun d => fnWa K (d.adr K)) = fx.map FxD.val
  ok : (fx.all fun d => d.okF K) = true
abbrev AlE : Type := AlD × Bool × List FnW × Bool
def obsE' (fa : List Fa) (fn : List DefD) (tf : List Defn) (ex : PySem.W.Frag → Bool) (fx : List FxD) (g : Addr → Option Obj) (K : PySem.W.Frag) : AlE :=
  (obsD fa fn K, ex K && tabsB g tf K, fx.map (fun d => fnWa K (d.adr K)), fx.all fun d => d.okF K)
def obsE (n : Nat) (fa : List Fa) (fn : List DefD) (tf : List Defn) (ex : PySem.W.Frag → Bool) (fx : List FxD) (g : Addr → Option Obj) : AlE := obsE' fa fn tf ex fx g (frT g (asE g n))
def valE (fn : List DefD) (fx : List FxD) : AlE := (valD fn, true, fx.map FxD.val, true)
theorem saysE_of {n : Nat} {fa : List Fa} {fn : List DefD} {tf : List Defn} {ex : PySem.W.Frag → Bool} {fx : List FxD} {h : Heap} (e : obsE n fa fn tf ex fx h.get? = valE fn fx) : SaysE fa fn tf ex fx h (frT h.get? (asE h.get? n)) := by
  unfold obsE at e
  have z1 := congrArg (fun z : AlE => z.1) e
  have z2 := congrArg (fun z : AlE => z.2.1) e
  have z3 := congrArg (fun z : AlE => z.2.2.1) e
  have z4 := congrArg (fun z : AlE => z.2.2.2) e
  have inK : ∀ {a : Addr} {o : Obj}, h.get? a = some o → emptyTab o = true → (frT h.get? (asE h.get? n)).lookup a = none := fun q z => frT_none q z
  generalize frT h.get? (asE h.get? n) = K at z1 z2 z3 z4 inK ⊢
  obtain ⟨y1, y2⟩ := ba (show (ex K && tabsB h.get? tf K) = true from z2)
  have key : ∀ p ∈ tf, PySem.W.codeHdIn K (cT K p).1 (cT K p).2 = true ∧ ∃ o, h.get? (cT K p).2 = some o ∧ emptyTab o = true := fun p hp => by
    obtain ⟨w1, w2⟩ := ba (List.all_eq_true.mp y2 p hp)
    refine ⟨w1, ?_⟩
    cases q : h.get? (cT K p).2 with
    | none =>
      rw [q] at w2
      cases w2
    | some o =>
      rw [q] at w2
      exact ⟨o, rfl, w2⟩
  refine ⟨z1, y1, fun p hp => (key p hp).1, fun p hp => ?_, fun p hp => ?_, z3, z4⟩
  · obtain ⟨_, o, q, z⟩ := key p hp
    exact inK q z
  · obtain ⟨_, o, q, z⟩ := key p hp
    rw [q, emptyTab_eq z]
def hookE (n : Nat) (fa : List Fa) (fn : List DefD) (tf : List Defn) (ex : PySem.W.Frag → Bool) (fx : List FxD) : PySem.W.Hook where
  α := AlE
  obs := fun s => obsE n fa fn tf ex fx s.heap.get?
  val := fun _ => valE fn fx
  says := fun _ h => ∃ K : PySem.W.Frag, K.In h ∧ SaysE fa fn tf ex fx h K
  of := fun _ _ e => ⟨_, frT_in, saysE_of e⟩
  keeps := fun _ _ _ ⟨K, hK, c⟩ k => ⟨K, PySem.W.Frag.In.keeps hK k, ⟨c.d, c.more, c.hd, c.out, fun p hp => k _ _ (c.empty p hp), c.p, c.ok⟩⟩
theorem obsE_eq {n : Nat} {fa : List Fa} {fn : List DefD} {tf : List Defn} {ex : PySem.W.Frag → Bool} {fx : List FxD} {g : Addr → Option Obj} {s : Shared} (h : ∀ a, g a = s.heap.get? a) : obsE n fa fn tf ex fx g = (hookE n fa fn tf ex fx).obs s := by
  have e : g = s.heap.get? := funext h
  rw [e] <;> rfl
section
variable {fa : List Fa} {fn : List DefD} {tf : List Defn} {ex : PySem.W.Frag → Bool} {fx : List FxD} {h : Heap} {K : PySem.W.Frag}
theorem SaysE.fxAt (c : SaysE fa fn tf ex fx h K) (i : Nat) {d : FxD} (hi : fx[i]? = some d) : ∃ fd, FunD K d.name d.qual d.params d.body d.scope [] [] (d.adr K) fd := by
  refine FxD.funD ?_ (List.all_eq_true.mp c.ok d (List.mem_of_getElem? hi))
  have e2 : (fx.map fun d => fnWa K (d.adr K))[i]? = (fx.map FxD.val)[i]? := by rw [c.p]
  rw [List.getElem?_map, List.getElem?_map, hi] at e2
  exact Option.some.inj e2
theorem all_at {α : Type} {l : List α} {f : α → Bool} (h : l.all f = true) (i : Nat) {a : α} (hi : l[i]? = some a) : f a = true := List.all_eq_true.mp h a (List.mem_of_getElem? hi)
end
end JW
namespace AL
end AL
namespace JW
open PySem PySem.Spec PyProof.Rows L2 AL
def top (i : Nat) : Stmt := PySem.Challenge.pw_jetworks_k01_errors_and_their_attributes.main.body.getD i (.Pass ⟨0, 0, 0, 0⟩)
abbrev s_NoText___init__ : Stmt := inClass (top 3) 0
theorem sc_NoText___init__ : FnScope ["self", "index"] ["self", "index"] (defScope s_NoText___init__) := ⟨rfl, rfl, rfl, by decide +kernel, rfl, by decide +kernel, by decide +kernel⟩
abbrev s_NoBasin___init__ : Stmt := inClass (top 4) 0
theorem sc_NoBasin___init__ : FnScope ["self"] ["self"] (defScope s_NoBasin___init__) := ⟨rfl, rfl, rfl, by decide +kernel, rfl, by decide +kernel, by decide +kernel⟩
abbrev s_NoBranch___init__ : Stmt := inClass (top 5) 0
theorem sc_NoBranch___init__ : FnScope ["self", "index"] ["self", "index"] (defScope s_NoBranch___init__) := ⟨rfl, rfl, rfl, by decide +kernel, rfl, by decide +kernel, by decide +kernel⟩
abbrev s_NoPlace___init__ : Stmt := inClass (top 6) 0
theorem sc_NoPlace___init__ : FnScope ["self", "step"] ["self", "step"] (defScope s_NoPlace___init__) := ⟨rfl, rfl, rfl, by decide +kernel, rfl, by decide +kernel, by decide +kernel⟩
abbrev s_Closed___init__ : Stmt := inClass (top 7) 0
theorem sc_Closed___init__ : FnScope ["self"] ["self"] (defScope s_Closed___init__) := ⟨rfl, rfl, rfl, by decide +kernel, rfl, by decide +kernel, by decide +kernel⟩
abbrev s_TooLarge___init__ : Stmt := inClass (top 8) 0
theorem sc_TooLarge___init__ : FnScope ["self", "pieces"] ["self", "pieces"] (defScope s_TooLarge___init__) := ⟨rfl, rfl, rfl, by decide +kernel, rfl, by decide +kernel, by decide +kernel⟩
abbrev s_TooDeep___init__ : Stmt := inClass (top 9) 0
theorem sc_TooDeep___init__ : FnScope ["self", "basins"] ["self", "basins"] (defScope s_TooDeep___init__) := ⟨rfl, rfl, rfl, by decide +kernel, rfl, by decide +kernel, by decide +kernel⟩
abbrev s_TooMany___init__ : Stmt := inClass (top 10) 0
theorem sc_TooMany___init__ : FnScope ["self", "many"] ["self", "many"] (defScope s_TooMany___init__) := ⟨rfl, rfl, rfl, by decide +kernel, rfl, by decide +kernel, by decide +kernel⟩
abbrev s_Endless___init__ : Stmt := inClass (top 11) 0
theorem sc_Endless___init__ : FnScope ["self"] ["self"] (defScope s_Endless___init__) := ⟨rfl, rfl, rfl, by decide +kernel, rfl, by decide +kernel, by decide +kernel⟩
abbrev s_NotKind___init__ : Stmt := inClass (top 12) 0
theorem sc_NotKind___init__ : FnScope ["self"] ["self"] (defScope s_NotKind___init__) := ⟨rfl, rfl, rfl, by decide +kernel, rfl, by decide +kernel, by decide +kernel⟩
abbrev s_Nested___init__ : Stmt := inClass (top 13) 0
theorem sc_Nested___init__ : FnScope ["self"] ["self"] (defScope s_Nested___init__) := ⟨rfl, rfl, rfl, by decide +kernel, rfl, by decide +kernel, by decide +kernel⟩
abbrev s_Rejected___init__ : Stmt := inClass (top 14) 0
theorem sc_Rejected___init__ : FnScope ["self", "index"] ["self", "index"] (defScope s_Rejected___init__) := ⟨rfl, rfl, rfl, by decide +kernel, rfl, by decide +kernel, by decide +kernel⟩
abbrev s_NoRow___init__ : Stmt := inClass (top 15) 0
theorem sc_NoRow___init__ : FnScope ["self"] ["self"] (defScope s_NoRow___init__) := ⟨rfl, rfl, rfl, by decide +kernel, rfl, by decide +kernel, by decide +kernel⟩
abbrev s_NoDifference___init__ : Stmt := inClass (top 17) 0
theorem sc_NoDifference___init__ : FnScope ["self", "branch"] ["self", "branch"] (defScope s_NoDifference___init__) := ⟨rfl, rfl, rfl, by decide +kernel, rfl, by decide +kernel, by decide +kernel⟩
abbrev s_NoQuotient___init__ : Stmt := inClass (top 18) 0
theorem sc_NoQuotient___init__ : FnScope ["self", "place"] ["self", "place"] (defScope s_NoQuotient___init__) := ⟨rfl, rfl, rfl, by decide +kernel, rfl, by decide +kernel, by decide +kernel⟩
abbrev s_check_numbers : Stmt := top 23
theorem sc_check_numbers : FnScope ["numbers"] ["numbers"] (defScope s_check_numbers) := ⟨rfl, rfl, rfl, by decide +kernel, rfl, by decide +kernel, by decide +kernel⟩
abbrev s_basin_numbers : Stmt := top 24
theorem sc_basin_numbers : FnScope ["branches", "size", "jets", "depth", "opened", "longest", "branch"] ["branches"] (defScope s_basin_numbers) := ⟨rfl, rfl, rfl, by decide +kernel, rfl, by decide +kernel, by decide +kernel⟩
abbrev s_product_numbers : Stmt := top 25
abbrev s_parsed : Stmt := top 26
theorem sc_parsed : FnScope ["text", "pending", "found", "is_complete", "at", "sign", "part"] ["text"] (defScope s_parsed) := ⟨rfl, rfl, rfl, by decide +kernel, rfl, by decide +kernel, by decide +kernel⟩
abbrev s_made : Stmt := top 27
theorem sc_made : FnScope ["branches", "ordered", "branch"] ["branches"] (defScope s_made) := ⟨rfl, rfl, rfl, by decide +kernel, rfl, by decide +kernel, by decide +kernel⟩
abbrev s_allowed : Stmt := top 28
abbrev s_grafted : Stmt := top 29
abbrev s_cut : Stmt := top 30
abbrev s_bare_place : Stmt := top 31
abbrev s_carries : Stmt := top 32
abbrev s_multiplied : Stmt := top 34
abbrev s_Fountain___init__ : Stmt := inClass (top 35) 0
theorem sc_Fountain___init__ : FnScope ["self", "text", "branches", "is_read"] ["self", "text", "branches"] (defScope s_Fountain___init__) := ⟨rfl, rfl, rfl, by decide +kernel, rfl, by decide +kernel, by decide +kernel⟩
abbrev s_Fountain_basin : Stmt := inClass (top 35) 1
abbrev s_Fountain_spray : Stmt := inClass (top 35) 2
abbrev s_Fountain_product : Stmt := inClass (top 35) 3
abbrev s_Fountain_text : Stmt := inClass (top 35) 4
theorem sc_Fountain_text : FnScope ["self"] ["self"] (defScope s_Fountain_text) := ⟨rfl, rfl, rfl, by decide +kernel, rfl, by decide +kernel, by decide +kernel⟩
abbrev s_Fountain_parts : Stmt := inClass (top 35) 5
theorem sc_Fountain_parts : FnScope ["self"] ["self"] (defScope s_Fountain_parts) := ⟨rfl, rfl, rfl, by decide +kernel, rfl, by decide +kernel, by decide +kernel⟩
abbrev s_Fountain_size : Stmt := inClass (top 35) 6
theorem sc_Fountain_size : FnScope ["self"] ["self"] (defScope s_Fountain_size) := ⟨rfl, rfl, rfl, by decide +kernel, rfl, by decide +kernel, by decide +kernel⟩
abbrev s_Fountain_jets : Stmt := inClass (top 35) 7
theorem sc_Fountain_jets : FnScope ["self"] ["self"] (defScope s_Fountain_jets) := ⟨rfl, rfl, rfl, by decide +kernel, rfl, by decide +kernel, by decide +kernel⟩
abbrev s_Fountain_depth : Stmt := inClass (top 35) 8
theorem sc_Fountain_depth : FnScope ["self"] ["self"] (defScope s_Fountain_depth) := ⟨rfl, rfl, rfl, by decide +kernel, rfl, by decide +kernel, by decide +kernel⟩
abbrev s_Fountain_longest : Stmt := inClass (top 35) 9
theorem sc_Fountain_longest : FnScope ["self"] ["self"] (defScope s_Fountain_longest) := ⟨rfl, rfl, rfl, by decide +kernel, rfl, by decide +kernel, by decide +kernel⟩
abbrev s_Fountain_shortest : Stmt := inClass (top 35) 10
theorem sc_Fountain_shortest : FnScope ["self"] ["self"] (defScope s_Fountain_shortest) := ⟨rfl, rfl, rfl, by decide +kernel, rfl, by decide +kernel, by decide +kernel⟩
abbrev s_Fountain_is_open : Stmt := inClass (top 35) 11
theorem sc_Fountain_is_open : FnScope ["self"] ["self"] (defScope s_Fountain_is_open) := ⟨rfl, rfl, rfl, by decide +kernel, rfl, by decide +kernel, by decide +kernel⟩
abbrev s_Fountain_is_jet : Stmt := inClass (top 35) 12
abbrev s_Fountain___eq__ : Stmt := inClass (top 35) 13
theorem sc_Fountain___eq__ : FnScope ["self", "other"] ["self", "other"] (defScope s_Fountain___eq__) := ⟨rfl, rfl, rfl, by decide +kernel, rfl, by decide +kernel, by decide +kernel⟩
abbrev s_Fountain___repr__ : Stmt := inClass (top 35) 14
abbrev s_Fountain___len__ : Stmt := inClass (top 35) 15
abbrev s_Fountain___getitem__ : Stmt := inClass (top 35) 17
abbrev s_Fountain___contains__ : Stmt := inClass (top 35) 18
abbrev s_Fountain___add__ : Stmt := inClass (top 35) 19
abbrev s_Fountain___sub__ : Stmt := inClass (top 35) 20
abbrev s_Fountain___mul__ : Stmt := inClass (top 35) 21
abbrev s_Fountain___floordiv__ : Stmt := inClass (top 35) 23
abbrev s_Fountain_at : Stmt := inClass (top 35) 24
abbrev s_Fountain_put : Stmt := inClass (top 35) 26
abbrev s__law_feed : Stmt := top 37
theorem sc__law_feed : FnScope ["_law_script", "_law_k", "_law_cell", "_law_seed"] ["_law_script", "_law_k"] (defScope s__law_feed) := ⟨rfl, rfl, rfl, by decide +kernel, rfl, by decide +kernel, by decide +kernel⟩
abbrev s__law_draw : Stmt := top 38
theorem sc__law_draw : FnScope ["_law_feed_here", "_law_limit", "_law_digit", "_law_mixed"] ["_law_feed_here", "_law_limit"] (defScope s__law_draw) := ⟨rfl, rfl, rfl, by decide +kernel, rfl, by decide +kernel, by decide +kernel⟩
abbrev s__law_errors : Stmt := top 39
theorem sc__law_errors : FnScope ["_law_x", "_law_one", "_law_two", "_law_three", "_law_four", "_law_five", "_law_six", "_law_seven", "_law_found", "_law_eight", "_law_nine", "_law_others", "_law_error"] ["_law_x"] (defScope s__law_errors) := ⟨rfl, rfl, rfl, by decide +kernel, rfl, by decide +kernel, by decide +kernel⟩
abbrev s__law_by_names : Stmt := top 40
theorem sc__law_by_names : FnScope ["_law_x", "_law_found"] ["_law_x"] (defScope s__law_by_names) := ⟨rfl, rfl, rfl, by decide +kernel, rfl, by decide +kernel, by decide +kernel⟩
abbrev s__law_sorts : Stmt := top 41
theorem sc__law_sorts : FnScope ["_law_thing", "_law_found"] ["_law_thing"] (defScope s__law_sorts) := ⟨rfl, rfl, rfl, by decide +kernel, rfl, by decide +kernel, by decide +kernel⟩
abbrev s_law : Stmt := top 42
theorem sc_law : FnScope ["_law_script", "_law_feed_here", "_law_number", "_law_drawn", "_law_some", "_law_x", "_law_k", "_law_error", "_law_kept", "_law_own"] ["_law_script"] (defScope s_law) := ⟨rfl, rfl, rfl, by decide +kernel, rfl, by decide +kernel, by decide +kernel⟩
open He
def dfn (x : Str) (m : Option Str) (nm q : Str) (s : Stmt) (dv : List Dv) (kw : List (Str × Dv)) : DefD := ⟨(x, m), nm, q, defArgs s, defBody s, defScope s, dv, kw⟩
def fn : List DefD := ([dfn "NoText" (some "__init__") "__init__" "NoText.__init__" s_NoText___init__ [] [], dfn "NoBasin" (some "__init__") "__init__" "NoBasin.__init__" s_NoBasin___init__ [] [], dfn "NoBranch" (some "__init__") "__init__" "NoBranch.__init__" s_NoBranch___init__ [] [], dfn "NoPlace" (some "__init__") "__init__" "NoPlace.__init__" s_NoPlace___init__ [] [], dfn "Closed" (some "__init__") "__init__" "Closed.__init__" s_Closed___init__ [] [], dfn "TooLarge" (some "__init__") "__init__" "TooLarge.__init__" s_TooLarge___init__ [] [], dfn "TooDeep" (some "__init__") "__init__" "TooDeep.__init__" s_TooDeep___init__ [] [], dfn "TooMany" (some "__init__") "__init__" "TooMany.__init__" s_TooMany___init__ [] [], dfn "Endless" (some "__init__") "__init__" "Endless.__init__" s_Endless___init__ [] [], dfn "NotKind" (some "__init__") "__init__" "NotKind.__init__" s_NotKind___init__ [] [], dfn "Nested" (some "__init__") "__init__" "Nested.__init__" s_Nested___init__ [] [], dfn "Rejected" (some "__init__") "__init__" "Rejected.__init__" s_Rejected___init__ [] [], dfn "NoRow" (some "__init__") "__init__" "NoRow.__init__" s_NoRow___init__ [] [], dfn "NoDifference" (some "__init__") "__init__" "NoDifference.__init__" s_NoDifference___init__ [] [], dfn "NoQuotient" (some "__init__") "__init__" "NoQuotient.__init__" s_NoQuotient___init__ [] [], dfn "check_numbers" none "check_numbers" "check_numbers" s_check_numbers [] [], dfn "basin_numbers" none "basin_numbers" "basin_numbers" s_basin_numbers [] [], dfn "product_numbers" none "product_numbers" "product_numbers" s_product_numbers [] [], dfn "parsed" none "parsed" "parsed" s_parsed [] [], dfn "made" none "made" "made" s_made [] [], dfn "allowed" none "allowed" "allowed" s_allowed [] [], dfn "grafted" none "grafted" "grafted" s_grafted [] [], dfn "cut" none "cut" "cut" s_cut [] [], dfn "bare_place" none "bare_place" "bare_place" s_bare_place [] [], dfn "carries" none "carries" "carries" s_carries [] [], dfn "multiplied" none "multiplied" "multiplied" s_multiplied [] [], dfn "Fountain" (some "__init__") "__init__" "Fountain.__init__" s_Fountain___init__ [.non] [], dfn "Fountain" (some "__eq__") "__eq__" "Fountain.__eq__" s_Fountain___eq__ [] [], dfn "Fountain" (some "__repr__") "__repr__" "Fountain.__repr__" s_Fountain___repr__ [] [], dfn "Fountain" (some "__len__") "__len__" "Fountain.__len__" s_Fountain___len__ [] []] : List DefD) ++ ([dfn "Fountain" (some "__getitem__") "__getitem__" "Fountain.__getitem__" s_Fountain___getitem__ [] [], dfn "Fountain" (some "__contains__") "__contains__" "Fountain.__contains__" s_Fountain___contains__ [] [], dfn "Fountain" (some "__add__") "__add__" "Fountain.__add__" s_Fountain___add__ [] [], dfn "Fountain" (some "__sub__") "__sub__" "Fountain.__sub__" s_Fountain___sub__ [] [], dfn "Fountain" (some "__mul__") "__mul__" "Fountain.__mul__" s_Fountain___mul__ [] [], dfn "Fountain" (some "__floordiv__") "__floordiv__" "Fountain.__floordiv__" s_Fountain___floordiv__ [] [], dfn "Fountain" (some "at") "at" "Fountain.at" s_Fountain_at [] [], dfn "Fountain" (some "put") "put" "Fountain.put" s_Fountain_put [] [], dfn "_law_feed" none "_law_feed" "_law_feed" s__law_feed [] [], dfn "_law_draw" none "_law_draw" "_law_draw" s__law_draw [] [], dfn "_law_errors" none "_law_errors" "_law_errors" s__law_errors [] [], dfn "_law_by_names" none "_law_by_names" "_law_by_names" s__law_by_names [] [], dfn "_law_sorts" none "_law_sorts" "_law_sorts" s__law_sorts [] [], dfn "law" none "law" "law" s_law [] []] : List DefD)
def fa : List Fa := ([.glo "Fountain", .cls "Fountain", .noat "Fountain" "written", .noat "Fountain" "branches", .noat "Fountain" "numbers", .int "MOST" 5000, .int "DEEPEST" 120, .str "JET_TEXT" "o", .glo "NoText", .noat "NoText" "index", .glo "NoBasin", .glo "NoBranch", .noat "NoBranch" "index", .glo "NoPlace", .noat "NoPlace" "step", .glo "Closed", .glo "TooLarge", .noat "TooLarge" "pieces", .glo "TooDeep", .noat "TooDeep" "basins", .glo "TooMany", .noat "TooMany" "many", .glo "Endless", .glo "NotKind", .glo "Nested", .glo "Rejected", .noat "Rejected" "index", .glo "NoRow", .glo "NoDifference", .noat "NoDifference" "branch"] : List Fa) ++ ([.glo "NoQuotient", .noat "NoQuotient" "place", .glo "check_numbers", .glo "basin_numbers", .glo "product_numbers", .glo "parsed", .glo "made", .glo "allowed", .glo "grafted", .glo "cut", .glo "bare_place", .glo "carries", .glo "multiplied", .mkr "Fountain", .meth "Fountain" "__eq__", .meth "Fountain" "__repr__", .meth "Fountain" "__len__", .meth "Fountain" "__getitem__", .meth "Fountain" "__contains__", .meth "Fountain" "__add__", .meth "Fountain" "__sub__", .meth "Fountain" "__mul__", .meth "Fountain" "__floordiv__", .meth "Fountain" "at", .meth "Fountain" "put", .glo "_law_feed", .glo "_law_draw", .glo "_law_errors", .glo "_law_by_names", .glo "_law_sorts"] : List Fa) ++ ([.glo "law", .glo "JetError", .glo "NoDivision", .free "NotImplemented", .free "TypeError", .free "ValueError", .free "abs", .free "any", .free "enumerate", .free "int", .free "isinstance", .free "len", .free "list", .free "max", .free "min", .free "range", .free "repr", .free "sorted", .free "sum", .free "tuple"] : List Fa)
def tf : List Defn := ([("made", none)] : List Defn)
def fx : List FxD := ([⟨fun K => cgAd K ("Fountain", "basin"), "basin", "Fountain.basin", defArgs s_Fountain_basin, defBody s_Fountain_basin, defScope s_Fountain_basin⟩, ⟨fun K => cgAd K ("Fountain", "spray"), "spray", "Fountain.spray", defArgs s_Fountain_spray, defBody s_Fountain_spray, defScope s_Fountain_spray⟩, ⟨fun K => cgAd K ("Fountain", "product"), "product", "Fountain.product", defArgs s_Fountain_product, defBody s_Fountain_product, defScope s_Fountain_product⟩, ⟨fun K => gAd K ("Fountain", "text"), "text", "Fountain.text", defArgs s_Fountain_text, defBody s_Fountain_text, defScope s_Fountain_text⟩, ⟨fun K => gAd K ("Fountain", "parts"), "parts", "Fountain.parts", defArgs s_Fountain_parts, defBody s_Fountain_parts, defScope s_Fountain_parts⟩, ⟨fun K => gAd K ("Fountain", "size"), "size", "Fountain.size", defArgs s_Fountain_size, defBody s_Fountain_size, defScope s_Fountain_size⟩, ⟨fun K => gAd K ("Fountain", "jets"), "jets", "Fountain.jets", defArgs s_Fountain_jets, defBody s_Fountain_jets, defScope s_Fountain_jets⟩, ⟨fun K => gAd K ("Fountain", "depth"), "depth", "Fountain.depth", defArgs s_Fountain_depth, defBody s_Fountain_depth, defScope s_Fountain_depth⟩, ⟨fun K => gAd K ("Fountain", "longest"), "longest", "Fountain.longest", defArgs s_Fountain_longest, defBody s_Fountain_longest, defScope s_Fountain_longest⟩, ⟨fun K => gAd K ("Fountain", "shortest"), "shortest", "Fountain.shortest", defArgs s_Fountain_shortest, defBody s_Fountain_shortest, defScope s_Fountain_shortest⟩, ⟨fun K => gAd K ("Fountain", "is_open"), "is_open", "Fountain.is_open", defArgs s_Fountain_is_open, defBody s_Fountain_is_open, defScope s_Fountain_is_open⟩, ⟨fun K => gAd K ("Fountain", "is_jet"), "is_jet", "Fountain.is_jet", defArgs s_Fountain_is_jet, defBody s_Fountain_is_jet, defScope s_Fountain_is_jet⟩] : List FxD)
def prL : List (Str × Str) := ([("Fountain", "text"), ("Fountain", "parts"), ("Fountain", "size"), ("Fountain", "jets"), ("Fountain", "depth"), ("Fountain", "longest"), ("Fountain", "shortest"), ("Fountain", "is_open"), ("Fountain", "is_jet")] : List (Str × Str))
def cmL : List (Str × Str) := ([("Fountain", "basin"), ("Fountain", "spray"), ("Fountain", "product")] : List (Str × Str))
def erL : List Str := (["NoText", "NoBasin", "NoBranch", "NoPlace", "Closed", "TooLarge", "TooDeep", "TooMany", "Endless", "NotKind", "Nested", "Rejected", "NoRow", "NoDifference", "NoQuotient"] : List Str)
def bsL : List Str := (["JetError", "NoDivision"] : List Str)
def ktL : List (Str × Str × Bool) := ([("NoText", "NoText", true), ("NoText", "NoBranch", false), ("NoText", "NoPlace", false), ("NoText", "TooLarge", false), ("NoText", "TooDeep", false), ("NoText", "TooMany", false), ("NoText", "Rejected", false), ("NoText", "NoDifference", false), ("NoText", "NoQuotient", false), ("NoText", "NoBasin", false), ("NoText", "Closed", false), ("NoText", "Endless", false), ("NoText", "NotKind", false), ("NoText", "Nested", false), ("NoText", "NoRow", false), ("NoText", "NoDivision", false), ("NoText", "JetError", true), ("NoBranch", "NoText", false), ("NoBranch", "NoBranch", true), ("NoBranch", "NoPlace", false), ("NoBranch", "TooLarge", false), ("NoBranch", "TooDeep", false), ("NoBranch", "TooMany", false), ("NoBranch", "Rejected", false), ("NoBranch", "NoDifference", false), ("NoBranch", "NoQuotient", false), ("NoBranch", "NoBasin", false), ("NoBranch", "Closed", false), ("NoBranch", "Endless", false), ("NoBranch", "NotKind", false)] : List (Str × Str × Bool)) ++ ([("NoBranch", "Nested", false), ("NoBranch", "NoRow", false), ("NoBranch", "NoDivision", false), ("NoBranch", "JetError", true), ("NoPlace", "NoText", false), ("NoPlace", "NoBranch", false), ("NoPlace", "NoPlace", true), ("NoPlace", "TooLarge", false), ("NoPlace", "TooDeep", false), ("NoPlace", "TooMany", false), ("NoPlace", "Rejected", false), ("NoPlace", "NoDifference", false), ("NoPlace", "NoQuotient", false), ("NoPlace", "NoBasin", false), ("NoPlace", "Closed", false), ("NoPlace", "Endless", false), ("NoPlace", "NotKind", false), ("NoPlace", "Nested", false), ("NoPlace", "NoRow", false), ("NoPlace", "NoDivision", false), ("NoPlace", "JetError", true), ("TooLarge", "NoText", false), ("TooLarge", "NoBranch", false), ("TooLarge", "NoPlace", false), ("TooLarge", "TooLarge", true), ("TooLarge", "TooDeep", false), ("TooLarge", "TooMany", false), ("TooLarge", "Rejected", false), ("TooLarge", "NoDifference", false), ("TooLarge", "NoQuotient", false)] : List (Str × Str × Bool)) ++ ([("TooLarge", "NoBasin", false), ("TooLarge", "Closed", false), ("TooLarge", "Endless", false), ("TooLarge", "NotKind", false), ("TooLarge", "Nested", false), ("TooLarge", "NoRow", false), ("TooLarge", "NoDivision", false), ("TooLarge", "JetError", true), ("TooDeep", "NoText", false), ("TooDeep", "NoBranch", false), ("TooDeep", "NoPlace", false), ("TooDeep", "TooLarge", false), ("TooDeep", "TooDeep", true), ("TooDeep", "TooMany", false), ("TooDeep", "Rejected", false), ("TooDeep", "NoDifference", false), ("TooDeep", "NoQuotient", false), ("TooDeep", "NoBasin", false), ("TooDeep", "Closed", false), ("TooDeep", "Endless", false), ("TooDeep", "NotKind", false), ("TooDeep", "Nested", false), ("TooDeep", "NoRow", false), ("TooDeep", "NoDivision", false), ("TooDeep", "JetError", true), ("TooMany", "NoText", false), ("TooMany", "NoBranch", false), ("TooMany", "NoPlace", false), ("TooMany", "TooLarge", false), ("TooMany", "TooDeep", false)] : List (Str × Str × Bool)) ++ ([("TooMany", "TooMany", true), ("TooMany", "Rejected", false), ("TooMany", "NoDifference", false), ("TooMany", "NoQuotient", false), ("TooMany", "NoBasin", false), ("TooMany", "Closed", false), ("TooMany", "Endless", false), ("TooMany", "NotKind", false), ("TooMany", "Nested", false), ("TooMany", "NoRow", false), ("TooMany", "NoDivision", false), ("TooMany", "JetError", true), ("Rejected", "NoText", false), ("Rejected", "NoBranch", false), ("Rejected", "NoPlace", false), ("Rejected", "TooLarge", false), ("Rejected", "TooDeep", false), ("Rejected", "TooMany", false), ("Rejected", "Rejected", true), ("Rejected", "NoDifference", false), ("Rejected", "NoQuotient", false), ("Rejected", "NoBasin", false), ("Rejected", "Closed", false), ("Rejected", "Endless", false), ("Rejected", "NotKind", false), ("Rejected", "Nested", false), ("Rejected", "NoRow", false), ("Rejected", "NoDivision", false), ("Rejected", "JetError", true), ("NoDifference", "NoText", false)] : List (Str × Str × Bool)) ++ ([("NoDifference", "NoBranch", false), ("NoDifference", "NoPlace", false), ("NoDifference", "TooLarge", false), ("NoDifference", "TooDeep", false), ("NoDifference", "TooMany", false), ("NoDifference", "Rejected", false), ("NoDifference", "NoDifference", true), ("NoDifference", "NoQuotient", false), ("NoDifference", "NoBasin", false), ("NoDifference", "Closed", false), ("NoDifference", "Endless", false), ("NoDifference", "NotKind", false), ("NoDifference", "Nested", false), ("NoDifference", "NoRow", false), ("NoDifference", "NoDivision", true), ("NoDifference", "JetError", true), ("NoQuotient", "NoText", false), ("NoQuotient", "NoBranch", false), ("NoQuotient", "NoPlace", false), ("NoQuotient", "TooLarge", false), ("NoQuotient", "TooDeep", false), ("NoQuotient", "TooMany", false), ("NoQuotient", "Rejected", false), ("NoQuotient", "NoDifference", false), ("NoQuotient", "NoQuotient", true), ("NoQuotient", "NoBasin", false), ("NoQuotient", "Closed", false), ("NoQuotient", "Endless", false), ("NoQuotient", "NotKind", false), ("NoQuotient", "Nested", false)] : List (Str × Str × Bool)) ++ ([("NoQuotient", "NoRow", false), ("NoQuotient", "NoDivision", true), ("NoQuotient", "JetError", true), ("NoBasin", "NoText", false), ("NoBasin", "NoBranch", false), ("NoBasin", "NoPlace", false), ("NoBasin", "TooLarge", false), ("NoBasin", "TooDeep", false), ("NoBasin", "TooMany", false), ("NoBasin", "Rejected", false), ("NoBasin", "NoDifference", false), ("NoBasin", "NoQuotient", false), ("NoBasin", "NoBasin", true), ("NoBasin", "Closed", false), ("NoBasin", "Endless", false), ("NoBasin", "NotKind", false), ("NoBasin", "Nested", false), ("NoBasin", "NoRow", false), ("NoBasin", "NoDivision", false), ("NoBasin", "JetError", true), ("Closed", "NoText", false), ("Closed", "NoBranch", false), ("Closed", "NoPlace", false), ("Closed", "TooLarge", false), ("Closed", "TooDeep", false), ("Closed", "TooMany", false), ("Closed", "Rejected", false), ("Closed", "NoDifference", false), ("Closed", "NoQuotient", false), ("Closed", "NoBasin", false)] : List (Str × Str × Bool)) ++ ([("Closed", "Closed", true), ("Closed", "Endless", false), ("Closed", "NotKind", false), ("Closed", "Nested", false), ("Closed", "NoRow", false), ("Closed", "NoDivision", false), ("Closed", "JetError", true), ("Endless", "NoText", false), ("Endless", "NoBranch", false), ("Endless", "NoPlace", false), ("Endless", "TooLarge", false), ("Endless", "TooDeep", false), ("Endless", "TooMany", false), ("Endless", "Rejected", false), ("Endless", "NoDifference", false), ("Endless", "NoQuotient", false), ("Endless", "NoBasin", false), ("Endless", "Closed", false), ("Endless", "Endless", true), ("Endless", "NotKind", false), ("Endless", "Nested", false), ("Endless", "NoRow", false), ("Endless", "NoDivision", false), ("Endless", "JetError", true), ("NotKind", "NoText", false), ("NotKind", "NoBranch", false), ("NotKind", "NoPlace", false), ("NotKind", "TooLarge", false), ("NotKind", "TooDeep", false), ("NotKind", "TooMany", false)] : List (Str × Str × Bool)) ++ ([("NotKind", "Rejected", false), ("NotKind", "NoDifference", false), ("NotKind", "NoQuotient", false), ("NotKind", "NoBasin", false), ("NotKind", "Closed", false), ("NotKind", "Endless", false), ("NotKind", "NotKind", true), ("NotKind", "Nested", false), ("NotKind", "NoRow", false), ("NotKind", "NoDivision", false), ("NotKind", "JetError", true), ("Nested", "NoText", false), ("Nested", "NoBranch", false), ("Nested", "NoPlace", false), ("Nested", "TooLarge", false), ("Nested", "TooDeep", false), ("Nested", "TooMany", false), ("Nested", "Rejected", false), ("Nested", "NoDifference", false), ("Nested", "NoQuotient", false), ("Nested", "NoBasin", false), ("Nested", "Closed", false), ("Nested", "Endless", false), ("Nested", "NotKind", false), ("Nested", "Nested", true), ("Nested", "NoRow", false), ("Nested", "NoDivision", false), ("Nested", "JetError", true), ("NoRow", "NoText", false), ("NoRow", "NoBranch", false)] : List (Str × Str × Bool)) ++ ([("NoRow", "NoPlace", false), ("NoRow", "TooLarge", false), ("NoRow", "TooDeep", false), ("NoRow", "TooMany", false), ("NoRow", "Rejected", false), ("NoRow", "NoDifference", false), ("NoRow", "NoQuotient", false), ("NoRow", "NoBasin", false), ("NoRow", "Closed", false), ("NoRow", "Endless", false), ("NoRow", "NotKind", false), ("NoRow", "Nested", false), ("NoRow", "NoRow", true), ("NoRow", "NoDivision", false), ("NoRow", "JetError", true), ("NoDivision", "NoText", false), ("NoDivision", "NoBranch", false), ("NoDivision", "NoPlace", false), ("NoDivision", "TooLarge", false), ("NoDivision", "TooDeep", false), ("NoDivision", "TooMany", false), ("NoDivision", "Rejected", false), ("NoDivision", "NoDifference", false), ("NoDivision", "NoQuotient", false), ("NoDivision", "NoBasin", false), ("NoDivision", "Closed", false), ("NoDivision", "Endless", false), ("NoDivision", "NotKind", false), ("NoDivision", "Nested", false), ("NoDivision", "NoRow", false)] : List (Str × Str × Bool)) ++ ([("NoDivision", "NoDivision", true), ("NoDivision", "JetError", true)] : List (Str × Str × Bool))
def emL : List (Str × Str × Bool) := ([] : List (Str × Str × Bool))
def xtL : List (PySem.W.Frag → Bool) := [fun K => decide (oexB K (He.ga K "NoDivision") = true), fun K => decide (excB K (He.ga K "NoDivision") = true), fun K => decide (PySem.W.findIn K (.ref (He.ga K "NoDivision")) "__init__" = some (some (.builtin "ValueError.__init__"))), fun K => decide (PySem.W.kitOne K (.ref (He.ga K "NoText")) (.type "ValueError") = some true), fun K => decide (PySem.W.kitOne K (.ref (He.ga K "NoBranch")) (.type "ValueError") = some true), fun K => decide (PySem.W.kitOne K (.ref (He.ga K "NoPlace")) (.type "ValueError") = some true), fun K => decide (PySem.W.kitOne K (.ref (He.ga K "TooLarge")) (.type "ValueError") = some true), fun K => decide (PySem.W.kitOne K (.ref (He.ga K "TooDeep")) (.type "ValueError") = some true), fun K => decide (PySem.W.kitOne K (.ref (He.ga K "TooMany")) (.type "ValueError") = some true), fun K => decide (PySem.W.kitOne K (.ref (He.ga K "Rejected")) (.type "ValueError") = some true), fun K => decide (PySem.W.kitOne K (.ref (He.ga K "NoDifference")) (.type "ValueError") = some true), fun K => decide (PySem.W.kitOne K (.ref (He.ga K "NoQuotient")) (.type "ValueError") = some true), fun K => decide (PySem.W.kitOne K (.ref (He.ga K "NoBasin")) (.type "ValueError") = some true), fun K => decide (PySem.W.kitOne K (.ref (He.ga K "Closed")) (.type "ValueError") = some true), fun K => decide (PySem.W.kitOne K (.ref (He.ga K "Endless")) (.type "ValueError") = some true), fun K => decide (PySem.W.kitOne K (.ref (He.ga K "NotKind")) (.type "ValueError") = some true), fun K => decide (PySem.W.kitOne K (.ref (He.ga K "Nested")) (.type "ValueError") = some true), fun K => decide (PySem.W.kitOne K (.ref (He.ga K "NoRow")) (.type "ValueError") = some true), fun K => decide (PySem.W.kitOne K (.ref (He.ga K "NoDivision")) (.type "ValueError") = some true)]
def ex (K : PySem.W.Frag) : Bool := (xtL.all fun f => f K) && ((clsX K "Fountain" && ((prL.all fun p => propB K p) && ((cmL.all fun p => cmB K p) && ((erL.all fun x => errB K x) && ((bsL.all fun x => baseB K x) && ((ktL.all fun q => kitB K q) && (emL.all fun q => exmB K q))))))))
theorem exs {K : PySem.W.Frag} {h : Heap} (c : SaysE fa fn tf ex fx h K) : clsX K "Fountain" = true ∧ (prL.all fun p => propB K p) = true ∧ (cmL.all fun p => cmB K p) = true ∧ (erL.all fun x => errB K x) = true ∧ (bsL.all fun x => baseB K x) = true ∧ (ktL.all fun q => kitB K q) = true ∧ (emL.all fun q => exmB K q) = true := by
  have more := (ba c.more).2
  obtain ⟨z1, z⟩ := ba more
  obtain ⟨z2, z⟩ := ba z
  obtain ⟨z3, z⟩ := ba z
  obtain ⟨z4, z⟩ := ba z
  obtain ⟨z5, z⟩ := ba z
  obtain ⟨z6, z7⟩ := ba z
  exact ⟨z1, z2, z3, z4, z5, z6, z7⟩
abbrev R : PySem.W.OpenRow := PySem.W.OpenLaw.row PySem.Challenge.rw_jetworks_k01_errors_and_their_attributes
abbrev hk : PySem.W.Hook := hookE 5 fa fn tf ex fx
def ob (s : PySem.W.SharedT) : AlE := obsE 5 fa fn tf ex fx (HandSHeadRun.getT s)
theorem ob_eq (s : PySem.W.SharedT) : ob s = hk.obs s.abs := obsE_eq (HandSHeadRun.getT_eq s)
def loose : List Str := (["_wall", "__name__", "JetError", "NoText", "NoBasin", "NoBranch", "NoPlace", "Closed", "TooLarge", "TooDeep", "TooMany", "Endless", "NotKind", "Nested", "Rejected", "NoRow", "NoDivision", "NoDifference", "NoQuotient", "MOST", "DEEPEST", "JET_TEXT", "check_numbers", "basin_numbers", "product_numbers", "parsed", "made", "allowed", "grafted", "cut"] : List Str) ++ (["bare_place", "carries", "power", "multiplied", "Fountain", "_law_feed", "_law_draw", "_law_errors", "_law_by_names", "_law_sorts"] : List Str)
theorem all_td {α : Type} {p : α → Bool} {l : List α} (n : Nat) (h1 : (l.take n).all p = true) (h2 : (l.drop n).all p = true) : l.all p = true := by
  rw [← List.take_append_drop n l, List.all_append, h1, h2]
  rfl
theorem map_td {α β : Type} {f g : α → β} {l : List α} (n : Nat) (h1 : (l.take n).map f = (l.take n).map g) (h2 : (l.drop n).map f = (l.drop n).map g) : l.map f = l.map g := by
  rw [← List.take_append_drop n l, List.map_append, List.map_append, h1, h2]
noncomputable def XX (w : World) (os : OsState) : Option PySem.W.SharedT := HandSHeadRun.endF (HandSHeadRun.stepQ (HandSHeadRun.denQ HandSHeadRun.tabQ) R.prog w) 200000 R.prog w os
def KO (s : PySem.W.SharedT) : PySem.W.Frag := frT (HandSHeadRun.getT s) (asE (HandSHeadRun.getT s) 5)
theorem run0 (w : World) : HandSHeadRun.RunEq R (PySem.W.view R.prog [42]) PySem.W.Hook.none (fun _ => ()) 200000 loose w := by
  intro os
  kernel_rfl
theorem run1 (w : World) (os : OsState) : (XX w os).map (fun s => (fa.take 40).all fun f => f.ok (KO s)) = some (true) := by kernel_rfl
theorem run2 (w : World) (os : OsState) : (XX w os).map (fun s => (fa.drop 40).all fun f => f.ok (KO s)) = some (true) := by kernel_rfl
theorem run3 (w : World) (os : OsState) : (XX w os).map (fun s => ((fn.take 40).all fun d => d.ok (KO s), (fn.take 40).map fun d => fnW (KO s) d.at_)) = some ((true, (fn.take 40).map DefD.val)) := by kernel_rfl
theorem run4 (w : World) (os : OsState) : (XX w os).map (fun s => ((fn.drop 40).all fun d => d.ok (KO s), (fn.drop 40).map fun d => fnW (KO s) d.at_)) = some ((true, (fn.drop 40).map DefD.val)) := by kernel_rfl
theorem run5 (w : World) (os : OsState) : (XX w os).map (fun s => ex (KO s) && tabsB (HandSHeadRun.getT s) tf (KO s)) = some (true) := by kernel_rfl
theorem run6 (w : World) (os : OsState) : (XX w os).map (fun s => (fx.map (fun d => fnWa (KO s) (d.adr (KO s))), fx.all fun d => d.okF (KO s))) = some ((fx.map FxD.val, true)) := by kernel_rfl
theorem run (w : World) : HandSHeadRun.RunEq R (PySem.W.view R.prog [42]) hk ob 200000 loose w := by
  intro os
  have h0 := run0 w os
  have h1 := run1 w os
  have h2 := run2 w os
  have h3 := run3 w os
  have h4 := run4 w os
  have h5 := run5 w os
  have h6 := run6 w os
  change Option.map _ (XX w os) = _ at h0
  change Option.map _ (XX w os) = _
  generalize XX w os = x at h0 h1 h2 h3 h4 h5 h6 ⊢
  cases x with
  | none => cases h1
  | some s =>
    have g1 : ((fa.take 40).all fun f => f.ok (KO s)) = true := Option.some.inj h1
    have g2 : ((fa.drop 40).all fun f => f.ok (KO s)) = true := Option.some.inj h2
    have g3 : (((fn.take 40).all fun d => d.ok (KO s), (fn.take 40).map fun d => fnW (KO s) d.at_)) = (true, (fn.take 40).map DefD.val) := Option.some.inj h3
    have g4 : (((fn.drop 40).all fun d => d.ok (KO s), (fn.drop 40).map fun d => fnW (KO s) d.at_)) = (true, (fn.drop 40).map DefD.val) := Option.some.inj h4
    have g5 : (ex (KO s) && tabsB (HandSHeadRun.getT s) tf (KO s)) = true := Option.some.inj h5
    have g6 : ((fx.map (fun d => fnWa (KO s) (d.adr (KO s))), fx.all fun d => d.okF (KO s))) = (fx.map FxD.val, true) := Option.some.inj h6
    have g0 := Option.some.inj h0
    have a1 := congrArg Prod.fst g0
    have a2 := congrArg (fun z => z.2.1) g0
    have b1 : (fa.all fun f => f.ok (KO s)) = true := (all_td 40 g1 g2)
    have b2 : (fn.all fun d => d.ok (KO s)) = true := (all_td 40 (Prod.mk.inj g3).1 (Prod.mk.inj g4).1)
    have b3 : (fn.map fun d => fnW (KO s) d.at_) = fn.map DefD.val := (map_td 40 (Prod.mk.inj g3).2 (Prod.mk.inj g4).2)
    refine congrArg some (Prod.ext a1 (Prod.ext a2 ?_))
    show (((fa.all fun f => f.ok (KO s)) && fn.all fun d => d.ok (KO s), fn.map fun d => fnW (KO s) d.at_), ex (KO s) && tabsB (HandSHeadRun.getT s) tf (KO s), fx.map (fun d => fnWa (KO s) (d.adr (KO s))), fx.all fun d => d.okF (KO s)) = ((true, fn.map DefD.val), true, fx.map FxD.val, true)
    rw [g5, b1, b2, b3, (Prod.mk.inj g6).1, (Prod.mk.inj g6).2]
    rfl
end JW
namespace JW
end JW
namespace JW
open PySem PySem.Spec PyProof.Rows L2
structure CallS (P : Program) (w : World) (K : PySem.W.Frag) (mg : Str → Option Value) (base : Heap) (CX : CXT) (k : Nat) (x : Str) (sp : Sp) : Prop where
  ex : ∃ f, mg x = some (.ref f) ∧ PySem.W.keepIn K (.ref f) = true ∧ FnR P w K mg base CX k f sp
structure StarAt (K : PySem.W.Frag) (mg : Str → Option Value) (x qual : Str) (st : Stmt) (ps : List Str) (pv : Str) : Prop where
  ex : ∃ f fd, mg x = some (.ref f) ∧ FunD K x qual (defArgs st) (defBody st) (defScope st) [] [] f fd ∧ ∀ us rest : List Value, us.length = ps.length → bindArgs fd ⟨us ++ rest, []⟩ = (newTuple rest >>= fun t => pure (ps.zip us ++ [(pv, t)]))
def starSp (n : Nat) (sp : Sp) : Sp := fun vs H Q E => ∃ ws rest, vs = ws ++ rest ∧ ws.length = n ∧ rest.length ≤ sizeLine ∧ ∀ p, H p = Option.none → sp (ws ++ [V.ref p]) (upd H p (.tup rest)) Q E
section
variable {P : Program} {w : World} {K : PySem.W.Frag} {mg : Str → Option Value} {base : Heap}
theorem StarAt.ok {x qual : Str} {st : Stmt} {N ps : List Str} {pv : Str} {k : Nat} {sp : Sp} (D : StarAt K mg x qual st ps pv) (S : FnScope N (ps ++ [pv]) (defScope st))
    (hbody : ∀ (f : Addr) (cdv : Value) (A : Around) (outer : List Env) (s : Shared) (H : Hp) (vs : List V) (Q : VK) (E : XK), Room k (A.deeper (envOfC qual (defScope st) s.heap.objs.size f cdv)) → sp vs H Q E →
      ∃ t, PSs (cxOf CX0 P w K mg base N qual (defScope st) f cdv A outer s H E).nox (defBody st) t ∧ t { nx := fun _ H' => Q .non H', rt := Q } (start N vs) H) : CallS P w K mg base CX0 (k + 1) x (starSp ps.length sp) := by
  obtain ⟨f, fd, h1, F, hb⟩ := D.ex
  have hk := F.kp
  obtain ⟨oc, od, dV, kV, doc, pm, an, cdv, ct, osl, rfl, lk, hcd, _, _⟩ := F.ex
  refine ⟨f, h1, hk, StX.fn_star lk hcd S StX.cxUp_none hb fun A outer s H vs Q E hr h => ?_⟩
  obtain ⟨t, h, q⟩ := hbody f cdv A outer s H vs Q E hr h
  exact ⟨t, h.nox, q⟩
end
section
variable {X : Cx} {CX : CXT} {k : Nat} {sp : Sp} {E : XK} {x : Str} {p pos : Pos} {e : Expr} {es : List Expr} {t : TA}
end
end JW
namespace JW
open PySem PySem.Spec PyProof.Rows L2
def opK (l : List T) (n : Nat) (t : T) : Prop := t.jts ≠ 0 ∧ (n = 0 ∨ l[n - 1]? ≠ some t)
instance (l : List T) (n : Nat) (t : T) : Decidable (opK l n t) := by unfold opK; exact inferInstance
end JW
namespace JW
end JW
namespace AL
open PySem PySem.Spec PyProof.Rows L2 LamX JW
inductive D where
  | non | bl (b : Bool) | int (i : Int) | str (s : Str) | ref (p : Addr) | ty (n : String) | scr | tree (t : T)
  | tup (l : List D) | obj (C : Addr) (ks : List Str) (ds : List D) | err (C : Addr) (ks : List Str) (ds : List D)
inductive MO where
  | lst (l : List D) | dct (l : List (Key × D)) | ins (C : Addr) (ks : List Str) (ds : List D) | opq (P : HO → Prop)
abbrev Store := Addr → Option MO
def sput (L : Store) (p : Addr) (m : MO) : Store := fun q => if q = p then some m else L q
theorem sput_same {L : Store} {p : Addr} {m : MO} : sput L p m p = some m := by unfold sput; rw [if_pos rfl]
theorem sput_ne {L : Store} {p q : Addr} {m : MO} (h : q ≠ p) : sput L p m q = L q := by unfold sput; rw [if_neg h]
theorem sput_sput {L : Store} {p : Addr} {m n : MO} : sput (sput L p m) p n = sput L p n := by
  funext q; unfold sput; split <;> rfl
theorem sput_old {L : Store} {p q : Addr} {m n : MO} (h : L q = some m) (hp : L p = none) : sput L p n q = some m := by
  rw [sput_ne fun e => by rw [e, hp] at h; cases h]
  exact h
structure AC (K : PySem.W.Frag) where
  TT : List (Addr × Str)
  imm : List Str
  scr : Option (Addr × List Int)
def IC {K : PySem.W.Frag} (c : AC K) (C : Addr) : Prop := C = cF K ∨ ∃ x ∈ c.imm, C = He.ga K x
def Imm {K : PySem.W.Frag} (c : AC K) : HO → Prop
  | .tup _ => True
  | .ins C _ _ => IC c C
  | .frz _ _ => True
  | .xd _ => True
  | .ext _ => True
  | _ => False
def Fr {K : PySem.W.Frag} (c : AC K) (H H' : Hp) : Prop := ∀ a o, H a = some o → Imm c o → H' a = some o
section
variable {K : PySem.W.Frag} {c : AC K} {H H1 H' : Hp}
theorem Fr.refl (c : AC K) (H : Hp) : Fr c H H := fun _ _ h _ => h
theorem Fr.trans (a : Fr c H H1) (b : Fr c H1 H') : Fr c H H' := fun p o h i => b p o (a p o h i) i
theorem Fr.same (s : L2.Same H H') : Fr c H H' := fun p o h _ => s p o h
theorem Fr.new {p : Addr} {o : HO} (hp : H p = none) : Fr c H (upd H p o) := fun q u h _ => by
  rw [upd_ne (ne_of_none h hp)]
  exact h
theorem Fr.put {p : Addr} {o u : HO} (hp : H p = some u) (n : ¬ Imm c u) : Fr c H (upd H p o) := fun q v h i => by
  rw [upd_ne fun e => by subst e; rw [hp] at h; cases h; exact n i]
  exact h
theorem Fr.extN (s : ExtN H H') : Fr c H H' := fun p o h i => s p o h fun ps z => by subst z; exact i.elim
end
def ErrO (H : Hp) (a C : Addr) (fs : List (Str × V)) : Prop := ∃ (d : Option Addr) (φ : Heap → Prop), H a = some (.ext φ) ∧ (∀ h, φ h → ∃ o, h.get? a = some o ∧ o.cls = .ref C ∧ o.dict = d ∧ ∃ vs, o.data = .fields vs) ∧
  ((d = none ∧ fs = []) ∨ ∃ dd, d = some dd ∧ (H dd = some (.xd fs) ∨ H dd = some (exd dd fs)))
theorem ErrO.fr {K : PySem.W.Frag} {c : AC K} {H H' : Hp} {a C : Addr} {fs : List (Str × V)} (h : ErrO H a C fs) (s : Fr c H H') : ErrO H' a C fs := by
  obtain ⟨d, φ, e1, e2, e3⟩ := h
  refine ⟨d, φ, s _ _ e1 trivial, e2, ?_⟩
  rcases e3 with e | ⟨dd, e, e4 | e4⟩
  · exact .inl e
  · exact .inr ⟨dd, e, .inl (s _ _ e4 trivial)⟩
  · exact .inr ⟨dd, e, .inr (s _ _ e4 trivial)⟩
mutual
def RepC {K : PySem.W.Frag} (c : AC K) (H : Hp) : D → V → Prop
  | .non, v => v = .non
  | .bl b, v => v = .bl b
  | .int i, v => v = .int i
  | .str s, v => v = .str s
  | .ref p, v => v = .ref p
  | .ty n, v => v = .ty n
  | .scr, v => ∃ a ns, c.scr = some (a, ns) ∧ v = .ref a
  | .tree t, v => Ftn (cF K) H t v
  | .tup l, v => ∃ a vs, v = .ref a ∧ SqT K H a vs ∧ RepCL c H l vs
  | .obj C ks ds, v => ∃ a dx vs, v = .ref a ∧ H a = some (.ins C dx (ks.zip vs)) ∧ IC c C ∧ ks.length = ds.length ∧ RepCL c H ds vs
  | .err C ks ds, v => ∃ a vs, v = .ref a ∧ ErrO H a C (ks.zip vs) ∧ ks.length = ds.length ∧ RepCL c H ds vs
def RepCL {K : PySem.W.Frag} (c : AC K) (H : Hp) : List D → List V → Prop
  | [], vs => vs = []
  | d :: ds, vs => ∃ v r, vs = v :: r ∧ RepC c H d v ∧ RepCL c H ds r
end
structure Rep {K : PySem.W.Frag} (c : AC K) (H : Hp) (d : D) (v : V) : Prop where
  core : RepC c H d v
structure RepL {K : PySem.W.Frag} (c : AC K) (H : Hp) (l : List D) (vs : List V) : Prop where
  core : RepCL c H l vs
section
variable {K : PySem.W.Frag} {c : AC K} {H H1 H' : Hp}
theorem repL_nil {vs : List V} : RepL c H [] vs ↔ vs = [] := ⟨fun h => by have := h.core; simpa only [RepCL] using this, fun h => ⟨by simpa only [RepCL] using h⟩⟩
theorem repL_cons {d : D} {ds : List D} {vs : List V} : RepL c H (d :: ds) vs ↔ ∃ v r, vs = v :: r ∧ Rep c H d v ∧ RepL c H ds r := by
  constructor
  · rintro ⟨h⟩
    have h2 : ∃ v r, vs = v :: r ∧ RepC c H d v ∧ RepCL c H ds r := by simpa only [RepCL] using h
    obtain ⟨v, r, e, h1, h3⟩ := h2
    exact ⟨v, r, e, ⟨h1⟩, ⟨h3⟩⟩
  · rintro ⟨v, r, e, ⟨h1⟩, ⟨h3⟩⟩
    refine ⟨?_⟩
    simp only [RepCL]
    exact ⟨v, r, e, h1, h3⟩
theorem rep_tree {t : T} {v : V} : Rep c H (.tree t) v ↔ Ftn (cF K) H t v := ⟨fun h => by have := h.core; simpa only [RepC] using this, fun h => ⟨by simpa only [RepC] using h⟩⟩
theorem rep_tup {l : List D} {v : V} : Rep c H (.tup l) v ↔ ∃ a vs, v = .ref a ∧ SqT K H a vs ∧ RepL c H l vs := by
  constructor
  · rintro ⟨h⟩
    have h2 : ∃ a vs, v = .ref a ∧ SqT K H a vs ∧ RepCL c H l vs := by simpa only [RepC] using h
    obtain ⟨a, vs, e, h1, h3⟩ := h2
    exact ⟨a, vs, e, h1, ⟨h3⟩⟩
  · rintro ⟨a, vs, e, h1, ⟨h3⟩⟩
    refine ⟨?_⟩
    simp only [RepC]
    exact ⟨a, vs, e, h1, h3⟩
theorem rep_obj {C : Addr} {ks : List Str} {ds : List D} {v : V} : Rep c H (.obj C ks ds) v ↔ ∃ a dx vs, v = .ref a ∧ H a = some (.ins C dx (ks.zip vs)) ∧ IC c C ∧ ks.length = ds.length ∧ RepL c H ds vs := by
  constructor
  · rintro ⟨h⟩
    have h2 : ∃ a dx vs, v = .ref a ∧ H a = some (.ins C dx (ks.zip vs)) ∧ IC c C ∧ ks.length = ds.length ∧ RepCL c H ds vs := by simpa only [RepC] using h
    obtain ⟨a, dx, vs, e, h1, h2, h4, h3⟩ := h2
    exact ⟨a, dx, vs, e, h1, h2, h4, ⟨h3⟩⟩
  · rintro ⟨a, dx, vs, e, h1, h2, h4, ⟨h3⟩⟩
    refine ⟨?_⟩
    simp only [RepC]
    exact ⟨a, dx, vs, e, h1, h2, h4, h3⟩
theorem rep_err {C : Addr} {ks : List Str} {ds : List D} {v : V} : Rep c H (.err C ks ds) v ↔ ∃ a vs, v = .ref a ∧ ErrO H a C (ks.zip vs) ∧ ks.length = ds.length ∧ RepL c H ds vs := by
  constructor
  · rintro ⟨h⟩
    have h2 : ∃ a vs, v = .ref a ∧ ErrO H a C (ks.zip vs) ∧ ks.length = ds.length ∧ RepCL c H ds vs := by simpa only [RepC] using h
    obtain ⟨a, vs, e, h1, h2, h3⟩ := h2
    exact ⟨a, vs, e, h1, h2, ⟨h3⟩⟩
  · rintro ⟨a, vs, e, h1, h2, ⟨h3⟩⟩
    refine ⟨?_⟩
    simp only [RepC]
    exact ⟨a, vs, e, h1, h2, h3⟩
theorem rep_non {v : V} : Rep c H .non v ↔ v = .non := ⟨fun h => by have := h.core; simpa only [RepC] using this, fun h => ⟨by simpa only [RepC] using h⟩⟩
theorem rep_bl {b : Bool} {v : V} : Rep c H (.bl b) v ↔ v = .bl b := ⟨fun h => by have := h.core; simpa only [RepC] using this, fun h => ⟨by simpa only [RepC] using h⟩⟩
theorem rep_int {i : Int} {v : V} : Rep c H (.int i) v ↔ v = .int i := ⟨fun h => by have := h.core; simpa only [RepC] using this, fun h => ⟨by simpa only [RepC] using h⟩⟩
theorem rep_str {z : Str} {v : V} : Rep c H (.str z) v ↔ v = .str z := ⟨fun h => by have := h.core; simpa only [RepC] using this, fun h => ⟨by simpa only [RepC] using h⟩⟩
theorem rep_ref {p : Addr} {v : V} : Rep c H (.ref p) v ↔ v = .ref p := ⟨fun h => by have := h.core; simpa only [RepC] using this, fun h => ⟨by simpa only [RepC] using h⟩⟩
theorem rep_ty {n : String} {v : V} : Rep c H (.ty n) v ↔ v = .ty n := ⟨fun h => by have := h.core; simpa only [RepC] using this, fun h => ⟨by simpa only [RepC] using h⟩⟩
theorem rep_scr {v : V} : Rep c H .scr v ↔ ∃ a ns, c.scr = some (a, ns) ∧ v = .ref a := ⟨fun h => by have := h.core; simpa only [RepC] using this, fun h => ⟨by simpa only [RepC] using h⟩⟩
mutual
theorem ftn_fr (s : Fr c H H') : ∀ (t : T) (v : V), Ftn (cF K) H t v → Ftn (cF K) H' t v
  | .jet, v, h => by
    have h2 : ∃ a dx b n, v = .ref a ∧ H a = some (.ins (cF K) dx (flds .jet b n)) ∧ H b = some (.tup []) ∧ H n = some (.tup (nums .jet)) := h
    obtain ⟨a, dx, b, n, ev, h1, h2, h3⟩ := h2
    exact ⟨a, dx, b, n, ev, s _ _ h1 (.inl rfl), s _ _ h2 trivial, s _ _ h3 trivial⟩
  | .bas l, v, h => by
    have h2 : ∃ a dx b n vs, v = .ref a ∧ H a = some (.ins (cF K) dx (flds (.bas l) b n)) ∧ H b = some (.tup vs) ∧ H n = some (.tup (nums (.bas l))) ∧ FtnL (cF K) H l vs := h
    obtain ⟨a, dx, b, n, vs, ev, h1, h2, h3, h4⟩ := h2
    exact ⟨a, dx, b, n, vs, ev, s _ _ h1 (.inl rfl), s _ _ h2 trivial, s _ _ h3 trivial, ftnL_fr s l vs h4⟩
theorem ftnL_fr (s : Fr c H H') : ∀ (l : List T) (vs : List V), FtnL (cF K) H l vs → FtnL (cF K) H' l vs
  | [], vs, h => h
  | t :: ts, vs, h => by
    have h2 : ∃ v r, vs = v :: r ∧ Ftn (cF K) H t v ∧ FtnL (cF K) H ts r := h
    obtain ⟨v, r, ev, h1, h2⟩ := h2
    exact ⟨v, r, ev, ftn_fr s t v h1, ftnL_fr s ts r h2⟩
end
theorem sqT_fr (s : Fr c H H') {a : Addr} {vs : List V} (h : SqT K H a vs) : SqT K H' a vs := by
  rcases h with (h | ⟨o, h⟩) | h
  · exact .inl (.inl (s _ _ h trivial))
  · exact .inl (.inr ⟨o, s _ _ h trivial⟩)
  · exact .inr h
mutual
theorem rep_fr (s : Fr c H H') : ∀ (d : D) (v : V), Rep c H d v → Rep c H' d v
  | .non, v, h => rep_non.mpr (rep_non.mp h)
  | .bl _, v, h => rep_bl.mpr (rep_bl.mp h)
  | .int _, v, h => rep_int.mpr (rep_int.mp h)
  | .str _, v, h => rep_str.mpr (rep_str.mp h)
  | .ref _, v, h => rep_ref.mpr (rep_ref.mp h)
  | .ty _, v, h => rep_ty.mpr (rep_ty.mp h)
  | .scr, v, h => rep_scr.mpr (rep_scr.mp h)
  | .tree t, v, h => rep_tree.mpr (ftn_fr s t v (rep_tree.mp h))
  | .tup l, v, h => by
    obtain ⟨a, vs, e, h1, h3⟩ := rep_tup.mp h
    exact rep_tup.mpr ⟨a, vs, e, sqT_fr s h1, repL_fr s l vs h3⟩
  | .obj C ks ds, v, h => by
    obtain ⟨a, dx, vs, e, h1, h4, h5, h3⟩ := rep_obj.mp h
    exact rep_obj.mpr ⟨a, dx, vs, e, s _ _ h1 h4, h4, h5, repL_fr s ds vs h3⟩
  | .err C ks ds, v, h => by
    obtain ⟨a, vs, e, h1, h5, h3⟩ := rep_err.mp h
    exact rep_err.mpr ⟨a, vs, e, h1.fr s, h5, repL_fr s ds vs h3⟩
theorem repL_fr (s : Fr c H H') : ∀ (l : List D) (vs : List V), RepL c H l vs → RepL c H' l vs
  | [], vs, h => repL_nil.mpr (repL_nil.mp h)
  | d :: ds, vs, h => by
    obtain ⟨v, r, e, h1, h3⟩ := repL_cons.mp h
    exact repL_cons.mpr ⟨v, r, e, rep_fr s d v h1, repL_fr s ds r h3⟩
end
theorem Rep.fr {d : D} {v : V} (h : Rep c H d v) (s : Fr c H H') : Rep c H' d v := rep_fr s d v h
theorem RepL.fr {l : List D} {vs : List V} (h : RepL c H l vs) (s : Fr c H H') : RepL c H' l vs := repL_fr s l vs h
theorem RepL.len : ∀ {l : List D} {vs : List V}, RepL c H l vs → vs.length = l.length
  | [], vs, h => by rw [repL_nil.mp h]; rfl
  | d :: ds, vs, h => by
    obtain ⟨v, r, rfl, _, h2⟩ := repL_cons.mp h
    show r.length + 1 = ds.length + 1
    rw [h2.len]
theorem RepL.get : ∀ {l : List D} {vs : List V} {i : Nat} {d : D}, RepL c H l vs → l[i]? = some d → ∃ v, vs[i]? = some v ∧ Rep c H d v
  | [], vs, i, d, h, e => by simp at e
  | x :: ds, vs, 0, d, h, e => by
    obtain ⟨v, r, rfl, h1, h2⟩ := repL_cons.mp h
    simp at e
    subst e
    exact ⟨v, rfl, h1⟩
  | x :: ds, vs, i + 1, d, h, e => by
    obtain ⟨v, r, rfl, h1, h2⟩ := repL_cons.mp h
    obtain ⟨u, e1, e2⟩ := h2.get (by simpa using e)
    exact ⟨u, by simpa using e1, e2⟩
theorem RepL.getV {l : List D} {vs : List V} {i : Nat} {v : V} (h : RepL c H l vs) (e : vs[i]? = some v) : ∃ d, l[i]? = some d ∧ Rep c H d v := by
  have hi : i < l.length := by
    rw [← h.len]
    exact (List.getElem?_eq_some_iff.mp e).1
  obtain ⟨u, e1, r⟩ := h.get (List.getElem?_eq_getElem hi)
  rw [e] at e1
  cases e1
  exact ⟨_, List.getElem?_eq_getElem hi, r⟩
theorem RepL.app : ∀ {l m : List D} {vs ws : List V}, RepL c H l vs → RepL c H m ws → RepL c H (l ++ m) (vs ++ ws)
  | [], m, vs, ws, h, g => by
    rw [repL_nil.mp h]
    exact g
  | d :: ds, m, vs, ws, h, g => by
    obtain ⟨v, r, rfl, h1, h2⟩ := repL_cons.mp h
    exact repL_cons.mpr ⟨v, r ++ ws, rfl, h1, h2.app g⟩
theorem RepL.one {d : D} {v : V} (h : Rep c H d v) : RepL c H [d] [v] := repL_cons.mpr ⟨v, [], rfl, h, repL_nil.mpr rfl⟩
theorem RepL.cons {d : D} {v : V} {l : List D} {vs : List V} (h : Rep c H d v) (g : RepL c H l vs) : RepL c H (d :: l) (v :: vs) := repL_cons.mpr ⟨v, vs, rfl, h, g⟩
theorem RepL.nil : RepL c H [] [] := repL_nil.mpr rfl
theorem RepL.drop : ∀ {l : List D} {vs : List V} (n : Nat), RepL c H l vs → RepL c H (l.drop n) (vs.drop n)
  | l, vs, 0, h => by simpa using h
  | [], vs, n + 1, h => by
    rw [repL_nil.mp h]
    exact RepL.nil
  | d :: ds, vs, n + 1, h => by
    obtain ⟨v, r, rfl, h1, h2⟩ := repL_cons.mp h
    simpa using h2.drop n
theorem RepL.take : ∀ {l : List D} {vs : List V} (n : Nat), RepL c H l vs → RepL c H (l.take n) (vs.take n)
  | l, vs, 0, h => by simpa using RepL.nil
  | [], vs, n + 1, h => by
    rw [repL_nil.mp h]
    simpa using RepL.nil
  | d :: ds, vs, n + 1, h => by
    obtain ⟨v, r, rfl, h1, h2⟩ := repL_cons.mp h
    simpa using RepL.cons h1 (h2.take n)
theorem RepL.set : ∀ {l : List D} {vs : List V} {d : D} {v : V} (n : Nat), RepL c H l vs → Rep c H d v → RepL c H (l.set n d) (vs.set n v)
  | [], vs, d, v, n, h, g => by
    rw [repL_nil.mp h]
    exact RepL.nil
  | x :: ds, vs, d, v, 0, h, g => by
    obtain ⟨y, r, rfl, h1, h2⟩ := repL_cons.mp h
    exact RepL.cons g h2
  | x :: ds, vs, d, v, n + 1, h, g => by
    obtain ⟨y, r, rfl, h1, h2⟩ := repL_cons.mp h
    exact RepL.cons h1 (h2.set n g)
end
def MRep {K : PySem.W.Frag} (c : AC K) (H : Hp) (p : Addr) : MO → Prop
  | .lst l => ∃ vs, H p = some (.lst vs) ∧ RepL c H l vs
  | .dct l => ∃ kvs, H p = some (.dK kvs) ∧ kvs.map (·.1) = l.map (·.1) ∧ RepL c H (l.map (·.2)) (kvs.map (·.2))
  | .ins C ks ds => ∃ dx vs, H p = some (.ins C dx (ks.zip vs)) ∧ ¬ IC c C ∧ ks.length = ds.length ∧ RepL c H ds vs
  | .opq P => ∃ o, H p = some o ∧ P o ∧ ¬ Imm c o ∧ (∀ ps, o ≠ .tbl ps) ∧ (∀ φ, o ≠ .ext φ) ∧ ∀ xs, ¬ P (.lst xs)
def ScrOk {K : PySem.W.Frag} (c : AC K) (L : Store) (H : Hp) : Prop := ∀ a ns, c.scr = some (a, ns) → ns.length ≤ 63 ∧
  ((H a = some (.lst (ns.map V.int)) ∧ L a = none) ∨ (∃ o, H a = some (.frz o (.lst (ns.map V.int)))) ∨ (∃ (o : Obj) (its : Array Value) (n : Nat), K.lookup a = some o ∧ o.cls = .type "list" ∧ o.dict = none ∧ o.data = .seq its n ∧ its.size ≤ sizeLine ∧ Vals (ns.map V.int) its.toList))
structure Good {K : PySem.W.Frag} (c : AC K) (L : Store) (H : Hp) : Prop where
  tabs : Tabs c.TT H
  st : ∀ p m, L p = some m → MRep c H p m
  scr : ScrOk c L H
section
variable {K : PySem.W.Frag} {c : AC K} {H H1 H' : Hp} {L : Store} {p : Addr} {m : MO}
theorem MRep.at (h : MRep c H p m) : ∃ o, H p = some o ∧ ¬ Imm c o ∧ (∀ ps, o ≠ .tbl ps) ∧ ∀ φ, o ≠ .ext φ := by
  cases m with
  | lst l => obtain ⟨vs, e, _⟩ := h; exact ⟨_, e, fun z => z, fun _ z => (by cases z), fun _ z => (by cases z)⟩
  | dct l => obtain ⟨vs, e, _⟩ := h; exact ⟨_, e, fun z => z, fun _ z => (by cases z), fun _ z => (by cases z)⟩
  | ins C ks ds => obtain ⟨dx, vs, e, n, _⟩ := h; exact ⟨_, e, n, fun _ z => (by cases z), fun _ z => (by cases z)⟩
  | opq P => obtain ⟨o, e, _, r1, r2, r3, _⟩ := h; exact ⟨o, e, r1, r2, r3⟩
theorem MRep.mono (h : MRep c H p m) (e : H' p = H p) (s : Fr c H H') : MRep c H' p m := by
  cases m with
  | lst l => obtain ⟨vs, e1, r⟩ := h; exact ⟨vs, e.trans e1, r.fr s⟩
  | dct l => obtain ⟨vs, e1, k, r⟩ := h; exact ⟨vs, e.trans e1, k, r.fr s⟩
  | ins C ks ds => obtain ⟨dx, vs, e1, n, k, r⟩ := h; exact ⟨dx, vs, e.trans e1, n, k, r.fr s⟩
  | opq P => obtain ⟨o, e1, r⟩ := h; exact ⟨o, e.trans e1, r⟩
theorem Good.fresh (g : Good c L H) (h : H p = none) : L p = none := by
  cases e : L p with
  | none => rfl
  | some m =>
    obtain ⟨o, e2, _⟩ := (g.st p m e).at
    rw [h] at e2
    cases e2
theorem tabs_upd {TT : List (Addr × Str)} {o u : HO} (t : Tabs TT H) (hd : ∀ v, H p = some v → (∀ ps, v ≠ .tbl ps) ∧ ∀ φ, v ≠ .ext φ) : Tabs TT (upd H p u) := fun q hq => by
  obtain ⟨ps, h1, h2, h3⟩ := t q hq
  have ne1 : q.1 ≠ p := fun e => (hd _ (e ▸ h1)).1 ps rfl
  refine ⟨ps, by rw [upd_ne ne1]; exact h1, h2, fun pos cv hc => ?_⟩
  obtain ⟨k, e1, e2⟩ := h3 pos cv hc
  have ne2 : k ≠ p := fun e => (hd _ (e ▸ e2)).2 _ rfl
  exact ⟨k, e1, by rw [upd_ne ne2]; exact e2⟩
theorem Good.alloc (g : Good c L H) (hp : H p = none) (o : HO) (hm : MRep c (upd H p o) p m) : Good c (sput L p m) (upd H p o) := by
  have s : Fr c H (upd H p o) := .new hp
  refine ⟨tabs_upd (o := o) g.tabs fun v e => (by rw [hp] at e; cases e), fun q n e => ?_, fun a ns e => ?_⟩
  · by_cases hq : q = p
    · subst hq
      rw [sput_same] at e
      cases e
      exact hm
    · rw [sput_ne hq] at e
      exact (g.st q n e).mono (upd_ne hq) s
  · refine ⟨(g.scr a ns e).1, ?_⟩
    rcases (g.scr a ns e).2 with ⟨h1, h2⟩ | ⟨o', h⟩ | h
    · have ne : a ≠ p := fun z => by subst z; rw [hp] at h1; cases h1
      exact .inl ⟨by rw [upd_ne ne]; exact h1, by rw [sput_ne ne]; exact h2⟩
    · have ne : a ≠ p := fun z => by subst z; rw [hp] at h; cases h
      exact .inr (.inl ⟨o', by rw [upd_ne ne]; exact h⟩)
    · exact .inr (.inr h)
theorem Good.new (g : Good c L H) (hp : H p = none) (o : HO) : Good c L (upd H p o) := by
  have s : Fr c H (upd H p o) := .new hp
  refine ⟨tabs_upd (o := o) g.tabs fun v e => (by rw [hp] at e; cases e), fun q n e => ?_, fun a ns e => ?_⟩
  · have hq : q ≠ p := fun z => by subst z; rw [g.fresh hp] at e; cases e
    exact (g.st q n e).mono (upd_ne hq) s
  · refine ⟨(g.scr a ns e).1, ?_⟩
    rcases (g.scr a ns e).2 with ⟨h1, h2⟩ | ⟨o', h⟩ | h
    · have ne : a ≠ p := fun z => by subst z; rw [hp] at h1; cases h1
      exact .inl ⟨by rw [upd_ne ne]; exact h1, h2⟩
    · have ne : a ≠ p := fun z => by subst z; rw [hp] at h; cases h
      exact .inr (.inl ⟨o', by rw [upd_ne ne]; exact h⟩)
    · exact .inr (.inr h)
theorem Good.put {m' : MO} (g : Good c L H) (hp : L p = some m) (o : HO) (hm : MRep c (upd H p o) p m') : Good c (sput L p m') (upd H p o) ∧ Fr c H (upd H p o) := by
  obtain ⟨u, e0, n0, n1, n2⟩ := (g.st p m hp).at
  have s : Fr c H (upd H p o) := .put e0 n0
  refine ⟨⟨tabs_upd (o := o) g.tabs fun v e => by rw [e0] at e; cases e; exact ⟨n1, n2⟩, fun q n e => ?_, fun a ns e => ?_⟩, s⟩
  · by_cases hq : q = p
    · subst hq
      rw [sput_same] at e
      cases e
      exact hm
    · rw [sput_ne hq] at e
      exact (g.st q n e).mono (upd_ne hq) s
  · refine ⟨(g.scr a ns e).1, ?_⟩
    rcases (g.scr a ns e).2 with ⟨h1, h2⟩ | ⟨o', h⟩ | h
    · have ne : a ≠ p := fun z => by subst z; rw [hp] at h2; cases h2
      exact .inl ⟨by rw [upd_ne ne]; exact h1, by rw [sput_ne ne]; exact h2⟩
    · have ne : a ≠ p := fun z => by subst z; rw [e0] at h; cases h; exact n0 trivial
      exact .inr (.inl ⟨o', by rw [upd_ne ne]; exact h⟩)
    · exact .inr (.inr h)
theorem Good.keep (g : Good c L H) (t : Tabs c.TT H') (s : Fr c H H') (k : ∀ q n, L q = some n → H' q = H q) (hs : ∀ a ns, c.scr = some (a, ns) → H a = some (.lst (ns.map V.int)) → H' a = H a) : Good c L H' := by
  refine ⟨t, fun q n e => (g.st q n e).mono (k q n e) s, fun a ns e => ?_⟩
  refine ⟨(g.scr a ns e).1, ?_⟩
  rcases (g.scr a ns e).2 with ⟨h1, h2⟩ | ⟨o', h⟩ | h
  · exact .inl ⟨(hs a ns e h1).trans h1, h2⟩
  · exact .inr (.inl ⟨o', s _ _ h trivial⟩)
  · exact .inr (.inr h)
theorem Good.extN (g : Good c L H) (t : Tabs c.TT H') (s : ExtN H H') : Good c L H' := by
  refine g.keep t (.extN s) (fun q n e => ?_) fun a ns e h => ?_
  · obtain ⟨o, e0, _, n1, _⟩ := (g.st q n e).at
    rw [s _ _ e0 n1, e0]
  · rw [s _ _ h (fun ps z => by cases z), h]
theorem Good.same (g : Good c L H) (s : L2.Same H H') : Good c L H' := g.extN (JW.Tabs.same g.tabs s) (.of s)
end
section
variable {K : PySem.W.Frag} {c : AC K} {H H1 H' : Hp} {L : Store}
theorem Good.seq (g : Good c L H) {a : Addr} {ns : List Int} (e : c.scr = some (a, ns)) : SqL K H a (ns.map V.int) := by
  rcases (g.scr a ns e).2 with ⟨h, _⟩ | ⟨o, h⟩ | h
  · exact .inl (.inl h)
  · exact .inl (.inr ⟨o, h⟩)
  · exact .inr h
theorem Good.but (g : Good c L H) {d : Addr} {m : MO} (hd : L d = some m) (t : Tabs c.TT H') (s : ∀ b o, b ≠ d → H b = some o → H' b = some o) (hm : MRep c H' d m) : Good c L H' ∧ Fr c H H' := by
  obtain ⟨u, e0, n0, n1, n2⟩ := (g.st d m hd).at
  have fr : Fr c H H' := fun p o h i => s p o (fun z => by subst z; rw [e0] at h; cases h; exact n0 i) h
  refine ⟨⟨t, fun q n e => ?_, fun a ns e => ?_⟩, fr⟩
  · by_cases hq : q = d
    · subst hq
      rw [hd] at e
      cases e
      exact hm
    · obtain ⟨o, e1, _⟩ := (g.st q n e).at
      exact (g.st q n e).mono ((s q o hq e1).trans e1.symm) fr
  · refine ⟨(g.scr a ns e).1, ?_⟩
    rcases (g.scr a ns e).2 with ⟨h1, h2⟩ | ⟨o, h⟩ | h
    · exact .inl ⟨s _ _ (fun z => by subst z; rw [hd] at h2; cases h2) h1, h2⟩
    · exact .inr (.inl ⟨o, fr _ _ h trivial⟩)
    · exact .inr (.inr h)
def law0 : Store := fun _ => none
theorem good_law {a : Addr} {ns : List Int} (hs : c.scr = some (a, ns)) (hl : ns.length ≤ 63) (h : SqL K H a (ns.map V.int)) (t : Tabs c.TT H) : Good c law0 H := by
  refine ⟨t, fun q n e => (by cases e), fun b ms e => ?_⟩
  rw [hs] at e
  cases e
  refine ⟨hl, ?_⟩
  rcases h with (h | ⟨o, h⟩) | h
  · exact .inl ⟨h, rfl⟩
  · exact .inr (.inl ⟨o, h⟩)
  · exact .inr (.inr h)
theorem Good.sameNew {d : Addr} {m : MO} (g : Good c L H) (s : L2.Same H H') (hd : H d = none) (hm : MRep c H' d m) : Good c (sput L d m) H' := by
  have g' := g.same s
  refine ⟨g'.tabs, fun q n e => ?_, fun a ns e => ?_⟩
  · by_cases hq : q = d
    · subst hq
      rw [sput_same] at e
      cases e
      exact hm
    · rw [sput_ne hq] at e
      exact g'.st q n e
  · refine ⟨(g.scr a ns e).1, ?_⟩
    rcases (g.scr a ns e).2 with ⟨h1, h2⟩ | ⟨o, h⟩ | h
    · exact .inl ⟨s _ _ h1, by rw [sput_ne (ne_of_none h1 hd)]; exact h2⟩
    · exact .inr (.inl ⟨o, s _ _ h⟩)
    · exact .inr (.inr h)
def SubS (L0 L : Store) : Prop := ∀ p m, L0 p = some m → L p = some m
theorem SubS.refl (L : Store) : SubS L L := fun _ _ h => h
theorem SubS.trans {L0 L1 L2 : Store} (a : SubS L0 L1) (b : SubS L1 L2) : SubS L0 L2 := fun p m h => b p m (a p m h)
theorem SubS.new {L0 L : Store} {p : Addr} {m : MO} (a : SubS L0 L) (hp : L p = none) : SubS L0 (sput L p m) := fun q n h => sput_old (a q n h) hp
theorem SubS.put {L0 L : Store} {p : Addr} {m : MO} (a : SubS L0 L) (hp : L0 p = none) : SubS L0 (sput L p m) := fun q n h => by
  rw [sput_ne fun e => by rw [e, hp] at h; cases h]
  exact a q n h
theorem SubS.none {L0 L : Store} {p : Addr} (a : SubS L0 L) (hp : L p = none) : L0 p = none := by
  cases e : L0 p with
  | none => rfl
  | some m => rw [a p m e] at hp; cases hp
theorem SubS.mine {L0 L : Store} {p : Addr} {m : MO} (a : SubS L0 L) (hp : L p = some m) : SubS (sput L0 p m) L := fun q n h => by
  by_cases e : q = p
  · subst e
    rw [sput_same] at h
    cases h
    exact hp
  · rw [sput_ne e] at h
    exact a q n h
theorem Good.sub {L0 : Store} (g : Good c L H) (s : SubS L0 L) : Good c L0 H := by
  refine ⟨g.tabs, fun q n e => g.st q n (s q n e), fun a ns e => ⟨(g.scr a ns e).1, ?_⟩⟩
  rcases (g.scr a ns e).2 with ⟨h1, h2⟩ | h
  · exact .inl ⟨h1, s.none h2⟩
  · exact .inr h
end
end AL
namespace AL
open PySem PySem.Spec PyProof.Rows L2 LamX JW
abbrev En := List (Option D)
abbrev AQ := D → Store → Prop
abbrev AX := Str → List (Str × D) → Store → Prop
abbrev ATE := En → Store → AQ → Prop
abbrev ATT := En → Store → (Bool → Store → Prop) → Prop
abbrev ATA := En → Store → (List D → Store → Prop) → Prop
structure AEnds where
  nx : En → Store → Prop
  rt : AQ
  bk : En → Store → Prop := fun _ _ => False
  ct : En → Store → Prop := fun _ _ => False
abbrev ATS := AEnds → En → Store → Prop
abbrev ATG := D → En → Store → (En → Store → Prop) → Prop
abbrev ATGs := List D → En → Store → (En → Store → Prop) → Prop
abbrev ATI := En → Store → (List D → (Store → Prop) → Store → Prop) → Prop
abbrev ASp := List D → Store → AQ → AX → Prop
def anyX : AX := fun _ _ _ => True
section
variable {K : PySem.W.Frag}
structure EnvR (c : AC K) (H : Hp) (σ : L2.St) (env : En) : Prop where
  len : σ.length = env.length
  get : ∀ (i : Nat) (d : D), env[i]? = some (some d) → ∃ v : V, σ[i]? = some (some v) ∧ Rep c H d v
structure Rl (c : AC K) (H0 : Hp) (σ : L2.St) (H : Hp) (env : En) (L : Store) : Prop where
  env : EnvR c H σ env
  good : Good c L H
  fr : Fr c H0 H
def Pq (c : AC K) (H : Hp) (R : AQ) (Q : VK) : Prop := ∀ d L' v H', R d L' → Fr c H H' → Good c L' H' → Rep c H' d v → Q v H'
def ErrR (c : AC K) (H : Hp) (fs : List (Str × D)) (dd : Option Addr) : Prop := (fs = [] ∧ dd = none) ∨ ∃ f d a v, fs = [(f, d)] ∧ dd = some a ∧ H a = some (.xd [(f, v)]) ∧ Rep c H d v
def Px (c : AC K) (H : Hp) (R : AX) (E : XK) : Prop := ∀ x fs L' H' dd, R x fs L' → Fr c H H' → Good c L' H' → ErrR c H' fs dd → E (.ref (He.ga K x)) dd H'
end
section
variable {K : PySem.W.Frag} {c : AC K} {H0 H H1 H' : Hp} {σ : L2.St} {env : En} {L L1 : Store} {Q : VK} {R : AQ} {d : D} {v : V}
theorem EnvR.fr (h : EnvR c H σ env) (s : Fr c H H1) : EnvR c H1 σ env := ⟨h.len, fun i d e => by
  obtain ⟨v, e1, r⟩ := h.get i d e
  exact ⟨v, e1, r.fr s⟩⟩
theorem EnvR.set (h : EnvR c H σ env) (i : Nat) (r : Rep c H d v) : EnvR c H (σ.set i (some v)) (env.set i (some d)) := by
  refine ⟨by rw [List.length_set, List.length_set, h.len], fun j e hj => ?_⟩
  by_cases hi : i = j
  · subst hi
    have lt : i < env.length := by
      rcases Nat.lt_or_ge i env.length with z | z
      · exact z
      · rw [List.getElem?_eq_none (by simpa using z)] at hj
        cases hj
    rw [List.getElem?_set_self lt] at hj
    cases hj
    exact ⟨v, List.getElem?_set_self (by rw [h.len]; exact lt), r⟩
  · rw [List.getElem?_set_ne hi] at hj
    obtain ⟨u, e1, r1⟩ := h.get j e hj
    exact ⟨u, by rw [List.getElem?_set_ne hi]; exact e1, r1⟩
theorem Rl.step (h : Rl c H0 σ H env L) (s : Fr c H H1) (g : Good c L1 H1) : Rl c H0 σ H1 env L1 := ⟨h.env.fr s, g, h.fr.trans s⟩
theorem Pq.fr (h : Pq c H R Q) (s : Fr c H H1) : Pq c H1 R Q := fun d L' v H' r f g p => h d L' v H' r (s.trans f) g p
theorem Pq.here (h : Pq c H R Q) (r : R d L) (g : Good c L H) (p : Rep c H d v) : Q v H := h d L v H r (.refl c H) g p
theorem Pq.new (h : Pq c H R Q) {p : Addr} {o : HO} (hp : H p = none) (r : R d L) (g : Good c L H) (q : Rep c (upd H p o) d v) : Q v (upd H p o) := h d L v _ r (.new hp) (g.new hp o) q
theorem Pq.alloc (h : Pq c H R Q) {p : Addr} {o : HO} {m : MO} (hp : H p = none) (r : R (.ref p) (sput L p m)) (g : Good c L H) (q : MRep c (upd H p o) p m) : Q (.ref p) (upd H p o) :=
  h (.ref p) _ _ _ r (.new hp) (g.alloc hp o q) (rep_ref.mpr rfl)
theorem Px.fr {RX : AX} {E : XK} (h : Px c H RX E) (s : Fr c H H1) : Px c H1 RX E := fun x fs L' H' dd r f g p => h x fs L' H' dd r (s.trans f) g p
end
section
variable {K : PySem.W.Frag}
def lowE (c : AC K) (H0 : Hp) (a : ATE) : TE := fun σ H Q => ∃ env L R, Rl c H0 σ H env L ∧ a env L R ∧ Pq c H R Q
def lowT (c : AC K) (H0 : Hp) (a : ATT) : TT := fun σ H Q => ∃ env L R, Rl c H0 σ H env L ∧ a env L R ∧ ∀ b L' H', R b L' → Fr c H H' → Good c L' H' → Q b H'
def lowA (c : AC K) (H0 : Hp) (a : ATA) : TA := fun σ H Q => ∃ env L R, Rl c H0 σ H env L ∧ a env L R ∧ ∀ ds L' vs H', R ds L' → Fr c H H' → Good c L' H' → RepL c H' ds vs → Q vs H'
structure EndR (c : AC K) (H0 : Hp) (H : Hp) (R : AEnds) (D : Ends) : Prop where
  nx : ∀ env' L' σ' H', R.nx env' L' → Fr c H H' → Rl c H0 σ' H' env' L' → D.nx σ' H'
  rt : ∀ d L' v H', R.rt d L' → Fr c H H' → Good c L' H' → Rep c H' d v → D.rt v H'
  bk : ∀ env' L' σ' H', R.bk env' L' → Fr c H H' → Rl c H0 σ' H' env' L' → D.bk σ' H'
  ct : ∀ env' L' σ' H', R.ct env' L' → Fr c H H' → Rl c H0 σ' H' env' L' → D.ct σ' H'
def lowS (c : AC K) (H0 : Hp) (a : ATS) : TS := fun D σ H => ∃ env L R, Rl c H0 σ H env L ∧ a R env L ∧ EndR c H0 H R D
def lowG (c : AC K) (H0 : Hp) (a : ATG) : TG := fun v σ H Q => ∃ d env L R, Rep c H d v ∧ Rl c H0 σ H env L ∧ a d env L R ∧ ∀ env' L' σ' H', R env' L' → Fr c H H' → Rl c H0 σ' H' env' L' → Q σ' H'
def lowGs (c : AC K) (H0 : Hp) (a : ATGs) : TGs := fun vs σ H Q => ∃ ds env L R, RepL c H ds vs ∧ Rl c H0 σ H env L ∧ a ds env L R ∧ ∀ env' L' σ' H', R env' L' → Fr c H H' → Rl c H0 σ' H' env' L' → Q σ' H'
structure WalkA (c : AC K) (J : It) (items : List D) (G : Store → Prop) (H : Hp) : Prop where
  ex : ∃ GH : Hp → Prop, Walk J items.length GH (fun i H x H' => Fr c H H' ∧ (∀ L, Good c L H → Good c L H') ∧ ∃ d, items[i]? = some d ∧ Rep c H' d x) ∧ ∀ L H', Fr c H H' → Good c L H' → G L → GH H'
def lowI (c : AC K) (H0 : Hp) (a : ATI) : TI := fun σ H Q => ∃ env L R, Rl c H0 σ H env L ∧ a env L R ∧ ∀ items G L' J H', R items G L' → Fr c H H' → Good c L' H' → WalkA c J items G H' → Q J H'
def spA (c : AC K) (asp : ASp) : Sp := fun vs H Q E => ∃ ds L R RX, RepL c H ds vs ∧ Good c L H ∧ asp ds L R RX ∧ Pq c H R Q ∧ Px c H RX E
end
theorem EndR.fr {K : PySem.W.Frag} {c : AC K} {H0 H H1 : Hp} {R : AEnds} {D : Ends} (h : EndR c H0 H R D) (s : Fr c H H1) : EndR c H0 H1 R D :=
  ⟨fun e l σ h' r f => h.nx e l σ h' r (s.trans f), fun d l v h' r f => h.rt d l v h' r (s.trans f), fun e l σ h' r f => h.bk e l σ h' r (s.trans f), fun e l σ h' r f => h.ct e l σ h' r (s.trans f)⟩
section
variable (X : Cx) (c : AC X.K) (H0 : Hp)
def AE (e : Expr) (a : ATE) : Prop := PE X e (lowE c H0 a)
def AT (e : Expr) (a : ATT) : Prop := PT X e (lowT c H0 a)
def AW (e : Expr) (a : ATT) : Prop := PW X e (lowT c H0 a)
def AA (es : List Expr) (a : ATA) : Prop := PA X es (lowA c H0 a)
def AS (st : Stmt) (a : ATS) : Prop := PS X st (lowS c H0 a)
def ASs (st : List Stmt) (a : ATS) : Prop := PSs X st (lowS c H0 a)
def AG (tg : Expr) (a : ATG) : Prop := PG X tg (lowG c H0 a)
def AGs (tg : List Expr) (a : ATGs) : Prop := PGs X tg (lowGs c H0 a)
def AI (tg it : Expr) (a : ATI) : Prop := PI X tg it (lowI c H0 a)
end
section
variable {X : Cx}
theorem _root_.L2.PE.imp {e : Expr} {t t' : TE} (h : PE X e t) (k : ∀ σ H Q, t' σ H Q → t σ H Q) : PE X e t' := ⟨fun pins s σ H Q I q => h.run pins s σ H Q I (k σ H Q q)⟩
theorem _root_.L2.PT.imp {e : Expr} {t t' : TT} (h : PT X e t) (k : ∀ σ H Q, t' σ H Q → t σ H Q) : PT X e t' := ⟨fun pins s σ H Q I q => h.run pins s σ H Q I (k σ H Q q)⟩
theorem _root_.L2.PW.imp {e : Expr} {t t' : TT} (h : PW X e t) (k : ∀ σ H Q, t' σ H Q → t σ H Q) : PW X e t' := ⟨fun wh pins s σ H Q I q => h.run wh pins s σ H Q I (k σ H Q q)⟩
theorem _root_.L2.PA.imp {es : List Expr} {t t' : TA} (h : PA X es t) (k : ∀ σ H Q, t' σ H Q → t σ H Q) : PA X es t' := ⟨fun pos pins s σ H Q I q => h.run pos pins s σ H Q I (k σ H Q q)⟩
theorem _root_.L2.PS.imp {st : Stmt} {t t' : TS} (h : PS X st t) (k : ∀ D σ H, t' D σ H → t D σ H) : PS X st t' := ⟨fun pins s σ H D I q => h.run pins s σ H D I (k D σ H q)⟩
theorem _root_.L2.PSs.imp {st : List Stmt} {t t' : TS} (h : PSs X st t) (k : ∀ D σ H, t' D σ H → t D σ H) : PSs X st t' := ⟨fun pins s σ H D I q => h.run pins s σ H D I (k D σ H q)⟩
theorem _root_.L2.PG.imp {e : Expr} {t t' : TG} (h : PG X e t) (k : ∀ v σ H Q, t' v σ H Q → t v σ H Q) : PG X e t' := ⟨fun pins s σ H v u Q I r q => h.run pins s σ H v u Q I r (k v σ H Q q)⟩
theorem _root_.L2.PGs.imp {es : List Expr} {t t' : TGs} (h : PGs X es t) (k : ∀ v σ H Q, t' v σ H Q → t v σ H Q) : PGs X es t' := ⟨fun pins s σ H v u Q I r q => h.run pins s σ H v u Q I r (k v σ H Q q)⟩
theorem _root_.L2.PI.imp {tg it : Expr} {t t' : TI} (h : PI X tg it t) (k : ∀ σ H R, t' σ H R → t σ H R) : PI X tg it t' := ⟨fun pins s σ H R I q => h.run pins s σ H R I (k σ H R q)⟩
theorem _root_.L2.OpR.imp {f : Value → Value → Sem Value} {r r' : R2} (h : OpR X f r) (k : ∀ x y H Q, r' x y H Q → r x y H Q) : OpR X f r' := fun pins s σ H x y v u Q I rx ry q => h pins s σ H x y v u Q I rx ry (k x y H Q q)
theorem _root_.L2.CallR.imp {f : Value} {r r' : List V → Hp → VK → Prop} (h : CallR X f r) (k : ∀ vs H Q, r' vs H Q → r vs H Q) : CallR X f r' := fun pins s σ H vs us Q I rv q => h pins s σ H vs us Q I rv (k vs H Q q)
end
def aVar (i : Nat) : ATE := fun env L Q => match env[i]? with
  | some (some d) => Q d L
  | _ => False
def aC (d : D) : ATE := fun _ L Q => Q d L
def aOp (f : D → D → Store → AQ → Prop) (a b : ATE) : ATE := fun env L Q => a env L fun d L1 => b env L1 fun e L2 => f d e L2 Q
def aUn (f : D → Store → AQ → Prop) (a : ATE) : ATE := fun env L Q => a env L fun d L1 => f d L1 Q
def aNil : ATA := fun _ L Q => Q [] L
def aCons (a : ATE) (as : ATA) : ATA := fun env L Q => a env L fun d L1 => as env L1 fun ds L2 => Q (d :: ds) L2
def aTup (as : ATA) : ATE := fun env L Q => as env L fun ds L1 => ds.length ≤ sizeLine ∧ Q (.tup ds) L1
def aLst (as : ATA) : ATE := fun env L Q => as env L fun ds L1 => ds.length ≤ sizeLine ∧ ∀ p, L1 p = none → Q (.ref p) (sput L1 p (.lst ds))
section
variable {X : Cx} {c : AC X.K} {H0 : Hp} {e f g : Expr} {es : List Expr} {a b : ATE} {as : ATA} {pos : Pos} {t u : ATT}
theorem ae_var {i : Nat} {x : Str} (hN : X.N[i]? = some x) (hv : Vis X.env.scope x) (hd : (x == ("__debug__" : Str)) = false := by decide) (hcd : (x == ("__classdict__" : Str)) = false := by decide) : AE X c H0 (.Name x pos) (aVar i) := by
  refine (pe_var hN hv hd hcd).imp fun σ H Q ⟨env, L, R, rl, h, pq⟩ => ?_
  unfold aVar at h
  split at h
  · rename_i d e
    obtain ⟨v, e1, r⟩ := rl.env.get i d e
    exact ⟨v, e1, pq.here h rl.good r⟩
  · exact h.elim
theorem ae_c {d : D} {v : V} (h : PE X e (tC v)) (r : ∀ H, Rep c H d v) : AE X c H0 e (aC d) := h.imp fun _ H _ ⟨_, _, _, rl, h, pq⟩ => pq.here h rl.good (r H)
theorem ae_int {i : Int} {j} : AE X c H0 (.Constant (.int i) j pos) (aC (.int i)) := ae_c pe_int fun _ => rep_int.mpr rfl
theorem ae_bl {i : Bool} {j} : AE X c H0 (.Constant (.bool i) j pos) (aC (.bl i)) := ae_c pe_bl fun _ => rep_bl.mpr rfl
theorem ae_non {j} : AE X c H0 (.Constant .none j pos) (aC .non) := ae_c pe_non fun _ => rep_non.mpr rfl
theorem ae_str {x : Str} {j} : AE X c H0 (.Constant (.str x) j pos) (aC (.str x)) := ae_c pe_str fun _ => rep_str.mpr rfl
def LowR2 {K : PySem.W.Frag} (c : AC K) (r : R2) (f : D → D → Store → AQ → Prop) : Prop := ∀ x y H Q d e L R, Rep c H d x → Rep c H e y → Good c L H → f d e L R → Pq c H R Q → r x y H Q
structure AOp (X : Cx) (c : AC X.K) (g : Value → Value → Sem Value) (f : D → D → Store → AQ → Prop) : Prop where
  ex : ∃ r, OpR X g r ∧ LowR2 c r f
theorem low_op {r : R2} {f : D → D → Store → AQ → Prop} (h : LowR2 c r f) {σ : L2.St} {H : Hp} {Q : VK} (q : lowE c H0 (aOp f a b) σ H Q) : tOp r (lowE c H0 a) (lowE c H0 b) σ H Q := by
  obtain ⟨env, L, R, rl, ha, pq⟩ := q
  refine ⟨env, L, _, rl, ha, fun d L1 x H1 hb s1 g1 r1 => ?_⟩
  refine ⟨env, L1, _, rl.step s1 g1, hb, fun e L2 y H2 hf s2 g2 r2 => ?_⟩
  exact h x y H2 Q d e L2 R (r1.fr s2) r2 g2 hf (pq.fr (s1.trans s2))
theorem ae_op {op : Operator} {f' : D → D → Store → AQ → Prop} (h : AOp X c (binaryOp op) f') (ha : AE X c H0 e a) (hb : AE X c H0 f b) : AE X c H0 (.BinOp e op f pos) (aOp f' a b) := by
  obtain ⟨r, h1, h2⟩ := h.ex
  exact (pe_op h1 ha hb).imp fun _ _ _ q => low_op h2 q
theorem ae_cmp {op : CmpOp} {f' : D → D → Store → AQ → Prop} (h : AOp X c (compareOp op) f') (ha : AE X c H0 e a) (hb : AE X c H0 f b) (hm : behindInMarks op f = false) : AE X c H0 (.Compare e [op] [f] pos) (aOp f' a b) := by
  obtain ⟨r, h1, h2⟩ := h.ex
  exact (pe_cmpR h1 ha hb hm).imp fun _ _ _ q => low_op h2 q
theorem ae_un {op : UnaryOp} {r : V → Hp → VK → Prop} {f' : D → Store → AQ → Prop} (h : UnR X (unaryOp op) r) (k : ∀ x H Q d L R, Rep c H d x → Good c L H → f' d L R → Pq c H R Q → r x H Q) (ha : AE X c H0 e a) : AE X c H0 (.UnaryOp op e pos) (aUn f' a) :=
  (pe_un h ha).imp fun σ H Q ⟨env, L, R, rl, ha, pq⟩ => ⟨env, L, _, rl, ha, fun d L1 x H1 hf s1 g1 r1 => k x H1 Q d L1 R r1 g1 hf (pq.fr s1)⟩
theorem aa_nil : AA X c H0 [] aNil := pa_nil.imp fun _ H _ ⟨_, _, _, rl, h, pq⟩ => pq _ _ _ _ h (.refl c H) rl.good RepL.nil
theorem aa_cons (ha : AE X c H0 e a) (hr : AA X c H0 es as) (hs : starEach (e :: es) X.env = (false, eval e X.env) :: starEach es X.env := by rfl) : AA X c H0 (e :: es) (aCons a as) := by
  refine (pa_cons ha hr hs).imp fun σ H Q ⟨env, L, R, rl, h, pq⟩ => ?_
  refine ⟨env, L, _, rl, h, fun d L1 x H1 hb s1 g1 r1 => ?_⟩
  exact ⟨env, L1, _, rl.step s1 g1, hb, fun ds L2 xs H2 q s2 g2 r2 => pq _ _ _ _ q (s1.trans s2) g2 (RepL.cons (r1.fr s2) r2)⟩
theorem ae_tup {x1} (h : AA X c H0 es as) : AE X c H0 (.Tuple es x1 pos) (aTup as) := by
  refine (pe_tup h).imp fun σ H Q ⟨env, L, R, rl, h, pq⟩ => ?_
  refine ⟨env, L, _, rl, h, fun ds L1 xs H1 ⟨hz, q⟩ s1 g1 r1 => ⟨by rw [r1.len]; exact hz, fun p hp => ?_⟩⟩
  exact (pq.fr s1).new hp q g1 (rep_tup.mpr ⟨p, xs, rfl, SqT.of upd_same, r1.fr (.new hp)⟩)
theorem ae_lst (h : AA X c H0 es as) : AE X c H0 (.List es pos) (aLst as) := by
  refine (pe_lst h).imp fun σ H Q ⟨env, L, R, rl, h, pq⟩ => ?_
  refine ⟨env, L, _, rl, h, fun ds L1 xs H1 ⟨hz, q⟩ s1 g1 r1 => ⟨by rw [r1.len]; exact hz, fun p hp => ?_⟩⟩
  exact (pq.fr s1).alloc hp (q p (g1.fresh hp)) g1 ⟨xs, upd_same, r1.fr (.new hp)⟩
end
theorem RepL.isEmpty {K : PySem.W.Frag} {c : AC K} {H : Hp} {l : List D} {vs : List V} (h : RepL c H l vs) : vs.isEmpty = l.isEmpty := by
  have := h.len
  cases l <;> cases vs <;> simp_all
def blD : D → (Bool → Prop) → Prop
  | .bl b, Q => Q b
  | _, _ => False
def aBl (a : ATE) : ATT := fun env L Q => a env L fun d L1 => blD d fun b => Q b L1
def aOr (t u : ATT) : ATT := fun env L Q => t env L fun k L1 => if k = true then Q true L1 else u env L1 Q
def aNot (t : ATT) : ATT := fun env L Q => t env L fun k L1 => Q (!k) L1
section
variable {X : Cx} {c : AC X.K} {H0 : Hp} {e f g : Expr} {es : List Expr} {a b a' : ATE} {as : ATA} {pos : Pos} {t u : ATT}
theorem bl_low {K : PySem.W.Frag} {c : AC K} {H : Hp} {d : D} {v : V} {R : Bool → Prop} (r : Rep c H d v) (h : blD d R) : ∃ k, v = .bl k ∧ R k := by
  cases d with
  | bl b => exact ⟨b, rep_bl.mp r, h⟩
  | _ => exact h.elim
theorem at_bl (ha : AE X c H0 e a) (he : ∀ whole, isTrue e X.env whole = (do let v ← whole; standAt e.pos; holding [v] (truthy v)) := by intro _; rfl) : AT X c H0 e (aBl a) := by
  refine (pt_val ha he).imp fun σ H Q ⟨env, L, R, rl, h, pq⟩ => ?_
  refine ⟨env, L, _, rl, h, fun d L1 x H1 q s1 g1 r1 => ?_⟩
  obtain ⟨k, e1, e2⟩ := bl_low (R := fun b => R b L1) r1 q
  exact ⟨k, e1, pq k L1 H1 e2 s1 g1⟩
theorem low_test {t : TE} {σ : L2.St} {H : Hp} {Q : Bool → Hp → Prop} (k : ∀ σ H Q, lowE c H0 a σ H Q → t σ H Q) (q : lowT c H0 (aBl a) σ H Q) : tTest t σ H Q := by
  obtain ⟨env, L, R, rl, h, pq⟩ := q
  refine k _ _ _ ⟨env, L, _, rl, h, fun d L1 x H1 q s1 g1 r1 => ?_⟩
  obtain ⟨k, e1, e2⟩ := bl_low (R := fun b => R b L1) r1 q
  exact ⟨k, e1, pq k L1 H1 e2 s1 g1⟩
theorem at_cmp {op : CmpOp} {f' : D → D → Store → AQ → Prop} (h : AOp X c (compareOp op) f') (ha : AE X c H0 e a) (hb : AE X c H0 f b) (hm : behindInMarks op f = false) : AT X c H0 (.Compare e [op] [f] pos) (aBl (aOp f' a b)) := by
  obtain ⟨r, h1, h2⟩ := h.ex
  exact (pt_cmpR h1 ha hb hm).imp fun _ _ _ q => low_test (fun _ _ _ z => low_op h2 z) q
theorem AW.pt (h : AW X c H0 e t) : AT X c H0 e t := PW.pt h
theorem aw_or1 (h : AT X c H0 e t) : AW X c H0 (.BoolOp .Or [e] pos) t := pw_or1 h
theorem aw_or (ha : AT X c H0 e t) (hb : AW X c H0 (.BoolOp .Or (f :: es) pos) u) : AW X c H0 (.BoolOp .Or (e :: f :: es) pos) (aOr t u) := by
  refine (pw_or ha hb).imp fun σ H Q ⟨env, L, R, rl, h, pq⟩ => ?_
  refine ⟨env, L, _, rl, h, fun k L1 H1 q s1 g1 => ?_⟩
  cases k with
  | true => exact pq _ _ _ q s1 g1
  | false => exact ⟨env, L1, R, rl.step s1 g1, q, fun b L' H' r s => pq b L' H' r (s1.trans s)⟩
theorem at_not (ha : AT X c H0 e t) : AT X c H0 (.UnaryOp .Not e pos) (aNot t) := by
  refine (pt_not ha).imp fun σ H Q ⟨env, L, R, rl, h, pq⟩ => ?_
  exact ⟨env, L, _, rl, h, fun k L1 H1 q s1 g1 => pq _ _ _ q s1 g1⟩
end
def aSeq (a b : ATS) : ATS := fun D env L => a { D with nx := b D } env L
def aNext : ATS := fun D env L => D.nx env L
def aRet (a : ATE) : ATS := fun D env L => a env L D.rt
def aIfS (t : ATT) (a b : ATS) : ATS := fun D env L => t env L fun k L1 => if k = true then a D env L1 else b D env L1
def aAsg (a : ATE) (g : ATG) : ATS := fun D env L => a env L fun d L1 => g d env L1 D.nx
def agName (i : Nat) : ATG := fun d env L Q => Q (env.set i (some d)) L
def agNil : ATGs := fun ds env L Q => ds = [] ∧ Q env L
def agCons (g : ATG) (gs : ATGs) : ATGs := fun ds env L Q => match ds with
  | d :: r => g d env L fun env1 L1 => gs r env1 L1 Q
  | [] => False
def agTup (gs : ATGs) : ATG := fun d env L Q => match d with
  | .tup l => gs l env L Q
  | _ => False
def loopA (g : ATG) (b : ATS) (N : AEnds) (G : Store → Prop) : List D → En → Store → Prop
  | [], env, L => G L ∧ N.nx env L
  | d :: ds, env, L => G L ∧ g d env L fun env1 L1 => b { N with nx := loopA g b N G ds, ct := loopA g b N G ds, bk := N.nx } env1 L1
def aFor (ai : ATI) (g : ATG) (b : ATS) : ATS := fun D env L => ai env L fun items G L1 => loopA g b D G items env L1
section
variable {X : Cx} {c : AC X.K} {H0 : Hp} {e f tg : Expr} {es tgs : List Expr} {a b a' : ATE} {pos : Pos} {t : ATT} {st : Stmt} {rest sts sts' : List Stmt} {s1 s2 : ATS} {g : ATG} {gs : ATGs}
theorem as_nil : ASs X c H0 [] aNext := pss_nil.imp fun D σ H ⟨env, L, R, rl, h, er⟩ => er.nx env L σ H h (.refl c H) rl
theorem as_cons (h1 : AS X c H0 st s1) (h2 : ASs X c H0 rest s2) : ASs X c H0 (st :: rest) (aSeq s1 s2) := by
  refine (pss_cons h1 h2).imp fun D σ H ⟨env, L, R, rl, h, er⟩ => ?_
  exact ⟨env, L, _, rl, h, ⟨fun env' L' σ' H' r s rl' => ⟨env', L', R, rl', r, er.fr s⟩, er.rt, er.bk, er.ct⟩⟩
theorem as_one (h1 : AS X c H0 st s1) : ASs X c H0 [st] s1 := pss_one h1
theorem as_ret (he : AE X c H0 e a) : AS X c H0 (.Return (some e) pos) (aRet a) := by
  refine (ps_ret he).imp fun D σ H ⟨env, L, R, rl, h, er⟩ => ?_
  exact ⟨env, L, _, rl, h, fun d L1 v H1 q s g r => er.rt d L1 v H1 q s g r⟩
theorem as_if (hc : AT X c H0 e t) (ha : ASs X c H0 sts s1) (hb : ASs X c H0 sts' s2) : AS X c H0 (.If e sts sts' pos) (aIfS t s1 s2) := by
  refine (ps_if hc ha hb).imp fun D σ H ⟨env, L, R, rl, h, er⟩ => ?_
  refine ⟨env, L, _, rl, h, fun k L1 H1 q s g => ?_⟩
  cases k with
  | true => exact ⟨env, L1, R, rl.step s g, q, er.fr s⟩
  | false => exact ⟨env, L1, R, rl.step s g, q, er.fr s⟩
theorem ag_name {i : Nat} {x : Str} (hN : X.N.Nodup) (hi : X.N[i]? = some x) (hx : Loc X.env.scope x) (hf : X.fn x = true ∨ X.env.scope.names.lookup x = some .local := by first | exact .inl rfl | exact .inr rfl | assumption) : AG X c H0 (.Name x pos) (agName i) := by
  refine (pg_name hN hi hx hf).imp fun v σ H Q ⟨d, env, L, R, r, rl, h, pq⟩ => ?_
  exact pq _ L _ H h (.refl c H) ⟨rl.env.set i r, rl.good, rl.fr⟩
theorem ags_nil : AGs X c H0 [] agNil := pgs_nil.imp fun vs σ H Q ⟨ds, env, L, R, r, rl, h, pq⟩ => by
  obtain ⟨rfl, h⟩ := h
  exact ⟨repL_nil.mp r, pq _ L _ H h (.refl c H) rl⟩
theorem ags_cons (h1 : AG X c H0 tg g) (h2 : AGs X c H0 tgs gs) (hs : (assignEach (tg :: tgs) X.env).map (·.2) = assign tg X.env :: (assignEach tgs X.env).map (·.2) := by rfl) : AGs X c H0 (tg :: tgs) (agCons g gs) := by
  refine (pgs_cons h1 h2 hs).imp fun vs σ H Q ⟨ds, env, L, R, r, rl, h, pq⟩ => ?_
  cases ds with
  | nil => exact h.elim
  | cons d ds =>
    obtain ⟨v, rs, rfl, r1, r2⟩ := repL_cons.mp r
    exact ⟨v, rs, rfl, d, env, L, _, r1, rl, h, fun env' L' σ' H' q s rl' => ⟨ds, env', L', R, r2.fr s, rl', q, fun env2 L2 σ2 H2 q2 s2 => pq env2 L2 σ2 H2 q2 (s.trans s2)⟩⟩
theorem ag_tup {k : Nat} {n : Nat} (hc : X.calm = true) (h : AGs X c H0 tgs gs) (hl : ∀ ds env L R, gs ds env L R → ds.length = n) (hn : (assignEach tgs X.env).length = n := by rfl) (hst : (assignEach tgs X.env).findIdx? (·.1) = none := by rfl) : AG X c H0 (.Tuple tgs k pos) (agTup gs) := by
  refine (pg_tup hc h hn hst).imp fun v σ H Q ⟨d, env, L, R, r, rl, h, pq⟩ => ?_
  cases d with
  | tup l =>
    obtain ⟨p, vs, rfl, e, rs⟩ := rep_tup.mp r
    exact ⟨p, vs, rfl, e, by rw [rs.len]; exact hl l env L R h, l, env, L, R, rs, rl, h, pq⟩
  | _ => exact h.elim
theorem as_asg (he : AE X c H0 e a) (hg : AG X c H0 tg g) (hs : swapsWithSole [tg] e pos.line X.env = pure false := by rfl) (hw : swappedStores [tg] e X.env = pure none := by rfl)
    (h1 : (assignEach [tg] X.env).map (·.2) = [assign tg X.env] := by rfl) : AS X c H0 (.Assign [tg] e pos) (aAsg a g) := by
  refine (ps_asg he hg hs hw h1).imp fun D σ H ⟨env, L, R, rl, h, er⟩ => ?_
  exact ⟨env, L, _, rl, h, fun d L1 v H1 q s g1 r => ⟨d, env, L1, _, r, rl.step s g1, q, fun env' L' σ' H' q s' rl' => er.nx env' L' σ' H' q (s.trans s') rl'⟩⟩
theorem as_set {i : Nat} {x : Str} {pos' : Pos} (hN : X.N.Nodup) (hi : X.N[i]? = some x) (hx : Loc X.env.scope x) (he : AE X c H0 e a) (hs : swapsWith e (some (.Name x pos')) pos.line X.env = pure false := by rfl)
    (hf : X.fn x = true ∨ X.env.scope.names.lookup x = some .local := by first | exact .inl rfl | exact .inr rfl | assumption) : AS X c H0 (.Assign [.Name x pos'] e pos) (aAsg a (agName i)) := by
  refine (ps_set hN hi hx he hs hf).imp fun D σ H ⟨env, L, R, rl, h, er⟩ => ?_
  exact ⟨env, L, _, rl, h, fun d L1 v H1 q s g1 r => er.nx _ L1 _ H1 q s ⟨(rl.env.fr s).set i r, g1, rl.fr.trans s⟩⟩
def aPar (i j : Nat) (as : ATA) : ATS := fun D env L => as env L fun ds L1 => match ds with
  | [d, e] => D.nx ((env.set i (some d)).set j (some e)) L1
  | _ => False
theorem as_par {i j : Nat} {x y : Str} {as : ATA} {px py pt : Pos} {kt k2 pt2} (hc : X.calm = true) (hN : X.N.Nodup) (hi : X.N[i]? = some x) (hj : X.N[j]? = some y) (hij : i ≠ j)
    (hx : X.env.scope.names.lookup x = some .local) (hy : X.env.scope.names.lookup y = some .local) (ha : AA X c H0 [e, f] as)
    (hw : swappedStores [.Tuple [.Name x px, .Name y py] kt pt] (.Tuple [e, f] k2 pt2) X.env = pure (some [x, y]))
    (hs : swapsWithSole [.Tuple [.Name x px, .Name y py] kt pt] (.Tuple [e, f] k2 pt2) pos.line X.env = pure false := by rfl) :
    AS X c H0 (.Assign [.Tuple [.Name x px, .Name y py] kt pt] (.Tuple [e, f] k2 pt2) pos) (aPar i j as) := by
  refine (ps_par hc hN hi hj hij hx hy ha hw hs).imp fun D σ H ⟨env, L, R, rl, h, er⟩ => ?_
  refine ⟨env, L, _, rl, h, fun ds L1 vs H1 q s g1 r => ?_⟩
  match ds, q, r with
  | [d1, d2], q, r =>
    obtain ⟨v, rs, rfl, r1, r2⟩ := repL_cons.mp r
    obtain ⟨w, rs2, rfl, r3, r4⟩ := repL_cons.mp r2
    cases repL_nil.mp r4
    exact ⟨v, w, rfl, er.nx _ L1 _ H1 q s ⟨((rl.env.fr s).set i r1).set j r3, g1, rl.fr.trans s⟩⟩
  | [], q, _ => exact q.elim
  | [_], q, _ => exact q.elim
  | _ :: _ :: _ :: _, q, _ => exact q.elim
theorem as_for {iter : Expr} {ai : ATI} (hp : PassesOwn (model X.prog X.w) X.A X.env X.xe) (hc : X.calm = true) (hi : AI X c H0 tg iter ai) (hg : AG X c H0 tg g) (hb : ASs X c H0 sts s1)
    (hs : ∀ x, foldedSetIterable iter X.env x = pure x := by intro _; rfl) : AS X c H0 (.For tg iter sts [] pos) (aFor ai g s1) := by
  refine (ps_for hp hc hi hg hb hs).imp fun D σ H ⟨env, L, R, rl, h, er⟩ => ?_
  refine ⟨env, L, _, rl, h, fun items G L1 J H1 q s g1 wa => ?_⟩
  obtain ⟨GH, wk, hG⟩ := wa.ex
  have hd : ∀ {i : Nat}, i < items.length → ∃ d, items[i]? = some d ∧ items.drop i = d :: items.drop (i + 1) := fun {i} hi => ⟨items[i], List.getElem?_eq_getElem hi, List.drop_eq_getElem_cons hi⟩
  have hGl : ∀ {ds : List AL.D} {env' : En} {L' : Store}, loopA g s1 R G ds env' L' → G L' := fun {ds env' L'} z => by
    cases ds with
    | nil => exact z.1
    | cons d ds => exact z.1
  refine for_it wk (fun i σ' H' => Fr c H1 H' ∧ ∃ env' L', Rl c H0 σ' H' env' L' ∧ loopA g s1 R G (items.drop i) env' L') ⟨.refl c H1, env, L1, rl.step s g1, q⟩ (fun i σ' H' _ ⟨f, env', L', rl', z⟩ => hG L' H' f rl'.good (hGl z)) ?_ ?_
  · rintro i x σ' H2 H3 hi ⟨f, env', L', rl', z⟩ ⟨s2, k2, d, e1, r⟩
    obtain ⟨d', e2, e3⟩ := hd hi
    rw [e1] at e2
    cases e2
    rw [e3] at z
    refine ⟨d, env', L', _, r, rl'.step s2 (k2 L' rl'.good), z.2, fun env2 L2 σ2 H4 q2 s3 rl2 => ?_⟩
    refine ⟨env2, L2, _, rl2, q2, ⟨fun env3 L3 σ3 H5 q3 s4 rl3 => ⟨((f.trans s2).trans s3).trans s4, env3, L3, rl3, q3⟩, fun d L' v H' q' s' => er.rt d L' v H' q' ((((s.trans f).trans s2).trans s3).trans s'), fun env' L' σ' H' q' s' rl' => er.nx env' L' σ' H' q' ((((s.trans f).trans s2).trans s3).trans s') rl', fun env3 L3 σ3 H5 q3 s4 rl3 => ⟨((f.trans s2).trans s3).trans s4, env3, L3, rl3, q3⟩⟩⟩
  · rintro σ' H2 ⟨f, env', L', rl', z⟩
    rw [List.drop_length] at z
    exact er.nx env' L' σ' H2 z.2 (s.trans f) rl'
end
end AL
namespace AL
open PySem PySem.Spec PyProof.Rows L2 LamX JW
theorem AOp.mk' {X : Cx} {c : AC X.K} {g : Value → Value → Sem Value} {f : D → D → Store → AQ → Prop} {r : R2} (h : OpR X g r) (k : LowR2 c r f) : AOp X c g f := ⟨r, h, k⟩
def addD : D → D → Store → AQ → Prop
  | .int i, .int j, L, Q => Q (.int (i + j)) L
  | .int i, .bl k, L, Q => Q (.int (i + b2i k)) L
  | .str a, .str b, L, Q => a.length + b.length ≤ sizeLine ∧ Q (.str (a ++ b)) L
  | .tup a, .tup b, L, Q => a.length + b.length ≤ sizeLine ∧ Q (.tup (a ++ b)) L
  | .ref p, .ref q, L, Q => ∃ xs ys, L p = some (.lst xs) ∧ L q = some (.lst ys) ∧ xs.length + ys.length ≤ sizeLine ∧ ∀ r, L r = none → Q (.ref r) (sput L r (.lst (xs ++ ys)))
  | _, _, _, _ => False
def subD : D → D → Store → AQ → Prop
  | .int i, .int j, L, Q => Q (.int (i - j)) L
  | _, _, _, _ => False
def MulOk (i j : Int) : Prop := CMul i j ∨ CMulW i j
def mulD : D → D → Store → AQ → Prop
  | .int i, .int j, L, Q => MulOk i j ∧ Q (.int (i * j)) L
  | .ref p, .int k, L, Q => ∃ xs, L p = some (.lst xs) ∧ -(2 ^ 63) ≤ k ∧ k < 2 ^ 63 ∧ xs.length * k.toNat ≤ sizeLine ∧ ∀ r, L r = none → Q (.ref r) (sput L r (.lst (List.replicate k.toNat xs).flatten))
  | .str z, .int k, L, Q => ∃ (c n : Nat), z = SX.S [c] ∧ k = n ∧ 1 ≤ n ∧ n ≤ 100000 ∧ Q (.str (SX.S (List.replicate n c))) L
  | _, _, _, _ => False
def powD : D → D → Store → AQ → Prop
  | .int i, .int j, L, Q => CPow i j ∧ Q (.int (i ^ j.toNat)) L
  | _, _, _, _ => False
section
variable {K : PySem.W.Frag} {c : AC K} {H : Hp} {L : Store}
theorem good_lst (g : Good c L H) {p : Addr} {l : List D} (e : L p = some (.lst l)) : ∃ vs, H p = some (.lst vs) ∧ RepL c H l vs := g.st p _ e
end
section
variable {X : Cx} {c : AC X.K}
theorem aop_add : AOp X c (binaryOp .Add) addD := by
  refine .mk' ((op_add.or op_add_ib).or (op_add_str.or (op_catA.or op_cat))) fun x y H Q d e L R rx ry g h pq => ?_
  unfold addD at h
  split at h
  · rename_i i j
    exact .inl (.inl ⟨i, j, rep_int.mp rx, rep_int.mp ry, pq.here h g (rep_int.mpr rfl)⟩)
  · rename_i i j
    exact .inl (.inr ⟨i, j, rep_int.mp rx, rep_bl.mp ry, pq.here h g (rep_int.mpr rfl)⟩)
  · rename_i a b
    exact .inr (.inl ⟨a, b, rep_str.mp rx, rep_str.mp ry, h.1, pq.here h.2 g (rep_str.mpr rfl)⟩)
  · rename_i a b
    obtain ⟨hz, h⟩ := h
    obtain ⟨p, vs, rfl, e1, r1⟩ := rep_tup.mp rx
    obtain ⟨q, ws, rfl, e2, r2⟩ := rep_tup.mp ry
    refine .inr (.inr (.inl ⟨p, q, vs, ws, rfl, rfl, e1, e2, by rw [r1.len, r2.len]; exact hz, fun z => ?_, fun _ z => ?_, fun _ _ r hr => ?_⟩))
    · subst z
      have : a = [] := List.eq_nil_of_length_eq_zero (by rw [← r1.len]; rfl)
      subst this
      exact pq.here h g (rep_tup.mpr ⟨q, ws, rfl, e2, r2⟩)
    · subst z
      have : b = [] := List.eq_nil_of_length_eq_zero (by rw [← r2.len]; rfl)
      subst this
      rw [List.append_nil] at h
      exact pq.here h g (rep_tup.mpr ⟨p, vs, rfl, e1, r1⟩)
    · exact pq.new hr h g (rep_tup.mpr ⟨r, _, rfl, SqT.of upd_same, (r1.app r2).fr (.new hr)⟩)
  · rename_i p q
    obtain ⟨xs, ys, h1, h2, hz, h⟩ := h
    obtain ⟨vs, e1, r1⟩ := good_lst g h1
    obtain ⟨ws, e2, r2⟩ := good_lst g h2
    cases rep_ref.mp rx
    cases rep_ref.mp ry
    exact .inr (.inr (.inr ⟨p, q, vs, ws, rfl, rfl, e1, e2, by rw [r1.len, r2.len]; exact hz, fun r hr => pq.alloc hr (h r (g.fresh hr)) g ⟨_, upd_same, (r1.app r2).fr (.new hr)⟩⟩))
  · exact h.elim
theorem aop_sub : AOp X c (binaryOp .Sub) subD := by
  refine .mk' op_sub fun x y H Q d e L R rx ry g h pq => ?_
  unfold subD at h
  split at h
  · rename_i i j
    exact ⟨i, j, rep_int.mp rx, rep_int.mp ry, pq.here h g (rep_int.mpr rfl)⟩
  · exact h.elim
theorem aop_mul : AOp X c (binaryOp .Mult) mulD := by
  refine .mk' ((op_mul.or op_mulW).or (op_rep.or op_rep_str)) fun x y H Q d e L R rx ry g h pq => ?_
  unfold mulD at h
  split at h
  · rename_i i j
    obtain ⟨k, h⟩ := h
    rcases k with k | k
    · exact .inl (.inl ⟨i, j, rep_int.mp rx, rep_int.mp ry, k, pq.here h g (rep_int.mpr rfl)⟩)
    · exact .inl (.inr ⟨i, j, rep_int.mp rx, rep_int.mp ry, k, pq.here h g (rep_int.mpr rfl)⟩)
  · rename_i p k
    obtain ⟨xs, h1, k1, k2, hz, h⟩ := h
    obtain ⟨vs, e1, r1⟩ := good_lst g h1
    cases rep_ref.mp rx
    refine .inr (.inl ⟨p, k, vs, rfl, rep_int.mp ry, e1, k1, k2, by rw [r1.len]; exact hz, fun r hr => pq.alloc hr (h r (g.fresh hr)) g ⟨_, upd_same, ?_⟩⟩)
    have : ∀ n : Nat, RepL c (upd H r (.lst (List.replicate k.toNat vs).flatten)) (List.replicate n xs).flatten (List.replicate n vs).flatten := fun n => by
      induction n with
      | zero => exact RepL.nil
      | succ n ih =>
        rw [List.replicate_succ, List.replicate_succ, List.flatten_cons, List.flatten_cons]
        exact (r1.fr (.new hr)).app ih
    exact this _
  · rename_i z k
    obtain ⟨a, n, h1, h2, h3, h4, h⟩ := h
    subst h1 h2
    exact .inr (.inr ⟨a, n, rep_str.mp rx, rep_int.mp ry, h3, h4, pq.here h g (rep_str.mpr rfl)⟩)
  · exact h.elim
theorem aop_pow : AOp X c (binaryOp .Pow) powD := by
  refine .mk' op_pow fun x y H Q d e L R rx ry g h pq => ?_
  unfold powD at h
  split at h
  · rename_i i j
    exact ⟨i, j, rep_int.mp rx, rep_int.mp ry, h.1, pq.here h.2 g (rep_int.mpr rfl)⟩
  · exact h.elim
end
mutual
def pyF : D → Option PyData
  | .non => some .none
  | .bl b => some (.bool b)
  | .int i => some (.int i)
  | .str s => some (.str s)
  | .tup l => (pyFL l).map .tuple
  | _ => none
def pyFL : List D → Option (List PyData)
  | [] => some []
  | d :: ds => match pyF d, pyFL ds with
    | some x, some xs => some (x :: xs)
    | _, _ => none
end
def pyT (L : Store) : D → Option PyData
  | .ref p => match L p with
    | some (.lst l) => (pyFL l).map .list
    | _ => none
  | d => pyF d
section
variable {K : PySem.W.Frag} {c : AC K} {H : Hp} {L : Store}
mutual
theorem dp_of : ∀ (d : D) (v : V) (x : PyData), Rep c H d v → pyF d = some x → Dp K H v x
  | .non, v, x, r, e => by
    cases rep_non.mp r
    simp only [pyF, Option.some.injEq] at e
    subst e
    exact .non
  | .bl b, v, x, r, e => by
    cases rep_bl.mp r
    simp only [pyF, Option.some.injEq] at e
    subst e
    exact .bl b
  | .int i, v, x, r, e => by
    cases rep_int.mp r
    simp only [pyF, Option.some.injEq] at e
    subst e
    exact .int i
  | .str z, v, x, r, e => by
    cases rep_str.mp r
    simp only [pyF, Option.some.injEq] at e
    subst e
    exact .str z
  | .tup l, v, x, r, e => by
    obtain ⟨a, vs, rfl, e1, rs⟩ := rep_tup.mp r
    simp only [pyF, Option.map_eq_some_iff] at e
    obtain ⟨xs, e2, rfl⟩ := e
    exact .tup (e1) (dpL_of l vs xs rs e2)
  | .ref _, v, x, r, e => by simp [pyF] at e
  | .ty _, v, x, r, e => by simp [pyF] at e
  | .scr, v, x, r, e => by simp [pyF] at e
  | .tree _, v, x, r, e => by simp [pyF] at e
  | .obj _ _ _, v, x, r, e => by simp [pyF] at e
  | .err _ _ _, v, x, r, e => by simp [pyF] at e
theorem dpL_of : ∀ (l : List D) (vs : List V) (xs : List PyData), RepL c H l vs → pyFL l = some xs → DpAll K H vs xs
  | [], vs, xs, r, e => by
    cases repL_nil.mp r
    simp only [pyFL, Option.some.injEq] at e
    subst e
    exact .nil
  | d :: ds, vs, xs, r, e => by
    obtain ⟨v, ws, rfl, r1, r2⟩ := repL_cons.mp r
    simp only [pyFL] at e
    split at e
    · rename_i x ys e1 e2
      simp only [Option.some.injEq] at e
      subst e
      exact .cons (dp_of d v x r1 e1) (dpL_of ds ws ys r2 e2)
    · cases e
end
theorem dpT_of (g : Good c L H) {d : D} {v : V} {x : PyData} (r : Rep c H d v) (e : pyT L d = some x) : Dp K H v x := by
  cases d with
  | ref p =>
    cases rep_ref.mp r
    unfold pyT at e
    simp only at e
    split at e
    · rename_i l e1
      obtain ⟨vs, e2, rs⟩ := good_lst g e1
      obtain ⟨xs, e3, rfl⟩ := Option.map_eq_some_iff.mp e
      exact .lst (SqL.of e2) (dpL_of l vs xs rs e3)
    · cases e
  | _ => exact dp_of _ v x r e
end
def eqX (neg : Bool) (d e : D) (L : Store) (Q : AQ) : Prop := ∃ x y, pyT L d = some x ∧ pyT L e = some y ∧ SeqAt.shaped x = true ∧ SeqAt.shaped y = true ∧ Q (.bl (neg ^^ PyData.eqv x y)) L
def eqD (neg : Bool) : D → D → Store → AQ → Prop
  | .int i, .int j, L, Q => Q (.bl (neg ^^ decide (i = j))) L
  | .str i, .str j, L, Q => Q (.bl (neg ^^ decide (i = j))) L
  | .bl i, .bl j, L, Q => Q (.bl (neg ^^ decide (i = j))) L
  | .tree t, .tree u, L, Q => Q (.bl (neg ^^ decide (t = u))) L
  | d, e, L, Q => eqX neg d e L Q
def spEqF (K : PySem.W.Frag) : Sp := fun vs H Q _ => ∃ x y t u, vs = [x, y] ∧ Ftn (cF K) H t x ∧ Ftn (cF K) H u y ∧ Q (.bl (decide (t = u))) H
section
variable {X : Cx} {c : AC X.K} {CX : CXT} {k : Nat} {ps : List Str} {E : XK}
theorem eq_low {neg : Bool} {rS rD rO : R2} (hS : ∀ x y H Q, scal x y = true → Q (.bl (neg ^^ decide (x = y))) H → rS x y H Q)
    (hD : ∀ x y H Q d e, Dp X.K H x d → Dp X.K H y e → SeqAt.shaped d = true → SeqAt.shaped e = true → Q (.bl (neg ^^ PyData.eqv d e)) H → rD x y H Q)
    (hO : ∀ x y H Q t u, Ftn (cF X.K) H t x → Ftn (cF X.K) H u y → Q (.bl (neg ^^ decide (t = u))) H → rO x y H Q) : LowR2 c (fun x y H Q => rS x y H Q ∨ (rD x y H Q ∨ rO x y H Q)) (eqD neg) := by
  intro x y H Q d e L R rx ry g h pq
  have gen : eqX neg d e L R → (rS x y H Q ∨ (rD x y H Q ∨ rO x y H Q)) := fun ⟨a, b, e1, e2, s1, s2, q⟩ =>
    .inr (.inl (hD x y H Q a b (dpT_of g rx e1) (dpT_of g ry e2) s1 s2 (pq.here q g (rep_bl.mpr rfl))))
  unfold eqD at h
  split at h
  · rename_i i j
    cases rep_int.mp rx
    cases rep_int.mp ry
    refine .inl (hS _ _ H Q rfl ?_)
    have : decide (V.int i = V.int j) = decide (i = j) := by
      by_cases z : i = j
      · subst z; simp
      · rw [decide_eq_false z, decide_eq_false fun q => z (V.int.inj q)]
    rw [this]
    exact pq.here h g (rep_bl.mpr rfl)
  · rename_i i j
    cases rep_str.mp rx
    cases rep_str.mp ry
    refine .inl (hS _ _ H Q rfl ?_)
    have : decide (V.str i = V.str j) = decide (i = j) := by
      by_cases z : i = j
      · subst z; simp
      · rw [decide_eq_false z, decide_eq_false fun q => z (V.str.inj q)]
    rw [this]
    exact pq.here h g (rep_bl.mpr rfl)
  · rename_i i j
    cases rep_bl.mp rx
    cases rep_bl.mp ry
    refine .inl (hS _ _ H Q rfl ?_)
    have : decide (V.bl i = V.bl j) = decide (i = j) := by
      by_cases z : i = j
      · subst z; simp
      · rw [decide_eq_false z, decide_eq_false fun q => z (V.bl.inj q)]
    rw [this]
    exact pq.here h g (rep_bl.mpr rfl)
  · rename_i t u
    exact .inr (.inr (hO x y H Q t u (rep_tree.mp rx) (rep_tree.mp ry) (pq.here h g (rep_bl.mpr rfl))))
  · exact gen h
theorem ftn_ins {H : Hp} {t : T} {x : V} (h : Ftn (cF X.K) H t x) : ∃ a dx fs, x = .ref a ∧ H a = some (.ins (cF X.K) dx fs) := by
  obtain ⟨a, dx, b, n, vs, rfl, h1, _⟩ := ftn_iff.mp h
  exact ⟨a, dx, _, rfl, h1⟩
theorem aop_eq (M : MethD X.prog X.w X.K X.mg X.base CX0 k (cF X.K) "__eq__" ps [] (spEqF X.K)) (hr : Room (k + 1) X.A) (hu : X.A.units + 64 < cLine) : AOp X c (compareOp .Eq) (eqD false) := by
  refine .mk' (op_eq.or ((op_eqD hu).or (op_own_eq (E := fun _ _ _ => True) M (hr.mono (Nat.le_succ k)) pass0))) (eq_low (fun x y H Q s q => ⟨s, by rw [Bool.false_xor] at q; exact q⟩) (fun x y H Q d e h1 h2 s1 s2 q => ⟨d, e, h1, h2, s1, s2, by rw [Bool.false_xor] at q; exact q⟩) fun x y H Q t u h1 h2 q => ?_)
  obtain ⟨a, dx, fs, rfl, e1⟩ := ftn_ins h1
  obtain ⟨b, dy, gs, rfl, e2⟩ := ftn_ins h2
  exact ⟨a, dx, fs, b, dy, gs, rfl, rfl, e1, e2, _, _, t, u, rfl, h1, h2, _, rfl, by rw [Bool.false_xor] at q; simpa using q⟩
theorem aop_ne (cl : ClsF X.K X.mg) (M : MethD X.prog X.w X.K X.mg X.base CX0 k (cF X.K) "__eq__" ps [] (spEqF X.K)) (hr : Room (k + 1) X.A) (hu : X.A.units + 64 < cLine) : AOp X c (compareOp .NotEq) (eqD true) := by
  refine .mk' (op_ne.or ((op_neD hu).or (op_own_ne (E := fun _ _ _ => True) cl.hne cl.hob M hr pass0))) (eq_low (fun x y H Q s q => ⟨s, by rw [Bool.true_xor] at q; exact q⟩) (fun x y H Q d e h1 h2 s1 s2 q => ⟨d, e, h1, h2, s1, s2, by rw [Bool.true_xor] at q; exact q⟩) fun x y H Q t u h1 h2 q => ?_)
  obtain ⟨a, dx, fs, rfl, e1⟩ := ftn_ins h1
  obtain ⟨b, dy, gs, rfl, e2⟩ := ftn_ins h2
  exact ⟨a, dx, fs, b, dy, gs, rfl, rfl, e1, e2, _, _, t, u, rfl, h1, h2, _, rfl, by rw [Bool.true_xor] at q; simpa using q⟩
end
def flatB : D → Bool
  | .non | .bl _ | .int _ | .str _ => true
  | _ => false
def vD : D → V
  | .bl b => .bl b
  | .int i => .int i
  | .str s => .str s
  | _ => .non
def inL (d : D) (l : List D) : Bool := l.any fun y => eqV (vD y) (vD d)
def inD (neg : Bool) : D → D → Store → AQ → Prop
  | .str a, .str b, L, Q => Q (.bl (neg ^^ !(Builtin.Str.occurrences b a 0 b.length 1).isEmpty)) L
  | d, .tup l, L, Q => flatB d = true ∧ l.all flatB = true ∧ Q (.bl (neg ^^ inL d l)) L
  | d, .ref p, L, Q => ∃ l, L p = some (.lst l) ∧ flatB d = true ∧ l.all flatB = true ∧ Q (.bl (neg ^^ inL d l)) L
  | _, _, _, _ => False
section
variable {K : PySem.W.Frag} {c : AC K} {H : Hp} {L : Store}
theorem flat_low {d : D} {v : V} (r : Rep c H d v) (h : flatB d = true) : v = vD d ∧ flatV v = true := by
  cases d with
  | non => cases rep_non.mp r; exact ⟨rfl, rfl⟩
  | bl b => cases rep_bl.mp r; exact ⟨rfl, rfl⟩
  | int i => cases rep_int.mp r; exact ⟨rfl, rfl⟩
  | str s => cases rep_str.mp r; exact ⟨rfl, rfl⟩
  | _ => cases h
theorem flatL_low : ∀ {l : List D} {vs : List V}, RepL c H l vs → l.all flatB = true → vs = l.map vD ∧ vs.all flatV = true
  | [], vs, r, _ => by cases repL_nil.mp r; exact ⟨rfl, rfl⟩
  | d :: ds, vs, r, h => by
    obtain ⟨v, ws, rfl, r1, r2⟩ := repL_cons.mp r
    rw [List.all_cons, Bool.and_eq_true] at h
    obtain ⟨e1, f1⟩ := flat_low r1 h.1
    obtain ⟨e2, f2⟩ := flatL_low r2 h.2
    subst e1 e2
    exact ⟨rfl, by rw [List.all_cons, f1, f2]; rfl⟩
theorem in_low {d : D} {x : V} {l : List D} {vs : List V} (rx : Rep c H d x) (rs : RepL c H l vs) (h1 : flatB d = true) (h2 : l.all flatB = true) : flatV x = true ∧ vs.all flatV = true ∧ inV x vs = inL d l := by
  obtain ⟨e1, f1⟩ := flat_low rx h1
  obtain ⟨e2, f2⟩ := flatL_low rs h2
  refine ⟨f1, f2, ?_⟩
  rw [e1, e2]
  unfold inV inL
  rw [List.any_map]
  rfl
end
section
variable {X : Cx} {c : AC X.K}
theorem aop_in : AOp X c (compareOp .In) (inD false) := by
  refine .mk' (op_in_str.or op_in_seq) fun x y H Q d e L R rx ry g h pq => ?_
  unfold inD at h
  split at h
  · exact .inl ⟨_, _, rep_str.mp rx, rep_str.mp ry, by rw [Bool.false_xor] at h; exact pq.here h g (rep_bl.mpr rfl)⟩
  · rename_i l
    obtain ⟨p, vs, rfl, e1, rs⟩ := rep_tup.mp ry
    obtain ⟨f1, f2, f3⟩ := in_low rx rs h.1 h.2.1
    exact .inr ⟨p, vs, rfl, .inr (e1), f1, f2, pq.here (by simpa [f3] using h.2.2) g (rep_bl.mpr (by simp [f3]))⟩
  · rename_i p
    obtain ⟨l, e1, h1, h2, h⟩ := h
    obtain ⟨vs, e2, rs⟩ := good_lst g e1
    cases rep_ref.mp ry
    obtain ⟨f1, f2, f3⟩ := in_low rx rs h1 h2
    exact .inr ⟨p, vs, rfl, .inl (SqL.of e2), f1, f2, pq.here (by simpa [f3] using h) g (rep_bl.mpr (by simp [f3]))⟩
  · exact h.elim
end
section
variable {X : Cx} {c : AC X.K} {H0 : Hp} {e f : Expr} {a b : ATE} {pos p2 : Pos}
end
abbrev ATO := En → Store → (Option Int → Store → Prop) → Prop
def lowO {K : PySem.W.Frag} (c : AC K) (H0 : Hp) (a : ATO) : TO := fun σ H Q => ∃ env L R, Rl c H0 σ H env L ∧ a env L R ∧ ∀ b L' H', R b L' → Fr c H H' → Good c L' H' → Q b H'
def AO (X : Cx) (c : AC X.K) (H0 : Hp) (e : Option Expr) (a : ATO) : Prop := PO X e (lowO c H0 a)
def aoNone : ATO := fun _ L Q => Q none L
def intD : D → (Int → Prop) → Prop
  | .int i, Q => Q i
  | _, _ => False
def aoSome (a : ATE) : ATO := fun env L Q => a env L fun d L1 => intD d fun i => Q (some i) L1
theorem int_low {K : PySem.W.Frag} {c : AC K} {H : Hp} {d : D} {v : V} {R : Int → Prop} (r : Rep c H d v) (h : intD d R) : ∃ k, v = .int k ∧ R k := by
  cases d with
  | int b => exact ⟨b, rep_int.mp r, h⟩
  | _ => exact h.elim
def cutD (l : List D) (lo hi : Option Int) : List D := (l.drop (HT.sIx l.length 0 lo)).take (HT.sIx l.length l.length hi - HT.sIx l.length 0 lo)
def slD : D → Option Int → Option Int → Store → AQ → Prop
  | .tup l, lo, hi, L, Q => Q (.tup (cutD l lo hi)) L
  | .ref p, lo, hi, L, Q => ∃ l, L p = some (.lst l) ∧ ∀ q, L q = none → Q (.ref q) (sput L q (.lst (cutD l lo hi)))
  | .str z, lo, hi, L, Q => z.length ≤ sizeLine ∧ Q (.str (cutS z lo hi)) L
  | _, _, _, _, _ => False
def aSl (a : ATE) (lo hi : ATO) : ATE := fun env L Q => a env L fun d L1 => lo env L1 fun l L2 => hi env L2 fun h L3 => slD d l h L3 Q
theorem cut_low {K : PySem.W.Frag} {c : AC K} {H : Hp} {l : List D} {vs : List V} {lo hi : Option Int} (rs : RepL c H l vs) : RepL c H (cutD l lo hi) (cutV vs lo hi) := by
  unfold cutD cutV
  rw [rs.len]
  exact (rs.drop _).take _
section
variable {X : Cx} {c : AC X.K} {H0 : Hp} {e : Expr} {lo hi : Option Expr} {a : ATE} {ol oh : ATO} {pos p2 : Pos}
theorem ao_none : AO X c H0 none aoNone := ⟨fun pins s σ H Q I h => po_none.run pins s σ H Q I (by
  obtain ⟨env, L, R, rl, h, pq⟩ := h
  exact pq none L H h (.refl c H) rl.good)⟩
theorem ao_some (h : AE X c H0 e a) : AO X c H0 (some e) (aoSome a) := ⟨fun pins s σ H Q I q => (po_some h).run pins s σ H Q I (by
  obtain ⟨env, L, R, rl, h, pq⟩ := q
  refine ⟨env, L, _, rl, h, fun d L1 x H1 q s1 g1 r1 => ?_⟩
  obtain ⟨k, e1, e2⟩ := int_low (R := fun i => R (some i) L1) r1 q
  exact ⟨k, e1, pq _ L1 H1 e2 s1 g1⟩)⟩
theorem ae_sl (he : AE X c H0 e a) (hl : AO X c H0 lo ol) (hh : AO X c H0 hi oh) : AE X c H0 (.Subscript e (.Slice lo hi none p2) pos) (aSl a ol oh) := by
  refine (pe_slice (sl_list.or (sl_tupA.or sl_str)) he hl hh).imp fun σ H Q ⟨env, L, R, rl, h, pq⟩ => ?_
  refine ⟨env, L, _, rl, h, fun d L1 x H1 q s1 g1 r1 => ?_⟩
  refine ⟨env, L1, _, rl.step s1 g1, q, fun l L2 H2 q2 s2 g2 => ?_⟩
  refine ⟨env, L2, _, rl.step (s1.trans s2) g2, q2, fun u L3 H3 q3 s3 g3 => ?_⟩
  have pq3 := pq.fr ((s1.trans s2).trans s3)
  have rx := r1.fr (s2.trans s3)
  unfold slD at q3
  split at q3
  · rename_i ds
    obtain ⟨p, vs, rfl, e1, rs⟩ := rep_tup.mp rx
    refine .inr (.inl ⟨p, vs, rfl, e1, fun hw => ?_, fun _ r hr => pq3.new hr q3 g3 (rep_tup.mpr ⟨r, _, rfl, SqT.of upd_same, (cut_low rs).fr (.new hr)⟩)⟩)
    have ec : cutD ds l u = ds := by
      unfold cutD
      have h1 := hw.1
      have h2 := hw.2
      rw [rs.len] at h1 h2
      rw [h1, h2, List.drop_zero, Nat.sub_zero, List.take_length]
    have q3 : R (.tup (cutD ds l u)) L3 := q3
    rw [ec] at q3
    exact pq3.here q3 g3 rx
  · rename_i p
    obtain ⟨ds, e0, q3⟩ := q3
    obtain ⟨vs, e1, rs⟩ := good_lst g3 e0
    cases rep_ref.mp rx
    exact .inl ⟨p, vs, rfl, SqL.of e1, fun r hr => pq3.alloc hr (q3 r (g3.fresh hr)) g3 ⟨_, upd_same, (cut_low rs).fr (.new hr)⟩⟩
  · rename_i z
    exact .inr (.inr ⟨z, rep_str.mp rx, q3.1, pq3.here q3.2 g3 (rep_str.mpr rfl)⟩)
  · exact q3.elim
end
def aCall (asp : ASp) (as : ATA) : ATE := fun env L Q => as env L fun ds L1 => asp ds L1 Q anyX
def aCallX (asp : ASp) (RX : AX) (as : ATA) : ATE := fun env L Q => as env L fun ds L1 => asp ds L1 Q RX
def withD (dd : List D) (asp : ASp) : ASp := fun ds L Q RX => asp (ds ++ dd) L Q RX
section
variable {X : Cx} {c : AC X.K} {H0 : Hp} {e o : Expr} {es : List Expr} {a : ATE} {as : ATA} {x m : Str} {p pos apos : Pos} {k : Nat} {ps : List Str} {asp : ASp} {CX : CXT} {E : XK} {RX : AX} {dvs : List V} {dd : List D} {C : Addr}
theorem low_call {σ : L2.St} {H : Hp} {Q : VK} (hd : ∀ H, RepL c H dd dvs) (q : lowE c H0 (aCallX (withD dd asp) RX as) σ H Q) (hE : ∀ H1, Fr c H H1 → Px c H1 RX E) : tCall (spA c asp) dvs E (lowA c H0 as) σ H Q := by
  obtain ⟨env, L, R, rl, h, pq⟩ := q
  exact ⟨env, L, _, rl, h, fun ds L1 vs H1 q s1 g1 r1 => ⟨ds ++ dd, L1, R, RX, r1.app (hd H1), g1, q, pq.fr s1, hE H1 s1⟩⟩
theorem px_any {H : Hp} : Px c H anyX (fun _ _ _ => True) := fun _ _ _ _ _ _ _ _ _ => trivial
theorem ae_call (C : CallD X.prog X.w X.K X.mg X.base CX0 k x ps [] (spA c asp)) (hr : Room k X.A) (hg : Gl X x) (ha : AA X c H0 (e :: es) as) (hdb : (x == ("__debug__" : Str)) = false := by decide)
    (he : starEach (e :: es) X.env = (false, eval e X.env) :: starEach es X.env := by rfl) (hpl : (backTo pos (starEach es X.env)).any (·.1) = false := by rfl) : AE X c H0 (.Call (.Name x p) (e :: es) [] pos) (aCall asp as) := by
  refine (pe_callD (E := fun _ _ _ => True) C hr hg pass0 ha hdb he hpl).imp fun σ H Q q => low_call (dd := []) (RX := anyX) (fun _ => RepL.nil) ?_ fun _ _ => px_any
  obtain ⟨env, L, R, rl, h, pq⟩ := q
  refine ⟨env, L, R, rl, ?_, pq⟩
  have h : as env L fun ds L1 => asp ds L1 R anyX := h
  unfold aCallX withD
  simpa using h
end
def LowC {K : PySem.W.Frag} (c : AC K) (r : List V → Hp → VK → Prop) (f : List D → Store → AQ → Prop) : Prop := ∀ vs H Q ds L R, RepL c H ds vs → Good c L H → f ds L R → Pq c H R Q → r vs H Q
structure ACB (X : Cx) (c : AC X.K) (g : Value) (f : List D → Store → AQ → Prop) : Prop where
  ex : ∃ r, CallR X g r ∧ LowC c r f
def aB (f : List D → Store → AQ → Prop) (as : ATA) : ATE := fun env L Q => as env L fun ds L1 => f ds L1 Q
section
variable {X : Cx} {c : AC X.K} {H0 : Hp} {e o : Expr} {es : List Expr} {a : ATE} {as : ATA} {x m : Str} {p pos apos : Pos} {id T : String} {f : List D → Store → AQ → Prop}
theorem ACB.mk' {g : Value} {r : List V → Hp → VK → Prop} (h : CallR X g r) (k : LowC c r f) : ACB X c g f := ⟨r, h, k⟩
theorem low_cb {r : List V → Hp → VK → Prop} (h : LowC c r f) {σ : L2.St} {H : Hp} {Q : VK} (q : lowE c H0 (aB f as) σ H Q) : tCB r (lowA c H0 as) σ H Q := by
  obtain ⟨env, L, R, rl, k, pq⟩ := q
  exact ⟨env, L, _, rl, k, fun ds L1 vs H1 q s1 g1 r1 => h vs H1 Q ds L1 R r1 g1 q (pq.fr s1)⟩
theorem ae_b (hc : ACB X c (.builtin id) f) (hg : Gl X x) (hm : X.mg x = none) (hv : bootBuiltins x = some (.builtin id)) (ha : AA X c H0 (e :: es) as) (hn : x ≠ "__name__" := by decide) (hdb : (x == ("__debug__" : Str)) = false := by decide)
    (he : starEach (e :: es) X.env = (false, eval e X.env) :: starEach es X.env := by rfl) (hpl : (backTo pos (starEach es X.env)).any (·.1) = false := by rfl) : AE X c H0 (.Call (.Name x p) (e :: es) [] pos) (aB f as) := by
  obtain ⟨r, h1, h2⟩ := hc.ex
  exact (pe_callB h1 hg hm hv ha hn hdb he hpl).imp fun _ _ _ q => low_cb h2 q
end
section
variable {K : PySem.W.Frag} {c : AC K}
theorem repL_one {H : Hp} {d : D} {vs : List V} (r : RepL c H [d] vs) : ∃ v, vs = [v] ∧ Rep c H d v := by
  obtain ⟨v, ws, rfl, r1, r2⟩ := repL_cons.mp r
  cases repL_nil.mp r2
  exact ⟨v, rfl, r1⟩
theorem repL_two {H : Hp} {d e : D} {vs : List V} (r : RepL c H [d, e] vs) : ∃ v w, vs = [v, w] ∧ Rep c H d v ∧ Rep c H e w := by
  obtain ⟨v, ws, rfl, r1, r2⟩ := repL_cons.mp r
  obtain ⟨w, rfl, r3⟩ := repL_one r2
  exact ⟨v, w, rfl, r1, r3⟩
end
section
variable {X : Cx} {c : AC X.K}
end
end AL
namespace AL
open PySem PySem.Spec PyProof.Rows L2 LamX JW
def treeD : D → (T → Prop) → Prop
  | .tree t, Q => Q t
  | _, _ => False
def aProp (g : T → D) (a : ATE) : ATE := fun env L Q => a env L fun d L1 => treeD d fun t => Q (g t) L1
theorem tree_low {K : PySem.W.Frag} {c : AC K} {H : Hp} {d : D} {v : V} {R : T → Prop} (r : Rep c H d v) (h : treeD d R) : ∃ t, Ftn (cF K) H t v ∧ R t := by
  cases d with
  | tree t => exact ⟨t, rep_tree.mp r, h⟩
  | _ => exact h.elim
theorem _root_.JW.CallD.imp {P : Program} {w : World} {K : PySem.W.Frag} {mg : Str → Option Value} {base : Heap} {CX : CXT} {k : Nat} {x : Str} {ps : List Str} {dvs : List V} {sp sp' : Sp} (C : CallD P w K mg base CX k x ps dvs sp) (h : ∀ vs H Q E, sp' vs H Q E → sp vs H Q E) : CallD P w K mg base CX k x ps dvs sp' := by
  obtain ⟨f, fd, ds, h1, h2, h3, h4, F⟩ := C.ex
  exact ⟨f, fd, ds, h1, h2, h3, h4, F.imp h⟩
theorem _root_.JW.MethD.imp {P : Program} {w : World} {K : PySem.W.Frag} {mg : Str → Option Value} {base : Heap} {CX : CXT} {k : Nat} {C : Addr} {x : Str} {ps : List Str} {dvs : List V} {sp sp' : Sp} (M : MethD P w K mg base CX k C x ps dvs sp) (h : ∀ vs H Q E, sp' vs H Q E → sp vs H Q E) : MethD P w K mg base CX k C x ps dvs sp' := by
  obtain ⟨f, fd, ds, h1, h2, h3, F⟩ := M.ex
  exact ⟨f, fd, ds, h1, h2, h3, F.imp h⟩
theorem _root_.JW.MakeD.imp {P : Program} {w : World} {K : PySem.W.Frag} {mg : Str → Option Value} {base : Heap} {CX : CXT} {k : Nat} {C : Addr} {x : Str} {ps : List Str} {dvs : List V} {sp sp' : Sp} (M : MakeD P w K mg base CX k x C ps dvs sp) (h : ∀ vs H Q E, sp' vs H Q E → sp vs H Q E) : MakeD P w K mg base CX k x C ps dvs sp' := by
  obtain ⟨f, fd, ds, h1, h2, h3, h4, F⟩ := M.ex
  exact ⟨f, fd, ds, h1, h2, h3, h4, F.imp h⟩
section
variable {X : Cx} {c : AC X.K} {H0 : Hp} {e o : Expr} {es : List Expr} {a b : ATE} {as : ATA} {x m f : Str} {p pos apos : Pos} {k : Nat} {ps : List Str} {asp : ASp} {CX : CXT} {E : XK} {RX : AX}
theorem ae_prop {g : T → D} {fV : T → V} (cl : Cls X.K (cF X.K)) (M : PropD X.prog X.w X.K X.mg X.base CX0 k (cF X.K) f (spV X.K fV)) (hg : ∀ H t, Rep c H (g t) (fV t)) (hr : Room (k + 1) X.A) (he : AE X c H0 e a) (hab : attributeBase e f X.env (eval e X.env) = eval e X.env) : AE X c H0 (.Attribute e f pos) (aProp g a) := by
  refine (pe_propD (E := fun _ _ _ => True) cl M hr pass0 he hab).imp fun σ H Q ⟨env, L, R, rl, h, pq⟩ => ?_
  refine ⟨env, L, _, rl, h, fun d L1 x H1 q s1 g1 r1 => ?_⟩
  obtain ⟨t, hf, q⟩ := tree_low (R := fun t => R (g t) L1) r1 q
  obtain ⟨p, dx, b, n, vs, rfl, h1, _⟩ := ftn_iff.mp hf
  exact ⟨p, dx, _, rfl, h1, _, t, rfl, hf, (pq.fr s1).here q g1 (hg H1 t)⟩
end
section
variable {X : Cx} {c : AC X.K} {H0 : Hp} {o e : Expr} {es : List Expr} {a b : ATE} {as : ATA} {name : Str} {apos cpos pos : Pos} {id : String} {r : V → List V → Hp → VK → Prop} {f : D → List D → Store → AQ → Prop}
end
section
variable {K : PySem.W.Frag} {c : AC K}
end
def refD : D → (Addr → Prop) → Prop
  | .ref p, Q => Q p
  | _, _ => False
theorem ref_low {K : PySem.W.Frag} {c : AC K} {H : Hp} {d : D} {v : V} {R : Addr → Prop} (r : Rep c H d v) (h : refD d R) : ∃ p, v = .ref p ∧ R p := by
  cases d with
  | ref p => exact ⟨p, rep_ref.mp r, h⟩
  | _ => exact h.elim
def lstAt (p : Addr) (l : List D) : Store → Prop := fun L => L p = some (.lst l)
def yes : Store → Prop := fun _ => True
def aiList (a : ATE) : ATI := fun env L Q => a env L fun d L1 => refD d fun p => ∃ l, L1 p = some (.lst l) ∧ Q l (lstAt p l) L1
def rngD (lo : Int) (n : Nat) : List D := (List.range n).map fun i => .int (lo + (i : Nat))
def aiRng1 (as : ATA) : ATI := fun env L Q => as env L fun ds L1 => match ds with
  | [.int j] => -(2 ^ 62) ≤ j ∧ j < 2 ^ 62 ∧ Q (rngD 0 j.toNat) yes L1
  | _ => False
def enumD (l : List D) : List D := (List.range l.length).zipWith (fun i d => .tup [.int (i : Nat), d]) l
def aiEnumL (as : ATA) : ATI := fun env L Q => as env L fun ds L1 => match ds with
  | [.ref p] => ∃ l, L1 p = some (.lst l) ∧ Q (enumD l) (lstAt p l) L1
  | _ => False
section
variable {K : PySem.W.Frag} {c : AC K} {H H1 H' : Hp} {L : Store}
theorem walkA_list {p : Addr} {l : List D} (g : Good c L H) (e : L p = some (.lst l)) : WalkA c (Itl K p) l (lstAt p l) H := by
  obtain ⟨vs, e1, rs⟩ := good_lst g e
  refine ⟨fun H' => Fr c H H' ∧ ∃ ws, H' p = some (.lst ws) ∧ RepL c H' l ws, ?_, fun L' H' s g' e' => ⟨s, good_lst g' e'⟩⟩
  refine ⟨fun i H' hi ⟨_, ws, e2, r2⟩ => ⟨ws, ws[i]'(by rw [r2.len]; exact hi), SqL.of e2, List.getElem?_eq_getElem (by rw [r2.len]; exact hi)⟩, fun H' ⟨_, ws, e2, r2⟩ => ⟨ws, SqL.of e2, by rw [r2.len]; exact Nat.le_refl _⟩, fun i H1 x H2 hi ⟨s, ws, e2, r2⟩ y => ?_⟩
  obtain ⟨rfl, y⟩ := y
  obtain ⟨d, e3, r⟩ := r2.getV (y ws (SqL.of e2))
  exact ⟨.refl c _, fun L g => g, d, e3, r⟩
theorem rngD_get {lo : Int} {n i : Nat} (h : i < n) : (rngD lo n)[i]? = some (.int (lo + (i : Nat))) := by
  unfold rngD
  rw [List.getElem?_map, List.getElem?_range h]
  rfl
theorem rngD_len {lo : Int} {n : Nat} : (rngD lo n).length = n := by
  unfold rngD
  rw [List.length_map, List.length_range]
theorem walkA_rng {lo : Int} {n : Nat} : WalkA c (Itr lo n) (rngD lo n) yes H := by
  refine ⟨fun _ => True, ?_, fun _ _ _ _ _ => trivial⟩
  rw [rngD_len]
  refine walk_range.mono (fun _ _ => trivial) fun i H1 x H2 hi _ y => ?_
  obtain ⟨rfl, rfl⟩ := y
  exact ⟨.refl c _, fun L g => g, _, rngD_get hi, rep_int.mpr rfl⟩
theorem pair_new {p : Addr} {x y : V} {d e : D} {H : Hp} (hp : H p = none) (r1 : Rep c H d x) (r2 : Rep c H e y) : Fr c H (upd H p (.tup [x, y])) ∧ (∀ L, Good c L H → Good c L (upd H p (.tup [x, y]))) ∧ Rep c (upd H p (.tup [x, y])) (.tup [d, e]) (.ref p) :=
  ⟨.new hp, fun L g => g.new hp _, rep_tup.mpr ⟨p, _, rfl, SqT.of upd_same, .cons (r1.fr (.new hp)) (.one (r2.fr (.new hp)))⟩⟩
theorem enumD_get {l : List D} {i : Nat} {d : D} (h : l[i]? = some d) : (enumD l)[i]? = some (.tup [.int (i : Nat), d]) := by
  have hi : i < l.length := (List.getElem?_eq_some_iff.mp h).1
  unfold enumD
  rw [List.getElem?_zipWith, List.getElem?_range hi, h]
theorem enumD_len {l : List D} : (enumD l).length = l.length := by
  unfold enumD
  rw [List.length_zipWith, List.length_range, Nat.min_self]
theorem walkA_enumL {p : Addr} {l : List D} (g : Good c L H) (e : L p = some (.lst l)) : WalkA c (Ite K p) (enumD l) (lstAt p l) H := by
  refine ⟨fun H' => Fr c H H' ∧ ∃ ws, H' p = some (.lst ws) ∧ RepL c H' l ws, ?_, fun L' H' s g' e' => ⟨s, good_lst g' e'⟩⟩
  rw [enumD_len]
  refine ⟨fun i H' hi ⟨_, ws, e2, r2⟩ => ⟨ws, ws[i]'(by rw [r2.len]; exact hi), SqL.of e2, List.getElem?_eq_getElem (by rw [r2.len]; exact hi)⟩, fun H' ⟨_, ws, e2, r2⟩ => ⟨ws, SqL.of e2, by rw [r2.len]; exact Nat.le_refl _⟩, fun i H1 x H2 hi ⟨s, ws, e2, r2⟩ y => ?_⟩
  obtain ⟨T, v, rfl, hT, rfl, y⟩ := y
  obtain ⟨d, e3, r⟩ := r2.getV (y ws (SqL.of e2))
  obtain ⟨f1, f2, f3⟩ := pair_new (d := .int (i : Nat)) hT (rep_int.mpr rfl) r
  exact ⟨f1, f2, _, enumD_get e3, f3⟩
end
section
variable {X : Cx} {c : AC X.K} {H0 : Hp} {tg e f : Expr} {a : ATE} {as : ATA} {p pos tpos : Pos} {elts : List Expr} {kk : Nat}
theorem ai_list (h : AE X c H0 e a) : AI X c H0 tg e (aiList a) := by
  refine (pi_list h).imp fun σ H Q ⟨env, L, R, rl, h, pq⟩ => ?_
  refine ⟨env, L, _, rl, h, fun d L1 x H1 q s1 g1 r1 => ?_⟩
  obtain ⟨p, rfl, l, e, q⟩ := ref_low r1 q
  obtain ⟨vs, e1, rs⟩ := good_lst g1 e
  exact ⟨p, rfl, ⟨vs, SqL.of e1⟩, pq _ _ L1 _ H1 q s1 g1 (walkA_list g1 e)⟩
theorem ai_rng1 (hg : Gl X "range") (hm : X.mg "range" = none) (ha : AA X c H0 [e] as) (hs : starEach [e] X.env = [(false, eval e X.env)] := by rfl) : AI X c H0 tg (.Call (.Name "range" p) [e] [] pos) (aiRng1 as) := by
  refine (pi_range1 hg hm ha hs).imp fun σ H Q ⟨env, L, R, rl, h, pq⟩ => ?_
  refine ⟨env, L, _, rl, h, fun ds L1 vs H1 q s1 g1 r1 => ?_⟩
  split at q
  · rename_i j
    obtain ⟨h1, h2, q⟩ := q
    obtain ⟨v, rfl, r2⟩ := repL_one r1
    cases rep_int.mp r2
    exact ⟨j, rfl, h1, h2, pq _ _ L1 _ H1 q s1 g1 walkA_rng⟩
  · exact q.elim
theorem ai_enumL (hg : Gl X "enumerate") (hm : X.mg "enumerate" = none) (ha : AA X c H0 [e] as) (hs : starEach [e] X.env = [(false, eval e X.env)] := by rfl) : AI X c H0 (.Tuple elts kk tpos) (.Call (.Name "enumerate" p) [e] [] pos) (aiEnumL as) := by
  refine (pi_enum hg hm ha hs).imp fun σ H Q ⟨env, L, R, rl, h, pq⟩ => ?_
  refine ⟨env, L, _, rl, h, fun ds L1 vs H1 q s1 g1 r1 => ?_⟩
  split at q
  · rename_i q
    obtain ⟨l, e1, q⟩ := q
    obtain ⟨v, rfl, r2⟩ := repL_one r1
    cases rep_ref.mp r2
    obtain ⟨ws, e2, rs⟩ := good_lst g1 e1
    exact ⟨_, ws, rfl, SqL.of e2, pq _ _ L1 _ H1 q s1 g1 (walkA_enumL g1 e1)⟩
  · exact q.elim
end
end AL
namespace AL
open PySem PySem.Spec PyProof.Rows L2 LamX JW
def wipeA (env : En) : List Nat → En
  | [] => env
  | v :: vs => (wipeA env vs).set v none
theorem set_twice {α : Type} (l : List α) (i : Nat) (a b : α) : (l.set i a).set i b = l.set i b := by rw [List.set_set]
theorem wipe_set (σ : L2.St) (j : Nat) (x : Option V) : ∀ vs : List Nat, (∀ y, (wipe (σ.set j x) vs).set j y = (wipe σ vs).set j y) ∧ (j ∈ vs → wipe (σ.set j x) vs = wipe σ vs)
  | [] => ⟨fun y => set_twice _ _ _ _, fun h => absurd h (by simp)⟩
  | v :: vs => by
    obtain ⟨h1, h2⟩ := wipe_set σ j x vs
    by_cases e : v = j
    · subst e
      refine ⟨fun y => ?_, fun _ => h1 none⟩
      show ((wipe (σ.set v x) vs).set v none).set v y = ((wipe σ vs).set v none).set v y
      rw [h1 none]
    · refine ⟨fun y => ?_, fun h => ?_⟩
      · show ((wipe (σ.set j x) vs).set v none).set j y = ((wipe σ vs).set v none).set j y
        rw [List.set_comm _ _ e, h1 y, List.set_comm _ _ (Ne.symm e)]
      · have hj : j ∈ vs := (List.mem_cons.mp h).resolve_left (Ne.symm e)
        show (wipe (σ.set j x) vs).set v none = (wipe σ vs).set v none
        rw [h2 hj]
theorem wipe_idem (σ : L2.St) : ∀ vs : List Nat, wipe (wipe σ vs) vs = wipe σ vs
  | [] => rfl
  | v :: vs => by
    show (wipe ((wipe σ vs).set v none) vs).set v none = (wipe σ vs).set v none
    rw [(wipe_set (wipe σ vs) v none vs).1, wipe_idem σ vs]
section
variable {K : PySem.W.Frag} {c : AC K} {H : Hp} {σ : L2.St} {env : En}
theorem EnvR.unset (h : EnvR c H σ env) (i : Nat) : EnvR c H (σ.set i none) (env.set i none) := by
  refine ⟨by rw [List.length_set, List.length_set, h.len], fun j e hj => ?_⟩
  by_cases hi : i = j
  · subst hi
    rcases Nat.lt_or_ge i env.length with z | z
    · rw [List.getElem?_set_self z] at hj
      cases hj
    · rw [List.getElem?_eq_none (by simpa using z)] at hj
      cases hj
  · rw [List.getElem?_set_ne hi] at hj
    obtain ⟨u, e1, r1⟩ := h.get j e hj
    exact ⟨u, by rw [List.getElem?_set_ne hi]; exact e1, r1⟩
theorem EnvR.wipe (h : EnvR c H σ env) : ∀ vs : List Nat, EnvR c H (L2.wipe σ vs) (wipeA env vs)
  | [] => h
  | v :: vs => (h.wipe vs).unset v
end
def TgOk {K : PySem.W.Frag} (c : AC K) (g : TG) (ag : ATG) (vs : List Nat) : Prop := ∀ d x env L R σ H (P : L2.St → Hp → Prop), Rep c H d x → EnvR c H σ env → ag d env L R →
  (∀ env1 σ1, R env1 L → EnvR c H σ1 env1 → wipe σ1 vs = wipe σ vs → P σ1 H) → g x σ H P
def agNs : List Nat → ATGs
  | [] => agNil
  | j :: js => agCons (agName j) (agNs js)
section
variable {K : PySem.W.Frag} {c : AC K}
theorem tgOk_name {j : Nat} {vs : List Nat} (hj : j ∈ vs) : TgOk c (gName j) (agName j) vs := fun d x env L R σ H P r er h k => k _ _ h (er.set j r) ((wipe_set σ j _ vs).2 hj)
theorem agNs_len : ∀ {js : List Nat} {l : List D} {env : En} {L : Store} {R : En → Store → Prop}, agNs js l env L R → l.length = js.length
  | [], l, env, L, R, h => by rw [h.1]; rfl
  | j :: js, l, env, L, R, h => by
    cases l with
    | nil => exact h.elim
    | cons d l => rw [List.length_cons, List.length_cons, agNs_len (js := js) h]
end
def compA (g : ATG) (t : ATT) (a : ATE) (G : Store → Prop) (p : Addr) (env : En) (Q : AQ) : List D → List D → Store → Prop
  | [], acc, L => G L ∧ L p = some (.lst acc) ∧ Q (.ref p) L
  | d :: ds, acc, L => G L ∧ L p = some (.lst acc) ∧ g d env L fun env1 L1 => L1 = L ∧ t env1 L1 fun b L2 => if b = true then a env1 L2 fun x L3 => acc.length < sizeLine ∧ L3 p = some (.lst acc) ∧ compA g t a G p env Q ds (acc ++ [x]) (sput L3 p (.lst (acc ++ [x]))) else compA g t a G p env Q ds acc L2
def aYes : ATT := fun _ L Q => Q true L
def aLc (ai : ATI) (g : ATG) (t : ATT) (a : ATE) (vs : List Nat) : ATE := fun env L Q => ai env L fun items G L1 => ∀ p, L1 p = none → compA g t a G p (wipeA env vs) Q items [] (sput L1 p (.lst []))
section
variable {X : Cx} {c : AC X.K} {H0 : Hp}
theorem low_lc {ai : ATI} {g : TG} {ag : ATG} {t : ATT} {tt : TT} {a : ATE} {vs : List Nat} (tg : TgOk c g ag vs) (ht : ∀ σ H Q, lowT c H0 t σ H Q → tt σ H Q) {σ : L2.St} {H : Hp} {Q : VK} (q : lowE c H0 (aLc ai ag t a vs) σ H Q) :
    tLc (lowI c H0 ai) g tt (lowE c H0 a) vs σ H Q := by
  obtain ⟨env, L, R, rl, h, pq⟩ := q
  refine ⟨env, L, _, rl, h, fun items G L1 J H1 q s1 g1 wa D hD => ?_⟩
  have q := q D (g1.fresh hD)
  obtain ⟨GH, wk, hG⟩ := wa.ex
  have f0 : Fr c H1 (upd H1 D (.lst [])) := .new hD
  have hg0 : Good c (sput L1 D (.lst [])) (upd H1 D (.lst [])) := g1.alloc hD _ ⟨[], upd_same, RepL.nil⟩
  have hGl : ∀ {ds acc : List AL.D} {L' : Store}, compA ag t a G D (wipeA env vs) R ds acc L' → G L' := fun {ds acc L'} z => by
    cases ds with
    | nil => exact z.1
    | cons d ds => exact z.1
  refine lc_it wk (fun i H' => Fr c H1 H' ∧ ∃ acc L', Good c L' H' ∧ compA ag t a G D (wipeA env vs) R (items.drop i) acc L') ⟨f0, [], _, hg0, q⟩ (fun i H' _ ⟨f, acc, L', g', z⟩ => hG L' H' f g' (hGl z)) ?_ ?_
  · rintro i x H2 H3 hi ⟨f, acc, L', g', z⟩ ⟨s2, k2, d, e1, r⟩
    have e2 : items.drop i = d :: items.drop (i + 1) := by
      have hh := List.drop_eq_getElem_cons hi
      rw [List.getElem?_eq_getElem hi] at e1
      rw [hh, Option.some.inj e1]
    rw [e2] at z
    obtain ⟨_, hp, z⟩ := z
    have er : EnvR c H3 (wipe σ vs) (wipeA env vs) := ((rl.env.fr s1).fr (f.trans s2)).wipe vs
    refine tg d x _ L' _ _ H3 _ r er z fun env1 σ1 ⟨_, h1⟩ h2 h3 => ⟨by rw [h3, wipe_idem], ?_⟩
    have fr3 : Fr c H0 H3 := (rl.fr.trans s1).trans (f.trans s2)
    refine ht _ _ _ ⟨env1, L', _, ⟨h2, k2 _ g', fr3⟩, h1, fun b L2 H4 hb s4 g4 => ?_⟩
    cases b with
    | true =>
      refine ⟨env1, L2, _, ⟨h2.fr s4, g4, fr3.trans s4⟩, hb, fun y L3 v H5 ⟨hz, hp3, hc⟩ s5 g5 r5 => ?_⟩
      obtain ⟨ws, e5, rs⟩ := good_lst g5 hp3
      obtain ⟨g6, f6⟩ := g5.put (m' := .lst (acc ++ [y])) hp3 (.lst (ws ++ [v])) ⟨ws ++ [v], upd_same, (rs.app (.one r5)).fr (.put e5 fun z => z)⟩
      exact ⟨ws, e5, by rw [rs.len]; exact hz, (((f.trans s2).trans s4).trans s5).trans f6, _, _, g6, hc⟩
    | false => exact ⟨(f.trans s2).trans s4, acc, L2, g4, hb⟩
  · rintro H2 ⟨f, acc, L', g', z⟩
    rw [List.drop_length] at z
    exact pq _ L' _ H2 z.2.2 (s1.trans f) g' (rep_ref.mpr rfl)
theorem ae_lc {elt tg iter : Expr} {scope : Scope} {own : List (Str × Nat)} {pos : Pos} {ai : ATI} {g : TG} {ag : ATG} {a : ATE} (hc : X.calm = true) (hN : X.N.Nodup) (hi : AI X c H0 tg iter ai) (ok : BlkOk X.N X.env.scope scope own) (hk : TgOk c g ag (own.map (·.2)))
    (hg : ∀ (s : Shared) (H : Hp) (C : Addr) (cl : List (Str × Addr)) (fp : List Addr), PG (X.blk s H scope (compEnvC scope cl C X.env) fp) tg g)
    (he : ∀ (s : Shared) (H : Hp) (C : Addr) (cl : List (Str × Addr)) (fp : List Addr), AE (X.blk s H scope (compEnvC scope cl C X.env) fp) c H0 elt a) (hs : ∀ x, foldedSetIterable iter X.env x = pure x := by intro _; rfl) :
    AE X c H0 (.ListComp elt [⟨tg, iter, [], 0⟩] scope pos) (aLc ai ag aYes a (own.map (·.2))) :=
  (pe_lc (te := lowE (K := X.K) c H0 a) hc hN hi ok hg (fun _ _ _ _ _ => pts_nil) he hs).imp fun σ H Q q => low_lc hk (fun σ H Q ⟨env, L, R, rl, h, k⟩ => k true L H h (.refl c H) rl.good) q
end
def startA (N : List Str) (ds : List D) : En := ds.map some ++ List.replicate (N.length - ds.length) none
def fnEnds (R : AQ) : AEnds := { nx := fun _ L => ∃ L0, SubS L0 L ∧ R .non L0, rt := fun d L => ∃ L0, SubS L0 L ∧ R d L0 }
theorem ret_of {R : AQ} {d : D} {L : Store} (h : R d L) : ∃ L0, SubS L0 L ∧ R d L0 := ⟨L, .refl L, h⟩
theorem ret_sub {R : AQ} {d : D} {L L0 : Store} (h : R d L0) (s : SubS L0 L) : ∃ L0, SubS L0 L ∧ R d L0 := ⟨L0, s, h⟩
section
variable {K : PySem.W.Frag} {c : AC K}
theorem start_low {N : List Str} {ds : List D} {vs : List V} {H : Hp} (r : RepL c H ds vs) : EnvR c H (L2.start N vs) (startA N ds) := by
  unfold L2.start startA
  refine ⟨by simp [r.len], fun i d e => ?_⟩
  by_cases hi : i < ds.length
  · rw [List.getElem?_append_left (by simpa using hi), List.getElem?_map] at e
    rw [List.getElem?_append_left (by simpa [r.len] using hi), List.getElem?_map]
    cases e1 : ds[i]? with
    | none => rw [e1] at e; cases e
    | some d' =>
      rw [e1] at e
      cases e
      obtain ⟨v, e2, r2⟩ := r.get e1
      exact ⟨v, by rw [e2]; rfl, r2⟩
  · rw [List.getElem?_append_right (by simpa using hi), List.getElem?_replicate] at e
    split at e <;> cases e
theorem body_low {N : List Str} {H : Hp} {a : ATS} {ds : List D} {vs : List V} {L : Store} {R : AQ} {Q : VK} (r : RepL c H ds vs) (g : Good c L H) (pq : Pq c H R Q) (vc : a (fnEnds R) (startA N ds) L) : lowS c H a { nx := fun _ H' => Q .non H', rt := Q } (L2.start N vs) H :=
  ⟨startA N ds, L, fnEnds R, ⟨start_low r, g, .refl c H⟩, vc, ⟨fun env' L' σ' H' ⟨L0, sb, h⟩ s rl => pq .non L0 .non H' h s (rl.good.sub sb) (rep_non.mpr rfl), fun d L' v H' ⟨L0, sb, h⟩ s g' r' => pq d L0 v H' h s (g'.sub sb) r', fun _ _ _ _ h => h.elim, fun _ _ _ _ h => h.elim⟩⟩
end
section
variable {P : Program} {w : World} {K : PySem.W.Frag} {mg : Str → Option Value} {base : Heap} {c : AC K} {x m qual : Str} {st : Stmt} {N ps : List Str} {k : Nat} {asp : ASp} {C : Addr}
theorem spA_len {n : Nat} (hl : ∀ ds L R RX, asp ds L R RX → ds.length = n) : ∀ vs H Q E, spA c asp vs H Q E → vs.length = n := fun vs H Q E ⟨ds, L, R, RX, r, _, h, _⟩ => by rw [r.len]; exact hl ds L R RX h
theorem _root_.JW.DefAt.okA {a : ATS} (D : DefAt K mg x qual st [] ps) (S : FnScope N ps (defScope st)) (hl : ∀ ds L R RX, asp ds L R RX → ds.length = ps.length)
    (body : ∀ (f : Addr) (cdv : Value) (A : Around) (outer : List Env) (s : Shared) (H : Hp) (E : XK), Room k (A.deeper (envOfC qual (defScope st) s.heap.objs.size f cdv)) → ASs (cxOf CX0 P w K mg base N qual (defScope st) f cdv A outer s H E).nox c H (defBody st) a)
    (vc : ∀ ds L R RX, asp ds L R RX → a (fnEnds R) (startA N ds) L) : CallD P w K mg base CX0 (k + 1) x ps [] (spA c asp) :=
  D.ok S (spA_len hl) fun f cdv A outer s H vs Q E hr ⟨ds, L, R, RX, r, g, h, pq, px⟩ => ⟨_, body f cdv A outer s H E hr, body_low r g pq (vc ds L R RX h)⟩
theorem _root_.JW.MethAt.okA {a : ATS} (D : MethAt K C m qual st ps) (S : FnScope N ps (defScope st)) (hl : ∀ ds L R RX, asp ds L R RX → ds.length = ps.length)
    (body : ∀ (f : Addr) (cdv : Value) (A : Around) (outer : List Env) (s : Shared) (H : Hp) (E : XK), Room k (A.deeper (envOfC qual (defScope st) s.heap.objs.size f cdv)) → ASs (cxOf CX0 P w K mg base N qual (defScope st) f cdv A outer s H E).nox c H (defBody st) a)
    (vc : ∀ ds L R RX, asp ds L R RX → a (fnEnds R) (startA N ds) L) : MethD P w K mg base CX0 (k + 1) C m ps [] (spA c asp) :=
  D.ok S (spA_len hl) fun f cdv A outer s H vs Q E hr ⟨ds, L, R, RX, r, g, h, pq, px⟩ => ⟨_, body f cdv A outer s H E hr, body_low r g pq (vc ds L R RX h)⟩
end
end AL
namespace AL
open PySem PySem.Spec PyProof.Rows L2 LamX JW
section
open PySem.SeqAt AutoSeq1 MeetsSeq MeetsSeq2 MeetsSeq3
variable {prog : Program} {w : World} {A : Around} {R : Result → Shared → Prop}
def TwoL (prog : Program) (w : World) (A : Around) (E : Value → Shared → Prop) (p q : Addr) (m : Nat) (f : Nat → Bool) (J : Shared → Prop) : Prop :=
  ∀ s0, J s0 → ∃ (xs ys : Array Value) (c1 c2 : Nat), s0.heap.get? p = some { cls := .type "list", data := .seq xs c1 } ∧ s0.heap.get? q = some { cls := .type "list", data := .seq ys c2 } ∧ xs.size = m ∧ ys.size = m ∧
    ∀ (i : Nat) (h1 : i < xs.size) (h2 : i < ys.size), wpAny (model prog w) A.in1 (eqBool xs[i] ys[i]) (fun r s' => r = f i ∧ J s') E s0
def opC (neg : Bool) : Int := if neg then 3 else 2
theorem loop_any (p q : Addr) (m : Nat) (f : Nat → Bool) (neg : Bool) (J : Shared → Prop) (tw : TwoL prog w A (fun e s' => R (.error e) s') p q m f J)
    (fin : ∀ s0 b, J s0 → b = (neg ^^ (List.range m).all f) → R (.ok (.ret (.bool b))) s0) (j : Nat) :
    ∀ i : Nat, m - i = j → i ≤ m → ((List.range m).all f = ((List.range m).drop i).all f) → ∀ s0, J s0 →
      wpAny (model prog w) A.in1 (Builtin.«list.__eq__.loop» ⟨[.ref p, .ref q, rawInt i, rawInt (opC neg)], []⟩) (GQ.FinOf prog w A R) (fun e s' => R (.error e) s') s0 := by
  induction j with
  | zero =>
    intro i hj hi ha s0 hJ
    obtain ⟨xs, ys, c1, c2, k1, k2, z1, z2, _⟩ := tw _ hJ
    have im : i = m := by omega
    subst im
    have hR := fin s0 (!neg) hJ (by rw [ha, List.drop_of_length_le (by simp)]; cases neg <;> rfl)
    obtain ⟨hp, g, d, tk, os⟩ := s0
    cases neg <;>
    · show wpAny _ _ (Builtin.«list.__eq__.loop» ⟨[.ref p, .ref q, rawInt i, rawInt _], []⟩) _ _ _
      simp only [opC] at *
      wp_walk using wpAny_loadPart' k1, wpAny_loadPart' k2
      have e1 : xs[((i : Nat) : Int).toNat]? = none := by simp [z1]
      have e2 : ys[((i : Nat) : Int).toNat]? = none := by simp [z2]
      rw [e1, e2]
      wp_walk using wpAny_loadPart' k1, wpAny_loadPart' k2
      first
        | show R (.ok (.ret (.bool (xs.size == ys.size)))) _
        | show R (.ok (.ret (.bool (xs.size != ys.size)))) _
      rw [z1, z2]
      simpa using hR
  | succ j ih =>
    intro i hj hi ha s0 hJ
    obtain ⟨xs, ys, c1, c2, k1, k2, z1, z2, turn⟩ := tw _ hJ
    have l1 : i < xs.size := by omega
    have l2 : i < ys.size := by omega
    have ht := turn i l1 l2
    have e1 : xs[((i : Nat) : Int).toNat]? = some xs[i] := by simp [l1]
    have e2 : ys[((i : Nat) : Int).toNat]? = some ys[i] := by simp [l2]
    have ec : ((i : Int) + 1) = ((i + 1 : Nat) : Int) := by omega
    have ed : (List.range m).drop i = i :: (List.range m).drop (i + 1) := by
      have l3 : i < (List.range m).length := by simp; omega
      have := List.drop_eq_getElem_cons l3
      simpa using this
    obtain ⟨hp, g, d, tk, os⟩ := s0
    cases neg <;>
    · simp only [opC] at *
      wp_walk using wpAny_loadPart' k1, wpAny_loadPart' k2
      rw [e1, e2]
      refine wpAny_bind (wpAny_mono ht (fun r s1 h1 => ?_) fun _ _ z => z)
      obtain ⟨hr, h1⟩ := h1
      subst hr
      cases hf : f i with
      | true =>
        have hrec := ih (i + 1) (by omega) (by omega) (by rw [ha, ed, List.all_cons, hf, Bool.true_and]) s1 h1
        obtain ⟨hp2, g2, d2, tk2, os2⟩ := s1
        wp_walk
        rw [ec]
        exact ⟨plainId_quiet plain_eq_loop _, codeAny_builtin entry_eq_loop (by
          rw [Around.under_plainId plain_eq_loop _]
          exact hrec)⟩
      | false =>
        obtain ⟨us, vs, d1, d2', k3, k4, z3, z4, _⟩ := tw _ h1
        have hR := fin s1 _ h1 rfl
        rw [ha, ed, List.all_cons, hf, Bool.false_and] at hR
        obtain ⟨hp2, g2, d2, tk2, os2⟩ := s1
        have l3 : i < us.size := by omega
        have l4 : i < vs.size := by omega
        have e3 : us[((i : Nat) : Int).toNat]? = some us[i] := by simp [l3]
        have e4 : vs[((i : Nat) : Int).toNat]? = some vs[i] := by simp [l4]
        wp_walk using wpAny_loadPart' k3, wpAny_loadPart' k4
        rw [e3, e4]
        wp_walk
        simpa using hR
theorem list_any (p q : Addr) (m : Nat) (f : Nat → Bool) (neg : Bool) (J : Shared → Prop) (tw : TwoL prog w A (fun e s' => R (.error e) s') p q m f J)
    (fin : ∀ s0 b, J s0 → b = (neg ^^ (List.range m).all f) → R (.ok (.ret (.bool b))) s0) {s0 : Shared} (hJ : J s0) :
    wpAny (model prog w) A.in1 ((if neg then Builtin.«list.__ne__» else Builtin.«list.__eq__») ⟨[.ref p, .ref q], []⟩) (GQ.FinOf prog w A R) (fun e s' => R (.error e) s') s0 := by
  obtain ⟨xs, ys, c1, c2, k1, k2, z1, z2, _⟩ := tw _ hJ
  have hrec := loop_any (A := A) (R := R) p q m f neg J tw fin _ 0 rfl (Nat.zero_le _) (by rw [List.drop_zero]) s0 hJ
  obtain ⟨hp, g, d, tk, os⟩ := s0
  have f3 := AutoSeq1.sub_list_list
  have hne : ¬ (xs.size != ys.size) = true := by simp [z1, z2]
  cases neg with
  | false =>
    rw [if_neg Bool.false_ne_true]
    wp_walk using wpAny_loadPart' k1, wpAny_loadPart' k2
    exact ⟨plainId_quiet plain_eq_loop _, codeAny_builtin entry_eq_loop (by
      rw [Around.under_plainId plain_eq_loop _]
      exact hrec)⟩
  | true =>
    rw [if_pos rfl]
    wp_walk using wpAny_loadPart' k1, wpAny_loadPart' k2
    exact ⟨plainId_quiet plain_eq_loop _, codeAny_builtin entry_eq_loop (by
      rw [Around.under_plainId plain_eq_loop _]
      exact hrec)⟩
theorem tup_any (p q : Addr) (xs ys : Array Value) (c1 c2 : Nat) (o1 o2 : Option Addr) (b1 b2 : Array (Option Value)) (f : Nat → Bool) (neg : Bool) (J : Shared → Prop)
    (turn : ∀ (i : Nat) (h1 : i < xs.size) (h2 : i < ys.size) s0, J s0 → wpAny (model prog w) A.in1 (eqBool xs[i] ys[i]) (fun r s' => r = f i ∧ J s') (fun e s' => R (.error e) s') s0)
    (fin : ∀ s0 b, J s0 → b = (neg ^^ ((List.range (min xs.size ys.size)).all f && xs.size == ys.size)) → R (.ok (.ret (.bool b))) s0) {s0 : Shared}
    (k1 : s0.heap.get? p = some { cls := .type "tuple", dict := o1, data := .seq xs c1, slots := b1 }) (k2 : s0.heap.get? q = some { cls := .type "tuple", dict := o2, data := .seq ys c2, slots := b2 }) (hJ : J s0) :
    wpAny (model prog w) A.in1 ((if neg then Builtin.«tuple.__ne__» else Builtin.«tuple.__eq__») ⟨[.ref p, .ref q], []⟩) (GQ.FinOf prog w A R) (fun e s' => R (.error e) s') s0 := by
  have f2 := AutoSeq1.sub_tuple_tuple
  have hZ : (xs.toList.zip ys.toList).length = min xs.size ys.size := by simp
  have hJ0 := hJ
  obtain ⟨hp, g, d, tk, os⟩ := s0
  cases neg
  case' false => rw [if_neg Bool.false_ne_true]
  case' true => rw [if_pos rfl]
  all_goals
    wp_walk using wpAny_loadPart' k1, wpAny_loadPart' k2, wpAny_forIn_list _ (fun rest b s' => b.1 = none ∧ J s' ∧ ∃ i, rest = (xs.toList.zip ys.toList).drop i ∧ i ≤ min xs.size ys.size ∧
      (List.range (min xs.size ys.size)).all f = ((List.range (min xs.size ys.size)).drop i).all f) _
    case turn =>
      rintro ⟨y, x⟩ rest b s' ⟨hb, hJ', i, hz, hi, ha⟩
      have lt : i < (xs.toList.zip ys.toList).length := by
        rcases Nat.lt_or_ge i (xs.toList.zip ys.toList).length with z | z
        · exact z
        · rw [List.drop_of_length_le z] at hz
          cases hz
      have h0 : i < min xs.size ys.size := hZ ▸ lt
      have h1 : i < xs.size := by omega
      have h2 : i < ys.size := by omega
      have hz' := hz.trans (List.drop_eq_getElem_cons lt)
      injection hz' with e1 e2
      have ey : y = xs[i] := by simpa using congrArg Prod.fst e1
      have ex : x = ys[i] := by simpa using congrArg Prod.snd e1
      subst ey ex
      have ed : (List.range (min xs.size ys.size)).drop i = i :: (List.range (min xs.size ys.size)).drop (i + 1) := by
        have l3 : i < (List.range (min xs.size ys.size)).length := by simpa using h0
        simpa using List.drop_eq_getElem_cons l3
      rw [ed, List.all_cons] at ha
      refine wpAny_bind (wpAny_mono (turn i h1 h2 s' hJ') (fun r s1 q1 => ?_) fun _ _ z => z)
      obtain ⟨hr, q1⟩ := q1
      subst hr
      cases hf : f i with
      | true =>
        rw [hf, Bool.true_and] at ha
        wp_walk
        exact ⟨rfl, q1, i + 1, e2, h0, ha⟩
      | false =>
        rw [hf, Bool.false_and] at ha
        wp_walk
        exact fin _ _ q1 (by rw [ha]; rfl)
    case fin =>
      rintro ⟨r1, r2⟩ s' ⟨hb, hJ', i, hz, hi, ha⟩
      simp only at hb
      subst hb
      have hge : min xs.size ys.size ≤ i := by
        rcases Nat.lt_or_ge i (xs.toList.zip ys.toList).length with z | z
        · have hz' := hz.trans (List.drop_eq_getElem_cons z)
          cases hz'
        · exact hZ ▸ z
      rw [List.drop_of_length_le (by simpa using hge)] at ha
      have hR := fin s' _ hJ' rfl
      rw [ha] at hR
      wp_walk
      simpa [Builtin.Tuple.tupleCompareSizes, bne] using hR
    case h =>
      exact ⟨rfl, hJ0, 0, rfl, Nat.zero_le _, rfl⟩
end
section
variable {prog : Program} {w : World} {A : Around} {E : Value → Shared → Prop} {s0 : Shared} {Q : Value → Shared → Prop}
theorem rc_list_any {p q : Addr} (m : Nat) (f : Nat → Bool) (neg : Bool) (J : Shared → Prop) (hu : A.units < cLine) (tw : TwoL prog w A E p q m f J) (fin : ∀ s1 b, J s1 → b = (neg ^^ (List.range m).all f) → Q (.bool b) s1) (hJ : J s0) :
    wpAny (model prog w) A (richCompare (if neg then .NotEq else .Eq) (.ref p) (.ref q)) Q E s0 := by
  obtain ⟨xs, ys, c1, c2, k1, k2, _, _, _⟩ := tw _ hJ
  have go := list_any (R := wants (fun v s' => v ≠ .notImplemented ∧ Q v s') E) p q m f neg J tw (fun s1 b h1 h2 => ⟨(fun z => nomatch z), fin s1 b h1 h2⟩) hJ
  cases neg with
  | false => exact wpAny_richCompare_same_room (op := .Eq) ⟨_, k1, rfl⟩ ⟨_, k2, rfl⟩ F.slot_list_eq (GQ.call_here F.slot_list_eq ⟨_, k1, rfl⟩ F.entry_list_eq (F.args_list_eq_2 _ _) go) hu
  | true => exact wpAny_richCompare_same_room (op := .NotEq) ⟨_, k1, rfl⟩ ⟨_, k2, rfl⟩ F.slot_list_ne (GQ.call_here F.slot_list_ne ⟨_, k1, rfl⟩ F.entry_list_ne (F.args_list_ne_2 _ _) go) hu
theorem rc_tup_any {p q : Addr} {xs ys : Array Value} (f : Nat → Bool) (neg : Bool) (J : Shared → Prop) (hu : A.units < cLine) (h1 : s0.heap.IsTuple p xs) (h2 : s0.heap.IsTuple q ys)
    (turn : ∀ (i : Nat) (h1 : i < xs.size) (h2 : i < ys.size) s1, J s1 → wpAny (model prog w) A.in1 (eqBool xs[i] ys[i]) (fun r s' => r = f i ∧ J s') E s1)
    (fin : ∀ s1 b, J s1 → b = (neg ^^ ((List.range (min xs.size ys.size)).all f && xs.size == ys.size)) → Q (.bool b) s1) (hJ : J s0) :
    wpAny (model prog w) A (richCompare (if neg then .NotEq else .Eq) (.ref p) (.ref q)) Q E s0 := by
  obtain ⟨⟨t1, o1, a1, b1⟩, k1, e1, n1, e2⟩ := id h1
  obtain ⟨⟨t2, o2, a2, b2⟩, k2, e3, n2, e4⟩ := id h2
  simp only at e1 e2 e3 e4
  subst e1 e2 e3 e4
  have go := tup_any (R := wants (fun v s' => v ≠ .notImplemented ∧ Q v s') E) p q xs ys n1 n2 o1 o2 b1 b2 f neg J turn (fun s1 b h1 h2 => ⟨(fun z => nomatch z), fin s1 b h1 h2⟩) k1 k2 hJ
  cases neg with
  | false => exact wpAny_richCompare_same_room (op := .Eq) ⟨_, k1, rfl⟩ ⟨_, k2, rfl⟩ F.slot_tuple_eq (GQ.call_here F.slot_tuple_eq ⟨_, k1, rfl⟩ F.entry_tuple_eq (F.args_tuple_eq_2 _ _) go) hu
  | true => exact wpAny_richCompare_same_room (op := .NotEq) ⟨_, k1, rfl⟩ ⟨_, k2, rfl⟩ F.slot_tuple_ne (GQ.call_here F.slot_tuple_ne ⟨_, k1, rfl⟩ F.entry_tuple_ne (F.args_tuple_ne_2 _ _) go) hu
end
end AL
namespace AL
open PySem PySem.Spec PyProof.Rows L2 LamX JW
mutual
def eqDD : D → D → Option Bool
  | .tup l, .tup m => (eqDL l m).map fun b => b && l.length == m.length
  | .tree t, .tree u => some (decide (t = u))
  | d, e => if flatB d && flatB e then some (eqV (vD d) (vD e)) else none
/-- item by item, as far as both go -/
def eqDL : List D → List D → Option Bool
  | d :: ds, e :: es => match eqDD d e, eqDL ds es with
    | some a, some b => some (a && b)
    | _, _ => none
  | _, _ => some true
end
mutual
def depD : D → Nat
  | .tup l => depDL l + 1
  | _ => 0
def depDL : List D → Nat
  | [] => 0
  | d :: ds => max (depD d) (depDL ds)
end
theorem eqDL_get : ∀ {l m : List D} {b : Bool}, eqDL l m = some b → ∃ f : Nat → Bool, (∀ (i : Nat) d e, l[i]? = some d → m[i]? = some e → eqDD d e = some (f i)) ∧ b = (List.range (min l.length m.length)).all f
  | [], m, b, h => by
    simp only [eqDL, Option.some.injEq] at h
    exact ⟨fun _ => true, fun i d e h1 => by simp at h1, by simp [← h]⟩
  | d :: ds, [], b, h => by
    simp only [eqDL, Option.some.injEq] at h
    exact ⟨fun _ => true, fun i d e _ h2 => by simp at h2, by simp [← h]⟩
  | d :: ds, e :: es, b, h => by
    simp only [eqDL] at h
    split at h
    · rename_i a b' h1 h2
      obtain ⟨f, hf, hb⟩ := eqDL_get h2
      refine ⟨fun i => match i with | 0 => a | i + 1 => f i, fun i d' e' g1 g2 => ?_, ?_⟩
      · cases i with
        | zero =>
          simp at g1 g2
          subst g1 g2
          exact h1
        | succ i =>
          simp at g1 g2
          exact hf i d' e' g1 g2
      · have := Option.some.inj h
        subst this
        rw [List.length_cons, List.length_cons, Nat.add_min_add_right, List.range_succ_eq_map, List.all_cons, List.all_map, hb]
        rfl
    · cases h
theorem depDL_get : ∀ {l : List D} {i : Nat} {d : D}, l[i]? = some d → depD d ≤ depDL l
  | [], i, d, h => by simp at h
  | x :: xs, 0, d, h => by
    simp at h
    subst h
    simp only [depDL]
    omega
  | x :: xs, i + 1, d, h => by
    have := depDL_get (l := xs) (i := i) (by simpa using h)
    simp only [depDL]
    omega
theorem ftn_fun {C : Addr} {H : Hp} {t u : T} {v : V} (h1 : Ftn C H t v) (h2 : Ftn C H u v) : t = u := by
  obtain ⟨a, dx, b, n, vs, rfl, e1, _⟩ := ftn_iff.mp h1
  obtain ⟨a2, dx2, b2, n2, vs2, ea, e2, _⟩ := ftn_iff.mp h2
  cases ea
  rw [e1] at e2
  have e3 := HO.ins.inj (Option.some.inj e2)
  have e4 : some (V.str (tx t)) = some (V.str (tx u)) := by rw [← fl_w (t := t) (b := b) (n := n), ← fl_w (t := u) (b := b2) (n := n2), e3.2.2]
  exact tx_inj (V.str.inj (Option.some.inj e4))
theorem eqV_self : ∀ {x : V}, flatV x = true → eqV x x = true
  | .non, _ => rfl
  | .bl b, _ => by simp [eqV]
  | .int i, _ => by simp [eqV]
  | .str z, _ => by simp [eqV]
  | .byt _, h => by cases h
  | .flt _, h => by cases h
  | .ref _, h => by cases h
  | .ty _, h => by cases h
section
variable {X : Cx} {c : AC X.K} {H : Hp} {pins : List (Addr × Obj)} {σ : L2.St} {s : Shared}
mutual
theorem eq_same (I : L2.Inv X pins σ H s) : ∀ (d e : D) (v : V) (b : Bool), Rep c H d v → Rep c H e v → eqDD d e = some b → b = true
  | .tup l, .tup m, v, b, r1, r2, h => by
    obtain ⟨p, vs, rfl, e1, rs⟩ := rep_tup.mp r1
    obtain ⟨q, ws, e, e2, rs2⟩ := rep_tup.mp r2
    cases e
    have : vs = ws := I.tuple_inj e1 e2
    subst this
    simp only [eqDD, Option.map_eq_some_iff] at h
    obtain ⟨b', h1, rfl⟩ := h
    have hl : l.length = m.length := by rw [← rs.len, ← rs2.len]
    rw [eqL_same I l m vs b' rs rs2 h1, hl]
    simp
  | .tree t, .tree u, v, b, r1, r2, h => by
    simp only [eqDD, Option.some.injEq] at h
    rw [← h, ftn_fun (rep_tree.mp r1) (rep_tree.mp r2)]
    simp
  | d, e, v, b, r1, r2, h => by
    by_cases hf : (flatB d && flatB e) = true
    · have hf' := Bool.and_eq_true_iff.mp hf
      obtain ⟨e1, f1⟩ := flat_low r1 hf'.1
      obtain ⟨e2, f2⟩ := flat_low r2 hf'.2
      have hs := eqV_self f1
      have hb : eqDD d e = some (eqV (vD d) (vD e)) := by
        unfold eqDD
        split
        · cases hf'.1
        · cases hf'.1
        · rw [if_pos hf]
      rw [hb, ← e1, ← e2] at h
      rw [hs] at h
      exact (Option.some.inj h).symm
    · have hn : ∀ l m, ¬ (d = .tup l ∧ e = .tup m) ∨ True := fun _ _ => .inr trivial
      cases d <;> cases e <;> first
        | (simp [eqDD, flatB] at h; done)
        | (exact absurd rfl hf)
        | (obtain ⟨p, vs, rfl, e1, rs⟩ := rep_tup.mp r1
           obtain ⟨q, ws, e, e2, rs2⟩ := rep_tup.mp r2
           cases e
           have : vs = ws := I.tuple_inj e1 e2
           subst this
           simp only [eqDD, Option.map_eq_some_iff] at h
           obtain ⟨b', h1, rfl⟩ := h
           rw [eqL_same I _ _ vs b' rs rs2 h1, ← rs.len, ← rs2.len]
           simp)
        | (simp only [eqDD, Option.some.injEq] at h
           rw [← h, ftn_fun (rep_tree.mp r1) (rep_tree.mp r2)]
           simp)
theorem eqL_same (I : L2.Inv X pins σ H s) : ∀ (l m : List D) (vs : List V) (b : Bool), RepL c H l vs → RepL c H m vs → eqDL l m = some b → b = true
  | [], m, vs, b, _, _, h => by simpa [eqDL] using h.symm
  | d :: ds, [], vs, b, _, _, h => by simpa [eqDL] using h.symm
  | d :: ds, e :: es, vs, b, r1, r2, h => by
    obtain ⟨v, ws, rfl, a1, a2⟩ := repL_cons.mp r1
    obtain ⟨v', ws', e1, b1, b2⟩ := repL_cons.mp r2
    injection e1 with e1 e2
    subst e1 e2
    simp only [eqDL] at h
    split at h
    · rename_i x y h1 h2
      have := Option.some.inj h
      rw [← this, eq_same I d e v x a1 b1 h1, eqL_same I ds es ws y a2 b2 h2]
      rfl
    · cases h
end
end
section
variable {X : Cx} {c : AC X.K} {k : Nat} {ps : List Str} {H : Hp} {σ : L2.St} {pins : List (Addr × Obj)}
abbrev MEq (X : Cx) (k : Nat) (ps : List Str) : Prop := MethD X.prog X.w X.K X.mg X.base CX0 k (cF X.K) "__eq__" ps [] (spEqF X.K)
theorem rcF_run (M : MEq X k ps) {A : Around} {s : Shared} {t u : T} {x y : V} {v w : Value} (sb : Sub X k A) (I : Inv X pins σ H s) (rx : RelV x v) (ry : RelV y w) (h1 : Ftn (cF X.K) H t x) (h2 : Ftn (cF X.K) H u y) :
    wpAny (model X.prog X.w) A (richCompare .Eq v w) (fun r s' => r = .bool (decide (t = u)) ∧ Inv X pins σ H s') X.xe s := by
  obtain ⟨a, dx, fs, rfl, ha⟩ := ftn_ins h1
  obtain ⟨b, dy, gs, rfl, hb⟩ := ftn_ins h2
  cases rx
  cases ry
  obtain ⟨f, fd, ds, hm, hbd, hd, F⟩ := M.ex
  cases hd
  obtain ⟨mA, J, _⟩ := ins_get I.hok ha
  obtain ⟨mB, J', _⟩ := ins_get I.hok hb
  obtain ⟨od, J, _⟩ := J.look
  obtain ⟨od', J', _⟩ := J'.look
  obtain ⟨m, hF⟩ := I.fr
  refine PySem.W.cmp_K (op := .Eq) (tb := .ref (cF X.K)) sb.room.units0 hF I.ok.mod.kin J J'.type (by simp [PySem.W.notFirst]) hm.at_ hm.fn ?_
  have hsp : spEqF X.K [.ref a, .ref b] H (fun v H' => v = .bl (decide (t = u)) ∧ H' = H) (fun _ _ _ => True) := ⟨_, _, t, u, rfl, h1, h2, rfl, rfl⟩
  have e0 : Env0 X.prog X.w X.K X.mg X.base A X.stack s H := by
    have e := I.env0
    exact ⟨sb.fr.trans e.frames, e.mod, e.bs, e.bsz, e.funs, e.frf, e.hok, e.bare⟩
  have hl : ([Value.ref a, Value.ref b] ++ []).length = ps.length := by
    rw [← F.len _ _ _ _ hsp]
    rfl
  refine wpAny_call (codeAny_mono (F.run A X.stack s H ⟨[.ref a, .ref b], []⟩ [.ref a, .ref b] [.ref a, .ref b] _ (fun _ _ _ => True) sb.room e0 (by
    have := hbd s [.ref a, .ref b] I.kIn hl
    simpa using this) (.cons rfl (.cons rfl .nil)) hsp) fun r s' hq => ?_)
  cases r with
  | error er => exact False.elim hq
  | ok fl =>
    cases fl with
    | ret z =>
      obtain ⟨x', H', I', rz, ez, eh⟩ := I.after hq
      subst ez eh
      cases rz
      exact ⟨rfl, I'⟩
    | next => exact False.elim hq
    | brk => exact False.elim hq
    | cont => exact False.elim hq
theorem sub_in1 {n : Nat} {A : Around} (s : Sub X (n + 1) A) : Sub X n A.in1 := s.in1
theorem eq_run (M : MEq X k ps) : ∀ (n : Nat) (d e : D) (b : Bool), depD d ≤ n → eqDD d e = some b → ∀ {A : Around} {s : Shared} {x y : V} {v w : Value}, Sub X (k + 2 + n) A → Inv X pins σ H s → RelV x v → RelV y w → Rep c H d x → Rep c H e y →
    wpAny (model X.prog X.w) A (eqBool v w) (fun r s' => r = b ∧ Inv X pins σ H s') X.xe s := by
  intro n
  induction n with
  | zero =>
    intro d e b hd h A s x y v w sb I rx ry r1 r2
    by_cases hf : (flatB d && flatB e) = true
    · have hf' := Bool.and_eq_true_iff.mp hf
      obtain ⟨e1, f1⟩ := flat_low r1 hf'.1
      obtain ⟨e2, f2⟩ := flat_low r2 hf'.2
      have hb : eqDD d e = some (eqV (vD d) (vD e)) := by
        unfold eqDD
        split
        · cases hf'.1
        · cases hf'.1
        · rw [if_pos hf]
      rw [hb] at h
      have hv := eqAt_V (A := A) (s := s) rx ry f1 f2
      rw [e1, e2, Option.some.inj h] at hv
      exact hv X.prog X.w X.xe _ ⟨rfl, I⟩
    · unfold eqDD at h
      split at h
      · simp only [depD] at hd
        omega
      · rename_i t u
        have h1 := rep_tree.mp r1
        have h2 := rep_tree.mp r2
        have hb := Option.some.inj h
        obtain ⟨p, dx, fs, rfl, _⟩ := ftn_ins h1
        obtain ⟨q, dy, gs, rfl, _⟩ := ftn_ins h2
        cases rx
        cases ry
        by_cases hpq : p = q
        · subst hpq
          have : t = u := ftn_fun h1 h2
          exact SeqAt.EqAt.same (A := A) (s := s) (.ref p) X.prog X.w X.xe _ ⟨by rw [← hb]; simp [this], I⟩
        · refine GQ.eqBool_refG hpq (wpAny_mono (rcF_run (x := .ref p) (y := .ref q) M (sb.mono (by omega)) I rfl rfl h1 h2) (fun r s' z => ?_) fun _ _ z => z)
          obtain ⟨er, I'⟩ := z
          exact ⟨_, er, hb, I'⟩
      · rw [if_neg hf] at h
        cases h
  | succ n ih =>
    intro d e b hd h A s x y v w sb I rx ry r1 r2
    by_cases h0 : depD d ≤ n
    · exact ih d e b h0 h (sb.mono (by omega)) I rx ry r1 r2
    · cases d with
      | tup l =>
        cases e with
        | tup m =>
          obtain ⟨p, vs, rfl, e1, rs⟩ := rep_tup.mp r1
          obtain ⟨q, ws, rfl, e2, rs2⟩ := rep_tup.mp r2
          cases rx
          cases ry
          by_cases hpq : p = q
          · subst hpq
            exact SeqAt.EqAt.same (A := A) (s := s) (.ref p) X.prog X.w X.xe _ ⟨(eq_same I _ _ _ b r1 r2 h).symm, I⟩
          · refine GQ.eqBool_refG hpq ?_
            simp only [eqDD, Option.map_eq_some_iff] at h
            obtain ⟨b', h1, hb⟩ := h
            obtain ⟨f, hf, hb'⟩ := eqDL_get h1
            obtain ⟨its, rv, t1, _⟩ := I.tuple e1
            obtain ⟨its2, rv2, t2, _⟩ := I.tuple e2
            have z1 : its.toArray.size = l.length := by rw [List.size_toArray, ← rv.length, rs.len]
            have z2 : its2.toArray.size = m.length := by rw [List.size_toArray, ← rv2.length, rs2.len]
            have hd' : depDL l ≤ n := by
              simp only [depD] at hd
              omega
            refine rc_tup_any f false (fun s' => Inv X pins σ H s') sb.room.units0 t1 t2 (fun i i1 i2 s1 I1 => ?_) (fun s1 b1 I1 eb => ⟨b1, rfl, ?_, I1⟩) I
            · have j1 : i < l.length := by omega
              have j2 : i < m.length := by omega
              have g1 := List.getElem?_eq_getElem j1
              have g2 := List.getElem?_eq_getElem j2
              obtain ⟨x1, x2, x3⟩ := rs.get g1
              obtain ⟨y1, y2, y3⟩ := rs2.get g2
              obtain ⟨u1, u2, u3⟩ := rv.get x2
              obtain ⟨w1, w2, w3⟩ := rv2.get y2
              have q1 : its.toArray[i] = u1 := by
                have j3 : i < its.length := by simpa using i1
                rw [List.getElem?_eq_getElem j3] at u2
                simpa using u2
              have q2 : its2.toArray[i] = w1 := by
                have j3 : i < its2.length := by simpa using i2
                rw [List.getElem?_eq_getElem j3] at w2
                simpa using w2
              rw [q1, q2]
              exact ih _ _ _ (Nat.le_trans (depDL_get g1) hd') (hf i _ _ g1 g2) (sub_in1 sb) I1 u3 w3 x3 y3
            · rw [eb, z1, z2, ← hb, hb', Bool.false_xor]
        | _ => simp [eqDD, flatB] at h
      | _ => exact absurd (Nat.zero_le _) h0
theorem items_run (M : MEq X k ps) {n : Nat} {l m : List D} (hd : depDL l ≤ n) {f : Nat → Bool} (hf : ∀ (i : Nat) d e, l[i]? = some d → m[i]? = some e → eqDD d e = some (f i)) {A : Around} (sb : Sub X (k + 2 + (n + 1)) A) {vs ws : List V} {its its2 : List Value}
    (rs : RepL c H l vs) (rs2 : RepL c H m ws) (rv : Vals vs its) (rv2 : Vals ws its2) (i : Nat) (i1 : i < its.toArray.size) (i2 : i < its2.toArray.size) {s1 : Shared} (I1 : Inv X pins σ H s1) :
    wpAny (model X.prog X.w) A.in1 (eqBool its.toArray[i] its2.toArray[i]) (fun r s' => r = f i ∧ Inv X pins σ H s') X.xe s1 := by
  have j1 : i < l.length := by
    have := i1
    rw [List.size_toArray, ← rv.length, rs.len] at this
    exact this
  have j2 : i < m.length := by
    have := i2
    rw [List.size_toArray, ← rv2.length, rs2.len] at this
    exact this
  have g1 := List.getElem?_eq_getElem j1
  have g2 := List.getElem?_eq_getElem j2
  obtain ⟨x1, x2, x3⟩ := rs.get g1
  obtain ⟨y1, y2, y3⟩ := rs2.get g2
  obtain ⟨u1, u2, u3⟩ := rv.get x2
  obtain ⟨w1, w2, w3⟩ := rv2.get y2
  have q1 : its.toArray[i] = u1 := by
    have j3 : i < its.length := by simpa using i1
    rw [List.getElem?_eq_getElem j3] at u2
    simpa using u2
  have q2 : its2.toArray[i] = w1 := by
    have j3 : i < its2.length := by simpa using i2
    rw [List.getElem?_eq_getElem j3] at w2
    simpa using w2
  rw [q1, q2]
  exact eq_run M n _ _ _ (Nat.le_trans (depDL_get g1) hd) (hf i _ _ g1 g2) (sub_in1 sb) I1 u3 w3 x3 y3
def eqSq (neg : Bool) (l m : List D) (L : Store) (Q : AQ) : Prop := ∃ b, eqDL l m = some b ∧ depDL l ≤ 70 ∧ Q (.bl (neg ^^ (b && l.length == m.length))) L
def eqG (neg : Bool) : D → D → Store → AQ → Prop
  | .ref p, .ref q, L, Q => ∃ l m, L p = some (.lst l) ∧ L q = some (.lst m) ∧ eqSq neg l m L Q
  | .tup l, .tup m, L, Q => eqSq neg l m L Q
  | d, e, L, Q => eqD neg d e L Q
def rSq (neg : Bool) (c : AC X.K) : R2 := fun x y H Q => ∃ p q vs ws l m b, x = .ref p ∧ y = .ref q ∧ RepL c H l vs ∧ RepL c H m ws ∧ eqDL l m = some b ∧ depDL l ≤ 70 ∧ ((H p = some (.lst vs) ∧ H q = some (.lst ws)) ∨ (SqT X.K H p vs ∧ SqT X.K H q ws)) ∧ Q (.bl (neg ^^ (b && l.length == m.length))) H
theorem op_sq (M : MEq X k ps) (neg : Bool) (hr : Room (k + 73) X.A) : OpR X (fun a b => richCompare (if neg then .NotEq else .Eq) a b) (rSq neg c) := by
  intro pins s σ H x y v u Q I rx ry h
  obtain ⟨p, q, vs, ws, l, m, b, rfl, rfl, rs, rs2, h1, hd, ho, hq⟩ := h
  cases rx
  cases ry
  obtain ⟨f, hf, hb⟩ := eqDL_get h1
  have sb : Sub X (k + 2 + (70 + 1)) X.A := ⟨hr, rfl⟩
  have fin : ∀ {s1 : Shared} {b1 : Bool}, Inv X pins σ H s1 → b1 = (neg ^^ (b && l.length == m.length)) → EP X pins σ Q (.bool b1) s1 := fun I1 e => by
    subst e
    exact ⟨.bl _, H, I1, rfl, hq⟩
  rcases ho with ⟨e1, e2⟩ | ⟨e1, e2⟩
  · obtain ⟨its, rv, ⟨o1, c1, o2, o3, o4, o5⟩, _⟩ := I.list (SqL.of e1)
    obtain ⟨its2, rv2, _, _⟩ := I.list (SqL.of e2)
    by_cases hlm : l.length = m.length
    · refine rc_list_any l.length f neg (fun s' => Inv X pins σ H s') sb.room.units0 (fun s0 I0 => ?_) (fun s1 b1 I1 eb => fin I1 ?_) I
      · obtain ⟨z, us, n1, r1, k1⟩ := I0.hok p _ e1
        obtain ⟨z2, us2, n2, r2, k2⟩ := I0.hok q _ e2
        exact ⟨us.toArray, us2.toArray, n1, n2, k1, k2, by rw [List.size_toArray, ← r1.length, rs.len], by rw [List.size_toArray, ← r2.length, rs2.len, hlm], fun i i1 i2 => items_run M hd hf sb rs rs2 r1 r2 i i1 i2 I0⟩
      · rw [eb, hb, hlm, Nat.min_self]
        simp
    · obtain ⟨z, us, n1, r1, k1⟩ := I.hok p _ e1
      obtain ⟨z2, us2, n2, r2, k2⟩ := I.hok q _ e2
      have hne : (us.toArray.size != us2.toArray.size) = true := by
        rw [List.size_toArray, List.size_toArray, ← r1.length, ← r2.length, rs.len, rs2.len]
        simpa using hlm
      have hf0 : (l.length == m.length) = false := by simpa using hlm
      cases neg with
      | false => exact SeqAt.RcAt.lists_lengths ⟨_, k1, rfl, n1, rfl⟩ ⟨_, k2, rfl, n2, rfl⟩ hne sb.room.units0 _ _ _ _ (fin I (by rw [hf0]; simp))
      | true => exact SeqAt.RcNeAt.lists_lengths ⟨_, k1, rfl, n1, rfl⟩ ⟨_, k2, rfl, n2, rfl⟩ hne sb.room.units0 _ _ _ _ (fin I (by rw [hf0]; simp))
  · obtain ⟨its, rv, t1, _⟩ := I.tuple e1
    obtain ⟨its2, rv2, t2, _⟩ := I.tuple e2
    have z1 : its.toArray.size = l.length := by rw [List.size_toArray, ← rv.length, rs.len]
    have z2 : its2.toArray.size = m.length := by rw [List.size_toArray, ← rv2.length, rs2.len]
    refine rc_tup_any f neg (fun s' => Inv X pins σ H s') sb.room.units0 t1 t2 (fun i i1 i2 s1 I1 => items_run M hd hf sb rs rs2 rv rv2 i i1 i2 I1) (fun s1 b1 I1 eb => fin I1 ?_) I
    rw [eb, z1, z2, hb]
theorem eqG_low {neg : Bool} {r1 : R2} (h1 : LowR2 c r1 (eqD neg)) : LowR2 c (fun x y H Q => r1 x y H Q ∨ rSq neg c x y H Q) (eqG neg) := by
  intro x y H Q d e L R rx ry g h pq
  unfold eqG at h
  split at h
  · obtain ⟨l, m, e1, e2, b, h2, h3, h4⟩ := h
    obtain ⟨vs, e3, rs⟩ := good_lst g e1
    obtain ⟨ws, e4, rs2⟩ := good_lst g e2
    exact .inr ⟨_, _, vs, ws, l, m, b, rep_ref.mp rx, rep_ref.mp ry, rs, rs2, h2, h3, .inl ⟨e3, e4⟩, pq.here h4 g (rep_bl.mpr rfl)⟩
  · obtain ⟨b, h2, h3, h4⟩ := h
    obtain ⟨p, vs, rfl, e3, rs⟩ := rep_tup.mp rx
    obtain ⟨q, ws, rfl, e4, rs2⟩ := rep_tup.mp ry
    exact .inr ⟨p, q, vs, ws, _, _, b, rfl, rfl, rs, rs2, h2, h3, .inr ⟨e3, e4⟩, pq.here h4 g (rep_bl.mpr rfl)⟩
  · exact .inl (h1 x y H Q d e L R rx ry g h pq)
theorem aop_eqG (M : MEq X k ps) (hr : Room (k + 73) X.A) (hu : X.A.units + 64 < cLine) : AOp X c (compareOp .Eq) (eqG false) := by
  obtain ⟨r, h1, h2⟩ := (aop_eq (c := c) M (hr.mono (by omega)) hu).ex
  exact .mk' (h1.or (op_sq M false hr)) (eqG_low h2)
theorem aop_neG (cl : ClsF X.K X.mg) (M : MEq X k ps) (hr : Room (k + 73) X.A) (hu : X.A.units + 64 < cLine) : AOp X c (compareOp .NotEq) (eqG true) := by
  obtain ⟨r, h1, h2⟩ := (aop_ne (c := c) cl M (hr.mono (by omega)) hu).ex
  exact .mk' (h1.or (op_sq M true hr)) (eqG_low h2)
end
end AL
namespace AL
open PySem PySem.Spec PyProof.Rows L2 LamX JW
section
variable {X : Cx} {c : AC X.K} {H0 : Hp} {e : Expr} {a : ATE} {pos : Pos} {k : Nat} {f : Str}
theorem av (i : Nat) {x : Str} (hN : X.N[i]? = some x := by rfl) (hv : Vis X.env.scope x := by first | exact Or.inl rfl | exact Or.inr (Or.inl rfl) | exact Or.inr (Or.inr rfl)) (hd : (x == ("__debug__" : Str)) = false := by decide) (hcd : (x == ("__classdict__" : Str)) = false := by decide) : AE X c H0 (.Name x pos) (aVar i) := ae_var hN hv hd hcd
theorem ae_propG (g : T → D) {fV : T → V} (hg : ∀ H t, Rep c H (g t) (fV t)) (cl : Cls X.K (cF X.K)) (M : PropD X.prog X.w X.K X.mg X.base CX0 k (cF X.K) f (spV X.K fV)) (hr : Room (k + 1) X.A) (he : AE X c H0 e a) (hab : attributeBase e f X.env (eval e X.env) = eval e X.env) : AE X c H0 (.Attribute e f pos) (aProp g a) := ae_prop cl M hg hr he hab
def aPar3 (i j l : Nat) (as : ATA) : ATS := fun D env L => as env L fun ds L1 => match ds with
  | [d, e, f] => D.nx (((env.set i (some d)).set j (some e)).set l (some f)) L1
  | _ => False
end
section
variable {X : Cx} {c : AC X.K} {H0 : Hp} {e f g : Expr} {a : ATE} {as : ATA} {pos : Pos}
theorem as_par3 {i j l : Nat} {x y z : Str} {px py pz pt pos : Pos} {kt k2 pt2} (hc : X.calm = true) (hN : X.N.Nodup) (hi : X.N[i]? = some x) (hj : X.N[j]? = some y) (hl : X.N[l]? = some z) (hij : i ≠ j) (hil : i ≠ l) (hjl : j ≠ l)
    (hx : X.env.scope.names.lookup x = some .local) (hy : X.env.scope.names.lookup y = some .local) (hz : X.env.scope.names.lookup z = some .local) (ha : AA X c H0 [e, f, g] as)
    (hw : swappedStores [.Tuple [.Name x px, .Name y py, .Name z pz] kt pt] (.Tuple [e, f, g] k2 pt2) X.env = pure (some [x, y, z]))
    (hs : swapsWithSole [.Tuple [.Name x px, .Name y py, .Name z pz] kt pt] (.Tuple [e, f, g] k2 pt2) pos.line X.env = pure false := by rfl) :
    AS X c H0 (.Assign [.Tuple [.Name x px, .Name y py, .Name z pz] kt pt] (.Tuple [e, f, g] k2 pt2) pos) (aPar3 i j l as) := by
  refine (ps_par3 hc hN hi hj hl hij hil hjl hx hy hz ha hw hs).imp fun D σ H ⟨env, L, R, rl, h, er⟩ => ?_
  refine ⟨env, L, _, rl, h, fun ds L1 vs H1 q s g1 r => ?_⟩
  split at q
  · rename_i d1 d2 d3
    obtain ⟨u, rs, rfl, r1, r2⟩ := repL_cons.mp r
    obtain ⟨v, w, rfl, r3, r4⟩ := repL_two r2
    exact ⟨u, v, w, rfl, er.nx _ L1 _ H1 q s ⟨(((rl.env.fr s).set i r1).set j r3).set l r4, g1, rl.fr.trans s⟩⟩
  · exact q.elim
def negD : D → Store → AQ → Prop
  | .int i, L, Q => Q (.int (-i)) L
  | _, _, _ => False
theorem ae_neg (h : AE X c H0 e a) : AE X c H0 (.UnaryOp .USub e pos) (aUn negD a) := by
  refine ae_un (f' := negD) un_neg (fun x H Q d L R rx g q pq => ?_) h
  unfold negD at q
  split at q
  · rename_i i
    exact ⟨i, rep_int.mp rx, pq.here q g (rep_int.mpr rfl)⟩
  · exact q.elim
end
theorem law_low {K : PySem.W.Frag} {c : AC K} {H : Hp} {a : ATS} {p : Addr} {ns : List Int} {N : List Str} {Q : VK} (hs : c.scr = some (p, ns)) (hl : ns.length ≤ 63) (hS : SqL K H p (ns.map V.int)) (hT : Tabs c.TT H) (k : ∀ H', Q (.bl true) H')
    (vc : a (fnEnds fun d _ => d = .bl true) (startA N [.scr]) law0) : lowS c H a { nx := fun _ H' => Q .non H', rt := Q } (L2.start N [.ref p]) H :=
  body_low (.one (rep_scr.mpr ⟨p, ns, hs, rfl⟩)) (good_law hs hl hS hT) (fun d L' v H' e s g r => by
    subst e
    rw [rep_bl.mp r]
    exact k H') vc
def feedM : MO := .opq fun o => ∃ a b c : Int, o = .dK (feedD a b c)
theorem feed_at {K : PySem.W.Frag} {c : AC K} {H : Hp} {L : Store} {d : Addr} (g : Good c L H) (e : L d = some feedM) : FeedAt H d := by
  obtain ⟨o, e1, ⟨x, y, z, rfl⟩, _⟩ := g.st d _ e
  exact ⟨x, y, z, e1⟩
theorem feed_m {K : PySem.W.Frag} {c : AC K} {H : Hp} {d : Addr} (h : FeedAt H d) : MRep c H d feedM := by
  obtain ⟨x, y, z, e⟩ := h
  exact ⟨_, e, ⟨x, y, z, rfl⟩, fun z => z, fun _ z => (by cases z), fun _ z => (by cases z), fun _ ⟨_, _, _, z⟩ => (by cases z)⟩
end AL
namespace AL
open PySem PySem.Spec PyProof.Rows L2 LamX JW
theorem depDL_map {α : Type} {f : α → D} (h : ∀ a, depD (f a) = 0) : ∀ l : List α, depDL (l.map f) = 0
  | [] => rfl
  | a :: l => by
    show max (depD (f a)) (depDL (l.map f)) = 0
    rw [h a, depDL_map h l]
    rfl
def atVia (t : ATT) : ATT := fun env L Q => ∃ R : Bool → Store → Prop, t env L R ∧ ∀ k l, R k l → Q k l
section
variable {X : Cx} {c : AC X.K} {H0 : Hp} {e : Expr} {t : ATT}
theorem at_via (ha : AT X c H0 e t) : AT X c H0 e (atVia t) := by
  refine ha.imp fun σ H Q ⟨env, L, R, rl, ⟨N, h1, h2⟩, pq⟩ => ?_
  exact ⟨env, L, N, rl, h1, fun k L1 H1 q s1 g1 => pq _ _ _ (h2 k L1 q) s1 g1⟩
end
end AL
namespace L2
open PySem PySem.Spec PyProof.Rows JW
section
variable {X : Cx} {CX : CXT} {k : Nat} {ps : List Str} {sp : Sp} {dvs : List V} {E : XK} {x : Str} {p pos : Pos} {e : Expr} {es : List Expr} {t : TA} {a b : Expr} {ta tb : TE} {tA : TT}
theorem PSsT.nox {st : List Stmt} {t : TS} (h : PSsT X.nox st t) : PSsT X st t := fun pins s σ H D h0 I hw =>
  wpAny_mono (h pins s σ H D h0 (I.wish _) hw) (fun _ _ q => q.unwish) fun _ _ z => False.elim z
end
end L2
namespace AL
open PySem PySem.Spec PyProof.Rows L2 LamX JW
section
variable (X : Cx) (c : AC X.K) (H0 : Hp)
end
section
variable {X : Cx} {c : AC X.K} {H0 : Hp} {e f g : Expr} {es : List Expr} {a b : ATE} {as : ATA} {pos p : Pos} {t : ATT} {st : Stmt} {rest : List Stmt} {s1 s2 : ATS} {k : Nat} {ps : List Str} {x : Str} {asp : ASp}
end
section
variable {P : Program} {w : World} {K : PySem.W.Frag} {mg : Str → Option Value} {base : Heap} {c : AC K} {x m qual : Str} {st : Stmt} {N ps : List Str} {k : Nat} {asp : ASp}
end
end AL
namespace JW
open PySem PySem.Spec PyProof.Rows
end JW
namespace JW
open PySem PySem.Spec PyProof.Rows L2
section
variable {X : Cx} {CX : CXT} {k : Nat} {f : Addr} {fd : FuncData} {ps : List Str} {ds : List Value} {dvs : List V} {sp : Sp} {E : XK} {C : Addr}
end
end JW
namespace AL
open PySem PySem.Spec PyProof.Rows L2 LamX JW
section
variable {X : Cx} {c : AC X.K} {H0 : Hp} {e f : Expr} {a b : ATE} {pos : Pos} {k : Nat} {ps : List Str} {asp : ASp} {qual : Str} {st : Stmt}
end
end AL
namespace JW
end JW
namespace JW
open PySem PySem.Spec PyProof.Rows L2
end JW
namespace GK
open PySem PySem.Spec PyProof.Rows L2 LamX JW AL
def GdV (n : Nat) (u : Value) : Prop := ∀ y t, u = .str y t → t ≠ 0 ∧ t < n
def GdVs (n : Nat) (us : List Value) : Prop := ∀ u ∈ us, GdV n u
theorem GdV.mono {n m : Nat} {u : Value} (h : GdV n u) (k : n ≤ m) : GdV m u := fun y t e => ⟨(h y t e).1, Nat.lt_of_lt_of_le (h y t e).2 k⟩
theorem GdVs.mono {n m : Nat} {us : List Value} (h : GdVs n us) (k : n ≤ m) : GdVs m us := fun u hu => (h u hu).mono k
theorem GdVs.nil {n : Nat} : GdVs n [] := fun _ h => absurd h List.not_mem_nil
theorem GdVs.cons {n : Nat} {u : Value} {us : List Value} (h : GdV n u) (k : GdVs n us) : GdVs n (u :: us) := fun v hv => (List.mem_cons.mp hv).elim (fun e => e ▸ h) (k v)
theorem GdVs.app {n : Nat} {us vs : List Value} (h : GdVs n us) (k : GdVs n vs) : GdVs n (us ++ vs) := fun v hv => (List.mem_append.mp hv).elim (h v) (k v)
def GdL (H : Hp) (s : Shared) : Prop := ∀ p xs o its k, H p = some (.lst xs) → s.heap.get? p = some o → o.data = .seq its k → GdVs s.toks its.toList
def noSt (X : Cx) : L2.St := List.replicate X.N.length none
def FrG (X : Cx) (c : AC X.K) (env : En) (H : Hp) (n : Nat) (m : Str → Option Value) : Prop := ∀ (i : Nat) (d : D), env[i]? = some (some d) → ∃ x v u, X.N[i]? = some x ∧ m x = some u ∧ RelV v u ∧ Rep c H d v ∧ GdV n u
structure SG (X : Cx) (c : AC X.K) (pins : List (Addr × Obj)) (env : En) (L : Store) (H : Hp) (s : Shared) : Prop where
  inv : Inv X pins (noSt X) H s
  fr : ∃ m, s.heap.Ns X.env.locals m ∧ FrG X c env H s.toks m
  len : env.length = X.N.length
  good : Good c L H
  lst : GdL H s
  tk : 1 ≤ s.toks
section
variable {X : Cx} {c : AC X.K} {pins : List (Addr × Obj)} {env : En} {L L' : Store} {H H' : Hp} {s s' : Shared}
theorem FrG.fr {n n' : Nat} {m : Str → Option Value} (h : FrG X c env H n m) (f : AL.Fr c H H') (k : n ≤ n') : FrG X c env H' n' m := fun i d e => by
  obtain ⟨x, v, u, h1, h2, h3, h4, h5⟩ := h i d e
  exact ⟨x, v, u, h1, h2, h3, h4.fr f, h5.mono k⟩
theorem SG.to (S : SG X c pins env L H s) (I : Inv X pins (noSt X) H' s') (hf : ∀ m, s.heap.Ns X.env.locals m → s'.heap.Ns X.env.locals m) (ht : s.toks ≤ s'.toks) (f : AL.Fr c H H') (g : Good c L' H') (l : GdL H' s') : SG X c pins env L' H' s' := by
  obtain ⟨m, h1, h2⟩ := S.fr
  exact ⟨I, ⟨m, hf m h1, h2.fr f ht⟩, S.len, g, l, Nat.le_trans S.tk ht⟩
theorem ns_kept {h h' : Heap} {a : Addr} (k : ∀ b o, h.get? b = some o → h'.get? b = some o) : ∀ m, h.Ns a m → h'.Ns a m := fun m hn => hn.keeps k
theorem gdl_kept {h' : Heap} {t' : Nat} (l : GdL H s) (hk : HOk X.prog X.w H s.heap) (k : ∀ b o, s.heap.get? b = some o → h'.get? b = some o) (ht : s.toks ≤ t') : GdL H { s with heap := h', toks := t' } := fun p xs o its n e1 e2 e3 => by
  obtain ⟨z, us, n', _, e4⟩ := hk p _ e1
  have e5 : h'.get? p = some o := e2
  rw [k _ _ e4] at e5
  cases e5
  exact (l p xs _ its n e1 e4 e3).mono ht
theorem SG.kept {h' : Heap} {t' : Nat} (S : SG X c pins env L H s) (k : ∀ b o, s.heap.get? b = some o → h'.get? b = some o) (ht : s.toks ≤ t') : SG X c pins env L H { s with heap := h', toks := t' } :=
  S.to (S.inv.kept k) (ns_kept k) ht (.refl c H) S.good (gdl_kept S.lst S.inv.hok k ht)
theorem SG.tok {t' : Nat} (S : SG X c pins env L H s) (ht : s.toks ≤ t') : SG X c pins env L H { s with toks := t' } := S.kept (fun _ _ e => e) ht
theorem SG.put {t' : Nat} {l : Addr} {xs ys : List V} {its its' : List Value} {n : Nat} {f : Array Value → Array Value} {ds es : List D} (S : SG X c pins env L H s) (hH : H l = some (.lst xs)) (hL : L l = some (.lst ds)) (e : s.heap.get? l = some { cls := .type "list", data := .seq its.toArray n })
    (hf : f its.toArray = its'.toArray) (hv : Vals ys its') (hz : ys.length ≤ sizeLine) (ht : s.toks ≤ t') (gd : GdVs t' its') (rs : RepL c H es ys) : SG X c pins env (sput L l (.lst es)) (upd H l (.lst ys)) { s with heap := s.heap.update l (Obj.mapSeq f), toks := t' } := by
  have hF : AL.Fr c H (upd H l (.lst ys)) := .put hH fun z => z
  obtain ⟨g, _⟩ := S.good.put (m' := .lst es) hL (.lst ys) ⟨ys, upd_same, rs.fr hF⟩
  have hne : l ≠ X.env.locals := fun z => by
    rw [z, S.inv.free] at hH
    cases hH
  have q := PySem.IsL.update e f
  refine S.to (S.inv.lset hH e hf hv hz) (fun m hm => ?_) ht hF g (fun p zs o us n' e1 e2 e3 => ?_)
  · obtain ⟨o, es', ep, h1, h2⟩ := hm
    exact ⟨o, es', ep, (Heap.get?_update_other s.heap (Obj.mapSeq f) hne).trans h1, h2⟩
  · have e2 : (s.heap.update l (Obj.mapSeq f)).get? p = some o := e2
    by_cases hp : p = l
    · subst hp
      rw [q] at e2
      cases e2
      cases e3
      rw [hf]
      simpa using gd
    · rw [upd_ne hp] at e1
      rw [Heap.get?_update_other s.heap (Obj.mapSeq f) (Ne.symm hp)] at e2
      exact (S.lst p zs o us n' e1 e2 e3).mono ht
theorem SG.list {p : Addr} {ds : List D} (S : SG X c pins env L H s) (h : L p = some (.lst ds)) : ∃ (vs : List V) (its : List Value) (n : Nat), H p = some (.lst vs) ∧ RepL c H ds vs ∧ Vals vs its ∧ vs.length ≤ sizeLine ∧ s.heap.get? p = some { cls := .type "list", data := .seq its.toArray n } ∧ GdVs s.toks its := by
  obtain ⟨vs, e1, rs⟩ := good_lst S.good h
  obtain ⟨z, its, n, r, e⟩ := S.inv.hok p _ e1
  exact ⟨vs, its, n, e1, rs, r, z, e, by simpa using S.lst p vs _ _ n e1 e rfl⟩
end
end GK
namespace GK
open PySem PySem.Spec PyProof.Rows L2 LamX JW AL
section
variable (X : Cx) (c : AC X.K) (pins : List (Addr × Obj)) (env : En) (H : Hp)
def EG (R : AQ) (u : Value) (s' : Shared) : Prop := ∃ d v H' L', SG X c pins env L' H' s' ∧ AL.Fr c H H' ∧ Rep c H' d v ∧ RelV v u ∧ GdV s'.toks u ∧ R d L'
def TGd (R : Bool → Store → Prop) (b : Bool) (s' : Shared) : Prop := ∃ H' L', SG X c pins env L' H' s' ∧ AL.Fr c H H' ∧ R b L'
end
section
variable (X : Cx) (c : AC X.K)
def XT (e : Expr) (t : ATT) : Prop := ∀ pins s env L H R, SG X c pins env L H s → t env L R → wpAny (model X.prog X.w) X.A (isTrue e X.env (eval e X.env)) (TGd X c pins env H R) X.xe s
def XW (e : Expr) (t : ATT) : Prop := ∀ whole pins s env L H R, SG X c pins env L H s → t env L R → wpAny (model X.prog X.w) X.A (isTrue e X.env whole) (TGd X c pins env H R) X.xe s
end
section
variable {X : Cx} {c : AC X.K} {pins : List (Addr × Obj)} {env : En} {L : Store} {H H1 : Hp} {s : Shared} {R : AQ} {e f g : Expr} {a b : ATE} {as : ATA} {es : List Expr} {pos : Pos} {t u' : ATT} {x : Str} {p : Pos}
theorem EG.fr {u : Value} (h : EG X c pins env H1 R u s) (k : AL.Fr c H H1) : EG X c pins env H R u s := by
  obtain ⟨d, v, H', L', S, f, r⟩ := h
  exact ⟨d, v, H', L', S, k.trans f, r⟩
theorem TGd.fr {R : Bool → Store → Prop} {b : Bool} (h : TGd X c pins env H1 R b s) (k : AL.Fr c H H1) : TGd X c pins env H R b s := by
  obtain ⟨H', L', S, f, r⟩ := h
  exact ⟨H', L', S, k.trans f, r⟩
theorem XW.pt (h : XW X c e t) : XT X c e t := h _
end
section
variable {X : Cx} {c : AC X.K}
end
end GK
namespace GK
open PySem PySem.Spec PyProof.Rows L2 LamX JW AL
section
variable {X : Cx} {c : AC X.K} {e f g o : Expr} {a b : ATE} {as : ATA} {es : List Expr} {pos apos cpos p p2 : Pos} {x name : Str} {id : String}
end
end GK
namespace GK
open PySem PySem.Spec PyProof.Rows L2 LamX JW AL
section
variable (X : Cx) (c : AC X.K)
end
section
variable {X : Cx} {c : AC X.K} {e f g o : Expr} {a b : ATE} {as : ATA} {es : List Expr} {pos apos cpos p p2 : Pos} {x name : Str} {id : String} {k' : D → List D → Store → AQ → Prop}
end
end GK
namespace GK
open PySem PySem.Spec PyProof.Rows L2 LamX JW AL
def Zc {K : PySem.W.Frag} (c : AC K) (a : Addr) : Prop := ∃ ns, c.scr = some (a, ns)
def Hd {K : PySem.W.Frag} (c : AC K) (H : Hp) (a : Addr) : Prop := (∃ xs, H a = some (.lst xs)) ∧ ¬ Zc c a
open Classical in
noncomputable def hid {K : PySem.W.Frag} (c : AC K) (H : Hp) : Hp := fun a => if Hd c H a then none else H a
def hidS (L : Store) : Store := fun p => match L p with
  | some (.lst _) => none
  | m => m
section
variable {K : PySem.W.Frag} {c : AC K} {H H1 : Hp} {a : Addr} {o : HO}
theorem hid_of (h : H a = some o) (n : ¬ Hd c H a) : hid c H a = some o := by
  unfold hid
  rw [if_neg n]
  exact h
theorem hid_nl (h : H a = some o) (n : ∀ xs, o ≠ .lst xs) : hid c H a = some o := hid_of h fun ⟨⟨xs, e⟩, _⟩ => by
  rw [h] at e
  cases e
  exact n xs rfl
theorem hid_none (h : H a = none) : hid c H a = none := by
  unfold hid
  split
  · rfl
  · exact h
theorem hid_hd (h : Hd c H a) : hid c H a = none := by
  unfold hid
  rw [if_pos h]
theorem hidS_of {L : Store} {p : Addr} {m : MO} (h : L p = some m) (n : ∀ l, m ≠ .lst l) : hidS L p = some m := by
  unfold hidS
  rw [h]
  cases m with
  | lst xs => exact absurd rfl (n xs)
  | _ => rfl
end
section
variable {K : PySem.W.Frag} {c : AC K} {H H1 : Hp} {L : Store}
theorem imm_nl {o : HO} (h : Imm c o) : ∀ xs, o ≠ .lst xs := fun xs e => by
  subst e
  exact h
theorem fr_hid : AL.Fr c H (hid c H) := fun a o h i => hid_nl h (imm_nl i)
end
section
variable {P : Program} {w : World} {K : PySem.W.Frag} {c : AC K} {L : Store} {H H1 : Hp} {h h' : Heap} {fs : List Addr}
theorem hd_there (hok : HOk P w H h) (hfs : ∀ b ∈ fs, H b = none) (U : Un fs [] (hid c H) H1 h h') {a : Addr} (z : Hd c H a) : ∃ o, h.get? a = some o ∧ H1 a = none ∧ h'.get? a = some o := by
  obtain ⟨⟨xs, e⟩, _⟩ := id z
  obtain ⟨_, its, n, r, e2⟩ := hok a _ e
  refine ⟨_, e2, U.free a _ e2 (hid_hd z) (by simp), U.keep a _ e2 (hid_hd z) (fun hm => ?_) (by simp)⟩
  rw [hfs a hm] at e
  cases e
structure Back (c : AC K) (H H1 H' : Hp) : Prop where
  hd : ∀ a, Hd c H a → H' a = H a
  nl : ∀ a o, H1 a = some o → (∀ xs, o ≠ .lst xs) → H' a = some o
  at_ : ∀ a o, H' a = some o → (Hd c H a ∧ H a = some o) ∨ (¬ Hd c H a ∧ H1 a = some o)
  scr : ∀ a, Zc c a → H' a = H1 a
variable {H' : Hp}
theorem Back.fr1 (B : Back c H H1 H') : AL.Fr c H1 H' := fun a o e i => B.nl a o e (imm_nl i)
theorem Back.un (B : Back c H H1 H') (U : Un fs [] (hid c H) H1 h h') : Un fs [] H H' h h' := by
  refine ⟨fun b o e n hb hx => U.keep b o e (hid_none n) hb hx, fun b o e n hb hx => U.slot b o e (hid_none n) hb hx, fun b o e n hx => ?_, U.there, fun b xs e => ?_, fun b o u e => ?_, fun b ps e => ?_⟩
  · cases e2 : H' b with
    | none => rfl
    | some v =>
      rcases B.at_ b v e2 with ⟨_, z⟩ | ⟨_, z⟩
      · rw [n] at z
        cases z
      · rw [U.free b o e (hid_none n) hx] at z
        cases z
  · exact B.nl _ _ (U.tups b xs (hid_nl e (fun _ z => nomatch z))) (fun _ z => nomatch z)
  · exact B.nl _ _ (U.frzs b o u (hid_nl e (fun _ z => nomatch z))) (fun _ z => nomatch z)
  · obtain ⟨more, e1⟩ := U.tbls b ps (hid_nl e (fun _ z => nomatch z))
    exact ⟨more, B.nl _ _ e1 (fun _ z => nomatch z)⟩
theorem Back.hok (B : Back c H H1 H') (hok : HOk P w H h) (hfs : ∀ b ∈ fs, H b = none) (U : Un fs [] (hid c H) H1 h h') (hk : HOk P w H1 h') : HOk P w H' h' := fun a o e => by
  rcases B.at_ a o e with ⟨z, e1⟩ | ⟨_, e1⟩
  · obtain ⟨⟨xs, e2⟩, _⟩ := id z
    rw [e1] at e2
    cases e2
    obtain ⟨zz, its, n, r, e3⟩ := hok a _ e1
    obtain ⟨o, e4, _, e5⟩ := hd_there hok hfs U z
    rw [e3] at e4
    cases e4
    exact ⟨zz, its, n, r, e5⟩
  · exact (hk a o e1).stay (fun _ _ _ q => q) (fun b q => B.nl _ _ q (fun _ z => nomatch z)) fun b xs q => B.nl _ _ q (fun _ z => nomatch z)
theorem Back.good (B : Back c H H1 H') (hK : ∀ a o, K.lookup a = some o → H a = none) (g0 : Good c L H) (f : AL.Fr c (hid c H) H1) (g : Good c (hidS L) H1) : Good c L H' := by
  have f1 : AL.Fr c H H' := fr_hid.trans (f.trans B.fr1)
  refine ⟨fun q hq => ?_, fun p m e => ?_, fun a ns e => ?_⟩
  · obtain ⟨ps, h1, h2, h3⟩ := g.tabs q hq
    refine ⟨ps, B.nl _ _ h1 (fun _ z => nomatch z), h2, fun pos cv hc => ?_⟩
    obtain ⟨k, e1, e2⟩ := h3 pos cv hc
    exact ⟨k, e1, B.nl _ _ e2 (fun _ z => nomatch z)⟩
  · cases m with
    | lst l =>
      obtain ⟨vs, e1, rs⟩ := good_lst g0 e
      have hz : Hd c H p := ⟨⟨vs, e1⟩, fun ⟨ns, z⟩ => by
        rcases (g0.scr p ns z).2 with ⟨_, h2⟩ | ⟨o, h2⟩ | ⟨o, its, n, h2, _⟩
        · rw [e] at h2
          cases h2
        · rw [e1] at h2
          cases h2
        · rw [hK _ _ h2] at e1
          cases e1⟩
      exact ⟨vs, (B.hd p hz).trans e1, rs.fr f1⟩
    | dct l => obtain ⟨vs, e2, k, rs⟩ := g.st p _ (hidS_of e (fun _ z => nomatch z)); exact ⟨vs, B.nl _ _ e2 (fun _ z => nomatch z), k, rs.fr B.fr1⟩
    | ins C ks ds => obtain ⟨dx, vs, e2, n, k, rs⟩ := g.st p _ (hidS_of e (fun _ z => nomatch z)); exact ⟨dx, vs, B.nl _ _ e2 (fun _ z => nomatch z), n, k, rs.fr B.fr1⟩
    | opq Q =>
      obtain ⟨o, e2, hp, r1, r2, r3, r4⟩ := g.st p _ (hidS_of e (fun _ z => nomatch z))
      exact ⟨o, B.nl _ _ e2 (fun xs z => r4 xs (by rw [← z]; exact hp)), hp, r1, r2, r3, r4⟩
  · refine ⟨(g0.scr a ns e).1, ?_⟩
    have hs := B.scr a ⟨ns, e⟩
    rcases (g0.scr a ns e).2 with ⟨h1, h2⟩ | ⟨o, h1⟩ | h1
    · rcases (g.scr a ns e).2 with ⟨k1, _⟩ | ⟨o, k1⟩ | k1
      · exact .inl ⟨hs.trans k1, h2⟩
      · exact .inr (.inl ⟨o, hs.trans k1⟩)
      · exact .inr (.inr k1)
    · exact .inr (.inl ⟨o, f1 a _ h1 trivial⟩)
    · exact .inr (.inr h1)
end
section
variable {X : Cx} {c : AC X.K} {pins : List (Addr × Obj)} {env : En} {L : Store} {H H1 : Hp} {s s' : Shared}
section
variable {e : Expr} {es : List Expr} {as : ATA} {x : Str} {p pos : Pos} {k : Nat} {ps : List Str} {asp : ASp}
end
end
end GK
namespace GK
open PySem PySem.Spec PyProof.Rows L2 LamX JW AL
section
variable (X : Cx) (c : AC X.K)
def SGd (pins : List (Addr × Obj)) (H : Hp) (D : AEnds) (f : Flow) (s' : Shared) : Prop :=
  match f with
  | .next => ∃ env' H' L', SG X c pins env' L' H' s' ∧ AL.Fr c H H' ∧ D.nx env' L'
  | .brk => ∃ env' H' L', SG X c pins env' L' H' s' ∧ AL.Fr c H H' ∧ D.bk env' L'
  | .cont => ∃ env' H' L', SG X c pins env' L' H' s' ∧ AL.Fr c H H' ∧ D.ct env' L'
  | .ret u => ∃ env' d v H' L', SG X c pins env' L' H' s' ∧ AL.Fr c H H' ∧ Rep c H' d v ∧ RelV v u ∧ GdV s'.toks u ∧ D.rt d L'
end
section
variable {X : Cx} {c : AC X.K} {pins : List (Addr × Obj)} {env : En} {L : Store} {H H1 : Hp} {s : Shared} {DD : AEnds}
theorem SGd.fr {f : Flow} (h : SGd X c pins H1 DD f s) (k : AL.Fr c H H1) : SGd X c pins H DD f s := by
  cases f with
  | next => obtain ⟨a, b, d, S, f, r⟩ := h; exact ⟨a, b, d, S, k.trans f, r⟩
  | brk => obtain ⟨a, b, d, S, f, r⟩ := h; exact ⟨a, b, d, S, k.trans f, r⟩
  | cont => obtain ⟨a, b, d, S, f, r⟩ := h; exact ⟨a, b, d, S, k.trans f, r⟩
  | ret u => obtain ⟨a, b, v, d, e, S, f, r⟩ := h; exact ⟨a, b, v, d, e, S, k.trans f, r⟩
end
section
variable {X : Cx} {c : AC X.K} {e f tg : Expr} {a b : ATE} {as : ATA} {pos : Pos} {t : ATT} {st : Stmt} {rest sts sts' : List Stmt} {s1 s2 : ATS}
end
end GK
namespace GK
open PySem PySem.Spec PyProof.Rows L2 LamX JW AL
section
variable {X : Cx} {c : AC X.K} {e o tg : Expr} {a b : ATE} {as : ATA} {es : List Expr} {pos p apos : Pos}
end
end GK
namespace GK
open PySem PySem.Spec PyProof.Rows L2 LamX JW AL
section
variable {X : Cx} {c : AC X.K} {e : Expr} {es : List Expr} {as : ATA} {x : Str} {p pos : Pos} {k : Nat} {ps : List Str} {asp : ASp}
end
section
variable {P : Program} {w : World} {K : PySem.W.Frag} {mg : Str → Option Value} {base : Heap} {c : AC K} {x qual : Str} {st : Stmt} {N ps : List Str} {k : Nat} {asp : ASp}
end
end GK
namespace JW
open PySem PySem.Spec PyProof.Rows
end JW
namespace AL
open PySem PySem.Spec PyProof.Rows L2 LamX JW
theorem loop_k {g : ATG} {b : ATS} {N : AEnds} {G : Store → Prop} (items : List D) (I : Nat → En → Store → Prop) (hG : ∀ i env L, i ≤ items.length → I i env L → G L)
    (hs : ∀ i d env L (n : En → Store → Prop), items[i]? = some d → (∀ e l, I (i + 1) e l → n e l) → I i env L → g d env L fun env1 L1 => b { N with nx := n, ct := n, bk := N.nx } env1 L1) (hd : ∀ env L, I items.length env L → N.nx env L) : ∀ env L, I 0 env L → loopA g b N G items env L := by
  have : ∀ (k i : Nat), i + k = items.length → ∀ env L, I i env L → loopA g b N G (items.drop i) env L := by
    intro k
    induction k with
    | zero =>
      intro i hi env L h
      have e : i = items.length := by omega
      subst e
      rw [List.drop_length]
      exact ⟨hG _ _ _ (Nat.le_refl _) h, hd _ _ h⟩
    | succ k ih =>
      intro i hi env L h
      have hlt : i < items.length := by omega
      rw [List.drop_eq_getElem_cons hlt]
      exact ⟨hG i _ _ (Nat.le_of_lt hlt) h, hs i _ env L _ (List.getElem?_eq_getElem hlt) (fun e l z => ih (i + 1) (by omega) e l z) h⟩
  intro env L h
  exact this items.length 0 (by omega) env L h
end AL
namespace AL
open PySem PySem.Spec PyProof.Rows L2 LamX JW
def repS (z : Str) (n : Nat) : Str := ⟨(List.replicate n z.cps.toList).flatten.toArray⟩
def mulS : D → D → Store → AQ → Prop
  | .str z, .int k, L, Q => 0 ≤ k ∧ k ≤ 10000 ∧ z.length ≤ 100 ∧ Q (.str (repS z k.toNat)) L
  | _, _, _, _ => False
theorem rep_fold (a : Array Nat) : ∀ (n : Nat) (acc : Array Nat), (List.replicate n a).foldl (· ++ ·) acc = acc ++ (List.replicate n a.toList).flatten.toArray
  | 0, acc => by simp
  | n + 1, acc => by
    rw [List.replicate_succ, List.foldl_cons, rep_fold a n, List.replicate_succ, List.flatten_cons]
    apply Array.ext'
    simp
section
variable {X : Cx} {c : AC X.K}
theorem op_mulS : OpR X (binaryOp .Mult) (fun x y H Q => ∃ (z : Str) (k : Int), x = .str z ∧ y = .int k ∧ 0 ≤ k ∧ k ≤ 10000 ∧ z.length ≤ 100 ∧ Q (.str (repS z k.toNat)) H) := by
  intro pins s σ H x y v u Q I rx ry h
  obtain ⟨z, k, rfl, rfl, h0, h1, h2, q⟩ := h
  obtain ⟨t, rfl⟩ := rx
  obtain ⟨t2, rfl⟩ := ry
  have hm : z.length * k.toNat ≤ 100 * 10000 := Nat.mul_le_mul h2 (by omega)
  refine PySem.P.mul_str (by rw [decide_eq_false (by omega), decide_eq_false (by omega)]; rfl) (fun g1 _ => ?_) (fun _ _ => ?_) ?_
  · have h3 : ((100 : Nat) : Int) ≤ (2 ^ 63 - 1) / k := by
      rw [Int.le_ediv_iff_mul_le (by omega)]
      omega
    omega
  · exact decide_eq_false (show ¬ (z.length * k.toNat > sizeLine) by rw [sizeLine_eq]; omega)
  · by_cases e : k < 1
    · rw [if_pos e]
      have ek : k = 0 := by omega
      subst ek
      exact ⟨by decide, .str (repS z 0), H, I.tok _, ⟨_, rfl⟩, q⟩
    · rw [if_neg e]
      by_cases e2 : (k == 1 || z.length == 0) = true
      · rw [if_pos e2]
        refine ⟨.str (repS z k.toNat), H, I, ⟨t, ?_⟩, q⟩
        congr 1
        rcases (Bool.or_eq_true _ _).mp e2 with e3 | e3
        · have ek : k = 1 := by simpa using e3
          subst ek
          show z = ⟨(List.replicate 1 z.cps.toList).flatten.toArray⟩
          simp
        · have e4 : z.cps.toList = [] := by
            have e5 : z.cps.size = 0 := by
              have : z.length = 0 := by simpa using e3
              exact this
            simpa using e5
          have e6 : (List.replicate k.toNat z.cps.toList).flatten = [] := by
            rw [e4]
            simp
          show z = ⟨(List.replicate k.toNat z.cps.toList).flatten.toArray⟩
          rw [e6]
          apply TL.ext_tl
          show z.cps.toList = _
          rw [e4]
      · rw [if_neg e2]
        have e3 : (⟨(List.replicate k.toNat z.cps).foldl (· ++ ·) #[]⟩ : Str) = repS z k.toNat := by
          unfold repS
          rw [rep_fold]
          simp
        rw [e3]
        refine ⟨?_, .str (repS z k.toNat), H, I.tok _, ⟨_, rfl⟩, q⟩
        have e4 : (repS z k.toNat).length = z.length * k.toNat := by
          show (List.replicate k.toNat z.cps.toList).flatten.toArray.size = _
          rw [List.size_toArray, List.length_flatten, List.map_replicate, List.sum_replicate_nat, Array.length_toList, Nat.mul_comm]
          rfl
        rw [e4, sizeLine_eq]
        omega
theorem aop_mulS : AOp X c (binaryOp .Mult) mulS := by
  refine .mk' op_mulS fun x y H Q d e L R rx ry g h pq => ?_
  unfold mulS at h
  split at h
  · exact ⟨_, _, rep_str.mp rx, rep_int.mp ry, h.1, h.2.1, h.2.2.1, pq.here h.2.2.2 g (rep_str.mpr rfl)⟩
  · exact h.elim
end
end AL
namespace JW
open PySem PySem.Spec PyProof.Rows L2 He
end JW
namespace L2
open PySem PySem.Spec PyProof.Rows
section
variable {X : Cx}
end
end L2
namespace JW
open PySem PySem.Spec PyProof.Rows L2
section
variable {X : Cx} {CX : CXT} {k : Nat} {ps : List Str} {sp : Sp} {E : XK} {C : Addr}
end
end JW
namespace AL
open PySem PySem.Spec PyProof.Rows L2 LamX JW
section
variable {X : Cx} {c : AC X.K} {H0 : Hp} {e : Expr} {a : ATE} {pos p p2 : Pos} {k : Nat} {ps : List Str} {qual : Str} {st : Stmt}
end
end AL
namespace JW
open PySem PySem.Spec PyProof.Rows L2
def spErr0 (K : PySem.W.Frag) (C : Addr) : Sp := fun vs H Q _ => ∃ a, vs = [.ref a] ∧ H a = some (exo a C none) ∧ Q .non H
section
variable {X : Cx} {p pos : Pos} {x : Str} {C : Addr} {k : Nat} {ps : List Str}
end
end JW
namespace AL
open PySem PySem.Spec PyProof.Rows L2 JW
theorem comp_mapA {α : Type} {g : ATG} {a : ATE} {G : Store → Prop} {p : Addr} {env : En} {Q : AQ} {L0 : Store} (f h : α → D) (hG : ∀ l, G (sput L0 p (.lst l))) : ∀ (ws : List α) (acc : List D), acc.length + ws.length ≤ sizeLine →
    (∀ w ∈ ws, ∀ (l : List D) (k : AQ), k (h w) (sput L0 p (.lst l)) → g (f w) env (sput L0 p (.lst l)) fun env1 L1 => L1 = sput L0 p (.lst l) ∧ a env1 L1 k) →
    Q (.ref p) (sput L0 p (.lst (acc ++ ws.map h))) → compA g aYes a G p env Q (ws.map f) acc (sput L0 p (.lst acc))
  | [], acc, hz, hs, q => ⟨hG acc, sput_same, by rw [List.map_nil, List.append_nil] at q; exact q⟩
  | w :: ws, acc, hz, hs, q => by
    rw [List.length_cons] at hz
    refine ⟨hG acc, sput_same, hs w List.mem_cons_self acc _ ?_⟩
    refine ⟨by omega, sput_same, ?_⟩
    rw [sput_sput]
    refine comp_mapA f h hG ws (acc ++ [h w]) (by rw [List.length_append, List.length_singleton]; omega) (fun d' h' => hs d' (List.mem_cons_of_mem _ h')) ?_
    rw [List.append_assoc]
    exact q
end AL
namespace AL
open PySem PySem.Spec PyProof.Rows L2 LamX JW
section
open PySem.SeqAt AutoSeq1 MeetsSeq MeetsSeq2 MeetsSeq3
variable {prog : Program} {w : World} {A : Around} {R : Result → Shared → Prop}
end
section
variable {X : Cx} {c : AC X.K} {k : Nat} {ps : List Str} {H : Hp} {σ : L2.St} {pins : List (Addr × Obj)}
end
end AL
namespace AL
open PySem PySem.Spec PyProof.Rows L2 LamX JW
section
variable {X : Cx} {c : AC X.K} {H : Hp} {σ : L2.St} {pins : List (Addr × Obj)}
end
end AL
namespace AL
open PySem PySem.Spec PyProof.Rows L2 LamX JW
section
variable {X : Cx} {c : AC X.K} {H0 : Hp} {e : Expr} {a : ATE} {pos p p2 pos2 : Pos} {k : Nat} {ps : List Str} {x f : Str} {RX : AX} {E : XK}
end
section
variable {P : Program} {w : World} {K : PySem.W.Frag} {mg : Str → Option Value} {base : Heap} {c : AC K} {m qual : Str} {st : Stmt} {N ps : List Str} {k : Nat} {asp : ASp} {C : Addr}
end
end AL
namespace AL
open PySem PySem.Spec PyProof.Rows L2 LamX JW
section
variable {X : Cx} {c : AC X.K} {H0 : Hp}
end
section
variable {X : Cx} {CX : CXT} {k : Nat} {f C : Addr} {fd : FuncData} {ps : List Str} {sp : Sp} {dvs : List V} {ds : List Value} {E : L2.St → XK} {x m : Str} {p pos apos : Pos} {e o a b : Expr} {es : List Expr} {ta tb : TE} {t : TA}
end
section
variable {X : Cx} {c : AC X.K} {H0 : Hp} {e o f : Expr} {es : List Expr} {a b : ATE} {as : ATA} {x m : Str} {p p1 p2 pos apos : Pos} {k : Nat} {ps : List Str} {asp : ASp} {RXe : En → AX} {dvs : List V} {dd : List D} {C : Addr}
end
section
variable {X : Cx} {CX : CXT} {k : Nat} {f C : Addr} {fd : FuncData} {ps : List Str} {ds : List Value} {dvs : List V} {sp : Sp} {E : L2.St → XK}
end
section
variable {X : Cx} {c : AC X.K} {H0 : Hp} {e f : Expr} {a b : ATE} {pos : Pos} {k : Nat} {ps : List Str} {asp : ASp} {qual : Str} {st : Stmt} {RXe : En → AX}
end
theorem ErrR.fr {K : PySem.W.Frag} {c : AC K} {H H' : Hp} {fs : List (Str × D)} {dd : Option Addr} (h : ErrR c H fs dd) (s : Fr c H H') : ErrR c H' fs dd := by
  rcases h with h | ⟨f, d, a, v, e1, e2, e3, r⟩
  · exact .inl h
  · exact .inr ⟨f, d, a, v, e1, e2, s _ _ e3 trivial, r.fr s⟩
section
variable {X : Cx} {c : AC X.K} {H0 : Hp} {x n : Str} {C : Value} {i : Nat} {body suite : List Stmt} {b₀ : Stmt} {np pos pos' : Pos} {tb : (En → AX) → ATS} {ts : Addr → Str → List (Str × D) → ATS}
theorem EndR.here {H : Hp} {R : AEnds} {D : Ends} {σ : L2.St} {env : En} {L : Store} (er : EndR c H0 H R D) (rl : Rl c H0 σ H env L) : EndR c H H R D :=
  ⟨fun e l s h q f r => er.nx e l s h q f ⟨r.env, r.good, rl.fr.trans r.fr⟩, er.rt, fun e l s h q f r => er.bk e l s h q f ⟨r.env, r.good, rl.fr.trans r.fr⟩, fun e l s h q f r => er.ct e l s h q f ⟨r.env, r.good, rl.fr.trans r.fr⟩⟩
theorem Rl.here {σ : L2.St} {H : Hp} {env : En} {L : Store} (rl : Rl c H0 σ H env L) : Rl c H σ H env L := ⟨rl.env, rl.good, .refl c H⟩
end
section
variable {X : Cx} {c : AC X.K} {H1 : Hp} {a : Addr} {oe : Obj} {cls : Value} {d : Option Addr} {pn : List (Addr × Obj)} {y : Str} {fs : List (Str × D)} {i : Nat} {n z f : Str} {p p1 p2 pos : Pos} {C : Addr}
theorem ErrR.xd {K : PySem.W.Frag} {c : AC K} {H : Hp} {fs : List (Str × D)} {d : Option Addr} (h : ErrR c H fs d) : ∀ dd, d = some dd → ∃ fs, H dd = some (.xd fs) := fun dd e => by
  rcases h with ⟨_, e2⟩ | ⟨f, d, a, v, e1, e2, e3, r⟩
  · rw [e2] at e
    cases e
  · rw [e2] at e
    cases e
    exact ⟨_, e3⟩
end
end AL
namespace JW
open PySem PySem.Spec PyProof.Rows L2
def Calm (A : Around) : Prop := A.guards = some []
theorem Calm.deeper {A : Around} {env : Env} (h : Calm A) : Calm (A.deeper env) := by
  obtain ⟨hd, d, fr, gs, u⟩ := A
  have h : gs = some [] := h
  subst h
  simp [Calm, Around.deeper, Around.over, guardsOf, pushGuards, Code.guards, Code.isGuard]
structure FnOkG (P : Program) (w : World) (K : PySem.W.Frag) (mg : Str → Option Value) (base : Heap) (cx : CXT) (k : Nat) (f : Addr) (fd : FuncData) (ps : List Str) (sp : Sp) : Prop where
  len : ∀ vs H Q E, sp vs H Q E → vs.length = ps.length
  go : ∀ (A : Around) (outs : List Env) (s : Shared) (H : Hp) (args : Args) (us : List Value) (vs : List V) (Q : VK) (E : XK), Calm A → Room k A → Env0 P w K mg base A outs s H → BindsTo s fd args (ps.zip us) → Vals vs us → sp vs H Q E →
    codeAny (model P w) A (.call (.ref f) args) (CR cx outs P w H s Q E) s
structure CallDG (P : Program) (w : World) (K : PySem.W.Frag) (mg : Str → Option Value) (base : Heap) (cx : CXT) (k : Nat) (x : Str) (ps : List Str) (sp : Sp) : Prop where
  ex : ∃ f fd, mg x = some (.ref f) ∧ PySem.W.keepIn K (.ref f) = true ∧ Binds K fd ps [] ∧ FnOkG P w K mg base cx k f fd ps sp
section
variable {P : Program} {w : World} {K : PySem.W.Frag} {mg : Str → Option Value} {base : Heap} {x qual : Str} {params : Arguments} {body : List Stmt} {scope : Scope} {dvs : List V} {kws : List (Str × V)} {f : Addr} {fd : FuncData}
theorem okFG {cx : CXT} {N ps : List Str} {k : Nat} {sp : Sp} (F : FunD K x qual params body scope dvs kws f fd) (S : FnScope N ps scope) (len : ∀ vs H Q E, sp vs H Q E → vs.length = ps.length)
    (hbody : ∀ (cdv : Value) (A : Around) (outs : List Env) (s : Shared) (H : Hp) (vs : List V) (Q : VK) (E : XK), Calm A → Room k (A.deeper (envOfC qual scope s.heap.objs.size f cdv)) → sp vs H Q E →
      ∃ t, PSs (cxOf cx P w K mg base N qual scope f cdv A outs s H E).nox body t ∧ t { nx := fun _ H' => Q .non H', rt := Q } (start N vs) H) : FnOkG P w K mg base cx (k + 1) f fd ps sp := by
  obtain ⟨oc, od, dV, kV, doc, pm, an, cdv, ct, osl, rfl, lk, hcd, _, _⟩ := F.ex
  refine ⟨len, fun A outs s H args us vs Q E hA room e0 bnd rv asks => ?_⟩
  have same : ∀ b o, base.get? b = some o → s.heap.get? b = some o := fun b o z => (e0.bs b o z).1
  have inK : K.In s.heap := e0.mod.kin.keeps same
  have kinds : ∀ y ∈ ps.zip us, scope.names.lookup y.1 = some .local ∨ (scope.names.lookup y.1 = some .cell ∧ ((cellsFrom (s.heap.objs.size + 1) scope.names []).lookup y.1).isSome = true) := by
    rintro ⟨n, v⟩ hy
    exact (S.par n (List.of_mem_zip hy).1).elim .inl fun q => .inr ⟨q, PySem.W.cellsFrom_some _ _ _ (.inl q)⟩
  refine codeAny_call_function room.depth (inK _ _ lk) rfl S.co S.gen rfl (PySem.W.codeRec_of inK hcd) (bnd _ _ _ _ (wpAny_newFunctionEnv_cells S.kind kinds fun env he s1 ic => ?_))
  cases he
  refine ⟨(e0.mod.nolimit.keeps same).keeps ic.toInCall.keep, codeAny_func ?_⟩
  obtain ⟨t, ht0, done⟩ := hbody cdv A outs s H vs Q E hA (room.deeper _) asks
  have J0 : Inv (cxOf cx P w K mg base N qual scope f cdv A outs s H E) [] (start N vs) H s1 := inv_start S room.hd e0 (len _ _ _ _ asks) rv ic
  refine wpAny_mono (ht0.nox.run [] s1 (start N vs) H _ J0 done) (fun fl s' post => ?_) fun _ _ post => post
  cases fl with
  | ret u =>
    obtain ⟨v, _, H', J, q1, q2⟩ := post
    exact ⟨v, H', J.os, J.bare, J.base, J.hok, q1, q2⟩
  | next =>
    obtain ⟨_, H', J, q2⟩ := post
    exact ⟨V.non, H', J.os, J.bare, J.base, J.hok, rfl, q2⟩
  | brk => exact post.elim fun _ z => z.elim fun _ z => z.2.elim
  | cont => exact post.elim fun _ z => z.elim fun _ z => z.2.elim
theorem CallDG.mono {cx : CXT} {j k : Nat} {x : Str} {ps : List Str} {sp : Sp} (c : CallDG P w K mg base cx j x ps sp) (h : j ≤ k) : CallDG P w K mg base cx k x ps sp := by
  obtain ⟨f, fd, h1, h2, h3, F⟩ := c.ex
  exact ⟨f, fd, h1, h2, h3, F.len, fun A outs s H args us vs Q E hA hr => F.go A outs s H args us vs Q E hA (hr.mono h)⟩
end
section
variable {X : Cx} {cx : CXT} {k : Nat} {ps : List Str} {sp : Sp} {E : XK} {x : Str} {p pos : Pos} {e : Expr} {es : List Expr} {t : TA}
end
def LawG (l : PySem.W.OpenLaw) (w : World) (K : PySem.W.Frag) (cx : CXT) (k n : Nat) (x : Str) (mg : Str → Option Value) (fa : Addr) (h : Heap) : Prop :=
  ∃ (fd : FuncData) (ts : List (Addr × Addr)) (sp : Sp), (∀ p ∈ ts, h.get? p.2 = some { cls := .none, data := .fields #[] }) ∧ (∀ p ∈ ts, K.lookup p.2 = none) ∧ (∀ p ∈ ts, PySem.W.CodeHd h p.1 p.2) ∧ (∀ (s : Shared) (u : Value), BindsTo s fd ⟨[u], []⟩ [(x, u)]) ∧
    (∀ (H : Hp) (a : Addr) (ns : List Int), ns.length ≤ n → (∀ z ∈ ns, Builtin.Int.intBits z ≤ 1048576) → (∀ p ∈ ts, H p.2 = some (.tbl #[])) → SqL K H a (ns.map V.int) → sp [.ref a] H (fun v _ => v = .bl true) fun _ _ _ => False) ∧
    ∀ base : Heap, K.In base → base.Ns mainGlobals mg → (∀ p ∈ ts, LamX.TabB base mg p.1 p.2) → FnOkG l.prog w K mg base cx k fa fd [x] sp
section
variable {P : Program} {w : World} {K : PySem.W.Frag} {mg mb : Str → Option Value} {cx : CXT} {k : Nat} {fa a : Addr} {ts : List (Addr × Addr)} {fd : FuncData} {x : Str} {sp : Sp} {s1 : Shared} {vs : List Value} {ns : List Int}
def lawH (ts : List (Addr × Addr)) (a : Addr) (o : Obj) (ns : List Int) (known : Bool) : Hp := fun b => if known = false ∧ b = a then some (.frz o (.lst (ns.map V.int))) else if b ∈ ts.map (·.2) then some (.tbl #[]) else none
theorem law_go (inK : K.In s1.heap) (nsG : s1.heap.Ns mainGlobals mg) (nsB : s1.heap.Ns builtinsNs mb) (boot : ∀ x : Str, x ≠ "__name__" → mb x = bootBuiltins x) (lim : s1.heap.NoLimit) (gen0 : s1.gens = #[])
    (tabE : ∀ p ∈ ts, s1.heap.get? p.2 = some { cls := .none, data := .fields #[] }) (tabK : ∀ p ∈ ts, K.lookup p.2 = none) (tabC : ∀ p ∈ ts, PySem.W.CodeHd s1.heap p.1 p.2)
    (bmod : ∃ (bm : Addr) (ob : Obj), mg "__builtins__" = some (.ref bm) ∧ bm ≠ builtinsNs ∧ s1.heap.get? bm = some ob ∧ ob.cls = .type "module" ∧ ob.dict = some builtinsNs ∧ ob.data = .plain)
    (obj : s1.heap.get? a = some { cls := .type "list", data := .seq vs.toArray }) (nums0 : IntsAre vs ns) (few : ns.length ≤ sizeLine) (room : Room k callerA)
    (F : ∀ base : Heap, K.In base → base.Ns mainGlobals mg → (∀ p ∈ ts, LamX.TabB base mg p.1 p.2) → FnOkG P w K mg base cx k fa fd [x] sp) (bnd : ∀ (s : Shared) (u : Value), BindsTo s fd ⟨[u], []⟩ [(x, u)])
    (asks : ∀ H : Hp, (∀ p ∈ ts, H p.2 = some (.tbl #[])) → SqL K H a (ns.map V.int) → sp [.ref a] H (fun v _ => v = .bl true) fun _ _ _ => False)
    (none_out : ∀ H e s', cx [] H s1 (fun _ _ _ => False) e s' → False) :
    codeAny (model P w) callerA (.call (.ref fa) ⟨[.ref a], []⟩) (fun r s' => r = .ok (.ret (.bool true)) ∧ OldK s1.heap s'.heap ∧ s'.os = s1.os ∧ AllBare s'.gens) s1 := by
  have tabAt : ∀ b ∈ ts.map (·.2), s1.heap.get? b = some { cls := .none, data := .fields #[] } := fun b hb => by
    obtain ⟨p, hp, rfl⟩ := List.mem_map.mp hb
    exact tabE p hp
  have aNot : a ∉ ts.map (·.2) := fun z => by
    have q := (tabAt a z).symm.trans obj
    exact nomatch congrArg Obj.data (Option.some.inj q)
  have lenV := nums0.length
  have pairs := vals_ints nums0
  -- H, as it is told
  obtain ⟨kn, hkn⟩ : ∃ kn : Bool, kn = (K.lookup a).isSome := ⟨_, rfl⟩
  obtain ⟨H, hH⟩ : ∃ H : Hp, H = lawH ts a { cls := .type "list", data := .seq vs.toArray } ns kn := ⟨_, rfl⟩
  have H1 : ∀ b, b ∈ ts.map (·.2) → H b = some (.tbl #[]) := fun b hb => by
    have nb : ¬ (kn = false ∧ b = a) := fun z => aNot (z.2 ▸ hb)
    rw [hH]
    unfold lawH
    rw [if_neg nb, if_pos hb]
  have H2 : kn = false → H a = some (.frz { cls := .type "list", data := .seq vs.toArray } (.lst (ns.map V.int))) := fun z => by
    rw [hH]
    unfold lawH
    rw [if_pos ⟨z, rfl⟩]
  have H3 : ∀ b u, H b = some u → (b ∈ ts.map (·.2) ∧ u = .tbl #[]) ∨ (kn = false ∧ b = a ∧ u = .frz { cls := .type "list", data := .seq vs.toArray } (.lst (ns.map V.int))) := fun b u z => by
    rw [hH] at z
    unfold lawH at z
    split at z
    · rename_i c
      exact .inr ⟨c.1, c.2, (Option.some.inj z).symm⟩
    · split at z
      · rename_i c
        exact .inl ⟨c, (Option.some.inj z).symm⟩
      · cases z
  have seq : SqL K H a (ns.map V.int) := by
    cases hk : K.lookup a with
    | some o =>
      have e := (inK a o hk).symm.trans obj
      cases e
      exact .inr ⟨_, vs.toArray, _, hk, rfl, rfl, rfl, by rw [List.size_toArray, lenV]; exact few, by simpa using pairs⟩
    | none => exact .inl (.inr ⟨_, H2 (by rw [hkn, hk]; rfl)⟩)
  have holds : HOk P w H s1.heap := fun b u z => by
    rcases H3 b u z with ⟨hb, rfl⟩ | ⟨_, rfl, rfl⟩
    · exact tabAt b hb
    · exact ⟨obj, by rw [List.length_map]; exact few, vs, _, pairs, obj⟩
  -- what is not told of
  have free : ∀ {b : Addr} {o : Obj}, s1.heap.get? b = some o → (∀ l n, o.data ≠ .seq l n) → o.data ≠ .fields #[] → H b = none := fun {b o} e n1 n2 => by
    cases q : H b with
    | none => rfl
    | some u =>
      rcases H3 b u q with ⟨hb, _⟩ | ⟨_, rfl, _⟩
      · rw [tabAt b hb] at e
        cases e
        exact absurd rfl n2
      · rw [obj] at e
        cases e
        exact absurd rfl (n1 _ _)
  have freeD : ∀ {b : Addr} {o : Obj} {es : Array DictEntry} {ep : Nat}, s1.heap.get? b = some o → o.data = .dict es ep → H b = none := fun e d => free e (fun l n z => by rw [d] at z; cases z) fun z => by rw [d] at z; cases z
  have stay : ∀ {b : Addr} {m : Str → Option Value}, s1.heap.Ns b m → (hidT s1.heap H).Ns b m := fun ⟨o, es, ep, e, d, r⟩ => ⟨o, es, ep, hidT_get e (freeD e d), d, r⟩
  have baseK : K.In (hidT s1.heap H) := fun b o e => hidT_get (inK b o e) (by
    cases q : H b with
    | none => rfl
    | some u =>
      rcases H3 b u q with ⟨hb, _⟩ | ⟨z, rfl, _⟩
      · obtain ⟨p, hp, rfl⟩ := List.mem_map.mp hb
        rw [tabK p hp] at e
        cases e
      · rw [hkn, e] at z
        cases z)
  have md : L2.Mod K mg (hidT s1.heap H) := by
    obtain ⟨mc, c1, c2⟩ := lim
    exact ⟨baseK, stay nsG, ⟨mb, stay nsB, boot⟩, mc, stay c1, c2⟩
  have tabs : ∀ p ∈ ts, LamX.TabB (hidT s1.heap H) mg p.1 p.2 := fun p hp => by
    refine ⟨?_, ?_, fun z => ?_⟩
    · obtain ⟨o, us, file, tf, flags, tg, inF, text, tt, e1, r1, r2, r3, r⟩ := tabC p hp
      refine ⟨o, us, file, tf, flags, tg, inF, text, tt, hidT_get e1 (free e1 (fun l n z => by rw [r2] at z; cases z) fun z => ?_), r1, r2, r3, r⟩
      rw [r2] at z
      cases z
      simp at r3
    · obtain ⟨bm, ob, b1, b2, b3, b4, b5, b6⟩ := bmod
      refine ⟨bm, ob, b1, b2, fun q => ?_, fun q => ?_, hidT_get b3 (free b3 (fun l n z => by rw [b6] at z; cases z) fun z => by rw [b6] at z; cases z), b4, b5, b6⟩
      · obtain ⟨o, es, ep, e, hd, _⟩ := nsG
        rw [← q, b3] at e
        cases e
        rw [b6] at hd
        cases hd
      · rw [q, tabE p hp] at b3
        cases b3
        cases b6
    · obtain ⟨o, es, ep, e, hd, _⟩ := nsG
      rw [z, tabE p hp] at e
      cases e
      cases hd
  have e0 : Env0 P w K mg (hidT s1.heap H) callerA [] s1 H := ⟨rfl, md, fun b o e => of_hidT e, Nat.le_of_eq (hidT_size _ _), trivial, fun b hb => absurd (show b ∈ ([] : List Addr) from hb) List.not_mem_nil, holds, .of_eq gen0⟩
  refine codeAny_mono ((F _ baseK (stay nsG) tabs).go callerA [] s1 H ⟨[.ref a], []⟩ [.ref a] [.ref a] _ _ rfl room e0 (bnd s1 (.ref a)) (.cons rfl .nil) (asks H (fun p hp => H1 _ (List.mem_map.mpr ⟨p, hp, rfl⟩)) seq)) fun r s' post => ?_
  cases r with
  | error e => exact (none_out H e s' post).elim
  | ok fl =>
    cases fl with
    | next => exact post.elim
    | brk => exact post.elim
    | cont => exact post.elim
    | ret u =>
      obtain ⟨v, H', os, bare, un, ok', rv, q⟩ := post
      have q : v = .bl true := q
      subst q
      cases rv
      have grown : ∀ b ∈ ts.map (·.2), ∃ more : Array Value, s'.heap.get? b = some { cls := .none, data := .fields more } := fun b hb => by
        obtain ⟨more, z⟩ := un.tbls b #[] (H1 b hb)
        exact ⟨_, ok' b _ z⟩
      have others : ∀ b o, b ∉ ts.map (·.2) → s1.heap.get? b = some o → s'.heap.get? b = some o := fun b o nb e => by
        cases q : H b with
        | none => exact un.keep b o e q (fun z => absurd (show b ∈ ([] : List Addr) from z) List.not_mem_nil) List.not_mem_nil
        | some u =>
          rcases H3 b u q with ⟨hb, _⟩ | ⟨_, rfl, rfl⟩
          · exact absurd hb nb
          · have z2 := (ok' b _ (un.frzs b _ _ q)).1
            rw [obj] at e
            cases e
            exact z2
      refine ⟨rfl, ⟨fun b o e => ?_, fun b o e => ?_⟩, os, bare⟩
      · by_cases hb : b ∈ ts.map (·.2)
        · obtain ⟨more, hm⟩ := grown b hb
          obtain ⟨p, hp, rfl⟩ := List.mem_map.mp hb
          rw [tabE p hp] at e
          cases e
          exact .inr (.inl ⟨((tabC p hp).tab (tabE p hp)).isCodeTable, rfl, #[], more, rfl, by rw [Array.empty_append]; exact hm⟩)
        · exact .inl (others b o hb e)
      · by_cases hb : b ∈ ts.map (·.2)
        · obtain ⟨more, hm⟩ := grown b hb
          exact ⟨_, hm⟩
        · exact ⟨o, others b o hb e⟩
end
theorem walk_lawG {l : PySem.W.OpenLaw} {n k : Nat} {q : Program} {loose : List Str} {XP : (Str → Option Value) → Heap → Prop} {YP : World → Heap → Prop} {d : DefRec} {cx : World → CXT} {x : Str} (most : l.most = some n) (fits : n ≤ sizeLine) (plain : d.params.defaults = []) (room : Room k callerA)
    (F : ∀ (w : World) (mg : Str → Option Value) (fa : Addr) (h : Heap), YP w h → h.Ns mainGlobals mg → mg d.name = some (.ref fa) → ∃ K : PySem.W.Frag, K.In h ∧ LawG l w K (cx w) k n x mg fa h)
    (out : ∀ (w : World) (H : Hp) (s : Shared) (e : Value) (s' : Shared), cx w [] H s (fun _ _ _ => False) e s' → False) : PySem.W.WalkO q loose XP YP l.row.toRowW d [] (fun f vs => PySem.call f vs) := by
  refine Att.attach_callB most plain fun w s0 s1 mg mb fa o pm cd doc a vs ns G Y ho hd hcd hmg hobj hints hlen hbits hg => ?_
  obtain ⟨K, KX, fd, ts, sp, t1, t2, t3, b, asks, hF⟩ := F w mg fa _ Y G.T.g hmg
  exact law_go KX G.T.g G.T.b G.T.builtins G.T.nolimit hg t1 t2 t3 G.T.bmain hobj hints (Nat.le_trans hlen fits) room hF b (fun H hH hS => asks H a ns hlen hbits hH hS) fun H e s' => out w H s1 e s'
end JW
namespace AL
open PySem PySem.Spec PyProof.Rows L2 LamX JW
section
variable {P : Program} {w : World} {K : PySem.W.Frag} {mg : Str → Option Value} {base : Heap} {c : AC K} {x qual : Str} {st : Stmt} {N ps : List Str} {k : Nat} {asp : ASp}
end
section
variable {X : Cx} {c : AC X.K} {H0 : Hp} {e : Expr} {es : List Expr} {as : ATA} {x : Str} {p pos : Pos} {k : Nat} {ps : List Str} {asp : ASp}
def reprA : List D → Store → AQ → Prop
  | [d], L, Q => ∃ x, pyT L d = some x ∧ x.showable = true ∧ x.hasDict = false ∧ x.depth ≤ 40 ∧ x.shown.length ≤ sizeLine ∧ Q (.str x.shown) L
  | _, _, _ => False
def rRepr (K : PySem.W.Frag) (xs : List V) (H : Hp) (Q : VK) : Prop := ∃ v x, xs = [v] ∧ Dp K H v x ∧ x.showable = true ∧ x.hasDict = false ∧ x.depth ≤ 40 ∧ x.shown.length ≤ sizeLine ∧ Q (.str x.shown) H
theorem call_reprG (hA : Calm X.A) (hu : X.A.units + 64 < cLine) : CallR X (.builtin "repr") (rRepr X.K) := by
  intro pins s σ H xs us Q I r h
  obtain ⟨v, x, rfl, dp, sh, nd, dep, sz, q⟩ := h
  obtain ⟨u, rfl, rv⟩ := vals1 r
  have fin : ∀ tk, EP X pins σ Q (.str x.shown tk) { s with toks := s.toks + 1 } := fun tk => ⟨.str x.shown, H, I.tok _, ⟨_, rfl⟩, q⟩
  obtain ⟨as, rd⟩ := Dp.reads I x v u dp rv
  cases dp with
  | non =>
    cases rv
    exact PySem.P.repr_of_none (fin _)
  | bl b =>
    cases rv
    exact PySem.P.repr_of_bool (fin _)
  | int i =>
    obtain ⟨t, rfl⟩ := rv
    exact PySem.P.repr_of_int (of_decide_eq_true sh) (fin _)
  | str z =>
    obtain ⟨t, rfl⟩ := rv
    exact PySem.P.repr_of_str (fin _) sz
  | lst h1 h2 =>
    cases rv
    exact repr_of_reads' rd sh (fun z => by rw [nd] at z; cases z) hA (by omega) (fun _ _ z => z) (fun h' tk t' kept => ⟨.str _, H, I.kept (t' := t') kept, ⟨_, rfl⟩, q⟩) sz
  | tup h1 h2 =>
    cases rv
    exact repr_of_reads' rd sh (fun z => by rw [nd] at z; cases z) hA (by omega) (fun _ _ z => z) (fun h' tk t' kept => ⟨.str _, H, I.kept (t' := t') kept, ⟨_, rfl⟩, q⟩) sz
theorem acb_reprA (hA : Calm X.A) (hu : X.A.units + 64 < cLine) : ACB X c (.builtin "repr") reprA := by
  refine .mk' (call_reprG hA hu) fun vs H Q ds L R r g h pq => ?_
  unfold reprA at h
  split at h
  · obtain ⟨x, e, sh, nd, dep, sz, q⟩ := h
    obtain ⟨v, rfl, rv⟩ := repL_one r
    exact ⟨v, x, rfl, dpT_of g rv e, sh, nd, dep, sz, pq.here q g (rep_str.mpr rfl)⟩
  · exact h.elim
end
end AL
namespace JW
open PySem PySem.Spec PyProof.Rows L2
section
variable {X : Cx} {CX : CXT} {k : Nat} {ps : List Str} {sp : Sp} {E : XK} {C : Addr}
end
end JW
namespace AL
open PySem PySem.Spec PyProof.Rows L2 LamX JW
def clsD : D → Option Value
  | .ty n => some (.type n)
  | .ref C => some (.ref C)
  | _ => none
section
variable {X : Cx} {c : AC X.K}
theorem clsD_low {H : Hp} {d : D} {v : V} {u : Value} (r : Rep c H d v) (h : clsD d = some u) : ClsV v u := by
  cases d with
  | ty n => cases rep_ty.mp r; cases h; exact .ty n
  | ref p => cases rep_ref.mp r; cases h; exact .own p
  | _ => cases h
end
section
variable {X : Cx} {c : AC X.K} {k : Nat} {ps : List Str} {asp : ASp} {qual : Str} {st : Stmt}
end
end AL
namespace JW
open PySem PySem.Spec PyProof.Rows L2 Builtin Builtin.Str
end JW
namespace AL
open PySem PySem.Spec PyProof.Rows L2 JW
mutual
/-- data made of None, booleans, integers, texts, tuples -/
def plainD : D → Bool
  | .non => true
  | .bl _ => true
  | .int _ => true
  | .str _ => true
  | .tup l => plainL l
  | _ => false
def plainL : List D → Bool
  | [] => true
  | d :: l => plainD d && plainL l
end
mutual
theorem eqDD_self : ∀ d : D, plainD d = true → eqDD d d = some true
  | .non, _ => by simp [eqDD, AL.flatB, vD, eqV]
  | .bl b, _ => by simp [eqDD, AL.flatB, vD, eqV]
  | .int i, _ => by simp [eqDD, AL.flatB, vD, eqV]
  | .str z, _ => by simp [eqDD, AL.flatB, vD, eqV]
  | .tup l, h => by
    have h : plainL l = true := h
    have e := eqDL_self l h
    show (eqDL l l).map _ = some true
    rw [e]
    simp
  | .ref _, h => nomatch h
  | .ty _, h => nomatch h
  | .scr, h => nomatch h
  | .tree _, h => nomatch h
  | .obj _ _ _, h => nomatch h
  | .err _ _ _, h => nomatch h
theorem eqDL_self : ∀ l : List D, plainL l = true → eqDL l l = some true
  | [], _ => rfl
  | d :: l, h => by
    have h : (plainD d && plainL l) = true := h
    obtain ⟨h1, h2⟩ := Bool.and_eq_true_iff.mp h
    have e1 := eqDD_self d h1
    have e2 := eqDL_self l h2
    simp only [eqDL, e1, e2]
    rfl
end
theorem plainL_map {α : Type} {f : α → D} (h : ∀ a, plainD (f a) = true) : ∀ l : List α, plainL (l.map f) = true
  | [] => rfl
  | a :: l => by
    show (plainD (f a) && plainL (l.map f)) = true
    rw [h a, plainL_map h l]
    rfl
theorem eqSq_self {neg : Bool} {l : List D} {L : Store} {Q : AQ} (h : plainL l = true) (hd : depDL l ≤ 70) (q : Q (.bl (!neg)) L) : eqSq neg l l L Q := by
  refine ⟨true, eqDL_self l h, hd, ?_⟩
  have e : (neg ^^ (true && l.length == l.length)) = !neg := by simp
  rw [e]
  exact q
end AL
namespace JW
open PySem PySem.Spec PyProof.Rows L2
section
variable {X : Cx} {CX : CXT} {k : Nat} {f C : Addr} {fd : FuncData} {ps : List Str} {sp : Sp} {dvs : List V} {ds : List Value} {E : L2.St → XK} {x : Str} {p pos : Pos} {e : Expr} {es : List Expr} {t : TA}
end
end JW
namespace AL
open PySem PySem.Spec PyProof.Rows L2 LamX JW
section
variable {X : Cx} {c : AC X.K} {H0 : Hp} {e : Expr} {es : List Expr} {as : ATA} {x : Str} {p pos : Pos} {k : Nat} {ps : List Str} {asp : ASp} {RXe : En → AX} {dvs : List V} {C : Addr} {sp : Sp}
end
section
variable {X : Cx} {c : AC X.K} {H1 : Hp} {a : Addr} {oe : Obj} {cls : Value} {d : Option Addr} {pn : List (Addr × Obj)} {y : Str} {fs : List (Str × D)} {i : Nat} {n : Str} {p p1 p2 pos : Pos} {es : List Expr} {Cs : List Addr}
end
end AL
namespace AL
open PySem PySem.Spec PyProof.Rows L2 LamX JW
section
variable {X : Cx} {c : AC X.K} {H0 : Hp} {e : Expr} {as : ATA} {p pos tpos : Pos} {elts : List Expr} {kk : Nat}
end
end AL
namespace GK
open PySem PySem.Spec PyProof.Rows L2 LamX JW AL
section
variable {X : Cx} {c : AC X.K} {pins : List (Addr × Obj)} {env : En} {L : Store} {H : Hp} {s : Shared}
end
section
variable {X : Cx} {c : AC X.K} {e f : Expr} {a b : ATE} {as : ATA} {es : List Expr} {t : ATT} {pos p : Pos}
variable {x : Str} {C : Addr} {ps : List Str} {dvs : List V} {sp : Sp} {asp : ASp} {k : Nat}
end
end GK
namespace GK
open PySem PySem.Spec PyProof.Rows L2 LamX JW AL
section
variable {X : Cx} {c : AC X.K} {pins : List (Addr × Obj)} {env : En} {L : Store} {H : Hp} {s : Shared} {R : AQ} {f : Addr} {fd : FuncData} {ps : List Str} {asp : ASp} {k : Nat}
end
section
variable {X : Cx} {c : AC X.K} {e : Expr} {es : List Expr} {as : ATA} {a : ATE} {x : Str} {p pos : Pos} {ps : List Str} {asp : ASp} {k : Nat}
end
end GK
namespace GK
open PySem PySem.Spec PyProof.Rows L2 LamX JW AL
section
variable {P : Program} {w : World} {K : PySem.W.Frag} {mg : Str → Option Value} {base : Heap} {c : AC K} {x qual : Str} {st : Stmt} {N ps : List Str} {k : Nat} {asp : ASp}
end
end GK
namespace GK
open PySem PySem.Spec PyProof.Rows L2 LamX JW AL
section
variable {X : Cx} {c : AC X.K}
end
end GK
namespace GK
open PySem PySem.Spec PyProof.Rows L2 LamX JW AL
section
variable {X : Cx} {c : AC X.K} {pins : List (Addr × Obj)} {env : En} {L : Store} {H : Hp} {s : Shared} {R : AQ} {f : Addr} {fd : FuncData} {ps : List Str} {asp : ASp} {k : Nat}
end
section
variable {X : Cx} {c : AC X.K} {e : Expr} {es : List Expr} {as : ATA} {a : ATE} {x : Str} {p pos : Pos} {ps : List Str} {asp : ASp} {k : Nat}
end
end GK
theorem _root_.JW.CmD.imp {P : PySem.Program} {w : PySem.World} {K : PySem.W.Frag} {mg : PySem.Str → Option PySem.Value} {base : PySem.Heap} {CX : L2.CXT} {k : Nat} {C : PySem.Addr} {m : PySem.Str} {ps : List PySem.Str} {sp sp' : L2.Sp} (M : JW.CmD P w K mg base CX k C m ps sp) (h : ∀ vs H Q E, sp' vs H Q E → sp vs H Q E) : JW.CmD P w K mg base CX k C m ps sp' := by
  obtain ⟨mc, p, f, fd, h1, h2, h3, F⟩ := M.ex
  exact ⟨mc, p, f, fd, h1, h2, h3, F.imp h⟩
namespace GK
open PySem PySem.Spec PyProof.Rows L2 LamX JW AL
section
variable {X : Cx} {c : AC X.K} {e : Expr} {es : List Expr} {as : ATA} {x : Str} {p pos : Pos} {k : Nat} {ps : List Str} {asp : ASp}
end
end GK
namespace GK
open PySem PySem.Spec PyProof.Rows L2 LamX JW AL
section
variable {X : Cx} {c : AC X.K} {pins : List (Addr × Obj)} {env : En} {L : Store} {H : Hp} {s : Shared} {kk : Nat}
end
end GK
namespace GK
open PySem PySem.Spec PyProof.Rows L2 LamX JW AL
section
variable {X : Cx} {c : AC X.K} {pins : List (Addr × Obj)} {env : En} {L : Store} {H : Hp} {s : Shared}
end
section
variable {X : Cx} {c : AC X.K} {e : Expr} {es : List Expr} {as : ATA} {a : ATE} {pos : Pos}
end
end GK
namespace GK
open PySem PySem.Spec PyProof.Rows L2 LamX JW AL
section
variable {X : Cx} {c : AC X.K} {e f : Expr} {a b : ATE} {as : ATA} {es : List Expr} {t : ATT} {pos p : Pos} {x : Str} {C : Addr} {ps : List Str} {dvs : List V} {sp : Sp} {asp : ASp} {k : Nat}
end
end GK
namespace JW
open PySem PySem.Spec PyProof.Rows L2
end JW
namespace AL
open PySem PySem.Spec PyProof.Rows L2 LamX JW
section
variable {X : Cx} {c : AC X.K} {H0 : Hp} {e e2 : Expr} {as : ATA} {dv : ATE} {p pos kp : Pos} {x : Str}
end
end AL
namespace GK
open PySem PySem.Spec PyProof.Rows L2 LamX JW AL
section
variable {P : Program} {w : World} {K : PySem.W.Frag} {mg : Str → Option Value} {base : Heap} {c : AC K} {x qual : Str} {st : Stmt} {N ps : List Str} {k : Nat} {asp : ASp}
end
end GK
namespace AL
open PySem PySem.Spec PyProof.Rows L2 LamX JW
def sackM (g : Addr) : MO := .opq fun o => ∃ a b c : Int, o = .dK (sackD g a b c)
def intsM (ns : List Int) : MO := .lst (ns.map .int)
def SkAt (L : Store) (d g : Addr) : Prop := d ≠ g ∧ L d = some (sackM g) ∧ ∃ ns, L g = some (intsM ns)
def Sk (g : Addr) (L L' : Store) : Prop := ∀ p m, p ≠ g → L p = some m → L' p = some m
section
variable {L L1 L2 : Store} {d g p : Addr} {m : MO} {ns : List Int}
theorem Sk.refl (g : Addr) (L : Store) : Sk g L L := fun _ _ _ h => h
theorem Sk.trans (a : Sk g L L1) (b : Sk g L1 L2) : Sk g L L2 := fun p m n h => b p m n (a p m n h)
theorem Sk.of (s : SubS L L1) : Sk g L L1 := fun p m _ h => s p m h
theorem Sk.new (a : Sk g L L1) (hp : L1 p = none) : Sk g L (sput L1 p m) := fun q n ne h => sput_old (a q n ne h) hp
theorem Sk.at (a : Sk g L L1) : Sk g L (sput L1 g m) := fun q n ne h => by rw [sput_ne ne]; exact a q n ne h
theorem Sk.put (a : Sk g L L1) (hp : L p = none) : Sk g L (sput L1 p m) := fun q n ne h => by
  rw [sput_ne fun e => by rw [e, hp] at h; cases h]
  exact a q n ne h
theorem Sk.nil (a : Sk g L L1) (ne : p ≠ g) (hp : L1 p = none) : L p = none := by
  cases e : L p with
  | none => rfl
  | some m => rw [a p m ne e] at hp; cases hp
theorem SkAt.ne (h : SkAt L d g) (hp : L p = none) : p ≠ d ∧ p ≠ g := by
  obtain ⟨_, h1, ns, h2⟩ := h
  exact ⟨fun e => (by rw [e, h1] at hp; cases hp), fun e => (by rw [e, h2] at hp; cases hp)⟩
theorem SkAt.new (h : SkAt L d g) (hp : L p = none) : SkAt (sput L p m) d g := by
  obtain ⟨n1, n2⟩ := h.ne hp
  obtain ⟨n, h1, ns, h2⟩ := h
  exact ⟨n, by rw [sput_ne n1.symm]; exact h1, ns, by rw [sput_ne n2.symm]; exact h2⟩
theorem SkAt.at (h : SkAt L d g) (ns : List Int) : SkAt (sput L g (intsM ns)) d g := by
  obtain ⟨n, h1, _⟩ := h
  exact ⟨n, by rw [sput_ne n]; exact h1, ns, sput_same⟩
theorem SkAt.sub (h : SkAt L d g) (s : SubS L L1) : SkAt L1 d g := ⟨h.1, s _ _ h.2.1, let ⟨ns, e⟩ := h.2.2; ⟨ns, s _ _ e⟩⟩
theorem Sk.end (a : Sk g L L1) (h : SkAt L1 d g) {R : AQ} {x : D} (r : ∀ ns, R x (sput L g (intsM ns))) : ∃ L0, SubS L0 L1 ∧ R x L0 := by
  obtain ⟨_, _, ns, e⟩ := h
  refine ⟨sput L g (intsM ns), fun p m q => ?_, r ns⟩
  by_cases z : p = g
  · subst z
    rw [sput_same] at q
    cases q
    exact e
  · rw [sput_ne z] at q
    exact a p m z q
end
section
variable {K : PySem.W.Frag} {c : AC K} {H H' : Hp} {L : Store} {d g : Addr}
end
end AL
namespace JW
end JW
namespace AL
open PySem PySem.Spec PyProof.Rows L2 LamX JW
section
variable {X : Cx} {c : AC X.K} {k : Nat} {ps : List Str} {pins : List (Addr × Obj)} {σ : L2.St} {H : Hp}
end
end AL
namespace AL
open PySem PySem.Spec PyProof.Rows L2 LamX JW
section
variable {X : Cx} {c : AC X.K}
theorem repL_rep {K : PySem.W.Frag} {c : AC K} {H : Hp} {l : List D} {vs : List V} (h : RepL c H l vs) : ∀ n : Nat, RepL c H (List.replicate n l).flatten (List.replicate n vs).flatten
  | 0 => RepL.nil
  | n + 1 => by
    rw [List.replicate_succ, List.replicate_succ, List.flatten_cons, List.flatten_cons]
    exact h.app (repL_rep h n)
end
end AL
namespace AL
open PySem PySem.Spec PyProof.Rows L2 LamX JW
section
variable {K : PySem.W.Frag} {c : AC K} {H : Hp} {L : Store}
end
section
variable {X : Cx} {c : AC X.K} {H0 : Hp} {e f : Expr} {as : ATA} {p pos tpos : Pos} {elts : List Expr} {kk : Nat}
end
end AL
namespace JW
open PySem PySem.Spec PyProof.Rows L2
section
variable {P : Program} {w : World} {K : PySem.W.Frag} {mg : Str → Option Value} {base : Heap}
end
end JW
namespace AL
open PySem PySem.Spec PyProof.Rows L2 LamX JW
section
variable {P : Program} {w : World} {K : PySem.W.Frag} {mg : Str → Option Value} {base : Heap} {c : AC K} {x m qual : Str} {st : Stmt} {N : List Str} {k : Nat} {asp : ASp} {pv : Str}
end
section
variable {X : Cx} {c : AC X.K} {H0 : Hp} {e : Expr} {es : List Expr} {as : ATA} {x : Str} {p pos : Pos} {k : Nat} {asp : ASp} {CX : CXT} {E : XK} {RX : AX}
end
end AL
namespace L2
open PySem PySem.Spec PyProof.Rows
theorem tuple_mul1 (l : Addr) (items : Array Value) (n : Nat) (dd : Option Addr) (sl : Array (Option Value)) (u : Tok) :
    Meets (Builtin.«tuple.__mul__» ⟨[.ref l, .int 1 u], []⟩) (fun _ R s => s.heap.get? l = some { cls := .type "tuple", dict := dd, data := .seq items n, slots := sl } ∧
      R (.ok (.ret (Value.ref l))) s) :=
  .of_wp fun prog w A R s h => by
    obtain ⟨hp, g, d, tk, os⟩ := s
    obtain ⟨hl, h⟩ := h
    have f1 := AutoSeq1.idx_int
    have c0 : (decide ((1 : Int) < -(2 ^ 63)) || decide ((1 : Int) ≥ 2 ^ 63)) = false := by decide
    have c1 : (items.isEmpty || (1 : Int) == 1) = true := by rw [show ((1 : Int) == 1) = true from rfl, Bool.or_true]
    wp_walk using wpAny_loadPart' hl
    repeat (first
      | (refine wpAny_ite_false (decide_eq_false (by rw [c0]; exact Bool.false_ne_true)) ?_; wp_walk using wpAny_loadPart' hl)
      | (refine wpAny_ite_true (decide_eq_true (by rw [c1])) ?_; wp_walk using wpAny_loadPart' hl))
    exact ⟨_, rfl, h⟩
def rRepT1 (K : PySem.W.Frag) : R2 := fun x y H Q => ∃ l xs, x = .ref l ∧ y = .int 1 ∧ SqT K H l xs ∧ Q (.ref l) H
section
variable {X : Cx}
theorem op_repT1 : OpR X (binaryOp .Mult) (rRepT1 X.K) := by
  intro pins s σ H x y v u Q I rx ry h
  obtain ⟨l, xs, rfl, rfl, hT, q⟩ := h
  cases rx
  obtain ⟨t, rfl⟩ := ry
  obtain ⟨its, r, ⟨⟨cls, dd, data, sl⟩, ho, hc, n, hd⟩, hs⟩ := I.tuple hT
  simp only at hc hd
  subst hc hd
  refine wpAny_binaryOp_repeat_ref (T := "tuple") (U := "int") (by decide) ⟨_, ho, rfl⟩ (fun s' => typeIs_int s' 1 t) noFill_tuple_mul F.fills_int_mul F.slot_int_rmul repeat_tuple F.slot_int_index.lookup
    (call_meets F.slot_int_rmul (typeIs_int s 1 t) F.entry_int_rmul (F.args_int_rmul_2 _ _) (int_rmul_tuple 1 t l its.toArray n dd sl)
      ⟨ho, rfl, ⟨_, ho, rfl⟩, call_meets F.slot_tuple_mul ⟨_, ho, rfl⟩ F.entry_tuple_mul (F.args_tuple_mul_2 _ _) (tuple_mul1 l its.toArray n dd sl t) ⟨ho, ?_⟩⟩)
  exact ⟨.ref l, H, I, rfl, q⟩
end
end L2
namespace AL
open PySem PySem.Spec PyProof.Rows L2 LamX JW
def mulT1 : D → D → Store → AQ → Prop
  | .tup l, .int k, L, Q => l.length ≤ 1000 ∧ 1 ≤ k ∧ k ≤ 1000 ∧ l ≠ [] ∧ Q (.tup (List.replicate k.toNat l).flatten) L
  | _, _, _, _ => False
section
variable {X : Cx} {c : AC X.K}
theorem aop_mulT1 : AOp X c (binaryOp .Mult) mulT1 := by
  refine .mk' (op_repT1.or op_repT) fun x y H Q d e L R rx ry g h pq => ?_
  unfold mulT1 at h
  split at h
  · rename_i l k
    obtain ⟨h1, h2, h3, h4, h⟩ := h
    obtain ⟨p, vs, rfl, e3, rs⟩ := rep_tup.mp rx
    have hl := rs.len
    by_cases hk : k = 1
    · subst hk
      have e : (List.replicate (1 : Int).toNat l).flatten = l := by simp
      rw [e] at h
      exact .inl ⟨p, vs, rfl, rep_int.mp ry, e3, pq.here h g rx⟩
    · refine .inr ⟨p, _, vs, rfl, rep_int.mp ry, e3, fun z => h4 (List.length_eq_zero_iff.mp (by rw [← hl, z]; rfl)), by omega, h3, by omega, fun q hq => ?_⟩
      exact pq.new hq h g (rep_tup.mpr ⟨q, _, rfl, SqT.of upd_same, (repL_rep rs _).fr (.new hq)⟩)
  · exact h.elim
end
end AL
namespace AL
open PySem PySem.Spec PyProof.Rows L2 LamX JW
end AL
namespace AL
open PySem PySem.Spec PyProof.Rows L2 LamX JW
section
variable {X : Cx} {c : AC X.K}
end
end AL
namespace JW
open PySem PySem.Spec PyProof.Rows
section
variable {α : Type} [DecidableEq α]
end
end JW
namespace JW
open PySem PySem.Spec PyProof.Rows
end JW
namespace JW
open PySem PySem.Spec PyProof.Rows
end JW
namespace JW
open PySem PySem.Spec PyProof.Rows
end JW
namespace JW
open PySem PySem.Spec PyProof.Rows
end JW
namespace AL
open PySem PySem.Spec PyProof.Rows L2 LamX JW
end AL
namespace AL
open PySem PySem.Spec PyProof.Rows L2 LamX JW
section
variable {X : Cx} {c : AC X.K} {H0 : Hp} {e : Expr} {es : List Expr} {as : ATA} {x : Str} {p pos : Pos} {k : Nat} {asp : ASp}
end
end AL
namespace PySem
namespace JWX
open Builtin Builtin.ObjectAttr PySem.HandSPX
section
open PySem.W (Looks InitBack kdv_tup)
variable {prog : Program} {w : World} {A : Around} {R : Result → Shared → Prop} {hp : Heap} {gs : Array GenState} {dr : Drawn} {tk : Nat} {os : OsState}
variable {nm qn : Str} {C N : Addr} {bs bm bmB : List Value} {hd : Bool} {sn : List Str} {sub : List Value} {ab : Bool} {col : Option Bool} {dd : Option Addr} {k0 k1 k2 k3 k5 : Option Value} {B newId initId : String}
theorem new_kw (F : ExcBaseFacts B newId initId bmB) (hT : ∀ z : String, bm.contains (.type z) = bmB.contains (.type z)) {us : List Value} {kw : List (Str × Value)} (hC : hp.get? C = some (excClassObj nm qn C N bs bm hd sn sub ab col dd k0 k1 k2 k3 k5 newId)) (hl : us.length ≤ sizeLine)
    (q : R (.ok (.ret (.ref (hp.objs.size + 1)))) ⟨(hp.push (kdv_tup us)).push (excO C hp.objs.size), gs, dr, tk, os⟩) : codeAny (model prog w) A (.builtin newId ⟨.ref C :: us, kw⟩) R ⟨hp, gs, dr, tk, os⟩ := by
  have z0 := F.ends
  have z1 : (Value.ref C :: bm).contains (.type B) = true := by simp only [List.contains_cons, hT, F.hasB, Bool.or_true]
  have z2 : (Value.ref C :: bm).contains (.type "AttributeError") = false := by simp only [List.contains_cons, hT, F.noAttr]; rfl
  have z3 : (Value.ref C :: bm).contains (.type "NameError") = false := by simp only [List.contains_cons, hT, F.noName]; rfl
  refine codeAny_builtinAt F.entry ?_
  unfold Builtin.«BaseException.__new__»
  refine wpAt_bind ?_
  show wpAt _ _ _ (stack >>= _) _ _ _
  refine wpAt_bind (wpAt_stack fun p below => wpAt_of_wpAny ?_)
  wp_walk
  refine wpAt_of_wpAny ?_
  rw [F.owner]
  repeat (first | with_reducible refine wpAny_madeHere_exc F.canon hC ?_ | with_reducible refine wpAny_loadPart_at hC ?_ | (with_reducible refine wpAny_isSubtype_exc hC ?_; first | rw [z1] | rw [z2] | rw [z3]) | wp_step)
  show R _ _
  rw [Heap.size_push]
  exact q
theorem chk_kw {M : Model} {E : Value → Shared → Prop} (F : ExcBaseFacts B newId initId bmB) (hT : ∀ z : String, bm.contains (.type z) = bmB.contains (.type z)) {us : List Value} {kw : List (Str × Value)} {Q : Unit → Shared → Prop} (hC : hp.get? C = some (excClassObj nm qn C N bs bm hd sn sub ab col dd k0 k1 k2 k3 k5 newId))
    (q : Q () ⟨hp, gs, dr, tk, os⟩) : wpAny M A (checkBuiltinCall newId ⟨.ref C :: us, kw⟩) Q E ⟨hp, gs, dr, tk, os⟩ := by
  have z1 : (Value.ref C :: bm).contains (.type B) = true := by simp only [List.contains_cons, hT, F.hasB, Bool.or_true]
  have z2 := F.noStar
  simp only [checkBuiltinCall, F.newKind, F.newSplit, F.newRow]
  repeat (first | refine wpAny_loadPart_at hC ?_ | (refine wpAny_isSubtype_exc hC ?_; rw [z1]) | refine wpAny_staticBase_exc hC ?_ | refine wpAny_madeBy_exc hC ?_ | simp only [bne_self_eq_false, Bool.false_eq_true, if_false] | wp_step)
  exact q
theorem tcall_kw {E : Value → Shared → Prop} (F : ExcBaseFacts B newId initId bmB) (hT : ∀ z : String, bm.contains (.type z) = bmB.contains (.type z)) {us : List Value} {kw : List (Str × Value)} {fI : Addr} {Q : Fin → Shared → Prop} (hC : hp.get? C = some (excClassObj nm qn C N bs bm hd sn sub ab col dd k0 k1 k2 k3 k5 newId))
    (hi : Looks (model prog w) hp (typeLookup (.ref C) "__init__") (some (.ref fI))) (hb : ∀ self, Looks (model prog w) hp (bindSpecial (.ref fI) self) (.ref fI, [self])) (hl : us.length ≤ sizeLine)
    (q : codeAny (model prog w) A (.call (.ref fI) ⟨.ref (hp.objs.size + 1) :: us, kw⟩) (fun r s' => match r with | .ok (.ret v) => v = .none ∧ Q (.done (.ret (.ref (hp.objs.size + 1)))) s' | .ok _ => False | .error e => E e s') ⟨(hp.push (kdv_tup us)).push (excO C hp.objs.size), gs, dr, tk, os⟩) :
    wpAny (model prog w) A (Builtin.«type.__call__» ⟨.ref C :: us, kw⟩) Q E ⟨hp, gs, dr, tk, os⟩ := by
  repeat (first | with_reducible refine wpAny_loadPart_at hC ?_ | with_reducible refine wpAny_madeBy_exc hC ?_ | wp_step)
  refine codeAny_call_builtin_code (Code.quiet_builtin _ F.quiet) (chk_kw F hT hC ?_)
  refine new_kw F hT hC hl ?_
  show wpAny _ _ _ _ _ _
  have kk : ∀ b o, hp.get? b = some o → ((hp.push (kdv_tup us)).push (excO C hp.objs.size)).get? b = some o := fun b o e => Heap.get?_push_of_some _ (Heap.get?_push_of_some _ e)
  have hC2 := kk _ _ hC
  have hg : ((hp.push (kdv_tup us)).push (excO C hp.objs.size)).get? (hp.objs.size + 1) = some (excO C hp.objs.size) := by heap_get
  have hcc : (Value.ref C :: bm).contains (.ref C) = true := by simp
  have i1 := hi.keeps kk
  have b1 := (hb (.ref (hp.objs.size + 1))).keeps kk
  unfold isInstance
  repeat (first | with_reducible refine wpAny_loadPart_at hg ?_ | (with_reducible refine wpAny_isSubtype_exc hC2 ?_; rw [hcc]) | wp_step)
  show wpAny _ _ (typeLookup (.ref C) _) _ _ _
  refine i1.at (wpAny_holding (wpAny_bind (b1.at (wpAny_bind (wpAny_call (codeAny_mono q fun r s' z => ?_))))))
  match r, z with
  | .error _, z => exact z
  | .ok (.ret v), z =>
    obtain ⟨rfl, z⟩ := z
    first
      | exact wpAny_pure (wpAny_pure z)
      | (wp_walk; exact z)
  | .ok .next, z => exact False.elim z
  | .ok .brk, z => exact False.elim z
  | .ok .cont, z => exact False.elim z
theorem chkT_kw {M : Model} {E : Value → Shared → Prop} {us : List Value} {kw : List (Str × Value)} {Q : Unit → Shared → Prop} (hC : hp.get? C = some (excClassObj nm qn C N bs bm hd sn sub ab col dd k0 k1 k2 k3 k5 newId)) (q : Q () ⟨hp, gs, dr, tk, os⟩) :
    wpAny M A (checkBuiltinCall "type.__call__" ⟨.ref C :: us, kw⟩) Q E ⟨hp, gs, dr, tk, os⟩ := by
  have z3 := tc_sub
  have hTy : (⟨hp, gs, dr, tk, os⟩ : Shared).TypeIs (.ref C) "type" := ⟨_, hC, rfl⟩
  simp only [checkBuiltinCall, tc_kind, tc_split]
  repeat (any_goals (first | assumption | with_reducible refine wpAny_loadPart_at hC ?_ | with_reducible refine wpAny_onRaise ?_ | with_reducible refine wpAny_map ?_ | wp_step))
theorem call_kw (F : ExcBaseFacts B newId initId bmB) (hT : ∀ z : String, bm.contains (.type z) = bmB.contains (.type z)) {us : List Value} {kw : List (Str × Value)} {fI : Addr} (hC : hp.get? C = some (excClassObj nm qn C N bs bm hd sn sub ab col dd k0 k1 k2 k3 k5 newId))
    (hi : Looks (model prog w) hp (typeLookup (.ref C) "__init__") (some (.ref fI))) (hb : ∀ self, Looks (model prog w) hp (bindSpecial (.ref fI) self) (.ref fI, [self])) (hl : us.length ≤ sizeLine)
    (q : codeAny (model prog w) (A.under (.builtin "type.__call__" ⟨.ref C :: us, kw⟩)) (.call (.ref fI) ⟨.ref (hp.objs.size + 1) :: us, kw⟩) (InitBack (hp.objs.size + 1) R) ⟨(hp.push (kdv_tup us)).push (excO C hp.objs.size), gs, dr, tk, os⟩) :
    codeAny (model prog w) A (.call (.ref C) ⟨us, kw⟩) R ⟨hp, gs, dr, tk, os⟩ := by
  have z1 := tc_lookup
  have z2 := tc_bind (.ref C)
  have z3 := tc_sub
  have hTy : (⟨hp, gs, dr, tk, os⟩ : Shared).TypeIs (.ref C) "type" := ⟨_, hC, rfl⟩
  refine codeAny_of_tree ?_
  show wpAny _ _ (callAny (.ref C) _) _ _ _
  repeat (any_goals (first | assumption | with_reducible refine wpAny_loadPart_at hC ?_ | wp_step))
  refine ⟨rfl, codeAny_call_builtin_at (Code.quiet_builtin _ (by decide +kernel)) entry_typeCall ?_⟩
  refine chkT_kw hC (tcall_kw F hT hC hi hb hl (codeAny_mono q fun r s' z => ?_))
  match r, z with
  | .error _, z => exact z
  | .ok (.ret v), z => exact z
  | .ok .next, z => exact z
  | .ok .brk, z => exact z
  | .ok .cont, z => exact z
end
end JWX
end PySem
namespace JW
open PySem PySem.Spec PyProof.Rows L2
def rErr (C : Addr) (f : Str) (v : V) (H : Hp) (Q : VK) : Prop := ∀ a d, H a = none → H d = none → d ≠ a → Q (.ref a) (upd (upd (upd H a (exo a C none)) d (exd d [(f, v)])) a (exo a C (some d)))
def rErr0 (C : Addr) (H : Hp) (Q : VK) : Prop := ∀ a, H a = none → Q (.ref a) (upd H a (exo a C none))
structure ErrDK (P : Program) (w : World) (K : PySem.W.Frag) (mg : Str → Option Value) (base : Heap) (k : Nat) (x : Str) (C : Addr) (ps : List Str) (f : Str) : Prop where
  g : mg x = some (.ref C)
  c : ErrC K C
  ex : ∃ fI fd, PySem.W.findIn K (.ref C) "__init__" = some (some (.ref fI)) ∧ PySem.W.typeIn K (.ref fI) = some (.type "function") ∧ ps.length = 2 ∧ Binds K fd ps [] ∧ (∀ (s : Shared) (self v : Value), BindsTo s fd ⟨[self], [(f, v)]⟩ (ps.zip [self, v])) ∧
    FnOk P w K mg base CX0 k fI fd ps (spErr K C f)
section
variable {P : Program} {w : World} {K : PySem.W.Frag} {mg : Str → Option Value} {base : Heap} {C : Addr} {x f : Str}
theorem ErrAt.okK {qual : Str} {st : Stmt} {N ps : List Str} {k : Nat} (D : ErrAt K mg x C qual st ps) (S : FnScope N ps (defScope st)) (hl : ps.length = 2)
    (hk : ∀ (kV doc pm : Value) (an : Option Addr) (cdv ct self v : Value), bindArgs (PySem.W.fnOf "__init__" qual (defArgs st) (defBody st) (defScope st) .none kV doc pm an cdv ct) ⟨[self], [(f, v)]⟩ = pure (ps.zip [self, v]))
    (hbody : ∀ (f' : Addr) (cdv : Value) (A : Around) (outer : List Env) (s : Shared) (H : Hp) (vs : List V) (Q : VK) (E : XK), Room k (A.deeper (envOfC qual (defScope st) s.heap.objs.size f' cdv)) → spErr K C f vs H Q E →
      ∃ t, PSs (cxOf CX0 P w K mg base N qual (defScope st) f' cdv A outer s H E).nox (defBody st) t ∧ t { nx := fun _ H' => Q .non H', rt := Q } (start N vs) H) : ErrDK P w K mg base (k + 1) x C ps f := by
  obtain ⟨fI, fd, h1, h2, F, b⟩ := D.ex
  refine ⟨D.g, D.c, fI, fd, h1, h2, hl, b, fun s self v => ?_, okF F S (fun vs H Q E ⟨a, v, e, _⟩ => by rw [e, hl]; rfl) fun cdv A outer s H vs Q E hr h => hbody fI cdv A outer s H vs Q E hr h⟩
  obtain ⟨oc, od, dV, kV, doc, pm, an, cdv, ct, osl, rfl, lk, hcd, hD, hK⟩ := F.ex
  rcases hD with ⟨_, rfl⟩ | ⟨e, _⟩
  · exact .of_eq (hk kV doc pm an cdv ct self v)
  · exact absurd rfl e
end
section
variable {X : Cx} {p pos : Pos} {x f : Str} {C fI : Addr} {k : Nat} {ps : List Str} {fd : FuncData} {e : Expr} {te : TE} {kws : List Keyword} {tk : TA} {pins : List (Addr × Obj)} {σ : L2.St} {H : Hp} {s : Shared} {Q : VK}
theorem run_err {us : List Value} {kw : List (Str × Value)} {u : Value} {v : V} (T : OexC X.K C) (iC : PySem.W.findIn X.K (.ref C) "__init__" = some (some (.ref fI))) (tI : PySem.W.typeIn X.K (.ref fI) = some (.type "function"))
    (F1 : FnOk X.prog X.w X.K X.mg X.base CX0 k fI fd ps (spErr X.K C f)) (hr : Room (k + 1) X.A) (hl : us.length ≤ sizeLine) (hb : ∀ (s : Shared) (self : Value), X.K.In s.heap → BindsTo s fd ⟨self :: us, kw⟩ (ps.zip [self, u]))
    (I : Inv X pins σ H s) (rv : RelV v u) (h : rErr C f v H Q) : wpAny (model X.prog X.w) X.A (call (.ref C) us kw) (EP X pins σ Q) X.xe s := by
  obtain ⟨nm, q, N, bs, bm, sn, sub, ab, col, dd, k0, k1, k2, k3, k5, hC, hbm⟩ := T.cls
  obtain ⟨hp, g, dr, tk, os⟩ := s
  have hsz : hp.objs.size ≤ hp.objs.size + 1 := Nat.le_succ _
  have hn : H (hp.objs.size + 1) = none := I.hok.fresh hsz
  have kk : ∀ b o, hp.get? b = some o → ((hp.push (PySem.W.kdv_tup us)).push (PySem.HandSPX.excO C hp.objs.size)).get? b = some o := fun b o e => Heap.get?_push_of_some _ (Heap.get?_push_of_some _ e)
  have hget : ((hp.push (PySem.W.kdv_tup us)).push (PySem.HandSPX.excO C hp.objs.size)).get? (hp.objs.size + 1) = some (PySem.HandSPX.excO C hp.objs.size) := by heap_get
  have I2 : Inv X pins σ (upd H (hp.objs.size + 1) (exo (hp.objs.size + 1) C none)) ⟨(hp.push (PySem.W.kdv_tup us)).push (PySem.HandSPX.excO C hp.objs.size), g, dr, tk, os⟩ :=
    I.laid (t' := tk) (a := hp.objs.size + 1) (o := exo (hp.objs.size + 1) C none) (h' := (hp.push (PySem.W.kdv_tup us)).push (PySem.HandSPX.excO C hp.objs.size)) kk hsz (exo_ok hget)
  have hq : spErr X.K C f [V.ref (hp.objs.size + 1), v] (upd H (hp.objs.size + 1) (exo (hp.objs.size + 1) C none)) (fun z H' => z = .non ∧ Q (.ref (hp.objs.size + 1)) H') (fun _ _ _ => False) :=
    ⟨_, v, rfl, upd_same, fun d nd da => ⟨rfl, h _ d hn (by rw [upd_ne da] at nd; exact nd) da⟩⟩
  refine wpAny_call (PySem.JWX.call_kw F.excBase_ValueError (fun Y => PySem.HandSPX.refsVE_contains Y bm hbm) (I.kIn _ _ hC) (PySem.W.looks_findIn I.kIn iC) (fun self => PySem.W.bind_fn I.kIn self tI) hl
    (codeAny_mono (F1.run _ X.stack _ _ ⟨Value.ref (hp.objs.size + 1) :: us, kw⟩ [Value.ref (hp.objs.size + 1), u] [V.ref (hp.objs.size + 1), v] _ (fun _ _ _ => False) (hr.make C us kw) (I2.env0.make C us kw) (hb _ _ I2.kIn) (.cons rfl (.cons rv .nil)) hq) fun r s' hq' => ?_))
  cases r with
  | error er => exact pass0 (X := X) pins σ _ _ er s' I2 hq'
  | ok fl =>
    cases fl with
    | ret u =>
      obtain ⟨v', H', I3, rv', ev, q3⟩ := I2.after hq'
      subst ev
      exact ⟨rv', ⟨V.ref (hp.objs.size + 1), H', I3, rfl, q3⟩⟩
    | next => exact False.elim hq'
    | brk => exact False.elim hq'
    | cont => exact False.elim hq'
def rErrL (C : Addr) (f : Str) : List V → Hp → VK → Prop
  | [v], H, Q => rErr C f v H Q
  | _, _, _ => False
theorem pe_err (D : ErrDK X.prog X.w X.K X.mg X.base k x C ps f) (hr : Room (k + 1) X.A) (hg : Gl X x) (he : PE X e te) (hdb : (x == ("__debug__" : Str)) = false := by decide)
    (hst : starEach [e] X.env = (false, eval e X.env) :: starEach [] X.env := by rfl) (hpl : (backTo pos (starEach [] X.env)).any (·.1) = false := by rfl) : PE X (.Call (.Name x p) [e] [] pos) (fun σ H Q => te σ H fun v H1 => rErr C f v H1 Q) := by
  obtain ⟨fI, fd, h1, h2, h3, hb, _, F⟩ := D.ex
  refine ⟨fun pins s σ H Q I h => ?_⟩
  refine wpAny_Call_Name_kw (ld_glob I hg D.g ?_ hdb)
  refine PySem.W.callWith_K (h₀ := X.base) I.ok.mod.kin D.c.o.kC (thn ((pa_cons he pa_nil hst).run pos pins _ σ H (fun vs H1 => rErrL C f vs H1 Q) (I.tok _) (show tCons te tNil σ H _ from h)) fun us s1 ⟨vs, H1, I1, r1, q1⟩ => ⟨I1.kIn, ?_⟩) hst hpl
  match vs, r1, q1 with
  | [v], r1, q1 =>
    obtain ⟨u, rfl, rv⟩ := vals1 r1
    exact run_err D.c.o h1 h2 F hr (by rw [sizeLine_eq]; exact Nat.le_add_left 1 16777215) (fun s self X => by have := hb s [self, u] X (by rw [h3]; rfl); simpa using this) I1 rv q1
  | [], _, q1 => exact q1.elim
  | _ :: _ :: _, _, q1 => exact q1.elim
theorem pe_errK (D : ErrDK X.prog X.w X.K X.mg X.base k x C ps f) (hr : Room (k + 1) X.A) (hg : Gl X x) (hkw : PK X kws tk) (hdb : (x == ("__debug__" : Str)) = false := by decide)
    (hall : (backToKw pos (keywordEach kws X.env)).all (·.1.isSome) = true := by rfl) (hks : (backToKw pos (keywordEach kws X.env)).filterMap (·.1) = [f] := by rfl)
    (hpl : ((backTo pos (starEach [] X.env)).any (·.1) || (backToKw pos (keywordEach kws X.env)).any (·.1.isNone)) = false := by rfl) : PE X (.Call (.Name x p) [] kws pos) (fun σ H Q => tk σ H fun vs H1 => rErrL C f vs H1 Q) := by
  obtain ⟨fI, fd, h1, h2, h3, _, hb, F⟩ := D.ex
  refine ⟨fun pins s σ H Q I h => ?_⟩
  refine wpAny_Call_Name_kw (ld_glob I hg D.g ?_ hdb)
  refine PySem.W.callWith_KW0 (h₀ := X.base) I.ok.mod.kin D.c.o.kC hall ?_ hpl
  refine thn (hkw.run pos pins _ σ H _ (I.tok _) h) fun ws s2 ⟨zs, H2, I2, rz, q2⟩ => ⟨I2.kIn, ?_⟩
  rw [hks]
  match zs, rz, q2 with
  | [v], rz, q2 =>
    obtain ⟨u, rfl, rv⟩ := vals1 rz
    exact run_err (us := []) D.c.o h1 h2 F hr (Nat.zero_le _) (fun s self _ => hb s self u) I2 rv q2
  | [], _, q2 => exact q2.elim
  | _ :: _ :: _, _, q2 => exact q2.elim
end
section
variable {X : Cx} {p pos : Pos} {x : Str} {C : Addr} {k : Nat} {ps : List Str}
theorem pe_err0 (D : ErrD X.prog X.w X.K X.mg X.base k x C ps (spErr0 X.K C)) (hr : Room (k + 1) X.A) (hg : Gl X x) (hdb : (x == ("__debug__" : Str)) = false := by decide) : PE X (.Call (.Name x p) [] [] pos) (fun _ H Q => rErr0 C H Q) := by
  obtain ⟨fI, fd, iC, tI, hb, F1⟩ := D.ex
  have T := D.c.o
  refine ⟨fun pins s σ H Q I h => ?_⟩
  obtain ⟨nm, q, N, bs, bm, sn, sub, ab, col, dd, k0, k1, k2, k3, k5, hC, hbm⟩ := T.cls
  refine wpAny_Call_Name_kw (ld_glob I hg D.g ?_ hdb)
  have I := I.tok s.toks
  refine PySem.W.callWith_K0 I.kIn T.kC ?_
  show wpAny _ _ (call (.ref C) []) _ _ _
  obtain ⟨hp, g, dr, tk, os⟩ := s
  have hsz : hp.objs.size ≤ hp.objs.size + 1 := Nat.le_succ _
  have hn : H (hp.objs.size + 1) = none := I.hok.fresh hsz
  have kk : ∀ b o, hp.get? b = some o → ((hp.push (PySem.W.kdv_tup [])).push (PySem.HandSPX.excO C hp.objs.size)).get? b = some o := fun b o e => Heap.get?_push_of_some _ (Heap.get?_push_of_some _ e)
  have hget : ((hp.push (PySem.W.kdv_tup [])).push (PySem.HandSPX.excO C hp.objs.size)).get? (hp.objs.size + 1) = some (PySem.HandSPX.excO C hp.objs.size) := by heap_get
  have I2 : Inv X pins σ (upd H (hp.objs.size + 1) (exo (hp.objs.size + 1) C none)) ⟨(hp.push (PySem.W.kdv_tup [])).push (PySem.HandSPX.excO C hp.objs.size), g, dr, tk, os⟩ :=
    I.laid (t' := tk) (a := hp.objs.size + 1) (o := exo (hp.objs.size + 1) C none) (h' := (hp.push (PySem.W.kdv_tup [])).push (PySem.HandSPX.excO C hp.objs.size)) kk hsz (exo_ok hget)
  have hq : spErr0 X.K C [V.ref (hp.objs.size + 1)] (upd H (hp.objs.size + 1) (exo (hp.objs.size + 1) C none)) (fun z H' => z = .non ∧ Q (.ref (hp.objs.size + 1)) H') (fun _ _ _ => False) := ⟨_, rfl, upd_same, rfl, h _ hn⟩
  have hl : [Value.ref (hp.objs.size + 1)].length = ps.length := F1.len _ _ _ _ hq
  refine wpAny_call (PySem.JWX.call_kw F.excBase_ValueError (fun Y => PySem.HandSPX.refsVE_contains Y bm hbm) (I.kIn _ _ hC) (PySem.W.looks_findIn I.kIn iC) (fun self => PySem.W.bind_fn I.kIn self tI) (Nat.zero_le _)
    (codeAny_mono (F1.run _ X.stack _ _ ⟨[Value.ref (hp.objs.size + 1)], []⟩ [Value.ref (hp.objs.size + 1)] [V.ref (hp.objs.size + 1)] _ (fun _ _ _ => False) (hr.make C [] []) (I2.env0.make C [] []) (hb _ [Value.ref (hp.objs.size + 1)] I2.kIn hl) (.cons rfl .nil) hq) fun r s' hq' => ?_))
  cases r with
  | error er => exact pass0 (X := X) pins σ _ _ er s' I2 hq'
  | ok fl =>
    cases fl with
    | ret u =>
      obtain ⟨v', H', I3, rv', ev, q3⟩ := I2.after hq'
      subst ev
      exact ⟨rv', ⟨V.ref (hp.objs.size + 1), H', I3, rfl, q3⟩⟩
    | next => exact False.elim hq'
    | brk => exact False.elim hq'
    | cont => exact False.elim hq'
theorem pe_errB (g : X.mg x = some (.ref C)) (T : OexC X.K C) (iC : PySem.W.findIn X.K (.ref C) "__init__" = some (some (.builtin "ValueError.__init__"))) (hg : Gl X x) (hdb : (x == ("__debug__" : Str)) = false := by decide) : PE X (.Call (.Name x p) [] [] pos) (fun _ H Q => rErr0 C H Q) := by
  refine ⟨fun pins s σ H Q I h => ?_⟩
  obtain ⟨nm, q, N, bs, bm, sn, sub, ab, col, dd, k0, k1, k2, k3, k5, hC, hbm⟩ := T.cls
  refine wpAny_Call_Name_kw (ld_glob I hg g ?_ hdb)
  have I := I.tok s.toks
  refine PySem.W.callWith_K0 I.kIn T.kC ?_
  show wpAny _ _ (call (.ref C) []) _ _ _
  obtain ⟨hp, g, dr, tk, os⟩ := s
  have hsz : hp.objs.size ≤ hp.objs.size + 1 := Nat.le_succ _
  have hn : H (hp.objs.size + 1) = none := I.hok.fresh hsz
  refine PySem.W.call_B F.excBase_ValueError (fun Y => PySem.HandSPX.refsVE_contains Y bm hbm) (I.kIn _ _ hC) (PySem.W.looks_findIn I.kIn iC) (Nat.zero_le _) fun h' k e1 e2 => ?_
  exact ⟨V.ref (hp.objs.size + 1), _, I.laid (t' := tk) (a := hp.objs.size + 1) (o := exo (hp.objs.size + 1) C none) (h' := h') k hsz (exo_ok e1), rfl, h _ hn⟩
end
end JW
namespace JW
open PySem PySem.Spec PyProof.Rows L2 AL
section
variable {X : Cx} {pins : List (Addr × Obj)} {σ : L2.St} {H : Hp} {s : Shared} {a C : Addr} {fs : List (Str × V)} {o : Expr} {te : TE} {pos : Pos} {f : Str}
theorem errO_inst (I : Inv X pins σ H s) (h : ErrO H a C fs) : ∃ oe od, PySem.W.InstAt s.heap a oe C od ∧ (fs = [] ∨ ∃ od1, od = some od1 ∧ ∀ g v, fs.lookup g = some v → ∃ u, PySem.W.lookIn g od1 = some (some u) ∧ RelV v u) := by
  obtain ⟨d, φ, ea, hφ, ed⟩ := h
  have hx : ObjOk X.prog X.w H s.heap a (.ext φ) := I.hok a _ ea
  obtain ⟨oe, hget, hc, hd, vs, hv⟩ := hφ _ hx.1
  have nc : PySem.W.notCls oe := by unfold PySem.W.notCls; rw [hv] <;> rfl
  rcases ed with ⟨e1, e2⟩ | ⟨dd, e1, ed⟩
  · subst e1
    subst e2
    exact ⟨oe, none, ⟨hget, hc, nc, by rw [hd]; trivial⟩, .inl rfl⟩
  · subst e1
    obtain ⟨mA, hns, hr⟩ : ∃ mA, s.heap.Ns1 dd mA ∧ ∀ g, RelO (fs.lookup g) (mA g) := by
      rcases ed with ed | ed
      · have hy : ObjOk X.prog X.w H s.heap dd (.xd fs) := I.hok dd _ ed
        exact hy
      · exact exd_at I.hok ed
    obtain ⟨od, ho, hl⟩ := lookIn_ns hns
    refine ⟨oe, some od, ⟨hget, hc, nc, by rw [hd]; exact ho⟩, .inr ⟨od, rfl, fun g v e => ?_⟩⟩
    obtain ⟨u, hu, ru⟩ := RelO.some_of (v := v) (o := mA g) (by rw [← e]; exact hr g)
    exact ⟨u, by rw [hl, hu], ru⟩
theorem pe_errF (he : PE X o te) (hb : attributeBase o f X.env (eval o X.env) = eval o X.env := by rfl) :
    PE X (.Attribute o f pos) (fun σ H Q => te σ H fun x H1 => ∃ a C fs v, x = .ref a ∧ ErrO H1 a C fs ∧ XfC X.K C ∧ PySem.W.findIn X.K (.ref C) f = some none ∧ fs.lookup f = some v ∧ Q v H1) := by
  refine ⟨fun pins s σ H Q I h => ?_⟩
  refine attr_of hb (thn (he.run pins s σ H _ I h) fun u s1 hh => ?_)
  obtain ⟨x, H1, I1, rx, a, C, fs, v, ex, eo, T, hno, l, q⟩ := hh
  subst ex
  obtain rfl : u = Value.ref a := rx
  obtain ⟨oe, od, J, e⟩ := errO_inst I1 eo
  rcases e with e | ⟨od1, e, k⟩
  · subst e
    cases l
  · subst e
    obtain ⟨u, e2, ru⟩ := k f v l
    exact HandSPX.exc_get I1.kIn J T.ga T.gg T.exC (PySem.W.findObj_own T.hdC hno rfl e2) (handed_of ru) ⟨v, H1, I1.tok _, ru, q⟩
def rIsE (K : PySem.W.Frag) : List V → Hp → VK → Prop := fun xs H Q => ∃ (a C : Addr) (fs : List (Str × V)) (c : V) (cv : Value) (b : Bool), xs = [.ref a, c] ∧ ErrO H a C fs ∧ ExcC K C ∧ ClsV c cv ∧ PySem.W.kitOne K (.ref C) cv = some b ∧ Q (.bl b) H
theorem call_isE : CallR X (.builtin "isinstance") (rIsE X.K) := by
  intro pins s σ H xs us Q I r h
  obtain ⟨a, C, fs, c, cv, b, rfl, eo, hC, hcv, e, q⟩ := h
  obtain ⟨u1, u2, rfl, r1, r2⟩ := vals2 r
  cases (show u1 = Value.ref a from r1)
  cases hcv.eq r2
  obtain ⟨oe, od, J, _⟩ := errO_inst I eo
  have hcl : (PySem.W.clsIn X.K C).isSome = true := by
    obtain ⟨cd, h1, _⟩ := PySem.W.any_some hC.hd
    rw [h1] <;> rfl
  exact PySem.W.kia_one (PySem.W.kitx_exc hcl hC.hg hC.hk hC.hs hC.ha hC.hn hC.ht hC.hm) I.kIn J e (fun z => nomatch z) fun tk => ⟨.bl b, H, I.kept (t' := tk) fun _ _ z => z, rfl, q⟩
end
structure MakeKD (P : Program) (w : World) (K : PySem.W.Frag) (mg : Str → Option Value) (base : Heap) (CX : CXT) (k : Nat) (x : Str) (C : Addr) (ps : List Str) (dvs : List V) (n : Str) (sp : Sp) : Prop where
  ex : ∃ f fd g, mg x = some (.ref C) ∧ Mk K C f ∧ KBn K fd ps 1 [n] g (fun vs zs => vs ++ zs ++ dvs) ∧ FnOk P w K mg base CX k f fd ps sp
section
variable {P : Program} {w : World} {K : PySem.W.Frag} {mg : Str → Option Value} {base : Heap} {CX : CXT} {C : Addr} {x n : Str}
theorem InitAt.okK {qual : Str} {st : Stmt} {N ps : List Str} {k : Nat} {sp : Sp} {dvs : List V} (D : InitAt K mg x C qual st dvs ps) (S : FnScope N ps (defScope st)) (len : ∀ vs H Q E, sp vs H Q E → vs.length = ps.length) (hd : dvs ≠ [])
    (hk : ∀ (T : Addr) (kV doc pm : Value) (an : Option Addr) (cdv ct u w : Value) (its : List Value), its.length = dvs.length → ∃ k, bindArgs (PySem.W.fnOf "__init__" qual (defArgs st) (defBody st) (defScope st) (.ref T) kV doc pm an cdv ct) ⟨[u], [(n, w)]⟩ = seqItems? (.ref T) >>= k ∧ k (some its.toArray) = pure (ps.zip ([u] ++ [w] ++ its)))
    (hbody : ∀ (f : Addr) (cdv : Value) (A : Around) (outer : List Env) (s : Shared) (H : Hp) (vs : List V) (Q : VK) (E : XK), Room k (A.deeper (envOfC qual (defScope st) s.heap.objs.size f cdv)) → sp vs H Q E →
      ∃ t, PSs (cxOf CX P w K mg base N qual (defScope st) f cdv A outer s H E).nox (defBody st) t ∧ t { nx := fun _ H' => Q .non H', rt := Q } (start N vs) H) : MakeKD P w K mg base CX (k + 1) x C ps dvs n sp := by
  obtain ⟨f, fd, h1, h2, F, b⟩ := D.ex
  have go := okF F S len fun cdv A outer s H vs Q E hr h => hbody f cdv A outer s H vs Q E hr h
  obtain ⟨oc, od, dV, kV, doc, pm, an, cdv, ct, osl, rfl, lk, hcd, hD, hK⟩ := F.ex
  rcases hD with ⟨e, _⟩ | ⟨_, T, o, its, m, rfl, lT, oT, rT⟩
  · exact absurd e hd
  refine ⟨f, _, fun us ws => us ++ ws ++ its, h1, h2, ⟨fun s us ws X l1 l2 => ?_, fun r1 r2 => (r1.append r2).append rT⟩, go⟩
  match us, ws, l1, l2 with
  | [u], [v], _, _ =>
    obtain ⟨k, e1, e2⟩ := hk T kV doc pm an cdv ct u v its rT.length.symm
    refine BindsTo.of_looks fun M => ?_
    show PySem.W.Looks M s.heap (bindArgs _ ⟨[u], [(n, v)]⟩) _
    rw [e1]
    exact looks_items X lT oT (.of_pure e2)
end
end JW
namespace AL
open PySem PySem.Spec PyProof.Rows L2 LamX JW
def aErr (C : Addr) (f : Str) (a : ATE) : ATE := fun env L Q => a env L fun d L1 => Q (.err C [f] [d]) L1
def aErr0 (C : Addr) : ATE := fun _ L Q => Q (.err C [] []) L
def aErrF (K : PySem.W.Frag) (f : Str) (a : ATE) : ATE := fun env L Q => a env L fun d L1 => ∃ C e, d = .err C [f] [e] ∧ XfC K C ∧ PySem.W.findIn K (.ref C) f = some none ∧ Q e L1
def isErrD (K : PySem.W.Frag) : List D → Store → AQ → Prop
  | [d, t], L, Q => ∃ C ks ds cv b, d = .err C ks ds ∧ clsD t = some cv ∧ ExcC K C ∧ PySem.W.kitOne K (.ref C) cv = some b ∧ Q (.bl b) L
  | _, _, _ => False
section
variable {X : Cx} {c : AC X.K} {H0 H1 : Hp} {e o : Expr} {a : ATE} {x f : Str} {p pos kpos : Pos} {C : Addr} {k : Nat} {ps : List Str} {L : Store} {R : AQ} {Q : VK}
theorem err_end {d : D} {v : V} (g : Good c L H1) (r : Rep c H1 d v) (pq : Pq c H1 R Q) (h : R (.err C [f] [d]) L) : rErr C f v H1 Q := by
  intro a dx na nd da
  have e : upd (upd (upd H1 a (exo a C none)) dx (exd dx [(f, v)])) a (exo a C (some dx)) = upd (upd H1 dx (exd dx [(f, v)])) a (exo a C (some dx)) := by
    funext b
    by_cases hb : b = a
    · rw [hb, upd_same, upd_same]
    · rw [upd_ne hb, upd_ne hb]
      by_cases hd : b = dx
      · rw [hd, upd_same, upd_same]
      · rw [upd_ne hd, upd_ne hd, upd_ne hb]
  rw [e]
  have na2 : upd H1 dx (exd dx [(f, v)]) a = none := by rw [upd_ne (Ne.symm da)]; exact na
  have f2 : Fr c H1 (upd (upd H1 dx (exd dx [(f, v)])) a (exo a C (some dx))) := (Fr.new nd).trans (Fr.new na2)
  refine pq _ _ _ _ h f2 ((g.new nd _).new na2 _) (rep_err.mpr ⟨a, [v], rfl, ⟨some dx, _, upd_same, fun h z => ?_, .inr ⟨dx, rfl, .inr ?_⟩⟩, rfl, .one (r.fr f2)⟩)
  · obtain ⟨t1, q⟩ := z
    exact ⟨_, q, rfl, rfl, _, rfl⟩
  · rw [upd_ne da, upd_same]
    rfl
theorem err_end0 (g : Good c L H1) (pq : Pq c H1 R Q) (h : R (.err C [] []) L) : rErr0 C H1 Q := by
  intro a na
  refine pq _ _ _ _ h (.new na) (g.new na _) (rep_err.mpr ⟨a, [], rfl, ⟨none, _, upd_same, fun h z => ?_, .inl ⟨rfl, rfl⟩⟩, rfl, .nil⟩)
  obtain ⟨t1, q⟩ := z
  exact ⟨_, q, rfl, rfl, _, rfl⟩
theorem ae_err (D : ErrDK X.prog X.w X.K X.mg X.base k x C ps f) (hr : Room (k + 1) X.A) (hg : Gl X x) (ha : AE X c H0 e a) (hdb : (x == ("__debug__" : Str)) = false := by decide)
    (hst : starEach [e] X.env = (false, eval e X.env) :: starEach [] X.env := by rfl) (hpl : (backTo pos (starEach [] X.env)).any (·.1) = false := by rfl) : AE X c H0 (.Call (.Name x p) [e] [] pos) (aErr C f a) :=
  (pe_err D hr hg ha hdb hst hpl).imp fun σ H Q ⟨env, L, _, rl, h, pq⟩ => ⟨env, L, _, rl, h, fun _ _ _ _ q s1 g1 r1 => err_end g1 r1 (pq.fr s1) q⟩
theorem ae_errK (D : ErrDK X.prog X.w X.K X.mg X.base k x C ps f) (hr : Room (k + 1) X.A) (hg : Gl X x) (ha : AE X c H0 e a) (hdb : (x == ("__debug__" : Str)) = false := by decide) : AE X c H0 (.Call (.Name x p) [] [⟨some f, e, kpos⟩] pos) (aErr C f a) :=
  (pe_errK (kws := [⟨some f, e, kpos⟩]) D hr hg (pk_cons ha pk_nil) hdb).imp fun σ H Q ⟨env, L, _, rl, h, pq⟩ => ⟨env, L, _, rl, h, fun _ _ _ _ q s1 g1 r1 => err_end g1 r1 (pq.fr s1) q⟩
theorem ae_err0 (D : ErrD X.prog X.w X.K X.mg X.base k x C ps (spErr0 X.K C)) (hr : Room (k + 1) X.A) (hg : Gl X x) (hdb : (x == ("__debug__" : Str)) = false := by decide) : AE X c H0 (.Call (.Name x p) [] [] pos) (aErr0 C) :=
  (pe_err0 D hr hg hdb).imp fun σ H Q ⟨env, L, _, rl, h, pq⟩ => err_end0 rl.good pq h
theorem ae_errB (g : X.mg x = some (.ref C)) (T : OexC X.K C) (iC : PySem.W.findIn X.K (.ref C) "__init__" = some (some (.builtin "ValueError.__init__"))) (hg : Gl X x) (hdb : (x == ("__debug__" : Str)) = false := by decide) : AE X c H0 (.Call (.Name x p) [] [] pos) (aErr0 C) :=
  (pe_errB g T iC hg hdb).imp fun σ H Q ⟨env, L, _, rl, h, pq⟩ => err_end0 rl.good pq h
theorem ae_errF {K : PySem.W.Frag} (eK : X.K = K) (ha : AE X c H0 o a) (hb : attributeBase o f X.env (eval o X.env) = eval o X.env := by rfl) : AE X c H0 (.Attribute o f pos) (aErrF K f a) := by
  subst eK
  refine (pe_errF ha hb).imp fun σ H Q ⟨env, L, R, rl, h, pq⟩ => ⟨env, L, _, rl, h, fun d L1 v H1 ⟨C, e, ed, T, hno, q⟩ s1 g1 r1 => ?_⟩
  subst ed
  obtain ⟨a, vs, rfl, eo, _, rs⟩ := rep_err.mp r1
  obtain ⟨u, rfl, ru⟩ := repL_one rs
  exact ⟨a, C, _, u, rfl, eo, T, hno, by show List.lookup f [(f, u)] = _; rw [lookup_put, if_pos rfl], (pq.fr s1).here q g1 ru⟩
theorem acb_isErr {K : PySem.W.Frag} (eK : X.K = K) : ACB X c (.builtin "isinstance") (isErrD K) := by
  subst eK
  refine ACB.mk' call_isE fun vs H Q ds L R r g h pq => ?_
  unfold isErrD at h
  split at h
  · obtain ⟨C, ks, ds, cv, b, rfl, e1, e2, e3, q⟩ := h
    obtain ⟨v, w, rfl, r1, r2⟩ := repL_two r
    obtain ⟨a, ws, rfl, eo, _, _⟩ := rep_err.mp r1
    exact ⟨a, C, _, w, cv, b, rfl, eo, e2, clsD_low r2 e1, e3, pq.here q g (rep_bl.mpr rfl)⟩
  · exact h.elim
theorem ae_makeK {dvs : List V} {sp : Sp} {asp : ASp} {n : Str} (M : MakeKD X.prog X.w X.K X.mg X.base CX0 k x C ps dvs n sp) (hr : Room (k + 1) X.A) (hg : Gl X x) (ha : AE X c H0 e a)
    (hsp : ∀ ds vs H L R Q, RepL c H ds vs → Good c L H → asp ds L R anyX → Pq c H R Q → ∀ x dx, H x = none → H dx = none → dx ≠ x → sp (.ref x :: (vs ++ dvs)) (upd (upd H dx (.own x)) x (.ins C dx [])) (fun v H2 => v = .non ∧ Q (.ref x) H2) (fun _ _ _ => True))
    (hdb : (x == ("__debug__" : Str)) = false := by decide) : AE X c H0 (.Call (.Name x p) [] [⟨some n, e, kpos⟩] pos) (aCall asp (aCons a aNil)) := by
  obtain ⟨f, fd, g, h1, h2, h3, F⟩ := M.ex
  refine (pe_makeK0 (E := fun _ _ _ => True) (kws := [⟨some n, e, kpos⟩]) h2 F hr hg h1 h3 pass0 (pk_cons ha pk_nil) (hdb := hdb)).imp fun σ H Q ⟨env, L, R, rl, h, pq⟩ => ?_
  refine ⟨env, L, _, rl, h, fun d L1 v H1 q s1 g1 r1 => ⟨rfl, rfl, fun x dx hx hdx ne => ?_⟩⟩
  exact hsp [d] [v] H1 L1 R Q (.one r1) g1 q (pq.fr s1) x dx hx hdx ne
end
theorem agN12_len {i j l : Nat} : ∀ (ds : List D) (env : En) (L : Store) (R : En → Store → Prop), agCons (agName i) (agCons (agTup (agCons (agName j) (agCons (agName l) agNil))) agNil) ds env L R → ds.length = 2 := fun ds env L R h => by
  cases ds with
  | nil => exact h.elim
  | cons a ds =>
    cases ds with
    | nil => exact h.elim
    | cons b rest =>
      have h : agTup (agCons (agName j) (agCons (agName l) agNil)) b (env.set i (some a)) L fun e m => agNil rest e m R := h
      cases b with
      | tup bs =>
        cases bs with
        | nil => exact h.elim
        | cons x bs =>
          cases bs with
          | nil => exact h.elim
          | cons y bs =>
            have h : bs = [] ∧ (rest = [] ∧ R _ L) := h
            rw [h.2.1]
            rfl
      | _ => exact h.elim
end AL
namespace JW
open PySem PySem.Spec PyProof.Rows L2 AL
open He
structure Txt (K : PySem.W.Frag) (mg : Str → Option Value) (base : Heap) : Prop where
  cls : ClsF K mg
  gMOST : ∃ t, mg "MOST" = some (.int (5000) t)
  gDEEPEST : ∃ t, mg "DEEPEST" = some (.int (120) t)
  gJET_TEXT : ∃ t, mg "JET_TEXT" = some (.str ("o") t)
  e_NoText : ErrAt K mg "NoText" (He.ga K "NoText") "NoText.__init__" s_NoText___init__ ["self", "index"]
  na_NoText : PySem.W.findIn K (.ref (He.ga K "NoText")) "index" = some none
  e_NoBasin : ErrAt K mg "NoBasin" (He.ga K "NoBasin") "NoBasin.__init__" s_NoBasin___init__ ["self"]
  e_NoBranch : ErrAt K mg "NoBranch" (He.ga K "NoBranch") "NoBranch.__init__" s_NoBranch___init__ ["self", "index"]
  na_NoBranch : PySem.W.findIn K (.ref (He.ga K "NoBranch")) "index" = some none
  e_NoPlace : ErrAt K mg "NoPlace" (He.ga K "NoPlace") "NoPlace.__init__" s_NoPlace___init__ ["self", "step"]
  na_NoPlace : PySem.W.findIn K (.ref (He.ga K "NoPlace")) "step" = some none
  e_Closed : ErrAt K mg "Closed" (He.ga K "Closed") "Closed.__init__" s_Closed___init__ ["self"]
  e_TooLarge : ErrAt K mg "TooLarge" (He.ga K "TooLarge") "TooLarge.__init__" s_TooLarge___init__ ["self", "pieces"]
  na_TooLarge : PySem.W.findIn K (.ref (He.ga K "TooLarge")) "pieces" = some none
  e_TooDeep : ErrAt K mg "TooDeep" (He.ga K "TooDeep") "TooDeep.__init__" s_TooDeep___init__ ["self", "basins"]
  na_TooDeep : PySem.W.findIn K (.ref (He.ga K "TooDeep")) "basins" = some none
  e_TooMany : ErrAt K mg "TooMany" (He.ga K "TooMany") "TooMany.__init__" s_TooMany___init__ ["self", "many"]
  na_TooMany : PySem.W.findIn K (.ref (He.ga K "TooMany")) "many" = some none
  e_Endless : ErrAt K mg "Endless" (He.ga K "Endless") "Endless.__init__" s_Endless___init__ ["self"]
  e_NotKind : ErrAt K mg "NotKind" (He.ga K "NotKind") "NotKind.__init__" s_NotKind___init__ ["self"]
  e_Nested : ErrAt K mg "Nested" (He.ga K "Nested") "Nested.__init__" s_Nested___init__ ["self"]
  e_Rejected : ErrAt K mg "Rejected" (He.ga K "Rejected") "Rejected.__init__" s_Rejected___init__ ["self", "index"]
  na_Rejected : PySem.W.findIn K (.ref (He.ga K "Rejected")) "index" = some none
  e_NoRow : ErrAt K mg "NoRow" (He.ga K "NoRow") "NoRow.__init__" s_NoRow___init__ ["self"]
  e_NoDifference : ErrAt K mg "NoDifference" (He.ga K "NoDifference") "NoDifference.__init__" s_NoDifference___init__ ["self", "branch"]
  na_NoDifference : PySem.W.findIn K (.ref (He.ga K "NoDifference")) "branch" = some none
  e_NoQuotient : ErrAt K mg "NoQuotient" (He.ga K "NoQuotient") "NoQuotient.__init__" s_NoQuotient___init__ ["self", "place"]
  na_NoQuotient : PySem.W.findIn K (.ref (He.ga K "NoQuotient")) "place" = some none
  d_check_numbers : DefAt K mg "check_numbers" "check_numbers" s_check_numbers [] ["numbers"]
  d_basin_numbers : DefAt K mg "basin_numbers" "basin_numbers" s_basin_numbers [] ["branches"]
  d_product_numbers : DefAt K mg "product_numbers" "product_numbers" s_product_numbers [] ["one", "other"]
  d_parsed : DefAt K mg "parsed" "parsed" s_parsed [] ["text"]
  d_made : DefAtP K mg "made" "made" s_made ["branches"]
  tb_made : LamX.TabB base mg (He.cT K ("made", none)).1 (He.cT K ("made", none)).2
  d_allowed : DefAt K mg "allowed" "allowed" s_allowed [] ["fountain"]
  d_grafted : DefAt K mg "grafted" "grafted" s_grafted [] ["fountain", "part"]
  d_cut : DefAt K mg "cut" "cut" s_cut [] ["fountain", "part"]
  d_bare_place : DefAt K mg "bare_place" "bare_place" s_bare_place [] ["fountain", "part", "path"]
  d_carries : DefAt K mg "carries" "carries" s_carries [] ["fountain", "part"]
  d_multiplied : DefAt K mg "multiplied" "multiplied" s_multiplied [] ["factors"]
  init : InitAt K mg "Fountain" (cF K) "Fountain.__init__" s_Fountain___init__ [.non] ["self", "text", "branches"]
  c_basin : CmAt K (cF K) "basin" "Fountain.basin" s_Fountain_basin ["cls", "parts"]
  c_spray : CmAt K (cF K) "spray" "Fountain.spray" s_Fountain_spray ["cls", "count"]
  c_product : CmAt K (cF K) "product" "Fountain.product" s_Fountain_product ["cls", "parts"]
  p_text : PropAt K (cF K) "text" "Fountain.text" s_Fountain_text
  p_parts : PropAt K (cF K) "parts" "Fountain.parts" s_Fountain_parts
  p_size : PropAt K (cF K) "size" "Fountain.size" s_Fountain_size
  p_jets : PropAt K (cF K) "jets" "Fountain.jets" s_Fountain_jets
  p_depth : PropAt K (cF K) "depth" "Fountain.depth" s_Fountain_depth
  p_longest : PropAt K (cF K) "longest" "Fountain.longest" s_Fountain_longest
  p_shortest : PropAt K (cF K) "shortest" "Fountain.shortest" s_Fountain_shortest
  p_is_open : PropAt K (cF K) "is_open" "Fountain.is_open" s_Fountain_is_open
  p_is_jet : PropAt K (cF K) "is_jet" "Fountain.is_jet" s_Fountain_is_jet
  m___eq__ : MethAt K (cF K) "__eq__" "Fountain.__eq__" s_Fountain___eq__ ["self", "other"]
  m___repr__ : MethAt K (cF K) "__repr__" "Fountain.__repr__" s_Fountain___repr__ ["self"]
  m___len__ : MethAt K (cF K) "__len__" "Fountain.__len__" s_Fountain___len__ ["self"]
  m___getitem__ : MethAt K (cF K) "__getitem__" "Fountain.__getitem__" s_Fountain___getitem__ ["self", "at"]
  m___contains__ : MethAt K (cF K) "__contains__" "Fountain.__contains__" s_Fountain___contains__ ["self", "part"]
  m___add__ : MethAt K (cF K) "__add__" "Fountain.__add__" s_Fountain___add__ ["self", "other"]
  m___sub__ : MethAt K (cF K) "__sub__" "Fountain.__sub__" s_Fountain___sub__ ["self", "other"]
  m___mul__ : MethAt K (cF K) "__mul__" "Fountain.__mul__" s_Fountain___mul__ ["self", "other"]
  m___floordiv__ : MethAt K (cF K) "__floordiv__" "Fountain.__floordiv__" s_Fountain___floordiv__ ["self", "other"]
  m_at : MethAt K (cF K) "at" "Fountain.at" s_Fountain_at ["self", "path"]
  m_put : MethAt K (cF K) "put" "Fountain.put" s_Fountain_put ["self", "path", "part"]
  d__law_feed : DefAt K mg "_law_feed" "_law_feed" s__law_feed [] ["_law_script", "_law_k"]
  d__law_draw : DefAt K mg "_law_draw" "_law_draw" s__law_draw [] ["_law_feed_here", "_law_limit"]
  d__law_errors : DefAt K mg "_law_errors" "_law_errors" s__law_errors [] ["_law_x"]
  d__law_by_names : DefAt K mg "_law_by_names" "_law_by_names" s__law_by_names [] ["_law_x"]
  d__law_sorts : DefAt K mg "_law_sorts" "_law_sorts" s__law_sorts [] ["_law_thing"]
  d_law : DefAt K mg "law" "law" s_law [] ["_law_script"]
  b_JetError : mg "JetError" = some (.ref (He.ga K "JetError")) ∧ InitBy K (He.ga K "JetError")
  b_NoDivision : mg "NoDivision" = some (.ref (He.ga K "NoDivision")) ∧ InitBy K (He.ga K "NoDivision")
  e_JetError : BaseAt mg "JetError" (He.ga K "JetError")
  e_NoDivision : BaseAt mg "NoDivision" (He.ga K "NoDivision")
  k_NoText_NoText : PySem.W.kitOne K (.ref (He.ga K "NoText")) (.ref (He.ga K "NoText")) = some true
  k_NoText_NoBranch : PySem.W.kitOne K (.ref (He.ga K "NoText")) (.ref (He.ga K "NoBranch")) = some false
  k_NoText_NoPlace : PySem.W.kitOne K (.ref (He.ga K "NoText")) (.ref (He.ga K "NoPlace")) = some false
  k_NoText_TooLarge : PySem.W.kitOne K (.ref (He.ga K "NoText")) (.ref (He.ga K "TooLarge")) = some false
  k_NoText_TooDeep : PySem.W.kitOne K (.ref (He.ga K "NoText")) (.ref (He.ga K "TooDeep")) = some false
  k_NoText_TooMany : PySem.W.kitOne K (.ref (He.ga K "NoText")) (.ref (He.ga K "TooMany")) = some false
  k_NoText_Rejected : PySem.W.kitOne K (.ref (He.ga K "NoText")) (.ref (He.ga K "Rejected")) = some false
  k_NoText_NoDifference : PySem.W.kitOne K (.ref (He.ga K "NoText")) (.ref (He.ga K "NoDifference")) = some false
  k_NoText_NoQuotient : PySem.W.kitOne K (.ref (He.ga K "NoText")) (.ref (He.ga K "NoQuotient")) = some false
  k_NoText_NoBasin : PySem.W.kitOne K (.ref (He.ga K "NoText")) (.ref (He.ga K "NoBasin")) = some false
  k_NoText_Closed : PySem.W.kitOne K (.ref (He.ga K "NoText")) (.ref (He.ga K "Closed")) = some false
  k_NoText_Endless : PySem.W.kitOne K (.ref (He.ga K "NoText")) (.ref (He.ga K "Endless")) = some false
  k_NoText_NotKind : PySem.W.kitOne K (.ref (He.ga K "NoText")) (.ref (He.ga K "NotKind")) = some false
  k_NoText_Nested : PySem.W.kitOne K (.ref (He.ga K "NoText")) (.ref (He.ga K "Nested")) = some false
  k_NoText_NoRow : PySem.W.kitOne K (.ref (He.ga K "NoText")) (.ref (He.ga K "NoRow")) = some false
  k_NoText_NoDivision : PySem.W.kitOne K (.ref (He.ga K "NoText")) (.ref (He.ga K "NoDivision")) = some false
  k_NoText_JetError : PySem.W.kitOne K (.ref (He.ga K "NoText")) (.ref (He.ga K "JetError")) = some true
  k_NoBranch_NoText : PySem.W.kitOne K (.ref (He.ga K "NoBranch")) (.ref (He.ga K "NoText")) = some false
  k_NoBranch_NoBranch : PySem.W.kitOne K (.ref (He.ga K "NoBranch")) (.ref (He.ga K "NoBranch")) = some true
  k_NoBranch_NoPlace : PySem.W.kitOne K (.ref (He.ga K "NoBranch")) (.ref (He.ga K "NoPlace")) = some false
  k_NoBranch_TooLarge : PySem.W.kitOne K (.ref (He.ga K "NoBranch")) (.ref (He.ga K "TooLarge")) = some false
  k_NoBranch_TooDeep : PySem.W.kitOne K (.ref (He.ga K "NoBranch")) (.ref (He.ga K "TooDeep")) = some false
  k_NoBranch_TooMany : PySem.W.kitOne K (.ref (He.ga K "NoBranch")) (.ref (He.ga K "TooMany")) = some false
  k_NoBranch_Rejected : PySem.W.kitOne K (.ref (He.ga K "NoBranch")) (.ref (He.ga K "Rejected")) = some false
  k_NoBranch_NoDifference : PySem.W.kitOne K (.ref (He.ga K "NoBranch")) (.ref (He.ga K "NoDifference")) = some false
  k_NoBranch_NoQuotient : PySem.W.kitOne K (.ref (He.ga K "NoBranch")) (.ref (He.ga K "NoQuotient")) = some false
  k_NoBranch_NoBasin : PySem.W.kitOne K (.ref (He.ga K "NoBranch")) (.ref (He.ga K "NoBasin")) = some false
  k_NoBranch_Closed : PySem.W.kitOne K (.ref (He.ga K "NoBranch")) (.ref (He.ga K "Closed")) = some false
  k_NoBranch_Endless : PySem.W.kitOne K (.ref (He.ga K "NoBranch")) (.ref (He.ga K "Endless")) = some false
  k_NoBranch_NotKind : PySem.W.kitOne K (.ref (He.ga K "NoBranch")) (.ref (He.ga K "NotKind")) = some false
  k_NoBranch_Nested : PySem.W.kitOne K (.ref (He.ga K "NoBranch")) (.ref (He.ga K "Nested")) = some false
  k_NoBranch_NoRow : PySem.W.kitOne K (.ref (He.ga K "NoBranch")) (.ref (He.ga K "NoRow")) = some false
  k_NoBranch_NoDivision : PySem.W.kitOne K (.ref (He.ga K "NoBranch")) (.ref (He.ga K "NoDivision")) = some false
  k_NoBranch_JetError : PySem.W.kitOne K (.ref (He.ga K "NoBranch")) (.ref (He.ga K "JetError")) = some true
  k_NoPlace_NoText : PySem.W.kitOne K (.ref (He.ga K "NoPlace")) (.ref (He.ga K "NoText")) = some false
  k_NoPlace_NoBranch : PySem.W.kitOne K (.ref (He.ga K "NoPlace")) (.ref (He.ga K "NoBranch")) = some false
  k_NoPlace_NoPlace : PySem.W.kitOne K (.ref (He.ga K "NoPlace")) (.ref (He.ga K "NoPlace")) = some true
  k_NoPlace_TooLarge : PySem.W.kitOne K (.ref (He.ga K "NoPlace")) (.ref (He.ga K "TooLarge")) = some false
  k_NoPlace_TooDeep : PySem.W.kitOne K (.ref (He.ga K "NoPlace")) (.ref (He.ga K "TooDeep")) = some false
  k_NoPlace_TooMany : PySem.W.kitOne K (.ref (He.ga K "NoPlace")) (.ref (He.ga K "TooMany")) = some false
  k_NoPlace_Rejected : PySem.W.kitOne K (.ref (He.ga K "NoPlace")) (.ref (He.ga K "Rejected")) = some false
  k_NoPlace_NoDifference : PySem.W.kitOne K (.ref (He.ga K "NoPlace")) (.ref (He.ga K "NoDifference")) = some false
  k_NoPlace_NoQuotient : PySem.W.kitOne K (.ref (He.ga K "NoPlace")) (.ref (He.ga K "NoQuotient")) = some false
  k_NoPlace_NoBasin : PySem.W.kitOne K (.ref (He.ga K "NoPlace")) (.ref (He.ga K "NoBasin")) = some false
  k_NoPlace_Closed : PySem.W.kitOne K (.ref (He.ga K "NoPlace")) (.ref (He.ga K "Closed")) = some false
  k_NoPlace_Endless : PySem.W.kitOne K (.ref (He.ga K "NoPlace")) (.ref (He.ga K "Endless")) = some false
  k_NoPlace_NotKind : PySem.W.kitOne K (.ref (He.ga K "NoPlace")) (.ref (He.ga K "NotKind")) = some false
  k_NoPlace_Nested : PySem.W.kitOne K (.ref (He.ga K "NoPlace")) (.ref (He.ga K "Nested")) = some false
  k_NoPlace_NoRow : PySem.W.kitOne K (.ref (He.ga K "NoPlace")) (.ref (He.ga K "NoRow")) = some false
  k_NoPlace_NoDivision : PySem.W.kitOne K (.ref (He.ga K "NoPlace")) (.ref (He.ga K "NoDivision")) = some false
  k_NoPlace_JetError : PySem.W.kitOne K (.ref (He.ga K "NoPlace")) (.ref (He.ga K "JetError")) = some true
  k_TooLarge_NoText : PySem.W.kitOne K (.ref (He.ga K "TooLarge")) (.ref (He.ga K "NoText")) = some false
  k_TooLarge_NoBranch : PySem.W.kitOne K (.ref (He.ga K "TooLarge")) (.ref (He.ga K "NoBranch")) = some false
  k_TooLarge_NoPlace : PySem.W.kitOne K (.ref (He.ga K "TooLarge")) (.ref (He.ga K "NoPlace")) = some false
  k_TooLarge_TooLarge : PySem.W.kitOne K (.ref (He.ga K "TooLarge")) (.ref (He.ga K "TooLarge")) = some true
  k_TooLarge_TooDeep : PySem.W.kitOne K (.ref (He.ga K "TooLarge")) (.ref (He.ga K "TooDeep")) = some false
  k_TooLarge_TooMany : PySem.W.kitOne K (.ref (He.ga K "TooLarge")) (.ref (He.ga K "TooMany")) = some false
  k_TooLarge_Rejected : PySem.W.kitOne K (.ref (He.ga K "TooLarge")) (.ref (He.ga K "Rejected")) = some false
  k_TooLarge_NoDifference : PySem.W.kitOne K (.ref (He.ga K "TooLarge")) (.ref (He.ga K "NoDifference")) = some false
  k_TooLarge_NoQuotient : PySem.W.kitOne K (.ref (He.ga K "TooLarge")) (.ref (He.ga K "NoQuotient")) = some false
  k_TooLarge_NoBasin : PySem.W.kitOne K (.ref (He.ga K "TooLarge")) (.ref (He.ga K "NoBasin")) = some false
  k_TooLarge_Closed : PySem.W.kitOne K (.ref (He.ga K "TooLarge")) (.ref (He.ga K "Closed")) = some false
  k_TooLarge_Endless : PySem.W.kitOne K (.ref (He.ga K "TooLarge")) (.ref (He.ga K "Endless")) = some false
  k_TooLarge_NotKind : PySem.W.kitOne K (.ref (He.ga K "TooLarge")) (.ref (He.ga K "NotKind")) = some false
  k_TooLarge_Nested : PySem.W.kitOne K (.ref (He.ga K "TooLarge")) (.ref (He.ga K "Nested")) = some false
  k_TooLarge_NoRow : PySem.W.kitOne K (.ref (He.ga K "TooLarge")) (.ref (He.ga K "NoRow")) = some false
  k_TooLarge_NoDivision : PySem.W.kitOne K (.ref (He.ga K "TooLarge")) (.ref (He.ga K "NoDivision")) = some false
  k_TooLarge_JetError : PySem.W.kitOne K (.ref (He.ga K "TooLarge")) (.ref (He.ga K "JetError")) = some true
  k_TooDeep_NoText : PySem.W.kitOne K (.ref (He.ga K "TooDeep")) (.ref (He.ga K "NoText")) = some false
  k_TooDeep_NoBranch : PySem.W.kitOne K (.ref (He.ga K "TooDeep")) (.ref (He.ga K "NoBranch")) = some false
  k_TooDeep_NoPlace : PySem.W.kitOne K (.ref (He.ga K "TooDeep")) (.ref (He.ga K "NoPlace")) = some false
  k_TooDeep_TooLarge : PySem.W.kitOne K (.ref (He.ga K "TooDeep")) (.ref (He.ga K "TooLarge")) = some false
  k_TooDeep_TooDeep : PySem.W.kitOne K (.ref (He.ga K "TooDeep")) (.ref (He.ga K "TooDeep")) = some true
  k_TooDeep_TooMany : PySem.W.kitOne K (.ref (He.ga K "TooDeep")) (.ref (He.ga K "TooMany")) = some false
  k_TooDeep_Rejected : PySem.W.kitOne K (.ref (He.ga K "TooDeep")) (.ref (He.ga K "Rejected")) = some false
  k_TooDeep_NoDifference : PySem.W.kitOne K (.ref (He.ga K "TooDeep")) (.ref (He.ga K "NoDifference")) = some false
  k_TooDeep_NoQuotient : PySem.W.kitOne K (.ref (He.ga K "TooDeep")) (.ref (He.ga K "NoQuotient")) = some false
  k_TooDeep_NoBasin : PySem.W.kitOne K (.ref (He.ga K "TooDeep")) (.ref (He.ga K "NoBasin")) = some false
  k_TooDeep_Closed : PySem.W.kitOne K (.ref (He.ga K "TooDeep")) (.ref (He.ga K "Closed")) = some false
  k_TooDeep_Endless : PySem.W.kitOne K (.ref (He.ga K "TooDeep")) (.ref (He.ga K "Endless")) = some false
  k_TooDeep_NotKind : PySem.W.kitOne K (.ref (He.ga K "TooDeep")) (.ref (He.ga K "NotKind")) = some false
  k_TooDeep_Nested : PySem.W.kitOne K (.ref (He.ga K "TooDeep")) (.ref (He.ga K "Nested")) = some false
  k_TooDeep_NoRow : PySem.W.kitOne K (.ref (He.ga K "TooDeep")) (.ref (He.ga K "NoRow")) = some false
  k_TooDeep_NoDivision : PySem.W.kitOne K (.ref (He.ga K "TooDeep")) (.ref (He.ga K "NoDivision")) = some false
  k_TooDeep_JetError : PySem.W.kitOne K (.ref (He.ga K "TooDeep")) (.ref (He.ga K "JetError")) = some true
  k_TooMany_NoText : PySem.W.kitOne K (.ref (He.ga K "TooMany")) (.ref (He.ga K "NoText")) = some false
  k_TooMany_NoBranch : PySem.W.kitOne K (.ref (He.ga K "TooMany")) (.ref (He.ga K "NoBranch")) = some false
  k_TooMany_NoPlace : PySem.W.kitOne K (.ref (He.ga K "TooMany")) (.ref (He.ga K "NoPlace")) = some false
  k_TooMany_TooLarge : PySem.W.kitOne K (.ref (He.ga K "TooMany")) (.ref (He.ga K "TooLarge")) = some false
  k_TooMany_TooDeep : PySem.W.kitOne K (.ref (He.ga K "TooMany")) (.ref (He.ga K "TooDeep")) = some false
  k_TooMany_TooMany : PySem.W.kitOne K (.ref (He.ga K "TooMany")) (.ref (He.ga K "TooMany")) = some true
  k_TooMany_Rejected : PySem.W.kitOne K (.ref (He.ga K "TooMany")) (.ref (He.ga K "Rejected")) = some false
  k_TooMany_NoDifference : PySem.W.kitOne K (.ref (He.ga K "TooMany")) (.ref (He.ga K "NoDifference")) = some false
  k_TooMany_NoQuotient : PySem.W.kitOne K (.ref (He.ga K "TooMany")) (.ref (He.ga K "NoQuotient")) = some false
  k_TooMany_NoBasin : PySem.W.kitOne K (.ref (He.ga K "TooMany")) (.ref (He.ga K "NoBasin")) = some false
  k_TooMany_Closed : PySem.W.kitOne K (.ref (He.ga K "TooMany")) (.ref (He.ga K "Closed")) = some false
  k_TooMany_Endless : PySem.W.kitOne K (.ref (He.ga K "TooMany")) (.ref (He.ga K "Endless")) = some false
  k_TooMany_NotKind : PySem.W.kitOne K (.ref (He.ga K "TooMany")) (.ref (He.ga K "NotKind")) = some false
  k_TooMany_Nested : PySem.W.kitOne K (.ref (He.ga K "TooMany")) (.ref (He.ga K "Nested")) = some false
  k_TooMany_NoRow : PySem.W.kitOne K (.ref (He.ga K "TooMany")) (.ref (He.ga K "NoRow")) = some false
  k_TooMany_NoDivision : PySem.W.kitOne K (.ref (He.ga K "TooMany")) (.ref (He.ga K "NoDivision")) = some false
  k_TooMany_JetError : PySem.W.kitOne K (.ref (He.ga K "TooMany")) (.ref (He.ga K "JetError")) = some true
  k_Rejected_NoText : PySem.W.kitOne K (.ref (He.ga K "Rejected")) (.ref (He.ga K "NoText")) = some false
  k_Rejected_NoBranch : PySem.W.kitOne K (.ref (He.ga K "Rejected")) (.ref (He.ga K "NoBranch")) = some false
  k_Rejected_NoPlace : PySem.W.kitOne K (.ref (He.ga K "Rejected")) (.ref (He.ga K "NoPlace")) = some false
  k_Rejected_TooLarge : PySem.W.kitOne K (.ref (He.ga K "Rejected")) (.ref (He.ga K "TooLarge")) = some false
  k_Rejected_TooDeep : PySem.W.kitOne K (.ref (He.ga K "Rejected")) (.ref (He.ga K "TooDeep")) = some false
  k_Rejected_TooMany : PySem.W.kitOne K (.ref (He.ga K "Rejected")) (.ref (He.ga K "TooMany")) = some false
  k_Rejected_Rejected : PySem.W.kitOne K (.ref (He.ga K "Rejected")) (.ref (He.ga K "Rejected")) = some true
  k_Rejected_NoDifference : PySem.W.kitOne K (.ref (He.ga K "Rejected")) (.ref (He.ga K "NoDifference")) = some false
  k_Rejected_NoQuotient : PySem.W.kitOne K (.ref (He.ga K "Rejected")) (.ref (He.ga K "NoQuotient")) = some false
  k_Rejected_NoBasin : PySem.W.kitOne K (.ref (He.ga K "Rejected")) (.ref (He.ga K "NoBasin")) = some false
  k_Rejected_Closed : PySem.W.kitOne K (.ref (He.ga K "Rejected")) (.ref (He.ga K "Closed")) = some false
  k_Rejected_Endless : PySem.W.kitOne K (.ref (He.ga K "Rejected")) (.ref (He.ga K "Endless")) = some false
  k_Rejected_NotKind : PySem.W.kitOne K (.ref (He.ga K "Rejected")) (.ref (He.ga K "NotKind")) = some false
  k_Rejected_Nested : PySem.W.kitOne K (.ref (He.ga K "Rejected")) (.ref (He.ga K "Nested")) = some false
  k_Rejected_NoRow : PySem.W.kitOne K (.ref (He.ga K "Rejected")) (.ref (He.ga K "NoRow")) = some false
  k_Rejected_NoDivision : PySem.W.kitOne K (.ref (He.ga K "Rejected")) (.ref (He.ga K "NoDivision")) = some false
  k_Rejected_JetError : PySem.W.kitOne K (.ref (He.ga K "Rejected")) (.ref (He.ga K "JetError")) = some true
  k_NoDifference_NoText : PySem.W.kitOne K (.ref (He.ga K "NoDifference")) (.ref (He.ga K "NoText")) = some false
  k_NoDifference_NoBranch : PySem.W.kitOne K (.ref (He.ga K "NoDifference")) (.ref (He.ga K "NoBranch")) = some false
  k_NoDifference_NoPlace : PySem.W.kitOne K (.ref (He.ga K "NoDifference")) (.ref (He.ga K "NoPlace")) = some false
  k_NoDifference_TooLarge : PySem.W.kitOne K (.ref (He.ga K "NoDifference")) (.ref (He.ga K "TooLarge")) = some false
  k_NoDifference_TooDeep : PySem.W.kitOne K (.ref (He.ga K "NoDifference")) (.ref (He.ga K "TooDeep")) = some false
  k_NoDifference_TooMany : PySem.W.kitOne K (.ref (He.ga K "NoDifference")) (.ref (He.ga K "TooMany")) = some false
  k_NoDifference_Rejected : PySem.W.kitOne K (.ref (He.ga K "NoDifference")) (.ref (He.ga K "Rejected")) = some false
  k_NoDifference_NoDifference : PySem.W.kitOne K (.ref (He.ga K "NoDifference")) (.ref (He.ga K "NoDifference")) = some true
  k_NoDifference_NoQuotient : PySem.W.kitOne K (.ref (He.ga K "NoDifference")) (.ref (He.ga K "NoQuotient")) = some false
  k_NoDifference_NoBasin : PySem.W.kitOne K (.ref (He.ga K "NoDifference")) (.ref (He.ga K "NoBasin")) = some false
  k_NoDifference_Closed : PySem.W.kitOne K (.ref (He.ga K "NoDifference")) (.ref (He.ga K "Closed")) = some false
  k_NoDifference_Endless : PySem.W.kitOne K (.ref (He.ga K "NoDifference")) (.ref (He.ga K "Endless")) = some false
  k_NoDifference_NotKind : PySem.W.kitOne K (.ref (He.ga K "NoDifference")) (.ref (He.ga K "NotKind")) = some false
  k_NoDifference_Nested : PySem.W.kitOne K (.ref (He.ga K "NoDifference")) (.ref (He.ga K "Nested")) = some false
  k_NoDifference_NoRow : PySem.W.kitOne K (.ref (He.ga K "NoDifference")) (.ref (He.ga K "NoRow")) = some false
  k_NoDifference_NoDivision : PySem.W.kitOne K (.ref (He.ga K "NoDifference")) (.ref (He.ga K "NoDivision")) = some true
  k_NoDifference_JetError : PySem.W.kitOne K (.ref (He.ga K "NoDifference")) (.ref (He.ga K "JetError")) = some true
  k_NoQuotient_NoText : PySem.W.kitOne K (.ref (He.ga K "NoQuotient")) (.ref (He.ga K "NoText")) = some false
  k_NoQuotient_NoBranch : PySem.W.kitOne K (.ref (He.ga K "NoQuotient")) (.ref (He.ga K "NoBranch")) = some false
  k_NoQuotient_NoPlace : PySem.W.kitOne K (.ref (He.ga K "NoQuotient")) (.ref (He.ga K "NoPlace")) = some false
  k_NoQuotient_TooLarge : PySem.W.kitOne K (.ref (He.ga K "NoQuotient")) (.ref (He.ga K "TooLarge")) = some false
  k_NoQuotient_TooDeep : PySem.W.kitOne K (.ref (He.ga K "NoQuotient")) (.ref (He.ga K "TooDeep")) = some false
  k_NoQuotient_TooMany : PySem.W.kitOne K (.ref (He.ga K "NoQuotient")) (.ref (He.ga K "TooMany")) = some false
  k_NoQuotient_Rejected : PySem.W.kitOne K (.ref (He.ga K "NoQuotient")) (.ref (He.ga K "Rejected")) = some false
  k_NoQuotient_NoDifference : PySem.W.kitOne K (.ref (He.ga K "NoQuotient")) (.ref (He.ga K "NoDifference")) = some false
  k_NoQuotient_NoQuotient : PySem.W.kitOne K (.ref (He.ga K "NoQuotient")) (.ref (He.ga K "NoQuotient")) = some true
  k_NoQuotient_NoBasin : PySem.W.kitOne K (.ref (He.ga K "NoQuotient")) (.ref (He.ga K "NoBasin")) = some false
  k_NoQuotient_Closed : PySem.W.kitOne K (.ref (He.ga K "NoQuotient")) (.ref (He.ga K "Closed")) = some false
  k_NoQuotient_Endless : PySem.W.kitOne K (.ref (He.ga K "NoQuotient")) (.ref (He.ga K "Endless")) = some false
  k_NoQuotient_NotKind : PySem.W.kitOne K (.ref (He.ga K "NoQuotient")) (.ref (He.ga K "NotKind")) = some false
  k_NoQuotient_Nested : PySem.W.kitOne K (.ref (He.ga K "NoQuotient")) (.ref (He.ga K "Nested")) = some false
  k_NoQuotient_NoRow : PySem.W.kitOne K (.ref (He.ga K "NoQuotient")) (.ref (He.ga K "NoRow")) = some false
  k_NoQuotient_NoDivision : PySem.W.kitOne K (.ref (He.ga K "NoQuotient")) (.ref (He.ga K "NoDivision")) = some true
  k_NoQuotient_JetError : PySem.W.kitOne K (.ref (He.ga K "NoQuotient")) (.ref (He.ga K "JetError")) = some true
  k_NoBasin_NoText : PySem.W.kitOne K (.ref (He.ga K "NoBasin")) (.ref (He.ga K "NoText")) = some false
  k_NoBasin_NoBranch : PySem.W.kitOne K (.ref (He.ga K "NoBasin")) (.ref (He.ga K "NoBranch")) = some false
  k_NoBasin_NoPlace : PySem.W.kitOne K (.ref (He.ga K "NoBasin")) (.ref (He.ga K "NoPlace")) = some false
  k_NoBasin_TooLarge : PySem.W.kitOne K (.ref (He.ga K "NoBasin")) (.ref (He.ga K "TooLarge")) = some false
  k_NoBasin_TooDeep : PySem.W.kitOne K (.ref (He.ga K "NoBasin")) (.ref (He.ga K "TooDeep")) = some false
  k_NoBasin_TooMany : PySem.W.kitOne K (.ref (He.ga K "NoBasin")) (.ref (He.ga K "TooMany")) = some false
  k_NoBasin_Rejected : PySem.W.kitOne K (.ref (He.ga K "NoBasin")) (.ref (He.ga K "Rejected")) = some false
  k_NoBasin_NoDifference : PySem.W.kitOne K (.ref (He.ga K "NoBasin")) (.ref (He.ga K "NoDifference")) = some false
  k_NoBasin_NoQuotient : PySem.W.kitOne K (.ref (He.ga K "NoBasin")) (.ref (He.ga K "NoQuotient")) = some false
  k_NoBasin_NoBasin : PySem.W.kitOne K (.ref (He.ga K "NoBasin")) (.ref (He.ga K "NoBasin")) = some true
  k_NoBasin_Closed : PySem.W.kitOne K (.ref (He.ga K "NoBasin")) (.ref (He.ga K "Closed")) = some false
  k_NoBasin_Endless : PySem.W.kitOne K (.ref (He.ga K "NoBasin")) (.ref (He.ga K "Endless")) = some false
  k_NoBasin_NotKind : PySem.W.kitOne K (.ref (He.ga K "NoBasin")) (.ref (He.ga K "NotKind")) = some false
  k_NoBasin_Nested : PySem.W.kitOne K (.ref (He.ga K "NoBasin")) (.ref (He.ga K "Nested")) = some false
  k_NoBasin_NoRow : PySem.W.kitOne K (.ref (He.ga K "NoBasin")) (.ref (He.ga K "NoRow")) = some false
  k_NoBasin_NoDivision : PySem.W.kitOne K (.ref (He.ga K "NoBasin")) (.ref (He.ga K "NoDivision")) = some false
  k_NoBasin_JetError : PySem.W.kitOne K (.ref (He.ga K "NoBasin")) (.ref (He.ga K "JetError")) = some true
  k_Closed_NoText : PySem.W.kitOne K (.ref (He.ga K "Closed")) (.ref (He.ga K "NoText")) = some false
  k_Closed_NoBranch : PySem.W.kitOne K (.ref (He.ga K "Closed")) (.ref (He.ga K "NoBranch")) = some false
  k_Closed_NoPlace : PySem.W.kitOne K (.ref (He.ga K "Closed")) (.ref (He.ga K "NoPlace")) = some false
  k_Closed_TooLarge : PySem.W.kitOne K (.ref (He.ga K "Closed")) (.ref (He.ga K "TooLarge")) = some false
  k_Closed_TooDeep : PySem.W.kitOne K (.ref (He.ga K "Closed")) (.ref (He.ga K "TooDeep")) = some false
  k_Closed_TooMany : PySem.W.kitOne K (.ref (He.ga K "Closed")) (.ref (He.ga K "TooMany")) = some false
  k_Closed_Rejected : PySem.W.kitOne K (.ref (He.ga K "Closed")) (.ref (He.ga K "Rejected")) = some false
  k_Closed_NoDifference : PySem.W.kitOne K (.ref (He.ga K "Closed")) (.ref (He.ga K "NoDifference")) = some false
  k_Closed_NoQuotient : PySem.W.kitOne K (.ref (He.ga K "Closed")) (.ref (He.ga K "NoQuotient")) = some false
  k_Closed_NoBasin : PySem.W.kitOne K (.ref (He.ga K "Closed")) (.ref (He.ga K "NoBasin")) = some false
  k_Closed_Closed : PySem.W.kitOne K (.ref (He.ga K "Closed")) (.ref (He.ga K "Closed")) = some true
  k_Closed_Endless : PySem.W.kitOne K (.ref (He.ga K "Closed")) (.ref (He.ga K "Endless")) = some false
  k_Closed_NotKind : PySem.W.kitOne K (.ref (He.ga K "Closed")) (.ref (He.ga K "NotKind")) = some false
  k_Closed_Nested : PySem.W.kitOne K (.ref (He.ga K "Closed")) (.ref (He.ga K "Nested")) = some false
  k_Closed_NoRow : PySem.W.kitOne K (.ref (He.ga K "Closed")) (.ref (He.ga K "NoRow")) = some false
  k_Closed_NoDivision : PySem.W.kitOne K (.ref (He.ga K "Closed")) (.ref (He.ga K "NoDivision")) = some false
  k_Closed_JetError : PySem.W.kitOne K (.ref (He.ga K "Closed")) (.ref (He.ga K "JetError")) = some true
  k_Endless_NoText : PySem.W.kitOne K (.ref (He.ga K "Endless")) (.ref (He.ga K "NoText")) = some false
  k_Endless_NoBranch : PySem.W.kitOne K (.ref (He.ga K "Endless")) (.ref (He.ga K "NoBranch")) = some false
  k_Endless_NoPlace : PySem.W.kitOne K (.ref (He.ga K "Endless")) (.ref (He.ga K "NoPlace")) = some false
  k_Endless_TooLarge : PySem.W.kitOne K (.ref (He.ga K "Endless")) (.ref (He.ga K "TooLarge")) = some false
  k_Endless_TooDeep : PySem.W.kitOne K (.ref (He.ga K "Endless")) (.ref (He.ga K "TooDeep")) = some false
  k_Endless_TooMany : PySem.W.kitOne K (.ref (He.ga K "Endless")) (.ref (He.ga K "TooMany")) = some false
  k_Endless_Rejected : PySem.W.kitOne K (.ref (He.ga K "Endless")) (.ref (He.ga K "Rejected")) = some false
  k_Endless_NoDifference : PySem.W.kitOne K (.ref (He.ga K "Endless")) (.ref (He.ga K "NoDifference")) = some false
  k_Endless_NoQuotient : PySem.W.kitOne K (.ref (He.ga K "Endless")) (.ref (He.ga K "NoQuotient")) = some false
  k_Endless_NoBasin : PySem.W.kitOne K (.ref (He.ga K "Endless")) (.ref (He.ga K "NoBasin")) = some false
  k_Endless_Closed : PySem.W.kitOne K (.ref (He.ga K "Endless")) (.ref (He.ga K "Closed")) = some false
  k_Endless_Endless : PySem.W.kitOne K (.ref (He.ga K "Endless")) (.ref (He.ga K "Endless")) = some true
  k_Endless_NotKind : PySem.W.kitOne K (.ref (He.ga K "Endless")) (.ref (He.ga K "NotKind")) = some false
  k_Endless_Nested : PySem.W.kitOne K (.ref (He.ga K "Endless")) (.ref (He.ga K "Nested")) = some false
  k_Endless_NoRow : PySem.W.kitOne K (.ref (He.ga K "Endless")) (.ref (He.ga K "NoRow")) = some false
  k_Endless_NoDivision : PySem.W.kitOne K (.ref (He.ga K "Endless")) (.ref (He.ga K "NoDivision")) = some false
  k_Endless_JetError : PySem.W.kitOne K (.ref (He.ga K "Endless")) (.ref (He.ga K "JetError")) = some true
  k_NotKind_NoText : PySem.W.kitOne K (.ref (He.ga K "NotKind")) (.ref (He.ga K "NoText")) = some false
  k_NotKind_NoBranch : PySem.W.kitOne K (.ref (He.ga K "NotKind")) (.ref (He.ga K "NoBranch")) = some false
  k_NotKind_NoPlace : PySem.W.kitOne K (.ref (He.ga K "NotKind")) (.ref (He.ga K "NoPlace")) = some false
  k_NotKind_TooLarge : PySem.W.kitOne K (.ref (He.ga K "NotKind")) (.ref (He.ga K "TooLarge")) = some false
  k_NotKind_TooDeep : PySem.W.kitOne K (.ref (He.ga K "NotKind")) (.ref (He.ga K "TooDeep")) = some false
  k_NotKind_TooMany : PySem.W.kitOne K (.ref (He.ga K "NotKind")) (.ref (He.ga K "TooMany")) = some false
  k_NotKind_Rejected : PySem.W.kitOne K (.ref (He.ga K "NotKind")) (.ref (He.ga K "Rejected")) = some false
  k_NotKind_NoDifference : PySem.W.kitOne K (.ref (He.ga K "NotKind")) (.ref (He.ga K "NoDifference")) = some false
  k_NotKind_NoQuotient : PySem.W.kitOne K (.ref (He.ga K "NotKind")) (.ref (He.ga K "NoQuotient")) = some false
  k_NotKind_NoBasin : PySem.W.kitOne K (.ref (He.ga K "NotKind")) (.ref (He.ga K "NoBasin")) = some false
  k_NotKind_Closed : PySem.W.kitOne K (.ref (He.ga K "NotKind")) (.ref (He.ga K "Closed")) = some false
  k_NotKind_Endless : PySem.W.kitOne K (.ref (He.ga K "NotKind")) (.ref (He.ga K "Endless")) = some false
  k_NotKind_NotKind : PySem.W.kitOne K (.ref (He.ga K "NotKind")) (.ref (He.ga K "NotKind")) = some true
  k_NotKind_Nested : PySem.W.kitOne K (.ref (He.ga K "NotKind")) (.ref (He.ga K "Nested")) = some false
  k_NotKind_NoRow : PySem.W.kitOne K (.ref (He.ga K "NotKind")) (.ref (He.ga K "NoRow")) = some false
  k_NotKind_NoDivision : PySem.W.kitOne K (.ref (He.ga K "NotKind")) (.ref (He.ga K "NoDivision")) = some false
  k_NotKind_JetError : PySem.W.kitOne K (.ref (He.ga K "NotKind")) (.ref (He.ga K "JetError")) = some true
  k_Nested_NoText : PySem.W.kitOne K (.ref (He.ga K "Nested")) (.ref (He.ga K "NoText")) = some false
  k_Nested_NoBranch : PySem.W.kitOne K (.ref (He.ga K "Nested")) (.ref (He.ga K "NoBranch")) = some false
  k_Nested_NoPlace : PySem.W.kitOne K (.ref (He.ga K "Nested")) (.ref (He.ga K "NoPlace")) = some false
  k_Nested_TooLarge : PySem.W.kitOne K (.ref (He.ga K "Nested")) (.ref (He.ga K "TooLarge")) = some false
  k_Nested_TooDeep : PySem.W.kitOne K (.ref (He.ga K "Nested")) (.ref (He.ga K "TooDeep")) = some false
  k_Nested_TooMany : PySem.W.kitOne K (.ref (He.ga K "Nested")) (.ref (He.ga K "TooMany")) = some false
  k_Nested_Rejected : PySem.W.kitOne K (.ref (He.ga K "Nested")) (.ref (He.ga K "Rejected")) = some false
  k_Nested_NoDifference : PySem.W.kitOne K (.ref (He.ga K "Nested")) (.ref (He.ga K "NoDifference")) = some false
  k_Nested_NoQuotient : PySem.W.kitOne K (.ref (He.ga K "Nested")) (.ref (He.ga K "NoQuotient")) = some false
  k_Nested_NoBasin : PySem.W.kitOne K (.ref (He.ga K "Nested")) (.ref (He.ga K "NoBasin")) = some false
  k_Nested_Closed : PySem.W.kitOne K (.ref (He.ga K "Nested")) (.ref (He.ga K "Closed")) = some false
  k_Nested_Endless : PySem.W.kitOne K (.ref (He.ga K "Nested")) (.ref (He.ga K "Endless")) = some false
  k_Nested_NotKind : PySem.W.kitOne K (.ref (He.ga K "Nested")) (.ref (He.ga K "NotKind")) = some false
  k_Nested_Nested : PySem.W.kitOne K (.ref (He.ga K "Nested")) (.ref (He.ga K "Nested")) = some true
  k_Nested_NoRow : PySem.W.kitOne K (.ref (He.ga K "Nested")) (.ref (He.ga K "NoRow")) = some false
  k_Nested_NoDivision : PySem.W.kitOne K (.ref (He.ga K "Nested")) (.ref (He.ga K "NoDivision")) = some false
  k_Nested_JetError : PySem.W.kitOne K (.ref (He.ga K "Nested")) (.ref (He.ga K "JetError")) = some true
  k_NoRow_NoText : PySem.W.kitOne K (.ref (He.ga K "NoRow")) (.ref (He.ga K "NoText")) = some false
  k_NoRow_NoBranch : PySem.W.kitOne K (.ref (He.ga K "NoRow")) (.ref (He.ga K "NoBranch")) = some false
  k_NoRow_NoPlace : PySem.W.kitOne K (.ref (He.ga K "NoRow")) (.ref (He.ga K "NoPlace")) = some false
  k_NoRow_TooLarge : PySem.W.kitOne K (.ref (He.ga K "NoRow")) (.ref (He.ga K "TooLarge")) = some false
  k_NoRow_TooDeep : PySem.W.kitOne K (.ref (He.ga K "NoRow")) (.ref (He.ga K "TooDeep")) = some false
  k_NoRow_TooMany : PySem.W.kitOne K (.ref (He.ga K "NoRow")) (.ref (He.ga K "TooMany")) = some false
  k_NoRow_Rejected : PySem.W.kitOne K (.ref (He.ga K "NoRow")) (.ref (He.ga K "Rejected")) = some false
  k_NoRow_NoDifference : PySem.W.kitOne K (.ref (He.ga K "NoRow")) (.ref (He.ga K "NoDifference")) = some false
  k_NoRow_NoQuotient : PySem.W.kitOne K (.ref (He.ga K "NoRow")) (.ref (He.ga K "NoQuotient")) = some false
  k_NoRow_NoBasin : PySem.W.kitOne K (.ref (He.ga K "NoRow")) (.ref (He.ga K "NoBasin")) = some false
  k_NoRow_Closed : PySem.W.kitOne K (.ref (He.ga K "NoRow")) (.ref (He.ga K "Closed")) = some false
  k_NoRow_Endless : PySem.W.kitOne K (.ref (He.ga K "NoRow")) (.ref (He.ga K "Endless")) = some false
  k_NoRow_NotKind : PySem.W.kitOne K (.ref (He.ga K "NoRow")) (.ref (He.ga K "NotKind")) = some false
  k_NoRow_Nested : PySem.W.kitOne K (.ref (He.ga K "NoRow")) (.ref (He.ga K "Nested")) = some false
  k_NoRow_NoRow : PySem.W.kitOne K (.ref (He.ga K "NoRow")) (.ref (He.ga K "NoRow")) = some true
  k_NoRow_NoDivision : PySem.W.kitOne K (.ref (He.ga K "NoRow")) (.ref (He.ga K "NoDivision")) = some false
  k_NoRow_JetError : PySem.W.kitOne K (.ref (He.ga K "NoRow")) (.ref (He.ga K "JetError")) = some true
  k_NoDivision_NoText : PySem.W.kitOne K (.ref (He.ga K "NoDivision")) (.ref (He.ga K "NoText")) = some false
  k_NoDivision_NoBranch : PySem.W.kitOne K (.ref (He.ga K "NoDivision")) (.ref (He.ga K "NoBranch")) = some false
  k_NoDivision_NoPlace : PySem.W.kitOne K (.ref (He.ga K "NoDivision")) (.ref (He.ga K "NoPlace")) = some false
  k_NoDivision_TooLarge : PySem.W.kitOne K (.ref (He.ga K "NoDivision")) (.ref (He.ga K "TooLarge")) = some false
  k_NoDivision_TooDeep : PySem.W.kitOne K (.ref (He.ga K "NoDivision")) (.ref (He.ga K "TooDeep")) = some false
  k_NoDivision_TooMany : PySem.W.kitOne K (.ref (He.ga K "NoDivision")) (.ref (He.ga K "TooMany")) = some false
  k_NoDivision_Rejected : PySem.W.kitOne K (.ref (He.ga K "NoDivision")) (.ref (He.ga K "Rejected")) = some false
  k_NoDivision_NoDifference : PySem.W.kitOne K (.ref (He.ga K "NoDivision")) (.ref (He.ga K "NoDifference")) = some false
  k_NoDivision_NoQuotient : PySem.W.kitOne K (.ref (He.ga K "NoDivision")) (.ref (He.ga K "NoQuotient")) = some false
  k_NoDivision_NoBasin : PySem.W.kitOne K (.ref (He.ga K "NoDivision")) (.ref (He.ga K "NoBasin")) = some false
  k_NoDivision_Closed : PySem.W.kitOne K (.ref (He.ga K "NoDivision")) (.ref (He.ga K "Closed")) = some false
  k_NoDivision_Endless : PySem.W.kitOne K (.ref (He.ga K "NoDivision")) (.ref (He.ga K "Endless")) = some false
  k_NoDivision_NotKind : PySem.W.kitOne K (.ref (He.ga K "NoDivision")) (.ref (He.ga K "NotKind")) = some false
  k_NoDivision_Nested : PySem.W.kitOne K (.ref (He.ga K "NoDivision")) (.ref (He.ga K "Nested")) = some false
  k_NoDivision_NoRow : PySem.W.kitOne K (.ref (He.ga K "NoDivision")) (.ref (He.ga K "NoRow")) = some false
  k_NoDivision_NoDivision : PySem.W.kitOne K (.ref (He.ga K "NoDivision")) (.ref (He.ga K "NoDivision")) = some true
  k_NoDivision_JetError : PySem.W.kitOne K (.ref (He.ga K "NoDivision")) (.ref (He.ga K "JetError")) = some true
  x_oex_NoDivision : oexB K (He.ga K "NoDivision") = true
  x_exc_NoDivision : excB K (He.ga K "NoDivision") = true
  x_init_NoDivision : PySem.W.findIn K (.ref (He.ga K "NoDivision")) "__init__" = some (some (.builtin "ValueError.__init__"))
  v_NoText : PySem.W.kitOne K (.ref (He.ga K "NoText")) (.type "ValueError") = some true
  v_NoBranch : PySem.W.kitOne K (.ref (He.ga K "NoBranch")) (.type "ValueError") = some true
  v_NoPlace : PySem.W.kitOne K (.ref (He.ga K "NoPlace")) (.type "ValueError") = some true
  v_TooLarge : PySem.W.kitOne K (.ref (He.ga K "TooLarge")) (.type "ValueError") = some true
  v_TooDeep : PySem.W.kitOne K (.ref (He.ga K "TooDeep")) (.type "ValueError") = some true
  v_TooMany : PySem.W.kitOne K (.ref (He.ga K "TooMany")) (.type "ValueError") = some true
  v_Rejected : PySem.W.kitOne K (.ref (He.ga K "Rejected")) (.type "ValueError") = some true
  v_NoDifference : PySem.W.kitOne K (.ref (He.ga K "NoDifference")) (.type "ValueError") = some true
  v_NoQuotient : PySem.W.kitOne K (.ref (He.ga K "NoQuotient")) (.type "ValueError") = some true
  v_NoBasin : PySem.W.kitOne K (.ref (He.ga K "NoBasin")) (.type "ValueError") = some true
  v_Closed : PySem.W.kitOne K (.ref (He.ga K "Closed")) (.type "ValueError") = some true
  v_Endless : PySem.W.kitOne K (.ref (He.ga K "Endless")) (.type "ValueError") = some true
  v_NotKind : PySem.W.kitOne K (.ref (He.ga K "NotKind")) (.type "ValueError") = some true
  v_Nested : PySem.W.kitOne K (.ref (He.ga K "Nested")) (.type "ValueError") = some true
  v_NoRow : PySem.W.kitOne K (.ref (He.ga K "NoRow")) (.type "ValueError") = some true
  v_NoDivision : PySem.W.kitOne K (.ref (He.ga K "NoDivision")) (.type "ValueError") = some true
  n_NotImplemented : mg "NotImplemented" = none
  n_TypeError : mg "TypeError" = none
  n_ValueError : mg "ValueError" = none
  n_abs : mg "abs" = none
  n_any : mg "any" = none
  n_enumerate : mg "enumerate" = none
  n_int : mg "int" = none
  n_isinstance : mg "isinstance" = none
  n_len : mg "len" = none
  n_list : mg "list" = none
  n_max : mg "max" = none
  n_min : mg "min" = none
  n_range : mg "range" = none
  n_repr : mg "repr" = none
  n_sorted : mg "sorted" = none
  n_sum : mg "sum" = none
  n_tuple : mg "tuple" = none
abbrev TT (K : PySem.W.Frag) : List (Addr × Str) := [((He.cT K ("made", none)).2, ("made.<locals>." : Str) ++ "<lambda>")]
abbrev cA (K : PySem.W.Frag) (scr : Option (Addr × List Int)) : AL.AC K := ⟨TT K, [], scr⟩
section
variable {P : Program} {w : World} {K : PySem.W.Frag} {mg : Str → Option Value} {base : Heap}
def sp__law_feed (K : PySem.W.Frag) : Sp := fun vs H Q _ => ∃ (a : Addr) (ns : List Int) (i : Nat), vs = [.ref a, .int i] ∧ SqL K H a (ns.map V.int) ∧ ns.length ≤ 63 ∧ i ≤ 10 ∧ ∀ H' d, Same H H' → H d = none → FeedAt H' d → Q (.ref d) H'
theorem ok__law_feed  (T : Txt K mg base) : CallD P w K mg base CX0 2 "_law_feed" ["_law_script", "_law_k"] [] (sp__law_feed K) := by
  refine T.d__law_feed.ok sc__law_feed (fun vs H Q E h => ?_) (fun f cdv A outer s H vs Q E hr h => ?_)
  · obtain ⟨a, ns, i, rfl, _⟩ := h
    rfl
  · obtain ⟨a, ns, i0, rfl, hS, hn, hi, k⟩ := h
    refine ⟨_, (pss_cons (ps_set (i := 2) sc__law_feed.nd rfl (by first | exact Or.inl rfl | exact Or.inr rfl) (pe_op op_add (pe_op op_mul pe_int (pv 1)) pe_int))
      (pss_cons (ps_via (ps_if (pt_cmpR op_lt (pv 1) (pe_callB call_len (by rfl) T.n_len (by decide +kernel) (pa_cons (pv 0) pa_nil)) (nomark _))
        (pss_one (ps_set (i := 2) sc__law_feed.nd rfl (by first | exact Or.inl rfl | exact Or.inr rfl) (pe_callB call_abs (by rfl) T.n_abs (by decide +kernel) (pa_cons (pe_ix ix_list (pv 0) (pv 1) (fun _ _ => rfl)) pa_nil))))
        (pss_one (ps_via (ps_if (pt_cmpR op_gt (pe_callB call_len (by rfl) T.n_len (by decide +kernel) (pa_cons (pv 0) pa_nil)) pe_int (nomark _))
          (pss_one (ps_set (i := 2) sc__law_feed.nd rfl (by first | exact Or.inl rfl | exact Or.inr rfl) (pe_op op_add (pv 2) (pe_op op_mul (pe_op op_mod (pe_callB call_abs (by rfl) T.n_abs (by decide +kernel) (pa_cons (pe_ix ix_list (pv 0) (pe_op op_mod (pv 1) (pe_callB call_len (by rfl) T.n_len (by decide +kernel) (pa_cons (pv 0) pa_nil))) (fun _ _ => rfl)) pa_nil)) pe_int) pe_int))))
          pss_nil)))))
      (pss_cons (ps_set (i := 3) sc__law_feed.nd rfl (by first | exact Or.inl rfl | exact Or.inr rfl) (pe_op op_add (pe_op op_mod (pe_op op_add (pe_op op_add (pe_op op_mul (pe_op op_mod (pv 2) pe_int) pe_int) (pe_op op_mul pe_int (pv 1))) pe_int) pe_int) pe_int))
      (pss_one (ps_ret (pe_disp (pps_cons pe_str (pe_ix ix_list (pe_lst (pa_cons pe_int (pa_cons (pv 2) pa_nil))) (pe_callTy call_int1 (by rfl) T.n_int (by decide +kernel) (pa_cons (pe_cmpR op_ge (pv 2) (pe_op op_pow pe_int pe_int) (nomark _)) pa_nil)) (fun _ _ => rfl)) (pps_cons pe_str (pv 3) (pps_cons pe_str pe_int pps_nil))) (by rfl) (by rfl) (fun z => by cases z) (by decide))))))), ?_⟩
    have hsl := sizeLine_eq
    have hat : ∀ j : Nat, j < ns.length → atI (ns.map V.int) (j : Nat) = some (.int (ns.getD j 0)) := fun j hj => atI_nat (by rw [List.getElem?_map, List.getElem?_eq_getElem hj, List.getD_eq_getElem?_getD, List.getElem?_eq_getElem hj]; rfl)
    have hml : (ns.map V.int).length = ns.length := List.length_map _
    refine ⟨_, rfl, _, _, rfl, rfl, .inl (by decide), _, _, rfl, rfl, fun σ' H' => ∃ c : Int, σ' = [some (.ref a), some (.int i0), some (.int c), none] ∧ H' = H, ?_, ?_⟩
    · refine ⟨_, rfl, .ref a, rfl, _, _, rfl, .inl ⟨_, hS, rfl⟩, _, _, rfl, rfl, _, rfl, ite2 (fun e => ?_) fun e => ?_⟩
      · have e1 := of_decide_eq_true e
        rw [hml] at e1
        exact ⟨.ref a, rfl, .int i0, rfl, a, _, _, _, rfl, rfl, hS, hat i0 (by omega), _, rfl, _, rfl, rfl⟩
      · refine ⟨fun σ' H' => ∃ c : Int, σ' = [some (.ref a), some (.int i0), some (.int c), none] ∧ H' = H, ⟨.ref a, rfl, _, _, rfl, .inl ⟨_, hS, rfl⟩, _, _, rfl, rfl, _, rfl, ite2 (fun e1 => ?_) fun e1 => ?_⟩, fun σ' H' z => z⟩
        · have e2 := of_decide_eq_true e1
          rw [hml] at e2
          have hm : ((i0 : Nat) : Int) % ((ns.map V.int).length : Nat) = ((i0 % ns.length : Nat) : Int) := by rw [hml]; rfl
          exact ⟨_, rfl, .ref a, rfl, .int i0, rfl, .ref a, rfl, _, _, rfl, .inl ⟨_, hS, rfl⟩, _, _, rfl, rfl, by rw [hml]; exact e2, a, _, _, _, rfl, rfl, hS, by rw [hm]; exact hat _ (Nat.mod_lt _ (by omega)), _, rfl, _, _, rfl, rfl, by show (0 : Int) < 2147483629; decide, _, _, rfl, rfl, .inr (by decide), _, _, rfl, rfl, _, rfl, rfl⟩
        · exact ⟨_, rfl, rfl⟩
    rintro σ' H' ⟨c, rfl, rfl⟩
    refine ⟨_, rfl, _, _, rfl, rfl, by show (0 : Int) < 2147483629; decide, _, _, rfl, rfl, .inr (by decide), _, rfl, _, _, rfl, rfl, .inl (by decide), _, _, rfl, rfl, _, _, rfl, rfl, _, _, rfl, rfl, by show (0 : Int) < 2147483629; decide, _, _, rfl, rfl, fun p hp => ?_⟩
    refine ⟨_, rfl, sz2, fun q hq => ⟨_, rfl, _, _, rfl, rfl, ⟨by decide, by decide, by decide⟩, _, _, rfl, rfl, .inr ⟨_, rfl, ?_⟩⟩⟩
    obtain ⟨v, hv⟩ : ∃ v : Int, atI [V.int 0, V.int c] (if decide ((10 : Int) ^ (18 : Int).toNat ≤ c) = true then 1 else 0) = some (.int v) := by
      split
      · exact ⟨c, rfl⟩
      · exact ⟨0, rfl⟩
    have npq : p ≠ q := ne_of_none upd_same hq
    refine ⟨q, _, _, _, rfl, rfl, SqL.of upd_same, hv, _, rfl, ?_, feedD v _ 0, rfl, by show 3 ≤ 15; decide, ?_⟩
    · rw [upd_ne npq, upd_same]
    rw [feed_made]
    refine k _ p ((((Same.refl H').new hp).new hq).mine hp) hp ⟨v, _, 0, upd_same⟩
def asp__law_feed : ASp
  | [.scr, .int i], L, Q, _ => 0 ≤ i ∧ i ≤ 10 ∧ ∀ d, L d = none → Q (.ref d) (sput L d feedM)
  | _, _, _, _ => False
theorem okA__law_feed (T : Txt K mg base) {scr : Option (Addr × List Int)} : CallD P w K mg base CX0 2 "_law_feed" ["_law_script", "_law_k"] [] (spA (cA K scr) asp__law_feed) :=
  (ok__law_feed T).imp fun vs H Q E ⟨ds, L, R, RX, r, g, h, pq, px⟩ => by
    unfold asp__law_feed at h
    split at h
    · rename_i i
      obtain ⟨h1, h2, h⟩ := h
      obtain ⟨v, w, rfl, r1, r2⟩ := repL_two r
      obtain ⟨a, ns, e1, rfl⟩ := rep_scr.mp r1
      cases rep_int.mp r2
      refine ⟨a, ns, i.toNat, by rw [Int.toNat_of_nonneg h1], g.seq e1, (g.scr a ns e1).1, by omega, fun H' d s' hd f' => ?_⟩
      exact pq _ _ _ H' (h d (g.fresh hd)) (.same s') (g.sameNew s' hd (feed_m f')) (rep_ref.mpr rfl)
    · exact h.elim

def sp__law_draw : Sp := fun vs H Q _ => ∃ (d : Addr) (many : Int), vs = [.ref d, .int many] ∧ FeedAt H d ∧ 0 < many ∧ many < 1073741824 ∧ ∀ (v : Int) H', 0 ≤ v → v < many → FeedAt H' d → SamD d H H' → Q (.int v) H'
theorem ok__law_draw  (T : Txt K mg base) : CallD P w K mg base CX0 2 "_law_draw" ["_law_feed_here", "_law_limit"] [] (sp__law_draw) := by
  refine T.d__law_draw.ok sc__law_draw (fun vs H Q E h => ?_) (fun f cdv A outer s H vs Q E hr h => ?_)
  · obtain ⟨d, many, rfl, _⟩ := h
    rfl
  · obtain ⟨d, many, rfl, ⟨a, b, c, hd⟩, h0, h1, k⟩ := h
    refine ⟨_, (pss_cons (ps_if (pt_cmpR op_gt (pe_dget (hu_of hr) (pv 0) pe_str (fun _ _ => rfl)) pe_int (nomark _))
        (pss_cons (ps_set (i := 2) sc__law_draw.nd rfl (by first | exact Or.inl rfl | exact Or.inr rfl) (pe_op op_mod (pe_dget (hu_of hr) (pv 0) pe_str (fun _ _ => rfl)) (pv 1)))
        (pss_cons (ps_dput (hu_of hr) (pv 0) pe_str (pe_op op_fdiv (pe_dget (hu_of hr) (pv 0) pe_str (fun _ _ => rfl)) (pv 1)) rfl)
        (pss_one (ps_ret (pv 2)))))
        pss_nil)
      (pss_cons (ps_dput (hu_of hr) (pv 0) pe_str (pe_op op_add (pe_dget (hu_of hr) (pv 0) pe_str (fun _ _ => rfl)) pe_int) rfl)
      (pss_cons (ps_set (i := 3) sc__law_draw.nd rfl (by first | exact Or.inl rfl | exact Or.inr rfl) (pe_op op_mod (pe_op op_mul (pe_op op_add (pe_dget (hu_of hr) (pv 0) pe_str (fun _ _ => rfl)) (pe_op op_mul pe_int (pe_dget (hu_of hr) (pv 0) pe_str (fun _ _ => rfl)))) pe_int) pe_int))
      (pss_cons (ps_dput (hu_of hr) (pv 0) pe_str (pe_op op_add (pe_op op_mod (pe_op op_add (pe_op op_mul (pv 3) pe_int) pe_int) pe_int) pe_int) rfl)
      (pss_one (ps_ret (pe_op op_mod (pe_op op_fdiv (pe_op op_add (pe_op op_mul (pv 3) pe_int) (pe_dget (hu_of hr) (pv 0) pe_str (fun _ _ => rfl))) pe_int) (pv 1)))))))), ?_⟩
    -- if feed['digits'] > 0: ..
    refine ⟨.ref d, rfl, d, _, rfl, dget hd feed_digits, _, _, rfl, rfl, _, rfl, ite2 (fun e => ?_) (fun _ => ?_)⟩
    · refine ⟨.ref d, rfl, d, _, rfl, dget hd feed_digits, _, rfl, _, _, rfl, rfl, h0, ?_⟩
      refine ⟨.ref d, rfl, d, _, rfl, dget hd feed_digits, _, rfl, _, _, rfl, rfl, ⟨h0, h1⟩, .ref d, rfl, d, _, rfl, dput hd feed_len feed_put_digits, _, rfl, ?_⟩
      exact k _ _ (Int.emod_nonneg _ (by omega)) (Int.emod_lt_of_pos _ h0) ⟨_, b, c, upd_same⟩ (SamD.refl d H).put
    -- feed['turn'] = feed['turn'] + 1 ..
    refine ⟨.ref d, rfl, d, _, rfl, dget hd feed_turn, _, _, rfl, rfl, .ref d, rfl, d, _, rfl, dput hd feed_len feed_put_turn, ?_⟩
    have hd2 : upd H d (.dK (feedD a b (c + 1))) d = some (.dK (feedD a b (c + 1))) := upd_same
    have s2 : SamD d H (upd H d (.dK (feedD a b (c + 1)))) := (SamD.refl d H).put
    generalize upd H d (.dK (feedD a b (c + 1))) = H2 at hd2 s2 ⊢
    refine ⟨.ref d, rfl, d, _, rfl, dget hd2 feed_seed, .ref d, rfl, d, _, rfl, dget hd2 feed_turn, _, _, rfl, rfl, .inl (by decide), _, _, rfl, rfl, _, _, rfl, rfl, .inr (by decide), _, _, rfl, rfl, by show (0 : Int) < 2147483647; decide, ?_⟩
    refine ⟨_, rfl, _, _, rfl, rfl, .inr (by decide), _, _, rfl, rfl, _, _, rfl, rfl, by show (0 : Int) < 2147483629; decide, _, _, rfl, rfl, .ref d, rfl, d, _, rfl, dput hd2 feed_len feed_put_seed, ?_⟩
    refine ⟨_, rfl, _, _, rfl, rfl, .inr (by decide), .ref d, rfl, d, _, rfl, dget upd_same feed_seed, _, _, rfl, rfl, _, _, rfl, rfl, ⟨by decide, by decide⟩, _, rfl, _, _, rfl, rfl, h0, ?_⟩
    exact k _ _ (Int.emod_nonneg _ (by omega)) (Int.emod_lt_of_pos _ h0) ⟨a, _, _, upd_same⟩ s2.put
def asp__law_draw : ASp
  | [.ref d, .int n], L, Q, _ => L d = some feedM ∧ 0 < n ∧ n < 1073741824 ∧ ∀ x : Int, 0 ≤ x → x < n → Q (.int x) L
  | _, _, _, _ => False
theorem okA__law_draw (T : Txt K mg base) {scr : Option (Addr × List Int)} : CallD P w K mg base CX0 2 "_law_draw" ["_law_feed_here", "_law_limit"] [] (spA (cA K scr) asp__law_draw) :=
  (ok__law_draw T).imp fun vs H Q E ⟨ds, L, R, RX, r, g, h, pq, px⟩ => by
    unfold asp__law_draw at h
    split at h
    · obtain ⟨h1, h2, h3, h⟩ := h
      obtain ⟨v, w, rfl, r1, r2⟩ := repL_two r
      cases rep_ref.mp r1
      cases rep_int.mp r2
      refine ⟨_, _, rfl, feed_at g h1, h2, h3, fun x H' x0 x1 f' s' => ?_⟩
      obtain ⟨g', fr⟩ := g.but h1 (Tabs.samD g.tabs (feed_at g h1) s') s' (feed_m f')
      exact pq _ L _ H' (h x x0 x1) fr g' (rep_int.mpr rfl)
    · exact h.elim

theorem okK_NoText (T : Txt K mg base) : ErrDK P w K mg base 2 "NoText" (He.ga K "NoText") ["self", "index"] "index" := by
  refine T.e_NoText.okK sc_NoText___init__ rfl (fun _ _ _ _ _ _ _ _ => rfl) (fun f cdv A outer s H vs Q E hr h => ?_)
  · obtain ⟨a, v, rfl, ha, k⟩ := h
    refine ⟨_, (pss_cons (ps_expr (pe_cinit (by rfl) T.b_JetError.1 T.b_JetError.2 (pa_cons (pv 0) (pa_cons pe_str pa_nil))))
      (pss_one (ps_ost (pv 0) (pv 1)))), ?_⟩
    exact ⟨.ref a, rfl, a, He.ga K "NoText", [.str "NoText"], rfl, by show 1 ≤ 1000; decide, T.e_NoText.c.o, ha, v, rfl, .ref a, rfl, a, He.ga K "NoText", rfl, T.e_NoText.c.o, T.na_NoText, .inl ⟨ha, fun dx nd ne => k dx nd ne⟩⟩
theorem okK_NoBranch (T : Txt K mg base) : ErrDK P w K mg base 2 "NoBranch" (He.ga K "NoBranch") ["self", "index"] "index" := by
  refine T.e_NoBranch.okK sc_NoBranch___init__ rfl (fun _ _ _ _ _ _ _ _ => rfl) (fun f cdv A outer s H vs Q E hr h => ?_)
  · obtain ⟨a, v, rfl, ha, k⟩ := h
    refine ⟨_, (pss_cons (ps_expr (pe_cinit (by rfl) T.b_JetError.1 T.b_JetError.2 (pa_cons (pv 0) (pa_cons pe_str pa_nil))))
      (pss_one (ps_ost (pv 0) (pv 1)))), ?_⟩
    exact ⟨.ref a, rfl, a, He.ga K "NoBranch", [.str "NoBranch"], rfl, by show 1 ≤ 1000; decide, T.e_NoBranch.c.o, ha, v, rfl, .ref a, rfl, a, He.ga K "NoBranch", rfl, T.e_NoBranch.c.o, T.na_NoBranch, .inl ⟨ha, fun dx nd ne => k dx nd ne⟩⟩
theorem okK_NoPlace (T : Txt K mg base) : ErrDK P w K mg base 2 "NoPlace" (He.ga K "NoPlace") ["self", "step"] "step" := by
  refine T.e_NoPlace.okK sc_NoPlace___init__ rfl (fun _ _ _ _ _ _ _ _ => rfl) (fun f cdv A outer s H vs Q E hr h => ?_)
  · obtain ⟨a, v, rfl, ha, k⟩ := h
    refine ⟨_, (pss_cons (ps_expr (pe_cinit (by rfl) T.b_JetError.1 T.b_JetError.2 (pa_cons (pv 0) (pa_cons pe_str pa_nil))))
      (pss_one (ps_ost (pv 0) (pv 1)))), ?_⟩
    exact ⟨.ref a, rfl, a, He.ga K "NoPlace", [.str "NoPlace"], rfl, by show 1 ≤ 1000; decide, T.e_NoPlace.c.o, ha, v, rfl, .ref a, rfl, a, He.ga K "NoPlace", rfl, T.e_NoPlace.c.o, T.na_NoPlace, .inl ⟨ha, fun dx nd ne => k dx nd ne⟩⟩
theorem okK_TooLarge (T : Txt K mg base) : ErrDK P w K mg base 2 "TooLarge" (He.ga K "TooLarge") ["self", "pieces"] "pieces" := by
  refine T.e_TooLarge.okK sc_TooLarge___init__ rfl (fun _ _ _ _ _ _ _ _ => rfl) (fun f cdv A outer s H vs Q E hr h => ?_)
  · obtain ⟨a, v, rfl, ha, k⟩ := h
    refine ⟨_, (pss_cons (ps_expr (pe_cinit (by rfl) T.b_JetError.1 T.b_JetError.2 (pa_cons (pv 0) (pa_cons pe_str pa_nil))))
      (pss_one (ps_ost (pv 0) (pv 1)))), ?_⟩
    exact ⟨.ref a, rfl, a, He.ga K "TooLarge", [.str "TooLarge"], rfl, by show 1 ≤ 1000; decide, T.e_TooLarge.c.o, ha, v, rfl, .ref a, rfl, a, He.ga K "TooLarge", rfl, T.e_TooLarge.c.o, T.na_TooLarge, .inl ⟨ha, fun dx nd ne => k dx nd ne⟩⟩
theorem okK_TooDeep (T : Txt K mg base) : ErrDK P w K mg base 2 "TooDeep" (He.ga K "TooDeep") ["self", "basins"] "basins" := by
  refine T.e_TooDeep.okK sc_TooDeep___init__ rfl (fun _ _ _ _ _ _ _ _ => rfl) (fun f cdv A outer s H vs Q E hr h => ?_)
  · obtain ⟨a, v, rfl, ha, k⟩ := h
    refine ⟨_, (pss_cons (ps_expr (pe_cinit (by rfl) T.b_JetError.1 T.b_JetError.2 (pa_cons (pv 0) (pa_cons pe_str pa_nil))))
      (pss_one (ps_ost (pv 0) (pv 1)))), ?_⟩
    exact ⟨.ref a, rfl, a, He.ga K "TooDeep", [.str "TooDeep"], rfl, by show 1 ≤ 1000; decide, T.e_TooDeep.c.o, ha, v, rfl, .ref a, rfl, a, He.ga K "TooDeep", rfl, T.e_TooDeep.c.o, T.na_TooDeep, .inl ⟨ha, fun dx nd ne => k dx nd ne⟩⟩
theorem okK_TooMany (T : Txt K mg base) : ErrDK P w K mg base 2 "TooMany" (He.ga K "TooMany") ["self", "many"] "many" := by
  refine T.e_TooMany.okK sc_TooMany___init__ rfl (fun _ _ _ _ _ _ _ _ => rfl) (fun f cdv A outer s H vs Q E hr h => ?_)
  · obtain ⟨a, v, rfl, ha, k⟩ := h
    refine ⟨_, (pss_cons (ps_expr (pe_cinit (by rfl) T.b_JetError.1 T.b_JetError.2 (pa_cons (pv 0) (pa_cons pe_str pa_nil))))
      (pss_one (ps_ost (pv 0) (pv 1)))), ?_⟩
    exact ⟨.ref a, rfl, a, He.ga K "TooMany", [.str "TooMany"], rfl, by show 1 ≤ 1000; decide, T.e_TooMany.c.o, ha, v, rfl, .ref a, rfl, a, He.ga K "TooMany", rfl, T.e_TooMany.c.o, T.na_TooMany, .inl ⟨ha, fun dx nd ne => k dx nd ne⟩⟩
theorem okK_Rejected (T : Txt K mg base) : ErrDK P w K mg base 2 "Rejected" (He.ga K "Rejected") ["self", "index"] "index" := by
  refine T.e_Rejected.okK sc_Rejected___init__ rfl (fun _ _ _ _ _ _ _ _ => rfl) (fun f cdv A outer s H vs Q E hr h => ?_)
  · obtain ⟨a, v, rfl, ha, k⟩ := h
    refine ⟨_, (pss_cons (ps_expr (pe_cinit (by rfl) T.b_JetError.1 T.b_JetError.2 (pa_cons (pv 0) (pa_cons pe_str pa_nil))))
      (pss_one (ps_ost (pv 0) (pv 1)))), ?_⟩
    exact ⟨.ref a, rfl, a, He.ga K "Rejected", [.str "Rejected"], rfl, by show 1 ≤ 1000; decide, T.e_Rejected.c.o, ha, v, rfl, .ref a, rfl, a, He.ga K "Rejected", rfl, T.e_Rejected.c.o, T.na_Rejected, .inl ⟨ha, fun dx nd ne => k dx nd ne⟩⟩
theorem okK_NoDifference (T : Txt K mg base) : ErrDK P w K mg base 2 "NoDifference" (He.ga K "NoDifference") ["self", "branch"] "branch" := by
  refine T.e_NoDifference.okK sc_NoDifference___init__ rfl (fun _ _ _ _ _ _ _ _ => rfl) (fun f cdv A outer s H vs Q E hr h => ?_)
  · obtain ⟨a, v, rfl, ha, k⟩ := h
    refine ⟨_, (pss_cons (ps_expr (pe_cinit (by rfl) T.b_NoDivision.1 T.b_NoDivision.2 (pa_cons (pv 0) (pa_cons pe_str pa_nil))))
      (pss_one (ps_ost (pv 0) (pv 1)))), ?_⟩
    exact ⟨.ref a, rfl, a, He.ga K "NoDifference", [.str "NoDifference"], rfl, by show 1 ≤ 1000; decide, T.e_NoDifference.c.o, ha, v, rfl, .ref a, rfl, a, He.ga K "NoDifference", rfl, T.e_NoDifference.c.o, T.na_NoDifference, .inl ⟨ha, fun dx nd ne => k dx nd ne⟩⟩
theorem okK_NoQuotient (T : Txt K mg base) : ErrDK P w K mg base 2 "NoQuotient" (He.ga K "NoQuotient") ["self", "place"] "place" := by
  refine T.e_NoQuotient.okK sc_NoQuotient___init__ rfl (fun _ _ _ _ _ _ _ _ => rfl) (fun f cdv A outer s H vs Q E hr h => ?_)
  · obtain ⟨a, v, rfl, ha, k⟩ := h
    refine ⟨_, (pss_cons (ps_expr (pe_cinit (by rfl) T.b_NoDivision.1 T.b_NoDivision.2 (pa_cons (pv 0) (pa_cons pe_str pa_nil))))
      (pss_one (ps_ost (pv 0) (pv 1)))), ?_⟩
    exact ⟨.ref a, rfl, a, He.ga K "NoQuotient", [.str "NoQuotient"], rfl, by show 1 ≤ 1000; decide, T.e_NoQuotient.c.o, ha, v, rfl, .ref a, rfl, a, He.ga K "NoQuotient", rfl, T.e_NoQuotient.c.o, T.na_NoQuotient, .inl ⟨ha, fun dx nd ne => k dx nd ne⟩⟩
theorem ok_NoBasin___init__ (T : Txt K mg base) : ErrD P w K mg base 2 "NoBasin" (He.ga K "NoBasin") ["self"] (spErr0 K (He.ga K "NoBasin")) := by
  refine T.e_NoBasin.ok sc_NoBasin___init__ (fun vs H Q E h => ?_) (fun f cdv A outer s H vs Q E hr h => ?_)
  · obtain ⟨a, rfl, _⟩ := h
    rfl
  · obtain ⟨a, rfl, ha, k⟩ := h
    refine ⟨_, (pss_one (ps_expr (pe_cinit (by rfl) T.b_JetError.1 T.b_JetError.2 (pa_cons (pv 0) (pa_cons pe_str pa_nil))))), ?_⟩
    exact ⟨.ref a, rfl, a, He.ga K "NoBasin", [.str "NoBasin"], rfl, by show 1 ≤ 1000; decide, T.e_NoBasin.c.o, ha, k⟩
theorem ok_Closed___init__ (T : Txt K mg base) : ErrD P w K mg base 2 "Closed" (He.ga K "Closed") ["self"] (spErr0 K (He.ga K "Closed")) := by
  refine T.e_Closed.ok sc_Closed___init__ (fun vs H Q E h => ?_) (fun f cdv A outer s H vs Q E hr h => ?_)
  · obtain ⟨a, rfl, _⟩ := h
    rfl
  · obtain ⟨a, rfl, ha, k⟩ := h
    refine ⟨_, (pss_one (ps_expr (pe_cinit (by rfl) T.b_JetError.1 T.b_JetError.2 (pa_cons (pv 0) (pa_cons pe_str pa_nil))))), ?_⟩
    exact ⟨.ref a, rfl, a, He.ga K "Closed", [.str "Closed"], rfl, by show 1 ≤ 1000; decide, T.e_Closed.c.o, ha, k⟩
theorem ok_Endless___init__ (T : Txt K mg base) : ErrD P w K mg base 2 "Endless" (He.ga K "Endless") ["self"] (spErr0 K (He.ga K "Endless")) := by
  refine T.e_Endless.ok sc_Endless___init__ (fun vs H Q E h => ?_) (fun f cdv A outer s H vs Q E hr h => ?_)
  · obtain ⟨a, rfl, _⟩ := h
    rfl
  · obtain ⟨a, rfl, ha, k⟩ := h
    refine ⟨_, (pss_one (ps_expr (pe_cinit (by rfl) T.b_JetError.1 T.b_JetError.2 (pa_cons (pv 0) (pa_cons pe_str pa_nil))))), ?_⟩
    exact ⟨.ref a, rfl, a, He.ga K "Endless", [.str "Endless"], rfl, by show 1 ≤ 1000; decide, T.e_Endless.c.o, ha, k⟩
theorem ok_NotKind___init__ (T : Txt K mg base) : ErrD P w K mg base 2 "NotKind" (He.ga K "NotKind") ["self"] (spErr0 K (He.ga K "NotKind")) := by
  refine T.e_NotKind.ok sc_NotKind___init__ (fun vs H Q E h => ?_) (fun f cdv A outer s H vs Q E hr h => ?_)
  · obtain ⟨a, rfl, _⟩ := h
    rfl
  · obtain ⟨a, rfl, ha, k⟩ := h
    refine ⟨_, (pss_one (ps_expr (pe_cinit (by rfl) T.b_JetError.1 T.b_JetError.2 (pa_cons (pv 0) (pa_cons pe_str pa_nil))))), ?_⟩
    exact ⟨.ref a, rfl, a, He.ga K "NotKind", [.str "NotKind"], rfl, by show 1 ≤ 1000; decide, T.e_NotKind.c.o, ha, k⟩
theorem ok_Nested___init__ (T : Txt K mg base) : ErrD P w K mg base 2 "Nested" (He.ga K "Nested") ["self"] (spErr0 K (He.ga K "Nested")) := by
  refine T.e_Nested.ok sc_Nested___init__ (fun vs H Q E h => ?_) (fun f cdv A outer s H vs Q E hr h => ?_)
  · obtain ⟨a, rfl, _⟩ := h
    rfl
  · obtain ⟨a, rfl, ha, k⟩ := h
    refine ⟨_, (pss_one (ps_expr (pe_cinit (by rfl) T.b_JetError.1 T.b_JetError.2 (pa_cons (pv 0) (pa_cons pe_str pa_nil))))), ?_⟩
    exact ⟨.ref a, rfl, a, He.ga K "Nested", [.str "Nested"], rfl, by show 1 ≤ 1000; decide, T.e_Nested.c.o, ha, k⟩
theorem ok_NoRow___init__ (T : Txt K mg base) : ErrD P w K mg base 2 "NoRow" (He.ga K "NoRow") ["self"] (spErr0 K (He.ga K "NoRow")) := by
  refine T.e_NoRow.ok sc_NoRow___init__ (fun vs H Q E h => ?_) (fun f cdv A outer s H vs Q E hr h => ?_)
  · obtain ⟨a, rfl, _⟩ := h
    rfl
  · obtain ⟨a, rfl, ha, k⟩ := h
    refine ⟨_, (pss_one (ps_expr (pe_cinit (by rfl) T.b_JetError.1 T.b_JetError.2 (pa_cons (pv 0) (pa_cons pe_str pa_nil))))), ?_⟩
    exact ⟨.ref a, rfl, a, He.ga K "NoRow", [.str "NoRow"], rfl, by show 1 ≤ 1000; decide, T.e_NoRow.c.o, ha, k⟩
def sp_eq (K : PySem.W.Frag) : Sp := fun vs H Q _ => ∃ v t w u, vs = [v, w] ∧ Ftn (cF K) H t v ∧ Ftn (cF K) H u w ∧ Q (.bl (decide (t = u))) H
theorem ok_Fountain___eq__  (T : Txt K mg base) : MethD P w K mg base CX0 1 (cF K) "__eq__" ["self", "other"] [] (sp_eq K) := by
  refine T.m___eq__.ok sc_Fountain___eq__ (fun vs H Q E h => ?_) (fun f cdv A outer s H vs Q E hr h => ?_)
  · obtain ⟨v, t, w, u, rfl, _⟩ := h
    rfl
  · obtain ⟨v, t, w, u, rfl, hv, hw, k⟩ := h
    obtain ⟨a, dx, b, n, vs, rfl, ha, hb, hn, hk⟩ := ftn_iff.mp hv
    obtain ⟨a2, dx2, b2, n2, vs2, rfl, ha2, hb2, hn2, hk2⟩ := ftn_iff.mp hw
    refine ⟨_, (pss_one (ps_ret (pe_and (pe_callB call_isi (by rfl) T.n_isinstance (by decide +kernel) (pa_cons (pv 1) (pa_cons (pe_glob (v := .ref (cF K)) rfl T.cls.g rfl) pa_nil))) (pe_one (pe_cmpR op_eq (pe_fld (pv 0) rfl) (pe_fld (pv 1) rfl) (nomark _)))))), ?_⟩
    refine ⟨.ref a2, rfl, .ref a2, .ref (cF K), _, _, true, rfl, .own _, T.cls.ty ha2, isi_self, true, rfl, ite_t rfl ⟨.ref a, rfl, a, _, dx, _, _, rfl, ha, T.cls.c, T.cls.nw, fl_w, .ref a2, rfl, a2, _, dx2, _, _, rfl, ha2, T.cls.c, T.cls.nw, fl_w, rfl, ?_⟩⟩
    rw [show decide (V.str (tx t) = V.str (tx u)) = decide (t = u) from decide_eq_decide.mpr ⟨fun z => tx_inj (V.str.inj z), fun z => by rw [z]⟩]
    exact k
theorem okF_eq (T : Txt K mg base) : MethD P w K mg base CX0 1 (cF K) "__eq__" ["self", "other"] [] (spEqF K) := (ok_Fountain___eq__ T).imp fun vs H Q E ⟨x, y, t, u, e, h1, h2, q⟩ => ⟨x, t, y, u, e, h1, h2, q⟩

def errN : List (Str × Str) := [("NoText", "index"), ("NoBranch", "index"), ("NoPlace", "step"), ("TooLarge", "pieces"), ("TooDeep", "basins"), ("TooMany", "many"), ("Rejected", "index"), ("NoDifference", "branch"), ("NoQuotient", "place")]
def errM : List Str := ["NoBasin", "Closed", "Endless", "NotKind", "Nested", "NoRow", "NoDivision"]
def erA (K : PySem.W.Frag) (x : D) (q : Str × Str) : D := .tup [.err (He.ga K q.1) [q.2] [x], x]
def erZ (K : PySem.W.Frag) (y : Str) : D := .err (He.ga K y) [] []
def erB (K : PySem.W.Frag) (x : D) (y : Str) : D := .tup [erZ K y, x]
def errsD (K : PySem.W.Frag) (x : D) : List D := errN.map (erA K x) ++ errM.map (erB K x)
def asp__law_errors (K : PySem.W.Frag) : ASp
  | [x], L, Q, _ => ∀ p, L p = none → Q (.ref p) (sput L p (.lst (errsD K x)))
  | _, _, _, _ => False
theorem okA__law_errors  (T : Txt K mg base) {scr : Option (Addr × List Int)} : CallD P w K mg base CX0 4 "_law_errors" ["_law_x"] [] (spA (cA K scr) ((asp__law_errors K))) := by
  refine T.d__law_errors.okA sc__law_errors ?len (fun f cdv A outer s H E hr => (as_cons (as_asg (ae_tup (aa_cons (ae_err (okK_NoText T) (hr.mono (by decide)) (by rfl) (av 0)) (aa_cons (ae_err (okK_NoBranch T) (hr.mono (by decide)) (by rfl) (av 0)) (aa_cons (ae_err (okK_NoPlace T) (hr.mono (by decide)) (by rfl) (av 0)) (aa_cons (ae_err (okK_TooLarge T) (hr.mono (by decide)) (by rfl) (av 0)) aa_nil))))) (ag_tup (n := 4) rfl (ags_cons (ag_name (i := 1) sc__law_errors.nd rfl (by first | exact Or.inl rfl | exact Or.inr rfl)) (ags_cons (ag_name (i := 2) sc__law_errors.nd rfl (by first | exact Or.inl rfl | exact Or.inr rfl)) (ags_cons (ag_name (i := 3) sc__law_errors.nd rfl (by first | exact Or.inl rfl | exact Or.inr rfl)) (ags_cons (ag_name (i := 4) sc__law_errors.nd rfl (by first | exact Or.inl rfl | exact Or.inr rfl)) ags_nil)))) (fun _ _ _ _ z => agNs_len (js := [1, 2, 3, 4]) z)))
      (as_cons (as_par3 (i := 5) (j := 6) (l := 7) (by rfl) sc__law_errors.nd rfl rfl rfl (by decide) (by decide) (by decide) rfl rfl rfl (aa_cons (ae_err (okK_TooDeep T) (hr.mono (by decide)) (by rfl) (av 0)) (aa_cons (ae_err (okK_TooMany T) (hr.mono (by decide)) (by rfl) (av 0)) (aa_cons (ae_err (okK_Rejected T) (hr.mono (by decide)) (by rfl) (av 0)) aa_nil))) (by rfl))
      (as_cons (as_set (i := 8) sc__law_errors.nd rfl (by first | exact Or.inl rfl | exact Or.inr rfl) (ae_lst (aa_cons (ae_tup (aa_cons (av 1) (aa_cons (ae_errF (K := K) rfl (av 1) rfl) aa_nil))) (aa_cons (ae_tup (aa_cons (av 2) (aa_cons (ae_errF (K := K) rfl (av 2) rfl) aa_nil))) (aa_cons (ae_tup (aa_cons (av 3) (aa_cons (ae_errF (K := K) rfl (av 3) rfl) aa_nil))) (aa_cons (ae_tup (aa_cons (av 4) (aa_cons (ae_errF (K := K) rfl (av 4) rfl) aa_nil))) (aa_cons (ae_tup (aa_cons (av 5) (aa_cons (ae_errF (K := K) rfl (av 5) rfl) aa_nil))) aa_nil)))))))
      (as_cons (as_par (i := 9) (j := 10) (by rfl) sc__law_errors.nd rfl rfl (by decide) rfl rfl (aa_cons (ae_err (okK_NoDifference T) (hr.mono (by decide)) (by rfl) (av 0)) (aa_cons (ae_err (okK_NoQuotient T) (hr.mono (by decide)) (by rfl) (av 0)) aa_nil)) (by rfl))
      (as_cons (as_set (i := 8) sc__law_errors.nd rfl (by first | exact Or.inl rfl | exact Or.inr rfl) (ae_op aop_add (av 8) (ae_lst (aa_cons (ae_tup (aa_cons (av 6) (aa_cons (ae_errF (K := K) rfl (av 6) rfl) aa_nil))) (aa_cons (ae_tup (aa_cons (av 7) (aa_cons (ae_errF (K := K) rfl (av 7) rfl) aa_nil))) (aa_cons (ae_tup (aa_cons (av 9) (aa_cons (ae_errF (K := K) rfl (av 9) rfl) aa_nil))) (aa_cons (ae_tup (aa_cons (av 10) (aa_cons (ae_errF (K := K) rfl (av 10) rfl) aa_nil))) aa_nil)))))))
      (as_cons (as_set (i := 11) sc__law_errors.nd rfl (by first | exact Or.inl rfl | exact Or.inr rfl) (ae_lst (aa_cons (ae_err0 (ok_NoBasin___init__ T) (hr.mono (by decide)) (by rfl)) (aa_cons (ae_err0 (ok_Closed___init__ T) (hr.mono (by decide)) (by rfl)) (aa_cons (ae_err0 (ok_Endless___init__ T) (hr.mono (by decide)) (by rfl)) (aa_cons (ae_err0 (ok_NotKind___init__ T) (hr.mono (by decide)) (by rfl)) (aa_cons (ae_err0 (ok_Nested___init__ T) (hr.mono (by decide)) (by rfl)) (aa_cons (ae_err0 (ok_NoRow___init__ T) (hr.mono (by decide)) (by rfl)) (aa_cons (ae_errB T.e_NoDivision.g (oexB_ok T.x_oex_NoDivision) T.x_init_NoDivision (by rfl)) aa_nil)))))))))
      (as_one (as_ret (ae_op aop_add (av 8) (ae_lc (own := [("_law_error", 12)]) (by rfl) sc__law_errors.nd (ai_list (av 11)) (blkOk_by (by kernel_rfl)) (tgOk_name (by decide)) (fun _ _ _ _ _ => pg_name (i := 12) sc__law_errors.nd rfl (by first | exact Or.inl rfl | exact Or.inr rfl)) (fun _ _ _ _ _ => (ae_tup (aa_cons (av 12) (aa_cons (av 0) aa_nil))))))))))))))) ?vc
  case len =>
    intro ds L R RX h
    unfold asp__law_errors at h
    split at h <;> first | rfl | exact h.elim
  case vc =>
    intro ds L R RX h
    unfold asp__law_errors at h
    split at h
    · rename_i x
      have hsl := sizeLine_eq
      have two : (2 : Nat) ≤ sizeLine := by omega
      refine ⟨by show (4 : Nat) ≤ sizeLine; omega, rfl, ?_⟩
      refine ⟨_, _, rfl, T.e_NoText.c.xf, T.na_NoText, two, _, _, rfl, T.e_NoBranch.c.xf, T.na_NoBranch, two, _, _, rfl, T.e_NoPlace.c.xf, T.na_NoPlace, two, _, _, rfl, T.e_TooLarge.c.xf, T.na_TooLarge, two, _, _, rfl, T.e_TooDeep.c.xf, T.na_TooDeep, two, by show (5 : Nat) ≤ sizeLine; omega, fun F hF => ?_⟩
      refine ⟨_, _, rfl, T.e_TooMany.c.xf, T.na_TooMany, two, _, _, rfl, T.e_Rejected.c.xf, T.na_Rejected, two, _, _, rfl, T.e_NoDifference.c.xf, T.na_NoDifference, two, _, _, rfl, T.e_NoQuotient.c.xf, T.na_NoQuotient, two, by show (4 : Nat) ≤ sizeLine; omega, fun G hG => ?_⟩
      refine ⟨_, _, sput_old sput_same hG, sput_same, by show (9 : Nat) ≤ sizeLine; omega, fun M hM => ?_⟩
      generalize eS : sput (sput (sput L F _) G _) M _ = L1
      have m1 : L1 M = some (.lst (errN.map (erA K x))) := by
        rw [← eS]
        exact sput_same
      have sb : SubS L L1 := by
        rw [← eS]
        exact (((SubS.refl L).new hF).new hG).new hM
      clear eS hM hG hF
      refine ⟨by show (7 : Nat) ≤ sizeLine; omega, fun O hO => ?_⟩
      have o2 : sput L1 O (.lst (errM.map (erZ K))) O = some (.lst (errM.map (erZ K))) := sput_same
      have m2 := sput_old (n := .lst (errM.map (erZ K))) m1 hO
      have sb2 := sb.new (m := .lst (errM.map (erZ K))) hO
      show agName 11 _ _ (sput L1 O (.lst (errM.map (erZ K)))) _
      generalize sput L1 O (.lst (errM.map (erZ K))) = L2 at o2 m2 sb2 ⊢
      refine ⟨_, o2, fun E hE => ?_⟩
      refine comp_mapA (erZ K) (erB K x) (fun _ => sput_old o2 hE) errM [] (by show (7 : Nat) ≤ sizeLine; omega) (fun y _ l k hk => ⟨rfl, two, hk⟩) ?_
      rw [List.nil_append]
      refine ⟨_, _, sput_old m2 hE, sput_same, by show (16 : Nat) ≤ sizeLine; omega, fun r hr => ?_⟩
      exact ret_sub (h r ((sb2.new hE).none hr)) (((sb2.new hE).new hr).mine sput_same)
    · exact h.elim
def asp__law_by_names : ASp
  | [x], L, Q, _ => ∀ p, L p = none → Q (.ref p) (sput L p (.lst (List.replicate 9 x)))
  | _, _, _, _ => False
theorem okA__law_by_names  (T : Txt K mg base) {scr : Option (Addr × List Int)} : CallD P w K mg base CX0 4 "_law_by_names" ["_law_x"] [] (spA (cA K scr) (asp__law_by_names)) := by
  refine T.d__law_by_names.okA sc__law_by_names ?len (fun f cdv A outer s H E hr => (as_cons (as_set (i := 1) sc__law_by_names.nd rfl (by first | exact Or.inl rfl | exact Or.inr rfl) (ae_lst (aa_cons (ae_errF (K := K) rfl (ae_errK (okK_NoText T) (hr.mono (by decide)) (by rfl) (av 0)) rfl) (aa_cons (ae_errF (K := K) rfl (ae_errK (okK_NoBranch T) (hr.mono (by decide)) (by rfl) (av 0)) rfl) (aa_cons (ae_errF (K := K) rfl (ae_errK (okK_NoPlace T) (hr.mono (by decide)) (by rfl) (av 0)) rfl) (aa_cons (ae_errF (K := K) rfl (ae_errK (okK_TooLarge T) (hr.mono (by decide)) (by rfl) (av 0)) rfl) aa_nil))))))
      (as_cons (as_set (i := 1) sc__law_by_names.nd rfl (by first | exact Or.inl rfl | exact Or.inr rfl) (ae_op aop_add (av 1) (ae_lst (aa_cons (ae_errF (K := K) rfl (ae_errK (okK_TooDeep T) (hr.mono (by decide)) (by rfl) (av 0)) rfl) (aa_cons (ae_errF (K := K) rfl (ae_errK (okK_TooMany T) (hr.mono (by decide)) (by rfl) (av 0)) rfl) (aa_cons (ae_errF (K := K) rfl (ae_errK (okK_Rejected T) (hr.mono (by decide)) (by rfl) (av 0)) rfl) aa_nil))))))
      (as_one (as_ret (ae_op aop_add (av 1) (ae_lst (aa_cons (ae_errF (K := K) rfl (ae_errK (okK_NoDifference T) (hr.mono (by decide)) (by rfl) (av 0)) rfl) (aa_cons (ae_errF (K := K) rfl (ae_errK (okK_NoQuotient T) (hr.mono (by decide)) (by rfl) (av 0)) rfl) aa_nil))))))))) ?vc
  case len =>
    intro ds L R RX h
    unfold asp__law_by_names at h
    split at h <;> first | rfl | exact h.elim
  case vc =>
    intro ds L R RX h
    unfold asp__law_by_names at h
    split at h
    · rename_i x
      have hsl := sizeLine_eq
      refine ⟨_, _, rfl, T.e_NoText.c.xf, T.na_NoText, _, _, rfl, T.e_NoBranch.c.xf, T.na_NoBranch, _, _, rfl, T.e_NoPlace.c.xf, T.na_NoPlace, _, _, rfl, T.e_TooLarge.c.xf, T.na_TooLarge, by show (4 : Nat) ≤ sizeLine; omega, fun F hF => ?_⟩
      refine ⟨_, _, rfl, T.e_TooDeep.c.xf, T.na_TooDeep, _, _, rfl, T.e_TooMany.c.xf, T.na_TooMany, _, _, rfl, T.e_Rejected.c.xf, T.na_Rejected, by show (3 : Nat) ≤ sizeLine; omega, fun G hG => ?_⟩
      refine ⟨_, _, sput_old sput_same hG, sput_same, by show (7 : Nat) ≤ sizeLine; omega, fun M hM => ?_⟩
      refine ⟨_, _, rfl, T.e_NoDifference.c.xf, T.na_NoDifference, _, _, rfl, T.e_NoQuotient.c.xf, T.na_NoQuotient, by show (2 : Nat) ≤ sizeLine; omega, fun N hN => ?_⟩
      refine ⟨_, _, sput_old sput_same hN, sput_same, by show (9 : Nat) ≤ sizeLine; omega, fun r hr => ?_⟩
      exact ret_sub (h r ((((((SubS.refl L).new hF).new hG).new hM).new hN).none hr)) (((((((SubS.refl L).new hF).new hG).new hM).new hN).new hr).mine sput_same)
    · exact h.elim
def errL : List Str := errN.map (·.1) ++ errM
def asp__law_sorts (K : PySem.W.Frag) : ASp
  | [.err C _ _], L, Q, _ => ∃ i y, errL[i]? = some y ∧ C = He.ga K y ∧ ∀ p, L p = none → Q (.ref p) (sput L p (.lst ((List.range 15).map fun j => D.bl (decide (j = i)))))
  | _, _, _, _ => False
def ErrK (K : PySem.W.Frag) (i : Nat) (C : Addr) : Prop := ExcC K C ∧ (∀ j z, errL[j]? = some z → j < 15 → PySem.W.kitOne K (.ref C) (.ref (He.ga K z)) = some (decide (j = i))) ∧ PySem.W.kitOne K (.ref C) (.ref (He.ga K "JetError")) = some true ∧
  PySem.W.kitOne K (.ref C) (.type "ValueError") = some true ∧ PySem.W.kitOne K (.ref C) (.ref (He.ga K "NoDivision")) = some (decide (i = 7 ∨ i = 8 ∨ i = 15))
theorem errK_NoText (T : Txt K mg base) : ErrK K 0 (He.ga K "NoText") := by
  refine ⟨T.e_NoText.c.ex, fun j z e hj => ?_, T.k_NoText_JetError, T.v_NoText, T.k_NoText_NoDivision⟩
  match j, e, hj with
  | 0, e, _ =>
    cases (show some ("NoText" : Str) = some z from e)
    exact T.k_NoText_NoText
  | 1, e, _ =>
    cases (show some ("NoBranch" : Str) = some z from e)
    exact T.k_NoText_NoBranch
  | 2, e, _ =>
    cases (show some ("NoPlace" : Str) = some z from e)
    exact T.k_NoText_NoPlace
  | 3, e, _ =>
    cases (show some ("TooLarge" : Str) = some z from e)
    exact T.k_NoText_TooLarge
  | 4, e, _ =>
    cases (show some ("TooDeep" : Str) = some z from e)
    exact T.k_NoText_TooDeep
  | 5, e, _ =>
    cases (show some ("TooMany" : Str) = some z from e)
    exact T.k_NoText_TooMany
  | 6, e, _ =>
    cases (show some ("Rejected" : Str) = some z from e)
    exact T.k_NoText_Rejected
  | 7, e, _ =>
    cases (show some ("NoDifference" : Str) = some z from e)
    exact T.k_NoText_NoDifference
  | 8, e, _ =>
    cases (show some ("NoQuotient" : Str) = some z from e)
    exact T.k_NoText_NoQuotient
  | 9, e, _ =>
    cases (show some ("NoBasin" : Str) = some z from e)
    exact T.k_NoText_NoBasin
  | 10, e, _ =>
    cases (show some ("Closed" : Str) = some z from e)
    exact T.k_NoText_Closed
  | 11, e, _ =>
    cases (show some ("Endless" : Str) = some z from e)
    exact T.k_NoText_Endless
  | 12, e, _ =>
    cases (show some ("NotKind" : Str) = some z from e)
    exact T.k_NoText_NotKind
  | 13, e, _ =>
    cases (show some ("Nested" : Str) = some z from e)
    exact T.k_NoText_Nested
  | 14, e, _ =>
    cases (show some ("NoRow" : Str) = some z from e)
    exact T.k_NoText_NoRow
  | j + 15, _, hj => omega
theorem errK_NoBranch (T : Txt K mg base) : ErrK K 1 (He.ga K "NoBranch") := by
  refine ⟨T.e_NoBranch.c.ex, fun j z e hj => ?_, T.k_NoBranch_JetError, T.v_NoBranch, T.k_NoBranch_NoDivision⟩
  match j, e, hj with
  | 0, e, _ =>
    cases (show some ("NoText" : Str) = some z from e)
    exact T.k_NoBranch_NoText
  | 1, e, _ =>
    cases (show some ("NoBranch" : Str) = some z from e)
    exact T.k_NoBranch_NoBranch
  | 2, e, _ =>
    cases (show some ("NoPlace" : Str) = some z from e)
    exact T.k_NoBranch_NoPlace
  | 3, e, _ =>
    cases (show some ("TooLarge" : Str) = some z from e)
    exact T.k_NoBranch_TooLarge
  | 4, e, _ =>
    cases (show some ("TooDeep" : Str) = some z from e)
    exact T.k_NoBranch_TooDeep
  | 5, e, _ =>
    cases (show some ("TooMany" : Str) = some z from e)
    exact T.k_NoBranch_TooMany
  | 6, e, _ =>
    cases (show some ("Rejected" : Str) = some z from e)
    exact T.k_NoBranch_Rejected
  | 7, e, _ =>
    cases (show some ("NoDifference" : Str) = some z from e)
    exact T.k_NoBranch_NoDifference
  | 8, e, _ =>
    cases (show some ("NoQuotient" : Str) = some z from e)
    exact T.k_NoBranch_NoQuotient
  | 9, e, _ =>
    cases (show some ("NoBasin" : Str) = some z from e)
    exact T.k_NoBranch_NoBasin
  | 10, e, _ =>
    cases (show some ("Closed" : Str) = some z from e)
    exact T.k_NoBranch_Closed
  | 11, e, _ =>
    cases (show some ("Endless" : Str) = some z from e)
    exact T.k_NoBranch_Endless
  | 12, e, _ =>
    cases (show some ("NotKind" : Str) = some z from e)
    exact T.k_NoBranch_NotKind
  | 13, e, _ =>
    cases (show some ("Nested" : Str) = some z from e)
    exact T.k_NoBranch_Nested
  | 14, e, _ =>
    cases (show some ("NoRow" : Str) = some z from e)
    exact T.k_NoBranch_NoRow
  | j + 15, _, hj => omega
theorem errK_NoPlace (T : Txt K mg base) : ErrK K 2 (He.ga K "NoPlace") := by
  refine ⟨T.e_NoPlace.c.ex, fun j z e hj => ?_, T.k_NoPlace_JetError, T.v_NoPlace, T.k_NoPlace_NoDivision⟩
  match j, e, hj with
  | 0, e, _ =>
    cases (show some ("NoText" : Str) = some z from e)
    exact T.k_NoPlace_NoText
  | 1, e, _ =>
    cases (show some ("NoBranch" : Str) = some z from e)
    exact T.k_NoPlace_NoBranch
  | 2, e, _ =>
    cases (show some ("NoPlace" : Str) = some z from e)
    exact T.k_NoPlace_NoPlace
  | 3, e, _ =>
    cases (show some ("TooLarge" : Str) = some z from e)
    exact T.k_NoPlace_TooLarge
  | 4, e, _ =>
    cases (show some ("TooDeep" : Str) = some z from e)
    exact T.k_NoPlace_TooDeep
  | 5, e, _ =>
    cases (show some ("TooMany" : Str) = some z from e)
    exact T.k_NoPlace_TooMany
  | 6, e, _ =>
    cases (show some ("Rejected" : Str) = some z from e)
    exact T.k_NoPlace_Rejected
  | 7, e, _ =>
    cases (show some ("NoDifference" : Str) = some z from e)
    exact T.k_NoPlace_NoDifference
  | 8, e, _ =>
    cases (show some ("NoQuotient" : Str) = some z from e)
    exact T.k_NoPlace_NoQuotient
  | 9, e, _ =>
    cases (show some ("NoBasin" : Str) = some z from e)
    exact T.k_NoPlace_NoBasin
  | 10, e, _ =>
    cases (show some ("Closed" : Str) = some z from e)
    exact T.k_NoPlace_Closed
  | 11, e, _ =>
    cases (show some ("Endless" : Str) = some z from e)
    exact T.k_NoPlace_Endless
  | 12, e, _ =>
    cases (show some ("NotKind" : Str) = some z from e)
    exact T.k_NoPlace_NotKind
  | 13, e, _ =>
    cases (show some ("Nested" : Str) = some z from e)
    exact T.k_NoPlace_Nested
  | 14, e, _ =>
    cases (show some ("NoRow" : Str) = some z from e)
    exact T.k_NoPlace_NoRow
  | j + 15, _, hj => omega
theorem errK_TooLarge (T : Txt K mg base) : ErrK K 3 (He.ga K "TooLarge") := by
  refine ⟨T.e_TooLarge.c.ex, fun j z e hj => ?_, T.k_TooLarge_JetError, T.v_TooLarge, T.k_TooLarge_NoDivision⟩
  match j, e, hj with
  | 0, e, _ =>
    cases (show some ("NoText" : Str) = some z from e)
    exact T.k_TooLarge_NoText
  | 1, e, _ =>
    cases (show some ("NoBranch" : Str) = some z from e)
    exact T.k_TooLarge_NoBranch
  | 2, e, _ =>
    cases (show some ("NoPlace" : Str) = some z from e)
    exact T.k_TooLarge_NoPlace
  | 3, e, _ =>
    cases (show some ("TooLarge" : Str) = some z from e)
    exact T.k_TooLarge_TooLarge
  | 4, e, _ =>
    cases (show some ("TooDeep" : Str) = some z from e)
    exact T.k_TooLarge_TooDeep
  | 5, e, _ =>
    cases (show some ("TooMany" : Str) = some z from e)
    exact T.k_TooLarge_TooMany
  | 6, e, _ =>
    cases (show some ("Rejected" : Str) = some z from e)
    exact T.k_TooLarge_Rejected
  | 7, e, _ =>
    cases (show some ("NoDifference" : Str) = some z from e)
    exact T.k_TooLarge_NoDifference
  | 8, e, _ =>
    cases (show some ("NoQuotient" : Str) = some z from e)
    exact T.k_TooLarge_NoQuotient
  | 9, e, _ =>
    cases (show some ("NoBasin" : Str) = some z from e)
    exact T.k_TooLarge_NoBasin
  | 10, e, _ =>
    cases (show some ("Closed" : Str) = some z from e)
    exact T.k_TooLarge_Closed
  | 11, e, _ =>
    cases (show some ("Endless" : Str) = some z from e)
    exact T.k_TooLarge_Endless
  | 12, e, _ =>
    cases (show some ("NotKind" : Str) = some z from e)
    exact T.k_TooLarge_NotKind
  | 13, e, _ =>
    cases (show some ("Nested" : Str) = some z from e)
    exact T.k_TooLarge_Nested
  | 14, e, _ =>
    cases (show some ("NoRow" : Str) = some z from e)
    exact T.k_TooLarge_NoRow
  | j + 15, _, hj => omega
theorem errK_TooDeep (T : Txt K mg base) : ErrK K 4 (He.ga K "TooDeep") := by
  refine ⟨T.e_TooDeep.c.ex, fun j z e hj => ?_, T.k_TooDeep_JetError, T.v_TooDeep, T.k_TooDeep_NoDivision⟩
  match j, e, hj with
  | 0, e, _ =>
    cases (show some ("NoText" : Str) = some z from e)
    exact T.k_TooDeep_NoText
  | 1, e, _ =>
    cases (show some ("NoBranch" : Str) = some z from e)
    exact T.k_TooDeep_NoBranch
  | 2, e, _ =>
    cases (show some ("NoPlace" : Str) = some z from e)
    exact T.k_TooDeep_NoPlace
  | 3, e, _ =>
    cases (show some ("TooLarge" : Str) = some z from e)
    exact T.k_TooDeep_TooLarge
  | 4, e, _ =>
    cases (show some ("TooDeep" : Str) = some z from e)
    exact T.k_TooDeep_TooDeep
  | 5, e, _ =>
    cases (show some ("TooMany" : Str) = some z from e)
    exact T.k_TooDeep_TooMany
  | 6, e, _ =>
    cases (show some ("Rejected" : Str) = some z from e)
    exact T.k_TooDeep_Rejected
  | 7, e, _ =>
    cases (show some ("NoDifference" : Str) = some z from e)
    exact T.k_TooDeep_NoDifference
  | 8, e, _ =>
    cases (show some ("NoQuotient" : Str) = some z from e)
    exact T.k_TooDeep_NoQuotient
  | 9, e, _ =>
    cases (show some ("NoBasin" : Str) = some z from e)
    exact T.k_TooDeep_NoBasin
  | 10, e, _ =>
    cases (show some ("Closed" : Str) = some z from e)
    exact T.k_TooDeep_Closed
  | 11, e, _ =>
    cases (show some ("Endless" : Str) = some z from e)
    exact T.k_TooDeep_Endless
  | 12, e, _ =>
    cases (show some ("NotKind" : Str) = some z from e)
    exact T.k_TooDeep_NotKind
  | 13, e, _ =>
    cases (show some ("Nested" : Str) = some z from e)
    exact T.k_TooDeep_Nested
  | 14, e, _ =>
    cases (show some ("NoRow" : Str) = some z from e)
    exact T.k_TooDeep_NoRow
  | j + 15, _, hj => omega
theorem errK_TooMany (T : Txt K mg base) : ErrK K 5 (He.ga K "TooMany") := by
  refine ⟨T.e_TooMany.c.ex, fun j z e hj => ?_, T.k_TooMany_JetError, T.v_TooMany, T.k_TooMany_NoDivision⟩
  match j, e, hj with
  | 0, e, _ =>
    cases (show some ("NoText" : Str) = some z from e)
    exact T.k_TooMany_NoText
  | 1, e, _ =>
    cases (show some ("NoBranch" : Str) = some z from e)
    exact T.k_TooMany_NoBranch
  | 2, e, _ =>
    cases (show some ("NoPlace" : Str) = some z from e)
    exact T.k_TooMany_NoPlace
  | 3, e, _ =>
    cases (show some ("TooLarge" : Str) = some z from e)
    exact T.k_TooMany_TooLarge
  | 4, e, _ =>
    cases (show some ("TooDeep" : Str) = some z from e)
    exact T.k_TooMany_TooDeep
  | 5, e, _ =>
    cases (show some ("TooMany" : Str) = some z from e)
    exact T.k_TooMany_TooMany
  | 6, e, _ =>
    cases (show some ("Rejected" : Str) = some z from e)
    exact T.k_TooMany_Rejected
  | 7, e, _ =>
    cases (show some ("NoDifference" : Str) = some z from e)
    exact T.k_TooMany_NoDifference
  | 8, e, _ =>
    cases (show some ("NoQuotient" : Str) = some z from e)
    exact T.k_TooMany_NoQuotient
  | 9, e, _ =>
    cases (show some ("NoBasin" : Str) = some z from e)
    exact T.k_TooMany_NoBasin
  | 10, e, _ =>
    cases (show some ("Closed" : Str) = some z from e)
    exact T.k_TooMany_Closed
  | 11, e, _ =>
    cases (show some ("Endless" : Str) = some z from e)
    exact T.k_TooMany_Endless
  | 12, e, _ =>
    cases (show some ("NotKind" : Str) = some z from e)
    exact T.k_TooMany_NotKind
  | 13, e, _ =>
    cases (show some ("Nested" : Str) = some z from e)
    exact T.k_TooMany_Nested
  | 14, e, _ =>
    cases (show some ("NoRow" : Str) = some z from e)
    exact T.k_TooMany_NoRow
  | j + 15, _, hj => omega
theorem errK_Rejected (T : Txt K mg base) : ErrK K 6 (He.ga K "Rejected") := by
  refine ⟨T.e_Rejected.c.ex, fun j z e hj => ?_, T.k_Rejected_JetError, T.v_Rejected, T.k_Rejected_NoDivision⟩
  match j, e, hj with
  | 0, e, _ =>
    cases (show some ("NoText" : Str) = some z from e)
    exact T.k_Rejected_NoText
  | 1, e, _ =>
    cases (show some ("NoBranch" : Str) = some z from e)
    exact T.k_Rejected_NoBranch
  | 2, e, _ =>
    cases (show some ("NoPlace" : Str) = some z from e)
    exact T.k_Rejected_NoPlace
  | 3, e, _ =>
    cases (show some ("TooLarge" : Str) = some z from e)
    exact T.k_Rejected_TooLarge
  | 4, e, _ =>
    cases (show some ("TooDeep" : Str) = some z from e)
    exact T.k_Rejected_TooDeep
  | 5, e, _ =>
    cases (show some ("TooMany" : Str) = some z from e)
    exact T.k_Rejected_TooMany
  | 6, e, _ =>
    cases (show some ("Rejected" : Str) = some z from e)
    exact T.k_Rejected_Rejected
  | 7, e, _ =>
    cases (show some ("NoDifference" : Str) = some z from e)
    exact T.k_Rejected_NoDifference
  | 8, e, _ =>
    cases (show some ("NoQuotient" : Str) = some z from e)
    exact T.k_Rejected_NoQuotient
  | 9, e, _ =>
    cases (show some ("NoBasin" : Str) = some z from e)
    exact T.k_Rejected_NoBasin
  | 10, e, _ =>
    cases (show some ("Closed" : Str) = some z from e)
    exact T.k_Rejected_Closed
  | 11, e, _ =>
    cases (show some ("Endless" : Str) = some z from e)
    exact T.k_Rejected_Endless
  | 12, e, _ =>
    cases (show some ("NotKind" : Str) = some z from e)
    exact T.k_Rejected_NotKind
  | 13, e, _ =>
    cases (show some ("Nested" : Str) = some z from e)
    exact T.k_Rejected_Nested
  | 14, e, _ =>
    cases (show some ("NoRow" : Str) = some z from e)
    exact T.k_Rejected_NoRow
  | j + 15, _, hj => omega
theorem errK_NoDifference (T : Txt K mg base) : ErrK K 7 (He.ga K "NoDifference") := by
  refine ⟨T.e_NoDifference.c.ex, fun j z e hj => ?_, T.k_NoDifference_JetError, T.v_NoDifference, T.k_NoDifference_NoDivision⟩
  match j, e, hj with
  | 0, e, _ =>
    cases (show some ("NoText" : Str) = some z from e)
    exact T.k_NoDifference_NoText
  | 1, e, _ =>
    cases (show some ("NoBranch" : Str) = some z from e)
    exact T.k_NoDifference_NoBranch
  | 2, e, _ =>
    cases (show some ("NoPlace" : Str) = some z from e)
    exact T.k_NoDifference_NoPlace
  | 3, e, _ =>
    cases (show some ("TooLarge" : Str) = some z from e)
    exact T.k_NoDifference_TooLarge
  | 4, e, _ =>
    cases (show some ("TooDeep" : Str) = some z from e)
    exact T.k_NoDifference_TooDeep
  | 5, e, _ =>
    cases (show some ("TooMany" : Str) = some z from e)
    exact T.k_NoDifference_TooMany
  | 6, e, _ =>
    cases (show some ("Rejected" : Str) = some z from e)
    exact T.k_NoDifference_Rejected
  | 7, e, _ =>
    cases (show some ("NoDifference" : Str) = some z from e)
    exact T.k_NoDifference_NoDifference
  | 8, e, _ =>
    cases (show some ("NoQuotient" : Str) = some z from e)
    exact T.k_NoDifference_NoQuotient
  | 9, e, _ =>
    cases (show some ("NoBasin" : Str) = some z from e)
    exact T.k_NoDifference_NoBasin
  | 10, e, _ =>
    cases (show some ("Closed" : Str) = some z from e)
    exact T.k_NoDifference_Closed
  | 11, e, _ =>
    cases (show some ("Endless" : Str) = some z from e)
    exact T.k_NoDifference_Endless
  | 12, e, _ =>
    cases (show some ("NotKind" : Str) = some z from e)
    exact T.k_NoDifference_NotKind
  | 13, e, _ =>
    cases (show some ("Nested" : Str) = some z from e)
    exact T.k_NoDifference_Nested
  | 14, e, _ =>
    cases (show some ("NoRow" : Str) = some z from e)
    exact T.k_NoDifference_NoRow
  | j + 15, _, hj => omega
theorem errK_NoQuotient (T : Txt K mg base) : ErrK K 8 (He.ga K "NoQuotient") := by
  refine ⟨T.e_NoQuotient.c.ex, fun j z e hj => ?_, T.k_NoQuotient_JetError, T.v_NoQuotient, T.k_NoQuotient_NoDivision⟩
  match j, e, hj with
  | 0, e, _ =>
    cases (show some ("NoText" : Str) = some z from e)
    exact T.k_NoQuotient_NoText
  | 1, e, _ =>
    cases (show some ("NoBranch" : Str) = some z from e)
    exact T.k_NoQuotient_NoBranch
  | 2, e, _ =>
    cases (show some ("NoPlace" : Str) = some z from e)
    exact T.k_NoQuotient_NoPlace
  | 3, e, _ =>
    cases (show some ("TooLarge" : Str) = some z from e)
    exact T.k_NoQuotient_TooLarge
  | 4, e, _ =>
    cases (show some ("TooDeep" : Str) = some z from e)
    exact T.k_NoQuotient_TooDeep
  | 5, e, _ =>
    cases (show some ("TooMany" : Str) = some z from e)
    exact T.k_NoQuotient_TooMany
  | 6, e, _ =>
    cases (show some ("Rejected" : Str) = some z from e)
    exact T.k_NoQuotient_Rejected
  | 7, e, _ =>
    cases (show some ("NoDifference" : Str) = some z from e)
    exact T.k_NoQuotient_NoDifference
  | 8, e, _ =>
    cases (show some ("NoQuotient" : Str) = some z from e)
    exact T.k_NoQuotient_NoQuotient
  | 9, e, _ =>
    cases (show some ("NoBasin" : Str) = some z from e)
    exact T.k_NoQuotient_NoBasin
  | 10, e, _ =>
    cases (show some ("Closed" : Str) = some z from e)
    exact T.k_NoQuotient_Closed
  | 11, e, _ =>
    cases (show some ("Endless" : Str) = some z from e)
    exact T.k_NoQuotient_Endless
  | 12, e, _ =>
    cases (show some ("NotKind" : Str) = some z from e)
    exact T.k_NoQuotient_NotKind
  | 13, e, _ =>
    cases (show some ("Nested" : Str) = some z from e)
    exact T.k_NoQuotient_Nested
  | 14, e, _ =>
    cases (show some ("NoRow" : Str) = some z from e)
    exact T.k_NoQuotient_NoRow
  | j + 15, _, hj => omega
theorem errK_NoBasin (T : Txt K mg base) : ErrK K 9 (He.ga K "NoBasin") := by
  refine ⟨T.e_NoBasin.c.ex, fun j z e hj => ?_, T.k_NoBasin_JetError, T.v_NoBasin, T.k_NoBasin_NoDivision⟩
  match j, e, hj with
  | 0, e, _ =>
    cases (show some ("NoText" : Str) = some z from e)
    exact T.k_NoBasin_NoText
  | 1, e, _ =>
    cases (show some ("NoBranch" : Str) = some z from e)
    exact T.k_NoBasin_NoBranch
  | 2, e, _ =>
    cases (show some ("NoPlace" : Str) = some z from e)
    exact T.k_NoBasin_NoPlace
  | 3, e, _ =>
    cases (show some ("TooLarge" : Str) = some z from e)
    exact T.k_NoBasin_TooLarge
  | 4, e, _ =>
    cases (show some ("TooDeep" : Str) = some z from e)
    exact T.k_NoBasin_TooDeep
  | 5, e, _ =>
    cases (show some ("TooMany" : Str) = some z from e)
    exact T.k_NoBasin_TooMany
  | 6, e, _ =>
    cases (show some ("Rejected" : Str) = some z from e)
    exact T.k_NoBasin_Rejected
  | 7, e, _ =>
    cases (show some ("NoDifference" : Str) = some z from e)
    exact T.k_NoBasin_NoDifference
  | 8, e, _ =>
    cases (show some ("NoQuotient" : Str) = some z from e)
    exact T.k_NoBasin_NoQuotient
  | 9, e, _ =>
    cases (show some ("NoBasin" : Str) = some z from e)
    exact T.k_NoBasin_NoBasin
  | 10, e, _ =>
    cases (show some ("Closed" : Str) = some z from e)
    exact T.k_NoBasin_Closed
  | 11, e, _ =>
    cases (show some ("Endless" : Str) = some z from e)
    exact T.k_NoBasin_Endless
  | 12, e, _ =>
    cases (show some ("NotKind" : Str) = some z from e)
    exact T.k_NoBasin_NotKind
  | 13, e, _ =>
    cases (show some ("Nested" : Str) = some z from e)
    exact T.k_NoBasin_Nested
  | 14, e, _ =>
    cases (show some ("NoRow" : Str) = some z from e)
    exact T.k_NoBasin_NoRow
  | j + 15, _, hj => omega
theorem errK_Closed (T : Txt K mg base) : ErrK K 10 (He.ga K "Closed") := by
  refine ⟨T.e_Closed.c.ex, fun j z e hj => ?_, T.k_Closed_JetError, T.v_Closed, T.k_Closed_NoDivision⟩
  match j, e, hj with
  | 0, e, _ =>
    cases (show some ("NoText" : Str) = some z from e)
    exact T.k_Closed_NoText
  | 1, e, _ =>
    cases (show some ("NoBranch" : Str) = some z from e)
    exact T.k_Closed_NoBranch
  | 2, e, _ =>
    cases (show some ("NoPlace" : Str) = some z from e)
    exact T.k_Closed_NoPlace
  | 3, e, _ =>
    cases (show some ("TooLarge" : Str) = some z from e)
    exact T.k_Closed_TooLarge
  | 4, e, _ =>
    cases (show some ("TooDeep" : Str) = some z from e)
    exact T.k_Closed_TooDeep
  | 5, e, _ =>
    cases (show some ("TooMany" : Str) = some z from e)
    exact T.k_Closed_TooMany
  | 6, e, _ =>
    cases (show some ("Rejected" : Str) = some z from e)
    exact T.k_Closed_Rejected
  | 7, e, _ =>
    cases (show some ("NoDifference" : Str) = some z from e)
    exact T.k_Closed_NoDifference
  | 8, e, _ =>
    cases (show some ("NoQuotient" : Str) = some z from e)
    exact T.k_Closed_NoQuotient
  | 9, e, _ =>
    cases (show some ("NoBasin" : Str) = some z from e)
    exact T.k_Closed_NoBasin
  | 10, e, _ =>
    cases (show some ("Closed" : Str) = some z from e)
    exact T.k_Closed_Closed
  | 11, e, _ =>
    cases (show some ("Endless" : Str) = some z from e)
    exact T.k_Closed_Endless
  | 12, e, _ =>
    cases (show some ("NotKind" : Str) = some z from e)
    exact T.k_Closed_NotKind
  | 13, e, _ =>
    cases (show some ("Nested" : Str) = some z from e)
    exact T.k_Closed_Nested
  | 14, e, _ =>
    cases (show some ("NoRow" : Str) = some z from e)
    exact T.k_Closed_NoRow
  | j + 15, _, hj => omega
theorem errK_Endless (T : Txt K mg base) : ErrK K 11 (He.ga K "Endless") := by
  refine ⟨T.e_Endless.c.ex, fun j z e hj => ?_, T.k_Endless_JetError, T.v_Endless, T.k_Endless_NoDivision⟩
  match j, e, hj with
  | 0, e, _ =>
    cases (show some ("NoText" : Str) = some z from e)
    exact T.k_Endless_NoText
  | 1, e, _ =>
    cases (show some ("NoBranch" : Str) = some z from e)
    exact T.k_Endless_NoBranch
  | 2, e, _ =>
    cases (show some ("NoPlace" : Str) = some z from e)
    exact T.k_Endless_NoPlace
  | 3, e, _ =>
    cases (show some ("TooLarge" : Str) = some z from e)
    exact T.k_Endless_TooLarge
  | 4, e, _ =>
    cases (show some ("TooDeep" : Str) = some z from e)
    exact T.k_Endless_TooDeep
  | 5, e, _ =>
    cases (show some ("TooMany" : Str) = some z from e)
    exact T.k_Endless_TooMany
  | 6, e, _ =>
    cases (show some ("Rejected" : Str) = some z from e)
    exact T.k_Endless_Rejected
  | 7, e, _ =>
    cases (show some ("NoDifference" : Str) = some z from e)
    exact T.k_Endless_NoDifference
  | 8, e, _ =>
    cases (show some ("NoQuotient" : Str) = some z from e)
    exact T.k_Endless_NoQuotient
  | 9, e, _ =>
    cases (show some ("NoBasin" : Str) = some z from e)
    exact T.k_Endless_NoBasin
  | 10, e, _ =>
    cases (show some ("Closed" : Str) = some z from e)
    exact T.k_Endless_Closed
  | 11, e, _ =>
    cases (show some ("Endless" : Str) = some z from e)
    exact T.k_Endless_Endless
  | 12, e, _ =>
    cases (show some ("NotKind" : Str) = some z from e)
    exact T.k_Endless_NotKind
  | 13, e, _ =>
    cases (show some ("Nested" : Str) = some z from e)
    exact T.k_Endless_Nested
  | 14, e, _ =>
    cases (show some ("NoRow" : Str) = some z from e)
    exact T.k_Endless_NoRow
  | j + 15, _, hj => omega
theorem errK_NotKind (T : Txt K mg base) : ErrK K 12 (He.ga K "NotKind") := by
  refine ⟨T.e_NotKind.c.ex, fun j z e hj => ?_, T.k_NotKind_JetError, T.v_NotKind, T.k_NotKind_NoDivision⟩
  match j, e, hj with
  | 0, e, _ =>
    cases (show some ("NoText" : Str) = some z from e)
    exact T.k_NotKind_NoText
  | 1, e, _ =>
    cases (show some ("NoBranch" : Str) = some z from e)
    exact T.k_NotKind_NoBranch
  | 2, e, _ =>
    cases (show some ("NoPlace" : Str) = some z from e)
    exact T.k_NotKind_NoPlace
  | 3, e, _ =>
    cases (show some ("TooLarge" : Str) = some z from e)
    exact T.k_NotKind_TooLarge
  | 4, e, _ =>
    cases (show some ("TooDeep" : Str) = some z from e)
    exact T.k_NotKind_TooDeep
  | 5, e, _ =>
    cases (show some ("TooMany" : Str) = some z from e)
    exact T.k_NotKind_TooMany
  | 6, e, _ =>
    cases (show some ("Rejected" : Str) = some z from e)
    exact T.k_NotKind_Rejected
  | 7, e, _ =>
    cases (show some ("NoDifference" : Str) = some z from e)
    exact T.k_NotKind_NoDifference
  | 8, e, _ =>
    cases (show some ("NoQuotient" : Str) = some z from e)
    exact T.k_NotKind_NoQuotient
  | 9, e, _ =>
    cases (show some ("NoBasin" : Str) = some z from e)
    exact T.k_NotKind_NoBasin
  | 10, e, _ =>
    cases (show some ("Closed" : Str) = some z from e)
    exact T.k_NotKind_Closed
  | 11, e, _ =>
    cases (show some ("Endless" : Str) = some z from e)
    exact T.k_NotKind_Endless
  | 12, e, _ =>
    cases (show some ("NotKind" : Str) = some z from e)
    exact T.k_NotKind_NotKind
  | 13, e, _ =>
    cases (show some ("Nested" : Str) = some z from e)
    exact T.k_NotKind_Nested
  | 14, e, _ =>
    cases (show some ("NoRow" : Str) = some z from e)
    exact T.k_NotKind_NoRow
  | j + 15, _, hj => omega
theorem errK_Nested (T : Txt K mg base) : ErrK K 13 (He.ga K "Nested") := by
  refine ⟨T.e_Nested.c.ex, fun j z e hj => ?_, T.k_Nested_JetError, T.v_Nested, T.k_Nested_NoDivision⟩
  match j, e, hj with
  | 0, e, _ =>
    cases (show some ("NoText" : Str) = some z from e)
    exact T.k_Nested_NoText
  | 1, e, _ =>
    cases (show some ("NoBranch" : Str) = some z from e)
    exact T.k_Nested_NoBranch
  | 2, e, _ =>
    cases (show some ("NoPlace" : Str) = some z from e)
    exact T.k_Nested_NoPlace
  | 3, e, _ =>
    cases (show some ("TooLarge" : Str) = some z from e)
    exact T.k_Nested_TooLarge
  | 4, e, _ =>
    cases (show some ("TooDeep" : Str) = some z from e)
    exact T.k_Nested_TooDeep
  | 5, e, _ =>
    cases (show some ("TooMany" : Str) = some z from e)
    exact T.k_Nested_TooMany
  | 6, e, _ =>
    cases (show some ("Rejected" : Str) = some z from e)
    exact T.k_Nested_Rejected
  | 7, e, _ =>
    cases (show some ("NoDifference" : Str) = some z from e)
    exact T.k_Nested_NoDifference
  | 8, e, _ =>
    cases (show some ("NoQuotient" : Str) = some z from e)
    exact T.k_Nested_NoQuotient
  | 9, e, _ =>
    cases (show some ("NoBasin" : Str) = some z from e)
    exact T.k_Nested_NoBasin
  | 10, e, _ =>
    cases (show some ("Closed" : Str) = some z from e)
    exact T.k_Nested_Closed
  | 11, e, _ =>
    cases (show some ("Endless" : Str) = some z from e)
    exact T.k_Nested_Endless
  | 12, e, _ =>
    cases (show some ("NotKind" : Str) = some z from e)
    exact T.k_Nested_NotKind
  | 13, e, _ =>
    cases (show some ("Nested" : Str) = some z from e)
    exact T.k_Nested_Nested
  | 14, e, _ =>
    cases (show some ("NoRow" : Str) = some z from e)
    exact T.k_Nested_NoRow
  | j + 15, _, hj => omega
theorem errK_NoRow (T : Txt K mg base) : ErrK K 14 (He.ga K "NoRow") := by
  refine ⟨T.e_NoRow.c.ex, fun j z e hj => ?_, T.k_NoRow_JetError, T.v_NoRow, T.k_NoRow_NoDivision⟩
  match j, e, hj with
  | 0, e, _ =>
    cases (show some ("NoText" : Str) = some z from e)
    exact T.k_NoRow_NoText
  | 1, e, _ =>
    cases (show some ("NoBranch" : Str) = some z from e)
    exact T.k_NoRow_NoBranch
  | 2, e, _ =>
    cases (show some ("NoPlace" : Str) = some z from e)
    exact T.k_NoRow_NoPlace
  | 3, e, _ =>
    cases (show some ("TooLarge" : Str) = some z from e)
    exact T.k_NoRow_TooLarge
  | 4, e, _ =>
    cases (show some ("TooDeep" : Str) = some z from e)
    exact T.k_NoRow_TooDeep
  | 5, e, _ =>
    cases (show some ("TooMany" : Str) = some z from e)
    exact T.k_NoRow_TooMany
  | 6, e, _ =>
    cases (show some ("Rejected" : Str) = some z from e)
    exact T.k_NoRow_Rejected
  | 7, e, _ =>
    cases (show some ("NoDifference" : Str) = some z from e)
    exact T.k_NoRow_NoDifference
  | 8, e, _ =>
    cases (show some ("NoQuotient" : Str) = some z from e)
    exact T.k_NoRow_NoQuotient
  | 9, e, _ =>
    cases (show some ("NoBasin" : Str) = some z from e)
    exact T.k_NoRow_NoBasin
  | 10, e, _ =>
    cases (show some ("Closed" : Str) = some z from e)
    exact T.k_NoRow_Closed
  | 11, e, _ =>
    cases (show some ("Endless" : Str) = some z from e)
    exact T.k_NoRow_Endless
  | 12, e, _ =>
    cases (show some ("NotKind" : Str) = some z from e)
    exact T.k_NoRow_NotKind
  | 13, e, _ =>
    cases (show some ("Nested" : Str) = some z from e)
    exact T.k_NoRow_Nested
  | 14, e, _ =>
    cases (show some ("NoRow" : Str) = some z from e)
    exact T.k_NoRow_NoRow
  | j + 15, _, hj => omega
theorem errK_NoDivision (T : Txt K mg base) : ErrK K 15 (He.ga K "NoDivision") := by
  refine ⟨excB_ok T.x_exc_NoDivision, fun j z e hj => ?_, T.k_NoDivision_JetError, T.v_NoDivision, T.k_NoDivision_NoDivision⟩
  match j, e, hj with
  | 0, e, _ =>
    cases (show some ("NoText" : Str) = some z from e)
    exact T.k_NoDivision_NoText
  | 1, e, _ =>
    cases (show some ("NoBranch" : Str) = some z from e)
    exact T.k_NoDivision_NoBranch
  | 2, e, _ =>
    cases (show some ("NoPlace" : Str) = some z from e)
    exact T.k_NoDivision_NoPlace
  | 3, e, _ =>
    cases (show some ("TooLarge" : Str) = some z from e)
    exact T.k_NoDivision_TooLarge
  | 4, e, _ =>
    cases (show some ("TooDeep" : Str) = some z from e)
    exact T.k_NoDivision_TooDeep
  | 5, e, _ =>
    cases (show some ("TooMany" : Str) = some z from e)
    exact T.k_NoDivision_TooMany
  | 6, e, _ =>
    cases (show some ("Rejected" : Str) = some z from e)
    exact T.k_NoDivision_Rejected
  | 7, e, _ =>
    cases (show some ("NoDifference" : Str) = some z from e)
    exact T.k_NoDivision_NoDifference
  | 8, e, _ =>
    cases (show some ("NoQuotient" : Str) = some z from e)
    exact T.k_NoDivision_NoQuotient
  | 9, e, _ =>
    cases (show some ("NoBasin" : Str) = some z from e)
    exact T.k_NoDivision_NoBasin
  | 10, e, _ =>
    cases (show some ("Closed" : Str) = some z from e)
    exact T.k_NoDivision_Closed
  | 11, e, _ =>
    cases (show some ("Endless" : Str) = some z from e)
    exact T.k_NoDivision_Endless
  | 12, e, _ =>
    cases (show some ("NotKind" : Str) = some z from e)
    exact T.k_NoDivision_NotKind
  | 13, e, _ =>
    cases (show some ("Nested" : Str) = some z from e)
    exact T.k_NoDivision_Nested
  | 14, e, _ =>
    cases (show some ("NoRow" : Str) = some z from e)
    exact T.k_NoDivision_NoRow
  | j + 15, _, hj => omega
theorem errK (T : Txt K mg base) {i : Nat} {y : Str} (e : errL[i]? = some y) : i < 16 ∧ ErrK K i (He.ga K y) := by
  match i, e with
  | 0, e =>
    cases (show some ("NoText" : Str) = some y from e)
    exact ⟨by decide, errK_NoText T⟩
  | 1, e =>
    cases (show some ("NoBranch" : Str) = some y from e)
    exact ⟨by decide, errK_NoBranch T⟩
  | 2, e =>
    cases (show some ("NoPlace" : Str) = some y from e)
    exact ⟨by decide, errK_NoPlace T⟩
  | 3, e =>
    cases (show some ("TooLarge" : Str) = some y from e)
    exact ⟨by decide, errK_TooLarge T⟩
  | 4, e =>
    cases (show some ("TooDeep" : Str) = some y from e)
    exact ⟨by decide, errK_TooDeep T⟩
  | 5, e =>
    cases (show some ("TooMany" : Str) = some y from e)
    exact ⟨by decide, errK_TooMany T⟩
  | 6, e =>
    cases (show some ("Rejected" : Str) = some y from e)
    exact ⟨by decide, errK_Rejected T⟩
  | 7, e =>
    cases (show some ("NoDifference" : Str) = some y from e)
    exact ⟨by decide, errK_NoDifference T⟩
  | 8, e =>
    cases (show some ("NoQuotient" : Str) = some y from e)
    exact ⟨by decide, errK_NoQuotient T⟩
  | 9, e =>
    cases (show some ("NoBasin" : Str) = some y from e)
    exact ⟨by decide, errK_NoBasin T⟩
  | 10, e =>
    cases (show some ("Closed" : Str) = some y from e)
    exact ⟨by decide, errK_Closed T⟩
  | 11, e =>
    cases (show some ("Endless" : Str) = some y from e)
    exact ⟨by decide, errK_Endless T⟩
  | 12, e =>
    cases (show some ("NotKind" : Str) = some y from e)
    exact ⟨by decide, errK_NotKind T⟩
  | 13, e =>
    cases (show some ("Nested" : Str) = some y from e)
    exact ⟨by decide, errK_Nested T⟩
  | 14, e =>
    cases (show some ("NoRow" : Str) = some y from e)
    exact ⟨by decide, errK_NoRow T⟩
  | 15, e =>
    cases (show some ("NoDivision" : Str) = some y from e)
    exact ⟨by decide, errK_NoDivision T⟩
  | i + 16, e => exact nomatch (show (none : Option Str) = some y from e)
theorem okA__law_sorts  (T : Txt K mg base) {scr : Option (Addr × List Int)} : CallD P w K mg base CX0 4 "_law_sorts" ["_law_thing"] [] (spA (cA K scr) ((asp__law_sorts K))) := by
  refine T.d__law_sorts.okA sc__law_sorts ?len (fun f cdv A outer s H E hr => (as_cons (as_set (i := 1) sc__law_sorts.nd rfl (by first | exact Or.inl rfl | exact Or.inr rfl) (ae_lst (aa_cons (ae_b (acb_isErr (K := K) rfl) (by rfl) T.n_isinstance (by decide +kernel) (aa_cons (av 0) (aa_cons (ae_c (d := .ref (He.ga K "NoText")) (pe_glob (v := .ref (He.ga K "NoText")) rfl T.e_NoText.g rfl) (fun _ => rep_ref.mpr rfl)) aa_nil))) (aa_cons (ae_b (acb_isErr (K := K) rfl) (by rfl) T.n_isinstance (by decide +kernel) (aa_cons (av 0) (aa_cons (ae_c (d := .ref (He.ga K "NoBranch")) (pe_glob (v := .ref (He.ga K "NoBranch")) rfl T.e_NoBranch.g rfl) (fun _ => rep_ref.mpr rfl)) aa_nil))) (aa_cons (ae_b (acb_isErr (K := K) rfl) (by rfl) T.n_isinstance (by decide +kernel) (aa_cons (av 0) (aa_cons (ae_c (d := .ref (He.ga K "NoPlace")) (pe_glob (v := .ref (He.ga K "NoPlace")) rfl T.e_NoPlace.g rfl) (fun _ => rep_ref.mpr rfl)) aa_nil))) aa_nil)))))
      (as_cons (as_set (i := 1) sc__law_sorts.nd rfl (by first | exact Or.inl rfl | exact Or.inr rfl) (ae_op aop_add (av 1) (ae_lst (aa_cons (ae_b (acb_isErr (K := K) rfl) (by rfl) T.n_isinstance (by decide +kernel) (aa_cons (av 0) (aa_cons (ae_c (d := .ref (He.ga K "TooLarge")) (pe_glob (v := .ref (He.ga K "TooLarge")) rfl T.e_TooLarge.g rfl) (fun _ => rep_ref.mpr rfl)) aa_nil))) (aa_cons (ae_b (acb_isErr (K := K) rfl) (by rfl) T.n_isinstance (by decide +kernel) (aa_cons (av 0) (aa_cons (ae_c (d := .ref (He.ga K "TooDeep")) (pe_glob (v := .ref (He.ga K "TooDeep")) rfl T.e_TooDeep.g rfl) (fun _ => rep_ref.mpr rfl)) aa_nil))) (aa_cons (ae_b (acb_isErr (K := K) rfl) (by rfl) T.n_isinstance (by decide +kernel) (aa_cons (av 0) (aa_cons (ae_c (d := .ref (He.ga K "TooMany")) (pe_glob (v := .ref (He.ga K "TooMany")) rfl T.e_TooMany.g rfl) (fun _ => rep_ref.mpr rfl)) aa_nil))) aa_nil))))))
      (as_cons (as_set (i := 1) sc__law_sorts.nd rfl (by first | exact Or.inl rfl | exact Or.inr rfl) (ae_op aop_add (av 1) (ae_lst (aa_cons (ae_b (acb_isErr (K := K) rfl) (by rfl) T.n_isinstance (by decide +kernel) (aa_cons (av 0) (aa_cons (ae_c (d := .ref (He.ga K "Rejected")) (pe_glob (v := .ref (He.ga K "Rejected")) rfl T.e_Rejected.g rfl) (fun _ => rep_ref.mpr rfl)) aa_nil))) (aa_cons (ae_b (acb_isErr (K := K) rfl) (by rfl) T.n_isinstance (by decide +kernel) (aa_cons (av 0) (aa_cons (ae_c (d := .ref (He.ga K "NoDifference")) (pe_glob (v := .ref (He.ga K "NoDifference")) rfl T.e_NoDifference.g rfl) (fun _ => rep_ref.mpr rfl)) aa_nil))) (aa_cons (ae_b (acb_isErr (K := K) rfl) (by rfl) T.n_isinstance (by decide +kernel) (aa_cons (av 0) (aa_cons (ae_c (d := .ref (He.ga K "NoQuotient")) (pe_glob (v := .ref (He.ga K "NoQuotient")) rfl T.e_NoQuotient.g rfl) (fun _ => rep_ref.mpr rfl)) aa_nil))) aa_nil))))))
      (as_cons (as_set (i := 1) sc__law_sorts.nd rfl (by first | exact Or.inl rfl | exact Or.inr rfl) (ae_op aop_add (av 1) (ae_lst (aa_cons (ae_b (acb_isErr (K := K) rfl) (by rfl) T.n_isinstance (by decide +kernel) (aa_cons (av 0) (aa_cons (ae_c (d := .ref (He.ga K "NoBasin")) (pe_glob (v := .ref (He.ga K "NoBasin")) rfl T.e_NoBasin.g rfl) (fun _ => rep_ref.mpr rfl)) aa_nil))) (aa_cons (ae_b (acb_isErr (K := K) rfl) (by rfl) T.n_isinstance (by decide +kernel) (aa_cons (av 0) (aa_cons (ae_c (d := .ref (He.ga K "Closed")) (pe_glob (v := .ref (He.ga K "Closed")) rfl T.e_Closed.g rfl) (fun _ => rep_ref.mpr rfl)) aa_nil))) (aa_cons (ae_b (acb_isErr (K := K) rfl) (by rfl) T.n_isinstance (by decide +kernel) (aa_cons (av 0) (aa_cons (ae_c (d := .ref (He.ga K "Endless")) (pe_glob (v := .ref (He.ga K "Endless")) rfl T.e_Endless.g rfl) (fun _ => rep_ref.mpr rfl)) aa_nil))) aa_nil))))))
      (as_one (as_ret (ae_op aop_add (av 1) (ae_lst (aa_cons (ae_b (acb_isErr (K := K) rfl) (by rfl) T.n_isinstance (by decide +kernel) (aa_cons (av 0) (aa_cons (ae_c (d := .ref (He.ga K "NotKind")) (pe_glob (v := .ref (He.ga K "NotKind")) rfl T.e_NotKind.g rfl) (fun _ => rep_ref.mpr rfl)) aa_nil))) (aa_cons (ae_b (acb_isErr (K := K) rfl) (by rfl) T.n_isinstance (by decide +kernel) (aa_cons (av 0) (aa_cons (ae_c (d := .ref (He.ga K "Nested")) (pe_glob (v := .ref (He.ga K "Nested")) rfl T.e_Nested.g rfl) (fun _ => rep_ref.mpr rfl)) aa_nil))) (aa_cons (ae_b (acb_isErr (K := K) rfl) (by rfl) T.n_isinstance (by decide +kernel) (aa_cons (av 0) (aa_cons (ae_c (d := .ref (He.ga K "NoRow")) (pe_glob (v := .ref (He.ga K "NoRow")) rfl T.e_NoRow.g rfl) (fun _ => rep_ref.mpr rfl)) aa_nil))) aa_nil)))))))))))) ?vc
  case len =>
    intro ds L R RX h
    unfold asp__law_sorts at h
    split at h <;> first | rfl | exact h.elim
  case vc =>
    intro ds L R RX h
    unfold asp__law_sorts at h
    split at h
    · rename_i C ks ds
      obtain ⟨i, y, ei, rfl, h⟩ := h
      obtain ⟨hi, k1, k2, _, _, _⟩ := errK T ei
      have hsl := sizeLine_eq
      refine ⟨_, _, _, _, _, rfl, rfl, k1, k2 0 _ rfl (by decide), _, _, _, _, _, rfl, rfl, k1, k2 1 _ rfl (by decide), _, _, _, _, _, rfl, rfl, k1, k2 2 _ rfl (by decide), by show (3 : Nat) ≤ sizeLine; omega, fun F hF => ?_⟩
      refine ⟨_, _, _, _, _, rfl, rfl, k1, k2 3 _ rfl (by decide), _, _, _, _, _, rfl, rfl, k1, k2 4 _ rfl (by decide), _, _, _, _, _, rfl, rfl, k1, k2 5 _ rfl (by decide), by show (3 : Nat) ≤ sizeLine; omega, fun G hG => ?_⟩
      refine ⟨_, _, sput_old sput_same hG, sput_same, by show (6 : Nat) ≤ sizeLine; omega, fun M hM => ?_⟩
      refine ⟨_, _, _, _, _, rfl, rfl, k1, k2 6 _ rfl (by decide), _, _, _, _, _, rfl, rfl, k1, k2 7 _ rfl (by decide), _, _, _, _, _, rfl, rfl, k1, k2 8 _ rfl (by decide), by show (3 : Nat) ≤ sizeLine; omega, fun G2 hG2 => ?_⟩
      refine ⟨_, _, sput_old sput_same hG2, sput_same, by show (9 : Nat) ≤ sizeLine; omega, fun M2 hM2 => ?_⟩
      refine ⟨_, _, _, _, _, rfl, rfl, k1, k2 9 _ rfl (by decide), _, _, _, _, _, rfl, rfl, k1, k2 10 _ rfl (by decide), _, _, _, _, _, rfl, rfl, k1, k2 11 _ rfl (by decide), by show (3 : Nat) ≤ sizeLine; omega, fun G3 hG3 => ?_⟩
      refine ⟨_, _, sput_old sput_same hG3, sput_same, by show (12 : Nat) ≤ sizeLine; omega, fun M3 hM3 => ?_⟩
      refine ⟨_, _, _, _, _, rfl, rfl, k1, k2 12 _ rfl (by decide), _, _, _, _, _, rfl, rfl, k1, k2 13 _ rfl (by decide), _, _, _, _, _, rfl, rfl, k1, k2 14 _ rfl (by decide), by show (3 : Nat) ≤ sizeLine; omega, fun G4 hG4 => ?_⟩
      refine ⟨_, _, sput_old sput_same hG4, sput_same, by show (15 : Nat) ≤ sizeLine; omega, fun r hr => ?_⟩
      exact ret_sub (h r ((((((((((SubS.refl L).new hF).new hG).new hM).new hG2).new hM2).new hG3).new hM3).new hG4).none hr)) (((((((((((SubS.refl L).new hF).new hG).new hM).new hG2).new hM2).new hG3).new hM3).new hG4).new hr).mine sput_same)
    · exact h.elim
def sp_check_numbers (K : PySem.W.Frag) : Sp := fun vs H Q _ => ∃ n t, vs = [.ref n] ∧ H n = some (.tup (nums t)) ∧ t.size ≤ 5000 ∧ t.dep ≤ 120 ∧ Q .non H
theorem ok_check_numbers  (T : Txt K mg base) : CallD P w K mg base CX0 1 "check_numbers" ["numbers"] [] (sp_check_numbers K) := by
  refine T.d_check_numbers.ok sc_check_numbers (fun vs H Q E h => ?_) (fun f cdv A outer s H vs Q E hr h => ?_)
  · obtain ⟨n, t, rfl, _⟩ := h
    rfl
  · obtain ⟨n, t, rfl, hn, h1, h2, k⟩ := h
    refine ⟨_, (pss_cons (ps_if (pt_cmpR op_gt (pe_ix ix_tup (pv 0) pe_int (fun _ _ => rfl)) (pe_gint rfl T.gMOST) (nomark _))
        pss_never
        pss_nil)
      (pss_one (ps_if (pt_cmpR op_gt (pe_ix ix_tup (pv 0) pe_int (fun _ _ => rfl)) (pe_gint rfl T.gDEEPEST) (nomark _))
        pss_never
        pss_nil))), ?_⟩
    exact ⟨.ref n, rfl, n, _, _, _, rfl, rfl, SqT.of hn, rfl, _, _, rfl, rfl, _, rfl, ite_f (decide_eq_false (by omega)) ⟨.ref n, rfl, n, _, _, _, rfl, rfl, SqT.of hn, rfl, _, _, rfl, rfl, _, rfl, ite_f (decide_eq_false (by omega)) k⟩⟩
theorem ok_Fountain_size  (T : Txt K mg base) : PropD P w K mg base CX0 1 (cF K) "size" (spV K fun t => .int (t.size : Nat)) := by
  refine T.p_size.ok sc_Fountain_size (fun vs H Q E h => ?_) (fun f cdv A outer s H vs Q E hr h => ?_)
  · obtain ⟨v, t, rfl, _⟩ := h
    rfl
  · obtain ⟨v, t, rfl, hf, k⟩ := h
    obtain ⟨a, dx, b, n, vs, rfl, ha, hb, hn, hk⟩ := ftn_iff.mp hf
    refine ⟨_, (pss_one (ps_ret (pe_ix ix_tup (pe_fld (pv 0) rfl) pe_int (fun _ _ => rfl)))), ?_⟩
    exact ⟨.ref a, rfl, a, _, dx, _, _, rfl, ha, T.cls.c, T.cls.nn, fl_n, n, _, _, _, rfl, rfl, SqT.of hn, rfl, k⟩
theorem ok_Fountain_jets  (T : Txt K mg base) : PropD P w K mg base CX0 1 (cF K) "jets" (spV K fun t => .int (t.jts : Nat)) := by
  refine T.p_jets.ok sc_Fountain_jets (fun vs H Q E h => ?_) (fun f cdv A outer s H vs Q E hr h => ?_)
  · obtain ⟨v, t, rfl, _⟩ := h
    rfl
  · obtain ⟨v, t, rfl, hf, k⟩ := h
    obtain ⟨a, dx, b, n, vs, rfl, ha, hb, hn, hk⟩ := ftn_iff.mp hf
    refine ⟨_, (pss_one (ps_ret (pe_ix ix_tup (pe_fld (pv 0) rfl) pe_int (fun _ _ => rfl)))), ?_⟩
    exact ⟨.ref a, rfl, a, _, dx, _, _, rfl, ha, T.cls.c, T.cls.nn, fl_n, n, _, _, _, rfl, rfl, SqT.of hn, rfl, k⟩
theorem ok_Fountain_depth  (T : Txt K mg base) : PropD P w K mg base CX0 1 (cF K) "depth" (spV K fun t => .int (t.dep : Nat)) := by
  refine T.p_depth.ok sc_Fountain_depth (fun vs H Q E h => ?_) (fun f cdv A outer s H vs Q E hr h => ?_)
  · obtain ⟨v, t, rfl, _⟩ := h
    rfl
  · obtain ⟨v, t, rfl, hf, k⟩ := h
    obtain ⟨a, dx, b, n, vs, rfl, ha, hb, hn, hk⟩ := ftn_iff.mp hf
    refine ⟨_, (pss_one (ps_ret (pe_ix ix_tup (pe_fld (pv 0) rfl) pe_int (fun _ _ => rfl)))), ?_⟩
    exact ⟨.ref a, rfl, a, _, dx, _, _, rfl, ha, T.cls.c, T.cls.nn, fl_n, n, _, _, _, rfl, rfl, SqT.of hn, rfl, k⟩
theorem ok_Fountain_longest  (T : Txt K mg base) : PropD P w K mg base CX0 1 (cF K) "longest" (spV K fun t => if t.jts = 0 then .non else .int (t.lng : Nat)) := by
  refine T.p_longest.ok sc_Fountain_longest (fun vs H Q E h => ?_) (fun f cdv A outer s H vs Q E hr h => ?_)
  · obtain ⟨v, t, rfl, _⟩ := h
    rfl
  · obtain ⟨v, t, rfl, hf, k⟩ := h
    obtain ⟨a, dx, b, n, vs, rfl, ha, hb, hn, hk⟩ := ftn_iff.mp hf
    refine ⟨_, (pss_one (ps_ret (pe_ix ix_tup (pe_fld (pv 0) rfl) pe_int (fun _ _ => rfl)))), ?_⟩
    exact ⟨.ref a, rfl, a, _, dx, _, _, rfl, ha, T.cls.c, T.cls.nn, fl_n, n, _, _, _, rfl, rfl, SqT.of hn, rfl, k⟩
theorem ok_Fountain_shortest  (T : Txt K mg base) : PropD P w K mg base CX0 1 (cF K) "shortest" (spV K fun t => if t.jts = 0 then .non else .int (t.sht : Nat)) := by
  refine T.p_shortest.ok sc_Fountain_shortest (fun vs H Q E h => ?_) (fun f cdv A outer s H vs Q E hr h => ?_)
  · obtain ⟨v, t, rfl, _⟩ := h
    rfl
  · obtain ⟨v, t, rfl, hf, k⟩ := h
    obtain ⟨a, dx, b, n, vs, rfl, ha, hb, hn, hk⟩ := ftn_iff.mp hf
    refine ⟨_, (pss_one (ps_ret (pe_ix ix_tup (pe_fld (pv 0) rfl) pe_int (fun _ _ => rfl)))), ?_⟩
    exact ⟨.ref a, rfl, a, _, dx, _, _, rfl, ha, T.cls.c, T.cls.nn, fl_n, n, _, _, _, rfl, rfl, SqT.of hn, rfl, k⟩
theorem ok_Fountain_is_open  (T : Txt K mg base) : PropD P w K mg base CX0 1 (cF K) "is_open" (spV K fun t => .bl (decide (0 < t.jts))) := by
  refine T.p_is_open.ok sc_Fountain_is_open (fun vs H Q E h => ?_) (fun f cdv A outer s H vs Q E hr h => ?_)
  · obtain ⟨v, t, rfl, _⟩ := h
    rfl
  · obtain ⟨v, t, rfl, hf, k⟩ := h
    obtain ⟨a, dx, b, n, vs, rfl, ha, hb, hn, hk⟩ := ftn_iff.mp hf
    refine ⟨_, (pss_one (ps_ret (pe_cmpR op_gt (pe_ix ix_tup (pe_fld (pv 0) rfl) pe_int (fun _ _ => rfl)) pe_int (nomark _)))), ?_⟩
    refine ⟨.ref a, rfl, a, _, dx, _, _, rfl, ha, T.cls.c, T.cls.nn, fl_n, n, _, _, _, rfl, rfl, SqT.of hn, rfl, _, _, rfl, rfl, ?_⟩
    show Q (V.bl (decide ((0 : Int) < (t.jts : Nat)))) H
    rw [show decide ((0 : Int) < (t.jts : Nat)) = decide (0 < t.jts) from decide_eq_decide.mpr (by omega)]
    exact k
def sp_basin_numbers (K : PySem.W.Frag) : Sp := fun vs H Q _ => ∃ b xs l, vs = [.ref b] ∧ H b = some (.tup xs) ∧ FtnL (cF K) H l xs ∧ xs.length < sizeLine ∧ ∀ H' p, Same H H' → H' p = some (.tup (nums (.bas l))) → Q (.ref p) H'
theorem ok_basin_numbers  (T : Txt K mg base) : CallD P w K mg base CX0 3 "basin_numbers" ["branches"] [] (sp_basin_numbers K) := by
  refine T.d_basin_numbers.ok sc_basin_numbers (fun vs H Q E h => ?_) (fun f cdv A outer s H vs Q E hr h => ?_)
  · obtain ⟨b, xs, l, rfl, _⟩ := h
    rfl
  · obtain ⟨b, xs, l, rfl, hb, hl, hz, k⟩ := h
    refine ⟨_, (pss_cons (ps_set (i := 1) sc_basin_numbers.nd rfl (by first | exact Or.inl rfl | exact Or.inr rfl) (pe_op op_add pe_int (pe_callB (cr_sum rfl) (by rfl) T.n_sum (by decide +kernel) (pa_cons (pe_lc (own := [("branch", 6)]) (g := gName 6) (tt := tYes) (by rfl) sc_basin_numbers.nd (pi_tup (pv 0)) (blkOk_by (by kernel_rfl)) (fun _ _ _ _ _ => pg_name (i := 6) sc_basin_numbers.nd rfl (by first | exact Or.inl rfl | exact Or.inr rfl)) (fun _ _ _ _ _ => pts_nil) (fun _ _ _ _ _ => (pe_propD T.cls.c (ok_Fountain_size T) (hr.mono (by decide)) pass0 (pv 6) rfl))) pa_nil))))
      (pss_cons (ps_set (i := 2) sc_basin_numbers.nd rfl (by first | exact Or.inl rfl | exact Or.inr rfl) (pe_callB (cr_sum rfl) (by rfl) T.n_sum (by decide +kernel) (pa_cons (pe_lc (own := [("branch", 6)]) (g := gName 6) (tt := tYes) (by rfl) sc_basin_numbers.nd (pi_tup (pv 0)) (blkOk_by (by kernel_rfl)) (fun _ _ _ _ _ => pg_name (i := 6) sc_basin_numbers.nd rfl (by first | exact Or.inl rfl | exact Or.inr rfl)) (fun _ _ _ _ _ => pts_nil) (fun _ _ _ _ _ => (pe_propD T.cls.c (ok_Fountain_jets T) (hr.mono (by decide)) pass0 (pv 6) rfl))) pa_nil)))
      (pss_cons (ps_set (i := 3) sc_basin_numbers.nd rfl (by first | exact Or.inl rfl | exact Or.inr rfl) (pe_op op_add pe_int (pe_callBK (cr_maxDf rfl (hu_of hr)) (by rfl) T.n_max (by decide +kernel) (pa_cons (pe_lc (own := [("branch", 6)]) (g := gName 6) (tt := tYes) (by rfl) sc_basin_numbers.nd (pi_tup (pv 0)) (blkOk_by (by kernel_rfl)) (fun _ _ _ _ _ => pg_name (i := 6) sc_basin_numbers.nd rfl (by first | exact Or.inl rfl | exact Or.inr rfl)) (fun _ _ _ _ _ => pts_nil) (fun _ _ _ _ _ => (pe_propD T.cls.c (ok_Fountain_depth T) (hr.mono (by decide)) pass0 (pv 6) rfl))) pa_nil) (pk_cons pe_int pk_nil))))
      (pss_cons (ps_setLc (i := 4) (own := [("branch", 6)]) (g := gName 6) (by rfl) sc_basin_numbers.nd rfl rfl (sw_true rfl rfl rfl (by decide +kernel)) (pi_tup (pv 0)) (blkOk_by (by kernel_rfl)) (fun _ _ _ _ _ => pg_name (i := 6) sc_basin_numbers.nd rfl (by first | exact Or.inl rfl | exact Or.inr rfl)) (fun _ _ _ _ _ => pts_one (pt_val (pe_propD T.cls.c (ok_Fountain_is_open T) (hr.mono (by decide)) pass0 (pv 6) rfl))) (fun _ _ _ _ _ => (pv 6)))
      (pss_cons (ps_if (pt_cmpR op_eq (pe_callB call_len (by rfl) T.n_len (by decide +kernel) (pa_cons (pv 4) pa_nil)) pe_int (nomark _))
        (pss_one (ps_ret (pe_tup (pa_cons (pv 1) (pa_cons (pv 2) (pa_cons (pv 3) (pa_cons pe_non (pa_cons pe_non pa_nil))))))))
        pss_nil)
      (pss_cons (ps_set (i := 5) sc_basin_numbers.nd rfl (by first | exact Or.inl rfl | exact Or.inr rfl) (pe_op op_add pe_int (pe_callB (cr_max rfl) (by rfl) T.n_max (by decide +kernel) (pa_cons (pe_lc (own := [("branch", 6)]) (g := gName 6) (tt := tYes) (by rfl) sc_basin_numbers.nd (pi_list (pv 4)) (blkOk_by (by kernel_rfl)) (fun _ _ _ _ _ => pg_name (i := 6) sc_basin_numbers.nd rfl (by first | exact Or.inl rfl | exact Or.inr rfl)) (fun _ _ _ _ _ => pts_nil) (fun _ _ _ _ _ => (pe_propD T.cls.c (ok_Fountain_longest T) (hr.mono (by decide)) pass0 (pv 6) rfl))) pa_nil))))
      (pss_one (ps_ret (pe_tup (pa_cons (pv 1) (pa_cons (pv 2) (pa_cons (pv 3) (pa_cons (pv 5) (pa_cons (pe_op op_add pe_int (pe_callB (cr_min rfl) (by rfl) T.n_min (by decide +kernel) (pa_cons (pe_lc (own := [("branch", 6)]) (g := gName 6) (tt := tYes) (by rfl) sc_basin_numbers.nd (pi_list (pv 4)) (blkOk_by (by kernel_rfl)) (fun _ _ _ _ _ => pg_name (i := 6) sc_basin_numbers.nd rfl (by first | exact Or.inl rfl | exact Or.inr rfl)) (fun _ _ _ _ _ => pts_nil) (fun _ _ _ _ _ => (pe_propD T.cls.c (ok_Fountain_shortest T) (hr.mono (by decide)) pass0 (pv 6) rfl))) pa_nil))) pa_nil)))))))))))))), ?_⟩
    refine ⟨.ref b, rfl, b, rfl, ⟨xs, SqT.of hb⟩, fun D1 hD1 => lc_propT hD1 (SqT.of hb) hl hz (fun _ => rfl) (fun _ => rfl) fun H1 s1 e1 => ?_⟩
    refine ⟨D1, l.map fun t => (t.size : Int), rfl, SqL.of (by rw [e1, List.map_map]; rfl), _, _, rfl, rfl, ?_⟩
    have hb1 := s1 _ _ hb
    have hl1 := hl.same s1
    refine ⟨.ref b, rfl, b, rfl, ⟨xs, SqT.of hb1⟩, fun D2 hD2 => lc_propT hD2 (SqT.of hb1) hl1 hz (fun _ => rfl) (fun _ => rfl) fun H2 s2 e2 => ?_⟩
    refine ⟨D2, l.map fun t => (t.jts : Int), rfl, SqL.of (by rw [e2, List.map_map]; rfl), ?_⟩
    have hb2 := s2 _ _ hb1
    have hl2 := hl1.same s2
    refine ⟨.ref b, rfl, b, rfl, ⟨xs, SqT.of hb2⟩, fun D3 hD3 => lc_propT hD3 (SqT.of hb2) hl2 hz (fun _ => rfl) (fun _ => rfl) fun H3 s3 e3 => ?_⟩
    have hb3 := s3 _ _ hb2
    have hl3 := hl2.same s3
    refine ⟨D3, l.map fun t => (t.dep : Int), _, rfl, rfl, SqL.of (by rw [e3, List.map_map]; rfl), fun m hm => ?_⟩
    have em : m = (depL l : Nat) := by
      rcases hm with ⟨hn, e⟩ | ⟨n, r, hn, e⟩
      · rw [e]
        cases l with
        | nil => rfl
        | cons t q => cases hn
      · rw [e]
        exact dep_fold hn
    subst em
    refine ⟨_, _, rfl, rfl, ?_⟩
    refine ⟨.ref b, rfl, b, rfl, ⟨xs, SqT.of hb3⟩, fun D4 hD4 => lc_someT (bs := l.map opn) hD4 (SqT.of hb3) hz (by rw [List.length_map, hl.len]) (fun _ => rfl) (fun i x b H Q hx hb s q => ?_) (fun i x H Q hx s q => ⟨x, rfl, q H (Same.refl H)⟩) fun H4 s4 e4 => ?_⟩
    · obtain ⟨t, e1, e2⟩ := hl3.get hx
      rw [map_get e1 hb] at q
      exact ⟨x, rfl, ev_prop (e2.same s) ⟨_, rfl, q H (Same.refl H)⟩⟩
    have hl4 : FtnL (cF K) H4 (l.filter opn) _ := FtnL.filter (p := opn) (hl3.same s4)
    have hlen := hl4.len
    have hle : (l.filter opn).length ≤ l.length := List.length_filter_le _ _
    have hxl := hl.len
    have eS : (l.map fun t => (t.size : Int)).sum = (sizeL l : Nat) := by
      rw [sizeL_sum, ← nI_sum, List.map_map]
      rfl
    have eJ : (l.map fun t => (t.jts : Int)).sum = (jtsL l : Nat) := by
      rw [jtsL_sum, ← nI_sum, List.map_map]
      rfl
    have sAll : Same H H4 := (s1.trans s2).trans (s3.trans s4)
    refine ⟨.ref D4, rfl, .ref D4, _, rfl, .inl ⟨_, SqL.of e4, rfl⟩, rfl, _, rfl, ite2 (fun e => ?_) fun e => ?_⟩
    · have e0 : jtsL l = 0 := by
        refine jtsL_zero.mpr (List.eq_nil_of_length_eq_zero ?_)
        have := of_decide_eq_true e
        injection this with this
        omega
      refine ⟨_, rfl, _, rfl, _, rfl, sz5, fun p hp => ?_⟩
      refine k _ p (Same.new sAll hp) ?_
      rw [upd_same, eS, eJ, e0]
      show some (HO.tup [V.int (1 + (sizeL l : Nat)), V.int ((0 : Nat) : Int), V.int (1 + (depL l : Nat)), V.non, V.non]) = some (HO.tup [V.int ((1 + sizeL l : Nat) : Int), V.int (jtsL l : Nat), V.int ((1 + depL l : Nat) : Int), if jtsL l = 0 then V.non else V.int ((1 + lngL l : Nat) : Int), if jtsL l = 0 then V.non else V.int ((1 + shtL l : Nat) : Int)])
      rw [if_pos e0, if_pos e0, e0, Int.natCast_add, Int.natCast_add]
      rfl
    · have e0 : jtsL l ≠ 0 := fun z => by
        refine e (decide_eq_true ?_)
        rw [hlen, jtsL_zero.mp z]
        rfl
      have hne : (l.filter opn).length ≠ 0 := fun z => e0 (jtsL_zero.mpr (List.eq_nil_of_length_eq_zero z))
      have hz4 : (((xs.zip (l.map opn)).filter (·.2)).map (·.1)).length < sizeLine := by omega
      have hD4' : H4 D4 = some (HO.lst (((xs.zip (l.map opn)).filter (·.2)).map (·.1))) := e4
      refine ⟨.ref D4, rfl, D4, rfl, ⟨_, SqL.of hD4'⟩, fun D5 hD5 => lc_propL hD5 (SqL.of hD4') hl4 hz4 (fun _ => rfl) (fun _ => rfl) fun H5 s5 e5 => ?_⟩
      have eL : ∀ t ∈ l.filter opn, (if t.jts = 0 then V.non else V.int (t.lng : Nat)) = V.int (t.lng : Nat) ∧ (if t.jts = 0 then V.non else V.int (t.sht : Nat)) = V.int (t.sht : Nat) := fun t ht => by
        have h1 := (List.mem_filter.mp ht).2
        unfold opn at h1
        have h2 := of_decide_eq_true h1
        exact ⟨if_neg (by omega), if_neg (by omega)⟩
      refine ⟨D5, (l.filter opn).map fun t => (t.lng : Int), rfl, SqL.of (by rw [e5, List.map_map, List.map_congr_left fun t ht => (eL t ht).1]; rfl), by rw [List.length_map]; omega, fun m h1 h2 => ⟨_, _, rfl, rfl, ?_⟩⟩
      rw [lng_max e0 h1 h2]
      have hD5' := s5 _ _ hD4'
      refine ⟨_, rfl, _, rfl, _, rfl, _, rfl, .ref D4, rfl, D4, rfl, ⟨_, SqL.of hD5'⟩, fun D6 hD6 => lc_propL hD6 (SqL.of hD5') (hl4.same s5) hz4 (fun _ => rfl) (fun _ => rfl) fun H6 s6 e6 => ?_⟩
      refine ⟨D6, (l.filter opn).map fun t => (t.sht : Int), rfl, SqL.of (by rw [e6, List.map_map, List.map_congr_left fun t ht => (eL t ht).2]; rfl), by rw [List.length_map]; omega, fun m h1 h2 => ⟨_, _, rfl, rfl, ?_⟩⟩
      rw [sht_min e0 h1 h2]
      refine ⟨sz5, fun p hp => ?_⟩
      refine k _ p (Same.new (sAll.trans (s5.trans s6)) hp) ?_
      rw [upd_same, eS, eJ]
      show some (HO.tup [V.int (1 + (sizeL l : Nat)), V.int (jtsL l : Nat), V.int (1 + (depL l : Nat)), V.int (1 + (lngL l : Nat)), V.int (1 + (shtL l : Nat))]) = some (HO.tup [V.int ((1 + sizeL l : Nat) : Int), V.int (jtsL l : Nat), V.int ((1 + depL l : Nat) : Int), if jtsL l = 0 then V.non else V.int ((1 + lngL l : Nat) : Int), if jtsL l = 0 then V.non else V.int ((1 + shtL l : Nat) : Int)])
      rw [if_neg e0, if_neg e0, Int.natCast_add, Int.natCast_add, Int.natCast_add, Int.natCast_add]
      rfl
theorem ok_Fountain_text  (T : Txt K mg base) : PropD P w K mg base CX0 1 (cF K) "text" (spV K fun t => .str (tx t)) := by
  refine T.p_text.ok sc_Fountain_text (fun vs H Q E h => ?_) (fun f cdv A outer s H vs Q E hr h => ?_)
  · obtain ⟨v, t, rfl, _⟩ := h
    rfl
  · obtain ⟨v, t, rfl, hf, k⟩ := h
    obtain ⟨a, dx, b, n, vs, rfl, ha, hb, hn, hk⟩ := ftn_iff.mp hf
    refine ⟨_, (pss_one (ps_ret (pe_fld (pv 0) rfl))), ?_⟩
    exact ⟨.ref a, rfl, a, _, dx, _, _, rfl, ha, T.cls.c, T.cls.nw, fl_w, k⟩
def sp_init (K : PySem.W.Frag) : Sp := fun vs H Q _ => ∃ x dx t b xs H0, vs = [.ref x, .str (tx t), .ref b] ∧ H0 x = none ∧ Same H0 H ∧ H x = some (.ins (cF K) dx []) ∧ H0 b = some (.tup xs) ∧ FtnL (cF K) H0 t.kids xs ∧ xs.length < sizeLine ∧
  ∀ H', Same H0 H' → Ftn (cF K) H' t (.ref x) → Q .non H'
theorem ok_Fountain___init__  (T : Txt K mg base) : MakeD P w K mg base CX0 4 "Fountain" (cF K) ["self", "text", "branches"] [] (sp_init K) := by
  refine T.init.ok 1 (by decide) sc_Fountain___init__ (fun vs H Q E h => ?_) (fun f cdv A outer s H vs Q E hr h => ?_)
  · obtain ⟨x, dx, t, b, xs, H0, rfl, _⟩ := h
    rfl
  · obtain ⟨x, dx, t, b, xs, H0, rfl, hx0, s0, hx, hb, hk, hz, k⟩ := h
    refine ⟨_, (pss_cons (ps_set (i := 3) sc_Fountain___init__.nd rfl (by first | exact Or.inl rfl | exact Or.inr rfl) (pe_cmpR op_isN (pv 2) pe_non (nomark _)))
      (pss_cons (ps_if (pt_val (pv 3))
        pss_never
        pss_nil)
      (pss_cons (ps_fld (pv 0) (pv 1) (by rfl))
      (pss_cons (ps_fld (pv 0) (pv 2) (by rfl))
      (pss_cons (ps_fld (pv 0) (pe_via (pe_ifExp (pt_cmpR op_eq (pv 1) (pe_gstr rfl T.gJET_TEXT) (nomark _)) (pe_tup (pa_cons pe_int (pa_cons pe_int (pa_cons pe_int (pa_cons pe_int (pa_cons pe_int pa_nil)))))) (pe_callD (ok_basin_numbers T) (hr.mono (by decide)) (by rfl) pass0 (pa_cons (pv 2) pa_nil)))) (by rfl))
      (pss_one (ps_if (pt_val (pv 3))
        pss_never
        pss_nil))))))), ?_⟩
    have nx : ∀ {a : Addr} {o : HO}, H0 a = some o → a ≠ x := fun e => ne_of_none e hx0
    refine ⟨.ref b, rfl, rfl, _, rfl, _, rfl, ite_f (decide_eq_false (fun z => by cases z)) ⟨.str (tx t), rfl, .ref x, rfl, x, _, dx, _, rfl, hx, T.cls.c, T.cls.nw, by decide, .ref b, rfl, .ref x, rfl, x, _, dx, _, rfl, upd_same, T.cls.c, T.cls.nb, fl_l1,
      fun v H' => ∃ n, v = .ref n ∧ Same H0 H' ∧ H' x = some (.ins (cF K) dx (putF "branches" (.ref b) (putF "written" (.str (tx t)) []))) ∧ H' n = some (.tup (nums t)), ⟨_, rfl, rfl, _, rfl, ite2 (fun e => ?_) fun e => ?_⟩, fun v H' hv => ?_⟩⟩
    · have et : t = .jet := tx_inj ((V.str.inj (of_decide_eq_true e)).trans tx_jet.symm)
      subst et
      refine ⟨sz5, fun p hp => ⟨p, rfl, Same.new ?_ hp, ?_, ?_⟩⟩
      · exact fun a o e => by rw [upd_ne (nx e), upd_ne (nx e)]; exact s0 a o e
      · exact upd_old upd_same hp
      · rw [upd_same]
        rfl
    · cases t with
      | jet => exact absurd (decide_eq_true (by rw [tx_jet])) e
      | bas l =>
        have sH : ∀ o1 o2 : HO, Same H0 (upd (upd H x o1) x o2) := fun o1 o2 a o e => by rw [upd_ne (nx e), upd_ne (nx e)]; exact s0 a o e
        exact ⟨.ref b, rfl, b, xs, l, rfl, sH _ _ _ _ hb, FtnL.same hk (sH _ _), hz, fun H' p s e => ⟨p, rfl, (sH _ _).trans s, s _ _ upd_same, e⟩⟩
    · obtain ⟨n, rfl, s1, e1, e2⟩ := hv
      refine ⟨.ref x, rfl, x, _, dx, _, rfl, e1, T.cls.c, T.cls.nn, fl_l2, _, rfl, _, rfl, ite_f (decide_eq_false (fun z => by cases z)) (k _ ?_ ?_)⟩
      · exact fun a o e => by rw [upd_ne (nx e)]; exact s1 a o e
      · have sF : Same H0 (upd H' x (.ins (cF K) dx (putF "numbers" (.ref n) (putF "branches" (.ref b) (putF "written" (.str (tx t)) []))))) := fun a o e => by rw [upd_ne (nx e)]; exact s1 a o e
        have nn : n ≠ x := fun z => by
          subst z
          rw [e1] at e2
          cases e2
        exact ftn_iff.mpr ⟨x, dx, b, n, xs, rfl, by rw [upd_same, fl_put], sF _ _ hb, by rw [upd_ne nn]; exact e2, hk.same sF⟩
def sp_made (K : PySem.W.Frag) : Sp := fun vs H Q _ => ∃ v xs l, vs = [.ref v] ∧ Sq K H v xs ∧ FtnL (cF K) H l xs ∧ sizeL l ≤ 1048576 ∧ LamX.Tabs (TT K) H ∧ ∀ w H', LamX.ExtN H H' → LamX.Tabs (TT K) H' → Ftn (cF K) H' (.bas (sortT l)) w → Q w H'
theorem ok_made  (T : Txt K mg base) : CallD P w K mg base CX0 6 "made" ["branches"] [] (sp_made K) := by
  refine T.d_made.okC sc_made (fun vs H Q E h => ?_) (fun A outer s H vs Q E hr h => ?_)
  · obtain ⟨v, xs, l, rfl, _⟩ := h
    rfl
  · obtain ⟨v, xs, l, rfl, hq, hl, hsz, hT, k⟩ := h
    have hlen := hl.len
    have hll := length_le l
    have hzl : xs.length < sizeLine := by rw [sizeLine_eq]; omega
    refine ⟨_, (pss_cons (ps_set (i := 1) sc_made.nd rfl (by first | exact Or.inl rfl | exact Or.inr rfl) (pe_sortedKey (N := ["branch"]) (k := 2) (pv 0) (by rfl) T.n_sorted T.tb_made rfl (List.mem_singleton.mpr rfl) (fun q hq _ => by rw [List.mem_singleton.mp hq]) (hr.mono (by decide)) ⟨rfl, rfl, rfl, by decide +kernel, rfl, by decide +kernel, by decide +kernel⟩ (fun _ _ _ _ _ => rfl) (fun A outer s H f cd hr => (pe_propD T.cls.c (ok_Fountain_text T) (hr.mono (by decide)) pass0 (pv 0) rfl))))
      (pss_one (ps_ret (pe_makeD (ok_Fountain___init__ T) (hr.mono (by decide)) (by rfl) pass0 (pa_cons (pe_op op_add_str (pe_op op_add_str pe_str (pe_join pe_str (pe_lc (own := [("branch", 2)]) (g := gName 2) (tt := tYes) (by rfl) sc_made.nd (pi_list (pv 1)) (blkOk_by (by kernel_rfl)) (fun _ _ _ _ _ => pg_name (i := 2) sc_made.nd rfl (by first | exact Or.inl rfl | exact Or.inr rfl)) (fun _ _ _ _ _ => pts_nil) (fun _ _ _ _ _ => (pe_propD T.cls.c (ok_Fountain_text T) (hr.mono (by decide)) pass0 (pv 2) rfl))))) pe_str) (pa_cons (pe_callTy call_tuple_of (by rfl) T.n_tuple (by decide +kernel) (pa_cons (pv 1) pa_nil)) pa_nil)))))), ?_⟩
    refine ⟨.ref v, rfl, v, xs, l.map tx, rfl, hq, by rw [List.length_map, hlen], hT, fun H2 hE hT2 => ⟨fun H' => LamX.ExtN H2 H' ∧ LamX.Tabs (TT K) H', ⟨LamX.ExtN.refl H2, hT2⟩, fun H' z => z.1, fun i x z hx hz H' hR => ?_, fun D H' ys hR hD ky => ?_⟩⟩
    · obtain ⟨t, e1, e2⟩ := hl.get hx
      rw [map_get e1 hz]
      exact ⟨x, rfl, ev_prop (e2.ext (hE.trans hR.1)) ⟨rfl, hR⟩⟩
    have hlS : sizeL (sortT l) = sizeL l := sizeL_perm (sortT_perm l)
    have hl3 : FtnL (cF K) (upd H' D (.lst ys)) (sortT l) ys := (ftnL_sort (hl.ext (hE.trans hR.1)) ky).same (Same.new (Same.refl H') hD)
    have sD : Same H' (upd H' D (.lst ys)) := Same.new (Same.refl H') hD
    have eD : upd H' D (.lst ys) D = some (.lst ys) := upd_same
    generalize upd H' D (.lst ys) = H3 at hl3 sD eD ⊢
    have hz : ys.length < sizeLine := by
      rw [hl3.len, (sortT_perm l).length_eq]
      omega
    have hcl := codesL_len (sortT l)
    have hjl : (Txt.join "" ((sortT l).map tx)).length = (codesL (sortT l)).length := by rw [join_tx, SX.S_len]
    have hop : (("(" : Str)).length = 1 := by decide +kernel
    have hcp : ((")" : Str)).length = 1 := by decide +kernel
    have hem : (("" : Str)).length = 0 := by decide +kernel
    have hsl := sizeLine_eq
    refine ⟨⟨_, rfl⟩, .ref D, rfl, D, rfl, ⟨ys, SqL.of eD⟩, fun D2 hD2 => lc_propL hD2 (SqL.of eD) hl3 hz (fun _ => rfl) (fun _ => rfl) fun H4 s4 e4 => ⟨_, D2, (sortT l).map tx, rfl, rfl, .inl (SqL.of (by rw [e4, List.map_map]; rfl)), ?_, _, _, rfl, rfl, ?_, _, _, rfl, rfl, ?_, .ref D, rfl, D, ys, rfl, .inl ⟨SqL.of (s4 _ _ eD), fun p hp x dx hx hdx hne => ?_⟩⟩⟩
    · rw [lens_tx, hem]
      omega
    · rw [hop, hjl]
      omega
    · show (("(" : Str) ++ Txt.join "" ((sortT l).map tx)).length + ((")" : Str)).length ≤ sizeLine
      rw [join_tx, op_S, SX.S_cat, SX.S_len, hcp, List.length_append, List.length_singleton]
      omega
    have sP : Same H' (upd H4 p (.tup ys)) := Same.new (sD.trans s4) hp
    refine ⟨x, dx, .bas (sortT l), p, ys, upd H4 p (.tup ys), by rw [← tx_bas]; rfl, hx, Same.new (Same.new (Same.refl _) hdx) (by rw [upd_ne (Ne.symm hne)]; exact hx), upd_same, upd_same, FtnL.same (hl3.same s4) (Same.new (Same.refl H4) hp), hz, fun H5 s5 f5 => ⟨rfl, k _ H5 ?_ ?_ f5⟩⟩
    · exact (hE.trans hR.1).trans (.of (sP.trans s5))
    · exact LamX.Tabs.ext hR.2 (sP.trans s5)
theorem ok_Fountain_parts  (T : Txt K mg base) : PropD P w K mg base CX0 1 (cF K) "parts" (spKids K) := by
  refine T.p_parts.ok sc_Fountain_parts (fun vs H Q E h => ?_) (fun f cdv A outer s H vs Q E hr h => ?_)
  · obtain ⟨v, t, rfl, _⟩ := h
    rfl
  · obtain ⟨v, t, rfl, hf, k⟩ := h
    obtain ⟨a, dx, b, n, vs, rfl, ha, hb, hn, hk⟩ := ftn_iff.mp hf
    refine ⟨_, (pss_one (ps_ret (pe_fld (pv 0) rfl))), ?_⟩
    exact ⟨.ref a, rfl, a, _, dx, _, _, rfl, ha, T.cls.c, T.cls.nb, fl_b, k b vs hb hk⟩
def sp_parsed (K : PySem.W.Frag) : Sp := fun vs H Q _ => ∃ u : JW.T, vs = [.str (tx u)] ∧ u.size ≤ 500000 ∧ LamX.Tabs (TT K) H ∧ ∀ b xs H', LamX.ExtN H H' → LamX.Tabs (TT K) H' → H' b = some (.tup xs) → FtnL (cF K) H' u.canon.kids xs → Q (.ref b) H'
def PInv (K : PySem.W.Frag) (u : JW.T) (H : Hp) (i : Nat) (σ : L2.St) (H' : Hp) : Prop := ∃ D b qs st fd v4 v5 v6, σ = [some (.str (tx u)), some (.ref D), some (.ref b), some (.bl (Option.isSome fd)), v4, v5, v6] ∧ H D = none ∧ LamX.ExtN H H' ∧ LamX.Tabs (TT K) H' ∧ H' D = some (.lst (List.reverse qs)) ∧
  PendR (cF K) H' st qs ∧ (∃ xs, H' b = some (.tup xs) ∧ ∀ t, fd = some t → FtnL (cF K) H' (T.kids t) xs) ∧ prun (u.codes.drop i) (st, fd) = some ([], some u.canon) ∧ wtS (st, fd) ≤ i
theorem pinvA {K : PySem.W.Frag} {u : JW.T} {H H2 H3 : Hp} {i : Nat} {D a b q : Addr} {ws xs bx : List V} {p2 : List JW.T} {r2 : List (List JW.T)} {t : JW.T} {v : V} {v4 v5 v6 : Option V} (hD0 : H D = none) (hE : LamX.ExtN H H2) (hT : LamX.Tabs (TT K) H2) (s : Same H2 H3) (hD : H2 D = some (.lst (V.ref a :: ws).reverse))
    (hf : FtnL (cF K) H2 p2 xs) (hr : PendR (cF K) H2 r2 ws) (ht : Ftn (cF K) H2 t v) (hq : H3 q = some (.tup (xs ++ [v]))) (hb : H2 b = some (.tup bx)) (hrun : prun (u.codes.drop (i + 1)) ((p2 ++ [t]) :: r2, none) = some ([], some u.canon)) (hw : wtS ((p2 ++ [t]) :: r2, none) ≤ i + 1) :
    PInv K u H (i + 1) [some (.str (tx u)), some (.ref D), some (.ref b), some (.bl false), v4, v5, v6] (upd H3 D (.lst (V.ref q :: ws).reverse)) := by
  have hD3 := s _ _ hD
  have hT3 := Tabs.same hT s
  have nq : q ≠ D := ne_of hq hD3 fun z => by cases z
  have nb : b ≠ D := ne_of hb hD fun z => by cases z
  have hx : ExtD D H3 (upd H3 D (.lst (V.ref q :: ws).reverse)) := ExtD.put (ExtD.refl D H3)
  refine ⟨D, b, V.ref q :: ws, (p2 ++ [t]) :: r2, none, v4, v5, v6, rfl, hD0, fun c o e n => ?_, Tabs.put hT3 hD3, upd_same, ?_, ⟨bx, by rw [upd_ne nb]; exact s _ _ hb, fun t z => by cases z⟩, hrun, hw⟩
  · rw [upd_ne (ne_of_none e hD0)]
    exact s _ _ (hE _ _ e n)
  · exact ⟨q, xs ++ [v], ws, rfl, by rw [upd_ne nq]; exact hq, ftnL_extD hD3 hx _ _ ((hf.same s).app (FtnL.one (ht.same s))), PendR.extD hD3 hx (hr.ext (.of s))⟩
theorem pinvN {K : PySem.W.Frag} {u : JW.T} {H H2 H3 : Hp} {i : Nat} {D b q : Addr} {qs bx : List V} {st : List (List JW.T)} {v4 v5 v6 : Option V} (hD0 : H D = none) (hE : LamX.ExtN H H2) (hT : LamX.Tabs (TT K) H2) (s : Same H2 H3) (hD : H2 D = some (.lst qs.reverse))
    (hr : PendR (cF K) H2 st qs) (hq : H3 q = some (.tup [])) (hb : H2 b = some (.tup bx)) (hrun : prun (u.codes.drop (i + 1)) ([] :: st, none) = some ([], some u.canon)) (hw : wtS ([] :: st, none) ≤ i + 1) :
    PInv K u H (i + 1) [some (.str (tx u)), some (.ref D), some (.ref b), some (.bl false), v4, v5, v6] (upd H3 D (.lst (qs.reverse ++ [V.ref q]))) := by
  have hD3 := s _ _ hD
  have hT3 := Tabs.same hT s
  have nq : q ≠ D := ne_of hq hD3 fun z => by cases z
  have nb : b ≠ D := ne_of hb hD fun z => by cases z
  have hx : ExtD D H3 (upd H3 D (.lst (qs.reverse ++ [V.ref q]))) := ExtD.put (ExtD.refl D H3)
  refine ⟨D, b, V.ref q :: qs, [] :: st, none, v4, v5, v6, rfl, hD0, fun c o e n => ?_, Tabs.put hT3 hD3, by rw [upd_same, List.reverse_cons], ?_, ⟨bx, by rw [upd_ne nb]; exact s _ _ hb, fun t z => by cases z⟩, hrun, hw⟩
  · rw [upd_ne (ne_of_none e hD0)]
    exact s _ _ (hE _ _ e n)
  · exact ⟨q, [], qs, rfl, by rw [upd_ne nq]; exact hq, rfl, PendR.extD hD3 hx (hr.ext (.of s))⟩
theorem ok_parsed  (T : Txt K mg base) : CallD P w K mg base CX0 7 "parsed" ["text"] [] (sp_parsed K) := by
  refine T.d_parsed.ok sc_parsed (fun vs H Q E h => ?_) (fun f cdv A outer s H vs Q E hr h => ?_)
  · obtain ⟨u, rfl, _⟩ := h
    rfl
  · obtain ⟨u, rfl, hsz, hT, k⟩ := h
    have hcl := (codes_len u).1
    have hsl := sizeLine_eq
    have hcz : (tx u).cps.size = u.codes.length := by
      show (u.codes.toArray).size = _
      rw [List.size_toArray]
    refine ⟨_, (pss_cons (ps_set (i := 1) sc_parsed.nd rfl (by first | exact Or.inl rfl | exact Or.inr rfl) (pe_lst pa_nil))
      (pss_cons (ps_asg (pe_tup (pa_cons (pe_tup pa_nil) (pa_cons pe_bl pa_nil))) (pg_tup rfl (pgs_cons (pg_name (i := 2) sc_parsed.nd rfl (by first | exact Or.inl rfl | exact Or.inr rfl)) (pgs_cons (pg_name (i := 3) sc_parsed.nd rfl (by first | exact Or.inl rfl | exact Or.inr rfl)) pgs_nil))))
      (pss_cons (ps_for PassesOwn.never rfl (pi_enumS (by rfl) T.n_enumerate (pa_cons (pv 0) pa_nil)) (pg_tup rfl (pgs_cons (pg_name (i := 4) sc_parsed.nd rfl (by first | exact Or.inl rfl | exact Or.inr rfl)) (pgs_cons (pg_name (i := 5) sc_parsed.nd rfl (by first | exact Or.inl rfl | exact Or.inr rfl)) pgs_nil)))
        (pss_cons (ps_if (PW.pt (pw_or (pt_val (pv 3)) (pw_or (pt_cmpR op_notin_str (pv 5) pe_str (by rfl)) (pw_or1 (PW.pt (pw_and (pt_cmpR op_eq (pv 5) pe_str (nomark _)) (pw_and1 (pt_cmpR op_eq (pe_callB call_len (by rfl) T.n_len (by decide +kernel) (pa_cons (pv 1) pa_nil)) pe_int (nomark _)))))))))
          pss_never
          pss_nil)
        (pss_one (ps_via (ps_if (pt_cmpR op_eq (pv 5) pe_str (nomark _))
          (pss_one (ps_expr (pe_bm PySem.F.plainAttrs_list PySem.F.slot_list_append PySem.F.type_list_append mt_append (pv 1) (pa_cons (pe_tup pa_nil) pa_nil))))
          (pss_cons (ps_set (i := 6) sc_parsed.nd rfl (by first | exact Or.inl rfl | exact Or.inr rfl) (pe_via (pe_ifExp (pt_cmpR op_eq (pv 5) (pe_gstr rfl T.gJET_TEXT) (nomark _)) (pe_makeD (ok_Fountain___init__ T) (hr.mono (by decide)) (by rfl) pass0 (pa_cons (pe_gstr rfl T.gJET_TEXT) (pa_cons (pe_tup pa_nil) pa_nil))) (pe_callD (ok_made T) (hr.mono (by decide)) (by rfl) pass0 (pa_cons (pe_bm0 PySem.F.plainAttrs_list PySem.F.slot_list_pop PySem.F.type_list_pop mt_pop (pv 1)) pa_nil)))))
          (pss_one (ps_via (ps_if (pt_cmpR op_gt (pe_callB call_len (by rfl) T.n_len (by decide +kernel) (pa_cons (pv 1) pa_nil)) pe_int (nomark _))
            (pss_one (ps_asg (pe_op op_catA (pe_ix ix_list (pv 1) (pe_un un_neg pe_int) (fun _ _ => rfl)) (pe_tup (pa_cons (pv 6) pa_nil))) (pg_sub (pv 1) (pe_un un_neg pe_int) set_list)))
            (pss_one (ps_par (i := 2) (j := 3) (by rfl) sc_parsed.nd rfl rfl (by decide) rfl rfl (pa_cons (pe_propD T.cls.c (ok_Fountain_parts T) (hr.mono (by decide)) pass0 (pv 6) rfl) (pa_cons pe_bl pa_nil)) (by rfl))))))))))))
      (pss_cons (ps_if (pt_not (pt_val (pv 3)))
        pss_never
        pss_nil)
      (pss_one (ps_ret (pv 2))))))), ?_⟩
    refine ⟨by decide, fun D hD => ⟨by decide, fun b hb => ⟨sz2, fun p hp => ⟨p, _, rfl, SqT.of upd_same, rfl, _, _, rfl, _, _, rfl, rfl, .str (tx u), rfl, _, rfl, ?_⟩⟩⟩⟩
    refine for_enumS (PInv K u H) ?_ (fun i c σ H' Tp hc hP hTp => ?_) fun σ H' hP => ?_
    · have s3 : Same H (upd (upd (upd H D (.lst [])) b (.tup [])) p (.tup [.ref b, .bl false])) := Same.new (Same.new (Same.new (Same.refl H) hD) hb) hp
      exact ⟨D, b, [], [], none, none, none, none, rfl, hD, .of s3, Tabs.same hT s3, upd_old (upd_old upd_same hb) hp, rfl, ⟨[], upd_old upd_same hp, fun t z => by cases z⟩, prun_all u, Nat.le_refl _⟩
    · obtain ⟨D, b, qs, st, fd, v4, v5, v6, rfl, hD0, hE, hT', hDq, hp', ⟨bx, hbx, hfd⟩, hrun, hwt⟩ := hP
      have hc' : u.codes[i]? = some c := by
        have : (u.codes.toArray)[i]? = some c := hc
        rw [List.getElem?_toArray] at this
        exact this
      have hi : i < u.codes.length := (List.getElem?_eq_some_iff.mp hc').1
      obtain ⟨⟨st', fd'⟩, hst, hrun'⟩ := prun_step hc' hrun
      have hwt2 : wtS (st', fd') ≤ i + 1 := Nat.le_trans (pstep_wt hst) (Nat.succ_le_succ hwt)
      have hql := hp'.len
      have hsl2 := wtL_len st
      have hwl : wtL st ≤ i := Nat.le_trans (Nat.le_add_right _ _) hwt
      obtain ⟨rfl, hcs⟩ := pstep_cases hst
      have sT : Same H' (upd H' Tp (.tup [.int (i : Nat), .str ⟨#[c]⟩])) := Same.new (Same.refl H') hTp
      generalize hH1 : upd H' Tp (.tup [.int (i : Nat), .str ⟨#[c]⟩]) = H1 at sT ⊢
      have eT : H1 Tp = some (.tup [.int (i : Nat), .str ⟨#[c]⟩]) := by rw [← hH1, upd_same]
      have hE1 : LamX.ExtN H H1 := hE.trans (.of sT)
      have hT1 := Tabs.same hT' sT
      have hD1 := sT _ _ hDq
      have hp1 : PendR (cF K) H1 st qs := hp'.ext (.of sT)
      have hb1 := sT _ _ hbx
      refine ⟨Tp, _, rfl, SqT.of eT, rfl, _, _, rfl, _, _, rfl, rfl, .bl false, rfl, _, rfl, ite_f rfl ⟨.str ⟨#[c]⟩, rfl, _, _, rfl, rfl, _, rfl, ite_f ?_ ⟨.str ⟨#[c]⟩, rfl, rfl, _, rfl, ite2 (fun e => ?_) fun e => ite_f rfl ?_⟩⟩⟩
      · rcases hcs with ⟨rfl, _⟩ | ⟨rfl, _⟩ | ⟨rfl, _⟩ <;> decide +kernel
      · -- a closing sign: something is open
        have ec : c = 41 := by
          rcases hcs with ⟨rfl, _⟩ | ⟨rfl, _⟩ | ⟨rfl, _⟩
          · exact absurd e (by decide +kernel)
          · exact absurd e (by decide +kernel)
          · rfl
        subst ec
        rcases hcs with ⟨z, _⟩ | ⟨z, _⟩ | ⟨_, pp, r, rfl, hs'⟩
        · cases z
        · cases z
        have hql2 : qs.reverse.length = r.length + 1 := by rw [List.length_reverse, hql]; rfl
        refine ⟨.ref D, rfl, .ref D, _, rfl, .inl ⟨_, SqL.of hD1, rfl⟩, rfl, _, rfl, ite_f (decide_eq_false fun z => ?_) ⟨PInv K u H (i + 1), ⟨.str ⟨#[41]⟩, rfl, rfl, _, rfl, ite_f (by decide +kernel) ?_⟩, fun _ _ z => z⟩⟩
        · have z2 := V.int.inj z
          omega
        -- the piece is made
        obtain ⟨a, xs, ws, rfl, ha, hfp, hpr⟩ := (show ∃ a xs ws, qs = .ref a :: ws ∧ H1 a = some (.tup xs) ∧ FtnL (cF K) H1 pp xs ∧ PendR (cF K) H1 r ws from hp1)
        have hx : ExtD D H1 (upd H1 D (.lst ws.reverse)) := ExtD.put (ExtD.refl D H1)
        have hwp : sizeL pp ≤ i := by
          have : 1 + sizeL pp + wtL r ≤ i := hwl
          omega
        refine ⟨fun v H2 => H2 D = some (.lst ws.reverse) ∧ PendR (cF K) H2 r ws ∧ Ftn (cF K) H2 (.bas (sortT pp)) v ∧ LamX.ExtN H H2 ∧ LamX.Tabs (TT K) H2 ∧ H2 b = some (.tup bx), ⟨.str ⟨#[41]⟩, rfl, rfl, _, rfl, ite_f (by decide +kernel) ⟨.ref D, rfl, tyL hD1, D, _, .ref a, rfl, rfl, hD1, sq_last _ _, ?_⟩⟩, fun v H2 ⟨hD2, hp2, hv, hE2, hT2, hb2⟩ => ?_⟩
        · rw [sq_butlast]
          refine ⟨a, xs, pp, rfl, .inr (SqT.of (by rw [upd_ne (ne_of ha hD1 fun z => by cases z)]; exact ha)), ftnL_extD hD1 hx _ _ hfp, by omega, Tabs.put hT1 hD1, fun w H' e1 e2 e3 => ⟨e1 _ _ upd_same (fun ps z => by cases z), (PendR.extD hD1 hx hpr).ext e1, e3, fun c o ec n => e1 _ _ (by rw [upd_ne (ne_of_none ec hD0)]; exact hE1 _ _ ec n) n, e2, e1 _ _ (by rw [upd_ne (ne_of hb1 hD1 fun z => by cases z)]; exact hb1) (fun ps z => by cases z)⟩⟩
        · have hl2 := hp2.len
          refine ⟨PInv K u H (i + 1), ⟨.ref D, rfl, .ref D, _, rfl, .inl ⟨_, SqL.of hD2, rfl⟩, _, _, rfl, rfl, _, rfl, ite2 (fun e => ?_) fun e => ?_⟩, fun _ _ z => z⟩
          · cases r with
            | nil =>
              rw [List.length_reverse, hl2] at e
              exact absurd (of_decide_eq_true e) (by show ¬ ((0 : Int) < ((0 : Nat) : Int)); decide)
            | cons p2 r2 =>
              obtain ⟨a2, ys, ws2, rfl, ha2, hf2, hr2⟩ := (show ∃ a xs zs, ws = .ref a :: zs ∧ H2 a = some (.tup xs) ∧ FtnL (cF K) H2 p2 xs ∧ PendR (cF K) H2 r2 zs from hp2)
              have hs2 : st' = (p2 ++ [.bas (sortT pp)]) :: r2 ∧ fd' = none := by
                have e3 : (st', fd') = ((p2 ++ [.bas (sortT pp)]) :: r2, none) := hs'
                exact Prod.mk.inj e3
              obtain ⟨rfl, rfl⟩ := hs2
              have hyl : ys.length + 1 ≤ sizeLine := by
                have h1 := hf2.len
                have h2 := length_le p2
                have h3 : 1 + sizeL (p2 ++ [.bas (sortT pp)]) + wtL r2 + 0 ≤ i + 1 := hwt2
                rw [sizeL_app] at h3
                omega
              refine ⟨.ref D, rfl, 1, rfl, D, _, _, _, rfl, rfl, SqL.of hD2, at_last _ _, v, rfl, sz1, fun q hq => ⟨a2, q, ys, [v], rfl, rfl, SqT.of (upd_old ha2 hq), SqT.of upd_same, hyl, fun hy => ⟨.ref D, rfl, 1, rfl, D, _, _, _, rfl, rfl, upd_old hD2 hq, ix_last (by simp), ?_⟩, fun _ z => absurd z (by simp), fun _ _ q2 hq2 => ⟨.ref D, rfl, 1, rfl, D, _, _, _, rfl, rfl, upd_old (upd_old hD2 hq) hq2, ix_last (by simp), ?_⟩⟩⟩
              · subst hy
                rw [set_last]
                exact pinvA hD0 hE2 hT2 (Same.new (Same.refl H2) hq) hD2 hf2 hr2 hv (by rw [upd_same]; rfl) hb2 hrun' hwt2
              · rw [set_last]
                exact pinvA hD0 hE2 hT2 (Same.new (Same.new (Same.refl H2) hq) hq2) hD2 hf2 hr2 hv upd_same hb2 hrun' hwt2
          · cases r with
            | cons p2 r2 =>
              refine absurd (decide_eq_true ?_) e
              rw [List.length_reverse, hl2]
              show (0 : Int) < ((r2.length + 1 : Nat) : Int)
              omega
            | nil =>
              have hs2 : st' = [] ∧ fd' = some (.bas (sortT pp)) := Prod.mk.inj hs'
              obtain ⟨rfl, rfl⟩ := hs2
              refine ⟨v, rfl, ev_kids hv fun b' xs' hb' hk' => ⟨_, _, rfl, ?_⟩⟩
              exact ⟨D, b', ws, [], some (.bas (sortT pp)), _, _, _, rfl, hD0, hE2, hT2, hD2, hp2, ⟨xs', hb', fun t' z => by cases z; exact hk'⟩, hrun', hwt2⟩
      · -- no closing sign
        rcases hcs with ⟨rfl, hs'⟩ | ⟨rfl, hs'⟩ | ⟨rfl, _⟩
        · obtain ⟨rfl, rfl⟩ := Prod.mk.inj hs'
          refine ⟨PInv K u H (i + 1), ⟨.str ⟨#[40]⟩, rfl, rfl, _, rfl, ite_t (by decide +kernel) ⟨.ref D, rfl, tyL hD1, by decide, fun q hq => ⟨D, _, .ref q, rfl, rfl, upd_old hD1 hq, ?_, ?_⟩⟩⟩, fun _ _ z => z⟩
          · rw [List.length_reverse]
            omega
          · exact pinvN hD0 hE1 hT1 (Same.new (Same.refl H1) hq) hD1 hp1 upd_same hb1 hrun' hwt2
        · generalize hr0 : st = r at *
          generalize hq0 : qs = ws at *
          refine ⟨PInv K u H (i + 1), ⟨.str ⟨#[111]⟩, rfl, rfl, _, rfl, ite_f (by decide +kernel) ?_⟩, fun _ _ z => z⟩
          refine ⟨fun v H2 => H2 D = some (.lst ws.reverse) ∧ PendR (cF K) H2 r ws ∧ Ftn (cF K) H2 .jet v ∧ LamX.ExtN H H2 ∧ LamX.Tabs (TT K) H2 ∧ H2 b = some (.tup bx), ⟨.str ⟨#[111]⟩, rfl, rfl, _, rfl, ite_t (by decide +kernel) ⟨by decide, fun q hq x dx hx hdx hne => ?_⟩⟩, fun v H2 ⟨hD2, hp2, hv, hE2, hT2, hb2⟩ => ?_⟩
          · have sQ : Same H1 (upd H1 q (.tup [])) := Same.new (Same.refl H1) hq
            refine ⟨x, dx, .jet, q, [], upd H1 q (.tup []), by rw [tx_jet]; rfl, hx, Same.new (Same.new (Same.refl _) hdx) (by rw [upd_ne (Ne.symm hne)]; exact hx), upd_same, upd_same, rfl, by show 0 < sizeLine; omega, fun H5 s5 f5 => ⟨rfl, ?_⟩⟩
            have s6 : Same H1 H5 := sQ.trans s5
            exact ⟨s6 _ _ hD1, hp1.ext (.of s6), f5, hE1.trans (.of s6), Tabs.same hT1 s6, s6 _ _ hb1⟩
          · have hl2 := hp2.len
            refine ⟨PInv K u H (i + 1), ⟨.ref D, rfl, .ref D, _, rfl, .inl ⟨_, SqL.of hD2, rfl⟩, _, _, rfl, rfl, _, rfl, ite2 (fun e => ?_) fun e => ?_⟩, fun _ _ z => z⟩
            · cases r with
              | nil =>
                rw [List.length_reverse, hl2] at e
                exact absurd (of_decide_eq_true e) (by show ¬ ((0 : Int) < ((0 : Nat) : Int)); decide)
              | cons p2 r2 =>
                obtain ⟨a2, ys, ws2, rfl, ha2, hf2, hr2⟩ := (show ∃ a xs zs, ws = .ref a :: zs ∧ H2 a = some (.tup xs) ∧ FtnL (cF K) H2 p2 xs ∧ PendR (cF K) H2 r2 zs from hp2)
                have hs2 : st' = (p2 ++ [.jet]) :: r2 ∧ fd' = none := by
                  have e3 : (st', fd') = ((p2 ++ [.jet]) :: r2, none) := hs'
                  exact Prod.mk.inj e3
                obtain ⟨rfl, rfl⟩ := hs2
                have hyl : ys.length + 1 ≤ sizeLine := by
                  have h1 := hf2.len
                  have h2 := length_le p2
                  have h3 : 1 + sizeL (p2 ++ [.jet]) + wtL r2 + 0 ≤ i + 1 := hwt2
                  rw [sizeL_app] at h3
                  omega
                refine ⟨.ref D, rfl, 1, rfl, D, _, _, _, rfl, rfl, SqL.of hD2, at_last _ _, v, rfl, sz1, fun q hq => ⟨a2, q, ys, [v], rfl, rfl, SqT.of (upd_old ha2 hq), SqT.of upd_same, hyl, fun hy => ⟨.ref D, rfl, 1, rfl, D, _, _, _, rfl, rfl, upd_old hD2 hq, ix_last (by simp), ?_⟩, fun _ z => absurd z (by simp), fun _ _ q2 hq2 => ⟨.ref D, rfl, 1, rfl, D, _, _, _, rfl, rfl, upd_old (upd_old hD2 hq) hq2, ix_last (by simp), ?_⟩⟩⟩
                · subst hy
                  rw [set_last]
                  exact pinvA hD0 hE2 hT2 (Same.new (Same.refl H2) hq) hD2 hf2 hr2 hv (by rw [upd_same]; rfl) hb2 hrun' hwt2
                · rw [set_last]
                  exact pinvA hD0 hE2 hT2 (Same.new (Same.new (Same.refl H2) hq) hq2) hD2 hf2 hr2 hv upd_same hb2 hrun' hwt2
            · cases r with
              | cons p2 r2 =>
                refine absurd (decide_eq_true ?_) e
                rw [List.length_reverse, hl2]
                show (0 : Int) < ((r2.length + 1 : Nat) : Int)
                omega
              | nil =>
                have hs2 : st' = [] ∧ fd' = some (.jet) := Prod.mk.inj hs'
                obtain ⟨rfl, rfl⟩ := hs2
                refine ⟨v, rfl, ev_kids hv fun b' xs' hb' hk' => ⟨_, _, rfl, ?_⟩⟩
                exact ⟨D, b', ws, [], some (.jet), _, _, _, rfl, hD0, hE2, hT2, hD2, hp2, ⟨xs', hb', fun t' z => by cases z; exact hk'⟩, hrun', hwt2⟩
        · exact absurd (by decide +kernel) e
    · obtain ⟨D, b, qs, st, fd, v4, v5, v6, rfl, hD0, hE, hT', hDq, hp', ⟨bx, hbx, hfd⟩, hrun, hwt⟩ := hP
      rw [hcz, List.drop_length] at hrun
      have e : (st, fd) = ([], some u.canon) := Option.some.inj hrun
      obtain ⟨rfl, rfl⟩ := Prod.mk.inj e
      exact ⟨.bl true, rfl, true, rfl, ite_f rfl ⟨.ref b, rfl, k b bx H' hE hT' hbx (hfd _ rfl)⟩⟩
def sp_init_read (K : PySem.W.Frag) : Sp := fun vs H Q _ => ∃ x dx u H0, vs = [.ref x, .str (tx u), .non] ∧ u.size ≤ 5000 ∧ u.dep ≤ 120 ∧ H0 x = none ∧ Same H0 H ∧ H x = some (.ins (cF K) dx []) ∧ LamX.Tabs (TT K) H ∧
  ∀ H', LamX.ExtN H0 H' → LamX.Tabs (TT K) H' → Ftn (cF K) H' u.canon (.ref x) → Q .non H'
theorem okK_Fountain___init___read (T : Txt K mg base) : MakeKD P w K mg base CX0 8 "Fountain" (cF K) ["self", "text", "branches"] [.non] "text" (sp_init_read K) := by
  refine T.init.okK sc_Fountain___init__ (fun vs H Q E h => ?_) (List.cons_ne_nil _ _) (fun _ _ _ _ _ _ _ _ _ its l => match its, l with | [_], _ => ⟨_, rfl, rfl⟩) (fun f cdv A outer s H vs Q E hr h => ?_)
  · obtain ⟨x, dx, u, H0, rfl, _⟩ := h
    rfl
  · obtain ⟨x, dx, u, H0, rfl, h5, h12, hx0, s0, hx, hT, k⟩ := h
    have hcs := canon_size u
    have hcd := canon_dep u
    have hks := kids_size u.canon
    have hcc := canon_can u
    have nx : ∀ {a : Addr} {o : HO}, H0 a = some o → a ≠ x := fun e => ne_of_none e hx0
    refine ⟨_, (pss_cons (ps_set (i := 3) sc_Fountain___init__.nd rfl (by first | exact Or.inl rfl | exact Or.inr rfl) (pe_cmpR op_isN (pv 2) pe_non (nomark _)))
      (pss_cons (ps_via (ps_if (pt_val (pv 3))
        (pss_cons (ps_set (i := 2) sc_Fountain___init__.nd rfl (by first | exact Or.inl rfl | exact Or.inr rfl) (pe_callD (ok_parsed T) (hr.mono (by decide)) (by rfl) pass0 (pa_cons (pv 1) pa_nil)))
        (pss_one (ps_set (i := 1) sc_Fountain___init__.nd rfl (by first | exact Or.inl rfl | exact Or.inr rfl) (pe_via (pe_ifExp (pt_cmpR op_eq (pv 1) (pe_gstr rfl T.gJET_TEXT) (nomark _)) (pe_gstr rfl T.gJET_TEXT) (pe_propD T.cls.c (ok_Fountain_text T) (hr.mono (by decide)) pass0 (pe_callD (ok_made T) (hr.mono (by decide)) (by rfl) pass0 (pa_cons (pv 2) pa_nil)) rfl))))))
        pss_nil))
      (pss_cons (ps_fld (pv 0) (pv 1) (by rfl))
      (pss_cons (ps_fld (pv 0) (pv 2) (by rfl))
      (pss_cons (ps_fld (pv 0) (pe_via (pe_ifExp (pt_cmpR op_eq (pv 1) (pe_gstr rfl T.gJET_TEXT) (nomark _)) (pe_tup (pa_cons pe_int (pa_cons pe_int (pa_cons pe_int (pa_cons pe_int (pa_cons pe_int pa_nil)))))) (pe_callD (ok_basin_numbers T) (hr.mono (by decide)) (by rfl) pass0 (pa_cons (pv 2) pa_nil)))) (by rfl))
      (pss_one (ps_via (ps_if (pt_val (pv 3))
        (pss_one (ps_expr (pe_callD (ok_check_numbers T) (hr.mono (by decide)) (by rfl) pass0 (pa_cons (pe_fld (pv 0) rfl) pa_nil))))
        pss_nil)))))))), ?_⟩
    refine ⟨.non, rfl, rfl, fun σ' H1 => ∃ b xs, σ' = [some (.ref x), some (.str (tx u.canon)), some (.ref b), some (.bl true)] ∧ LamX.ExtN H H1 ∧ LamX.Tabs (TT K) H1 ∧ H1 x = some (.ins (cF K) dx []) ∧ H1 b = some (.tup xs) ∧ FtnL (cF K) H1 u.canon.kids xs,
      ⟨_, rfl, _, rfl, ite_t rfl ⟨.str (tx u), rfl, u, rfl, by omega, hT, fun b xs H1 hE hT1 hb hk => ?_⟩⟩, fun σ' H1 hR => ?_⟩
    · refine ⟨fun v H2 => v = .str (tx u.canon) ∧ LamX.ExtN H1 H2 ∧ LamX.Tabs (TT K) H2, ⟨.str (tx u), rfl, rfl, _, rfl, ite2 (fun e => ?_) fun e => ?_⟩, fun v H2 ⟨ev, e2, hT2⟩ => ?_⟩
      · have et : u = .jet := tx_inj ((V.str.inj (of_decide_eq_true e)).trans tx_jet.symm)
        subst et
        exact ⟨by rw [← tx_jet]; rfl, LamX.ExtN.refl _, hT1⟩
      · refine ⟨.ref b, rfl, b, xs, u.canon.kids, rfl, .inr (SqT.of hb), hk, by omega, hT1, fun w H2 e1 e2 e3 => ev_prop e3 ⟨?_, e1, e2⟩⟩
        cases u with
        | jet => exact absurd (decide_eq_true (by rw [tx_jet])) e
        | bas l =>
          have ec : (JW.T.bas l).canon = .bas (sortT (l.map JW.T.canon)) := canon_bas l
          rw [ec]
          show V.str (tx (.bas (sortT (sortT (l.map JW.T.canon))))) = _
          rw [sortT_of (sortT_srt _)]
      · subst ev
        exact ⟨b, xs, rfl, hE.trans e2, hT2, e2 _ _ (hE _ _ hx fun ps z => by cases z) (fun ps z => by cases z), e2 _ _ hb (fun ps z => by cases z), hk.ext e2⟩
    obtain ⟨b, xs, rfl, hE1, hT1, hx1, hb1, hk1⟩ := hR
    have nbx : b ≠ x := ne_of hb1 hx1 fun z => by cases z
    have hl1 := hk1.len
    have hll := length_le u.canon.kids
    have hsl := sizeLine_eq
    have hD2 : ∀ o1 o2 : HO, ExtD x H1 (upd (upd H1 x o1) x o2) := fun o1 o2 => ExtD.put (ExtD.put (ExtD.refl x H1))
    have tT2 : ∀ (d1 d2 : Addr) (f1 f2 : List (Str × V)), LamX.Tabs (TT K) (upd (upd H1 x (.ins (cF K) d1 f1)) x (.ins (cF K) d2 f2)) := fun d1 d2 f1 f2 => Tabs.putI (Tabs.putI hT1 hx1) upd_same
    refine ⟨.str (tx u.canon), rfl, .ref x, rfl, x, _, dx, _, rfl, hx1, T.cls.c, T.cls.nw, by decide, .ref b, rfl, .ref x, rfl, x, _, dx, _, rfl, upd_same, T.cls.c, T.cls.nb, fl_l1,
      fun v H' => ∃ n, v = .ref n ∧ ExtD x H1 H' ∧ LamX.Tabs (TT K) H' ∧ H' x = some (.ins (cF K) dx (putF "branches" (.ref b) (putF "written" (.str (tx u.canon)) []))) ∧ H' n = some (.tup (nums u.canon)), ⟨_, rfl, rfl, _, rfl, ite2 (fun e => ?_) fun e => ?_⟩, fun v H' hv => ?_⟩
    · have et : u.canon = .jet := tx_inj ((V.str.inj (of_decide_eq_true e)).trans tx_jet.symm)
      refine ⟨sz5, fun p hp => ⟨p, rfl, ExtD.trans (hD2 _ _) (.of (.of (Same.new (Same.refl _) hp))), Tabs.same (tT2 _ _ _ _) (Same.new (Same.refl _) hp), upd_old upd_same hp, ?_⟩⟩
      rw [upd_same, et]
      rfl
    · cases hu : u.canon with
      | jet => exact absurd (decide_eq_true (by rw [hu, tx_jet])) e
      | bas l =>
        rw [hu] at hk1 hl1 hll hks hcs
        refine ⟨.ref b, rfl, b, xs, l, rfl, hD2 _ _ _ _ nbx hb1 (fun ps z => by cases z), ftnL_extX hx1 (by decide) (hD2 _ _) _ _ hk1, ?_, fun H' p s e => ⟨p, rfl, ExtD.trans (hD2 _ _) (.of (.of s)), Tabs.same (tT2 _ _ _ _) s, s _ _ upd_same, e⟩⟩
        have h1 : xs.length = l.length := hl1
        have h2 : l.length ≤ sizeL l := hll
        have h3 : sizeL l ≤ (JW.T.bas l).size := hks
        omega
    · obtain ⟨n, rfl, eD, tT, e1, e2⟩ := hv
      have nn : n ≠ x := ne_of e2 e1 fun z => by cases z
      refine ⟨.ref x, rfl, x, _, dx, _, rfl, e1, T.cls.c, T.cls.nn, fl_l2, fun _ HF => HF = upd H' x (.ins (cF K) dx (putF "numbers" (.ref n) (putF "branches" (.ref b) (putF "written" (.str (tx u.canon)) [])))), ⟨.bl true, rfl, _, rfl, ite_t rfl ⟨.ref x, rfl, x, _, dx, _, _, rfl, upd_same, T.cls.c, T.cls.nn, by rw [fl_put]; exact fl_n, n, u.canon, rfl, by rw [upd_ne nn]; exact e2, by omega, by omega, rfl⟩⟩, fun _ HF eF => ?_⟩
      subst eF
      refine k _ (fun a o e nt => ?_) (Tabs.putI tT e1) (ftn_iff.mpr ⟨x, dx, b, n, xs, rfl, by rw [upd_same, fl_put], ?_, by rw [upd_ne nn]; exact e2, ftnL_extX hx1 (by decide) (ExtD.put eD) _ _ hk1⟩)
      · rw [upd_ne (nx e)]
        exact eD _ _ (nx e) (hE1 _ _ (s0 _ _ e) nt) nt
      · rw [upd_ne nbx]
        exact eD _ _ nbx hb1 (fun ps z => by cases z)
def aspRead : ASp
  | [.str z], L, Q, _ => ∃ u : T, z = tx u ∧ u.size ≤ 5000 ∧ u.dep ≤ 120 ∧ Q (.tree u.canon) L
  | _, _, _, _ => False
theorem mkA_read {K : PySem.W.Frag} {scr : Option (Addr × List Int)} : ∀ ds vs H L R Q, RepL (cA K scr) H ds vs → Good (cA K scr) L H → aspRead ds L R anyX → Pq (cA K scr) H R Q → ∀ x dx, H x = none → H dx = none → dx ≠ x →
    sp_init_read K (.ref x :: (vs ++ [.non])) (upd (upd H dx (.own x)) x (.ins (cF K) dx [])) (fun v H2 => v = .non ∧ Q (.ref x) H2) (fun _ _ _ => True) := fun ds vs H L R Q r g h pq x dx hx hdx ne => by
  unfold aspRead at h
  split at h
  · obtain ⟨u, rfl, h1, h2, h⟩ := h
    obtain ⟨v, rfl, r1⟩ := repL_one r
    cases rep_str.mp r1
    have s : Same H (upd (upd H dx (.own x)) x (.ins (cF K) dx [])) := Same.new (Same.new (Same.refl H) hdx) (by rw [upd_ne (Ne.symm ne)]; exact hx)
    exact ⟨x, dx, u, H, rfl, h1, h2, hx, s, upd_same, Tabs.same g.tabs s, fun H' e' T' hf => ⟨rfl, pq _ _ _ H' h (.extN e') (g.extN T' e') (rep_tree.mpr hf)⟩⟩
  · exact h.elim

def mulX : D → D → Store → AQ → Prop
  | .str z, k, L, Q => mulS (.str z) k L Q
  | .tup l, k, L, Q => mulT1 (.tup l) k L Q
  | x, k, L, Q => mulD x k L Q
section
variable {X : Cx} {c : AL.AC X.K}
theorem aop_mulX : AOp X c (binaryOp .Mult) mulX := by
  obtain ⟨r1, h1, k1⟩ := (aop_mulS (X := X) (c := c)).ex
  obtain ⟨r2, h2, k2⟩ := (aop_mulT1 (X := X) (c := c)).ex
  obtain ⟨r3, h3, k3⟩ := (aop_mul (X := X) (c := c)).ex
  refine ⟨_, (h1.or h2).or h3, fun x y H Q d e L R rx ry g q pq => ?_⟩
  unfold mulX at q
  split at q
  · exact .inl (.inl (k1 x y H Q _ e L R rx ry g q pq))
  · exact .inl (.inr (k2 x y H Q _ e L R rx ry g q pq))
  · exact .inr (k3 x y H Q _ e L R rx ry g q pq)
end
structure Shw (x : D) (y : PyData) : Prop where
  f : pyF x = some y
  s : y.showable = true
  n : y.hasDict = false
  d : y.depth ≤ 20
  l : y.leavesShort 2000 = true
  b : y.bulk ≤ 200
theorem Shw.at {x : D} {y : PyData} (h : Shw x y) (L : Store) : pyT L x = some y := by
  cases x with
  | ref p => cases h.f
  | _ => exact h.f
theorem Shw.len {x : D} {y : PyData} (h : Shw x y) : y.shown.length ≤ sizeLine := by
  have h1 := PyData.shown_le_bulk 2000 (by decide) y h.l
  have h2 := h.b
  have h3 : (2000 + 2) * y.bulk ≤ (2000 + 2) * 200 := Nat.mul_le_mul_left _ h2
  rw [sizeLine_eq]
  omega
theorem pyFL_rep {x : D} {y : PyData} (h : pyF x = some y) : ∀ n : Nat, pyFL (List.replicate n x) = some (List.replicate n y)
  | 0 => rfl
  | n + 1 => by
    rw [List.replicate_succ, List.replicate_succ]
    unfold pyFL
    rw [h, pyFL_rep h n]
theorem Shw.many {x : D} {y : PyData} (h : Shw x y) : ∀ n : Nat, PyData.showableAll (List.replicate n y) = true ∧ PyData.hasDictAll (List.replicate n y) = false ∧ PyData.depthAll (List.replicate n y) ≤ y.depth ∧ PyData.leavesShortAll 2000 (List.replicate n y) = true ∧ PyData.bulkAll (List.replicate n y) = (y.bulk + 1) * n
  | 0 => ⟨rfl, rfl, Nat.zero_le _, rfl, rfl⟩
  | n + 1 => by
    obtain ⟨h1, h2, h3, h4, h5⟩ := Shw.many h n
    rw [List.replicate_succ]
    have hd := h.d
    have hb := h.b
    refine ⟨?_, ?_, ?_, ?_, ?_⟩
    · show (y.showable && _) = true
      rw [h.s, h1]
      rfl
    · show (y.hasDict || _) = false
      rw [h.n, h2]
      rfl
    · show max y.depth _ ≤ y.depth
      omega
    · show (y.leavesShort 2000 && _) = true
      rw [h.l, h4]
      rfl
    · show y.bulk + 1 + PyData.bulkAll (List.replicate n y) = _
      rw [h5, Nat.mul_succ]
      omega
theorem Shw.nine {x : D} {y : PyData} (h : Shw x y) {L : Store} {p : Addr} {R : AQ} (e : L p = some (.lst (List.replicate 9 x))) (q : R (.str (PyData.list (List.replicate 9 y)).shown) L) : reprA [.ref p] L R := by
  obtain ⟨h1, h2, h3, h4, h5⟩ := h.many 9
  refine ⟨.list (List.replicate 9 y), ?_, h1, h2, ?_, ?_, q⟩
  · show (match L p with | some (.lst l) => (pyFL l).map PyData.list | _ => none) = _
    rw [e]
    show (pyFL (List.replicate 9 x)).map PyData.list = _
    rw [pyFL_rep h.f]
    rfl
  · have hd := h.d
    show PyData.depthAll _ + 1 ≤ 40
    omega
  · have h6 := PyData.shown_le_bulk 2000 (by decide) (.list (List.replicate 9 y)) h4
    have hb := h.b
    have h7 : (2000 + 2) * (PyData.list (List.replicate 9 y)).bulk ≤ (2000 + 2) * (201 * 9) := Nat.mul_le_mul_left _ (by show PyData.bulkAll _ ≤ _; omega)
    rw [sizeLine_eq]
    omega
theorem Shw.one {x : D} {y : PyData} (h : Shw x y) {L : Store} {R : AQ} (q : R (.str y.shown) L) : reprA [x] L R := by
  have hd := h.d
  exact ⟨y, h.at L, h.s, h.n, by omega, h.len, q⟩
theorem Shw.str {z : Str} (h : (z.cps.toList.all fun c => decide (c < 16 ^ 8)) = true) (hz : z.cps.size ≤ 100) : Shw (.str z) (.str z) := ⟨rfl, rfl, rfl, Nat.zero_le _, h, by show z.cps.size ≤ 200; omega⟩
theorem Shw.int {i : Int} (h : i.natAbs < 2 ^ 1000) : Shw (.int i) (.int i) := by
  have h1 : i.natAbs.log2 < 1920 := by
    by_cases e : i.natAbs = 0
    · rw [e]
      decide +kernel
    · have h2 := (Nat.log2_lt e).mpr h
      omega
  exact ⟨rfl, decide_eq_true h1, rfl, Nat.zero_le _, decide_eq_true (Nat.le_trans (PyProof.Rows.int_text_len_1921 h1) (by decide)), Nat.zero_le _⟩
theorem drawn_all : ∀ x, x < 9 → ∀ y, y < 3 → (cutS ("(o) a1xZ~" : Str) none (some (1 + ((x : Nat) : Int)))).length ≤ 100 ∧ ((repS (cutS ("(o) a1xZ~" : Str) none (some (1 + (x : Int)))) (1 + ((y : Nat) : Int)).toNat).cps.toList.all fun c => decide (c < 16 ^ 8)) = true ∧
    (repS (cutS ("(o) a1xZ~" : Str) none (some (1 + (x : Int)))) (1 + (y : Int)).toNat).cps.size ≤ 60 := by decide +kernel
theorem shw_deep {z : Str} {n : Int} (hz : Shw (.str z) (.str z)) (hn : Shw (.int n) (.int n)) (h1 : z.cps.size ≤ 60) : Shw (.tup [.str z, .tup [.int n, .tup [.non, .tup []], .str z], .bl false, .int (-1)]) (.tuple [.str z, .tuple [.int n, .tuple [.none, .tuple []], .str z], .bool false, .int (-1)]) := by
  refine ⟨rfl, ?_, rfl, by simp [PyData.depth, PyData.depthAll], ?_, ?_⟩
  · show (true && (((PyData.int n).showable && ((true && (true && true)) && (true && true))) && (true && ((PyData.int (-1)).showable && true)))) = true
    rw [hn.s]
    decide +kernel
  · show (PyData.leavesShort 2000 (.str z) && ((PyData.leavesShort 2000 (.int n) && ((true && (true && true)) && (PyData.leavesShort 2000 (.str z) && true))) && (true && (PyData.leavesShort 2000 (.int (-1)) && true)))) = true
    rw [hz.l, hn.l]
    decide +kernel
  · show z.cps.size + 1 + ((0 + 1 + ((0 + 1 + (0 + 1 + 0)) + 1 + (z.cps.size + 1 + 0))) + 1 + (0 + 1 + (0 + 1 + 0))) ≤ 200
    omega
theorem shw_tups {k : Nat} (hk : k ≤ 10) : Shw (.tup (List.replicate k [D.tup []]).flatten) (.tuple (List.replicate k (.tuple []))) := by
  have h0 : Shw (.tup []) (.tuple []) := ⟨rfl, by decide +kernel, by decide +kernel, by decide +kernel, by decide +kernel, by decide +kernel⟩
  obtain ⟨h1, h2, h3, h4, h5⟩ := h0.many k
  have e1 : (PyData.tuple []).depth = 1 := by decide +kernel
  have e2 : (PyData.tuple []).bulk = 0 := by decide +kernel
  rw [e1] at h3
  rw [e2] at h5
  refine ⟨?_, h1, h2, ?_, h4, ?_⟩
  · rw [List.flatten_replicate_singleton]
    show (pyFL _).map PyData.tuple = _
    rw [pyFL_rep h0.f]
    rfl
  · show PyData.depthAll _ + 1 ≤ 20
    omega
  · show PyData.bulkAll _ ≤ 200
    omega
theorem errs_get {K : PySem.W.Frag} {x : D} : ∀ {i : Nat} {d : D}, (errsD K x)[i]? = some d → ∃ y ks ds, errL[i]? = some y ∧ d = .tup [.err (He.ga K y) ks ds, x] := fun {i d} h => by
  match i, h with
  | 0, h =>
    cases (show some (erA K x ("NoText", "index")) = some d from h)
    exact ⟨_, _, _, rfl, rfl⟩
  | 1, h =>
    cases (show some (erA K x ("NoBranch", "index")) = some d from h)
    exact ⟨_, _, _, rfl, rfl⟩
  | 2, h =>
    cases (show some (erA K x ("NoPlace", "step")) = some d from h)
    exact ⟨_, _, _, rfl, rfl⟩
  | 3, h =>
    cases (show some (erA K x ("TooLarge", "pieces")) = some d from h)
    exact ⟨_, _, _, rfl, rfl⟩
  | 4, h =>
    cases (show some (erA K x ("TooDeep", "basins")) = some d from h)
    exact ⟨_, _, _, rfl, rfl⟩
  | 5, h =>
    cases (show some (erA K x ("TooMany", "many")) = some d from h)
    exact ⟨_, _, _, rfl, rfl⟩
  | 6, h =>
    cases (show some (erA K x ("Rejected", "index")) = some d from h)
    exact ⟨_, _, _, rfl, rfl⟩
  | 7, h =>
    cases (show some (erA K x ("NoDifference", "branch")) = some d from h)
    exact ⟨_, _, _, rfl, rfl⟩
  | 8, h =>
    cases (show some (erA K x ("NoQuotient", "place")) = some d from h)
    exact ⟨_, _, _, rfl, rfl⟩
  | 9, h =>
    cases (show some (erB K x "NoBasin") = some d from h)
    exact ⟨_, _, _, rfl, rfl⟩
  | 10, h =>
    cases (show some (erB K x "Closed") = some d from h)
    exact ⟨_, _, _, rfl, rfl⟩
  | 11, h =>
    cases (show some (erB K x "Endless") = some d from h)
    exact ⟨_, _, _, rfl, rfl⟩
  | 12, h =>
    cases (show some (erB K x "NotKind") = some d from h)
    exact ⟨_, _, _, rfl, rfl⟩
  | 13, h =>
    cases (show some (erB K x "Nested") = some d from h)
    exact ⟨_, _, _, rfl, rfl⟩
  | 14, h =>
    cases (show some (erB K x "NoRow") = some d from h)
    exact ⟨_, _, _, rfl, rfl⟩
  | 15, h =>
    cases (show some (erB K x "NoDivision") = some d from h)
    exact ⟨_, _, _, rfl, rfl⟩
  | i + 16, h => exact nomatch (show (none : Option D) = some d from h)
theorem eqG_self {neg : Bool} {s : Str} {L : Store} {Q : AQ} (q : Q (.bl (!neg)) L) : eqG neg (.str s) (.str s) L Q := by
  show Q (.bl (neg ^^ decide (s = s))) L
  rw [decide_eq_true rfl]
  simpa using q
theorem eqG_bl {neg a b : Bool} {L : Store} {Q : AQ} (q : Q (.bl (neg ^^ decide (a = b))) L) : eqG neg (.bl a) (.bl b) L Q := q
theorem blD_f {R : Bool → Prop} (h : R false) : blD (D.bl (true ^^ true)) R := h
theorem aNil_go {env : En} {L : Store} {k : List D → Store → Prop} (h : k [] L) : aNil env L k := h
theorem treeD_go {t : JW.T} {R : JW.T → Prop} (h : R t) : treeD (.tree t) R := h
theorem aC_go {d : D} {env : En} {L : Store} {Q : AQ} (h : Q d L) : aC d env L Q := h
theorem eqG_of {neg : Bool} {a b : Str} {L : Store} {Q : AQ} (e : a = b) (q : Q (.bl (!neg)) L) : eqG neg (.str a) (.str b) L Q := by
  subst e
  exact eqG_self q
theorem canon_oj : JW.T.canon (.bas [.jet, .bas []]) = .bas [.bas [], .jet] := by
  have e1 : JW.T.canon .jet = .jet := rfl
  have e2 : JW.T.canon (.bas []) = .bas [] := by decide +kernel
  have e3 : sortT [.jet, .bas []] = [.bas [], .jet] := (sortT_eq (List.Perm.swap _ _ _) (List.pairwise_pair.mpr (by decide +kernel))).symm
  rw [canon_bas]
  show JW.T.bas (sortT [JW.T.canon .jet, JW.T.canon (.bas [])]) = _
  rw [e1, e2, e3]
theorem reprOr {i j : Nat} {x : D} {y : PyData} (hx : Shw x y) {env : En} (e1 : env[i]? = some (some x)) (e2 : env[j]? = some (some x)) {u : ATT} {L : Store} {Q : Bool → Store → Prop} (h : u env L Q) :
    aOr (aBl (aOp (eqG true) (aB reprA (aCons (aVar i) aNil)) (aB reprA (aCons (aVar j) aNil)))) u env L Q := by
  unfold aOr aBl aOp aB aCons aVar
  simp only [e1, e2, aNil]
  exact hx.one (hx.one (eqG_self (blD_f (ite_f rfl h))))
theorem blT_go {R : Bool → Prop} (h : R true) : blD (D.bl true) R := h
theorem in_div : ∀ j, j < 16 → (false ^^ inL (.int ((j : Nat) : Int)) [.int 7, .int 8, .int 15]) = decide (j = 7 ∨ j = 8 ∨ j = 15) := by decide +kernel
theorem enumD_inv {l : List D} {i : Nat} {d : D} (h : (enumD l)[i]? = some d) : ∃ e, l[i]? = some e ∧ d = .tup [.int (i : Nat), e] := by
  have hi : i < l.length := by
    rw [← enumD_len (l := l)]
    exact (List.getElem?_eq_some_iff.mp h).1
  have e := enumD_get (l := l) (i := i) (List.getElem?_eq_getElem hi)
  rw [e] at h
  exact ⟨_, List.getElem?_eq_getElem hi, (Option.some.inj h).symm⟩
def theXs (n : Int) (z : Str) (k : Nat) : List D := [.int n, .int (0 - n), .str ("text" : Str), .str ("" : Str), .non, .tup [.int 1, .str ("a" : Str)], .tup [], .bl true, .bl false, .int ((10 : Int) ^ (40 : Int).toNat + n), .str z] ++
  [.tup [.str z, .tup [.int n, .tup [.non, .tup []], .str z], .bl false, .int (-1)], .tup (List.replicate k [D.tup []]).flatten]
theorem xs_ok {n : Int} {z : Str} {k : Nat} (n0 : 0 ≤ n) (n1 : n < 1000000) (w2 : (z.cps.toList.all fun c => decide (c < 16 ^ 8)) = true) (w3 : z.cps.size ≤ 60) (hk : k ≤ 10) : ∀ v ∈ theXs n z k, ∃ y, Shw v y := fun v hv => by
  have big : (2 : Nat) ^ 1000 ≥ 2 ^ 200 := Nat.pow_le_pow_right (by decide) (by decide)
  have big2 : (2 : Nat) ^ 200 > 10 ^ 40 + 1000000 := by decide +kernel
  have hn : Shw (.int n) (.int n) := .int (by omega)
  have hz : Shw (.str z) (.str z) := .str w2 (by omega)
  have e40 : ((10 : Int) ^ (40 : Int).toNat + n).natAbs < 2 ^ 1000 := by
    have e : (10 : Int) ^ (40 : Int).toNat = ((10 ^ 40 : Nat) : Int) := by decide +kernel
    rw [e]
    omega
  simp only [theXs, List.mem_append, List.mem_cons, List.not_mem_nil, or_false] at hv
  rcases hv with (rfl | rfl | rfl | rfl | rfl | rfl | rfl | rfl | rfl | rfl | rfl) | rfl | rfl
  · exact ⟨_, hn⟩
  · exact ⟨_, .int (by omega)⟩
  · exact ⟨_, .str (by decide +kernel) (by decide +kernel)⟩
  · exact ⟨_, .str (by decide +kernel) (by decide +kernel)⟩
  · exact ⟨.none, rfl, by decide +kernel, by decide +kernel, by decide +kernel, by decide +kernel, by decide +kernel⟩
  · exact ⟨.tuple [.int 1, .str "a"], rfl, by decide +kernel, by decide +kernel, by decide +kernel, by decide +kernel, by decide +kernel⟩
  · exact ⟨.tuple [], rfl, by decide +kernel, by decide +kernel, by decide +kernel, by decide +kernel, by decide +kernel⟩
  · exact ⟨.bool true, rfl, by decide +kernel, by decide +kernel, by decide +kernel, by decide +kernel, by decide +kernel⟩
  · exact ⟨.bool false, rfl, by decide +kernel, by decide +kernel, by decide +kernel, by decide +kernel, by decide +kernel⟩
  · exact ⟨_, .int e40⟩
  · exact ⟨_, hz⟩
  · exact ⟨_, shw_deep hz hn w3⟩
  · exact ⟨_, shw_tups hk⟩
def sp_law (K : PySem.W.Frag) : Sp := fun vs H Q _ => ∃ (a : Addr) (ns : List Int), vs = [.ref a] ∧ SqL K H a (ns.map V.int) ∧ ns.length ≤ 63 ∧ LamX.Tabs (TT K) H ∧ ∀ H', Q (.bl true) H'
theorem fn_law (T : Txt K mg base) {f : Addr} {fd : FuncData} (F : FunD K "law" "law" (defArgs s_law) (defBody s_law) (defScope s_law) [] [] f fd) : FnOkG P w K mg base CX0 101 f fd ["_law_script"] (sp_law K) := by
  refine okFG F sc_law (fun vs H Q E h => ?_) (fun cdv A outer s H vs Q E hA hr h => ?_)
  · obtain ⟨a, ns, rfl, _⟩ := h
    rfl
  · obtain ⟨a, ns, rfl, hS, hlen, hT, k⟩ := h
    have hb : ASs (cxOf CX0 P w K mg base ["_law_script", "_law_feed_here", "_law_number", "_law_drawn", "_law_some", "_law_x", "_law_k", "_law_error", "_law_kept", "_law_own"] "law" (defScope s_law) f cdv A outer s H E).nox (cA K (some (a, ns))) H (defBody s_law) _ := (as_cons (as_set (i := 1) sc_law.nd rfl (by first | exact Or.inl rfl | exact Or.inr rfl) (ae_call (okA__law_feed T) (hr.mono (by decide)) (by rfl) (aa_cons (av 0) (aa_cons ae_int aa_nil))))
      (as_cons (as_set (i := 2) sc_law.nd rfl (by first | exact Or.inl rfl | exact Or.inr rfl) (ae_call (okA__law_draw T) (hr.mono (by decide)) (by rfl) (aa_cons (av 1) (aa_cons (ae_op aop_pow ae_int ae_int) aa_nil))))
      (as_cons (as_set (i := 3) sc_law.nd rfl (by first | exact Or.inl rfl | exact Or.inr rfl) (ae_op aop_mulX (ae_sl ae_str ao_none (ao_some (ae_op aop_add ae_int (ae_call (okA__law_draw T) (hr.mono (by decide)) (by rfl) (aa_cons (av 1) (aa_cons ae_int aa_nil)))))) (ae_op aop_add ae_int (ae_call (okA__law_draw T) (hr.mono (by decide)) (by rfl) (aa_cons (av 1) (aa_cons ae_int aa_nil))))))
      (as_cons (as_set (i := 4) sc_law.nd rfl (by first | exact Or.inl rfl | exact Or.inr rfl) (ae_lst (aa_cons (av 2) (aa_cons (ae_op aop_sub ae_int (av 2)) (aa_cons ae_str (aa_cons ae_str (aa_cons ae_non (aa_cons (ae_tup (aa_cons ae_int (aa_cons ae_str aa_nil))) (aa_cons (ae_tup aa_nil) (aa_cons ae_bl (aa_cons ae_bl (aa_cons (ae_op aop_add (ae_op aop_pow ae_int ae_int) (av 2)) (aa_cons (av 3) aa_nil)))))))))))))
      (as_cons (as_set (i := 4) sc_law.nd rfl (by first | exact Or.inl rfl | exact Or.inr rfl) (ae_op aop_add (av 4) (ae_lst (aa_cons (ae_tup (aa_cons (av 3) (aa_cons (ae_tup (aa_cons (av 2) (aa_cons (ae_tup (aa_cons ae_non (aa_cons (ae_tup aa_nil) aa_nil))) (aa_cons (av 3) aa_nil)))) (aa_cons ae_bl (aa_cons (ae_neg ae_int) aa_nil))))) (aa_cons (ae_op aop_mulX (ae_tup (aa_cons (ae_tup aa_nil) aa_nil)) (ae_op aop_add ae_int (ae_call (okA__law_draw T) (hr.mono (by decide)) (by rfl) (aa_cons (av 1) (aa_cons ae_int aa_nil))))) aa_nil)))))
      (as_cons (as_for PassesOwn.never rfl (ai_list (av 4)) (ag_name (i := 5) sc_law.nd rfl (by first | exact Or.inl rfl | exact Or.inr rfl))
        (as_cons (as_if (at_cmp (aop_neG T.cls (okF_eq T) (hr.mono (by decide)) hr.units) (ae_b (acb_reprA hA.deeper hr.units) (by rfl) T.n_repr (by decide +kernel) (aa_cons (ae_call (okA__law_by_names T) (hr.mono (by decide)) (by rfl) (aa_cons (av 5) aa_nil)) aa_nil)) (ae_b (acb_reprA hA.deeper hr.units) (by rfl) T.n_repr (by decide +kernel) (aa_cons (ae_op aop_mulX (ae_lst (aa_cons (av 5) aa_nil)) ae_int) aa_nil)) (nomark _))
          (as_one (as_ret ae_bl))
          as_nil)
        (as_one (as_for PassesOwn.never rfl (ai_enumL (by rfl) T.n_enumerate (aa_cons (ae_call (okA__law_errors T) (hr.mono (by decide)) (by rfl) (aa_cons (av 5) aa_nil)) aa_nil)) (ag_tup (n := 2) rfl (ags_cons (ag_name (i := 6) sc_law.nd rfl (by first | exact Or.inl rfl | exact Or.inr rfl)) (ags_cons (ag_tup (n := 2) rfl (ags_cons (ag_name (i := 7) sc_law.nd rfl (by first | exact Or.inl rfl | exact Or.inr rfl)) (ags_cons (ag_name (i := 8) sc_law.nd rfl (by first | exact Or.inl rfl | exact Or.inr rfl)) ags_nil)) (fun _ _ _ _ z => agNs_len (js := [7, 8]) z)) ags_nil)) agN12_len)
          (as_cons (as_if (at_via (AW.pt (aw_or (at_cmp (aop_neG T.cls (okF_eq T) (hr.mono (by decide)) hr.units) (ae_b (acb_reprA hA.deeper hr.units) (by rfl) T.n_repr (by decide +kernel) (aa_cons (av 8) aa_nil)) (ae_b (acb_reprA hA.deeper hr.units) (by rfl) T.n_repr (by decide +kernel) (aa_cons (av 5) aa_nil)) (nomark _)) (aw_or1 (at_cmp (aop_neG T.cls (okF_eq T) (hr.mono (by decide)) hr.units) (ae_call (okA__law_sorts T) (hr.mono (by decide)) (by rfl) (aa_cons (av 7) aa_nil)) (ae_lc (own := [("_law_own", 9)]) (by rfl) sc_law.nd (ai_rng1 (by rfl) T.n_range (aa_cons ae_int aa_nil)) (blkOk_by (by kernel_rfl)) (tgOk_name (by decide)) (fun _ _ _ _ _ => pg_name (i := 9) sc_law.nd rfl (by first | exact Or.inl rfl | exact Or.inr rfl)) (fun _ _ _ _ _ => (ae_cmp (aop_eqG (okF_eq T) (hr.mono (by decide)) hr.units) (av 9) (av 6) (nomark _)))) (nomark _))))))
            (as_one (as_ret ae_bl))
            as_nil)
          (as_cons (as_if (at_via (AW.pt (aw_or (at_not (at_bl (ae_b (acb_isErr (K := K) rfl) (by rfl) T.n_isinstance (by decide +kernel) (aa_cons (av 7) (aa_cons (ae_c (d := .ref (He.ga K "JetError")) (pe_glob (v := .ref (He.ga K "JetError")) rfl T.e_JetError.g rfl) (fun _ => rep_ref.mpr rfl)) aa_nil))))) (aw_or1 (at_not (at_bl (ae_b (acb_isErr (K := K) rfl) (by rfl) T.n_isinstance (by decide +kernel) (aa_cons (av 7) (aa_cons (ae_c (d := .ty "ValueError") (pe_bltn (v := .ty "ValueError") (by rfl) T.n_ValueError (by decide +kernel) rfl) (fun _ => rep_ty.mpr rfl)) aa_nil)))))))))
            (as_one (as_ret ae_bl))
            as_nil)
          (as_one (as_if (at_cmp (aop_neG T.cls (okF_eq T) (hr.mono (by decide)) hr.units) (ae_b (acb_isErr (K := K) rfl) (by rfl) T.n_isinstance (by decide +kernel) (aa_cons (av 7) (aa_cons (ae_c (d := .ref (He.ga K "NoDivision")) (pe_glob (v := .ref (He.ga K "NoDivision")) rfl T.e_NoDivision.g rfl) (fun _ => rep_ref.mpr rfl)) aa_nil))) (ae_cmp aop_in (av 6) (ae_tup (aa_cons ae_int (aa_cons ae_int (aa_cons ae_int aa_nil)))) (by rfl)) (nomark _))
            (as_one (as_ret ae_bl))
            as_nil))))))))
      (as_one (as_ret (ae_cmp (aop_eqG (okF_eq T) (hr.mono (by decide)) hr.units) (ae_propG (fun t => .str (tx t)) (fun _ _ => rep_str.mpr rfl) T.cls.c (ok_Fountain_text T) (hr.mono (by decide)) (ae_makeK (asp := aspRead) (okK_Fountain___init___read T) (hr.mono (by decide)) (by rfl) ae_str mkA_read) rfl) ae_str (nomark _))))))))))
    refine ⟨_, hb, ?_⟩
    refine law_low (c := cA K (some (a, ns))) rfl hlen hS hT (fun H' => k H') ?_
    clear hb
    have hsl := sizeLine_eq
    refine ⟨by decide, by decide, fun d hd => ?_⟩
    have fed : sput law0 d feedM d = some feedM := sput_same
    generalize sput law0 d feedM = L1 at fed ⊢
    refine ⟨⟨by decide, by decide, by decide⟩, fed, by decide, by decide, fun n n0 n1 => ?_⟩
    refine ⟨fed, by decide, by decide, fun x x0 x1 => ⟨by decide, fed, by decide, by decide, fun y y0 y1 => ?_⟩⟩
    obtain ⟨x, rfl⟩ := Int.eq_ofNat_of_zero_le x0
    obtain ⟨y, rfl⟩ := Int.eq_ofNat_of_zero_le y0
    obtain ⟨w1, w2, w3⟩ := drawn_all x (by omega) y (by omega)
    refine ⟨by omega, by omega, w1, ?_⟩
    generalize repS (cutS ("(o) a1xZ~" : Str) none (some (1 + (x : Int)))) (1 + (y : Int)).toNat = z at w2 w3
    have two : (2 : Nat) ≤ sizeLine := by omega
    refine ⟨two, Nat.zero_le _, ⟨by decide, by decide, by decide⟩, by show (11 : Nat) ≤ sizeLine; omega, fun P hP => ?_⟩
    have fed2 := sput_old (n := .lst [.int n, .int (0 - n), .str ("text" : Str), .str ("" : Str), .non, .tup [.int 1, .str ("a" : Str)], .tup [], .bl true, .bl false, .int ((10 : Int) ^ (40 : Int).toNat + n), .str z]) fed hP
    have p2 : sput L1 P (.lst [.int n, .int (0 - n), .str ("text" : Str), .str ("" : Str), .non, .tup [.int 1, .str ("a" : Str)], .tup [], .bl true, .bl false, .int ((10 : Int) ^ (40 : Int).toNat + n), .str z]) P = some (.lst [.int n, .int (0 - n), .str ("text" : Str), .str ("" : Str), .non, .tup [.int 1, .str ("a" : Str)], .tup [], .bl true, .bl false, .int ((10 : Int) ^ (40 : Int).toNat + n), .str z]) := sput_same
    show agName 4 _ _ (sput L1 P (.lst [.int n, .int (0 - n), .str ("text" : Str), .str ("" : Str), .non, .tup [.int 1, .str ("a" : Str)], .tup [], .bl true, .bl false, .int ((10 : Int) ^ (40 : Int).toNat + n), .str z])) _
    generalize sput L1 P (.lst [.int n, .int (0 - n), .str ("text" : Str), .str ("" : Str), .non, .tup [.int 1, .str ("a" : Str)], .tup [], .bl true, .bl false, .int ((10 : Int) ^ (40 : Int).toNat + n), .str z]) = L2 at fed2 p2 ⊢
    refine ⟨Nat.zero_le _, two, by show (3 : Nat) ≤ sizeLine; omega, by show (4 : Nat) ≤ sizeLine; omega, Nat.zero_le _, by show (1 : Nat) ≤ sizeLine; omega, fed2, by decide, by decide, fun v v0 v1 => ?_⟩
    refine ⟨by show (1 : Nat) ≤ 1000; decide, by omega, by omega, List.cons_ne_nil _ _, two, fun G hG => ⟨_, _, sput_old p2 hG, sput_same, by show (13 : Nat) ≤ sizeLine; omega, fun M hM => ?_⟩⟩
    show agName 4 _ _ (sput (sput L2 G _) M (.lst (theXs n z (1 + v).toNat))) _
    have hxs := xs_ok (k := (1 + v).toNat) n0 n1 w2 w3 (by omega)
    generalize theXs n z (1 + v).toNat = xs at hxs
    generalize eS : sput (sput L2 G _) M (.lst xs) = L3
    have m3 : L3 M = some (.lst xs) := by
      rw [← eS]
      exact sput_same
    clear eS hM hG p2 fed2 hP
    refine ⟨_, m3, ?_⟩
    refine loop_k xs (fun _ env L' => L' M = some (.lst xs) ∧ ∃ x5 x6 x7 x8 x9 : Option D, env = [some D.scr, some (.ref d), some (.int n), some (.str z), some (.ref M), x5, x6, x7, x8, x9]) (fun _ _ _ _ h => h.1) ?step ?fin _ _ ⟨m3, _, _, _, _, _, rfl⟩
    case fin =>
      rintro env L' ⟨_, x5, x6, x7, x8, x9, rfl⟩
      have e9 : ("(o())" : Str) = tx (.bas [.jet, .bas []]) := by decide +kernel
      refine ⟨.bas [.jet, .bas []], e9, by decide, by decide, ?_⟩
      have e10 : tx (.bas [.bas [], .jet]) = ("(()o)" : Str) := by decide +kernel
      rw [canon_oj]
      refine treeD_go (aC_go (eqG_of e10 ?_))
      exact (ret_of (R := fun d _ => d = D.bl true) (L := L') rfl : ∃ L0, SubS L0 L' ∧ D.bl true = D.bl true)
    rintro i x env L' n2 hi kn ⟨m4, x5, x6, x7, x8, x9, rfl⟩
    obtain ⟨y, hx⟩ := hxs x (List.mem_of_getElem? hi)
    clear hi
    refine fun A1 h1 => ?_
    refine aNil_go ?_
    refine hx.nine sput_same ?_
    have m5 := sput_old (n := .lst (List.replicate 9 x)) m4 h1
    generalize sput L' A1 (.lst (List.replicate 9 x)) = L5 at m5 ⊢
    refine ⟨by show (1 : Nat) ≤ sizeLine; omega, fun A2 h2 => ⟨_, sput_same, by decide, by decide, by show (9 : Nat) ≤ sizeLine; omega, fun A3 h3 => ?_⟩⟩
    refine aNil_go ?_
    refine hx.nine sput_same ?_
    have m6 := sput_old (n := .lst (List.replicate (9 : Int).toNat [x]).flatten) (sput_old (n := .lst [x]) m5 h2) h3
    generalize sput (sput L5 A2 (.lst [x])) A3 (.lst (List.replicate (9 : Int).toNat [x]).flatten) = L6 at m6 ⊢
    refine eqG_self ?_
    refine blD_f ?_
    refine ite_f rfl ?_
    clear m5 h1 h2 h3 m4
    -- the errors
    refine fun B hB => ⟨_, sput_same, ?_⟩
    have b7 : sput L6 B (.lst (errsD K x)) B = some (.lst (errsD K x)) := sput_same
    have m7 := sput_old (n := .lst (errsD K x)) m6 hB
    generalize sput L6 B (.lst (errsD K x)) = L7 at b7 m7 ⊢
    refine loop_k (enumD (errsD K x)) (fun _ env L' => L' M = some (.lst xs) ∧ L' B = some (.lst (errsD K x)) ∧ ∃ x6 x7 x8 x9 : Option D, env = [some D.scr, some (.ref d), some (.int n), some (.str z), some (.ref M), some x, x6, x7, x8, x9]) (fun _ _ _ _ h => h.2.1) ?step3 ?fin3 _ _ ⟨m7, b7, _, _, _, _, rfl⟩
    case fin3 =>
      rintro env L' ⟨m8, _, x6, x7, x8, x9, rfl⟩
      exact kn _ _ ⟨m8, _, _, _, _, _, rfl⟩
    rintro j t env L' n4 hj kn4 ⟨m8, b8, x6, x7, x8, x9, rfl⟩
    obtain ⟨e, he, rfl⟩ := enumD_inv hj
    obtain ⟨yy, ks, ds, ey, rfl⟩ := errs_get he
    obtain ⟨h16, k1, k2, k3, k4, k5⟩ := errK T ey
    clear hj he kn m7 b7 m6
    refine ⟨rfl, rfl, ?_⟩
    refine ⟨fun k L2 => k = false ∧ L2 M = some (.lst xs) ∧ L2 B = some (.lst (errsD K x)), ?_, fun k L2 ⟨ek, m9, b9⟩ => ite_f ek ?_⟩
    · refine reprOr hx rfl rfl ?_
      refine ⟨j, yy, ey, rfl, fun S1 hS1 => ?_⟩
      have m9 := sput_old (n := .lst ((List.range 15).map fun i => D.bl (decide (i = j)))) m8 hS1
      have b9 := sput_old (n := .lst ((List.range 15).map fun i => D.bl (decide (i = j)))) b8 hS1
      have s9 : sput L' S1 (.lst ((List.range 15).map fun i => D.bl (decide (i = j)))) S1 = some (.lst ((List.range 15).map fun i => D.bl (decide (i = j)))) := sput_same
      generalize sput L' S1 (.lst ((List.range 15).map fun i => D.bl (decide (i = j)))) = L8 at m9 b9 s9 ⊢
      refine ⟨by decide, by decide, fun E hE => ?_⟩
      have eq9 : ∀ i : Nat, (false ^^ decide ((0 : Int) + ((i : Nat) : Int) = ((j : Nat) : Int))) = decide (i = j) := fun i => by
        rw [Bool.false_xor]
        exact decide_eq_decide.mpr (by omega)
      refine comp_mapA (fun i : Nat => D.int (0 + ((i : Nat) : Int))) (fun i : Nat => D.bl (decide (i = j))) (fun _ => trivial) (List.range 15) [] (by show (15 : Nat) ≤ sizeLine; omega) (fun i _ l k hk => ⟨rfl, ?_⟩) ?_
      · rw [← eq9 i] at hk
        exact hk
      rw [List.nil_append]
      refine ⟨_, _, sput_old s9 hE, sput_same, eqSq_self (plainL_map (fun _ => rfl) _) (by rw [depDL_map fun _ => rfl]; exact Nat.zero_le _) ?_⟩
      exact ⟨rfl, sput_old m9 hE, sput_old b9 hE⟩
    clear m8 b8
    refine ⟨fun k L3 => k = false ∧ L3 = L2, ?_, fun k L3 ⟨ek, eL⟩ => ?_⟩
    · refine ⟨_, _, _, _, _, rfl, rfl, k1, k3, ?_⟩
      refine blT_go ?_
      refine ite_f rfl ?_
      exact ⟨_, _, _, _, _, rfl, rfl, k1, k4, rfl, rfl⟩
    subst eL
    refine ite_f ek ?_
    refine ⟨_, _, _, _, _, rfl, rfl, k1, k5, by show (3 : Nat) ≤ sizeLine; omega, rfl, rfl, ?_⟩
    rw [in_div j h16]
    refine eqG_bl ?_
    rw [decide_eq_true rfl]
    refine blD_f ?_
    refine ite_f rfl ?_
    exact kn4 _ _ ⟨m9, b9, _, _, _, _, rfl⟩
end
theorem txt_of {K : PySem.W.Frag} {h h0 base : Heap} {mg : Str → Option Value} (X : K.In h) (G : h.Ns mainGlobals mg) (c : SaysE fa fn tf ex fx h0 K) (TB : ∀ p ∈ tf.map (cT K), LamX.TabB base mg p.1 p.2) : Txt K mg base where
  cls := clsF_of (glo_ok X G (c.d.fact 0 (f := .glo "Fountain") rfl)) (cls_ok (c.d.fact 1 (f := .cls "Fountain") rfl)) (noat_ok (c.d.fact 2 (f := .noat "Fountain" "written") rfl)) (noat_ok (c.d.fact 3 (f := .noat "Fountain" "branches") rfl)) (noat_ok (c.d.fact 4 (f := .noat "Fountain" "numbers") rfl)) (exs c).1
  gMOST := int_ok X G (c.d.fact 5 (f := .int "MOST" 5000) rfl)
  gDEEPEST := int_ok X G (c.d.fact 6 (f := .int "DEEPEST" 120) rfl)
  gJET_TEXT := str_ok X G (c.d.fact 7 (f := .str "JET_TEXT" "o") rfl)
  e_NoText := by
    obtain ⟨fd, F⟩ := c.d.def_ 0 (d := dfn "NoText" (some "__init__") "__init__" "NoText.__init__" s_NoText___init__ [] []) rfl
    exact ⟨glo_ok X G (c.d.fact 8 (f := .glo "NoText") rfl), (errB_ok (all_at (exs c).2.2.2.1 0 (a := "NoText") rfl)).1, _, fd, (errB_ok (all_at (exs c).2.2.2.1 0 (a := "NoText") rfl)).2.1, (errB_ok (all_at (exs c).2.2.2.1 0 (a := "NoText") rfl)).2.2, F, F.bindsN fun _ _ _ _ _ _ us hl => match us, hl with | [_, _], _ => rfl⟩
  na_NoText := noat_ok (c.d.fact 9 (f := .noat "NoText" "index") rfl)
  e_NoBasin := by
    obtain ⟨fd, F⟩ := c.d.def_ 1 (d := dfn "NoBasin" (some "__init__") "__init__" "NoBasin.__init__" s_NoBasin___init__ [] []) rfl
    exact ⟨glo_ok X G (c.d.fact 10 (f := .glo "NoBasin") rfl), (errB_ok (all_at (exs c).2.2.2.1 1 (a := "NoBasin") rfl)).1, _, fd, (errB_ok (all_at (exs c).2.2.2.1 1 (a := "NoBasin") rfl)).2.1, (errB_ok (all_at (exs c).2.2.2.1 1 (a := "NoBasin") rfl)).2.2, F, F.bindsN fun _ _ _ _ _ _ us hl => match us, hl with | [_], _ => rfl⟩
  e_NoBranch := by
    obtain ⟨fd, F⟩ := c.d.def_ 2 (d := dfn "NoBranch" (some "__init__") "__init__" "NoBranch.__init__" s_NoBranch___init__ [] []) rfl
    exact ⟨glo_ok X G (c.d.fact 11 (f := .glo "NoBranch") rfl), (errB_ok (all_at (exs c).2.2.2.1 2 (a := "NoBranch") rfl)).1, _, fd, (errB_ok (all_at (exs c).2.2.2.1 2 (a := "NoBranch") rfl)).2.1, (errB_ok (all_at (exs c).2.2.2.1 2 (a := "NoBranch") rfl)).2.2, F, F.bindsN fun _ _ _ _ _ _ us hl => match us, hl with | [_, _], _ => rfl⟩
  na_NoBranch := noat_ok (c.d.fact 12 (f := .noat "NoBranch" "index") rfl)
  e_NoPlace := by
    obtain ⟨fd, F⟩ := c.d.def_ 3 (d := dfn "NoPlace" (some "__init__") "__init__" "NoPlace.__init__" s_NoPlace___init__ [] []) rfl
    exact ⟨glo_ok X G (c.d.fact 13 (f := .glo "NoPlace") rfl), (errB_ok (all_at (exs c).2.2.2.1 3 (a := "NoPlace") rfl)).1, _, fd, (errB_ok (all_at (exs c).2.2.2.1 3 (a := "NoPlace") rfl)).2.1, (errB_ok (all_at (exs c).2.2.2.1 3 (a := "NoPlace") rfl)).2.2, F, F.bindsN fun _ _ _ _ _ _ us hl => match us, hl with | [_, _], _ => rfl⟩
  na_NoPlace := noat_ok (c.d.fact 14 (f := .noat "NoPlace" "step") rfl)
  e_Closed := by
    obtain ⟨fd, F⟩ := c.d.def_ 4 (d := dfn "Closed" (some "__init__") "__init__" "Closed.__init__" s_Closed___init__ [] []) rfl
    exact ⟨glo_ok X G (c.d.fact 15 (f := .glo "Closed") rfl), (errB_ok (all_at (exs c).2.2.2.1 4 (a := "Closed") rfl)).1, _, fd, (errB_ok (all_at (exs c).2.2.2.1 4 (a := "Closed") rfl)).2.1, (errB_ok (all_at (exs c).2.2.2.1 4 (a := "Closed") rfl)).2.2, F, F.bindsN fun _ _ _ _ _ _ us hl => match us, hl with | [_], _ => rfl⟩
  e_TooLarge := by
    obtain ⟨fd, F⟩ := c.d.def_ 5 (d := dfn "TooLarge" (some "__init__") "__init__" "TooLarge.__init__" s_TooLarge___init__ [] []) rfl
    exact ⟨glo_ok X G (c.d.fact 16 (f := .glo "TooLarge") rfl), (errB_ok (all_at (exs c).2.2.2.1 5 (a := "TooLarge") rfl)).1, _, fd, (errB_ok (all_at (exs c).2.2.2.1 5 (a := "TooLarge") rfl)).2.1, (errB_ok (all_at (exs c).2.2.2.1 5 (a := "TooLarge") rfl)).2.2, F, F.bindsN fun _ _ _ _ _ _ us hl => match us, hl with | [_, _], _ => rfl⟩
  na_TooLarge := noat_ok (c.d.fact 17 (f := .noat "TooLarge" "pieces") rfl)
  e_TooDeep := by
    obtain ⟨fd, F⟩ := c.d.def_ 6 (d := dfn "TooDeep" (some "__init__") "__init__" "TooDeep.__init__" s_TooDeep___init__ [] []) rfl
    exact ⟨glo_ok X G (c.d.fact 18 (f := .glo "TooDeep") rfl), (errB_ok (all_at (exs c).2.2.2.1 6 (a := "TooDeep") rfl)).1, _, fd, (errB_ok (all_at (exs c).2.2.2.1 6 (a := "TooDeep") rfl)).2.1, (errB_ok (all_at (exs c).2.2.2.1 6 (a := "TooDeep") rfl)).2.2, F, F.bindsN fun _ _ _ _ _ _ us hl => match us, hl with | [_, _], _ => rfl⟩
  na_TooDeep := noat_ok (c.d.fact 19 (f := .noat "TooDeep" "basins") rfl)
  e_TooMany := by
    obtain ⟨fd, F⟩ := c.d.def_ 7 (d := dfn "TooMany" (some "__init__") "__init__" "TooMany.__init__" s_TooMany___init__ [] []) rfl
    exact ⟨glo_ok X G (c.d.fact 20 (f := .glo "TooMany") rfl), (errB_ok (all_at (exs c).2.2.2.1 7 (a := "TooMany") rfl)).1, _, fd, (errB_ok (all_at (exs c).2.2.2.1 7 (a := "TooMany") rfl)).2.1, (errB_ok (all_at (exs c).2.2.2.1 7 (a := "TooMany") rfl)).2.2, F, F.bindsN fun _ _ _ _ _ _ us hl => match us, hl with | [_, _], _ => rfl⟩
  na_TooMany := noat_ok (c.d.fact 21 (f := .noat "TooMany" "many") rfl)
  e_Endless := by
    obtain ⟨fd, F⟩ := c.d.def_ 8 (d := dfn "Endless" (some "__init__") "__init__" "Endless.__init__" s_Endless___init__ [] []) rfl
    exact ⟨glo_ok X G (c.d.fact 22 (f := .glo "Endless") rfl), (errB_ok (all_at (exs c).2.2.2.1 8 (a := "Endless") rfl)).1, _, fd, (errB_ok (all_at (exs c).2.2.2.1 8 (a := "Endless") rfl)).2.1, (errB_ok (all_at (exs c).2.2.2.1 8 (a := "Endless") rfl)).2.2, F, F.bindsN fun _ _ _ _ _ _ us hl => match us, hl with | [_], _ => rfl⟩
  e_NotKind := by
    obtain ⟨fd, F⟩ := c.d.def_ 9 (d := dfn "NotKind" (some "__init__") "__init__" "NotKind.__init__" s_NotKind___init__ [] []) rfl
    exact ⟨glo_ok X G (c.d.fact 23 (f := .glo "NotKind") rfl), (errB_ok (all_at (exs c).2.2.2.1 9 (a := "NotKind") rfl)).1, _, fd, (errB_ok (all_at (exs c).2.2.2.1 9 (a := "NotKind") rfl)).2.1, (errB_ok (all_at (exs c).2.2.2.1 9 (a := "NotKind") rfl)).2.2, F, F.bindsN fun _ _ _ _ _ _ us hl => match us, hl with | [_], _ => rfl⟩
  e_Nested := by
    obtain ⟨fd, F⟩ := c.d.def_ 10 (d := dfn "Nested" (some "__init__") "__init__" "Nested.__init__" s_Nested___init__ [] []) rfl
    exact ⟨glo_ok X G (c.d.fact 24 (f := .glo "Nested") rfl), (errB_ok (all_at (exs c).2.2.2.1 10 (a := "Nested") rfl)).1, _, fd, (errB_ok (all_at (exs c).2.2.2.1 10 (a := "Nested") rfl)).2.1, (errB_ok (all_at (exs c).2.2.2.1 10 (a := "Nested") rfl)).2.2, F, F.bindsN fun _ _ _ _ _ _ us hl => match us, hl with | [_], _ => rfl⟩
  e_Rejected := by
    obtain ⟨fd, F⟩ := c.d.def_ 11 (d := dfn "Rejected" (some "__init__") "__init__" "Rejected.__init__" s_Rejected___init__ [] []) rfl
    exact ⟨glo_ok X G (c.d.fact 25 (f := .glo "Rejected") rfl), (errB_ok (all_at (exs c).2.2.2.1 11 (a := "Rejected") rfl)).1, _, fd, (errB_ok (all_at (exs c).2.2.2.1 11 (a := "Rejected") rfl)).2.1, (errB_ok (all_at (exs c).2.2.2.1 11 (a := "Rejected") rfl)).2.2, F, F.bindsN fun _ _ _ _ _ _ us hl => match us, hl with | [_, _], _ => rfl⟩
  na_Rejected := noat_ok (c.d.fact 26 (f := .noat "Rejected" "index") rfl)
  e_NoRow := by
    obtain ⟨fd, F⟩ := c.d.def_ 12 (d := dfn "NoRow" (some "__init__") "__init__" "NoRow.__init__" s_NoRow___init__ [] []) rfl
    exact ⟨glo_ok X G (c.d.fact 27 (f := .glo "NoRow") rfl), (errB_ok (all_at (exs c).2.2.2.1 12 (a := "NoRow") rfl)).1, _, fd, (errB_ok (all_at (exs c).2.2.2.1 12 (a := "NoRow") rfl)).2.1, (errB_ok (all_at (exs c).2.2.2.1 12 (a := "NoRow") rfl)).2.2, F, F.bindsN fun _ _ _ _ _ _ us hl => match us, hl with | [_], _ => rfl⟩
  e_NoDifference := by
    obtain ⟨fd, F⟩ := c.d.def_ 13 (d := dfn "NoDifference" (some "__init__") "__init__" "NoDifference.__init__" s_NoDifference___init__ [] []) rfl
    exact ⟨glo_ok X G (c.d.fact 28 (f := .glo "NoDifference") rfl), (errB_ok (all_at (exs c).2.2.2.1 13 (a := "NoDifference") rfl)).1, _, fd, (errB_ok (all_at (exs c).2.2.2.1 13 (a := "NoDifference") rfl)).2.1, (errB_ok (all_at (exs c).2.2.2.1 13 (a := "NoDifference") rfl)).2.2, F, F.bindsN fun _ _ _ _ _ _ us hl => match us, hl with | [_, _], _ => rfl⟩
  na_NoDifference := noat_ok (c.d.fact 29 (f := .noat "NoDifference" "branch") rfl)
  e_NoQuotient := by
    obtain ⟨fd, F⟩ := c.d.def_ 14 (d := dfn "NoQuotient" (some "__init__") "__init__" "NoQuotient.__init__" s_NoQuotient___init__ [] []) rfl
    exact ⟨glo_ok X G (c.d.fact 30 (f := .glo "NoQuotient") rfl), (errB_ok (all_at (exs c).2.2.2.1 14 (a := "NoQuotient") rfl)).1, _, fd, (errB_ok (all_at (exs c).2.2.2.1 14 (a := "NoQuotient") rfl)).2.1, (errB_ok (all_at (exs c).2.2.2.1 14 (a := "NoQuotient") rfl)).2.2, F, F.bindsN fun _ _ _ _ _ _ us hl => match us, hl with | [_, _], _ => rfl⟩
  na_NoQuotient := noat_ok (c.d.fact 31 (f := .noat "NoQuotient" "place") rfl)
  d_check_numbers := by
    obtain ⟨fd, F⟩ := c.d.def_ 15 (d := dfn "check_numbers" none "check_numbers" "check_numbers" s_check_numbers [] []) rfl
    exact ⟨_, fd, glo_ok X G (c.d.fact 32 (f := .glo "check_numbers") rfl), F, F.bindsN fun _ _ _ _ _ _ us hl => match us, hl with | [_], _ => rfl⟩
  d_basin_numbers := by
    obtain ⟨fd, F⟩ := c.d.def_ 16 (d := dfn "basin_numbers" none "basin_numbers" "basin_numbers" s_basin_numbers [] []) rfl
    exact ⟨_, fd, glo_ok X G (c.d.fact 33 (f := .glo "basin_numbers") rfl), F, F.bindsN fun _ _ _ _ _ _ us hl => match us, hl with | [_], _ => rfl⟩
  d_product_numbers := by
    obtain ⟨fd, F⟩ := c.d.def_ 17 (d := dfn "product_numbers" none "product_numbers" "product_numbers" s_product_numbers [] []) rfl
    exact ⟨_, fd, glo_ok X G (c.d.fact 34 (f := .glo "product_numbers") rfl), F, F.bindsN fun _ _ _ _ _ _ us hl => match us, hl with | [_, _], _ => rfl⟩
  d_parsed := by
    obtain ⟨fd, F⟩ := c.d.def_ 18 (d := dfn "parsed" none "parsed" "parsed" s_parsed [] []) rfl
    exact ⟨_, fd, glo_ok X G (c.d.fact 35 (f := .glo "parsed") rfl), F, F.bindsN fun _ _ _ _ _ _ us hl => match us, hl with | [_], _ => rfl⟩
  d_made := by
    obtain ⟨fd, F⟩ := c.d.def_ 19 (d := dfn "made" none "made" "made" s_made [] []) rfl
    exact ⟨glo_ok X G (c.d.fact 36 (f := .glo "made") rfl), fd, F, F.bindsN fun _ _ _ _ _ _ us hl => match us, hl with | [_], _ => rfl⟩
  tb_made := TB _ (List.mem_map.mpr ⟨("made", none), List.mem_of_getElem? (i := 0) rfl, rfl⟩)
  d_allowed := by
    obtain ⟨fd, F⟩ := c.d.def_ 20 (d := dfn "allowed" none "allowed" "allowed" s_allowed [] []) rfl
    exact ⟨_, fd, glo_ok X G (c.d.fact 37 (f := .glo "allowed") rfl), F, F.bindsN fun _ _ _ _ _ _ us hl => match us, hl with | [_], _ => rfl⟩
  d_grafted := by
    obtain ⟨fd, F⟩ := c.d.def_ 21 (d := dfn "grafted" none "grafted" "grafted" s_grafted [] []) rfl
    exact ⟨_, fd, glo_ok X G (c.d.fact 38 (f := .glo "grafted") rfl), F, F.bindsN fun _ _ _ _ _ _ us hl => match us, hl with | [_, _], _ => rfl⟩
  d_cut := by
    obtain ⟨fd, F⟩ := c.d.def_ 22 (d := dfn "cut" none "cut" "cut" s_cut [] []) rfl
    exact ⟨_, fd, glo_ok X G (c.d.fact 39 (f := .glo "cut") rfl), F, F.bindsN fun _ _ _ _ _ _ us hl => match us, hl with | [_, _], _ => rfl⟩
  d_bare_place := by
    obtain ⟨fd, F⟩ := c.d.def_ 23 (d := dfn "bare_place" none "bare_place" "bare_place" s_bare_place [] []) rfl
    exact ⟨_, fd, glo_ok X G (c.d.fact 40 (f := .glo "bare_place") rfl), F, F.bindsN fun _ _ _ _ _ _ us hl => match us, hl with | [_, _, _], _ => rfl⟩
  d_carries := by
    obtain ⟨fd, F⟩ := c.d.def_ 24 (d := dfn "carries" none "carries" "carries" s_carries [] []) rfl
    exact ⟨_, fd, glo_ok X G (c.d.fact 41 (f := .glo "carries") rfl), F, F.bindsN fun _ _ _ _ _ _ us hl => match us, hl with | [_, _], _ => rfl⟩
  d_multiplied := by
    obtain ⟨fd, F⟩ := c.d.def_ 25 (d := dfn "multiplied" none "multiplied" "multiplied" s_multiplied [] []) rfl
    exact ⟨_, fd, glo_ok X G (c.d.fact 42 (f := .glo "multiplied") rfl), F, F.bindsN fun _ _ _ _ _ _ us hl => match us, hl with | [_], _ => rfl⟩
  init := by
    obtain ⟨fd, F⟩ := c.d.def_ 26 (d := dfn "Fountain" (some "__init__") "__init__" "Fountain.__init__" s_Fountain___init__ [.non] []) rfl
    refine ⟨_, fd, glo_ok X G (c.d.fact 0 (f := .glo "Fountain") rfl), mkr_ok (c.d.fact 43 (f := .mkr "Fountain") rfl), F, fun j hj => ?_⟩
    have e : j = 0 ∨ j = 1 := by
      have h : j ≤ 1 := hj
      omega
    rcases e with rfl | rfl
    · exact F.binds1 2 0 (List.cons_ne_nil _ _) rfl fun _ _ _ _ _ _ _ us its l1 l2 => match us, its, l1, l2 with | [_, _], [_], _, _ => ⟨_, rfl, rfl⟩
    · exact F.binds1 3 1 (List.cons_ne_nil _ _) rfl fun T kV doc pm an cdv ct us its l1 l2 => match us, its, l1, l2 with | [_, _, _], [_], _, _ => ⟨_, rfl, rfl⟩
  c_basin := by
    obtain ⟨fd, F⟩ := c.fxAt 0 (d := ⟨fun K => cgAd K ("Fountain", "basin"), "basin", "Fountain.basin", defArgs s_Fountain_basin, defBody s_Fountain_basin, defScope s_Fountain_basin⟩) rfl
    exact ⟨_, _, _, fd, (cmB_ok (all_at (exs c).2.2.1 0 (a := ("Fountain", "basin")) rfl)).1, (cmB_ok (all_at (exs c).2.2.1 0 (a := ("Fountain", "basin")) rfl)).2, F, F.bindsN fun _ _ _ _ _ _ us hl => match us, hl with | [_, _], _ => rfl⟩
  c_spray := by
    obtain ⟨fd, F⟩ := c.fxAt 1 (d := ⟨fun K => cgAd K ("Fountain", "spray"), "spray", "Fountain.spray", defArgs s_Fountain_spray, defBody s_Fountain_spray, defScope s_Fountain_spray⟩) rfl
    exact ⟨_, _, _, fd, (cmB_ok (all_at (exs c).2.2.1 1 (a := ("Fountain", "spray")) rfl)).1, (cmB_ok (all_at (exs c).2.2.1 1 (a := ("Fountain", "spray")) rfl)).2, F, F.bindsN fun _ _ _ _ _ _ us hl => match us, hl with | [_, _], _ => rfl⟩
  c_product := by
    obtain ⟨fd, F⟩ := c.fxAt 2 (d := ⟨fun K => cgAd K ("Fountain", "product"), "product", "Fountain.product", defArgs s_Fountain_product, defBody s_Fountain_product, defScope s_Fountain_product⟩) rfl
    exact ⟨_, _, _, fd, (cmB_ok (all_at (exs c).2.2.1 2 (a := ("Fountain", "product")) rfl)).1, (cmB_ok (all_at (exs c).2.2.1 2 (a := ("Fountain", "product")) rfl)).2, F, F.bindsN fun _ _ _ _ _ _ us hl => match us, hl with | [_, _], _ => rfl⟩
  p_text := by
    obtain ⟨fd, F⟩ := c.fxAt 3 (d := ⟨fun K => gAd K ("Fountain", "text"), "text", "Fountain.text", defArgs s_Fountain_text, defBody s_Fountain_text, defScope s_Fountain_text⟩) rfl
    exact ⟨_, _, fd, (propB_ok (all_at (exs c).2.1 0 (a := ("Fountain", "text")) rfl)), F, F.bindsN fun _ _ _ _ _ _ us hl => match us, hl with | [_], _ => rfl⟩
  p_parts := by
    obtain ⟨fd, F⟩ := c.fxAt 4 (d := ⟨fun K => gAd K ("Fountain", "parts"), "parts", "Fountain.parts", defArgs s_Fountain_parts, defBody s_Fountain_parts, defScope s_Fountain_parts⟩) rfl
    exact ⟨_, _, fd, (propB_ok (all_at (exs c).2.1 1 (a := ("Fountain", "parts")) rfl)), F, F.bindsN fun _ _ _ _ _ _ us hl => match us, hl with | [_], _ => rfl⟩
  p_size := by
    obtain ⟨fd, F⟩ := c.fxAt 5 (d := ⟨fun K => gAd K ("Fountain", "size"), "size", "Fountain.size", defArgs s_Fountain_size, defBody s_Fountain_size, defScope s_Fountain_size⟩) rfl
    exact ⟨_, _, fd, (propB_ok (all_at (exs c).2.1 2 (a := ("Fountain", "size")) rfl)), F, F.bindsN fun _ _ _ _ _ _ us hl => match us, hl with | [_], _ => rfl⟩
  p_jets := by
    obtain ⟨fd, F⟩ := c.fxAt 6 (d := ⟨fun K => gAd K ("Fountain", "jets"), "jets", "Fountain.jets", defArgs s_Fountain_jets, defBody s_Fountain_jets, defScope s_Fountain_jets⟩) rfl
    exact ⟨_, _, fd, (propB_ok (all_at (exs c).2.1 3 (a := ("Fountain", "jets")) rfl)), F, F.bindsN fun _ _ _ _ _ _ us hl => match us, hl with | [_], _ => rfl⟩
  p_depth := by
    obtain ⟨fd, F⟩ := c.fxAt 7 (d := ⟨fun K => gAd K ("Fountain", "depth"), "depth", "Fountain.depth", defArgs s_Fountain_depth, defBody s_Fountain_depth, defScope s_Fountain_depth⟩) rfl
    exact ⟨_, _, fd, (propB_ok (all_at (exs c).2.1 4 (a := ("Fountain", "depth")) rfl)), F, F.bindsN fun _ _ _ _ _ _ us hl => match us, hl with | [_], _ => rfl⟩
  p_longest := by
    obtain ⟨fd, F⟩ := c.fxAt 8 (d := ⟨fun K => gAd K ("Fountain", "longest"), "longest", "Fountain.longest", defArgs s_Fountain_longest, defBody s_Fountain_longest, defScope s_Fountain_longest⟩) rfl
    exact ⟨_, _, fd, (propB_ok (all_at (exs c).2.1 5 (a := ("Fountain", "longest")) rfl)), F, F.bindsN fun _ _ _ _ _ _ us hl => match us, hl with | [_], _ => rfl⟩
  p_shortest := by
    obtain ⟨fd, F⟩ := c.fxAt 9 (d := ⟨fun K => gAd K ("Fountain", "shortest"), "shortest", "Fountain.shortest", defArgs s_Fountain_shortest, defBody s_Fountain_shortest, defScope s_Fountain_shortest⟩) rfl
    exact ⟨_, _, fd, (propB_ok (all_at (exs c).2.1 6 (a := ("Fountain", "shortest")) rfl)), F, F.bindsN fun _ _ _ _ _ _ us hl => match us, hl with | [_], _ => rfl⟩
  p_is_open := by
    obtain ⟨fd, F⟩ := c.fxAt 10 (d := ⟨fun K => gAd K ("Fountain", "is_open"), "is_open", "Fountain.is_open", defArgs s_Fountain_is_open, defBody s_Fountain_is_open, defScope s_Fountain_is_open⟩) rfl
    exact ⟨_, _, fd, (propB_ok (all_at (exs c).2.1 7 (a := ("Fountain", "is_open")) rfl)), F, F.bindsN fun _ _ _ _ _ _ us hl => match us, hl with | [_], _ => rfl⟩
  p_is_jet := by
    obtain ⟨fd, F⟩ := c.fxAt 11 (d := ⟨fun K => gAd K ("Fountain", "is_jet"), "is_jet", "Fountain.is_jet", defArgs s_Fountain_is_jet, defBody s_Fountain_is_jet, defScope s_Fountain_is_jet⟩) rfl
    exact ⟨_, _, fd, (propB_ok (all_at (exs c).2.1 8 (a := ("Fountain", "is_jet")) rfl)), F, F.bindsN fun _ _ _ _ _ _ us hl => match us, hl with | [_], _ => rfl⟩
  m___eq__ := by
    obtain ⟨fd, F⟩ := c.d.def_ 27 (d := dfn "Fountain" (some "__eq__") "__eq__" "Fountain.__eq__" s_Fountain___eq__ [] []) rfl
    exact ⟨_, fd, meth_ok (c.d.fact 44 (f := .meth "Fountain" "__eq__") rfl), F, F.bindsN fun _ _ _ _ _ _ us hl => match us, hl with | [_, _], _ => rfl⟩
  m___repr__ := by
    obtain ⟨fd, F⟩ := c.d.def_ 28 (d := dfn "Fountain" (some "__repr__") "__repr__" "Fountain.__repr__" s_Fountain___repr__ [] []) rfl
    exact ⟨_, fd, meth_ok (c.d.fact 45 (f := .meth "Fountain" "__repr__") rfl), F, F.bindsN fun _ _ _ _ _ _ us hl => match us, hl with | [_], _ => rfl⟩
  m___len__ := by
    obtain ⟨fd, F⟩ := c.d.def_ 29 (d := dfn "Fountain" (some "__len__") "__len__" "Fountain.__len__" s_Fountain___len__ [] []) rfl
    exact ⟨_, fd, meth_ok (c.d.fact 46 (f := .meth "Fountain" "__len__") rfl), F, F.bindsN fun _ _ _ _ _ _ us hl => match us, hl with | [_], _ => rfl⟩
  m___getitem__ := by
    obtain ⟨fd, F⟩ := c.d.def_ 30 (d := dfn "Fountain" (some "__getitem__") "__getitem__" "Fountain.__getitem__" s_Fountain___getitem__ [] []) rfl
    exact ⟨_, fd, meth_ok (c.d.fact 47 (f := .meth "Fountain" "__getitem__") rfl), F, F.bindsN fun _ _ _ _ _ _ us hl => match us, hl with | [_, _], _ => rfl⟩
  m___contains__ := by
    obtain ⟨fd, F⟩ := c.d.def_ 31 (d := dfn "Fountain" (some "__contains__") "__contains__" "Fountain.__contains__" s_Fountain___contains__ [] []) rfl
    exact ⟨_, fd, meth_ok (c.d.fact 48 (f := .meth "Fountain" "__contains__") rfl), F, F.bindsN fun _ _ _ _ _ _ us hl => match us, hl with | [_, _], _ => rfl⟩
  m___add__ := by
    obtain ⟨fd, F⟩ := c.d.def_ 32 (d := dfn "Fountain" (some "__add__") "__add__" "Fountain.__add__" s_Fountain___add__ [] []) rfl
    exact ⟨_, fd, meth_ok (c.d.fact 49 (f := .meth "Fountain" "__add__") rfl), F, F.bindsN fun _ _ _ _ _ _ us hl => match us, hl with | [_, _], _ => rfl⟩
  m___sub__ := by
    obtain ⟨fd, F⟩ := c.d.def_ 33 (d := dfn "Fountain" (some "__sub__") "__sub__" "Fountain.__sub__" s_Fountain___sub__ [] []) rfl
    exact ⟨_, fd, meth_ok (c.d.fact 50 (f := .meth "Fountain" "__sub__") rfl), F, F.bindsN fun _ _ _ _ _ _ us hl => match us, hl with | [_, _], _ => rfl⟩
  m___mul__ := by
    obtain ⟨fd, F⟩ := c.d.def_ 34 (d := dfn "Fountain" (some "__mul__") "__mul__" "Fountain.__mul__" s_Fountain___mul__ [] []) rfl
    exact ⟨_, fd, meth_ok (c.d.fact 51 (f := .meth "Fountain" "__mul__") rfl), F, F.bindsN fun _ _ _ _ _ _ us hl => match us, hl with | [_, _], _ => rfl⟩
  m___floordiv__ := by
    obtain ⟨fd, F⟩ := c.d.def_ 35 (d := dfn "Fountain" (some "__floordiv__") "__floordiv__" "Fountain.__floordiv__" s_Fountain___floordiv__ [] []) rfl
    exact ⟨_, fd, meth_ok (c.d.fact 52 (f := .meth "Fountain" "__floordiv__") rfl), F, F.bindsN fun _ _ _ _ _ _ us hl => match us, hl with | [_, _], _ => rfl⟩
  m_at := by
    obtain ⟨fd, F⟩ := c.d.def_ 36 (d := dfn "Fountain" (some "at") "at" "Fountain.at" s_Fountain_at [] []) rfl
    exact ⟨_, fd, meth_ok (c.d.fact 53 (f := .meth "Fountain" "at") rfl), F, F.bindsN fun _ _ _ _ _ _ us hl => match us, hl with | [_, _], _ => rfl⟩
  m_put := by
    obtain ⟨fd, F⟩ := c.d.def_ 37 (d := dfn "Fountain" (some "put") "put" "Fountain.put" s_Fountain_put [] []) rfl
    exact ⟨_, fd, meth_ok (c.d.fact 54 (f := .meth "Fountain" "put") rfl), F, F.bindsN fun _ _ _ _ _ _ us hl => match us, hl with | [_, _, _], _ => rfl⟩
  d__law_feed := by
    obtain ⟨fd, F⟩ := c.d.def_ 38 (d := dfn "_law_feed" none "_law_feed" "_law_feed" s__law_feed [] []) rfl
    exact ⟨_, fd, glo_ok X G (c.d.fact 55 (f := .glo "_law_feed") rfl), F, F.bindsN fun _ _ _ _ _ _ us hl => match us, hl with | [_, _], _ => rfl⟩
  d__law_draw := by
    obtain ⟨fd, F⟩ := c.d.def_ 39 (d := dfn "_law_draw" none "_law_draw" "_law_draw" s__law_draw [] []) rfl
    exact ⟨_, fd, glo_ok X G (c.d.fact 56 (f := .glo "_law_draw") rfl), F, F.bindsN fun _ _ _ _ _ _ us hl => match us, hl with | [_, _], _ => rfl⟩
  d__law_errors := by
    obtain ⟨fd, F⟩ := c.d.def_ 40 (d := dfn "_law_errors" none "_law_errors" "_law_errors" s__law_errors [] []) rfl
    exact ⟨_, fd, glo_ok X G (c.d.fact 57 (f := .glo "_law_errors") rfl), F, F.bindsN fun _ _ _ _ _ _ us hl => match us, hl with | [_], _ => rfl⟩
  d__law_by_names := by
    obtain ⟨fd, F⟩ := c.d.def_ 41 (d := dfn "_law_by_names" none "_law_by_names" "_law_by_names" s__law_by_names [] []) rfl
    exact ⟨_, fd, glo_ok X G (c.d.fact 58 (f := .glo "_law_by_names") rfl), F, F.bindsN fun _ _ _ _ _ _ us hl => match us, hl with | [_], _ => rfl⟩
  d__law_sorts := by
    obtain ⟨fd, F⟩ := c.d.def_ 42 (d := dfn "_law_sorts" none "_law_sorts" "_law_sorts" s__law_sorts [] []) rfl
    exact ⟨_, fd, glo_ok X G (c.d.fact 59 (f := .glo "_law_sorts") rfl), F, F.bindsN fun _ _ _ _ _ _ us hl => match us, hl with | [_], _ => rfl⟩
  d_law := by
    obtain ⟨fd, F⟩ := c.d.def_ 43 (d := dfn "law" none "law" "law" s_law [] []) rfl
    exact ⟨_, fd, glo_ok X G (c.d.fact 60 (f := .glo "law") rfl), F, F.bindsN fun _ _ _ _ _ _ us hl => match us, hl with | [_], _ => rfl⟩
  b_JetError := ⟨glo_ok X G (c.d.fact 61 (f := .glo "JetError") rfl), baseB_ok (all_at (exs c).2.2.2.2.1 0 (a := "JetError") rfl)⟩
  b_NoDivision := ⟨glo_ok X G (c.d.fact 62 (f := .glo "NoDivision") rfl), baseB_ok (all_at (exs c).2.2.2.2.1 1 (a := "NoDivision") rfl)⟩
  e_JetError := ⟨glo_ok X G (c.d.fact 61 (f := .glo "JetError") rfl)⟩
  e_NoDivision := ⟨glo_ok X G (c.d.fact 62 (f := .glo "NoDivision") rfl)⟩
  k_NoText_NoText := of_decide_eq_true (all_at (exs c).2.2.2.2.2.1 0 (a := ("NoText", "NoText", true)) rfl)
  k_NoText_NoBranch := of_decide_eq_true (all_at (exs c).2.2.2.2.2.1 1 (a := ("NoText", "NoBranch", false)) rfl)
  k_NoText_NoPlace := of_decide_eq_true (all_at (exs c).2.2.2.2.2.1 2 (a := ("NoText", "NoPlace", false)) rfl)
  k_NoText_TooLarge := of_decide_eq_true (all_at (exs c).2.2.2.2.2.1 3 (a := ("NoText", "TooLarge", false)) rfl)
  k_NoText_TooDeep := of_decide_eq_true (all_at (exs c).2.2.2.2.2.1 4 (a := ("NoText", "TooDeep", false)) rfl)
  k_NoText_TooMany := of_decide_eq_true (all_at (exs c).2.2.2.2.2.1 5 (a := ("NoText", "TooMany", false)) rfl)
  k_NoText_Rejected := of_decide_eq_true (all_at (exs c).2.2.2.2.2.1 6 (a := ("NoText", "Rejected", false)) rfl)
  k_NoText_NoDifference := of_decide_eq_true (all_at (exs c).2.2.2.2.2.1 7 (a := ("NoText", "NoDifference", false)) rfl)
  k_NoText_NoQuotient := of_decide_eq_true (all_at (exs c).2.2.2.2.2.1 8 (a := ("NoText", "NoQuotient", false)) rfl)
  k_NoText_NoBasin := of_decide_eq_true (all_at (exs c).2.2.2.2.2.1 9 (a := ("NoText", "NoBasin", false)) rfl)
  k_NoText_Closed := of_decide_eq_true (all_at (exs c).2.2.2.2.2.1 10 (a := ("NoText", "Closed", false)) rfl)
  k_NoText_Endless := of_decide_eq_true (all_at (exs c).2.2.2.2.2.1 11 (a := ("NoText", "Endless", false)) rfl)
  k_NoText_NotKind := of_decide_eq_true (all_at (exs c).2.2.2.2.2.1 12 (a := ("NoText", "NotKind", false)) rfl)
  k_NoText_Nested := of_decide_eq_true (all_at (exs c).2.2.2.2.2.1 13 (a := ("NoText", "Nested", false)) rfl)
  k_NoText_NoRow := of_decide_eq_true (all_at (exs c).2.2.2.2.2.1 14 (a := ("NoText", "NoRow", false)) rfl)
  k_NoText_NoDivision := of_decide_eq_true (all_at (exs c).2.2.2.2.2.1 15 (a := ("NoText", "NoDivision", false)) rfl)
  k_NoText_JetError := of_decide_eq_true (all_at (exs c).2.2.2.2.2.1 16 (a := ("NoText", "JetError", true)) rfl)
  k_NoBranch_NoText := of_decide_eq_true (all_at (exs c).2.2.2.2.2.1 17 (a := ("NoBranch", "NoText", false)) rfl)
  k_NoBranch_NoBranch := of_decide_eq_true (all_at (exs c).2.2.2.2.2.1 18 (a := ("NoBranch", "NoBranch", true)) rfl)
  k_NoBranch_NoPlace := of_decide_eq_true (all_at (exs c).2.2.2.2.2.1 19 (a := ("NoBranch", "NoPlace", false)) rfl)
  k_NoBranch_TooLarge := of_decide_eq_true (all_at (exs c).2.2.2.2.2.1 20 (a := ("NoBranch", "TooLarge", false)) rfl)
  k_NoBranch_TooDeep := of_decide_eq_true (all_at (exs c).2.2.2.2.2.1 21 (a := ("NoBranch", "TooDeep", false)) rfl)
  k_NoBranch_TooMany := of_decide_eq_true (all_at (exs c).2.2.2.2.2.1 22 (a := ("NoBranch", "TooMany", false)) rfl)
  k_NoBranch_Rejected := of_decide_eq_true (all_at (exs c).2.2.2.2.2.1 23 (a := ("NoBranch", "Rejected", false)) rfl)
  k_NoBranch_NoDifference := of_decide_eq_true (all_at (exs c).2.2.2.2.2.1 24 (a := ("NoBranch", "NoDifference", false)) rfl)
  k_NoBranch_NoQuotient := of_decide_eq_true (all_at (exs c).2.2.2.2.2.1 25 (a := ("NoBranch", "NoQuotient", false)) rfl)
  k_NoBranch_NoBasin := of_decide_eq_true (all_at (exs c).2.2.2.2.2.1 26 (a := ("NoBranch", "NoBasin", false)) rfl)
  k_NoBranch_Closed := of_decide_eq_true (all_at (exs c).2.2.2.2.2.1 27 (a := ("NoBranch", "Closed", false)) rfl)
  k_NoBranch_Endless := of_decide_eq_true (all_at (exs c).2.2.2.2.2.1 28 (a := ("NoBranch", "Endless", false)) rfl)
  k_NoBranch_NotKind := of_decide_eq_true (all_at (exs c).2.2.2.2.2.1 29 (a := ("NoBranch", "NotKind", false)) rfl)
  k_NoBranch_Nested := of_decide_eq_true (all_at (exs c).2.2.2.2.2.1 30 (a := ("NoBranch", "Nested", false)) rfl)
  k_NoBranch_NoRow := of_decide_eq_true (all_at (exs c).2.2.2.2.2.1 31 (a := ("NoBranch", "NoRow", false)) rfl)
  k_NoBranch_NoDivision := of_decide_eq_true (all_at (exs c).2.2.2.2.2.1 32 (a := ("NoBranch", "NoDivision", false)) rfl)
  k_NoBranch_JetError := of_decide_eq_true (all_at (exs c).2.2.2.2.2.1 33 (a := ("NoBranch", "JetError", true)) rfl)
  k_NoPlace_NoText := of_decide_eq_true (all_at (exs c).2.2.2.2.2.1 34 (a := ("NoPlace", "NoText", false)) rfl)
  k_NoPlace_NoBranch := of_decide_eq_true (all_at (exs c).2.2.2.2.2.1 35 (a := ("NoPlace", "NoBranch", false)) rfl)
  k_NoPlace_NoPlace := of_decide_eq_true (all_at (exs c).2.2.2.2.2.1 36 (a := ("NoPlace", "NoPlace", true)) rfl)
  k_NoPlace_TooLarge := of_decide_eq_true (all_at (exs c).2.2.2.2.2.1 37 (a := ("NoPlace", "TooLarge", false)) rfl)
  k_NoPlace_TooDeep := of_decide_eq_true (all_at (exs c).2.2.2.2.2.1 38 (a := ("NoPlace", "TooDeep", false)) rfl)
  k_NoPlace_TooMany := of_decide_eq_true (all_at (exs c).2.2.2.2.2.1 39 (a := ("NoPlace", "TooMany", false)) rfl)
  k_NoPlace_Rejected := of_decide_eq_true (all_at (exs c).2.2.2.2.2.1 40 (a := ("NoPlace", "Rejected", false)) rfl)
  k_NoPlace_NoDifference := of_decide_eq_true (all_at (exs c).2.2.2.2.2.1 41 (a := ("NoPlace", "NoDifference", false)) rfl)
  k_NoPlace_NoQuotient := of_decide_eq_true (all_at (exs c).2.2.2.2.2.1 42 (a := ("NoPlace", "NoQuotient", false)) rfl)
  k_NoPlace_NoBasin := of_decide_eq_true (all_at (exs c).2.2.2.2.2.1 43 (a := ("NoPlace", "NoBasin", false)) rfl)
  k_NoPlace_Closed := of_decide_eq_true (all_at (exs c).2.2.2.2.2.1 44 (a := ("NoPlace", "Closed", false)) rfl)
  k_NoPlace_Endless := of_decide_eq_true (all_at (exs c).2.2.2.2.2.1 45 (a := ("NoPlace", "Endless", false)) rfl)
  k_NoPlace_NotKind := of_decide_eq_true (all_at (exs c).2.2.2.2.2.1 46 (a := ("NoPlace", "NotKind", false)) rfl)
  k_NoPlace_Nested := of_decide_eq_true (all_at (exs c).2.2.2.2.2.1 47 (a := ("NoPlace", "Nested", false)) rfl)
  k_NoPlace_NoRow := of_decide_eq_true (all_at (exs c).2.2.2.2.2.1 48 (a := ("NoPlace", "NoRow", false)) rfl)
  k_NoPlace_NoDivision := of_decide_eq_true (all_at (exs c).2.2.2.2.2.1 49 (a := ("NoPlace", "NoDivision", false)) rfl)
  k_NoPlace_JetError := of_decide_eq_true (all_at (exs c).2.2.2.2.2.1 50 (a := ("NoPlace", "JetError", true)) rfl)
  k_TooLarge_NoText := of_decide_eq_true (all_at (exs c).2.2.2.2.2.1 51 (a := ("TooLarge", "NoText", false)) rfl)
  k_TooLarge_NoBranch := of_decide_eq_true (all_at (exs c).2.2.2.2.2.1 52 (a := ("TooLarge", "NoBranch", false)) rfl)
  k_TooLarge_NoPlace := of_decide_eq_true (all_at (exs c).2.2.2.2.2.1 53 (a := ("TooLarge", "NoPlace", false)) rfl)
  k_TooLarge_TooLarge := of_decide_eq_true (all_at (exs c).2.2.2.2.2.1 54 (a := ("TooLarge", "TooLarge", true)) rfl)
  k_TooLarge_TooDeep := of_decide_eq_true (all_at (exs c).2.2.2.2.2.1 55 (a := ("TooLarge", "TooDeep", false)) rfl)
  k_TooLarge_TooMany := of_decide_eq_true (all_at (exs c).2.2.2.2.2.1 56 (a := ("TooLarge", "TooMany", false)) rfl)
  k_TooLarge_Rejected := of_decide_eq_true (all_at (exs c).2.2.2.2.2.1 57 (a := ("TooLarge", "Rejected", false)) rfl)
  k_TooLarge_NoDifference := of_decide_eq_true (all_at (exs c).2.2.2.2.2.1 58 (a := ("TooLarge", "NoDifference", false)) rfl)
  k_TooLarge_NoQuotient := of_decide_eq_true (all_at (exs c).2.2.2.2.2.1 59 (a := ("TooLarge", "NoQuotient", false)) rfl)
  k_TooLarge_NoBasin := of_decide_eq_true (all_at (exs c).2.2.2.2.2.1 60 (a := ("TooLarge", "NoBasin", false)) rfl)
  k_TooLarge_Closed := of_decide_eq_true (all_at (exs c).2.2.2.2.2.1 61 (a := ("TooLarge", "Closed", false)) rfl)
  k_TooLarge_Endless := of_decide_eq_true (all_at (exs c).2.2.2.2.2.1 62 (a := ("TooLarge", "Endless", false)) rfl)
  k_TooLarge_NotKind := of_decide_eq_true (all_at (exs c).2.2.2.2.2.1 63 (a := ("TooLarge", "NotKind", false)) rfl)
  k_TooLarge_Nested := of_decide_eq_true (all_at (exs c).2.2.2.2.2.1 64 (a := ("TooLarge", "Nested", false)) rfl)
  k_TooLarge_NoRow := of_decide_eq_true (all_at (exs c).2.2.2.2.2.1 65 (a := ("TooLarge", "NoRow", false)) rfl)
  k_TooLarge_NoDivision := of_decide_eq_true (all_at (exs c).2.2.2.2.2.1 66 (a := ("TooLarge", "NoDivision", false)) rfl)
  k_TooLarge_JetError := of_decide_eq_true (all_at (exs c).2.2.2.2.2.1 67 (a := ("TooLarge", "JetError", true)) rfl)
  k_TooDeep_NoText := of_decide_eq_true (all_at (exs c).2.2.2.2.2.1 68 (a := ("TooDeep", "NoText", false)) rfl)
  k_TooDeep_NoBranch := of_decide_eq_true (all_at (exs c).2.2.2.2.2.1 69 (a := ("TooDeep", "NoBranch", false)) rfl)
  k_TooDeep_NoPlace := of_decide_eq_true (all_at (exs c).2.2.2.2.2.1 70 (a := ("TooDeep", "NoPlace", false)) rfl)
  k_TooDeep_TooLarge := of_decide_eq_true (all_at (exs c).2.2.2.2.2.1 71 (a := ("TooDeep", "TooLarge", false)) rfl)
  k_TooDeep_TooDeep := of_decide_eq_true (all_at (exs c).2.2.2.2.2.1 72 (a := ("TooDeep", "TooDeep", true)) rfl)
  k_TooDeep_TooMany := of_decide_eq_true (all_at (exs c).2.2.2.2.2.1 73 (a := ("TooDeep", "TooMany", false)) rfl)
  k_TooDeep_Rejected := of_decide_eq_true (all_at (exs c).2.2.2.2.2.1 74 (a := ("TooDeep", "Rejected", false)) rfl)
  k_TooDeep_NoDifference := of_decide_eq_true (all_at (exs c).2.2.2.2.2.1 75 (a := ("TooDeep", "NoDifference", false)) rfl)
  k_TooDeep_NoQuotient := of_decide_eq_true (all_at (exs c).2.2.2.2.2.1 76 (a := ("TooDeep", "NoQuotient", false)) rfl)
  k_TooDeep_NoBasin := of_decide_eq_true (all_at (exs c).2.2.2.2.2.1 77 (a := ("TooDeep", "NoBasin", false)) rfl)
  k_TooDeep_Closed := of_decide_eq_true (all_at (exs c).2.2.2.2.2.1 78 (a := ("TooDeep", "Closed", false)) rfl)
  k_TooDeep_Endless := of_decide_eq_true (all_at (exs c).2.2.2.2.2.1 79 (a := ("TooDeep", "Endless", false)) rfl)
  k_TooDeep_NotKind := of_decide_eq_true (all_at (exs c).2.2.2.2.2.1 80 (a := ("TooDeep", "NotKind", false)) rfl)
  k_TooDeep_Nested := of_decide_eq_true (all_at (exs c).2.2.2.2.2.1 81 (a := ("TooDeep", "Nested", false)) rfl)
  k_TooDeep_NoRow := of_decide_eq_true (all_at (exs c).2.2.2.2.2.1 82 (a := ("TooDeep", "NoRow", false)) rfl)
  k_TooDeep_NoDivision := of_decide_eq_true (all_at (exs c).2.2.2.2.2.1 83 (a := ("TooDeep", "NoDivision", false)) rfl)
  k_TooDeep_JetError := of_decide_eq_true (all_at (exs c).2.2.2.2.2.1 84 (a := ("TooDeep", "JetError", true)) rfl)
  k_TooMany_NoText := of_decide_eq_true (all_at (exs c).2.2.2.2.2.1 85 (a := ("TooMany", "NoText", false)) rfl)
  k_TooMany_NoBranch := of_decide_eq_true (all_at (exs c).2.2.2.2.2.1 86 (a := ("TooMany", "NoBranch", false)) rfl)
  k_TooMany_NoPlace := of_decide_eq_true (all_at (exs c).2.2.2.2.2.1 87 (a := ("TooMany", "NoPlace", false)) rfl)
  k_TooMany_TooLarge := of_decide_eq_true (all_at (exs c).2.2.2.2.2.1 88 (a := ("TooMany", "TooLarge", false)) rfl)
  k_TooMany_TooDeep := of_decide_eq_true (all_at (exs c).2.2.2.2.2.1 89 (a := ("TooMany", "TooDeep", false)) rfl)
  k_TooMany_TooMany := of_decide_eq_true (all_at (exs c).2.2.2.2.2.1 90 (a := ("TooMany", "TooMany", true)) rfl)
  k_TooMany_Rejected := of_decide_eq_true (all_at (exs c).2.2.2.2.2.1 91 (a := ("TooMany", "Rejected", false)) rfl)
  k_TooMany_NoDifference := of_decide_eq_true (all_at (exs c).2.2.2.2.2.1 92 (a := ("TooMany", "NoDifference", false)) rfl)
  k_TooMany_NoQuotient := of_decide_eq_true (all_at (exs c).2.2.2.2.2.1 93 (a := ("TooMany", "NoQuotient", false)) rfl)
  k_TooMany_NoBasin := of_decide_eq_true (all_at (exs c).2.2.2.2.2.1 94 (a := ("TooMany", "NoBasin", false)) rfl)
  k_TooMany_Closed := of_decide_eq_true (all_at (exs c).2.2.2.2.2.1 95 (a := ("TooMany", "Closed", false)) rfl)
  k_TooMany_Endless := of_decide_eq_true (all_at (exs c).2.2.2.2.2.1 96 (a := ("TooMany", "Endless", false)) rfl)
  k_TooMany_NotKind := of_decide_eq_true (all_at (exs c).2.2.2.2.2.1 97 (a := ("TooMany", "NotKind", false)) rfl)
  k_TooMany_Nested := of_decide_eq_true (all_at (exs c).2.2.2.2.2.1 98 (a := ("TooMany", "Nested", false)) rfl)
  k_TooMany_NoRow := of_decide_eq_true (all_at (exs c).2.2.2.2.2.1 99 (a := ("TooMany", "NoRow", false)) rfl)
  k_TooMany_NoDivision := of_decide_eq_true (all_at (exs c).2.2.2.2.2.1 100 (a := ("TooMany", "NoDivision", false)) rfl)
  k_TooMany_JetError := of_decide_eq_true (all_at (exs c).2.2.2.2.2.1 101 (a := ("TooMany", "JetError", true)) rfl)
  k_Rejected_NoText := of_decide_eq_true (all_at (exs c).2.2.2.2.2.1 102 (a := ("Rejected", "NoText", false)) rfl)
  k_Rejected_NoBranch := of_decide_eq_true (all_at (exs c).2.2.2.2.2.1 103 (a := ("Rejected", "NoBranch", false)) rfl)
  k_Rejected_NoPlace := of_decide_eq_true (all_at (exs c).2.2.2.2.2.1 104 (a := ("Rejected", "NoPlace", false)) rfl)
  k_Rejected_TooLarge := of_decide_eq_true (all_at (exs c).2.2.2.2.2.1 105 (a := ("Rejected", "TooLarge", false)) rfl)
  k_Rejected_TooDeep := of_decide_eq_true (all_at (exs c).2.2.2.2.2.1 106 (a := ("Rejected", "TooDeep", false)) rfl)
  k_Rejected_TooMany := of_decide_eq_true (all_at (exs c).2.2.2.2.2.1 107 (a := ("Rejected", "TooMany", false)) rfl)
  k_Rejected_Rejected := of_decide_eq_true (all_at (exs c).2.2.2.2.2.1 108 (a := ("Rejected", "Rejected", true)) rfl)
  k_Rejected_NoDifference := of_decide_eq_true (all_at (exs c).2.2.2.2.2.1 109 (a := ("Rejected", "NoDifference", false)) rfl)
  k_Rejected_NoQuotient := of_decide_eq_true (all_at (exs c).2.2.2.2.2.1 110 (a := ("Rejected", "NoQuotient", false)) rfl)
  k_Rejected_NoBasin := of_decide_eq_true (all_at (exs c).2.2.2.2.2.1 111 (a := ("Rejected", "NoBasin", false)) rfl)
  k_Rejected_Closed := of_decide_eq_true (all_at (exs c).2.2.2.2.2.1 112 (a := ("Rejected", "Closed", false)) rfl)
  k_Rejected_Endless := of_decide_eq_true (all_at (exs c).2.2.2.2.2.1 113 (a := ("Rejected", "Endless", false)) rfl)
  k_Rejected_NotKind := of_decide_eq_true (all_at (exs c).2.2.2.2.2.1 114 (a := ("Rejected", "NotKind", false)) rfl)
  k_Rejected_Nested := of_decide_eq_true (all_at (exs c).2.2.2.2.2.1 115 (a := ("Rejected", "Nested", false)) rfl)
  k_Rejected_NoRow := of_decide_eq_true (all_at (exs c).2.2.2.2.2.1 116 (a := ("Rejected", "NoRow", false)) rfl)
  k_Rejected_NoDivision := of_decide_eq_true (all_at (exs c).2.2.2.2.2.1 117 (a := ("Rejected", "NoDivision", false)) rfl)
  k_Rejected_JetError := of_decide_eq_true (all_at (exs c).2.2.2.2.2.1 118 (a := ("Rejected", "JetError", true)) rfl)
  k_NoDifference_NoText := of_decide_eq_true (all_at (exs c).2.2.2.2.2.1 119 (a := ("NoDifference", "NoText", false)) rfl)
  k_NoDifference_NoBranch := of_decide_eq_true (all_at (exs c).2.2.2.2.2.1 120 (a := ("NoDifference", "NoBranch", false)) rfl)
  k_NoDifference_NoPlace := of_decide_eq_true (all_at (exs c).2.2.2.2.2.1 121 (a := ("NoDifference", "NoPlace", false)) rfl)
  k_NoDifference_TooLarge := of_decide_eq_true (all_at (exs c).2.2.2.2.2.1 122 (a := ("NoDifference", "TooLarge", false)) rfl)
  k_NoDifference_TooDeep := of_decide_eq_true (all_at (exs c).2.2.2.2.2.1 123 (a := ("NoDifference", "TooDeep", false)) rfl)
  k_NoDifference_TooMany := of_decide_eq_true (all_at (exs c).2.2.2.2.2.1 124 (a := ("NoDifference", "TooMany", false)) rfl)
  k_NoDifference_Rejected := of_decide_eq_true (all_at (exs c).2.2.2.2.2.1 125 (a := ("NoDifference", "Rejected", false)) rfl)
  k_NoDifference_NoDifference := of_decide_eq_true (all_at (exs c).2.2.2.2.2.1 126 (a := ("NoDifference", "NoDifference", true)) rfl)
  k_NoDifference_NoQuotient := of_decide_eq_true (all_at (exs c).2.2.2.2.2.1 127 (a := ("NoDifference", "NoQuotient", false)) rfl)
  k_NoDifference_NoBasin := of_decide_eq_true (all_at (exs c).2.2.2.2.2.1 128 (a := ("NoDifference", "NoBasin", false)) rfl)
  k_NoDifference_Closed := of_decide_eq_true (all_at (exs c).2.2.2.2.2.1 129 (a := ("NoDifference", "Closed", false)) rfl)
  k_NoDifference_Endless := of_decide_eq_true (all_at (exs c).2.2.2.2.2.1 130 (a := ("NoDifference", "Endless", false)) rfl)
  k_NoDifference_NotKind := of_decide_eq_true (all_at (exs c).2.2.2.2.2.1 131 (a := ("NoDifference", "NotKind", false)) rfl)
  k_NoDifference_Nested := of_decide_eq_true (all_at (exs c).2.2.2.2.2.1 132 (a := ("NoDifference", "Nested", false)) rfl)
  k_NoDifference_NoRow := of_decide_eq_true (all_at (exs c).2.2.2.2.2.1 133 (a := ("NoDifference", "NoRow", false)) rfl)
  k_NoDifference_NoDivision := of_decide_eq_true (all_at (exs c).2.2.2.2.2.1 134 (a := ("NoDifference", "NoDivision", true)) rfl)
  k_NoDifference_JetError := of_decide_eq_true (all_at (exs c).2.2.2.2.2.1 135 (a := ("NoDifference", "JetError", true)) rfl)
  k_NoQuotient_NoText := of_decide_eq_true (all_at (exs c).2.2.2.2.2.1 136 (a := ("NoQuotient", "NoText", false)) rfl)
  k_NoQuotient_NoBranch := of_decide_eq_true (all_at (exs c).2.2.2.2.2.1 137 (a := ("NoQuotient", "NoBranch", false)) rfl)
  k_NoQuotient_NoPlace := of_decide_eq_true (all_at (exs c).2.2.2.2.2.1 138 (a := ("NoQuotient", "NoPlace", false)) rfl)
  k_NoQuotient_TooLarge := of_decide_eq_true (all_at (exs c).2.2.2.2.2.1 139 (a := ("NoQuotient", "TooLarge", false)) rfl)
  k_NoQuotient_TooDeep := of_decide_eq_true (all_at (exs c).2.2.2.2.2.1 140 (a := ("NoQuotient", "TooDeep", false)) rfl)
  k_NoQuotient_TooMany := of_decide_eq_true (all_at (exs c).2.2.2.2.2.1 141 (a := ("NoQuotient", "TooMany", false)) rfl)
  k_NoQuotient_Rejected := of_decide_eq_true (all_at (exs c).2.2.2.2.2.1 142 (a := ("NoQuotient", "Rejected", false)) rfl)
  k_NoQuotient_NoDifference := of_decide_eq_true (all_at (exs c).2.2.2.2.2.1 143 (a := ("NoQuotient", "NoDifference", false)) rfl)
  k_NoQuotient_NoQuotient := of_decide_eq_true (all_at (exs c).2.2.2.2.2.1 144 (a := ("NoQuotient", "NoQuotient", true)) rfl)
  k_NoQuotient_NoBasin := of_decide_eq_true (all_at (exs c).2.2.2.2.2.1 145 (a := ("NoQuotient", "NoBasin", false)) rfl)
  k_NoQuotient_Closed := of_decide_eq_true (all_at (exs c).2.2.2.2.2.1 146 (a := ("NoQuotient", "Closed", false)) rfl)
  k_NoQuotient_Endless := of_decide_eq_true (all_at (exs c).2.2.2.2.2.1 147 (a := ("NoQuotient", "Endless", false)) rfl)
  k_NoQuotient_NotKind := of_decide_eq_true (all_at (exs c).2.2.2.2.2.1 148 (a := ("NoQuotient", "NotKind", false)) rfl)
  k_NoQuotient_Nested := of_decide_eq_true (all_at (exs c).2.2.2.2.2.1 149 (a := ("NoQuotient", "Nested", false)) rfl)
  k_NoQuotient_NoRow := of_decide_eq_true (all_at (exs c).2.2.2.2.2.1 150 (a := ("NoQuotient", "NoRow", false)) rfl)
  k_NoQuotient_NoDivision := of_decide_eq_true (all_at (exs c).2.2.2.2.2.1 151 (a := ("NoQuotient", "NoDivision", true)) rfl)
  k_NoQuotient_JetError := of_decide_eq_true (all_at (exs c).2.2.2.2.2.1 152 (a := ("NoQuotient", "JetError", true)) rfl)
  k_NoBasin_NoText := of_decide_eq_true (all_at (exs c).2.2.2.2.2.1 153 (a := ("NoBasin", "NoText", false)) rfl)
  k_NoBasin_NoBranch := of_decide_eq_true (all_at (exs c).2.2.2.2.2.1 154 (a := ("NoBasin", "NoBranch", false)) rfl)
  k_NoBasin_NoPlace := of_decide_eq_true (all_at (exs c).2.2.2.2.2.1 155 (a := ("NoBasin", "NoPlace", false)) rfl)
  k_NoBasin_TooLarge := of_decide_eq_true (all_at (exs c).2.2.2.2.2.1 156 (a := ("NoBasin", "TooLarge", false)) rfl)
  k_NoBasin_TooDeep := of_decide_eq_true (all_at (exs c).2.2.2.2.2.1 157 (a := ("NoBasin", "TooDeep", false)) rfl)
  k_NoBasin_TooMany := of_decide_eq_true (all_at (exs c).2.2.2.2.2.1 158 (a := ("NoBasin", "TooMany", false)) rfl)
  k_NoBasin_Rejected := of_decide_eq_true (all_at (exs c).2.2.2.2.2.1 159 (a := ("NoBasin", "Rejected", false)) rfl)
  k_NoBasin_NoDifference := of_decide_eq_true (all_at (exs c).2.2.2.2.2.1 160 (a := ("NoBasin", "NoDifference", false)) rfl)
  k_NoBasin_NoQuotient := of_decide_eq_true (all_at (exs c).2.2.2.2.2.1 161 (a := ("NoBasin", "NoQuotient", false)) rfl)
  k_NoBasin_NoBasin := of_decide_eq_true (all_at (exs c).2.2.2.2.2.1 162 (a := ("NoBasin", "NoBasin", true)) rfl)
  k_NoBasin_Closed := of_decide_eq_true (all_at (exs c).2.2.2.2.2.1 163 (a := ("NoBasin", "Closed", false)) rfl)
  k_NoBasin_Endless := of_decide_eq_true (all_at (exs c).2.2.2.2.2.1 164 (a := ("NoBasin", "Endless", false)) rfl)
  k_NoBasin_NotKind := of_decide_eq_true (all_at (exs c).2.2.2.2.2.1 165 (a := ("NoBasin", "NotKind", false)) rfl)
  k_NoBasin_Nested := of_decide_eq_true (all_at (exs c).2.2.2.2.2.1 166 (a := ("NoBasin", "Nested", false)) rfl)
  k_NoBasin_NoRow := of_decide_eq_true (all_at (exs c).2.2.2.2.2.1 167 (a := ("NoBasin", "NoRow", false)) rfl)
  k_NoBasin_NoDivision := of_decide_eq_true (all_at (exs c).2.2.2.2.2.1 168 (a := ("NoBasin", "NoDivision", false)) rfl)
  k_NoBasin_JetError := of_decide_eq_true (all_at (exs c).2.2.2.2.2.1 169 (a := ("NoBasin", "JetError", true)) rfl)
  k_Closed_NoText := of_decide_eq_true (all_at (exs c).2.2.2.2.2.1 170 (a := ("Closed", "NoText", false)) rfl)
  k_Closed_NoBranch := of_decide_eq_true (all_at (exs c).2.2.2.2.2.1 171 (a := ("Closed", "NoBranch", false)) rfl)
  k_Closed_NoPlace := of_decide_eq_true (all_at (exs c).2.2.2.2.2.1 172 (a := ("Closed", "NoPlace", false)) rfl)
  k_Closed_TooLarge := of_decide_eq_true (all_at (exs c).2.2.2.2.2.1 173 (a := ("Closed", "TooLarge", false)) rfl)
  k_Closed_TooDeep := of_decide_eq_true (all_at (exs c).2.2.2.2.2.1 174 (a := ("Closed", "TooDeep", false)) rfl)
  k_Closed_TooMany := of_decide_eq_true (all_at (exs c).2.2.2.2.2.1 175 (a := ("Closed", "TooMany", false)) rfl)
  k_Closed_Rejected := of_decide_eq_true (all_at (exs c).2.2.2.2.2.1 176 (a := ("Closed", "Rejected", false)) rfl)
  k_Closed_NoDifference := of_decide_eq_true (all_at (exs c).2.2.2.2.2.1 177 (a := ("Closed", "NoDifference", false)) rfl)
  k_Closed_NoQuotient := of_decide_eq_true (all_at (exs c).2.2.2.2.2.1 178 (a := ("Closed", "NoQuotient", false)) rfl)
  k_Closed_NoBasin := of_decide_eq_true (all_at (exs c).2.2.2.2.2.1 179 (a := ("Closed", "NoBasin", false)) rfl)
  k_Closed_Closed := of_decide_eq_true (all_at (exs c).2.2.2.2.2.1 180 (a := ("Closed", "Closed", true)) rfl)
  k_Closed_Endless := of_decide_eq_true (all_at (exs c).2.2.2.2.2.1 181 (a := ("Closed", "Endless", false)) rfl)
  k_Closed_NotKind := of_decide_eq_true (all_at (exs c).2.2.2.2.2.1 182 (a := ("Closed", "NotKind", false)) rfl)
  k_Closed_Nested := of_decide_eq_true (all_at (exs c).2.2.2.2.2.1 183 (a := ("Closed", "Nested", false)) rfl)
  k_Closed_NoRow := of_decide_eq_true (all_at (exs c).2.2.2.2.2.1 184 (a := ("Closed", "NoRow", false)) rfl)
  k_Closed_NoDivision := of_decide_eq_true (all_at (exs c).2.2.2.2.2.1 185 (a := ("Closed", "NoDivision", false)) rfl)
  k_Closed_JetError := of_decide_eq_true (all_at (exs c).2.2.2.2.2.1 186 (a := ("Closed", "JetError", true)) rfl)
  k_Endless_NoText := of_decide_eq_true (all_at (exs c).2.2.2.2.2.1 187 (a := ("Endless", "NoText", false)) rfl)
  k_Endless_NoBranch := of_decide_eq_true (all_at (exs c).2.2.2.2.2.1 188 (a := ("Endless", "NoBranch", false)) rfl)
  k_Endless_NoPlace := of_decide_eq_true (all_at (exs c).2.2.2.2.2.1 189 (a := ("Endless", "NoPlace", false)) rfl)
  k_Endless_TooLarge := of_decide_eq_true (all_at (exs c).2.2.2.2.2.1 190 (a := ("Endless", "TooLarge", false)) rfl)
  k_Endless_TooDeep := of_decide_eq_true (all_at (exs c).2.2.2.2.2.1 191 (a := ("Endless", "TooDeep", false)) rfl)
  k_Endless_TooMany := of_decide_eq_true (all_at (exs c).2.2.2.2.2.1 192 (a := ("Endless", "TooMany", false)) rfl)
  k_Endless_Rejected := of_decide_eq_true (all_at (exs c).2.2.2.2.2.1 193 (a := ("Endless", "Rejected", false)) rfl)
  k_Endless_NoDifference := of_decide_eq_true (all_at (exs c).2.2.2.2.2.1 194 (a := ("Endless", "NoDifference", false)) rfl)
  k_Endless_NoQuotient := of_decide_eq_true (all_at (exs c).2.2.2.2.2.1 195 (a := ("Endless", "NoQuotient", false)) rfl)
  k_Endless_NoBasin := of_decide_eq_true (all_at (exs c).2.2.2.2.2.1 196 (a := ("Endless", "NoBasin", false)) rfl)
  k_Endless_Closed := of_decide_eq_true (all_at (exs c).2.2.2.2.2.1 197 (a := ("Endless", "Closed", false)) rfl)
  k_Endless_Endless := of_decide_eq_true (all_at (exs c).2.2.2.2.2.1 198 (a := ("Endless", "Endless", true)) rfl)
  k_Endless_NotKind := of_decide_eq_true (all_at (exs c).2.2.2.2.2.1 199 (a := ("Endless", "NotKind", false)) rfl)
  k_Endless_Nested := of_decide_eq_true (all_at (exs c).2.2.2.2.2.1 200 (a := ("Endless", "Nested", false)) rfl)
  k_Endless_NoRow := of_decide_eq_true (all_at (exs c).2.2.2.2.2.1 201 (a := ("Endless", "NoRow", false)) rfl)
  k_Endless_NoDivision := of_decide_eq_true (all_at (exs c).2.2.2.2.2.1 202 (a := ("Endless", "NoDivision", false)) rfl)
  k_Endless_JetError := of_decide_eq_true (all_at (exs c).2.2.2.2.2.1 203 (a := ("Endless", "JetError", true)) rfl)
  k_NotKind_NoText := of_decide_eq_true (all_at (exs c).2.2.2.2.2.1 204 (a := ("NotKind", "NoText", false)) rfl)
  k_NotKind_NoBranch := of_decide_eq_true (all_at (exs c).2.2.2.2.2.1 205 (a := ("NotKind", "NoBranch", false)) rfl)
  k_NotKind_NoPlace := of_decide_eq_true (all_at (exs c).2.2.2.2.2.1 206 (a := ("NotKind", "NoPlace", false)) rfl)
  k_NotKind_TooLarge := of_decide_eq_true (all_at (exs c).2.2.2.2.2.1 207 (a := ("NotKind", "TooLarge", false)) rfl)
  k_NotKind_TooDeep := of_decide_eq_true (all_at (exs c).2.2.2.2.2.1 208 (a := ("NotKind", "TooDeep", false)) rfl)
  k_NotKind_TooMany := of_decide_eq_true (all_at (exs c).2.2.2.2.2.1 209 (a := ("NotKind", "TooMany", false)) rfl)
  k_NotKind_Rejected := of_decide_eq_true (all_at (exs c).2.2.2.2.2.1 210 (a := ("NotKind", "Rejected", false)) rfl)
  k_NotKind_NoDifference := of_decide_eq_true (all_at (exs c).2.2.2.2.2.1 211 (a := ("NotKind", "NoDifference", false)) rfl)
  k_NotKind_NoQuotient := of_decide_eq_true (all_at (exs c).2.2.2.2.2.1 212 (a := ("NotKind", "NoQuotient", false)) rfl)
  k_NotKind_NoBasin := of_decide_eq_true (all_at (exs c).2.2.2.2.2.1 213 (a := ("NotKind", "NoBasin", false)) rfl)
  k_NotKind_Closed := of_decide_eq_true (all_at (exs c).2.2.2.2.2.1 214 (a := ("NotKind", "Closed", false)) rfl)
  k_NotKind_Endless := of_decide_eq_true (all_at (exs c).2.2.2.2.2.1 215 (a := ("NotKind", "Endless", false)) rfl)
  k_NotKind_NotKind := of_decide_eq_true (all_at (exs c).2.2.2.2.2.1 216 (a := ("NotKind", "NotKind", true)) rfl)
  k_NotKind_Nested := of_decide_eq_true (all_at (exs c).2.2.2.2.2.1 217 (a := ("NotKind", "Nested", false)) rfl)
  k_NotKind_NoRow := of_decide_eq_true (all_at (exs c).2.2.2.2.2.1 218 (a := ("NotKind", "NoRow", false)) rfl)
  k_NotKind_NoDivision := of_decide_eq_true (all_at (exs c).2.2.2.2.2.1 219 (a := ("NotKind", "NoDivision", false)) rfl)
  k_NotKind_JetError := of_decide_eq_true (all_at (exs c).2.2.2.2.2.1 220 (a := ("NotKind", "JetError", true)) rfl)
  k_Nested_NoText := of_decide_eq_true (all_at (exs c).2.2.2.2.2.1 221 (a := ("Nested", "NoText", false)) rfl)
  k_Nested_NoBranch := of_decide_eq_true (all_at (exs c).2.2.2.2.2.1 222 (a := ("Nested", "NoBranch", false)) rfl)
  k_Nested_NoPlace := of_decide_eq_true (all_at (exs c).2.2.2.2.2.1 223 (a := ("Nested", "NoPlace", false)) rfl)
  k_Nested_TooLarge := of_decide_eq_true (all_at (exs c).2.2.2.2.2.1 224 (a := ("Nested", "TooLarge", false)) rfl)
  k_Nested_TooDeep := of_decide_eq_true (all_at (exs c).2.2.2.2.2.1 225 (a := ("Nested", "TooDeep", false)) rfl)
  k_Nested_TooMany := of_decide_eq_true (all_at (exs c).2.2.2.2.2.1 226 (a := ("Nested", "TooMany", false)) rfl)
  k_Nested_Rejected := of_decide_eq_true (all_at (exs c).2.2.2.2.2.1 227 (a := ("Nested", "Rejected", false)) rfl)
  k_Nested_NoDifference := of_decide_eq_true (all_at (exs c).2.2.2.2.2.1 228 (a := ("Nested", "NoDifference", false)) rfl)
  k_Nested_NoQuotient := of_decide_eq_true (all_at (exs c).2.2.2.2.2.1 229 (a := ("Nested", "NoQuotient", false)) rfl)
  k_Nested_NoBasin := of_decide_eq_true (all_at (exs c).2.2.2.2.2.1 230 (a := ("Nested", "NoBasin", false)) rfl)
  k_Nested_Closed := of_decide_eq_true (all_at (exs c).2.2.2.2.2.1 231 (a := ("Nested", "Closed", false)) rfl)
  k_Nested_Endless := of_decide_eq_true (all_at (exs c).2.2.2.2.2.1 232 (a := ("Nested", "Endless", false)) rfl)
  k_Nested_NotKind := of_decide_eq_true (all_at (exs c).2.2.2.2.2.1 233 (a := ("Nested", "NotKind", false)) rfl)
  k_Nested_Nested := of_decide_eq_true (all_at (exs c).2.2.2.2.2.1 234 (a := ("Nested", "Nested", true)) rfl)
  k_Nested_NoRow := of_decide_eq_true (all_at (exs c).2.2.2.2.2.1 235 (a := ("Nested", "NoRow", false)) rfl)
  k_Nested_NoDivision := of_decide_eq_true (all_at (exs c).2.2.2.2.2.1 236 (a := ("Nested", "NoDivision", false)) rfl)
  k_Nested_JetError := of_decide_eq_true (all_at (exs c).2.2.2.2.2.1 237 (a := ("Nested", "JetError", true)) rfl)
  k_NoRow_NoText := of_decide_eq_true (all_at (exs c).2.2.2.2.2.1 238 (a := ("NoRow", "NoText", false)) rfl)
  k_NoRow_NoBranch := of_decide_eq_true (all_at (exs c).2.2.2.2.2.1 239 (a := ("NoRow", "NoBranch", false)) rfl)
  k_NoRow_NoPlace := of_decide_eq_true (all_at (exs c).2.2.2.2.2.1 240 (a := ("NoRow", "NoPlace", false)) rfl)
  k_NoRow_TooLarge := of_decide_eq_true (all_at (exs c).2.2.2.2.2.1 241 (a := ("NoRow", "TooLarge", false)) rfl)
  k_NoRow_TooDeep := of_decide_eq_true (all_at (exs c).2.2.2.2.2.1 242 (a := ("NoRow", "TooDeep", false)) rfl)
  k_NoRow_TooMany := of_decide_eq_true (all_at (exs c).2.2.2.2.2.1 243 (a := ("NoRow", "TooMany", false)) rfl)
  k_NoRow_Rejected := of_decide_eq_true (all_at (exs c).2.2.2.2.2.1 244 (a := ("NoRow", "Rejected", false)) rfl)
  k_NoRow_NoDifference := of_decide_eq_true (all_at (exs c).2.2.2.2.2.1 245 (a := ("NoRow", "NoDifference", false)) rfl)
  k_NoRow_NoQuotient := of_decide_eq_true (all_at (exs c).2.2.2.2.2.1 246 (a := ("NoRow", "NoQuotient", false)) rfl)
  k_NoRow_NoBasin := of_decide_eq_true (all_at (exs c).2.2.2.2.2.1 247 (a := ("NoRow", "NoBasin", false)) rfl)
  k_NoRow_Closed := of_decide_eq_true (all_at (exs c).2.2.2.2.2.1 248 (a := ("NoRow", "Closed", false)) rfl)
  k_NoRow_Endless := of_decide_eq_true (all_at (exs c).2.2.2.2.2.1 249 (a := ("NoRow", "Endless", false)) rfl)
  k_NoRow_NotKind := of_decide_eq_true (all_at (exs c).2.2.2.2.2.1 250 (a := ("NoRow", "NotKind", false)) rfl)
  k_NoRow_Nested := of_decide_eq_true (all_at (exs c).2.2.2.2.2.1 251 (a := ("NoRow", "Nested", false)) rfl)
  k_NoRow_NoRow := of_decide_eq_true (all_at (exs c).2.2.2.2.2.1 252 (a := ("NoRow", "NoRow", true)) rfl)
  k_NoRow_NoDivision := of_decide_eq_true (all_at (exs c).2.2.2.2.2.1 253 (a := ("NoRow", "NoDivision", false)) rfl)
  k_NoRow_JetError := of_decide_eq_true (all_at (exs c).2.2.2.2.2.1 254 (a := ("NoRow", "JetError", true)) rfl)
  k_NoDivision_NoText := of_decide_eq_true (all_at (exs c).2.2.2.2.2.1 255 (a := ("NoDivision", "NoText", false)) rfl)
  k_NoDivision_NoBranch := of_decide_eq_true (all_at (exs c).2.2.2.2.2.1 256 (a := ("NoDivision", "NoBranch", false)) rfl)
  k_NoDivision_NoPlace := of_decide_eq_true (all_at (exs c).2.2.2.2.2.1 257 (a := ("NoDivision", "NoPlace", false)) rfl)
  k_NoDivision_TooLarge := of_decide_eq_true (all_at (exs c).2.2.2.2.2.1 258 (a := ("NoDivision", "TooLarge", false)) rfl)
  k_NoDivision_TooDeep := of_decide_eq_true (all_at (exs c).2.2.2.2.2.1 259 (a := ("NoDivision", "TooDeep", false)) rfl)
  k_NoDivision_TooMany := of_decide_eq_true (all_at (exs c).2.2.2.2.2.1 260 (a := ("NoDivision", "TooMany", false)) rfl)
  k_NoDivision_Rejected := of_decide_eq_true (all_at (exs c).2.2.2.2.2.1 261 (a := ("NoDivision", "Rejected", false)) rfl)
  k_NoDivision_NoDifference := of_decide_eq_true (all_at (exs c).2.2.2.2.2.1 262 (a := ("NoDivision", "NoDifference", false)) rfl)
  k_NoDivision_NoQuotient := of_decide_eq_true (all_at (exs c).2.2.2.2.2.1 263 (a := ("NoDivision", "NoQuotient", false)) rfl)
  k_NoDivision_NoBasin := of_decide_eq_true (all_at (exs c).2.2.2.2.2.1 264 (a := ("NoDivision", "NoBasin", false)) rfl)
  k_NoDivision_Closed := of_decide_eq_true (all_at (exs c).2.2.2.2.2.1 265 (a := ("NoDivision", "Closed", false)) rfl)
  k_NoDivision_Endless := of_decide_eq_true (all_at (exs c).2.2.2.2.2.1 266 (a := ("NoDivision", "Endless", false)) rfl)
  k_NoDivision_NotKind := of_decide_eq_true (all_at (exs c).2.2.2.2.2.1 267 (a := ("NoDivision", "NotKind", false)) rfl)
  k_NoDivision_Nested := of_decide_eq_true (all_at (exs c).2.2.2.2.2.1 268 (a := ("NoDivision", "Nested", false)) rfl)
  k_NoDivision_NoRow := of_decide_eq_true (all_at (exs c).2.2.2.2.2.1 269 (a := ("NoDivision", "NoRow", false)) rfl)
  k_NoDivision_NoDivision := of_decide_eq_true (all_at (exs c).2.2.2.2.2.1 270 (a := ("NoDivision", "NoDivision", true)) rfl)
  k_NoDivision_JetError := of_decide_eq_true (all_at (exs c).2.2.2.2.2.1 271 (a := ("NoDivision", "JetError", true)) rfl)
  x_oex_NoDivision := of_decide_eq_true (all_at (ba c.more).1 0 (a := fun K : PySem.W.Frag => decide (oexB K (He.ga K "NoDivision") = true)) rfl)
  x_exc_NoDivision := of_decide_eq_true (all_at (ba c.more).1 1 (a := fun K : PySem.W.Frag => decide (excB K (He.ga K "NoDivision") = true)) rfl)
  x_init_NoDivision := of_decide_eq_true (all_at (ba c.more).1 2 (a := fun K : PySem.W.Frag => decide (PySem.W.findIn K (.ref (He.ga K "NoDivision")) "__init__" = some (some (.builtin "ValueError.__init__")))) rfl)
  v_NoText := of_decide_eq_true (all_at (ba c.more).1 3 (a := fun K : PySem.W.Frag => decide (PySem.W.kitOne K (.ref (He.ga K "NoText")) (.type "ValueError") = some true)) rfl)
  v_NoBranch := of_decide_eq_true (all_at (ba c.more).1 4 (a := fun K : PySem.W.Frag => decide (PySem.W.kitOne K (.ref (He.ga K "NoBranch")) (.type "ValueError") = some true)) rfl)
  v_NoPlace := of_decide_eq_true (all_at (ba c.more).1 5 (a := fun K : PySem.W.Frag => decide (PySem.W.kitOne K (.ref (He.ga K "NoPlace")) (.type "ValueError") = some true)) rfl)
  v_TooLarge := of_decide_eq_true (all_at (ba c.more).1 6 (a := fun K : PySem.W.Frag => decide (PySem.W.kitOne K (.ref (He.ga K "TooLarge")) (.type "ValueError") = some true)) rfl)
  v_TooDeep := of_decide_eq_true (all_at (ba c.more).1 7 (a := fun K : PySem.W.Frag => decide (PySem.W.kitOne K (.ref (He.ga K "TooDeep")) (.type "ValueError") = some true)) rfl)
  v_TooMany := of_decide_eq_true (all_at (ba c.more).1 8 (a := fun K : PySem.W.Frag => decide (PySem.W.kitOne K (.ref (He.ga K "TooMany")) (.type "ValueError") = some true)) rfl)
  v_Rejected := of_decide_eq_true (all_at (ba c.more).1 9 (a := fun K : PySem.W.Frag => decide (PySem.W.kitOne K (.ref (He.ga K "Rejected")) (.type "ValueError") = some true)) rfl)
  v_NoDifference := of_decide_eq_true (all_at (ba c.more).1 10 (a := fun K : PySem.W.Frag => decide (PySem.W.kitOne K (.ref (He.ga K "NoDifference")) (.type "ValueError") = some true)) rfl)
  v_NoQuotient := of_decide_eq_true (all_at (ba c.more).1 11 (a := fun K : PySem.W.Frag => decide (PySem.W.kitOne K (.ref (He.ga K "NoQuotient")) (.type "ValueError") = some true)) rfl)
  v_NoBasin := of_decide_eq_true (all_at (ba c.more).1 12 (a := fun K : PySem.W.Frag => decide (PySem.W.kitOne K (.ref (He.ga K "NoBasin")) (.type "ValueError") = some true)) rfl)
  v_Closed := of_decide_eq_true (all_at (ba c.more).1 13 (a := fun K : PySem.W.Frag => decide (PySem.W.kitOne K (.ref (He.ga K "Closed")) (.type "ValueError") = some true)) rfl)
  v_Endless := of_decide_eq_true (all_at (ba c.more).1 14 (a := fun K : PySem.W.Frag => decide (PySem.W.kitOne K (.ref (He.ga K "Endless")) (.type "ValueError") = some true)) rfl)
  v_NotKind := of_decide_eq_true (all_at (ba c.more).1 15 (a := fun K : PySem.W.Frag => decide (PySem.W.kitOne K (.ref (He.ga K "NotKind")) (.type "ValueError") = some true)) rfl)
  v_Nested := of_decide_eq_true (all_at (ba c.more).1 16 (a := fun K : PySem.W.Frag => decide (PySem.W.kitOne K (.ref (He.ga K "Nested")) (.type "ValueError") = some true)) rfl)
  v_NoRow := of_decide_eq_true (all_at (ba c.more).1 17 (a := fun K : PySem.W.Frag => decide (PySem.W.kitOne K (.ref (He.ga K "NoRow")) (.type "ValueError") = some true)) rfl)
  v_NoDivision := of_decide_eq_true (all_at (ba c.more).1 18 (a := fun K : PySem.W.Frag => decide (PySem.W.kitOne K (.ref (He.ga K "NoDivision")) (.type "ValueError") = some true)) rfl)
  n_NotImplemented := free_ok X G (c.d.fact 63 (f := .free "NotImplemented") rfl)
  n_TypeError := free_ok X G (c.d.fact 64 (f := .free "TypeError") rfl)
  n_ValueError := free_ok X G (c.d.fact 65 (f := .free "ValueError") rfl)
  n_abs := free_ok X G (c.d.fact 66 (f := .free "abs") rfl)
  n_any := free_ok X G (c.d.fact 67 (f := .free "any") rfl)
  n_enumerate := free_ok X G (c.d.fact 68 (f := .free "enumerate") rfl)
  n_int := free_ok X G (c.d.fact 69 (f := .free "int") rfl)
  n_isinstance := free_ok X G (c.d.fact 70 (f := .free "isinstance") rfl)
  n_len := free_ok X G (c.d.fact 71 (f := .free "len") rfl)
  n_list := free_ok X G (c.d.fact 72 (f := .free "list") rfl)
  n_max := free_ok X G (c.d.fact 73 (f := .free "max") rfl)
  n_min := free_ok X G (c.d.fact 74 (f := .free "min") rfl)
  n_range := free_ok X G (c.d.fact 75 (f := .free "range") rfl)
  n_repr := free_ok X G (c.d.fact 76 (f := .free "repr") rfl)
  n_sorted := free_ok X G (c.d.fact 77 (f := .free "sorted") rfl)
  n_sum := free_ok X G (c.d.fact 78 (f := .free "sum") rfl)
  n_tuple := free_ok X G (c.d.fact 79 (f := .free "tuple") rfl)
theorem tabs_of {K : PySem.W.Frag} {H : Hp} (hH : ∀ p ∈ tf.map (cT K), H p.2 = some (.tbl #[])) : LamX.Tabs (TT K) H := fun q hq => by
  rcases List.mem_cons.mp hq with e | hq
  · subst e
    exact LamX.TabS.nil (hH _ (List.mem_map.mpr ⟨("made", none), List.mem_of_getElem? (i := 0) rfl, rfl⟩))
  · exact absurd hq (by simp)
theorem facts {w : World} {K : PySem.W.Frag} {h : Heap} {mg : Str → Option Value} {f : Addr} (X : K.In h) (G : h.Ns mainGlobals mg) (hfa : mg ("law" : Str) = some (.ref f)) (c : SaysE fa fn tf ex fx h K) :
    LawG PySem.Challenge.rw_jetworks_k01_errors_and_their_attributes w K CX0 101 63 "_law_script" mg f h := by
  obtain ⟨fd, F⟩ := c.d.def_ 43 (d := dfn "law" none "law" "law" s_law [] []) rfl
  have e := hfa.symm.trans (glo_ok X G (c.d.fact 60 (f := .glo "law") rfl))
  cases e
  refine ⟨fd, tf.map (cT K), sp_law K, fun p hp => ?_, fun p hp => ?_, fun p hp => ?_, fun s v => FunD.bindsA (ps := ["_law_script"]) F (fun _ _ _ _ _ _ us hl => match us, hl with | [_], _ => rfl) s [v] rfl, fun H a ns hl _ hH hS => ⟨a, ns, rfl, hS, hl, tabs_of hH, fun _ => rfl⟩, fun base kb nb TB => fn_law (txt_of kb nb c TB) F⟩
  · obtain ⟨q, hq, rfl⟩ := List.mem_map.mp hp
    exact c.empty q hq
  · obtain ⟨q, hq, rfl⟩ := List.mem_map.mp hp
    exact c.out q hq
  · obtain ⟨q, hq, rfl⟩ := List.mem_map.mp hp
    exact PySem.W.codeHd_of_K X (c.hd q hq)

end JW
open PySem PySem.W PySem.Calls PyProof.Rows
set_option maxRecDepth 100000 in
set_option maxHeartbeats 0 in
theorem PySem.Challenge.cw_jetworks_k01_errors_and_their_attributes_holds : PySem.Challenge.rw_jetworks_k01_errors_and_their_attributes.Holds := by
  w_on; o_law
  refine HandSHeadRun.head_any (r := OpenLaw.row PySem.Challenge.rw_jetworks_k01_errors_and_their_attributes) (q := view (OpenLaw.row PySem.Challenge.rw_jetworks_k01_errors_and_their_attributes).prog [42]) (H := JW.hk) (ob := JW.ob) (M := 200000) (loose := JW.loose) (d := HandSHeadRun.topDef (OpenLaw.row PySem.Challenge.rw_jetworks_k01_errors_and_their_attributes).prog 42) (kwd := []) JW.ob_eq
    (by kernel_rfl) (fun s => by kernel_rfl) JW.run (by kernel_rfl) (by kernel_rfl) (by kernel_rfl) (by rfl) (by first | assumption | decide +kernel) (by decide +kernel) ⟨rfl, rfl, rfl, rfl, rfl, by decide +kernel⟩ ?hw ?hc
  case hw => w_witness2
  case hc =>
    refine JW.walk_lawG (l := PySem.Challenge.rw_jetworks_k01_errors_and_their_attributes) (n := 63) (k := 101) (x := "_law_script") (cx := fun _ => L2.CX0) rfl (by decide) (by kernel_rfl) ⟨rfl, by decide, by decide⟩ ?F (fun _ _ _ _ _ z => z)
    intro w mg fa h Y G hmg0
    obtain ⟨K, KX, c⟩ := Y
    have hmg : mg ("law" : PySem.Str) = some (.ref fa) := by
      have e : (HandSHeadRun.topDef (OpenLaw.row PySem.Challenge.rw_jetworks_k01_errors_and_their_attributes).prog 42).name = ("law" : PySem.Str) := by kernel_rfl
      rw [← e]
      exact hmg0
    exact ⟨K, KX, JW.facts KX G hmg c⟩

