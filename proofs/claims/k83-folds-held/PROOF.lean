import PyProof.Rows.All
import Wide.All
import OpenK.AllK
import Wide.FinOn
import KE.KStateDown
import Lean
import HandS.ForMost
import HandS.More
import HandS.Exc
import HandS.WordsExc
import HandS.Defaults
import HandS.Flow
import HandS.Style
import HandS.Wide
import HandS.IsInst
import HandS.Head0
import HandS.Head1
import HandS.Head2
import HandS.HeadEnd
import HandS.HeadHook1
import HandS.HeadHook2
import PyProof.NeKinds
import PyProof.InstNe
import OpenK.KMeth
import HandS.Property
import HandS.ClsMeth
import HandS.OwnEq
import KE.KSortKeyAny
import KE.KLam
import HandS.Lambda
import HandS.SortKw
import PyProof.Rows.SortShellAny
import KE.DataMinMax
import HandS.HeadHook4
import HandS.HeadWalk
import HandS.EndTab
import HandS.TupAny
import HandS.ExcInit
import HandS.ExcField
import HandS.ExcIs
import KE.KExcIs
import HandS.ExcOwn
import HandS.TryOnly
import HandS.TupMul
import HandS.Star
import HandS.ReplaceLit
import HandS.Walk
import HandS.ReplaceDef
import HandS.ReplaceList
import HandS.GenList
import HandS.Conv
import HandS.FStr
import HandS.Zip
import HandS.Deep
import HandS.MakeKwOnly
import HandS.HotCalls
import HandS.SetBool
import HandS.TupSets
import KE.SortData
import HandS.Finally
import PySem.Challenge.RW_jetworks_k83_folds_that_are_held
set_option Elab.async false
set_option linter.all false
set_option maxRecDepth 100000
set_option exponentiation.threshold 100000
set_option maxHeartbeats 4000000
set_option pp.maxSteps 700
namespace JW
inductive T where
  | jet
  | bas (l : List T)
mutual
def T.codes : T → List Nat
  | .jet => [111]
  | .bas l => 40 :: (codesL l ++ [41])
def codesL : List T → List Nat
  | [] => []
  | t :: r => t.codes ++ codesL r
end
mutual
theorem T.ind' {P : T → Prop} (hj : P .jet) (hb : ∀ l, (∀ t ∈ l, P t) → P (.bas l)) : ∀ t, P t
  | .jet => hj
  | .bas l => hb l (indL' hj hb l)
theorem indL' {P : T → Prop} (hj : P .jet) (hb : ∀ l, (∀ t ∈ l, P t) → P (.bas l)) : ∀ l : List T, ∀ t ∈ l, P t
  | [], _, h => nomatch h
  | u :: r, t, h => by
    rcases List.mem_cons.mp h with e | e
    · exact e ▸ T.ind' hj hb u
    · exact indL' hj hb r t e
end
theorem codes_head : ∀ t : T, (∃ r, t.codes = 111 :: r) ∨ ∃ r, t.codes = 40 :: r
  | .jet => .inl ⟨[], rfl⟩
  | .bas l => .inr ⟨_, rfl⟩
mutual
theorem codes_pre : ∀ (t u : T) (r s : List Nat), t.codes ++ r = u.codes ++ s → t = u ∧ r = s
  | .jet, .jet, r, s, h => ⟨rfl, List.cons.inj h |>.2⟩
  | .jet, .bas l, r, s, h => by
    have h1 : (111 : Nat) = 40 := (List.cons.inj h).1
    cases h1
  | .bas l, .jet, r, s, h => by
    have h1 : (40 : Nat) = 111 := (List.cons.inj h).1
    cases h1
  | .bas l, .bas m, r, s, h => by
    have h1 : codesL l ++ [41] ++ r = codesL m ++ [41] ++ s := (List.cons.inj h).2
    rw [List.append_assoc, List.append_assoc] at h1
    obtain ⟨e1, e2⟩ := codesL_pre l m r s h1
    exact ⟨by rw [e1], e2⟩
theorem codesL_pre : ∀ (l m : List T) (r s : List Nat), codesL l ++ ([41] ++ r) = codesL m ++ ([41] ++ s) → l = m ∧ r = s
  | [], [], r, s, h => ⟨rfl, (List.cons.inj h).2⟩
  | [], u :: m, r, s, h => by
    have h1 : 41 :: r = u.codes ++ (codesL m ++ ([41] ++ s)) := by
      have h2 : codesL (u :: m) ++ ([41] ++ s) = u.codes ++ (codesL m ++ ([41] ++ s)) := List.append_assoc _ _ _
      rw [← h2]
      exact h
    rcases codes_head u with ⟨q, e⟩ | ⟨q, e⟩
    · rw [e] at h1
      cases (List.cons.inj h1).1
    · rw [e] at h1
      cases (List.cons.inj h1).1
  | t :: l, [], r, s, h => by
    have h1 : t.codes ++ (codesL l ++ ([41] ++ r)) = 41 :: s := by
      have h2 : codesL (t :: l) ++ ([41] ++ r) = t.codes ++ (codesL l ++ ([41] ++ r)) := List.append_assoc _ _ _
      rw [← h2]
      exact h
    rcases codes_head t with ⟨q, e⟩ | ⟨q, e⟩
    · rw [e] at h1
      cases (List.cons.inj h1).1
    · rw [e] at h1
      cases (List.cons.inj h1).1
  | t :: l, u :: m, r, s, h => by
    have h1 : t.codes ++ (codesL l ++ ([41] ++ r)) = u.codes ++ (codesL m ++ ([41] ++ s)) := by
      have h2 : codesL (t :: l) ++ ([41] ++ r) = t.codes ++ (codesL l ++ ([41] ++ r)) := List.append_assoc _ _ _
      have h3 : codesL (u :: m) ++ ([41] ++ s) = u.codes ++ (codesL m ++ ([41] ++ s)) := List.append_assoc _ _ _
      rw [← h2, ← h3]
      exact h
    obtain ⟨e1, e2⟩ := codes_pre t u _ _ h1
    obtain ⟨e3, e4⟩ := codesL_pre l m r s e2
    exact ⟨by rw [e1, e3], e4⟩
end
theorem codes_inj {t u : T} (h : t.codes = u.codes) : t = u := (codes_pre t u [] [] (by rw [h])).1
instance : DecidableEq T := fun a b => if h : a.codes = b.codes then isTrue (codes_inj h) else isFalse fun e => h (e ▸ rfl)
def tle (a b : T) : Bool := !decide (b.codes < a.codes)
theorem tle_trans (a b c : T) (h1 : tle a b = true) (h2 : tle b c = true) : tle a c = true := by
  unfold tle at *
  simp only [Bool.not_eq_true', decide_eq_false_iff_not] at *
  exact fun h => h1 (List.lt_of_le_of_lt (List.not_lt.mp h2) h)
theorem tle_total (a b : T) : (tle a b || tle b a) = true := by
  unfold tle
  by_cases h : b.codes < a.codes
  · have h2 : ¬ a.codes < b.codes := List.lt_asymm h
    simp [h2]
  · simp [h]
theorem tle_anti {a b : T} (h1 : tle a b = true) (h2 : tle b a = true) : a = b := by
  unfold tle at *
  simp only [Bool.not_eq_true', decide_eq_false_iff_not] at *
  exact codes_inj (List.le_antisymm (List.not_lt.mp h1) (List.not_lt.mp h2))
abbrev Srt (l : List T) : Prop := l.Pairwise fun a b => tle a b = true
def sortT (l : List T) : List T := l.mergeSort tle
theorem sortT_perm (l : List T) : (sortT l).Perm l := List.mergeSort_perm l tle
theorem sortT_srt (l : List T) : Srt (sortT l) := List.pairwise_mergeSort tle_trans tle_total l
theorem srt_unique : ∀ {a b : List T}, a.Perm b → Srt a → Srt b → a = b
  | [], b, p, _, _ => (List.nil_perm.mp p).symm ▸ rfl
  | x :: a, [], p, _, _ => absurd p.length_eq (by simp)
  | x :: a, y :: b, p, ha, hb => by
    have hx := List.pairwise_cons.mp ha
    have hy := List.pairwise_cons.mp hb
    have exy : x = y := by
      have h1 : x ∈ y :: b := p.mem_iff.mp List.mem_cons_self
      have h2 : y ∈ x :: a := p.mem_iff.mpr List.mem_cons_self
      rcases List.mem_cons.mp h1 with e | h1
      · exact e
      · rcases List.mem_cons.mp h2 with e | h2
        · exact e.symm
        · exact tle_anti (hx.1 y h2) (hy.1 x h1)
    subst exy
    rw [srt_unique (List.Perm.cons_inv p) hx.2 hy.2]
theorem sortT_eq {a b : List T} (p : a.Perm b) (h : Srt a) : a = sortT b := srt_unique (p.trans (sortT_perm b).symm) h (sortT_srt b)
theorem sortT_congr {a b : List T} (p : a.Perm b) : sortT a = sortT b := srt_unique ((sortT_perm a).trans (p.trans (sortT_perm b).symm)) (sortT_srt a) (sortT_srt b)
theorem sortT_of {a : List T} (h : Srt a) : sortT a = a := (sortT_eq (List.Perm.refl a) h).symm
mutual
def T.canon : T → T
  | .jet => .jet
  | .bas l => .bas (sortT (canonL l))
def canonL : List T → List T
  | [] => []
  | t :: r => t.canon :: canonL r
end
theorem canonL_map : ∀ l : List T, canonL l = l.map T.canon
  | [] => rfl
  | t :: r => by
    show t.canon :: canonL r = t.canon :: r.map T.canon
    rw [canonL_map r]
theorem canon_bas (l : List T) : (T.bas l).canon = .bas (sortT (l.map T.canon)) := by
  show T.bas (sortT (canonL l)) = _
  rw [canonL_map]
mutual
def Can : T → Prop
  | .jet => True
  | .bas l => Srt l ∧ CanL l
def CanL : List T → Prop
  | [] => True
  | t :: r => Can t ∧ CanL r
end
theorem canL_iff : ∀ {l : List T}, CanL l ↔ ∀ t ∈ l, Can t
  | [] => ⟨fun _ _ h => (nomatch h), fun _ => trivial⟩
  | t :: r => by
    constructor
    · intro h u hu
      have h1 : Can t := h.1
      have h2 : CanL r := h.2
      rcases List.mem_cons.mp hu with e | e
      · exact e ▸ h1
      · exact canL_iff.mp h2 u e
    · exact fun h => ⟨h t List.mem_cons_self, canL_iff.mpr fun u hu => h u (List.mem_cons_of_mem _ hu)⟩
theorem can_canon : ∀ t : T, Can t → t.canon = t := by
  refine T.ind' (fun _ => rfl) fun l ih h => ?_
  rw [canon_bas]
  have e : l.map T.canon = l := by
    rw [show l.map T.canon = l.map id from List.map_congr_left fun t ht => ih t ht (canL_iff.mp h.2 t ht), List.map_id]
  rw [e, sortT_of h.1]
theorem canL_sort {l : List T} (h : CanL l) : CanL (sortT l) := canL_iff.mpr fun t ht => canL_iff.mp h t ((sortT_perm l).mem_iff.mp ht)
theorem can_bas {l : List T} (h : CanL l) : Can (.bas (sortT l)) := ⟨sortT_srt l, canL_sort h⟩
theorem canon_can : ∀ t : T, Can t.canon := by
  refine T.ind' trivial fun l ih => ?_
  rw [canon_bas]
  refine can_bas (canL_iff.mpr fun t ht => ?_)
  obtain ⟨u, hu, e⟩ := List.mem_map.mp ht
  exact e ▸ ih u hu
mutual
def T.size : T → Nat
  | .jet => 1
  | .bas l => 1 + sizeL l
def sizeL : List T → Nat
  | [] => 0
  | t :: r => t.size + sizeL r
end
mutual
def T.jts : T → Nat
  | .jet => 1
  | .bas l => jtsL l
def jtsL : List T → Nat
  | [] => 0
  | t :: r => t.jts + jtsL r
end
mutual
def T.dep : T → Nat
  | .jet => 0
  | .bas l => 1 + depL l
def depL : List T → Nat
  | [] => 0
  | t :: r => max t.dep (depL r)
end
mutual
def T.lng : T → Nat
  | .jet => 0
  | .bas l => 1 + lngL l
def lngL : List T → Nat
  | [] => 0
  | t :: r => if t.jts = 0 then lngL r else max t.lng (lngL r)
end
mutual
def T.sht : T → Nat
  | .jet => 0
  | .bas l => 1 + shtL l
def shtL : List T → Nat
  | [] => 0
  | t :: r => if t.jts = 0 then shtL r else if jtsL r = 0 then t.sht else min t.sht (shtL r)
end
theorem sizeL_sum : ∀ l : List T, sizeL l = (l.map T.size).sum
  | [] => rfl
  | t :: r => by
    show t.size + sizeL r = _
    rw [sizeL_sum r, List.map_cons, List.sum_cons]
theorem jtsL_sum : ∀ l : List T, jtsL l = (l.map T.jts).sum
  | [] => rfl
  | t :: r => by
    show t.jts + jtsL r = _
    rw [jtsL_sum r, List.map_cons, List.sum_cons]
theorem sizeL_perm {a b : List T} (p : a.Perm b) : sizeL a = sizeL b := by rw [sizeL_sum, sizeL_sum, (p.map T.size).sum_nat]
theorem jtsL_perm {a b : List T} (p : a.Perm b) : jtsL a = jtsL b := by rw [jtsL_sum, jtsL_sum, (p.map T.jts).sum_nat]
theorem depL_perm {a b : List T} (p : a.Perm b) : depL a = depL b := by
  induction p with
  | nil => rfl
  | cons x _ ih => show max _ _ = max _ _; rw [ih]
  | swap x y l => show max _ (max _ _) = max _ (max _ _); omega
  | trans _ _ h1 h2 => exact h1.trans h2
theorem size_pos : ∀ t : T, 0 < t.size
  | .jet => Nat.zero_lt_one
  | .bas l => by show 0 < 1 + sizeL l; omega
theorem canon_size : ∀ t : T, t.canon.size = t.size := by
  refine T.ind' rfl fun l ih => ?_
  rw [canon_bas]
  show 1 + sizeL (sortT (l.map T.canon)) = 1 + sizeL l
  rw [sizeL_perm (sortT_perm _), sizeL_sum, sizeL_sum, List.map_map, List.map_congr_left (f := T.size ∘ T.canon) fun t ht => ih t ht]
theorem canon_jts : ∀ t : T, t.canon.jts = t.jts := by
  refine T.ind' rfl fun l ih => ?_
  rw [canon_bas]
  show jtsL (sortT (l.map T.canon)) = jtsL l
  rw [jtsL_perm (sortT_perm _), jtsL_sum, jtsL_sum, List.map_map, List.map_congr_left (f := T.jts ∘ T.canon) fun t ht => ih t ht]
theorem depL_congr {f : T → T} : ∀ {l : List T}, (∀ t ∈ l, (f t).dep = t.dep) → depL (l.map f) = depL l
  | [], _ => rfl
  | t :: r, h => by
    show max _ _ = max _ _
    rw [h t List.mem_cons_self, depL_congr fun u hu => h u (List.mem_cons_of_mem _ hu)]
theorem canon_dep : ∀ t : T, t.canon.dep = t.dep := by
  refine T.ind' rfl fun l ih => ?_
  rw [canon_bas]
  show 1 + depL (sortT (l.map T.canon)) = 1 + depL l
  rw [depL_perm (sortT_perm _), depL_congr ih]
theorem codes_len : ∀ t : T, t.codes.length + t.jts = 2 * t.size ∧ 1 ≤ t.codes.length := by
  refine T.ind' ⟨rfl, Nat.le_refl _⟩ fun l ih => ?_
  have e : ∀ l : List T, (∀ t ∈ l, t.codes.length + t.jts = 2 * t.size ∧ 1 ≤ t.codes.length) → (codesL l).length + jtsL l = 2 * sizeL l := by
    intro l
    induction l with
    | nil => intro _; rfl
    | cons t r ihr =>
      intro h
      have h1 := (h t List.mem_cons_self).1
      have h2 := ihr fun u hu => h u (List.mem_cons_of_mem _ hu)
      show (t.codes ++ codesL r).length + (t.jts + jtsL r) = 2 * (t.size + sizeL r)
      rw [List.length_append]
      omega
  have h := e l ih
  show (40 :: (codesL l ++ [41])).length + jtsL l = 2 * (1 + sizeL l) ∧ 1 ≤ (40 :: (codesL l ++ [41])).length
  rw [List.length_cons, List.length_append, List.length_singleton]
  omega
theorem len_le {t : T} {l : List T} (h : t ∈ l) : t.size ≤ sizeL l := by
  induction l with
  | nil => cases h
  | cons u r ih =>
    show _ ≤ u.size + sizeL r
    rcases List.mem_cons.mp h with e | e
    · subst e; omega
    · have := ih e; omega
theorem length_le : ∀ l : List T, l.length ≤ sizeL l
  | [] => Nat.le_refl _
  | t :: r => by
    have := length_le r
    have := size_pos t
    show r.length + 1 ≤ t.size + sizeL r
    omega
theorem dep_le_size : ∀ t : T, t.dep + 1 ≤ t.size + 1 := by
  refine T.ind' (by decide) fun l ih => ?_
  have e : ∀ l : List T, (∀ t ∈ l, t.dep + 1 ≤ t.size + 1) → depL l ≤ sizeL l := by
    intro l
    induction l with
    | nil => intro _; exact Nat.le_refl _
    | cons t r ihr =>
      intro h
      have h1 := h t List.mem_cons_self
      have h2 := ihr fun u hu => h u (List.mem_cons_of_mem _ hu)
      show max t.dep (depL r) ≤ t.size + sizeL r
      omega
  have := e l ih
  show 1 + depL l + 1 ≤ 1 + sizeL l + 1
  omega
abbrev PSt := List (List T) × Option T
def pput (t : T) : List (List T) → PSt
  | [] => ([], some t)
  | p :: r => ((p ++ [t]) :: r, none)
def pstep (s : PSt) (c : Nat) : Option PSt := match s.2 with
  | some _ => none
  | none => if c = 40 then some ([] :: s.1, none) else if c = 111 then some (pput .jet s.1) else if c = 41 then
      (match s.1 with
      | [] => none
      | p :: r => some (pput (.bas (sortT p)) r)) else none
def prun : List Nat → PSt → Option PSt
  | [], s => some s
  | c :: r, s => (pstep s c).bind (prun r)
mutual
theorem prun_codes : ∀ (t : T) (k : List Nat) (st : List (List T)), prun (t.codes ++ k) (st, none) = prun k (pput t.canon st)
  | .jet, k, st => rfl
  | .bas l, k, st => by
    show prun (codesL l ++ [41] ++ k) ([] :: st, none) = _
    rw [List.append_assoc, prun_codesL l ([41] ++ k) [] st, List.nil_append]
    show prun k (pput (.bas (sortT (canonL l))) st) = _
    rfl
theorem prun_codesL : ∀ (l : List T) (k : List Nat) (p : List T) (st : List (List T)), prun (codesL l ++ k) (p :: st, none) = prun k ((p ++ canonL l) :: st, none)
  | [], k, p, st => by
    show prun k _ = prun k ((p ++ []) :: st, none)
    rw [List.append_nil]
  | t :: r, k, p, st => by
    show prun (t.codes ++ codesL r ++ k) _ = prun k ((p ++ (t.canon :: canonL r)) :: st, none)
    rw [List.append_assoc, prun_codes t (codesL r ++ k) (p :: st)]
    show prun (codesL r ++ k) ((p ++ [t.canon]) :: st, none) = _
    rw [prun_codesL r k (p ++ [t.canon]) st, List.append_assoc]
    rfl
end
theorem prun_all (t : T) : prun t.codes ([], none) = some ([], some t.canon) := by
  have h := prun_codes t [] []
  rw [List.append_nil] at h
  exact h
def opn (t : T) : Bool := decide (0 < t.jts)
theorem jtsL_zero : ∀ {l : List T}, jtsL l = 0 ↔ l.filter opn = []
  | [] => ⟨fun _ => rfl, fun _ => rfl⟩
  | t :: r => by
    have ih := jtsL_zero (l := r)
    show t.jts + jtsL r = 0 ↔ _
    rw [List.filter_cons]
    unfold opn at *
    by_cases h : 0 < t.jts
    · simp [h]; omega
    · simp only [h, decide_false]
      simp only [Bool.false_eq_true, if_false]
      rw [← ih]
      omega
theorem lngL_in : ∀ {l : List T}, jtsL l ≠ 0 → lngL l ∈ (l.filter opn).map T.lng
  | [], h => absurd rfl h
  | t :: r, h => by
    have ih := lngL_in (l := r)
    have h2 : t.jts + jtsL r ≠ 0 := h
    show ite _ _ _ ∈ _
    rw [List.filter_cons]
    by_cases ht : t.jts = 0
    · have e : opn t = false := by unfold opn; simp [ht]
      rw [if_pos ht, e]
      simp only [Bool.false_eq_true, if_false]
      exact ih (by omega)
    · have e : opn t = true := by unfold opn; simp; omega
      rw [if_neg ht, e, if_pos rfl, List.map_cons]
      by_cases hr : jtsL r = 0
      · have e2 : lngL r = 0 := by
          have e3 : ∀ l : List T, jtsL l = 0 → lngL l = 0 := by
            intro l
            induction l with
            | nil => intro _; rfl
            | cons u q ihq =>
              intro hq
              have h3 : u.jts + jtsL q = 0 := hq
              show ite _ _ _ = 0
              rw [if_pos (by omega)]
              exact ihq (by omega)
          exact e3 r hr
        rw [e2, Nat.max_eq_left (Nat.zero_le _)]
        exact List.mem_cons_self
      · by_cases hm : t.lng ≤ lngL r
        · rw [Nat.max_eq_right hm]
          exact List.mem_cons_of_mem _ (ih hr)
        · rw [Nat.max_eq_left (by omega)]
          exact List.mem_cons_self
theorem lngL_le : ∀ {l : List T} {t : T}, t ∈ l.filter opn → t.lng ≤ lngL l
  | [], t, h => by cases h
  | u :: r, t, h => by
    show _ ≤ ite _ _ _
    rw [List.filter_cons] at h
    by_cases ht : u.jts = 0
    · have e : opn u = false := by unfold opn; simp [ht]
      rw [e] at h
      rw [if_pos ht]
      exact lngL_le h
    · have e : opn u = true := by unfold opn; simp; omega
      rw [e, if_pos rfl] at h
      rw [if_neg ht]
      rcases List.mem_cons.mp h with z | z
      · subst z; omega
      · have := lngL_le z; omega
theorem shtL_in : ∀ {l : List T}, jtsL l ≠ 0 → shtL l ∈ (l.filter opn).map T.sht
  | [], h => absurd rfl h
  | t :: r, h => by
    have ih := shtL_in (l := r)
    have h2 : t.jts + jtsL r ≠ 0 := h
    show ite _ _ (ite _ _ _) ∈ _
    rw [List.filter_cons]
    by_cases ht : t.jts = 0
    · have e : opn t = false := by unfold opn; simp [ht]
      rw [if_pos ht, e]
      simp only [Bool.false_eq_true, if_false]
      exact ih (by omega)
    · have e : opn t = true := by unfold opn; simp; omega
      rw [if_neg ht, e, if_pos rfl, List.map_cons]
      by_cases hr : jtsL r = 0
      · rw [if_pos hr]
        exact List.mem_cons_self
      · rw [if_neg hr]
        by_cases hm : t.sht ≤ shtL r
        · rw [Nat.min_eq_left hm]
          exact List.mem_cons_self
        · rw [Nat.min_eq_right (by omega)]
          exact List.mem_cons_of_mem _ (ih hr)
theorem shtL_le : ∀ {l : List T} {t : T}, t ∈ l.filter opn → shtL l ≤ t.sht
  | [], t, h => by cases h
  | u :: r, t, h => by
    show ite _ _ (ite _ _ _) ≤ _
    rw [List.filter_cons] at h
    by_cases ht : u.jts = 0
    · have e : opn u = false := by unfold opn; simp [ht]
      rw [e] at h
      rw [if_pos ht]
      exact shtL_le h
    · have e : opn u = true := by unfold opn; simp; omega
      rw [e, if_pos rfl] at h
      rw [if_neg ht]
      rcases List.mem_cons.mp h with z | z
      · subst z; split <;> omega
      · have h1 := shtL_le z
        have h2 : jtsL r ≠ 0 := fun q => by
          rw [jtsL_zero.mp q] at z
          cases z
        rw [if_neg h2]
        omega
theorem lng_max {l : List T} {m : Int} (h : jtsL l ≠ 0) (h1 : m ∈ (l.filter opn).map fun t => (t.lng : Int)) (h2 : ∀ y ∈ (l.filter opn).map (fun t => (t.lng : Int)), y ≤ m) : m = (lngL l : Nat) := by
  obtain ⟨t, ht, e⟩ := List.mem_map.mp h1
  have a := lngL_le ht
  obtain ⟨u, hu, e2⟩ := List.mem_map.mp (lngL_in h)
  have b := h2 _ (List.mem_map.mpr ⟨u, hu, rfl⟩)
  omega
theorem sht_min {l : List T} {m : Int} (h : jtsL l ≠ 0) (h1 : m ∈ (l.filter opn).map fun t => (t.sht : Int)) (h2 : ∀ y ∈ (l.filter opn).map (fun t => (t.sht : Int)), m ≤ y) : m = (shtL l : Nat) := by
  obtain ⟨t, ht, e⟩ := List.mem_map.mp h1
  have a := shtL_le ht
  obtain ⟨u, hu, e2⟩ := List.mem_map.mp (shtL_in h)
  have b := h2 _ (List.mem_map.mpr ⟨u, hu, rfl⟩)
  omega
theorem dep_fold {l : List T} {n : Int} {r : List Int} (h : (l.map fun t => (t.dep : Int)) = n :: r) : r.foldl max n = (depL l : Nat) := by
  have go : ∀ (l : List T) (n : Int), 0 ≤ n → (l.map fun t => (t.dep : Int)).foldl max n = max n (depL l : Nat) := by
    intro l
    induction l with
    | nil =>
      intro n hn
      show n = max n (0 : Nat)
      omega
    | cons t q ih =>
      intro n hn
      rw [List.map_cons, List.foldl_cons, ih _ (by omega)]
      show max (max n (t.dep : Int)) (depL q : Nat) = max n ((max t.dep (depL q) : Nat) : Int)
      omega
  cases l with
  | nil => cases h
  | cons t q =>
    rw [List.map_cons] at h
    injection h with h1 h2
    subst h1 h2
    rw [go q _ (by omega)]
    show max (t.dep : Int) (depL q : Nat) = ((max t.dep (depL q) : Nat) : Int)
    omega
def wtL : List (List T) → Nat
  | [] => 0
  | p :: r => 1 + sizeL p + wtL r
def wtS (s : PSt) : Nat := wtL s.1 + (match s.2 with
  | some t => t.size
  | none => 0)
theorem sizeL_app (a b : List T) : sizeL (a ++ b) = sizeL a + sizeL b := by
  rw [sizeL_sum, sizeL_sum, sizeL_sum, List.map_append, List.sum_append]
theorem pput_wt (t : T) (st : List (List T)) : wtS (pput t st) = wtL st + t.size := by
  cases st with
  | nil => rfl
  | cons p r =>
    show 1 + sizeL (p ++ [t]) + wtL r + 0 = 1 + sizeL p + wtL r + t.size
    rw [sizeL_app]
    show 1 + (sizeL p + (t.size + 0)) + wtL r + 0 = _
    omega
theorem pstep_wt {s s' : PSt} {c : Nat} (h : pstep s c = some s') : wtS s' ≤ wtS s + 1 := by
  obtain ⟨st, fd⟩ := s
  unfold pstep at h
  cases fd with
  | some t => cases h
  | none =>
    simp only at h
    split at h
    · cases h
      show 1 + 0 + wtL st + 0 ≤ wtL st + 0 + 1
      omega
    · split at h
      · cases h
        rw [pput_wt]
        show wtL st + 1 ≤ wtL st + 0 + 1
        omega
      · split at h
        · cases st with
          | nil => cases h
          | cons p r =>
            cases h
            rw [pput_wt]
            show wtL r + (1 + sizeL (sortT p)) ≤ 1 + sizeL p + wtL r + 0 + 1
            rw [sizeL_perm (sortT_perm p)]
            omega
        · cases h
theorem wtL_len : ∀ st : List (List T), st.length ≤ wtL st
  | [] => Nat.le_refl _
  | p :: r => by
    have := wtL_len r
    show r.length + 1 ≤ 1 + sizeL p + wtL r
    omega
theorem prun_step {l : List Nat} {i c : Nat} {s e : PSt} (hc : l[i]? = some c) (h : prun (l.drop i) s = some e) : ∃ s', pstep s c = some s' ∧ prun (l.drop (i + 1)) s' = some e := by
  have hi : i < l.length := (List.getElem?_eq_some_iff.mp hc).1
  rw [List.drop_eq_getElem_cons hi] at h
  have e1 : l[i] = c := (List.getElem?_eq_some_iff.mp hc).2
  rw [e1] at h
  have h2 : (pstep s c).bind (prun (l.drop (i + 1))) = some e := h
  exact Option.bind_eq_some_iff.mp h2
theorem pstep_cases {st : List (List T)} {fd : Option T} {c : Nat} {s' : PSt} (h : pstep (st, fd) c = some s') : fd = none ∧ ((c = 40 ∧ s' = ([] :: st, none)) ∨ (c = 111 ∧ s' = pput .jet st) ∨ (c = 41 ∧ ∃ p r, st = p :: r ∧ s' = pput (.bas (sortT p)) r)) := by
  unfold pstep at h
  cases fd with
  | some t => cases h
  | none =>
    refine ⟨rfl, ?_⟩
    simp only at h
    split at h
    · rename_i e
      cases h
      exact .inl ⟨e, rfl⟩
    · split at h
      · rename_i e
        cases h
        exact .inr (.inl ⟨e, rfl⟩)
      · split at h
        · rename_i e
          cases st with
          | nil => cases h
          | cons p r =>
            cases h
            exact .inr (.inr ⟨e, p, r, rfl, rfl⟩)
        · cases h
end JW
namespace JW
mutual
def T.grf (p : T) : T → T
  | .jet => p
  | .bas l => .bas (sortT (grfL p l))
def grfL (p : T) : List T → List T
  | [] => []
  | t :: r => T.grf p t :: grfL p r
end
theorem grfL_map (p : T) : ∀ l : List T, grfL p l = l.map (T.grf p)
  | [] => rfl
  | t :: r => by
    show T.grf p t :: grfL p r = T.grf p t :: r.map (T.grf p)
    rw [grfL_map p r]
theorem grf_bas (p : T) (l : List T) : T.grf p (.bas l) = .bas (sortT (l.map (T.grf p))) := by
  show T.bas (sortT (grfL p l)) = _
  rw [grfL_map]
theorem grf_can {p : T} (hp : Can p) : ∀ t : T, Can (T.grf p t) := by
  refine T.ind' hp fun l ih => ?_
  rw [grf_bas]
  refine can_bas (canL_iff.mpr fun t ht => ?_)
  obtain ⟨u, hu, e⟩ := List.mem_map.mp ht
  exact e ▸ ih u hu
theorem grf_jts (p : T) : ∀ t : T, (T.grf p t).jts = t.jts * p.jts := by
  refine T.ind' (Nat.one_mul _).symm fun l ih => ?_
  rw [grf_bas]
  show jtsL (sortT (l.map (T.grf p))) = jtsL l * p.jts
  rw [jtsL_perm (sortT_perm _)]
  have go : ∀ l : List T, (∀ t ∈ l, (T.grf p t).jts = t.jts * p.jts) → jtsL (l.map (T.grf p)) = jtsL l * p.jts := by
    intro l
    induction l with
    | nil => intro _; exact (Nat.zero_mul _).symm
    | cons t r ihr =>
      intro h
      show (T.grf p t).jts + jtsL (r.map (T.grf p)) = (t.jts + jtsL r) * p.jts
      rw [h t List.mem_cons_self, ihr fun u hu => h u (List.mem_cons_of_mem _ hu), Nat.add_mul]
  exact go l ih
theorem grf_size (p : T) : ∀ t : T, (T.grf p t).size + t.jts = t.size + t.jts * p.size := by
  refine T.ind' ?_ fun l ih => ?_
  · show p.size + 1 = 1 + 1 * p.size
    omega
  rw [grf_bas]
  show 1 + sizeL (sortT (l.map (T.grf p))) + jtsL l = 1 + sizeL l + jtsL l * p.size
  rw [sizeL_perm (sortT_perm _)]
  have go : ∀ l : List T, (∀ t ∈ l, (T.grf p t).size + t.jts = t.size + t.jts * p.size) → sizeL (l.map (T.grf p)) + jtsL l = sizeL l + jtsL l * p.size := by
    intro l
    induction l with
    | nil =>
      intro _
      show 0 + 0 = 0 + 0 * p.size
      omega
    | cons t r ihr =>
      intro h
      have h1 := h t List.mem_cons_self
      have h2 := ihr fun u hu => h u (List.mem_cons_of_mem _ hu)
      show (T.grf p t).size + sizeL (r.map (T.grf p)) + (t.jts + jtsL r) = t.size + sizeL r + (t.jts + jtsL r) * p.size
      rw [Nat.add_mul]
      omega
  have := go l ih
  omega
theorem jtsL_all {l : List T} (h : jtsL l = 0) {t : T} (ht : t ∈ l) : t.jts = 0 := by
  induction l with
  | nil => cases ht
  | cons u r ih =>
    have h2 : u.jts + jtsL r = 0 := h
    rcases List.mem_cons.mp ht with e | e
    · subst e; omega
    · exact ih (by omega) e
theorem grf_closed (p : T) : ∀ t : T, Can t → t.jts = 0 → T.grf p t = t := by
  refine T.ind' (fun _ h => absurd h (by decide)) fun l ih hc h => ?_
  rw [grf_bas]
  have e : l.map (T.grf p) = l := by
    rw [show l.map (T.grf p) = l.map id from List.map_congr_left fun t ht => ih t ht (canL_iff.mp hc.2 t ht) (jtsL_all h ht), List.map_id]
  rw [e, sortT_of hc.1]
mutual
def cutT (b : T) : T → T
  | .jet => .jet
  | .bas l => if T.bas l = b then .jet else if jtsL l = 0 then .bas l else .bas (sortT (cutL b l))
def cutL (b : T) : List T → List T
  | [] => []
  | t :: r => cutT b t :: cutL b r
end
theorem cutL_map (b : T) : ∀ l : List T, cutL b l = l.map (cutT b)
  | [] => rfl
  | t :: r => by
    show cutT b t :: cutL b r = cutT b t :: r.map (cutT b)
    rw [cutL_map b r]
theorem cut_bas (b : T) (l : List T) : cutT b (.bas l) = if T.bas l = b then .jet else if jtsL l = 0 then .bas l else .bas (sortT (l.map (cutT b))) := by
  show (if T.bas l = b then T.jet else if jtsL l = 0 then .bas l else .bas (sortT (cutL b l))) = _
  rw [cutL_map]
theorem cut_self (b : T) : cutT b b = .jet := by
  cases b with
  | jet => rfl
  | bas l => rw [cut_bas, if_pos rfl]
theorem grf_ne {b : T} (hb : 0 < b.jts) {l : List T} : T.grf b (.bas l) ≠ b := by
  intro e
  have h1 := grf_size b (.bas l)
  have h2 := grf_jts b (.bas l)
  rw [e] at h1 h2
  have h3 : (T.bas l).jts = 1 := by
    rcases Nat.eq_zero_or_pos (T.bas l).jts with z | z
    · rw [z, Nat.zero_mul] at h2
      omega
    · exact Nat.eq_of_mul_eq_mul_right hb (by rw [← h2, Nat.one_mul])
  rw [h3] at h1
  have h4 := (codes_len (.bas l)).1
  have h5 : (40 :: (codesL l ++ [41])).length + (T.bas l).jts = 2 * (T.bas l).size := h4
  rw [List.length_cons, List.length_append, List.length_singleton] at h5
  have h6 : 1 ≤ (codesL l).length := by
    cases l with
    | nil => exact absurd h3 (by decide)
    | cons t r =>
      have := (codes_len t).2
      show 1 ≤ (t.codes ++ codesL r).length
      rw [List.length_append]
      omega
  omega
theorem cut_grf {b : T} (hb : 0 < b.jts) : ∀ t : T, Can t → cutT b (T.grf b t) = t := by
  refine T.ind' (fun _ => cut_self b) fun l ih hc => ?_
  have hne := grf_ne hb (l := l)
  rw [grf_bas] at hne ⊢
  rw [cut_bas, if_neg hne]
  have hj : jtsL (sortT (l.map (T.grf b))) = jtsL l * b.jts := by
    have := grf_jts b (.bas l)
    rw [grf_bas] at this
    exact this
  have e : (l.map (T.grf b)).map (cutT b) = l := by
    rw [List.map_map, show l.map (cutT b ∘ T.grf b) = l.map id from List.map_congr_left fun t ht => ih t ht (canL_iff.mp hc.2 t ht), List.map_id]
  split
  · rename_i hz
    rw [hj] at hz
    have hz2 : jtsL l = 0 := by
      rcases Nat.mul_eq_zero.mp hz with z | z
      · exact z
      · omega
    have := grf_closed b (.bas l) hc hz2
    rw [grf_bas] at this
    exact this
  · rw [sortT_congr ((sortT_perm (l.map (T.grf b))).map (cutT b)), e, sortT_of hc.1]
theorem dep_lt {t : T} {l : List T} (h : t ∈ l) : t.dep < (T.bas l).dep := by
  have go : ∀ l : List T, t ∈ l → t.dep ≤ depL l := by
    intro l
    induction l with
    | nil => intro h; cases h
    | cons u r ih =>
      intro h
      show t.dep ≤ max u.dep (depL r)
      rcases List.mem_cons.mp h with e | e
      · subst e; omega
      · have := ih e; omega
  have := go l h
  show t.dep < 1 + depL l
  omega
theorem cut_closed {b t : T} (h : t ≠ b) (hj : t.jts = 0) : cutT b t = t := by
  cases t with
  | jet => rfl
  | bas l =>
    have hz : jtsL l = 0 := hj
    rw [cut_bas, if_neg h, if_pos hz]
theorem cut_open {b : T} {l : List T} (h : T.bas l ≠ b) (hj : (T.bas l).jts ≠ 0) : cutT b (.bas l) = .bas (sortT (l.map (cutT b))) := by
  have hz : ¬ jtsL l = 0 := hj
  rw [cut_bas, if_neg h, if_neg hz]
theorem size_mem {t : T} {l : List T} (h : t ∈ l) : t.size < (T.bas l).size := by
  have := len_le h
  show t.size < 1 + sizeL l
  omega
theorem jts_le : ∀ t : T, t.jts ≤ t.size := by
  refine T.ind' (Nat.le_refl _) fun l ih => ?_
  have go : ∀ l : List T, (∀ t ∈ l, t.jts ≤ t.size) → jtsL l ≤ sizeL l := by
    intro l
    induction l with
    | nil => intro _; exact Nat.le_refl _
    | cons t r ihr =>
      intro h
      have h1 := h t List.mem_cons_self
      have h2 := ihr fun u hu => h u (List.mem_cons_of_mem _ hu)
      show t.jts + jtsL r ≤ t.size + sizeL r
      omega
  have := go l ih
  show jtsL l ≤ 1 + sizeL l
  omega
end JW
namespace JW
open PySem PySem.Spec PyProof.Rows L2
structure DefAt (K : PySem.W.Frag) (mg : Str → Option Value) (x qual : Str) (st : Stmt) (dvs : List V) (ps : List Str) : Prop where
  ex : ∃ f fd, mg x = some (.ref f) ∧ FunD K x qual (defArgs st) (defBody st) (defScope st) dvs [] f fd ∧ Binds K fd ps []
structure CallD (P : Program) (w : World) (K : PySem.W.Frag) (mg : Str → Option Value) (base : Heap) (CX : CXT) (k : Nat) (x : Str) (ps : List Str) (dvs : List V) (sp : Sp) : Prop where
  ex : ∃ f fd ds, mg x = some (.ref f) ∧ PySem.W.keepIn K (.ref f) = true ∧ Binds K fd ps ds ∧ Vals dvs ds ∧ FnOk P w K mg base CX k f fd ps sp
section
variable {P : Program} {w : World} {K : PySem.W.Frag} {mg : Str → Option Value} {base : Heap} {CX : CXT}
theorem CallD.mono {j k : Nat} {x : Str} {ps : List Str} {dvs : List V} {sp : Sp} (c : CallD P w K mg base CX j x ps dvs sp) (h : j ≤ k) : CallD P w K mg base CX k x ps dvs sp := by
  obtain ⟨f, fd, ds, h1, h2, h3, h4, F⟩ := c.ex
  exact ⟨f, fd, ds, h1, h2, h3, h4, F.mono h⟩
theorem okF {x qual : Str} {params : Arguments} {body : List Stmt} {scope : Scope} {kws : List (Str × V)} {f : Addr} {fd : FuncData} {N ps : List Str} {k : Nat} {sp : Sp} {dvs : List V} (F : FunD K x qual params body scope dvs kws f fd) (S : FnScope N ps scope)
    (len : ∀ vs H Q E, sp vs H Q E → vs.length = ps.length)
    (hbody : ∀ (cdv : Value) (A : Around) (outer : List Env) (s : Shared) (H : Hp) (vs : List V) (Q : VK) (E : XK), Room k (A.deeper (envOfC qual scope s.heap.objs.size f cdv)) → sp vs H Q E →
      ∃ t, PSs (cxOf CX P w K mg base N qual scope f cdv A outer s H E).nox body t ∧ t { nx := fun _ H' => Q .non H', rt := Q } (start N vs) H) : FnOk P w K mg base CX (k + 1) f fd ps sp :=
  F.ok S len fun cdv A outer s H vs Q E hr h => by
    obtain ⟨t, h, q⟩ := hbody cdv A outer s H vs Q E hr h
    exact ⟨t, h.nox, q⟩
theorem DefAt.ok {x qual : Str} {st : Stmt} {N ps : List Str} {k : Nat} {sp : Sp} {dvs : List V} (D : DefAt K mg x qual st dvs ps) (S : FnScope N ps (defScope st)) (len : ∀ vs H Q E, sp vs H Q E → vs.length = ps.length)
    (hbody : ∀ (f : Addr) (cdv : Value) (A : Around) (outer : List Env) (s : Shared) (H : Hp) (vs : List V) (Q : VK) (E : XK), Room k (A.deeper (envOfC qual (defScope st) s.heap.objs.size f cdv)) → sp vs H Q E →
      ∃ t, PSs (cxOf CX P w K mg base N qual (defScope st) f cdv A outer s H E).nox (defBody st) t ∧ t { nx := fun _ H' => Q .non H', rt := Q } (start N vs) H) : CallD P w K mg base CX (k + 1) x ps [] sp := by
  obtain ⟨f, fd, h1, F, b⟩ := D.ex
  refine ⟨f, fd, [], h1, F.kp, b, .nil, F.ok S len fun cdv A outer s H vs Q E hr h => ?_⟩
  obtain ⟨t, h, q⟩ := hbody f cdv A outer s H vs Q E hr h
  exact ⟨t, h.nox, q⟩
end
section
variable {X : Cx} {CX : CXT} {k : Nat} {ps : List Str} {sp : Sp} {dvs : List V} {E : XK} {x : Str} {p pos : Pos} {e : Expr} {es : List Expr} {t : TA}
theorem pe_callD (C : CallD X.prog X.w X.K X.mg X.base CX k x ps dvs sp) (hr : Room k X.A) (hg : Gl X x) (hx : Passes CX X E) (ha : PA X (e :: es) t) (hdb : (x == ("__debug__" : Str)) = false := by decide)
    (he : starEach (e :: es) X.env = (false, eval e X.env) :: starEach es X.env := by rfl) (hpl : (backTo pos (starEach es X.env)).any (·.1) = false := by rfl) : PE X (.Call (.Name x p) (e :: es) [] pos) (tCall sp dvs E t) := by
  obtain ⟨f, fd, ds, h1, h2, h3, h4, F⟩ := C.ex
  exact pe_call F hr hg h1 h2 h3 h4 hx ha hdb he hpl
end
section
variable {X : Cx} {e : Expr} {st : Stmt}
theorem ep_mono {pins : List (Addr × Obj)} {σ : L2.St} {Q Q' : VK} {u : Value} {s' : Shared} (h : EP X pins σ Q u s') (k : ∀ v H, Q v H → Q' v H) : EP X pins σ Q' u s' := by
  obtain ⟨v, H, I, r, q⟩ := h
  exact ⟨v, H, I, r, k v H q⟩
def tVia (t : TE) : TE := fun σ H Q => ∃ R : VK, t σ H R ∧ ∀ v H', R v H' → Q v H'
theorem pe_via {t : TE} (h : PE X e t) : PE X e (tVia t) := ⟨fun pins s σ H Q I ⟨R, hw, q⟩ => thn (h.run pins s σ H _ I hw) fun _ _ z => ep_mono z q⟩
def tsVia (t : TS) : TS := fun D σ H => ∃ R : L2.St → Hp → Prop, t { D with nx := R } σ H ∧ ∀ σ' H', R σ' H' → D.nx σ' H'
theorem ps_via {t : TS} (h : PS X st t) : PS X st (tsVia t) := ⟨fun pins s σ H D I ⟨R, hw, q⟩ =>
  thn (h.run pins s σ H _ I hw) fun f s' z => by
    cases f with
    | next =>
      obtain ⟨σ', H', I', r⟩ := z
      exact ⟨σ', H', I', q σ' H' r⟩
    | brk => exact z
    | cont => exact z
    | ret u => exact z⟩
end
theorem nI_sum : ∀ xs : List Nat, (xs.map fun x : Nat => (x : Int)).sum = ((xs.sum : Nat) : Int)
  | [] => rfl
  | x :: r => by rw [List.map_cons, List.sum_cons, List.sum_cons, nI_sum r]; omega
theorem eraseIdx_perm {α : Type} : ∀ {l : List α} {i : Nat} (h : i < l.length), (l[i] :: l.eraseIdx i).Perm l
  | [], _, h => absurd h (Nat.not_lt_zero _)
  | a :: l, 0, _ => List.Perm.refl _
  | a :: l, i + 1, h => by
    have hi : i < l.length := Nat.lt_of_succ_lt_succ h
    exact (List.Perm.swap a l[i] (l.eraseIdx i)).trans ((eraseIdx_perm hi).cons a)
theorem sz1 : 1 ≤ sizeLine := by decide
theorem sz2 : 2 ≤ sizeLine := by decide
theorem sz5 : 5 ≤ sizeLine := by decide
end JW
namespace L2
open PySem PySem.Spec PyProof.Rows
section
variable {H H' H1 H2 : Hp} {a b p : Addr} {o u : HO}
theorem Same.new (s : Same H H') (hp : H' p = none) : Same H (upd H' p o) := fun c w e => by
  rw [upd_ne (ne_of_none (s _ _ e) hp)]
  exact s _ _ e
theorem Same.mine (s : Same H H') (hp : H p = none) : Same H (upd H' p o) := fun c w e => by
  rw [upd_ne (ne_of_none e hp)]
  exact s _ _ e
theorem upd_old (h : H a = some o) (hp : H p = none) : upd H p u a = some o := by
  rw [upd_ne (ne_of_none h hp)]
  exact h
end
end L2
namespace JW
open PySem PySem.Spec PyProof.Rows L2
section
variable {X : Cx} {K : PySem.W.Frag} {e : Expr} {te : TE} {tg : Expr} {pos : Pos}
end
end JW
namespace JW
open PySem PySem.Spec PyProof.Rows L2
section
variable {X : Cx} {K : PySem.W.Frag}
end
theorem seqIndex_nat {v : Int} {n : Nat} (h0 : 0 ≤ v) (h1 : v < (n : Nat)) : seqIndex? v n = some v.toNat := PyProof.Rows.seqIndex_at h0 h1
theorem dget {H : Hp} {a : Addr} {kvs : List (Key × V)} {k : Str} {v : V} (e : H a = some (.dK kvs)) (h : valV kvs (.inr k) = some v) : DGet H a (.str k) (some v) := by
  have z := DGet.k (k := Sum.inr k) e
  rw [h] at z
  exact z
theorem dput {H : Hp} {a : Addr} {kvs kvs' : List (Key × V)} {k : Str} {v : V} (e : H a = some (.dK kvs)) (hl : kvs.length < sizeLine) (h : putK kvs (.inr k) v = kvs') : DPut H a (.str k) v (upd H a (.dK kvs')) := by
  have z := DPut.k (k := Sum.inr k) (v := v) e hl
  rw [h] at z
  exact z
def Same2 (d g : Addr) (H H' : Hp) : Prop := ∀ b o, b ≠ d → b ≠ g → H b = some o → H' b = some o
theorem Same2.refl (d g : Addr) (H : Hp) : Same2 d g H H := fun _ _ _ _ h => h
theorem Same2.trans {d g : Addr} {H H1 H2 : Hp} (a : Same2 d g H H1) (b : Same2 d g H1 H2) : Same2 d g H H2 := fun c o h1 h2 h => b c o h1 h2 (a c o h1 h2 h)
theorem Same2.new {d g p : Addr} {H H1 : Hp} {o : HO} (a : Same2 d g H H1) (hp : H1 p = none) : Same2 d g H (upd H1 p o) := fun c u h1 h2 h => by rw [upd_ne (ne_of_none (a c u h1 h2 h) hp)]; exact a c u h1 h2 h
theorem Same2.same {d g : Addr} {H H1 H2 : Hp} (a : Same2 d g H H1) (b : Same H1 H2) : Same2 d g H H2 := fun c o h1 h2 h => b c o (a c o h1 h2 h)
theorem Same2.of {d g : Addr} {H H1 : Hp} (a : Same H H1) : Same2 d g H H1 := fun c o _ _ h => a c o h
theorem Same2.mine {d g : Addr} {H0 H H' : Hp} (a : Same H0 H) (hd : H0 d = none) (hg : H0 g = none) (b : Same2 d g H H') : Same H0 H' := fun c o h => b c o (ne_of_none h hd) (ne_of_none h hg) (a c o h)
def sackD (g : Addr) (a b c : Int) : List (Key × V) := [(.inr "great", .ref g), (.inr "now", .int a), (.inr "seed", .int b), (.inr "turn", .int c)]
def SackAt (H : Hp) (d g : Addr) : Prop := ∃ (ns : List Int) (a b c : Int), d ≠ g ∧ H d = some (.dK (sackD g a b c)) ∧ H g = some (.lst (ns.map V.int))
theorem SackAt.same {H H' : Hp} {d g : Addr} (h : SackAt H d g) (s : Same H H') : SackAt H' d g := by
  obtain ⟨ns, a, b, c, n, e1, e2⟩ := h
  exact ⟨ns, a, b, c, n, s _ _ e1, s _ _ e2⟩
theorem SackAt.off {H : Hp} {d g p : Addr} {o : HO} (h : SackAt H d g) (h1 : d ≠ p) (h2 : g ≠ p) : SackAt (upd H p o) d g := by
  obtain ⟨ns, a, b, c, n, e1, e2⟩ := h
  exact ⟨ns, a, b, c, n, by rw [upd_ne h1]; exact e1, by rw [upd_ne h2]; exact e2⟩
theorem SackAt.ne {H : Hp} {d g p : Addr} (h : SackAt H d g) (hp : H p = none) : p ≠ d ∧ p ≠ g := by
  obtain ⟨ns, a, b, c, n, e1, e2⟩ := h
  exact ⟨(ne_of_none e1 hp).symm, (ne_of_none e2 hp).symm⟩
end JW
namespace JW
open PySem PySem.Spec PyProof.Rows L2
section
variable {prog : Program} {w : World} {A : Around} {E : Value → Shared → Prop} {s : Shared} {K : PySem.W.Frag} {x C f : Addr} {ox : Obj} {od : Option Obj} {b tb : Value}
theorem ne_own {Q : Value → Shared → Prop} (hu : A.units + 1 < cLine) (X : K.In s.heap) (I : PySem.W.InstAt s.heap x ox C od) (hb : PySem.W.Looks (model prog w) s.heap (typeOf b) tb) (hn : PySem.W.notFirst K C tb = true)
    (hne : PySem.W.findIn K (.ref C) "__ne__" = some (some (.builtin "object.__ne__"))) (heq : PySem.W.findIn K (.ref C) "__eq__" = some (some (.ref f))) (hf : PySem.W.isFn K (.ref f) = true) (hob : PySem.W.subIn K (.ref C) (.type "object") = some true)
    (h : wpAny (model prog w) A.in1 (call (.ref f) [.ref x, b]) (fun v s' => ∃ k, v = .bool k ∧ Q (.bool (!k)) s') E s) : wpAny (model prog w) A (richCompare .NotEq (.ref x) b) Q E s := by
  have one : wpAny (model prog w) A (tryCompare (.ref x) (cmpInfo .NotEq).2.1 b) (fun r s' => ∃ v, r = some v ∧ Q v s') E s := by
    unfold tryCompare
    have hc : wpAny (model prog w) A (call (.builtin "object.__ne__") [.ref x, b]) (fun v s' => ∃ k, v = .bool (!k) ∧ Q (.bool (!k)) s') E s := by
      refine wpAny_call (codeAny_call_builtin F.cmp_object.ne.plain F.cmpEntry_ne ?_)
      refine PySem.W.check_slot F.cmpKind_ne F.cmpSplit_ne (I.type.andThen (PySem.W.looks_subIn X hob)) (F.cmpArgs_ne _ _) ?_
      unfold Builtin.«object.__ne__»
      repeat (first
        | with_reducible refine wpAny_cRoomFor hu ?_
        | (refine wpAny_bind (m := callSpecialIfBound? (.ref x) (Str.ofString "__eq__") [b])
            (PySem.W.ifBound_K X I heq hf (wpAny_mono h (fun r s' hr => by
              obtain ⟨k, rfl, hq⟩ := hr
              repeat (first | exact ⟨k, rfl, hq⟩ | exact wpAny_pure ⟨k, rfl, hq⟩ | exact wpAny_truthy_bool ⟨k, rfl, hq⟩ | (refine wpAny_bind (m := truthy (.bool _)) (wpAny_truthy_bool ?_)) | wp_step)) fun _ _ e => e)))
        | wp_step)
    refine wpAny_bind ?_
    simp only [callSpecialIfBound?, bindSpecialIfBound?]
    refine wpAny_holding (wpAny_bind (wpAny_bind (wpAny_bind (I.type.here ((PySem.W.looks_findIn X hne).here ?_)))))
    have fin : ∀ R : Option Value → Shared → Prop, (∀ k s', Q (.bool (!k)) s' → R (some (.bool (!k))) s') → wpAny (model prog w) A (call (.builtin "object.__ne__") ([.ref x] ++ [b]) >>= fun v => pure (some v)) R E s := fun R hR => by
      refine wpAny_bind (wpAny_mono hc (fun v s' h' => wpAny_pure ?_) fun _ _ h' => h')
      obtain ⟨k, rfl, hq⟩ := h'
      exact hR k s' hq
    refine wpAny_bind (wpAny_askSetting (wpAny_ite ?_))
    split
    · rw [F.cmp_object.ne.bind]
      exact wpAny_bind (wpAny_pure (wpAny_pure (by exact fin _ fun k s' hq => wpAny_pure ⟨_, rfl, hq⟩)))
    · rw [F.cmp_object.ne.bind]
      exact wpAny_tryCatch (wpAny_bind (wpAny_pure (wpAny_pure (by exact fin _ fun k s' hq => wpAny_pure ⟨_, rfl, hq⟩))))
  unfold richCompare
  simp only [oneThing_ref]
  refine wpAny_holding (wpAny_bind (wpAny_cRoomFor (Nat.lt_of_succ_lt hu) ?_))
  refine wpAny_bind (I.type.here (wpAny_bind (hb.here ?_)))
  split
  · rename_i q
    have e : PySem.W.subIn K tb (.ref C) = some false := by
      rcases Bool.or_eq_true_iff.mp hn with e | e
      · rw [beq_iff_eq.mp e] at q; simp at q
      · exact beq_iff_eq.mp e
    refine wpAny_bind ((PySem.W.looks_subIn X e).here ?_)
    simp only [Bool.false_eq_true, if_false]
    refine wpAny_bind (wpAny_mono one (fun r s' z => ?_) fun _ _ e => e)
    obtain ⟨v, rfl, hq⟩ := z
    exact wpAny_pure hq
  · refine wpAny_bind (wpAny_pure ?_)
    simp only [Bool.false_eq_true, if_false]
    refine wpAny_bind (wpAny_mono one (fun r s' z => ?_) fun _ _ e => e)
    obtain ⟨v, rfl, hq⟩ := z
    exact wpAny_pure hq
end
structure MethD (P : Program) (w : World) (K : PySem.W.Frag) (mg : Str → Option Value) (base : Heap) (CX : CXT) (k : Nat) (C : Addr) (m : Str) (ps : List Str) (dvs : List V) (sp : Sp) : Prop where
  ex : ∃ f fd ds, Meth K C m f ∧ Binds K fd ps ds ∧ Vals dvs ds ∧ FnOk P w K mg base CX k f fd ps sp
structure MethAt (K : PySem.W.Frag) (C : Addr) (m qual : Str) (st : Stmt) (ps : List Str) : Prop where
  ex : ∃ f fd, Meth K C m f ∧ FunD K m qual (defArgs st) (defBody st) (defScope st) [] [] f fd ∧ Binds K fd ps []
section
variable {P : Program} {w : World} {K : PySem.W.Frag} {mg : Str → Option Value} {base : Heap} {CX : CXT} {C : Addr}
theorem MethD.mono {j k : Nat} {m : Str} {ps : List Str} {dvs : List V} {sp : Sp} (c : MethD P w K mg base CX j C m ps dvs sp) (h : j ≤ k) : MethD P w K mg base CX k C m ps dvs sp := by
  obtain ⟨f, fd, ds, h1, h2, h3, F⟩ := c.ex
  exact ⟨f, fd, ds, h1, h2, h3, F.mono h⟩
theorem MethAt.ok {m qual : Str} {st : Stmt} {N ps : List Str} {k : Nat} {sp : Sp} (D : MethAt K C m qual st ps) (S : FnScope N ps (defScope st)) (len : ∀ vs H Q E, sp vs H Q E → vs.length = ps.length)
    (hbody : ∀ (f : Addr) (cdv : Value) (A : Around) (outer : List Env) (s : Shared) (H : Hp) (vs : List V) (Q : VK) (E : XK), Room k (A.deeper (envOfC qual (defScope st) s.heap.objs.size f cdv)) → sp vs H Q E →
      ∃ t, PSs (cxOf CX P w K mg base N qual (defScope st) f cdv A outer s H E).nox (defBody st) t ∧ t { nx := fun _ H' => Q .non H', rt := Q } (start N vs) H) : MethD P w K mg base CX (k + 1) C m ps [] sp := by
  obtain ⟨f, fd, h1, F, b⟩ := D.ex
  exact ⟨f, fd, [], h1, b, .nil, okF F S len fun cdv A outer s H vs Q E hr h => hbody f cdv A outer s H vs Q E hr h⟩
end
section
variable {X : Cx} {CX : CXT} {k : Nat} {C : Addr} {ps : List Str} {sp : Sp} {dvs : List V} {E : XK} {m : Str} {pos apos : Pos} {o e : Expr} {es : List Expr} {t : TA} {ta : TE}
theorem pe_methD {pl : Sem Bool} (c : Cls X.K C) (M : MethD X.prog X.w X.K X.mg X.base CX k C m ps dvs sp) (hr : Room k X.A) (hx : Passes CX X E) (he : PE X o ta) (ha : PA X (e :: es) t)
    (hst : starEach (e :: es) X.env = (false, eval e X.env) :: starEach es X.env := by rfl) (hpl : (backTo pos (starEach es X.env)).any (·.1) = false := by rfl)
    (ht : eval (.Call (.Attribute o m apos) (e :: es) [] pos) X.env = (do
      let ov ← eval o X.env
      standAt apos.atName
      let (f, first) ← holding [ov] (getMethod ov m pl)
      callWith pos f first (backTo pos (starEach (e :: es) X.env)) (backToKw pos (keywordEach [] X.env))) := by rfl) : PE X (.Call (.Attribute o m apos) (e :: es) [] pos) (tMeth C m sp dvs E ta t) := by
  obtain ⟨f, fd, ds, h1, h2, h3, F⟩ := M.ex
  exact pe_meth he c h1 F hr h2 h3 hx ha hst hpl ht
theorem relV_back {v : V} {u : Value} {s : Shared} {Q : Value → Shared → Prop} (r : RelV v u) (h : Q u s) : PySem.W.CmpBack Q u s := by
  cases v with
  | non => cases r; exact h
  | bl _ => cases r; exact h
  | int _ => obtain ⟨t, rfl⟩ := r; exact h
  | str _ => obtain ⟨t, rfl⟩ := r; exact h
  | byt _ => obtain ⟨t, rfl⟩ := r; exact h
  | flt _ => obtain ⟨t, rfl⟩ := r; exact h
  | ref _ => cases r; exact h
  | ty _ => cases r; exact h
def rOwnEq (C : Addr) (sp : Sp) (E : XK) (neg : Bool) : R2 := fun x y H Q => ∃ a dx fs b dy gs, x = .ref a ∧ y = .ref b ∧ H a = some (.ins C dx fs) ∧ H b = some (.ins C dy gs) ∧
  sp [x, y] H (fun v H' => ∃ k, v = .bl k ∧ Q (.bl (if neg then !k else k)) H') E
theorem op_own_eq (M : MethD X.prog X.w X.K X.mg X.base CX k C "__eq__" ps [] sp) (hr : Room k X.A) (hx : Passes CX X E) : OpR X (compareOp .Eq) (rOwnEq C sp E false) := by
  intro pins s σ H x y v u Q I rx ry h
  obtain ⟨a, dx, fs, b, dy, gs, rfl, rfl, ha, hb, q⟩ := h
  cases rx
  cases ry
  obtain ⟨f, fd, ds, hm, hbd, hd, F⟩ := M.ex
  cases hd
  obtain ⟨mA, J, _⟩ := ins_get I.hok ha
  obtain ⟨mB, J', _⟩ := ins_get I.hok hb
  obtain ⟨od, J, _⟩ := J.look
  obtain ⟨od', J', _⟩ := J'.look
  obtain ⟨m, hF⟩ := I.fr
  refine PySem.W.cmp_K (op := .Eq) (tb := .ref C) hr.units0 hF I.ok.mod.kin J J'.type (by simp [PySem.W.notFirst]) hm.at_ hm.fn ?_
  refine wpAny_mono (run_fn (us := [.ref a, .ref b]) (vs := [.ref a, .ref b]) F hr hbd .nil hx I (.cons rfl (.cons rfl .nil)) q) (fun v s' z => ?_) fun _ _ z => z
  obtain ⟨v', H', I', r, k, rfl, q'⟩ := z
  exact relV_back r ⟨_, H', I', r, q'⟩
theorem op_own_ne (hne : PySem.W.findIn X.K (.ref C) "__ne__" = some (some (.builtin "object.__ne__"))) (hob : PySem.W.subIn X.K (.ref C) (.type "object") = some true) (M : MethD X.prog X.w X.K X.mg X.base CX k C "__eq__" ps [] sp) (hr : Room (k + 1) X.A) (hx : Passes CX X.nox E) : OpR X (compareOp .NotEq) (rOwnEq C sp E true) := by
  intro pins s σ H x y v u Q I rx ry h
  obtain ⟨a, dx, fs, b, dy, gs, rfl, rfl, ha, hb, q⟩ := h
  cases rx
  cases ry
  obtain ⟨f, fd, ds, hm, hbd, hd, F⟩ := M.ex
  cases hd
  obtain ⟨mA, J, _⟩ := ins_get I.hok ha
  obtain ⟨mB, J', _⟩ := ins_get I.hok hb
  obtain ⟨od, J, _⟩ := J.look
  obtain ⟨od', J', _⟩ := J'.look
  refine ne_own (tb := .ref C) (hu_of hr) I.kIn J J'.type (by simp [PySem.W.notFirst]) hne hm.at_ hm.fn hob ?_
  have hl : ([Value.ref a, Value.ref b] ++ []).length = ps.length := by
    rw [← F.len _ _ _ _ q]
    rfl
  refine wpAny_call (codeAny_mono (F.run X.A.in1 X.stack s H ⟨[.ref a, .ref b], []⟩ [.ref a, .ref b] [.ref a, .ref b] _ E hr.in1 I.env0.in1 (by
    have := hbd s [.ref a, .ref b] I.kIn hl
    simpa using this) (.cons rfl (.cons rfl .nil)) q) fun r s' hq => ?_)
  cases r with
  | error er => exact False.elim (hx pins σ H s er s' (I.wish _) hq)
  | ok fl =>
    cases fl with
    | ret u =>
      obtain ⟨v', H', I', r, k, rfl, q'⟩ := I.after hq
      cases r
      exact ⟨k, rfl, .bl (!k), H', I', rfl, q'⟩
    | next => exact False.elim hq
    | brk => exact False.elim hq
    | cont => exact False.elim hq
structure PropD (P : Program) (w : World) (K : PySem.W.Frag) (mg : Str → Option Value) (base : Heap) (CX : CXT) (k : Nat) (C : Addr) (f : Str) (sp : Sp) : Prop where
  ex : ∃ p g fd, PropOf K C f p g ∧ Binds K fd ["self"] [] ∧ FnOk P w K mg base CX k g fd ["self"] sp
structure PropAt (K : PySem.W.Frag) (C : Addr) (m qual : Str) (st : Stmt) : Prop where
  ex : ∃ p g fd, PropOf K C m p g ∧ FunD K m qual (defArgs st) (defBody st) (defScope st) [] [] g fd ∧ Binds K fd ["self"] []
theorem pe_propD {f : Str} (c : Cls X.K C) (M : PropD X.prog X.w X.K X.mg X.base CX k C f sp) (hr : Room (k + 1) X.A) (hx : Passes CX X.nox E) (he : PE X e ta) (hab : attributeBase e f X.env (eval e X.env) = eval e X.env) : PE X (.Attribute e f pos) (tProp C sp [] E ta) := by
  obtain ⟨p, g, fd, hp, hb, F⟩ := M.ex
  exact pe_prop he c hp F hr hb .nil hx hab
end
end JW
namespace JW
open PySem PySem.Spec PyProof.Rows L2
section
variable {X : Cx} {pins : List (Addr × Obj)} {σ : L2.St} {H : Hp} {s : Shared}
theorem repin {q : Addr} {o o' : Obj} {h' : Heap} {t' : Nat} (I : Inv X ((q, o) :: pins) σ H s) (hs : X.s_0.heap.objs.size ≤ q) (hp : ∀ p ∈ X.pn ++ pins, p.1 ≠ q)
    (k : ∀ b u, b ≠ q → s.heap.get? b = some u → h'.get? b = some u) (hq : h'.get? q = some o') (hc : ∀ v, o'.data ≠ .cell v) : Inv X ((q, o') :: pins) σ H { s with heap := h', toks := t' } := by
  have hpin := I.pin (q, o) (List.mem_append_right _ List.mem_cons_self)
  have I1 := (ClX.unpin I).turned (t' := t') k hpin.2.1 hpin.2.2.1 (.inr hs) (fun x c e z => by
    obtain ⟨v, o2, ho, hdat⟩ := I.cell x c e
    rw [z] at ho
    have h2 : s.heap.get? q = some o := hpin.1
    rw [h2] at ho
    cases ho
    exact hpin.2.2.2.2 v hdat) hp
  refine I1.pins_of fun p hp' => ?_
  rcases List.mem_cons.mp hp' with e | e
  · subst e
    exact ⟨hq, hpin.2.1, hpin.2.2.1, hpin.2.2.2.1, hc⟩
  · exact I1.pin p (List.mem_append_right _ e)
theorem track {a : Addr} {o : Obj} {u : HO} (I : Inv X ((a, o) :: pins) σ H s) (hs : X.s_0.heap.objs.size ≤ a) (hp : ∀ p ∈ X.pn ++ pins, p.1 ≠ a) (new : ObjOk X.prog X.w (upd H a u) s.heap a u) : Inv X pins σ (upd H a u) s := by
  have hpin := I.pin (a, o) (List.mem_append_right _ List.mem_cons_self)
  have hn : H a = none := hpin.2.1
  have I0 := ClX.unpin I
  have ne : ∀ b w, H b = some w → b ≠ a := fun b w e => ne_of_none e hn
  refine ⟨I0.ok, I0.os, I0.bare, ⟨I0.base.keep, I0.base.slot, fun b w e n hx => ?_, I0.base.there, fun b xs e => ?_, fun b w xs e => ?_, fun b ps e => ?_⟩, I0.loc, I0.cell, ?_, fun x c e => ?_, fun p hp' => ?_, fun b w e => ?_, I0.len⟩
  · rw [upd_ne (Nat.ne_of_lt (Nat.lt_of_lt_of_le (Heap.lt_size e) hs))]
    exact I0.base.free b w e n hx
  · have q := I0.base.tups b xs e
    rw [upd_ne (ne b _ q)]
    exact q
  · have q := I0.base.frzs b w xs e
    rw [upd_ne (ne b _ q)]
    exact q
  · obtain ⟨more, q⟩ := I0.base.tbls b ps e
    exact ⟨more, by rw [upd_ne (ne b _ q)]; exact q⟩
  · rw [upd_ne (Ne.symm hpin.2.2.1)]
    exact I0.free
  · rw [upd_ne (fun z => by
      obtain ⟨v, o2, ho, hdat⟩ := I0.cell x c e
      rw [z] at ho
      have h2 : s.heap.get? a = some o := hpin.1
      rw [h2] at ho
      cases ho
      exact hpin.2.2.2.2 v hdat)]
    exact I0.freeC x c e
  · obtain ⟨h1, h2, h3⟩ := I0.pin p hp'
    exact ⟨h1, by rw [upd_ne (hp p hp')]; exact h2, h3⟩
  · by_cases hb : b = a
    · rw [hb, upd_same] at e
      cases e
      rw [hb]
      exact new
    · rw [upd_ne hb] at e
      exact (I0.hok b w e).stay (fun c v _ q => q) (fun c q => by rw [upd_ne (ne c _ q)]; exact q) fun c xs q => by rw [upd_ne (ne c _ q)]; exact q
end
theorem strs_snoc {z : Str} {t : Tok} : ∀ {vs : List Value} {ss : List Str}, StrsAre vs ss → StrsAre (vs ++ [.str z t]) (ss ++ [z])
  | _, _, .nil => .cons z t .nil
  | _, _, .cons x u h => .cons x u (strs_snoc h)
theorem zip_mapL {α β γ : Type} (f : α → γ) : ∀ (xs : List α) (ys : List β), (xs.map f).zip ys = (xs.zip ys).map fun p => (f p.1, p.2)
  | [], _ => rfl
  | _ :: _, [] => rfl
  | x :: xs, y :: ys => by rw [List.map_cons, List.zip_cons_cons, List.zip_cons_cons, List.map_cons, zip_mapL f xs ys]
def Keyd (zs : List Str) (vs out : List Value) : Prop := ∃ ps : List (Str × Value), ps.Perm (zs.zip vs) ∧ ps.Pairwise (fun p q => ¬ q.1.cps.toList < p.1.cps.toList) ∧ out = ps.map (·.2)
theorem key_out {keys : Array Value} {vs : List Value} {zs : List Str} (hk : StrsAre keys.toList zs) {xs : Array Keyed} (hp : xs.Perm (keys.zip vs.toArray)) (hs : SortedToK strKind xs xs.size) : Keyd zs vs (xs.map (·.2)).toList := by
  have hl : xs.toList.Perm (keys.toList.zip vs) := by rw [← PyProof.Rows.ksk_zip]; exact Array.perm_iff_toList_perm.mp hp
  have hmem : ∀ p, p ∈ xs.toList → ∃ z t, p.1 = .str z t := fun p hp' => hk.all p.1 (List.of_mem_zip (hl.mem_iff.mp hp')).1
  refine ⟨xs.toList.map fun p => (strOf p.1, p.2), ?_, ?_, by rw [Array.toList_map, List.map_map]; rfl⟩
  · have h1 := hl.map fun p : Value × Value => (strOf p.1, p.2)
    have e : (keys.toList.zip vs).map (fun p : Value × Value => (strOf p.1, p.2)) = zs.zip vs := by
      rw [← hk.strs, zip_mapL]
    rw [e] at h1
    exact h1
  · rw [List.pairwise_iff_getElem]
    intro i j hi hj hij
    have hi' : i < xs.size := by simpa using hi
    have hj' : j < xs.size := by simpa using hj
    have h1 := hs i j (Nat.le_of_lt hij) hj'
    obtain ⟨x, t, ex⟩ := hmem xs[i] (by simp)
    obtain ⟨y, u, ey⟩ := hmem xs[j] (by simp)
    rw [KK_str hi' (x := x) (t := t) (q := xs[i].2) (Prod.ext ex rfl), KK_str hj' (x := y) (t := u) (q := xs[j].2) (Prod.ext ey rfl)] at h1
    have h2 : decide (y.cps.toList < x.cps.toList) = false := h1
    simp only [List.getElem_map, Array.getElem_toList]
    rw [show strOf xs[i].1 = x by rw [ex]; rfl, show strOf xs[j].1 = y by rw [ey]; rfl]
    exact of_decide_eq_false h2

section
variable {X : Cx} {pins : List (Addr × Obj)} {σ : L2.St} {A : Around} {E : Value → Shared → Prop} {a kS : Addr} {vs : List Value} {xs : List V} {zs : List Str} {R : Hp → Prop} {e1 : Nat} {P : PySem.Fin → Shared → Prop}
structure Own2 (X : Cx) (pins : List (Addr × Obj)) (a kS : Addr) : Prop where
  sk : X.s_0.heap.objs.size ≤ kS
  sa : X.s_0.heap.objs.size ≤ a
  ka : kS ≠ a
  pk : ∀ p ∈ X.pn ++ pins, p.1 ≠ kS
  pa : ∀ p ∈ X.pn ++ pins, p.1 ≠ a
theorem Own2.pk' {o : Obj} (O : Own2 X pins a kS) : ∀ p ∈ X.pn ++ ((a, o) :: pins), p.1 ≠ kS := fun p hp => by
  rcases List.mem_append.mp hp with h | h
  · exact O.pk p (List.mem_append_left _ h)
  · rcases List.mem_cons.mp h with h | h
    · rw [h]
      exact O.ka.symm
    · exact O.pk p (List.mem_append_right _ h)
theorem noCell (ys : Array Value) (n : Nat) : ∀ v, (seqObj "list" ys n).data ≠ .cell v := fun v z => by cases z
theorem key_tail {keys : Array Value} {e : Nat} {H : Hp} {s : Shared} {st : SortSt} (O : Own2 X pins a kS) (I : Inv X ((kS, seqObj "list" keys e) :: (a, seqObj "list" #[] e1) :: pins) σ H s) (hR : R H) (hk : StrsAre keys.toList zs) (hlen : zs.length = vs.length) (hZ : vs.length ≤ sizeLine)
    (hp : (arrOf st).Perm (keys.zip vs.toArray)) (hs : SortedToK strKind (arrOf st) (arrOf st).size) (hfl : failedOf st = none)
    (h : ∀ s' out c, Inv X ((a, seqObj "list" out c) :: pins) σ H s' → R H → Keyd zs vs out.toList → P (.done (.ret .none)) s') :
    wpAny (model X.prog X.w) A (ksk_tail a false e1 (.ref kS) st) P E s := by
  have hZ2 := hZ
  rw [sizeLine_eq] at hZ2
  have hsz : keys.size = vs.length := by
    have h1 := hk.length
    rw [Array.length_toList] at h1
    omega
  have hsz2 : (arrOf st).size = vs.length := by rw [hp.size_eq, Array.size_zip, hsz, List.size_toArray, Nat.min_self]
  have nk : s.heap.get? kS = some (seqObj "list" keys e) := (I.pin (kS, _) (List.mem_append_right _ List.mem_cons_self)).1
  have na : s.heap.get? a = some (seqObj "list" #[] e1) := (I.pin (a, _) (List.mem_append_right _ (List.mem_cons_of_mem _ List.mem_cons_self))).1
  have s1 := Heap.SameBut.update s.heap kS (Obj.mapSeq fun _ => (#[] : Array Value))
  have na1 : (s.heap.update kS (Obj.mapSeq fun _ => (#[] : Array Value))).get? a = some (seqObj "list" #[] e1) := (s1.2 a O.ka.symm).trans na
  obtain ⟨c1, hc1⟩ : ∃ c1, (s.heap.update kS (Obj.mapSeq fun _ => (#[] : Array Value))).get? kS = some (seqObj "list" #[] c1) := ⟨_, get?_update_seq nk fun _ => #[]⟩
  have s2 := Heap.SameBut.update (s.heap.update kS (Obj.mapSeq fun _ => (#[] : Array Value))) a (Obj.mapSeq fun _ => (arrOf st).map (·.2))
  obtain ⟨c2, hc2⟩ : ∃ c2, ((s.heap.update kS (Obj.mapSeq fun _ => (#[] : Array Value))).update a (Obj.mapSeq fun _ => (arrOf st).map (·.2))).get? a = some (seqObj "list" ((arrOf st).map (·.2)) c2) := ⟨_, get?_update_seq na1 fun _ => (arrOf st).map (·.2)⟩
  unfold ksk_tail
  try dsimp only
  refine wpAny_bind (listUpdate_at nk rfl ?_ (by rw [hsz, sizeLine_eq]; omega) (Nat.zero_le _))
  refine wpAny_bind (wpAny_letGo ?_)
  refine wpAny_bind (seqEpoch_at na1 rfl ?_)
  simp only [Bool.false_eq_true, if_false]
  refine wpAny_bind (listUpdate_at na1 rfl ?_ (Nat.zero_le _) (by rw [Array.size_map, hsz2, sizeLine_eq]; omega))
  rw [hfl]
  simp only [bne_self_eq_false, Bool.false_eq_true, if_false]
  have I1 := repin (t' := s.toks) I O.sk O.pk' (fun b u hb q => (s1.2 b hb).trans q) hc1 (noCell _ _)
  have I2 := repin (t' := s.toks) (ClX.unpin I1) O.sa O.pa (fun b u hb q => (s2.2 b hb).trans q) hc2 (noCell _ _)
  exact wpAny_pure (h _ _ c2 I2 hR (key_out hk hp hs))
theorem key_end {keys : Array Value} {e : Nat} {H : Hp} {s : Shared} (O : Own2 X pins a kS) (I : Inv X ((kS, seqObj "list" keys e) :: (a, seqObj "list" #[] e1) :: pins) σ H s) (hR : R H) (hk : StrsAre keys.toList zs) (hlen : zs.length = vs.length) (hZ : vs.length ≤ sizeLine)
    (h : ∀ s' out c, Inv X ((a, seqObj "list" out c) :: pins) σ H s' → R H → Keyd zs vs out.toList → P (.done (.ret .none)) s') :
    wpAny (model X.prog X.w) A (ksk_end a false vs.toArray e1 (.ref kS) keys) P E s := by
  have hZ2 := hZ
  rw [sizeLine_eq] at hZ2
  have hsz : keys.size = vs.length := by
    have h1 := hk.length
    rw [Array.length_toList] at h1
    omega
  have hzs : (keys.zip vs.toArray).size = vs.length := by rw [Array.size_zip, hsz, List.size_toArray, Nat.min_self]
  have kO : KeysOf strKind (keys.zip vs.toArray) := fun p hp => by
    rw [PyProof.Rows.ksk_zip] at hp
    obtain ⟨z, t, e⟩ := hk.all p.1 (List.of_mem_zip hp).1
    exact ⟨z.cps.toList, by rw [e]⟩
  unfold ksk_end
  simp only [Bool.false_eq_true, if_false]
  by_cases h2 : vs.toArray.size < 2
  · rw [if_pos h2, if_pos h2]
    refine wpAny_bind (wpAny_pure ?_)
    rw [StateT.run_pure]
    refine wpAny_bind (wpAny_pure ?_)
    try dsimp only
    refine key_tail (st := SortSt.mk' general' (keys.zip vs.toArray) #[] 7 none) O I hR hk hlen hZ (Array.Perm.refl _) ?_ rfl h
    intro i j hij hj
    have hj2 : j < (keys.zip vs.toArray).size := hj
    rw [hzs] at hj2
    rw [List.size_toArray] at h2
    have : i = j := by omega
    subst this
    exact KeyOrd.kle_refl _
  · rw [if_neg h2, if_neg h2]
    rw [List.size_toArray] at h2
    have kk : keyKind' keys = pure oneType' := by
      match hv : keys.toList, hk with
      | [], _ => rw [← Array.length_toList, hv] at hsz; simp at hsz; omega
      | [_], _ => rw [← Array.length_toList, hv] at hsz; simp at hsz; omega
      | v1 :: v2 :: r, hk' =>
        have e : keys = (v1 :: v2 :: r).toArray := by rw [← hv]
        rw [e]
        exact keyKind_strs hk'
    rw [kk]
    refine wpAny_bind (wpAny_pure ?_)
    refine wpAny_bind (wpAny_mono (wpS_sortRunsAny (κ := strKind) (a₀ := keys.zip vs.toArray) (st := SortSt.mk' oneType' (keys.zip vs.toArray) #[] 7 none)
      (Q := fun _ st' => (arrOf st').Perm (keys.zip vs.toArray) ∧ failedOf st' = none ∧ SortedToK strKind (arrOf st') (keys.zip vs.toArray).size)
      strKind_oneLt kO ⟨Array.Perm.refl _, rfl, rfl⟩ rfl (by rw [hzs]; omega) fun st' a1 a2 a3 => ⟨a1, a2, a3⟩) ?_ fun _ _ e => e)
    rintro ⟨⟨⟩, st'⟩ s' ⟨rfl, hp, hf, hs⟩
    try dsimp only
    exact key_tail O I hR hk hlen hZ hp (by rw [hp.size_eq]; exact hs) hf h
theorem key_rest {f : Value} {H : Hp} {s : Shared} (O : Own2 X pins a kS) (I : Inv X ((kS, seqObj "list" #[] 0) :: (a, seqObj "list" #[] e1) :: pins) σ H s) (hR : R H) (rv : Vals xs vs) (hlen : zs.length = vs.length) (hZ : vs.length ≤ sizeLine)
    (turn : ∀ (i : Nat) (x : V) (z : Str), xs[i]? = some x → zs[i]? = some z → ∀ (pn : List (Addr × Obj)) (s' : Shared) (H' : Hp) (u : Value), Inv X (pn ++ pins) σ H' s' → R H' → RelV x u →
      wpAny (model X.prog X.w) A (call f [u]) (EP X (pn ++ pins) σ fun v H2 => v = .str z ∧ R H2) (fun _ _ => False) s')
    (h : ∀ s' H' out c, Inv X ((a, seqObj "list" out c) :: pins) σ H' s' → R H' → Keyd zs vs out.toList → P (.done (.ret .none)) s') :
    wpAny (model X.prog X.w) A (ksk_rest a f false vs.toArray e1 (.ref kS)) P E s := by
  have hZ2 := hZ
  rw [sizeLine_eq] at hZ2
  unfold ksk_rest
  refine wpAny_bind (wpAny_rule ?_)
  first
    | rw [List.forIn_toArray]
    | (rw [← Array.forIn_toList]; simp only [List.toList_toArray])
    | rw [← Array.forIn_toList]
  refine wpAny_bind (ksk_fold (fun i s' => ∃ H' kA e, Inv X ((kS, seqObj "list" kA e) :: (a, seqObj "list" #[] e1) :: pins) σ H' s' ∧ R H' ∧ StrsAre kA.toList (zs.take i)) vs 0 s
    ⟨H, #[], 0, I, hR, by simpa using StrsAre.nil⟩ ?step ?done)
  case step =>
    rintro j u s' hx ⟨H', kA, e, I', hR', hk⟩
    simp only [Nat.zero_add] at hk ⊢
    have hj : j < vs.length := (List.getElem?_eq_some_iff.mp hx).1
    obtain ⟨z, hzj⟩ : ∃ z, zs[j]? = some z := ⟨_, List.getElem?_eq_getElem (by omega)⟩
    have hz : kA.size ≤ vs.length := by
      have h1 := hk.length
      rw [Array.length_toList, List.length_take] at h1
      omega
    obtain ⟨x, hxj, rx⟩ : ∃ x, xs[j]? = some x ∧ RelV x u := by
      have hjx : j < xs.length := by rw [rv.length]; exact hj
      obtain ⟨u', hu', r'⟩ := rv.get (List.getElem?_eq_getElem hjx)
      rw [hx] at hu'
      cases hu'
      exact ⟨_, List.getElem?_eq_getElem hjx, r'⟩
    refine wpAny_bind (wpAny_attempt (wpAny_mono (turn j x z hxj hzj [(kS, seqObj "list" kA e), (a, seqObj "list" #[] e1)] s' H' u I' hR' rx) (fun v s'' he => ?_) fun _ _ hF => hF.elim))
    obtain ⟨y, H2, I2, ry, rfl, hR2⟩ := he
    obtain ⟨t2, rfl⟩ := ry
    try dsimp only
    have I2' : Inv X ((kS, seqObj "list" kA e) :: (a, seqObj "list" #[] e1) :: pins) σ H2 s'' := I2
    have nk : s''.heap.get? kS = some (seqObj "list" kA e) := (I2'.pin (kS, _) (List.mem_append_right _ List.mem_cons_self)).1
    have s1 := Heap.SameBut.update s''.heap kS (Obj.mapSeq (·.push (.str z t2)))
    obtain ⟨c2, hc2⟩ : ∃ c2, (s''.heap.update kS (Obj.mapSeq (·.push (.str z t2)))).get? kS = some (seqObj "list" (kA.push (.str z t2)) c2) := ⟨_, get?_update_seq nk (·.push (.str z t2))⟩
    have ek : zs.take (j + 1) = zs.take j ++ [z] := by rw [List.take_add_one, hzj]; simp
    have ea : (kA.push (Value.str z t2)).toList = kA.toList ++ [Value.str z t2] := by simp
    refine wpAny_bind (listUpdate_at nk rfl ?_ (by rw [sizeLine_eq]; omega) (Nat.le_trans (Nat.le_of_eq (Array.size_push ..)) (by rw [sizeLine_eq]; omega)))
    refine wpAny_pure ⟨rfl, H2, kA.push (.str z t2), c2, repin (t' := s''.toks) I2' O.sk O.pk' (fun b u hb q => (s1.2 b hb).trans q) hc2 (noCell _ _), hR2, ?_⟩
    rw [ea, ek]
    exact strs_snoc hk
  case done =>
    rintro s' ⟨H', kA, e, I', hR', hk⟩
    have hk' : StrsAre kA.toList zs := by
      have e3 : zs.take (0 + vs.length) = zs := List.take_of_length_le (by omega)
      rw [e3] at hk
      exact hk
    have nk : s'.heap.get? kS = some (seqObj "list" kA e) := (I'.pin (kS, _) (List.mem_append_right _ List.mem_cons_self)).1
    try dsimp only
    refine wpAny_bind (listItems_at nk rfl ?_)
    exact key_end O I' hR' hk' hlen hZ fun s2 out c I2 hR2 k2 => h s2 H' out c I2 hR2 k2
end
section
variable {X : Cx} {pins : List (Addr × Obj)} {σ : L2.St} {E : Value → Shared → Prop} {xs : List V} {zs : List Str} {R : Hp → Prop}
def KeydV (zs : List Str) (xs out : List V) : Prop := ∃ ps : List (Str × V), ps.Perm (zs.zip xs) ∧ ps.Pairwise (fun p q => ¬ q.1.cps.toList < p.1.cps.toList) ∧ out = ps.map (·.2)
theorem keyd_vals {vs out : List Value} (rv : Vals xs vs) (hlen : zs.length = xs.length) (k : Keyd zs vs out) : ∃ ys, Vals ys out ∧ KeydV zs xs ys := by
  obtain ⟨ps, pm, pw, rfl⟩ := k
  -- the places
  have go : ∀ {ps qs : List (Str × Value)}, ps.Perm qs → ∀ ws : List (Str × V), Paired (fun (p : Str × V) (q : Str × Value) => p.1 = q.1 ∧ RelV p.2 q.2) ws qs → ∃ rs : List (Str × V), rs.Perm ws ∧ Paired (fun (p : Str × V) (q : Str × Value) => p.1 = q.1 ∧ RelV p.2 q.2) rs ps := by
    intro ps qs pm
    induction pm with
    | nil =>
      intro ws h
      cases h
      exact ⟨[], List.Perm.refl _, .nil⟩
    | cons x _ ih =>
      intro ws h
      cases h with
      | cons r t =>
        obtain ⟨rs, p1, p2⟩ := ih _ t
        exact ⟨_ :: rs, p1.cons _, .cons r p2⟩
    | swap x y l =>
      intro ws h
      cases h with
      | cons r t =>
        cases t with
        | cons r2 t2 => exact ⟨_ :: _ :: _, List.Perm.swap _ _ _, .cons r2 (.cons r t2)⟩
    | trans _ _ ih1 ih2 =>
      intro ws h
      obtain ⟨rs, p1, p2⟩ := ih2 _ h
      obtain ⟨rs', p3, p4⟩ := ih1 _ p2
      exact ⟨rs', p3.trans p1, p4⟩
  have zp : ∀ {xs : List V} {vs : List Value} (zs : List Str), Vals xs vs → Paired (fun (p : Str × V) (q : Str × Value) => p.1 = q.1 ∧ RelV p.2 q.2) (zs.zip xs) (zs.zip vs) := by
    intro xs vs zs r
    induction r generalizing zs with
    | nil => cases zs <;> exact .nil
    | cons r t ih =>
      cases zs with
      | nil => exact .nil
      | cons z zs => exact .cons ⟨rfl, r⟩ (ih zs)
  obtain ⟨rs, p1, p2⟩ := go pm _ (zp zs rv)
  have m2 : ∀ {rs : List (Str × V)} {ps : List (Str × Value)}, Paired (fun (p : Str × V) (q : Str × Value) => p.1 = q.1 ∧ RelV p.2 q.2) rs ps → Vals (rs.map (·.2)) (ps.map (·.2)) ∧ rs.map (·.1) = ps.map (·.1) := by
    intro rs ps h
    induction h with
    | nil => exact ⟨.nil, rfl⟩
    | cons r t ih => exact ⟨.cons r.2 ih.1, by rw [List.map_cons, List.map_cons, ih.2, r.1]⟩
  refine ⟨rs.map (·.2), (m2 p2).1, rs, p1, ?_, rfl⟩
  have e := (m2 p2).2
  have q1 : (ps.map (·.1)).Pairwise (fun p q : Str => ¬ q.cps.toList < p.cps.toList) := List.pairwise_map.mpr pw
  rw [← e] at q1
  exact List.pairwise_map.mp q1
theorem collect_seq {prog : Program} {w : World} {A : Around} {E : Value → Shared → Prop} {s : Shared} {l : Addr} {vs : List Value} {Q : List Value → Shared → Prop} {T : String} (hl : ∃ o n, s.heap.get? l = some o ∧ o.cls = .type T ∧ o.data = .seq vs.toArray n) (hT : T = "list" ∨ T = "tuple")
    (h : Q vs { s with heap := (s.heap.push (seqObj "list" #[] 0)).update s.heap.objs.size (Obj.mapSeq (· ++ vs.toArray)) }) (hsz : vs.length ≤ sizeLine) :
    wpAny (model prog w) A (collect (.ref l)) Q E s := by
  obtain ⟨o, n, ho, hc, hd⟩ := id hl
  unfold collect
  refine wpAny_bind (wpAny_runValue (codeAny_builtin entry_proto_collect' ?_))
  show wpAny _ _ (do again (.builtin "list.__iadd__" ⟨[← newList [], .ref l], []⟩)) _ _ s
  refine wpAny_bind (wpAny_newList (wpAny_pure ⟨Code.quiet_builtin _ (by decide +kernel), codeAny_builtin entry_list_iadd' ?_⟩))
  show wpAny _ _ (Builtin.List.listExtendWith (.ref s.heap.objs.size) (.ref l) (.ref s.heap.objs.size)) _ _ { s with heap := s.heap.push (seqObj "list" #[] 0) }
  unfold Builtin.List.listExtendWith
  have ho' : (s.heap.push (seqObj "list" #[] 0)).get? l = some o := Heap.get?_push_of_some _ ho
  refine wpAny_bind (wpAny_typeOf (T := T) ⟨o, ho', hc⟩ ?_)
  have t1 : (Value.type "list" == Value.type "list") = true := by rfl
  have t2 : (Value.type "tuple" == Value.type "tuple") = true := by rfl
  rw [if_pos (by
    rcases hT with e | e
    · subst e
      rw [t1]
      simp
    · subst e
      rw [t2]
      simp)]
  refine wpAny_bind (listItems_at ho' hd ?_)
  refine wpAny_bind (listItems_at (xs := #[]) (n := 0) (Heap.get?_push_size _ rfl) rfl ?_)
  rw [if_neg (by simp)]
  refine wpAny_bind (listUpdate_at (xs := #[]) (n := 0) (Heap.get?_push_size _ rfl) rfl ?_ (Nat.zero_le _) (by show (#[] ++ vs.toArray).size ≤ sizeLine + 1; simp only [Array.size_append, List.size_toArray, List.length_nil]; omega))
  refine wpAny_pure ?_
  show wpAny (model prog w) A (do
      let o ← load s.heap.objs.size
      match o.data with
      | .seq xs _ => pure xs.toList
      | _ => unsupported "internal:collect") Q E { s with heap := (s.heap.push (seqObj "list" #[] 0)).update s.heap.objs.size (Obj.mapSeq (· ++ vs.toArray)) }
  refine wpAny_bind (wpAny_load (get?_update_seq (Heap.get?_push_size _ rfl) _) ?_)
  show wpAny _ _ (pure ((#[] : Array Value) ++ vs.toArray).toList) Q E _
  rw [show ((#[] : Array Value) ++ vs.toArray).toList = vs by simp]
  exact wpAny_pure h
def Sq (K : PySem.W.Frag) (H : Hp) (a : Addr) (xs : List V) : Prop := SqL K H a xs ∨ SqT K H a xs
theorem sq_at {H : Hp} {s : Shared} {a : Addr} {xs : List V} (I : Inv X pins σ H s) (h : Sq X.K H a xs) : ∃ its : List Value, Vals xs its ∧ xs.length ≤ sizeLine ∧ ∃ T : String, (T = "list" ∨ T = "tuple") ∧ ∃ o n, s.heap.get? a = some o ∧ o.cls = .type T ∧ o.data = .seq its.toArray n := by
  rcases h with h | h
  · obtain ⟨its, r, ⟨o, n, e, c, _, d⟩, z⟩ := I.list h
    exact ⟨its, r, z, _, .inl rfl, o, n, e, c, d⟩
  · obtain ⟨its, r, ⟨o, e, c, n, d⟩, z⟩ := I.tuple h
    exact ⟨its, r, z, _, .inr rfl, o, n, e, c, d⟩
theorem sorted_key {f : Addr} {l : Addr} {H : Hp} {s : Shared} {Q : Value → Shared → Prop} (I : Inv X pins σ H s) (hR : R H) (hl : Sq X.K H l xs) (hlen : zs.length = xs.length)
    (turn : ∀ (i : Nat) (x : V) (z : Str), xs[i]? = some x → zs[i]? = some z → ∀ (pn : List (Addr × Obj)) (s' : Shared) (H' : Hp) (u : Value), Inv X (pn ++ pins) σ H' s' → R H' → RelV x u →
      wpAny (model X.prog X.w) X.A.in1.in1 (call (.ref f) [u]) (EP X (pn ++ pins) σ fun v H2 => v = .str z ∧ R H2) (fun _ _ => False) s')
    (h : ∀ (D : Addr) (s' : Shared) (H' : Hp) (ys : List V), Inv X pins σ (upd H' D (.lst ys)) s' → H' D = none → R H' → KeydV zs xs ys → Q (.ref D) s') :
    wpAny (model X.prog X.w) X.A (call (.builtin "sorted") [.ref l] [(Str.ofString "key", .ref f)]) Q E s := by
  obtain ⟨vs, rv, hz, T, hT, pl⟩ := sq_at I hl
  have hlv := rv.length
  have hZ : vs.length ≤ sizeLine := by omega
  have hZ2 := hZ
  rw [sizeLine_eq] at hZ2
  refine call_function_entry_kw kind_sorted plain_sorted entry_sorted (PyProof.Rows.ksk_s1 _ _) ?_
  unfold Builtin.«sorted»
  refine wpAny_bind (m := checkCount "sorted" 1 1 _) (wpAny_pure ?_)
  refine wpAny_bind (collect_seq pl hT ?_ (by rw [sizeLine_eq]; omega))
  refine wpAny_bind (wpAny_newList ?_ (by rw [sizeLine_eq]; omega))
  have hsz : ((s.heap.push (seqObj "list" #[] 0)).update s.heap.objs.size (Obj.mapSeq (· ++ vs.toArray))).objs.size = s.heap.objs.size + 1 := by
    rw [Heap.size_update, size_push']
  have hoL : (((s.heap.push (seqObj "list" #[] 0)).update s.heap.objs.size (Obj.mapSeq (· ++ vs.toArray))).push (seqObj "list" vs.toArray 0)).get? (s.heap.objs.size + 1) = some (seqObj "list" vs.toArray 0) := by
    rw [← hsz]; exact Heap.get?_push_size _ rfl
  have keep : ∀ b o, s.heap.get? b = some o → (((s.heap.push (seqObj "list" #[] 0)).update s.heap.objs.size (Obj.mapSeq (· ++ vs.toArray))).push (seqObj "list" vs.toArray 0)).get? b = some o := fun b o q => by
    have hlt : b < s.heap.objs.size := Heap.lt_size q
    rw [Heap.get?_push_ne _ _ _ (by rw [hsz]; exact Nat.ne_of_lt (Nat.lt_succ_of_lt hlt)), Heap.get?_update_ne _ _ _ _ (Nat.ne_of_lt hlt), Heap.get?_push_ne _ _ _ (Nat.ne_of_lt hlt)]
    exact q
  have szA : (((s.heap.push (seqObj "list" #[] 0)).update s.heap.objs.size (Obj.mapSeq (· ++ vs.toArray))).push (seqObj "list" vs.toArray 0)).objs.size = s.heap.objs.size + 2 := by rw [size_push', hsz]
  generalize (((s.heap.push (seqObj "list" #[] 0)).update s.heap.objs.size (Obj.mapSeq (· ++ vs.toArray))).push (seqObj "list" vs.toArray 0)) = hA at hoL keep szA
  show wpAny _ _ _ _ _ { s with heap := hA }
  rw [hsz]
  refine wpAny_bind (wpAny_holding (wpAny_call_entry_kw slot_list_sort ⟨_, hoL, rfl⟩ entry_list_sort ?body (PyProof.Rows.ksk_l1 _ _)))
  case body =>
    show wpAny (model X.prog X.w) X.A.in1.in1 (Builtin.«list.sort» ⟨[.ref (s.heap.objs.size + 1)], [(Str.ofString "key", .ref f)]⟩) _ _ _
    rw [PyProof.Rows.ksk_t1]
    -- the sort's own lists
    have s1 := Heap.SameBut.update hA (s.heap.objs.size + 1) (Obj.mapSeq fun _ => (#[] : Array Value))
    obtain ⟨e1, ho1⟩ : ∃ e1, (hA.update (s.heap.objs.size + 1) (Obj.mapSeq fun _ => (#[] : Array Value))).get? (s.heap.objs.size + 1) = some (seqObj "list" #[] e1) := ⟨_, get?_update_seq hoL fun _ => #[]⟩
    have keep2 : ∀ b o, s.heap.get? b = some o → (((hA.update (s.heap.objs.size + 1) (Obj.mapSeq fun _ => (#[] : Array Value))).push (seqObj "tuple" vs.toArray 0)).push (seqObj "list" #[] 0)).get? b = some o := fun b o q => by
      have hlt : b < s.heap.objs.size := Heap.lt_size q
      exact Heap.get?_push_of_some _ (Heap.get?_push_of_some _ ((s1.2 b (Nat.ne_of_lt (Nat.lt_succ_of_lt hlt))).trans (keep b o q)))
    have hkS : ((hA.update (s.heap.objs.size + 1) (Obj.mapSeq fun _ => (#[] : Array Value))).push (seqObj "tuple" vs.toArray 0)).objs.size = s.heap.objs.size + 3 := by rw [size_push', Heap.size_update, szA]
    have ltp : ∀ p ∈ X.pn ++ pins, p.1 < s.heap.objs.size := fun p hp => Heap.lt_size (I.pin p hp).1
    unfold ksk_tree
    refine wpAny_bind (listItems_at hoL rfl ?_)
    refine wpAny_bind (listUpdate_at hoL rfl ?_ (by rw [List.size_toArray, sizeLine_eq]; omega) (Nat.zero_le _))
    refine wpAny_bind (seqEpoch_at ho1 rfl ?_)
    refine wpAny_bind (wpAny_newTuple ?_ (by show vs.length ≤ _; rw [sizeLine_eq]; omega))
    refine wpAny_bind (wpAny_newList ?_ (Nat.zero_le _))
    refine wpAny_holding ?_
    have O : Own2 X pins (s.heap.objs.size + 1) (s.heap.objs.size + 3) := ⟨Nat.le_trans I.sz (Nat.le_add_right _ _), Nat.le_trans I.sz (Nat.le_add_right _ _), Nat.ne_of_gt (Nat.add_lt_add_left (by decide : 1 < 3) s.heap.objs.size), fun p hp => Nat.ne_of_lt (Nat.lt_of_lt_of_le (ltp p hp) (Nat.le_add_right _ _)), fun p hp => Nat.ne_of_lt (Nat.lt_of_lt_of_le (ltp p hp) (Nat.le_add_right _ _))⟩
    have Ia : Inv X ((s.heap.objs.size + 1, seqObj "list" #[] e1) :: pins) σ H { s with heap := ((hA.update (s.heap.objs.size + 1) (Obj.mapSeq fun _ => (#[] : Array Value))).push (seqObj "tuple" vs.toArray 0)).push (seqObj "list" #[] 0) } :=
      ClX.pin_new (t' := s.toks) I keep2 (Nat.le_succ _) (Heap.get?_push_of_some _ (Heap.get?_push_of_some _ ho1)) (noCell _ _)
    have Ik : Inv X ((s.heap.objs.size + 3, seqObj "list" #[] 0) :: (s.heap.objs.size + 1, seqObj "list" #[] e1) :: pins) σ H { s with heap := ((hA.update (s.heap.objs.size + 1) (Obj.mapSeq fun _ => (#[] : Array Value))).push (seqObj "tuple" vs.toArray 0)).push (seqObj "list" #[] 0) } := by
      refine Ia.pins_of fun p hp => ?_
      rcases List.mem_cons.mp hp with e | e
      · subst e
        refine ⟨?_, I.hok.fresh (Nat.le_add_right s.heap.objs.size 3), Nat.ne_of_gt (Nat.lt_of_lt_of_le I.lt (Nat.le_add_right s.heap.objs.size 3)), I.nofs (Nat.le_add_right s.heap.objs.size 3), noCell _ _⟩
        show Heap.get? _ (s.heap.objs.size + 3) = _
        rw [← hkS]
        exact Heap.get?_push_size _ rfl
      · exact Ia.pin p (List.mem_append_right _ e)
    rw [hkS]
    refine key_rest (R := R) O Ik hR rv (by omega) hZ turn fun s2 H2 out c I2 hR2 k2 => ⟨_, rfl, ?_⟩
    refine wpAny_pure ⟨_, rfl, ?_⟩
    obtain ⟨ys, ry, ky⟩ := keyd_vals rv hlen k2
    have hD : H2 (s.heap.objs.size + 1) = none := ClX.pin_un I2
    have ly : ys.length = xs.length := by
      obtain ⟨ps, pm, _, e⟩ := ky
      rw [e, List.length_map, pm.length_eq, List.length_zip, hlen, Nat.min_self]
    refine h _ s2 H2 ys (track I2 O.sa O.pa ⟨by omega, out.toList, c, ry, ?_⟩) hD hR2 ky
    have := ClX.pin_at I2
    simpa using this
end
end JW
namespace JW
open PySem PySem.Spec PyProof.Rows L2 LamX
theorem lam_run {P : Program} {w : World} {K : PySem.W.Frag} {mg : Str → Option Value} {base : Heap} {CX : CXT} {N ps : List Str} {k : Nat} {nm qual : Str} {params : Arguments} {body : Expr} {scope : Scope} {f c' : Addr} {pm ctv : Value} {A : Around} {outer : List Env} {s : Shared} {H : Hp} {Q : VK} {E : XK}
    {us : List Value} {vs : List V} {t : TE} (ho : s.heap.get? f = some (PySem.W.kla_obj nm qual params body scope [] pm c' ctv)) (hcd : s.heap.CodeRec (.ref c') qual) (S : FnScope N ps scope) (hr : Room (k + 1) A) (e0 : Env0 P w K mg base A outer s H)
    (hb : BindsTo s (PySem.W.kla_fn nm qual params body scope [] pm (.ref c') ctv) ⟨us, []⟩ (ps.zip us)) (hl : vs.length = ps.length) (r : Vals vs us)
    (hbody : PE (cxOf CX P w K mg base N qual scope f (.ref c') A outer s H E).nox body t) (h : t (start N vs) H Q) :
    codeAny (model P w) A (.call (.ref f) ⟨us, []⟩) (CR CX outer P w H s Q E) s := by
  have lim : s.heap.NoLimit := e0.mod.nolimit.keeps fun b o e => (e0.bs b o e).1
  have hkind : ∀ y ∈ ps.zip us, scope.names.lookup y.1 = some .local ∨ (scope.names.lookup y.1 = some .cell ∧ ((cellsFrom (s.heap.objs.size + 1) scope.names []).lookup y.1).isSome = true) := fun ⟨n, v⟩ hy => by
    rcases S.par n (List.of_mem_zip hy).1 with q | q
    · exact .inl q
    · exact .inr ⟨q, PySem.W.cellsFrom_some _ _ _ (.inl q)⟩
  refine PySem.W.kla_callFunE hr.depth ho rfl S.co S.gen rfl hcd (hb _ _ _ _ ?_)
  refine wpAny_newFunctionEnv_cells S.kind hkind fun env he s1 x => ?_
  subst he
  refine ⟨lim.keeps x.toInCall.keep, ?_⟩
  have I : Inv (cxOf CX P w K mg base N qual scope f (.ref c') A outer s H E) [] (start N vs) H s1 := inv_start S hr.hd e0 hl r x
  refine PySem.W.kla_codeExpr (wpAny_mono (hbody.nox.run [] s1 (start N vs) H Q I h) (fun v s' hq => ?_) fun e s' hs => hs)
  obtain ⟨v', H', J, rv, q⟩ := hq
  exact ⟨v', H', J.os, J.bare, J.base, J.hok, rv, q⟩
def tSortKey (K : PySem.W.Frag) (T : List (Addr × Str)) (te : TE) (N : List Str) (tb : TE) : TE := fun σ H Q => te σ H fun x H1 => ∃ (l : Addr) (xs : List V) (zs : List Str), x = .ref l ∧ Sq K H1 l xs ∧ zs.length = xs.length ∧ Tabs T H1 ∧
  ∀ H2, ExtN H1 H2 → Tabs T H2 → ∃ R : Hp → Prop, R H2 ∧ (∀ H', R H' → ExtN H2 H') ∧
    (∀ (i : Nat) (x : V) (z : Str), xs[i]? = some x → zs[i]? = some z → ∀ H', R H' → tb (start N [x]) H' fun v H3 => v = .str z ∧ R H3) ∧
    ∀ (D : Addr) (H' : Hp) (ys : List V), R H' → H' D = none → KeydV zs xs ys → Q (.ref D) (upd H' D (.lst ys))
section
variable {X : Cx} {e : Expr} {te tb : TE} {T : List (Addr × Str)} {c P : Addr} {params : Arguments} {body : Expr} {scope : Scope} {p pos lpos kpos : Pos} {N : List Str} {y : Str} {k : Nat}
theorem pe_sortedKey (he : PE X e te) (hg : Gl X "sorted") (hm : X.mg "sorted" = none) (TB : TabB X.base X.mg c P) (hcode : X.env.code = .ref c) (hT : (P, X.env.qual ++ "<lambda>") ∈ T) (hu : ∀ q ∈ T, q.1 = P → q.2 = X.env.qual ++ "<lambda>") (hr : Room (k + 3) X.A)
    (S : FnScope N [y] scope) (hbd : ∀ (q : Str) (pm cdv ctv u : Value), bindArgs (PySem.W.kla_fn "<lambda>" q params body scope [] pm cdv ctv) ⟨[u], []⟩ = pure [(y, u)])
    (hbody : ∀ (A : Around) (outer : List Env) (s : Shared) (H : Hp) (f : Addr) (cd : Value), Room k (A.deeper (envOfC (X.env.qual ++ "<lambda>") scope s.heap.objs.size f cd)) → PE (cxOf CX0 X.prog X.w X.K X.mg X.base N (X.env.qual ++ "<lambda>") scope f cd A outer s H E0).nox body tb)
    (hdef : defaultsOf params X.env = ([], []) := by rfl) (hclo : cloFrom X.env.cells scope.names [] = [] := by rfl)
    (hst : backTo pos (starEach [e] X.env) = [(false, eval e X.env)] := by rfl) : PE X (.Call (.Name "sorted" p) [e] [⟨some "key", .Lambda params body scope lpos, kpos⟩] pos) (tSortKey X.K T te N tb) := by
  refine ⟨fun pins s σ H Q I h => ?_⟩
  have hfree : ∀ y ∈ scope.names, y.2 = .free → ∃ c, X.env.cells.lookup y.1 = some c := fun y hy e => absurd e (S.nofree y hy)
  refine wpAny_Call_Name_kw (ld_blt I hg hm (by decide +kernel : bootBuiltins "sorted" = some (.builtin "sorted")) ?_ (by decide) (by decide))
  refine PyProof.Rows.callWith_kw (e := e) (rest := []) ?_ hst (by rw [hst]; rfl) (by rfl) (by rfl)
  rw [hst]
  refine Calls.spliced_cons (thn (he.run pins s σ H _ I h) fun u s1 ⟨x, H1, I1, r1, q1⟩ => Calls.spliced_nil ?_)
  obtain ⟨l, xs, zs, rfl, hl, hlen, hTb, q⟩ := q1
  cases r1
  show wpAny _ _ (evalAll [(do let v ← eval (.Lambda params body scope lpos) X.env; standAt pos; pure v)]) _ _ s1
  refine wpAny_evalAll_cons (wpAny_bind ?_)
  refine LamX.lam_make2 I1 TB hcode hT hu hTb hdef hfree fun f c' pm ctv H2 s2 I2 hE hTb2 hf hfn hfr hco => ?_
  rw [hclo] at hf
  refine wpAny_bind (wpAny_standAt (wpAny_pure (wpAny_evalAll_nil ?_)))
  show wpAny (model X.prog X.w) X.A (call (.builtin "sorted") [.ref l] [(Str.ofString "key", .ref f)]) _ _ _
  have fne : f ≠ X.env.locals := fun z => by
    obtain ⟨m, ⟨o, es, ep, ho, hd, _⟩, _⟩ := I2.loc
    rw [← z, hf] at ho
    cases ho
    cases hd
  have ffs : f ∉ X.fs := fun z => hfr (by
    rcases I2.ok.stk with e | ⟨e, _⟩
    · rw [e]
      exact z
    · rw [e]
      obtain ⟨o, ho, he'⟩ := List.mem_filterMap.mp z
      exact List.mem_filterMap.mpr ⟨o, List.mem_cons_of_mem _ ho, he'⟩)
  have I3 : Inv X ((f, PySem.W.kla_obj "<lambda>" (X.env.qual ++ "<lambda>") params body scope [] pm c' ctv) :: pins) σ H2 s2 := by
    refine I2.pins_of fun p hp => ?_
    rcases List.mem_cons.mp hp with e | e
    · subst e
      exact ⟨hf, hfn, fne, ffs, fun v z => by cases z⟩
    · exact I2.pin p (List.mem_append_right _ e)
  obtain ⟨R, hR, hRE, turn, fin⟩ := q H2 hE hTb2
  have hl2 : Sq X.K H2 l xs := by
    rcases hl with ((h | ⟨o, h⟩) | h) | ((h | ⟨o, h⟩) | h)
    · exact .inl (.inl (.inl (hE _ _ h fun ps z => by cases z)))
    · exact .inl (.inl (.inr ⟨o, hE _ _ h fun ps z => by cases z⟩))
    · exact .inl (.inr h)
    · exact .inr (.inl (.inl (hE _ _ h fun ps z => by cases z)))
    · exact .inr (.inl (.inr ⟨o, hE _ _ h fun ps z => by cases z⟩))
    · exact .inr (.inr h)
  refine sorted_key (R := R) I3 hR hl2 hlen (fun i x z hx hz pn s' H' u I' hR' rx => ?_) fun D s' H' ys I' hD hR' ky => ⟨.ref D, _, ClX.unpin I', rfl, fin D H' ys hR' hD ky⟩
  have hf' : s'.heap.get? f = some (PySem.W.kla_obj "<lambda>" (X.env.qual ++ "<lambda>") params body scope [] pm c' ctv) := (I'.pin (f, _) (List.mem_append_right _ (List.mem_append_right _ List.mem_cons_self))).1
  have hco' := hRE H' hR' c' _ hco LamX.codeO_ne
  obtain ⟨⟨oc, vs, t, hoc, hdc, hvc⟩, _, _⟩ := I'.hok c' _ hco'
  have hbi : BindsTo s' (PySem.W.kla_fn "<lambda>" (X.env.qual ++ "<lambda>") params body scope [] pm (.ref c') ctv) ⟨[u], []⟩ ([y].zip [u]) := .of_eq (hbd _ _ _ _ _)
  have hr2 : Room (k + 1) X.A.in1.in1 := hr.in1.in1
  refine wpAny_call (codeAny_mono (lam_run (CX := CX0) (E := E0) (N := N) hf' ⟨c', oc, vs, t, rfl, hoc, hdc, hvc⟩ S hr2 I'.env0.in1.in1 hbi rfl (.cons rx .nil) (hbody _ _ s' H' f _ (hr2.deeper _)) (turn i x z hx hz H' hR')) fun r s'' hq => ?_)
  cases r with
  | error er => exact False.elim hq
  | ok fl =>
    cases fl with
    | ret w' => exact I'.after hq
    | next => exact False.elim hq
    | brk => exact False.elim hq
    | cont => exact False.elim hq
end
end JW
namespace JW
open PySem PySem.Spec PyProof.Rows L2
theorem ints_reads {h : Heap} : ∀ {ns : List Int} {us : List Value}, Vals (ns.map V.int) us → ReadsAll h us (ns.map PyData.int) []
  | [], us, r => by
    cases r
    exact .nil
  | n :: ns, us, r => by
    rw [List.map_cons] at r
    cases r with
    | cons r1 r2 =>
      obtain ⟨t, rfl⟩ := r1
      exact ReadsAll.cons (as := []) (bs := []) (.int n t) (ints_reads r2)
theorem ints_alike (ns : List Int) : PySem.W.AlikeAll (ns.map PyData.int) := ⟨fun x hx y hy => by
  obtain ⟨i, _, rfl⟩ := List.mem_map.mp hx
  obtain ⟨j, _, rfl⟩ := List.mem_map.mp hy
  rfl, fun x hx => by
  obtain ⟨i, _, rfl⟩ := List.mem_map.mp hx
  exact fun z => by cases z⟩
theorem ints_depth : ∀ ns : List Int, PyData.depthAll (ns.map PyData.int) = 0
  | [] => rfl
  | n :: r => by
    rw [List.map_cons]
    show max (PyData.depth (.int n)) (PyData.depthAll (r.map PyData.int)) = 0
    rw [ints_depth r]
    rfl
def rMaxDf (K : PySem.W.Frag) : List V → List V → Hp → VK → Prop := fun vs zs H Q => ∃ (a : Addr) (ns : List Int) (d : Int), vs = [V.ref a] ∧ zs = [.int d] ∧ SqL K H a (ns.map V.int) ∧
  ∀ m : Int, ((ns = [] ∧ m = d) ∨ ∃ n r, ns = n :: r ∧ m = r.foldl max n) → Q (.int m) H
theorem cr_maxDf {X : Cx} (hc : X.calm = true) (hu : X.A.units + 1 < cLine) : CallRK X (.builtin "max") [Str.ofString "default"] (rMaxDf X.K) := by
  intro pins s σ H vs zs us ws Q I r rz h
  obtain ⟨a, ns, d, rfl, rfl, hs, q⟩ := h
  obtain ⟨its, rv, hl, _⟩ := I.list hs
  rw [Vals.ref1 r]
  obtain ⟨w1, rfl, rd⟩ := vals1 rz
  refine PySem.W.max_list_default (vs := its.toArray) (I.ok.hd hc) hl.isList (xs := ns.map PyData.int) (as := []) (ints_reads rv) (ints_alike ns) (by rw [ints_depth]; exact hu) (fun hn h' tk hk => ?_) fun y ys i v h' tk bs he hv hr hk => ?_
  · exact ⟨.int d, H, I.kept hk, rd, q d (.inl ⟨List.map_eq_nil_iff.mp hn, rfl⟩)⟩
  · cases ns with
    | nil => cases he
    | cons n r =>
      rw [List.map_cons] at he
      injection he with e1 e2
      subst e1
      subst e2
      rw [PySem.W.maxD_ints] at hr
      cases hr with
      | int _ t => exact ⟨.int _, H, I.kept hk, ⟨t, rfl⟩, q _ (.inr ⟨n, r, rfl, rfl⟩)⟩
end JW
namespace JW
open PySem PySem.Spec PyProof.Rows L2
theorem draws_str {prog : Program} {w : World} {A : Around} (hh : A.handled = none) (it : Addr) (x : Str) (t : Tok) :
    Draws prog w A it [it] x.cps.size (fun i v => ∃ c u, x.cps[i]? = some c ∧ v = .str ⟨#[c]⟩ u) (fun i h => h.IsStrIter it (strIterType x) x t i) := by
  cases ha : x.cps.all (· < 128)
  · have e : strIterType x = "str_iterator" := by simp [strIterType, ha]
    rw [e]
    exact Draws.strWide hh it x t
  · have e : strIterType x = "str_ascii_iterator" := by simp [strIterType, ha]
    rw [e]
    exact Draws.strAscii hh it x t
def Ites (x : Str) : It :=
  ⟨fun i _ => i < x.cps.size, fun i H v H' => ∃ T c, v = .ref T ∧ H T = none ∧ H' = upd H T (.tup [.int (i : Nat), .str ⟨#[c]⟩]) ∧ x.cps[i]? = some c, fun i _ => i = x.cps.size⟩
theorem turn_enumS {P : Program} {w : World} {K : PySem.W.Frag} {elts : List Expr} {kk : Nat} {tpos : Pos} (x : Str) (t : Tok) (e it : Addr) :
    Turn P w K (.Tuple elts kk tpos) (Ites x) [e, it] e (fun i h => (∃ old, IsEnum h e it ((i : Nat) : Int) old) ∧ h.IsStrIter it (strIterType x) x t i ∧ e ≠ it) where
  mem := by simp
  obj := fun i h st b hb => by
    obtain ⟨⟨old, he⟩, ⟨o, ho, hc, hd⟩, _⟩ := st
    have e' : b = e ∨ b = it := by simpa using hb
    rcases e' with z | z
    · rw [z]; exact ⟨_, he, fun v q => nomatch q⟩
    · rw [z]; exact ⟨o, ho, fun v q => by rw [hd] at q; cases q⟩
  keep := fun i h h' st k => by
    obtain ⟨⟨old, he⟩, ⟨o, ho, r⟩, hne⟩ := st
    exact ⟨⟨old, k e (by simp) _ he⟩, ⟨o, k it (by simp) o ho, r⟩, hne⟩
  item := by
    intro X hP hw hK hc i pins s σ H E I hf st hg
    subst hP hw hK
    obtain ⟨⟨old, he⟩, hit, hne⟩ := st
    have hlt : i < x.cps.size := hg
    have hel : e < s.heap.objs.size := Heap.lt_size he
    have hil : it < s.heap.objs.size := by obtain ⟨_, q, _⟩ := hit; exact Heap.lt_size q
    refine wpAny_pyNext_enum_itemD (draws_str (A := X.A.in1) (I.ok.hd hc) it x t) he hit hlt hne (by simpa using hne) fun y h' tk hy ho hit' hT hsz hk => ?_
    obtain ⟨c, u, hcx, rfl⟩ := hy
    refine ⟨_, rfl, wpAny_letOwnedTupleGo_enum (s := { s with heap := h', toks := tk + 1 }) ho fun h'' he' sb => ?_⟩
    have hT2 : h''.get? s.heap.objs.size = some { cls := .type "tuple", data := .seq #[.int i tk, .str ⟨#[c]⟩ u] } := (sb.2 _ (Nat.ne_of_gt hel)).trans hT
    have new : ObjOk X.prog X.w (upd H s.heap.objs.size (.tup [.int (i : Nat), .str ⟨#[c]⟩])) h'' s.heap.objs.size (.tup [.int (i : Nat), .str ⟨#[c]⟩]) :=
      ⟨by show 2 ≤ sizeLine; decide, [.int i tk, .str ⟨#[c]⟩ u], .cons ⟨_, rfl⟩ (.cons ⟨_, rfl⟩ .nil), ⟨_, hT2, rfl, _, rfl⟩⟩
    have I1 : Inv X pins σ (upd H s.heap.objs.size (.tup [.int (i : Nat), .str ⟨#[c]⟩])) { s with heap := h'', toks := tk + 1 } :=
      I.turnedNew (ch := [e, it]) (fun b ob hb q => (sb.2 b (fun z => hb (by simp [z]))).trans (hk b ob (fun z => hb (by simp [z])) (fun z => hb (by simp [z])) q)) hf (Nat.le_refl _) new
    refine ⟨.ref s.heap.objs.size, _, I1, rfl, ⟨_, c, rfl, I.hok.fresh (Nat.le_refl _), rfl, hcx⟩, ⟨⟨.str ⟨#[c]⟩ u, ?_⟩, ?_, hne⟩, fun b hb => ?_⟩
    · have e1 : ((i + 1 : Nat) : Int) = (i : Int) + 1 := by omega
      rw [e1]; exact he'
    · obtain ⟨o, q, r⟩ := hit'
      exact ⟨o, (sb.2 it (Ne.symm hne)).trans q, r⟩
    · have hb' : b < s.heap.objs.size := by
        have e' : b = e ∨ b = it := by simpa using hb
        rcases e' with z | z
        · rw [z]; exact hel
        · rw [z]; exact hil
      rw [upd_ne (Nat.ne_of_lt hb')]
      exact (hf b hb).1
  done := by
    intro X hP hw hK hc i pins s σ H E I hf st hg
    subst hP hw hK
    obtain ⟨⟨old, he⟩, hit, hne⟩ := st
    have hge : i = x.cps.size := hg
    subst hge
    obtain ⟨f0, f1, f2, f3, f4, f5⟩ := hf it (by simp)
    refine wpAny_pyNext_enum_endD (draws_str (A := X.A.in1) (I.ok.hd hc) it x t) he hit fun h' eb => ⟨rfl, I.turned (t' := s.toks) (fun b o hb q => eb b o hb q) f0 f1 f3 f4 f5⟩
  self := fun A i s Q E st h => let ⟨⟨_, he⟩, _⟩ := st; wpAny_pyIter_enum he h
def iEnumS (ta : TA) : TI := fun σ H R => ta σ H fun vs H1 => ∃ x, vs = [.str x] ∧ R (Ites x) H1
theorem pi_enumS {X : Cx} {e : Expr} {ta : TA} {p pos tpos : Pos} {elts : List Expr} {kk : Nat} (hg : Gl X "enumerate") (hm : X.mg "enumerate" = none) (ha : PA X [e] ta) (hs : starEach [e] X.env = [(false, eval e X.env)] := by rfl) :
    PI X (.Tuple elts kk tpos) (.Call (.Name "enumerate" p) [e] [] pos) (iEnumS ta) := by
  refine ⟨fun pins s σ H R I h => ?_⟩
  refine Call_ (ld_blt I hg hm boot_enumerate (PyProof.Rows.callWith_type1 (thn (ha.run pos pins s σ H _ I h) fun us s1 ⟨vs, H1, I1, r1, q1⟩ => ?_) hs rfl))
  obtain ⟨x, ex, q⟩ := q1
  subst ex
  cases r1 with
  | cons r rr =>
    cases rr
    obtain ⟨t, rfl⟩ := r
    refine call_enumerate_str fun h' he hit hsz hk => wpAny_pyIter_enum he ?_
    have I2 : Inv X pins σ H1 { s1 with heap := h' } := I1.kept (t' := s1.toks) hk
    refine ⟨s1.heap.objs.size + 1, [s1.heap.objs.size + 1, s1.heap.objs.size], _, _, H1, rfl, I2, turn_enumS x t (s1.heap.objs.size + 1) s1.heap.objs.size, ⟨⟨.none, he⟩, hit, Nat.succ_ne_self _⟩, fun b hb => ?_, q⟩
    have e' : b = s1.heap.objs.size + 1 ∨ b = s1.heap.objs.size := by simpa using hb
    have hle : s1.heap.objs.size ≤ b := by
      rcases e' with z | z
      · rw [z]; exact Nat.le_add_right _ _
      · rw [z]; exact Nat.le_refl _
    exact I1.fpOk hle (I1.hok.fresh hle)
theorem for_enumS {x : Str} {g : TG} {tb : TS} {D : Ends} {σ : L2.St} {H : Hp} (Pv : Nat → L2.St → Hp → Prop) (h0 : Pv 0 σ H)
    (hs : ∀ i c σ H T, x.cps[i]? = some c → Pv i σ H → H T = none → g (.ref T) σ (upd H T (.tup [.int (i : Nat), .str ⟨#[c]⟩])) fun σ2 H2 => tb { D with nx := Pv (i + 1), ct := Pv (i + 1), bk := D.nx } σ2 H2) (hd : ∀ σ H, Pv x.cps.size σ H → D.nx σ H) :
    ∃ W : Nat → Nat → L2.St → Hp → Prop, (∃ m, W 0 m σ H) ∧ ∀ i m σ H, W i m σ H →
      ((Ites x).stop i H ∧ D.nx σ H) ∨ ((Ites x).go i H ∧ ∃ N : L2.St → Hp → Prop, (∀ σ' H', N σ' H' → ∃ m', m' < m ∧ W (i + 1) m' σ' H') ∧ ∀ v H', (Ites x).yld i H v H' → g v σ H' fun σ2 H2 => tb { D with nx := N, ct := N, bk := D.nx } σ2 H2) := by
  refine ⟨fun i m σ H => m = x.cps.size - i ∧ i ≤ x.cps.size ∧ Pv i σ H, ⟨x.cps.size, rfl, Nat.zero_le _, h0⟩, ?_⟩
  rintro i m σ H ⟨rfl, hi, p⟩
  by_cases hlt : i < x.cps.size
  · refine .inr ⟨hlt, Pv (i + 1), fun σ' H' p' => ⟨x.cps.size - (i + 1), by omega, rfl, hlt, p'⟩, fun v H' hy => ?_⟩
    obtain ⟨T, c, rfl, hT, rfl, hc⟩ := hy
    exact hs i c σ H T hc p hT
  · have e : i = x.cps.size := by omega
    subst e
    exact .inl ⟨rfl, hd σ H p⟩
end JW
namespace JW
open PySem PySem.Spec PyProof.Rows L2 LamX
abbrev cF (K : PySem.W.Frag) : Addr := He.ga K "Fountain"
def tx (t : T) : Str := ⟨t.codes.toArray⟩
theorem tx_inj {t u : T} (h : tx t = tx u) : t = u := codes_inj (by
  have e : t.codes.toArray = u.codes.toArray := congrArg Str.cps h
  exact congrArg Array.toList e)
theorem tx_jet : tx .jet = "o" := by decide +kernel
def T.kids : T → List T
  | .jet => []
  | .bas l => l
def nums (t : T) : List V := [.int (t.size : Nat), .int (t.jts : Nat), .int (t.dep : Nat), if t.jts = 0 then .non else .int (t.lng : Nat), if t.jts = 0 then .non else .int (t.sht : Nat)]
def flds (t : T) (b n : Addr) : List (Str × V) := [("written", .str (tx t)), ("branches", .ref b), ("numbers", .ref n)]
theorem fl_w {t : T} {b n : Addr} : (flds t b n).lookup ("written" : Str) = some (.str (tx t)) := by kernel_rfl
theorem fl_b {t : T} {b n : Addr} : (flds t b n).lookup ("branches" : Str) = some (.ref b) := by kernel_rfl
theorem fl_n {t : T} {b n : Addr} : (flds t b n).lookup ("numbers" : Str) = some (.ref n) := by kernel_rfl
theorem fl_put {t : T} {b n : Addr} : putF "numbers" (.ref n) (putF "branches" (.ref b) (putF "written" (.str (tx t)) [])) = flds t b n := by kernel_rfl
theorem fl_l1 {v : V} : (putF ("written" : Str) v []).length < 1000 := by
  have e : putF ("written" : Str) v [] = [(("written" : Str), v)] := by kernel_rfl
  rw [e]
  show 1 < 1000
  decide
theorem fl_l2 {v w : V} : (putF ("branches" : Str) w (putF ("written" : Str) v [])).length < 1000 := by
  have e : putF ("branches" : Str) w (putF ("written" : Str) v []) = [(("written" : Str), v), (("branches" : Str), w)] := by kernel_rfl
  rw [e]
  show 2 < 1000
  decide
mutual
def Ftn (C : Addr) (H : Hp) : T → V → Prop
  | .jet, v => ∃ a dx b n, v = .ref a ∧ H a = some (.ins C dx (flds .jet b n)) ∧ H b = some (.tup []) ∧ H n = some (.tup (nums .jet))
  | .bas l, v => ∃ a dx b n vs, v = .ref a ∧ H a = some (.ins C dx (flds (.bas l) b n)) ∧ H b = some (.tup vs) ∧ H n = some (.tup (nums (.bas l))) ∧ FtnL C H l vs
def FtnL (C : Addr) (H : Hp) : List T → List V → Prop
  | [], vs => vs = []
  | t :: ts, vs => ∃ v r, vs = v :: r ∧ Ftn C H t v ∧ FtnL C H ts r
end
section
variable {C : Addr} {H H' : Hp}
theorem ftn_iff {t : T} {v : V} : Ftn C H t v ↔ ∃ a dx b n vs, v = .ref a ∧ H a = some (.ins C dx (flds t b n)) ∧ H b = some (.tup vs) ∧ H n = some (.tup (nums t)) ∧ FtnL C H t.kids vs := by
  cases t with
  | jet =>
    constructor
    · intro h
      have h2 : ∃ a dx b n, v = .ref a ∧ H a = some (.ins C dx (flds .jet b n)) ∧ H b = some (.tup []) ∧ H n = some (.tup (nums .jet)) := h
      obtain ⟨a, dx, b, n, e, h1, h2, h3⟩ := h2
      exact ⟨a, dx, b, n, [], e, h1, h2, h3, rfl⟩
    · intro ⟨a, dx, b, n, vs, e, h1, h2, h3, h4⟩
      have e4 : vs = [] := h4
      subst e4
      exact ⟨a, dx, b, n, e, h1, h2, h3⟩
  | bas l => exact ⟨fun h => h, fun h => h⟩
theorem Same.extN (s : L2.Same H H') : ExtN H H' := ExtN.of s
mutual
theorem ftn_ext (e : ExtN H H') : ∀ (t : T) (v : V), Ftn C H t v → Ftn C H' t v
  | .jet, v, h => by
    have h2 : ∃ a dx b n, v = .ref a ∧ H a = some (.ins C dx (flds .jet b n)) ∧ H b = some (.tup []) ∧ H n = some (.tup (nums .jet)) := h
    obtain ⟨a, dx, b, n, ev, h1, h2, h3⟩ := h2
    exact ⟨a, dx, b, n, ev, e _ _ h1 (fun ps z => by cases z), e _ _ h2 (fun ps z => by cases z), e _ _ h3 (fun ps z => by cases z)⟩
  | .bas l, v, h => by
    have h2 : ∃ a dx b n vs, v = .ref a ∧ H a = some (.ins C dx (flds (.bas l) b n)) ∧ H b = some (.tup vs) ∧ H n = some (.tup (nums (.bas l))) ∧ FtnL C H l vs := h
    obtain ⟨a, dx, b, n, vs, ev, h1, h2, h3, h4⟩ := h2
    exact ⟨a, dx, b, n, vs, ev, e _ _ h1 (fun ps z => by cases z), e _ _ h2 (fun ps z => by cases z), e _ _ h3 (fun ps z => by cases z), ftnL_ext e l vs h4⟩
theorem ftnL_ext (e : ExtN H H') : ∀ (l : List T) (vs : List V), FtnL C H l vs → FtnL C H' l vs
  | [], vs, h => h
  | t :: ts, vs, h => by
    have h2 : ∃ v r, vs = v :: r ∧ Ftn C H t v ∧ FtnL C H ts r := h
    obtain ⟨v, r, ev, h1, h2⟩ := h2
    exact ⟨v, r, ev, ftn_ext e t v h1, ftnL_ext e ts r h2⟩
end
theorem Ftn.ext {t : T} {v : V} (h : Ftn C H t v) (e : ExtN H H') : Ftn C H' t v := ftn_ext e t v h
theorem FtnL.ext {l : List T} {vs : List V} (h : FtnL C H l vs) (e : ExtN H H') : FtnL C H' l vs := ftnL_ext e l vs h
theorem Ftn.same {t : T} {v : V} (h : Ftn C H t v) (e : L2.Same H H') : Ftn C H' t v := h.ext (.of e)
theorem FtnL.same {l : List T} {vs : List V} (h : FtnL C H l vs) (e : L2.Same H H') : FtnL C H' l vs := h.ext (.of e)
theorem FtnL.len : ∀ {l : List T} {vs : List V}, FtnL C H l vs → vs.length = l.length
  | [], vs, h => by
    have e : vs = [] := h
    rw [e] <;> rfl
  | t :: ts, vs, h => by
    obtain ⟨v, r, rfl, _, h2⟩ := (show ∃ v r, vs = v :: r ∧ Ftn C H t v ∧ FtnL C H ts r from h)
    rw [List.length_cons, List.length_cons, h2.len]
theorem FtnL.get : ∀ {l : List T} {vs : List V} {i : Nat} {v : V}, FtnL C H l vs → vs[i]? = some v → ∃ t, l[i]? = some t ∧ Ftn C H t v
  | [], vs, i, v, h, e => by
    have e2 : vs = [] := h
    rw [e2] at e
    simp at e
  | t :: ts, vs, i, v, h, e => by
    obtain ⟨u, r, rfl, h1, h2⟩ := (show ∃ v r, vs = v :: r ∧ Ftn C H t v ∧ FtnL C H ts r from h)
    cases i with
    | zero =>
      have e3 : u = v := by simpa using e
      exact ⟨t, rfl, e3 ▸ h1⟩
    | succ i =>
      obtain ⟨t', e1, e2⟩ := h2.get (i := i) (v := v) (by simpa using e)
      exact ⟨t', by simpa using e1, e2⟩
theorem FtnL.app : ∀ {l m : List T} {vs ws : List V}, FtnL C H l vs → FtnL C H m ws → FtnL C H (l ++ m) (vs ++ ws)
  | [], m, vs, ws, h, h' => by
    have e : vs = [] := h
    rw [e]
    exact h'
  | t :: ts, m, vs, ws, h, h' => by
    obtain ⟨u, r, rfl, h1, h2⟩ := (show ∃ v r, vs = v :: r ∧ Ftn C H t v ∧ FtnL C H ts r from h)
    exact ⟨u, r ++ ws, rfl, h1, h2.app h'⟩
theorem FtnL.one {t : T} {v : V} (h : Ftn C H t v) : FtnL C H [t] [v] := ⟨v, [], rfl, h, rfl⟩
theorem FtnL.zip : ∀ {l : List T} {vs : List V}, FtnL C H l vs → ∀ p ∈ (l.map tx).zip vs, ∃ t, p.1 = tx t ∧ Ftn C H t p.2
  | [], vs, _, p, hp => by
    rw [List.map_nil, List.zip_nil_left] at hp
    cases hp
  | t :: ts, vs, h, p, hp => by
    obtain ⟨u, r, rfl, h1, h2⟩ := (show ∃ v r, vs = v :: r ∧ Ftn C H t v ∧ FtnL C H ts r from h)
    rw [List.map_cons, List.zip_cons_cons] at hp
    rcases List.mem_cons.mp hp with e | e
    · exact ⟨t, by rw [e], by rw [e]; exact h1⟩
    · exact FtnL.zip h2 p e
theorem ftnL_sort {l : List T} {vs ys : List V} (h : FtnL C H l vs) (k : KeydV (l.map tx) vs ys) : FtnL C H (sortT l) ys := by
  obtain ⟨ps, pm, pw, rfl⟩ := k
  have hall : ∀ p ∈ ps, ∃ t, p.1 = tx t ∧ Ftn C H t p.2 := fun p hp => h.zip p (pm.mem_iff.mp hp)
  have go : ∀ ps : List (Str × V), (∀ p ∈ ps, ∃ t, p.1 = tx t ∧ Ftn C H t p.2) → ∃ us : List T, us.map tx = ps.map (·.1) ∧ FtnL C H us (ps.map (·.2)) := by
    intro ps
    induction ps with
    | nil => exact fun _ => ⟨[], rfl, rfl⟩
    | cons p r ih =>
      intro hp
      obtain ⟨us, e1, e2⟩ := ih fun q hq => hp q (List.mem_cons_of_mem _ hq)
      obtain ⟨t, e3, e4⟩ := hp p List.mem_cons_self
      exact ⟨t :: us, by rw [List.map_cons, List.map_cons, e1, e3], p.2, r.map (·.2), rfl, e4, e2⟩
  obtain ⟨us, e1, e2⟩ := go ps hall
  have hs : Srt us := by
    have q1 : (ps.map (·.1)).Pairwise (fun p q : Str => ¬ q.cps.toList < p.cps.toList) := List.pairwise_map.mpr pw
    rw [← e1] at q1
    refine (List.pairwise_map.mp q1).imp fun {a b} z => ?_
    unfold tle
    simp only [Bool.not_eq_true', decide_eq_false_iff_not]
    exact z
  have hfst : ((l.map tx).zip vs).map (·.1) = l.map tx := by
    rw [List.map_fst_zip]
    rw [List.length_map, h.len]
    exact Nat.le_refl _
  have hp : (us.map tx).Perm (l.map tx) := by
    rw [e1, ← hfst]
    exact pm.map _
  have un : ∃ g : Str → T, ∀ t, g (tx t) = t := by
    classical
    refine ⟨fun z => if e : ∃ t, tx t = z then e.choose else .jet, fun t => ?_⟩
    have e : ∃ u, tx u = tx t := ⟨t, rfl⟩
    show (if e : ∃ u, tx u = tx t then e.choose else T.jet) = t
    rw [dif_pos e]
    exact tx_inj e.choose_spec
  obtain ⟨g, hg⟩ := un
  have hp2 := hp.map g
  rw [List.map_map, List.map_map] at hp2
  have eid : (g ∘ tx) = id := funext hg
  rw [eid, List.map_id, List.map_id] at hp2
  rw [← sortT_eq hp2 hs]
  exact e2
end
structure ClsF (K : PySem.W.Frag) (mg : Str → Option Value) : Prop where
  g : mg "Fountain" = some (.ref (cF K))
  c : Cls K (cF K)
  nw : NoAttr K (cF K) "written"
  nb : NoAttr K (cF K) "branches"
  nn : NoAttr K (cF K) "numbers"
  hcl : PySem.W.findIn K (.ref (cF K)) "__class__" = some (some (.builtin "object.__class__"))
  hgs : PySem.W.specialIn K (.builtin "object.__class__") "__get__" = some (some (.builtin "getset_descriptor.__get__"))
  htk : PySem.W.takesIn K (.builtin "object.__class__") = some true
  hmro : PySem.W.mroIn K (cF K) (.type "object") = some true
  hne : PySem.W.findIn K (.ref (cF K)) "__ne__" = some (some (.builtin "object.__ne__"))
  hob : PySem.W.subIn K (.ref (cF K)) (.type "object") = some true
  sf : PySem.W.selfFirst K (cF K) = true
theorem ClsF.ty {K : PySem.W.Frag} {mg : Str → Option Value} (c : ClsF K mg) {H : Hp} {a dx : Addr} {fs : List (Str × V)} (e : H a = some (.ins (cF K) dx fs)) : TyX K H (.ref a) (.ref (cF K)) := .base (.ins e c.c c.hcl c.hgs c.htk c.hmro)
theorem isi_self {K : PySem.W.Frag} : PySem.W.kitOne K (.ref (cF K)) (.ref (cF K)) = some true := by
  unfold PySem.W.kitOne
  exact if_pos (by simp)
structure MakeD (P : Program) (w : World) (K : PySem.W.Frag) (mg : Str → Option Value) (base : Heap) (CX : CXT) (k : Nat) (x : Str) (C : Addr) (ps : List Str) (dvs : List V) (sp : Sp) : Prop where
  ex : ∃ f fd ds, mg x = some (.ref C) ∧ Mk K C f ∧ Binds K fd ps ds ∧ Vals dvs ds ∧ FnOk P w K mg base CX k f fd ps sp
structure InitAt (K : PySem.W.Frag) (mg : Str → Option Value) (x : Str) (C : Addr) (qual : Str) (st : Stmt) (dvs : List V) (ps : List Str) : Prop where
  ex : ∃ f fd, mg x = some (.ref C) ∧ Mk K C f ∧ FunD K "__init__" qual (defArgs st) (defBody st) (defScope st) dvs [] f fd ∧ ∀ j, j ≤ dvs.length → ∃ ds, Vals (dvs.drop j) ds ∧ Binds K fd ps ds
section
variable {P : Program} {w : World} {K : PySem.W.Frag} {mg : Str → Option Value} {base : Heap} {CX : CXT} {C : Addr} {x : Str}
theorem MakeD.mono {j k : Nat} {ps : List Str} {dvs : List V} {sp : Sp} (c : MakeD P w K mg base CX j x C ps dvs sp) (h : j ≤ k) : MakeD P w K mg base CX k x C ps dvs sp := by
  obtain ⟨f, fd, ds, h1, h2, h3, h4, F⟩ := c.ex
  exact ⟨f, fd, ds, h1, h2, h3, h4, F.mono h⟩
theorem InitAt.ok {qual : Str} {st : Stmt} {N ps : List Str} {k : Nat} {sp : Sp} {dvs : List V} (D : InitAt K mg x C qual st dvs ps) (j : Nat) (hj : j ≤ dvs.length) (S : FnScope N ps (defScope st)) (len : ∀ vs H Q E, sp vs H Q E → vs.length = ps.length)
    (hbody : ∀ (f : Addr) (cdv : Value) (A : Around) (outer : List Env) (s : Shared) (H : Hp) (vs : List V) (Q : VK) (E : XK), Room k (A.deeper (envOfC qual (defScope st) s.heap.objs.size f cdv)) → sp vs H Q E →
      ∃ t, PSs (cxOf CX P w K mg base N qual (defScope st) f cdv A outer s H E).nox (defBody st) t ∧ t { nx := fun _ H' => Q .non H', rt := Q } (start N vs) H) : MakeD P w K mg base CX (k + 1) x C ps (dvs.drop j) sp := by
  obtain ⟨f, fd, h1, h2, F, b⟩ := D.ex
  obtain ⟨ds, r, hb⟩ := b j hj
  exact ⟨f, fd, ds, h1, h2, hb, r, okF F S len fun cdv A outer s H vs Q E hr h => hbody f cdv A outer s H vs Q E hr h⟩
end
section
variable {X : Cx} {CX : CXT} {k : Nat} {C : Addr} {ps : List Str} {sp : Sp} {dvs : List V} {E : XK} {x : Str} {p pos : Pos} {e : Expr} {es : List Expr} {t : TA}
theorem pe_makeD (M : MakeD X.prog X.w X.K X.mg X.base CX k x C ps dvs sp) (hr : Room (k + 1) X.A) (hg : Gl X x) (hx : Passes CX X E) (ha : PA X (e :: es) t) (hdb : (x == ("__debug__" : Str)) = false := by decide)
    (he : starEach (e :: es) X.env = (false, eval e X.env) :: starEach es X.env := by rfl) (hpl : (backTo pos (starEach es X.env)).any (·.1) = false := by rfl) : PE X (.Call (.Name x p) (e :: es) [] pos) (tMake C sp dvs E t) := by
  obtain ⟨f, fd, ds, h1, h2, h3, h4, F⟩ := M.ex
  exact pe_make h2 F hr hg h1 h3 h4 hx ha hdb he hpl
end
theorem okC {P : Program} {w : World} {K : PySem.W.Frag} {mg : Str → Option Value} {base : Heap} {CX : CXT} {x qual : Str} {params : Arguments} {body : List Stmt} {scope : Scope} {kws : List (Str × V)} {fd : FuncData} {N ps : List Str} {k : Nat} {sp : Sp} {dvs : List V} {p : Str × Option Str}
    (F : FunD K x qual params body scope dvs kws (He.fAd K p) fd) (S : FnScope N ps scope) (len : ∀ vs H Q E, sp vs H Q E → vs.length = ps.length)
    (hbody : ∀ (A : Around) (outer : List Env) (s : Shared) (H : Hp) (vs : List V) (Q : VK) (E : XK), Room k (A.deeper (envOfC qual scope s.heap.objs.size (He.fAd K p) (.ref (He.codeOf K p)))) → sp vs H Q E →
      ∃ t, PSs (cxOf CX P w K mg base N qual scope (He.fAd K p) (.ref (He.codeOf K p)) A outer s H E).nox body t ∧ t { nx := fun _ H' => Q .non H', rt := Q } (start N vs) H) : FnOk P w K mg base CX (k + 1) (He.fAd K p) fd ps sp := by
  obtain ⟨oc, od, dV, kV, doc, pm, an, cdv, ct, osl, rfl, lk, hcd, _, _⟩ := F.ex
  obtain ⟨c, rfl⟩ := He.codeIn_ref hcd
  have ec : He.codeOf K p = c := He.codeOf_eq lk rfl
  subst ec
  exact fn_of lk hcd S len fun A outer s H vs Q E hr h => by
    obtain ⟨t, h, q⟩ := hbody A outer s H vs Q E hr h
    exact ⟨t, h.nox, q⟩
structure DefAtP (K : PySem.W.Frag) (mg : Str → Option Value) (x qual : Str) (st : Stmt) (ps : List Str) : Prop where
  g : mg x = some (.ref (He.fAd K (x, none)))
  f : ∃ fd, FunD K x qual (defArgs st) (defBody st) (defScope st) [] [] (He.fAd K (x, none)) fd ∧ Binds K fd ps []
theorem DefAtP.at {K : PySem.W.Frag} {mg : Str → Option Value} {x qual : Str} {st : Stmt} {ps : List Str} (d : DefAtP K mg x qual st ps) : DefAt K mg x qual st [] ps := by
  obtain ⟨fd, F, b⟩ := d.f
  exact ⟨_, fd, d.g, F, b⟩
theorem DefAtP.okC {P : Program} {w : World} {K : PySem.W.Frag} {mg : Str → Option Value} {base : Heap} {CX : CXT} {x qual : Str} {st : Stmt} {N ps : List Str} {k : Nat} {sp : Sp} (D : DefAtP K mg x qual st ps) (S : FnScope N ps (defScope st)) (len : ∀ vs H Q E, sp vs H Q E → vs.length = ps.length)
    (hbody : ∀ (A : Around) (outer : List Env) (s : Shared) (H : Hp) (vs : List V) (Q : VK) (E : XK), Room k (A.deeper (envOfC qual (defScope st) s.heap.objs.size (He.fAd K (x, none)) (.ref (He.codeOf K (x, none))))) → sp vs H Q E →
      ∃ t, PSs (cxOf CX P w K mg base N qual (defScope st) (He.fAd K (x, none)) (.ref (He.codeOf K (x, none))) A outer s H E).nox (defBody st) t ∧ t { nx := fun _ H' => Q .non H', rt := Q } (start N vs) H) : CallD P w K mg base CX (k + 1) x ps [] sp := by
  obtain ⟨fd, F, b⟩ := D.f
  exact ⟨_, fd, [], D.g, F.kp, b, .nil, JW.okC F S len hbody⟩
def spV (K : PySem.W.Frag) (f : T → V) : Sp := fun vs H Q _ => ∃ v t, vs = [v] ∧ Ftn (cF K) H t v ∧ Q (f t) H
theorem ev_prop {K : PySem.W.Frag} {f : T → V} {H : Hp} {t : T} {v : V} {Q : VK} {E : XK} (h : Ftn (cF K) H t v) (q : Q (f t) H) : ∃ a dx fs, v = .ref a ∧ H a = some (.ins (cF K) dx fs) ∧ spV K f (.ref a :: []) H Q E := by
  obtain ⟨a, dx, b, n, vs, rfl, h1, _⟩ := ftn_iff.mp h
  exact ⟨a, dx, _, rfl, h1, _, t, rfl, h, q⟩
def spKids (K : PySem.W.Frag) : Sp := fun vs H Q _ => ∃ v t, vs = [v] ∧ Ftn (cF K) H t v ∧ ∀ b xs, H b = some (.tup xs) → FtnL (cF K) H t.kids xs → Q (.ref b) H
theorem ev_kids {K : PySem.W.Frag} {H : Hp} {t : T} {v : V} {Q : VK} {E : XK} (h : Ftn (cF K) H t v) (q : ∀ b xs, H b = some (.tup xs) → FtnL (cF K) H t.kids xs → Q (.ref b) H) : ∃ a dx fs, v = .ref a ∧ H a = some (.ins (cF K) dx fs) ∧ spKids K (.ref a :: []) H Q E := by
  obtain ⟨a, dx, b, n, vs, rfl, h1, _⟩ := ftn_iff.mp h
  exact ⟨a, dx, _, rfl, h1, _, t, rfl, h, q⟩
theorem lc_eachL {K : PySem.W.Frag} {a : Addr} {xs ys : List V} {j : Nat} {te : TE} {σ : L2.St} {H1 : Hp} {D : Addr} {Qd : Hp → Prop} (hD : H1 D = none) (hl : SqL K H1 a xs) (hz : xs.length < sizeLine) (hy : ys.length = xs.length)
    (hw : ∀ x : V, wipe ((wipe σ [j]).set j (some x)) [j] = wipe σ [j]) (hs : ∀ (i : Nat) (x y : V) (H : Hp) (Q : VK), xs[i]? = some x → ys[i]? = some y → L2.Same H1 H → H D ≠ none → (∀ H', L2.Same H H' → Q y H') → te ((wipe σ [j]).set j (some x)) H Q)
    (hd : ∀ H, L2.Same H1 H → H D = some (.lst ys) → Qd H) : ∃ W : Nat → Nat → Hp → Prop, (∃ m, W 0 m (upd H1 D (.lst []))) ∧ ∀ i m H, W i m H →
      ((Itl K a).stop i H ∧ Qd H) ∨ ((Itl K a).go i H ∧ ∃ Nx : Hp → Prop, (∀ H', Nx H' → ∃ m', m' < m ∧ W (i + 1) m' H') ∧ ∀ x H', (Itl K a).yld i H x H' → gName j x (wipe σ [j]) H' fun σ2 H2 => wipe σ2 [j] = wipe σ [j] ∧ tYes σ2 H2 fun b H3 =>
        if b = true then te σ2 H3 fun y H4 => ∃ acc, H4 D = some (.lst acc) ∧ acc.length < sizeLine ∧ Nx (upd H4 D (.lst (acc ++ [y]))) else Nx H3) := by
  have slq : ∀ H, L2.Same H1 H → SqL K H a xs := fun H s => by
    rcases hl with (h | ⟨o, h⟩) | h
    · exact .inl (.inl (s _ _ h))
    · exact .inl (.inr ⟨o, s _ _ h⟩)
    · exact .inr h
  refine lc_list (fun i H => L2.Same H1 H ∧ H D = some (.lst (ys.take i))) ⟨L2.Same.new (L2.Same.refl H1) hD, by rw [upd_same, List.take_zero]⟩ (fun i H _ p => slq H p.1) (fun i x H hx p => ?_) fun H p => hd H p.1 (by rw [p.2, ← hy, List.take_length])
  have hi : i < xs.length := (List.getElem?_eq_some_iff.mp hx).1
  have hyi : ys[i]? = some ys[i] := List.getElem?_eq_getElem (by omega)
  refine ⟨hw x, ?_⟩
  show te _ H _
  refine hs i x ys[i] H _ hx hyi p.1 (by rw [p.2]; exact fun z => by cases z) fun H' s' => ⟨_, s' _ _ p.2, ?_, ?_, ?_⟩
  · rw [List.length_take]; omega
  · exact L2.Same.mine (p.1.trans s') hD
  · rw [upd_same, List.take_succ, hyi]
    rfl
theorem lc_eachT {K : PySem.W.Frag} {a : Addr} {xs ys : List V} {j : Nat} {te : TE} {σ : L2.St} {H1 : Hp} {D : Addr} {Qd : Hp → Prop} (hD : H1 D = none) (hl : SqT K H1 a xs) (hz : xs.length < sizeLine) (hy : ys.length = xs.length)
    (hw : ∀ x : V, wipe ((wipe σ [j]).set j (some x)) [j] = wipe σ [j]) (hs : ∀ (i : Nat) (x y : V) (H : Hp) (Q : VK), xs[i]? = some x → ys[i]? = some y → L2.Same H1 H → H D ≠ none → (∀ H', L2.Same H H' → Q y H') → te ((wipe σ [j]).set j (some x)) H Q)
    (hd : ∀ H, L2.Same H1 H → H D = some (.lst ys) → Qd H) : ∃ W : Nat → Nat → Hp → Prop, (∃ m, W 0 m (upd H1 D (.lst []))) ∧ ∀ i m H, W i m H →
      ((Itt K a).stop i H ∧ Qd H) ∨ ((Itt K a).go i H ∧ ∃ Nx : Hp → Prop, (∀ H', Nx H' → ∃ m', m' < m ∧ W (i + 1) m' H') ∧ ∀ x H', (Itt K a).yld i H x H' → gName j x (wipe σ [j]) H' fun σ2 H2 => wipe σ2 [j] = wipe σ [j] ∧ tYes σ2 H2 fun b H3 =>
        if b = true then te σ2 H3 fun y H4 => ∃ acc, H4 D = some (.lst acc) ∧ acc.length < sizeLine ∧ Nx (upd H4 D (.lst (acc ++ [y]))) else Nx H3) := by
  have slq : ∀ H, L2.Same H1 H → SqT K H a xs := fun H s => by
    rcases hl with (h | ⟨o, h⟩) | h
    · exact .inl (.inl (s _ _ h))
    · exact .inl (.inr ⟨o, s _ _ h⟩)
    · exact .inr h
  refine lc_tup (fun i H => L2.Same H1 H ∧ H D = some (.lst (ys.take i))) ⟨L2.Same.new (L2.Same.refl H1) hD, by rw [upd_same, List.take_zero]⟩ (fun i H _ p => slq H p.1) (fun i x H hx p => ?_) fun H p => hd H p.1 (by rw [p.2, ← hy, List.take_length])
  have hi : i < xs.length := (List.getElem?_eq_some_iff.mp hx).1
  have hyi : ys[i]? = some ys[i] := List.getElem?_eq_getElem (by omega)
  refine ⟨hw x, ?_⟩
  show te _ H _
  refine hs i x ys[i] H _ hx hyi p.1 (by rw [p.2]; exact fun z => by cases z) fun H' s' => ⟨_, s' _ _ p.2, ?_, ?_, ?_⟩
  · rw [List.length_take]; omega
  · exact L2.Same.mine (p.1.trans s') hD
  · rw [upd_same, List.take_succ, hyi]
    rfl
theorem lc_someT {K : PySem.W.Frag} {a : Addr} {xs : List V} {bs : List Bool} {j : Nat} {tt : TT} {te : TE} {σ : L2.St} {H1 : Hp} {D : Addr} {Qd : Hp → Prop} (hD : H1 D = none) (hl : SqT K H1 a xs) (hz : xs.length < sizeLine) (hy : bs.length = xs.length)
    (hw : ∀ x : V, wipe ((wipe σ [j]).set j (some x)) [j] = wipe σ [j]) (ht : ∀ (i : Nat) (x : V) (b : Bool) (H : Hp) (Q : Bool → Hp → Prop), xs[i]? = some x → bs[i]? = some b → L2.Same H1 H → (∀ H', L2.Same H H' → Q b H') → tt ((wipe σ [j]).set j (some x)) H Q)
    (hs : ∀ (i : Nat) (x : V) (H : Hp) (Q : VK), xs[i]? = some x → L2.Same H1 H → (∀ H', L2.Same H H' → Q x H') → te ((wipe σ [j]).set j (some x)) H Q)
    (hd : ∀ H, L2.Same H1 H → H D = some (.lst (((xs.zip bs).filter (·.2)).map (·.1))) → Qd H) : ∃ W : Nat → Nat → Hp → Prop, (∃ m, W 0 m (upd H1 D (.lst []))) ∧ ∀ i m H, W i m H →
      ((Itt K a).stop i H ∧ Qd H) ∨ ((Itt K a).go i H ∧ ∃ Nx : Hp → Prop, (∀ H', Nx H' → ∃ m', m' < m ∧ W (i + 1) m' H') ∧ ∀ x H', (Itt K a).yld i H x H' → gName j x (wipe σ [j]) H' fun σ2 H2 => wipe σ2 [j] = wipe σ [j] ∧ tt σ2 H2 fun b H3 =>
        if b = true then te σ2 H3 fun y H4 => ∃ acc, H4 D = some (.lst acc) ∧ acc.length < sizeLine ∧ Nx (upd H4 D (.lst (acc ++ [y]))) else Nx H3) := by
  have slq : ∀ H, L2.Same H1 H → SqT K H a xs := fun H s => by
    rcases hl with (h | ⟨o, h⟩) | h
    · exact .inl (.inl (s _ _ h))
    · exact .inl (.inr ⟨o, s _ _ h⟩)
    · exact .inr h
  have hzl : (xs.zip bs).length = xs.length := by rw [List.length_zip, hy, Nat.min_self]
  refine lc_tup (fun i H => L2.Same H1 H ∧ H D = some (.lst ((((xs.zip bs).take i).filter (·.2)).map (·.1)))) ⟨L2.Same.new (L2.Same.refl H1) hD, by rw [upd_same, List.take_zero]; rfl⟩ (fun i H _ p => slq H p.1) (fun i x H hx p => ?_) fun H p => hd H p.1 (by rw [p.2, ← hzl, List.take_length])
  have hi : i < xs.length := (List.getElem?_eq_some_iff.mp hx).1
  have hyi : bs[i]? = some bs[i] := List.getElem?_eq_getElem (by omega)
  have hzi : (xs.zip bs)[i]? = some (x, bs[i]) := by
    rw [List.getElem?_zip_eq_some]
    exact ⟨hx, hyi⟩
  refine ⟨hw x, ht i x bs[i] H _ hx hyi p.1 fun H' s' => ?_⟩
  cases hb : bs[i] with
  | true =>
    rw [if_pos rfl]
    refine hs i x H' _ hx (p.1.trans s') fun H2 s2 => ⟨_, s2 _ _ (s' _ _ p.2), ?_, ?_, ?_⟩
    · rw [List.length_map]
      refine Nat.lt_of_le_of_lt (List.length_filter_le _ _) ?_
      rw [List.length_take]
      omega
    · exact L2.Same.mine (p.1.trans (s'.trans s2)) hD
    · rw [upd_same, List.take_succ, hzi, hb]
      rw [List.filter_append, List.map_append]
      rfl
  | false =>
    rw [if_neg (by simp)]
    refine ⟨p.1.trans s', ?_⟩
    rw [s' _ _ p.2, List.take_succ, hzi, hb, List.filter_append, List.map_append]
    show _ = some (HO.lst (_ ++ []))
    rw [List.append_nil]
theorem pe_gint {X : Cx} {x : Str} {i : Int} {pos : Pos} (hg : Gl X x) (h : ∃ t, X.mg x = some (.int i t)) (hd : (x == ("__debug__" : Str)) = false := by decide) : PE X (.Name x pos) (tC (.int i)) := by
  obtain ⟨t, e⟩ := h
  exact pe_glob hg e ⟨t, rfl⟩ hd
theorem pe_gstr {X : Cx} {x z : Str} {pos : Pos} (hg : Gl X x) (h : ∃ t, X.mg x = some (.str z t)) (hd : (x == ("__debug__" : Str)) = false := by decide) : PE X (.Name x pos) (tC (.str z)) := by
  obtain ⟨t, e⟩ := h
  exact pe_glob hg e ⟨t, rfl⟩ hd
theorem PropAt.ok {P : Program} {w : World} {K : PySem.W.Frag} {mg : Str → Option Value} {base : Heap} {CX : CXT} {C : Addr} {m qual : Str} {st : Stmt} {N : List Str} {k : Nat} {sp : Sp} (D : PropAt K C m qual st) (S : FnScope N ["self"] (defScope st)) (len : ∀ vs H Q E, sp vs H Q E → vs.length = (["self"] : List Str).length)
    (hbody : ∀ (f : Addr) (cdv : Value) (A : Around) (outer : List Env) (s : Shared) (H : Hp) (vs : List V) (Q : VK) (E : XK), Room k (A.deeper (envOfC qual (defScope st) s.heap.objs.size f cdv)) → sp vs H Q E →
      ∃ t, PSs (cxOf CX P w K mg base N qual (defScope st) f cdv A outer s H E).nox (defBody st) t ∧ t { nx := fun _ H' => Q .non H', rt := Q } (start N vs) H) : PropD P w K mg base CX (k + 1) C m sp := by
  obtain ⟨p, g, fd, h1, F, b⟩ := D.ex
  exact ⟨p, g, fd, h1, b, okF F S len fun cdv A outer s H vs Q E hr h => hbody g cdv A outer s H vs Q E hr h⟩
theorem PropD.mono {P : Program} {w : World} {K : PySem.W.Frag} {mg : Str → Option Value} {base : Heap} {CX : CXT} {C : Addr} {f : Str} {sp : Sp} {j k : Nat} (c : PropD P w K mg base CX j C f sp) (h : j ≤ k) : PropD P w K mg base CX k C f sp := by
  obtain ⟨p, g, fd, h1, h2, F⟩ := c.ex
  exact ⟨p, g, fd, h1, h2, F.mono h⟩
theorem map_get {α β : Type} {l : List α} {f : α → β} {i : Nat} {t : α} {y : β} (h1 : l[i]? = some t) (h2 : (l.map f)[i]? = some y) : y = f t := by
  rw [List.getElem?_map, h1] at h2
  exact (Option.some.inj h2).symm
theorem lc_propT {K : PySem.W.Frag} {a : Addr} {xs : List V} {l : List T} {f : T → V} {j : Nat} {E : XK} {σ : L2.St} {H1 : Hp} {D : Addr} {Qd : Hp → Prop} (hD : H1 D = none) (hl : SqT K H1 a xs) (hf : FtnL (cF K) H1 l xs) (hz : xs.length < sizeLine)
    (hw : ∀ x : V, wipe ((wipe σ [j]).set j (some x)) [j] = wipe σ [j]) (hv : ∀ x : V, ((wipe σ [j]).set j (some x))[j]? = some (some x)) (hd : ∀ H, L2.Same H1 H → H D = some (.lst (l.map f)) → Qd H) : ∃ W : Nat → Nat → Hp → Prop, (∃ m, W 0 m (upd H1 D (.lst []))) ∧ ∀ i m H, W i m H →
      ((Itt K a).stop i H ∧ Qd H) ∨ ((Itt K a).go i H ∧ ∃ Nx : Hp → Prop, (∀ H', Nx H' → ∃ m', m' < m ∧ W (i + 1) m' H') ∧ ∀ x H', (Itt K a).yld i H x H' → gName j x (wipe σ [j]) H' fun σ2 H2 => wipe σ2 [j] = wipe σ [j] ∧ tYes σ2 H2 fun b H3 =>
        if b = true then tProp (cF K) (spV K f) [] E (tVar j) σ2 H3 fun y H4 => ∃ acc, H4 D = some (.lst acc) ∧ acc.length < sizeLine ∧ Nx (upd H4 D (.lst (acc ++ [y]))) else Nx H3) :=
  lc_eachT (ys := l.map f) hD hl hz (by rw [List.length_map, hf.len]) hw (fun i x y H Q hx hy s _ q => by
    obtain ⟨t, e1, e2⟩ := hf.get hx
    rw [map_get e1 hy] at q
    exact ⟨x, hv x, ev_prop (e2.same s) (q H (L2.Same.refl H))⟩) hd
theorem lc_propL {K : PySem.W.Frag} {a : Addr} {xs : List V} {l : List T} {f : T → V} {j : Nat} {E : XK} {σ : L2.St} {H1 : Hp} {D : Addr} {Qd : Hp → Prop} (hD : H1 D = none) (hl : SqL K H1 a xs) (hf : FtnL (cF K) H1 l xs) (hz : xs.length < sizeLine)
    (hw : ∀ x : V, wipe ((wipe σ [j]).set j (some x)) [j] = wipe σ [j]) (hv : ∀ x : V, ((wipe σ [j]).set j (some x))[j]? = some (some x)) (hd : ∀ H, L2.Same H1 H → H D = some (.lst (l.map f)) → Qd H) : ∃ W : Nat → Nat → Hp → Prop, (∃ m, W 0 m (upd H1 D (.lst []))) ∧ ∀ i m H, W i m H →
      ((Itl K a).stop i H ∧ Qd H) ∨ ((Itl K a).go i H ∧ ∃ Nx : Hp → Prop, (∀ H', Nx H' → ∃ m', m' < m ∧ W (i + 1) m' H') ∧ ∀ x H', (Itl K a).yld i H x H' → gName j x (wipe σ [j]) H' fun σ2 H2 => wipe σ2 [j] = wipe σ [j] ∧ tYes σ2 H2 fun b H3 =>
        if b = true then tProp (cF K) (spV K f) [] E (tVar j) σ2 H3 fun y H4 => ∃ acc, H4 D = some (.lst acc) ∧ acc.length < sizeLine ∧ Nx (upd H4 D (.lst (acc ++ [y]))) else Nx H3) :=
  lc_eachL (ys := l.map f) hD hl hz (by rw [List.length_map, hf.len]) hw (fun i x y H Q hx hy s _ q => by
    obtain ⟨t, e1, e2⟩ := hf.get hx
    rw [map_get e1 hy] at q
    exact ⟨x, hv x, ev_prop (e2.same s) (q H (L2.Same.refl H))⟩) hd
theorem FtnL.filter {C : Addr} {H : Hp} {p : T → Bool} : ∀ {l : List T} {vs : List V}, FtnL C H l vs → FtnL C H (l.filter p) (((vs.zip (l.map p)).filter (·.2)).map (·.1))
  | [], vs, h => by
    have e : vs = [] := h
    subst e
    exact rfl
  | t :: ts, vs, h => by
    obtain ⟨v, r, rfl, h1, h2⟩ := (show ∃ v r, vs = v :: r ∧ Ftn C H t v ∧ FtnL C H ts r from h)
    rw [List.map_cons, List.zip_cons_cons, List.filter_cons, List.filter_cons]
    cases hp : p t with
    | true => exact ⟨v, _, rfl, h1, FtnL.filter h2⟩
    | false =>
      simp only [Bool.false_eq_true, if_false]
      exact FtnL.filter h2
theorem ite_f {b : Bool} {A B : Prop} (h : b = false) (x : B) : if b = true then A else B := by
  subst h
  exact x
theorem ite_t {b : Bool} {A B : Prop} (h : b = true) (x : A) : if b = true then A else B := by
  subst h
  exact x
theorem joinL_nil : ∀ ys : List (List Nat), TL.joinL [] ys = ys.flatten
  | [] => rfl
  | [x] => by
    show x = x ++ []
    rw [List.append_nil]
  | x :: y :: r => by
    show x ++ ([] ++ TL.joinL [] (y :: r)) = x ++ (y :: r).flatten
    rw [List.nil_append, joinL_nil (y :: r)]
theorem codesL_flat : ∀ l : List T, codesL l = (l.map T.codes).flatten
  | [] => rfl
  | t :: r => by
    show t.codes ++ codesL r = t.codes ++ (r.map T.codes).flatten
    rw [codesL_flat r]
theorem nil_S : ("" : Str) = SX.S [] := by decide +kernel
theorem op_S : ("(" : Str) = SX.S [40] := by decide +kernel
theorem cl_S : (")" : Str) = SX.S [41] := by decide +kernel
theorem o_S : ("o" : Str) = SX.S [111] := by decide +kernel
theorem join_tx (l : List T) : Txt.join "" (l.map tx) = SX.S (codesL l) := by
  have e : l.map tx = (l.map T.codes).map SX.S := by
    rw [List.map_map]
    rfl
  rw [e, nil_S, SX.join_S, joinL_nil, codesL_flat]
theorem tx_bas (l : List T) : (("(" : Str) ++ Txt.join "" (l.map tx)) ++ (")" : Str) = tx (.bas l) := by
  rw [join_tx, op_S, cl_S, SX.S_cat, SX.S_cat]
  rfl
theorem codesL_len (l : List T) : (codesL l).length ≤ 2 * sizeL l := by
  have h := (codes_len (.bas l)).1
  have h2 : (40 :: (codesL l ++ [41])).length + jtsL l = 2 * (1 + sizeL l) := h
  rw [List.length_cons, List.length_append, List.length_singleton] at h2
  omega
theorem lens_tx (l : List T) : ((l.map tx).map (·.length)).sum = (codesL l).length := by
  rw [codesL_flat, List.length_flatten, List.map_map, List.map_map]
  exact congrArg List.sum (List.map_congr_left fun t _ => SX.S_len t.codes)
def PendR (C : Addr) (H : Hp) : List (List T) → List V → Prop
  | [], vs => vs = []
  | p :: r, vs => ∃ a xs ws, vs = .ref a :: ws ∧ H a = some (.tup xs) ∧ FtnL C H p xs ∧ PendR C H r ws
theorem PendR.ext {C : Addr} {H H' : Hp} (e : ExtN H H') : ∀ {st : List (List T)} {vs : List V}, PendR C H st vs → PendR C H' st vs
  | [], _, h => h
  | p :: r, vs, h => by
    obtain ⟨a, xs, ws, rfl, h1, h2, h3⟩ := (show ∃ a xs ws, vs = .ref a :: ws ∧ H a = some (.tup xs) ∧ FtnL C H p xs ∧ PendR C H r ws from h)
    exact ⟨a, xs, ws, rfl, e _ _ h1 (fun ps z => by cases z), h2.ext e, PendR.ext e h3⟩
theorem PendR.len {C : Addr} {H : Hp} : ∀ {st : List (List T)} {vs : List V}, PendR C H st vs → vs.length = st.length
  | [], _, h => by
    rw [show _ = [] from h] <;> rfl
  | p :: r, vs, h => by
    obtain ⟨a, xs, ws, rfl, h1, h2, h3⟩ := (show ∃ a xs ws, vs = .ref a :: ws ∧ H a = some (.tup xs) ∧ FtnL C H p xs ∧ PendR C H r ws from h)
    rw [List.length_cons, List.length_cons, h3.len]
def ExtD (D : Addr) (H H' : Hp) : Prop := ∀ b o, b ≠ D → H b = some o → (∀ ps, o ≠ .tbl ps) → H' b = some o
theorem ExtD.of {D : Addr} {H H' : Hp} (e : ExtN H H') : ExtD D H H' := fun b o _ h n => e b o h n
theorem ExtD.trans {D : Addr} {H H1 H2 : Hp} (a : ExtD D H H1) (b : ExtD D H1 H2) : ExtD D H H2 := fun c o hc h n => b c o hc (a c o hc h n) n
theorem ExtD.put {D : Addr} {H H1 : Hp} {o : HO} (a : ExtD D H H1) : ExtD D H (upd H1 D o) := fun c u hc h n => by rw [upd_ne hc]; exact a c u hc h n
theorem ExtD.refl (D : Addr) (H : Hp) : ExtD D H H := fun _ _ _ h _ => h
section
variable {C D : Addr} {H H' : Hp} {xs : List V}
mutual
theorem ftn_extD (hd : H D = some (.lst xs)) (e : ExtD D H H') : ∀ (t : T) (v : V), Ftn C H t v → Ftn C H' t v
  | .jet, v, h => by
    have h2 : ∃ a dx b n, v = .ref a ∧ H a = some (.ins C dx (flds .jet b n)) ∧ H b = some (.tup []) ∧ H n = some (.tup (nums .jet)) := h
    obtain ⟨a, dx, b, n, ev, h1, h2, h3⟩ := h2
    exact ⟨a, dx, b, n, ev, e _ _ (ne_of h1 hd fun z => by cases z) h1 (fun ps z => by cases z), e _ _ (ne_of h2 hd fun z => by cases z) h2 (fun ps z => by cases z), e _ _ (ne_of h3 hd fun z => by cases z) h3 (fun ps z => by cases z)⟩
  | .bas l, v, h => by
    have h2 : ∃ a dx b n vs, v = .ref a ∧ H a = some (.ins C dx (flds (.bas l) b n)) ∧ H b = some (.tup vs) ∧ H n = some (.tup (nums (.bas l))) ∧ FtnL C H l vs := h
    obtain ⟨a, dx, b, n, vs, ev, h1, h2, h3, h4⟩ := h2
    exact ⟨a, dx, b, n, vs, ev, e _ _ (ne_of h1 hd fun z => by cases z) h1 (fun ps z => by cases z), e _ _ (ne_of h2 hd fun z => by cases z) h2 (fun ps z => by cases z), e _ _ (ne_of h3 hd fun z => by cases z) h3 (fun ps z => by cases z), ftnL_extD hd e l vs h4⟩
theorem ftnL_extD (hd : H D = some (.lst xs)) (e : ExtD D H H') : ∀ (l : List T) (vs : List V), FtnL C H l vs → FtnL C H' l vs
  | [], vs, h => h
  | t :: ts, vs, h => by
    have h2 : ∃ v r, vs = v :: r ∧ Ftn C H t v ∧ FtnL C H ts r := h
    obtain ⟨v, r, ev, h1, h2⟩ := h2
    exact ⟨v, r, ev, ftn_extD hd e t v h1, ftnL_extD hd e ts r h2⟩
end
theorem PendR.extD (hd : H D = some (.lst xs)) (e : ExtD D H H') : ∀ {st : List (List T)} {vs : List V}, PendR C H st vs → PendR C H' st vs
  | [], _, h => h
  | p :: r, vs, h => by
    obtain ⟨a, ys, ws, rfl, h1, h2, h3⟩ := (show ∃ a xs ws, vs = .ref a :: ws ∧ H a = some (.tup xs) ∧ FtnL C H p xs ∧ PendR C H r ws from h)
    exact ⟨a, ys, ws, rfl, e _ _ (ne_of h1 hd fun z => by cases z) h1 (fun ps z => by cases z), ftnL_extD hd e p ys h2, PendR.extD hd e h3⟩
end
theorem Tabs.put {TT : List (Addr × Str)} {H : Hp} {D : Addr} {xs ys : List V} (t : LamX.Tabs TT H) (hd : H D = some (.lst xs)) : LamX.Tabs TT (upd H D (.lst ys)) := fun p hp => by
  obtain ⟨ps, h1, h2, h3⟩ := t p hp
  refine ⟨ps, by rw [upd_ne (ne_of h1 hd fun z => by cases z)]; exact h1, h2, fun pos cv hc => ?_⟩
  obtain ⟨c, e1, e2⟩ := h3 pos cv hc
  exact ⟨c, e1, by rw [upd_ne (ne_of e2 hd fun z => by unfold LamX.CodeO at z; cases z)]; exact e2⟩
theorem Tabs.same {TT : List (Addr × Str)} {H H' : Hp} (t : LamX.Tabs TT H) (s : L2.Same H H') : LamX.Tabs TT H' := LamX.Tabs.ext t s
theorem sq_last {α : Type} (v : α) (r : List α) : ((v :: r).reverse)[(v :: r).reverse.length - 1]? = some v := by
  rw [List.reverse_cons]
  simp
theorem sq_butlast {α : Type} (v : α) (r : List α) : (v :: r).reverse.dropLast = r.reverse := by
  rw [List.reverse_cons, List.dropLast_concat]
theorem ix_last {n : Nat} (h : 0 < n) : ixN n (-1) = some (n - 1) := by
  unfold ixN
  rw [if_neg (by omega), if_pos (by omega)]
  exact congrArg some (by omega)
theorem at_last (v : V) (r : List V) : atI (v :: r).reverse (-1) = some v := by
  unfold atI
  rw [ix_last (by simp)]
  exact sq_last v r
theorem set_last (v w : V) (r : List V) : (v :: r).reverse.set ((v :: r).reverse.length - 1) w = (w :: r).reverse := by
  rw [List.reverse_cons, List.reverse_cons, List.length_append, List.length_singleton]
  simp
theorem tyL {K : PySem.W.Frag} {H : Hp} {D : Addr} {xs : List V} (h : H D = some (.lst xs)) : tyV K "list" (.ref D) H := .inl ⟨rfl, _, SqL.of h⟩
section
variable {C C' D dx' : Addr} {H H' : Hp} {fs : List (Str × V)}
mutual
theorem ftn_extX (hd : H D = some (.ins C' dx' fs)) (hf : fs.length ≠ 3) (e : ExtD D H H') : ∀ (t : T) (v : V), Ftn C H t v → Ftn C H' t v
  | .jet, v, h => by
    have h2 : ∃ a dx b n, v = .ref a ∧ H a = some (.ins C dx (flds .jet b n)) ∧ H b = some (.tup []) ∧ H n = some (.tup (nums .jet)) := h
    obtain ⟨a, dx, b, n, ev, h1, h2, h3⟩ := h2
    exact ⟨a, dx, b, n, ev, e _ _ (ne_of h1 hd fun z => by cases z; exact hf rfl) h1 (fun ps z => by cases z), e _ _ (ne_of h2 hd fun z => by cases z) h2 (fun ps z => by cases z), e _ _ (ne_of h3 hd fun z => by cases z) h3 (fun ps z => by cases z)⟩
  | .bas l, v, h => by
    have h2 : ∃ a dx b n vs, v = .ref a ∧ H a = some (.ins C dx (flds (.bas l) b n)) ∧ H b = some (.tup vs) ∧ H n = some (.tup (nums (.bas l))) ∧ FtnL C H l vs := h
    obtain ⟨a, dx, b, n, vs, ev, h1, h2, h3, h4⟩ := h2
    exact ⟨a, dx, b, n, vs, ev, e _ _ (ne_of h1 hd fun z => by cases z; exact hf rfl) h1 (fun ps z => by cases z), e _ _ (ne_of h2 hd fun z => by cases z) h2 (fun ps z => by cases z), e _ _ (ne_of h3 hd fun z => by cases z) h3 (fun ps z => by cases z), ftnL_extX hd hf e l vs h4⟩
theorem ftnL_extX (hd : H D = some (.ins C' dx' fs)) (hf : fs.length ≠ 3) (e : ExtD D H H') : ∀ (l : List T) (vs : List V), FtnL C H l vs → FtnL C H' l vs
  | [], vs, h => h
  | t :: ts, vs, h => by
    have h2 : ∃ v r, vs = v :: r ∧ Ftn C H t v ∧ FtnL C H ts r := h
    obtain ⟨v, r, ev, h1, h2⟩ := h2
    exact ⟨v, r, ev, ftn_extX hd hf e t v h1, ftnL_extX hd hf e ts r h2⟩
end
end
theorem Tabs.putI {TT : List (Addr × Str)} {H : Hp} {D C C' dx dx' : Addr} {fs gs : List (Str × V)} (t : LamX.Tabs TT H) (hd : H D = some (.ins C dx fs)) : LamX.Tabs TT (upd H D (.ins C' dx' gs)) := fun p hp => by
  obtain ⟨ps, h1, h2, h3⟩ := t p hp
  refine ⟨ps, by rw [upd_ne (ne_of h1 hd fun z => by cases z)]; exact h1, h2, fun pos cv hc => ?_⟩
  obtain ⟨c, e1, e2⟩ := h3 pos cv hc
  exact ⟨c, e1, by rw [upd_ne (ne_of e2 hd fun z => by unfold LamX.CodeO at z; cases z)]; exact e2⟩
theorem kids_size (t : T) : sizeL t.kids ≤ t.size := by
  cases t with
  | jet => exact Nat.zero_le _
  | bas l => show sizeL l ≤ 1 + sizeL l; omega
theorem Ftn.ne {C : Addr} {H : Hp} {t : T} {v : V} (h : Ftn C H t v) : v ≠ .non := by
  obtain ⟨a, _, _, _, _, rfl, _⟩ := ftn_iff.mp h
  exact fun z => by cases z
end JW
namespace JW
open PySem PySem.Spec PyProof.Rows L2 He
def gAd (K : PySem.W.Frag) (p : Str × Str) : Addr := match PySem.W.recIn K (ma K (ga K p.1) p.2) "property" with
  | some (.ref g :: _) => g
  | _ => 0
structure PrD where
  at_ : Str × Str
  name : Str
  qual : Str
  params : Arguments
  body : List Stmt
  scope : Scope
def fnWa (K : PySem.W.Frag) (a : Addr) : FnW := match K.lookup a with
  | some ⟨_, _, .func fd, _⟩ => some (fd.name, fd.qualname, fd.params, fd.body, fd.scope, fd.globals, fd.closure, fd.builtins)
  | _ => none
def PrD.val (d : PrD) : FnW := some (d.name, d.qual, d.params, .stmts d.body, d.scope, mainGlobals, [], builtinsNs)
def PrD.okP (K : PySem.W.Frag) (d : PrD) : Bool := eqO (PySem.W.findIn K (.ref (ga K d.at_.1)) d.at_.2) (some (some (.ref (ma K (ga K d.at_.1) d.at_.2)))) &&
  (eqO (PySem.W.specialIn K (.ref (ma K (ga K d.at_.1) d.at_.2)) "__get__") (some (some (.builtin "property.__get__"))) && (decide (PySem.W.takesIn K (.ref (ma K (ga K d.at_.1) d.at_.2)) = some true) &&
  (match PySem.W.recIn K (ma K (ga K d.at_.1) d.at_.2) "property" with
  | some (.ref _ :: _) => true
  | _ => false)))
def PrD.okF (K : PySem.W.Frag) (d : PrD) : Bool := PySem.W.keepIn K (.ref (gAd K d.at_)) && (match K.lookup (gAd K d.at_) with
  | some ⟨_, _, .func fd, _⟩ => PySem.W.codeIn K fd.code d.qual && (dflB K fd.defaults [] && kwdB K fd.kwdefaults [])
  | _ => false)
def PrD.ok (K : PySem.W.Frag) (d : PrD) : Bool := d.okP K && d.okF K
theorem PrD.propOf {K : PySem.W.Frag} {d : PrD} (h : d.okP K = true) : PropOf K (ga K d.at_.1) d.at_.2 (ma K (ga K d.at_.1) d.at_.2) (gAd K d.at_) := by
  obtain ⟨h1, h2⟩ := ba h
  obtain ⟨h3, h4⟩ := ba h2
  obtain ⟨h5, h6⟩ := ba h4
  refine ⟨eqO_ok h1, eqO_ok h3, of_decide_eq_true h5, ?_⟩
  unfold gAd
  generalize PySem.W.recIn K (ma K (ga K d.at_.1) d.at_.2) "property" = r at h6 ⊢
  cases r with
  | none => cases h6
  | some l =>
    cases l with
    | nil => cases h6
    | cons v rest =>
      cases v with
      | ref g => exact ⟨rest, rfl⟩
      | _ => cases h6
theorem PrD.funD {K : PySem.W.Frag} {d : PrD} (e : fnWa K (gAd K d.at_) = d.val) (c : d.okF K = true) : ∃ fd, FunD K d.name d.qual d.params d.body d.scope [] [] (gAd K d.at_) fd := by
  obtain ⟨kp, c2⟩ := ba c
  unfold fnWa at e
  cases q : K.lookup (gAd K d.at_) with
  | none =>
    rw [q] at c2
    cases c2
  | some o =>
    obtain ⟨oc, od, dt, osl⟩ := o
    rw [q] at c2 e
    cases dt with
    | func fd =>
      obtain ⟨n1, n2, n3, n4, n5, n6, n7, n8, n9, n10, n11, n12, n13, n14, n15⟩ := fd
      have e2 : (some (n1, n2, n3, n4, n5, n6, n7, n15) : FnW) = some (d.name, d.qual, d.params, .stmts d.body, d.scope, mainGlobals, [], builtinsNs) := e
      simp only [Option.some.injEq, Prod.mk.injEq] at e2
      obtain ⟨h1, h2, h3, h4, h5, h6, h7, h8⟩ := e2
      subst h1 h2 h3 h4 h5 h6 h7 h8
      have c3 : (PySem.W.codeIn K n13 d.qual && (dflB K n8 [] && kwdB K n9 [])) = true := c2
      obtain ⟨k1, k2⟩ := ba c3
      obtain ⟨k3, k4⟩ := ba k2
      exact ⟨_, ⟨oc, od, n8, n9, n10, n11, n12, n13, n14, osl, rfl, q, k1, dflB_ok k3, kwdB_ok k4⟩, kp⟩
    | _ => cases c2
def clsX (K : PySem.W.Frag) (x : Str) : Bool := eqO (PySem.W.findIn K (.ref (ga K x)) "__class__") (some (some (.builtin "object.__class__"))) &&
  (eqO (PySem.W.specialIn K (.builtin "object.__class__") "__get__") (some (some (.builtin "getset_descriptor.__get__"))) && (decide (PySem.W.takesIn K (.builtin "object.__class__") = some true) &&
  (decide (PySem.W.mroIn K (ga K x) (.type "object") = some true) && (eqO (PySem.W.findIn K (.ref (ga K x)) "__ne__") (some (some (.builtin "object.__ne__"))) && PySem.W.selfFirst K (ga K x)))))
theorem clsF_of {K : PySem.W.Frag} {mg : Str → Option Value} (g : mg "Fountain" = some (.ref (cF K))) (c : Cls K (cF K)) (nw : NoAttr K (cF K) "written") (nb : NoAttr K (cF K) "branches") (nn : NoAttr K (cF K) "numbers") (h : clsX K "Fountain" = true) : ClsF K mg := by
  obtain ⟨h1, h2⟩ := ba h
  obtain ⟨h3, h4⟩ := ba h2
  obtain ⟨h5, h6⟩ := ba h4
  obtain ⟨h7, h8⟩ := ba h6
  obtain ⟨h9, h10⟩ := ba h8
  exact ⟨g, c, nw, nb, nn, eqO_ok h1, eqO_ok h3, of_decide_eq_true h5, of_decide_eq_true h7, eqO_ok h9, of_decide_eq_true h7, h10⟩
structure SaysJ (fa : List Fa) (fn : List DefD) (tf : List Defn) (ex : PySem.W.Frag → Bool) (pr : List PrD) (w : World) (h : Heap) (K : PySem.W.Frag) : Prop where
  x : SaysX fa fn [] tf ex w h K
  p : pr.map (fun d => fnWa K (gAd K d.at_)) = pr.map PrD.val
  ok : (pr.all fun d => d.ok K) = true
section
variable {fa : List Fa} {fn : List DefD} {tf : List Defn} {ex : PySem.W.Frag → Bool} {pr : List PrD} {w : World} {h : Heap} {K : PySem.W.Frag}
theorem SaysJ.d (c : SaysJ fa fn tf ex pr w h K) : SaysD fa fn K := congrArg (fun z : AlT => z.1) c.x.t
end
end JW
namespace JW
open PySem PySem.Spec PyProof.Rows L2
def feedD (a b c : Int) : List (Key × V) := [(.inr "digits", .int a), (.inr "seed", .int b), (.inr "turn", .int c)]
theorem feed_digits {a b c : Int} : valV (feedD a b c) (.inr "digits") = some (.int a) := by kernel_rfl
theorem feed_seed {a b c : Int} : valV (feedD a b c) (.inr "seed") = some (.int b) := by kernel_rfl
theorem feed_turn {a b c : Int} : valV (feedD a b c) (.inr "turn") = some (.int c) := by kernel_rfl
theorem feed_put_digits {a b c x : Int} : putK (feedD a b c) (.inr "digits") (.int x) = feedD x b c := by kernel_rfl
theorem feed_put_seed {a b c x : Int} : putK (feedD a b c) (.inr "seed") (.int x) = feedD a x c := by kernel_rfl
theorem feed_put_turn {a b c x : Int} : putK (feedD a b c) (.inr "turn") (.int x) = feedD a b x := by kernel_rfl
theorem feed_made {a b c : Int} : mergeK [] (feedD a b c) = feedD a b c := by kernel_rfl
theorem feed_len {a b c : Int} : (feedD a b c).length < sizeLine := by show 3 < sizeLine; decide
def FeedAt (H : Hp) (d : Addr) : Prop := ∃ a b c : Int, H d = some (.dK (feedD a b c))
theorem FeedAt.same {H H' : Hp} {d : Addr} (h : FeedAt H d) (s : L2.Same H H') : FeedAt H' d := by
  obtain ⟨a, b, c, e⟩ := h
  exact ⟨a, b, c, s _ _ e⟩
theorem FeedAt.off {H : Hp} {d p : Addr} {o : HO} (h : FeedAt H d) (n : d ≠ p) : FeedAt (upd H p o) d := by
  obtain ⟨a, b, c, e⟩ := h
  exact ⟨a, b, c, by rw [upd_ne n]; exact e⟩
theorem FeedAt.ne {H : Hp} {d p : Addr} (h : FeedAt H d) (hp : H p = none) : p ≠ d := by
  obtain ⟨a, b, c, e⟩ := h
  exact (ne_of_none e hp).symm
def SamD (d : Addr) (H H' : Hp) : Prop := ∀ b o, b ≠ d → H b = some o → H' b = some o
theorem SamD.refl (d : Addr) (H : Hp) : SamD d H H := fun _ _ _ h => h
theorem SamD.trans {d : Addr} {H H1 H2 : Hp} (a : SamD d H H1) (b : SamD d H1 H2) : SamD d H H2 := fun c o h1 h => b c o h1 (a c o h1 h)
theorem SamD.put {d : Addr} {H H1 : Hp} {o : HO} (a : SamD d H H1) : SamD d H (upd H1 d o) := fun c u h1 h => by rw [upd_ne h1]; exact a c u h1 h
theorem SamD.new {d p : Addr} {H H1 : Hp} {o : HO} (a : SamD d H H1) (hp : H1 p = none) : SamD d H (upd H1 p o) := fun c u h1 h => by rw [upd_ne (ne_of_none (a c u h1 h) hp)]; exact a c u h1 h
theorem SamD.mine {d p : Addr} {H H1 : Hp} {o : HO} (a : SamD d H H1) (hp : H p = none) : SamD d H (upd H1 p o) := fun c u h1 h => by rw [upd_ne (ne_of_none h hp)]; exact a c u h1 h
theorem SamD.of {d : Addr} {H H1 : Hp} (a : L2.Same H H1) : SamD d H H1 := fun c o _ h => a c o h
theorem SamD.same {d : Addr} {H H1 H2 : Hp} (a : SamD d H H1) (b : L2.Same H1 H2) : SamD d H H2 := fun c o h1 h => b c o (a c o h1 h)
theorem Tabs.samD {TT : List (Addr × Str)} {H H' : Hp} {d : Addr} (t : LamX.Tabs TT H) (f : FeedAt H d) (s : SamD d H H') : LamX.Tabs TT H' := fun p hp => by
  obtain ⟨a, b, c0, e⟩ := f
  obtain ⟨ps, h1, h2, h3⟩ := t p hp
  refine ⟨ps, s _ _ (ne_of h1 e fun z => by cases z) h1, h2, fun pos cv hc => ?_⟩
  obtain ⟨c, e1, e2⟩ := h3 pos cv hc
  exact ⟨c, e1, s _ _ (ne_of e2 e fun z => by unfold LamX.CodeO at z; cases z) e2⟩
section
variable {C d : Addr} {H H' : Hp}
end
end JW
namespace PySem
open Sem (wp)
open Builtin Builtin.Str
open AutoSeq1 (wpAny_loadPart')
section
variable {prog : Program} {w : World} {A : Around} {E : Value → Shared → Prop} {s : Shared}
end
section
variable {prog : Program} {w : World} {A : Around} {E : Value → Shared → Prop} {s : Shared}
end
end PySem
namespace JW
open PySem PySem.Spec PyProof.Rows L2
end JW
namespace JW
open PySem PySem.Spec PyProof.Rows L2 LamX
theorem DefAt.none {P : Program} {w : World} {K : PySem.W.Frag} {mg : Str → Option Value} {base : Heap} {CX : CXT} {x qual : Str} {st : Stmt} {ps : List Str} {k : Nat} {sp : Sp} (D : DefAt K mg x qual st [] ps) (h : ∀ vs H Q E, ¬ sp vs H Q E) : CallD P w K mg base CX k x ps [] sp := by
  obtain ⟨f, fd, h1, F, b⟩ := D.ex
  exact ⟨f, fd, [], h1, F.kp, b, .nil, ⟨fun vs H Q E z => absurd z (h _ _ _ _), fun A outer s H args us vs Q E hr e0 hb r z => absurd z (h _ _ _ _)⟩⟩
theorem callD_rec {P : Program} {w : World} {K : PySem.W.Frag} {mg : Str → Option Value} {base : Heap} {CX : CXT} {x qual : Str} {st : Stmt} {ps : List Str} {L : Nat} {sp : Nat → Sp} (D : DefAt K mg x qual st [] ps) (h0 : ∀ vs H Q E, ¬ sp 0 vs H Q E)
    (step : ∀ n, CallD P w K mg base CX (L + n) x ps [] (sp n) → CallD P w K mg base CX (L + n + 1) x ps [] (sp (n + 1))) : ∀ n, CallD P w K mg base CX (L + n) x ps [] (sp n)
  | 0 => D.none h0
  | n + 1 => step n (callD_rec D h0 step n)
structure DefAtK (K : PySem.W.Frag) (mg : Str → Option Value) (x qual : Str) (st : Stmt) (kws : List (Str × V)) (ps : List Str) : Prop where
  ex : ∃ f fd, mg x = some (.ref f) ∧ FunD K x qual (defArgs st) (defBody st) (defScope st) [] kws f fd ∧ ∃ ds, Vals (kws.map (·.2)) ds ∧ Binds K fd ps ds
theorem DefAtK.ok {P : Program} {w : World} {K : PySem.W.Frag} {mg : Str → Option Value} {base : Heap} {CX : CXT} {x qual : Str} {st : Stmt} {N ps : List Str} {kws : List (Str × V)} {k : Nat} {sp : Sp} (D : DefAtK K mg x qual st kws ps) (S : FnScope N ps (defScope st)) (len : ∀ vs H Q E, sp vs H Q E → vs.length = ps.length)
    (hbody : ∀ (f : Addr) (cdv : Value) (A : Around) (outer : List Env) (s : Shared) (H : Hp) (vs : List V) (Q : VK) (E : XK), Room k (A.deeper (envOfC qual (defScope st) s.heap.objs.size f cdv)) → sp vs H Q E →
      ∃ t, PSs (cxOf CX P w K mg base N qual (defScope st) f cdv A outer s H E).nox (defBody st) t ∧ t { nx := fun _ H' => Q .non H', rt := Q } (start N vs) H) : CallD P w K mg base CX (k + 1) x ps (kws.map (·.2)) sp := by
  obtain ⟨f, fd, h1, F, ds, r, b⟩ := D.ex
  exact ⟨f, fd, ds, h1, F.kp, b, r, JW.okF F S len fun cdv A outer s H vs Q E hr h => hbody f cdv A outer s H vs Q E hr h⟩
end JW
namespace JW
open PySem PySem.Spec PyProof.Rows L2
mutual
def PT (H : Hp) : T → V → Prop
  | .jet, v => v = .str (tx .jet)
  | .bas l, v => ∃ a vs, v = .ref a ∧ H a = some (.tup vs) ∧ PTL H l vs
def PTL (H : Hp) : List T → List V → Prop
  | [], vs => vs = []
  | t :: ts, vs => ∃ v r, vs = v :: r ∧ PT H t v ∧ PTL H ts r
end
section
variable {H H' : Hp}
def TupS (H H' : Hp) : Prop := ∀ a xs, H a = some (.tup xs) → H' a = some (.tup xs)
theorem TupS.of (s : L2.Same H H') : TupS H H' := fun a _ e => s a _ e
theorem TupS.ext (e : LamX.ExtN H H') : TupS H H' := fun a _ h => e a _ h fun ps z => by cases z
theorem TupS.refl (H : Hp) : TupS H H := fun _ _ h => h
theorem TupS.trans {H1 : Hp} (a : TupS H H1) (b : TupS H1 H') : TupS H H' := fun c xs h => b c xs (a c xs h)
mutual
theorem pt_tup (s : TupS H H') : ∀ (t : T) (v : V), PT H t v → PT H' t v
  | .jet, v, h => h
  | .bas l, v, h => by
    obtain ⟨a, vs, ev, e, h2⟩ := (show ∃ a vs, v = .ref a ∧ H a = some (.tup vs) ∧ PTL H l vs from h)
    exact ⟨a, vs, ev, s _ _ e, ptl_tup s l vs h2⟩
theorem ptl_tup (s : TupS H H') : ∀ (l : List T) (vs : List V), PTL H l vs → PTL H' l vs
  | [], vs, h => h
  | t :: ts, vs, h => by
    obtain ⟨v, r, ev, h1, h2⟩ := (show ∃ v r, vs = v :: r ∧ PT H t v ∧ PTL H ts r from h)
    exact ⟨v, r, ev, pt_tup s t v h1, ptl_tup s ts r h2⟩
end
theorem PT.keep {t : T} {v : V} (h : PT H t v) (s : TupS H H') : PT H' t v := pt_tup s t v h
theorem PTL.keep {l : List T} {vs : List V} (h : PTL H l vs) (s : TupS H H') : PTL H' l vs := ptl_tup s l vs h
theorem PTL.len : ∀ {l : List T} {vs : List V}, PTL H l vs → vs.length = l.length
  | [], vs, h => by
    have e : vs = [] := h
    rw [e] <;> rfl
  | t :: ts, vs, h => by
    obtain ⟨v, r, rfl, _, h2⟩ := (show ∃ v r, vs = v :: r ∧ PT H t v ∧ PTL H ts r from h)
    rw [List.length_cons, List.length_cons, PTL.len h2]
theorem PTL.get : ∀ {l : List T} {vs : List V} {i : Nat} {v : V}, PTL H l vs → vs[i]? = some v → ∃ t, l[i]? = some t ∧ PT H t v
  | [], vs, i, v, h, e => by
    have e2 : vs = [] := h
    rw [e2] at e
    simp at e
  | t :: ts, vs, i, v, h, e => by
    obtain ⟨u, r, rfl, h1, h2⟩ := (show ∃ v r, vs = v :: r ∧ PT H t v ∧ PTL H ts r from h)
    cases i with
    | zero =>
      have e3 : u = v := by simpa using e
      exact ⟨t, rfl, e3 ▸ h1⟩
    | succ i =>
      obtain ⟨t', e1, e2⟩ := PTL.get h2 (i := i) (v := v) (by simpa using e)
      exact ⟨t', by simpa using e1, e2⟩
theorem PTL.app : ∀ {l m : List T} {vs ws : List V}, PTL H l vs → PTL H m ws → PTL H (l ++ m) (vs ++ ws)
  | [], m, vs, ws, h, h' => by
    have e : vs = [] := h
    rw [e]
    exact h'
  | t :: ts, m, vs, ws, h, h' => by
    obtain ⟨u, r, rfl, h1, h2⟩ := (show ∃ v r, vs = v :: r ∧ PT H t v ∧ PTL H ts r from h)
    exact ⟨u, r ++ ws, rfl, h1, PTL.app h2 h'⟩
theorem PTL.one {t : T} {v : V} (h : PT H t v) : PTL H [t] [v] := ⟨v, [], rfl, h, rfl⟩
end
section
variable {K : PySem.W.Frag} {H : Hp}
end
theorem PTL.zip {H : Hp} : ∀ {l : List T} {vs : List V}, PTL H l vs → ∀ p ∈ (l.map tx).zip vs, ∃ t, p.1 = tx t ∧ PT H t p.2
  | [], vs, _, p, hp => by
    rw [List.map_nil, List.zip_nil_left] at hp
    cases hp
  | t :: ts, vs, h, p, hp => by
    obtain ⟨u, r, rfl, h1, h2⟩ := (show ∃ v r, vs = v :: r ∧ PT H t v ∧ PTL H ts r from h)
    rw [List.map_cons, List.zip_cons_cons] at hp
    rcases List.mem_cons.mp hp with e | e
    · exact ⟨t, by rw [e], by rw [e]; exact h1⟩
    · exact PTL.zip h2 p e
theorem PTL.push {H : Hp} {l : List T} {vs : List V} {t : T} {v : V} {P : Addr} (h : PTL H l vs) (hv : PT H t v) (hP : H P = some (.lst vs)) : PTL (upd H P (.lst (vs ++ [v]))) (l ++ [t]) (vs ++ [v]) := by
  have kp : TupS H (upd H P (.lst (vs ++ [v]))) := fun c zs ec => by rw [upd_ne (ne_of ec hP fun z => by cases z)]; exact ec
  exact PTL.keep (PTL.app h (PTL.one hv)) kp
theorem sIx_none (n : Nat) : HT.sIx n n none = n := rfl
end JW
namespace JW
open PySem PySem.Spec PyProof.Rows L2 LamX
def ExtS (d g : Addr) (H H' : Hp) : Prop := ∀ b o, b ≠ d → b ≠ g → H b = some o → (∀ ps, o ≠ .tbl ps) → H' b = some o
section
variable {d g : Addr} {H H1 H' : Hp}
theorem ExtS.refl (d g : Addr) (H : Hp) : ExtS d g H H := fun _ _ _ _ h _ => h
theorem ExtS.trans (a : ExtS d g H H1) (b : ExtS d g H1 H') : ExtS d g H H' := fun c o h1 h2 h n => b c o h1 h2 (a c o h1 h2 h n) n
theorem ExtS.ofN (s : ExtN H H') : ExtS d g H H' := fun b o _ _ h n => s b o h n
theorem SackAt.extN (h : SackAt H d g) (e : ExtN H H') : SackAt H' d g := by
  obtain ⟨ns, a, b, c, n, e1, e2⟩ := h
  exact ⟨ns, a, b, c, n, e _ _ e1 (fun ps z => by cases z), e _ _ e2 (fun ps z => by cases z)⟩
variable {C : Addr}
end
theorem ExtS.mine {d g : Addr} {H0 H H' : Hp} (a : L2.Same H0 H) (hd : H0 d = none) (hg : H0 g = none) (b : ExtS d g H H') : LamX.ExtN H0 H' := fun c o h n => b c o (ne_of_none h hd) (ne_of_none h hg) (a c o h) n
end JW
namespace JW
open PySem PySem.Spec PyProof.Rows L2
section
variable {P : Program} {w : World} {K : PySem.W.Frag} {mg : Str → Option Value} {base : Heap} {C : Addr}
end
section
variable {X : Cx} {CX : CXT} {k : Nat} {f C : Addr} {fd : FuncData} {ps : List Str} {sp : Sp} {dvs : List V} {ds : List Value} {E : L2.St → XK} {x m : Str} {p pos apos : Pos} {e o a b : Expr} {es : List Expr} {ta tb : TE} {t : TA}
end
section
variable {X : Cx} {o e : Expr} {es : List Expr} {ta : TA} {x : Str} {p p' p1 p2 pos : Pos} {D : Addr} {mc : Value}
structure InitBy (K : PySem.W.Frag) (D : Addr) : Prop where
  ex : ∃ mc, ClX.CRead K D mc ∧ PySem.W.findCls K (.ref D) mc "__init__" = some (.val (.builtin "ValueError.__init__"))
end
structure ErrC (K : PySem.W.Frag) (C : Addr) : Prop where
  o : OexC K C
  xf : XfC K C
  ex : ExcC K C
structure ErrAt (K : PySem.W.Frag) (mg : Str → Option Value) (x : Str) (C : Addr) (qual : Str) (st : Stmt) (ps : List Str) : Prop where
  g : mg x = some (.ref C)
  c : ErrC K C
  ex : ∃ f fd, PySem.W.findIn K (.ref C) "__init__" = some (some (.ref f)) ∧ PySem.W.typeIn K (.ref f) = some (.type "function") ∧ FunD K "__init__" qual (defArgs st) (defBody st) (defScope st) [] [] f fd ∧ Binds K fd ps []
structure ErrD (P : Program) (w : World) (K : PySem.W.Frag) (mg : Str → Option Value) (base : Heap) (k : Nat) (x : Str) (C : Addr) (ps : List Str) (sp : Sp) : Prop where
  g : mg x = some (.ref C)
  c : ErrC K C
  ex : ∃ f fd, PySem.W.findIn K (.ref C) "__init__" = some (some (.ref f)) ∧ PySem.W.typeIn K (.ref f) = some (.type "function") ∧ Binds K fd ps [] ∧ FnOk P w K mg base CX0 k f fd ps sp
section
variable {P : Program} {w : World} {K : PySem.W.Frag} {mg : Str → Option Value} {base : Heap} {C : Addr} {x : Str}
theorem ErrAt.ok {qual : Str} {st : Stmt} {N ps : List Str} {k : Nat} {sp : Sp} (D : ErrAt K mg x C qual st ps) (S : FnScope N ps (defScope st)) (len : ∀ vs H Q E, sp vs H Q E → vs.length = ps.length)
    (hbody : ∀ (f : Addr) (cdv : Value) (A : Around) (outer : List Env) (s : Shared) (H : Hp) (vs : List V) (Q : VK) (E : XK), Room k (A.deeper (envOfC qual (defScope st) s.heap.objs.size f cdv)) → sp vs H Q E →
      ∃ t, PSs (cxOf CX0 P w K mg base N qual (defScope st) f cdv A outer s H E).nox (defBody st) t ∧ t { nx := fun _ H' => Q .non H', rt := Q } (start N vs) H) : ErrD P w K mg base (k + 1) x C ps sp := by
  obtain ⟨f, fd, h1, h2, F, b⟩ := D.ex
  exact ⟨D.g, D.c, f, fd, h1, h2, b, okF F S len fun cdv A outer s H vs Q E hr h => hbody f cdv A outer s H vs Q E hr h⟩
end
section
variable {X : Cx} {e : Expr} {te : TE} {p pos : Pos} {x f : Str} {C : Addr} {k : Nat} {ps : List Str}
end
end JW
namespace JW
open PySem PySem.Spec PyProof.Rows L2
structure CmAt (K : PySem.W.Frag) (C : Addr) (m qual : Str) (st : Stmt) (ps : List Str) : Prop where
  ex : ∃ mc p f fd, ClX.CRead K C mc ∧ ClX.CMet K C mc m p f ∧ FunD K m qual (defArgs st) (defBody st) (defScope st) [] [] f fd ∧ Binds K fd ps []
structure CmD (P : Program) (w : World) (K : PySem.W.Frag) (mg : Str → Option Value) (base : Heap) (CX : CXT) (k : Nat) (C : Addr) (m : Str) (ps : List Str) (sp : Sp) : Prop where
  ex : ∃ mc p f fd, ClX.CRead K C mc ∧ ClX.CMet K C mc m p f ∧ Binds K fd ps [] ∧ FnOk P w K mg base CX k f fd ps sp
section
variable {P : Program} {w : World} {K : PySem.W.Frag} {mg : Str → Option Value} {base : Heap} {C : Addr}
theorem CmAt.ok {m qual : Str} {st : Stmt} {N ps : List Str} {k : Nat} {sp : Sp} {CX : CXT} (D : CmAt K C m qual st ps) (S : FnScope N ps (defScope st)) (len : ∀ vs H Q E, sp vs H Q E → vs.length = ps.length)
    (hbody : ∀ (f : Addr) (cdv : Value) (A : Around) (outer : List Env) (s : Shared) (H : Hp) (vs : List V) (Q : VK) (E : XK), Room k (A.deeper (envOfC qual (defScope st) s.heap.objs.size f cdv)) → sp vs H Q E →
      ∃ t, PSs (cxOf CX P w K mg base N qual (defScope st) f cdv A outer s H E).nox (defBody st) t ∧ t { nx := fun _ H' => Q .non H', rt := Q } (start N vs) H) : CmD P w K mg base CX (k + 1) C m ps sp := by
  obtain ⟨mc, p, f, fd, h1, h2, F, b⟩ := D.ex
  exact ⟨mc, p, f, fd, h1, h2, b, okF F S len fun cdv A outer s H vs Q E hr h => hbody f cdv A outer s H vs Q E hr h⟩
end
section
variable {X : Cx} {CX : CXT} {k : Nat} {C : Addr} {ps : List Str} {sp : Sp} {E : L2.St → XK} {x m : Str} {p1 apos pos : Pos} {e : Expr} {es : List Expr} {t : TA}
def tCmS (C : Addr) (sp : Sp) (E : L2.St → XK) (t : TA) : TE := fun σ H Q => t σ H fun vs H2 => sp (.ref C :: vs) H2 Q (E σ)
theorem pe_cmethS {pl : Sem Bool} (hg : Gl X x) (hm : X.mg x = some (.ref C)) (M : CmD X.prog X.w X.K X.mg X.base CX k C m ps sp) (hr : Room k X.A) (hx : ∀ σ, PassesAt CX X σ (E σ)) (ha : PA X (e :: es) t) (hdb : (x == ("__debug__" : Str)) = false := by decide)
    (hst : starEach (e :: es) X.env = (false, eval e X.env) :: starEach es X.env := by rfl) (hpl : (backTo pos (starEach es X.env)).any (·.1) = false := by rfl)
    (ht : eval (.Call (.Attribute (.Name x p1) m apos) (e :: es) [] pos) X.env = (do
      let ov ← eval (.Name x p1) X.env
      standAt apos.atName
      let (f, first) ← holding [ov] (getMethod ov m pl)
      callWith pos f first (backTo pos (starEach (e :: es) X.env)) (backToKw pos (keywordEach [] X.env))) := by rfl) : PE X (.Call (.Attribute (.Name x p1) m apos) (e :: es) [] pos) (tCmS C sp E t) := by
  obtain ⟨mc, p, f, fd, r, c, hb, F⟩ := M.ex
  refine ⟨fun pins s σ H Q I h => ?_⟩
  refine PySem.W.methodCall_KW (pl := pl) (ld_glob I hg hm ?_ hdb) ht
  refine ClX.getmethcm_ok I r c fun s2 I2 => ?_
  refine ClX.callwith_cm I2 (ClX.base_none I (Nat.le_refl _)) c.fi (thn (ha.run pos _ s2 σ H _ I2 h) fun us s3 ⟨vs, H2, I3, rv, q2⟩ => ⟨⟨ClX.pin_at I3, I3.kIn⟩, ?_⟩) hst hpl
  have r2 : Vals (.ref C :: vs) (.ref C :: us) := .cons rfl rv
  have hl : (Value.ref C :: us).length = ps.length := by rw [← r2.length]; exact F.len _ _ _ _ q2
  have b := hb s3 (.ref C :: us) I3.kIn (by rw [List.append_nil]; exact hl)
  rw [List.append_nil] at b
  have z : wpAny (model X.prog X.w) X.A (call (.ref s.heap.objs.size) us) (EP X ((s.heap.objs.size, PySem.W.methodObj (.ref f) (.ref C)) :: pins) σ Q) X.xe s3 :=
    wpAny_call (PySem.W.method_call (ClX.pin_at I3) (codeAny_mono (F.run X.A X.stack s3 H2 ⟨.ref C :: us, []⟩ (.ref C :: us) (.ref C :: vs) Q (E σ) hr I3.env0 b r2 q2) fun r s' hq => (by
      cases r with
      | error e => exact hx σ _ H2 s3 e s' I3 hq
      | ok fl =>
        cases fl with
        | ret u => exact I3.after hq
        | next => exact False.elim hq
        | brk => exact False.elim hq
        | cont => exact False.elim hq)))
  exact thn z fun _ _ y => ClX.unpinE y
theorem passN {E : XK} (h : Passes CX X E) : ∀ σ : L2.St, PassesAt CX X σ ((fun _ => E) σ) := fun σ pins H s e s' I c => h pins σ H s e s' I c
end
end JW
namespace JW
theorem lngL_closed : ∀ {l : List T}, jtsL l = 0 → lngL l = 0
  | [], _ => rfl
  | t :: r, h => by
    have h2 : t.jts + jtsL r = 0 := h
    show ite _ _ _ = 0
    rw [if_pos (by omega)]
    exact lngL_closed (by omega)
theorem grf_dep (p : T) : ∀ t : T, (T.grf p t).dep = if t.jts = 0 then t.dep else max t.dep (t.lng + p.dep) := by
  refine T.ind' ?_ fun l ih => ?_
  · show p.dep = ite ((1 : Nat) = 0) 0 (max 0 (0 + p.dep))
    rw [if_neg (by decide)]
    omega
  rw [grf_bas]
  show 1 + depL (sortT (l.map (T.grf p))) = ite (jtsL l = 0) (1 + depL l) (max (1 + depL l) (1 + lngL l + p.dep))
  rw [depL_perm (sortT_perm _)]
  have go : ∀ l : List T, (∀ t ∈ l, (T.grf p t).dep = if t.jts = 0 then t.dep else max t.dep (t.lng + p.dep)) → depL (l.map (T.grf p)) = if jtsL l = 0 then depL l else max (depL l) (lngL l + p.dep) := by
    intro l
    induction l with
    | nil => intro _; rfl
    | cons t r ihr =>
      intro h
      have h1 := h t List.mem_cons_self
      have h2 := ihr fun u hu => h u (List.mem_cons_of_mem _ hu)
      show max (T.grf p t).dep (depL (r.map (T.grf p))) = ite (t.jts + jtsL r = 0) (max t.dep (depL r)) (max (max t.dep (depL r)) ((if t.jts = 0 then lngL r else max t.lng (lngL r)) + p.dep))
      rw [h1, h2]
      by_cases ht : t.jts = 0 <;> by_cases hr : jtsL r = 0
      · simp [ht, hr]
      · simp [ht, hr] <;> omega
      · rw [lngL_closed hr]; simp [ht, hr] <;> omega
      · simp [ht, hr] <;> omega
  rw [go l ih]
  by_cases h : jtsL l = 0
  · simp [h]
  · simp [h]; omega
theorem grf_size_le (p t : T) : t.size ≤ (T.grf p t).size := by
  have h := grf_size p t
  have h2 := size_pos p
  have h3 : t.jts * 1 ≤ t.jts * p.size := Nat.mul_le_mul_left _ h2
  omega
theorem grf_dep_le (p t : T) : t.dep ≤ (T.grf p t).dep := by
  rw [grf_dep]
  split <;> omega
def prodT : List T → T := List.foldl (fun f t => T.grf t f) .jet
theorem prod_snoc (l : List T) (t : T) : prodT (l ++ [t]) = T.grf t (prodT l) := by
  unfold prodT
  rw [List.foldl_append] <;> rfl
theorem prod_can {l : List T} (h : ∀ t ∈ l, Can t) : Can (prodT l) := by
  have go : ∀ (l : List T) (f : T), Can f → (∀ t ∈ l, Can t) → Can (l.foldl (fun f t => T.grf t f) f) := by
    intro l
    induction l with
    | nil => intro f hf _; exact hf
    | cons t r ih => intro f hf hl; exact ih _ (grf_can (hl t List.mem_cons_self) f) fun u hu => hl u (List.mem_cons_of_mem _ hu)
  exact go l .jet trivial h
def spT (n : Nat) : T := .bas (List.replicate n .jet)
theorem sizeL_rep (n : Nat) (t : T) : sizeL (List.replicate n t) = n * t.size := by
  rw [sizeL_sum, List.map_replicate, List.sum_replicate_nat]
end JW
namespace JW
open PySem PySem.Spec PyProof.Rows L2
theorem rep_cps (c : Nat) : ∀ (n : Nat) (a : Array Nat), (List.replicate n #[c]).foldl (· ++ ·) a = a ++ (List.replicate n c).toArray
  | 0, a => by simp
  | n + 1, a => by
    rw [List.replicate_succ, List.foldl_cons, rep_cps c n, List.replicate_succ]
    apply Array.ext'
    simp
def rRepS : R2 := fun x y H Q => ∃ (c n : Nat), x = .str (SX.S [c]) ∧ y = .int n ∧ 1 ≤ n ∧ n ≤ 100000 ∧ Q (.str (SX.S (List.replicate n c))) H
theorem op_rep_str {X : Cx} : OpR X (binaryOp .Mult) rRepS := by
  intro pins s σ H x y v u Q I rx ry h
  obtain ⟨c, n, rfl, rfl, h1, h2, q⟩ := h
  obtain ⟨t, rfl⟩ := rx
  obtain ⟨t2, rfl⟩ := ry
  have hl1 : (SX.S [c]).length = 1 := rfl
  refine PySem.P.mul_str (by rw [decide_eq_false (by omega), decide_eq_false (by omega)]; rfl) (fun _ _ => ?_) (fun _ _ => ?_) ?_
  · rw [hl1]
    have h3 : (1 : Int) ≤ (2 ^ 63 - 1) / (n : Int) := by
      rw [Int.le_ediv_iff_mul_le (by omega)]
      omega
    show ¬ (((1 : Nat) : Int) > _)
    omega
  · rw [hl1]
    exact decide_eq_false (show ¬ (1 * ((n : Nat) : Int).toNat > sizeLine) by rw [sizeLine_eq]; omega)
  · rw [if_neg (by omega)]
    by_cases e : n = 1
    · subst e
      rw [if_pos (show (((1 : Nat) : Int) == 1 || (SX.S [c]).length == 0) = true from rfl)]
      exact ⟨.str (SX.S [c]), H, I, ⟨t, rfl⟩, q⟩
    · rw [if_neg (by rw [hl1]; simp; omega)]
      have e2 : (⟨(List.replicate ((n : Nat) : Int).toNat (SX.S [c]).cps).foldl (· ++ ·) #[]⟩ : Str) = SX.S (List.replicate n c) := by
        show (⟨(List.replicate n #[c]).foldl (· ++ ·) #[]⟩ : Str) = ⟨(List.replicate n c).toArray⟩
        rw [rep_cps]
        simp
      rw [e2]
      exact ⟨by rw [SX.S_len, List.length_replicate, sizeLine_eq]; omega, .str (SX.S (List.replicate n c)), H, I.tok _, ⟨_, rfl⟩, q⟩
end JW
namespace JW
open PySem PySem.Spec PyProof.Rows L2 LamX
def ExtF (d : Addr) (H H' : Hp) : Prop := ∀ b o, b ≠ d → H b = some o → (∀ ps, o ≠ .tbl ps) → H' b = some o
section
variable {d : Addr} {H H1 H' : Hp} {C : Addr}
theorem ExtF.refl (d : Addr) (H : Hp) : ExtF d H H := fun _ _ _ h _ => h
theorem ExtF.trans (a : ExtF d H H1) (b : ExtF d H1 H') : ExtF d H H' := fun c o h1 h n => b c o h1 (a c o h1 h n) n
theorem ExtF.ofN (e : ExtN H H') : ExtF d H H' := fun b o _ h n => e b o h n
theorem FeedAt.extN (h : FeedAt H d) (e : ExtN H H') : FeedAt H' d := by
  obtain ⟨a, b, c, z⟩ := h
  exact ⟨a, b, c, e _ _ z fun ps q => by cases q⟩
theorem ExtF.mine {H0 : Hp} (a : L2.Same H0 H) (hd : H0 d = none) (b : ExtF d H H') : ExtN H0 H' := fun c o h n => b c o (ne_of_none h hd) (a c o h) n
mutual
theorem ftn_extF (f : FeedAt H d) (s : ExtF d H H') : ∀ (t : T) (v : V), Ftn C H t v → Ftn C H' t v
  | .jet, v, h => by
    have h2 : ∃ a dx b n, v = .ref a ∧ H a = some (.ins C dx (flds .jet b n)) ∧ H b = some (.tup []) ∧ H n = some (.tup (nums .jet)) := h
    obtain ⟨a, dx, b, n, ev, h1, h2, h3⟩ := h2
    obtain ⟨x, y, z, e⟩ := f
    exact ⟨a, dx, b, n, ev, s _ _ (ne_of h1 e fun z => by cases z) h1 (fun ps z => by cases z), s _ _ (ne_of h2 e fun z => by cases z) h2 (fun ps z => by cases z), s _ _ (ne_of h3 e fun z => by cases z) h3 (fun ps z => by cases z)⟩
  | .bas l, v, h => by
    have h2 : ∃ a dx b n vs, v = .ref a ∧ H a = some (.ins C dx (flds (.bas l) b n)) ∧ H b = some (.tup vs) ∧ H n = some (.tup (nums (.bas l))) ∧ FtnL C H l vs := h
    obtain ⟨a, dx, b, n, vs, ev, h1, h2, h3, h4⟩ := h2
    have h4' := ftnL_extF f s l vs h4
    obtain ⟨x, y, z, e⟩ := f
    exact ⟨a, dx, b, n, vs, ev, s _ _ (ne_of h1 e fun z => by cases z) h1 (fun ps z => by cases z), s _ _ (ne_of h2 e fun z => by cases z) h2 (fun ps z => by cases z), s _ _ (ne_of h3 e fun z => by cases z) h3 (fun ps z => by cases z), h4'⟩
theorem ftnL_extF (f : FeedAt H d) (s : ExtF d H H') : ∀ (l : List T) (vs : List V), FtnL C H l vs → FtnL C H' l vs
  | [], vs, h => h
  | t :: ts, vs, h => by
    have h2 : ∃ v r, vs = v :: r ∧ Ftn C H t v ∧ FtnL C H ts r := h
    obtain ⟨v, r, ev, h1, h2⟩ := h2
    exact ⟨v, r, ev, ftn_extF f s t v h1, ftnL_extF f s ts r h2⟩
end
theorem Ftn.fx {t : T} {v : V} (h : Ftn C H t v) (f : FeedAt H d) (s : ExtF d H H') : Ftn C H' t v := ftn_extF f s t v h
end
end JW
namespace JW
open PySem PySem.Spec PyProof.Rows L2 He
def seenN (vis a : Nat) : Bool := Nat.beq (Nat.mod (Nat.shiftRight vis a) 2) 1
def addF {β : Type} : List Addr → Nat → List Addr → (Nat → List Addr → β) → β
  | [], vis, acc, k => k vis acc
  | a :: r, vis, acc, k => match seenN vis a with
    | true => addF r vis acc k
    | false => HandSHeadRun.frNat (Nat.lor vis (Nat.shiftLeft 1 a)) fun v => addF r v (a :: acc) k
def expandF {β : Type} (g : Addr → Option Obj) : List Addr → Nat → List Addr → (Nat → List Addr → β) → β
  | [], vis, acc, k => k vis acc
  | a :: r, vis, acc, k => match g a with
    | some o => addF (refsD o) vis acc fun v acc => expandF g r v acc k
    | none => expandF g r vis acc k
def levelsF (g : Addr → Option Obj) : Nat → List Addr → List Addr → Nat → List Addr
  | 0, all, fr, _ => all ++ fr
  | n + 1, all, fr, vis => expandF g fr vis [] fun v nf => levelsF g n (all ++ fr) nf v
def asE (g : Addr → Option Obj) (n : Nat) : List Addr := levelsF g n [] [mainGlobals] (Nat.shiftLeft 1 mainGlobals) ++ [PySem.cStatics]
structure FxD where
  adr : PySem.W.Frag → Addr
  name : Str
  qual : Str
  params : Arguments
  body : List Stmt
  scope : Scope
  cl : List Str := []
def fnWz (K : PySem.W.Frag) (a : Addr) : FnW := match K.lookup a with
  | some ⟨_, _, .func fd, _⟩ => some (fd.name, fd.qualname, fd.params, fd.body, fd.scope, fd.globals, fd.closure.map (fun p => (p.1, 0)), fd.builtins)
  | _ => none
def FxD.val (d : FxD) : FnW := some (d.name, d.qual, d.params, .stmts d.body, d.scope, mainGlobals, d.cl.map (fun x => (x, 0)), builtinsNs)
def FxD.okF (K : PySem.W.Frag) (d : FxD) : Bool := PySem.W.keepIn K (.ref (d.adr K)) && (match K.lookup (d.adr K) with
  | some ⟨_, _, .func fd, _⟩ => PySem.W.codeIn K fd.code d.qual && (dflB K fd.defaults [] && kwdB K fd.kwdefaults [])
  | _ => false)
theorem FxD.funD {K : PySem.W.Frag} {d : FxD} (e : fnWz K (d.adr K) = d.val) (hcl : d.cl = []) (c : d.okF K = true) : ∃ fd, FunD K d.name d.qual d.params d.body d.scope [] [] (d.adr K) fd := by
  obtain ⟨kp, c2⟩ := ba c
  unfold fnWz at e
  cases q : K.lookup (d.adr K) with
  | none =>
    rw [q] at c2
    cases c2
  | some o =>
    obtain ⟨oc, od, dt, osl⟩ := o
    rw [q] at c2 e
    cases dt with
    | func fd =>
      obtain ⟨m1, m2, m3, m4, m5, m6, m7, m8, m9, m10, m11, m12, m13, m14, m15⟩ := fd
      have e2 : (some (m1, m2, m3, m4, m5, m6, m7.map (fun p => (p.1, 0)), m15) : FnW) = some (d.name, d.qual, d.params, .stmts d.body, d.scope, mainGlobals, d.cl.map (fun x => (x, 0)), builtinsNs) := e
      rw [hcl] at e2
      simp only [Option.some.injEq, Prod.mk.injEq, List.map_nil, List.map_eq_nil_iff] at e2
      obtain ⟨h1, h2, h3, h4, h5, h6, h7, h8⟩ := e2
      subst h1 h2 h3 h4 h5 h6 h7 h8
      have c3 : (PySem.W.codeIn K m13 d.qual && (dflB K m8 [] && kwdB K m9 [])) = true := c2
      obtain ⟨k1, k2⟩ := ba c3
      obtain ⟨k3, k4⟩ := ba k2
      exact ⟨_, ⟨oc, od, m8, m9, m10, m11, m12, m13, m14, osl, rfl, q, k1, dflB_ok k3, kwdB_ok k4⟩, kp⟩
    | _ => cases c2
def propB (K : PySem.W.Frag) (p : Str × Str) : Bool := PrD.okP K ⟨p, "", "", defArgs (.Pass ⟨0, 0, 0, 0⟩), [], defScope (.Pass ⟨0, 0, 0, 0⟩)⟩
theorem propB_ok {K : PySem.W.Frag} {p : Str × Str} (h : propB K p = true) : PropOf K (ga K p.1) p.2 (ma K (ga K p.1) p.2) (gAd K p) := PrD.propOf (d := ⟨p, "", "", defArgs (.Pass ⟨0, 0, 0, 0⟩), [], defScope (.Pass ⟨0, 0, 0, 0⟩)⟩) h
def cmAd (K : PySem.W.Frag) (p : Str × Str) : Addr := match PySem.W.findCls K (.ref (ga K p.1)) (.type "type") p.2 with
  | some (.get _ (.ref q) _ _) => q
  | _ => 0
def cgAd (K : PySem.W.Frag) (p : Str × Str) : Addr := match PySem.W.recIn K (cmAd K p) "classmethod" with
  | some (.ref g :: _) => g
  | _ => 0
def readB (K : PySem.W.Frag) (C : Addr) : Bool := PySem.W.readsIn K C (.type "type") && eqO (PySem.W.specialIn K (.ref C) "__getattribute__") (some (some (.builtin "type.__getattribute__")))
theorem readB_ok {K : PySem.W.Frag} {C : Addr} (h : readB K C = true) : ClX.CRead K C (.type "type") := by
  obtain ⟨h1, h2⟩ := ba h
  exact ⟨h1, eqO_ok h2⟩
def cmB (K : PySem.W.Frag) (p : Str × Str) : Bool := readB K (ga K p.1) && ((match PySem.W.findCls K (.ref (ga K p.1)) (.type "type") p.2 with
  | some (.get (.builtin i) (.ref _) .none (.ref c)) => decide (i = "classmethod.__get__") && decide (c = ga K p.1)
  | _ => false) && ((match PySem.W.recIn K (cmAd K p) "classmethod" with
  | some (.ref _ :: _) => true
  | _ => false) && PySem.W.fnIn K (cgAd K p)))
theorem cmB_ok {K : PySem.W.Frag} {p : Str × Str} (h : cmB K p = true) : ClX.CRead K (ga K p.1) (.type "type") ∧ ClX.CMet K (ga K p.1) (.type "type") p.2 (cmAd K p) (cgAd K p) := by
  obtain ⟨h1, h⟩ := ba h
  obtain ⟨h2, h⟩ := ba h
  obtain ⟨h3, h4⟩ := ba h
  refine ⟨readB_ok h1, ?_, ?_, h4⟩
  · unfold cmAd
    generalize PySem.W.findCls K (.ref (ga K p.1)) (.type "type") p.2 = r at h2 ⊢
    cases r with
    | none => cases h2
    | some f =>
      cases f with
      | val v => cases h2
      | get g a o t =>
        cases g with
        | builtin i =>
          cases a with
          | ref q =>
            cases o with
            | none =>
              cases t with
              | ref c =>
                obtain ⟨z1, z2⟩ := ba (show (decide (i = "classmethod.__get__") && decide (c = ga K p.1)) = true from h2)
                rw [of_decide_eq_true z1, of_decide_eq_true z2]
              | _ => cases h2
            | _ => cases h2
          | _ => cases h2
        | _ => cases h2
  · unfold cgAd
    generalize PySem.W.recIn K (cmAd K p) "classmethod" = r at h3 ⊢
    cases r with
    | none => cases h3
    | some l =>
      cases l with
      | nil => cases h3
      | cons v rest =>
        cases v with
        | ref g => exact ⟨rest, rfl⟩
        | _ => cases h3
def oexB (K : PySem.W.Frag) (C : Addr) : Bool := (match K.lookup C with
  | some ⟨.type t, _, .cls cd, sl⟩ => decide (t = "type") && (match cd.mro, sl.toList with
    | .ref c :: bm, [_, _, _, _, some (.builtin n), _] => decide (c = C) && (decide (n = "ValueError.__new__") && (!cd.hasDel && (cd.hasDict && PySem.HandSPX.refsVE bm)))
    | _, _ => false)
  | _ => false) && (eqO (PySem.W.findIn K (.ref C) "__setattr__") (some (some (.builtin "object.__setattr__"))) && (decide (PySem.W.subIn K (.ref C) (.type "BaseException") = some true) && (decide (PySem.W.typeIn K (.ref C) = some (.type "type")) && PySem.W.keepIn K (.ref C))))
theorem oexB_ok {K : PySem.W.Frag} {C : Addr} (h : oexB K C = true) : OexC K C := by
  obtain ⟨h1, h⟩ := ba h
  obtain ⟨h2, h⟩ := ba h
  obtain ⟨h3, h⟩ := ba h
  obtain ⟨h4, h5⟩ := ba h
  refine ⟨?_, eqO_ok h2, of_decide_eq_true h3, of_decide_eq_true h4, h5⟩
  cases q : K.lookup C with
  | none =>
    rw [q] at h1
    cases h1
  | some o =>
    obtain ⟨oc, od, dt, sl⟩ := o
    rw [q] at h1
    cases oc with
    | type t =>
      cases dt with
      | cls cd =>
        obtain ⟨z1, z2⟩ := ba h1
        obtain ⟨nm, bs, mro, ns, qn, hd, sn, sub, ab, col, del⟩ := cd
        dsimp only at z2
        cases mro with
        | nil => cases z2
        | cons v bm =>
          cases v with
          | ref c =>
            obtain ⟨sl⟩ := sl
            match sl, z2 with
            | [k0, k1, k2, k3, some (.builtin n), k5], z2 =>
              obtain ⟨y1, y⟩ := ba (show (decide (c = C) && (decide (n = "ValueError.__new__") && (!del && (hd && PySem.HandSPX.refsVE bm)))) = true from z2)
              obtain ⟨y2, y⟩ := ba y
              obtain ⟨y3, y⟩ := ba y
              obtain ⟨y4, y5⟩ := ba y
              have ec := of_decide_eq_true y1
              have en := of_decide_eq_true y2
              have ed : del = false := by simpa using y3
              have et := of_decide_eq_true z1
              subst ec en ed et y4
              exact ⟨nm, qn, ns, bs, bm, sn, sub, ab, col, od, k0, k1, k2, k3, k5, rfl, y5⟩
          | _ => cases z2
      | _ => cases h1
    | _ => cases h1
def excB (K : PySem.W.Frag) (D : Addr) : Bool := eqO (PySem.W.findIn K (.ref D) "__getattribute__") (some (some (.builtin "BaseException.__getattribute__"))) && (eqO (PySem.W.findIn K (.ref D) "__getattr__") (some none) &&
  (decide (PySem.W.subIn K (.ref D) (.type "BaseException") = some true) && (PySem.W.hasDictIn K D && (eqO (PySem.W.findIn K (.ref D) "__class__") (some (some (.builtin "object.__class__"))) &&
  (eqO (PySem.W.specialIn K (.builtin "object.__class__") "__get__") (some (some (.builtin "getset_descriptor.__get__"))) && (decide (PySem.W.takesIn K (.builtin "object.__class__") = some true) && decide (PySem.W.mroIn K D (.type "object") = some true)))))))
theorem excB_ok {K : PySem.W.Frag} {D : Addr} (h : excB K D = true) : ExcC K D := by
  obtain ⟨h1, h⟩ := ba h
  obtain ⟨h2, h⟩ := ba h
  obtain ⟨h3, h⟩ := ba h
  obtain ⟨h4, h⟩ := ba h
  obtain ⟨h5, h⟩ := ba h
  obtain ⟨h6, h⟩ := ba h
  obtain ⟨h7, h8⟩ := ba h
  exact ⟨eqO_ok h1, eqO_ok h2, of_decide_eq_true h3, h4, eqO_ok h5, eqO_ok h6, of_decide_eq_true h7, of_decide_eq_true h8⟩
def errB (K : PySem.W.Frag) (x : Str) : Bool := oexB K (ga K x) && (xfB K (ga K x) && (excB K (ga K x) && (eqO (PySem.W.findIn K (.ref (ga K x)) "__init__") (some (some (.ref (ma K (ga K x) "__init__")))) && decide (PySem.W.typeIn K (.ref (ma K (ga K x) "__init__")) = some (.type "function")))))
theorem errB_ok {K : PySem.W.Frag} {x : Str} (h : errB K x = true) : ErrC K (ga K x) ∧ PySem.W.findIn K (.ref (ga K x)) "__init__" = some (some (.ref (ma K (ga K x) "__init__"))) ∧ PySem.W.typeIn K (.ref (ma K (ga K x) "__init__")) = some (.type "function") := by
  obtain ⟨h1, h⟩ := ba h
  obtain ⟨h2, h⟩ := ba h
  obtain ⟨h3, h⟩ := ba h
  obtain ⟨h4, h5⟩ := ba h
  exact ⟨⟨oexB_ok h1, xfB_ok h2, excB_ok h3⟩, eqO_ok h4, of_decide_eq_true h5⟩
def baseB (K : PySem.W.Frag) (x : Str) : Bool := readB K (ga K x) && (match PySem.W.findCls K (.ref (ga K x)) (.type "type") "__init__" with
  | some (.val (.builtin i)) => decide (i = "ValueError.__init__")
  | _ => false)
theorem baseB_ok {K : PySem.W.Frag} {x : Str} (h : baseB K x = true) : InitBy K (ga K x) := by
  obtain ⟨h1, h2⟩ := ba h
  refine ⟨.type "type", readB_ok h1, ?_⟩
  generalize PySem.W.findCls K (.ref (ga K x)) (.type "type") "__init__" = r at h2 ⊢
  cases r with
  | none => cases h2
  | some f =>
    cases f with
    | get g a o t => cases h2
    | val v =>
      cases v with
      | builtin i => rw [of_decide_eq_true h2]
      | _ => cases h2
def kitB (K : PySem.W.Frag) (q : Str × Str × Bool) : Bool := decide (PySem.W.kitOne K (.ref (ga K q.1)) (.ref (ga K q.2.1)) = some q.2.2)
def exmB (K : PySem.W.Frag) (q : Str × Str × Bool) : Bool := decide (PySem.W.exmOne K (.ref (ga K q.1)) (.ref (ga K q.2.1)) = some q.2.2)
structure SaysE (fa : List Fa) (fn : List DefD) (tf : List Defn) (ex : PySem.W.Frag → Bool) (fx : List FxD) (ts : List Tab) (w : World) (h : Heap) (K : PySem.W.Frag) : Prop where
  d : SaysD fa fn K
  more : ex K = true
  hd : ∀ p ∈ tf, PySem.W.codeHdIn K (cT K p).1 (cT K p).2 = true
  out : ∀ p ∈ tf, K.lookup (cT K p).2 = none
  empty : ∀ p ∈ tf, h.get? (cT K p).2 = some { cls := .none, data := .fields #[] }
  p : fx.map (fun d => fnWz K (d.adr K)) = fx.map FxD.val
  ok : (fx.all fun d => d.okF K) = true
  tab : (ts.map fun t => dicW K (t.1 K)) = ts.map fun t => some (keysIn w.params t.2)
abbrev AlE : Type := AlD × Bool × List FnW × Bool × List (Option (List (Option (Str × Int))))
def obsE' (fa : List Fa) (fn : List DefD) (tf : List Defn) (ex : PySem.W.Frag → Bool) (fx : List FxD) (ts : List Tab) (g : Addr → Option Obj) (K : PySem.W.Frag) : AlE :=
  (obsD fa fn K, ex K && tabsB g tf K, fx.map (fun d => fnWz K (d.adr K)), fx.all (fun d => d.okF K), ts.map fun t => dicW K (t.1 K))
def obsE (n : Nat) (fa : List Fa) (fn : List DefD) (tf : List Defn) (ex : PySem.W.Frag → Bool) (fx : List FxD) (ts : List Tab) (g : Addr → Option Obj) : AlE := obsE' fa fn tf ex fx ts g (frT g (asE g n))
def valE (fn : List DefD) (fx : List FxD) (ts : List Tab) (w : World) : AlE := (valD fn, true, fx.map FxD.val, true, ts.map fun t => some (keysIn w.params t.2))
theorem saysE_of {n : Nat} {fa : List Fa} {fn : List DefD} {tf : List Defn} {ex : PySem.W.Frag → Bool} {fx : List FxD} {ts : List Tab} {w : World} {h : Heap} (e : obsE n fa fn tf ex fx ts h.get? = valE fn fx ts w) : SaysE fa fn tf ex fx ts w h (frT h.get? (asE h.get? n)) := by
  unfold obsE at e
  have z1 := congrArg (fun z : AlE => z.1) e
  have z2 := congrArg (fun z : AlE => z.2.1) e
  have z3 := congrArg (fun z : AlE => z.2.2.1) e
  have z4 := congrArg (fun z : AlE => z.2.2.2.1) e
  have z5 := congrArg (fun z : AlE => z.2.2.2.2) e
  have inK : ∀ {a : Addr} {o : Obj}, h.get? a = some o → emptyTab o = true → (frT h.get? (asE h.get? n)).lookup a = none := fun q z => frT_none q z
  generalize frT h.get? (asE h.get? n) = K at z1 z2 z3 z4 z5 inK ⊢
  obtain ⟨y1, y2⟩ := ba (show (ex K && tabsB h.get? tf K) = true from z2)
  have key : ∀ p ∈ tf, PySem.W.codeHdIn K (cT K p).1 (cT K p).2 = true ∧ ∃ o, h.get? (cT K p).2 = some o ∧ emptyTab o = true := fun p hp => by
    obtain ⟨w1, w2⟩ := ba (List.all_eq_true.mp y2 p hp)
    refine ⟨w1, ?_⟩
    cases q : h.get? (cT K p).2 with
    | none =>
      rw [q] at w2
      cases w2
    | some o =>
      rw [q] at w2
      exact ⟨o, rfl, w2⟩
  refine ⟨z1, y1, fun p hp => (key p hp).1, fun p hp => ?_, fun p hp => ?_, z3, z4, z5⟩
  · obtain ⟨_, o, q, z⟩ := key p hp
    exact inK q z
  · obtain ⟨_, o, q, z⟩ := key p hp
    rw [q, emptyTab_eq z]
def hookE (n : Nat) (fa : List Fa) (fn : List DefD) (tf : List Defn) (ex : PySem.W.Frag → Bool) (fx : List FxD) (ts : List Tab) : PySem.W.Hook where
  α := AlE
  obs := fun s => obsE n fa fn tf ex fx ts s.heap.get?
  val := fun w => valE fn fx ts w
  says := fun w h => ∃ K : PySem.W.Frag, K.In h ∧ SaysE fa fn tf ex fx ts w h K
  of := fun _ _ e => ⟨_, frT_in, saysE_of e⟩
  keeps := fun _ _ _ ⟨K, hK, c⟩ k => ⟨K, PySem.W.Frag.In.keeps hK k, ⟨c.d, c.more, c.hd, c.out, fun p hp => k _ _ (c.empty p hp), c.p, c.ok, c.tab⟩⟩
theorem obsE_eq {n : Nat} {fa : List Fa} {fn : List DefD} {tf : List Defn} {ex : PySem.W.Frag → Bool} {fx : List FxD} {ts : List Tab} {g : Addr → Option Obj} {s : Shared} (h : ∀ a, g a = s.heap.get? a) : obsE n fa fn tf ex fx ts g = (hookE n fa fn tf ex fx ts).obs s := by
  have e : g = s.heap.get? := funext h
  rw [e] <;> rfl
section
variable {fa : List Fa} {fn : List DefD} {tf : List Defn} {ex : PySem.W.Frag → Bool} {fx : List FxD} {ts : List Tab} {w : World} {h : Heap} {K : PySem.W.Frag}
theorem SaysE.fxEq (c : SaysE fa fn tf ex fx ts w h K) (i : Nat) {d : FxD} (hi : fx[i]? = some d) : fnWz K (d.adr K) = d.val := by
  have e2 : (fx.map fun d => fnWz K (d.adr K))[i]? = (fx.map FxD.val)[i]? := by rw [c.p]
  rw [List.getElem?_map, List.getElem?_map, hi] at e2
  exact Option.some.inj e2
theorem SaysE.fxAt (c : SaysE fa fn tf ex fx ts w h K) (i : Nat) {d : FxD} (hi : fx[i]? = some d) (hcl : d.cl = [] := by rfl) : ∃ fd, FunD K d.name d.qual d.params d.body d.scope [] [] (d.adr K) fd :=
  FxD.funD (c.fxEq i hi) hcl (List.all_eq_true.mp c.ok d (List.mem_of_getElem? hi))
theorem all_at {α : Type} {l : List α} {f : α → Bool} (h : l.all f = true) (i : Nat) {a : α} (hi : l[i]? = some a) : f a = true := List.all_eq_true.mp h a (List.mem_of_getElem? hi)
end
end JW
namespace AL
end AL
namespace JW
open PySem PySem.Spec PyProof.Rows L2 He
def strKeysB (es : Array DictEntry) : Bool := es.toList.all fun e => match e.key with
  | .str _ _ => true
  | _ => false
theorem strKeysB_ok {es : Array DictEntry} (h : strKeysB es = true) : StrKeys es := fun e he => by
  have h1 := List.all_eq_true.mp h e (Array.mem_toList_iff.mpr he)
  cases q : e.key with
  | str n t => exact ⟨n, t, rfl⟩
  | _ => rw [q] at h1; cases h1
def nbB (K : PySem.W.Frag) : Bool := match K.lookup cStatics with
  | some ⟨_, _, .dict es _, _⟩ => strKeysB es && decide (nsFind es sharingNotToldKey = none)
  | _ => false
theorem nbB_ok {K : PySem.W.Frag} (c : nbB K = true) (h : Heap) (X : K.In h) : NoneBooked h := by
  unfold nbB at c
  cases q : K.lookup cStatics with
  | none => rw [q] at c; cases c
  | some o =>
    rw [q] at c
    obtain ⟨oc, od, dt, sl⟩ := o
    cases dt with
    | dict es ep =>
      obtain ⟨h1, h2⟩ := ba (show (strKeysB es && decide (nsFind es sharingNotToldKey = none)) = true from c)
      exact ⟨nsFind es, ⟨_, es, ep, X _ _ q, rfl, strKeysB_ok h1, fun _ => rfl⟩, of_decide_eq_true h2⟩
    | _ => cases c
end JW
namespace JW
open PySem PySem.Spec PyProof.Rows L2 AL
def top (i : Nat) : Stmt := PySem.Challenge.pw_jetworks_k83_folds_that_are_held.main.body.getD i (.Pass ⟨0, 0, 0, 0⟩)
abbrev s_Adding___init__ : Stmt := inClass (top 2) 0
theorem sc_Adding___init__ : FnScope ["self", "added"] ["self", "added"] (defScope s_Adding___init__) := ⟨rfl, rfl, rfl, by decide +kernel, rfl, by decide +kernel, by decide +kernel⟩
abbrev s_Adding___call__ : Stmt := inClass (top 2) 1
theorem sc_Adding___call__ : FnScope ["self", "values"] ["self", "values"] (defScope s_Adding___call__) := ⟨rfl, rfl, rfl, by decide +kernel, rfl, by decide +kernel, by decide +kernel⟩
abbrev s_folded : Stmt := top 3
theorem sc_folded : FnScope ["a", "jet", "join", "branch"] ["a", "jet", "join"] (defScope s_folded) := ⟨rfl, rfl, rfl, by decide +kernel, rfl, by decide +kernel, by decide +kernel⟩
abbrev s_Fold___init__ : Stmt := inClass (top 4) 0
theorem sc_Fold___init__ : FnScope ["self", "jet", "join"] ["self", "jet", "join"] (defScope s_Fold___init__) := ⟨rfl, rfl, rfl, by decide +kernel, rfl, by decide +kernel, by decide +kernel⟩
abbrev s_Fold_jet : Stmt := inClass (top 4) 1
theorem sc_Fold_jet : FnScope ["self"] ["self"] (defScope s_Fold_jet) := ⟨rfl, rfl, rfl, by decide +kernel, rfl, by decide +kernel, by decide +kernel⟩
abbrev s_Fold___call__ : Stmt := inClass (top 4) 2
theorem sc_Fold___call__ : FnScope ["self", "a"] ["self", "a"] (defScope s_Fold___call__) := ⟨rfl, rfl, rfl, by decide +kernel, rfl, by decide +kernel, by decide +kernel⟩
abbrev s_Fold_seeded : Stmt := inClass (top 4) 3
theorem sc_Fold_seeded : FnScope ["self", "jet"] ["self", "jet"] (defScope s_Fold_seeded) := ⟨rfl, rfl, rfl, by decide +kernel, rfl, by decide +kernel, by decide +kernel⟩
abbrev s_Fold_summing : Stmt := inClass (top 4) 4
theorem sc_Fold_summing : FnScope ["cls", "jet", "basin"] ["cls", "jet", "basin"] (defScope s_Fold_summing) := ⟨rfl, rfl, rfl, by decide +kernel, rfl, by decide +kernel, by decide +kernel⟩
abbrev s_TooLarge___init__ : Stmt := inClass (top 12) 0
abbrev s_TooDeep___init__ : Stmt := inClass (top 13) 0
abbrev s_check_numbers : Stmt := top 21
theorem sc_check_numbers : FnScope ["numbers"] ["numbers"] (defScope s_check_numbers) := ⟨rfl, rfl, rfl, by decide +kernel, rfl, by decide +kernel, by decide +kernel⟩
abbrev s_basin_numbers : Stmt := top 22
theorem sc_basin_numbers : FnScope ["branches", "size", "jets", "depth", "opened", "longest", "branch"] ["branches"] (defScope s_basin_numbers) := ⟨rfl, rfl, rfl, by decide +kernel, rfl, by decide +kernel, by decide +kernel⟩
abbrev s_parsed : Stmt := top 24
theorem sc_parsed : FnScope ["text", "pending", "found", "is_complete", "at", "sign", "part"] ["text"] (defScope s_parsed) := ⟨rfl, rfl, rfl, by decide +kernel, rfl, by decide +kernel, by decide +kernel⟩
abbrev s_made : Stmt := top 25
theorem sc_made : FnScope ["branches", "ordered", "branch"] ["branches"] (defScope s_made) := ⟨rfl, rfl, rfl, by decide +kernel, rfl, by decide +kernel, by decide +kernel⟩
abbrev s_Fountain___init__ : Stmt := inClass (top 33) 0
theorem sc_Fountain___init__ : FnScope ["self", "text", "branches", "is_read"] ["self", "text", "branches"] (defScope s_Fountain___init__) := ⟨rfl, rfl, rfl, by decide +kernel, rfl, by decide +kernel, by decide +kernel⟩
abbrev s_Fountain_text : Stmt := inClass (top 33) 4
theorem sc_Fountain_text : FnScope ["self"] ["self"] (defScope s_Fountain_text) := ⟨rfl, rfl, rfl, by decide +kernel, rfl, by decide +kernel, by decide +kernel⟩
abbrev s_Fountain_parts : Stmt := inClass (top 33) 5
theorem sc_Fountain_parts : FnScope ["self"] ["self"] (defScope s_Fountain_parts) := ⟨rfl, rfl, rfl, by decide +kernel, rfl, by decide +kernel, by decide +kernel⟩
abbrev s_Fountain_size : Stmt := inClass (top 33) 6
theorem sc_Fountain_size : FnScope ["self"] ["self"] (defScope s_Fountain_size) := ⟨rfl, rfl, rfl, by decide +kernel, rfl, by decide +kernel, by decide +kernel⟩
abbrev s_Fountain_jets : Stmt := inClass (top 33) 7
theorem sc_Fountain_jets : FnScope ["self"] ["self"] (defScope s_Fountain_jets) := ⟨rfl, rfl, rfl, by decide +kernel, rfl, by decide +kernel, by decide +kernel⟩
abbrev s_Fountain_depth : Stmt := inClass (top 33) 8
theorem sc_Fountain_depth : FnScope ["self"] ["self"] (defScope s_Fountain_depth) := ⟨rfl, rfl, rfl, by decide +kernel, rfl, by decide +kernel, by decide +kernel⟩
abbrev s_Fountain_longest : Stmt := inClass (top 33) 9
theorem sc_Fountain_longest : FnScope ["self"] ["self"] (defScope s_Fountain_longest) := ⟨rfl, rfl, rfl, by decide +kernel, rfl, by decide +kernel, by decide +kernel⟩
abbrev s_Fountain_shortest : Stmt := inClass (top 33) 10
theorem sc_Fountain_shortest : FnScope ["self"] ["self"] (defScope s_Fountain_shortest) := ⟨rfl, rfl, rfl, by decide +kernel, rfl, by decide +kernel, by decide +kernel⟩
abbrev s_Fountain_is_open : Stmt := inClass (top 33) 11
theorem sc_Fountain_is_open : FnScope ["self"] ["self"] (defScope s_Fountain_is_open) := ⟨rfl, rfl, rfl, by decide +kernel, rfl, by decide +kernel, by decide +kernel⟩
abbrev s_Fountain_is_jet : Stmt := inClass (top 33) 12
theorem sc_Fountain_is_jet : FnScope ["self"] ["self"] (defScope s_Fountain_is_jet) := ⟨rfl, rfl, rfl, by decide +kernel, rfl, by decide +kernel, by decide +kernel⟩
abbrev s_Fountain___eq__ : Stmt := inClass (top 33) 13
theorem sc_Fountain___eq__ : FnScope ["self", "other"] ["self", "other"] (defScope s_Fountain___eq__) := ⟨rfl, rfl, rfl, by decide +kernel, rfl, by decide +kernel, by decide +kernel⟩
abbrev s__law_feed : Stmt := top 35
theorem sc__law_feed : FnScope ["_law_script", "_law_k", "_law_cell", "_law_seed"] ["_law_script", "_law_k"] (defScope s__law_feed) := ⟨rfl, rfl, rfl, by decide +kernel, rfl, by decide +kernel, by decide +kernel⟩
abbrev s__law_draw : Stmt := top 36
theorem sc__law_draw : FnScope ["_law_feed_here", "_law_limit", "_law_digit", "_law_mixed_here"] ["_law_feed_here", "_law_limit"] (defScope s__law_draw) := ⟨rfl, rfl, rfl, by decide +kernel, rfl, by decide +kernel, by decide +kernel⟩
abbrev s__law_mixed : Stmt := top 37
theorem sc__law_mixed : FnScope ["_law_feed_here", "_law_items", "_law_left", "_law_found"] ["_law_feed_here", "_law_items"] (defScope s__law_mixed) := ⟨rfl, rfl, rfl, by decide +kernel, rfl, by decide +kernel, by decide +kernel⟩
abbrev s__law_norm : Stmt := top 38
theorem sc__law_norm : FnScope ["_law_text", "_law_rows", "_law_sign", "_law_inner"] ["_law_text"] (defScope s__law_norm) := ⟨rfl, rfl, rfl, by decide +kernel, rfl, by decide +kernel, by decide +kernel⟩
abbrev s__law_parts : Stmt := top 39
theorem sc__law_parts : FnScope ["_law_text", "_law_found", "_law_level", "_law_begin", "_law_at"] ["_law_text"] (defScope s__law_parts) := ⟨rfl, rfl, rfl, by decide +kernel, rfl, by decide +kernel, by decide +kernel⟩
abbrev s__law_size : Stmt := top 40
theorem sc__law_size : FnScope ["_law_text"] ["_law_text"] (defScope s__law_size) := ⟨rfl, rfl, rfl, by decide +kernel, rfl, by decide +kernel, by decide +kernel⟩
abbrev s__law_grown : Stmt := top 41
theorem sc__law_grown : FnScope ["_law_feed_here", "_law_room", "_law_pool", "_law_left", "_law_form", "_law_take", "_law_first_here"] ["_law_feed_here", "_law_room"] (defScope s__law_grown) := ⟨rfl, rfl, rfl, by decide +kernel, rfl, by decide +kernel, by decide +kernel⟩
abbrev s__law_open : Stmt := top 42
theorem sc__law_open : FnScope ["_law_feed_here", "_law_room", "_law_text"] ["_law_feed_here", "_law_room"] (defScope s__law_open) := ⟨rfl, rfl, rfl, by decide +kernel, rfl, by decide +kernel, by decide +kernel⟩
abbrev s__law_product : Stmt := top 43
theorem sc__law_product : FnScope ["_law_one", "_law_two"] ["_law_one", "_law_two"] (defScope s__law_product) := ⟨rfl, rfl, rfl, by decide +kernel, rfl, by decide +kernel, by decide +kernel⟩
abbrev s__law_composed : Stmt := top 44
theorem sc__law_composed : FnScope ["_law_feed_here", "_law_room", "_law_found", "_law_turn", "_law_more"] ["_law_feed_here", "_law_room"] (defScope s__law_composed) := ⟨rfl, rfl, rfl, by decide +kernel, rfl, by decide +kernel, by decide +kernel⟩
abbrev s__law_any : Stmt := top 45
theorem sc__law_any : FnScope ["_law_feed_here", "_law_room"] ["_law_feed_here", "_law_room"] (defScope s__law_any) := ⟨rfl, rfl, rfl, by decide +kernel, rfl, by decide +kernel, by decide +kernel⟩
abbrev s__law_told : Stmt := top 46
theorem sc__law_told : FnScope ["_law_feed_here", "_law_text", "_law_rows", "_law_sign", "_law_inner"] ["_law_feed_here", "_law_text"] (defScope s__law_told) := ⟨rfl, rfl, rfl, by decide +kernel, rfl, by decide +kernel, by decide +kernel⟩
abbrev s__law_ordered_sum : Stmt := top 47
theorem sc__law_ordered_sum : FnScope ["_law_values", "_law_found", "_law_value_here"] ["_law_values"] (defScope s__law_ordered_sum) := ⟨rfl, rfl, rfl, by decide +kernel, rfl, by decide +kernel, by decide +kernel⟩
abbrev s__law_joined : Stmt := top 48
theorem sc__law_joined : FnScope ["_law_form", "_law_values"] ["_law_form", "_law_values"] (defScope s__law_joined) := ⟨rfl, rfl, rfl, by decide +kernel, rfl, by decide +kernel, by decide +kernel⟩
abbrev s__law_value : Stmt := top 49
theorem sc__law_value : FnScope ["_law_text", "_law_jet", "_law_form", "_law_part"] ["_law_text", "_law_jet", "_law_form"] (defScope s__law_value) := ⟨rfl, rfl, rfl, by decide +kernel, rfl, by decide +kernel, by decide +kernel⟩
abbrev s__law_first : Stmt := top 50
theorem sc__law_first : FnScope ["_law_jet", "_law_form"] ["_law_jet", "_law_form"] (defScope s__law_first) := ⟨rfl, rfl, rfl, by decide +kernel, rfl, by decide +kernel, by decide +kernel⟩
abbrev s_law : Stmt := top 51
theorem sc_law : FnScope ["_law_script", "_law_k", "_law_feed_here", "_law_form", "_law_jet", "_law_kept", "_law_turn", "_law_other", "_law_texts", "_law_fountains", "_law_number", "_law_index", "_law_fold", "_law_value_here", "_law_more", "_law_text"] ["_law_script"] (defScope s_law) := ⟨rfl, rfl, rfl, by decide +kernel, rfl, by decide +kernel, by decide +kernel⟩
open He
def dfn (x : Str) (m : Option Str) (nm q : Str) (s : Stmt) (dv : List Dv) (kw : List (Str × Dv)) : DefD := ⟨(x, m), nm, q, defArgs s, defBody s, defScope s, dv, kw⟩
def fn : List DefD := ([dfn "Adding" (some "__init__") "__init__" "Adding.__init__" s_Adding___init__ [] [], dfn "Adding" (some "__call__") "__call__" "Adding.__call__" s_Adding___call__ [] [], dfn "folded" none "folded" "folded" s_folded [] [], dfn "Fold" (some "__init__") "__init__" "Fold.__init__" s_Fold___init__ [] [], dfn "Fold" (some "__call__") "__call__" "Fold.__call__" s_Fold___call__ [] [], dfn "Fold" (some "seeded") "seeded" "Fold.seeded" s_Fold_seeded [] [], dfn "TooLarge" (some "__init__") "__init__" "TooLarge.__init__" s_TooLarge___init__ [] [], dfn "TooDeep" (some "__init__") "__init__" "TooDeep.__init__" s_TooDeep___init__ [] [], dfn "check_numbers" none "check_numbers" "check_numbers" s_check_numbers [] [], dfn "basin_numbers" none "basin_numbers" "basin_numbers" s_basin_numbers [] [], dfn "parsed" none "parsed" "parsed" s_parsed [] [], dfn "made" none "made" "made" s_made [] [], dfn "Fountain" (some "__init__") "__init__" "Fountain.__init__" s_Fountain___init__ [.non] [], dfn "Fountain" (some "__eq__") "__eq__" "Fountain.__eq__" s_Fountain___eq__ [] [], dfn "_law_feed" none "_law_feed" "_law_feed" s__law_feed [] [], dfn "_law_draw" none "_law_draw" "_law_draw" s__law_draw [] [], dfn "_law_mixed" none "_law_mixed" "_law_mixed" s__law_mixed [] [], dfn "_law_norm" none "_law_norm" "_law_norm" s__law_norm [] [], dfn "_law_parts" none "_law_parts" "_law_parts" s__law_parts [] [], dfn "_law_size" none "_law_size" "_law_size" s__law_size [] [], dfn "_law_grown" none "_law_grown" "_law_grown" s__law_grown [] [], dfn "_law_open" none "_law_open" "_law_open" s__law_open [] [], dfn "_law_product" none "_law_product" "_law_product" s__law_product [] [], dfn "_law_composed" none "_law_composed" "_law_composed" s__law_composed [] [], dfn "_law_any" none "_law_any" "_law_any" s__law_any [] [], dfn "_law_told" none "_law_told" "_law_told" s__law_told [] [], dfn "_law_ordered_sum" none "_law_ordered_sum" "_law_ordered_sum" s__law_ordered_sum [] [], dfn "_law_joined" none "_law_joined" "_law_joined" s__law_joined [] [], dfn "_law_value" none "_law_value" "_law_value" s__law_value [] [], dfn "_law_first" none "_law_first" "_law_first" s__law_first [] []] : List DefD) ++ ([dfn "law" none "law" "law" s_law [] []] : List DefD)
def fa : List Fa := ([.glo "Fountain", .cls "Fountain", .noat "Fountain" "written", .noat "Fountain" "branches", .noat "Fountain" "numbers", .glo "Adding", .cls "Adding", .noat "Adding" "added", .glo "Fold", .cls "Fold", .noat "Fold" "seed", .noat "Fold" "joining", .int "MOST" 5000, .int "DEEPEST" 120, .str "JET_TEXT" "o", .mkr "Adding", .meth "Adding" "__call__", .glo "folded", .mkr "Fold", .meth "Fold" "__call__", .meth "Fold" "seeded", .glo "TooLarge", .noat "TooLarge" "pieces", .glo "TooDeep", .noat "TooDeep" "basins", .glo "check_numbers", .glo "basin_numbers", .glo "parsed", .glo "made", .mkr "Fountain"] : List Fa) ++ ([.meth "Fountain" "__eq__", .glo "_law_feed", .glo "_law_draw", .glo "_law_mixed", .glo "_law_norm", .glo "_law_parts", .glo "_law_size", .glo "_law_grown", .glo "_law_open", .glo "_law_product", .glo "_law_composed", .glo "_law_any", .glo "_law_told", .glo "_law_ordered_sum", .glo "_law_joined", .glo "_law_value", .glo "_law_first", .glo "law", .glo "JetError", .free "NotImplemented", .free "TypeError", .free "abs", .free "any", .free "enumerate", .free "int", .free "isinstance", .free "len", .free "list", .free "max", .free "min"] : List Fa) ++ ([.free "range", .free "sorted", .free "sum", .free "tuple"] : List Fa)
def tf : List Defn := ([("made", none), ("_law_first", none)] : List Defn)
def fx : List FxD := ([⟨fun K => gAd K ("Fold", "jet"), "jet", "Fold.jet", defArgs s_Fold_jet, defBody s_Fold_jet, defScope s_Fold_jet, []⟩, ⟨fun K => cgAd K ("Fold", "summing"), "summing", "Fold.summing", defArgs s_Fold_summing, defBody s_Fold_summing, defScope s_Fold_summing, []⟩, ⟨fun K => gAd K ("Fountain", "text"), "text", "Fountain.text", defArgs s_Fountain_text, defBody s_Fountain_text, defScope s_Fountain_text, []⟩, ⟨fun K => gAd K ("Fountain", "parts"), "parts", "Fountain.parts", defArgs s_Fountain_parts, defBody s_Fountain_parts, defScope s_Fountain_parts, []⟩, ⟨fun K => gAd K ("Fountain", "size"), "size", "Fountain.size", defArgs s_Fountain_size, defBody s_Fountain_size, defScope s_Fountain_size, []⟩, ⟨fun K => gAd K ("Fountain", "jets"), "jets", "Fountain.jets", defArgs s_Fountain_jets, defBody s_Fountain_jets, defScope s_Fountain_jets, []⟩, ⟨fun K => gAd K ("Fountain", "depth"), "depth", "Fountain.depth", defArgs s_Fountain_depth, defBody s_Fountain_depth, defScope s_Fountain_depth, []⟩, ⟨fun K => gAd K ("Fountain", "longest"), "longest", "Fountain.longest", defArgs s_Fountain_longest, defBody s_Fountain_longest, defScope s_Fountain_longest, []⟩, ⟨fun K => gAd K ("Fountain", "shortest"), "shortest", "Fountain.shortest", defArgs s_Fountain_shortest, defBody s_Fountain_shortest, defScope s_Fountain_shortest, []⟩, ⟨fun K => gAd K ("Fountain", "is_open"), "is_open", "Fountain.is_open", defArgs s_Fountain_is_open, defBody s_Fountain_is_open, defScope s_Fountain_is_open, []⟩, ⟨fun K => gAd K ("Fountain", "is_jet"), "is_jet", "Fountain.is_jet", defArgs s_Fountain_is_jet, defBody s_Fountain_is_jet, defScope s_Fountain_is_jet, []⟩] : List FxD)
def prL : List (Str × Str) := ([("Fold", "jet"), ("Fountain", "text"), ("Fountain", "parts"), ("Fountain", "size"), ("Fountain", "jets"), ("Fountain", "depth"), ("Fountain", "longest"), ("Fountain", "shortest"), ("Fountain", "is_open"), ("Fountain", "is_jet")] : List (Str × Str))
def cmL : List (Str × Str) := ([("Fold", "summing")] : List (Str × Str))
def erL : List Str := (["TooLarge", "TooDeep"] : List Str)
def bsL : List Str := (["JetError"] : List Str)
def ktL : List (Str × Str × Bool) := ([] : List (Str × Str × Bool))
def emL : List (Str × Str × Bool) := ([] : List (Str × Str × Bool))
def xtL : List (PySem.W.Frag → Bool) := [fun K => decide (¬ (He.ga K "Fold" = He.ga K "Fountain")), fun K => decide (¬ (He.ga K "Adding" = He.ga K "Fountain")), fun K => decide (¬ ((He.cT K ("made", none)).2 = (He.cT K ("_law_first", none)).2)), fun K => decide (clsX K "Adding" = true), fun K => decide (clsX K "Fold" = true)]
def ex (K : PySem.W.Frag) : Bool := (xtL.all fun f => f K) && (nbB K && (clsX K "Fountain" && ((prL.all fun p => propB K p) && ((cmL.all fun p => cmB K p) && ((erL.all fun x => errB K x) && ((bsL.all fun x => baseB K x) && ((ktL.all fun q => kitB K q) && (emL.all fun q => exmB K q))))))))
theorem exs {w : World} {K : PySem.W.Frag} {h : Heap} (c : SaysE fa fn tf ex fx ts w h K) : clsX K "Fountain" = true ∧ (prL.all fun p => propB K p) = true ∧ (cmL.all fun p => cmB K p) = true ∧ (erL.all fun x => errB K x) = true ∧ (bsL.all fun x => baseB K x) = true ∧ (ktL.all fun q => kitB K q) = true ∧ (emL.all fun q => exmB K q) = true := by
  have more := (ba c.more).2
  obtain ⟨z1, z⟩ := ba (ba more).2
  obtain ⟨z2, z⟩ := ba z
  obtain ⟨z3, z⟩ := ba z
  obtain ⟨z4, z⟩ := ba z
  obtain ⟨z5, z⟩ := ba z
  obtain ⟨z6, z7⟩ := ba z
  exact ⟨z1, z2, z3, z4, z5, z6, z7⟩
def ts : List Tab := ([] : List Tab)
abbrev R : PySem.W.OpenRow := PySem.W.OpenLaw.row PySem.Challenge.rw_jetworks_k83_folds_that_are_held
abbrev hk : PySem.W.Hook := hookE 5 fa fn tf ex fx ts
def ob (s : PySem.W.SharedT) : AlE := obsE 5 fa fn tf ex fx ts (HandSHeadRun.getT s)
theorem ob_eq (s : PySem.W.SharedT) : ob s = hk.obs s.abs := obsE_eq (HandSHeadRun.getT_eq s)
def loose : List Str := (["_wall", "__name__", "Adding", "folded", "Fold", "JetError", "NoText", "NoBasin", "NoBranch", "NoPlace", "Closed", "TooLarge", "TooDeep", "NoDivision", "NoDifference", "NoQuotient", "MOST", "DEEPEST", "JET_TEXT", "check_numbers", "basin_numbers", "product_numbers", "parsed", "made", "allowed", "grafted", "cut", "bare_place", "carries", "power"] : List Str) ++ (["multiplied", "Fountain", "_law_feed", "_law_draw", "_law_mixed", "_law_norm", "_law_parts", "_law_size", "_law_grown", "_law_open", "_law_product", "_law_composed", "_law_any", "_law_told", "_law_ordered_sum", "_law_joined", "_law_value", "_law_first"] : List Str)
theorem run (w : World) : HandSHeadRun.RunEq R (PySem.W.view R.prog [51]) hk ob 200000 loose w := by
  intro os
  kernel_rfl
end JW
namespace JW
theorem grf_assoc (p q : T) : ∀ t : T, T.grf p (T.grf q t) = T.grf (T.grf p q) t := by
  refine T.ind' rfl fun l ih => ?_
  have e : l.map (T.grf p ∘ T.grf q) = l.map (T.grf (T.grf p q)) := List.map_congr_left fun t ht => ih t ht
  rw [grf_bas, grf_bas, grf_bas, sortT_congr ((sortT_perm (l.map (T.grf q))).map (T.grf p)), List.map_map, e]
theorem grf_jet : ∀ t : T, Can t → T.grf .jet t = t := by
  refine T.ind' (fun _ => rfl) fun l ih hc => ?_
  have e : l.map (T.grf .jet) = l.map id := List.map_congr_left fun t ht => ih t ht (canL_iff.mp hc.2 t ht)
  rw [grf_bas, e, List.map_id, sortT_of hc.1]
theorem fold_grf : ∀ (b : List T) (f : T), Can f → (∀ t ∈ b, Can t) → b.foldl (fun f t => T.grf t f) f = T.grf (prodT b) f
  | [], f, hf, _ => (grf_jet f hf).symm
  | t :: r, f, hf, h => by
    have hr : ∀ u ∈ r, Can u := fun u hu => h u (List.mem_cons_of_mem _ hu)
    have ht := h t List.mem_cons_self
    show r.foldl (fun f t => T.grf t f) (T.grf t f) = T.grf (r.foldl (fun f t => T.grf t f) t) f
    rw [fold_grf r _ (grf_can ht f) hr, fold_grf r t ht hr, grf_assoc]
theorem prod_cons {t : T} {r : List T} (h : ∀ u ∈ t :: r, Can u) : prodT (t :: r) = T.grf (prodT r) t :=
  fold_grf r t (h t List.mem_cons_self) fun u hu => h u (List.mem_cons_of_mem _ hu)
theorem prod_app {a b : List T} (ha : ∀ u ∈ a, Can u) (hb : ∀ u ∈ b, Can u) : prodT (a ++ b) = T.grf (prodT b) (prodT a) := by
  unfold prodT
  rw [List.foldl_append]
  exact fold_grf b _ (prod_can ha) hb
theorem prod_open {l : List T} (h : ∀ t ∈ l, t.jts ≠ 0) : (prodT l).jts ≠ 0 := by
  have go : ∀ (l : List T) (f : T), f.jts ≠ 0 → (∀ t ∈ l, t.jts ≠ 0) → (l.foldl (fun f t => T.grf t f) f).jts ≠ 0 := by
    intro l
    induction l with
    | nil => intro f hf _; exact hf
    | cons t r ih =>
      intro f hf hl
      refine ih _ ?_ fun u hu => hl u (List.mem_cons_of_mem _ hu)
      rw [grf_jts]
      exact fun z => (Nat.mul_eq_zero.mp z).elim hf (hl t List.mem_cons_self)
  exact go l .jet (by decide) h
def lcp : List T → List T → List T
  | x :: a, y :: b => if x = y then x :: lcp a b else []
  | _, _ => []
theorem lcp_l : ∀ a b : List T, lcp a b <+: a
  | [], _ => List.nil_prefix
  | x :: a, [] => List.nil_prefix
  | x :: a, y :: b => by
    unfold lcp
    split
    · exact List.cons_prefix_cons.mpr ⟨rfl, lcp_l a b⟩
    · exact List.nil_prefix
theorem lcp_r : ∀ a b : List T, lcp a b <+: b
  | [], _ => List.nil_prefix
  | x :: a, [] => List.nil_prefix
  | x :: a, y :: b => by
    unfold lcp
    split
    · rename_i e
      exact List.cons_prefix_cons.mpr ⟨e, lcp_r a b⟩
    · exact List.nil_prefix
theorem lcp_max : ∀ x a b : List T, x <+: a → x <+: b → x <+: lcp a b
  | [], _, _, _, _ => List.nil_prefix
  | x :: r, [], _, h, _ => absurd (List.prefix_nil.mp h) (List.cons_ne_nil _ _)
  | x :: r, y :: a, [], _, h => absurd (List.prefix_nil.mp h) (List.cons_ne_nil _ _)
  | x :: r, y :: a, z :: b, h1, h2 => by
    obtain ⟨e1, h1⟩ := List.cons_prefix_cons.mp h1
    obtain ⟨e2, h2⟩ := List.cons_prefix_cons.mp h2
    unfold lcp
    rw [if_pos (e1.symm.trans e2)]
    exact List.cons_prefix_cons.mpr ⟨e1, lcp_max r a b h1 h2⟩
def lcpL : List (List T) → List T
  | [] => []
  | w :: r => r.foldl lcp w
theorem lcpF_pre : ∀ (r : List (List T)) (w : List T), r.foldl lcp w <+: w ∧ ∀ v ∈ r, r.foldl lcp w <+: v
  | [], w => ⟨List.prefix_refl _, fun _ h => nomatch h⟩
  | v :: r, w => by
    obtain ⟨h1, h2⟩ := lcpF_pre r (lcp w v)
    refine ⟨h1.trans (lcp_l w v), fun u hu => ?_⟩
    rcases List.mem_cons.mp hu with e | e
    · exact e ▸ h1.trans (lcp_r w v)
    · exact h2 u e
theorem lcpF_max {x : List T} : ∀ (r : List (List T)) (w : List T), x <+: w → (∀ v ∈ r, x <+: v) → x <+: r.foldl lcp w
  | [], w, h, _ => h
  | v :: r, w, h, hr => lcpF_max r _ (lcp_max x w v h (hr v List.mem_cons_self)) fun u hu => hr u (List.mem_cons_of_mem _ hu)
def lcsL (ws : List (List T)) : List T := (lcpL (ws.map List.reverse)).reverse
theorem lcs_suf {ws : List (List T)} {w : List T} (h : w ∈ ws) : lcsL ws <:+ w := by
  have h1 : lcpL (ws.map List.reverse) <+: w.reverse := by
    have hm : w.reverse ∈ ws.map List.reverse := List.mem_map_of_mem h
    cases hw : ws.map List.reverse with
    | nil => rw [hw] at hm; cases hm
    | cons v r =>
      rw [hw] at hm
      rcases List.mem_cons.mp hm with e | e
      · exact e ▸ (lcpF_pre r v).1
      · exact (lcpF_pre r v).2 _ e
  have h2 := List.reverse_suffix.mpr h1
  rw [List.reverse_reverse] at h2
  exact h2
theorem lcs_max {ws : List (List T)} {x : List T} (hn : ws ≠ []) (h : ∀ w ∈ ws, x <:+ w) : x <:+ lcsL ws := by
  have h1 : x.reverse <+: lcpL (ws.map List.reverse) := by
    have hm : ∀ v ∈ ws.map List.reverse, x.reverse <+: v := fun v hv => by
      obtain ⟨w, hw, e⟩ := List.mem_map.mp hv
      exact e ▸ List.reverse_prefix.mpr (h w hw)
    cases hw : ws.map List.reverse with
    | nil => exact absurd (List.map_eq_nil_iff.mp hw) hn
    | cons v r =>
      rw [hw] at hm
      exact lcpF_max r v (hm v List.mem_cons_self) fun u hu => hm u (List.mem_cons_of_mem _ hu)
  have h2 := List.reverse_suffix.mpr h1
  rw [List.reverse_reverse] at h2
  exact h2
theorem suf_anti {a b : List T} (h1 : a <:+ b) (h2 : b <:+ a) : a = b := h1.eq_of_length (Nat.le_antisymm h1.length_le h2.length_le)
theorem lcs_eq {ws : List (List T)} {s : List T} (hn : ws ≠ []) (h1 : ∀ w ∈ ws, s <:+ w) (h2 : ∀ x, (∀ w ∈ ws, x <:+ w) → x <:+ s) : lcsL ws = s :=
  suf_anti (h2 _ fun _ h => lcs_suf h) (lcs_max hn h1)
theorem lcs_mem {ws vs : List (List T)} (hn : ws ≠ []) (h : ∀ w, w ∈ ws ↔ w ∈ vs) : lcsL ws = lcsL vs := by
  have hv : vs ≠ [] := fun z => by
    cases ws with
    | nil => exact hn rfl
    | cons w r =>
      have := (h w).mp List.mem_cons_self
      rw [z] at this
      cases this
  exact lcs_eq hn (fun w hw => lcs_suf ((h w).mp hw)) fun x hx => lcs_max hv fun w hw => hx w ((h w).mpr hw)
theorem lcs_app {ws : List (List T)} (hn : ws ≠ []) (x : List T) : lcsL (ws.map (· ++ x)) = lcsL ws ++ x := by
  refine lcs_eq (fun z => hn (List.map_eq_nil_iff.mp z)) (fun w hw => ?_) fun y hy => ?_
  · obtain ⟨v, hv, e⟩ := List.mem_map.mp hw
    obtain ⟨t, ht⟩ := lcs_suf hv
    exact ⟨t, by rw [← e, ← ht, List.append_assoc]⟩
  · have hy2 : ∀ w ∈ ws, y <:+ w ++ x := fun w hw => hy _ (List.mem_map_of_mem (f := (· ++ x)) hw)
    by_cases hl : y.length ≤ x.length
    · cases ws with
      | nil => exact absurd rfl hn
      | cons w r =>
        have h1 : y <:+ x := List.suffix_of_suffix_length_le (hy2 w List.mem_cons_self) (List.suffix_append _ _) hl
        exact h1.trans (List.suffix_append _ _)
    · obtain ⟨z, rfl⟩ : ∃ z, z ++ x = y := by
        cases ws with
        | nil => exact absurd rfl hn
        | cons w r => exact List.suffix_of_suffix_length_le (List.suffix_append w _) (hy2 w List.mem_cons_self) (by omega)
      have h1 : z <:+ lcsL ws := lcs_max hn fun w hw => by
        obtain ⟨t, ht⟩ := hy2 w hw
        exact ⟨t, List.append_cancel_right (by rw [List.append_assoc]; exact ht)⟩
      obtain ⟨t, ht⟩ := h1
      exact ⟨t, by rw [← ht, List.append_assoc]⟩
mutual
def T.word : T → List T
  | .jet => []
  | .bas l => cutT (prodT (lcsL (wordsL l))) (.bas l) :: lcsL (wordsL l)
def wordsL : List T → List (List T)
  | [] => []
  | t :: r => if t.jts = 0 then wordsL r else t.word :: wordsL r
end
theorem mem_words {w : List T} : ∀ {l : List T}, w ∈ wordsL l ↔ ∃ t ∈ l, t.jts ≠ 0 ∧ t.word = w
  | [] => ⟨fun h => (nomatch h), fun ⟨_, h, _⟩ => (nomatch h)⟩
  | t :: r => by
    show w ∈ (if t.jts = 0 then wordsL r else t.word :: wordsL r) ↔ _
    split
    · rename_i z
      rw [mem_words]
      refine ⟨fun ⟨u, hu, h⟩ => ⟨u, List.mem_cons_of_mem _ hu, h⟩, fun ⟨u, hu, h1, h2⟩ => ?_⟩
      rcases List.mem_cons.mp hu with e | e
      · exact absurd (e ▸ z) h1
      · exact ⟨u, e, h1, h2⟩
    · rename_i z
      rw [List.mem_cons, mem_words]
      constructor
      · rintro (e | ⟨u, hu, h⟩)
        · exact ⟨t, List.mem_cons_self, z, e.symm⟩
        · exact ⟨u, List.mem_cons_of_mem _ hu, h⟩
      · rintro ⟨u, hu, h1, h2⟩
        rcases List.mem_cons.mp hu with e | e
        · exact .inl (by rw [← e, h2])
        · exact .inr ⟨u, e, h1, h2⟩
theorem open_branch : ∀ {l : List T}, jtsL l ≠ 0 → ∃ t ∈ l, t.jts ≠ 0
  | [], h => absurd rfl h
  | t :: r, h => by
    by_cases z : t.jts = 0
    · have h2 : jtsL r ≠ 0 := fun z2 => h (by show t.jts + jtsL r = 0; omega)
      obtain ⟨u, hu, hz⟩ := open_branch h2
      exact ⟨u, List.mem_cons_of_mem _ hu, hz⟩
    · exact ⟨t, List.mem_cons_self, z⟩
theorem words_ne {l : List T} (h : jtsL l ≠ 0) : wordsL l ≠ [] := fun z => by
  obtain ⟨t, ht, hj⟩ := open_branch h
  have := (mem_words (w := t.word)).mpr ⟨t, ht, hj, rfl⟩
  rw [z] at this
  cases this
def Op (t : T) : Prop := Can t ∧ t.jts ≠ 0
theorem cut_part {l : List T} (hc : Can (.bas l)) (ho : jtsL l ≠ 0) (ih : ∀ t ∈ l, Op t → prodT t.word = t ∧ ∀ q ∈ t.word, Op q) :
    (∀ q ∈ lcsL (wordsL l), Op q) ∧ Op (cutT (prodT (lcsL (wordsL l))) (.bas l)) ∧ T.grf (prodT (lcsL (wordsL l))) (cutT (prodT (lcsL (wordsL l))) (.bas l)) = .bas l ∧ T.bas l ≠ prodT (lcsL (wordsL l)) := by
  obtain ⟨t0, ht0, hj0⟩ := open_branch ho
  have hcl := canL_iff.mp hc.2
  have hs : ∀ t ∈ l, t.jts ≠ 0 → lcsL (wordsL l) <:+ t.word := fun t ht hj => lcs_suf (mem_words.mpr ⟨t, ht, hj, rfl⟩)
  have he : ∀ q ∈ lcsL (wordsL l), Op q := fun q hq => (ih t0 ht0 ⟨hcl t0 ht0, hj0⟩).2 q ((hs t0 ht0 hj0).subset hq)
  generalize lcsL (wordsL l) = e at hs he ⊢
  have hE : Can (prodT e) := prod_can fun q hq => (he q hq).1
  have hEo : (prodT e).jts ≠ 0 := prod_open fun q hq => (he q hq).2
  have hp : ∀ t ∈ l, t.jts ≠ 0 → ∃ v, Op v ∧ t = T.grf (prodT e) v := fun t ht hj => by
    obtain ⟨h1, h2⟩ := ih t ht ⟨hcl t ht, hj⟩
    obtain ⟨v, hv⟩ := hs t ht hj
    have hvo : ∀ q ∈ v, Op q := fun q hq => h2 q (hv ▸ List.mem_append_left _ hq)
    refine ⟨prodT v, ⟨prod_can fun q hq => (hvo q hq).1, prod_open fun q hq => (hvo q hq).2⟩, ?_⟩
    rw [← prod_app (fun q hq => (hvo q hq).1) fun q hq => (he q hq).1, hv, h1]
  have hb : ∀ t ∈ l, Can (cutT (prodT e) t) ∧ T.grf (prodT e) (cutT (prodT e) t) = t := fun t ht => by
    by_cases hj : t.jts = 0
    · have hne : t ≠ prodT e := fun z => hEo (by rw [← z]; exact hj)
      rw [cut_closed hne hj]
      exact ⟨hcl t ht, grf_closed _ _ (hcl t ht) hj⟩
    · obtain ⟨v, hv, ev⟩ := hp t ht hj
      have h1 : cutT (prodT e) t = v := by
        rw [ev]
        exact cut_grf (Nat.pos_of_ne_zero hEo) v hv.1
      rw [h1]
      exact ⟨hv.1, ev.symm⟩
  have hne : T.bas l ≠ prodT e := fun z => by
    obtain ⟨v, hv, ev⟩ := hp t0 ht0 hj0
    have h1 := size_mem ht0
    have h2 := grf_size (prodT e) v
    have h3 := jts_le v
    have h4 : 1 * (prodT e).size ≤ v.jts * (prodT e).size := Nat.mul_le_mul_right _ (Nat.pos_of_ne_zero hv.2)
    rw [← ev] at h2
    rw [z] at h1
    omega
  have hg : T.grf (prodT e) (cutT (prodT e) (.bas l)) = .bas l := by
    rw [cut_open hne ho, grf_bas, sortT_congr ((sortT_perm (l.map (cutT (prodT e)))).map (T.grf (prodT e))), List.map_map]
    have em : l.map (T.grf (prodT e) ∘ cutT (prodT e)) = l.map id := List.map_congr_left fun t ht => (hb t ht).2
    rw [em, List.map_id, sortT_of hc.1]
  refine ⟨he, ⟨?_, fun z => ?_⟩, hg, hne⟩
  · rw [cut_open hne ho]
    refine can_bas (canL_iff.mpr fun t ht => ?_)
    obtain ⟨u, hu, eu⟩ := List.mem_map.mp ht
    exact eu ▸ (hb u hu).1
  · have h1 := grf_jts (prodT e) (cutT (prodT e) (.bas l))
    rw [hg, z, Nat.zero_mul] at h1
    exact ho h1
theorem word_prod : ∀ t : T, Op t → prodT t.word = t ∧ ∀ q ∈ t.word, Op q := by
  refine T.ind' (fun _ => ⟨rfl, fun _ h => nomatch h⟩) fun l ih h => ?_
  obtain ⟨h1, h2, h3, _⟩ := cut_part h.1 h.2 ih
  have ha : ∀ q ∈ (T.bas l).word, Op q := fun q hq => by
    rcases List.mem_cons.mp (show q ∈ cutT (prodT (lcsL (wordsL l))) (.bas l) :: lcsL (wordsL l) from hq) with e | e
    · exact e ▸ h2
    · exact h1 q e
  refine ⟨?_, ha⟩
  show prodT (cutT (prodT (lcsL (wordsL l))) (.bas l) :: lcsL (wordsL l)) = _
  rw [prod_cons fun q hq => (ha q hq).1, h3]
theorem word_part {l : List T} (h : Op (.bas l)) : (∀ q ∈ lcsL (wordsL l), Op q) ∧ Op (cutT (prodT (lcsL (wordsL l))) (.bas l)) ∧ T.grf (prodT (lcsL (wordsL l))) (cutT (prodT (lcsL (wordsL l))) (.bas l)) = .bas l ∧ T.bas l ≠ prodT (lcsL (wordsL l)) :=
  cut_part h.1 h.2 fun t _ => word_prod t
theorem word_grf {p : T} (hp : Op p) : ∀ t : T, Op t → (T.grf p t).word = t.word ++ p.word := by
  refine T.ind' (fun _ => rfl) fun l ih h => ?_
  have hpp := (word_prod p hp).1
  have hpw := (word_prod p hp).2
  have hcl := canL_iff.mp h.1.2
  obtain ⟨h1, h2, h3, h4⟩ := word_part h
  have hne := words_ne h.2
  have hw : lcsL (wordsL (sortT (l.map (T.grf p)))) = lcsL (wordsL l) ++ p.word := by
    rw [← lcs_app hne]
    refine (lcs_mem (fun z => hne (List.map_eq_nil_iff.mp z)) fun w => ?_).symm
    rw [mem_words, List.mem_map]
    constructor
    · rintro ⟨v, hv, rfl⟩
      obtain ⟨t, ht, hj, rfl⟩ := mem_words.mp hv
      refine ⟨T.grf p t, (sortT_perm _).mem_iff.mpr (List.mem_map_of_mem ht), ?_, ih t ht ⟨hcl t ht, hj⟩⟩
      rw [grf_jts]
      exact fun z => (Nat.mul_eq_zero.mp z).elim hj hp.2
    · rintro ⟨u, hu, hj, rfl⟩
      obtain ⟨t, ht, rfl⟩ := List.mem_map.mp ((sortT_perm _).mem_iff.mp hu)
      rw [grf_jts] at hj
      have hj2 : t.jts ≠ 0 := fun z => hj (by rw [z, Nat.zero_mul])
      exact ⟨t.word, mem_words.mpr ⟨t, ht, hj2, rfl⟩, (ih t ht ⟨hcl t ht, hj2⟩).symm⟩
  rw [grf_bas]
  show cutT (prodT (lcsL (wordsL (sortT (l.map (T.grf p)))))) (.bas (sortT (l.map (T.grf p)))) :: lcsL (wordsL (sortT (l.map (T.grf p)))) = cutT (prodT (lcsL (wordsL l))) (.bas l) :: lcsL (wordsL l) ++ p.word
  rw [hw, prod_app (fun q hq => (h1 q hq).1) fun q hq => (hpw q hq).1, hpp, ← grf_bas]
  have e1 : T.grf p (.bas l) = T.grf (T.grf p (prodT (lcsL (wordsL l)))) (cutT (prodT (lcsL (wordsL l))) (.bas l)) := by
    rw [← grf_assoc, h3]
  rw [e1, cut_grf ?_ _ h2.1]
  · rfl
  rw [grf_jts]
  exact Nat.mul_pos (Nat.pos_of_ne_zero (prod_open fun q hq => (h1 q hq).2)) (Nat.pos_of_ne_zero hp.2)
def Prm (q : T) : Prop := q.word = [q]
theorem word_of_primes : ∀ e : List T, (∀ q ∈ e, Op q ∧ Prm q) → (prodT e).word = e
  | [], _ => rfl
  | q :: r, h => by
    have hr : ∀ u ∈ r, Op u ∧ Prm u := fun u hu => h u (List.mem_cons_of_mem _ hu)
    have hq := h q List.mem_cons_self
    have hE : Op (prodT r) := ⟨prod_can fun u hu => (hr u hu).1.1, prod_open fun u hu => (hr u hu).1.2⟩
    rw [prod_cons fun u hu => (h u hu).1.1, word_grf hE q hq.1, word_of_primes r hr, hq.2]
    rfl
theorem word_prime : ∀ t : T, Op t → ∀ q ∈ t.word, Prm q := by
  refine T.ind' (fun _ _ h => nomatch h) fun l ih h => ?_
  obtain ⟨h1, h2, h3, h4⟩ := word_part h
  obtain ⟨t0, ht0, hj0⟩ := open_branch h.2
  have hcl := canL_iff.mp h.1.2
  have hs : lcsL (wordsL l) <:+ t0.word := lcs_suf (mem_words.mpr ⟨t0, ht0, hj0, rfl⟩)
  have he : ∀ q ∈ lcsL (wordsL l), Prm q := fun q hq => ih t0 ht0 ⟨hcl t0 ht0, hj0⟩ q (hs.subset hq)
  have hE : Op (prodT (lcsL (wordsL l))) := ⟨prod_can fun u hu => (h1 u hu).1, prod_open fun u hu => (h1 u hu).2⟩
  have hw : (T.bas l).word = (cutT (prodT (lcsL (wordsL l))) (.bas l)).word ++ lcsL (wordsL l) := by
    have h5 := word_grf hE _ h2
    rw [h3, word_of_primes _ fun q hq => ⟨h1 q hq, he q hq⟩] at h5
    exact h5
  intro q hq
  rcases List.mem_cons.mp (show q ∈ cutT (prodT (lcsL (wordsL l))) (.bas l) :: lcsL (wordsL l) from hq) with e | e
  · have h6 : [cutT (prodT (lcsL (wordsL l))) (.bas l)] ++ lcsL (wordsL l) = (cutT (prodT (lcsL (wordsL l))) (.bas l)).word ++ lcsL (wordsL l) := hw
    rw [e]
    exact (List.append_cancel_right h6).symm
  · exact he q e
end JW
namespace JW
open PySem PySem.Spec PyProof.Rows L2
structure CallS (P : Program) (w : World) (K : PySem.W.Frag) (mg : Str → Option Value) (base : Heap) (CX : CXT) (k : Nat) (x : Str) (sp : Sp) : Prop where
  ex : ∃ f, mg x = some (.ref f) ∧ PySem.W.keepIn K (.ref f) = true ∧ FnR P w K mg base CX k f sp
structure StarAt (K : PySem.W.Frag) (mg : Str → Option Value) (x qual : Str) (st : Stmt) (ps : List Str) (pv : Str) : Prop where
  ex : ∃ f fd, mg x = some (.ref f) ∧ FunD K x qual (defArgs st) (defBody st) (defScope st) [] [] f fd ∧ ∀ us rest : List Value, us.length = ps.length → bindArgs fd ⟨us ++ rest, []⟩ = (newTuple rest >>= fun t => pure (ps.zip us ++ [(pv, t)]))
def starSp (n : Nat) (sp : Sp) : Sp := fun vs H Q E => ∃ ws rest, vs = ws ++ rest ∧ ws.length = n ∧ rest.length ≤ sizeLine ∧ ∀ p, H p = Option.none → sp (ws ++ [V.ref p]) (upd H p (.tup rest)) Q E
section
variable {P : Program} {w : World} {K : PySem.W.Frag} {mg : Str → Option Value} {base : Heap}
theorem StarAt.ok {x qual : Str} {st : Stmt} {N ps : List Str} {pv : Str} {k : Nat} {sp : Sp} (D : StarAt K mg x qual st ps pv) (S : FnScope N (ps ++ [pv]) (defScope st))
    (hbody : ∀ (f : Addr) (cdv : Value) (A : Around) (outer : List Env) (s : Shared) (H : Hp) (vs : List V) (Q : VK) (E : XK), Room k (A.deeper (envOfC qual (defScope st) s.heap.objs.size f cdv)) → sp vs H Q E →
      ∃ t, PSs (cxOf CX0 P w K mg base N qual (defScope st) f cdv A outer s H E).nox (defBody st) t ∧ t { nx := fun _ H' => Q .non H', rt := Q } (start N vs) H) : CallS P w K mg base CX0 (k + 1) x (starSp ps.length sp) := by
  obtain ⟨f, fd, h1, F, hb⟩ := D.ex
  have hk := F.kp
  obtain ⟨oc, od, dV, kV, doc, pm, an, cdv, ct, osl, rfl, lk, hcd, _, _⟩ := F.ex
  refine ⟨f, h1, hk, StX.fn_star lk hcd S StX.cxUp_none hb fun A outer s H vs Q E hr h => ?_⟩
  obtain ⟨t, h, q⟩ := hbody f cdv A outer s H vs Q E hr h
  exact ⟨t, h.nox, q⟩
end
section
variable {X : Cx} {CX : CXT} {k : Nat} {sp : Sp} {E : XK} {x : Str} {p pos : Pos} {e : Expr} {es : List Expr} {t : TA}
end
end JW
namespace JW
open PySem PySem.Spec PyProof.Rows L2
def opK (l : List T) (n : Nat) (t : T) : Prop := t.jts ≠ 0 ∧ (n = 0 ∨ l[n - 1]? ≠ some t)
instance (l : List T) (n : Nat) (t : T) : Decidable (opK l n t) := by unfold opK; exact inferInstance
end JW
namespace JW
end JW
namespace AL
open PySem PySem.Spec PyProof.Rows L2 LamX JW
inductive D where
  | non | bl (b : Bool) | int (i : Int) | str (s : Str) | ref (p : Addr) | ty (n : String) | scr | tree (t : T)
  | tup (l : List D) | obj (C : Addr) (ks : List Str) (ds : List D) | err (C : Addr) (ks : List Str) (ds : List D)
  | imm (P : Hp → Addr → Prop)
inductive MO where
  | lst (l : List D) | dct (l : List (Key × D)) | ins (C : Addr) (ks : List Str) (ds : List D) | opq (P : HO → Prop) | lsq (P : List D → Prop)
abbrev Store := Addr → Option MO
def sput (L : Store) (p : Addr) (m : MO) : Store := fun q => if q = p then some m else L q
theorem sput_same {L : Store} {p : Addr} {m : MO} : sput L p m p = some m := by unfold sput; rw [if_pos rfl]
theorem sput_ne {L : Store} {p q : Addr} {m : MO} (h : q ≠ p) : sput L p m q = L q := by unfold sput; rw [if_neg h]
theorem sput_sput {L : Store} {p : Addr} {m n : MO} : sput (sput L p m) p n = sput L p n := by
  funext q; unfold sput; split <;> rfl
theorem sput_old {L : Store} {p q : Addr} {m n : MO} (h : L q = some m) (hp : L p = none) : sput L p n q = some m := by
  rw [sput_ne fun e => by rw [e, hp] at h; cases h]
  exact h
structure AC (K : PySem.W.Frag) where
  TT : List (Addr × Str)
  imm : List Str
  scr : Option (Addr × List Int)
def IC {K : PySem.W.Frag} (c : AC K) (C : Addr) : Prop := C = cF K ∨ ∃ x ∈ c.imm, C = He.ga K x
def Imm {K : PySem.W.Frag} (c : AC K) : HO → Prop
  | .tup _ => True
  | .ins C _ _ => IC c C
  | .frz _ _ => True
  | .xd _ => True
  | .ext _ => True
  | _ => False
def Fr {K : PySem.W.Frag} (c : AC K) (H H' : Hp) : Prop := ∀ a o, H a = some o → Imm c o → H' a = some o
section
variable {K : PySem.W.Frag} {c : AC K} {H H1 H' : Hp}
theorem Fr.refl (c : AC K) (H : Hp) : Fr c H H := fun _ _ h _ => h
theorem Fr.trans (a : Fr c H H1) (b : Fr c H1 H') : Fr c H H' := fun p o h i => b p o (a p o h i) i
theorem Fr.same (s : L2.Same H H') : Fr c H H' := fun p o h _ => s p o h
theorem Fr.new {p : Addr} {o : HO} (hp : H p = none) : Fr c H (upd H p o) := fun q u h _ => by
  rw [upd_ne (ne_of_none h hp)]
  exact h
theorem Fr.put {p : Addr} {o u : HO} (hp : H p = some u) (n : ¬ Imm c u) : Fr c H (upd H p o) := fun q v h i => by
  rw [upd_ne fun e => by subst e; rw [hp] at h; cases h; exact n i]
  exact h
theorem Fr.extN (s : ExtN H H') : Fr c H H' := fun p o h i => s p o h fun ps z => by subst z; exact i.elim
end
def ErrO (H : Hp) (a C : Addr) (fs : List (Str × V)) : Prop := ∃ (d : Option Addr) (φ : Heap → Prop), H a = some (.ext φ) ∧ (∀ h, φ h → ∃ o, h.get? a = some o ∧ o.cls = .ref C ∧ o.dict = d ∧ ∃ vs, o.data = .fields vs) ∧
  ((d = none ∧ fs = []) ∨ ∃ dd, d = some dd ∧ (H dd = some (.xd fs) ∨ H dd = some (exd dd fs)))
theorem ErrO.fr {K : PySem.W.Frag} {c : AC K} {H H' : Hp} {a C : Addr} {fs : List (Str × V)} (h : ErrO H a C fs) (s : Fr c H H') : ErrO H' a C fs := by
  obtain ⟨d, φ, e1, e2, e3⟩ := h
  refine ⟨d, φ, s _ _ e1 trivial, e2, ?_⟩
  rcases e3 with e | ⟨dd, e, e4 | e4⟩
  · exact .inl e
  · exact .inr ⟨dd, e, .inl (s _ _ e4 trivial)⟩
  · exact .inr ⟨dd, e, .inr (s _ _ e4 trivial)⟩
def KeepI (a : Addr) (o : HO) : Prop := (∃ ob u, o = .frz ob u) ∨ ∃ q, o = CodeO a q
def FrI (H H' : Hp) : Prop := ∀ a o, H a = some o → KeepI a o → H' a = some o
theorem FrI.trans {H H1 H' : Hp} (a : FrI H H1) (b : FrI H1 H') : FrI H H' := fun p o h k => b p o (a p o h k) k
theorem Fr.fri {K : PySem.W.Frag} {c : AC K} {H H' : Hp} (s : Fr c H H') : FrI H H' := fun a o h k => s a o h (by
  rcases k with ⟨ob, u, rfl⟩ | ⟨q, rfl⟩
  · trivial
  · trivial)
mutual
def RepC {K : PySem.W.Frag} (c : AC K) (H : Hp) : D → V → Prop
  | .non, v => v = .non
  | .bl b, v => v = .bl b
  | .int i, v => v = .int i
  | .str s, v => v = .str s
  | .ref p, v => v = .ref p
  | .ty n, v => v = .ty n
  | .scr, v => ∃ a ns, c.scr = some (a, ns) ∧ v = .ref a
  | .tree t, v => Ftn (cF K) H t v
  | .tup l, v => ∃ a vs, v = .ref a ∧ SqT K H a vs ∧ RepCL c H l vs
  | .obj C ks ds, v => ∃ a dx vs, v = .ref a ∧ H a = some (.ins C dx (ks.zip vs)) ∧ IC c C ∧ ks.length = ds.length ∧ RepCL c H ds vs
  | .err C ks ds, v => ∃ a vs, v = .ref a ∧ ErrO H a C (ks.zip vs) ∧ ks.length = ds.length ∧ RepCL c H ds vs
  | .imm P, v => ∃ a, v = .ref a ∧ P H a ∧ ∀ H', FrI H H' → P H' a
def RepCL {K : PySem.W.Frag} (c : AC K) (H : Hp) : List D → List V → Prop
  | [], vs => vs = []
  | d :: ds, vs => ∃ v r, vs = v :: r ∧ RepC c H d v ∧ RepCL c H ds r
end
structure Rep {K : PySem.W.Frag} (c : AC K) (H : Hp) (d : D) (v : V) : Prop where
  core : RepC c H d v
structure RepL {K : PySem.W.Frag} (c : AC K) (H : Hp) (l : List D) (vs : List V) : Prop where
  core : RepCL c H l vs
section
variable {K : PySem.W.Frag} {c : AC K} {H H1 H' : Hp}
theorem repL_nil {vs : List V} : RepL c H [] vs ↔ vs = [] := ⟨fun h => by have := h.core; simpa only [RepCL] using this, fun h => ⟨by simpa only [RepCL] using h⟩⟩
theorem repL_cons {d : D} {ds : List D} {vs : List V} : RepL c H (d :: ds) vs ↔ ∃ v r, vs = v :: r ∧ Rep c H d v ∧ RepL c H ds r := by
  constructor
  · rintro ⟨h⟩
    have h2 : ∃ v r, vs = v :: r ∧ RepC c H d v ∧ RepCL c H ds r := by simpa only [RepCL] using h
    obtain ⟨v, r, e, h1, h3⟩ := h2
    exact ⟨v, r, e, ⟨h1⟩, ⟨h3⟩⟩
  · rintro ⟨v, r, e, ⟨h1⟩, ⟨h3⟩⟩
    refine ⟨?_⟩
    simp only [RepCL]
    exact ⟨v, r, e, h1, h3⟩
theorem rep_tree {t : T} {v : V} : Rep c H (.tree t) v ↔ Ftn (cF K) H t v := ⟨fun h => by have := h.core; simpa only [RepC] using this, fun h => ⟨by simpa only [RepC] using h⟩⟩
theorem rep_tup {l : List D} {v : V} : Rep c H (.tup l) v ↔ ∃ a vs, v = .ref a ∧ SqT K H a vs ∧ RepL c H l vs := by
  constructor
  · rintro ⟨h⟩
    have h2 : ∃ a vs, v = .ref a ∧ SqT K H a vs ∧ RepCL c H l vs := by simpa only [RepC] using h
    obtain ⟨a, vs, e, h1, h3⟩ := h2
    exact ⟨a, vs, e, h1, ⟨h3⟩⟩
  · rintro ⟨a, vs, e, h1, ⟨h3⟩⟩
    refine ⟨?_⟩
    simp only [RepC]
    exact ⟨a, vs, e, h1, h3⟩
theorem rep_obj {C : Addr} {ks : List Str} {ds : List D} {v : V} : Rep c H (.obj C ks ds) v ↔ ∃ a dx vs, v = .ref a ∧ H a = some (.ins C dx (ks.zip vs)) ∧ IC c C ∧ ks.length = ds.length ∧ RepL c H ds vs := by
  constructor
  · rintro ⟨h⟩
    have h2 : ∃ a dx vs, v = .ref a ∧ H a = some (.ins C dx (ks.zip vs)) ∧ IC c C ∧ ks.length = ds.length ∧ RepCL c H ds vs := by simpa only [RepC] using h
    obtain ⟨a, dx, vs, e, h1, h2, h4, h3⟩ := h2
    exact ⟨a, dx, vs, e, h1, h2, h4, ⟨h3⟩⟩
  · rintro ⟨a, dx, vs, e, h1, h2, h4, ⟨h3⟩⟩
    refine ⟨?_⟩
    simp only [RepC]
    exact ⟨a, dx, vs, e, h1, h2, h4, h3⟩
theorem rep_err {C : Addr} {ks : List Str} {ds : List D} {v : V} : Rep c H (.err C ks ds) v ↔ ∃ a vs, v = .ref a ∧ ErrO H a C (ks.zip vs) ∧ ks.length = ds.length ∧ RepL c H ds vs := by
  constructor
  · rintro ⟨h⟩
    have h2 : ∃ a vs, v = .ref a ∧ ErrO H a C (ks.zip vs) ∧ ks.length = ds.length ∧ RepCL c H ds vs := by simpa only [RepC] using h
    obtain ⟨a, vs, e, h1, h2, h3⟩ := h2
    exact ⟨a, vs, e, h1, h2, ⟨h3⟩⟩
  · rintro ⟨a, vs, e, h1, h2, ⟨h3⟩⟩
    refine ⟨?_⟩
    simp only [RepC]
    exact ⟨a, vs, e, h1, h2, h3⟩
theorem rep_imm {P : Hp → Addr → Prop} {v : V} : Rep c H (.imm P) v ↔ ∃ a, v = .ref a ∧ P H a ∧ ∀ H', FrI H H' → P H' a := ⟨fun h => by have := h.core; simpa only [RepC] using this, fun h => ⟨by simpa only [RepC] using h⟩⟩
theorem rep_imm_fr {P : Hp → Addr → Prop} {v : V} (s : FrI H H') (h : Rep c H (.imm P) v) : Rep c H' (.imm P) v := by
  obtain ⟨a, e, _, h2⟩ := rep_imm.mp h
  exact rep_imm.mpr ⟨a, e, h2 _ s, fun _ t => h2 _ (s.trans t)⟩
theorem rep_non {v : V} : Rep c H .non v ↔ v = .non := ⟨fun h => by have := h.core; simpa only [RepC] using this, fun h => ⟨by simpa only [RepC] using h⟩⟩
theorem rep_bl {b : Bool} {v : V} : Rep c H (.bl b) v ↔ v = .bl b := ⟨fun h => by have := h.core; simpa only [RepC] using this, fun h => ⟨by simpa only [RepC] using h⟩⟩
theorem rep_int {i : Int} {v : V} : Rep c H (.int i) v ↔ v = .int i := ⟨fun h => by have := h.core; simpa only [RepC] using this, fun h => ⟨by simpa only [RepC] using h⟩⟩
theorem rep_str {z : Str} {v : V} : Rep c H (.str z) v ↔ v = .str z := ⟨fun h => by have := h.core; simpa only [RepC] using this, fun h => ⟨by simpa only [RepC] using h⟩⟩
theorem rep_ref {p : Addr} {v : V} : Rep c H (.ref p) v ↔ v = .ref p := ⟨fun h => by have := h.core; simpa only [RepC] using this, fun h => ⟨by simpa only [RepC] using h⟩⟩
theorem rep_ty {n : String} {v : V} : Rep c H (.ty n) v ↔ v = .ty n := ⟨fun h => by have := h.core; simpa only [RepC] using this, fun h => ⟨by simpa only [RepC] using h⟩⟩
theorem rep_scr {v : V} : Rep c H .scr v ↔ ∃ a ns, c.scr = some (a, ns) ∧ v = .ref a := ⟨fun h => by have := h.core; simpa only [RepC] using this, fun h => ⟨by simpa only [RepC] using h⟩⟩
mutual
theorem ftn_fr (s : Fr c H H') : ∀ (t : T) (v : V), Ftn (cF K) H t v → Ftn (cF K) H' t v
  | .jet, v, h => by
    have h2 : ∃ a dx b n, v = .ref a ∧ H a = some (.ins (cF K) dx (flds .jet b n)) ∧ H b = some (.tup []) ∧ H n = some (.tup (nums .jet)) := h
    obtain ⟨a, dx, b, n, ev, h1, h2, h3⟩ := h2
    exact ⟨a, dx, b, n, ev, s _ _ h1 (.inl rfl), s _ _ h2 trivial, s _ _ h3 trivial⟩
  | .bas l, v, h => by
    have h2 : ∃ a dx b n vs, v = .ref a ∧ H a = some (.ins (cF K) dx (flds (.bas l) b n)) ∧ H b = some (.tup vs) ∧ H n = some (.tup (nums (.bas l))) ∧ FtnL (cF K) H l vs := h
    obtain ⟨a, dx, b, n, vs, ev, h1, h2, h3, h4⟩ := h2
    exact ⟨a, dx, b, n, vs, ev, s _ _ h1 (.inl rfl), s _ _ h2 trivial, s _ _ h3 trivial, ftnL_fr s l vs h4⟩
theorem ftnL_fr (s : Fr c H H') : ∀ (l : List T) (vs : List V), FtnL (cF K) H l vs → FtnL (cF K) H' l vs
  | [], vs, h => h
  | t :: ts, vs, h => by
    have h2 : ∃ v r, vs = v :: r ∧ Ftn (cF K) H t v ∧ FtnL (cF K) H ts r := h
    obtain ⟨v, r, ev, h1, h2⟩ := h2
    exact ⟨v, r, ev, ftn_fr s t v h1, ftnL_fr s ts r h2⟩
end
theorem sqT_fr (s : Fr c H H') {a : Addr} {vs : List V} (h : SqT K H a vs) : SqT K H' a vs := by
  rcases h with (h | ⟨o, h⟩) | h
  · exact .inl (.inl (s _ _ h trivial))
  · exact .inl (.inr ⟨o, s _ _ h trivial⟩)
  · exact .inr h
mutual
theorem rep_fr (s : Fr c H H') : ∀ (d : D) (v : V), Rep c H d v → Rep c H' d v
  | .non, v, h => rep_non.mpr (rep_non.mp h)
  | .bl _, v, h => rep_bl.mpr (rep_bl.mp h)
  | .int _, v, h => rep_int.mpr (rep_int.mp h)
  | .str _, v, h => rep_str.mpr (rep_str.mp h)
  | .ref _, v, h => rep_ref.mpr (rep_ref.mp h)
  | .ty _, v, h => rep_ty.mpr (rep_ty.mp h)
  | .scr, v, h => rep_scr.mpr (rep_scr.mp h)
  | .tree t, v, h => rep_tree.mpr (ftn_fr s t v (rep_tree.mp h))
  | .tup l, v, h => by
    obtain ⟨a, vs, e, h1, h3⟩ := rep_tup.mp h
    exact rep_tup.mpr ⟨a, vs, e, sqT_fr s h1, repL_fr s l vs h3⟩
  | .obj C ks ds, v, h => by
    obtain ⟨a, dx, vs, e, h1, h4, h5, h3⟩ := rep_obj.mp h
    exact rep_obj.mpr ⟨a, dx, vs, e, s _ _ h1 h4, h4, h5, repL_fr s ds vs h3⟩
  | .err C ks ds, v, h => by
    obtain ⟨a, vs, e, h1, h5, h3⟩ := rep_err.mp h
    exact rep_err.mpr ⟨a, vs, e, h1.fr s, h5, repL_fr s ds vs h3⟩
  | .imm _, _, h => rep_imm_fr s.fri h
theorem repL_fr (s : Fr c H H') : ∀ (l : List D) (vs : List V), RepL c H l vs → RepL c H' l vs
  | [], vs, h => repL_nil.mpr (repL_nil.mp h)
  | d :: ds, vs, h => by
    obtain ⟨v, r, e, h1, h3⟩ := repL_cons.mp h
    exact repL_cons.mpr ⟨v, r, e, rep_fr s d v h1, repL_fr s ds r h3⟩
end
theorem Rep.fr {d : D} {v : V} (h : Rep c H d v) (s : Fr c H H') : Rep c H' d v := rep_fr s d v h
theorem RepL.fr {l : List D} {vs : List V} (h : RepL c H l vs) (s : Fr c H H') : RepL c H' l vs := repL_fr s l vs h
theorem RepL.len : ∀ {l : List D} {vs : List V}, RepL c H l vs → vs.length = l.length
  | [], vs, h => by rw [repL_nil.mp h]; rfl
  | d :: ds, vs, h => by
    obtain ⟨v, r, rfl, _, h2⟩ := repL_cons.mp h
    show r.length + 1 = ds.length + 1
    rw [h2.len]
theorem RepL.get : ∀ {l : List D} {vs : List V} {i : Nat} {d : D}, RepL c H l vs → l[i]? = some d → ∃ v, vs[i]? = some v ∧ Rep c H d v
  | [], vs, i, d, h, e => by simp at e
  | x :: ds, vs, 0, d, h, e => by
    obtain ⟨v, r, rfl, h1, h2⟩ := repL_cons.mp h
    simp at e
    subst e
    exact ⟨v, rfl, h1⟩
  | x :: ds, vs, i + 1, d, h, e => by
    obtain ⟨v, r, rfl, h1, h2⟩ := repL_cons.mp h
    obtain ⟨u, e1, e2⟩ := h2.get (by simpa using e)
    exact ⟨u, by simpa using e1, e2⟩
theorem RepL.getV {l : List D} {vs : List V} {i : Nat} {v : V} (h : RepL c H l vs) (e : vs[i]? = some v) : ∃ d, l[i]? = some d ∧ Rep c H d v := by
  have hi : i < l.length := by
    rw [← h.len]
    exact (List.getElem?_eq_some_iff.mp e).1
  obtain ⟨u, e1, r⟩ := h.get (List.getElem?_eq_getElem hi)
  rw [e] at e1
  cases e1
  exact ⟨_, List.getElem?_eq_getElem hi, r⟩
theorem RepL.app : ∀ {l m : List D} {vs ws : List V}, RepL c H l vs → RepL c H m ws → RepL c H (l ++ m) (vs ++ ws)
  | [], m, vs, ws, h, g => by
    rw [repL_nil.mp h]
    exact g
  | d :: ds, m, vs, ws, h, g => by
    obtain ⟨v, r, rfl, h1, h2⟩ := repL_cons.mp h
    exact repL_cons.mpr ⟨v, r ++ ws, rfl, h1, h2.app g⟩
theorem RepL.one {d : D} {v : V} (h : Rep c H d v) : RepL c H [d] [v] := repL_cons.mpr ⟨v, [], rfl, h, repL_nil.mpr rfl⟩
theorem RepL.cons {d : D} {v : V} {l : List D} {vs : List V} (h : Rep c H d v) (g : RepL c H l vs) : RepL c H (d :: l) (v :: vs) := repL_cons.mpr ⟨v, vs, rfl, h, g⟩
theorem RepL.nil : RepL c H [] [] := repL_nil.mpr rfl
theorem RepL.drop : ∀ {l : List D} {vs : List V} (n : Nat), RepL c H l vs → RepL c H (l.drop n) (vs.drop n)
  | l, vs, 0, h => by simpa using h
  | [], vs, n + 1, h => by
    rw [repL_nil.mp h]
    exact RepL.nil
  | d :: ds, vs, n + 1, h => by
    obtain ⟨v, r, rfl, h1, h2⟩ := repL_cons.mp h
    simpa using h2.drop n
theorem RepL.take : ∀ {l : List D} {vs : List V} (n : Nat), RepL c H l vs → RepL c H (l.take n) (vs.take n)
  | l, vs, 0, h => by simpa using RepL.nil
  | [], vs, n + 1, h => by
    rw [repL_nil.mp h]
    simpa using RepL.nil
  | d :: ds, vs, n + 1, h => by
    obtain ⟨v, r, rfl, h1, h2⟩ := repL_cons.mp h
    simpa using RepL.cons h1 (h2.take n)
theorem RepL.set : ∀ {l : List D} {vs : List V} {d : D} {v : V} (n : Nat), RepL c H l vs → Rep c H d v → RepL c H (l.set n d) (vs.set n v)
  | [], vs, d, v, n, h, g => by
    rw [repL_nil.mp h]
    exact RepL.nil
  | x :: ds, vs, d, v, 0, h, g => by
    obtain ⟨y, r, rfl, h1, h2⟩ := repL_cons.mp h
    exact RepL.cons g h2
  | x :: ds, vs, d, v, n + 1, h, g => by
    obtain ⟨y, r, rfl, h1, h2⟩ := repL_cons.mp h
    exact RepL.cons h1 (h2.set n g)
theorem RepL.eraseIdx : ∀ {l : List D} {vs : List V} (n : Nat), RepL c H l vs → RepL c H (l.eraseIdx n) (vs.eraseIdx n)
  | [], vs, n, h => by
    rw [repL_nil.mp h]
    exact RepL.nil
  | x :: ds, vs, 0, h => by
    obtain ⟨y, r, rfl, h1, h2⟩ := repL_cons.mp h
    exact h2
  | x :: ds, vs, n + 1, h => by
    obtain ⟨y, r, rfl, h1, h2⟩ := repL_cons.mp h
    exact RepL.cons h1 (h2.eraseIdx n)
theorem RepL.ints : ∀ {l : List Int} {vs : List V}, RepL c H (l.map D.int) vs ↔ vs = l.map V.int
  | [], vs => repL_nil
  | i :: l, vs => by
    rw [List.map_cons, List.map_cons, repL_cons]
    constructor
    · rintro ⟨v, r, rfl, h1, h2⟩
      rw [rep_int.mp h1, RepL.ints.mp h2]
    · rintro rfl
      exact ⟨_, _, rfl, rep_int.mpr rfl, RepL.ints.mpr rfl⟩
theorem RepL.strs : ∀ {l : List Str} {vs : List V}, RepL c H (l.map D.str) vs ↔ vs = l.map V.str
  | [], vs => repL_nil
  | i :: l, vs => by
    rw [List.map_cons, List.map_cons, repL_cons]
    constructor
    · rintro ⟨v, r, rfl, h1, h2⟩
      rw [rep_str.mp h1, RepL.strs.mp h2]
    · rintro rfl
      exact ⟨_, _, rfl, rep_str.mpr rfl, RepL.strs.mpr rfl⟩
theorem RepL.trees : ∀ {l : List T} {vs : List V}, RepL c H (l.map D.tree) vs ↔ FtnL (cF K) H l vs
  | [], vs => repL_nil
  | t :: l, vs => by
    rw [List.map_cons, repL_cons]
    constructor
    · rintro ⟨v, r, rfl, h1, h2⟩
      exact ⟨v, r, rfl, rep_tree.mp h1, RepL.trees.mp h2⟩
    · rintro ⟨v, r, rfl, h1, h2⟩
      exact ⟨v, r, rfl, rep_tree.mpr h1, RepL.trees.mpr h2⟩
end
def MRep {K : PySem.W.Frag} (c : AC K) (H : Hp) (p : Addr) : MO → Prop
  | .lst l => ∃ vs, H p = some (.lst vs) ∧ RepL c H l vs
  | .dct l => ∃ kvs, H p = some (.dK kvs) ∧ kvs.map (·.1) = l.map (·.1) ∧ RepL c H (l.map (·.2)) (kvs.map (·.2))
  | .ins C ks ds => ∃ dx vs, H p = some (.ins C dx (ks.zip vs)) ∧ ¬ IC c C ∧ ks.length = ds.length ∧ RepL c H ds vs
  | .lsq P => ∃ vs l, H p = some (.lst vs) ∧ RepL c H l vs ∧ P l
  | .opq P => ∃ o, H p = some o ∧ P o ∧ ¬ Imm c o ∧ (∀ ps, o ≠ .tbl ps) ∧ (∀ φ, o ≠ .ext φ) ∧ (∀ xs, ¬ P (.lst xs)) ∧ ∀ x, ¬ P (.own x)
def ScrOk {K : PySem.W.Frag} (c : AC K) (L : Store) (H : Hp) : Prop := ∀ a ns, c.scr = some (a, ns) → ns.length ≤ 63 ∧
  ((H a = some (.lst (ns.map V.int)) ∧ L a = none) ∨ (∃ o, H a = some (.frz o (.lst (ns.map V.int)))) ∨ (∃ (o : Obj) (its : Array Value) (n : Nat), K.lookup a = some o ∧ o.cls = .type "list" ∧ o.dict = none ∧ o.data = .seq its n ∧ its.size ≤ sizeLine ∧ Vals (ns.map V.int) its.toList))
structure Good {K : PySem.W.Frag} (c : AC K) (L : Store) (H : Hp) : Prop where
  tabs : Tabs c.TT H
  st : ∀ p m, L p = some m → MRep c H p m
  scr : ScrOk c L H
section
variable {K : PySem.W.Frag} {c : AC K} {H H1 H' : Hp} {L : Store} {p : Addr} {m : MO}
theorem MRep.at (h : MRep c H p m) : ∃ o, H p = some o ∧ ¬ Imm c o ∧ (∀ ps, o ≠ .tbl ps) ∧ ∀ φ, o ≠ .ext φ := by
  cases m with
  | lst l => obtain ⟨vs, e, _⟩ := h; exact ⟨_, e, fun z => z, fun _ z => (by cases z), fun _ z => (by cases z)⟩
  | dct l => obtain ⟨vs, e, _⟩ := h; exact ⟨_, e, fun z => z, fun _ z => (by cases z), fun _ z => (by cases z)⟩
  | ins C ks ds => obtain ⟨dx, vs, e, n, _⟩ := h; exact ⟨_, e, n, fun _ z => (by cases z), fun _ z => (by cases z)⟩
  | lsq P => obtain ⟨vs, l, e, _⟩ := h; exact ⟨_, e, fun z => z, fun _ z => (by cases z), fun _ z => (by cases z)⟩
  | opq P => obtain ⟨o, e, _, r1, r2, r3, _⟩ := h; exact ⟨o, e, r1, r2, r3⟩
theorem MRep.not_own (h : MRep c H p m) (x : Addr) : H p ≠ some (.own x) := fun z => by
  cases m with
  | lst l => obtain ⟨vs, e, _⟩ := h; rw [z] at e; cases e
  | dct l => obtain ⟨vs, e, _⟩ := h; rw [z] at e; cases e
  | ins C ks ds => obtain ⟨dx, vs, e, n, _⟩ := h; rw [z] at e; cases e
  | lsq P => obtain ⟨vs, l, e, _⟩ := h; rw [z] at e; cases e
  | opq P =>
    obtain ⟨o, e, hp, _, _, _, _, r⟩ := h
    rw [z] at e
    cases e
    exact r x hp
theorem MRep.mono (h : MRep c H p m) (e : H' p = H p) (s : Fr c H H') : MRep c H' p m := by
  cases m with
  | lst l => obtain ⟨vs, e1, r⟩ := h; exact ⟨vs, e.trans e1, r.fr s⟩
  | dct l => obtain ⟨vs, e1, k, r⟩ := h; exact ⟨vs, e.trans e1, k, r.fr s⟩
  | ins C ks ds => obtain ⟨dx, vs, e1, n, k, r⟩ := h; exact ⟨dx, vs, e.trans e1, n, k, r.fr s⟩
  | lsq P => obtain ⟨vs, l, e1, r, q⟩ := h; exact ⟨vs, l, e.trans e1, r.fr s, q⟩
  | opq P => obtain ⟨o, e1, r⟩ := h; exact ⟨o, e.trans e1, r⟩
theorem Good.fresh (g : Good c L H) (h : H p = none) : L p = none := by
  cases e : L p with
  | none => rfl
  | some m =>
    obtain ⟨o, e2, _⟩ := (g.st p m e).at
    rw [h] at e2
    cases e2
theorem tabs_upd {TT : List (Addr × Str)} {o u : HO} (t : Tabs TT H) (hd : ∀ v, H p = some v → (∀ ps, v ≠ .tbl ps) ∧ ∀ φ, v ≠ .ext φ) : Tabs TT (upd H p u) := fun q hq => by
  obtain ⟨ps, h1, h2, h3⟩ := t q hq
  have ne1 : q.1 ≠ p := fun e => (hd _ (e ▸ h1)).1 ps rfl
  refine ⟨ps, by rw [upd_ne ne1]; exact h1, h2, fun pos cv hc => ?_⟩
  obtain ⟨k, e1, e2⟩ := h3 pos cv hc
  have ne2 : k ≠ p := fun e => (hd _ (e ▸ e2)).2 _ rfl
  exact ⟨k, e1, by rw [upd_ne ne2]; exact e2⟩
theorem Good.alloc (g : Good c L H) (hp : H p = none) (o : HO) (hm : MRep c (upd H p o) p m) : Good c (sput L p m) (upd H p o) := by
  have s : Fr c H (upd H p o) := .new hp
  refine ⟨tabs_upd (o := o) g.tabs fun v e => (by rw [hp] at e; cases e), fun q n e => ?_, fun a ns e => ?_⟩
  · by_cases hq : q = p
    · subst hq
      rw [sput_same] at e
      cases e
      exact hm
    · rw [sput_ne hq] at e
      exact (g.st q n e).mono (upd_ne hq) s
  · refine ⟨(g.scr a ns e).1, ?_⟩
    rcases (g.scr a ns e).2 with ⟨h1, h2⟩ | ⟨o', h⟩ | h
    · have ne : a ≠ p := fun z => by subst z; rw [hp] at h1; cases h1
      exact .inl ⟨by rw [upd_ne ne]; exact h1, by rw [sput_ne ne]; exact h2⟩
    · have ne : a ≠ p := fun z => by subst z; rw [hp] at h; cases h
      exact .inr (.inl ⟨o', by rw [upd_ne ne]; exact h⟩)
    · exact .inr (.inr h)
theorem Good.new (g : Good c L H) (hp : H p = none) (o : HO) : Good c L (upd H p o) := by
  have s : Fr c H (upd H p o) := .new hp
  refine ⟨tabs_upd (o := o) g.tabs fun v e => (by rw [hp] at e; cases e), fun q n e => ?_, fun a ns e => ?_⟩
  · have hq : q ≠ p := fun z => by subst z; rw [g.fresh hp] at e; cases e
    exact (g.st q n e).mono (upd_ne hq) s
  · refine ⟨(g.scr a ns e).1, ?_⟩
    rcases (g.scr a ns e).2 with ⟨h1, h2⟩ | ⟨o', h⟩ | h
    · have ne : a ≠ p := fun z => by subst z; rw [hp] at h1; cases h1
      exact .inl ⟨by rw [upd_ne ne]; exact h1, h2⟩
    · have ne : a ≠ p := fun z => by subst z; rw [hp] at h; cases h
      exact .inr (.inl ⟨o', by rw [upd_ne ne]; exact h⟩)
    · exact .inr (.inr h)
theorem Good.put {m' : MO} (g : Good c L H) (hp : L p = some m) (o : HO) (hm : MRep c (upd H p o) p m') : Good c (sput L p m') (upd H p o) ∧ Fr c H (upd H p o) := by
  obtain ⟨u, e0, n0, n1, n2⟩ := (g.st p m hp).at
  have s : Fr c H (upd H p o) := .put e0 n0
  refine ⟨⟨tabs_upd (o := o) g.tabs fun v e => by rw [e0] at e; cases e; exact ⟨n1, n2⟩, fun q n e => ?_, fun a ns e => ?_⟩, s⟩
  · by_cases hq : q = p
    · subst hq
      rw [sput_same] at e
      cases e
      exact hm
    · rw [sput_ne hq] at e
      exact (g.st q n e).mono (upd_ne hq) s
  · refine ⟨(g.scr a ns e).1, ?_⟩
    rcases (g.scr a ns e).2 with ⟨h1, h2⟩ | ⟨o', h⟩ | h
    · have ne : a ≠ p := fun z => by subst z; rw [hp] at h2; cases h2
      exact .inl ⟨by rw [upd_ne ne]; exact h1, by rw [sput_ne ne]; exact h2⟩
    · have ne : a ≠ p := fun z => by subst z; rw [e0] at h; cases h; exact n0 trivial
      exact .inr (.inl ⟨o', by rw [upd_ne ne]; exact h⟩)
    · exact .inr (.inr h)
theorem Good.keep (g : Good c L H) (t : Tabs c.TT H') (s : Fr c H H') (k : ∀ q n, L q = some n → H' q = H q) (hs : ∀ a ns, c.scr = some (a, ns) → H a = some (.lst (ns.map V.int)) → H' a = H a) : Good c L H' := by
  refine ⟨t, fun q n e => (g.st q n e).mono (k q n e) s, fun a ns e => ?_⟩
  refine ⟨(g.scr a ns e).1, ?_⟩
  rcases (g.scr a ns e).2 with ⟨h1, h2⟩ | ⟨o', h⟩ | h
  · exact .inl ⟨(hs a ns e h1).trans h1, h2⟩
  · exact .inr (.inl ⟨o', s _ _ h trivial⟩)
  · exact .inr (.inr h)
theorem Good.extN (g : Good c L H) (t : Tabs c.TT H') (s : ExtN H H') : Good c L H' := by
  refine g.keep t (.extN s) (fun q n e => ?_) fun a ns e h => ?_
  · obtain ⟨o, e0, _, n1, _⟩ := (g.st q n e).at
    rw [s _ _ e0 n1, e0]
  · rw [s _ _ h (fun ps z => by cases z), h]
theorem Good.same (g : Good c L H) (s : L2.Same H H') : Good c L H' := g.extN (JW.Tabs.same g.tabs s) (.of s)
end
section
variable {K : PySem.W.Frag} {c : AC K} {H H1 H' : Hp} {L : Store}
theorem Good.seq (g : Good c L H) {a : Addr} {ns : List Int} (e : c.scr = some (a, ns)) : SqL K H a (ns.map V.int) := by
  rcases (g.scr a ns e).2 with ⟨h, _⟩ | ⟨o, h⟩ | h
  · exact .inl (.inl h)
  · exact .inl (.inr ⟨o, h⟩)
  · exact .inr h
theorem Good.but (g : Good c L H) {d : Addr} {m : MO} (hd : L d = some m) (t : Tabs c.TT H') (s : ∀ b o, b ≠ d → H b = some o → H' b = some o) (hm : MRep c H' d m) : Good c L H' ∧ Fr c H H' := by
  obtain ⟨u, e0, n0, n1, n2⟩ := (g.st d m hd).at
  have fr : Fr c H H' := fun p o h i => s p o (fun z => by subst z; rw [e0] at h; cases h; exact n0 i) h
  refine ⟨⟨t, fun q n e => ?_, fun a ns e => ?_⟩, fr⟩
  · by_cases hq : q = d
    · subst hq
      rw [hd] at e
      cases e
      exact hm
    · obtain ⟨o, e1, _⟩ := (g.st q n e).at
      exact (g.st q n e).mono ((s q o hq e1).trans e1.symm) fr
  · refine ⟨(g.scr a ns e).1, ?_⟩
    rcases (g.scr a ns e).2 with ⟨h1, h2⟩ | ⟨o, h⟩ | h
    · exact .inl ⟨s _ _ (fun z => by subst z; rw [hd] at h2; cases h2) h1, h2⟩
    · exact .inr (.inl ⟨o, fr _ _ h trivial⟩)
    · exact .inr (.inr h)
def law0 : Store := fun _ => none
theorem good_law {a : Addr} {ns : List Int} (hs : c.scr = some (a, ns)) (hl : ns.length ≤ 63) (h : SqL K H a (ns.map V.int)) (t : Tabs c.TT H) : Good c law0 H := by
  refine ⟨t, fun q n e => (by cases e), fun b ms e => ?_⟩
  rw [hs] at e
  cases e
  refine ⟨hl, ?_⟩
  rcases h with (h | ⟨o, h⟩) | h
  · exact .inl ⟨h, rfl⟩
  · exact .inr (.inl ⟨o, h⟩)
  · exact .inr (.inr h)
theorem Good.sameNew {d : Addr} {m : MO} (g : Good c L H) (s : L2.Same H H') (hd : H d = none) (hm : MRep c H' d m) : Good c (sput L d m) H' := by
  have g' := g.same s
  refine ⟨g'.tabs, fun q n e => ?_, fun a ns e => ?_⟩
  · by_cases hq : q = d
    · subst hq
      rw [sput_same] at e
      cases e
      exact hm
    · rw [sput_ne hq] at e
      exact g'.st q n e
  · refine ⟨(g.scr a ns e).1, ?_⟩
    rcases (g.scr a ns e).2 with ⟨h1, h2⟩ | ⟨o, h⟩ | h
    · exact .inl ⟨s _ _ h1, by rw [sput_ne (ne_of_none h1 hd)]; exact h2⟩
    · exact .inr (.inl ⟨o, s _ _ h⟩)
    · exact .inr (.inr h)
def SubS (L0 L : Store) : Prop := ∀ p m, L0 p = some m → L p = some m
theorem SubS.refl (L : Store) : SubS L L := fun _ _ h => h
theorem SubS.trans {L0 L1 L2 : Store} (a : SubS L0 L1) (b : SubS L1 L2) : SubS L0 L2 := fun p m h => b p m (a p m h)
theorem SubS.new {L0 L : Store} {p : Addr} {m : MO} (a : SubS L0 L) (hp : L p = none) : SubS L0 (sput L p m) := fun q n h => sput_old (a q n h) hp
theorem SubS.put {L0 L : Store} {p : Addr} {m : MO} (a : SubS L0 L) (hp : L0 p = none) : SubS L0 (sput L p m) := fun q n h => by
  rw [sput_ne fun e => by rw [e, hp] at h; cases h]
  exact a q n h
theorem SubS.none {L0 L : Store} {p : Addr} (a : SubS L0 L) (hp : L p = none) : L0 p = none := by
  cases e : L0 p with
  | none => rfl
  | some m => rw [a p m e] at hp; cases hp
theorem SubS.mine {L0 L : Store} {p : Addr} {m : MO} (a : SubS L0 L) (hp : L p = some m) : SubS (sput L0 p m) L := fun q n h => by
  by_cases e : q = p
  · subst e
    rw [sput_same] at h
    cases h
    exact hp
  · rw [sput_ne e] at h
    exact a q n h
theorem Good.sub {L0 : Store} (g : Good c L H) (s : SubS L0 L) : Good c L0 H := by
  refine ⟨g.tabs, fun q n e => g.st q n (s q n e), fun a ns e => ⟨(g.scr a ns e).1, ?_⟩⟩
  rcases (g.scr a ns e).2 with ⟨h1, h2⟩ | h
  · exact .inl ⟨h1, s.none h2⟩
  · exact .inr h
end
end AL
namespace AL
open PySem PySem.Spec PyProof.Rows L2 LamX JW
abbrev En := List (Option D)
abbrev AQ := D → Store → Prop
abbrev AX := Str → List (Str × D) → Store → Prop
abbrev ATE := En → Store → AQ → Prop
abbrev ATT := En → Store → (Bool → Store → Prop) → Prop
abbrev ATA := En → Store → (List D → Store → Prop) → Prop
structure AEnds where
  nx : En → Store → Prop
  rt : AQ
  bk : En → Store → Prop := fun _ _ => False
  ct : En → Store → Prop := fun _ _ => False
abbrev ATS := AEnds → En → Store → Prop
abbrev ATG := D → En → Store → (En → Store → Prop) → Prop
abbrev ATGs := List D → En → Store → (En → Store → Prop) → Prop
abbrev ATI := En → Store → (List D → (Store → Prop) → Store → Prop) → Prop
abbrev ASp := List D → Store → AQ → AX → Prop
def anyX : AX := fun _ _ _ => True
section
variable {K : PySem.W.Frag}
structure EnvR (c : AC K) (H : Hp) (σ : L2.St) (env : En) : Prop where
  len : σ.length = env.length
  get : ∀ (i : Nat) (d : D), env[i]? = some (some d) → ∃ v : V, σ[i]? = some (some v) ∧ Rep c H d v
structure Rl (c : AC K) (H0 : Hp) (σ : L2.St) (H : Hp) (env : En) (L : Store) : Prop where
  env : EnvR c H σ env
  good : Good c L H
  fr : Fr c H0 H
def Pq (c : AC K) (H : Hp) (R : AQ) (Q : VK) : Prop := ∀ d L' v H', R d L' → Fr c H H' → Good c L' H' → Rep c H' d v → Q v H'
def ErrR (c : AC K) (H : Hp) (fs : List (Str × D)) (dd : Option Addr) : Prop := (fs = [] ∧ dd = none) ∨ ∃ f d a v, fs = [(f, d)] ∧ dd = some a ∧ H a = some (.xd [(f, v)]) ∧ Rep c H d v
def Px (c : AC K) (H : Hp) (R : AX) (E : XK) : Prop := ∀ x fs L' H' dd, R x fs L' → Fr c H H' → Good c L' H' → ErrR c H' fs dd → E (.ref (He.ga K x)) dd H'
end
section
variable {K : PySem.W.Frag} {c : AC K} {H0 H H1 H' : Hp} {σ : L2.St} {env : En} {L L1 : Store} {Q : VK} {R : AQ} {d : D} {v : V}
theorem EnvR.fr (h : EnvR c H σ env) (s : Fr c H H1) : EnvR c H1 σ env := ⟨h.len, fun i d e => by
  obtain ⟨v, e1, r⟩ := h.get i d e
  exact ⟨v, e1, r.fr s⟩⟩
theorem EnvR.set (h : EnvR c H σ env) (i : Nat) (r : Rep c H d v) : EnvR c H (σ.set i (some v)) (env.set i (some d)) := by
  refine ⟨by rw [List.length_set, List.length_set, h.len], fun j e hj => ?_⟩
  by_cases hi : i = j
  · subst hi
    have lt : i < env.length := by
      rcases Nat.lt_or_ge i env.length with z | z
      · exact z
      · rw [List.getElem?_eq_none (by simpa using z)] at hj
        cases hj
    rw [List.getElem?_set_self lt] at hj
    cases hj
    exact ⟨v, List.getElem?_set_self (by rw [h.len]; exact lt), r⟩
  · rw [List.getElem?_set_ne hi] at hj
    obtain ⟨u, e1, r1⟩ := h.get j e hj
    exact ⟨u, by rw [List.getElem?_set_ne hi]; exact e1, r1⟩
theorem Rl.step (h : Rl c H0 σ H env L) (s : Fr c H H1) (g : Good c L1 H1) : Rl c H0 σ H1 env L1 := ⟨h.env.fr s, g, h.fr.trans s⟩
theorem Pq.fr (h : Pq c H R Q) (s : Fr c H H1) : Pq c H1 R Q := fun d L' v H' r f g p => h d L' v H' r (s.trans f) g p
theorem Pq.here (h : Pq c H R Q) (r : R d L) (g : Good c L H) (p : Rep c H d v) : Q v H := h d L v H r (.refl c H) g p
theorem Pq.new (h : Pq c H R Q) {p : Addr} {o : HO} (hp : H p = none) (r : R d L) (g : Good c L H) (q : Rep c (upd H p o) d v) : Q v (upd H p o) := h d L v _ r (.new hp) (g.new hp o) q
theorem Pq.alloc (h : Pq c H R Q) {p : Addr} {o : HO} {m : MO} (hp : H p = none) (r : R (.ref p) (sput L p m)) (g : Good c L H) (q : MRep c (upd H p o) p m) : Q (.ref p) (upd H p o) :=
  h (.ref p) _ _ _ r (.new hp) (g.alloc hp o q) (rep_ref.mpr rfl)
theorem Px.fr {RX : AX} {E : XK} (h : Px c H RX E) (s : Fr c H H1) : Px c H1 RX E := fun x fs L' H' dd r f g p => h x fs L' H' dd r (s.trans f) g p
end
section
variable {K : PySem.W.Frag}
def lowE (c : AC K) (H0 : Hp) (a : ATE) : TE := fun σ H Q => ∃ env L R, Rl c H0 σ H env L ∧ a env L R ∧ Pq c H R Q
def lowT (c : AC K) (H0 : Hp) (a : ATT) : TT := fun σ H Q => ∃ env L R, Rl c H0 σ H env L ∧ a env L R ∧ ∀ b L' H', R b L' → Fr c H H' → Good c L' H' → Q b H'
def lowA (c : AC K) (H0 : Hp) (a : ATA) : TA := fun σ H Q => ∃ env L R, Rl c H0 σ H env L ∧ a env L R ∧ ∀ ds L' vs H', R ds L' → Fr c H H' → Good c L' H' → RepL c H' ds vs → Q vs H'
structure EndR (c : AC K) (H0 : Hp) (H : Hp) (R : AEnds) (D : Ends) : Prop where
  nx : ∀ env' L' σ' H', R.nx env' L' → Fr c H H' → Rl c H0 σ' H' env' L' → D.nx σ' H'
  rt : ∀ d L' v H', R.rt d L' → Fr c H H' → Good c L' H' → Rep c H' d v → D.rt v H'
  bk : ∀ env' L' σ' H', R.bk env' L' → Fr c H H' → Rl c H0 σ' H' env' L' → D.bk σ' H'
  ct : ∀ env' L' σ' H', R.ct env' L' → Fr c H H' → Rl c H0 σ' H' env' L' → D.ct σ' H'
def lowS (c : AC K) (H0 : Hp) (a : ATS) : TS := fun D σ H => ∃ env L R, Rl c H0 σ H env L ∧ a R env L ∧ EndR c H0 H R D
def lowG (c : AC K) (H0 : Hp) (a : ATG) : TG := fun v σ H Q => ∃ d env L R, Rep c H d v ∧ Rl c H0 σ H env L ∧ a d env L R ∧ ∀ env' L' σ' H', R env' L' → Fr c H H' → Rl c H0 σ' H' env' L' → Q σ' H'
def lowGs (c : AC K) (H0 : Hp) (a : ATGs) : TGs := fun vs σ H Q => ∃ ds env L R, RepL c H ds vs ∧ Rl c H0 σ H env L ∧ a ds env L R ∧ ∀ env' L' σ' H', R env' L' → Fr c H H' → Rl c H0 σ' H' env' L' → Q σ' H'
structure WalkA (c : AC K) (J : It) (items : List D) (G : Store → Prop) (H : Hp) : Prop where
  ex : ∃ GH : Hp → Prop, Walk J items.length GH (fun i H x H' => Fr c H H' ∧ (∀ L, Good c L H → Good c L H') ∧ ∃ d, items[i]? = some d ∧ Rep c H' d x) ∧ ∀ L H', Fr c H H' → Good c L H' → G L → GH H'
def lowI (c : AC K) (H0 : Hp) (a : ATI) : TI := fun σ H Q => ∃ env L R, Rl c H0 σ H env L ∧ a env L R ∧ ∀ items G L' J H', R items G L' → Fr c H H' → Good c L' H' → WalkA c J items G H' → Q J H'
def spA (c : AC K) (asp : ASp) : Sp := fun vs H Q E => ∃ ds L R RX, RepL c H ds vs ∧ Good c L H ∧ asp ds L R RX ∧ Pq c H R Q ∧ Px c H RX E
end
theorem EndR.fr {K : PySem.W.Frag} {c : AC K} {H0 H H1 : Hp} {R : AEnds} {D : Ends} (h : EndR c H0 H R D) (s : Fr c H H1) : EndR c H0 H1 R D :=
  ⟨fun e l σ h' r f => h.nx e l σ h' r (s.trans f), fun d l v h' r f => h.rt d l v h' r (s.trans f), fun e l σ h' r f => h.bk e l σ h' r (s.trans f), fun e l σ h' r f => h.ct e l σ h' r (s.trans f)⟩
section
variable (X : Cx) (c : AC X.K) (H0 : Hp)
def AE (e : Expr) (a : ATE) : Prop := PE X e (lowE c H0 a)
def AT (e : Expr) (a : ATT) : Prop := PT X e (lowT c H0 a)
def AW (e : Expr) (a : ATT) : Prop := PW X e (lowT c H0 a)
def AA (es : List Expr) (a : ATA) : Prop := PA X es (lowA c H0 a)
def AS (st : Stmt) (a : ATS) : Prop := PS X st (lowS c H0 a)
def ASs (st : List Stmt) (a : ATS) : Prop := PSs X st (lowS c H0 a)
def AG (tg : Expr) (a : ATG) : Prop := PG X tg (lowG c H0 a)
def AGs (tg : List Expr) (a : ATGs) : Prop := PGs X tg (lowGs c H0 a)
def AI (tg it : Expr) (a : ATI) : Prop := PI X tg it (lowI c H0 a)
end
section
variable {X : Cx}
theorem _root_.L2.PE.imp {e : Expr} {t t' : TE} (h : PE X e t) (k : ∀ σ H Q, t' σ H Q → t σ H Q) : PE X e t' := ⟨fun pins s σ H Q I q => h.run pins s σ H Q I (k σ H Q q)⟩
theorem _root_.L2.PT.imp {e : Expr} {t t' : TT} (h : PT X e t) (k : ∀ σ H Q, t' σ H Q → t σ H Q) : PT X e t' := ⟨fun pins s σ H Q I q => h.run pins s σ H Q I (k σ H Q q)⟩
theorem _root_.L2.PW.imp {e : Expr} {t t' : TT} (h : PW X e t) (k : ∀ σ H Q, t' σ H Q → t σ H Q) : PW X e t' := ⟨fun wh pins s σ H Q I q => h.run wh pins s σ H Q I (k σ H Q q)⟩
theorem _root_.L2.PA.imp {es : List Expr} {t t' : TA} (h : PA X es t) (k : ∀ σ H Q, t' σ H Q → t σ H Q) : PA X es t' := ⟨fun pos pins s σ H Q I q => h.run pos pins s σ H Q I (k σ H Q q)⟩
theorem _root_.L2.PS.imp {st : Stmt} {t t' : TS} (h : PS X st t) (k : ∀ D σ H, t' D σ H → t D σ H) : PS X st t' := ⟨fun pins s σ H D I q => h.run pins s σ H D I (k D σ H q)⟩
theorem _root_.L2.PSs.imp {st : List Stmt} {t t' : TS} (h : PSs X st t) (k : ∀ D σ H, t' D σ H → t D σ H) : PSs X st t' := ⟨fun pins s σ H D I q => h.run pins s σ H D I (k D σ H q)⟩
theorem _root_.L2.PG.imp {e : Expr} {t t' : TG} (h : PG X e t) (k : ∀ v σ H Q, t' v σ H Q → t v σ H Q) : PG X e t' := ⟨fun pins s σ H v u Q I r q => h.run pins s σ H v u Q I r (k v σ H Q q)⟩
theorem _root_.L2.PGs.imp {es : List Expr} {t t' : TGs} (h : PGs X es t) (k : ∀ v σ H Q, t' v σ H Q → t v σ H Q) : PGs X es t' := ⟨fun pins s σ H v u Q I r q => h.run pins s σ H v u Q I r (k v σ H Q q)⟩
theorem _root_.L2.PI.imp {tg it : Expr} {t t' : TI} (h : PI X tg it t) (k : ∀ σ H R, t' σ H R → t σ H R) : PI X tg it t' := ⟨fun pins s σ H R I q => h.run pins s σ H R I (k σ H R q)⟩
theorem _root_.L2.OpR.imp {f : Value → Value → Sem Value} {r r' : R2} (h : OpR X f r) (k : ∀ x y H Q, r' x y H Q → r x y H Q) : OpR X f r' := fun pins s σ H x y v u Q I rx ry q => h pins s σ H x y v u Q I rx ry (k x y H Q q)
theorem _root_.L2.CallR.imp {f : Value} {r r' : List V → Hp → VK → Prop} (h : CallR X f r) (k : ∀ vs H Q, r' vs H Q → r vs H Q) : CallR X f r' := fun pins s σ H vs us Q I rv q => h pins s σ H vs us Q I rv (k vs H Q q)
end
def aVar (i : Nat) : ATE := fun env L Q => match env[i]? with
  | some (some d) => Q d L
  | _ => False
def aC (d : D) : ATE := fun _ L Q => Q d L
def aOp (f : D → D → Store → AQ → Prop) (a b : ATE) : ATE := fun env L Q => a env L fun d L1 => b env L1 fun e L2 => f d e L2 Q
def aNil : ATA := fun _ L Q => Q [] L
def aCons (a : ATE) (as : ATA) : ATA := fun env L Q => a env L fun d L1 => as env L1 fun ds L2 => Q (d :: ds) L2
def aTup (as : ATA) : ATE := fun env L Q => as env L fun ds L1 => ds.length ≤ sizeLine ∧ Q (.tup ds) L1
def aLst (as : ATA) : ATE := fun env L Q => as env L fun ds L1 => ds.length ≤ sizeLine ∧ ∀ p, L1 p = none → Q (.ref p) (sput L1 p (.lst ds))
def aIf (t : ATT) (a b : ATE) : ATE := fun env L Q => t env L fun k L1 => if k = true then a env L1 Q else b env L1 Q
section
variable {X : Cx} {c : AC X.K} {H0 : Hp} {e f g : Expr} {es : List Expr} {a b : ATE} {as : ATA} {pos : Pos} {t u : ATT}
theorem ae_var {i : Nat} {x : Str} (hN : X.N[i]? = some x) (hv : Vis X.env.scope x) (hd : (x == ("__debug__" : Str)) = false := by decide) (hcd : (x == ("__classdict__" : Str)) = false := by decide) : AE X c H0 (.Name x pos) (aVar i) := by
  refine (pe_var hN hv hd hcd).imp fun σ H Q ⟨env, L, R, rl, h, pq⟩ => ?_
  unfold aVar at h
  split at h
  · rename_i d e
    obtain ⟨v, e1, r⟩ := rl.env.get i d e
    exact ⟨v, e1, pq.here h rl.good r⟩
  · exact h.elim
theorem ae_c {d : D} {v : V} (h : PE X e (tC v)) (r : ∀ H, Rep c H d v) : AE X c H0 e (aC d) := h.imp fun _ H _ ⟨_, _, _, rl, h, pq⟩ => pq.here h rl.good (r H)
theorem ae_int {i : Int} {j} : AE X c H0 (.Constant (.int i) j pos) (aC (.int i)) := ae_c pe_int fun _ => rep_int.mpr rfl
theorem ae_bl {i : Bool} {j} : AE X c H0 (.Constant (.bool i) j pos) (aC (.bl i)) := ae_c pe_bl fun _ => rep_bl.mpr rfl
theorem ae_str {x : Str} {j} : AE X c H0 (.Constant (.str x) j pos) (aC (.str x)) := ae_c pe_str fun _ => rep_str.mpr rfl
def LowR2 {K : PySem.W.Frag} (c : AC K) (r : R2) (f : D → D → Store → AQ → Prop) : Prop := ∀ x y H Q d e L R, Rep c H d x → Rep c H e y → Good c L H → f d e L R → Pq c H R Q → r x y H Q
structure AOp (X : Cx) (c : AC X.K) (g : Value → Value → Sem Value) (f : D → D → Store → AQ → Prop) : Prop where
  ex : ∃ r, OpR X g r ∧ LowR2 c r f
theorem low_op {r : R2} {f : D → D → Store → AQ → Prop} (h : LowR2 c r f) {σ : L2.St} {H : Hp} {Q : VK} (q : lowE c H0 (aOp f a b) σ H Q) : tOp r (lowE c H0 a) (lowE c H0 b) σ H Q := by
  obtain ⟨env, L, R, rl, ha, pq⟩ := q
  refine ⟨env, L, _, rl, ha, fun d L1 x H1 hb s1 g1 r1 => ?_⟩
  refine ⟨env, L1, _, rl.step s1 g1, hb, fun e L2 y H2 hf s2 g2 r2 => ?_⟩
  exact h x y H2 Q d e L2 R (r1.fr s2) r2 g2 hf (pq.fr (s1.trans s2))
theorem ae_op {op : Operator} {f' : D → D → Store → AQ → Prop} (h : AOp X c (binaryOp op) f') (ha : AE X c H0 e a) (hb : AE X c H0 f b) : AE X c H0 (.BinOp e op f pos) (aOp f' a b) := by
  obtain ⟨r, h1, h2⟩ := h.ex
  exact (pe_op h1 ha hb).imp fun _ _ _ q => low_op h2 q
theorem ae_cmp {op : CmpOp} {f' : D → D → Store → AQ → Prop} (h : AOp X c (compareOp op) f') (ha : AE X c H0 e a) (hb : AE X c H0 f b) (hm : behindInMarks op f = false) : AE X c H0 (.Compare e [op] [f] pos) (aOp f' a b) := by
  obtain ⟨r, h1, h2⟩ := h.ex
  exact (pe_cmpR h1 ha hb hm).imp fun _ _ _ q => low_op h2 q
theorem aa_nil : AA X c H0 [] aNil := pa_nil.imp fun _ H _ ⟨_, _, _, rl, h, pq⟩ => pq _ _ _ _ h (.refl c H) rl.good RepL.nil
theorem aa_cons (ha : AE X c H0 e a) (hr : AA X c H0 es as) (hs : starEach (e :: es) X.env = (false, eval e X.env) :: starEach es X.env := by rfl) : AA X c H0 (e :: es) (aCons a as) := by
  refine (pa_cons ha hr hs).imp fun σ H Q ⟨env, L, R, rl, h, pq⟩ => ?_
  refine ⟨env, L, _, rl, h, fun d L1 x H1 hb s1 g1 r1 => ?_⟩
  exact ⟨env, L1, _, rl.step s1 g1, hb, fun ds L2 xs H2 q s2 g2 r2 => pq _ _ _ _ q (s1.trans s2) g2 (RepL.cons (r1.fr s2) r2)⟩
theorem ae_tup {x1} (h : AA X c H0 es as) : AE X c H0 (.Tuple es x1 pos) (aTup as) := by
  refine (pe_tup h).imp fun σ H Q ⟨env, L, R, rl, h, pq⟩ => ?_
  refine ⟨env, L, _, rl, h, fun ds L1 xs H1 ⟨hz, q⟩ s1 g1 r1 => ⟨by rw [r1.len]; exact hz, fun p hp => ?_⟩⟩
  exact (pq.fr s1).new hp q g1 (rep_tup.mpr ⟨p, xs, rfl, SqT.of upd_same, r1.fr (.new hp)⟩)
theorem ae_lst (h : AA X c H0 es as) : AE X c H0 (.List es pos) (aLst as) := by
  refine (pe_lst h).imp fun σ H Q ⟨env, L, R, rl, h, pq⟩ => ?_
  refine ⟨env, L, _, rl, h, fun ds L1 xs H1 ⟨hz, q⟩ s1 g1 r1 => ⟨by rw [r1.len]; exact hz, fun p hp => ?_⟩⟩
  exact (pq.fr s1).alloc hp (q p (g1.fresh hp)) g1 ⟨xs, upd_same, r1.fr (.new hp)⟩
theorem ae_if (hc : AT X c H0 e t) (ha : AE X c H0 f a) (hb : AE X c H0 g b) : AE X c H0 (.IfExp e f g pos) (aIf t a b) := by
  refine (pe_ifExp hc ha hb).imp fun σ H Q ⟨env, L, R, rl, h, pq⟩ => ?_
  refine ⟨env, L, _, rl, h, fun k L1 H1 q s1 g1 => ?_⟩
  cases k with
  | true => exact ⟨env, L1, R, rl.step s1 g1, q, pq.fr s1⟩
  | false => exact ⟨env, L1, R, rl.step s1 g1, q, pq.fr s1⟩
end
theorem RepL.isEmpty {K : PySem.W.Frag} {c : AC K} {H : Hp} {l : List D} {vs : List V} (h : RepL c H l vs) : vs.isEmpty = l.isEmpty := by
  have := h.len
  cases l <;> cases vs <;> simp_all
def blD : D → (Bool → Prop) → Prop
  | .bl b, Q => Q b
  | _, _ => False
def aBl (a : ATE) : ATT := fun env L Q => a env L fun d L1 => blD d fun b => Q b L1
def aAnd (t u : ATT) : ATT := fun env L Q => t env L fun k L1 => if k = true then u env L1 Q else Q false L1
def aOr (t u : ATT) : ATT := fun env L Q => t env L fun k L1 => if k = true then Q true L1 else u env L1 Q
section
variable {X : Cx} {c : AC X.K} {H0 : Hp} {e f g : Expr} {es : List Expr} {a b a' : ATE} {as : ATA} {pos : Pos} {t u : ATT}
theorem bl_low {K : PySem.W.Frag} {c : AC K} {H : Hp} {d : D} {v : V} {R : Bool → Prop} (r : Rep c H d v) (h : blD d R) : ∃ k, v = .bl k ∧ R k := by
  cases d with
  | bl b => exact ⟨b, rep_bl.mp r, h⟩
  | _ => exact h.elim
theorem at_bl (ha : AE X c H0 e a) (he : ∀ whole, isTrue e X.env whole = (do let v ← whole; standAt e.pos; holding [v] (truthy v)) := by intro _; rfl) : AT X c H0 e (aBl a) := by
  refine (pt_val ha he).imp fun σ H Q ⟨env, L, R, rl, h, pq⟩ => ?_
  refine ⟨env, L, _, rl, h, fun d L1 x H1 q s1 g1 r1 => ?_⟩
  obtain ⟨k, e1, e2⟩ := bl_low (R := fun b => R b L1) r1 q
  exact ⟨k, e1, pq k L1 H1 e2 s1 g1⟩
theorem low_test {t : TE} {σ : L2.St} {H : Hp} {Q : Bool → Hp → Prop} (k : ∀ σ H Q, lowE c H0 a σ H Q → t σ H Q) (q : lowT c H0 (aBl a) σ H Q) : tTest t σ H Q := by
  obtain ⟨env, L, R, rl, h, pq⟩ := q
  refine k _ _ _ ⟨env, L, _, rl, h, fun d L1 x H1 q s1 g1 r1 => ?_⟩
  obtain ⟨k, e1, e2⟩ := bl_low (R := fun b => R b L1) r1 q
  exact ⟨k, e1, pq k L1 H1 e2 s1 g1⟩
theorem at_cmp {op : CmpOp} {f' : D → D → Store → AQ → Prop} (h : AOp X c (compareOp op) f') (ha : AE X c H0 e a) (hb : AE X c H0 f b) (hm : behindInMarks op f = false) : AT X c H0 (.Compare e [op] [f] pos) (aBl (aOp f' a b)) := by
  obtain ⟨r, h1, h2⟩ := h.ex
  exact (pt_cmpR h1 ha hb hm).imp fun _ _ _ q => low_test (fun _ _ _ z => low_op h2 z) q
theorem AW.pt (h : AW X c H0 e t) : AT X c H0 e t := PW.pt h
theorem aw_or1 (h : AT X c H0 e t) : AW X c H0 (.BoolOp .Or [e] pos) t := pw_or1 h
theorem aw_or (ha : AT X c H0 e t) (hb : AW X c H0 (.BoolOp .Or (f :: es) pos) u) : AW X c H0 (.BoolOp .Or (e :: f :: es) pos) (aOr t u) := by
  refine (pw_or ha hb).imp fun σ H Q ⟨env, L, R, rl, h, pq⟩ => ?_
  refine ⟨env, L, _, rl, h, fun k L1 H1 q s1 g1 => ?_⟩
  cases k with
  | true => exact pq _ _ _ q s1 g1
  | false => exact ⟨env, L1, R, rl.step s1 g1, q, fun b L' H' r s => pq b L' H' r (s1.trans s)⟩
end
def aSeq (a b : ATS) : ATS := fun D env L => a { D with nx := b D } env L
def aNext : ATS := fun D env L => D.nx env L
def aDrop (a : ATE) : ATS := fun D env L => a env L fun _ L1 => D.nx env L1
def aRet (a : ATE) : ATS := fun D env L => a env L D.rt
def aIfS (t : ATT) (a b : ATS) : ATS := fun D env L => t env L fun k L1 => if k = true then a D env L1 else b D env L1
def aAsg (a : ATE) (g : ATG) : ATS := fun D env L => a env L fun d L1 => g d env L1 D.nx
def agName (i : Nat) : ATG := fun d env L Q => Q (env.set i (some d)) L
def agNil : ATGs := fun ds env L Q => ds = [] ∧ Q env L
def agCons (g : ATG) (gs : ATGs) : ATGs := fun ds env L Q => match ds with
  | d :: r => g d env L fun env1 L1 => gs r env1 L1 Q
  | [] => False
def agTup (gs : ATGs) : ATG := fun d env L Q => match d with
  | .tup l => gs l env L Q
  | _ => False
def aWhile (t : ATT) (b : ATS) : ATS := fun D env L => ∃ W : Nat → En → Store → Prop, (∃ m, W m env L) ∧ ∀ m env L, W m env L →
  t env L fun k L1 => if k = true then b { D with nx := fun e l => ∃ m', m' < m ∧ W m' e l, ct := fun e l => ∃ m', m' < m ∧ W m' e l, bk := D.nx } env L1 else D.nx env L1
def loopA (g : ATG) (b : ATS) (N : AEnds) (G : Store → Prop) : List D → En → Store → Prop
  | [], env, L => G L ∧ N.nx env L
  | d :: ds, env, L => G L ∧ g d env L fun env1 L1 => b { N with nx := loopA g b N G ds, ct := loopA g b N G ds, bk := N.nx } env1 L1
def aFor (ai : ATI) (g : ATG) (b : ATS) : ATS := fun D env L => ai env L fun items G L1 => loopA g b D G items env L1
section
variable {X : Cx} {c : AC X.K} {H0 : Hp} {e f tg : Expr} {es tgs : List Expr} {a b a' : ATE} {pos : Pos} {t : ATT} {st : Stmt} {rest sts sts' : List Stmt} {s1 s2 : ATS} {g : ATG} {gs : ATGs}
theorem as_nil : ASs X c H0 [] aNext := pss_nil.imp fun D σ H ⟨env, L, R, rl, h, er⟩ => er.nx env L σ H h (.refl c H) rl
theorem as_cons (h1 : AS X c H0 st s1) (h2 : ASs X c H0 rest s2) : ASs X c H0 (st :: rest) (aSeq s1 s2) := by
  refine (pss_cons h1 h2).imp fun D σ H ⟨env, L, R, rl, h, er⟩ => ?_
  exact ⟨env, L, _, rl, h, ⟨fun env' L' σ' H' r s rl' => ⟨env', L', R, rl', r, er.fr s⟩, er.rt, er.bk, er.ct⟩⟩
theorem as_one (h1 : AS X c H0 st s1) : ASs X c H0 [st] s1 := pss_one h1
theorem as_expr (he : AE X c H0 e a) (hs : swapsWith e none pos.line X.env = pure false := by rfl) : AS X c H0 (.Expr e pos) (aDrop a) := by
  refine (ps_expr he hs).imp fun D σ H ⟨env, L, R, rl, h, er⟩ => ?_
  exact ⟨env, L, _, rl, h, fun d L1 v H1 q s g r => er.nx env L1 σ H1 q s (rl.step s g)⟩
theorem as_ret (he : AE X c H0 e a) : AS X c H0 (.Return (some e) pos) (aRet a) := by
  refine (ps_ret he).imp fun D σ H ⟨env, L, R, rl, h, er⟩ => ?_
  exact ⟨env, L, _, rl, h, fun d L1 v H1 q s g r => er.rt d L1 v H1 q s g r⟩
theorem as_if (hc : AT X c H0 e t) (ha : ASs X c H0 sts s1) (hb : ASs X c H0 sts' s2) : AS X c H0 (.If e sts sts' pos) (aIfS t s1 s2) := by
  refine (ps_if hc ha hb).imp fun D σ H ⟨env, L, R, rl, h, er⟩ => ?_
  refine ⟨env, L, _, rl, h, fun k L1 H1 q s g => ?_⟩
  cases k with
  | true => exact ⟨env, L1, R, rl.step s g, q, er.fr s⟩
  | false => exact ⟨env, L1, R, rl.step s g, q, er.fr s⟩
theorem ag_name {i : Nat} {x : Str} (hN : X.N.Nodup) (hi : X.N[i]? = some x) (hx : Loc X.env.scope x) (hf : X.fn x = true ∨ X.env.scope.names.lookup x = some .local := by first | exact .inl rfl | exact .inr rfl | assumption) : AG X c H0 (.Name x pos) (agName i) := by
  refine (pg_name hN hi hx hf).imp fun v σ H Q ⟨d, env, L, R, r, rl, h, pq⟩ => ?_
  exact pq _ L _ H h (.refl c H) ⟨rl.env.set i r, rl.good, rl.fr⟩
theorem ags_nil : AGs X c H0 [] agNil := pgs_nil.imp fun vs σ H Q ⟨ds, env, L, R, r, rl, h, pq⟩ => by
  obtain ⟨rfl, h⟩ := h
  exact ⟨repL_nil.mp r, pq _ L _ H h (.refl c H) rl⟩
theorem ags_cons (h1 : AG X c H0 tg g) (h2 : AGs X c H0 tgs gs) (hs : (assignEach (tg :: tgs) X.env).map (·.2) = assign tg X.env :: (assignEach tgs X.env).map (·.2) := by rfl) : AGs X c H0 (tg :: tgs) (agCons g gs) := by
  refine (pgs_cons h1 h2 hs).imp fun vs σ H Q ⟨ds, env, L, R, r, rl, h, pq⟩ => ?_
  cases ds with
  | nil => exact h.elim
  | cons d ds =>
    obtain ⟨v, rs, rfl, r1, r2⟩ := repL_cons.mp r
    exact ⟨v, rs, rfl, d, env, L, _, r1, rl, h, fun env' L' σ' H' q s rl' => ⟨ds, env', L', R, r2.fr s, rl', q, fun env2 L2 σ2 H2 q2 s2 => pq env2 L2 σ2 H2 q2 (s.trans s2)⟩⟩
theorem ag_tup {k : Nat} {n : Nat} (hc : X.calm = true) (h : AGs X c H0 tgs gs) (hl : ∀ ds env L R, gs ds env L R → ds.length = n) (hn : (assignEach tgs X.env).length = n := by rfl) (hst : (assignEach tgs X.env).findIdx? (·.1) = none := by rfl) : AG X c H0 (.Tuple tgs k pos) (agTup gs) := by
  refine (pg_tup hc h hn hst).imp fun v σ H Q ⟨d, env, L, R, r, rl, h, pq⟩ => ?_
  cases d with
  | tup l =>
    obtain ⟨p, vs, rfl, e, rs⟩ := rep_tup.mp r
    exact ⟨p, vs, rfl, e, by rw [rs.len]; exact hl l env L R h, l, env, L, R, rs, rl, h, pq⟩
  | _ => exact h.elim
theorem as_asg (he : AE X c H0 e a) (hg : AG X c H0 tg g) (hs : swapsWithSole [tg] e pos.line X.env = pure false := by rfl) (hw : swappedStores [tg] e X.env = pure none := by rfl)
    (h1 : (assignEach [tg] X.env).map (·.2) = [assign tg X.env] := by rfl) : AS X c H0 (.Assign [tg] e pos) (aAsg a g) := by
  refine (ps_asg he hg hs hw h1).imp fun D σ H ⟨env, L, R, rl, h, er⟩ => ?_
  exact ⟨env, L, _, rl, h, fun d L1 v H1 q s g1 r => ⟨d, env, L1, _, r, rl.step s g1, q, fun env' L' σ' H' q s' rl' => er.nx env' L' σ' H' q (s.trans s') rl'⟩⟩
theorem as_set {i : Nat} {x : Str} {pos' : Pos} (hN : X.N.Nodup) (hi : X.N[i]? = some x) (hx : Loc X.env.scope x) (he : AE X c H0 e a) (hs : swapsWith e (some (.Name x pos')) pos.line X.env = pure false := by rfl)
    (hf : X.fn x = true ∨ X.env.scope.names.lookup x = some .local := by first | exact .inl rfl | exact .inr rfl | assumption) : AS X c H0 (.Assign [.Name x pos'] e pos) (aAsg a (agName i)) := by
  refine (ps_set hN hi hx he hs hf).imp fun D σ H ⟨env, L, R, rl, h, er⟩ => ?_
  exact ⟨env, L, _, rl, h, fun d L1 v H1 q s g1 r => er.nx _ L1 _ H1 q s ⟨(rl.env.fr s).set i r, g1, rl.fr.trans s⟩⟩
def aPar (i j : Nat) (as : ATA) : ATS := fun D env L => as env L fun ds L1 => match ds with
  | [d, e] => D.nx ((env.set i (some d)).set j (some e)) L1
  | _ => False
theorem as_par {i j : Nat} {x y : Str} {as : ATA} {px py pt : Pos} {kt k2 pt2} (hc : X.calm = true) (hN : X.N.Nodup) (hi : X.N[i]? = some x) (hj : X.N[j]? = some y) (hij : i ≠ j)
    (hx : X.env.scope.names.lookup x = some .local) (hy : X.env.scope.names.lookup y = some .local) (ha : AA X c H0 [e, f] as)
    (hw : swappedStores [.Tuple [.Name x px, .Name y py] kt pt] (.Tuple [e, f] k2 pt2) X.env = pure (some [x, y]))
    (hs : swapsWithSole [.Tuple [.Name x px, .Name y py] kt pt] (.Tuple [e, f] k2 pt2) pos.line X.env = pure false := by rfl) :
    AS X c H0 (.Assign [.Tuple [.Name x px, .Name y py] kt pt] (.Tuple [e, f] k2 pt2) pos) (aPar i j as) := by
  refine (ps_par hc hN hi hj hij hx hy ha hw hs).imp fun D σ H ⟨env, L, R, rl, h, er⟩ => ?_
  refine ⟨env, L, _, rl, h, fun ds L1 vs H1 q s g1 r => ?_⟩
  match ds, q, r with
  | [d1, d2], q, r =>
    obtain ⟨v, rs, rfl, r1, r2⟩ := repL_cons.mp r
    obtain ⟨w, rs2, rfl, r3, r4⟩ := repL_cons.mp r2
    cases repL_nil.mp r4
    exact ⟨v, w, rfl, er.nx _ L1 _ H1 q s ⟨((rl.env.fr s).set i r1).set j r3, g1, rl.fr.trans s⟩⟩
  | [], q, _ => exact q.elim
  | [_], q, _ => exact q.elim
  | _ :: _ :: _ :: _, q, _ => exact q.elim
theorem as_while (hp : PassesOwn (model X.prog X.w) X.A X.env X.xe) (hc : AT X c H0 e t) (hb : ASs X c H0 sts s1) : AS X c H0 (.While e sts [] pos) (aWhile t s1) := by
  refine (ps_while hp hc hb).imp fun D σ H ⟨env, L, R, rl, ⟨W, ⟨m0, w0⟩, turn⟩, er⟩ => ?_
  refine ⟨fun m σ' H' => Fr c H H' ∧ ∃ env' L', Rl c H0 σ' H' env' L' ∧ W m env' L', ⟨m0, .refl c H, env, L, rl, w0⟩, ?_⟩
  rintro m σ1 H1 ⟨f1, env1, L1, rl1, w1⟩
  refine ⟨env1, L1, _, rl1, turn m env1 L1 w1, fun k L2 H2 q s g => ?_⟩
  cases k with
  | true =>
    refine ⟨fun σ' H' => Fr c H H' ∧ ∃ env' L', Rl c H0 σ' H' env' L' ∧ ∃ m', m' < m ∧ W m' env' L', fun σ' H' ⟨f', env', L', rl', m', hm, w'⟩ => ⟨m', hm, f', env', L', rl', w'⟩, ?_⟩
    refine ⟨env1, L2, _, rl1.step s g, q, ⟨fun env' L' σ' H' q' s' rl' => ⟨(f1.trans s).trans s', env', L', rl', q'⟩, fun d L' v H' q' s' => er.rt d L' v H' q' ((f1.trans s).trans s'), fun env' L' σ' H' q' s' rl' => er.nx env' L' σ' H' q' ((f1.trans s).trans s') rl', fun env' L' σ' H' q' s' rl' => ⟨(f1.trans s).trans s', env', L', rl', q'⟩⟩⟩
  | false => exact er.nx env1 L2 σ1 H2 q (f1.trans s) (rl1.step s g)
theorem as_for {iter : Expr} {ai : ATI} (hp : PassesOwn (model X.prog X.w) X.A X.env X.xe) (hc : X.calm = true) (hi : AI X c H0 tg iter ai) (hg : AG X c H0 tg g) (hb : ASs X c H0 sts s1)
    (hs : ∀ x, foldedSetIterable iter X.env x = pure x := by intro _; rfl) : AS X c H0 (.For tg iter sts [] pos) (aFor ai g s1) := by
  refine (ps_for hp hc hi hg hb hs).imp fun D σ H ⟨env, L, R, rl, h, er⟩ => ?_
  refine ⟨env, L, _, rl, h, fun items G L1 J H1 q s g1 wa => ?_⟩
  obtain ⟨GH, wk, hG⟩ := wa.ex
  have hd : ∀ {i : Nat}, i < items.length → ∃ d, items[i]? = some d ∧ items.drop i = d :: items.drop (i + 1) := fun {i} hi => ⟨items[i], List.getElem?_eq_getElem hi, List.drop_eq_getElem_cons hi⟩
  have hGl : ∀ {ds : List AL.D} {env' : En} {L' : Store}, loopA g s1 R G ds env' L' → G L' := fun {ds env' L'} z => by
    cases ds with
    | nil => exact z.1
    | cons d ds => exact z.1
  refine for_it wk (fun i σ' H' => Fr c H1 H' ∧ ∃ env' L', Rl c H0 σ' H' env' L' ∧ loopA g s1 R G (items.drop i) env' L') ⟨.refl c H1, env, L1, rl.step s g1, q⟩ (fun i σ' H' _ ⟨f, env', L', rl', z⟩ => hG L' H' f rl'.good (hGl z)) ?_ ?_
  · rintro i x σ' H2 H3 hi ⟨f, env', L', rl', z⟩ ⟨s2, k2, d, e1, r⟩
    obtain ⟨d', e2, e3⟩ := hd hi
    rw [e1] at e2
    cases e2
    rw [e3] at z
    refine ⟨d, env', L', _, r, rl'.step s2 (k2 L' rl'.good), z.2, fun env2 L2 σ2 H4 q2 s3 rl2 => ?_⟩
    refine ⟨env2, L2, _, rl2, q2, ⟨fun env3 L3 σ3 H5 q3 s4 rl3 => ⟨((f.trans s2).trans s3).trans s4, env3, L3, rl3, q3⟩, fun d L' v H' q' s' => er.rt d L' v H' q' ((((s.trans f).trans s2).trans s3).trans s'), fun env' L' σ' H' q' s' rl' => er.nx env' L' σ' H' q' ((((s.trans f).trans s2).trans s3).trans s') rl', fun env3 L3 σ3 H5 q3 s4 rl3 => ⟨((f.trans s2).trans s3).trans s4, env3, L3, rl3, q3⟩⟩⟩
  · rintro σ' H2 ⟨f, env', L', rl', z⟩
    rw [List.drop_length] at z
    exact er.nx env' L' σ' H2 z.2 (s.trans f) rl'
end
end AL
namespace AL
open PySem PySem.Spec PyProof.Rows L2 LamX JW
theorem AOp.mk' {X : Cx} {c : AC X.K} {g : Value → Value → Sem Value} {f : D → D → Store → AQ → Prop} {r : R2} (h : OpR X g r) (k : LowR2 c r f) : AOp X c g f := ⟨r, h, k⟩
def addD : D → D → Store → AQ → Prop
  | .int i, .int j, L, Q => Q (.int (i + j)) L
  | .int i, .bl k, L, Q => Q (.int (i + b2i k)) L
  | .str a, .str b, L, Q => a.length + b.length ≤ sizeLine ∧ Q (.str (a ++ b)) L
  | .tup a, .tup b, L, Q => a.length + b.length ≤ sizeLine ∧ Q (.tup (a ++ b)) L
  | .ref p, .ref q, L, Q => ∃ xs ys, L p = some (.lst xs) ∧ L q = some (.lst ys) ∧ xs.length + ys.length ≤ sizeLine ∧ ∀ r, L r = none → Q (.ref r) (sput L r (.lst (xs ++ ys)))
  | _, _, _, _ => False
def subD : D → D → Store → AQ → Prop
  | .int i, .int j, L, Q => Q (.int (i - j)) L
  | _, _, _, _ => False
def MulOk (i j : Int) : Prop := CMul i j ∨ CMulW i j
def mulD : D → D → Store → AQ → Prop
  | .int i, .int j, L, Q => MulOk i j ∧ Q (.int (i * j)) L
  | .ref p, .int k, L, Q => ∃ xs, L p = some (.lst xs) ∧ -(2 ^ 63) ≤ k ∧ k < 2 ^ 63 ∧ xs.length * k.toNat ≤ sizeLine ∧ ∀ r, L r = none → Q (.ref r) (sput L r (.lst (List.replicate k.toNat xs).flatten))
  | .str z, .int k, L, Q => ∃ (c n : Nat), z = SX.S [c] ∧ k = n ∧ 1 ≤ n ∧ n ≤ 100000 ∧ Q (.str (SX.S (List.replicate n c))) L
  | _, _, _, _ => False
def fdivD : D → D → Store → AQ → Prop
  | .int i, .int j, L, Q => (0 < j ∧ j.natAbs.log2 < 9000) ∧ Q (.int (i / j)) L
  | _, _, _, _ => False
def modD : D → D → Store → AQ → Prop
  | .int i, .int j, L, Q => 0 < j ∧ Q (.int (i % j)) L
  | _, _, _, _ => False
def ltD : D → D → Store → AQ → Prop
  | .int i, .int j, L, Q => Q (.bl (decide (i < j))) L
  | .str a, .str b, L, Q => Q (.bl (decide (a.cps.toList < b.cps.toList))) L
  | _, _, _, _ => False
section
variable {K : PySem.W.Frag} {c : AC K} {H : Hp} {L : Store}
theorem good_lst (g : Good c L H) {p : Addr} {l : List D} (e : L p = some (.lst l)) : ∃ vs, H p = some (.lst vs) ∧ RepL c H l vs := g.st p _ e
end
section
variable {X : Cx} {c : AC X.K}
theorem aop_add : AOp X c (binaryOp .Add) addD := by
  refine .mk' ((op_add.or op_add_ib).or (op_add_str.or (op_catA.or op_cat))) fun x y H Q d e L R rx ry g h pq => ?_
  unfold addD at h
  split at h
  · rename_i i j
    exact .inl (.inl ⟨i, j, rep_int.mp rx, rep_int.mp ry, pq.here h g (rep_int.mpr rfl)⟩)
  · rename_i i j
    exact .inl (.inr ⟨i, j, rep_int.mp rx, rep_bl.mp ry, pq.here h g (rep_int.mpr rfl)⟩)
  · rename_i a b
    exact .inr (.inl ⟨a, b, rep_str.mp rx, rep_str.mp ry, h.1, pq.here h.2 g (rep_str.mpr rfl)⟩)
  · rename_i a b
    obtain ⟨hz, h⟩ := h
    obtain ⟨p, vs, rfl, e1, r1⟩ := rep_tup.mp rx
    obtain ⟨q, ws, rfl, e2, r2⟩ := rep_tup.mp ry
    refine .inr (.inr (.inl ⟨p, q, vs, ws, rfl, rfl, e1, e2, by rw [r1.len, r2.len]; exact hz, fun z => ?_, fun _ z => ?_, fun _ _ r hr => ?_⟩))
    · subst z
      have : a = [] := List.eq_nil_of_length_eq_zero (by rw [← r1.len]; rfl)
      subst this
      exact pq.here h g (rep_tup.mpr ⟨q, ws, rfl, e2, r2⟩)
    · subst z
      have : b = [] := List.eq_nil_of_length_eq_zero (by rw [← r2.len]; rfl)
      subst this
      rw [List.append_nil] at h
      exact pq.here h g (rep_tup.mpr ⟨p, vs, rfl, e1, r1⟩)
    · exact pq.new hr h g (rep_tup.mpr ⟨r, _, rfl, SqT.of upd_same, (r1.app r2).fr (.new hr)⟩)
  · rename_i p q
    obtain ⟨xs, ys, h1, h2, hz, h⟩ := h
    obtain ⟨vs, e1, r1⟩ := good_lst g h1
    obtain ⟨ws, e2, r2⟩ := good_lst g h2
    cases rep_ref.mp rx
    cases rep_ref.mp ry
    exact .inr (.inr (.inr ⟨p, q, vs, ws, rfl, rfl, e1, e2, by rw [r1.len, r2.len]; exact hz, fun r hr => pq.alloc hr (h r (g.fresh hr)) g ⟨_, upd_same, (r1.app r2).fr (.new hr)⟩⟩))
  · exact h.elim
theorem aop_sub : AOp X c (binaryOp .Sub) subD := by
  refine .mk' op_sub fun x y H Q d e L R rx ry g h pq => ?_
  unfold subD at h
  split at h
  · rename_i i j
    exact ⟨i, j, rep_int.mp rx, rep_int.mp ry, pq.here h g (rep_int.mpr rfl)⟩
  · exact h.elim
theorem aop_mul : AOp X c (binaryOp .Mult) mulD := by
  refine .mk' ((op_mul.or op_mulW).or (op_rep.or op_rep_str)) fun x y H Q d e L R rx ry g h pq => ?_
  unfold mulD at h
  split at h
  · rename_i i j
    obtain ⟨k, h⟩ := h
    rcases k with k | k
    · exact .inl (.inl ⟨i, j, rep_int.mp rx, rep_int.mp ry, k, pq.here h g (rep_int.mpr rfl)⟩)
    · exact .inl (.inr ⟨i, j, rep_int.mp rx, rep_int.mp ry, k, pq.here h g (rep_int.mpr rfl)⟩)
  · rename_i p k
    obtain ⟨xs, h1, k1, k2, hz, h⟩ := h
    obtain ⟨vs, e1, r1⟩ := good_lst g h1
    cases rep_ref.mp rx
    refine .inr (.inl ⟨p, k, vs, rfl, rep_int.mp ry, e1, k1, k2, by rw [r1.len]; exact hz, fun r hr => pq.alloc hr (h r (g.fresh hr)) g ⟨_, upd_same, ?_⟩⟩)
    have : ∀ n : Nat, RepL c (upd H r (.lst (List.replicate k.toNat vs).flatten)) (List.replicate n xs).flatten (List.replicate n vs).flatten := fun n => by
      induction n with
      | zero => exact RepL.nil
      | succ n ih =>
        rw [List.replicate_succ, List.replicate_succ, List.flatten_cons, List.flatten_cons]
        exact (r1.fr (.new hr)).app ih
    exact this _
  · rename_i z k
    obtain ⟨a, n, h1, h2, h3, h4, h⟩ := h
    subst h1 h2
    exact .inr (.inr ⟨a, n, rep_str.mp rx, rep_int.mp ry, h3, h4, pq.here h g (rep_str.mpr rfl)⟩)
  · exact h.elim
theorem aop_fdiv : AOp X c (binaryOp .FloorDiv) fdivD := by
  refine .mk' op_fdivW fun x y H Q d e L R rx ry g h pq => ?_
  unfold fdivD at h
  split at h
  · rename_i i j
    exact ⟨i, j, rep_int.mp rx, rep_int.mp ry, h.1, pq.here h.2 g (rep_int.mpr rfl)⟩
  · exact h.elim
theorem aop_mod : AOp X c (binaryOp .Mod) modD := by
  refine .mk' op_mod fun x y H Q d e L R rx ry g h pq => ?_
  unfold modD at h
  split at h
  · rename_i i j
    exact ⟨i, j, rep_int.mp rx, rep_int.mp ry, h.1, pq.here h.2 g (rep_int.mpr rfl)⟩
  · exact h.elim
theorem aop_lt : AOp X c (compareOp .Lt) ltD := by
  refine .mk' (op_lt.or op_lt_str) fun x y H Q d e L R rx ry g h pq => ?_
  unfold ltD at h
  split at h
  · rename_i i j
    exact .inl ⟨i, j, rep_int.mp rx, rep_int.mp ry, pq.here h g (rep_bl.mpr rfl)⟩
  · rename_i i j
    exact .inr ⟨i, j, rep_str.mp rx, rep_str.mp ry, pq.here h g (rep_bl.mpr rfl)⟩
  · exact h.elim
end
mutual
def pyF : D → Option PyData
  | .non => some .none
  | .bl b => some (.bool b)
  | .int i => some (.int i)
  | .str s => some (.str s)
  | .tup l => (pyFL l).map .tuple
  | _ => none
def pyFL : List D → Option (List PyData)
  | [] => some []
  | d :: ds => match pyF d, pyFL ds with
    | some x, some xs => some (x :: xs)
    | _, _ => none
end
def pyT (L : Store) : D → Option PyData
  | .ref p => match L p with
    | some (.lst l) => (pyFL l).map .list
    | _ => none
  | d => pyF d
section
variable {K : PySem.W.Frag} {c : AC K} {H : Hp} {L : Store}
mutual
theorem dp_of : ∀ (d : D) (v : V) (x : PyData), Rep c H d v → pyF d = some x → Dp K H v x
  | .non, v, x, r, e => by
    cases rep_non.mp r
    simp only [pyF, Option.some.injEq] at e
    subst e
    exact .non
  | .bl b, v, x, r, e => by
    cases rep_bl.mp r
    simp only [pyF, Option.some.injEq] at e
    subst e
    exact .bl b
  | .int i, v, x, r, e => by
    cases rep_int.mp r
    simp only [pyF, Option.some.injEq] at e
    subst e
    exact .int i
  | .str z, v, x, r, e => by
    cases rep_str.mp r
    simp only [pyF, Option.some.injEq] at e
    subst e
    exact .str z
  | .tup l, v, x, r, e => by
    obtain ⟨a, vs, rfl, e1, rs⟩ := rep_tup.mp r
    simp only [pyF, Option.map_eq_some_iff] at e
    obtain ⟨xs, e2, rfl⟩ := e
    exact .tup (e1) (dpL_of l vs xs rs e2)
  | .ref _, v, x, r, e => by simp [pyF] at e
  | .ty _, v, x, r, e => by simp [pyF] at e
  | .scr, v, x, r, e => by simp [pyF] at e
  | .tree _, v, x, r, e => by simp [pyF] at e
  | .obj _ _ _, v, x, r, e => by simp [pyF] at e
  | .err _ _ _, v, x, r, e => by simp [pyF] at e
  | .imm _, v, x, r, e => by simp [pyF] at e
theorem dpL_of : ∀ (l : List D) (vs : List V) (xs : List PyData), RepL c H l vs → pyFL l = some xs → DpAll K H vs xs
  | [], vs, xs, r, e => by
    cases repL_nil.mp r
    simp only [pyFL, Option.some.injEq] at e
    subst e
    exact .nil
  | d :: ds, vs, xs, r, e => by
    obtain ⟨v, ws, rfl, r1, r2⟩ := repL_cons.mp r
    simp only [pyFL] at e
    split at e
    · rename_i x ys e1 e2
      simp only [Option.some.injEq] at e
      subst e
      exact .cons (dp_of d v x r1 e1) (dpL_of ds ws ys r2 e2)
    · cases e
end
theorem dpT_of (g : Good c L H) {d : D} {v : V} {x : PyData} (r : Rep c H d v) (e : pyT L d = some x) : Dp K H v x := by
  cases d with
  | ref p =>
    cases rep_ref.mp r
    unfold pyT at e
    simp only at e
    split at e
    · rename_i l e1
      obtain ⟨vs, e2, rs⟩ := good_lst g e1
      obtain ⟨xs, e3, rfl⟩ := Option.map_eq_some_iff.mp e
      exact .lst (SqL.of e2) (dpL_of l vs xs rs e3)
    · cases e
  | _ => exact dp_of _ v x r e
end
def eqX (neg : Bool) (d e : D) (L : Store) (Q : AQ) : Prop := ∃ x y, pyT L d = some x ∧ pyT L e = some y ∧ SeqAt.shaped x = true ∧ SeqAt.shaped y = true ∧ Q (.bl (neg ^^ PyData.eqv x y)) L
def eqD (neg : Bool) : D → D → Store → AQ → Prop
  | .int i, .int j, L, Q => Q (.bl (neg ^^ decide (i = j))) L
  | .str i, .str j, L, Q => Q (.bl (neg ^^ decide (i = j))) L
  | .bl i, .bl j, L, Q => Q (.bl (neg ^^ decide (i = j))) L
  | .tree t, .tree u, L, Q => Q (.bl (neg ^^ decide (t = u))) L
  | d, e, L, Q => eqX neg d e L Q
def spEqF (K : PySem.W.Frag) : Sp := fun vs H Q _ => ∃ x y t u, vs = [x, y] ∧ Ftn (cF K) H t x ∧ Ftn (cF K) H u y ∧ Q (.bl (decide (t = u))) H
section
variable {X : Cx} {c : AC X.K} {CX : CXT} {k : Nat} {ps : List Str} {E : XK}
theorem eq_low {neg : Bool} {rS rD rO : R2} (hS : ∀ x y H Q, scal x y = true → Q (.bl (neg ^^ decide (x = y))) H → rS x y H Q)
    (hD : ∀ x y H Q d e, Dp X.K H x d → Dp X.K H y e → SeqAt.shaped d = true → SeqAt.shaped e = true → Q (.bl (neg ^^ PyData.eqv d e)) H → rD x y H Q)
    (hO : ∀ x y H Q t u, Ftn (cF X.K) H t x → Ftn (cF X.K) H u y → Q (.bl (neg ^^ decide (t = u))) H → rO x y H Q) : LowR2 c (fun x y H Q => rS x y H Q ∨ (rD x y H Q ∨ rO x y H Q)) (eqD neg) := by
  intro x y H Q d e L R rx ry g h pq
  have gen : eqX neg d e L R → (rS x y H Q ∨ (rD x y H Q ∨ rO x y H Q)) := fun ⟨a, b, e1, e2, s1, s2, q⟩ =>
    .inr (.inl (hD x y H Q a b (dpT_of g rx e1) (dpT_of g ry e2) s1 s2 (pq.here q g (rep_bl.mpr rfl))))
  unfold eqD at h
  split at h
  · rename_i i j
    cases rep_int.mp rx
    cases rep_int.mp ry
    refine .inl (hS _ _ H Q rfl ?_)
    have : decide (V.int i = V.int j) = decide (i = j) := by
      by_cases z : i = j
      · subst z; simp
      · rw [decide_eq_false z, decide_eq_false fun q => z (V.int.inj q)]
    rw [this]
    exact pq.here h g (rep_bl.mpr rfl)
  · rename_i i j
    cases rep_str.mp rx
    cases rep_str.mp ry
    refine .inl (hS _ _ H Q rfl ?_)
    have : decide (V.str i = V.str j) = decide (i = j) := by
      by_cases z : i = j
      · subst z; simp
      · rw [decide_eq_false z, decide_eq_false fun q => z (V.str.inj q)]
    rw [this]
    exact pq.here h g (rep_bl.mpr rfl)
  · rename_i i j
    cases rep_bl.mp rx
    cases rep_bl.mp ry
    refine .inl (hS _ _ H Q rfl ?_)
    have : decide (V.bl i = V.bl j) = decide (i = j) := by
      by_cases z : i = j
      · subst z; simp
      · rw [decide_eq_false z, decide_eq_false fun q => z (V.bl.inj q)]
    rw [this]
    exact pq.here h g (rep_bl.mpr rfl)
  · rename_i t u
    exact .inr (.inr (hO x y H Q t u (rep_tree.mp rx) (rep_tree.mp ry) (pq.here h g (rep_bl.mpr rfl))))
  · exact gen h
theorem ftn_ins {H : Hp} {t : T} {x : V} (h : Ftn (cF X.K) H t x) : ∃ a dx fs, x = .ref a ∧ H a = some (.ins (cF X.K) dx fs) := by
  obtain ⟨a, dx, b, n, vs, rfl, h1, _⟩ := ftn_iff.mp h
  exact ⟨a, dx, _, rfl, h1⟩
theorem aop_eq (M : MethD X.prog X.w X.K X.mg X.base CX0 k (cF X.K) "__eq__" ps [] (spEqF X.K)) (hr : Room (k + 1) X.A) (hu : X.A.units + 64 < cLine) : AOp X c (compareOp .Eq) (eqD false) := by
  refine .mk' (op_eq.or ((op_eqD hu).or (op_own_eq (E := fun _ _ _ => True) M (hr.mono (Nat.le_succ k)) pass0))) (eq_low (fun x y H Q s q => ⟨s, by rw [Bool.false_xor] at q; exact q⟩) (fun x y H Q d e h1 h2 s1 s2 q => ⟨d, e, h1, h2, s1, s2, by rw [Bool.false_xor] at q; exact q⟩) fun x y H Q t u h1 h2 q => ?_)
  obtain ⟨a, dx, fs, rfl, e1⟩ := ftn_ins h1
  obtain ⟨b, dy, gs, rfl, e2⟩ := ftn_ins h2
  exact ⟨a, dx, fs, b, dy, gs, rfl, rfl, e1, e2, _, _, t, u, rfl, h1, h2, _, rfl, by rw [Bool.false_xor] at q; simpa using q⟩
theorem aop_ne (cl : ClsF X.K X.mg) (M : MethD X.prog X.w X.K X.mg X.base CX0 k (cF X.K) "__eq__" ps [] (spEqF X.K)) (hr : Room (k + 1) X.A) (hu : X.A.units + 64 < cLine) : AOp X c (compareOp .NotEq) (eqD true) := by
  refine .mk' (op_ne.or ((op_neD hu).or (op_own_ne (E := fun _ _ _ => True) cl.hne cl.hob M hr pass0))) (eq_low (fun x y H Q s q => ⟨s, by rw [Bool.true_xor] at q; exact q⟩) (fun x y H Q d e h1 h2 s1 s2 q => ⟨d, e, h1, h2, s1, s2, by rw [Bool.true_xor] at q; exact q⟩) fun x y H Q t u h1 h2 q => ?_)
  obtain ⟨a, dx, fs, rfl, e1⟩ := ftn_ins h1
  obtain ⟨b, dy, gs, rfl, e2⟩ := ftn_ins h2
  exact ⟨a, dx, fs, b, dy, gs, rfl, rfl, e1, e2, _, _, t, u, rfl, h1, h2, _, rfl, by rw [Bool.true_xor] at q; simpa using q⟩
end
def flatB : D → Bool
  | .non | .bl _ | .int _ | .str _ => true
  | _ => false
def vD : D → V
  | .bl b => .bl b
  | .int i => .int i
  | .str s => .str s
  | _ => .non
section
variable {K : PySem.W.Frag} {c : AC K} {H : Hp} {L : Store}
theorem flat_low {d : D} {v : V} (r : Rep c H d v) (h : flatB d = true) : v = vD d ∧ flatV v = true := by
  cases d with
  | non => cases rep_non.mp r; exact ⟨rfl, rfl⟩
  | bl b => cases rep_bl.mp r; exact ⟨rfl, rfl⟩
  | int i => cases rep_int.mp r; exact ⟨rfl, rfl⟩
  | str s => cases rep_str.mp r; exact ⟨rfl, rfl⟩
  | _ => cases h
end
section
variable {X : Cx} {c : AC X.K}
end
def ixD : D → D → Store → AQ → Prop
  | .tup l, .int i, L, Q => ∃ d, atI l i = some d ∧ Q d L
  | .ref p, .int i, L, Q => ∃ l d, L p = some (.lst l) ∧ atI l i = some d ∧ Q d L
  | .str z, .int i, L, Q => z.length ≤ sizeLine ∧ ∃ c, atI z.cps.toList i = some c ∧ Q (.str ⟨#[c]⟩) L
  | _, _, _, _ => False
theorem atI_low {K : PySem.W.Frag} {c : AC K} {H : Hp} {l : List D} {vs : List V} {i : Int} {d : D} (rs : RepL c H l vs) (h : atI l i = some d) : ∃ v, atI vs i = some v ∧ Rep c H d v := by
  unfold atI at h ⊢
  rw [rs.len]
  cases e : ixN l.length i with
  | none => rw [e] at h; cases h
  | some j =>
    rw [e] at h
    exact rs.get h
section
variable {X : Cx} {c : AC X.K} {H0 : Hp} {e f : Expr} {a b : ATE} {pos p2 : Pos}
theorem ae_ix (ha : AE X c H0 e a) (hb : AE X c H0 f b) (hs : PlainIx f) : AE X c H0 (.Subscript e f pos) (aOp ixD a b) := by
  refine (pe_ix ix_seq ha hb hs).imp fun σ H Q q => low_op (fun x y H Q d e L R rx ry g h pq => ?_) q
  unfold ixD at h
  split at h
  · rename_i l i
    obtain ⟨d, h1, h⟩ := h
    obtain ⟨p, vs, rfl, e1, rs⟩ := rep_tup.mp rx
    obtain ⟨v, e2, r⟩ := atI_low rs h1
    exact .inr (.inl ⟨p, vs, i, v, rfl, rep_int.mp ry, e1, e2, pq.here h g r⟩)
  · rename_i p i
    obtain ⟨l, d, h0, h1, h⟩ := h
    obtain ⟨vs, e1, rs⟩ := good_lst g h0
    cases rep_ref.mp rx
    obtain ⟨v, e2, r⟩ := atI_low rs h1
    exact .inl ⟨p, vs, i, v, rfl, rep_int.mp ry, SqL.of e1, e2, pq.here h g r⟩
  · rename_i z i
    obtain ⟨hz, k, h1, h⟩ := h
    exact .inr (.inr ⟨z, i, k, rep_str.mp rx, rep_int.mp ry, hz, h1, pq.here h g (rep_str.mpr rfl)⟩)
  · exact h.elim
end
abbrev ATO := En → Store → (Option Int → Store → Prop) → Prop
def lowO {K : PySem.W.Frag} (c : AC K) (H0 : Hp) (a : ATO) : TO := fun σ H Q => ∃ env L R, Rl c H0 σ H env L ∧ a env L R ∧ ∀ b L' H', R b L' → Fr c H H' → Good c L' H' → Q b H'
def AO (X : Cx) (c : AC X.K) (H0 : Hp) (e : Option Expr) (a : ATO) : Prop := PO X e (lowO c H0 a)
def aoNone : ATO := fun _ L Q => Q none L
def intD : D → (Int → Prop) → Prop
  | .int i, Q => Q i
  | _, _ => False
def aoSome (a : ATE) : ATO := fun env L Q => a env L fun d L1 => intD d fun i => Q (some i) L1
theorem int_low {K : PySem.W.Frag} {c : AC K} {H : Hp} {d : D} {v : V} {R : Int → Prop} (r : Rep c H d v) (h : intD d R) : ∃ k, v = .int k ∧ R k := by
  cases d with
  | int b => exact ⟨b, rep_int.mp r, h⟩
  | _ => exact h.elim
def cutD (l : List D) (lo hi : Option Int) : List D := (l.drop (HT.sIx l.length 0 lo)).take (HT.sIx l.length l.length hi - HT.sIx l.length 0 lo)
def slD : D → Option Int → Option Int → Store → AQ → Prop
  | .tup l, lo, hi, L, Q => Q (.tup (cutD l lo hi)) L
  | .ref p, lo, hi, L, Q => ∃ l, L p = some (.lst l) ∧ ∀ q, L q = none → Q (.ref q) (sput L q (.lst (cutD l lo hi)))
  | .str z, lo, hi, L, Q => z.length ≤ sizeLine ∧ Q (.str (cutS z lo hi)) L
  | _, _, _, _, _ => False
def aSl (a : ATE) (lo hi : ATO) : ATE := fun env L Q => a env L fun d L1 => lo env L1 fun l L2 => hi env L2 fun h L3 => slD d l h L3 Q
theorem cut_low {K : PySem.W.Frag} {c : AC K} {H : Hp} {l : List D} {vs : List V} {lo hi : Option Int} (rs : RepL c H l vs) : RepL c H (cutD l lo hi) (cutV vs lo hi) := by
  unfold cutD cutV
  rw [rs.len]
  exact (rs.drop _).take _
section
variable {X : Cx} {c : AC X.K} {H0 : Hp} {e : Expr} {lo hi : Option Expr} {a : ATE} {ol oh : ATO} {pos p2 : Pos}
theorem ao_none : AO X c H0 none aoNone := ⟨fun pins s σ H Q I h => po_none.run pins s σ H Q I (by
  obtain ⟨env, L, R, rl, h, pq⟩ := h
  exact pq none L H h (.refl c H) rl.good)⟩
theorem ao_some (h : AE X c H0 e a) : AO X c H0 (some e) (aoSome a) := ⟨fun pins s σ H Q I q => (po_some h).run pins s σ H Q I (by
  obtain ⟨env, L, R, rl, h, pq⟩ := q
  refine ⟨env, L, _, rl, h, fun d L1 x H1 q s1 g1 r1 => ?_⟩
  obtain ⟨k, e1, e2⟩ := int_low (R := fun i => R (some i) L1) r1 q
  exact ⟨k, e1, pq _ L1 H1 e2 s1 g1⟩)⟩
theorem ae_sl (he : AE X c H0 e a) (hl : AO X c H0 lo ol) (hh : AO X c H0 hi oh) : AE X c H0 (.Subscript e (.Slice lo hi none p2) pos) (aSl a ol oh) := by
  refine (pe_slice (sl_list.or (sl_tupA.or sl_str)) he hl hh).imp fun σ H Q ⟨env, L, R, rl, h, pq⟩ => ?_
  refine ⟨env, L, _, rl, h, fun d L1 x H1 q s1 g1 r1 => ?_⟩
  refine ⟨env, L1, _, rl.step s1 g1, q, fun l L2 H2 q2 s2 g2 => ?_⟩
  refine ⟨env, L2, _, rl.step (s1.trans s2) g2, q2, fun u L3 H3 q3 s3 g3 => ?_⟩
  have pq3 := pq.fr ((s1.trans s2).trans s3)
  have rx := r1.fr (s2.trans s3)
  unfold slD at q3
  split at q3
  · rename_i ds
    obtain ⟨p, vs, rfl, e1, rs⟩ := rep_tup.mp rx
    refine .inr (.inl ⟨p, vs, rfl, e1, fun hw => ?_, fun _ r hr => pq3.new hr q3 g3 (rep_tup.mpr ⟨r, _, rfl, SqT.of upd_same, (cut_low rs).fr (.new hr)⟩)⟩)
    have ec : cutD ds l u = ds := by
      unfold cutD
      have h1 := hw.1
      have h2 := hw.2
      rw [rs.len] at h1 h2
      rw [h1, h2, List.drop_zero, Nat.sub_zero, List.take_length]
    have q3 : R (.tup (cutD ds l u)) L3 := q3
    rw [ec] at q3
    exact pq3.here q3 g3 rx
  · rename_i p
    obtain ⟨ds, e0, q3⟩ := q3
    obtain ⟨vs, e1, rs⟩ := good_lst g3 e0
    cases rep_ref.mp rx
    exact .inl ⟨p, vs, rfl, SqL.of e1, fun r hr => pq3.alloc hr (q3 r (g3.fresh hr)) g3 ⟨_, upd_same, (cut_low rs).fr (.new hr)⟩⟩
  · rename_i z
    exact .inr (.inr ⟨z, rep_str.mp rx, q3.1, pq3.here q3.2 g3 (rep_str.mpr rfl)⟩)
  · exact q3.elim
end
def aCall (asp : ASp) (as : ATA) : ATE := fun env L Q => as env L fun ds L1 => asp ds L1 Q anyX
def aCallX (asp : ASp) (RX : AX) (as : ATA) : ATE := fun env L Q => as env L fun ds L1 => asp ds L1 Q RX
def withD (dd : List D) (asp : ASp) : ASp := fun ds L Q RX => asp (ds ++ dd) L Q RX
section
variable {X : Cx} {c : AC X.K} {H0 : Hp} {e o : Expr} {es : List Expr} {a : ATE} {as : ATA} {x m : Str} {p pos apos : Pos} {k : Nat} {ps : List Str} {asp : ASp} {CX : CXT} {E : XK} {RX : AX} {dvs : List V} {dd : List D} {C : Addr}
theorem low_call {σ : L2.St} {H : Hp} {Q : VK} (hd : ∀ H, RepL c H dd dvs) (q : lowE c H0 (aCallX (withD dd asp) RX as) σ H Q) (hE : ∀ H1, Fr c H H1 → Px c H1 RX E) : tCall (spA c asp) dvs E (lowA c H0 as) σ H Q := by
  obtain ⟨env, L, R, rl, h, pq⟩ := q
  exact ⟨env, L, _, rl, h, fun ds L1 vs H1 q s1 g1 r1 => ⟨ds ++ dd, L1, R, RX, r1.app (hd H1), g1, q, pq.fr s1, hE H1 s1⟩⟩
theorem px_any {H : Hp} : Px c H anyX (fun _ _ _ => True) := fun _ _ _ _ _ _ _ _ _ => trivial
theorem ae_call (C : CallD X.prog X.w X.K X.mg X.base CX0 k x ps [] (spA c asp)) (hr : Room k X.A) (hg : Gl X x) (ha : AA X c H0 (e :: es) as) (hdb : (x == ("__debug__" : Str)) = false := by decide)
    (he : starEach (e :: es) X.env = (false, eval e X.env) :: starEach es X.env := by rfl) (hpl : (backTo pos (starEach es X.env)).any (·.1) = false := by rfl) : AE X c H0 (.Call (.Name x p) (e :: es) [] pos) (aCall asp as) := by
  refine (pe_callD (E := fun _ _ _ => True) C hr hg pass0 ha hdb he hpl).imp fun σ H Q q => low_call (dd := []) (RX := anyX) (fun _ => RepL.nil) ?_ fun _ _ => px_any
  obtain ⟨env, L, R, rl, h, pq⟩ := q
  refine ⟨env, L, R, rl, ?_, pq⟩
  have h : as env L fun ds L1 => asp ds L1 R anyX := h
  unfold aCallX withD
  simpa using h
end
def LowC {K : PySem.W.Frag} (c : AC K) (r : List V → Hp → VK → Prop) (f : List D → Store → AQ → Prop) : Prop := ∀ vs H Q ds L R, RepL c H ds vs → Good c L H → f ds L R → Pq c H R Q → r vs H Q
structure ACB (X : Cx) (c : AC X.K) (g : Value) (f : List D → Store → AQ → Prop) : Prop where
  ex : ∃ r, CallR X g r ∧ LowC c r f
def aB (f : List D → Store → AQ → Prop) (as : ATA) : ATE := fun env L Q => as env L fun ds L1 => f ds L1 Q
section
variable {X : Cx} {c : AC X.K} {H0 : Hp} {e o : Expr} {es : List Expr} {a : ATE} {as : ATA} {x m : Str} {p pos apos : Pos} {id T : String} {f : List D → Store → AQ → Prop}
theorem ACB.mk' {g : Value} {r : List V → Hp → VK → Prop} (h : CallR X g r) (k : LowC c r f) : ACB X c g f := ⟨r, h, k⟩
theorem low_cb {r : List V → Hp → VK → Prop} (h : LowC c r f) {σ : L2.St} {H : Hp} {Q : VK} (q : lowE c H0 (aB f as) σ H Q) : tCB r (lowA c H0 as) σ H Q := by
  obtain ⟨env, L, R, rl, k, pq⟩ := q
  exact ⟨env, L, _, rl, k, fun ds L1 vs H1 q s1 g1 r1 => h vs H1 Q ds L1 R r1 g1 q (pq.fr s1)⟩
theorem ae_b (hc : ACB X c (.builtin id) f) (hg : Gl X x) (hm : X.mg x = none) (hv : bootBuiltins x = some (.builtin id)) (ha : AA X c H0 (e :: es) as) (hn : x ≠ "__name__" := by decide) (hdb : (x == ("__debug__" : Str)) = false := by decide)
    (he : starEach (e :: es) X.env = (false, eval e X.env) :: starEach es X.env := by rfl) (hpl : (backTo pos (starEach es X.env)).any (·.1) = false := by rfl) : AE X c H0 (.Call (.Name x p) (e :: es) [] pos) (aB f as) := by
  obtain ⟨r, h1, h2⟩ := hc.ex
  exact (pe_callB h1 hg hm hv ha hn hdb he hpl).imp fun _ _ _ q => low_cb h2 q
theorem ae_ty (hc : ACB X c (.type T) f) (hg : Gl X x) (hm : X.mg x = none) (hv : bootBuiltins x = some (.type T)) (ha : AA X c H0 (e :: es) as) (hn : x ≠ "__name__" := by decide) (hdb : (x == ("__debug__" : Str)) = false := by decide)
    (he : starEach (e :: es) X.env = (false, eval e X.env) :: starEach es X.env := by rfl) (hpl : (backTo pos (starEach es X.env)).any (·.1) = false := by rfl) : AE X c H0 (.Call (.Name x p) (e :: es) [] pos) (aB f as) := by
  obtain ⟨r, h1, h2⟩ := hc.ex
  exact (pe_callTy h1 hg hm hv ha hn hdb he hpl).imp fun _ _ _ q => low_cb h2 q
end
def lenD : List D → Store → AQ → Prop
  | [.str z], L, Q => z.length ≤ sizeLine ∧ Q (.int z.length) L
  | [.tup l], L, Q => Q (.int l.length) L
  | [.ref p], L, Q => ∃ l, L p = some (.lst l) ∧ Q (.int l.length) L
  | [.scr], L, Q => ∀ n : Nat, n ≤ 63 → Q (.int n) L
  | _, _, _ => False
def intFD : List D → Store → AQ → Prop
  | [.int i], L, Q => Q (.int i) L
  | [.bl k], L, Q => Q (.int (if k then 1 else 0)) L
  | _, _, _ => False
def sumD : List D → Store → AQ → Prop
  | [.ref p], L, Q => ∃ ns : List Int, L p = some (.lst (ns.map D.int)) ∧ Q (.int ns.sum) L
  | _, _, _ => False
def maxD : List D → Store → AQ → Prop
  | [.ref p], L, Q => ∃ ns : List Int, L p = some (.lst (ns.map D.int)) ∧ 0 < ns.length ∧ ∀ m, m ∈ ns → (∀ y, y ∈ ns → y ≤ m) → Q (.int m) L
  | [.int i, .int j], L, Q => Q (.int (if j > i then j else i)) L
  | _, _, _ => False
def minD : List D → Store → AQ → Prop
  | [.ref p], L, Q => ∃ ns : List Int, L p = some (.lst (ns.map D.int)) ∧ 0 < ns.length ∧ ∀ m, m ∈ ns → (∀ y, y ∈ ns → m ≤ y) → Q (.int m) L
  | [.int i, .int j], L, Q => Q (.int (if j < i then j else i)) L
  | _, _, _ => False
def listD : List D → Store → AQ → Prop
  | [.tup l], L, Q => ∀ r, L r = none → Q (.ref r) (sput L r (.lst l))
  | [.ref p], L, Q => ∃ l, L p = some (.lst l) ∧ ∀ r, L r = none → Q (.ref r) (sput L r (.lst l))
  | _, _, _ => False
section
variable {K : PySem.W.Frag} {c : AC K}
theorem repL_one {H : Hp} {d : D} {vs : List V} (r : RepL c H [d] vs) : ∃ v, vs = [v] ∧ Rep c H d v := by
  obtain ⟨v, ws, rfl, r1, r2⟩ := repL_cons.mp r
  cases repL_nil.mp r2
  exact ⟨v, rfl, r1⟩
theorem repL_two {H : Hp} {d e : D} {vs : List V} (r : RepL c H [d, e] vs) : ∃ v w, vs = [v, w] ∧ Rep c H d v ∧ Rep c H e w := by
  obtain ⟨v, ws, rfl, r1, r2⟩ := repL_cons.mp r
  obtain ⟨w, rfl, r3⟩ := repL_one r2
  exact ⟨v, w, rfl, r1, r3⟩
end
section
variable {X : Cx} {c : AC X.K}
theorem acb_len : ACB X c (.builtin "len") lenD := by
  refine .mk' call_len fun vs H Q ds L R r g h pq => ?_
  unfold lenD at h
  split at h
  · rename_i z
    obtain ⟨v, rfl, r1⟩ := repL_one r
    cases rep_str.mp r1
    exact ⟨_, _, rfl, ⟨h.1, rfl⟩, pq.here h.2 g (rep_int.mpr rfl)⟩
  · rename_i l
    obtain ⟨v, rfl, r1⟩ := repL_one r
    obtain ⟨p, ws, rfl, e1, rs⟩ := rep_tup.mp r1
    exact ⟨_, l.length, rfl, .inr ⟨ws, e1, rs.len.symm⟩, pq.here h g (rep_int.mpr rfl)⟩
  · rename_i p
    obtain ⟨l, e0, h⟩ := h
    obtain ⟨v, rfl, r1⟩ := repL_one r
    cases rep_ref.mp r1
    obtain ⟨ws, e1, rs⟩ := good_lst g e0
    exact ⟨_, l.length, rfl, .inl ⟨ws, SqL.of e1, rs.len.symm⟩, pq.here h g (rep_int.mpr rfl)⟩
  · obtain ⟨v, rfl, r1⟩ := repL_one r
    obtain ⟨a, ns, e1, rfl⟩ := rep_scr.mp r1
    exact ⟨_, ns.length, rfl, .inl ⟨_, g.seq e1, by rw [List.length_map]⟩, pq.here (h ns.length (g.scr a ns e1).1) g (rep_int.mpr rfl)⟩
  · exact h.elim
theorem acb_int : ACB X c (.type "int") intFD := by
  refine .mk' call_int1 fun vs H Q ds L R r g h pq => ?_
  unfold intFD at h
  split at h
  · rename_i i
    obtain ⟨v, rfl, r1⟩ := repL_one r
    cases rep_int.mp r1
    exact .inl ⟨_, rfl, pq.here h g (rep_int.mpr rfl)⟩
  · rename_i k
    obtain ⟨v, rfl, r1⟩ := repL_one r
    cases rep_bl.mp r1
    exact .inr ⟨_, rfl, pq.here h g (rep_int.mpr rfl)⟩
  · exact h.elim
theorem acb_sum (hc : X.calm = true) : ACB X c (.builtin "sum") sumD := by
  refine .mk' (cr_sum hc) fun vs H Q ds L R r g h pq => ?_
  unfold sumD at h
  split at h
  · rename_i p
    obtain ⟨ns, e0, h⟩ := h
    obtain ⟨v, rfl, r1⟩ := repL_one r
    cases rep_ref.mp r1
    obtain ⟨ws, e1, rs⟩ := good_lst g e0
    rw [RepL.ints.mp rs] at e1
    exact ⟨p, ns, rfl, SqL.of e1, pq.here h g (rep_int.mpr rfl)⟩
  · exact h.elim
theorem acb_max (hc : X.calm = true) : ACB X c (.builtin "max") maxD := by
  refine .mk' ((cr_max hc).or (call_max2 hc)) fun vs H Q ds L R r g h pq => ?_
  unfold maxD at h
  split at h
  · rename_i p
    obtain ⟨ns, e0, hl, h⟩ := h
    obtain ⟨v, rfl, r1⟩ := repL_one r
    cases rep_ref.mp r1
    obtain ⟨ws, e1, rs⟩ := good_lst g e0
    rw [RepL.ints.mp rs] at e1
    exact .inl ⟨p, ns, rfl, SqL.of e1, hl, fun m h1 h2 => pq.here (h m h1 h2) g (rep_int.mpr rfl)⟩
  · rename_i i j
    obtain ⟨v, w, rfl, r1, r2⟩ := repL_two r
    cases rep_int.mp r1
    cases rep_int.mp r2
    exact .inr ⟨i, j, rfl, pq.here h g (rep_int.mpr rfl)⟩
  · exact h.elim
theorem acb_min (hc : X.calm = true) : ACB X c (.builtin "min") minD := by
  refine .mk' ((cr_min hc).or (call_min2 hc)) fun vs H Q ds L R r g h pq => ?_
  unfold minD at h
  split at h
  · rename_i p
    obtain ⟨ns, e0, hl, h⟩ := h
    obtain ⟨v, rfl, r1⟩ := repL_one r
    cases rep_ref.mp r1
    obtain ⟨ws, e1, rs⟩ := good_lst g e0
    rw [RepL.ints.mp rs] at e1
    exact .inl ⟨p, ns, rfl, SqL.of e1, hl, fun m h1 h2 => pq.here (h m h1 h2) g (rep_int.mpr rfl)⟩
  · rename_i i j
    obtain ⟨v, w, rfl, r1, r2⟩ := repL_two r
    cases rep_int.mp r1
    cases rep_int.mp r2
    exact .inr ⟨i, j, rfl, pq.here h g (rep_int.mpr rfl)⟩
  · exact h.elim
theorem acb_list : ACB X c (.type "list") listD := by
  refine .mk' call_list_of fun vs H Q ds L R r g h pq => ?_
  unfold listD at h
  split at h
  · rename_i l
    obtain ⟨v, rfl, r1⟩ := repL_one r
    obtain ⟨p, ws, rfl, e1, rs⟩ := rep_tup.mp r1
    exact ⟨p, ws, rfl, .inr (e1), fun q hq => pq.alloc hq (h q (g.fresh hq)) g ⟨ws, upd_same, rs.fr (.new hq)⟩⟩
  · rename_i p
    obtain ⟨l, e0, h⟩ := h
    obtain ⟨v, rfl, r1⟩ := repL_one r
    cases rep_ref.mp r1
    obtain ⟨ws, e1, rs⟩ := good_lst g e0
    exact ⟨p, ws, rfl, .inl (SqL.of e1), fun q hq => pq.alloc hq (h q (g.fresh hq)) g ⟨ws, upd_same, rs.fr (.new hq)⟩⟩
  · exact h.elim
end
end AL
namespace AL
open PySem PySem.Spec PyProof.Rows L2 LamX JW
def treeD : D → (T → Prop) → Prop
  | .tree t, Q => Q t
  | _, _ => False
def aProp (g : T → D) (a : ATE) : ATE := fun env L Q => a env L fun d L1 => treeD d fun t => Q (g t) L1
theorem tree_low {K : PySem.W.Frag} {c : AC K} {H : Hp} {d : D} {v : V} {R : T → Prop} (r : Rep c H d v) (h : treeD d R) : ∃ t, Ftn (cF K) H t v ∧ R t := by
  cases d with
  | tree t => exact ⟨t, rep_tree.mp r, h⟩
  | _ => exact h.elim
theorem _root_.JW.CallD.imp {P : Program} {w : World} {K : PySem.W.Frag} {mg : Str → Option Value} {base : Heap} {CX : CXT} {k : Nat} {x : Str} {ps : List Str} {dvs : List V} {sp sp' : Sp} (C : CallD P w K mg base CX k x ps dvs sp) (h : ∀ vs H Q E, sp' vs H Q E → sp vs H Q E) : CallD P w K mg base CX k x ps dvs sp' := by
  obtain ⟨f, fd, ds, h1, h2, h3, h4, F⟩ := C.ex
  exact ⟨f, fd, ds, h1, h2, h3, h4, F.imp h⟩
theorem _root_.JW.MethD.imp {P : Program} {w : World} {K : PySem.W.Frag} {mg : Str → Option Value} {base : Heap} {CX : CXT} {k : Nat} {C : Addr} {x : Str} {ps : List Str} {dvs : List V} {sp sp' : Sp} (M : MethD P w K mg base CX k C x ps dvs sp) (h : ∀ vs H Q E, sp' vs H Q E → sp vs H Q E) : MethD P w K mg base CX k C x ps dvs sp' := by
  obtain ⟨f, fd, ds, h1, h2, h3, F⟩ := M.ex
  exact ⟨f, fd, ds, h1, h2, h3, F.imp h⟩
theorem _root_.JW.MakeD.imp {P : Program} {w : World} {K : PySem.W.Frag} {mg : Str → Option Value} {base : Heap} {CX : CXT} {k : Nat} {C : Addr} {x : Str} {ps : List Str} {dvs : List V} {sp sp' : Sp} (M : MakeD P w K mg base CX k x C ps dvs sp) (h : ∀ vs H Q E, sp' vs H Q E → sp vs H Q E) : MakeD P w K mg base CX k x C ps dvs sp' := by
  obtain ⟨f, fd, ds, h1, h2, h3, h4, F⟩ := M.ex
  exact ⟨f, fd, ds, h1, h2, h3, h4, F.imp h⟩
section
variable {X : Cx} {c : AC X.K} {H0 : Hp} {e o : Expr} {es : List Expr} {a b : ATE} {as : ATA} {x m f : Str} {p pos apos : Pos} {k : Nat} {ps : List Str} {asp : ASp} {CX : CXT} {E : XK} {RX : AX}
theorem ae_prop {g : T → D} {fV : T → V} (cl : Cls X.K (cF X.K)) (M : PropD X.prog X.w X.K X.mg X.base CX0 k (cF X.K) f (spV X.K fV)) (hg : ∀ H t, Rep c H (g t) (fV t)) (hr : Room (k + 1) X.A) (he : AE X c H0 e a) (hab : attributeBase e f X.env (eval e X.env) = eval e X.env) : AE X c H0 (.Attribute e f pos) (aProp g a) := by
  refine (pe_propD (E := fun _ _ _ => True) cl M hr pass0 he hab).imp fun σ H Q ⟨env, L, R, rl, h, pq⟩ => ?_
  refine ⟨env, L, _, rl, h, fun d L1 x H1 q s1 g1 r1 => ?_⟩
  obtain ⟨t, hf, q⟩ := tree_low (R := fun t => R (g t) L1) r1 q
  obtain ⟨p, dx, b, n, vs, rfl, h1, _⟩ := ftn_iff.mp hf
  exact ⟨p, dx, _, rfl, h1, _, t, rfl, hf, (pq.fr s1).here q g1 (hg H1 t)⟩
theorem ae_kids (cl : Cls X.K (cF X.K)) (M : PropD X.prog X.w X.K X.mg X.base CX0 k (cF X.K) f (spKids X.K)) (hr : Room (k + 1) X.A) (he : AE X c H0 e a) (hab : attributeBase e f X.env (eval e X.env) = eval e X.env) : AE X c H0 (.Attribute e f pos) (aProp (fun t => .tup (t.kids.map .tree)) a) := by
  refine (pe_propD (E := fun _ _ _ => True) cl M hr pass0 he hab).imp fun σ H Q ⟨env, L, R, rl, h, pq⟩ => ?_
  refine ⟨env, L, _, rl, h, fun d L1 x H1 q s1 g1 r1 => ?_⟩
  obtain ⟨t, hf, q⟩ := tree_low (R := fun t => R (.tup (t.kids.map .tree)) L1) r1 q
  obtain ⟨p, dx, b, n, vs, rfl, h1, _⟩ := ftn_iff.mp hf
  exact ⟨p, dx, _, rfl, h1, _, t, rfl, hf, fun b' xs hb hk => (pq.fr s1).here q g1 (rep_tup.mpr ⟨b', xs, rfl, SqT.of hb, RepL.trees.mpr hk⟩)⟩
theorem ae_make {C : Addr} {dvs : List V} {sp : Sp} {dd : List D} (M : MakeD X.prog X.w X.K X.mg X.base CX0 k x C ps dvs sp) (hr : Room (k + 1) X.A) (hg : Gl X x) (ha : AA X c H0 (e :: es) as)
    (hsp : ∀ ds vs H L R Q, RepL c H ds vs → Good c L H → asp ds L R anyX → Pq c H R Q → ∀ x dx, H x = none → H dx = none → dx ≠ x → sp (.ref x :: (vs ++ dvs)) (upd (upd H dx (.own x)) x (.ins C dx [])) (fun v H2 => v = .non ∧ Q (.ref x) H2) (fun _ _ _ => True))
    (hdb : (x == ("__debug__" : Str)) = false := by decide) (he : starEach (e :: es) X.env = (false, eval e X.env) :: starEach es X.env := by rfl) (hpl : (backTo pos (starEach es X.env)).any (·.1) = false := by rfl) : AE X c H0 (.Call (.Name x p) (e :: es) [] pos) (aCall asp as) := by
  refine (pe_makeD (E := fun _ _ _ => True) M hr hg pass0 ha hdb he hpl).imp fun σ H Q ⟨env, L, R, rl, h, pq⟩ => ?_
  exact ⟨env, L, _, rl, h, fun ds L1 vs H1 q s1 g1 r1 x dx hx hdx ne => hsp ds vs H1 L1 R Q r1 g1 q (pq.fr s1) x dx hx hdx ne⟩
end
def LowM {K : PySem.W.Frag} (c : AC K) (r : V → List V → Hp → VK → Prop) (f : D → List D → Store → AQ → Prop) : Prop := ∀ x vs H Q d ds L R, Rep c H d x → RepL c H ds vs → Good c L H → f d ds L R → Pq c H R Q → r x vs H Q
def isLst (d : D) (L : Store) : Prop := ∃ p l, d = .ref p ∧ L p = some (.lst l)
def isStr (d : D) : Prop := ∃ z, d = .str z
def aMl (f : D → List D → Store → AQ → Prop) (a : ATE) (as : ATA) : ATE := fun env L Q => a env L fun d L1 => isLst d L1 ∧ as env L1 fun ds L2 => f d ds L2 Q
def aMs (f : D → List D → Store → AQ → Prop) (a : ATE) (as : ATA) : ATE := fun env L Q => a env L fun d L1 => isStr d ∧ as env L1 fun ds L2 => f d ds L2 Q
def appendD : D → List D → Store → AQ → Prop
  | .ref p, [d], L, Q => ∃ l, L p = some (.lst l) ∧ l.length < sizeLine ∧ Q .non (sput L p (.lst (l ++ [d])))
  | _, _, _, _ => False
def popD : D → List D → Store → AQ → Prop
  | .ref p, [], L, Q => ∃ l d, L p = some (.lst l) ∧ l[l.length - 1]? = some d ∧ Q d (sput L p (.lst l.dropLast))
  | _, _, _, _ => False
def popAtD : D → List D → Store → AQ → Prop
  | .ref p, [.int i], L, Q => ∃ l k d, L p = some (.lst l) ∧ -(2 ^ 63) ≤ i ∧ i < 2 ^ 63 ∧ seqIndex? i l.length = some k ∧ l[k]? = some d ∧ Q d (sput L p (.lst (l.eraseIdx k)))
  | _, _, _, _ => False
def joinD : D → List D → Store → AQ → Prop
  | .str z, [.ref p], L, Q => ∃ ys : List Str, L p = some (.lst (ys.map D.str)) ∧ (ys.map (·.length)).sum + ys.length * z.length ≤ 16777216 ∧ Q (.str (Txt.join z ys)) L
  | .str z, [.tup l], L, Q => ∃ ys : List Str, l = ys.map D.str ∧ (ys.map (·.length)).sum + ys.length * z.length ≤ 16777216 ∧ Q (.str (Txt.join z ys)) L
  | _, _, _, _ => False
def countD : D → List D → Store → AQ → Prop
  | .str a, [.str b], L, Q => Q (.int (Txt.count a b)) L
  | _, _, _, _ => False
section
variable {X : Cx} {c : AC X.K} {H0 : Hp} {o e : Expr} {es : List Expr} {a b : ATE} {as : ATA} {name : Str} {apos cpos pos : Pos} {id : String} {r : V → List V → Hp → VK → Prop} {f : D → List D → Store → AQ → Prop}
theorem ty_lst {H : Hp} {L : Store} {d : D} {v : V} (r : Rep c H d v) (g : Good c L H) (h : isLst d L) : tyV X.K "list" v H := by
  obtain ⟨p, l, rfl, e1⟩ := h
  cases rep_ref.mp r
  obtain ⟨vs, e2, _⟩ := good_lst g e1
  exact .inl ⟨rfl, vs, SqL.of e2⟩
theorem ae_ml (pa : PlainAttrs "list") (slot : Slot "list" name id) (hty : typeOf (.builtin id) = pure (.type "method_descriptor")) (hm : MtR X id r) (k : LowM c r f) (ho : AE X c H0 o a) (ha : AA X c H0 (e :: es) as)
    (hbase : attributeBase o name X.env (eval o X.env) = eval o X.env := by rfl)
    (hfew : ((backTo cpos (starEach (e :: es) X.env)).all (fun x => !x.1) && (backToKw cpos (keywordEach [] X.env)).all (fun x => x.1.isSome)
      && decide ((e :: es).length + ([] : List Keyword).length + (if ([] : List Keyword).isEmpty then 0 else 1) < 30)) = true := by rfl)
    (hline : (apos.endLine == cpos.line) = true := by rfl) (hs : starEach (e :: es) X.env = (false, eval e X.env) :: starEach es X.env := by rfl) (hplain : (backTo cpos (starEach es X.env)).any (·.1) = false := by rfl) :
    AE X c H0 (.Call (.Attribute o name apos) (e :: es) [] cpos) (aMl f a as) := by
  refine (pe_bm pa slot hty hm ho ha hbase hfew hline hs hplain).imp fun σ H Q ⟨env, L, R, rl, h, pq⟩ => ?_
  refine ⟨env, L, _, rl, h, fun d L1 x H1 ⟨hl, q⟩ s1 g1 r1 => ⟨ty_lst r1 g1 hl, env, L1, _, rl.step s1 g1, q, fun ds L2 vs H2 q2 s2 g2 r2 => ?_⟩⟩
  exact k x vs H2 Q d ds L2 R (r1.fr s2) r2 g2 q2 (pq.fr (s1.trans s2))
theorem ae_ml0 (pa : PlainAttrs "list") (slot : Slot "list" name id) (hty : typeOf (.builtin id) = pure (.type "method_descriptor")) (hm : MtR X id r) (k : LowM c r f) (ho : AE X c H0 o a)
    (hbase : attributeBase o name X.env (eval o X.env) = eval o X.env := by rfl) (hline : (apos.endLine == cpos.line) = true := by rfl) : AE X c H0 (.Call (.Attribute o name apos) [] [] cpos) (aMl f a aNil) := by
  refine (pe_bm0 pa slot hty hm ho hbase hline).imp fun σ H Q ⟨env, L, R, rl, h, pq⟩ => ?_
  exact ⟨env, L, _, rl, h, fun d L1 x H1 ⟨hl, q⟩ s1 g1 r1 => ⟨ty_lst r1 g1 hl, k x [] H1 Q d [] L1 R r1 .nil g1 q (pq.fr s1)⟩⟩
theorem ae_ms1 (slot : Slot "str" name id) (ty : typeOf (.builtin id) = pure (.type "method_descriptor")) (hm : MtR X id r) (k : LowM c r f) (ho : AE X c H0 o a) (he : AE X c H0 e b)
    (hs : starEach [e] X.env = [(false, eval e X.env)] := by rfl) (hbase : attributeBase o name X.env (eval o X.env) = eval o X.env := by rfl) (hline : (apos.endLine == pos.line) = true := by rfl) :
    AE X c H0 (.Call (.Attribute o name apos) [e] [] pos) (aMs f a (aCons b aNil)) := by
  refine (pe_m1 slot ty hm ho he hs hbase hline).imp fun σ H Q ⟨env, L, R, rl, h, pq⟩ => ?_
  refine ⟨env, L, _, rl, h, fun d L1 x H1 ⟨⟨z, hz⟩, q⟩ s1 g1 r1 => ?_⟩
  subst hz
  refine ⟨⟨z, rep_str.mp r1⟩, env, L1, _, rl.step s1 g1, q, fun d2 L2 y H2 q2 s2 g2 r2 => ?_⟩
  exact k x [y] H2 Q _ [d2] L2 R (r1.fr s2) (.one r2) g2 q2 (pq.fr (s1.trans s2))
end
section
variable {K : PySem.W.Frag} {c : AC K}
theorem lst_put {H : Hp} {L : Store} {R : AQ} {Q : VK} {p : Addr} {l l' : List D} {vs' : List V} {d : D} {v : V} (g : Good c L H) (pq : Pq c H R Q) (e : L p = some (.lst l)) (rs : RepL c H l' vs') (rd : Rep c H d v) (q : R d (sput L p (.lst l'))) : Q v (upd H p (.lst vs')) := by
  obtain ⟨vs, e1, _⟩ := good_lst g e
  have s : Fr c H (upd H p (.lst vs')) := .put e1 fun z => z
  obtain ⟨g', _⟩ := g.put (m' := .lst l') e (.lst vs') ⟨vs', upd_same, rs.fr s⟩
  exact pq d _ v _ q s g' (rd.fr s)
theorem low_append : LowM c rAppend appendD := fun x vs H Q d ds L R rx rv g h pq => by
  unfold appendD at h
  split at h
  · rename_i p d
    obtain ⟨l, e, hz, h⟩ := h
    cases rep_ref.mp rx
    obtain ⟨v, rfl, r1⟩ := repL_one rv
    obtain ⟨ws, e1, rs⟩ := good_lst g e
    exact ⟨p, ws, v, rfl, rfl, e1, by rw [rs.len]; exact hz, lst_put g pq e (rs.app (.one r1)) (rep_non.mpr rfl) h⟩
  · exact h.elim
theorem repL_dropLast {H : Hp} {l : List D} {vs : List V} (r : RepL c H l vs) : RepL c H l.dropLast vs.dropLast := by
  rw [List.dropLast_eq_take, List.dropLast_eq_take, r.len]
  exact r.take _
theorem low_pop : LowM c rPop popD := fun x vs H Q d ds L R rx rv g h pq => by
  unfold popD at h
  split at h
  · rename_i p
    obtain ⟨l, d, e, e2, h⟩ := h
    cases rep_ref.mp rx
    cases repL_nil.mp rv
    obtain ⟨ws, e1, rs⟩ := good_lst g e
    obtain ⟨v, e3, r⟩ := rs.get e2
    exact ⟨p, ws, v, rfl, rfl, e1, by rw [rs.len]; exact e3, lst_put g pq e (repL_dropLast rs) r h⟩
  · exact h.elim
theorem low_popAt : LowM c rPopAt popAtD := fun x vs H Q d ds L R rx rv g h pq => by
  unfold popAtD at h
  split at h
  · rename_i p i
    obtain ⟨l, k, d, e, h1, h2, h3, e2, h⟩ := h
    cases rep_ref.mp rx
    obtain ⟨v, rfl, r1⟩ := repL_one rv
    cases rep_int.mp r1
    obtain ⟨ws, e1, rs⟩ := good_lst g e
    obtain ⟨v, e3, r⟩ := rs.get e2
    exact ⟨p, ws, i, k, v, rfl, rfl, e1, h1, h2, by rw [rs.len]; exact h3, e3, lst_put g pq e (rs.eraseIdx k) r h⟩
  · exact h.elim
theorem low_join : LowM c (fun x xs H Q => ∃ a p, ∃ ys : List Str, x = .str a ∧ xs = [.ref p] ∧ (SqL K H p (ys.map V.str) ∨ SqT K H p (ys.map V.str)) ∧
    (ys.map (·.length)).sum + ys.length * a.length ≤ 16777216 ∧ Q (.str (Txt.join a ys)) H) joinD := fun x vs H Q d ds L R rx rv g h pq => by
  unfold joinD at h
  split at h
  · rename_i z p
    obtain ⟨ys, e, hz, h⟩ := h
    obtain ⟨v, rfl, r1⟩ := repL_one rv
    cases rep_ref.mp r1
    obtain ⟨ws, e1, rs⟩ := good_lst g e
    rw [RepL.strs.mp rs] at e1
    exact ⟨z, p, ys, rep_str.mp rx, rfl, .inl (SqL.of e1), hz, pq.here h g (rep_str.mpr rfl)⟩
  · rename_i z l
    obtain ⟨ys, e, hz, h⟩ := h
    subst e
    obtain ⟨v, rfl, r1⟩ := repL_one rv
    obtain ⟨p, ws, rfl, e1, rs⟩ := rep_tup.mp r1
    rw [RepL.strs.mp rs] at e1
    exact ⟨z, p, ys, rep_str.mp rx, rfl, .inr e1, hz, pq.here h g (rep_str.mpr rfl)⟩
  · exact h.elim
theorem low_count : LowM c (fun x xs H Q => ∃ a b, x = .str a ∧ xs = [.str b] ∧ Q (.int (Txt.count a b)) H) countD := fun x vs H Q d ds L R rx rv g h pq => by
  unfold countD at h
  split at h
  · rename_i z y
    obtain ⟨v, rfl, r1⟩ := repL_one rv
    cases rep_str.mp r1
    exact ⟨z, y, rep_str.mp rx, rfl, pq.here h g (rep_int.mpr rfl)⟩
  · exact h.elim
end
def refD : D → (Addr → Prop) → Prop
  | .ref p, Q => Q p
  | _, _ => False
def tupE : D → (List D → Prop) → Prop
  | .tup l, Q => Q l
  | _, _ => False
def strE : D → (Str → Prop) → Prop
  | .str z, Q => Q z
  | _, _ => False
theorem ref_low {K : PySem.W.Frag} {c : AC K} {H : Hp} {d : D} {v : V} {R : Addr → Prop} (r : Rep c H d v) (h : refD d R) : ∃ p, v = .ref p ∧ R p := by
  cases d with
  | ref p => exact ⟨p, rep_ref.mp r, h⟩
  | _ => exact h.elim
theorem tup_low {K : PySem.W.Frag} {c : AC K} {H : Hp} {d : D} {v : V} {R : List D → Prop} (r : Rep c H d v) (h : tupE d R) : ∃ p vs l, v = .ref p ∧ SqT K H p vs ∧ RepL c H l vs ∧ R l := by
  cases d with
  | tup l =>
    obtain ⟨p, vs, e, e1, rs⟩ := rep_tup.mp r
    exact ⟨p, vs, l, e, e1, rs, h⟩
  | _ => exact h.elim
theorem str_low {K : PySem.W.Frag} {c : AC K} {H : Hp} {d : D} {v : V} {R : Str → Prop} (r : Rep c H d v) (h : strE d R) : ∃ z, v = .str z ∧ R z := by
  cases d with
  | str z => exact ⟨z, rep_str.mp r, h⟩
  | _ => exact h.elim
def lstAt (p : Addr) (l : List D) : Store → Prop := fun L => L p = some (.lst l)
def yes : Store → Prop := fun _ => True
def aiList (a : ATE) : ATI := fun env L Q => a env L fun d L1 => refD d fun p => ∃ l, L1 p = some (.lst l) ∧ Q l (lstAt p l) L1
def aiTup (a : ATE) : ATI := fun env L Q => a env L fun d L1 => tupE d fun l => Q l yes L1
def aiStr (a : ATE) : ATI := fun env L Q => a env L fun d L1 => strE d fun z => Q (z.cps.toList.map fun k => .str ⟨#[k]⟩) yes L1
def rngD (lo : Int) (n : Nat) : List D := (List.range n).map fun i => .int (lo + (i : Nat))
def aiRng1 (as : ATA) : ATI := fun env L Q => as env L fun ds L1 => match ds with
  | [.int j] => -(2 ^ 62) ≤ j ∧ j < 2 ^ 62 ∧ Q (rngD 0 j.toNat) yes L1
  | _ => False
def aiRng2 (as : ATA) : ATI := fun env L Q => as env L fun ds L1 => match ds with
  | [.int i, .int j] => (-(2 ^ 62) ≤ i ∧ i < 2 ^ 62 ∧ -(2 ^ 62) ≤ j ∧ j < 2 ^ 62) ∧ Q (rngD i (j - i).toNat) yes L1
  | _ => False
section
variable {K : PySem.W.Frag} {c : AC K} {H H1 H' : Hp} {L : Store}
theorem walkA_list {p : Addr} {l : List D} (g : Good c L H) (e : L p = some (.lst l)) : WalkA c (Itl K p) l (lstAt p l) H := by
  obtain ⟨vs, e1, rs⟩ := good_lst g e
  refine ⟨fun H' => Fr c H H' ∧ ∃ ws, H' p = some (.lst ws) ∧ RepL c H' l ws, ?_, fun L' H' s g' e' => ⟨s, good_lst g' e'⟩⟩
  refine ⟨fun i H' hi ⟨_, ws, e2, r2⟩ => ⟨ws, ws[i]'(by rw [r2.len]; exact hi), SqL.of e2, List.getElem?_eq_getElem (by rw [r2.len]; exact hi)⟩, fun H' ⟨_, ws, e2, r2⟩ => ⟨ws, SqL.of e2, by rw [r2.len]; exact Nat.le_refl _⟩, fun i H1 x H2 hi ⟨s, ws, e2, r2⟩ y => ?_⟩
  obtain ⟨rfl, y⟩ := y
  obtain ⟨d, e3, r⟩ := r2.getV (y ws (SqL.of e2))
  exact ⟨.refl c _, fun L g => g, d, e3, r⟩
theorem walkA_tup {p : Addr} {l : List D} {vs : List V} (e : SqT K H p vs) (rs : RepL c H l vs) : WalkA c (Itt K p) l yes H := by
  refine ⟨fun H' => Fr c H H', ?_, fun L' H' s g' e' => s⟩
  have at_ : ∀ {H'}, Fr c H H' → SqT K H' p vs := fun s => sqT_fr s e
  refine ⟨fun i H' hi s => ⟨vs, vs[i]'(by rw [rs.len]; exact hi), at_ s, List.getElem?_eq_getElem (by rw [rs.len]; exact hi)⟩, fun H' s => ⟨vs, at_ s, by rw [rs.len]; exact Nat.le_refl _⟩, fun i H1 x H2 hi s y => ?_⟩
  obtain ⟨rfl, y⟩ := y
  obtain ⟨d, e3, r⟩ := (rs.fr s).getV (y vs (at_ s))
  exact ⟨.refl c _, fun L g => g, d, e3, r⟩
theorem rngD_get {lo : Int} {n i : Nat} (h : i < n) : (rngD lo n)[i]? = some (.int (lo + (i : Nat))) := by
  unfold rngD
  rw [List.getElem?_map, List.getElem?_range h]
  rfl
theorem rngD_len {lo : Int} {n : Nat} : (rngD lo n).length = n := by
  unfold rngD
  rw [List.length_map, List.length_range]
theorem walkA_rng {lo : Int} {n : Nat} : WalkA c (Itr lo n) (rngD lo n) yes H := by
  refine ⟨fun _ => True, ?_, fun _ _ _ _ _ => trivial⟩
  rw [rngD_len]
  refine walk_range.mono (fun _ _ => trivial) fun i H1 x H2 hi _ y => ?_
  obtain ⟨rfl, rfl⟩ := y
  exact ⟨.refl c _, fun L g => g, _, rngD_get hi, rep_int.mpr rfl⟩
theorem walkA_str {z : Str} : WalkA c (Its z) (z.cps.toList.map fun k => .str ⟨#[k]⟩) yes H := by
  refine ⟨fun _ => True, ?_, fun _ _ _ _ _ => trivial⟩
  rw [List.length_map, Array.length_toList]
  refine walk_str.mono (fun _ _ => trivial) fun i H1 x H2 hi _ y => ?_
  obtain ⟨rfl, k, e, rfl⟩ := y
  exact ⟨.refl c _, fun L g => g, .str ⟨#[k]⟩, by rw [List.getElem?_map, Array.getElem?_toList, e]; rfl, rep_str.mpr rfl⟩
end
section
variable {X : Cx} {c : AC X.K} {H0 : Hp} {tg e f : Expr} {a : ATE} {as : ATA} {p pos tpos : Pos} {elts : List Expr} {kk : Nat}
theorem ai_list (h : AE X c H0 e a) : AI X c H0 tg e (aiList a) := by
  refine (pi_list h).imp fun σ H Q ⟨env, L, R, rl, h, pq⟩ => ?_
  refine ⟨env, L, _, rl, h, fun d L1 x H1 q s1 g1 r1 => ?_⟩
  obtain ⟨p, rfl, l, e, q⟩ := ref_low r1 q
  obtain ⟨vs, e1, rs⟩ := good_lst g1 e
  exact ⟨p, rfl, ⟨vs, SqL.of e1⟩, pq _ _ L1 _ H1 q s1 g1 (walkA_list g1 e)⟩
theorem ai_tup (h : AE X c H0 e a) : AI X c H0 tg e (aiTup a) := by
  refine (pi_tup h).imp fun σ H Q ⟨env, L, R, rl, h, pq⟩ => ?_
  refine ⟨env, L, _, rl, h, fun d L1 x H1 q s1 g1 r1 => ?_⟩
  obtain ⟨p, vs, l, rfl, e1, rs, q⟩ := tup_low r1 q
  exact ⟨p, rfl, ⟨vs, e1⟩, pq _ _ L1 _ H1 q s1 g1 (walkA_tup e1 rs)⟩
theorem ai_str (h : AE X c H0 e a) : AI X c H0 tg e (aiStr a) := by
  refine (pi_str h).imp fun σ H Q ⟨env, L, R, rl, h, pq⟩ => ?_
  refine ⟨env, L, _, rl, h, fun d L1 x H1 q s1 g1 r1 => ?_⟩
  obtain ⟨z, rfl, q⟩ := str_low r1 q
  exact ⟨z, rfl, pq _ _ L1 _ H1 q s1 g1 walkA_str⟩
theorem ai_rng1 (hg : Gl X "range") (hm : X.mg "range" = none) (ha : AA X c H0 [e] as) (hs : starEach [e] X.env = [(false, eval e X.env)] := by rfl) : AI X c H0 tg (.Call (.Name "range" p) [e] [] pos) (aiRng1 as) := by
  refine (pi_range1 hg hm ha hs).imp fun σ H Q ⟨env, L, R, rl, h, pq⟩ => ?_
  refine ⟨env, L, _, rl, h, fun ds L1 vs H1 q s1 g1 r1 => ?_⟩
  split at q
  · rename_i j
    obtain ⟨h1, h2, q⟩ := q
    obtain ⟨v, rfl, r2⟩ := repL_one r1
    cases rep_int.mp r2
    exact ⟨j, rfl, h1, h2, pq _ _ L1 _ H1 q s1 g1 walkA_rng⟩
  · exact q.elim
theorem ai_rng2 (hg : Gl X "range") (hm : X.mg "range" = none) (ha : AA X c H0 [e, f] as) (hs : starEach [e, f] X.env = [(false, eval e X.env), (false, eval f X.env)] := by rfl) (hs2 : starEach [f] X.env = [(false, eval f X.env)] := by rfl) : AI X c H0 tg (.Call (.Name "range" p) [e, f] [] pos) (aiRng2 as) := by
  refine (pi_range2 hg hm ha hs hs2).imp fun σ H Q ⟨env, L, R, rl, h, pq⟩ => ?_
  refine ⟨env, L, _, rl, h, fun ds L1 vs H1 q s1 g1 r1 => ?_⟩
  split at q
  · rename_i i j
    obtain ⟨h1, q⟩ := q
    obtain ⟨v, w, rfl, r2, r3⟩ := repL_two r1
    cases rep_int.mp r2
    cases rep_int.mp r3
    exact ⟨i, j, rfl, h1, pq _ _ L1 _ H1 q s1 g1 walkA_rng⟩
  · exact q.elim
end
end AL
namespace AL
open PySem PySem.Spec PyProof.Rows L2 LamX JW
def wipeA (env : En) : List Nat → En
  | [] => env
  | v :: vs => (wipeA env vs).set v none
theorem set_twice {α : Type} (l : List α) (i : Nat) (a b : α) : (l.set i a).set i b = l.set i b := by rw [List.set_set]
theorem wipe_set (σ : L2.St) (j : Nat) (x : Option V) : ∀ vs : List Nat, (∀ y, (wipe (σ.set j x) vs).set j y = (wipe σ vs).set j y) ∧ (j ∈ vs → wipe (σ.set j x) vs = wipe σ vs)
  | [] => ⟨fun y => set_twice _ _ _ _, fun h => absurd h (by simp)⟩
  | v :: vs => by
    obtain ⟨h1, h2⟩ := wipe_set σ j x vs
    by_cases e : v = j
    · subst e
      refine ⟨fun y => ?_, fun _ => h1 none⟩
      show ((wipe (σ.set v x) vs).set v none).set v y = ((wipe σ vs).set v none).set v y
      rw [h1 none]
    · refine ⟨fun y => ?_, fun h => ?_⟩
      · show ((wipe (σ.set j x) vs).set v none).set j y = ((wipe σ vs).set v none).set j y
        rw [List.set_comm _ _ e, h1 y, List.set_comm _ _ (Ne.symm e)]
      · have hj : j ∈ vs := (List.mem_cons.mp h).resolve_left (Ne.symm e)
        show (wipe (σ.set j x) vs).set v none = (wipe σ vs).set v none
        rw [h2 hj]
theorem wipe_idem (σ : L2.St) : ∀ vs : List Nat, wipe (wipe σ vs) vs = wipe σ vs
  | [] => rfl
  | v :: vs => by
    show (wipe ((wipe σ vs).set v none) vs).set v none = (wipe σ vs).set v none
    rw [(wipe_set (wipe σ vs) v none vs).1, wipe_idem σ vs]
section
variable {K : PySem.W.Frag} {c : AC K} {H : Hp} {σ : L2.St} {env : En}
theorem EnvR.unset (h : EnvR c H σ env) (i : Nat) : EnvR c H (σ.set i none) (env.set i none) := by
  refine ⟨by rw [List.length_set, List.length_set, h.len], fun j e hj => ?_⟩
  by_cases hi : i = j
  · subst hi
    rcases Nat.lt_or_ge i env.length with z | z
    · rw [List.getElem?_set_self z] at hj
      cases hj
    · rw [List.getElem?_eq_none (by simpa using z)] at hj
      cases hj
  · rw [List.getElem?_set_ne hi] at hj
    obtain ⟨u, e1, r1⟩ := h.get j e hj
    exact ⟨u, by rw [List.getElem?_set_ne hi]; exact e1, r1⟩
theorem EnvR.wipe (h : EnvR c H σ env) : ∀ vs : List Nat, EnvR c H (L2.wipe σ vs) (wipeA env vs)
  | [] => h
  | v :: vs => (h.wipe vs).unset v
end
def TgOk {K : PySem.W.Frag} (c : AC K) (g : TG) (ag : ATG) (vs : List Nat) : Prop := ∀ d x env L R σ H (P : L2.St → Hp → Prop), Rep c H d x → EnvR c H σ env → ag d env L R →
  (∀ env1 σ1, R env1 L → EnvR c H σ1 env1 → wipe σ1 vs = wipe σ vs → P σ1 H) → g x σ H P
def agNs : List Nat → ATGs
  | [] => agNil
  | j :: js => agCons (agName j) (agNs js)
section
variable {K : PySem.W.Frag} {c : AC K}
theorem tgOk_name {j : Nat} {vs : List Nat} (hj : j ∈ vs) : TgOk c (gName j) (agName j) vs := fun d x env L R σ H P r er h k => k _ _ h (er.set j r) ((wipe_set σ j _ vs).2 hj)
theorem agNs_len : ∀ {js : List Nat} {l : List D} {env : En} {L : Store} {R : En → Store → Prop}, agNs js l env L R → l.length = js.length
  | [], l, env, L, R, h => by rw [h.1]; rfl
  | j :: js, l, env, L, R, h => by
    cases l with
    | nil => exact h.elim
    | cons d l => rw [List.length_cons, List.length_cons, agNs_len (js := js) h]
end
def compA (g : ATG) (t : ATT) (a : ATE) (G : Store → Prop) (p : Addr) (env : En) (Q : AQ) : List D → List D → Store → Prop
  | [], acc, L => G L ∧ L p = some (.lst acc) ∧ Q (.ref p) L
  | d :: ds, acc, L => G L ∧ L p = some (.lst acc) ∧ g d env L fun env1 L1 => L1 = L ∧ t env1 L1 fun b L2 => if b = true then a env1 L2 fun x L3 => acc.length < sizeLine ∧ L3 p = some (.lst acc) ∧ compA g t a G p env Q ds (acc ++ [x]) (sput L3 p (.lst (acc ++ [x]))) else compA g t a G p env Q ds acc L2
def aYes : ATT := fun _ L Q => Q true L
def aLc (ai : ATI) (g : ATG) (t : ATT) (a : ATE) (vs : List Nat) : ATE := fun env L Q => ai env L fun items G L1 => ∀ p, L1 p = none → compA g t a G p (wipeA env vs) Q items [] (sput L1 p (.lst []))
section
variable {X : Cx} {c : AC X.K} {H0 : Hp}
theorem low_lc {ai : ATI} {g : TG} {ag : ATG} {t : ATT} {tt : TT} {a : ATE} {vs : List Nat} (tg : TgOk c g ag vs) (ht : ∀ σ H Q, lowT c H0 t σ H Q → tt σ H Q) {σ : L2.St} {H : Hp} {Q : VK} (q : lowE c H0 (aLc ai ag t a vs) σ H Q) :
    tLc (lowI c H0 ai) g tt (lowE c H0 a) vs σ H Q := by
  obtain ⟨env, L, R, rl, h, pq⟩ := q
  refine ⟨env, L, _, rl, h, fun items G L1 J H1 q s1 g1 wa D hD => ?_⟩
  have q := q D (g1.fresh hD)
  obtain ⟨GH, wk, hG⟩ := wa.ex
  have f0 : Fr c H1 (upd H1 D (.lst [])) := .new hD
  have hg0 : Good c (sput L1 D (.lst [])) (upd H1 D (.lst [])) := g1.alloc hD _ ⟨[], upd_same, RepL.nil⟩
  have hGl : ∀ {ds acc : List AL.D} {L' : Store}, compA ag t a G D (wipeA env vs) R ds acc L' → G L' := fun {ds acc L'} z => by
    cases ds with
    | nil => exact z.1
    | cons d ds => exact z.1
  refine lc_it wk (fun i H' => Fr c H1 H' ∧ ∃ acc L', Good c L' H' ∧ compA ag t a G D (wipeA env vs) R (items.drop i) acc L') ⟨f0, [], _, hg0, q⟩ (fun i H' _ ⟨f, acc, L', g', z⟩ => hG L' H' f g' (hGl z)) ?_ ?_
  · rintro i x H2 H3 hi ⟨f, acc, L', g', z⟩ ⟨s2, k2, d, e1, r⟩
    have e2 : items.drop i = d :: items.drop (i + 1) := by
      have hh := List.drop_eq_getElem_cons hi
      rw [List.getElem?_eq_getElem hi] at e1
      rw [hh, Option.some.inj e1]
    rw [e2] at z
    obtain ⟨_, hp, z⟩ := z
    have er : EnvR c H3 (wipe σ vs) (wipeA env vs) := ((rl.env.fr s1).fr (f.trans s2)).wipe vs
    refine tg d x _ L' _ _ H3 _ r er z fun env1 σ1 ⟨_, h1⟩ h2 h3 => ⟨by rw [h3, wipe_idem], ?_⟩
    have fr3 : Fr c H0 H3 := (rl.fr.trans s1).trans (f.trans s2)
    refine ht _ _ _ ⟨env1, L', _, ⟨h2, k2 _ g', fr3⟩, h1, fun b L2 H4 hb s4 g4 => ?_⟩
    cases b with
    | true =>
      refine ⟨env1, L2, _, ⟨h2.fr s4, g4, fr3.trans s4⟩, hb, fun y L3 v H5 ⟨hz, hp3, hc⟩ s5 g5 r5 => ?_⟩
      obtain ⟨ws, e5, rs⟩ := good_lst g5 hp3
      obtain ⟨g6, f6⟩ := g5.put (m' := .lst (acc ++ [y])) hp3 (.lst (ws ++ [v])) ⟨ws ++ [v], upd_same, (rs.app (.one r5)).fr (.put e5 fun z => z)⟩
      exact ⟨ws, e5, by rw [rs.len]; exact hz, (((f.trans s2).trans s4).trans s5).trans f6, _, _, g6, hc⟩
    | false => exact ⟨(f.trans s2).trans s4, acc, L2, g4, hb⟩
  · rintro H2 ⟨f, acc, L', g', z⟩
    rw [List.drop_length] at z
    exact pq _ L' _ H2 z.2.2 (s1.trans f) g' (rep_ref.mpr rfl)
theorem ae_lc {elt tg iter : Expr} {scope : Scope} {own : List (Str × Nat)} {pos : Pos} {ai : ATI} {g : TG} {ag : ATG} {a : ATE} (hc : X.calm = true) (hN : X.N.Nodup) (hi : AI X c H0 tg iter ai) (ok : BlkOk X.N X.env.scope scope own) (hk : TgOk c g ag (own.map (·.2)))
    (hg : ∀ (s : Shared) (H : Hp) (C : Addr) (cl : List (Str × Addr)) (fp : List Addr), PG (X.blk s H scope (compEnvC scope cl C X.env) fp) tg g)
    (he : ∀ (s : Shared) (H : Hp) (C : Addr) (cl : List (Str × Addr)) (fp : List Addr), AE (X.blk s H scope (compEnvC scope cl C X.env) fp) c H0 elt a) (hs : ∀ x, foldedSetIterable iter X.env x = pure x := by intro _; rfl) :
    AE X c H0 (.ListComp elt [⟨tg, iter, [], 0⟩] scope pos) (aLc ai ag aYes a (own.map (·.2))) :=
  (pe_lc (te := lowE (K := X.K) c H0 a) hc hN hi ok hg (fun _ _ _ _ _ => pts_nil) he hs).imp fun σ H Q q => low_lc hk (fun σ H Q ⟨env, L, R, rl, h, k⟩ => k true L H h (.refl c H) rl.good) q
theorem low_asgLc {te : TE} {a : ATE} {i : Nat} (k : ∀ σ H Q, lowE c H0 a σ H Q → te σ H Q) {D : Ends} {σ : L2.St} {H : Hp} (q : lowS c H0 (aAsg a (agName i)) D σ H) : tAsg te (gName i) D σ H := by
  obtain ⟨env, L, R, rl, h, er⟩ := q
  exact k _ _ _ ⟨env, L, _, rl, h, fun d L1 v H1 q s g1 r => er.nx _ L1 _ H1 q s ⟨(rl.env.fr s).set i r, g1, rl.fr.trans s⟩⟩
theorem as_setLc {i : Nat} {y : Str} {py : Pos} {elt tg iter : Expr} {scope : Scope} {own : List (Str × Nat)} {pos spos : Pos} {ai : ATI} {g : TG} {ag : ATG} {a : ATE} (hc : X.calm = true) (hN : X.N.Nodup) (hy : X.N[i]? = some y) (hyl : X.env.scope.names.lookup y = some .local)
    (hsw : swapsWith (.ListComp elt [⟨tg, iter, [], 0⟩] scope pos) (some (.Name y py)) spos.line X.env = pure true) (hi : AI X c H0 tg iter ai) (ok : BlkOk X.N X.env.scope scope own) (hk : TgOk c g ag (own.map (·.2)))
    (hg : ∀ (s : Shared) (H : Hp) (C : Addr) (cl : List (Str × Addr)) (fp : List Addr), PG (X.blk s H scope (compEnvC scope cl C X.env) fp) tg g)
    (he : ∀ (s : Shared) (H : Hp) (C : Addr) (cl : List (Str × Addr)) (fp : List Addr), AE (X.blk s H scope (compEnvC scope cl C X.env) fp) c H0 elt a) (hs : ∀ x, foldedSetIterable iter X.env x = pure x := by intro _; rfl) :
    AS X c H0 (.Assign [.Name y py] (.ListComp elt [⟨tg, iter, [], 0⟩] scope pos) spos) (aAsg (aLc ai ag aYes a (own.map (·.2))) (agName i)) :=
  (ps_setLc (te := lowE (K := X.K) c H0 a) hc hN hy hyl hsw hi ok hg (fun _ _ _ _ _ => pts_nil) he hs).imp fun D σ H q => low_asgLc (fun σ H Q q => low_lc hk (fun σ H Q ⟨env, L, R, rl, h, k⟩ => k true L H h (.refl c H) rl.good) q) q
end
def startA (N : List Str) (ds : List D) : En := ds.map some ++ List.replicate (N.length - ds.length) none
def fnEnds (R : AQ) : AEnds := { nx := fun _ L => ∃ L0, SubS L0 L ∧ R .non L0, rt := fun d L => ∃ L0, SubS L0 L ∧ R d L0 }
theorem ret_of {R : AQ} {d : D} {L : Store} (h : R d L) : ∃ L0, SubS L0 L ∧ R d L0 := ⟨L, .refl L, h⟩
theorem ret_sub {R : AQ} {d : D} {L L0 : Store} (h : R d L0) (s : SubS L0 L) : ∃ L0, SubS L0 L ∧ R d L0 := ⟨L0, s, h⟩
section
variable {K : PySem.W.Frag} {c : AC K}
theorem start_low {N : List Str} {ds : List D} {vs : List V} {H : Hp} (r : RepL c H ds vs) : EnvR c H (L2.start N vs) (startA N ds) := by
  unfold L2.start startA
  refine ⟨by simp [r.len], fun i d e => ?_⟩
  by_cases hi : i < ds.length
  · rw [List.getElem?_append_left (by simpa using hi), List.getElem?_map] at e
    rw [List.getElem?_append_left (by simpa [r.len] using hi), List.getElem?_map]
    cases e1 : ds[i]? with
    | none => rw [e1] at e; cases e
    | some d' =>
      rw [e1] at e
      cases e
      obtain ⟨v, e2, r2⟩ := r.get e1
      exact ⟨v, by rw [e2]; rfl, r2⟩
  · rw [List.getElem?_append_right (by simpa using hi), List.getElem?_replicate] at e
    split at e <;> cases e
theorem body_low {N : List Str} {H : Hp} {a : ATS} {ds : List D} {vs : List V} {L : Store} {R : AQ} {Q : VK} (r : RepL c H ds vs) (g : Good c L H) (pq : Pq c H R Q) (vc : a (fnEnds R) (startA N ds) L) : lowS c H a { nx := fun _ H' => Q .non H', rt := Q } (L2.start N vs) H :=
  ⟨startA N ds, L, fnEnds R, ⟨start_low r, g, .refl c H⟩, vc, ⟨fun env' L' σ' H' ⟨L0, sb, h⟩ s rl => pq .non L0 .non H' h s (rl.good.sub sb) (rep_non.mpr rfl), fun d L' v H' ⟨L0, sb, h⟩ s g' r' => pq d L0 v H' h s (g'.sub sb) r', fun _ _ _ _ h => h.elim, fun _ _ _ _ h => h.elim⟩⟩
end
section
variable {P : Program} {w : World} {K : PySem.W.Frag} {mg : Str → Option Value} {base : Heap} {c : AC K} {x m qual : Str} {st : Stmt} {N ps : List Str} {k : Nat} {asp : ASp} {C : Addr}
theorem spA_len {n : Nat} (hl : ∀ ds L R RX, asp ds L R RX → ds.length = n) : ∀ vs H Q E, spA c asp vs H Q E → vs.length = n := fun vs H Q E ⟨ds, L, R, RX, r, _, h, _⟩ => by rw [r.len]; exact hl ds L R RX h
theorem _root_.JW.DefAt.okA {a : ATS} (D : DefAt K mg x qual st [] ps) (S : FnScope N ps (defScope st)) (hl : ∀ ds L R RX, asp ds L R RX → ds.length = ps.length)
    (body : ∀ (f : Addr) (cdv : Value) (A : Around) (outer : List Env) (s : Shared) (H : Hp) (E : XK), Room k (A.deeper (envOfC qual (defScope st) s.heap.objs.size f cdv)) → ASs (cxOf CX0 P w K mg base N qual (defScope st) f cdv A outer s H E).nox c H (defBody st) a)
    (vc : ∀ ds L R RX, asp ds L R RX → a (fnEnds R) (startA N ds) L) : CallD P w K mg base CX0 (k + 1) x ps [] (spA c asp) :=
  D.ok S (spA_len hl) fun f cdv A outer s H vs Q E hr ⟨ds, L, R, RX, r, g, h, pq, px⟩ => ⟨_, body f cdv A outer s H E hr, body_low r g pq (vc ds L R RX h)⟩
theorem _root_.JW.MethAt.okA {a : ATS} (D : MethAt K C m qual st ps) (S : FnScope N ps (defScope st)) (hl : ∀ ds L R RX, asp ds L R RX → ds.length = ps.length)
    (body : ∀ (f : Addr) (cdv : Value) (A : Around) (outer : List Env) (s : Shared) (H : Hp) (E : XK), Room k (A.deeper (envOfC qual (defScope st) s.heap.objs.size f cdv)) → ASs (cxOf CX0 P w K mg base N qual (defScope st) f cdv A outer s H E).nox c H (defBody st) a)
    (vc : ∀ ds L R RX, asp ds L R RX → a (fnEnds R) (startA N ds) L) : MethD P w K mg base CX0 (k + 1) C m ps [] (spA c asp) :=
  D.ok S (spA_len hl) fun f cdv A outer s H vs Q E hr ⟨ds, L, R, RX, r, g, h, pq, px⟩ => ⟨_, body f cdv A outer s H E hr, body_low r g pq (vc ds L R RX h)⟩
end
end AL
namespace AL
open PySem PySem.Spec PyProof.Rows L2 LamX JW
section
open PySem.SeqAt AutoSeq1 MeetsSeq MeetsSeq2 MeetsSeq3
variable {prog : Program} {w : World} {A : Around} {R : Result → Shared → Prop}
def TwoL (prog : Program) (w : World) (A : Around) (E : Value → Shared → Prop) (p q : Addr) (m : Nat) (f : Nat → Bool) (J : Shared → Prop) : Prop :=
  ∀ s0, J s0 → ∃ (xs ys : Array Value) (c1 c2 : Nat), s0.heap.get? p = some { cls := .type "list", data := .seq xs c1 } ∧ s0.heap.get? q = some { cls := .type "list", data := .seq ys c2 } ∧ xs.size = m ∧ ys.size = m ∧
    ∀ (i : Nat) (h1 : i < xs.size) (h2 : i < ys.size), wpAny (model prog w) A.in1 (eqBool xs[i] ys[i]) (fun r s' => r = f i ∧ J s') E s0
def opC (neg : Bool) : Int := if neg then 3 else 2
theorem loop_any (p q : Addr) (m : Nat) (f : Nat → Bool) (neg : Bool) (J : Shared → Prop) (tw : TwoL prog w A (fun e s' => R (.error e) s') p q m f J)
    (fin : ∀ s0 b, J s0 → b = (neg ^^ (List.range m).all f) → R (.ok (.ret (.bool b))) s0) (j : Nat) :
    ∀ i : Nat, m - i = j → i ≤ m → ((List.range m).all f = ((List.range m).drop i).all f) → ∀ s0, J s0 →
      wpAny (model prog w) A.in1 (Builtin.«list.__eq__.loop» ⟨[.ref p, .ref q, rawInt i, rawInt (opC neg)], []⟩) (GQ.FinOf prog w A R) (fun e s' => R (.error e) s') s0 := by
  induction j with
  | zero =>
    intro i hj hi ha s0 hJ
    obtain ⟨xs, ys, c1, c2, k1, k2, z1, z2, _⟩ := tw _ hJ
    have im : i = m := by omega
    subst im
    have hR := fin s0 (!neg) hJ (by rw [ha, List.drop_of_length_le (by simp)]; cases neg <;> rfl)
    obtain ⟨hp, g, d, tk, os⟩ := s0
    cases neg <;>
    · show wpAny _ _ (Builtin.«list.__eq__.loop» ⟨[.ref p, .ref q, rawInt i, rawInt _], []⟩) _ _ _
      simp only [opC] at *
      wp_walk using wpAny_loadPart' k1, wpAny_loadPart' k2
      have e1 : xs[((i : Nat) : Int).toNat]? = none := by simp [z1]
      have e2 : ys[((i : Nat) : Int).toNat]? = none := by simp [z2]
      rw [e1, e2]
      wp_walk using wpAny_loadPart' k1, wpAny_loadPart' k2
      first
        | show R (.ok (.ret (.bool (xs.size == ys.size)))) _
        | show R (.ok (.ret (.bool (xs.size != ys.size)))) _
      rw [z1, z2]
      simpa using hR
  | succ j ih =>
    intro i hj hi ha s0 hJ
    obtain ⟨xs, ys, c1, c2, k1, k2, z1, z2, turn⟩ := tw _ hJ
    have l1 : i < xs.size := by omega
    have l2 : i < ys.size := by omega
    have ht := turn i l1 l2
    have e1 : xs[((i : Nat) : Int).toNat]? = some xs[i] := by simp [l1]
    have e2 : ys[((i : Nat) : Int).toNat]? = some ys[i] := by simp [l2]
    have ec : ((i : Int) + 1) = ((i + 1 : Nat) : Int) := by omega
    have ed : (List.range m).drop i = i :: (List.range m).drop (i + 1) := by
      have l3 : i < (List.range m).length := by simp; omega
      have := List.drop_eq_getElem_cons l3
      simpa using this
    obtain ⟨hp, g, d, tk, os⟩ := s0
    cases neg <;>
    · simp only [opC] at *
      wp_walk using wpAny_loadPart' k1, wpAny_loadPart' k2
      rw [e1, e2]
      refine wpAny_bind (wpAny_mono ht (fun r s1 h1 => ?_) fun _ _ z => z)
      obtain ⟨hr, h1⟩ := h1
      subst hr
      cases hf : f i with
      | true =>
        have hrec := ih (i + 1) (by omega) (by omega) (by rw [ha, ed, List.all_cons, hf, Bool.true_and]) s1 h1
        obtain ⟨hp2, g2, d2, tk2, os2⟩ := s1
        wp_walk
        rw [ec]
        exact ⟨plainId_quiet plain_eq_loop _, codeAny_builtin entry_eq_loop (by
          rw [Around.under_plainId plain_eq_loop _]
          exact hrec)⟩
      | false =>
        obtain ⟨us, vs, d1, d2', k3, k4, z3, z4, _⟩ := tw _ h1
        have hR := fin s1 _ h1 rfl
        rw [ha, ed, List.all_cons, hf, Bool.false_and] at hR
        obtain ⟨hp2, g2, d2, tk2, os2⟩ := s1
        have l3 : i < us.size := by omega
        have l4 : i < vs.size := by omega
        have e3 : us[((i : Nat) : Int).toNat]? = some us[i] := by simp [l3]
        have e4 : vs[((i : Nat) : Int).toNat]? = some vs[i] := by simp [l4]
        wp_walk using wpAny_loadPart' k3, wpAny_loadPart' k4
        rw [e3, e4]
        wp_walk
        simpa using hR
theorem list_any (p q : Addr) (m : Nat) (f : Nat → Bool) (neg : Bool) (J : Shared → Prop) (tw : TwoL prog w A (fun e s' => R (.error e) s') p q m f J)
    (fin : ∀ s0 b, J s0 → b = (neg ^^ (List.range m).all f) → R (.ok (.ret (.bool b))) s0) {s0 : Shared} (hJ : J s0) :
    wpAny (model prog w) A.in1 ((if neg then Builtin.«list.__ne__» else Builtin.«list.__eq__») ⟨[.ref p, .ref q], []⟩) (GQ.FinOf prog w A R) (fun e s' => R (.error e) s') s0 := by
  obtain ⟨xs, ys, c1, c2, k1, k2, z1, z2, _⟩ := tw _ hJ
  have hrec := loop_any (A := A) (R := R) p q m f neg J tw fin _ 0 rfl (Nat.zero_le _) (by rw [List.drop_zero]) s0 hJ
  obtain ⟨hp, g, d, tk, os⟩ := s0
  have f3 := AutoSeq1.sub_list_list
  have hne : ¬ (xs.size != ys.size) = true := by simp [z1, z2]
  cases neg with
  | false =>
    rw [if_neg Bool.false_ne_true]
    wp_walk using wpAny_loadPart' k1, wpAny_loadPart' k2
    exact ⟨plainId_quiet plain_eq_loop _, codeAny_builtin entry_eq_loop (by
      rw [Around.under_plainId plain_eq_loop _]
      exact hrec)⟩
  | true =>
    rw [if_pos rfl]
    wp_walk using wpAny_loadPart' k1, wpAny_loadPart' k2
    exact ⟨plainId_quiet plain_eq_loop _, codeAny_builtin entry_eq_loop (by
      rw [Around.under_plainId plain_eq_loop _]
      exact hrec)⟩
theorem tup_any (p q : Addr) (xs ys : Array Value) (c1 c2 : Nat) (o1 o2 : Option Addr) (b1 b2 : Array (Option Value)) (f : Nat → Bool) (neg : Bool) (J : Shared → Prop)
    (turn : ∀ (i : Nat) (h1 : i < xs.size) (h2 : i < ys.size) s0, J s0 → wpAny (model prog w) A.in1 (eqBool xs[i] ys[i]) (fun r s' => r = f i ∧ J s') (fun e s' => R (.error e) s') s0)
    (fin : ∀ s0 b, J s0 → b = (neg ^^ ((List.range (min xs.size ys.size)).all f && xs.size == ys.size)) → R (.ok (.ret (.bool b))) s0) {s0 : Shared}
    (k1 : s0.heap.get? p = some { cls := .type "tuple", dict := o1, data := .seq xs c1, slots := b1 }) (k2 : s0.heap.get? q = some { cls := .type "tuple", dict := o2, data := .seq ys c2, slots := b2 }) (hJ : J s0) :
    wpAny (model prog w) A.in1 ((if neg then Builtin.«tuple.__ne__» else Builtin.«tuple.__eq__») ⟨[.ref p, .ref q], []⟩) (GQ.FinOf prog w A R) (fun e s' => R (.error e) s') s0 := by
  have f2 := AutoSeq1.sub_tuple_tuple
  have hZ : (xs.toList.zip ys.toList).length = min xs.size ys.size := by simp
  have hJ0 := hJ
  obtain ⟨hp, g, d, tk, os⟩ := s0
  cases neg
  case' false => rw [if_neg Bool.false_ne_true]
  case' true => rw [if_pos rfl]
  all_goals
    wp_walk using wpAny_loadPart' k1, wpAny_loadPart' k2, wpAny_forIn_list _ (fun rest b s' => b.1 = none ∧ J s' ∧ ∃ i, rest = (xs.toList.zip ys.toList).drop i ∧ i ≤ min xs.size ys.size ∧
      (List.range (min xs.size ys.size)).all f = ((List.range (min xs.size ys.size)).drop i).all f) _
    case turn =>
      rintro ⟨y, x⟩ rest b s' ⟨hb, hJ', i, hz, hi, ha⟩
      have lt : i < (xs.toList.zip ys.toList).length := by
        rcases Nat.lt_or_ge i (xs.toList.zip ys.toList).length with z | z
        · exact z
        · rw [List.drop_of_length_le z] at hz
          cases hz
      have h0 : i < min xs.size ys.size := hZ ▸ lt
      have h1 : i < xs.size := by omega
      have h2 : i < ys.size := by omega
      have hz' := hz.trans (List.drop_eq_getElem_cons lt)
      injection hz' with e1 e2
      have ey : y = xs[i] := by simpa using congrArg Prod.fst e1
      have ex : x = ys[i] := by simpa using congrArg Prod.snd e1
      subst ey ex
      have ed : (List.range (min xs.size ys.size)).drop i = i :: (List.range (min xs.size ys.size)).drop (i + 1) := by
        have l3 : i < (List.range (min xs.size ys.size)).length := by simpa using h0
        simpa using List.drop_eq_getElem_cons l3
      rw [ed, List.all_cons] at ha
      refine wpAny_bind (wpAny_mono (turn i h1 h2 s' hJ') (fun r s1 q1 => ?_) fun _ _ z => z)
      obtain ⟨hr, q1⟩ := q1
      subst hr
      cases hf : f i with
      | true =>
        rw [hf, Bool.true_and] at ha
        wp_walk
        exact ⟨rfl, q1, i + 1, e2, h0, ha⟩
      | false =>
        rw [hf, Bool.false_and] at ha
        wp_walk
        exact fin _ _ q1 (by rw [ha]; rfl)
    case fin =>
      rintro ⟨r1, r2⟩ s' ⟨hb, hJ', i, hz, hi, ha⟩
      simp only at hb
      subst hb
      have hge : min xs.size ys.size ≤ i := by
        rcases Nat.lt_or_ge i (xs.toList.zip ys.toList).length with z | z
        · have hz' := hz.trans (List.drop_eq_getElem_cons z)
          cases hz'
        · exact hZ ▸ z
      rw [List.drop_of_length_le (by simpa using hge)] at ha
      have hR := fin s' _ hJ' rfl
      rw [ha] at hR
      wp_walk
      simpa [Builtin.Tuple.tupleCompareSizes, bne] using hR
    case h =>
      exact ⟨rfl, hJ0, 0, rfl, Nat.zero_le _, rfl⟩
end
section
variable {prog : Program} {w : World} {A : Around} {E : Value → Shared → Prop} {s0 : Shared} {Q : Value → Shared → Prop}
theorem rc_list_any {p q : Addr} (m : Nat) (f : Nat → Bool) (neg : Bool) (J : Shared → Prop) (hu : A.units < cLine) (tw : TwoL prog w A E p q m f J) (fin : ∀ s1 b, J s1 → b = (neg ^^ (List.range m).all f) → Q (.bool b) s1) (hJ : J s0) :
    wpAny (model prog w) A (richCompare (if neg then .NotEq else .Eq) (.ref p) (.ref q)) Q E s0 := by
  obtain ⟨xs, ys, c1, c2, k1, k2, _, _, _⟩ := tw _ hJ
  have go := list_any (R := wants (fun v s' => v ≠ .notImplemented ∧ Q v s') E) p q m f neg J tw (fun s1 b h1 h2 => ⟨(fun z => nomatch z), fin s1 b h1 h2⟩) hJ
  cases neg with
  | false => exact wpAny_richCompare_same_room (op := .Eq) ⟨_, k1, rfl⟩ ⟨_, k2, rfl⟩ F.slot_list_eq (GQ.call_here F.slot_list_eq ⟨_, k1, rfl⟩ F.entry_list_eq (F.args_list_eq_2 _ _) go) hu
  | true => exact wpAny_richCompare_same_room (op := .NotEq) ⟨_, k1, rfl⟩ ⟨_, k2, rfl⟩ F.slot_list_ne (GQ.call_here F.slot_list_ne ⟨_, k1, rfl⟩ F.entry_list_ne (F.args_list_ne_2 _ _) go) hu
theorem rc_tup_any {p q : Addr} {xs ys : Array Value} (f : Nat → Bool) (neg : Bool) (J : Shared → Prop) (hu : A.units < cLine) (h1 : s0.heap.IsTuple p xs) (h2 : s0.heap.IsTuple q ys)
    (turn : ∀ (i : Nat) (h1 : i < xs.size) (h2 : i < ys.size) s1, J s1 → wpAny (model prog w) A.in1 (eqBool xs[i] ys[i]) (fun r s' => r = f i ∧ J s') E s1)
    (fin : ∀ s1 b, J s1 → b = (neg ^^ ((List.range (min xs.size ys.size)).all f && xs.size == ys.size)) → Q (.bool b) s1) (hJ : J s0) :
    wpAny (model prog w) A (richCompare (if neg then .NotEq else .Eq) (.ref p) (.ref q)) Q E s0 := by
  obtain ⟨⟨t1, o1, a1, b1⟩, k1, e1, n1, e2⟩ := id h1
  obtain ⟨⟨t2, o2, a2, b2⟩, k2, e3, n2, e4⟩ := id h2
  simp only at e1 e2 e3 e4
  subst e1 e2 e3 e4
  have go := tup_any (R := wants (fun v s' => v ≠ .notImplemented ∧ Q v s') E) p q xs ys n1 n2 o1 o2 b1 b2 f neg J turn (fun s1 b h1 h2 => ⟨(fun z => nomatch z), fin s1 b h1 h2⟩) k1 k2 hJ
  cases neg with
  | false => exact wpAny_richCompare_same_room (op := .Eq) ⟨_, k1, rfl⟩ ⟨_, k2, rfl⟩ F.slot_tuple_eq (GQ.call_here F.slot_tuple_eq ⟨_, k1, rfl⟩ F.entry_tuple_eq (F.args_tuple_eq_2 _ _) go) hu
  | true => exact wpAny_richCompare_same_room (op := .NotEq) ⟨_, k1, rfl⟩ ⟨_, k2, rfl⟩ F.slot_tuple_ne (GQ.call_here F.slot_tuple_ne ⟨_, k1, rfl⟩ F.entry_tuple_ne (F.args_tuple_ne_2 _ _) go) hu
end
end AL
namespace AL
open PySem PySem.Spec PyProof.Rows L2 LamX JW
mutual
def eqDD : D → D → Option Bool
  | .tup l, .tup m => (eqDL l m).map fun b => b && l.length == m.length
  | .tree t, .tree u => some (decide (t = u))
  | d, e => if flatB d && flatB e then some (eqV (vD d) (vD e)) else none
/-- item by item, as far as both go -/
def eqDL : List D → List D → Option Bool
  | d :: ds, e :: es => match eqDD d e, eqDL ds es with
    | some a, some b => some (a && b)
    | _, _ => none
  | _, _ => some true
end
mutual
def depD : D → Nat
  | .tup l => depDL l + 1
  | _ => 0
def depDL : List D → Nat
  | [] => 0
  | d :: ds => max (depD d) (depDL ds)
end
theorem eqDL_get : ∀ {l m : List D} {b : Bool}, eqDL l m = some b → ∃ f : Nat → Bool, (∀ (i : Nat) d e, l[i]? = some d → m[i]? = some e → eqDD d e = some (f i)) ∧ b = (List.range (min l.length m.length)).all f
  | [], m, b, h => by
    simp only [eqDL, Option.some.injEq] at h
    exact ⟨fun _ => true, fun i d e h1 => by simp at h1, by simp [← h]⟩
  | d :: ds, [], b, h => by
    simp only [eqDL, Option.some.injEq] at h
    exact ⟨fun _ => true, fun i d e _ h2 => by simp at h2, by simp [← h]⟩
  | d :: ds, e :: es, b, h => by
    simp only [eqDL] at h
    split at h
    · rename_i a b' h1 h2
      obtain ⟨f, hf, hb⟩ := eqDL_get h2
      refine ⟨fun i => match i with | 0 => a | i + 1 => f i, fun i d' e' g1 g2 => ?_, ?_⟩
      · cases i with
        | zero =>
          simp at g1 g2
          subst g1 g2
          exact h1
        | succ i =>
          simp at g1 g2
          exact hf i d' e' g1 g2
      · have := Option.some.inj h
        subst this
        rw [List.length_cons, List.length_cons, Nat.add_min_add_right, List.range_succ_eq_map, List.all_cons, List.all_map, hb]
        rfl
    · cases h
theorem depDL_get : ∀ {l : List D} {i : Nat} {d : D}, l[i]? = some d → depD d ≤ depDL l
  | [], i, d, h => by simp at h
  | x :: xs, 0, d, h => by
    simp at h
    subst h
    simp only [depDL]
    omega
  | x :: xs, i + 1, d, h => by
    have := depDL_get (l := xs) (i := i) (by simpa using h)
    simp only [depDL]
    omega
theorem ftn_fun {C : Addr} {H : Hp} {t u : T} {v : V} (h1 : Ftn C H t v) (h2 : Ftn C H u v) : t = u := by
  obtain ⟨a, dx, b, n, vs, rfl, e1, _⟩ := ftn_iff.mp h1
  obtain ⟨a2, dx2, b2, n2, vs2, ea, e2, _⟩ := ftn_iff.mp h2
  cases ea
  rw [e1] at e2
  have e3 := HO.ins.inj (Option.some.inj e2)
  have e4 : some (V.str (tx t)) = some (V.str (tx u)) := by rw [← fl_w (t := t) (b := b) (n := n), ← fl_w (t := u) (b := b2) (n := n2), e3.2.2]
  exact tx_inj (V.str.inj (Option.some.inj e4))
theorem eqV_self : ∀ {x : V}, flatV x = true → eqV x x = true
  | .non, _ => rfl
  | .bl b, _ => by simp [eqV]
  | .int i, _ => by simp [eqV]
  | .str z, _ => by simp [eqV]
  | .byt _, h => by cases h
  | .flt _, h => by cases h
  | .ref _, h => by cases h
  | .ty _, h => by cases h
section
variable {X : Cx} {c : AC X.K} {H : Hp} {pins : List (Addr × Obj)} {σ : L2.St} {s : Shared}
mutual
theorem eq_same (I : L2.Inv X pins σ H s) : ∀ (d e : D) (v : V) (b : Bool), Rep c H d v → Rep c H e v → eqDD d e = some b → b = true
  | .tup l, .tup m, v, b, r1, r2, h => by
    obtain ⟨p, vs, rfl, e1, rs⟩ := rep_tup.mp r1
    obtain ⟨q, ws, e, e2, rs2⟩ := rep_tup.mp r2
    cases e
    have : vs = ws := I.tuple_inj e1 e2
    subst this
    simp only [eqDD, Option.map_eq_some_iff] at h
    obtain ⟨b', h1, rfl⟩ := h
    have hl : l.length = m.length := by rw [← rs.len, ← rs2.len]
    rw [eqL_same I l m vs b' rs rs2 h1, hl]
    simp
  | .tree t, .tree u, v, b, r1, r2, h => by
    simp only [eqDD, Option.some.injEq] at h
    rw [← h, ftn_fun (rep_tree.mp r1) (rep_tree.mp r2)]
    simp
  | d, e, v, b, r1, r2, h => by
    by_cases hf : (flatB d && flatB e) = true
    · have hf' := Bool.and_eq_true_iff.mp hf
      obtain ⟨e1, f1⟩ := flat_low r1 hf'.1
      obtain ⟨e2, f2⟩ := flat_low r2 hf'.2
      have hs := eqV_self f1
      have hb : eqDD d e = some (eqV (vD d) (vD e)) := by
        unfold eqDD
        split
        · cases hf'.1
        · cases hf'.1
        · rw [if_pos hf]
      rw [hb, ← e1, ← e2] at h
      rw [hs] at h
      exact (Option.some.inj h).symm
    · have hn : ∀ l m, ¬ (d = .tup l ∧ e = .tup m) ∨ True := fun _ _ => .inr trivial
      cases d <;> cases e <;> first
        | (simp [eqDD, flatB] at h; done)
        | (exact absurd rfl hf)
        | (obtain ⟨p, vs, rfl, e1, rs⟩ := rep_tup.mp r1
           obtain ⟨q, ws, e, e2, rs2⟩ := rep_tup.mp r2
           cases e
           have : vs = ws := I.tuple_inj e1 e2
           subst this
           simp only [eqDD, Option.map_eq_some_iff] at h
           obtain ⟨b', h1, rfl⟩ := h
           rw [eqL_same I _ _ vs b' rs rs2 h1, ← rs.len, ← rs2.len]
           simp)
        | (simp only [eqDD, Option.some.injEq] at h
           rw [← h, ftn_fun (rep_tree.mp r1) (rep_tree.mp r2)]
           simp)
theorem eqL_same (I : L2.Inv X pins σ H s) : ∀ (l m : List D) (vs : List V) (b : Bool), RepL c H l vs → RepL c H m vs → eqDL l m = some b → b = true
  | [], m, vs, b, _, _, h => by simpa [eqDL] using h.symm
  | d :: ds, [], vs, b, _, _, h => by simpa [eqDL] using h.symm
  | d :: ds, e :: es, vs, b, r1, r2, h => by
    obtain ⟨v, ws, rfl, a1, a2⟩ := repL_cons.mp r1
    obtain ⟨v', ws', e1, b1, b2⟩ := repL_cons.mp r2
    injection e1 with e1 e2
    subst e1 e2
    simp only [eqDL] at h
    split at h
    · rename_i x y h1 h2
      have := Option.some.inj h
      rw [← this, eq_same I d e v x a1 b1 h1, eqL_same I ds es ws y a2 b2 h2]
      rfl
    · cases h
end
end
section
variable {X : Cx} {c : AC X.K} {k : Nat} {ps : List Str} {H : Hp} {σ : L2.St} {pins : List (Addr × Obj)}
abbrev MEq (X : Cx) (k : Nat) (ps : List Str) : Prop := MethD X.prog X.w X.K X.mg X.base CX0 k (cF X.K) "__eq__" ps [] (spEqF X.K)
theorem rcF_run (M : MEq X k ps) {A : Around} {s : Shared} {t u : T} {x y : V} {v w : Value} (sb : Sub X k A) (I : Inv X pins σ H s) (rx : RelV x v) (ry : RelV y w) (h1 : Ftn (cF X.K) H t x) (h2 : Ftn (cF X.K) H u y) :
    wpAny (model X.prog X.w) A (richCompare .Eq v w) (fun r s' => r = .bool (decide (t = u)) ∧ Inv X pins σ H s') X.xe s := by
  obtain ⟨a, dx, fs, rfl, ha⟩ := ftn_ins h1
  obtain ⟨b, dy, gs, rfl, hb⟩ := ftn_ins h2
  cases rx
  cases ry
  obtain ⟨f, fd, ds, hm, hbd, hd, F⟩ := M.ex
  cases hd
  obtain ⟨mA, J, _⟩ := ins_get I.hok ha
  obtain ⟨mB, J', _⟩ := ins_get I.hok hb
  obtain ⟨od, J, _⟩ := J.look
  obtain ⟨od', J', _⟩ := J'.look
  obtain ⟨m, hF⟩ := I.fr
  refine PySem.W.cmp_K (op := .Eq) (tb := .ref (cF X.K)) sb.room.units0 hF I.ok.mod.kin J J'.type (by simp [PySem.W.notFirst]) hm.at_ hm.fn ?_
  have hsp : spEqF X.K [.ref a, .ref b] H (fun v H' => v = .bl (decide (t = u)) ∧ H' = H) (fun _ _ _ => True) := ⟨_, _, t, u, rfl, h1, h2, rfl, rfl⟩
  have e0 : Env0 X.prog X.w X.K X.mg X.base A X.stack s H := by
    have e := I.env0
    exact ⟨sb.fr.trans e.frames, e.mod, e.bs, e.bsz, e.funs, e.frf, e.hok, e.bare⟩
  have hl : ([Value.ref a, Value.ref b] ++ []).length = ps.length := by
    rw [← F.len _ _ _ _ hsp]
    rfl
  refine wpAny_call (codeAny_mono (F.run A X.stack s H ⟨[.ref a, .ref b], []⟩ [.ref a, .ref b] [.ref a, .ref b] _ (fun _ _ _ => True) sb.room e0 (by
    have := hbd s [.ref a, .ref b] I.kIn hl
    simpa using this) (.cons rfl (.cons rfl .nil)) hsp) fun r s' hq => ?_)
  cases r with
  | error er => exact False.elim hq
  | ok fl =>
    cases fl with
    | ret z =>
      obtain ⟨x', H', I', rz, ez, eh⟩ := I.after hq
      subst ez eh
      cases rz
      exact ⟨rfl, I'⟩
    | next => exact False.elim hq
    | brk => exact False.elim hq
    | cont => exact False.elim hq
theorem sub_in1 {n : Nat} {A : Around} (s : Sub X (n + 1) A) : Sub X n A.in1 := s.in1
theorem eq_run (M : MEq X k ps) : ∀ (n : Nat) (d e : D) (b : Bool), depD d ≤ n → eqDD d e = some b → ∀ {A : Around} {s : Shared} {x y : V} {v w : Value}, Sub X (k + 2 + n) A → Inv X pins σ H s → RelV x v → RelV y w → Rep c H d x → Rep c H e y →
    wpAny (model X.prog X.w) A (eqBool v w) (fun r s' => r = b ∧ Inv X pins σ H s') X.xe s := by
  intro n
  induction n with
  | zero =>
    intro d e b hd h A s x y v w sb I rx ry r1 r2
    by_cases hf : (flatB d && flatB e) = true
    · have hf' := Bool.and_eq_true_iff.mp hf
      obtain ⟨e1, f1⟩ := flat_low r1 hf'.1
      obtain ⟨e2, f2⟩ := flat_low r2 hf'.2
      have hb : eqDD d e = some (eqV (vD d) (vD e)) := by
        unfold eqDD
        split
        · cases hf'.1
        · cases hf'.1
        · rw [if_pos hf]
      rw [hb] at h
      have hv := eqAt_V (A := A) (s := s) rx ry f1 f2
      rw [e1, e2, Option.some.inj h] at hv
      exact hv X.prog X.w X.xe _ ⟨rfl, I⟩
    · unfold eqDD at h
      split at h
      · simp only [depD] at hd
        omega
      · rename_i t u
        have h1 := rep_tree.mp r1
        have h2 := rep_tree.mp r2
        have hb := Option.some.inj h
        obtain ⟨p, dx, fs, rfl, _⟩ := ftn_ins h1
        obtain ⟨q, dy, gs, rfl, _⟩ := ftn_ins h2
        cases rx
        cases ry
        by_cases hpq : p = q
        · subst hpq
          have : t = u := ftn_fun h1 h2
          exact SeqAt.EqAt.same (A := A) (s := s) (.ref p) X.prog X.w X.xe _ ⟨by rw [← hb]; simp [this], I⟩
        · refine GQ.eqBool_refG hpq (wpAny_mono (rcF_run (x := .ref p) (y := .ref q) M (sb.mono (by omega)) I rfl rfl h1 h2) (fun r s' z => ?_) fun _ _ z => z)
          obtain ⟨er, I'⟩ := z
          exact ⟨_, er, hb, I'⟩
      · rw [if_neg hf] at h
        cases h
  | succ n ih =>
    intro d e b hd h A s x y v w sb I rx ry r1 r2
    by_cases h0 : depD d ≤ n
    · exact ih d e b h0 h (sb.mono (by omega)) I rx ry r1 r2
    · cases d with
      | tup l =>
        cases e with
        | tup m =>
          obtain ⟨p, vs, rfl, e1, rs⟩ := rep_tup.mp r1
          obtain ⟨q, ws, rfl, e2, rs2⟩ := rep_tup.mp r2
          cases rx
          cases ry
          by_cases hpq : p = q
          · subst hpq
            exact SeqAt.EqAt.same (A := A) (s := s) (.ref p) X.prog X.w X.xe _ ⟨(eq_same I _ _ _ b r1 r2 h).symm, I⟩
          · refine GQ.eqBool_refG hpq ?_
            simp only [eqDD, Option.map_eq_some_iff] at h
            obtain ⟨b', h1, hb⟩ := h
            obtain ⟨f, hf, hb'⟩ := eqDL_get h1
            obtain ⟨its, rv, t1, _⟩ := I.tuple e1
            obtain ⟨its2, rv2, t2, _⟩ := I.tuple e2
            have z1 : its.toArray.size = l.length := by rw [List.size_toArray, ← rv.length, rs.len]
            have z2 : its2.toArray.size = m.length := by rw [List.size_toArray, ← rv2.length, rs2.len]
            have hd' : depDL l ≤ n := by
              simp only [depD] at hd
              omega
            refine rc_tup_any f false (fun s' => Inv X pins σ H s') sb.room.units0 t1 t2 (fun i i1 i2 s1 I1 => ?_) (fun s1 b1 I1 eb => ⟨b1, rfl, ?_, I1⟩) I
            · have j1 : i < l.length := by omega
              have j2 : i < m.length := by omega
              have g1 := List.getElem?_eq_getElem j1
              have g2 := List.getElem?_eq_getElem j2
              obtain ⟨x1, x2, x3⟩ := rs.get g1
              obtain ⟨y1, y2, y3⟩ := rs2.get g2
              obtain ⟨u1, u2, u3⟩ := rv.get x2
              obtain ⟨w1, w2, w3⟩ := rv2.get y2
              have q1 : its.toArray[i] = u1 := by
                have j3 : i < its.length := by simpa using i1
                rw [List.getElem?_eq_getElem j3] at u2
                simpa using u2
              have q2 : its2.toArray[i] = w1 := by
                have j3 : i < its2.length := by simpa using i2
                rw [List.getElem?_eq_getElem j3] at w2
                simpa using w2
              rw [q1, q2]
              exact ih _ _ _ (Nat.le_trans (depDL_get g1) hd') (hf i _ _ g1 g2) (sub_in1 sb) I1 u3 w3 x3 y3
            · rw [eb, z1, z2, ← hb, hb', Bool.false_xor]
        | _ => simp [eqDD, flatB] at h
      | _ => exact absurd (Nat.zero_le _) h0
theorem items_run (M : MEq X k ps) {n : Nat} {l m : List D} (hd : depDL l ≤ n) {f : Nat → Bool} (hf : ∀ (i : Nat) d e, l[i]? = some d → m[i]? = some e → eqDD d e = some (f i)) {A : Around} (sb : Sub X (k + 2 + (n + 1)) A) {vs ws : List V} {its its2 : List Value}
    (rs : RepL c H l vs) (rs2 : RepL c H m ws) (rv : Vals vs its) (rv2 : Vals ws its2) (i : Nat) (i1 : i < its.toArray.size) (i2 : i < its2.toArray.size) {s1 : Shared} (I1 : Inv X pins σ H s1) :
    wpAny (model X.prog X.w) A.in1 (eqBool its.toArray[i] its2.toArray[i]) (fun r s' => r = f i ∧ Inv X pins σ H s') X.xe s1 := by
  have j1 : i < l.length := by
    have := i1
    rw [List.size_toArray, ← rv.length, rs.len] at this
    exact this
  have j2 : i < m.length := by
    have := i2
    rw [List.size_toArray, ← rv2.length, rs2.len] at this
    exact this
  have g1 := List.getElem?_eq_getElem j1
  have g2 := List.getElem?_eq_getElem j2
  obtain ⟨x1, x2, x3⟩ := rs.get g1
  obtain ⟨y1, y2, y3⟩ := rs2.get g2
  obtain ⟨u1, u2, u3⟩ := rv.get x2
  obtain ⟨w1, w2, w3⟩ := rv2.get y2
  have q1 : its.toArray[i] = u1 := by
    have j3 : i < its.length := by simpa using i1
    rw [List.getElem?_eq_getElem j3] at u2
    simpa using u2
  have q2 : its2.toArray[i] = w1 := by
    have j3 : i < its2.length := by simpa using i2
    rw [List.getElem?_eq_getElem j3] at w2
    simpa using w2
  rw [q1, q2]
  exact eq_run M n _ _ _ (Nat.le_trans (depDL_get g1) hd) (hf i _ _ g1 g2) (sub_in1 sb) I1 u3 w3 x3 y3
def eqSq (neg : Bool) (l m : List D) (L : Store) (Q : AQ) : Prop := ∃ b, eqDL l m = some b ∧ depDL l ≤ 70 ∧ Q (.bl (neg ^^ (b && l.length == m.length))) L
def eqG (neg : Bool) : D → D → Store → AQ → Prop
  | .ref p, .ref q, L, Q => ∃ l m, L p = some (.lst l) ∧ L q = some (.lst m) ∧ eqSq neg l m L Q
  | .tup l, .tup m, L, Q => eqSq neg l m L Q
  | d, e, L, Q => eqD neg d e L Q
def rSq (neg : Bool) (c : AC X.K) : R2 := fun x y H Q => ∃ p q vs ws l m b, x = .ref p ∧ y = .ref q ∧ RepL c H l vs ∧ RepL c H m ws ∧ eqDL l m = some b ∧ depDL l ≤ 70 ∧ ((H p = some (.lst vs) ∧ H q = some (.lst ws)) ∨ (SqT X.K H p vs ∧ SqT X.K H q ws)) ∧ Q (.bl (neg ^^ (b && l.length == m.length))) H
theorem op_sq (M : MEq X k ps) (neg : Bool) (hr : Room (k + 73) X.A) : OpR X (fun a b => richCompare (if neg then .NotEq else .Eq) a b) (rSq neg c) := by
  intro pins s σ H x y v u Q I rx ry h
  obtain ⟨p, q, vs, ws, l, m, b, rfl, rfl, rs, rs2, h1, hd, ho, hq⟩ := h
  cases rx
  cases ry
  obtain ⟨f, hf, hb⟩ := eqDL_get h1
  have sb : Sub X (k + 2 + (70 + 1)) X.A := ⟨hr, rfl⟩
  have fin : ∀ {s1 : Shared} {b1 : Bool}, Inv X pins σ H s1 → b1 = (neg ^^ (b && l.length == m.length)) → EP X pins σ Q (.bool b1) s1 := fun I1 e => by
    subst e
    exact ⟨.bl _, H, I1, rfl, hq⟩
  rcases ho with ⟨e1, e2⟩ | ⟨e1, e2⟩
  · obtain ⟨its, rv, ⟨o1, c1, o2, o3, o4, o5⟩, _⟩ := I.list (SqL.of e1)
    obtain ⟨its2, rv2, _, _⟩ := I.list (SqL.of e2)
    by_cases hlm : l.length = m.length
    · refine rc_list_any l.length f neg (fun s' => Inv X pins σ H s') sb.room.units0 (fun s0 I0 => ?_) (fun s1 b1 I1 eb => fin I1 ?_) I
      · obtain ⟨z, us, n1, r1, k1⟩ := I0.hok p _ e1
        obtain ⟨z2, us2, n2, r2, k2⟩ := I0.hok q _ e2
        exact ⟨us.toArray, us2.toArray, n1, n2, k1, k2, by rw [List.size_toArray, ← r1.length, rs.len], by rw [List.size_toArray, ← r2.length, rs2.len, hlm], fun i i1 i2 => items_run M hd hf sb rs rs2 r1 r2 i i1 i2 I0⟩
      · rw [eb, hb, hlm, Nat.min_self]
        simp
    · obtain ⟨z, us, n1, r1, k1⟩ := I.hok p _ e1
      obtain ⟨z2, us2, n2, r2, k2⟩ := I.hok q _ e2
      have hne : (us.toArray.size != us2.toArray.size) = true := by
        rw [List.size_toArray, List.size_toArray, ← r1.length, ← r2.length, rs.len, rs2.len]
        simpa using hlm
      have hf0 : (l.length == m.length) = false := by simpa using hlm
      cases neg with
      | false => exact SeqAt.RcAt.lists_lengths ⟨_, k1, rfl, n1, rfl⟩ ⟨_, k2, rfl, n2, rfl⟩ hne sb.room.units0 _ _ _ _ (fin I (by rw [hf0]; simp))
      | true => exact SeqAt.RcNeAt.lists_lengths ⟨_, k1, rfl, n1, rfl⟩ ⟨_, k2, rfl, n2, rfl⟩ hne sb.room.units0 _ _ _ _ (fin I (by rw [hf0]; simp))
  · obtain ⟨its, rv, t1, _⟩ := I.tuple e1
    obtain ⟨its2, rv2, t2, _⟩ := I.tuple e2
    have z1 : its.toArray.size = l.length := by rw [List.size_toArray, ← rv.length, rs.len]
    have z2 : its2.toArray.size = m.length := by rw [List.size_toArray, ← rv2.length, rs2.len]
    refine rc_tup_any f neg (fun s' => Inv X pins σ H s') sb.room.units0 t1 t2 (fun i i1 i2 s1 I1 => items_run M hd hf sb rs rs2 rv rv2 i i1 i2 I1) (fun s1 b1 I1 eb => fin I1 ?_) I
    rw [eb, z1, z2, hb]
theorem eqG_low {neg : Bool} {r1 : R2} (h1 : LowR2 c r1 (eqD neg)) : LowR2 c (fun x y H Q => r1 x y H Q ∨ rSq neg c x y H Q) (eqG neg) := by
  intro x y H Q d e L R rx ry g h pq
  unfold eqG at h
  split at h
  · obtain ⟨l, m, e1, e2, b, h2, h3, h4⟩ := h
    obtain ⟨vs, e3, rs⟩ := good_lst g e1
    obtain ⟨ws, e4, rs2⟩ := good_lst g e2
    exact .inr ⟨_, _, vs, ws, l, m, b, rep_ref.mp rx, rep_ref.mp ry, rs, rs2, h2, h3, .inl ⟨e3, e4⟩, pq.here h4 g (rep_bl.mpr rfl)⟩
  · obtain ⟨b, h2, h3, h4⟩ := h
    obtain ⟨p, vs, rfl, e3, rs⟩ := rep_tup.mp rx
    obtain ⟨q, ws, rfl, e4, rs2⟩ := rep_tup.mp ry
    exact .inr ⟨p, q, vs, ws, _, _, b, rfl, rfl, rs, rs2, h2, h3, .inr ⟨e3, e4⟩, pq.here h4 g (rep_bl.mpr rfl)⟩
  · exact .inl (h1 x y H Q d e L R rx ry g h pq)
theorem aop_eqG (M : MEq X k ps) (hr : Room (k + 73) X.A) (hu : X.A.units + 64 < cLine) : AOp X c (compareOp .Eq) (eqG false) := by
  obtain ⟨r, h1, h2⟩ := (aop_eq (c := c) M (hr.mono (by omega)) hu).ex
  exact .mk' (h1.or (op_sq M false hr)) (eqG_low h2)
theorem aop_neG (cl : ClsF X.K X.mg) (M : MEq X k ps) (hr : Room (k + 73) X.A) (hu : X.A.units + 64 < cLine) : AOp X c (compareOp .NotEq) (eqG true) := by
  obtain ⟨r, h1, h2⟩ := (aop_ne (c := c) cl M (hr.mono (by omega)) hu).ex
  exact .mk' (h1.or (op_sq M true hr)) (eqG_low h2)
end
end AL
namespace AL
open PySem PySem.Spec PyProof.Rows L2 LamX JW
section
variable {X : Cx} {c : AC X.K} {H0 : Hp} {e : Expr} {a : ATE} {pos : Pos} {k : Nat} {f : Str}
theorem av (i : Nat) {x : Str} (hN : X.N[i]? = some x := by rfl) (hv : Vis X.env.scope x := by first | exact Or.inl rfl | exact Or.inr (Or.inl rfl) | exact Or.inr (Or.inr rfl)) (hd : (x == ("__debug__" : Str)) = false := by decide) (hcd : (x == ("__classdict__" : Str)) = false := by decide) : AE X c H0 (.Name x pos) (aVar i) := ae_var hN hv hd hcd
theorem ae_propG (g : T → D) {fV : T → V} (hg : ∀ H t, Rep c H (g t) (fV t)) (cl : Cls X.K (cF X.K)) (M : PropD X.prog X.w X.K X.mg X.base CX0 k (cF X.K) f (spV X.K fV)) (hr : Room (k + 1) X.A) (he : AE X c H0 e a) (hab : attributeBase e f X.env (eval e X.env) = eval e X.env) : AE X c H0 (.Attribute e f pos) (aProp g a) := ae_prop cl M hg hr he hab
def asVia (t : ATS) : ATS := fun D env L => ∃ R : En → Store → Prop, t { D with nx := R } env L ∧ ∀ e l, R e l → D.nx e l
def aPar3 (i j l : Nat) (as : ATA) : ATS := fun D env L => as env L fun ds L1 => match ds with
  | [d, e, f] => D.nx (((env.set i (some d)).set j (some e)).set l (some f)) L1
  | _ => False
end
section
variable {X : Cx} {c : AC X.K} {H0 : Hp} {e f g : Expr} {a : ATE} {as : ATA} {pos : Pos}
theorem as_par3 {i j l : Nat} {x y z : Str} {px py pz pt pos : Pos} {kt k2 pt2} (hc : X.calm = true) (hN : X.N.Nodup) (hi : X.N[i]? = some x) (hj : X.N[j]? = some y) (hl : X.N[l]? = some z) (hij : i ≠ j) (hil : i ≠ l) (hjl : j ≠ l)
    (hx : X.env.scope.names.lookup x = some .local) (hy : X.env.scope.names.lookup y = some .local) (hz : X.env.scope.names.lookup z = some .local) (ha : AA X c H0 [e, f, g] as)
    (hw : swappedStores [.Tuple [.Name x px, .Name y py, .Name z pz] kt pt] (.Tuple [e, f, g] k2 pt2) X.env = pure (some [x, y, z]))
    (hs : swapsWithSole [.Tuple [.Name x px, .Name y py, .Name z pz] kt pt] (.Tuple [e, f, g] k2 pt2) pos.line X.env = pure false := by rfl) :
    AS X c H0 (.Assign [.Tuple [.Name x px, .Name y py, .Name z pz] kt pt] (.Tuple [e, f, g] k2 pt2) pos) (aPar3 i j l as) := by
  refine (ps_par3 hc hN hi hj hl hij hil hjl hx hy hz ha hw hs).imp fun D σ H ⟨env, L, R, rl, h, er⟩ => ?_
  refine ⟨env, L, _, rl, h, fun ds L1 vs H1 q s g1 r => ?_⟩
  split at q
  · rename_i d1 d2 d3
    obtain ⟨u, rs, rfl, r1, r2⟩ := repL_cons.mp r
    obtain ⟨v, w, rfl, r3, r4⟩ := repL_two r2
    exact ⟨u, v, w, rfl, er.nx _ L1 _ H1 q s ⟨(((rl.env.fr s).set i r1).set j r3).set l r4, g1, rl.fr.trans s⟩⟩
  · exact q.elim
end
theorem law_low {K : PySem.W.Frag} {c : AC K} {H : Hp} {a : ATS} {p : Addr} {ns : List Int} {N : List Str} {Q : VK} (hs : c.scr = some (p, ns)) (hl : ns.length ≤ 63) (hS : SqL K H p (ns.map V.int)) (hT : Tabs c.TT H) (k : ∀ H', Q (.bl true) H')
    (vc : a (fnEnds fun d _ => d = .bl true) (startA N [.scr]) law0) : lowS c H a { nx := fun _ H' => Q .non H', rt := Q } (L2.start N [.ref p]) H :=
  body_low (.one (rep_scr.mpr ⟨p, ns, hs, rfl⟩)) (good_law hs hl hS hT) (fun d L' v H' e s g r => by
    subst e
    rw [rep_bl.mp r]
    exact k H') vc
def feedM : MO := .opq fun o => ∃ a b c : Int, o = .dK (feedD a b c)
theorem feed_at {K : PySem.W.Frag} {c : AC K} {H : Hp} {L : Store} {d : Addr} (g : Good c L H) (e : L d = some feedM) : FeedAt H d := by
  obtain ⟨o, e1, ⟨x, y, z, rfl⟩, _⟩ := g.st d _ e
  exact ⟨x, y, z, e1⟩
theorem feed_m {K : PySem.W.Frag} {c : AC K} {H : Hp} {d : Addr} (h : FeedAt H d) : MRep c H d feedM := by
  obtain ⟨x, y, z, e⟩ := h
  exact ⟨_, e, ⟨x, y, z, rfl⟩, fun z => z, fun _ z => (by cases z), fun _ z => (by cases z), fun _ ⟨_, _, _, z⟩ => (by cases z), fun _ ⟨_, _, _, z⟩ => (by cases z)⟩
end AL
namespace AL
open PySem PySem.Spec PyProof.Rows L2 LamX JW
theorem perm_tx : ∀ {ys zs : List Str}, ys.Perm zs → ∀ {l : List T}, zs = l.map tx → ∃ us : List T, us.Perm l ∧ ys = us.map tx := by
  intro ys zs p
  induction p with
  | nil =>
    intro l e
    cases l with
    | nil => exact ⟨[], .refl _, rfl⟩
    | cons t r => cases e
  | cons x p ih =>
    intro l e
    cases l with
    | nil => cases e
    | cons t r =>
      cases e
      obtain ⟨us, p1, e1⟩ := ih rfl
      exact ⟨t :: us, p1.cons t, by rw [e1]; rfl⟩
  | swap x y zs =>
    intro l e
    match l, e with
    | t :: u :: r, e =>
      cases e
      exact ⟨u :: t :: r, .swap t u r, rfl⟩
  | trans p q ih1 ih2 =>
    intro l e
    obtain ⟨us, p1, e1⟩ := ih2 e
    obtain ⟨vs, p2, e2⟩ := ih1 e1
    exact ⟨vs, p2.trans p1, e2⟩
theorem rising_srt : ∀ (l : List T) (t : T), risingS (tx t) (l.map tx) = true → Srt (t :: l)
  | [], t, _ => List.pairwise_cons.mpr ⟨fun _ h => absurd h List.not_mem_nil, List.Pairwise.nil⟩
  | u :: l, t, h => by
    have h' : (!ltCps (tx u).cps.toList (tx t).cps.toList && risingS (tx u) (l.map tx)) = true := h
    rw [Bool.and_eq_true, Bool.not_eq_true', ltCps_eq] at h'
    have r := rising_srt l u h'.2
    have hu : tle t u = true := by
      unfold tle
      have e1 : (tx u).cps.toList = u.codes := by unfold tx; rfl
      have e2 : (tx t).cps.toList = t.codes := by unfold tx; rfl
      rw [← e1, ← e2, h'.1]
      rfl
    refine List.pairwise_cons.mpr ⟨fun v hv => ?_, r⟩
    rcases List.mem_cons.mp hv with e | e
    · rw [e]; exact hu
    · exact tle_trans _ _ _ hu ((List.pairwise_cons.mp r).1 v e)
theorem sorted_tx {l : List T} {ys : List Str} (p : ys.Perm (l.map tx)) (h : sortedS ys = true) : ys = (sortT l).map tx := by
  obtain ⟨us, p1, rfl⟩ := perm_tx p rfl
  have : Srt us := by
    cases us with
    | nil => exact List.Pairwise.nil
    | cons t r => exact rising_srt r t h
  rw [sortT_eq p1 this]
def dtx (t : T) : D := .str (tx t)
theorem dtx_map (l : List T) : l.map dtx = (l.map tx).map D.str := by rw [List.map_map]; rfl
theorem dec_sgn {a b : Nat} {z : Str} (h : z = SX.S [b]) : decide ((⟨#[a]⟩ : Str) = z) = decide (a = b) := by
  subst h
  by_cases e : a = b
  · subst e
    simp
  · rw [decide_eq_false e, decide_eq_false fun z => e (by have := SX.S_inj (a := [a]) (b := [b]) z; simpa using this)]
def RowsAt (L : Store) (ps : List Addr) (st : List (List T)) : Prop := ps.Nodup ∧ ps.length = st.length ∧ ∀ (i : Nat) p l, ps[i]? = some p → st[i]? = some l → L p = some (.lst (l.map dtx))
theorem rows_top {L : Store} {ps : List Addr} {st : List (List T)} {l : List T} (h : RowsAt L ps (st ++ [l])) : ∃ qs p, ps = qs ++ [p] ∧ RowsAt L qs st ∧ L p = some (.lst (l.map dtx)) ∧ p ∉ qs := by
  obtain ⟨h1, h2, h3⟩ := h
  have hn : ps ≠ [] := fun z => by
    subst z
    simp at h2
  obtain ⟨qs, p, rfl⟩ : ∃ qs p, ps = qs ++ [p] := ⟨ps.dropLast, ps.getLast hn, (List.dropLast_concat_getLast hn).symm⟩
  rw [List.length_append, List.length_append] at h2
  have hl : qs.length = st.length := by
    have : [p].length = [l].length := rfl
    omega
  have hd := List.nodup_append.mp h1
  refine ⟨qs, p, rfl, ⟨hd.1, hl, fun i q m e1 e2 => ?_⟩, ?_, fun hm => hd.2.2 p hm p (List.mem_singleton.mpr rfl) rfl⟩
  · have i1 : i < qs.length := (List.getElem?_eq_some_iff.mp e1).1
    exact h3 i q m (by rw [List.getElem?_append_left i1]; exact e1) (by rw [List.getElem?_append_left (by omega)]; exact e2)
  · exact h3 qs.length p l (by simp) (by rw [hl]; simp)
theorem rows_push {L : Store} {qs : List Addr} {st : List (List T)} {l : List T} {p : Addr} (h : RowsAt L qs st) (hp : p ∉ qs) (e : L p = some (.lst (l.map dtx))) : RowsAt L (qs ++ [p]) (st ++ [l]) := by
  obtain ⟨h1, h2, h3⟩ := h
  refine ⟨List.nodup_append.mpr ⟨h1, by simp, fun a ha b hb => by rw [List.mem_singleton.mp hb]; rintro rfl; exact hp ha⟩, by rw [List.length_append, List.length_append, h2]; rfl, fun i q m e1 e2 => ?_⟩
  by_cases hi : i < qs.length
  · rw [List.getElem?_append_left hi] at e1
    rw [List.getElem?_append_left (by omega)] at e2
    exact h3 i q m e1 e2
  · rw [List.getElem?_append_right (by omega)] at e1
    rw [List.getElem?_append_right (by omega)] at e2
    obtain ⟨a1, a2⟩ := List.getElem?_eq_some_iff.mp e1
    obtain ⟨b1, b2⟩ := List.getElem?_eq_some_iff.mp e2
    have a3 : i - qs.length = 0 := by
      have : [p].length = 1 := rfl
      omega
    have b3 : i - st.length = 0 := by omega
    simp only [a3, b3] at a2 b2
    subst a2 b2
    exact e
theorem rows_keep {L L' : Store} {qs : List Addr} {st : List (List T)} (h : RowsAt L qs st) (k : ∀ p ∈ qs, L' p = L p) : RowsAt L' qs st :=
  ⟨h.1, h.2.1, fun i p l e1 e2 => (k p (List.mem_of_getElem? e1)).trans (h.2.2 i p l e1 e2)⟩
theorem rows_some {L : Store} {ps : List Addr} {st : List (List T)} (h : RowsAt L ps st) {p : Addr} (hp : p ∈ ps) : ∃ l : List T, L p = some (.lst (l.map dtx)) := by
  obtain ⟨i, hi⟩ := List.mem_iff_getElem?.mp hp
  have hi2 : i < st.length := by rw [← h.2.1]; exact (List.getElem?_eq_some_iff.mp hi).1
  exact ⟨_, h.2.2 i p _ hi (List.getElem?_eq_getElem hi2)⟩
theorem nem {α : Type} {a b : α} {l : List α} (h : a ∈ l) (k : b ∉ l) : a ≠ b := fun e => k (e ▸ h)
theorem last_get {α : Type} (l : List α) (x : α) : (l ++ [x])[(l ++ [x]).length - 1]? = some x := by simp
theorem atI_last {α : Type} (l : List α) (x : α) : atI (l ++ [x]) ((l ++ [x]).length - 1 : Int) = some x := by
  have e : ((l ++ [x]).length : Int) - 1 = ((l.length : Nat) : Int) := by rw [List.length_append, List.length_singleton]; omega
  rw [e]
  unfold atI
  unfold ixN
  rw [if_pos (by omega), if_pos (by omega)]
  simp
theorem joined {l : List T} (h : sizeL l ≤ 5000) : (((sortT l).map tx).map (·.length)).sum + ((sortT l).map tx).length * ("" : Str).length ≤ 16777216 := by
  have e : ("" : Str).length = 0 := rfl
  have h1 := codesL_len (sortT l)
  rw [sizeL_perm (sortT_perm l)] at h1
  rw [lens_tx, e]
  omega
theorem joinedS {l : List T} (h : sizeL l ≤ 5000) : (Txt.join "" ((sortT l).map tx)).length ≤ 10000 := by
  have h1 := codesL_len (sortT l)
  rw [sizeL_perm (sortT_perm l)] at h1
  rw [join_tx, SX.S_len]
  omega
theorem sizeL_canon (l : List T) : sizeL (l.map T.canon) = sizeL l := by
  rw [sizeL_sum, sizeL_sum, List.map_map, List.map_congr_left (f := T.size ∘ T.canon) fun t _ => canon_size t]
theorem depDL_map {α : Type} {f : α → D} (h : ∀ a, depD (f a) = 0) : ∀ l : List α, depDL (l.map f) = 0
  | [] => rfl
  | a :: l => by
    show max (depD (f a)) (depDL (l.map f)) = 0
    rw [h a, depDL_map h l]
    rfl
theorem eqDL_nil : ∀ l : List D, eqDL l [] = some true
  | [] => by simp [eqDL]
  | _ :: _ => by simp [eqDL]
theorem eqSq_nil {neg : Bool} {l : List D} {L : Store} {Q : AQ} (h : depDL l ≤ 70) (q : Q (.bl (neg ^^ (l.length == 0))) L) : eqSq neg l [] L Q :=
  ⟨true, eqDL_nil l, h, by rw [Bool.true_and]; exact q⟩
theorem cutD_take {α : Type} {f : α → D} {l : List α} {i : Int} {k : Nat} (h : i = (k : Nat)) : cutD (l.map f) none (some i) = (l.take k).map f := by
  subst h
  unfold cutD
  rw [HT.sIx_nat, HT.sIx_none, List.drop_zero, Nat.sub_zero, List.map_take, List.take_eq_take_iff]
  omega
theorem cutD_drop {α : Type} {f : α → D} {l : List α} {i : Int} {k : Nat} (h : i = (k : Nat)) : cutD (l.map f) (some i) none = (l.drop k).map f := by
  subst h
  unfold cutD
  rw [HT.sIx_nat, HT.sIx_none, List.map_drop]
  by_cases e : k ≤ (l.map f).length
  · rw [Nat.min_eq_left e]
    exact List.take_of_length_le (by rw [List.length_drop]; omega)
  · rw [Nat.min_eq_right (by omega), List.drop_of_length_le (Nat.le_refl _), List.drop_of_length_le (by omega)]
    simp
def atVia (t : ATT) : ATT := fun env L Q => ∃ R : Bool → Store → Prop, t env L R ∧ ∀ k l, R k l → Q k l
section
variable {X : Cx} {c : AC X.K} {H0 : Hp} {e : Expr} {t : ATT}
theorem at_via (ha : AT X c H0 e t) : AT X c H0 e (atVia t) := by
  refine ha.imp fun σ H Q ⟨env, L, R, rl, ⟨N, h1, h2⟩, pq⟩ => ?_
  exact ⟨env, L, N, rl, h1, fun k L1 H1 q s1 g1 => pq _ _ _ (h2 k L1 q) s1 g1⟩
end
end AL
namespace L2
open PySem PySem.Spec PyProof.Rows JW
section
variable {X : Cx} {CX : CXT} {k : Nat} {ps : List Str} {sp : Sp} {dvs : List V} {E : XK} {x : Str} {p pos : Pos} {e : Expr} {es : List Expr} {t : TA} {a b : Expr} {ta tb : TE} {tA : TT}
theorem PSsT.nox {st : List Stmt} {t : TS} (h : PSsT X.nox st t) : PSsT X st t := fun pins s σ H D h0 I hw =>
  wpAny_mono (h pins s σ H D h0 (I.wish _) hw) (fun _ _ q => q.unwish) fun _ _ z => False.elim z
end
end L2
namespace AL
open PySem PySem.Spec PyProof.Rows L2 LamX JW
section
variable (X : Cx) (c : AC X.K) (H0 : Hp)
end
section
variable {X : Cx} {c : AC X.K} {H0 : Hp} {e f g : Expr} {es : List Expr} {a b : ATE} {as : ATA} {pos p : Pos} {t : ATT} {st : Stmt} {rest : List Stmt} {s1 s2 : ATS} {k : Nat} {ps : List Str} {x : Str} {asp : ASp}
def aReplC (a : ATE) (y z : Str) : ATE := fun env L Q => a env L fun d L1 => strE d fun x => x.length + (x.length + 1) * z.length ≤ 16777216 ∧ Q (.str (Txt.replace x y z)) L1
end
section
variable {P : Program} {w : World} {K : PySem.W.Frag} {mg : Str → Option Value} {base : Heap} {c : AC K} {x m qual : Str} {st : Stmt} {N ps : List Str} {k : Nat} {asp : ASp}
end
end AL
namespace JW
open PySem PySem.Spec PyProof.Rows
mutual
def T.fill : T → T
  | .jet => .jet
  | .bas l => (match fillL l with
    | [] => .jet
    | t :: r => .bas (t :: r))
def fillL : List T → List T
  | [] => []
  | t :: l => t.fill :: fillL l
end
theorem fill_bas {t : T} {l : List T} : (T.bas (t :: l)).fill = .bas (t.fill :: fillL l) := rfl
theorem jts_mem : ∀ {t : T}, decide (111 ∈ t.codes) = decide (0 < t.jts) := by
  intro t
  revert t
  apply T.ind'
  · decide
  · intro l ih
    have hl : ∀ l : List T, (∀ t ∈ l, decide (111 ∈ t.codes) = decide (0 < t.jts)) → (111 ∈ codesL l ↔ 0 < jtsL l) := by
      intro l
      induction l with
      | nil => exact fun _ => ⟨fun h => absurd h List.not_mem_nil, fun h => absurd h (Nat.lt_irrefl 0)⟩
      | cons t l ih =>
        intro h
        have h1 : 111 ∈ t.codes ↔ 0 < t.jts := by simpa using h t List.mem_cons_self
        have h2 := ih fun u hu => h u (List.mem_cons_of_mem _ hu)
        show 111 ∈ t.codes ++ codesL l ↔ 0 < t.jts + jtsL l
        rw [List.mem_append, h1, h2]
        omega
    have h := hl l ih
    have e : 111 ∈ (T.bas l).codes ↔ 111 ∈ codesL l := by
      show 111 ∈ 40 :: (codesL l ++ [41]) ↔ _
      simp
    show decide (111 ∈ (T.bas l).codes) = decide (0 < jtsL l)
    exact decide_eq_decide.mpr (e.trans h)
theorem jts_of_mem {t : T} {l : List T} (h : jtsL l = 0) (ht : t ∈ l) : t.jts = 0 := by
  induction l with
  | nil => cases ht
  | cons u l ih =>
    have e : u.jts + jtsL l = 0 := h
    rcases List.mem_cons.mp ht with e1 | e1
    · rw [e1]; omega
    · exact ih (by omega) e1
theorem head40 {t : T} (h : t.jts = 0) : ∃ q, t.codes = 40 :: q := by
  cases t with
  | jet => cases h
  | bas l => exact ⟨_, rfl⟩
theorem fill_codes : ∀ t : T, t.jts = 0 → ∀ r, PySem.StrLaws.replL [40, 41] [111] (t.codes ++ r) = t.fill.codes ++ PySem.StrLaws.replL [40, 41] [111] r := by
  apply T.ind'
  · intro h
    cases h
  · intro l ih h r
    have hl : ∀ us : List T, (∀ u ∈ us, u ∈ l) → ∀ r, PySem.StrLaws.replL [40, 41] [111] (codesL us ++ r) = codesL (fillL us) ++ PySem.StrLaws.replL [40, 41] [111] r := by
      intro us
      induction us with
      | nil => exact fun _ r => rfl
      | cons u us ih2 =>
        intro hm r
        have hu := hm u List.mem_cons_self
        show PySem.StrLaws.replL [40, 41] [111] (u.codes ++ codesL us ++ r) = (u.fill.codes ++ codesL (fillL us)) ++ PySem.StrLaws.replL [40, 41] [111] r
        rw [List.append_assoc, ih u hu (jts_of_mem h hu), ih2 (fun v hv => hm v (List.mem_cons_of_mem _ hv)), List.append_assoc]
    have h41 : PySem.StrLaws.replL [40, 41] [111] (41 :: r) = 41 :: PySem.StrLaws.replL [40, 41] [111] r := PySem.StrLaws.replL_miss (by simp)
    cases l with
    | nil =>
      show PySem.StrLaws.replL [40, 41] [111] (40 :: 41 :: r) = 111 :: PySem.StrLaws.replL [40, 41] [111] r
      rw [PySem.StrLaws.replL_hit (by simp) (by simp)]
      rfl
    | cons u us =>
      obtain ⟨q, hq⟩ := head40 (jts_of_mem h (List.mem_cons_self (a := u) (l := us)))
      have e1 := hl (u :: us) (fun v hv => hv) (41 :: r)
      rw [h41] at e1
      rw [fill_bas]
      show PySem.StrLaws.replL [40, 41] [111] (40 :: ((codesL (u :: us) ++ [41]) ++ r)) = (40 :: (codesL (u.fill :: fillL us) ++ [41])) ++ PySem.StrLaws.replL [40, 41] [111] r
      rw [List.append_assoc, List.singleton_append]
      have e2 : codesL (u :: us) = 40 :: (q ++ codesL us) := by
        show u.codes ++ codesL us = _
        rw [hq]
        rfl
      rw [PySem.StrLaws.replL_miss (by rw [e2]; simp), e1, List.cons_append, List.append_assoc, List.singleton_append]
      rfl
theorem fill_size : ∀ t : T, t.fill.size = t.size := by
  apply T.ind'
  · rfl
  · intro l ih
    have hl : ∀ l : List T, (∀ t ∈ l, t.fill.size = t.size) → sizeL (fillL l) = sizeL l := by
      intro l
      induction l with
      | nil => exact fun _ => rfl
      | cons t l ih =>
        intro h
        show t.fill.size + sizeL (fillL l) = t.size + sizeL l
        rw [h t List.mem_cons_self, ih fun u hu => h u (List.mem_cons_of_mem _ hu)]
    cases l with
    | nil => rfl
    | cons u us =>
      show 1 + sizeL (fillL (u :: us)) = 1 + sizeL (u :: us)
      rw [hl _ ih]
theorem fill_opn : ∀ t : T, 0 < t.fill.jts := by
  apply T.ind'
  · decide
  · intro l ih
    cases l with
    | nil => decide
    | cons u us =>
      have h := ih u List.mem_cons_self
      show 0 < u.fill.jts + jtsL (fillL us)
      omega
theorem fill_tx {t : T} (h : t.jts = 0) : Txt.replace (tx t) ("()" : Str) ("o" : Str) = tx t.fill := by
  have e := PySem.StrLaws.replace_list (x := tx t) (y := ("()" : Str)) (z := ("o" : Str)) (by decide +kernel)
  have e1 : ("()" : Str).cps.toList = [40, 41] := by decide +kernel
  have e2 : ("o" : Str).cps.toList = [111] := by decide +kernel
  have e3 : ∀ u : T, (tx u).cps.toList = u.codes := fun u => by unfold tx; rfl
  have h2 := fill_codes t h []
  rw [List.append_nil, PySem.StrLaws.replL_nil, List.append_nil] at h2
  rw [e1, e2, e3, h2, ← e3] at e
  exact TL.ext_tl e
theorem in_o (t : T) : (!(Builtin.Str.occurrences (tx t) ("o" : Str) 0 (tx t).length 1).isEmpty) = opn t := by
  have e2 : ("o" : Str) = ⟨#[111]⟩ := by decide +kernel
  have e3 : (tx t).cps.toList = t.codes := by unfold tx; rfl
  rw [e2, StrLaws.found_one, e3]
  exact jts_mem
end JW
namespace JW
open PySem PySem.Spec PyProof.Rows L2
section
variable {X : Cx} {CX : CXT} {k : Nat} {f : Addr} {fd : FuncData} {ps : List Str} {ds : List Value} {dvs : List V} {sp : Sp} {E : XK} {C : Addr}
end
end JW
namespace AL
open PySem PySem.Spec PyProof.Rows L2 LamX JW
section
variable {X : Cx} {c : AC X.K} {H0 : Hp} {e f : Expr} {a b : ATE} {pos : Pos} {k : Nat} {ps : List Str} {asp : ASp} {qual : Str} {st : Stmt}
end
end AL
namespace JW
theorem grf_ge {p t : T} (h : t.jts ≠ 0) : p.size ≤ (T.grf p t).size ∧ p.dep ≤ (T.grf p t).dep := by
  have h1 := grf_size p t
  have h2 := jts_le t
  have h3 : p.size ≤ t.jts * p.size := Nat.le_mul_of_pos_left _ (by omega)
  have h4 := grf_dep p t
  rw [if_neg h] at h4
  omega
theorem prod_op {l : List T} (h : ∀ t ∈ l, Op t) : Op (prodT l) := ⟨prod_can fun t ht => (h t ht).1, prod_open fun t ht => (h t ht).2⟩
theorem part_le {a b c : List T} (ha : ∀ t ∈ a, Op t) (hb : ∀ t ∈ b, Op t) (hc : ∀ t ∈ c, Op t) : (prodT b).size ≤ (prodT (a ++ b ++ c)).size ∧ (prodT b).dep ≤ (prodT (a ++ b ++ c)).dep := by
  have hab : ∀ t ∈ a ++ b, Op t := fun t ht => (List.mem_append.mp ht).elim (ha t) (hb t)
  rw [prod_app (a := a ++ b) (fun t ht => (hab t ht).1) (fun t ht => (hc t ht).1), prod_app (fun t ht => (ha t ht).1) (fun t ht => (hb t ht).1), grf_assoc]
  have h1 := grf_ge (p := T.grf (prodT c) (prodT b)) (prod_op ha).2
  have h2 := grf_size_le (prodT c) (prodT b)
  have h3 := grf_dep_le (prodT c) (prodT b)
  omega
end JW
namespace JW
open PySem PySem.Spec PyProof.Rows L2
end JW
namespace GK
open PySem PySem.Spec PyProof.Rows L2 LamX JW AL
def GdV (n : Nat) (u : Value) : Prop := ∀ y t, u = .str y t → t ≠ 0 ∧ t < n
def GdVs (n : Nat) (us : List Value) : Prop := ∀ u ∈ us, GdV n u
theorem GdV.mono {n m : Nat} {u : Value} (h : GdV n u) (k : n ≤ m) : GdV m u := fun y t e => ⟨(h y t e).1, Nat.lt_of_lt_of_le (h y t e).2 k⟩
theorem GdVs.mono {n m : Nat} {us : List Value} (h : GdVs n us) (k : n ≤ m) : GdVs m us := fun u hu => (h u hu).mono k
theorem GdVs.nil {n : Nat} : GdVs n [] := fun _ h => absurd h List.not_mem_nil
theorem GdVs.cons {n : Nat} {u : Value} {us : List Value} (h : GdV n u) (k : GdVs n us) : GdVs n (u :: us) := fun v hv => (List.mem_cons.mp hv).elim (fun e => e ▸ h) (k v)
theorem GdVs.app {n : Nat} {us vs : List Value} (h : GdVs n us) (k : GdVs n vs) : GdVs n (us ++ vs) := fun v hv => (List.mem_append.mp hv).elim (h v) (k v)
theorem gd_int {n : Nat} {i : Int} {t : Tok} : GdV n (.int i t) := fun _ _ e => nomatch e
theorem gd_bl {n : Nat} {b : Bool} : GdV n (.bool b) := fun _ _ e => nomatch e
theorem gd_non {n : Nat} : GdV n .none := fun _ _ e => nomatch e
theorem gd_ref {n : Nat} {a : Addr} : GdV n (.ref a) := fun _ _ e => nomatch e
theorem gd_new {n t : Nat} {x : Str} (h : 1 ≤ t) (k : t < n) : GdV n (.str x t) := fun y u e => by
  cases e
  exact ⟨Nat.ne_of_gt h, k⟩
theorem gd_rel {n : Nat} {v : V} {u : Value} (r : RelV v u) (h : ∀ x, v ≠ .str x) : GdV n u := fun y t e => by
  subst e
  cases v with
  | str x => exact absurd rfl (h x)
  | non => exact nomatch r
  | bl b => exact nomatch r
  | ref a => exact nomatch r
  | ty z => exact nomatch r
  | int i => obtain ⟨_, z⟩ := r; exact nomatch z
  | byt i => obtain ⟨_, z⟩ := r; exact nomatch z
  | flt i => obtain ⟨_, z⟩ := r; exact nomatch z
def GdL (H : Hp) (s : Shared) : Prop := ∀ p xs o its k, H p = some (.lst xs) → s.heap.get? p = some o → o.data = .seq its k → GdVs s.toks its.toList
def noSt (X : Cx) : L2.St := List.replicate X.N.length none
def FrG (X : Cx) (c : AC X.K) (env : En) (H : Hp) (n : Nat) (m : Str → Option Value) : Prop := ∀ (i : Nat) (d : D), env[i]? = some (some d) → ∃ x v u, X.N[i]? = some x ∧ m x = some u ∧ RelV v u ∧ Rep c H d v ∧ GdV n u
structure SG (X : Cx) (c : AC X.K) (pins : List (Addr × Obj)) (env : En) (L : Store) (H : Hp) (s : Shared) : Prop where
  inv : Inv X pins (noSt X) H s
  fr : ∃ m, s.heap.Ns X.env.locals m ∧ FrG X c env H s.toks m
  len : env.length = X.N.length
  good : Good c L H
  lst : GdL H s
  tk : 1 ≤ s.toks
section
variable {X : Cx} {c : AC X.K} {pins : List (Addr × Obj)} {env : En} {L L' : Store} {H H' : Hp} {s s' : Shared}
theorem FrG.fr {n n' : Nat} {m : Str → Option Value} (h : FrG X c env H n m) (f : AL.Fr c H H') (k : n ≤ n') : FrG X c env H' n' m := fun i d e => by
  obtain ⟨x, v, u, h1, h2, h3, h4, h5⟩ := h i d e
  exact ⟨x, v, u, h1, h2, h3, h4.fr f, h5.mono k⟩
theorem SG.to (S : SG X c pins env L H s) (I : Inv X pins (noSt X) H' s') (hf : ∀ m, s.heap.Ns X.env.locals m → s'.heap.Ns X.env.locals m) (ht : s.toks ≤ s'.toks) (f : AL.Fr c H H') (g : Good c L' H') (l : GdL H' s') : SG X c pins env L' H' s' := by
  obtain ⟨m, h1, h2⟩ := S.fr
  exact ⟨I, ⟨m, hf m h1, h2.fr f ht⟩, S.len, g, l, Nat.le_trans S.tk ht⟩
theorem ns_kept {h h' : Heap} {a : Addr} (k : ∀ b o, h.get? b = some o → h'.get? b = some o) : ∀ m, h.Ns a m → h'.Ns a m := fun m hn => hn.keeps k
theorem gdl_kept {h' : Heap} {t' : Nat} (l : GdL H s) (hk : HOk X.prog X.w H s.heap) (k : ∀ b o, s.heap.get? b = some o → h'.get? b = some o) (ht : s.toks ≤ t') : GdL H { s with heap := h', toks := t' } := fun p xs o its n e1 e2 e3 => by
  obtain ⟨z, us, n', _, e4⟩ := hk p _ e1
  have e5 : h'.get? p = some o := e2
  rw [k _ _ e4] at e5
  cases e5
  exact (l p xs _ its n e1 e4 e3).mono ht
theorem SG.kept {h' : Heap} {t' : Nat} (S : SG X c pins env L H s) (k : ∀ b o, s.heap.get? b = some o → h'.get? b = some o) (ht : s.toks ≤ t') : SG X c pins env L H { s with heap := h', toks := t' } :=
  S.to (S.inv.kept k) (ns_kept k) ht (.refl c H) S.good (gdl_kept S.lst S.inv.hok k ht)
theorem SG.tok {t' : Nat} (S : SG X c pins env L H s) (ht : s.toks ≤ t') : SG X c pins env L H { s with toks := t' } := S.kept (fun _ _ e => e) ht
theorem SG.lay {h' : Heap} {t' : Nat} {a : Addr} {vs : List V} {its : List Value} {n : Nat} {ds : List D} (S : SG X c pins env L H s) (k : ∀ b o, s.heap.get? b = some o → h'.get? b = some o) (ht : s.toks ≤ t') (ha : s.heap.objs.size ≤ a)
    (hz : vs.length ≤ sizeLine) (hv : Vals vs its) (e : h'.get? a = some { cls := .type "list", data := .seq its.toArray n }) (gd : GdVs t' its) (rs : RepL c H ds vs) : SG X c pins env (sput L a (.lst ds)) (upd H a (.lst vs)) { s with heap := h', toks := t' } := by
  have hn : H a = none := S.inv.hok.fresh ha
  refine S.to (S.inv.laid k ha ⟨hz, its, n, hv, e⟩) (ns_kept k) ht (.new hn) (S.good.alloc hn (.lst vs) ⟨vs, upd_same, rs.fr (.new hn)⟩) (fun p xs o its' n' e1 e2 e3 => ?_)
  by_cases hp : p = a
  · subst hp
    have e2 : h'.get? p = some o := e2
    rw [e] at e2
    cases e2
    cases e3
    simpa using gd
  · rw [upd_ne hp] at e1
    exact gdl_kept S.lst S.inv.hok k ht p xs o its' n' e1 e2 e3
theorem SG.put {t' : Nat} {l : Addr} {xs ys : List V} {its its' : List Value} {n : Nat} {f : Array Value → Array Value} {ds es : List D} (S : SG X c pins env L H s) (hH : H l = some (.lst xs)) (hL : L l = some (.lst ds)) (e : s.heap.get? l = some { cls := .type "list", data := .seq its.toArray n })
    (hf : f its.toArray = its'.toArray) (hv : Vals ys its') (hz : ys.length ≤ sizeLine) (ht : s.toks ≤ t') (gd : GdVs t' its') (rs : RepL c H es ys) : SG X c pins env (sput L l (.lst es)) (upd H l (.lst ys)) { s with heap := s.heap.update l (Obj.mapSeq f), toks := t' } := by
  have hF : AL.Fr c H (upd H l (.lst ys)) := .put hH fun z => z
  obtain ⟨g, _⟩ := S.good.put (m' := .lst es) hL (.lst ys) ⟨ys, upd_same, rs.fr hF⟩
  have hne : l ≠ X.env.locals := fun z => by
    rw [z, S.inv.free] at hH
    cases hH
  have q := PySem.IsL.update e f
  refine S.to (S.inv.lset hH e hf hv hz) (fun m hm => ?_) ht hF g (fun p zs o us n' e1 e2 e3 => ?_)
  · obtain ⟨o, es', ep, h1, h2⟩ := hm
    exact ⟨o, es', ep, (Heap.get?_update_other s.heap (Obj.mapSeq f) hne).trans h1, h2⟩
  · have e2 : (s.heap.update l (Obj.mapSeq f)).get? p = some o := e2
    by_cases hp : p = l
    · subst hp
      rw [q] at e2
      cases e2
      cases e3
      rw [hf]
      simpa using gd
    · rw [upd_ne hp] at e1
      rw [Heap.get?_update_other s.heap (Obj.mapSeq f) (Ne.symm hp)] at e2
      exact (S.lst p zs o us n' e1 e2 e3).mono ht
theorem SG.list {p : Addr} {ds : List D} (S : SG X c pins env L H s) (h : L p = some (.lst ds)) : ∃ (vs : List V) (its : List Value) (n : Nat), H p = some (.lst vs) ∧ RepL c H ds vs ∧ Vals vs its ∧ vs.length ≤ sizeLine ∧ s.heap.get? p = some { cls := .type "list", data := .seq its.toArray n } ∧ GdVs s.toks its := by
  obtain ⟨vs, e1, rs⟩ := good_lst S.good h
  obtain ⟨z, its, n, r, e⟩ := S.inv.hok p _ e1
  exact ⟨vs, its, n, e1, rs, r, z, e, by simpa using S.lst p vs _ _ n e1 e rfl⟩
end
end GK
namespace GK
open PySem PySem.Spec PyProof.Rows L2 LamX JW AL
section
variable (X : Cx) (c : AC X.K) (pins : List (Addr × Obj)) (env : En) (H : Hp)
def EG (R : AQ) (u : Value) (s' : Shared) : Prop := ∃ d v H' L', SG X c pins env L' H' s' ∧ AL.Fr c H H' ∧ Rep c H' d v ∧ RelV v u ∧ GdV s'.toks u ∧ R d L'
def TGd (R : Bool → Store → Prop) (b : Bool) (s' : Shared) : Prop := ∃ H' L', SG X c pins env L' H' s' ∧ AL.Fr c H H' ∧ R b L'
def AGd (R : List D → Store → Prop) (us : List Value) (s' : Shared) : Prop := ∃ ds vs H' L', SG X c pins env L' H' s' ∧ AL.Fr c H H' ∧ RepL c H' ds vs ∧ Vals vs us ∧ GdVs s'.toks us ∧ R ds L'
end
section
variable (X : Cx) (c : AC X.K)
def XE (e : Expr) (a : ATE) : Prop := ∀ pins s env L H R, SG X c pins env L H s → a env L R → wpAny (model X.prog X.w) X.A (eval e X.env) (EG X c pins env H R) X.xe s
def XT (e : Expr) (t : ATT) : Prop := ∀ pins s env L H R, SG X c pins env L H s → t env L R → wpAny (model X.prog X.w) X.A (isTrue e X.env (eval e X.env)) (TGd X c pins env H R) X.xe s
def XW (e : Expr) (t : ATT) : Prop := ∀ whole pins s env L H R, SG X c pins env L H s → t env L R → wpAny (model X.prog X.w) X.A (isTrue e X.env whole) (TGd X c pins env H R) X.xe s
def XA (es : List Expr) (a : ATA) : Prop := ∀ pos pins s env L H R, SG X c pins env L H s → a env L R → wpAny (model X.prog X.w) X.A (spliced (backTo pos (starEach es X.env))) (AGd X c pins env H R) X.xe s
def XOp (f : Value → Value → Sem Value) (g : D → D → Store → AQ → Prop) : Prop := ∀ pins s env L H R d e x y v u, SG X c pins env L H s → Rep c H d x → RelV x v → GdV s.toks v → Rep c H e y → RelV y u → GdV s.toks u → g d e L R → wpAny (model X.prog X.w) X.A (f v u) (EG X c pins env H R) X.xe s
def XCb (f : Value) (g : List D → Store → AQ → Prop) : Prop := ∀ pins s env L H R ds vs us, SG X c pins env L H s → RepL c H ds vs → Vals vs us → GdVs s.toks us → g ds L R → wpAny (model X.prog X.w) X.A (call f us) (EG X c pins env H R) X.xe s
end
theorem thn2 {α : Type} {t : Sem α} {Q Q' : α → Shared → Prop} {M : Model} {A : Around} {E : Value → Shared → Prop} {s : Shared} (h : wpAny M A t Q E s) (k : ∀ a s', s.toks ≤ s'.toks → Q a s' → Q' a s') : wpAny M A t Q' E s :=
  wpAny_mono (PySem.wpAny_toks h) (fun a s' z => k a s' z.1 z.2) fun _ _ z => z.2
section
variable {X : Cx} {c : AC X.K} {pins : List (Addr × Obj)} {env : En} {L : Store} {H H1 : Hp} {s : Shared} {R : AQ} {e f g : Expr} {a b : ATE} {as : ATA} {es : List Expr} {pos : Pos} {t u' : ATT} {x : Str} {p : Pos}
theorem EG.fr {u : Value} (h : EG X c pins env H1 R u s) (k : AL.Fr c H H1) : EG X c pins env H R u s := by
  obtain ⟨d, v, H', L', S, f, r⟩ := h
  exact ⟨d, v, H', L', S, k.trans f, r⟩
theorem TGd.fr {R : Bool → Store → Prop} {b : Bool} (h : TGd X c pins env H1 R b s) (k : AL.Fr c H H1) : TGd X c pins env H R b s := by
  obtain ⟨H', L', S, f, r⟩ := h
  exact ⟨H', L', S, k.trans f, r⟩
theorem SG.eg {d : D} {v : V} {u : Value} (S : SG X c pins env L H s) (r : Rep c H d v) (q : RelV v u) (g : GdV s.toks u) (h : R d L) : EG X c pins env H R u s := ⟨d, v, H, L, S, .refl c H, r, q, g, h⟩
theorem xv (i : Nat) {x : Str} (hN : X.N[i]? = some x := by rfl) (hk : X.env.kindOf x = some .local := by rfl) (hd : (x == ("__debug__" : Str)) = false := by decide) : XE X c (.Name x pos) (aVar i) := by
  intro pins s env L H R S h
  unfold aVar at h
  split at h
  · rename_i d e1
    obtain ⟨m, hn, hf⟩ := S.fr
    obtain ⟨y, v, u, h1, h2, h3, h4, h5⟩ := hf i d e1
    rw [hN] at h1
    cases h1
    exact wpAny_Name (wpAny_loadName_local S.inv.ok.kind hk hn h2 (S.eg h4 h3 h5 h)) hd
  · exact h.elim
theorem x_int {i : Int} {j} : XE X c (.Constant (.int i) j pos) (aC (.int i)) := fun _ _ _ _ _ _ S h => wpAny_Constant_int ((S.tok (Nat.le_succ _)).eg (rep_int.mpr rfl) ⟨_, rfl⟩ gd_int h)
theorem x_str {x : Str} {j} : XE X c (.Constant (.str x) j pos) (aC (.str x)) := fun _ _ _ _ _ _ S h => Calls.Constant_str ((S.tok (Nat.le_succ _)).eg (rep_str.mpr rfl) ⟨_, rfl⟩ (gd_new S.tk (Nat.lt_succ_self _)) h)
theorem x_bin {k : Value → Value → Sem Value} {k' : D → D → Store → AQ → Prop} {Q : Value → Shared → Prop} (h : XOp X c k k') (ha : XE X c e a) (hb : XE X c f b) (S : SG X c pins env L H s) (q : aOp k' a b env L R) (fin : ∀ u s', EG X c pins env H R u s' → Q u s') :
    wpAny (model X.prog X.w) X.A (eval e X.env) (fun v s₁ => wpAny (model X.prog X.w) X.A (eval f X.env) (fun u s₂ => wpAny (model X.prog X.w) X.A (k v u) Q X.xe s₂) X.xe s₁) X.xe s := by
  refine thn2 (ha _ _ _ _ _ _ S q) fun v s1 _ ⟨d, x, H1, L1, S1, f1, r1, v1, g1, q1⟩ => ?_
  refine thn2 (hb _ _ _ _ _ _ S1 q1) fun u s2 ht ⟨e2, y, H2, L2, S2, f2, r2, v2, g2, q2⟩ => ?_
  exact thn (h _ _ _ _ _ _ d e2 x y v u S2 (r1.fr f2) v1 (g1.mono ht) r2 v2 g2 q2) fun w s3 z => fin w s3 (z.fr (f1.trans f2))
theorem x_op {op : Operator} {k' : D → D → Store → AQ → Prop} (h : XOp X c (binaryOp op) k') (ha : XE X c e a) (hb : XE X c f b) : XE X c (.BinOp e op f pos) (aOp k' a b) := fun _ _ _ _ _ _ S q => wpAny_BinOp (x_bin h ha hb S q fun _ _ z => z)
theorem xt_cmp {op : CmpOp} {k' : D → D → Store → AQ → Prop} (h : XOp X c (compareOp op) k') (ha : XE X c e a) (hb : XE X c f b) (hm : behindInMarks op f = false) : XT X c (.Compare e [op] [f] pos) (aBl (aOp k' a b)) := by
  intro pins s env L H R S q
  refine wpAny_isTrue_Compare1 (x_bin h ha hb S q fun w s3 ⟨d, v, H', L', S', f', r', v', _, z⟩ => ?_) hm
  obtain ⟨k, rfl, z⟩ := bl_low (R := fun b => R b L') r' z
  cases v'
  exact wpAny_truthy_bool ⟨H', L', S', f', z⟩
theorem xa_nil : XA X c [] aNil := fun _ _ _ _ _ _ _ S h => Calls.spliced_nil ⟨[], [], _, _, S, .refl c _, RepL.nil, .nil, .nil, h⟩
theorem xa_cons (ha : XE X c e a) (hr : XA X c es as) (hs : starEach (e :: es) X.env = (false, eval e X.env) :: starEach es X.env := by rfl) : XA X c (e :: es) (aCons a as) := by
  intro pos pins s env L H R S h
  rw [hs]
  refine Calls.spliced_cons (x := eval e X.env) (rest := backTo pos (starEach es X.env)) (thn (ha _ _ _ _ _ _ S h) fun v s1 ⟨d, x, H1, L1, S1, f1, r1, v1, g1, q1⟩ => ?_)
  exact thn2 (hr pos _ _ _ _ _ _ S1 q1) fun us s2 ht ⟨ds, vs, H2, L2, S2, f2, r2, v2, g2, q2⟩ => ⟨d :: ds, x :: vs, H2, L2, S2, f1.trans f2, RepL.cons (r1.fr f2) r2, .cons v1 v2, .cons (g1.mono ht) g2, q2⟩
theorem x_lst (h : XA X c es as) : XE X c (.List es pos) (aLst as) := by
  intro pins s env L H R S q
  refine wpAny_List_spliced (thn (h pos _ _ _ _ _ _ S q) fun us s1 ⟨ds, vs, H1, L1, S1, f1, r1, v1, g1, hz, q1⟩ => ⟨by rw [← v1.length, r1.len]; exact hz, ?_⟩)
  have hn : H1 s1.heap.objs.size = none := S1.inv.hok.fresh (Nat.le_refl _)
  exact ⟨_, _, _, _, S1.lay (t' := s1.toks) (fun b o e => Heap.get?_push_of_some _ e) (Nat.le_refl _) (Nat.le_refl _) (by rw [r1.len]; exact hz) v1 (Heap.get?_push_size _ rfl) g1 r1, f1.trans (.new hn), rep_ref.mpr rfl, rfl, gd_ref, q1 _ (S1.good.fresh hn)⟩
theorem x_if (hc : XT X c e t) (ha : XE X c f a) (hb : XE X c g b) : XE X c (.IfExp e f g pos) (aIf t a b) := by
  intro pins s env L H R S h
  refine wpAny_IfExp (thn (hc _ _ _ _ _ _ S h) fun k s1 ⟨H1, L1, S1, f1, q1⟩ => ?_)
  cases k with
  | true => exact thn (ha _ _ _ _ _ _ S1 q1) fun _ _ z => z.fr f1
  | false => exact thn (hb _ _ _ _ _ _ S1 q1) fun _ _ z => z.fr f1
theorem XW.pt (h : XW X c e t) : XT X c e t := h _
theorem xt_via (h : XT X c e t) : XT X c e (atVia t) := fun _ _ _ _ _ _ S ⟨N, h1, h2⟩ => thn (h _ _ _ _ _ _ S h1) fun b _ ⟨H', L', S', f', q⟩ => ⟨H', L', S', f', h2 b L' q⟩
theorem xw_and1 (ha : XT X c e t) : XW X c (.BoolOp .And [e] pos) t := by
  intro wh pins s env L H R S h
  refine isTrue_and (thn (ha _ _ _ _ _ _ S h) fun k s1 z => ?_)
  cases k with
  | true => exact isTrue_and_nil z
  | false => exact z
theorem xw_and (ha : XT X c e t) (hb : XW X c (.BoolOp .And (f :: es) pos) u') : XW X c (.BoolOp .And (e :: f :: es) pos) (aAnd t u') := by
  intro wh pins s env L H R S h
  refine isTrue_and (thn (ha _ _ _ _ _ _ S h) fun k s1 ⟨H1, L1, S1, f1, q1⟩ => ?_)
  cases k with
  | true => exact thn (hb wh _ _ _ _ _ _ S1 q1) fun _ _ z => z.fr f1
  | false => exact ⟨H1, L1, S1, f1, q1⟩
end
def addI : D → D → Store → AQ → Prop
  | .int i, .int j, L, Q => Q (.int (i + j)) L
  | _, _, _, _ => False
def subI : D → D → Store → AQ → Prop
  | .int i, .int j, L, Q => Q (.int (i - j)) L
  | _, _, _, _ => False
def cmI (p : Int → Int → Bool) : D → D → Store → AQ → Prop
  | .int i, .int j, L, Q => Q (.bl (p i j)) L
  | _, _, _, _ => False
def catL : D → D → Store → AQ → Prop
  | .ref p, .ref q, L, Q => ∃ xs ys, L p = some (.lst xs) ∧ L q = some (.lst ys) ∧ xs.length + ys.length ≤ sizeLine ∧ ∀ r, L r = none → Q (.ref r) (sput L r (.lst (xs ++ ys)))
  | _, _, _, _ => False
def eqK (neg : Bool) : D → D → Store → AQ → Prop
  | .int i, .int j, L, Q => Q (.bl (neg ^^ decide (i = j))) L
  | .str i, .str j, L, Q => Q (.bl (neg ^^ decide (i = j))) L
  | _, _, _, _ => False
def inS : D → D → Store → AQ → Prop
  | .str a, .str b, L, Q => Q (.bl (false ^^ !(Builtin.Str.occurrences b a 0 b.length 1).isEmpty)) L
  | _, _, _, _ => False
def neQ (l m : List D) (L : Store) (Q : AQ) : Prop := m = [] ∧ Q (.bl (true ^^ (l.length == 0))) L
def neNil : D → D → Store → AQ → Prop
  | .ref p, .ref q, L, Q => ∃ l m, L p = some (.lst l) ∧ L q = some (.lst m) ∧ neQ l m L Q
  | _, _, _, _ => False
theorem neK_nil {l : List D} {L : Store} {Q : AQ} (_h : depDL l ≤ 70) (q : Q (.bl (true ^^ (l.length == 0))) L) : neQ l [] L Q := ⟨rfl, q⟩
section
variable {X : Cx} {c : AC X.K}
theorem xo_add : XOp X c (binaryOp .Add) addI := by
  intro pins s env L H R d e x y v u S r1 v1 g1 r2 v2 g2 h
  unfold addI at h
  split at h
  · cases rep_int.mp r1
    cases rep_int.mp r2
    obtain ⟨_, rfl⟩ := v1
    obtain ⟨_, rfl⟩ := v2
    exact add_int ((S.tok (Nat.le_succ _)).eg (rep_int.mpr rfl) ⟨_, rfl⟩ gd_int h)
  · exact h.elim
theorem xo_sub : XOp X c (binaryOp .Sub) subI := by
  intro pins s env L H R d e x y v u S r1 v1 g1 r2 v2 g2 h
  unfold subI at h
  split at h
  · cases rep_int.mp r1
    cases rep_int.mp r2
    obtain ⟨_, rfl⟩ := v1
    obtain ⟨_, rfl⟩ := v2
    exact sub_int ((S.tok (Nat.le_succ _)).eg (rep_int.mpr rfl) ⟨_, rfl⟩ gd_int h)
  · exact h.elim
theorem xo_cm {op : CmpOp} {p : Int → Int → Bool} (rule : ∀ (i j : Int) (t u : Tok) (Q : Value → Shared → Prop) (s : Shared), Q (.bool (p i j)) s → wpAny (model X.prog X.w) X.A (compareOp op (.int i t) (.int j u)) Q X.xe s) : XOp X c (compareOp op) (cmI p) := by
  intro pins s env L H R d e x y v u S r1 v1 g1 r2 v2 g2 h
  unfold cmI at h
  split at h
  · cases rep_int.mp r1
    cases rep_int.mp r2
    obtain ⟨_, rfl⟩ := v1
    obtain ⟨_, rfl⟩ := v2
    exact rule _ _ _ _ _ _ (S.eg (rep_bl.mpr rfl) rfl gd_bl h)
  · exact h.elim
theorem xo_lt : XOp X c (compareOp .Lt) (cmI fun i j => decide (i < j)) := xo_cm fun _ _ _ _ _ _ h => lt_int h
theorem xo_le : XOp X c (compareOp .LtE) (cmI fun i j => decide (i ≤ j)) := xo_cm fun _ _ _ _ _ _ h => le_int h
theorem xo_gt : XOp X c (compareOp .Gt) (cmI fun i j => decide (j < i)) := xo_cm fun _ _ _ _ _ _ h => gt_int h
theorem xo_eq : XOp X c (compareOp .Eq) (eqK false) := by
  intro pins s env L H R d e x y v u S r1 v1 g1 r2 v2 g2 h
  unfold eqK at h
  split at h
  · rename_i i j
    cases rep_int.mp r1
    cases rep_int.mp r2
    obtain ⟨_, rfl⟩ := v1
    obtain ⟨_, rfl⟩ := v2
    rw [Bool.false_xor] at h
    exact eq_int (by rw [Bool.beq_eq_decide_eq]; exact S.eg (rep_bl.mpr rfl) rfl gd_bl h)
  · rename_i i j
    cases rep_str.mp r1
    cases rep_str.mp r2
    obtain ⟨_, rfl⟩ := v1
    obtain ⟨_, rfl⟩ := v2
    rw [Bool.false_xor] at h
    refine PyProof.Rows.eq_str ?_
    rw [Bool.beq_eq_decide_eq]
    exact S.eg (rep_bl.mpr rfl) rfl gd_bl h
  · exact h.elim
theorem xo_in : XOp X c (compareOp .In) inS := by
  intro pins s env L H R d e x y v u S r1 v1 g1 r2 v2 g2 h
  unfold inS at h
  split at h
  · cases rep_str.mp r1
    cases rep_str.mp r2
    obtain ⟨_, rfl⟩ := v1
    obtain ⟨_, rfl⟩ := v2
    rw [Bool.false_xor] at h
    exact PyProof.Rows.in_str (S.eg (rep_bl.mpr rfl) rfl gd_bl h)
  · exact h.elim
theorem xo_neNil (hu : X.A.units + 64 < cLine) : XOp X c (compareOp .NotEq) neNil := by
  intro pins s env L H R d e x y v u S r1 v1 g1 r2 v2 g2 h
  unfold neNil at h
  split at h
  · rename_i p q
    obtain ⟨l, m, h1, h2, rfl, h⟩ := h
    have el : (true ^^ (l.length == 0)) = !l.isEmpty := by cases l <;> simp
    rw [el] at h
    cases rep_ref.mp r1
    cases rep_ref.mp r2
    cases v1
    cases v2
    obtain ⟨vs, its, n, a1, a2, a3, a4, a5, a6⟩ := S.list h1
    obtain ⟨ws, jts, k, b1, b2, b3, b4, b5, b6⟩ := S.list h2
    cases repL_nil.mp b2
    cases b3
    cases l with
    | nil =>
      cases repL_nil.mp a2
      obtain ⟨as, r1⟩ := Dp.reads S.inv (.list []) (.ref p) (.ref p) (.lst (SqL.of a1) .nil) rfl
      obtain ⟨bs, r2⟩ := Dp.reads S.inv (.list []) (.ref q) (.ref q) (.lst (SqL.of b1) .nil) rfl
      exact SeqAt.compareNe_shaped r1 r2 (by decide +kernel) (by decide +kernel) hu (S.eg (rep_bl.mpr rfl) rfl gd_bl h)
    | cons d ds =>
      have hl := a3.length
      rw [a2.len] at hl
      exact SeqAt.RcNeAt.lists_lengths ⟨_, a5, rfl, n, rfl⟩ ⟨_, b5, rfl, k, rfl⟩ (by rw [List.size_toArray, ← hl]; simp) (by omega) _ _ _ _ (S.eg (rep_bl.mpr rfl) rfl gd_bl h)
  · exact h.elim
theorem xo_cat : XOp X c (binaryOp .Add) catL := by
  intro pins s env L H R d e x y v u S r1 v1 g1 r2 v2 g2 h
  unfold catL at h
  split at h
  · rename_i p q
    obtain ⟨xs, ys, h1, h2, hz, h⟩ := h
    cases rep_ref.mp r1
    cases rep_ref.mp r2
    cases v1
    cases v2
    obtain ⟨vs, its, n, a1, a2, a3, a4, a5, a6⟩ := S.list h1
    obtain ⟨ws, jts, k, b1, b2, b3, b4, b5, b6⟩ := S.list h2
    have l1 := a3.length
    have l2 := b3.length
    rw [a2.len] at l1
    rw [b2.len] at l2
    refine PySem.P.add_list a5 b5 ?_ (by rw [List.size_toArray, List.size_toArray]; omega)
    have hn : H s.heap.objs.size = none := S.inv.hok.fresh (Nat.le_refl _)
    have ea : its.toArray ++ jts.toArray = (its ++ jts).toArray := by simp
    rw [ea]
    exact ⟨_, _, _, _, S.lay (t' := s.toks) (its := its ++ jts) (fun b o e => Heap.get?_push_of_some _ e) (Nat.le_refl _) (Nat.le_refl _) (by rw [List.length_append, a2.len, b2.len]; exact hz) (a3.append b3) (Heap.get?_push_size _ rfl) (a6.app b6) (a2.app b2), .new hn, rep_ref.mpr rfl, rfl, gd_ref, h _ (S.good.fresh hn)⟩
  · exact h.elim
end
end GK
namespace GK
open PySem PySem.Spec PyProof.Rows L2 LamX JW AL
section
variable {X : Cx} {c : AC X.K} {e f g o : Expr} {a b : ATE} {as : ATA} {es : List Expr} {pos apos cpos p p2 : Pos} {x name : Str} {id : String}
def ixL : D → D → Store → AQ → Prop
  | .ref p, .int i, L, Q => ∃ l d, L p = some (.lst l) ∧ atI l i = some d ∧ Q d L
  | _, _, _, _ => False
theorem x_ix (ha : XE X c e a) (hb : XE X c f b) (hs : PlainIx f) : XE X c (.Subscript e f pos) (aOp ixL a b) := by
  intro pins s env L H R S q
  refine Subscript_ (thn2 (ha _ _ _ _ _ _ S q) fun v s1 _ ⟨d, x, H1, L1, S1, f1, r1, v1, g1, q1⟩ => thn2 (hb _ _ _ _ _ _ S1 q1) fun u s2 ht ⟨e2, y, H2, L2, S2, f2, r2, v2, g2, q2⟩ => ?_)
  have q2 : ixL d e2 L2 R := q2
  cases d with
  | ref p =>
   cases e2 with
   | int i =>
    obtain ⟨l, d, h1, h2, h⟩ := q2
    cases rep_ref.mp r1
    cases rep_int.mp r2
    cases v1
    obtain ⟨t, rfl⟩ := v2
    obtain ⟨vs, its, n, a1, a2, a3, a4, a5, a6⟩ := S2.list h1
    obtain ⟨v, ev, rv⟩ := atI_low a2 h2
    obtain ⟨j, j1, j2, j3, j4, j5⟩ := atI_get ev
    obtain ⟨w, ew, rw'⟩ := a3.get j2
    have hl := a3.length
    have hn := line63
    have il : s2.heap.IsList p its.toArray := ⟨_, a5, rfl, n, rfl⟩
    have fin : EG X c pins env H R w s2 := (S2.eg rv rw' (a6 w (List.mem_of_getElem? ew)) h).fr (f1.trans f2)
    by_cases h0 : 0 ≤ i
    · have hj : i.toNat = j := by
        rw [seqIndex_of h0 j5] at j1
        exact Option.some.inj j1
      exact item_listR il h0 (by omega) (by rw [hj]; simpa using ew) fin (hs _ _)
    · have hj : (i + (its.toArray.size : Int)).toNat = j := by
        rw [seqIndex_neg (by omega) j4] at j1
        rw [List.size_toArray, ← hl]
        exact Option.some.inj j1
      exact subscriptTail_builtinR (x := w) il.typeIs slot_list_getitem.lookup
        (wpAny_getItem_list_neg (Q := fun r s' => r = w ∧ EG X c pins env H R r s') il (by omega) (by rw [List.size_toArray] <;> omega) (by omega) (by rw [hj]; simpa using ew) ⟨rfl, fin⟩) (hs _ _)
   | _ => exact q2.elim
  | _ => exact q2.elim
def XO (X : Cx) (c : AC X.K) (e : Option Expr) (t : ATO) : Prop := ∀ pins s env L H R, SG X c pins env L H s → t env L R → wpAny (model X.prog X.w) X.A (evalPart e X.env) (fun u s' => ∃ o H' L', SG X c pins env L' H' s' ∧ AL.Fr c H H' ∧ IsPart u o ∧ R o L') X.xe s
theorem xo_none : XO X c none aoNone := by
  intro pins s env L H R S h
  rw [evalPart_none]
  exact wpAny_pure ⟨none, H, L, S, .refl c H, .none, h⟩
theorem xo_some (h : XE X c e a) : XO X c (some e) (aoSome a) := by
  intro pins s env L H R S q
  rw [evalPart_some]
  refine thn (h _ _ _ _ _ _ S q) fun u s1 ⟨d, x, H1, L1, S1, f1, r1, v1, _, q1⟩ => ?_
  obtain ⟨k, rfl, q1⟩ := int_low (R := fun i => R (some i) L1) r1 q1
  obtain ⟨t, rfl⟩ := v1
  exact ⟨some k, H1, L1, S1, f1, .int k t, q1⟩
def slL : D → Option Int → Option Int → Store → AQ → Prop
  | .ref p, lo, hi, L, Q => ∃ l, L p = some (.lst l) ∧ ∀ q, L q = none → Q (.ref q) (sput L q (.lst (cutD l lo hi)))
  | _, _, _, _, _ => False
def xSl (a : ATE) (lo hi : ATO) : ATE := fun env L Q => a env L fun d L1 => lo env L1 fun l L2 => hi env L2 fun h L3 => slL d l h L3 Q
theorem x_sl {lo hi : Option Expr} {tl th : ATO} (he : XE X c e a) (hl : XO X c lo tl) (hu : XO X c hi th) : XE X c (.Subscript e (.Slice lo hi none p2) pos) (xSl a tl th) := by
  intro pins s env L H R S q
  refine Subscript_ (thn (he _ _ _ _ _ _ S q) fun v s1 ⟨d, x, H1, L1, S1, f1, r1, v1, _, q1⟩ => ?_)
  refine wpAny_Slice (thn (hl _ _ _ _ _ _ S1 q1) fun vl s2 ⟨l, H2, L2, S2, f2, pl, q2⟩ => thn (hu _ _ _ _ _ _ S2 q2) fun vu s3 ⟨u, H3, L3, S3, f3, pu, q3⟩ => ?_)
  rw [evalPart_none]
  refine wpAny_pure ?_
  have S4 : SG X c pins env L3 H3 { s3 with heap := s3.heap.push { cls := .type "slice", data := .fields #[vl, vu, .none] } } := S3.kept (t' := s3.toks) (fun b ob q => Heap.get?_push_of_some _ q) (Nat.le_refl _)
  have hsl := Heap.IsSliceOf.new s3.heap vl vu .none
  generalize hs4 : ({ s3 with heap := s3.heap.push { cls := .type "slice", data := .fields #[vl, vu, .none] } } : Shared) = s4 at S4
  have hsl : s4.heap.IsSliceOf s3.heap.objs.size vl vu .none := by rw [← hs4]; exact hsl
  have q3 : slL d l u L3 R := q3
  cases d with
  | ref p =>
    obtain ⟨ds, h1, h⟩ := q3
    cases rep_ref.mp r1
    cases v1
    obtain ⟨vs, its, n, a1, a2, a3, a4, a5, a6⟩ := S4.list h1
    have hlen := a3.length
    have il : s4.heap.IsList p its.toArray := ⟨_, a5, rfl, n, rfl⟩
    have hz : vs.length ≤ 16777216 := by rw [sizeLine_eq] at a4; exact a4
    show wpAny (model X.prog X.w) X.A (subscriptTail e (.Slice lo hi none p2) (.ref p) (.ref s3.heap.objs.size)) (EG X c pins env H R) X.xe s4
    refine tail_any (ops := [.ref s3.heap.objs.size, .ref p]) il.typeIs slot_list_getitem.lookup (wpAny_getItem_list_slice il hsl pl pu .none (by simp) ?_ (by rw [List.size_toArray]; omega)) (by with_unfolding_all rfl)
    rw [slicePick_cut, ← hlen]
    have hn : H3 s4.heap.objs.size = none := S4.inv.hok.fresh (Nat.le_refl _)
    have hk := S4.lay (t' := s4.toks) (vs := cutV vs l u) (its := (its.drop (HT.sIx vs.length 0 l)).take (HT.sIx vs.length vs.length u - HT.sIx vs.length 0 l)) (n := 0) (ds := cutD ds l u) (fun b ob q => Heap.get?_push_of_some _ q) (Nat.le_refl _) (Nat.le_refl _) (Nat.le_trans (cutV_length vs l u) a4) ((a3.drop _).take _) (Heap.get?_push_size _ rfl) (fun w hw => a6 w (List.mem_of_mem_drop (List.mem_of_mem_take hw))) (cut_low a2)
    exact ⟨_, _, _, _, hk, ((f1.trans f2).trans f3).trans (.new hn), rep_ref.mpr rfl, rfl, gd_ref, h _ (S4.good.fresh hn)⟩
  | _ => exact q3.elim
theorem x_b {f : List D → Store → AQ → Prop} (hc : XCb X c (.builtin id) f) (hg : Gl X x) (hm : X.mg x = none) (hv : bootBuiltins x = some (.builtin id)) (ha : XA X c (e :: es) as) (hn : x ≠ "__name__" := by decide) (hdb : (x == ("__debug__" : Str)) = false := by decide)
    (he : starEach (e :: es) X.env = (false, eval e X.env) :: starEach es X.env := by rfl) (hpl : (backTo pos (starEach es X.env)).any (·.1) = false := by rfl) : XE X c (.Call (.Name x p) (e :: es) [] pos) (aB f as) := by
  intro pins s env L H R S h
  refine wpAny_Call_Name_kw (ld_blt S.inv hg hm hv ?_ hn hdb)
  exact PyProof.Rows.callWith_builtin1 (thn (ha pos _ _ _ _ _ _ S h) fun us s1 ⟨ds, vs, H1, L1, S1, f1, r1, v1, g1, q1⟩ => thn (hc _ _ _ _ _ _ ds vs us S1 r1 v1 g1 q1) fun _ _ z => z.fr f1) he hpl
theorem vals_one {v : V} {us : List Value} (r : Vals [v] us) : ∃ u, us = [u] ∧ RelV v u := by
  cases r with
  | cons p q =>
    cases q
    exact ⟨_, rfl, p⟩
theorem vals_two {v w : V} {us : List Value} (r : Vals [v, w] us) : ∃ u u', us = [u, u'] ∧ RelV v u ∧ RelV w u' := by
  cases r with
  | cons p q =>
    obtain ⟨u', rfl, q'⟩ := vals_one q
    exact ⟨_, u', rfl, p, q'⟩
def lenL : List D → Store → AQ → Prop
  | [.ref p], L, Q => ∃ l, L p = some (.lst l) ∧ Q (.int l.length) L
  | _, _, _ => False
def minI : List D → Store → AQ → Prop
  | [.int i, .int j], L, Q => Q (.int (if j < i then j else i)) L
  | _, _, _ => False
def maxI : List D → Store → AQ → Prop
  | [.int i, .int j], L, Q => Q (.int (if j > i then j else i)) L
  | _, _, _ => False
def sortedL : List D → Store → AQ → Prop
  | [.ref p], L, Q => (∃ ss : List Str, L p = some (.lst (ss.map D.str)) ∧ ss.length < 64 ∧ ∀ (ys : List Str) (r : Addr), ys.Perm ss → sortedS ys = true → L r = none → Q (.ref r) (sput L r (.lst (ys.map D.str)))) ∨ False
  | _, _, _ => False
theorem xb_len : XCb X c (.builtin "len") lenL := by
  intro pins s env L H R ds vs us S r v g h
  unfold lenL at h
  split at h
  · obtain ⟨l, h1, h⟩ := h
    obtain ⟨w, rfl, r1⟩ := repL_one r
    cases rep_ref.mp r1
    obtain ⟨u, rfl, rv⟩ := vals_one v
    cases rv
    obtain ⟨ws, its, n, a1, a2, a3, a4, a5, a6⟩ := S.list h1
    have hlen := a3.length
    have hl := line63
    rw [a2.len] at hlen
    refine Calls.call_len_list (items := its.toArray) ⟨_, a5, rfl, n, rfl⟩ (by rw [List.size_toArray, ← hlen]; rw [a2.len] at a4; omega) ?_
    rw [List.size_toArray, ← hlen]
    exact (S.tok (t' := s.toks + 1 + 1) (by omega)).eg (rep_int.mpr rfl) ⟨_, rfl⟩ gd_int h
  · exact h.elim
theorem xb_min (hc : X.calm = true) : XCb X c (.builtin "min") minI := by
  intro pins s env L H R ds vs us S r v g h
  unfold minI at h
  split at h
  · rename_i i j
    obtain ⟨w, w', rfl, r1, r2⟩ := repL_two r
    cases rep_int.mp r1
    cases rep_int.mp r2
    obtain ⟨u, u', rfl, ⟨t, rfl⟩, ⟨t', rfl⟩⟩ := vals_two v
    refine thn2 (Q := fun u s' => ∃ h' tk, s' = { s with heap := h', toks := tk } ∧ (∀ b o, s.heap.get? b = some o → h'.get? b = some o) ∧ u = if j < i then .int j t' else .int i t) (min_two_ints (S.inv.ok.hd hc) fun h' tk k => ⟨h', tk, rfl, k, rfl⟩) fun u s' ht ⟨h', tk, e1, k, e2⟩ => ?_
    subst e1 e2
    have S' := S.kept (t' := tk) k ht
    by_cases hj : j < i
    · rw [if_pos hj] at h ⊢; exact S'.eg (rep_int.mpr rfl) ⟨_, rfl⟩ gd_int h
    · rw [if_neg hj] at h ⊢; exact S'.eg (rep_int.mpr rfl) ⟨_, rfl⟩ gd_int h
  · exact h.elim
theorem xb_max (hc : X.calm = true) : XCb X c (.builtin "max") maxI := by
  intro pins s env L H R ds vs us S r v g h
  unfold maxI at h
  split at h
  · rename_i i j
    obtain ⟨w, w', rfl, r1, r2⟩ := repL_two r
    cases rep_int.mp r1
    cases rep_int.mp r2
    obtain ⟨u, u', rfl, ⟨t, rfl⟩, ⟨t', rfl⟩⟩ := vals_two v
    refine thn2 (Q := fun u s' => ∃ h' tk, s' = { s with heap := h', toks := tk } ∧ (∀ b o, s.heap.get? b = some o → h'.get? b = some o) ∧ u = if j > i then .int j t' else .int i t) (max_two_ints (S.inv.ok.hd hc) fun h' tk k => ⟨h', tk, rfl, k, rfl⟩) fun u s' ht ⟨h', tk, e1, k, e2⟩ => ?_
    subst e1 e2
    have S' := S.kept (t' := tk) k ht
    by_cases hj : j > i
    · rw [if_pos hj] at h ⊢; exact S'.eg (rep_int.mpr rfl) ⟨_, rfl⟩ gd_int h
    · rw [if_neg hj] at h ⊢; exact S'.eg (rep_int.mpr rfl) ⟨_, rfl⟩ gd_int h
  · exact h.elim
theorem xb_sorted : XCb X c (.builtin "sorted") sortedL := by
  intro pins s env L H R ds vs us S r v g h
  unfold sortedL at h
  split at h
  · rcases h with ⟨ss, h1, h64, h⟩ | h
    · obtain ⟨w, rfl, r1⟩ := repL_one r
      cases rep_ref.mp r1
      obtain ⟨u, rfl, rv⟩ := vals_one v
      cases rv
      obtain ⟨ws, its, n, a1, a2, a3, a4, a5, a6⟩ := S.list h1
      cases RepL.strs.mp a2
      have hS : StrsAre its ss := strs_of_vals a3
      have hlen := a3.length
      rw [List.length_map] at hlen
      refine sortedK strKind_oneLt (vs := its) ⟨_, a5, rfl, n, rfl⟩ hS.keysOf (fun v₁ v₂ rest e => keyKind_strs (by rw [← e]; exact hS)) (by omega) fun st' hp hs => ?_
      obtain ⟨ys, y1, y2, y3⟩ := sorted_out_str hS hp hs
      obtain ⟨ep, he⟩ := PyProof.Rows.sortedAll_at s.heap its ((arrOf st').map (·.2))
      have hl2 : (ys.map V.str).length ≤ sizeLine := by rw [List.length_map, y2.length_eq]; exact small64 h64
      have hn : H (s.heap.objs.size + 1) = none := S.inv.hok.fresh (Nat.le_succ _)
      have hk := S.lay (t' := s.toks) (ds := ys.map D.str) (fun _ _ => PyProof.Rows.sortedAll_old) (Nat.le_refl _) (Nat.le_succ _) hl2 (vals_of_strs y1) he (fun w hw => ?_) (RepL.strs.mpr rfl)
      · exact ⟨_, _, _, _, hk, .new hn, rep_ref.mpr rfl, rfl, gd_ref, h ys _ y2 y3 (S.good.fresh hn)⟩
      · obtain ⟨q, hq, rfl⟩ := List.mem_map.mp (by simpa using hw : w ∈ (arrOf st').toList.map (·.2))
        have hm := (Array.perm_iff_toList_perm.mp hp).mem_iff.mp hq
        rw [pairsOf_toList] at hm
        exact a6 _ (List.of_mem_zip (a := q.1) (b := q.2) hm).2
    · exact h.elim
  · exact h.elim
end
end GK
namespace GK
open PySem PySem.Spec PyProof.Rows L2 LamX JW AL
section
variable (X : Cx) (c : AC X.K)
def XMt (id : String) (g : D → List D → Store → AQ → Prop) : Prop := ∀ pins s env L H R d x v ds vs us, SG X c pins env L H s → Rep c H d x → RelV x v → GdV s.toks v → RepL c H ds vs → Vals vs us → GdVs s.toks us → g d ds L R → wpAny (model X.prog X.w) X.A (call (.builtin id) (v :: us)) (EG X c pins env H R) X.xe s
def ENG (pins : List (Addr × Obj)) (env : En) (H : Hp) (R : AQ) (u : Value) (s' : Shared) : Prop := ∃ d v H' L', SG X c pins env L' H' s' ∧ AL.Fr c H H' ∧ Rep c H' d v ∧ RelV v u ∧ R d L'
def XN (e : Expr) (a : ATE) : Prop := ∀ pins s env L H R, SG X c pins env L H s → a env L R → wpAny (model X.prog X.w) X.A (eval e X.env) (ENG X c pins env H R) X.xe s
end
section
variable {X : Cx} {c : AC X.K} {e f g o : Expr} {a b : ATE} {as : ATA} {es : List Expr} {pos apos cpos p p2 : Pos} {x name : Str} {id : String} {k' : D → List D → Store → AQ → Prop}
theorem x_ml (pa : PlainAttrs "list") (slot : Slot "list" name id) (hty : typeOf (.builtin id) = pure (.type "method_descriptor")) (hm : XMt X c id k') (ho : XE X c o a) (ha : XA X c (e :: es) as)
    (hbase : attributeBase o name X.env (eval o X.env) = eval o X.env := by rfl)
    (hfew : ((backTo cpos (starEach (e :: es) X.env)).all (fun x => !x.1) && (backToKw cpos (keywordEach [] X.env)).all (fun x => x.1.isSome)
      && decide ((e :: es).length + ([] : List Keyword).length + (if ([] : List Keyword).isEmpty then 0 else 1) < 30)) = true := by rfl)
    (hline : (apos.endLine == cpos.line) = true := by rfl) (hs : starEach (e :: es) X.env = (false, eval e X.env) :: starEach es X.env := by rfl) (hplain : (backTo cpos (starEach es X.env)).any (·.1) = false := by rfl) :
    XE X c (.Call (.Attribute o name apos) (e :: es) [] cpos) (aMl k' a as) := by
  intro pins s env L H R S q
  refine wpAny_Call_method_late hbase hfew hline rfl (thn2 (ho _ _ _ _ _ _ S q) fun v s1 _ ⟨d, x, H1, L1, S1, f1, r1, v1, g1, hl, q1⟩ => ?_)
  obtain ⟨h1, h2⟩ := tyV_is S1.inv v1 (ty_lst r1 S1.good hl)
  refine ⟨"list", id, pa, slot, hty, h1, h2, ?_⟩
  have hA := ha cpos _ _ _ _ _ _ S1 q1
  rw [hs] at hA ⊢
  refine Calls.callWith_builtin (by show (false || (backTo cpos (starEach es X.env)).any (·.1)) = false; rw [hplain] <;> rfl) (Calls.evalArgs_plain ?_)
  exact thn2 hA fun us s2 ht ⟨ds, vs, H2, L2, S2, f2, r2, v2, g2, q2⟩ => thn (hm _ _ _ _ _ _ d x v ds vs us S2 (r1.fr f2) v1 (g1.mono ht) r2 v2 g2 q2) fun _ _ z => z.fr (f1.trans f2)
theorem x_ml0 (pa : PlainAttrs "list") (slot : Slot "list" name id) (hty : typeOf (.builtin id) = pure (.type "method_descriptor")) (hm : XMt X c id k') (ho : XE X c o a)
    (hbase : attributeBase o name X.env (eval o X.env) = eval o X.env := by rfl) (hline : (apos.endLine == cpos.line) = true := by rfl) : XE X c (.Call (.Attribute o name apos) [] [] cpos) (aMl k' a aNil) := by
  intro pins s env L H R S q
  refine wpAny_Call_method0_late hbase hline (thn (ho _ _ _ _ _ _ S q) fun v s1 ⟨d, x, H1, L1, S1, f1, r1, v1, g1, hl, q1⟩ => ?_)
  obtain ⟨h1, h2⟩ := tyV_is S1.inv v1 (ty_lst r1 S1.good hl)
  exact ⟨"list", id, pa, slot, hty, h1, h2, Calls.callWith_builtin rfl (PySem.evalArgs_none (thn (hm _ _ _ _ _ _ d x v [] [] [] S1 r1 v1 g1 .nil .nil .nil q1) fun _ _ z => z.fr f1))⟩
theorem xm_append : XMt X c "list.append" appendD := by
  intro pins s env L H R d x v ds vs us S r1 v1 g1 r2 v2 g2 h
  unfold appendD at h
  split at h
  · rename_i l e
    obtain ⟨xs, h1, hz, h⟩ := h
    cases rep_ref.mp r1
    cases v1
    obtain ⟨y, rfl, ry⟩ := repL_one r2
    obtain ⟨u, rfl, vu⟩ := vals_one v2
    obtain ⟨ws, its, n, a1, a2, a3, a4, a5, a6⟩ := S.list h1
    have hlen := a3.length
    rw [a2.len] at hlen
    have hsl := sizeLine_eq
    refine call_meets F.slot_list_append ⟨_, a5, rfl⟩ F.entry_list_append (F.args_list_append_2 _ _) (PySem.list_append l its.toArray n u (by rw [List.size_toArray]; omega)) ⟨a5, ?_⟩
    have hF : AL.Fr c H (upd H l (.lst (ws ++ [y]))) := .put a1 fun z => z
    exact ⟨.non, .non, _, _, S.put (t' := s.toks) (its' := its ++ [u]) a1 h1 a5 (by simp) (a3.append (.cons vu .nil)) (by rw [List.length_append, List.length_singleton, a2.len]; omega) (Nat.le_refl _) (a6.app g2) (a2.app (.one ry)), hF, rep_non.mpr rfl, rfl, gd_non, h⟩
  · exact h.elim
theorem xm_pop : XMt X c "list.pop" popD := by
  intro pins s env L H R d x v ds vs us S r1 v1 g1 r2 v2 g2 h
  unfold popD at h
  split at h
  · rename_i l
    obtain ⟨xs, e, h1, he, h⟩ := h
    cases rep_ref.mp r1
    cases v1
    cases repL_nil.mp r2
    cases v2
    obtain ⟨ws, its, n, a1, a2, a3, a4, a5, a6⟩ := S.list h1
    have hlen := a3.length
    obtain ⟨y, ey, ry⟩ := a2.get he
    rw [← a2.len] at ey
    obtain ⟨u, eu, vu⟩ := a3.get ey
    have hsl := sizeLine_eq
    have eu' : its.toArray[its.toArray.size - 1]? = some u := by
      show its.toArray[its.length - 1]? = some u
      rw [← Array.getElem?_toList, ← hlen]
      exact eu
    refine call_meets F.slot_list_pop ⟨_, a5, rfl⟩ F.entry_list_pop (F.args_list_pop_1 _) (MeetsSeq.list_pop_last l its.toArray n u eu' (by rw [List.size_toArray]; omega)) ⟨a5, ?_⟩
    have hF : AL.Fr c H (upd H l (.lst ws.dropLast)) := .put a1 fun z => z
    have hd : RepL c H xs.dropLast ws.dropLast := by
      rw [List.dropLast_eq_take, List.dropLast_eq_take, a2.len]
      exact a2.take _
    refine ⟨e, y, _, _, S.put (t' := s.toks) (its' := its.dropLast) a1 h1 a5 ?_ a3.dropLast (by rw [List.length_dropLast]; omega) (Nat.le_refl _) (fun w hw => a6 w (List.dropLast_subset _ hw)) hd, hF, ry.fr hF, vu, a6 u (List.mem_of_getElem? eu), h⟩
    show its.toArray.eraseIdxIfInBounds (its.toArray.size - 1) = its.dropLast.toArray
    rw [List.size_toArray, List.eraseIdxIfInBounds_toArray, PyProof.Rows.Copied.eraseIdx_last]
  · exact h.elim
def joinL : D → List D → Store → AQ → Prop
  | .str z, [.ref p], L, Q => ∃ ys : List Str, L p = some (.lst (ys.map D.str)) ∧ (ys.map (·.length)).sum + ys.length * z.length ≤ 16777216 ∧ Q (.str (Txt.join z ys)) L
  | _, _, _, _ => False
def addS : D → D → Store → AQ → Prop
  | .str a, .str b, L, Q => a.length + b.length ≤ sizeLine ∧ Q (.str (a ++ b)) L
  | _, _, _, _ => False
theorem xn_join (ho : XE X c o a) (he : XE X c e b) (hs : starEach [e] X.env = [(false, eval e X.env)] := by rfl) (hbase : attributeBase o "join" X.env (eval o X.env) = eval o X.env := by rfl) (hline : (apos.endLine == pos.line) = true := by rfl) :
    XN X c (.Call (.Attribute o "join" apos) [e] [] pos) (aMs joinL a (aCons b aNil)) := by
  intro pins s env L H R S q
  refine PySem.Call_method1 hbase hs hline (thn (ho _ _ _ _ _ _ S q) fun v s1 ⟨d, x, H1, L1, S1, f1, r1, v1, g1, hz, q1⟩ => ?_)
  obtain ⟨z, rfl⟩ := hz
  cases rep_str.mp r1
  obtain ⟨t, rfl⟩ := v1
  refine ⟨"str", _, F.plainAttrs_str, PySem.F.slot_str_join, PySem.F.type_str_join, typeIs_str _ _ _, (fun _ e => nomatch e), Calls.callWith_builtin rfl (Calls.evalArgs_plain (Calls.spliced_cons ?_))⟩
  refine thn (he _ _ _ _ _ _ S1 q1) fun u s2 ⟨d2, y, H2, L2, S2, f2, r2, v2, g2, q2⟩ => Calls.spliced_nil ?_
  cases d2 with
  | ref p =>
    obtain ⟨ys, h1, hz, h⟩ := q2
    cases rep_ref.mp r2
    cases v2
    obtain ⟨ws, its, n, a1, a2, a3, a4, a5, a6⟩ := S2.list h1
    cases RepL.strs.mp a2
    refine thn2 (Q := fun u s' => ∃ t' k, u = .str (Txt.join z ys) t' ∧ s' = { s2 with toks := k }) (PyProof.Rows.join_list (items := its.toArray) ⟨_, a5, rfl, n, rfl⟩ (by rw [List.toList_toArray]; exact strs_of_vals a3) hz fun t' k => ⟨t', k, rfl, rfl⟩) fun u s3 ht ⟨t', k, e1, e2⟩ => ?_
    subst e1 e2
    exact ⟨_, _, H2, L2, S2.tok ht, f1.trans f2, rep_str.mpr rfl, ⟨t', rfl⟩, h⟩
  | _ => exact q2.elim
theorem x_wrap {c0 d0 : Str} {j0 j1 : Nat} {p0 p1 p3 : Pos} (hc : c0.length ≠ 0) (hd : d0.length ≠ 0) (hj : XN X c e a) : XE X c (.BinOp (.BinOp (.Constant (.str c0) j0 p0) .Add e p1) .Add (.Constant (.str d0) j1 p2) p3) (aOp addS (aOp addS (aC (.str c0)) a) (aC (.str d0))) := by
  intro pins s env L H R S q
  refine wpAny_BinOp (wpAny_BinOp (Calls.Constant_str (thn2 (hj _ _ _ _ _ _ (S.tok (Nat.le_succ _)) q) fun v s1 ht ⟨d, x, H1, L1, S1, f1, r1, v1, q1⟩ => ?_)))
  cases d with
  | str z =>
    obtain ⟨hz, q1⟩ := q1
    obtain ⟨hz2, q1⟩ := q1
    cases rep_str.mp r1
    obtain ⟨t, rfl⟩ := v1
    have hc' : (c0.length == 0) = false := by simpa using hc
    have hd' : (d0.length == 0) = false := by simpa using hd
    have hcz : ((c0 ++ z).length == 0) = false := by
      rw [Str.length_append]
      simp
      omega
    -- the second sum
    have fin : ∀ (s2 : Shared) (t2 : Tok), SG X c pins env L1 H1 s2 → wpAny (model X.prog X.w) X.A (eval (.Constant (.str d0) j1 p2) X.env) (fun u s₂ => wpAny (model X.prog X.w) X.A (binaryOp .Add (.str (c0 ++ z) t2) u) (EG X c pins env H R) X.xe s₂) X.xe s2 := fun s2 t2 S2 => by
      refine Calls.Constant_str (PySem.P.add_str ?_)
      rw [hcz, hd']
      have S3 := S2.tok (t' := s2.toks + 1 + 1) (by omega)
      exact ⟨by rw [Str.length_append]; exact hz2, (S3.eg (rep_str.mpr rfl) ⟨_, rfl⟩ (gd_new (Nat.le_succ_of_le S2.tk) (Nat.lt_succ_self _)) q1).fr f1⟩
    refine PySem.P.add_str ?_
    rw [hc']
    by_cases hz0 : (z.length == 0) = true
    · have e0 : c0 ++ z = c0 := Str.append_right_empty hz0
      rw [if_neg Bool.false_ne_true, if_pos hz0]
      rw [e0] at fin
      exact fin s1 _ S1
    · rw [if_neg Bool.false_ne_true, if_neg hz0]
      exact ⟨by rw [Str.length_append]; exact hz, fin _ _ (S1.tok (Nat.le_succ _))⟩
  | _ => exact q1.elim
end
end GK
namespace GK
open PySem PySem.Spec PyProof.Rows L2 LamX JW AL
def Zc {K : PySem.W.Frag} (c : AC K) (a : Addr) : Prop := ∃ ns, c.scr = some (a, ns)
def Hd {K : PySem.W.Frag} (c : AC K) (H : Hp) (a : Addr) : Prop := (∃ xs, H a = some (.lst xs)) ∧ ¬ Zc c a
open Classical in
noncomputable def hid {K : PySem.W.Frag} (c : AC K) (H : Hp) : Hp := fun a => if Hd c H a then none else H a
open Classical in
noncomputable def res {K : PySem.W.Frag} (c : AC K) (H H1 : Hp) : Hp := fun a => if Hd c H a then H a else hid c H1 a
open Classical in
noncomputable def resD {K : PySem.W.Frag} (c : AC K) (H H1 : Hp) : Hp := fun a => if Hd c H a then H a else H1 a
def hidS (L : Store) : Store := fun p => match L p with
  | some (.lst _) => none
  | some (.lsq _) => none
  | m => m
section
variable {K : PySem.W.Frag} {c : AC K} {H H1 : Hp} {a : Addr} {o : HO}
theorem hid_of (h : H a = some o) (n : ¬ Hd c H a) : hid c H a = some o := by
  unfold hid
  rw [if_neg n]
  exact h
theorem hid_nl (h : H a = some o) (n : ∀ xs, o ≠ .lst xs) : hid c H a = some o := hid_of h fun ⟨⟨xs, e⟩, _⟩ => by
  rw [h] at e
  cases e
  exact n xs rfl
theorem hid_at (h : hid c H a = some o) : H a = some o ∧ ¬ Hd c H a := by
  unfold hid at h
  split at h
  · cases h
  · rename_i z
    exact ⟨h, z⟩
theorem hid_none (h : H a = none) : hid c H a = none := by
  unfold hid
  split
  · rfl
  · exact h
theorem hid_hd (h : Hd c H a) : hid c H a = none := by
  unfold hid
  rw [if_pos h]
theorem res_hd (h : Hd c H a) : res c H H1 a = H a := by
  unfold res
  rw [if_pos h]
theorem res_nh (h : ¬ Hd c H a) : res c H H1 a = hid c H1 a := by
  unfold res
  rw [if_neg h]
theorem resD_hd (h : Hd c H a) : resD c H H1 a = H a := by
  unfold resD
  rw [if_pos h]
theorem resD_nh (h : ¬ Hd c H a) : resD c H H1 a = H1 a := by
  unfold resD
  rw [if_neg h]
theorem hidS_at {L : Store} {p : Addr} {m : MO} (h : hidS L p = some m) : L p = some m ∧ ∀ l, m ≠ .lst l := by
  unfold hidS at h
  split at h
  · cases h
  · cases h
  · rename_i z _
    exact ⟨h, fun xs e => z xs (by rw [h, e])⟩
theorem hidS_nq {L : Store} {p : Addr} {m : MO} (h : hidS L p = some m) : ∀ P, m ≠ .lsq P := by
  unfold hidS at h
  split at h
  · cases h
  · cases h
  · rename_i _ z
    exact fun xs e => z xs (by rw [h, e])
theorem hidS_of {L : Store} {p : Addr} {m : MO} (h : L p = some m) (n : ∀ l, m ≠ .lst l) (n2 : ∀ P, m ≠ .lsq P) : hidS L p = some m := by
  unfold hidS
  rw [h]
  cases m with
  | lst xs => exact absurd rfl (n xs)
  | lsq P => exact absurd rfl (n2 P)
  | _ => rfl
theorem hidS_none {L : Store} {p : Addr} (h : L p = none) : hidS L p = none := by
  unfold hidS
  rw [h]
end
section
variable {K : PySem.W.Frag} {c : AC K} {H H1 : Hp} {L : Store}
theorem imm_nl {o : HO} (h : Imm c o) : ∀ xs, o ≠ .lst xs := fun xs e => by
  subst e
  exact h
theorem fr_hid : AL.Fr c H (hid c H) := fun a o h i => hid_nl h (imm_nl i)
theorem good_hid (g : Good c L H) : Good c (hidS L) (hid c H) := by
  refine ⟨fun q hq => ?_, fun p m e => ?_, fun a ns e => ?_⟩
  · obtain ⟨ps, h1, h2, h3⟩ := g.tabs q hq
    refine ⟨ps, hid_nl h1 (fun _ z => nomatch z), h2, fun pos cv hc => ?_⟩
    obtain ⟨k, e1, e2⟩ := h3 pos cv hc
    exact ⟨k, e1, hid_nl e2 (fun _ z => nomatch z)⟩
  · obtain ⟨e1, n1⟩ := hidS_at e
    have r := g.st p m e1
    cases m with
    | lst l => exact absurd rfl (n1 l)
    | lsq P => exact absurd rfl (hidS_nq e P)
    | dct l => obtain ⟨vs, e2, k, rs⟩ := r; exact ⟨vs, hid_nl e2 (fun _ z => nomatch z), k, rs.fr fr_hid⟩
    | ins C ks ds => obtain ⟨dx, vs, e2, n, k, rs⟩ := r; exact ⟨dx, vs, hid_nl e2 (fun _ z => nomatch z), n, k, rs.fr fr_hid⟩
    | opq P =>
      obtain ⟨o, e2, hp, r1, r2, r3, r4⟩ := r
      exact ⟨o, hid_nl e2 (fun xs z => r4.1 xs (by rw [← z]; exact hp)), hp, r1, r2, r3, r4⟩
  · refine ⟨(g.scr a ns e).1, ?_⟩
    rcases (g.scr a ns e).2 with ⟨h1, h2⟩ | ⟨o, h⟩ | h
    · exact .inl ⟨hid_of h1 fun z => z.2 ⟨ns, e⟩, hidS_none h2⟩
    · exact .inr (.inl ⟨o, hid_nl h (fun _ z => nomatch z)⟩)
    · exact .inr (.inr h)
theorem rep_nstr {d : D} {v : V} (r : Rep c H d v) (h : ∀ z, d ≠ .str z) : ∀ x, v ≠ .str x := fun x e => by
  subst e
  cases d with
  | str z => exact h z rfl
  | non => exact nomatch rep_non.mp r
  | bl b => exact nomatch rep_bl.mp r
  | int i => exact nomatch rep_int.mp r
  | ref p => exact nomatch rep_ref.mp r
  | ty n => exact nomatch rep_ty.mp r
  | scr => obtain ⟨_, _, _, z⟩ := rep_scr.mp r; exact nomatch z
  | tree t => obtain ⟨a, dx, b, n, vs, z, _⟩ := ftn_iff.mp (rep_tree.mp r); exact nomatch z
  | tup l => obtain ⟨_, _, z, _⟩ := rep_tup.mp r; exact nomatch z
  | obj C ks ds => obtain ⟨_, _, _, z, _⟩ := rep_obj.mp r; exact nomatch z
  | err C ks ds => obtain ⟨_, _, z, _⟩ := rep_err.mp r; exact nomatch z
  | imm P => obtain ⟨_, z, _⟩ := rep_imm.mp r; exact nomatch z
end
section
variable {P : Program} {w : World} {K : PySem.W.Frag} {c : AC K} {L : Store} {H H1 : Hp} {h h' : Heap} {fs : List Addr}
theorem hd_there (hok : HOk P w H h) (hfs : ∀ b ∈ fs, H b = none) (U : Un fs [] (hid c H) H1 h h') {a : Addr} (z : Hd c H a) : ∃ o, h.get? a = some o ∧ H1 a = none ∧ h'.get? a = some o := by
  obtain ⟨⟨xs, e⟩, _⟩ := id z
  obtain ⟨_, its, n, r, e2⟩ := hok a _ e
  refine ⟨_, e2, U.free a _ e2 (hid_hd z) (by simp), U.keep a _ e2 (hid_hd z) (fun hm => ?_) (by simp)⟩
  rw [hfs a hm] at e
  cases e
theorem not_hd (hok : HOk P w H h) (hfs : ∀ b ∈ fs, H b = none) (U : Un fs [] (hid c H) H1 h h') {a : Addr} {o : HO} (e : H1 a = some o) : ¬ Hd c H a := fun z => by
  obtain ⟨_, _, z1, _⟩ := hd_there hok hfs U z
  rw [z1] at e
  cases e
structure Back (c : AC K) (H H1 H' : Hp) : Prop where
  hd : ∀ a, Hd c H a → H' a = H a
  nl : ∀ a o, H1 a = some o → (∀ xs, o ≠ .lst xs) → H' a = some o
  at_ : ∀ a o, H' a = some o → (Hd c H a ∧ H a = some o) ∨ (¬ Hd c H a ∧ H1 a = some o)
  scr : ∀ a, Zc c a → H' a = H1 a
theorem back_res (hok : HOk P w H h) (hfs : ∀ b ∈ fs, H b = none) (U : Un fs [] (hid c H) H1 h h') : Back c H H1 (res c H H1) := by
  refine ⟨fun a z => res_hd z, fun a o e n => by rw [res_nh (not_hd hok hfs U e)]; exact hid_nl e n, fun a o e => ?_, fun a z => ?_⟩
  · by_cases q : Hd c H a
    · rw [res_hd q] at e
      exact .inl ⟨q, e⟩
    · rw [res_nh q] at e
      exact .inr ⟨q, (hid_at e).1⟩
  · rw [res_nh fun q => q.2 z]
    unfold hid
    rw [if_neg fun q => q.2 z]
theorem back_resD (hok : HOk P w H h) (hfs : ∀ b ∈ fs, H b = none) (U : Un fs [] (hid c H) H1 h h') : Back c H H1 (resD c H H1) := by
  refine ⟨fun a z => resD_hd z, fun a o e n => by rw [resD_nh (not_hd hok hfs U e)]; exact e, fun a o e => ?_, fun a z => resD_nh fun q => q.2 z⟩
  by_cases q : Hd c H a
  · rw [resD_hd q] at e
    exact .inl ⟨q, e⟩
  · rw [resD_nh q] at e
    exact .inr ⟨q, e⟩
theorem gd_scr {n : Nat} {p : Addr} {xs : List V} {o : Obj} {its : Array Value} {k : Nat} (g : Good c L H) (hok : HOk P w H h) (hK : ∀ a o, K.lookup a = some o → H a = none) (hz : Zc c p) (e1 : H p = some (.lst xs)) (e2 : h.get? p = some o) (e3 : o.data = .seq its k) : GdVs n its.toList := by
  obtain ⟨ns, hz⟩ := hz
  rcases (g.scr p ns hz).2 with ⟨k1, _⟩ | ⟨o', k1⟩ | ⟨o', its', n', k1, _⟩
  · obtain ⟨_, us, n', r, e4⟩ := hok p _ k1
    rw [e4] at e2
    cases e2
    cases e3
    intro u hu
    obtain ⟨j, hj⟩ := List.mem_iff_getElem?.mp hu
    have hj' : us[j]? = some u := by simpa using hj
    obtain ⟨hlt, _⟩ := List.getElem?_eq_some_iff.mp hj'
    have hl := r.length
    have hjn : j < (ns.map V.int).length := by omega
    obtain ⟨u', e9, r9⟩ := r.get (List.getElem?_eq_getElem hjn)
    rw [hj'] at e9
    cases e9
    rw [List.getElem_map] at r9
    exact gd_rel r9 fun _ z => nomatch z
  · rw [k1] at e1
    cases e1
  · rw [hK _ _ k1] at e1
    cases e1
variable {H' : Hp}
theorem Back.fr1 (B : Back c H H1 H') : AL.Fr c H1 H' := fun a o e i => B.nl a o e (imm_nl i)
theorem Back.un (B : Back c H H1 H') (U : Un fs [] (hid c H) H1 h h') : Un fs [] H H' h h' := by
  refine ⟨fun b o e n hb hx => U.keep b o e (hid_none n) hb hx, fun b o e n hb hx => U.slot b o e (hid_none n) hb hx, fun b o e n hx => ?_, U.there, fun b xs e => ?_, fun b o u e => ?_, fun b ps e => ?_⟩
  · cases e2 : H' b with
    | none => rfl
    | some v =>
      rcases B.at_ b v e2 with ⟨_, z⟩ | ⟨_, z⟩
      · rw [n] at z
        cases z
      · rw [U.free b o e (hid_none n) hx] at z
        cases z
  · exact B.nl _ _ (U.tups b xs (hid_nl e (fun _ z => nomatch z))) (fun _ z => nomatch z)
  · exact B.nl _ _ (U.frzs b o u (hid_nl e (fun _ z => nomatch z))) (fun _ z => nomatch z)
  · obtain ⟨more, e1⟩ := U.tbls b ps (hid_nl e (fun _ z => nomatch z))
    exact ⟨more, B.nl _ _ e1 (fun _ z => nomatch z)⟩
theorem Back.hok (B : Back c H H1 H') (hok : HOk P w H h) (hfs : ∀ b ∈ fs, H b = none) (U : Un fs [] (hid c H) H1 h h') (hk : HOk P w H1 h') : HOk P w H' h' := fun a o e => by
  rcases B.at_ a o e with ⟨z, e1⟩ | ⟨_, e1⟩
  · obtain ⟨⟨xs, e2⟩, _⟩ := id z
    rw [e1] at e2
    cases e2
    obtain ⟨zz, its, n, r, e3⟩ := hok a _ e1
    obtain ⟨o, e4, _, e5⟩ := hd_there hok hfs U z
    rw [e3] at e4
    cases e4
    exact ⟨zz, its, n, r, e5⟩
  · exact (hk a o e1).stay (fun _ _ _ q => q) (fun b q => B.nl _ _ q (fun _ z => nomatch z)) fun b xs q => B.nl _ _ q (fun _ z => nomatch z)
theorem Back.good (B : Back c H H1 H') (hK : ∀ a o, K.lookup a = some o → H a = none) (g0 : Good c L H) (f : AL.Fr c (hid c H) H1) (g : Good c (hidS L) H1) : Good c L H' := by
  have f1 : AL.Fr c H H' := fr_hid.trans (f.trans B.fr1)
  refine ⟨fun q hq => ?_, fun p m e => ?_, fun a ns e => ?_⟩
  · obtain ⟨ps, h1, h2, h3⟩ := g.tabs q hq
    refine ⟨ps, B.nl _ _ h1 (fun _ z => nomatch z), h2, fun pos cv hc => ?_⟩
    obtain ⟨k, e1, e2⟩ := h3 pos cv hc
    exact ⟨k, e1, B.nl _ _ e2 (fun _ z => nomatch z)⟩
  · cases m with
    | lst l =>
      obtain ⟨vs, e1, rs⟩ := good_lst g0 e
      have hz : Hd c H p := ⟨⟨vs, e1⟩, fun ⟨ns, z⟩ => by
        rcases (g0.scr p ns z).2 with ⟨_, h2⟩ | ⟨o, h2⟩ | ⟨o, its, n, h2, _⟩
        · rw [e] at h2
          cases h2
        · rw [e1] at h2
          cases h2
        · rw [hK _ _ h2] at e1
          cases e1⟩
      exact ⟨vs, (B.hd p hz).trans e1, rs.fr f1⟩
    | lsq P =>
      obtain ⟨vs, l, e1, rs, q⟩ := g0.st p _ e
      have hz : Hd c H p := ⟨⟨vs, e1⟩, fun ⟨ns, z⟩ => by
        rcases (g0.scr p ns z).2 with ⟨_, h2⟩ | ⟨o, h2⟩ | ⟨o, its, n, h2, _⟩
        · rw [e] at h2
          cases h2
        · rw [e1] at h2
          cases h2
        · rw [hK _ _ h2] at e1
          cases e1⟩
      exact ⟨vs, l, (B.hd p hz).trans e1, rs.fr f1, q⟩
    | dct l => obtain ⟨vs, e2, k, rs⟩ := g.st p _ (hidS_of e (fun _ z => nomatch z) (fun _ z => nomatch z)); exact ⟨vs, B.nl _ _ e2 (fun _ z => nomatch z), k, rs.fr B.fr1⟩
    | ins C ks ds => obtain ⟨dx, vs, e2, n, k, rs⟩ := g.st p _ (hidS_of e (fun _ z => nomatch z) (fun _ z => nomatch z)); exact ⟨dx, vs, B.nl _ _ e2 (fun _ z => nomatch z), n, k, rs.fr B.fr1⟩
    | opq Q =>
      obtain ⟨o, e2, hp, r1, r2, r3, r4⟩ := g.st p _ (hidS_of e (fun _ z => nomatch z) (fun _ z => nomatch z))
      exact ⟨o, B.nl _ _ e2 (fun xs z => r4.1 xs (by rw [← z]; exact hp)), hp, r1, r2, r3, r4⟩
  · refine ⟨(g0.scr a ns e).1, ?_⟩
    have hs := B.scr a ⟨ns, e⟩
    rcases (g0.scr a ns e).2 with ⟨h1, h2⟩ | ⟨o, h1⟩ | h1
    · rcases (g.scr a ns e).2 with ⟨k1, _⟩ | ⟨o, k1⟩ | k1
      · exact .inl ⟨hs.trans k1, h2⟩
      · exact .inr (.inl ⟨o, hs.trans k1⟩)
      · exact .inr (.inr k1)
    · exact .inr (.inl ⟨o, f1 a _ h1 trivial⟩)
    · exact .inr (.inr h1)
end
section
variable {X : Cx} {c : AC X.K} {pins : List (Addr × Obj)} {env : En} {L : Store} {H H1 : Hp} {s s' : Shared}
theorem inv_K {σ : L2.St} (I : Inv X pins σ H s) : ∀ a o, X.K.lookup a = some o → H a = none := fun a o e => (I.bs a o (I.ok.mod.kin a o e)).2
theorem SG.back (S : SG X c pins env L H s) (ho : s'.os = s.os) (hb : AllBare s'.gens) (U : Un (frs X.stack) [] (hid c H) H1 s.heap s'.heap) (hk : HOk X.prog X.w H1 s'.heap) (f : AL.Fr c (hid c H) H1) (g : Good c (hidS L) H1) (ht : s.toks ≤ s'.toks) :
    SG X c pins env L (res c H H1) s' ∧ AL.Fr c H (res c H H1) ∧ AL.Fr c H1 (res c H H1) := by
  have hok := S.inv.hok
  have hfs := S.inv.stkFree
  have B := back_res hok hfs U
  have f1 : AL.Fr c H (res c H H1) := fr_hid.trans (f.trans B.fr1)
  have U' := B.un U
  have hk' := B.hok hok hfs U hk
  have g' := B.good (inv_K S.inv) S.good f g
  have I' : Inv X pins (noSt X) (res c H H1) s' := S.inv.call' ho U' hk' hb fun b z => absurd z (by simp)
  refine ⟨S.to I' (fun m hm => ?_) ht f1 g' (fun p xs o its k e1 e2 e3 => ?_), f1, B.fr1⟩
  · obtain ⟨o, es, ep, h1, h2⟩ := hm
    obtain ⟨sl, e⟩ := U'.any h1 S.inv.free (by simp)
    exact ⟨_, es, ep, e, h2⟩
  · rcases B.at_ p _ e1 with ⟨z, e5⟩ | ⟨z, e5⟩
    · obtain ⟨o', e6, _, e7⟩ := hd_there hok hfs U z
      rw [e7] at e2
      cases e2
      exact (S.lst p xs o its k e5 e6 e3).mono ht
    · -- the script
      have hz : Zc c p := by
        by_cases q : Zc c p
        · exact q
        · have e1' := e1
          rw [res_nh z] at e1'
          obtain ⟨e8, n8⟩ := hid_at e1'
          exact absurd ⟨⟨xs, e8⟩, q⟩ n8
      exact gd_scr g' hk' (inv_K I') hz e1 e2 e3
def Quiet (asp : ASp) : Prop := ∀ ds L R, asp ds L R anyX → asp ds (hidS L) (fun d L' => L' = hidS L ∧ (∀ z, d ≠ .str z) ∧ R d L) anyX
section
variable {e : Expr} {es : List Expr} {as : ATA} {x : Str} {p pos : Pos} {k : Nat} {ps : List Str} {asp : ASp}
theorem env0_hid {P : Program} {w : World} {K : PySem.W.Frag} {mg : Str → Option Value} {base : Heap} {A : Around} {outer : List Env} {c : AC K} {H : Hp} {s : Shared} (e0 : Env0 P w K mg base A outer s H) : Env0 P w K mg base A outer s (hid c H) :=
  ⟨e0.frames, e0.mod, fun b o z => ⟨(e0.bs b o z).1, hid_none (e0.bs b o z).2⟩, e0.bsz, e0.funs, fun b z => hid_none (e0.frf b z), fun a o z =>
    (e0.hok a o (hid_at z).1).stay (fun _ _ _ q => q) (fun b q => hid_nl q (fun _ z => nomatch z)) fun b xs q => hid_nl q (fun _ z => nomatch z), e0.bare⟩
theorem x_call (C : CallD X.prog X.w X.K X.mg X.base CX0 k x ps [] (spA c asp)) (hq : Quiet asp) (hr : Room k X.A) (hg : Gl X x) (ha : XA X c (e :: es) as) (hdb : (x == ("__debug__" : Str)) = false := by decide)
    (he : starEach (e :: es) X.env = (false, eval e X.env) :: starEach es X.env := by rfl) (hpl : (backTo pos (starEach es X.env)).any (·.1) = false := by rfl) : XE X c (.Call (.Name x p) (e :: es) [] pos) (aCall asp as) := by
  obtain ⟨f, fd, dv, h1, h2, h3, h4, F⟩ := C.ex
  cases h4
  intro pins s env L H R S q
  refine wpAny_Call_Name_kw (ld_glob S.inv hg h1 ?_ hdb)
  refine PySem.W.callWith_K (h₀ := X.base) S.inv.ok.mod.kin h2 (thn (ha pos _ _ _ _ _ _ S q) fun us s1 ⟨ds, vs, H1, L1, S1, f1, r1, v1, g1, q1⟩ => ⟨S1.inv.kIn, ?_⟩) he hpl
  have hsp : spA c asp vs (hid c H1) (fun v H2 => ∃ d, AL.Fr c (hid c H1) H2 ∧ Good c (hidS L1) H2 ∧ Rep c H2 d v ∧ (∀ z, d ≠ .str z) ∧ R d L1) (fun _ _ _ => True) :=
    ⟨ds, hidS L1, _, anyX, r1.fr fr_hid, good_hid S1.good, hq ds L1 R q1, fun d L' v H' ⟨e1, e2, e3⟩ f' g' r' => by subst e1; exact ⟨d, f', g', r', e2, e3⟩, px_any⟩
  have hl : (us ++ ([] : List Value)).length = ps.length := by
    rw [List.append_nil, ← v1.length]
    exact F.len _ _ _ _ hsp
  have hb := h3 s1 us S1.inv.kIn hl
  rw [List.append_nil] at hb
  refine wpAny_call (codeAny_with_toks (Nat.le_refl _) (codeAny_mono (F.run X.A X.stack s1 (hid c H1) ⟨us, []⟩ us vs _ _ hr (env0_hid S1.inv.env0) hb v1 hsp) fun r s2 hq2 => ?_))
  intro ht
  cases r with
  | error e => exact False.elim hq2
  | ok fl =>
    cases fl with
    | ret u =>
      obtain ⟨v, H2, os, bare, U, hk, rv, d, f2, g2, r2, n2, q2⟩ := hq2
      obtain ⟨S2, f3, f4⟩ := S1.back os bare U hk f2 g2 ht
      exact ⟨d, v, _, L1, S2, f1.trans f3, r2.fr f4, rv, gd_rel rv (rep_nstr r2 n2), q2⟩
    | next => exact False.elim hq2
    | brk => exact False.elim hq2
    | cont => exact False.elim hq2
end
end
end GK
namespace GK
open PySem PySem.Spec PyProof.Rows L2 LamX JW AL
section
variable (X : Cx) (c : AC X.K)
def SGd (pins : List (Addr × Obj)) (H : Hp) (D : AEnds) (f : Flow) (s' : Shared) : Prop :=
  match f with
  | .next => ∃ env' H' L', SG X c pins env' L' H' s' ∧ AL.Fr c H H' ∧ D.nx env' L'
  | .brk => ∃ env' H' L', SG X c pins env' L' H' s' ∧ AL.Fr c H H' ∧ D.bk env' L'
  | .cont => ∃ env' H' L', SG X c pins env' L' H' s' ∧ AL.Fr c H H' ∧ D.ct env' L'
  | .ret u => ∃ env' d v H' L', SG X c pins env' L' H' s' ∧ AL.Fr c H H' ∧ Rep c H' d v ∧ RelV v u ∧ GdV s'.toks u ∧ D.rt d L'
def XS (st : Stmt) (t : ATS) : Prop := ∀ pins s env L H D, SG X c pins env L H s → t D env L → wpAny (model X.prog X.w) X.A (exec st X.env) (SGd X c pins H D) X.xe s
def XSs (st : List Stmt) (t : ATS) : Prop := ∀ pins s env L H D, SG X c pins env L H s → t D env L → wpAny (model X.prog X.w) X.A (execs st X.env) (SGd X c pins H D) X.xe s
end
section
variable {X : Cx} {c : AC X.K} {pins : List (Addr × Obj)} {env : En} {L : Store} {H H1 : Hp} {s : Shared} {DD : AEnds}
theorem SGd.fr {f : Flow} (h : SGd X c pins H1 DD f s) (k : AL.Fr c H H1) : SGd X c pins H DD f s := by
  cases f with
  | next => obtain ⟨a, b, d, S, f, r⟩ := h; exact ⟨a, b, d, S, k.trans f, r⟩
  | brk => obtain ⟨a, b, d, S, f, r⟩ := h; exact ⟨a, b, d, S, k.trans f, r⟩
  | cont => obtain ⟨a, b, d, S, f, r⟩ := h; exact ⟨a, b, d, S, k.trans f, r⟩
  | ret u => obtain ⟨a, b, v, d, e, S, f, r⟩ := h; exact ⟨a, b, v, d, e, S, k.trans f, r⟩
theorem noSt_get {i : Nat} {v : V} (h : (noSt X)[i]? = some (some v)) : False := by
  unfold noSt at h
  rw [List.getElem?_replicate] at h
  split at h <;> cases h
theorem SG.store {M : Model} {A : Around} {E : Value → Shared → Prop} {i : Nat} {x : Str} {d : D} {v : V} {u : Value} {Q : Unit → Shared → Prop} (S : SG X c pins env L H s) (hN : X.N.Nodup) (hi : X.N[i]? = some x) (hk : X.env.kindOf x = some .local) (r : Rep c H d v) (rv : RelV v u) (gd : GdV s.toks u)
    (fin : ∀ s', s.toks ≤ s'.toks → SG X c pins (env.set i (some d)) L H s' → Q () s') : wpAny M A (storeName X.env x u) Q E s := by
  obtain ⟨m, hn, hf⟩ := S.fr
  have I := S.inv
  have hcls : (X.env.scope.kind == .class || (X.env.scope.kind == .module && X.env.locals != X.env.globals)) = false := by
    rw [I.ok.kind]
    rfl
  refine wpAny_storeName_local hk hn (fun h' hn' hs => fin _ (Nat.le_succ _) ⟨?_, ⟨_, hn', fun j e hj => ?_⟩, by rw [List.length_set]; exact S.len, S.good, fun p xs o its k e1 e2 e3 => ?_, Nat.le_succ_of_le S.tk⟩) hcls
  · have old : ∀ b o, X.s_0.heap.get? b = some o → b ≠ X.env.locals := fun b o e => Nat.ne_of_lt (Nat.lt_of_lt_of_le (Heap.lt_size e) I.ok.above)
    have uh : ∀ b, b ≠ X.env.locals → h'.get? b = s.heap.get? b := hs.2
    constructor
    case ok => exact I.ok
    case os => exact I.os
    case bare => exact I.bare
    case base =>
      refine ⟨fun b o z1 z2 z3 z4 => ?_, fun b o z1 z2 z3 z4 => ?_, I.base.free, fun b o z1 z2 => ?_, I.base.tups, I.base.frzs, I.base.tbls⟩
      · show h'.get? b = _
        rw [uh b (old b o z1)]
        exact I.base.keep b o z1 z2 z3 z4
      · obtain ⟨sl, z⟩ := I.base.slot b o z1 z2 z3 z4
        refine ⟨sl, ?_⟩
        show h'.get? b = _
        rw [uh b (old b o z1)]
        exact z
      · obtain ⟨o', z⟩ := I.base.there b o z1 z2
        refine ⟨o', ?_⟩
        show h'.get? b = _
        rw [uh b (old b o z1)]
        exact z
    case loc => exact ⟨_, hn', fun j y w _ z _ => (noSt_get z).elim⟩
    case cell =>
      intro y a e
      obtain ⟨w, z⟩ := I.cell y a e
      exact ⟨w, z.sameBut hs (I.cne y a e)⟩
    case free => exact I.free
    case freeC => exact I.freeC
    case pin =>
      intro q hq
      obtain ⟨z1, z2, z3, z4⟩ := I.pin q hq
      exact ⟨(uh q.1 z3).trans z1, z2, z3, z4⟩
    case hok =>
      intro b o e
      refine (I.hok b o e).stay (fun a w z q => (uh a fun y => ?_).trans q) (fun _ q => q) fun _ _ q => q
      have hfree := I.free
      rw [← y] at hfree
      rcases z with z | z
      · rw [z, e] at hfree
        cases hfree
      · rw [hfree] at z
        cases z
    case len => exact I.len
  · by_cases hij : i = j
    · subst hij
      have lt : i < env.length := by
        rw [S.len]
        exact (List.getElem?_eq_some_iff.mp hi).1
      rw [List.getElem?_set_self lt] at hj
      cases hj
      exact ⟨x, v, u, hi, by simp, rv, r, gd.mono (Nat.le_succ _)⟩
    · rw [List.getElem?_set_ne hij] at hj
      obtain ⟨y, w, u', h1, h2, h3, h4, h5⟩ := hf j e hj
      have hne : y ≠ x := fun z => hij (nodup_ix hN hi (z ▸ h1))
      exact ⟨y, w, u', h1, by rw [if_neg hne]; exact h2, h3, h4, h5.mono (Nat.le_succ _)⟩
  · have hp : p ≠ X.env.locals := fun z => by
      rw [z, I.free] at e1
      cases e1
    have e2 : h'.get? p = some o := e2
    rw [hs.2 p hp] at e2
    exact (S.lst p xs o its k e1 e2 e3).mono (Nat.le_succ _)
end
section
variable {X : Cx} {c : AC X.K} {e f tg : Expr} {a b : ATE} {as : ATA} {pos : Pos} {t : ATT} {st : Stmt} {rest sts sts' : List Stmt} {s1 s2 : ATS}
theorem xss_nil : XSs X c [] aNext := fun _ _ _ _ _ _ S h => wpAny_execs_nil ⟨_, _, _, S, .refl c _, h⟩
theorem xss_cons (h1 : XS X c st s1) (h2 : XSs X c rest s2) : XSs X c (st :: rest) (aSeq s1 s2) := by
  intro pins s env L H D S h
  refine wpAny_execs_cons (thn (h1 _ _ _ _ _ { D with nx := s2 D } S h) fun f s3 q => ?_)
  cases f with
  | next => obtain ⟨env', H', L', S', f', q⟩ := q; exact thn (h2 _ _ _ _ _ D S' q) fun _ _ z => z.fr f'
  | ret v => exact q
  | brk => exact q
  | cont => exact q
theorem xss_one (h1 : XS X c st s1) : XSs X c [st] s1 := by
  intro pins s env L H D S h
  refine wpAny_execs_cons (thn (h1 _ _ _ _ _ D S h) fun f s3 q => ?_)
  cases f with
  | next => exact wpAny_execs_nil q
  | ret v => exact q
  | brk => exact q
  | cont => exact q
theorem xs_via (h : XS X c st s1) : XS X c st (asVia s1) := by
  intro pins s env L H D S ⟨N, q1, q2⟩
  refine thn (h _ _ _ _ _ { D with nx := N } S q1) fun f s3 q => ?_
  cases f with
  | next => obtain ⟨env', H', L', S', f', q⟩ := q; exact ⟨env', H', L', S', f', q2 _ _ q⟩
  | ret v => exact q
  | brk => exact q
  | cont => exact q
theorem xs_set {i : Nat} {x : Str} {pos' : Pos} (hN : X.N.Nodup) (hi : X.N[i]? = some x) (hk : X.env.kindOf x = some .local) (he : XE X c e a) (hs : swapsWith e (some (.Name x pos')) pos.line X.env = pure false := by rfl) : XS X c (.Assign [.Name x pos'] e pos) (aAsg a (agName i)) := by
  intro pins s env L H D S h
  refine wpAny_Assign_Name (thn (he _ _ _ _ _ _ S h) fun v s3 ⟨d, x, H1, L1, S1, f1, r1, v1, g1, q1⟩ => ?_) hs
  exact S1.store hN hi hk r1 v1 g1 fun s4 _ S4 => ⟨_, H1, L1, S4, f1, q1⟩
theorem xs_expr (he : XE X c e a) (hs : swapsWith e none pos.line X.env = pure false := by rfl) : XS X c (.Expr e pos) (aDrop a) := by
  intro pins s env L H D S h
  exact wpAny_Expr_any (thn (he _ _ _ _ _ _ S h) fun v s3 ⟨d, x, H1, L1, S1, f1, _, _, _, q1⟩ => ⟨env, H1, L1, S1, f1, q1⟩) S.inv.quiet hs
theorem xs_ret (he : XE X c e a) : XS X c (.Return (some e) pos) (aRet a) := by
  intro pins s env L H D S h
  exact wpAny_Return_some (thn (he _ _ _ _ _ _ S h) fun v s3 ⟨d, x, H1, L1, S1, f1, r1, v1, g1, q1⟩ => ⟨env, d, x, H1, L1, S1, f1, r1, v1, g1, q1⟩)
theorem xs_if (hc : XT X c e t) (ha : XSs X c sts s1) (hb : XSs X c sts' s2) : XS X c (.If e sts sts' pos) (aIfS t s1 s2) := by
  intro pins s env L H D S h
  refine wpAny_If (thn (hc _ _ _ _ _ _ S h) fun k s3 ⟨H1, L1, S1, f1, q1⟩ => ?_)
  cases k with
  | true => exact thn (ha _ _ _ _ _ D S1 q1) fun _ _ z => z.fr f1
  | false => exact thn (hb _ _ _ _ _ D S1 q1) fun _ _ z => z.fr f1
theorem xs_par {i j : Nat} {x y : Str} {px py pt : Pos} {kt k2 pt2} (hc : X.calm = true) (hN : X.N.Nodup) (hi : X.N[i]? = some x) (hj : X.N[j]? = some y) (hij : i ≠ j)
    (hx : X.env.kindOf x = some .local) (hy : X.env.kindOf y = some .local) (ha : XA X c [e, f] as)
    (hw : swappedStores [.Tuple [.Name x px, .Name y py] kt pt] (.Tuple [e, f] k2 pt2) X.env = pure (some [x, y]))
    (hs : swapsWithSole [.Tuple [.Name x px, .Name y py] kt pt] (.Tuple [e, f] k2 pt2) pos.line X.env = pure false := by rfl) :
    XS X c (.Assign [.Tuple [.Name x px, .Name y py] kt pt] (.Tuple [e, f] k2 pt2) pos) (aPar i j as) := by
  intro pins s env L H D S h
  rw [exec_Assign_arm]
  refine wpAny_bind (wpAny_standAt ?_)
  rw [hs]
  refine wpAny_bind (wpAny_pure ?_)
  rw [if_neg (by decide)]
  refine wpAny_bind (Tuple_ (thn (ha _ _ _ _ _ _ _ S h) fun us s3 ⟨ds, vs, H1, L1, S1, f1, r1, v1, g1, q1⟩ => ?_))
  match ds, q1, r1 with
  | [d1, d2], q1, r1 =>
    obtain ⟨v, w, rfl, ra, rb⟩ := repL_two r1
    obtain ⟨u1, u2, rfl, va, vb⟩ := vals_two v1
    have ga := g1 u1 (by simp)
    have gb := g1 u2 (by simp)
    refine wpAny_newObj_type ?_ (by show 2 ≤ sizeLine; decide)
    have S2 : SG X c pins env L1 H1 { s3 with heap := s3.heap.push { cls := .type "tuple", data := .seq [u1, u2].toArray } } := S1.kept (t' := s3.toks) (fun _ _ z => Heap.get?_push_of_some _ z) (Nat.le_refl _)
    rw [hw]
    refine wpAny_bind (wpAny_pure ?_)
    show wpAny (model X.prog X.w) X.A (do rule "assign.swapped-stores"; let its ← unpackItems (.ref s3.heap.objs.size) 2 none; assignInOrder [fun z => bindName X.env y z, fun z => bindName X.env x z] its.reverse; pure Flow.next) _ _ _
    refine wpAny_bind (wpAny_rule (wpAny_bind (unpackItems_tuple (items := #[u1, u2]) (S.inv.ok.hd hc) (IsTup.new s3.heap _) fun h' hx' => ?_)))
    have S3 := S2.kept (h' := h') (t' := s3.toks) (fun b o z => hx' b o (Nat.ne_of_lt (Heap.lt_size z)) z) (Nat.le_refl _)
    show wpAny _ _ (assignInOrder [fun z => bindName X.env y z, fun z => bindName X.env x z] [u2, u1] >>= fun _ => pure Flow.next) _ _ _
    refine wpAny_bind (assignInOrder_cons (wpAny_bindName (S3.store hN hj hy rb vb gb fun s5 ht S5 => ?_)))
    refine assignInOrder_cons (wpAny_bindName (S5.store hN hi hx ra va (ga.mono ht) fun s6 _ S6 => assignInOrder_nil (wpAny_pure ?_)))
    rw [List.set_comm _ _ (Ne.symm hij)] at S6
    exact ⟨_, H1, L1, S6, f1, q1⟩
  | [], q1, _ => exact q1.elim
  | [_], q1, _ => exact q1.elim
  | _ :: _ :: _ :: _, q1, _ => exact q1.elim
theorem xs_while (hp : PassesOwn (model X.prog X.w) X.A X.env X.xe) (hc : XT X c e t) (hb : XSs X c sts s1) : XS X c (.While e sts [] pos) (aWhile t s1) := by
  intro pins s env L H D S ⟨W, ⟨m0, w0⟩, turn⟩
  refine wpAny_While (codeAny_whileLoop (fun n s' => ∃ env' L' H', SG X c pins env' L' H' s' ∧ AL.Fr c H H' ∧ W n env' L') ?_ m0 ⟨env, L, H, S, .refl c H, w0⟩)
  rintro n s3 ⟨env3, L3, H3, S3, f3, w3⟩
  refine wpAny_passesOwn hp (thn (hc _ _ _ _ _ _ S3 (turn n env3 L3 w3)) fun k s4 ⟨H4, L4, S4, f4, q4⟩ => ?_)
  have again : ∀ {s5 : Shared} {q : En → Store → Prop}, (∃ env' H' L', SG X c pins env' L' H' s5 ∧ AL.Fr c H4 H' ∧ ∃ m', m' < n ∧ W m' env' L') → ∃ m, m < n ∧ ∃ env' L' H', SG X c pins env' L' H' s5 ∧ AL.Fr c H H' ∧ W m env' L' := fun ⟨env', H', L', S', f', m', hm, w'⟩ => ⟨m', hm, env', L', H', S', (f3.trans f4).trans f', w'⟩
  cases k with
  | true =>
    rw [if_pos rfl]
    refine wpAny_passesOwn hp (thn (hb _ _ _ _ _ _ S4 q4) fun fl s5 q5 => ?_)
    cases fl with
    | next => exact again (q := fun _ _ => True) q5
    | cont => exact again (q := fun _ _ => True) q5
    | brk => obtain ⟨env', H', L', S', f', q⟩ := q5; exact ⟨env', H', L', S', (f3.trans f4).trans f', q⟩
    | ret u => obtain ⟨env', d, v, H', L', S', f', q⟩ := q5; exact ⟨env', d, v, H', L', S', (f3.trans f4).trans f', q⟩
  | false =>
    rw [if_neg Bool.false_ne_true]
    exact wpAny_execs_nil ⟨env3, H4, L4, S4, f3.trans f4, q4⟩
structure Tn (X : Cx) (c : AC X.K) (tg : Expr) (it : Addr) (items : List AL.D) (St : Nat → Heap → Prop) : Prop where
  obj : ∀ i h, St i h → ∃ o, h.get? it = some o ∧ ∀ v, o.data ≠ .cell v
  keep : ∀ i h h', St i h → (∀ o, h.get? it = some o → h'.get? it = some o) → St i h'
  item : ∀ i (s : Shared) (Q : Option Value → Shared → Prop) (E : Value → Shared → Prop), i < items.length → St i s.heap → 1 ≤ s.toks →
    (∀ d v u h' tk, items[i]? = some d → (∀ H, Rep c H d v) → RelV v u → GdV tk u → s.toks ≤ tk → St (i + 1) h' → (∀ b o, b ≠ it → s.heap.get? b = some o → h'.get? b = some o) →
      (∀ (Q' : Unit → Shared → Prop), Q' () { s with heap := h', toks := tk } → wpAny (model X.prog X.w) X.A (letOwnedTupleGo tg (.ref it) u) Q' E { s with heap := h', toks := tk }) → Q (some u) { s with heap := h', toks := tk }) → wpAny (model X.prog X.w) X.A (pyNext (.ref it)) Q E s
  done : ∀ (s : Shared) (Q : Option Value → Shared → Prop) (E : Value → Shared → Prop), St items.length s.heap → (∀ h', (∀ b o, b ≠ it → s.heap.get? b = some o → h'.get? b = some o) → Q none { s with heap := h' }) → wpAny (model X.prog X.w) X.A (pyNext (.ref it)) Q E s
def XI (X : Cx) (c : AC X.K) (tg iter : Expr) (ai : ATI) : Prop := ∀ pins s env L H R, SG X c pins env L H s → ai env L R → wpAny (model X.prog X.w) X.A (eval iter X.env) (fun v s1 => wpAny (model X.prog X.w) X.A (pyIter v) (fun itv s2 =>
  ∃ it items St H' L', itv = .ref it ∧ SG X c pins env L' H' s2 ∧ AL.Fr c H H' ∧ Tn X c tg it items St ∧ St 0 s2.heap ∧ FpOk X pins H' it ∧ R items yes L') X.xe s1) X.xe s
theorem SG.turn {pins : List (Addr × Obj)} {env : En} {L : Store} {H : Hp} {s : Shared} {it : Addr} {h' : Heap} {tk : Nat} (S : SG X c pins env L H s) (hf : FpOk X pins H it) (k : ∀ b o, b ≠ it → s.heap.get? b = some o → h'.get? b = some o) (ht : s.toks ≤ tk) : SG X c pins env L H { s with heap := h', toks := tk } := by
  obtain ⟨f0, f1, f2, f3, f4, f5⟩ := hf
  refine S.to (S.inv.turned k f0 f1 f3 f4 f5) (fun m ⟨o, es, ep, h1, h2⟩ => ⟨o, es, ep, k _ o (Ne.symm f1) h1, h2⟩) ht (.refl c H) S.good (fun p xs o its n e1 e2 e3 => ?_)
  have hp : p ≠ it := fun z => by
    rw [z, f0] at e1
    cases e1
  obtain ⟨_, us, n', _, e4⟩ := S.inv.hok p _ e1
  have e5 : h'.get? p = some o := e2
  rw [k _ _ hp e4] at e5
  cases e5
  exact (S.lst p xs _ its n e1 e4 e3).mono ht
theorem xs_for {iter : Expr} {ai : ATI} {j : Nat} {x : Str} {p' : Pos} (hp : PassesOwn (model X.prog X.w) X.A X.env X.xe) (hi : XI X c (.Name x p') iter ai) (hN : X.N.Nodup) (hj : X.N[j]? = some x) (hk : X.env.kindOf x = some .local) (hb : XSs X c sts s1)
    (hs : ∀ x, foldedSetIterable iter X.env x = pure x := by intro _; rfl) : XS X c (.For (.Name x p') iter sts [] pos) (aFor ai (agName j) s1) := by
  intro pins s env L H D S h
  refine wpAny_For (thn (hi _ _ _ _ _ _ S h) fun v s2 h1 => thn h1 fun itv s3 h2 => ?_) hs
  obtain ⟨it, items, St, H3, L3, rfl, S3, f3, T, st3, fp3, q3⟩ := h2
  refine codeAny_forLoop_any (fun n s' => ∃ i env' L' H', n = items.length - i ∧ i ≤ items.length ∧ SG X c pins env' L' H' s' ∧ AL.Fr c H H' ∧ St i s'.heap ∧ FpOk X pins H' it ∧ loopA (agName j) s1 D yes (items.drop i) env' L') ?_ items.length ⟨0, env, L3, H3, rfl, Nat.zero_le _, S3, f3, st3, fp3, by rw [List.drop_zero]; exact q3⟩
  rintro n s4 ⟨i, env4, L4, H4, rfl, hle, S4, f4, st4, fp4, q4⟩
  by_cases hlt : i < items.length
  · rw [List.drop_eq_getElem_cons hlt] at q4
    refine wpAny_passesOwn hp (T.item i s4 _ _ hlt st4 S4.tk fun d v u h' tk e1 r1 v1 g1 ht st5 k5 go => ?_)
    have S5 := S4.turn fp4 k5 ht
    have ed : d = items[i] := by
      rw [List.getElem?_eq_getElem hlt] at e1
      cases e1
      rfl
    subst ed
    refine wpAny_passesOwn hp (go _ ?_)
    obtain ⟨o5, eo5, hc5⟩ := T.obj _ _ st5
    have S6 : SG X c (pins ++ pinsAt [it] h') env4 L4 H4 { s4 with heap := h', toks := tk } := ⟨S5.inv.pinned (fun b hb => by rw [List.mem_singleton.mp hb]; exact fp4) (fun b hb => by rw [List.mem_singleton.mp hb]; exact ⟨o5, eo5, hc5⟩), S5.fr, S5.len, S5.good, S5.lst, S5.tk⟩
    refine wpAny_passesOwn hp (wpAny_assign_Name (S6.store hN hj hk (r1 H4) v1 g1 fun s7 _ S7 => ?_))
    refine wpAny_passesOwn hp (thn (hb _ _ _ _ _ _ S7 q4.2) fun fl s8 q8 => ?_)
    have unp : ∀ {env' L' H'}, SG X c (pins ++ pinsAt [it] h') env' L' H' s8 → SG X c pins env' L' H' s8 ∧ s8.heap.get? it = some o5 ∧ H' it = none := fun {env' L' H'} S' => by
      have hm := S'.inv.pin (it, o5) (List.mem_append_right _ (List.mem_append_right _ (mem_pinsAt (List.mem_singleton.mpr rfl) eo5)))
      exact ⟨⟨S'.inv.unpinned, S'.fr, S'.len, S'.good, S'.lst, S'.tk⟩, hm.1, hm.2.1⟩
    have again : (∃ env' H' L', SG X c (pins ++ pinsAt [it] h') env' L' H' s8 ∧ AL.Fr c H4 H' ∧ loopA (agName j) s1 D yes (items.drop (i + 1)) env' L') → ∃ m, m < items.length - i ∧ ∃ i' env' L' H', m = items.length - i' ∧ i' ≤ items.length ∧ SG X c pins env' L' H' s8 ∧ AL.Fr c H H' ∧ St i' s8.heap ∧ FpOk X pins H' it ∧ loopA (agName j) s1 D yes (items.drop i') env' L' := fun ⟨env', H', L', S', f', q⟩ => by
      obtain ⟨z1, z2, z3⟩ := unp S'
      exact ⟨items.length - (i + 1), by omega, i + 1, env', L', H', rfl, hlt, z1, f4.trans f', T.keep _ _ _ st5 fun o e => by rw [eo5] at e; cases e; exact z2, ⟨z3, fp4.2⟩, q⟩
    cases fl with
    | next => exact again q8
    | cont => exact again q8
    | brk => obtain ⟨env', H', L', S', f', q⟩ := q8; exact ⟨env', H', L', (unp S').1, f4.trans f', q⟩
    | ret w => obtain ⟨env', d, v, H', L', S', f', q⟩ := q8; exact ⟨env', d, v, H', L', (unp S').1, f4.trans f', q⟩
  · have e : i = items.length := by omega
    subst e
    rw [List.drop_length] at q4
    refine wpAny_passesOwn hp (T.done s4 _ _ st4 fun h' k5 => ?_)
    exact wpAny_execs_nil ⟨env4, H4, L4, S4.turn (tk := s4.toks) fp4 k5 (Nat.le_refl _), f4, q4.2⟩
end
end GK
namespace GK
open PySem PySem.Spec PyProof.Rows L2 LamX JW AL
section
variable {X : Cx} {c : AC X.K} {e o tg : Expr} {a b : ATE} {as : ATA} {es : List Expr} {pos p apos : Pos}
theorem tn_range (hh : X.A.handled = none) (it : Addr) (n : Nat) : Tn X c tg it (rngD 0 n) (fun i h => IsRangeIter h it ((0 : Int) + (i : Nat) * 1) ((n : Int) - (i : Nat)) 1) := by
  have W := Walks.range (prog := X.prog) (w := X.w) (A := X.A) hh it 0 1 n
  refine ⟨fun i h st => ⟨_, st, fun v z => by cases z⟩, fun i h h' st k => k _ st, fun i s Q E hi st ht hQ => ?_, fun s Q E st hQ => ?_⟩
  · rw [rngD_len] at hi
    refine thn2 (Q := fun r s' => ∃ v h' tk, r = some v ∧ s' = { s with heap := h', toks := tk } ∧ (∃ t, v = .int (0 + (i : Nat) * 1) t) ∧ IsRangeIter h' it ((0 : Int) + ((i + 1 : Nat) : Int) * 1) ((n : Int) - ((i + 1 : Nat) : Int)) 1 ∧ ∀ b o, b ∉ [it] → s.heap.get? b = some o → h'.get? b = some o) (W.item i s _ _ hi st fun v h' tk hv st' kk => ⟨v, h', tk, rfl, rfl, hv, st', kk⟩) fun r s' hk ⟨v, h', tk, e1, e2, ⟨t, e3⟩, st', kk⟩ => ?_
    subst e1 e2 e3
    refine hQ (.int (0 + (i : Nat))) (.int (0 + (i : Nat))) _ h' tk (rngD_get hi) (fun _ => rep_int.mpr rfl) ⟨t, by rw [Int.mul_one]⟩ gd_int hk st' (fun b o z => kk b o (by simpa using z)) fun Q' q => ?_
    exact go_of (s := { s with heap := h', toks := tk }) (n := "range_iterator") st' rfl rfl (by decide) q
  · rw [rngD_len] at st
    exact wpAny_pyNext_range_end hh st (by omega) fun h' eb => hQ h' fun b o z => eb b o z
theorem xi_rng1 (hc : X.calm = true) (hg : Gl X "range") (hm : X.mg "range" = none) (ha : XA X c [e] as) (hs : starEach [e] X.env = [(false, eval e X.env)] := by rfl) : XI X c tg (.Call (.Name "range" p) [e] [] pos) (aiRng1 as) := by
  intro pins s env L H R S h
  refine Call_ (ld_blt S.inv hg hm boot_range (PyProof.Rows.callWith_type1 (thn (ha pos _ _ _ _ _ _ S h) fun us s1 ⟨ds, vs, H1, L1, S1, f1, r1, v1, g1, q1⟩ => ?_) hs rfl))
  dsimp only at q1
  split at q1
  · rename_i j
    obtain ⟨h1, h2, q⟩ := q1
    obtain ⟨w, rfl, r2⟩ := repL_one r1
    cases rep_int.mp r2
    obtain ⟨u, rfl, ⟨t, rfl⟩⟩ := vals_one v1
    refine call_range_1 (wpAny_pyIter_range (IsRange.new ..) (small_one (by omega) (by omega) h1 h2) ?_)
    have S2 : SG X c pins env L1 H1 { s1 with heap := s1.heap.push { cls := .type "range", data := .fields #[.int 0 s1.toks, .int j t, .int 1 (s1.toks + 1)] }, toks := s1.toks + 1 + 1 } := S1.kept (fun _ _ z => Heap.get?_push_of_some _ z) (by omega)
    generalize hs2 : ({ s1 with heap := s1.heap.push { cls := .type "range", data := .fields #[.int 0 s1.toks, .int j t, .int 1 (s1.toks + 1)] }, toks := s1.toks + 1 + 1 } : Shared) = s2 at S2
    have hz : (((j.toNat : Nat) : Int) - ((0 : Nat) : Int)) = Builtin.Range.rangeSize 0 j 1 := by
      rw [rangeSize_one]
      split <;> omega
    refine ⟨s2.heap.objs.size, rngD 0 j.toNat, _, H1, L1, rfl, S2.kept (t' := s2.toks) (fun _ _ z => Heap.get?_push_of_some _ z) (Nat.le_refl _), f1, tn_range (S.inv.ok.hd hc) _ j.toNat, ?_, ?_, q⟩
    · show IsRangeIter _ _ ((0 : Int) + ((0 : Nat) : Int) * 1) _ 1
      rw [hz]
      exact Heap.get?_push_size _ rfl
    · exact S2.inv.fpOk (Nat.le_refl _) (S2.inv.hok.fresh (Nat.le_refl _))
  · exact q1.elim
theorem tn_str (hh : X.A.handled = none) (it : Addr) (x : Str) (t : Tok) (ty : String) (hty : ty = "str_ascii_iterator" ∨ ty = "str_iterator") : Tn X c tg it (x.cps.toList.map fun k => .str ⟨#[k]⟩) (fun i h => h.IsStrIter it ty x t i) := by
  have hlen : (x.cps.toList.map fun k => AL.D.str ⟨#[k]⟩).length = x.cps.size := by rw [List.length_map, Array.length_toList]
  have hno : ["enumerate", "zip", "dict_itemiterator", "dict_reverseitemiterator", "odict_iterator", "itertools.zip_longest", "itertools.pairwise"].contains ty = false := by
    rcases hty with z | z <;> rw [z] <;> decide
  refine ⟨fun i h ⟨o, z1, _, z2⟩ => ⟨o, z1, fun v z => by rw [z2] at z; cases z⟩, fun i h h' ⟨o, z1, z2⟩ k => ⟨o, k o z1, z2⟩, fun i s Q E hi st ht hQ => ?_, fun s Q E st hQ => ?_⟩
  · rw [hlen] at hi
    have hx : x.cps[i]? = some x.cps[i] := Array.getElem?_eq_getElem hi
    have fin : ∀ h', h'.IsStrIter it ty x t (i + 1) → Heap.SameBut it s.heap h' → Q (some (.str ⟨#[x.cps[i]]⟩ s.toks)) { s with heap := h', toks := s.toks + 1 } := fun h' st' hs' => by
      refine hQ (.str ⟨#[x.cps[i]]⟩) (.str ⟨#[x.cps[i]]⟩) _ h' (s.toks + 1) (by rw [List.getElem?_map, Array.getElem?_toList, hx]; rfl) (fun _ => rep_str.mpr rfl) ⟨_, rfl⟩ (gd_new ht (Nat.lt_succ_self _)) (Nat.le_succ _) st' (fun b o z e => (hs'.2 b z).trans e) fun Q' q => ?_
      obtain ⟨oi, e1, cc, dd⟩ := id st'
      exact go_of (s := { s with heap := h', toks := s.toks + 1 }) e1 cc dd hno q
    rcases hty with z | z
    · subst z; exact wpAny_pyNext_ascii_item st hx fin
    · subst z; exact wpAny_pyNext_wide_item st hx fin
  · rw [hlen] at st
    have hx : x.cps[x.cps.size]? = none := Array.getElem?_eq_none (Nat.le_refl _)
    rcases hty with z | z
    · subst z; exact wpAny_pyNext_ascii_end hh st hx fun h' eb => hQ h' fun b o z => eb b o z
    · subst z; exact wpAny_pyNext_wide_end hh st hx fun h' eb => hQ h' fun b o z => eb b o z
theorem xi_str (hc : X.calm = true) (he : XE X c e a) : XI X c tg e (aiStr a) := by
  intro pins s env L H R S h
  refine thn (he _ _ _ _ _ _ S h) fun v s1 ⟨d, x, H1, L1, S1, f1, r1, v1, g1, q1⟩ => ?_
  obtain ⟨z, rfl, q⟩ := str_low r1 q1
  obtain ⟨t, rfl⟩ := v1
  have fp := S1.inv.fpOk (Nat.le_refl _) (S1.inv.hok.fresh (Nat.le_refl _))
  cases ha : z.cps.all (· < 128)
  · exact wpAny_pyIter_wide ha ⟨_, _, _, H1, L1, rfl, S1.kept (t' := s1.toks) (fun _ _ z => Heap.get?_push_of_some _ z) (Nat.le_refl _), f1, tn_str (S.inv.ok.hd hc) _ z t "str_iterator" (.inr rfl), ⟨_, Heap.get?_push_size _ rfl, rfl, rfl⟩, fp, q⟩
  · exact wpAny_pyIter_ascii ha ⟨_, _, _, H1, L1, rfl, S1.kept (t' := s1.toks) (fun _ _ z => Heap.get?_push_of_some _ z) (Nat.le_refl _), f1, tn_str (S.inv.ok.hd hc) _ z t "str_ascii_iterator" (.inl rfl), ⟨_, Heap.get?_push_size _ rfl, rfl, rfl⟩, fp, q⟩
open Builtin Builtin.Str in
theorem raw_repl {s : Shared} {x y z : Str} {t u v : Tok} {Q E : Value → Shared → Prop} (hu : u ≠ 0) (hv : v ≠ 0) (huv : u ≠ v) (hb : x.length + (x.length + 1) * z.length ≤ 16777216) (hnb : NoneBooked s.heap) (hx : t ≠ 0 ∧ t < s.toks)
    (hq : ∀ t' k, s.toks ≤ k → t' ≠ 0 → t' < k → Q (.str (Txt.replace x y z) t') { s with toks := k }) : wpAny (model X.prog X.w) X.A (call (.builtin "str.replace") [.str x t, .str y u, .str z v]) Q E s := by
  have hl : tooLong (x.length + (occurrences x y 0 x.length (x.length + 1)).length * z.length) = false := by
    have k1 := StrLaws.occ_length_le x y 0 x.length (x.length + 1)
    have k2 := Nat.mul_le_mul_right z.length k1
    unfold tooLong sizeLine
    exact decide_eq_false (by omega)
  refine call_givesAt F.slot_str_replace (typeIs_str _ _ _) F.entry_str_replace (F.args_str_replace_3 _ _ _) (gives_str_replace2 x y z t u v fun _ => ⟨by simp [hu, hv], by simp [huv], hl⟩) hnb ?_
  have q0 := hq t s.toks (Nat.le_refl _) hx.1 hx.2
  have q1 := hq s.toks (s.toks + 1) (Nat.le_succ _) (Nat.ne_of_gt (Nat.lt_of_le_of_lt (Nat.zero_le t) hx.2)) (Nat.lt_succ_self _)
  unfold Txt.replace at q0 q1
  by_cases hc : ((occurrences x y 0 x.length (x.length + 1)).isEmpty || (y.length == 0 && z.length == 0)) = true
  · rw [if_pos hc] at q0 ⊢
    exact q0
  · rw [if_neg hc] at q0 q1 ⊢
    cases hyz : (y == z)
    · rw [if_neg Bool.false_ne_true]
      exact ⟨fits_replaced y hb, q1⟩
    · rw [if_pos rfl]
      have e1 : y = z := eq_of_beq hyz
      subst e1
      rw [StrLaws.glued_between_self] at q0 q1 ⊢
      exact ⟨q0, by rw [sizeLine_eq]; omega, q1⟩
theorem x_replCC {y z : Str} {j k : Nat} {c0 c1 : Pos} (hnb : ∀ h, X.K.In h → NoneBooked h) (ho : XE X c o a)
    (hst : starEach [.Constant (.str y) j c0, .Constant (.str z) k c1] X.env = [(false, eval (.Constant (.str y) j c0) X.env), (false, eval (.Constant (.str z) k c1) X.env)] := by rfl)
    (hbase : attributeBase o "replace" X.env (eval o X.env) = eval o X.env := by rfl) (hline : (apos.endLine == pos.line) = true := by rfl) :
    XE X c (.Call (.Attribute o "replace" apos) [.Constant (.str y) j c0, .Constant (.str z) k c1] [] pos) (aReplC a y z) := by
  intro pins s env L H R S q
  refine PySem.Call_method2 hbase hst hline (thn (ho _ _ _ _ _ _ S q) fun v s1 ⟨d, x, H1, L1, S1, f1, r1, v1, g1, q1⟩ => ?_)
  obtain ⟨w, rfl, q1⟩ := str_low r1 q1
  obtain ⟨t, rfl⟩ := v1
  refine ⟨"str", _, F.plainAttrs_str, F.slot_str_replace, F.type_str_replace, typeIs_str _ _ _, (fun _ e => nomatch e), Calls.callWith_builtin rfl (Calls.evalArgs_plain (Calls.spliced_cons ?_))⟩
  refine Calls.Constant_str (Calls.spliced_cons (Calls.Constant_str (Calls.spliced_nil ?_)))
  have htk := S1.tk
  have S2 := S1.tok (t' := s1.toks + 1 + 1) (by omega)
  refine raw_repl (X := X) (Nat.ne_of_gt htk) (Nat.succ_ne_zero _) (Nat.ne_of_lt (Nat.lt_succ_self _)) q1.1 (hnb _ S2.inv.kIn) ((g1.mono (by show s1.toks ≤ s1.toks + 1 + 1; omega)) w t rfl) fun t' k h1 h2 h3 => ?_
  exact ((S2.tok h1).eg (rep_str.mpr rfl) ⟨t', rfl⟩ (fun _ _ e => by cases e; exact ⟨h2, h3⟩) q1.2).fr f1
def aReplV (a b : ATE) (y : Str) : ATE := fun env L Q => a env L fun d L1 => strE d fun x => b env L1 fun d2 L2 => strE d2 fun z => x.length + (x.length + 1) * z.length ≤ 16777216 ∧ Q (.str (Txt.replace x y z)) L2
theorem x_replCN {y : Str} {j : Nat} {c0 c1 : Pos} {i : Nat} {n : Str} (hnb : ∀ h, X.K.In h → NoneBooked h) (ho : XE X c o a) (hN : X.N[i]? = some n) (hk : X.env.kindOf n = some .local) (hd : (n == ("__debug__" : Str)) = false := by decide)
    (hst : starEach [.Constant (.str y) j c0, .Name n c1] X.env = [(false, eval (.Constant (.str y) j c0) X.env), (false, eval (.Name n c1) X.env)] := by rfl)
    (hbase : attributeBase o "replace" X.env (eval o X.env) = eval o X.env := by rfl) (hline : (apos.endLine == pos.line) = true := by rfl) :
    XE X c (.Call (.Attribute o "replace" apos) [.Constant (.str y) j c0, .Name n c1] [] pos) (aReplV a (aVar i) y) := by
  intro pins s env L H R S q
  refine PySem.Call_method2 hbase hst hline (thn (ho _ _ _ _ _ _ S q) fun v s1 ⟨d, x, H1, L1, S1, f1, r1, v1, g1, q1⟩ => ?_)
  obtain ⟨w, rfl, q1⟩ := str_low r1 q1
  obtain ⟨t, rfl⟩ := v1
  refine ⟨"str", _, F.plainAttrs_str, F.slot_str_replace, F.type_str_replace, typeIs_str _ _ _, (fun _ e => nomatch e), Calls.callWith_builtin rfl (Calls.evalArgs_plain (Calls.spliced_cons ?_))⟩
  refine Calls.Constant_str (Calls.spliced_cons ?_)
  have htk := S1.tk
  have S2 := S1.tok (t' := s1.toks + 1) (Nat.le_succ _)
  unfold aVar at q1
  split at q1
  · rename_i d e1
    obtain ⟨m, hn, hf⟩ := S1.fr
    obtain ⟨y', v', u', h1, h2, h3, h4, h5⟩ := hf i d e1
    rw [hN] at h1
    cases h1
    refine wpAny_Name (wpAny_loadName_local S1.inv.ok.kind hk hn h2 (Calls.spliced_nil ?_)) hd
    obtain ⟨z, rfl, q2⟩ := str_low h4 q1
    obtain ⟨t2, rfl⟩ := h3
    obtain ⟨g5, g6⟩ := h5 z t2 rfl
    refine raw_repl (X := X) (Nat.ne_of_gt htk) g5 (Nat.ne_of_gt g6) q2.1 (hnb _ S2.inv.kIn) ((g1.mono (Nat.le_succ _)) w t rfl) fun t' k h1 h2 h3 => ?_
    exact ((S2.tok h1).eg (rep_str.mpr rfl) ⟨t', rfl⟩ (fun _ _ e => by cases e; exact ⟨h2, h3⟩) q2.2).fr f1
  · exact q1.elim
end
end GK
namespace GK
open PySem PySem.Spec PyProof.Rows L2 LamX JW AL
def CG {K : PySem.W.Frag} (c : AC K) (outer : List Env) (P : Program) (w : World) (H : Hp) (s : Shared) (R : AQ) (r : Result) (s' : Shared) : Prop :=
  match r with
  | .ok (.ret u) => ∃ d v H' L', s'.os = s.os ∧ AllBare s'.gens ∧ Un (frs outer) [] H H' s.heap s'.heap ∧ HOk P w H' s'.heap ∧ RelV v u ∧ AL.Fr c H H' ∧ Good c L' H' ∧ Rep c H' d v ∧ GdV s'.toks u ∧ GdL H' s' ∧ R d L'
  | _ => False
structure FnG (P : Program) (w : World) (K : PySem.W.Frag) (mg : Str → Option Value) (base : Heap) (c : AC K) (k : Nat) (f : Addr) (fd : FuncData) (ps : List Str) (asp : ASp) : Prop where
  len : ∀ ds L R RX, asp ds L R RX → ds.length = ps.length
  run : ∀ (A : Around) (outer : List Env) (s : Shared) (H : Hp) (args : Args) (us : List Value) (vs : List V) (ds : List AL.D) (L : Store) (R : AQ), Room k A → Env0 P w K mg base A outer s H → BindsTo s fd args (ps.zip us) → Vals vs us → RepL c H ds vs → Good c L H → GdVs s.toks us → GdL H s → asp ds L R anyX →
    codeAny (model P w) A (.call (.ref f) args) (CG c outer P w H s R) s
structure CallG (P : Program) (w : World) (K : PySem.W.Frag) (mg : Str → Option Value) (base : Heap) (c : AC K) (k : Nat) (x : Str) (ps : List Str) (asp : ASp) : Prop where
  ex : ∃ f fd, mg x = some (.ref f) ∧ PySem.W.keepIn K (.ref f) = true ∧ Binds K fd ps [] ∧ FnG P w K mg base c k f fd ps asp
section
variable {X : Cx} {c : AC X.K} {e : Expr} {es : List Expr} {as : ATA} {x : Str} {p pos : Pos} {k : Nat} {ps : List Str} {asp : ASp}
theorem x_callG (C : CallG X.prog X.w X.K X.mg X.base c k x ps asp) (hr : Room k X.A) (hg : Gl X x) (ha : XA X c (e :: es) as) (hdb : (x == ("__debug__" : Str)) = false := by decide)
    (he : starEach (e :: es) X.env = (false, eval e X.env) :: starEach es X.env := by rfl) (hpl : (backTo pos (starEach es X.env)).any (·.1) = false := by rfl) : XE X c (.Call (.Name x p) (e :: es) [] pos) (aCall asp as) := by
  obtain ⟨f, fd, h1, h2, h3, F⟩ := C.ex
  intro pins s env L H R S q
  refine wpAny_Call_Name_kw (ld_glob S.inv hg h1 ?_ hdb)
  refine PySem.W.callWith_K (h₀ := X.base) S.inv.ok.mod.kin h2 (thn (ha pos _ _ _ _ _ _ S q) fun us s1 ⟨ds, vs, H1, L1, S1, f1, r1, v1, g1, q1⟩ => ⟨S1.inv.kIn, ?_⟩) he hpl
  have hl : (us ++ ([] : List Value)).length = ps.length := by
    rw [List.append_nil, ← v1.length, r1.len]
    exact F.len _ _ _ _ q1
  have hb := h3 s1 us S1.inv.kIn hl
  rw [List.append_nil] at hb
  refine wpAny_call (codeAny_with_toks (Nat.le_refl _) (codeAny_mono (F.run X.A X.stack s1 H1 ⟨us, []⟩ us vs ds L1 R hr S1.inv.env0 hb v1 r1 S1.good g1 S1.lst q1) fun r s2 hq2 => ?_))
  intro ht
  cases r with
  | error e => exact False.elim hq2
  | ok fl =>
    cases fl with
    | ret u =>
      obtain ⟨d, v, H2, L2, os, bare, U, hk, rv, f2, g2, r2, gv, gl, q2⟩ := hq2
      have I2 : Inv X pins (noSt X) H2 s2 := S1.inv.call' os U hk bare fun b z => absurd z (by simp)
      refine ⟨d, v, H2, L2, S1.to I2 (fun m hm => ?_) ht f2 g2 gl, f1.trans f2, r2, rv, gv, q2⟩
      obtain ⟨o, es, ep, z1, z2⟩ := hm
      obtain ⟨sl, z⟩ := U.any z1 S1.inv.free (by simp)
      exact ⟨_, es, ep, z, z2⟩
    | next => exact False.elim hq2
    | brk => exact False.elim hq2
    | cont => exact False.elim hq2
end
section
variable {P : Program} {w : World} {K : PySem.W.Frag} {mg : Str → Option Value} {base : Heap} {c : AC K} {x qual : Str} {st : Stmt} {N ps : List Str} {k : Nat} {asp : ASp}
theorem _root_.JW.DefAt.okG {a : ATS} (D : DefAt K mg x qual st [] ps) (S : FnScope N ps (defScope st)) (hl : ∀ ds L R RX, asp ds L R RX → ds.length = ps.length)
    (body : ∀ (f : Addr) (cdv : Value) (A : Around) (outer : List Env) (s : Shared) (H : Hp) (E : XK), Room k (A.deeper (envOfC qual (defScope st) s.heap.objs.size f cdv)) → XSs (cxOf CX0 P w K mg base N qual (defScope st) f cdv A outer s H E).nox c (defBody st) a)
    (vc : ∀ ds L R RX, asp ds L R RX → a (fnEnds R) (startA N ds) L) (hnc : ∀ y ∈ (defScope st).names, y.2 ≠ .cell := by decide) (hps : 1 ≤ ps.length := by decide) : CallG P w K mg base c (k + 1) x ps asp := by
  obtain ⟨f, fd, h1, F, b⟩ := D.ex
  refine ⟨f, fd, h1, F.kp, b, hl, ?_⟩
  obtain ⟨oc, od, dV, kV, doc, pm, an, cdv, ct, osl, rfl, lk, hcd, _, _⟩ := F.ex
  intro A outer s H args us vs ds L R hr e0 hb rv rs g gv gl hq
  have hlen : vs.length = ps.length := by
    rw [rs.len]
    exact hl _ _ _ _ hq
  have hul : us.length = ps.length := by rw [← rv.length, hlen]
  have KX : K.In s.heap := e0.mod.kin.keeps fun b o e => (e0.bs b o e).1
  have lim : s.heap.NoLimit := e0.mod.nolimit.keeps fun b o e => (e0.bs b o e).1
  have hloc : ∀ y ∈ ps.zip us, (defScope st).names.lookup y.1 = some .local := fun ⟨n, v⟩ hy => by
    rcases S.par n (List.of_mem_zip hy).1 with q | q
    · exact q
    · exact absurd rfl (hnc _ (PySem.mem_of_lookup q))
  refine codeAny_call_function hr.depth (KX _ _ lk) rfl S.co S.gen rfl (PySem.W.codeRec_of KX hcd) (hb _ _ _ _ ?_)
  refine wpAny_newFunctionEnv hnc hloc (fun h1 hns hsb => ?_) S.kind
  have hz : (ps.zip us).length = ps.length := by rw [List.length_zip, hul, Nat.min_self]
  have keep : ∀ b o, s.heap.get? b = some o → h1.get? b = some o := fun b o z => hsb.extBut b o (Nat.ne_of_lt (Heap.lt_size z)) (Heap.get?_push_of_some _ z)
  have hcl : cellsFrom (s.heap.objs.size + 1) (defScope st).names [] = [] := cells_none _ _ _ hnc
  have hkl : ∀ y ∈ ps.zip us, (envOfC qual (defScope st) s.heap.objs.size f cdv).kindOf y.1 = some .local := fun y hy => by
    first
    | exact hloc y hy
    | (simp only [Env.kindOf]; exact hloc y hy)
    | (unfold Env.kindOf; rw [if_pos S.kind]; exact hloc y hy)
  have hm : (bindL (envOfC qual (defScope st) s.heap.objs.size f cdv).kindOf (ps.zip us) fun _ => none) = fun z => (ps.zip us).reverse.lookup z := by
    funext z
    rw [bindL_loc _ _ hkl z]
    cases (ps.zip us).reverse.lookup z <;> rfl
  have xx : InCallC s s.heap.objs.size (bindL (envOfC qual (defScope st) s.heap.objs.size f cdv).kindOf (ps.zip us) fun _ => none) (cellsFrom (s.heap.objs.size + 1) (defScope st).names [])
      (bindC (envOfC qual (defScope st) s.heap.objs.size f cdv).kindOf (ps.zip us) fun _ => none) ({ s with heap := h1, toks := s.toks + (ps.zip us).length } : Shared) := by
    rw [hm, hcl]
    exact ⟨⟨⟨_, _, rfl⟩, hns, keep, Nat.le_refl _⟩, (fun n a z => absurd z (by simp)), .nil, (fun n a z => absurd z (by simp))⟩
  have henv : newEnv (defScope st) s.heap.objs.size mainGlobals [] (qual ++ ".<locals>.") (some f) cdv none builtinsNs = envOfC qual (defScope st) s.heap.objs.size f cdv := by
    unfold envOfC
    rw [hcl] <;> rfl
  show ({ s with heap := h1, toks := s.toks + (ps.zip us).length } : Shared).heap.NoLimit ∧ codeAny (model P w) A (.func (defBody st) (newEnv (defScope st) s.heap.objs.size mainGlobals [] (qual ++ ".<locals>.") (some f) cdv none builtinsNs)) _ ({ s with heap := h1, toks := s.toks + (ps.zip us).length } : Shared)
  rw [henv]
  have ht : s.toks ≤ s.toks + (ps.zip us).length := Nat.le_add_right _ _
  refine ⟨lim.keeps keep, codeAny_func ?_⟩
  generalize hX : (cxOf CX0 P w K mg base N qual (defScope st) f cdv A outer s H (fun _ _ _ => True)).nox = X
  have hB := body f cdv A outer s H (fun _ _ _ => True) (hr.deeper _)
  have I0 := (inv_start (CX := CX0) (E := fun _ _ _ => True) S hr.hd e0 hlen rv xx).wish (fun _ _ => False)
  have I1 := I0.weak (σ' := List.replicate N.length none) (by rw [List.length_replicate]; exact I0.len.symm) (fun i v z => by
    rw [List.getElem?_replicate] at z
    split at z <;> cases z)
  have S1 : SG (cxOf CX0 P w K mg base N qual (defScope st) f cdv A outer s H (fun _ _ _ => True)).nox c [] (startA N ds) L H { s with heap := h1, toks := s.toks + (ps.zip us).length } := by
    refine ⟨I1, ⟨_, xx.toInCall.ns, fun i d z => ?_⟩, ?_, g, gdl_kept (X := (cxOf CX0 P w K mg base N qual (defScope st) f cdv A outer s H (fun _ _ _ => True)).nox) gl e0.hok keep ht, by show 1 ≤ s.toks + _; omega⟩
    · have hi : i < ds.length := by
        unfold startA at z
        by_cases hi : i < ds.length
        · exact hi
        · rw [List.getElem?_append_right (by simpa using hi), List.getElem?_replicate] at z
          split at z <;> cases z
      have hd : ds[i]? = some d := by
        unfold startA at z
        rw [List.getElem?_append_left (by simpa using hi), List.getElem?_map] at z
        cases e : ds[i]? with
        | none => rw [e] at z; cases z
        | some a => rw [e] at z; cases z; rfl
      obtain ⟨v, ev, r1⟩ := rs.get hd
      obtain ⟨u, eu, r2⟩ := rv.get ev
      have hli : i < ps.length := by
        rw [← hlen, rs.len]
        exact hi
      have hp : ps[i]? = some ps[i] := List.getElem?_eq_getElem hli
      have hN : N[i]? = some ps[i] := by
        rw [← List.getElem?_take_of_lt (j := ps.length) hli, S.pre, hp]
      have ndP : ps.Nodup := by
        rw [← S.pre]
        exact S.nd.sublist (List.take_sublist _ _)
      have hk : (envOfC qual (defScope st) s.heap.objs.size f cdv).kindOf ps[i] = some .local := hkl (ps[i], u) (List.mem_of_getElem? (i := i) (by rw [List.getElem?_zip_eq_some]; exact ⟨hp, eu⟩))
      exact ⟨ps[i], v, u, hN, bindL_get ndP hp eu hk, r2, r1, (gv u (List.mem_of_getElem? eu)).mono ht⟩
    · unfold startA
      have hpl : ps.length ≤ N.length := by
        have := congrArg List.length S.pre
        rw [List.length_take] at this
        omega
      rw [List.length_append, List.length_map, List.length_replicate]
      show _ = N.length
      have := hl _ _ _ _ hq
      omega
  refine wpAny_mono (hB [] _ _ L H (fnEnds R) S1 (vc ds L R anyX hq)) (fun fl s' hs => ?_) fun e s' z => False.elim z
  cases fl with
  | ret u =>
    obtain ⟨env', d, v, H', L', S', f', r', rv', gd', L0, sb, q⟩ := hs
    exact ⟨d, v, H', L0, S'.inv.os, S'.inv.bare, S'.inv.base, S'.inv.hok, rv', f', S'.good.sub sb, r', gd', S'.lst, q⟩
  | next =>
    obtain ⟨env', H', L', S', f', L0, sb, q⟩ := hs
    exact ⟨.non, .non, H', L0, S'.inv.os, S'.inv.bare, S'.inv.base, S'.inv.hok, rfl, f', S'.good.sub sb, rep_non.mpr rfl, gd_non, S'.lst, q⟩
  | brk => obtain ⟨_, _, _, _, _, z⟩ := hs; exact z.elim
  | cont => obtain ⟨_, _, _, _, _, z⟩ := hs; exact z.elim
def Slim (asp : ASp) : Prop := ∀ ds L R RX, asp ds L R RX → asp ds (hidS L) (fun d L' => L' = hidS L ∧ R d L) anyX ∧ ∀ d ∈ ds, ∀ z, d ≠ .str z
theorem CallG.toD (C : CallG P w K mg base c k x ps asp) (hq : Slim asp) : CallD P w K mg base CX0 k x ps [] (spA c asp) := by
  obtain ⟨f, fd, h1, h2, h3, F⟩ := C.ex
  refine ⟨f, fd, [], h1, h2, h3, .nil, ⟨fun vs H Q E ⟨ds, L, R, RX, r, g, h, _⟩ => by rw [r.len]; exact F.len _ _ _ _ h, fun A outer s H args us vs Q E hr e0 hb rv ⟨ds, L, R, RX, rs, g, h, pq, px⟩ => ?_⟩⟩
  obtain ⟨q1, q2⟩ := hq ds L R RX h
  have hK : ∀ a o, K.lookup a = some o → H a = none := fun a o z => (e0.bs a o (e0.mod.kin a o z)).2
  have gl : GdL (hid c H) s := fun p xs o its n e1 e2 e3 => by
    obtain ⟨e4, n4⟩ := hid_at e1
    have hz : Zc c p := by
      by_cases q : Zc c p
      · exact q
      · exact absurd ⟨⟨xs, e4⟩, q⟩ n4
    exact gd_scr g e0.hok hK hz e4 e2 e3
  refine codeAny_mono (F.run A outer s (hid c H) args us vs ds (hidS L) _ hr (env0_hid e0) hb rv (rs.fr fr_hid) (good_hid g) (fun u hu => ?_) gl q1) fun r s' z => ?_
  · obtain ⟨i, hi⟩ := List.mem_iff_getElem?.mp hu
    have hl := rv.length
    have hlt : i < vs.length := by
      rw [hl]
      exact (List.getElem?_eq_some_iff.mp hi).1
    obtain ⟨u', e1, r1⟩ := rv.get (List.getElem?_eq_getElem hlt)
    rw [hi] at e1
    cases e1
    obtain ⟨d, e2, r2⟩ := rs.getV (List.getElem?_eq_getElem hlt)
    exact gd_rel r1 (rep_nstr r2 (q2 d (List.mem_of_getElem? e2)))
  · cases r with
    | error e => exact False.elim z
    | ok fl =>
      cases fl with
      | ret u =>
        obtain ⟨d, v, H1, L1, os, bare, U, hk, rv1, f1, g1, r1, _, _, e1, q3⟩ := z
        subst e1
        have B := back_resD e0.hok e0.frf U
        have g' := B.good hK g f1 g1
        exact ⟨v, resD c H H1, os, bare, B.un U, B.hok e0.hok e0.frf U hk, rv1, pq d L v _ q3 (fr_hid.trans (f1.trans B.fr1)) g' (r1.fr B.fr1)⟩
      | next => exact False.elim z
      | brk => exact False.elim z
      | cont => exact False.elim z
end
end GK
namespace JW
open PySem PySem.Spec PyProof.Rows
mutual
def rgr (p : T) : T → T
  | .jet => p
  | .bas l => .bas (rgrL p l)
def rgrL (p : T) : List T → List T
  | [] => []
  | t :: l => rgr p t :: rgrL p l
end
mutual
/-- the greatest number of branches -/
def widT : T → Nat
  | .jet => 0
  | .bas l => max l.length (widL l)
def widL : List T → Nat
  | [] => 0
  | t :: l => max (widT t) (widL l)
end
theorem rgrL_map (p : T) : ∀ l : List T, rgrL p l = l.map (rgr p)
  | [] => rfl
  | t :: l => by rw [rgrL, rgrL_map p l, List.map_cons]
theorem rgr_codes (p : T) : ∀ (t : T) (r : List Nat), PySem.StrLaws.replL [111] p.codes (t.codes ++ r) = (rgr p t).codes ++ PySem.StrLaws.replL [111] p.codes r := by
  apply T.ind'
  · intro r
    show PySem.StrLaws.replL [111] p.codes (111 :: r) = p.codes ++ _
    rw [PySem.StrLaws.replL_hit (by simp) (by simp)]
    rfl
  · intro l ih r
    have hl : ∀ us : List T, (∀ u ∈ us, u ∈ l) → ∀ r, PySem.StrLaws.replL [111] p.codes (codesL us ++ r) = codesL (rgrL p us) ++ PySem.StrLaws.replL [111] p.codes r := by
      intro us
      induction us with
      | nil => exact fun _ r => rfl
      | cons u us ih2 =>
        intro hm r
        show PySem.StrLaws.replL [111] p.codes (u.codes ++ codesL us ++ r) = ((rgr p u).codes ++ codesL (rgrL p us)) ++ PySem.StrLaws.replL [111] p.codes r
        rw [List.append_assoc, ih u (hm u List.mem_cons_self), ih2 (fun v hv => hm v (List.mem_cons_of_mem _ hv)), List.append_assoc]
    show PySem.StrLaws.replL [111] p.codes (40 :: ((codesL l ++ [41]) ++ r)) = (40 :: (codesL (rgrL p l) ++ [41])) ++ PySem.StrLaws.replL [111] p.codes r
    rw [PySem.StrLaws.replL_miss (by simp), List.append_assoc, hl l (fun u h => h), List.singleton_append, PySem.StrLaws.replL_miss (by simp)]
    simp
theorem rgr_tx (p t : T) : Txt.replace (tx t) ("o" : Str) (tx p) = tx (rgr p t) := by
  have h := PySem.StrLaws.replace_list (x := tx t) (y := ("o" : Str)) (z := tx p) (by decide +kernel)
  have e1 : ("o" : Str).cps.toList = [111] := by decide +kernel
  have e2 : (tx t).cps.toList = t.codes := by unfold tx; rfl
  have e3 : (tx p).cps.toList = p.codes := by unfold tx; rfl
  have e4 : (tx (rgr p t)).cps.toList = (rgr p t).codes := by unfold tx; rfl
  rw [e1, e2, e3] at h
  have h2 := rgr_codes p t []
  rw [List.append_nil, PySem.StrLaws.replL_nil, List.append_nil] at h2
  rw [h2, ← e4] at h
  exact TL.ext_tl h
theorem rgr_canon {p : T} (hp : Can p) : ∀ t : T, (rgr p t).canon = T.grf p t := by
  apply T.ind'
  · exact can_canon _ hp
  · intro l ih
    show (T.bas (rgrL p l)).canon = _
    rw [canon_bas, grf_bas, rgrL_map, List.map_map]
    congr 2
    exact List.map_congr_left fun t ht => ih t ht
theorem rgr_size (p t : T) (hp : Can p) : (rgr p t).size = (T.grf p t).size := by rw [← rgr_canon hp, canon_size]
theorem rgr_dep (p t : T) (hp : Can p) : (rgr p t).dep = (T.grf p t).dep := by rw [← rgr_canon hp, canon_dep]
theorem wid_mem {t : T} : ∀ {l : List T}, t ∈ l → widT t ≤ widL l
  | [], h => absurd h List.not_mem_nil
  | u :: l, h => by
    show _ ≤ max (widT u) (widL l)
    rcases List.mem_cons.mp h with e | e
    · rw [e]; exact Nat.le_max_left _ _
    · exact Nat.le_trans (wid_mem e) (Nat.le_max_right _ _)
theorem wid_le {n : Nat} : ∀ {l : List T}, (∀ t ∈ l, widT t ≤ n) → widL l ≤ n
  | [], _ => Nat.zero_le _
  | u :: l, h => Nat.max_le.mpr ⟨h u List.mem_cons_self, wid_le fun t ht => h t (List.mem_cons_of_mem _ ht)⟩
theorem wid_size : ∀ t : T, widT t ≤ t.size := by
  apply T.ind'
  · exact Nat.zero_le _
  · intro l ih
    have h1 := length_le l
    have h2 : (T.bas l).size = 1 + sizeL l := rfl
    refine Nat.max_le.mpr ⟨by omega, wid_le fun t ht => ?_⟩
    have h3 := ih t ht
    have h4 := size_mem ht
    omega
theorem wid_rgr (p : T) : ∀ t : T, widT (rgr p t) ≤ max (widT t) (widT p) := by
  apply T.ind'
  · exact Nat.le_max_right _ _
  · intro l ih
    show max (rgrL p l).length (widL (rgrL p l)) ≤ max (max l.length (widL l)) (widT p)
    rw [rgrL_map, List.length_map]
    refine Nat.max_le.mpr ⟨Nat.le_trans (Nat.le_max_left _ _) (Nat.le_max_left _ _), wid_le fun u hu => ?_⟩
    obtain ⟨t, ht, rfl⟩ := List.mem_map.mp hu
    have h1 := ih t ht
    have h2 := wid_mem ht
    omega
theorem dep_mem {t : T} {l : List T} (h : t ∈ l) : t.dep < (T.bas l).dep := by
  have : ∀ {l : List T}, t ∈ l → t.dep ≤ depL l := by
    intro l
    induction l with
    | nil => exact fun h => absurd h List.not_mem_nil
    | cons u l ih =>
      intro h
      show _ ≤ max u.dep (depL l)
      rcases List.mem_cons.mp h with e | e
      · rw [e]; exact Nat.le_max_left _ _
      · exact Nat.le_trans (ih e) (Nat.le_max_right _ _)
  have h2 := this h
  have h3 : (T.bas l).dep = 1 + depL l := rfl
  omega
def NormOk (t : T) : Prop := t.size ≤ 4900 ∧ widT t < 64 ∧ t.dep < 800
theorem normOk_of {t : T} (h : t.size ≤ 60) : NormOk t := ⟨by omega, by have := wid_size t; omega, by have := dep_le_size t; omega⟩
theorem normOk_rgr {p t : T} (hp : Can p) (h1 : t.size ≤ 60) (h2 : p.size ≤ 60) : NormOk (rgr p t) := by
  have e := grf_size p t
  have e1 : t.jts * p.size ≤ 60 * 60 := Nat.mul_le_mul (by have := jts_le t; omega) h2
  refine ⟨by rw [rgr_size p t hp]; omega, ?_, ?_⟩
  · have a := wid_rgr p t
    have b := wid_size t
    have c := wid_size p
    omega
  · rw [rgr_dep p t hp, grf_dep]
    have a := dep_le_size t
    have b := dep_le_size p
    have d : t.lng ≤ t.size := by
      have : ∀ t : T, t.lng ≤ t.dep := by
        apply T.ind'
        · exact Nat.le_refl _
        · intro l ih
          have hl : ∀ l : List T, (∀ t ∈ l, t.lng ≤ t.dep) → lngL l ≤ depL l := by
            intro l
            induction l with
            | nil => exact fun _ => Nat.le_refl _
            | cons t l ih =>
              intro h
              have h1 := h t List.mem_cons_self
              have h2 := ih fun u hu => h u (List.mem_cons_of_mem _ hu)
              simp only [lngL, depL]
              split <;> omega
          have := hl l ih
          show 1 + lngL l ≤ 1 + depL l
          omega
      have := this t
      omega
    split <;> omega
end JW
namespace AL
open PySem PySem.Spec PyProof.Rows L2 LamX JW
theorem loop_k {g : ATG} {b : ATS} {N : AEnds} {G : Store → Prop} (items : List D) (I : Nat → En → Store → Prop) (hG : ∀ i env L, i ≤ items.length → I i env L → G L)
    (hs : ∀ i d env L (n : En → Store → Prop), items[i]? = some d → (∀ e l, I (i + 1) e l → n e l) → I i env L → g d env L fun env1 L1 => b { N with nx := n, ct := n, bk := N.nx } env1 L1) (hd : ∀ env L, I items.length env L → N.nx env L) : ∀ env L, I 0 env L → loopA g b N G items env L := by
  have : ∀ (k i : Nat), i + k = items.length → ∀ env L, I i env L → loopA g b N G (items.drop i) env L := by
    intro k
    induction k with
    | zero =>
      intro i hi env L h
      have e : i = items.length := by omega
      subst e
      rw [List.drop_length]
      exact ⟨hG _ _ _ (Nat.le_refl _) h, hd _ _ h⟩
    | succ k ih =>
      intro i hi env L h
      have hlt : i < items.length := by omega
      rw [List.drop_eq_getElem_cons hlt]
      exact ⟨hG i _ _ (Nat.le_of_lt hlt) h, hs i _ env L _ (List.getElem?_eq_getElem hlt) (fun e l z => ih (i + 1) (by omega) e l z) h⟩
  intro env L h
  exact this items.length 0 (by omega) env L h
theorem loop_map {α : Type} {g : ATG} {b : ATS} {N : AEnds} {G : Store → Prop} (f : α → D) (ts : List α) (I : List α → En → Store → Prop) (hG : ∀ p e l, I p e l → G l)
    (step : ∀ (pre : List α) t (rest : List α) (n : En → Store → Prop), ts = pre ++ t :: rest → (∀ e l, I (pre ++ [t]) e l → n e l) → ∀ env L, I pre env L → g (f t) env L fun env1 L1 => b { N with nx := n, ct := n, bk := N.nx } env1 L1)
    (hd : ∀ env L, I ts env L → N.nx env L) : ∀ env L, I [] env L → loopA g b N G (ts.map f) env L := by
  have : ∀ (rest pre : List α), ts = pre ++ rest → ∀ env L, I pre env L → loopA g b N G (rest.map f) env L := by
    intro rest
    induction rest with
    | nil => exact fun pre e env L h => ⟨hG _ _ _ h, hd _ _ (by rw [e, List.append_nil]; exact h)⟩
    | cons t rest ih => exact fun pre e env L h => ⟨hG _ _ _ h, step pre t rest _ e (fun env1 L1 h1 => ih (pre ++ [t]) (by rw [List.append_assoc]; exact e) env1 L1 h1) env L h⟩
  exact this ts [] rfl
end AL
namespace AL
open PySem PySem.Spec PyProof.Rows L2 LamX JW
section
variable {X : Cx} {c : AC X.K}
end
end AL
namespace L2
open PySem PySem.Spec PyProof.Rows
section
variable {X : Cx}
end
end L2
namespace JW
open PySem PySem.Spec PyProof.Rows L2
section
variable {X : Cx} {CX : CXT} {k : Nat} {ps : List Str} {sp : Sp} {E : XK} {C : Addr}
end
end JW
namespace AL
open PySem PySem.Spec PyProof.Rows L2 LamX JW
def aListRg (a : ATE) : ATE := fun env L Q => a env L fun d L1 => ∃ n : Nat, d = .int (n : Nat) ∧ n ≤ 10000 ∧ ∀ q, L1 q = none → Q (.ref q) (sput L1 q (.lst (rngD 0 n)))
section
variable {X : Cx} {c : AC X.K} {H0 : Hp} {e : Expr} {a : ATE} {pos p p2 : Pos} {k : Nat} {ps : List Str} {qual : Str} {st : Stmt}
theorem ae_listRg (hc : X.calm = true) (hg : Gl X "list") (hm : X.mg "list" = none) (hg2 : Gl X "range") (hm2 : X.mg "range" = none) (ha : AE X c H0 e a)
    (na : starEach [Expr.Call (.Name "range" p2) [e] [] pos] X.env = (false, eval (Expr.Call (.Name "range" p2) [e] [] pos) X.env) :: starEach [] X.env := by rfl) (nb : starEach [e] X.env = (false, eval e X.env) :: starEach [] X.env := by rfl) {pos2 : Pos} :
    AE X c H0 (.Call (.Name "list" p) [.Call (.Name "range" p2) [e] [] pos] [] pos2) (aListRg a) := by
  refine (pe_listRg hc hg hm (prg_1 hg2 hm2 ha nb) na).imp fun σ H Q ⟨env, L, R, rl, h, pq⟩ => ?_
  refine ⟨env, L, _, rl, h, fun d L1 x H1 q s1 g1 r1 => ?_⟩
  obtain ⟨n, rfl, hn, q⟩ := q
  cases rep_int.mp r1
  refine ⟨_, rfl, .of_le (by omega) (by omega) (by omega) (by omega), fun r hr => ?_⟩
  refine (pq.fr s1).alloc hr (q r (g1.fresh hr)) g1 ⟨_, upd_same, ?_⟩
  have e1 : rngD 0 n = ((List.range n).map fun i => (0 + (i : Nat) : Int)).map D.int := by
    rw [List.map_map]
    rfl
  have e2 : rgV 0 (n : Nat) = ((List.range n).map fun i => (0 + (i : Nat) : Int)).map V.int := by
    unfold rgV
    rw [List.map_map, Int.sub_zero, Int.toNat_natCast]
    rfl
  rw [e1, e2]
  exact RepL.ints.mpr rfl
end
end AL
namespace JW
open PySem PySem.Spec PyProof.Rows L2
section
variable {X : Cx} {p pos : Pos} {x : Str} {C : Addr} {k : Nat} {ps : List Str}
end
end JW
namespace AL
open PySem PySem.Spec PyProof.Rows L2 JW
theorem comp_accP {g : ATG} {a : ATE} {G : Store → Prop} {p : Addr} {env : En} {Q : AQ} {L0 : Store} (P : D → Prop) (hG : ∀ l, G (sput L0 p (.lst l))) : ∀ (ds acc : List D), acc.length + ds.length ≤ sizeLine →
    (∀ d ∈ ds, ∀ (l : List D) (k : AQ), (∀ x, P x → k x (sput L0 p (.lst l))) → g d env (sput L0 p (.lst l)) fun env1 L1 => L1 = sput L0 p (.lst l) ∧ a env1 L1 k) → (∀ x ∈ acc, P x) →
    (∀ xs : List D, xs.length = acc.length + ds.length → (∀ x ∈ xs, P x) → Q (.ref p) (sput L0 p (.lst xs))) → compA g aYes a G p env Q ds acc (sput L0 p (.lst acc))
  | [], acc, hz, hs, ha, q => ⟨hG acc, sput_same, q acc rfl ha⟩
  | d :: ds, acc, hz, hs, ha, q => by
    rw [List.length_cons] at hz
    refine ⟨hG acc, sput_same, hs d List.mem_cons_self acc _ fun x hx => ?_⟩
    refine ⟨by omega, sput_same, ?_⟩
    rw [sput_sput]
    refine comp_accP P hG ds (acc ++ [x]) (by rw [List.length_append, List.length_singleton]; omega) (fun d' h' => hs d' (List.mem_cons_of_mem _ h')) (fun y hy => ?_) fun xs hl hx => q xs ?_ hx
    · rcases List.mem_append.mp hy with e | e
      · exact ha y e
      · rw [List.mem_singleton.mp e]; exact hx
    · rw [hl]
      simp only [List.length_append, List.length_cons, List.length_nil]
      omega
theorem comp_mapA {α : Type} {g : ATG} {a : ATE} {G : Store → Prop} {p : Addr} {env : En} {Q : AQ} {L0 : Store} (f h : α → D) (hG : ∀ l, G (sput L0 p (.lst l))) : ∀ (ws : List α) (acc : List D), acc.length + ws.length ≤ sizeLine →
    (∀ w ∈ ws, ∀ (l : List D) (k : AQ), k (h w) (sput L0 p (.lst l)) → g (f w) env (sput L0 p (.lst l)) fun env1 L1 => L1 = sput L0 p (.lst l) ∧ a env1 L1 k) →
    Q (.ref p) (sput L0 p (.lst (acc ++ ws.map h))) → compA g aYes a G p env Q (ws.map f) acc (sput L0 p (.lst acc))
  | [], acc, hz, hs, q => ⟨hG acc, sput_same, by rw [List.map_nil, List.append_nil] at q; exact q⟩
  | w :: ws, acc, hz, hs, q => by
    rw [List.length_cons] at hz
    refine ⟨hG acc, sput_same, hs w List.mem_cons_self acc _ ?_⟩
    refine ⟨by omega, sput_same, ?_⟩
    rw [sput_sput]
    refine comp_mapA f h hG ws (acc ++ [h w]) (by rw [List.length_append, List.length_singleton]; omega) (fun d' h' => hs d' (List.mem_cons_of_mem _ h')) ?_
    rw [List.append_assoc]
    exact q
theorem perm_mapD {α β : Type} {f : α → β} : ∀ {ys zs : List β}, ys.Perm zs → ∀ {l : List α}, zs = l.map f → ∃ us : List α, us.Perm l ∧ ys = us.map f := by
  intro ys zs p
  induction p with
  | nil => exact fun {l} e => ⟨l, .refl _, e⟩
  | cons x p ih =>
    intro l e
    match l, e with
    | a :: l, e =>
      obtain ⟨e1, e2⟩ := List.cons.inj e
      obtain ⟨us, pu, e3⟩ := ih e2
      exact ⟨a :: us, pu.cons a, by rw [e1, e3]; rfl⟩
  | swap x y p =>
    intro l e
    match l, e with
    | a :: b :: l, e =>
      obtain ⟨e1, e2⟩ := List.cons.inj e
      obtain ⟨e3, e4⟩ := List.cons.inj e2
      exact ⟨b :: a :: l, .swap a b l, by rw [e1, e3, e4]; rfl⟩
  | trans p q ih1 ih2 =>
    intro l e
    obtain ⟨us, pu, e1⟩ := ih2 e
    obtain ⟨vs, pv, e2⟩ := ih1 e1
    exact ⟨vs, pv.trans pu, e2⟩
end AL
namespace AL
open PySem PySem.Spec PyProof.Rows L2 LamX JW
section
open PySem.SeqAt AutoSeq1 MeetsSeq MeetsSeq2 MeetsSeq3
variable {prog : Program} {w : World} {A : Around} {R : Result → Shared → Prop}
end
section
variable {X : Cx} {c : AC X.K} {k : Nat} {ps : List Str} {H : Hp} {σ : L2.St} {pins : List (Addr × Obj)}
end
end AL
namespace AL
open PySem PySem.Spec PyProof.Rows L2 LamX JW
section
variable {X : Cx} {c : AC X.K} {H : Hp} {σ : L2.St} {pins : List (Addr × Obj)}
end
end AL
namespace AL
open PySem PySem.Spec PyProof.Rows L2 LamX JW
section
variable {X : Cx} {c : AC X.K} {H0 : Hp} {e : Expr} {a : ATE} {pos p p2 pos2 : Pos} {k : Nat} {ps : List Str} {x f : Str} {RX : AX} {E : XK}
end
section
variable {P : Program} {w : World} {K : PySem.W.Frag} {mg : Str → Option Value} {base : Heap} {c : AC K} {m qual : Str} {st : Stmt} {N ps : List Str} {k : Nat} {asp : ASp} {C : Addr}
end
end AL
namespace AL
open PySem PySem.Spec PyProof.Rows L2 LamX JW
section
variable {X : Cx} {c : AC X.K} {H0 : Hp}
end
def recv (K : PySem.W.Frag) (C : Addr) (m : Str) : D → Store → Prop
  | .tree _, _ => C = cF K ∧ m ∉ [("written" : Str), "branches", "numbers"]
  | .obj C' ks _, _ => C' = C ∧ m ∉ ks
  | .ref p, L => ∃ ks ds, L p = some (.ins C ks ds) ∧ m ∉ ks
  | _, _ => False
theorem zip_lookup {ks : List Str} {m : Str} (h : m ∉ ks) : ∀ vs : List V, (ks.zip vs).lookup m = none := by
  induction ks with
  | nil => intro vs; rfl
  | cons k ks ih =>
    intro vs
    cases vs with
    | nil => rfl
    | cons v vs =>
      have h1 : (m == k) = false := beq_eq_false_iff_ne.mpr fun e => h (e ▸ List.mem_cons_self)
      show (match m == k with | true => some v | false => (ks.zip vs).lookup m) = none
      rw [h1]
      exact ih (fun z => h (List.mem_cons_of_mem _ z)) vs
theorem flds_lookup {m : Str} (h : m ∉ [("written" : Str), "branches", "numbers"]) (t : T) (b n : Addr) : (flds t b n).lookup m = none := by
  have e : flds t b n = [("written" : Str), "branches", "numbers"].zip ((flds t b n).map (·.2)) := rfl
  rw [e]
  exact zip_lookup h _
theorem recv_low {K : PySem.W.Frag} {c : AC K} {C : Addr} {m : Str} {d : D} {v : V} {L : Store} {H : Hp} (r : Rep c H d v) (g : Good c L H) (h : recv K C m d L) : ∃ p dx fs, v = .ref p ∧ H p = some (.ins C dx fs) ∧ fs.lookup m = none := by
  unfold recv at h
  split at h
  · obtain ⟨rfl, hm⟩ := h
    obtain ⟨p, dx, b, n, vs, rfl, h1, _⟩ := ftn_iff.mp (rep_tree.mp r)
    exact ⟨p, dx, _, rfl, h1, flds_lookup hm _ _ _⟩
  · obtain ⟨rfl, hm⟩ := h
    obtain ⟨p, dx, vs, rfl, h1, _⟩ := rep_obj.mp r
    exact ⟨p, dx, _, rfl, h1, zip_lookup hm _⟩
  · obtain ⟨ks, ds, h1, hm⟩ := h
    cases rep_ref.mp r
    obtain ⟨dx, vs, e, _⟩ := g.st _ _ h1
    exact ⟨_, dx, _, rfl, e, zip_lookup hm _⟩
  · exact h.elim
section
variable {X : Cx} {CX : CXT} {k : Nat} {f C : Addr} {fd : FuncData} {ps : List Str} {sp : Sp} {dvs : List V} {ds : List Value} {E : L2.St → XK} {x m : Str} {p pos apos : Pos} {e o a b : Expr} {es : List Expr} {ta tb : TE} {t : TA}
end
section
variable {X : Cx} {c : AC X.K} {H0 : Hp} {e o f : Expr} {es : List Expr} {a b : ATE} {as : ATA} {x m : Str} {p p1 p2 pos apos : Pos} {k : Nat} {ps : List Str} {asp : ASp} {RXe : En → AX} {dvs : List V} {dd : List D} {C : Addr}
end
section
variable {X : Cx} {CX : CXT} {k : Nat} {f C : Addr} {fd : FuncData} {ps : List Str} {ds : List Value} {dvs : List V} {sp : Sp} {E : L2.St → XK}
end
section
variable {X : Cx} {c : AC X.K} {H0 : Hp} {e f : Expr} {a b : ATE} {pos : Pos} {k : Nat} {ps : List Str} {asp : ASp} {qual : Str} {st : Stmt} {RXe : En → AX}
end
theorem ErrR.fr {K : PySem.W.Frag} {c : AC K} {H H' : Hp} {fs : List (Str × D)} {dd : Option Addr} (h : ErrR c H fs dd) (s : Fr c H H') : ErrR c H' fs dd := by
  rcases h with h | ⟨f, d, a, v, e1, e2, e3, r⟩
  · exact .inl h
  · exact .inr ⟨f, d, a, v, e1, e2, s _ _ e3 trivial, r.fr s⟩
section
variable {X : Cx} {c : AC X.K} {H0 : Hp} {x n : Str} {C : Value} {i : Nat} {body suite : List Stmt} {b₀ : Stmt} {np pos pos' : Pos} {tb : (En → AX) → ATS} {ts : Addr → Str → List (Str × D) → ATS}
end
section
variable {X : Cx} {c : AC X.K} {H1 : Hp} {a : Addr} {oe : Obj} {cls : Value} {d : Option Addr} {pn : List (Addr × Obj)} {y : Str} {fs : List (Str × D)} {i : Nat} {n z f : Str} {p p1 p2 pos : Pos} {C : Addr}
end
end AL
namespace JW
open PySem PySem.Spec PyProof.Rows L2
def Calm (A : Around) : Prop := A.guards = some []
theorem Calm.deeper {A : Around} {env : Env} (h : Calm A) : Calm (A.deeper env) := by
  obtain ⟨hd, d, fr, gs, u⟩ := A
  have h : gs = some [] := h
  subst h
  simp [Calm, Around.deeper, Around.over, guardsOf, pushGuards, Code.guards, Code.isGuard]
structure FnOkG (P : Program) (w : World) (K : PySem.W.Frag) (mg : Str → Option Value) (base : Heap) (cx : CXT) (k : Nat) (f : Addr) (fd : FuncData) (ps : List Str) (sp : Sp) : Prop where
  len : ∀ vs H Q E, sp vs H Q E → vs.length = ps.length
  go : ∀ (A : Around) (outs : List Env) (s : Shared) (H : Hp) (args : Args) (us : List Value) (vs : List V) (Q : VK) (E : XK), Calm A → Room k A → Env0 P w K mg base A outs s H → BindsTo s fd args (ps.zip us) → Vals vs us → sp vs H Q E →
    codeAny (model P w) A (.call (.ref f) args) (CR cx outs P w H s Q E) s
structure CallDG (P : Program) (w : World) (K : PySem.W.Frag) (mg : Str → Option Value) (base : Heap) (cx : CXT) (k : Nat) (x : Str) (ps : List Str) (sp : Sp) : Prop where
  ex : ∃ f fd, mg x = some (.ref f) ∧ PySem.W.keepIn K (.ref f) = true ∧ Binds K fd ps [] ∧ FnOkG P w K mg base cx k f fd ps sp
section
variable {P : Program} {w : World} {K : PySem.W.Frag} {mg : Str → Option Value} {base : Heap} {x qual : Str} {params : Arguments} {body : List Stmt} {scope : Scope} {dvs : List V} {kws : List (Str × V)} {f : Addr} {fd : FuncData}
theorem CallDG.mono {cx : CXT} {j k : Nat} {x : Str} {ps : List Str} {sp : Sp} (c : CallDG P w K mg base cx j x ps sp) (h : j ≤ k) : CallDG P w K mg base cx k x ps sp := by
  obtain ⟨f, fd, h1, h2, h3, F⟩ := c.ex
  exact ⟨f, fd, h1, h2, h3, F.len, fun A outs s H args us vs Q E hA hr => F.go A outs s H args us vs Q E hA (hr.mono h)⟩
end
section
variable {X : Cx} {cx : CXT} {k : Nat} {ps : List Str} {sp : Sp} {E : XK} {x : Str} {p pos : Pos} {e : Expr} {es : List Expr} {t : TA}
end
section
variable {P : Program} {w : World} {K : PySem.W.Frag} {mg mb : Str → Option Value} {cx : CXT} {k : Nat} {fa a : Addr} {ts : List (Addr × Addr)} {fd : FuncData} {x : Str} {sp : Sp} {s1 : Shared} {vs : List Value} {ns : List Int}
end
end JW
namespace AL
open PySem PySem.Spec PyProof.Rows L2 LamX JW
section
variable {P : Program} {w : World} {K : PySem.W.Frag} {mg : Str → Option Value} {base : Heap} {c : AC K} {x qual : Str} {st : Stmt} {N ps : List Str} {k : Nat} {asp : ASp}
end
section
variable {X : Cx} {c : AC X.K} {H0 : Hp} {e : Expr} {es : List Expr} {as : ATA} {x : Str} {p pos : Pos} {k : Nat} {ps : List Str} {asp : ASp}
end
end AL
namespace JW
open PySem PySem.Spec PyProof.Rows L2
section
variable {X : Cx} {CX : CXT} {k : Nat} {ps : List Str} {sp : Sp} {E : XK} {C : Addr}
end
end JW
namespace AL
open PySem PySem.Spec PyProof.Rows L2 LamX JW
section
variable {X : Cx} {c : AC X.K}
end
section
variable {X : Cx} {c : AC X.K} {k : Nat} {ps : List Str} {asp : ASp} {qual : Str} {st : Stmt}
end
end AL
namespace JW
open PySem PySem.Spec PyProof.Rows L2 Builtin Builtin.Str
end JW
namespace AL
open PySem PySem.Spec PyProof.Rows L2 JW
end AL
namespace JW
open PySem PySem.Spec PyProof.Rows L2
section
variable {X : Cx} {CX : CXT} {k : Nat} {f C : Addr} {fd : FuncData} {ps : List Str} {sp : Sp} {dvs : List V} {ds : List Value} {E : L2.St → XK} {x : Str} {p pos : Pos} {e : Expr} {es : List Expr} {t : TA}
end
end JW
namespace AL
open PySem PySem.Spec PyProof.Rows L2 LamX JW
section
variable {X : Cx} {c : AC X.K} {H0 : Hp} {e : Expr} {es : List Expr} {as : ATA} {x : Str} {p pos : Pos} {k : Nat} {ps : List Str} {asp : ASp} {RXe : En → AX} {dvs : List V} {C : Addr} {sp : Sp}
end
section
variable {X : Cx} {c : AC X.K} {H1 : Hp} {a : Addr} {oe : Obj} {cls : Value} {d : Option Addr} {pn : List (Addr × Obj)} {y : Str} {fs : List (Str × D)} {i : Nat} {n : Str} {p p1 p2 pos : Pos} {es : List Expr} {Cs : List Addr}
end
end AL
namespace AL
open PySem PySem.Spec PyProof.Rows L2 LamX JW
section
variable {X : Cx} {c : AC X.K} {H0 : Hp} {e : Expr} {as : ATA} {p pos tpos : Pos} {elts : List Expr} {kk : Nat}
end
end AL
namespace GK
open PySem PySem.Spec PyProof.Rows L2 LamX JW AL
section
variable {X : Cx} {c : AC X.K} {pins : List (Addr × Obj)} {env : En} {L : Store} {H : Hp} {s : Shared}
end
section
variable {X : Cx} {c : AC X.K} {e f : Expr} {a b : ATE} {as : ATA} {es : List Expr} {t : ATT} {pos p : Pos}
variable {x : Str} {C : Addr} {ps : List Str} {dvs : List V} {sp : Sp} {asp : ASp} {k : Nat}
end
end GK
namespace GK
open PySem PySem.Spec PyProof.Rows L2 LamX JW AL
section
variable {X : Cx} {c : AC X.K} {pins : List (Addr × Obj)} {env : En} {L : Store} {H : Hp} {s : Shared} {R : AQ} {f : Addr} {fd : FuncData} {ps : List Str} {asp : ASp} {k : Nat}
end
section
variable {X : Cx} {c : AC X.K} {e : Expr} {es : List Expr} {as : ATA} {a : ATE} {x : Str} {p pos : Pos} {ps : List Str} {asp : ASp} {k : Nat}
end
end GK
namespace GK
open PySem PySem.Spec PyProof.Rows L2 LamX JW AL
section
variable {P : Program} {w : World} {K : PySem.W.Frag} {mg : Str → Option Value} {base : Heap} {c : AC K} {x qual : Str} {st : Stmt} {N ps : List Str} {k : Nat} {asp : ASp}
end
end GK
namespace GK
open PySem PySem.Spec PyProof.Rows L2 LamX JW AL
section
variable {X : Cx} {c : AC X.K}
end
end GK
namespace GK
open PySem PySem.Spec PyProof.Rows L2 LamX JW AL
section
variable {X : Cx} {c : AC X.K} {pins : List (Addr × Obj)} {env : En} {L : Store} {H : Hp} {s : Shared} {R : AQ} {f : Addr} {fd : FuncData} {ps : List Str} {asp : ASp} {k : Nat}
end
section
variable {X : Cx} {c : AC X.K} {e : Expr} {es : List Expr} {as : ATA} {a : ATE} {x : Str} {p pos : Pos} {ps : List Str} {asp : ASp} {k : Nat}
end
end GK
theorem _root_.JW.CmD.imp {P : PySem.Program} {w : PySem.World} {K : PySem.W.Frag} {mg : PySem.Str → Option PySem.Value} {base : PySem.Heap} {CX : L2.CXT} {k : Nat} {C : PySem.Addr} {m : PySem.Str} {ps : List PySem.Str} {sp sp' : L2.Sp} (M : JW.CmD P w K mg base CX k C m ps sp) (h : ∀ vs H Q E, sp' vs H Q E → sp vs H Q E) : JW.CmD P w K mg base CX k C m ps sp' := by
  obtain ⟨mc, p, f, fd, h1, h2, h3, F⟩ := M.ex
  exact ⟨mc, p, f, fd, h1, h2, h3, F.imp h⟩
namespace GK
open PySem PySem.Spec PyProof.Rows L2 LamX JW AL
section
variable {X : Cx} {c : AC X.K} {e : Expr} {es : List Expr} {as : ATA} {x : Str} {p pos : Pos} {k : Nat} {ps : List Str} {asp : ASp}
end
end GK
namespace GK
open PySem PySem.Spec PyProof.Rows L2 LamX JW AL
section
variable {X : Cx} {c : AC X.K} {pins : List (Addr × Obj)} {env : En} {L : Store} {H : Hp} {s : Shared} {kk : Nat}
end
end GK
namespace GK
open PySem PySem.Spec PyProof.Rows L2 LamX JW AL
section
variable {X : Cx} {c : AC X.K} {pins : List (Addr × Obj)} {env : En} {L : Store} {H : Hp} {s : Shared}
end
section
variable {X : Cx} {c : AC X.K} {e : Expr} {es : List Expr} {as : ATA} {a : ATE} {pos : Pos}
end
end GK
namespace GK
open PySem PySem.Spec PyProof.Rows L2 LamX JW AL
section
variable {X : Cx} {c : AC X.K} {e f : Expr} {a b : ATE} {as : ATA} {es : List Expr} {t : ATT} {pos p : Pos} {x : Str} {C : Addr} {ps : List Str} {dvs : List V} {sp : Sp} {asp : ASp} {k : Nat}
end
end GK
namespace JW
open PySem PySem.Spec PyProof.Rows L2
end JW
namespace AL
open PySem PySem.Spec PyProof.Rows L2 LamX JW
section
variable {X : Cx} {c : AC X.K} {H0 : Hp} {e e2 : Expr} {as : ATA} {dv : ATE} {p pos kp : Pos} {x : Str}
end
end AL
namespace GK
open PySem PySem.Spec PyProof.Rows L2 LamX JW AL
section
variable {P : Program} {w : World} {K : PySem.W.Frag} {mg : Str → Option Value} {base : Heap} {c : AC K} {x qual : Str} {st : Stmt} {N ps : List Str} {k : Nat} {asp : ASp}
end
end GK
namespace AL
open PySem PySem.Spec PyProof.Rows L2 LamX JW
def sackM (g : Addr) : MO := .opq fun o => ∃ a b c : Int, o = .dK (sackD g a b c)
def intsM (ns : List Int) : MO := .lst (ns.map .int)
def SkAt (L : Store) (d g : Addr) : Prop := d ≠ g ∧ L d = some (sackM g) ∧ ∃ ns, L g = some (intsM ns)
def Sk (g : Addr) (L L' : Store) : Prop := ∀ p m, p ≠ g → L p = some m → L' p = some m
section
variable {L L1 L2 : Store} {d g p : Addr} {m : MO} {ns : List Int}
theorem Sk.refl (g : Addr) (L : Store) : Sk g L L := fun _ _ _ h => h
theorem Sk.trans (a : Sk g L L1) (b : Sk g L1 L2) : Sk g L L2 := fun p m n h => b p m n (a p m n h)
theorem Sk.of (s : SubS L L1) : Sk g L L1 := fun p m _ h => s p m h
theorem Sk.new (a : Sk g L L1) (hp : L1 p = none) : Sk g L (sput L1 p m) := fun q n ne h => sput_old (a q n ne h) hp
theorem Sk.at (a : Sk g L L1) : Sk g L (sput L1 g m) := fun q n ne h => by rw [sput_ne ne]; exact a q n ne h
theorem Sk.put (a : Sk g L L1) (hp : L p = none) : Sk g L (sput L1 p m) := fun q n ne h => by
  rw [sput_ne fun e => by rw [e, hp] at h; cases h]
  exact a q n ne h
theorem Sk.nil (a : Sk g L L1) (ne : p ≠ g) (hp : L1 p = none) : L p = none := by
  cases e : L p with
  | none => rfl
  | some m => rw [a p m ne e] at hp; cases hp
theorem SkAt.ne (h : SkAt L d g) (hp : L p = none) : p ≠ d ∧ p ≠ g := by
  obtain ⟨_, h1, ns, h2⟩ := h
  exact ⟨fun e => (by rw [e, h1] at hp; cases hp), fun e => (by rw [e, h2] at hp; cases hp)⟩
theorem SkAt.new (h : SkAt L d g) (hp : L p = none) : SkAt (sput L p m) d g := by
  obtain ⟨n1, n2⟩ := h.ne hp
  obtain ⟨n, h1, ns, h2⟩ := h
  exact ⟨n, by rw [sput_ne n1.symm]; exact h1, ns, by rw [sput_ne n2.symm]; exact h2⟩
theorem SkAt.off (h : SkAt L d g) (n1 : p ≠ d) (n2 : p ≠ g) : SkAt (sput L p m) d g := by
  obtain ⟨n, h1, ns, h2⟩ := h
  exact ⟨n, by rw [sput_ne n1.symm]; exact h1, ns, by rw [sput_ne n2.symm]; exact h2⟩
theorem SkAt.at (h : SkAt L d g) (ns : List Int) : SkAt (sput L g (intsM ns)) d g := by
  obtain ⟨n, h1, _⟩ := h
  exact ⟨n, by rw [sput_ne n]; exact h1, ns, sput_same⟩
theorem SkAt.sub (h : SkAt L d g) (s : SubS L L1) : SkAt L1 d g := ⟨h.1, s _ _ h.2.1, let ⟨ns, e⟩ := h.2.2; ⟨ns, s _ _ e⟩⟩
theorem Sk.end (a : Sk g L L1) (h : SkAt L1 d g) {R : AQ} {x : D} (r : ∀ ns, R x (sput L g (intsM ns))) : ∃ L0, SubS L0 L1 ∧ R x L0 := by
  obtain ⟨_, _, ns, e⟩ := h
  refine ⟨sput L g (intsM ns), fun p m q => ?_, r ns⟩
  by_cases z : p = g
  · subst z
    rw [sput_same] at q
    cases q
    exact e
  · rw [sput_ne z] at q
    exact a p m z q
theorem Sk.endN (a : Sk g L L1) (h : SkAt L1 d g) (hp : L p = none) (hpg : p ≠ g) (hm : L1 p = some m) {R : AQ} {x : D} (r : ∀ ns, R x (sput (sput L g (intsM ns)) p m)) : ∃ L0, SubS L0 L1 ∧ R x L0 := by
  obtain ⟨_, _, ns, e⟩ := h
  refine ⟨sput (sput L g (intsM ns)) p m, fun q n e2 => ?_, r ns⟩
  by_cases z : q = p
  · subst z
    rw [sput_same] at e2
    cases e2
    exact hm
  · rw [sput_ne z] at e2
    by_cases z2 : q = g
    · subst z2
      rw [sput_same] at e2
      cases e2
      exact e
    · rw [sput_ne z2] at e2
      exact a q n z2 e2
end
section
variable {K : PySem.W.Frag} {c : AC K} {H H' : Hp} {L : Store} {d g : Addr}
end
end AL
namespace JW
end JW
namespace AL
open PySem PySem.Spec PyProof.Rows L2 LamX JW
section
variable {X : Cx} {c : AC X.K} {k : Nat} {ps : List Str} {pins : List (Addr × Obj)} {σ : L2.St} {H : Hp}
end
end AL
namespace AL
open PySem PySem.Spec PyProof.Rows L2 LamX JW
section
variable {X : Cx} {c : AC X.K}
end
end AL
namespace AL
open PySem PySem.Spec PyProof.Rows L2 LamX JW
section
variable {K : PySem.W.Frag} {c : AC K} {H : Hp} {L : Store}
end
section
variable {X : Cx} {c : AC X.K} {H0 : Hp} {e f : Expr} {as : ATA} {p pos tpos : Pos} {elts : List Expr} {kk : Nat}
end
end AL
namespace JW
open PySem PySem.Spec PyProof.Rows L2
section
variable {P : Program} {w : World} {K : PySem.W.Frag} {mg : Str → Option Value} {base : Heap}
end
end JW
namespace AL
open PySem PySem.Spec PyProof.Rows L2 LamX JW
section
variable {P : Program} {w : World} {K : PySem.W.Frag} {mg : Str → Option Value} {base : Heap} {c : AC K} {x m qual : Str} {st : Stmt} {N : List Str} {k : Nat} {asp : ASp} {pv : Str}
end
section
variable {X : Cx} {c : AC X.K} {H0 : Hp} {e : Expr} {es : List Expr} {as : ATA} {x : Str} {p pos : Pos} {k : Nat} {asp : ASp} {CX : CXT} {E : XK} {RX : AX}
end
end AL
namespace L2
open PySem PySem.Spec PyProof.Rows
section
variable {X : Cx}
end
end L2
namespace AL
open PySem PySem.Spec PyProof.Rows L2 LamX JW
section
variable {X : Cx} {c : AC X.K}
end
end AL
namespace AL
open PySem PySem.Spec PyProof.Rows L2 LamX JW
end AL
namespace AL
open PySem PySem.Spec PyProof.Rows L2 LamX JW
section
variable {X : Cx} {c : AC X.K}
end
end AL
namespace JW
open PySem PySem.Spec PyProof.Rows
section
variable {α : Type} [DecidableEq α]
end
theorem mem_prod_le {l : List T} (h : ∀ t ∈ l, Op t) {u : T} (hu : u ∈ l) : u.size ≤ (prodT l).size ∧ u.dep ≤ (prodT l).dep := by
  obtain ⟨a, c, e⟩ := List.append_of_mem hu
  rw [e] at h ⊢
  have p := part_le (a := a) (b := [u]) (c := c) (fun x hx => h x (by simp [hx])) (fun x hx => h x (by rw [List.mem_singleton.mp hx]; simp)) (fun x hx => h x (by simp [hx]))
  have e2 : a ++ [u] ++ c = a ++ u :: c := by simp
  rw [e2] at p
  exact p
end JW
namespace JW
open PySem PySem.Spec PyProof.Rows
end JW
namespace JW
open PySem PySem.Spec PyProof.Rows
end JW
namespace JW
open PySem PySem.Spec PyProof.Rows
end JW
namespace JW
open PySem PySem.Spec PyProof.Rows
theorem lng_dep : ∀ t : T, t.lng ≤ t.dep := by
  apply T.ind'
  · exact Nat.le_refl _
  · intro l ih
    have hl : ∀ l : List T, (∀ t ∈ l, t.lng ≤ t.dep) → lngL l ≤ depL l := by
      intro l
      induction l with
      | nil => exact fun _ => Nat.le_refl _
      | cons t l ih =>
        intro h
        have h1 := h t List.mem_cons_self
        have h2 := ih fun u hu => h u (List.mem_cons_of_mem _ hu)
        simp only [lngL, depL]
        split <;> omega
    have := hl l ih
    show 1 + lngL l ≤ 1 + depL l
    omega
end JW
namespace AL
open PySem PySem.Spec PyProof.Rows L2 LamX JW
end AL
namespace AL
open PySem PySem.Spec PyProof.Rows L2 LamX JW
section
variable {X : Cx} {c : AC X.K} {H0 : Hp} {e : Expr} {es : List Expr} {as : ATA} {x : Str} {p pos : Pos} {k : Nat} {asp : ASp}
end
end AL
namespace PySem
namespace JWX
open Builtin Builtin.ObjectAttr PySem.HandSPX
section
open PySem.W (Looks InitBack kdv_tup)
variable {prog : Program} {w : World} {A : Around} {R : Result → Shared → Prop} {hp : Heap} {gs : Array GenState} {dr : Drawn} {tk : Nat} {os : OsState}
variable {nm qn : Str} {C N : Addr} {bs bm bmB : List Value} {hd : Bool} {sn : List Str} {sub : List Value} {ab : Bool} {col : Option Bool} {dd : Option Addr} {k0 k1 k2 k3 k5 : Option Value} {B newId initId : String}
end
end JWX
end PySem
namespace JW
open PySem PySem.Spec PyProof.Rows L2
section
variable {P : Program} {w : World} {K : PySem.W.Frag} {mg : Str → Option Value} {base : Heap} {C : Addr} {x f : Str}
end
section
variable {X : Cx} {p pos : Pos} {x f : Str} {C fI : Addr} {k : Nat} {ps : List Str} {fd : FuncData} {e : Expr} {te : TE} {kws : List Keyword} {tk : TA} {pins : List (Addr × Obj)} {σ : L2.St} {H : Hp} {s : Shared} {Q : VK}
end
section
variable {X : Cx} {p pos : Pos} {x : Str} {C : Addr} {k : Nat} {ps : List Str}
end
end JW
namespace JW
open PySem PySem.Spec PyProof.Rows L2 AL
section
variable {X : Cx} {pins : List (Addr × Obj)} {σ : L2.St} {H : Hp} {s : Shared} {a C : Addr} {fs : List (Str × V)} {o : Expr} {te : TE} {pos : Pos} {f : Str}
end
section
variable {P : Program} {w : World} {K : PySem.W.Frag} {mg : Str → Option Value} {base : Heap} {CX : CXT} {C : Addr} {x n : Str}
end
end JW
namespace AL
open PySem PySem.Spec PyProof.Rows L2 LamX JW
section
variable {X : Cx} {c : AC X.K} {H0 H1 : Hp} {e o : Expr} {a : ATE} {x f : Str} {p pos kpos : Pos} {C : Addr} {k : Nat} {ps : List Str} {L : Store} {R : AQ} {Q : VK}
end
theorem agN12_len {i j l : Nat} : ∀ (ds : List D) (env : En) (L : Store) (R : En → Store → Prop), agCons (agName i) (agCons (agTup (agCons (agName j) (agCons (agName l) agNil))) agNil) ds env L R → ds.length = 2 := fun ds env L R h => by
  cases ds with
  | nil => exact h.elim
  | cons a ds =>
    cases ds with
    | nil => exact h.elim
    | cons b rest =>
      have h : agTup (agCons (agName j) (agCons (agName l) agNil)) b (env.set i (some a)) L fun e m => agNil rest e m R := h
      cases b with
      | tup bs =>
        cases bs with
        | nil => exact h.elim
        | cons x bs =>
          cases bs with
          | nil => exact h.elim
          | cons y bs =>
            have h : bs = [] ∧ (rest = [] ∧ R _ L) := h
            rw [h.2.1]
            rfl
      | _ => exact h.elim
end AL
namespace AL
open PySem PySem.Spec PyProof.Rows L2 LamX JW
section
variable {X : Cx} {b : Expr} {tb : TE} {pos dp p1 p2 p3 p4 p5 p6 p7 p8 p9 : Pos} {j1 j2 j3 j4 j5 j6 j7}
end
section
variable {X : Cx} {c : AC X.K} {H0 : Hp} {i j : Nat} {x y : Str} {pos dp p1 p2 p3 p4 p5 p6 p7 p8 q1 q2 q3 : Pos} {j1 j2 j3 j4 j5 j6 j7}
end
end AL
namespace JW
open PySem PySem.Spec PyProof.Rows L2 LamX He
structure ClsO (K : PySem.W.Frag) (mg : Str → Option Value) (x : Str) : Prop where
  g : mg x = some (.ref (He.ga K x))
  c : Cls K (He.ga K x)
  hcl : PySem.W.findIn K (.ref (He.ga K x)) "__class__" = some (some (.builtin "object.__class__"))
  hgs : PySem.W.specialIn K (.builtin "object.__class__") "__get__" = some (some (.builtin "getset_descriptor.__get__"))
  htk : PySem.W.takesIn K (.builtin "object.__class__") = some true
  hmro : PySem.W.mroIn K (He.ga K x) (.type "object") = some true
  hne : PySem.W.findIn K (.ref (He.ga K x)) "__ne__" = some (some (.builtin "object.__ne__"))
  sf : PySem.W.selfFirst K (He.ga K x) = true
theorem clsO_of {K : PySem.W.Frag} {mg : Str → Option Value} {x : Str} (g : mg x = some (.ref (He.ga K x))) (c : Cls K (He.ga K x)) (h : clsX K x = true) : ClsO K mg x := by
  obtain ⟨h1, h2⟩ := ba h
  obtain ⟨h3, h4⟩ := ba h2
  obtain ⟨h5, h6⟩ := ba h4
  obtain ⟨h7, h8⟩ := ba h6
  obtain ⟨h9, h10⟩ := ba h8
  exact ⟨g, c, eqO_ok h1, eqO_ok h3, of_decide_eq_true h5, of_decide_eq_true h7, eqO_ok h9, h10⟩
end JW
namespace AL
open PySem PySem.Spec PyProof.Rows L2 LamX JW
section
variable {K : PySem.W.Frag} {c : AC K} {H : Hp}
end
section
variable {X : Cx} {c : AC X.K} {H0 : Hp} {e f : Expr} {a b : ATE} {pos p1 p2 dp : Pos} {j1 j2}
end
def aFldM (K : PySem.W.Frag) (f : Str) (a : ATE) : ATE := fun env L Q => a env L fun d L1 => ∃ p C ks ds v, d = .ref p ∧ L1 p = some (.ins C ks ds) ∧ Cls K C ∧ NoAttr K C f ∧ (ks.zip ds).lookup f = some v ∧ Q v L1
def asFldM (K : PySem.W.Frag) (f : Str) (a b : ATE) : ATS := fun D env L => b env L fun y L1 => a env L1 fun d L2 => ∃ p C ks ds, d = .ref p ∧ L2 p = some (.ins C ks ds) ∧ Cls K C ∧ NoAttr K C f ∧ (ks = [] ∨ ks = [f]) ∧ D.nx env (sput L2 p (.ins C [f] [y]))
def aPropM (K : PySem.W.Frag) (C : Addr) (m : Str) (asp : ASp) (a : ATE) : ATE := fun env L Q => a env L fun d L1 => recv K C m d L1 ∧ asp [d] L1 Q anyX
def aMethM (K : PySem.W.Frag) (C : Addr) (m : Str) (asp : ASp) (a : ATE) (as : ATA) : ATE := fun env L Q => a env L fun d L1 => recv K C m d L1 ∧ as env L1 fun ds L2 => asp (d :: ds) L2 Q anyX
def aMakeM (C : Addr) (asp : ASp) (as : ATA) : ATE := fun env L Q => as env L fun ds L1 => ∀ x, L1 x = none → asp (.ref x :: ds) (sput L1 x (.ins C [] [])) (fun d L2 => d = .non ∧ Q (.ref x) L2) anyX
theorem zip_low {K : PySem.W.Frag} {c : AC K} {H : Hp} {f : Str} : ∀ {ks : List Str} {ds : List D} {vs : List V} {d : D}, RepL c H ds vs → (ks.zip ds).lookup f = some d → ∃ v, (ks.zip vs).lookup f = some v ∧ Rep c H d v
  | [], _, _, _, _, h => by cases h
  | _ :: _, [], _, _, _, h => by cases h
  | k :: ks, x :: ds, vs, d, r, h => by
    obtain ⟨v, ws, rfl, r1, r2⟩ := repL_cons.mp r
    rw [List.zip_cons_cons, List.lookup_cons] at h
    rw [List.zip_cons_cons, List.lookup_cons]
    cases hb : (f == k) with
    | true =>
      rw [hb] at h
      cases h
      exact ⟨v, rfl, r1⟩
    | false =>
      rw [hb] at h
      exact zip_low r2 h
section
variable {X : Cx} {c : AC X.K} {H0 : Hp} {e o value : Expr} {es : List Expr} {a b : ATE} {as : ATA} {f x m : Str} {p pos pos' apos : Pos} {k : Nat} {ps : List Str} {asp : ASp} {C : Addr}
theorem ae_fldM {K : PySem.W.Frag} (eK : X.K = K) (he : AE X c H0 e a) (hb : attributeBase e f X.env (eval e X.env) = eval e X.env) : AE X c H0 (.Attribute e f pos) (aFldM K f a) := by
  subst eK
  refine (pe_fld he hb).imp fun σ H Q ⟨env, L, R, rl, h, pq⟩ => ?_
  refine ⟨env, L, _, rl, h, fun d L1 x H1 q s1 g1 r1 => ?_⟩
  obtain ⟨p, C, ks, ds, v, rfl, e1, hc, hn, hl, q⟩ := q
  cases rep_ref.mp r1
  obtain ⟨dx, vs, e2, _, _, rs⟩ := g1.st _ _ e1
  obtain ⟨w, e3, rw'⟩ := zip_low rs hl
  exact ⟨p, C, dx, _, w, rfl, e2, hc, hn, e3, pq v L1 w H1 q s1 g1 rw'⟩
theorem as_fldM {K : PySem.W.Frag} (eK : X.K = K) (ha : AE X c H0 o a) (hv : AE X c H0 value b) (hs : swapsWith value (some (.Attribute o f pos')) pos.line X.env = pure false := by rfl) : AS X c H0 (.Assign [.Attribute o f pos'] value pos) (asFldM K f a b) := by
  subst eK
  refine (ps_fld ha hv hs).imp fun D σ H ⟨env, L, R, rl, h, er⟩ => ?_
  refine ⟨env, L, _, rl, h, fun y L1 v H1 q1 s1 g1 r1 => ⟨env, L1, _, rl.step s1 g1, q1, fun d L2 x H2 q2 s2 g2 r2 => ?_⟩⟩
  obtain ⟨p, C, ks, ds, rfl, e1, hc, hn, hk, q⟩ := q2
  cases rep_ref.mp r2
  obtain ⟨dx, vs, e2, ni, hl, rs⟩ := g2.st _ _ e1
  have ef : (ks.zip vs).length < 1000 ∧ putF f v (ks.zip vs) = [f].zip [v] := by
    rcases hk with rfl | rfl
    · exact ⟨by show (0 : Nat) < 1000; decide, rfl⟩
    · have hlv := rs.len
      rw [← hl] at hlv
      match vs, hlv with
      | [w], _ =>
        refine ⟨by show (1 : Nat) < 1000; decide, ?_⟩
        show putF f v [(f, w)] = [(f, v)]
        unfold putF
        simp
  have f3 : Fr c H2 (upd H2 p (.ins C dx (putF f v (ks.zip vs)))) := .put e2 ni
  obtain ⟨g3, _⟩ := g2.put (m' := .ins C [f] [y]) e1 (.ins C dx (putF f v (ks.zip vs))) ⟨dx, [v], by rw [upd_same, ef.2], ni, rfl, .one ((r1.fr s2).fr f3)⟩
  exact ⟨p, C, dx, _, rfl, e2, hc, hn, ef.1, er.nx env _ σ _ q ((s1.trans s2).trans f3) (rl.step ((s1.trans s2).trans f3) g3)⟩
theorem ae_propM {K : PySem.W.Frag} (eK : X.K = K) (cl : Cls X.K C) (M : PropD X.prog X.w X.K X.mg X.base CX0 k C f (spA c asp)) (hr : Room (k + 1) X.A) (he : AE X c H0 e a) (hab : attributeBase e f X.env (eval e X.env) = eval e X.env) : AE X c H0 (.Attribute e f pos) (aPropM K C f asp a) := by
  subst eK
  refine (pe_propD (E := fun _ _ _ => True) cl M hr pass0 he hab).imp fun σ H Q ⟨env, L, R, rl, h, pq⟩ => ?_
  refine ⟨env, L, _, rl, h, fun d L1 x H1 ⟨qr, q⟩ s1 g1 r1 => ?_⟩
  obtain ⟨p, dx, fs, rfl, e1, e2⟩ := recv_low r1 g1 qr
  exact ⟨p, dx, fs, rfl, e1, [d], L1, R, anyX, .one r1, g1, q, pq.fr s1, px_any⟩
theorem ae_methM {pl : Sem Bool} {K : PySem.W.Frag} (eK : X.K = K) (cl : Cls X.K C) (M : MethD X.prog X.w X.K X.mg X.base CX0 k C m ps [] (spA c asp)) (hr : Room k X.A) (he : AE X c H0 o a) (ha : AA X c H0 (e :: es) as)
    (hst : starEach (e :: es) X.env = (false, eval e X.env) :: starEach es X.env := by rfl) (hpl : (backTo pos (starEach es X.env)).any (·.1) = false := by rfl)
    (ht : eval (.Call (.Attribute o m apos) (e :: es) [] pos) X.env = (do
      let ov ← eval o X.env
      standAt apos.atName
      let (f, first) ← holding [ov] (getMethod ov m pl)
      callWith pos f first (backTo pos (starEach (e :: es) X.env)) (backToKw pos (keywordEach [] X.env))) := by rfl) : AE X c H0 (.Call (.Attribute o m apos) (e :: es) [] pos) (aMethM K C m asp a as) := by
  subst eK
  refine (pe_methD (E := fun _ _ _ => True) cl M hr pass0 he ha hst hpl ht).imp fun σ H Q ⟨env, L, R, rl, h, pq⟩ => ?_
  refine ⟨env, L, _, rl, h, fun d L1 x H1 ⟨qr, q⟩ s1 g1 r1 => ?_⟩
  obtain ⟨p, dx, fs, rfl, e1, e2⟩ := recv_low r1 g1 qr
  refine ⟨p, dx, fs, rfl, e1, e2, env, L1, _, rl.step s1 g1, q, fun ds L2 us H2 q2 s2 g2 r2 => ?_⟩
  show spA c asp (V.ref p :: (us ++ [])) H2 Q fun _ _ _ => True
  rw [List.append_nil]
  exact ⟨_, L2, R, anyX, .cons (r1.fr s2) r2, g2, q2, pq.fr (s1.trans s2), px_any⟩
theorem ae_makeM (M : MakeD X.prog X.w X.K X.mg X.base CX0 k x C ps [] (spA c asp)) (hr : Room (k + 1) X.A) (hg : Gl X x) (ni : ¬ IC c C) (ha : AA X c H0 (e :: es) as) (hdb : (x == ("__debug__" : Str)) = false := by decide)
    (he : starEach (e :: es) X.env = (false, eval e X.env) :: starEach es X.env := by rfl) (hpl : (backTo pos (starEach es X.env)).any (·.1) = false := by rfl) : AE X c H0 (.Call (.Name x p) (e :: es) [] pos) (aMakeM C asp as) := by
  refine (pe_makeD (E := fun _ _ _ => True) M hr hg pass0 ha hdb he hpl).imp fun σ H Q ⟨env, L, R, rl, h, pq⟩ => ?_
  refine ⟨env, L, _, rl, h, fun ds L1 vs H1 q s1 g1 r1 x dx hx hdx ne => ?_⟩
  have f1 : Fr c H1 (upd H1 dx (.own x)) := .new hdx
  have hx2 : upd H1 dx (.own x) x = none := by rw [upd_ne (Ne.symm ne)]; exact hx
  have f2 : Fr c (upd H1 dx (.own x)) (upd (upd H1 dx (.own x)) x (.ins C dx [])) := .new hx2
  have g2 := (g1.new hdx (.own x)).alloc (m := .ins C [] []) hx2 (.ins C dx []) ⟨dx, [], upd_same, ni, rfl, RepL.nil⟩
  show spA c asp (V.ref x :: (vs ++ [])) _ _ _
  rw [List.append_nil]
  exact ⟨.ref x :: ds, _, _, anyX, .cons (rep_ref.mpr rfl) ((r1.fr f1).fr f2), g2, q x (g1.fresh hx), fun d L2 v H2 ⟨e1, q2⟩ s2 g2 r2 => ⟨by rw [e1] at r2; exact rep_non.mp r2, pq _ L2 _ H2 q2 (((s1.trans f1).trans f2).trans s2) g2 (rep_ref.mpr rfl)⟩, px_any⟩
end
section
variable {P : Program} {w : World} {K : PySem.W.Frag} {mg : Str → Option Value} {base : Heap} {c : AC K} {x m qual : Str} {st : Stmt} {N ps : List Str} {k : Nat} {asp : ASp} {C : Addr}
theorem _root_.JW.InitAt.okA {a : ATS} (D : InitAt K mg x C qual st [] ps) (S : FnScope N ps (defScope st)) (hl : ∀ ds L R RX, asp ds L R RX → ds.length = ps.length)
    (body : ∀ (f : Addr) (cdv : Value) (A : Around) (outer : List Env) (s : Shared) (H : Hp) (E : XK), Room k (A.deeper (envOfC qual (defScope st) s.heap.objs.size f cdv)) → ASs (cxOf CX0 P w K mg base N qual (defScope st) f cdv A outer s H E).nox c H (defBody st) a)
    (vc : ∀ ds L R RX, asp ds L R RX → a (fnEnds R) (startA N ds) L) : MakeD P w K mg base CX0 (k + 1) x C ps [] (spA c asp) :=
  D.ok 0 (Nat.zero_le _) S (spA_len hl) fun f cdv A outer s H vs Q E hr ⟨ds, L, R, RX, r, g, h, pq, px⟩ => ⟨_, body f cdv A outer s H E hr, body_low r g pq (vc ds L R RX h)⟩
theorem _root_.JW.PropAt.okA {a : ATS} (D : PropAt K C m qual st) (S : FnScope N ["self"] (defScope st)) (hl : ∀ ds L R RX, asp ds L R RX → ds.length = (["self"] : List Str).length)
    (body : ∀ (f : Addr) (cdv : Value) (A : Around) (outer : List Env) (s : Shared) (H : Hp) (E : XK), Room k (A.deeper (envOfC qual (defScope st) s.heap.objs.size f cdv)) → ASs (cxOf CX0 P w K mg base N qual (defScope st) f cdv A outer s H E).nox c H (defBody st) a)
    (vc : ∀ ds L R RX, asp ds L R RX → a (fnEnds R) (startA N ds) L) : PropD P w K mg base CX0 (k + 1) C m (spA c asp) :=
  D.ok S (spA_len hl) fun f cdv A outer s H vs Q E hr ⟨ds, L, R, RX, r, g, h, pq, px⟩ => ⟨_, body f cdv A outer s H E hr, body_low r g pq (vc ds L R RX h)⟩
end
end AL
namespace AL
open PySem PySem.Spec PyProof.Rows L2 LamX JW
end AL
namespace JW
def subP (i : Nat) (ps : List (List Nat × T)) : List (List Nat × T) := (ps.filter fun q => decide (q.1.head? = some i)).map fun q => (q.1.tail, q.2)
def NoPre (ps : List (List Nat × T)) : Prop := ps.Pairwise fun a b => ¬ a.1 <+: b.1 ∧ ¬ b.1 <+: a.1
theorem NoPre.sub {ps : List (List Nat × T)} (h : NoPre ps) (i : Nat) : NoPre (subP i ps) := by
  unfold NoPre subP
  rw [List.pairwise_map]
  have hd : ∀ q ∈ ps.filter (fun q => decide (q.1.head? = some i)), q.1 = i :: q.1.tail := fun q hq => by
    have h2 := of_decide_eq_true (List.mem_filter.mp hq).2
    cases e : q.1 with
    | nil => rw [e] at h2; cases h2
    | cons j r =>
      rw [e] at h2
      have : j = i := by simpa using h2
      rw [this]
      rfl
  refine (List.Pairwise.filter _ h).imp_of_mem fun {a b} ha hb ⟨h1, h2⟩ => ?_
  rw [hd a ha, hd b hb] at h1 h2
  exact ⟨fun z => h1 (List.cons_prefix_cons.mpr ⟨rfl, z⟩), fun z => h2 (List.cons_prefix_cons.mpr ⟨rfl, z⟩)⟩
theorem NoPre.ne {q : List Nat × T} {r : List (List Nat × T)} (h : NoPre (q :: r)) (hq : q.1 ≠ []) : ∀ p ∈ q :: r, p.1 ≠ [] := fun p hp => by
  rcases List.mem_cons.mp hp with e | e
  · rw [e]
    exact hq
  · intro z
    have := (List.pairwise_cons.mp h).1 p e
    exact this.2 (by rw [z]; exact List.nil_prefix)
theorem NoPre.one {q : List Nat × T} {r : List (List Nat × T)} (h : NoPre (q :: r)) (hq : q.1 = []) : r = [] := by
  cases r with
  | nil => rfl
  | cons p r =>
    have := (List.pairwise_cons.mp h).1 p List.mem_cons_self
    exact absurd (by rw [hq]; exact List.nil_prefix) this.1
def nested (p q : List Nat) : Prop := p.take (min p.length q.length) = q.take (min p.length q.length)
instance (p q : List Nat) : Decidable (nested p q) := inferInstanceAs (Decidable (_ = _))
end JW
namespace AL
open PySem PySem.Spec PyProof.Rows L2 LamX JW
section
variable {X : Cx} {c : AC X.K} {H0 : Hp} {e : Expr} {p pos tpos : Pos} {elts : List Expr} {kk i : Nat}
end
end AL
namespace AL
open PySem PySem.Spec PyProof.Rows L2 LamX JW
section
variable {prog : Program} {w : World} {A : Around} {E : Value → Shared → Prop} {s : Shared}
end
section
variable {prog : Program} {w : World} {A : Around} {E : Value → Shared → Prop} {s : Shared}
end
structure TurnX (P : Program) (w : World) (K : PySem.W.Frag) (tg : Expr) (J : It) (fp : List Addr) (it : Addr) (tn : Nat → Heap → Prop) : Prop where
  mem : it ∈ fp
  obj : ∀ i h, tn i h → ∀ b ∈ fp, ∃ o, h.get? b = some o ∧ ∀ v, o.data ≠ .cell v
  keep : ∀ i h h', tn i h → (∀ b ∈ fp, ∀ o, h.get? b = some o → h'.get? b = some o) → tn i h'
  item : ∀ (X : Cx), X.prog = P → X.w = w → X.K = K → ∀ (i : Nat) (pins : List (Addr × Obj)) (s : Shared) (σ : L2.St) (H : Hp) (E : Value → Shared → Prop), Inv X pins σ H s → (∀ b ∈ fp, FpOk X pins H b) → tn i s.heap → J.go i H →
    wpAny (model P w) X.A (pyNext (.ref it)) (fun r s1 => ∃ u, r = some u ∧ wpAny (model P w) X.A (letOwnedTupleGo tg (.ref it) u) (fun _ s2 => ∃ x H', Inv X pins σ H' s2 ∧ RelV x u ∧ J.yld i H x H' ∧ tn (i + 1) s2.heap ∧ ∀ b ∈ fp, H' b = none) E s1) E s
  done : ∀ (X : Cx), X.prog = P → X.w = w → X.K = K → ∀ (i : Nat) (pins : List (Addr × Obj)) (s : Shared) (σ : L2.St) (H : Hp) (E : Value → Shared → Prop) (x1 : Addr), HotX.HotAt X.A x1 s.heap → x1 ∉ fp → Inv X pins σ H s → (∀ b ∈ fp, FpOk X pins H b) → tn i s.heap → J.stop i H →
    wpAny (model P w) X.A (pyNext (.ref it)) (fun r s1 => r = none ∧ Inv X pins σ H s1) E s
  self : ∀ (A : Around) (i : Nat) (s : Shared) (Q : Value → Shared → Prop) (E : Value → Shared → Prop), tn i s.heap → Q (.ref it) s → wpAny (model P w) A (pyIter (.ref it)) Q E s
structure PIX (X : Cx) (tg iter : Expr) (wi : TI) : Prop where
  run : ∀ (pins : List (Addr × Obj)) (s : Shared) (σ : L2.St) (H : Hp) (R : It → Hp → Prop), Inv X pins σ H s → wi σ H R →
    wpAny (model X.prog X.w) X.A (eval iter X.env) (fun v s1 => wpAny (model X.prog X.w) X.A (pyIter v) (fun itv s2 => ∃ (it : Addr) (fp : List Addr) (tn : Nat → Heap → Prop) (J : It) (H' : Hp), itv = .ref it ∧ Inv X pins σ H' s2 ∧ TurnX X.prog X.w X.K tg J fp it tn ∧ tn 0 s2.heap ∧ (∀ b ∈ fp, FpOk X pins H' b) ∧ R J H') X.xe s1) X.xe s
theorem PIX.imp {X : Cx} {tg it : Expr} {t t' : TI} (h : PIX X tg it t) (k : ∀ σ H R, t' σ H R → t σ H R) : PIX X tg it t' := ⟨fun pins s σ H R I q => h.run pins s σ H R I (k σ H R q)⟩
section
variable {X : Cx} {c : AC X.K} {H0 : Hp} {tg e : Expr} {a : ATE}
end
section
variable {X : Cx} {c : AC X.K} {H1 : Hp} {a : Addr} {oe : Obj} {cls : Value} {d : Option Addr} {y : Str} {fs : List (Str × D)} {i : Nat} {n z f : Str} {p p1 p2 pos : Pos} {C : Addr}
end
abbrev AsE : Type := Str → List (Str × D) → Store → AQ → Prop
section
variable {P : Program} {w : World} {K : PySem.W.Frag} {mg : Str → Option Value} {base : Heap} {c : AC K} {x qual : Str} {st : Stmt} {N ps : List Str} {k : Nat} {asp : AsE}
end
section
variable {X : Cx} {c : AC X.K} {H1 : Hp} {a : Addr} {oe : Obj} {cls : Value} {d : Option Addr} {pn : List (Addr × Obj)} {y : Str} {fs : List (Str × D)} {i : Nat} {n x : Str} {p p1 pos : Pos} {k : Nat} {ps : List Str} {asp : AsE}
end
end AL
namespace AL
open PySem PySem.Spec PyProof.Rows L2 LamX JW
section
variable {X : Cx} {c : AC X.K} {H0 : Hp} {e f : Expr} {as : ATA} {p pos tpos : Pos} {elts : List Expr} {kk : Nat}
end
end AL
namespace JW
open PySem PySem.Spec PyProof.Rows L2 LamX
theorem ClsO.ty {K : PySem.W.Frag} {mg : Str → Option Value} {x : Str} (c : ClsO K mg x) {H : Hp} {a dx : Addr} {fs : List (Str × V)} (e : H a = some (.ins (He.ga K x) dx fs)) : TyX K H (.ref a) (.ref (He.ga K x)) := .base (.ins e c.c c.hcl c.hgs c.htk c.hmro)
section
variable {X : Cx} {CX : CXT} {k : Nat} {C : Addr} {ps : List Str} {sp : Sp} {E : L2.St → XK}
end
end JW
namespace AL
open PySem PySem.Spec PyProof.Rows L2 LamX JW
section
variable {X : Cx} {c : AC X.K} {k : Nat} {ps : List Str} {asp : ASp} {x : Str}
end
section
variable {X : Cx} {c : AC X.K}
end
end AL
namespace AL
open PySem PySem.Spec PyProof.Rows L2 LamX JW
section
variable {X : Cx} {rest : List MatchCase} {body : List Stmt} {tb : TS} {tr : V → TS} {k : Str} {j} {p q pos : Pos} {e : Expr} {te : TE}
end
section
variable {X : Cx} {c : AC X.K} {H0 : Hp}
end
end AL
namespace STx
open PySem PySem.Spec PyProof.Rows L2
def keyS (e : Int × Value) : Str := match e.2 with
  | .str k _ => k
  | _ => Str.empty
def Ent (w : World) (e : Int × Value) : Prop := ∃ k tk, e.2 = Value.str k tk ∧ e.1 = hashStr w k
structure Tx (w : World) (es : Array (Int × Value)) (t : SetTable) (l : List Str) : Prop where
  ent : ∀ e ∈ es.toList, Ent w e
  prm : (es.toList.map keyS).Perm l
  nd : l.Nodup
  bd : es.size < scanBound
  fit : t.fits es.size = true
  ris : Ris t.place.toList
  led : w.params.followText "set-order" = true ∨ t.led = true
def SetTx (w : World) (h : Heap) (a : Addr) (l : List Str) : Prop := ∃ o es ep t, h.get? a = some o ∧ o.ExactSet ∧ o.data = .set es ep t ∧ Tx w es t l
section
variable {P : Program} {w : World} {h h' : Heap} {a : Addr} {l l' : List Str} {es es' : Array (Int × Value)} {t t' : SetTable}
theorem Tx.len (T : Tx w es t l) : es.size = l.length := by
  rw [← T.prm.length_eq, List.length_map, Array.length_toList]
theorem SetTx.at (R : SetTx w h a l) (k : ∀ o, h.get? a = some o → h'.get? a = some o) : SetTx w h' a l := by
  obtain ⟨o, es, ep, t, ho, r⟩ := R
  exact ⟨o, es, ep, t, k o ho, r⟩
end
section
variable {P : Program} {w : World} {A : Around} {E : Value → Shared → Prop} {s : Shared} {a b : Addr} {l l' : List Str}
end
end STx
namespace STx
open PySem PySem.Spec PyProof.Rows L2
def MaskA (m : Nat) : Prop := m ∈ [7, 15, 31, 63, 127]
def orb (m : Nat) : Nat → Nat → List Nat
  | 0, _ => []
  | n + 1, i => i :: orb m n ((i * 5 + 1) % (m + 1))
theorem orb_mem {m x : Nat} : ∀ (n a : Nat), x ∈ orb m n (lcgN m a) → ∃ b, b < a + n ∧ lcgN m b = x
  | 0, a, h => by cases h
  | n + 1, a, h => by
    rcases List.mem_cons.mp h with e | h
    · exact ⟨a, by omega, e.symm⟩
    · obtain ⟨b, h1, h2⟩ := orb_mem n (a + 1) h
      exact ⟨b, by omega, h2⟩
theorem maskA_orb : ∀ m ∈ [7, 15, 31, 63, 127], ((List.range (m + 1)).all fun j => (orb m (m + 1) 0).contains j) = true ∧ lcgN m (m + 1) = 0 := by decide +kernel
theorem lcg_allA {m : Nat} (hm : MaskA m) {j : Nat} (hj : j ≤ m) : ∃ b, b ≤ m ∧ lcgN m b = j := by
  have h := List.all_eq_true.mp (maskA_orb m hm).1 j (List.mem_range.mpr (Nat.lt_succ_of_le hj))
  obtain ⟨b, h1, h2⟩ := orb_mem (m + 1) 0 (List.contains_iff_mem.mp h)
  exact ⟨b, by omega, h2⟩
theorem lcgN_modA {m : Nat} (hm : MaskA m) : ∀ k, lcgN m (m + 1 + k) = lcgN m k
  | 0 => (maskA_orb m hm).2
  | k + 1 => by
    show (lcgN m (m + 1 + k) * 5 + 1) % (m + 1) = (lcgN m k * 5 + 1) % (m + 1)
    rw [lcgN_modA hm k]
theorem lcgI_allA {m : Nat} (hm : MaskA m) {i j : Nat} (hi : i ≤ m) (hj : j ≤ m) : ∃ k, k ≤ m ∧ lcgI m i k = j := by
  obtain ⟨x, hx, ex⟩ := lcg_allA hm hi
  obtain ⟨y, hy, ey⟩ := lcg_allA hm hj
  subst ex
  by_cases c : x ≤ y
  · refine ⟨y - x, by omega, ?_⟩
    rw [lcgN_add, show x + (y - x) = y by omega, ey]
  · refine ⟨m + 1 + y - x, by omega, ?_⟩
    rw [lcgN_add, show x + (m + 1 + y - x) = m + 1 + y by omega, lcgN_modA hm, ey]
theorem free_some {m : Nat} (hm : MaskA m) (owner : Array (Option Nat)) (h : Int) {j : Nat} (hj : j ≤ m) (hf : oAt owner j = none) :
    ∃ i, i ≤ m ∧ SetTable.layClean.free m owner (SetTable.turns m) (SetTable.bits h % (m + 1)) (SetTable.bits h) = some i ∧ oAt owner i = none := by
  obtain ⟨k, hk, e⟩ := lcgI_allA hm (runI_le m (SetTable.bits h) 12) hj
  have hn : 12 + k ≤ m + 12 := by omega
  have e1 : runI m (SetTable.bits h) (12 + k) = j := by rw [runI_tail (bits_lt h)]; exact e
  have hw : (nth m (runAt m (SetTable.bits h % (m + 1)) (SetTable.bits h)) (off m (SetTable.bits h % (m + 1)) (SetTable.bits h) (12 + k))).j = j := by
    rw [nth_off, itL_run]
    exact e1
  obtain ⟨K, k1, k2, k3⟩ := st_least (p := fun k => oAt owner (nth m (runAt m (SetTable.bits h % (m + 1)) (SetTable.bits h)) k).j = none) _ (by rw [hw]; exact hf)
  have hb := runEnd_bd (m := m) (i := SetTable.bits h % (m + 1)) (Nat.le_of_lt_succ (Nat.mod_lt _ (Nat.succ_pos _)))
  have hin := nth_in K (runAt m (SetTable.bits h % (m + 1)) (SetTable.bits h)) (show SetTable.bits h % (m + 1) + (SetTable.runEnd m (SetTable.bits h % (m + 1)) - SetTable.bits h % (m + 1)) ≤ m by omega)
  refine ⟨_, Nat.le_trans (Nat.le_add_right _ _) hin, free_spec m owner (SetTable.turns m) (12 + k) _ _ K (by unfold SetTable.turns; omega) k1 (fun k' hk' => ?_) ?_, k2⟩
  · cases z : oAt owner (nth m (runAt m (SetTable.bits h % (m + 1)) (SetTable.bits h)) k').j with
    | none => exact absurd z (k3 k' hk')
    | some _ => rfl
  · have q : oAt owner (nth m (runAt m (SetTable.bits h % (m + 1)) (SetTable.bits h)) K).j = none := k2
    rw [q] <;> rfl
structure Ow (m n : Nat) (owner : Array (Option Nat)) : Prop where
  sz : owner.size = m + 1
  all : ∀ k, k < n → ∃ j, j ≤ m ∧ oAt owner j = some k
  ps : ∃ ps : List Nat, ps.length = n ∧ ∀ j, j ≤ m → oAt owner j ≠ none → j ∈ ps
theorem Ow.step {m n : Nat} (hm : MaskA m) {owner : Array (Option Nat)} (W : Ow m n owner) (hl : n ≤ m) (h : Int) :
    ∃ j, SetTable.layClean.free m owner (SetTable.turns m) (SetTable.bits h % (m + 1)) (SetTable.bits h) = some j ∧ Ow m (n + 1) (owner.setIfInBounds j (some n)) := by
  obtain ⟨ps, hps, hin⟩ := W.ps
  obtain ⟨j0, h0, hn0⟩ := st_missing ps (m + 1) (by omega)
  have hj0 : oAt owner j0 = none := by
    cases z : oAt owner j0 with
    | none => rfl
    | some k => exact absurd (hin j0 (Nat.le_of_lt_succ h0) (by rw [z]; exact fun e => nomatch e)) hn0
  obtain ⟨i, hi, e1, e2⟩ := free_some hm owner h (Nat.le_of_lt_succ h0) hj0
  have hs : i < owner.size := by rw [W.sz]; exact Nat.lt_succ_of_le hi
  refine ⟨i, e1, by rw [Array.size_setIfInBounds]; exact W.sz, fun k hk => ?_, i :: ps, by rw [List.length_cons, hps], fun j hj e => ?_⟩
  · by_cases c : k = n
    · exact ⟨i, hi, by rw [oAt_set_self _ hs, c]⟩
    · obtain ⟨j, h1, h2⟩ := W.all k (by omega)
      refine ⟨j, h1, ?_⟩
      rw [oAt_set_ne _ fun z => by rw [z, e2] at h2; cases h2]
      exact h2
  · by_cases c : j = i
    · rw [c]; exact List.mem_cons_self
    · rw [oAt_set_ne _ c] at e
      exact List.mem_cons_of_mem _ (hin j hj e)
end STx
namespace STx
open PySem PySem.Spec PyProof.Rows L2
section
variable {P : Program} {w : World} {A : Around} {E : Value → Shared → Prop} {s : Shared} {a b : Addr} {l l' : List Str}
variable {o : Obj} {es : Array (Int × Value)} {ep : Nat} {t : SetTable}
end
end STx
namespace STx
open PySem PySem.Spec PyProof.Rows L2
section
variable {P : Program} {w : World} {A : Around} {E : Value → Shared → Prop} {s : Shared} {a b : Addr} {l l' : List Str}
variable {o : Obj} {es : Array (Int × Value)} {ep : Nat} {t : SetTable}
end
end STx
namespace STx
open PySem PySem.Spec PyProof.Rows L2
section
variable {P : Program} {w : World} {A : Around} {E : Value → Shared → Prop} {s : Shared} {a b : Addr} {l l' : List Str}
end
end STx
namespace STx
open PySem PySem.Spec PyProof.Rows L2
section
variable {X : Cx} {pins : List (Addr × Obj)} {σ : L2.St} {H : Hp} {s : Shared} {a D : Addr} {l : List Str}
end
end STx
namespace AL
open PySem PySem.Spec PyProof.Rows L2 LamX JW STx
section
variable {K : PySem.W.Frag} {c : AC K} {H H1 H' : Hp}
end
section
variable {K : PySem.W.Frag} {c : AC K} {H H1 H' : Hp} {L : Store} {D : Addr} {w : World} {l : List Str}
end
section
variable {X : Cx} {c : AC X.K} {H0 : Hp}
end
end AL
namespace PySem.W
open Lean Elab Tactic Meta PySem PySem.Calls PyProof.Rows
section
variable {prog : Program} {w : World} {A : Around} {E : Value → Shared → Prop} {s : Shared} {K : Frag} {x y C C' L f f' : Addr} {h₀ : Heap} {m : Str → Option Value} {ox oy : Obj} {od od' : Option Obj}
end
end PySem.W
namespace JW
open PySem PySem.Spec PyProof.Rows L2
section
variable {X : Cx} {CX : CXT} {k : Nat} {C C' : Addr} {ps : List Str} {sp : Sp} {dvs : List V} {E : XK} {x cx : Str} {p pos : Pos} {e : Expr} {es : List Expr} {t : TA} {tv : TE}
theorem pe_makeV (M : MakeD X.prog X.w X.K X.mg X.base CX k cx C ps dvs sp) (hr : Room (k + 1) X.A) (hx : Passes CX X E) (hv : PE X (.Name x p) tv) (ha : PA X (e :: es) t)
    (he : starEach (e :: es) X.env = (false, eval e X.env) :: starEach es X.env := by rfl) (hpl : (backTo pos (starEach es X.env)).any (·.1) = false := by rfl) : PE X (.Call (.Name x p) (e :: es) [] pos) (fun σ H Q => tv σ H fun v H1 => v = .ref C ∧ tMake C sp dvs E t σ H1 Q) := by
  obtain ⟨f, fd, ds, h1, h2, h3, h4, F⟩ := M.ex
  refine ⟨fun pins s σ H Q I h => ?_⟩
  refine wpAny_Call_Name_kw (thn (hv.run pins s σ H _ I h) fun u s0 ⟨v, H0, I0, r0, ev, h⟩ => ?_)
  subst ev
  cases r0
  refine PySem.W.callWith_K (h₀ := X.base) I0.ok.mod.kin h2.kp (thn (ha.run pos pins s0 σ H0 _ I0 h) fun us s1 ⟨vs, H1, I1, r, q⟩ => ⟨I1.kIn, ?_⟩) he hpl
  exact run_make h2 F hr h3 h4 hx I1 r q
end
end JW
namespace AL
open PySem PySem.Spec PyProof.Rows L2 LamX JW
def aMakeMV (C : Addr) (asp : ASp) (a : ATE) (as : ATA) : ATE := fun env L Q => a env L fun d L1 => d = .ref C ∧ aMakeM C asp as env L1 Q
section
variable {X : Cx} {c : AC X.K} {H0 : Hp} {k : Nat} {ps : List Str} {asp : ASp} {C : Addr} {x cx : Str} {p pos : Pos} {e : Expr} {es : List Expr} {a : ATE} {as : ATA}
theorem ae_makeMV (M : MakeD X.prog X.w X.K X.mg X.base CX0 k cx C ps [] (spA c asp)) (hr : Room (k + 1) X.A) (ni : ¬ IC c C) (hv : AE X c H0 (.Name x p) a) (ha : AA X c H0 (e :: es) as)
    (he : starEach (e :: es) X.env = (false, eval e X.env) :: starEach es X.env := by rfl) (hpl : (backTo pos (starEach es X.env)).any (·.1) = false := by rfl) : AE X c H0 (.Call (.Name x p) (e :: es) [] pos) (aMakeMV C asp a as) := by
  refine (pe_makeV (E := fun _ _ _ => True) M hr pass0 hv ha he hpl).imp fun σ H Q ⟨env, L, R, rl, h, pq⟩ => ?_
  refine ⟨env, L, _, rl, h, fun d L0 v0 H0' ⟨ed, h⟩ s0 g0 r0 => ?_⟩
  subst ed
  refine ⟨rep_ref.mp r0, env, L0, _, rl.step s0 g0, h, fun ds L1 vs H1 q s1 g1 r1 x dx hx hdx ne => ?_⟩
  have f1 : Fr c H1 (upd H1 dx (.own x)) := .new hdx
  have hx2 : upd H1 dx (.own x) x = none := by rw [upd_ne (Ne.symm ne)]; exact hx
  have f2 : Fr c (upd H1 dx (.own x)) (upd (upd H1 dx (.own x)) x (.ins C dx [])) := .new hx2
  have g2 := (g1.new hdx (.own x)).alloc (m := .ins C [] []) hx2 (.ins C dx []) ⟨dx, [], upd_same, ni, rfl, RepL.nil⟩
  show spA c asp (V.ref x :: (vs ++ [])) _ _ _
  rw [List.append_nil]
  exact ⟨.ref x :: ds, _, _, anyX, .cons (rep_ref.mpr rfl) ((r1.fr f1).fr f2), g2, q x (g1.fresh hx), fun d L2 v H2 ⟨e1, q2⟩ s2 g2 r2 => ⟨by rw [e1] at r2; exact rep_non.mp r2, pq _ L2 _ H2 q2 ((((s0.trans s1).trans f1).trans f2).trans s2) g2 (rep_ref.mpr rfl)⟩, px_any⟩
end
end AL
namespace JW
open PySem PySem.Spec PyProof.Rows L2 LamX AL
inductive Nd where
  | mk (own rest : Bool) (br : List (T × Nd))
namespace Nd
def own : Nd → Bool | .mk o _ _ => o
def rest : Nd → Bool | .mk _ r _ => r
def br : Nd → List (T × Nd) | .mk _ _ b => b
def uni (v : Bool) : Nd := .mk v v []
def isUni (v : Bool) : Nd → Bool | .mk o r b => (o == v) && ((r == v) && b.isEmpty)
mutual
def d : Nd → D
  | .mk o r b => .tup [.bl o, .bl r, .tup (dL b)]
def dL : List (T × Nd) → List D
  | [] => []
  | (t, n) :: r => .tup [.tree t, d n] :: dL r
end
def trim (o r : Bool) (b : List (T × Nd)) : Nd := .mk o r (b.filter fun q => !isUni r q.2)
def sub (n : Nd) (p : T) : Nd := match n.br.find? fun q => decide (q.1 = p) with
  | some q => q.2
  | none => uni n.rest
def dec (s : Str) (a b : Bool) : Bool := if s = "|" then a || b else if s = "&" then a && b else if s = "-" then a && !b else a != b
def insT (l : List T) (k : T) : List T := if k ∈ l then l else l ++ [k]
def both (m n : Nd) : List T := sortT ((n.br.map (·.1)).foldl insT ((m.br.map (·.1)).foldl insT []))
def jn (s : Str) : Nat → Nd → Nd → Nd
  | 0, m, n => .mk (dec s m.own n.own) (dec s m.rest n.rest) []
  | k + 1, m, n => trim (dec s m.own n.own) (dec s m.rest n.rest) ((both m n).map fun p => (p, jn s k (sub m p) (sub n p)))
def Wf (S : List T) : Nat → Nd → Prop
  | 0, n => n.br = []
  | k + 1, n => (n.br.map (·.1)).Nodup ∧ ∀ q ∈ n.br, q.1 ∈ S ∧ Wf S k q.2
theorem wf_uni (S : List T) (v : Bool) : ∀ k, Wf S k (uni v)
  | 0 => rfl
  | k + 1 => ⟨List.nodup_nil, fun q h => absurd h List.not_mem_nil⟩
theorem Wf.succ {S : List T} : ∀ {k : Nat} {n : Nd}, Wf S k n → Wf S (k + 1) n
  | 0, n, h => by
    have e : n.br = [] := h
    refine ⟨by rw [e]; exact List.nodup_nil, fun q hq => ?_⟩
    rw [e] at hq
    exact absurd hq List.not_mem_nil
  | k + 1, n, h => ⟨h.1, fun q hq => ⟨(h.2 q hq).1, (h.2 q hq).2.succ⟩⟩
theorem Wf.mono {S : List T} {j k : Nat} {n : Nd} (h : Wf S j n) (hk : j ≤ k) : Wf S k n := by
  induction hk with
  | refl => exact h
  | step _ ih => exact ih.succ
theorem wf_sub {S : List T} {k : Nat} {n : Nd} (h : Wf S (k + 1) n) (p : T) : Wf S k (sub n p) := by
  unfold sub
  split
  · rename_i q e
    exact (h.2 q (List.mem_of_find?_eq_some e)).2
  · exact wf_uni S _ k
theorem mem_insT {l : List T} {k x : T} : x ∈ insT l k ↔ x ∈ l ∨ x = k := by
  unfold insT
  split
  · rename_i h
    exact ⟨.inl, fun h2 => h2.elim id fun e => by rw [e]; exact h⟩
  · rw [List.mem_append, List.mem_singleton]
theorem insT_nd {l : List T} (k : T) (h : l.Nodup) : (insT l k).Nodup := by
  unfold insT
  split
  · exact h
  · rename_i hk
    exact List.nodup_append.mpr ⟨h, List.pairwise_singleton _ _, fun x hx y hy e => hk (by rw [← List.mem_singleton.mp hy, ← e]; exact hx)⟩
theorem foldT {l : List T} (m : List T) (h : l.Nodup) : (m.foldl insT l).Nodup ∧ ∀ x, x ∈ m.foldl insT l ↔ x ∈ l ∨ x ∈ m := by
  induction m generalizing l with
  | nil => exact ⟨h, fun x => by simp⟩
  | cons y m ih =>
    obtain ⟨h1, h2⟩ := ih (insT_nd y h)
    exact ⟨h1, fun x => by rw [List.foldl_cons, h2, mem_insT, List.mem_cons, or_assoc]⟩
theorem both_nd (m n : Nd) : (both m n).Nodup ∧ ∀ x, x ∈ both m n ↔ x ∈ m.br.map (·.1) ∨ x ∈ n.br.map (·.1) := by
  obtain ⟨h1, h2⟩ := foldT (m.br.map (·.1)) (l := []) List.nodup_nil
  obtain ⟨h3, h4⟩ := foldT (n.br.map (·.1)) h1
  have p := sortT_perm ((n.br.map (·.1)).foldl insT ((m.br.map (·.1)).foldl insT []))
  refine ⟨p.nodup_iff.mpr h3, fun x => ?_⟩
  unfold both
  rw [p.mem_iff, h4, h2]
  simp
theorem wf_names {S : List T} {k : Nat} {n : Nd} (h : Wf S k n) : (n.br.map (·.1)).Nodup ∧ ∀ x ∈ n.br.map (·.1), x ∈ S := by
  have h := h.succ
  exact ⟨h.1, fun x hx => by obtain ⟨q, hq, e⟩ := List.mem_map.mp hx; rw [← e]; exact (h.2 q hq).1⟩
theorem wf_trim {S : List T} {k : Nat} {o r : Bool} {b : List (T × Nd)} (hn : (b.map (·.1)).Nodup) (h : ∀ q ∈ b, q.1 ∈ S ∧ Wf S k q.2) : Wf S (k + 1) (trim o r b) :=
  ⟨List.Nodup.sublist (List.filter_sublist.map _) hn, fun q hq => h q (List.mem_filter.mp hq).1⟩
theorem sub_miss {m : Nd} {p : T} (hn : ∀ x ∈ m.br, x.1 ≠ p) : m.sub p = uni m.rest := by
  have h : m.br.find? (fun q => decide (q.1 = p)) = none := List.find?_eq_none.mpr fun x hx => by simpa using hn x hx
  unfold sub
  rw [h]
def endN (n : Nd) (w : List T) : Nd := w.foldl (fun n p => trim false false [(p, n)]) n
def startN (n : Nd) (w : List T) : Nd := w.reverse.foldl sub n
theorem wf_endN {S : List T} : ∀ (w : List T) {k : Nat} {n : Nd}, Wf S k n → (∀ p ∈ w, p ∈ S) → Wf S (k + w.length) (endN n w)
  | [], k, n, h, _ => h
  | p :: w, k, n, h, hw => by
    have h1 : Wf S (k + 1) (trim false false [(p, n)]) := wf_trim (by simp) fun q hq => by
      rw [List.mem_singleton.mp hq]
      exact ⟨hw p List.mem_cons_self, h⟩
    have := wf_endN w h1 fun q hq => hw q (List.mem_cons_of_mem _ hq)
    rw [List.length_cons, show k + (w.length + 1) = k + 1 + w.length by omega]
    exact this
theorem wf_sub' {S : List T} {k : Nat} {n : Nd} (h : Wf S k n) (p : T) : Wf S k (sub n p) := (wf_sub h.succ p)
theorem wf_startN {S : List T} {k : Nat} (w : List T) {n : Nd} (h : Wf S k n) : Wf S k (startN n w) := by
  unfold startN
  generalize w.reverse = v
  induction v generalizing n with
  | nil => exact h
  | cons p v ih => exact ih (wf_sub' h p)
end Nd
mutual
def namN (e : List T) : Nd → List (List T × Bool × Bool)
  | .mk o r b => (e, o, r) :: namL e b
def namL (e : List T) : List (T × Nd) → List (List T × Bool × Bool)
  | [] => []
  | (p, n) :: l => namN (p :: e) n ++ namL e l
end
end JW
namespace AL
open PySem PySem.Spec PyProof.Rows L2 LamX JW
end AL
namespace JW
open PySem PySem.Spec PyProof.Rows L2
section
variable {X : Cx} {CX : CXT} {k : Nat} {C : Addr} {ps : List Str} {sp : Sp} {E : L2.St → XK} {x m : Str} {p1 apos pos : Pos} {e : Expr} {es : List Expr} {t : TA}
end
end JW
namespace AL
open PySem PySem.Spec PyProof.Rows L2 LamX JW
def aCmM (C : Addr) (asp : ASp) (as : ATA) : ATE := fun env L Q => as env L fun ds L1 => asp (.ref C :: ds) L1 Q anyX
section
variable {X : Cx} {c : AC X.K} {H0 : Hp} {e : Expr} {es : List Expr} {as : ATA} {x m : Str} {p1 pos apos : Pos} {k : Nat} {ps : List Str} {asp : ASp} {C : Addr} {RXe : En → AX}
theorem ae_cmM {pl : Sem Bool} (hg : Gl X x) (hm : X.mg x = some (.ref C)) (M : CmD X.prog X.w X.K X.mg X.base CX0 k C m ps (spA c asp)) (hr : Room k X.A) (ha : AA X c H0 (e :: es) as) (hdb : (x == ("__debug__" : Str)) = false := by decide)
    (hst : starEach (e :: es) X.env = (false, eval e X.env) :: starEach es X.env := by rfl) (hpl : (backTo pos (starEach es X.env)).any (·.1) = false := by rfl)
    (ht : eval (.Call (.Attribute (.Name x p1) m apos) (e :: es) [] pos) X.env = (do
      let ov ← eval (.Name x p1) X.env
      standAt apos.atName
      let (f, first) ← holding [ov] (getMethod ov m pl)
      callWith pos f first (backTo pos (starEach (e :: es) X.env)) (backToKw pos (keywordEach [] X.env))) := by rfl) : AE X c H0 (.Call (.Attribute (.Name x p1) m apos) (e :: es) [] pos) (aCmM C asp as) := by
  refine (pe_cmethS (E := fun _ _ _ _ => True) hg hm M hr (passN pass0) ha hdb hst hpl ht).imp fun σ H Q ⟨env, L, R, rl, h, pq⟩ => ?_
  exact ⟨env, L, _, rl, h, fun ds L1 vs H1 q s1 g1 r1 => ⟨_, L1, R, anyX, .cons (rep_ref.mpr rfl) r1, g1, q, pq.fr s1, px_any⟩⟩
end
section
variable {P : Program} {w : World} {K : PySem.W.Frag} {mg : Str → Option Value} {base : Heap} {c : AC K} {m qual : Str} {st : Stmt} {N ps : List Str} {k : Nat} {asp : ASp} {C : Addr}
theorem _root_.JW.CmAt.okA {a : ATS} (D : CmAt K C m qual st ps) (S : FnScope N ps (defScope st)) (hl : ∀ ds L R RX, asp ds L R RX → ds.length = ps.length)
    (body : ∀ (f : Addr) (cdv : Value) (A : Around) (outer : List Env) (s : Shared) (H : Hp) (E : XK), Room k (A.deeper (envOfC qual (defScope st) s.heap.objs.size f cdv)) → ASs (cxOf CX0 P w K mg base N qual (defScope st) f cdv A outer s H E).nox c H (defBody st) a)
    (vc : ∀ ds L R RX, asp ds L R RX → a (fnEnds R) (startA N ds) L) : CmD P w K mg base CX0 (k + 1) C m ps (spA c asp) :=
  D.ok S (spA_len hl) fun f cdv A outer s H vs Q E hr ⟨ds, L, R, RX, r, g, h, pq, px⟩ => ⟨_, body f cdv A outer s H E hr, body_low r g pq (vc ds L R RX h)⟩
end
end AL
namespace STx
open PySem PySem.Spec PyProof.Rows L2 HT
section
variable {prog : Program} {w : World} {A : Around} {E : Value → Shared → Prop} {s : Shared}
end
section
variable {X : Cx}
end
end STx
namespace AL
open PySem PySem.Spec PyProof.Rows L2 LamX JW
section
variable {X : Cx} {c : AC X.K} {H0 : Hp} {e : Expr} {a : ATE} {pos : Pos}
end
end AL
namespace STx
open PySem PySem.Spec PyProof.Rows L2
section
variable {X : Cx} {tg : Expr}
end
end STx
namespace AL
open PySem PySem.Spec PyProof.Rows L2 LamX JW
@[irreducible] def sqE (L : Store) (d : D) (R : List D → (Store → Prop) → Prop) : Prop := (∃ l, d = .tup l ∧ R l yes) ∨ ∃ p l, d = .ref p ∧ L p = some (.lst l) ∧ R l (lstAt p l)
section
variable {X : Cx} {c : AC X.K} {H0 : Hp} {tg e : Expr} {a : ATE}
end
end AL
namespace AL
open PySem PySem.Spec PyProof.Rows L2 LamX JW
section
variable {X : Cx} {c : AC X.K} {H0 : Hp}
end
end AL
namespace JW
open PySem PySem.Spec PyProof.Rows L2 LamX AL
theorem word_ops {t : T} (h : Op t) : ∀ q ∈ t.word, Op q ∧ Prm q := fun q hq => ⟨(word_prod t h).2 q hq, word_prime t h q hq⟩
theorem word_mem_le {t q : T} (h : Op t) (hq : q ∈ t.word) : q.size ≤ t.size ∧ q.dep ≤ t.dep := by
  have := mem_prod_le (l := t.word) (fun q hq => (word_ops h q hq).1) hq
  rwa [(word_prod t h).1] at this
theorem namN_eq (e : List JW.T) (n : Nd) : namN e n = (e, n.own, n.rest) :: (n.br.map fun q => namN (q.1 :: e) q.2).flatten := by
  have hl : ∀ l : List (JW.T × Nd), namL e l = (l.map fun q => namN (q.1 :: e) q.2).flatten := by
    intro l
    induction l with
    | nil => simp [namL]
    | cons q l ih =>
      obtain ⟨p, n⟩ := q
      simp [namL, ih]
  cases n with
  | mk o r b => simp only [namN, hl, Nd.own, Nd.rest, Nd.br]
def AllP (P : List T → Prop) (e : List T) (n : Nd) : Prop := ∀ q ∈ namN e n, P q.1
theorem allP_iff {P : List T → Prop} {e : List T} {n : Nd} : AllP P e n ↔ P e ∧ ∀ q ∈ n.br, AllP P (q.1 :: e) q.2 := by
  unfold AllP
  rw [namN_eq]
  constructor
  · intro h
    exact ⟨h _ List.mem_cons_self, fun q hq z hz => h z (List.mem_cons_of_mem _ (List.mem_flatten.mpr ⟨_, List.mem_map.mpr ⟨q, hq, rfl⟩, hz⟩))⟩
  · rintro ⟨h1, h2⟩ z hz
    rcases List.mem_cons.mp hz with rfl | hz
    · exact h1
    · obtain ⟨l, hl, hz⟩ := List.mem_flatten.mp hz
      obtain ⟨q, hq, rfl⟩ := List.mem_map.mp hl
      exact h2 q hq z hz
section
variable {P : List T → Prop}
theorem allP_uni {e : List T} (v : Bool) (h : P e) : AllP P e (Nd.uni v) := allP_iff.mpr ⟨h, fun q hq => absurd hq List.not_mem_nil⟩
theorem allP_sub {e : List T} {n : Nd} {p : T} (h : AllP P e n) (hp : P (p :: e)) : AllP P (p :: e) (n.sub p) := by
  unfold Nd.sub
  split
  · rename_i q eq
    have h1 := (allP_iff.mp h).2 q (List.mem_of_find?_eq_some eq)
    have h2 : q.1 = p := by simpa using List.find?_some eq
    rw [h2] at h1
    exact h1
  · exact allP_uni _ hp
theorem allP_trim {e : List T} {o r : Bool} {b : List (T × Nd)} (h : P e) (hb : ∀ q ∈ b, AllP P (q.1 :: e) q.2) : AllP P e (Nd.trim o r b) := allP_iff.mpr ⟨h, fun q hq => hb q (List.mem_filter.mp hq).1⟩
theorem allP_jn (s : Str) : ∀ (k : Nat) {e : List T} {x y : Nd}, AllP P e x → AllP P e y → AllP P e (Nd.jn s k x y)
  | 0, e, x, y, h1, _ => allP_iff.mpr ⟨(allP_iff.mp h1).1, fun q hq => absurd hq List.not_mem_nil⟩
  | k + 1, e, x, y, h1, h2 => by
    refine allP_trim (allP_iff.mp h1).1 fun q hq => ?_
    obtain ⟨p, hp, rfl⟩ := List.mem_map.mp hq
    have hP : P (p :: e) := by
      rcases ((Nd.both_nd x y).2 p).mp hp with z | z
      · obtain ⟨r, hr, er⟩ := List.mem_map.mp z
        rw [← er]
        exact (allP_iff.mp ((allP_iff.mp h1).2 r hr)).1
      · obtain ⟨r, hr, er⟩ := List.mem_map.mp z
        rw [← er]
        exact (allP_iff.mp ((allP_iff.mp h2).2 r hr)).1
    exact allP_jn s k (allP_sub h1 hP) (allP_sub h2 hP)
theorem endN_snoc (n : Nd) (w : List T) (p : T) : n.endN (w ++ [p]) = Nd.trim false false [(p, n.endN w)] := by
  unfold Nd.endN
  rw [List.foldl_append]
  rfl
theorem allP_endR (n : Nd) : ∀ (v : List T) {e : List T}, (∀ u, u <:+ v.reverse → P (u ++ e)) → AllP P (v.reverse ++ e) n → AllP P e (n.endN v.reverse)
  | [], e, _, h => h
  | p :: v, e, hu, h => by
    rw [List.reverse_cons] at hu h ⊢
    rw [endN_snoc]
    refine allP_trim (hu [] (List.nil_suffix)) fun q hq => ?_
    rw [List.mem_singleton.mp hq]
    refine allP_endR n v (fun u h2 => ?_) (by rw [List.append_assoc] at h; exact h)
    have := hu (u ++ [p]) (by obtain ⟨z, hz⟩ := h2; exact ⟨z, by rw [← List.append_assoc, hz]⟩)
    rwa [List.append_assoc] at this
theorem allP_endN {n : Nd} {w : List T} (hu : ∀ u, u <:+ w → P u) (h : AllP P w n) : AllP P [] (n.endN w) := by
  have := allP_endR (P := P) n w.reverse (e := []) (fun u h2 => by rw [List.reverse_reverse] at h2; rw [List.append_nil]; exact hu u h2) (by rw [List.reverse_reverse, List.append_nil]; exact h)
  rwa [List.reverse_reverse] at this
end
def EndOK (u : List T) : Prop := (∀ p ∈ u, Can p ∧ p.size ≤ 5000) ∧ (prodT u).size ≤ 5000 ∧ (prodT u).dep ≤ 120
theorem end_suf {t : T} (h : Op t) (hz : t.size ≤ 100) {u : List T} (hu : u <:+ t.word) : EndOK u := by
  obtain ⟨v, e⟩ := hu
  have hw := word_ops h
  have hm : ∀ p ∈ u, p ∈ t.word := fun p hp => by rw [← e]; exact List.mem_append_right _ hp
  have hv : ∀ p ∈ v, p ∈ t.word := fun p hp => by rw [← e]; exact List.mem_append_left _ hp
  have e2 := (word_prod t h).1
  rw [← e, prod_app (fun p hp => (hw p (hv p hp)).1.1) (fun p hp => (hw p (hm p hp)).1.1)] at e2
  have h1 := grf_ge (p := prodT u) (t := prodT v) (prod_open fun p hp => (hw p (hv p hp)).1.2)
  rw [e2] at h1
  have h2 := dep_le_size t
  refine ⟨fun p hp => ⟨(hw p (hm p hp)).1.1, ?_⟩, by omega, by omega⟩
  have := (word_mem_le h (hm p hp)).1
  omega
mutual
theorem nam_len (e f : List T) : ∀ n : Nd, (namN e n).length = (namN f n).length
  | .mk o r b => by
    simp only [namN, List.length_cons]
    rw [namL_len e f b]
theorem namL_len (e f : List T) : ∀ l : List (T × Nd), (namL e l).length = (namL f l).length
  | [] => rfl
  | (p, n) :: l => by
    simp only [namL, List.length_append]
    rw [namL_len e f l, nam_len (p :: e) (p :: f) n]
end
def cnt (n : Nd) : Nat := (namN [] n).length
theorem cnt_eq (n : Nd) : cnt n = 1 + (n.br.map fun q => cnt q.2).sum := by
  unfold cnt
  rw [namN_eq, List.length_cons, List.length_flatten, List.map_map, Nat.add_comm]
  congr 2
  exact List.map_congr_left fun q _ => nam_len _ _ _
theorem cnt_uni (v : Bool) : cnt (Nd.uni v) = 1 := by rw [cnt_eq]; rfl
theorem sum_ind (a : T) (c : Nat) : ∀ {l : List T}, l.Nodup → (l.map fun p => if a = p then c else 0).sum ≤ c
  | [], _ => Nat.zero_le _
  | x :: l, h => by
    obtain ⟨h1, h2⟩ := List.nodup_cons.mp h
    rw [List.map_cons, List.sum_cons]
    by_cases e : a = x
    · rw [if_pos e]
      have : (l.map fun p => if a = p then c else 0).sum = 0 := by
        have hz : ∀ l : List T, a ∉ l → (l.map fun p => if a = p then c else 0).sum = 0 := by
          intro l
          induction l with
          | nil => intro _; rfl
          | cons y l ih =>
            intro hn
            rw [List.mem_cons, not_or] at hn
            rw [List.map_cons, List.sum_cons, if_neg hn.1, ih hn.2]
        exact hz l (by rw [e]; exact h1)
      omega
    · rw [if_neg e]
      have := sum_ind a c h2
      omega
def cntB (br : List (T × Nd)) (p : T) : Nat := (br.map fun q => if q.1 = p then cnt q.2 else 0).sum
theorem sum_add {α : Type} (f g : α → Nat) : ∀ l : List α, (l.map fun p => f p + g p).sum = (l.map f).sum + (l.map g).sum
  | [] => rfl
  | x :: l => by
    simp only [List.map_cons, List.sum_cons]
    rw [sum_add f g l]
    omega
theorem sum_cntB {l : List T} (h : l.Nodup) : ∀ br : List (T × Nd), (l.map (cntB br)).sum ≤ (br.map fun q => cnt q.2).sum
  | [] => by
    have : ∀ l : List T, (l.map (cntB [])).sum = 0 := by
      intro l
      induction l with
      | nil => rfl
      | cons x l ih => rw [List.map_cons, List.sum_cons, ih]; rfl
    rw [this]
    exact Nat.zero_le _
  | q :: br => by
    have e : (l.map (cntB (q :: br))) = l.map fun p => (if q.1 = p then cnt q.2 else 0) + cntB br p := List.map_congr_left fun p _ => by
      unfold cntB
      rw [List.map_cons, List.sum_cons]
    rw [e, sum_add, List.map_cons, List.sum_cons]
    have h1 := sum_ind q.1 (cnt q.2) h
    have h2 := sum_cntB h br
    omega
theorem cntB_mem {br : List (T × Nd)} {q : T × Nd} (h : q ∈ br) : cnt q.2 ≤ cntB br q.1 := by
  induction br with
  | nil => exact absurd h List.not_mem_nil
  | cons x br ih =>
    unfold cntB
    rw [List.map_cons, List.sum_cons]
    rcases List.mem_cons.mp h with rfl | h
    · rw [if_pos rfl]
      exact Nat.le_add_right _ _
    · exact Nat.le_trans (ih h) (Nat.le_add_left _ _)
theorem cnt_sub (n : Nd) (p : T) : cnt (n.sub p) ≤ cntB n.br p + 1 ∧ (p ∈ n.br.map (·.1) → cnt (n.sub p) ≤ cntB n.br p) := by
  unfold Nd.sub
  split
  · rename_i q eq
    have h1 := List.mem_of_find?_eq_some eq
    have h2 : q.1 = p := by simpa using List.find?_some eq
    have h3 := cntB_mem h1
    rw [h2] at h3
    exact ⟨by omega, fun _ => h3⟩
  · rename_i eq
    refine ⟨by rw [cnt_uni]; omega, fun hm => ?_⟩
    obtain ⟨q, hq, e⟩ := List.mem_map.mp hm
    exact absurd (decide_eq_true e) (List.find?_eq_none.mp eq q hq)
theorem sum_le {α : Type} {f g : α → Nat} : ∀ {l : List α}, (∀ x ∈ l, f x ≤ g x) → (l.map f).sum ≤ (l.map g).sum
  | [], _ => Nat.le_refl _
  | x :: l, h => by
    rw [List.map_cons, List.map_cons, List.sum_cons, List.sum_cons]
    have h1 := h x List.mem_cons_self
    have h2 := sum_le fun y hy => h y (List.mem_cons_of_mem _ hy)
    omega
theorem sum_filter {α : Type} (f : α → Nat) (c : α → Bool) : ∀ l : List α, ((l.filter c).map f).sum ≤ (l.map f).sum
  | [] => Nat.le_refl _
  | x :: l => by
    rw [List.filter_cons]
    have ih := sum_filter f c l
    split
    · rw [List.map_cons, List.map_cons, List.sum_cons, List.sum_cons]
      omega
    · rw [List.map_cons, List.sum_cons]
      omega
theorem cnt_pos (n : Nd) : 1 ≤ cnt n := by rw [cnt_eq]; omega
theorem cnt_jn (s : Str) : ∀ (k : Nat) (x y : Nd), cnt (Nd.jn s k x y) + 1 ≤ cnt x + cnt y
  | 0, x, y => by
    have h1 := cnt_pos x
    have h2 := cnt_pos y
    have e : cnt (Nd.jn s 0 x y) = 1 := by rw [cnt_eq]; rfl
    omega
  | k + 1, x, y => by
    obtain ⟨hn, hm⟩ := Nd.both_nd x y
    have e : cnt (Nd.jn s (k + 1) x y) ≤ 1 + ((Nd.both x y).map fun p => cntB x.br p + cntB y.br p).sum := by
      rw [cnt_eq]
      refine Nat.add_le_add_left (Nat.le_trans (sum_filter (fun q : T × Nd => cnt q.2) _ _) ?_) 1
      rw [List.map_map]
      refine sum_le fun p hp => ?_
      show cnt (Nd.jn s k (x.sub p) (y.sub p)) ≤ _
      have ih := cnt_jn s k (x.sub p) (y.sub p)
      have h1 := cnt_sub x p
      have h2 := cnt_sub y p
      rcases (hm p).mp hp with z | z
      · have := h1.2 z
        omega
      · have := h2.2 z
        omega
    rw [sum_add] at e
    have h1 := sum_cntB hn x.br
    have h2 := sum_cntB hn y.br
    rw [cnt_eq x, cnt_eq y]
    omega
theorem cnt_endN (n : Nd) (w : List T) : cnt (n.endN w) ≤ cnt n + w.length := by
  have : ∀ v : List T, cnt (n.endN v.reverse) ≤ cnt n + v.length := by
    intro v
    induction v with
    | nil => exact Nat.le_refl _
    | cons p v ih =>
      rw [List.reverse_cons, endN_snoc, cnt_eq, List.length_cons]
      have := sum_filter (fun q : T × Nd => cnt q.2) (fun q => !Nd.isUni false q.2) [(p, n.endN v.reverse)]
      rw [List.map_singleton, List.sum_singleton] at this
      have e : (Nd.trim false false [(p, n.endN v.reverse)]).br = [(p, n.endN v.reverse)].filter (fun q => !Nd.isUni false q.2) := rfl
      rw [e]
      have e2 : cnt ((p, n.endN v.reverse) : T × Nd).2 = cnt (n.endN v.reverse) := rfl
      rw [e2] at this
      omega
  have h := this w.reverse
  rwa [List.reverse_reverse, List.length_reverse] at h
namespace Nd
theorem wf_jnK {S : List T} (s : Str) : ∀ {k j : Nat} {m n : Nd}, k ≤ j → Wf S k m → Wf S k n → Wf S k (jn s (j + 1) m n)
  | 0, j, m, n, _, h1, h2 => by
    have e1 : m.br = [] := h1
    have e2 : n.br = [] := h2
    have e : both m n = [] := by
      have h := (both_nd m n).2
      rw [e1, e2] at h
      exact List.eq_nil_iff_forall_not_mem.mpr fun x hx => by simpa using (h x).mp hx
    show (trim _ _ ((both m n).map _)).br = []
    rw [e]; rfl
  | k + 1, j, m, n, hk, h1, h2 => by
    obtain ⟨i, rfl⟩ : ∃ i, j = i + 1 := ⟨j - 1, by omega⟩
    have hm : ∀ x ∈ both m n, x ∈ S := fun x hx => ((both_nd m n).2 x).mp hx |>.elim (fun z => (wf_names h1).2 x z) fun z => (wf_names h2).2 x z
    refine wf_trim ?_ fun q hq => ?_
    · rw [List.map_map]
      show ((both m n).map id).Nodup
      rw [List.map_id]
      exact (both_nd m n).1
    · obtain ⟨p, hp, e⟩ := List.mem_map.mp hq
      rw [← e]
      exact ⟨hm p hp, wf_jnK s (by omega) (wf_sub h1 p) (wf_sub h2 p)⟩
end Nd
def ofN (ts : List T) : Nd := ts.foldl (fun n t => Nd.jn "|" 21 n ((Nd.mk true false []).endN t.word)) (Nd.uni false)
theorem wf_ofN {S : List T} {k : Nat} (hk : k ≤ 20) : ∀ (ts : List T) {n : Nd}, Nd.Wf S k n → (∀ t ∈ ts, t.word.length ≤ k ∧ ∀ p ∈ t.word, p ∈ S) → Nd.Wf S k (ts.foldl (fun n t => Nd.jn "|" 21 n ((Nd.mk true false []).endN t.word)) n)
  | [], n, h, _ => h
  | t :: ts, n, h, ht => by
    have h1 := ht t List.mem_cons_self
    have h2 : Nd.Wf S k ((Nd.mk true false []).endN t.word) := (Nd.wf_endN t.word (k := 0) (show (Nd.mk true false []).br = [] from rfl) h1.2).mono (by omega)
    exact wf_ofN hk ts (Nd.wf_jnK "|" hk h h2) fun u hu => ht u (List.mem_cons_of_mem _ hu)
theorem allP_ofN {P : List T → Prop} : ∀ (ts : List T) {n : Nd}, AllP P [] n → (∀ t ∈ ts, ∀ u, u <:+ t.word → P u) → AllP P [] (ts.foldl (fun n t => Nd.jn "|" 21 n ((Nd.mk true false []).endN t.word)) n)
  | [], n, h, _ => h
  | t :: ts, n, h, ht => by
    have h1 := ht t List.mem_cons_self
    exact allP_ofN ts (allP_jn "|" 21 h (allP_endN h1 (allP_iff.mpr ⟨h1 _ (List.suffix_refl _), fun q hq => absurd hq List.not_mem_nil⟩))) fun u hu => ht u (List.mem_cons_of_mem _ hu)
theorem cnt_ofN {k : Nat} : ∀ (ts : List T) {n : Nd}, (∀ t ∈ ts, t.word.length ≤ k) → cnt (ts.foldl (fun n t => Nd.jn "|" 21 n ((Nd.mk true false []).endN t.word)) n) ≤ cnt n + k * ts.length
  | [], n, _ => by simp
  | t :: ts, n, ht => by
    have h1 := ht t List.mem_cons_self
    have h2 := cnt_jn "|" 21 n ((Nd.mk true false []).endN t.word)
    have h3 := cnt_endN (Nd.mk true false []) t.word
    have e : cnt (Nd.mk true false []) = 1 := by rw [cnt_eq]; rfl
    have h4 := cnt_ofN ts (n := Nd.jn "|" 21 n ((Nd.mk true false []).endN t.word)) fun u hu => ht u (List.mem_cons_of_mem _ hu)
    rw [List.foldl_cons, List.length_cons, Nat.mul_succ]
    omega
structure KOk (S : List T) (k c : Nat) (n : Nd) : Prop where
  wf : Nd.Wf S k n
  en : AllP EndOK [] n
  ct : cnt n ≤ c
theorem endOK_nil : EndOK [] := ⟨fun _ h => absurd h List.not_mem_nil, by decide +kernel, by decide +kernel⟩
theorem KOk.uni (S : List T) (v : Bool) (k : Nat) {c : Nat} (h : 1 ≤ c) : KOk S k c (Nd.uni v) := ⟨Nd.wf_uni S v k, allP_uni v endOK_nil, by rw [cnt_uni]; exact h⟩
theorem KOk.jn {S : List T} {k c d : Nat} {x y : Nd} (s : Str) (hk : k ≤ 20) (h1 : KOk S k c x) (h2 : KOk S k d y) : KOk S k (c + d) (Nd.jn s 21 x y) :=
  ⟨Nd.wf_jnK s hk h1.wf h2.wf, allP_jn s 21 h1.en h2.en, by have := cnt_jn s 21 x y; have := h1.ct; have := h2.ct; omega⟩
theorem KOk.mono {S : List T} {k j c d : Nat} {x : Nd} (h : KOk S k c x) (h1 : k ≤ j) (h2 : c ≤ d) : KOk S j d x := ⟨h.wf.mono h1, h.en, by have := h.ct; omega⟩
theorem KOk.of {S : List T} {k : Nat} {ts : List T} (hk : k ≤ 20) (h : ∀ t ∈ ts, Op t ∧ t.size ≤ 100 ∧ t.word.length ≤ k ∧ ∀ p ∈ t.word, p ∈ S) : KOk S k (1 + k * ts.length) (ofN ts) :=
  ⟨wf_ofN hk ts (Nd.wf_uni S false k) fun t ht => (h t ht).2.2, allP_ofN ts (allP_uni false endOK_nil) fun t ht u hu => end_suf (h t ht).1 (h t ht).2.1 hu, by
    have := cnt_ofN (k := k) ts (n := Nd.uni false) fun t ht => (h t ht).2.2.1
    rw [cnt_uni] at this
    exact this⟩
end JW
namespace JW
open PySem PySem.Spec PyProof.Rows L2 LamX AL
namespace Nd
def mem (n : Nd) (v : List T) : Bool := (v.foldl sub n).own
theorem mem_cons (n : Nd) (p : T) (v : List T) : n.mem (p :: v) = (n.sub p).mem v := rfl
theorem uni_is (r : Bool) : isUni r (uni r) = true := by cases r <;> rfl
theorem sub_no {n : Nd} {p : T} (h : p ∉ n.br.map (·.1)) : n.sub p = uni n.rest := sub_miss fun x hx e => h (List.mem_map.mpr ⟨x, hx, e⟩)
theorem find_nd : ∀ {b : List (T × Nd)} {q : T × Nd}, (b.map (·.1)).Nodup → q ∈ b → b.find? (fun x => decide (x.1 = q.1)) = some q
  | x :: b, q, h, hq => by
    rw [List.map_cons] at h
    obtain ⟨h1, h2⟩ := List.nodup_cons.mp h
    rw [List.find?_cons]
    rcases List.mem_cons.mp hq with e | hq
    · rw [e, decide_eq_true rfl]
    · have hne : ¬ x.1 = q.1 := fun e => h1 (by rw [e]; exact List.mem_map.mpr ⟨q, hq, rfl⟩)
      rw [decide_eq_false hne]
      exact find_nd h2 hq
theorem sub_in {n : Nd} {q : T × Nd} (h : (n.br.map (·.1)).Nodup) (hq : q ∈ n.br) : n.sub q.1 = q.2 := by
  unfold sub
  rw [find_nd h hq]
theorem endN_snoc' (n : Nd) (w : List T) (p : T) : n.endN (w ++ [p]) = trim false false [(p, n.endN w)] := endN_snoc n w p
def Stl (l : List T) : Prop := l.Pairwise fun a b => tle a b = true ∧ a ≠ b
theorem stl_of {l : List T} (h : Srt l) (hn : l.Nodup) : Stl l := List.Pairwise.and h hn
theorem Stl.srt {l : List T} (h : Stl l) : Srt l := List.Pairwise.imp (fun h => h.1) h
theorem Stl.nd {l : List T} (h : Stl l) : l.Nodup := List.Pairwise.imp (fun h => h.2) h
theorem stl_eq {a b : List T} (ha : Stl a) (hb : Stl b) (h : ∀ x, x ∈ a ↔ x ∈ b) : a = b := srt_unique ((List.perm_ext_iff_of_nodup ha.nd hb.nd).mpr h) ha.srt hb.srt
def Nrm : Nat → Nd → Prop
  | 0, n => n.br = []
  | k + 1, n => Stl (n.br.map (·.1)) ∧ ∀ q ∈ n.br, Nrm k q.2 ∧ isUni n.rest q.2 = false
theorem nrm_uni (b : Bool) : ∀ k, Nrm k (uni b)
  | 0 => rfl
  | k + 1 => ⟨List.Pairwise.nil, fun q h => absurd h List.not_mem_nil⟩
theorem Nrm.succ : ∀ {k : Nat} {n : Nd}, Nrm k n → Nrm (k + 1) n
  | 0, n, h => by
    have e : n.br = [] := h
    refine ⟨by rw [e]; exact List.Pairwise.nil, fun q hq => ?_⟩
    rw [e] at hq
    exact absurd hq List.not_mem_nil
  | k + 1, n, h => ⟨h.1, fun q hq => ⟨(h.2 q hq).1.succ, (h.2 q hq).2⟩⟩
theorem Nrm.mono {j k : Nat} {n : Nd} (h : Nrm j n) (hk : j ≤ k) : Nrm k n := by
  induction hk with
  | refl => exact h
  | step _ ih => exact ih.succ
theorem nrm_sub {k : Nat} {n : Nd} (h : Nrm (k + 1) n) (p : T) : Nrm k (n.sub p) := by
  unfold sub
  split
  · rename_i q e
    exact (h.2 q (List.mem_of_find?_eq_some e)).1
  · exact nrm_uni _ k
theorem nrm_sub' {k : Nat} {n : Nd} (h : Nrm k n) (p : T) : Nrm k (n.sub p) := nrm_sub h.succ p
theorem nrm_start {k : Nat} (w : List T) {n : Nd} (h : Nrm k n) : Nrm k (n.startN w) := by
  unfold startN
  generalize w.reverse = v
  induction v generalizing n with
  | nil => exact h
  | cons p v ih => exact ih (nrm_sub' h p)
theorem nrm_trim {k : Nat} {o r : Bool} {b : List (T × Nd)} (hn : Stl (b.map (·.1))) (h : ∀ q ∈ b, Nrm k q.2) : Nrm (k + 1) (trim o r b) := by
  refine ⟨List.Pairwise.sublist (List.filter_sublist.map _) hn, fun q hq => ?_⟩
  obtain ⟨h1, h2⟩ := List.mem_filter.mp hq
  exact ⟨h q h1, by show isUni r q.2 = false; simpa using h2⟩
theorem nrm_jn {S : List T} (s : Str) : ∀ {k j : Nat} {m n : Nd}, k ≤ j → Wf S k m → Wf S k n → Nrm k (jn s (j + 1) m n)
  | 0, j, m, n, _, h1, h2 => by
    have e1 : m.br = [] := h1
    have e2 : n.br = [] := h2
    have e : both m n = [] := by
      have h := (both_nd m n).2
      rw [e1, e2] at h
      exact List.eq_nil_iff_forall_not_mem.mpr fun x hx => by simpa using (h x).mp hx
    show (trim _ _ ((both m n).map _)).br = []
    rw [e]; rfl
  | k + 1, j, m, n, hk, h1, h2 => by
    obtain ⟨i, rfl⟩ : ∃ i, j = i + 1 := ⟨j - 1, by omega⟩
    refine nrm_trim ?_ fun q hq => ?_
    · rw [List.map_map]
      show Stl ((both m n).map id)
      rw [List.map_id]
      exact stl_of (sortT_srt _) (both_nd m n).1
    · obtain ⟨p, hp, e⟩ := List.mem_map.mp hq
      rw [← e]
      exact nrm_jn s (by omega) (wf_sub h1 p) (wf_sub h2 p)
theorem nrm_endR : ∀ (u : List T) {k : Nat} {n : Nd}, Nrm k n → Nrm (k + u.length) (n.endN u.reverse)
  | [], k, n, h => h
  | p :: u, k, n, h => by
    rw [List.reverse_cons, endN_snoc', List.length_cons]
    exact nrm_trim (List.pairwise_singleton _ _) fun q hq => by rw [List.mem_singleton.mp hq]; exact nrm_endR u h
theorem nrm_end {k : Nat} {n : Nd} (w : List T) (h : Nrm k n) : Nrm (k + w.length) (n.endN w) := by
  have := nrm_endR w.reverse h
  rwa [List.reverse_reverse, List.length_reverse] at this
theorem fresh (l : List T) : ∃ p : T, p ∉ l := by
  refine ⟨spT (l.map T.size).sum, fun h => ?_⟩
  have h1 : ∀ (l : List T) (t : T), t ∈ l → t.size ≤ (l.map T.size).sum := by
    intro l
    induction l with
    | nil => intro t h; exact absurd h List.not_mem_nil
    | cons x l ih =>
      intro t h
      rw [List.map_cons, List.sum_cons]
      rcases List.mem_cons.mp h with rfl | h
      · omega
      · have := ih t h
        omega
  have h2 := h1 l _ h
  have h3 : ∀ n, (spT n).size = 1 + n := fun n => by
    show 1 + sizeL (List.replicate n .jet) = _
    rw [sizeL_rep]
    show 1 + n * 1 = _
    omega
  rw [h3] at h2
  omega
theorem mem_one {n : Nd} {p : T} (h : p ∉ n.br.map (·.1)) : n.mem [p] = n.rest := by
  rw [mem_cons, sub_no h]
  rfl
theorem br_eq {n : Nd} (h : (n.br.map (·.1)).Nodup) : n.br = (n.br.map (·.1)).map fun p => (p, n.sub p) := by
  rw [List.map_map]
  have : ∀ q ∈ n.br, ((fun p => (p, n.sub p)) ∘ fun x : T × Nd => x.1) q = q := fun q hq => by
    show (q.1, n.sub q.1) = q
    rw [sub_in h hq]
  exact (List.map_congr_left this |>.trans (List.map_id _)).symm
theorem nrm_eq : ∀ {k : Nat} {m n : Nd}, Nrm k m → Nrm k n → (∀ v, m.mem v = n.mem v) → m = n
  | k, m, n, h1, h2, h => by
    have eo : m.own = n.own := h []
    obtain ⟨p, hp⟩ := fresh (m.br.map (·.1) ++ n.br.map (·.1))
    have er : m.rest = n.rest := by
      have := h [p]
      rwa [mem_one fun z => hp (List.mem_append_left _ z), mem_one fun z => hp (List.mem_append_right _ z)] at this
    have eb : m.br = n.br := by
      cases k with
      | zero =>
        have e1 : m.br = [] := h1
        have e2 : n.br = [] := h2
        rw [e1, e2]
      | succ k =>
        have es : ∀ p, m.sub p = n.sub p := fun p => nrm_eq (nrm_sub h1 p) (nrm_sub h2 p) fun v => h (p :: v)
        have hin : ∀ {n : Nd} {p : T}, Nrm (k + 1) n → (p ∈ n.br.map (·.1) ↔ isUni n.rest (n.sub p) = false) := fun {n p} h => by
          constructor
          · intro hm
            obtain ⟨q, hq, rfl⟩ := List.mem_map.mp hm
            rw [sub_in h.1.nd hq]
            exact (h.2 q hq).2
          · intro hu
            by_cases hm : p ∈ n.br.map (·.1)
            · exact hm
            · rw [sub_no hm, uni_is] at hu
              cases hu
        have en : m.br.map (·.1) = n.br.map (·.1) := stl_eq h1.1 h2.1 fun p => by rw [hin h1, hin h2, es, er]
        rw [br_eq h1.1.nd, br_eq h2.1.nd, en]
        exact List.map_congr_left fun p _ => by rw [es]
    cases m with
    | mk o r b =>
      cases n with
      | mk o' r' b' =>
        have e1 : o = o' := eo
        have e2 : r = r' := er
        have e3 : b = b' := eb
        rw [e1, e2, e3]
end Nd
end JW
namespace JW
open PySem PySem.Spec PyProof.Rows L2 LamX AL
theorem nam_app (e : List T) : ∀ (n : Nd) (f : List T), namN (f ++ e) n = (namN f n).map fun q => (q.1 ++ e, q.2) := by
  have go : ∀ (k : Nat) (n : Nd) (f : List T), sizeOf n ≤ k → namN (f ++ e) n = (namN f n).map fun q => (q.1 ++ e, q.2) := by
    intro k
    induction k with
    | zero =>
      intro n f h
      cases n with
      | mk o r b => simp at h
    | succ k ih =>
      intro n f h
      rw [namN_eq, namN_eq, List.map_cons, List.map_flatten, List.map_map]
      congr 2
      refine List.map_congr_left fun q hq => ?_
      show namN (q.1 :: (f ++ e)) q.2 = (namN (q.1 :: f) q.2).map _
      refine ih q.2 (q.1 :: f) ?_
      cases n with
      | mk o r b =>
        have hq : q ∈ b := hq
        have h1 : sizeOf q < sizeOf b := List.sizeOf_lt_of_mem hq
        have h2 : sizeOf q = 1 + sizeOf q.1 + sizeOf q.2 := by cases q; rfl
        simp at h
        omega
  exact fun n f => go _ n f (Nat.le_refl _)
theorem allP_subE {P : List T → Prop} (hc : ∀ u p, P (u ++ [p]) → P u) {n : Nd} (h : AllP P [] n) (p : T) : AllP P [] (n.sub p) := by
  unfold Nd.sub
  split
  · rename_i q eq
    have h1 := (allP_iff.mp h).2 q (List.mem_of_find?_eq_some eq)
    intro z hz
    have h2 := nam_app [q.1] q.2 []
    rw [List.nil_append] at h2
    have h3 : P (z.1 ++ [q.1]) := h1 (z.1 ++ [q.1], z.2) (by rw [h2]; exact List.mem_map.mpr ⟨z, hz, rfl⟩)
    exact hc _ _ h3
  · exact allP_uni _ (allP_iff.mp h).1
theorem allP_start {P : List T → Prop} (hc : ∀ u p, P (u ++ [p]) → P u) {n : Nd} (w : List T) (h : AllP P [] n) : AllP P [] (n.startN w) := by
  unfold Nd.startN
  generalize w.reverse = v
  induction v generalizing n with
  | nil => exact h
  | cons p v ih => exact ih (allP_subE hc h p)
theorem allP_endG {P R : List T → Prop} (n : Nd) (w : List T) (h1 : ∀ u, u <:+ w → R u) (h2 : ∀ u, P u → R (u ++ w)) (h : AllP P [] n) : AllP R [] (n.endN w) := by
  refine allP_endN h1 fun q hq => ?_
  have h3 := nam_app w n []
  rw [List.nil_append] at h3
  rw [h3] at hq
  obtain ⟨z, hz, rfl⟩ := List.mem_map.mp hq
  exact h2 _ (h z hz)
theorem cntB_le (p : T) : ∀ br : List (T × Nd), cntB br p ≤ (br.map fun q => cnt q.2).sum
  | [] => Nat.le_refl _
  | q :: br => by
    unfold cntB
    rw [List.map_cons, List.map_cons, List.sum_cons, List.sum_cons]
    have := cntB_le p br
    unfold cntB at this
    split <;> omega
theorem cnt_subLe (n : Nd) (p : T) : cnt (n.sub p) ≤ cnt n := by
  have h1 := (cnt_sub n p).1
  have h2 := cntB_le p n.br
  rw [cnt_eq n]
  omega
theorem cnt_start (w : List T) (n : Nd) : cnt (n.startN w) ≤ cnt n := by
  unfold Nd.startN
  generalize w.reverse = v
  induction v generalizing n with
  | nil => exact Nat.le_refl _
  | cons p v ih => exact Nat.le_trans (ih (n.sub p)) (cnt_subLe n p)
def EndB (b m : Nat) (e : List T) : Prop := (∀ p ∈ e, Op p ∧ p.size ≤ 64) ∧ (prodT e).size ≤ b ∧ (prodT e).dep ≤ m
theorem EndB.drop {b m : Nat} : ∀ (u : List T) (p : T), EndB b m (u ++ [p]) → EndB b m u := fun u p ⟨h1, h2, h3⟩ => by
  have ho : ∀ q ∈ u, Op q ∧ q.size ≤ 64 := fun q hq => h1 q (List.mem_append_left _ hq)
  rw [prod_snoc] at h2 h3
  have h4 := grf_size_le p (prodT u)
  have h5 := grf_dep_le p (prodT u)
  exact ⟨ho, by omega, by omega⟩
theorem EndB.suf {b m : Nat} {u w : List T} (h : u <:+ w) (hw : EndB b m w) : EndB b m u := by
  obtain ⟨v, rfl⟩ := h
  obtain ⟨h1, h2, h3⟩ := hw
  have ho : ∀ q ∈ u, Op q ∧ q.size ≤ 64 := fun q hq => h1 q (List.mem_append_right _ hq)
  have hv : ∀ q ∈ v, Op q ∧ q.size ≤ 64 := fun q hq => h1 q (List.mem_append_left _ hq)
  rw [prod_app (fun q hq => (hv q hq).1.1) (fun q hq => (ho q hq).1.1)] at h2 h3
  have h4 := grf_ge (p := prodT u) (t := prodT v) (prod_open fun q hq => (hv q hq).1.2)
  exact ⟨ho, by omega, by omega⟩
theorem EndB.app {b m c k : Nat} {u w : List T} (hu : EndB b m u) (hw : EndB c k w) : EndB (b * c) (m + k) (u ++ w) := by
  obtain ⟨h1, h2, h3⟩ := hu
  obtain ⟨g1, g2, g3⟩ := hw
  refine ⟨fun q hq => (List.mem_append.mp hq).elim (h1 q) (g1 q), ?_, ?_⟩
  · rw [prod_app (fun q hq => (h1 q hq).1.1) (fun q hq => (g1 q hq).1.1)]
    have a1 := grf_size (prodT w) (prodT u)
    have a2 := jts_le (prodT u)
    have a3 := size_pos (prodT w)
    obtain ⟨z, hz⟩ : ∃ z, (prodT w).size = z + 1 := ⟨(prodT w).size - 1, by omega⟩
    rw [hz] at a1
    have a5 : (prodT u).jts * z ≤ (prodT u).size * z := Nat.mul_le_mul_right _ a2
    rw [Nat.mul_add, Nat.mul_one] at a1
    have a6 : (prodT u).size * (z + 1) ≤ b * c := Nat.mul_le_mul h2 (by omega)
    rw [Nat.mul_add, Nat.mul_one] at a6
    omega
  · rw [prod_app (fun q hq => (h1 q hq).1.1) (fun q hq => (g1 q hq).1.1), grf_dep]
    have := lng_dep (prodT u)
    split <;> omega
theorem EndB.mono {b m c k : Nat} {u : List T} (h : EndB b m u) (h1 : b ≤ c) (h2 : m ≤ k) : EndB c k u := ⟨h.1, by have := h.2.1; omega, by have := h.2.2; omega⟩
theorem EndB.ok {b m : Nat} {u : List T} (h : EndB b m u) (h1 : b ≤ 5000) (h2 : m ≤ 120) : EndOK u := ⟨fun p hp => ⟨(h.1 p hp).1.1, by have := (h.1 p hp).2; omega⟩, by have := h.2.1; omega, by have := h.2.2; omega⟩
theorem EndB.nil {b m : Nat} (h : 1 ≤ b) : EndB b m [] := ⟨fun _ h => absurd h List.not_mem_nil, h, Nat.zero_le _⟩
structure KN (ps : List T) (k b m c : Nat) (n : Nd) : Prop where
  wf : Nd.Wf ps k n
  nrm : Nd.Nrm k n
  en : AllP (EndB b m) [] n
  ct : cnt n ≤ c
namespace KN
variable {ps : List T} {k b m c d : Nat} {x y : Nd}
theorem jn (s : Str) (hk : k ≤ 20) (h1 : KN ps k b m c x) (h2 : KN ps k b m d y) : KN ps k b m (c + d) (Nd.jn s 21 x y) :=
  ⟨Nd.wf_jnK s hk h1.wf h2.wf, Nd.nrm_jn s hk h1.wf h2.wf, allP_jn s 21 h1.en h2.en, by have := cnt_jn s 21 x y; have := h1.ct; have := h2.ct; omega⟩
theorem start (w : List T) (h : KN ps k b m c x) : KN ps k b m c (x.startN w) := ⟨Nd.wf_startN w h.wf, Nd.nrm_start w h.nrm, allP_start EndB.drop w h.en, Nat.le_trans (cnt_start w x) h.ct⟩
theorem mono {k' b' m' c' : Nat} (h : KN ps k b m c x) (h1 : k ≤ k') (h2 : b ≤ b') (h3 : m ≤ m') (h4 : c ≤ c') : KN ps k' b' m' c' x := ⟨h.wf.mono h1, h.nrm.mono h1, fun q hq => (h.en q hq).mono h2 h3, Nat.le_trans h.ct h4⟩
theorem endN {c1 k1 : Nat} {w : List T} (h : KN ps k b m c x) (hw : EndB c1 k1 w) (hp : ∀ p ∈ w, p ∈ ps) (hb : 1 ≤ b) : KN ps (k + w.length) (b * c1) (m + k1) (c + w.length) (x.endN w) :=
  ⟨Nd.wf_endN w h.wf hp, Nd.nrm_end w h.nrm, allP_endG x w (fun u hu => (EndB.suf hu hw).mono (by have := Nat.mul_le_mul_right c1 hb; omega) (by omega)) (fun u hu => hu.app hw) h.en, by have := cnt_endN x w; have := h.ct; omega⟩
theorem ok (h : KN ps k b m c x) (h1 : b ≤ 5000) (h2 : m ≤ 120) : KOk ps k c x := ⟨h.wf, fun q hq => (h.en q hq).ok h1 h2, h.ct⟩
theorem one (w : List T) (v : Bool) (hw : EndB b m w) (hp : ∀ p ∈ w, p ∈ ps) (h : 1 ≤ b) (hk : w.length ≤ k) (hc : w.length + 1 ≤ c) (z : Nd) (hz : z.br = []) : KN ps k b m c (z.endN w) :=
  ⟨(Nd.wf_endN w (k := 0) hz hp).mono (by omega), (Nd.nrm_end w (k := 0) hz).mono (by omega), allP_endN (fun u hu => EndB.suf hu hw) (allP_iff.mpr ⟨hw, fun q hq => by rw [hz] at hq; exact absurd hq List.not_mem_nil⟩), by
    have h1 := cnt_endN z w
    have h2 : cnt z = 1 := by rw [cnt_eq, hz]; rfl
    omega⟩
theorem of (hk : k ≤ 20) (h : 1 ≤ b) (j : Nat) : ∀ {ws : List (List T)} {n : Nd} {c : Nat}, KN ps k b m c n → (∀ w ∈ ws, (∀ q ∈ w, Op q ∧ Prm q) ∧ EndB b m w ∧ (∀ p ∈ w, p ∈ ps) ∧ w.length ≤ k) → KN ps k b m (c + (k + 1) * ws.length) ((ws.map prodT).foldl (fun n t => Nd.jn "|" 21 n ((Nd.mk true false []).endN t.word)) n)
  | [], n, c, hn, _ => hn
  | w :: ws, n, c, hn, hw => by
    obtain ⟨h1, h2, h3, h4⟩ := hw w List.mem_cons_self
    have e : (prodT w).word = w := word_of_primes w h1
    rw [List.map_cons, List.foldl_cons, e, List.length_cons, Nat.mul_succ]
    have h5 : KN ps k b m (k + 1) ((Nd.mk true false []).endN w) := KN.one w true h2 h3 h h4 (by omega) _ rfl
    have h6 := KN.of hk h j (KN.jn "|" hk hn h5) fun u hu => hw u (List.mem_cons_of_mem _ hu)
    exact h6.mono (Nat.le_refl _) (Nat.le_refl _) (Nat.le_refl _) (by omega)
theorem eq {b' m' c' k' : Nat} (h1 : KN ps k b m c x) (h2 : KN ps k' b' m' c' y) (h : ∀ v, x.mem v = y.mem v) : x = y :=
  Nd.nrm_eq (k := max k k') (h1.nrm.mono (Nat.le_max_left _ _)) (h2.nrm.mono (Nat.le_max_right _ _)) h
end KN
end JW
namespace AL
open PySem PySem.Spec PyProof.Rows L2 LamX JW
section
variable {X : Cx} {c : AC X.K} {H0 : Hp} {tgs : List Expr} {gs : ATGs} {pos : Pos}
end
end AL
namespace JW
open PySem PySem.Spec PyProof.Rows L2
section
variable {X : Cx} {CX : CXT} {k : Nat} {ps : List Str} {sp : Sp} {E : XK} {C : Addr}
end
end JW
namespace AL
open PySem PySem.Spec PyProof.Rows L2 LamX JW
section
variable {X : Cx} {c : AC X.K} {k : Nat} {ps : List Str} {asp : ASp} {C : Addr}
end
section
variable {X : Cx} {c : AC X.K} {k : Nat} {ps : List Str} {asp : ASp} {C : Addr}
end
section
variable {X : Cx} {c : AC X.K} {H0 : Hp} {e f e' f' : Expr} {a b a' b' : ATE} {pos p1 p2 p3 p4 dp : Pos} {j1 j2 j3 j4}
end
end AL
namespace JW
open PySem PySem.Spec PyProof.Rows L2 LamX AL
end JW
namespace AL
open PySem PySem.Spec PyProof.Rows L2 LamX JW
section
variable {X : Cx} {c : AC X.K}
end
end AL
namespace JW
open PySem PySem.Spec PyProof.Rows L2 LamX AL
end JW
namespace AL
open PySem PySem.Spec PyProof.Rows L2 LamX JW
end AL
namespace JW
open PySem PySem.Spec PyProof.Rows L2 ClX
end JW
namespace JW
open PySem PySem.Spec PyProof.Rows L2 ClX
end JW
namespace AL
open PySem PySem.Spec PyProof.Rows L2 LamX JW
section
variable {P : Program} {w : World} {K : PySem.W.Frag} {mg : Str → Option Value} {base : Heap} {c : AC K} {x x2 fl qual : Str} {st : Stmt} {N ps ps2 : List Str} {k k2 : Nat} {asp asp2 : ASp} {C C2 : Addr}
end
end AL
namespace JW
open PySem PySem.Spec PyProof.Rows L2 He
end JW
namespace AL
open PySem PySem.Spec PyProof.Rows L2 LamX JW
section
variable {X : Cx} {c : AC X.K} {H0 : Hp} {e : Expr} {a b : ATE}
end
def putK (f : Str) : List Str → List Str
  | [] => [f]
  | g :: r => if g = f then g :: r else g :: putK f r
def putV {α : Type} (f : Str) (v : α) : List Str → List α → List α
  | [], _ => [v]
  | _ :: _, [] => []
  | g :: r, x :: xs => if g = f then v :: xs else x :: putV f v r xs
theorem putF_zip {f : Str} {v : V} : ∀ {ks : List Str} {vs : List V}, ks.length = vs.length → putF f v (ks.zip vs) = (putK f ks).zip (putV f v ks vs)
  | [], [], _ => rfl
  | g :: r, x :: xs, h => by
    show (if g = f then (g, v) :: r.zip xs else (g, x) :: putF f v (r.zip xs)) = (if g = f then g :: r else g :: putK f r).zip (if g = f then v :: xs else x :: putV f v r xs)
    by_cases e : g = f
    · rw [if_pos e, if_pos e, if_pos e]; rfl
    · rw [if_neg e, if_neg e, if_neg e, putF_zip (by simpa using h)]; rfl
theorem putK_len {f : Str} {α : Type} {v : α} : ∀ {ks : List Str} {vs : List α}, ks.length = vs.length → (putK f ks).length = (putV f v ks vs).length
  | [], [], _ => rfl
  | g :: r, x :: xs, h => by
    show (if g = f then g :: r else g :: putK f r).length = (if g = f then v :: xs else x :: putV f v r xs).length
    by_cases e : g = f
    · rw [if_pos e, if_pos e]; simpa using h
    · rw [if_neg e, if_neg e, List.length_cons, List.length_cons, putK_len (v := v) (vs := xs) (by simpa using h)]
theorem putV_rep {K : PySem.W.Frag} {c : AC K} {H : Hp} {f : Str} {y : D} {v : V} (r : Rep c H y v) : ∀ {ks : List Str} {ds : List D} {vs : List V}, RepL c H ds vs → RepL c H (putV f y ks ds) (putV f v ks vs)
  | [], ds, vs, _ => .one r
  | _ :: _, [], vs, h => by
    cases repL_nil.mp h
    exact RepL.nil
  | g :: ks, x :: ds, vs, h => by
    obtain ⟨w, ws, rfl, r1, r2⟩ := repL_cons.mp h
    show RepL c H (if g = f then y :: ds else x :: putV f y ks ds) (if g = f then v :: ws else w :: putV f v ks ws)
    by_cases e : g = f
    · rw [if_pos e, if_pos e]; exact repL_cons.mpr ⟨_, _, rfl, r, r2⟩
    · rw [if_neg e, if_neg e]; exact repL_cons.mpr ⟨_, _, rfl, r1, putV_rep r r2⟩
def asFldN (K : PySem.W.Frag) (f : Str) (a b : ATE) : ATS := fun D env L => b env L fun y L1 => a env L1 fun d L2 => ∃ p C ks ds, d = .ref p ∧ L2 p = some (.ins C ks ds) ∧ Cls K C ∧ NoAttr K C f ∧ ks.length < 1000 ∧ D.nx env (sput L2 p (.ins C (putK f ks) (putV f y ks ds)))
section
variable {X : Cx} {c : AC X.K} {H0 : Hp} {o value : Expr} {a b : ATE} {f : Str} {pos pos' : Pos}
theorem as_fldN {K : PySem.W.Frag} (eK : X.K = K) (ha : AE X c H0 o a) (hv : AE X c H0 value b) (hs : swapsWith value (some (.Attribute o f pos')) pos.line X.env = pure false := by rfl) : AS X c H0 (.Assign [.Attribute o f pos'] value pos) (asFldN K f a b) := by
  subst eK
  refine (ps_fld ha hv hs).imp fun D σ H ⟨env, L, R, rl, h, er⟩ => ?_
  refine ⟨env, L, _, rl, h, fun y L1 v H1 q1 s1 g1 r1 => ⟨env, L1, _, rl.step s1 g1, q1, fun d L2 x H2 q2 s2 g2 r2 => ?_⟩⟩
  obtain ⟨p, C, ks, ds, rfl, e1, hc, hn, hk, q⟩ := q2
  cases rep_ref.mp r2
  obtain ⟨dx, vs, e2, ni, hl, rs⟩ := g2.st _ _ e1
  have hlv := rs.len
  rw [← hl] at hlv
  have ev : putF f v (ks.zip vs) = (putK f ks).zip (putV f v ks vs) := putF_zip (by omega)
  have el : (ks.zip vs).length < 1000 := by
    rw [List.length_zip]
    exact Nat.lt_of_le_of_lt (Nat.min_le_left _ _) hk
  have f3 : Fr c H2 (upd H2 p (.ins C dx (putF f v (ks.zip vs)))) := .put e2 ni
  have hds : ks.length = ds.length := by omega
  obtain ⟨g3, _⟩ := g2.put (m' := .ins C (putK f ks) (putV f y ks ds)) e1 (.ins C dx (putF f v (ks.zip vs))) ⟨dx, putV f v ks vs, by rw [upd_same, ev], ni, (by first | exact (putK_len (v := y) hds) | exact (putK_len (v := y) hds).symm), putV_rep ((r1.fr s2).fr f3) (rs.fr f3)⟩
  exact ⟨p, C, dx, _, rfl, e2, hc, hn, el, er.nx env _ σ _ q ((s1.trans s2).trans f3) (rl.step ((s1.trans s2).trans f3) g3)⟩
end
end AL
namespace JW
open PySem PySem.Spec PyProof.Rows L2 LamX
section
variable {X : Cx} {CX : CXT} {k : Nat} {C C2 : Addr} {ps : List Str} {sp : Sp} {E : L2.St → XK}
end
end JW
namespace AL
open PySem PySem.Spec PyProof.Rows L2 LamX JW
section
variable {X : Cx} {c : AC X.K} {k : Nat} {ps : List Str} {asp : ASp} {x y : Str}
end
end AL
namespace PySem
open Sem (wp)
section
variable {prog : Program} {w : World} {A : Around} {E : Value → Shared → Prop} {s : Shared}
end
end PySem
namespace AL
open PySem PySem.Spec PyProof.Rows L2 LamX JW
section
variable {X : Cx} {c : AC X.K} {H0 : Hp} {pos p1 : Pos}
end
end AL
namespace L2
open PySem PySem.Spec PyProof.Rows
section
variable {X : Cx} {o e f : Expr} {apos cpos : Pos} {td ty tx : TE}
end
end L2
namespace AL
open PySem PySem.Spec PyProof.Rows L2 LamX JW
section
variable {X : Cx} {c : AC X.K} {H0 : Hp} {e f : Expr} {apos cpos np : Pos} {a1 a2 : ATE}
end
end AL
namespace L2
open PySem PySem.Spec PyProof.Rows He
end L2
namespace JW
open PySem PySem.Spec PyProof.Rows L2 LamX
def gApp {α : Type} (a b : List α) : List α := a ++ b
structure MethDK (P : Program) (w : World) (K : PySem.W.Frag) (mg : Str → Option Value) (base : Heap) (CX : CXT) (k : Nat) (C : Addr) (m : Str) (kws : List (Str × V)) (n : Nat) (ps : List Str) (sp : Sp) : Prop where
  ex : ∃ f fd ds, Meth K C m f ∧ Binds K fd ps ds ∧ Vals (kws.map (·.2)) ds ∧ KBn K fd ps n (kws.map (·.1)) gApp gApp ∧ FnOk P w K mg base CX k f fd ps sp
section
variable {P : Program} {w : World} {K : PySem.W.Frag} {mg : Str → Option Value} {base : Heap} {CX : CXT} {C : Addr}
theorem MethDK.d {k n : Nat} {m : Str} {kws : List (Str × V)} {ps : List Str} {sp : Sp} (c : MethDK P w K mg base CX k C m kws n ps sp) : MethD P w K mg base CX k C m ps (kws.map (·.2)) sp := by
  obtain ⟨f, fd, ds, h1, h2, h3, h4, F⟩ := c.ex
  exact ⟨f, fd, ds, h1, h2, h3, F⟩
theorem MethDK.mono {j k n : Nat} {m : Str} {kws : List (Str × V)} {ps : List Str} {sp : Sp} (c : MethDK P w K mg base CX j C m kws n ps sp) (h : j ≤ k) : MethDK P w K mg base CX k C m kws n ps sp := by
  obtain ⟨f, fd, ds, h1, h2, h3, h4, F⟩ := c.ex
  exact ⟨f, fd, ds, h1, h2, h3, h4, F.mono h⟩
end
section
variable {X : Cx} {CX : CXT} {k n : Nat} {C : Addr} {ps : List Str} {sp : Sp} {E : L2.St → XK} {m : Str} {pos apos : Pos} {o e : Expr} {es : List Expr} {t tk : TA} {ta : TE} {kws : List Keyword} {kvs : List (Str × V)}
end
end JW
namespace AL
open PySem PySem.Spec PyProof.Rows L2 LamX JW
section
variable {X : Cx} {c : AC X.K} {H0 : Hp} {e o f : Expr} {es : List Expr} {a b : ATE} {as : ATA} {m kn : Str} {kpos pos apos : Pos} {k n : Nat} {ps : List Str} {asp : ASp} {RXe : En → AX} {kv : V} {dd : D} {C : Addr}
end
end AL
namespace AL
open PySem PySem.Spec PyProof.Rows L2 LamX JW
section
variable {X : Cx} {c : AC X.K} {H0 : Hp} {e f e' : Expr} {a b a' : ATE} {pos p1 p2 p3 dp : Pos} {j1 j2 j3}
end
end AL
namespace L2
open PySem PySem.Spec PyProof.Rows
section
variable {X : Cx} {o e : Expr} {apos cpos : Pos} {td ty : TE}
end
end L2
namespace AL
open PySem PySem.Spec PyProof.Rows L2 LamX JW
section
variable {X : Cx} {c : AC X.K} {H0 : Hp} {e f : Expr} {a b : ATE} {apos cpos : Pos}
end
end AL
namespace L2
open PySem PySem.Spec PyProof.Rows
open Builtin Builtin.SmallTypes
section
variable {prog : Program} {w : World} {A : Around} {E : Value → Shared → Prop} {s : Shared}
end
end L2
namespace L2
open PySem PySem.Spec PyProof.Rows
section
variable {M : Model} {A : Around} {E : Value → Shared → Prop} {s : Shared}
end
end L2
namespace AL
open PySem PySem.Spec PyProof.Rows L2 LamX JW
section
variable {K : PySem.W.Frag} {c : AC K} {H : Hp} {L : Store}
end
section
variable {X : Cx} {c : AC X.K} {H0 : Hp} {e f : Expr} {as : ATA} {p pos tpos cpos kpos : Pos} {tok kk : Nat} {elts : List Expr}
end
end AL
namespace AL
open PySem PySem.Spec PyProof.Rows L2 LamX JW
section
variable {X : Cx} {c : AC X.K} {H0 : Hp} {e : Expr} {a : ATE} {pos : Pos}
end
end AL
namespace JW
open PySem PySem.Spec PyProof.Rows L2 AL
structure DefAtN (K : PySem.W.Frag) (mg : Str → Option Value) (x nm qual : Str) (st : Stmt) (ps : List Str) : Prop where
  ex : ∃ f fd, mg x = some (.ref f) ∧ FunD K nm qual (defArgs st) (defBody st) (defScope st) [] [] f fd ∧ Binds K fd ps []
section
variable {P : Program} {w : World} {K : PySem.W.Frag} {mg : Str → Option Value} {base : Heap} {c : AC K} {x nm qual : Str} {st : Stmt} {N ps : List Str} {k : Nat} {asp : ASp}
theorem DefAtN.okA {a : ATS} (D : DefAtN K mg x nm qual st ps) (S : FnScope N ps (defScope st)) (hl : ∀ ds L R RX, asp ds L R RX → ds.length = ps.length)
    (body : ∀ (f : Addr) (cdv : Value) (A : Around) (outer : List Env) (s : Shared) (H : Hp) (E : XK), Room k (A.deeper (envOfC qual (defScope st) s.heap.objs.size f cdv)) → ASs (cxOf CX0 P w K mg base N qual (defScope st) f cdv A outer s H E).nox c H (defBody st) a)
    (vc : ∀ ds L R RX, asp ds L R RX → a (fnEnds R) (startA N ds) L) : CallD P w K mg base CX0 (k + 1) x ps [] (spA c asp) := by
  obtain ⟨f, fd, h1, F, b⟩ := D.ex
  exact ⟨f, fd, [], h1, F.kp, b, .nil, F.ok S (spA_len hl) fun cdv A outer s H vs Q E hr ⟨ds, L, R, RX, r, g, h, pq, px⟩ => ⟨_, (body f cdv A outer s H E hr).nox, body_low r g pq (vc ds L R RX h)⟩⟩
end
end JW
namespace AL
open PySem PySem.Spec PyProof.Rows L2 LamX JW
section
variable {X : Cx} {c : AC X.K} {H0 : Hp} {p pos : Pos} {k : Nat} {x : Str} {C : Addr} {ps : List Str} {asp : ASp}
end
end AL
namespace L2
open PySem PySem.Spec PyProof.Rows
end L2
namespace AL
open PySem PySem.Spec PyProof.Rows L2 LamX JW
section
variable {X : Cx} {c : AC X.K} {H0 : Hp} {e : Expr} {a : ATE} {pos : Pos}
end
end AL
namespace L2
open PySem PySem.Spec PyProof.Rows
section
variable {X : Cx}
end
end L2
namespace AL
open PySem PySem.Spec PyProof.Rows L2 LamX JW
section
variable {X : Cx} {c : AC X.K} {x z : Str}
end
end AL
namespace AL
open PySem PySem.Spec PyProof.Rows L2 LamX JW
section
variable {X : Cx} {c : AC X.K} {H : Hp} {pins : List (Addr × Obj)} {σ : L2.St} {s : Shared} {k : Nat} {ps : List Str}
end
end AL
namespace JW
open PySem PySem.Spec PyProof.Rows L2 AL
theorem DefAtN.none {P : Program} {w : World} {K : PySem.W.Frag} {mg : Str → Option Value} {base : Heap} {CX : CXT} {x nm qual : Str} {st : Stmt} {ps : List Str} {k : Nat} {sp : Sp} (D : DefAtN K mg x nm qual st ps) (h : ∀ vs H Q E, ¬ sp vs H Q E) : CallD P w K mg base CX k x ps [] sp := by
  obtain ⟨f, fd, h1, F, b⟩ := D.ex
  exact ⟨f, fd, [], h1, F.kp, b, .nil, ⟨fun vs H Q E z => absurd z (h _ _ _ _), fun A outer s H args us vs Q E hr e0 hb r z => absurd z (h _ _ _ _)⟩⟩
end JW
namespace AL
open PySem PySem.Spec PyProof.Rows L2 LamX JW
structure LamCo where
  qual : Str
  params : Arguments
  body : Expr
  scope : Scope
def frzT (ob : Obj) : HO := .frz ob (.ext fun _ => True)
def FnO (H : Hp) (o : LamCo) (cls : List (Str × Addr)) (f : Addr) : Prop := ∃ (pm ctv : Value) (c' : Addr), H f = some (frzT (PySem.W.kla_obj "<lambda>" o.qual o.params o.body o.scope cls pm c' ctv)) ∧ H c' = some (CodeO c' o.qual)
def lamR (o : LamCo) (cls : List (Str × Addr)) : D := .imm fun H f => FnO H o cls f
def lamV (o : LamCo) (x : Str) (z : V) : D := .imm fun H f => ∃ cc oc w, FnO H o [(x, cc)] f ∧ H cc = some (frzT oc) ∧ oc.data = .cell (some w) ∧ RelV z w
section
variable {K : PySem.W.Frag} {c : AC K} {H H' : Hp} {o : LamCo} {cls : List (Str × Addr)} {f : Addr} {x : Str} {z v : V}
theorem FnO.fri (h : FnO H o cls f) (s : FrI H H') : FnO H' o cls f := by
  obtain ⟨pm, ctv, c', h1, h2⟩ := h
  exact ⟨pm, ctv, c', s _ _ h1 (.inl ⟨_, _, rfl⟩), s _ _ h2 (.inr ⟨_, rfl⟩)⟩
theorem rep_lamR : Rep c H (lamR o cls) v ↔ ∃ f, v = .ref f ∧ FnO H o cls f := by
  unfold lamR
  rw [rep_imm]
  exact ⟨fun ⟨f, e, k, _⟩ => ⟨f, e, k⟩, fun ⟨f, e, k⟩ => ⟨f, e, k, fun H' s => k.fri s⟩⟩
theorem rep_lamV : Rep c H (lamV o x z) v ↔ ∃ f cc oc w, v = .ref f ∧ FnO H o [(x, cc)] f ∧ H cc = some (frzT oc) ∧ oc.data = .cell (some w) ∧ RelV z w := by
  unfold lamV
  rw [rep_imm]
  exact ⟨fun ⟨f, e, ⟨cc, oc, w, h⟩, _⟩ => ⟨f, cc, oc, w, e, h⟩, fun ⟨f, cc, oc, w, e, h⟩ => ⟨f, e, ⟨cc, oc, w, h⟩, fun H' s => ⟨cc, oc, w, h.1.fri s, s _ _ h.2.1 (.inl ⟨_, _, rfl⟩), h.2.2⟩⟩⟩
end
section
variable {X : Cx} {pins : List (Addr × Obj)} {σ : L2.St} {H : Hp} {s : Shared}
theorem inv_lay {a : Addr} {ob : Obj} (I : Inv X pins σ H s) (hn : H a = none) (ha : s.heap.get? a = some ob) (h0 : X.s_0.heap.objs.size ≤ a) (hl : X.env.locals ≠ a) (hc : ∀ y c, X.env.cells.lookup y = some c → c ≠ a) (hp : ∀ p ∈ X.pn ++ pins, p.1 ≠ a) : Inv X pins σ (upd H a (frzT ob)) s := by
  have nb : ∀ b u, H b = some u → b ≠ a := fun b u e z => by
    rw [z, hn] at e
    cases e
  have up : ∀ b u, H b = some u → upd H a (frzT ob) b = some u := fun b u e => (upd_ne (nb b u e)).trans e
  refine ⟨I.ok, I.os, I.bare, ⟨I.base.keep, I.base.slot, fun b o e n hx => ?_, I.base.there, fun b xs e => up _ _ (I.base.tups b xs e), fun b o u e => up _ _ (I.base.frzs b o u e), fun b ps e => ?_⟩, I.loc, I.cell, (upd_ne hl).trans I.free, fun y c e => (upd_ne (hc y c e)).trans (I.freeC y c e), fun p q => ?_, fun b u q => ?_, I.len⟩
  · refine (upd_ne fun z => ?_).trans (I.base.free b o e n hx)
    rw [z] at e
    exact Nat.lt_irrefl _ (Nat.lt_of_lt_of_le (Heap.lt_size e) h0)
  · obtain ⟨more, h⟩ := I.base.tbls b ps e
    exact ⟨more, up _ _ h⟩
  · obtain ⟨h1, h2, h3⟩ := I.pin p q
    exact ⟨h1, (upd_ne (hp p q)).trans h2, h3⟩
  · by_cases hb : b = a
    · subst hb
      rw [upd_same] at q
      cases q
      exact ⟨ha, trivial, ⟨ob, ha⟩, fun _ _ _ _ => trivial⟩
    · rw [upd_ne hb] at q
      exact (I.hok b u q).stay (fun _ _ _ y => y) (fun d y => up _ _ y) fun d xs y => up _ _ y
theorem lam_make3 {T : List (Addr × Str)} {c P : Addr} {params : Arguments} {body : Expr} {scope : Scope} {pos : Pos} {E : Value → Shared → Prop} {Q : Value → Shared → Prop} (I : Inv X pins σ H s) (TB : TabB X.base X.mg c P) (hcode : X.env.code = .ref c)
    (hm : (P, X.env.qual ++ "<lambda>") ∈ T) (hu : ∀ p ∈ T, p.1 = P → p.2 = X.env.qual ++ "<lambda>") (hT : Tabs T H) (hdef : defaultsOf params X.env = ([], [])) (hfree : ∀ y ∈ scope.names, y.2 = .free → ∃ c, X.env.cells.lookup y.1 = some c)
    (h : ∀ (f c' : Addr) (pm ctv : Value) (H1 : Hp) (s' : Shared), Inv X pins σ H1 s' → ExtN H H1 → Tabs T H1 → s'.heap.get? f = some (PySem.W.kla_obj "<lambda>" (X.env.qual ++ "<lambda>") params body scope (cloFrom X.env.cells scope.names []) pm c' ctv) →
      H1 f = none → s.heap.objs.size ≤ f → H1 c' = some (CodeO c' (X.env.qual ++ "<lambda>")) → Q (.ref f) s') : wpAny (model X.prog X.w) X.A (eval (.Lambda params body scope pos) X.env) Q E s := by
  obtain ⟨ps, hP, ht, ha⟩ := hT _ hm
  have tP : s.heap.get? P = some { cls := .none, data := .fields ps } := I.hok P _ hP
  have bP : s.heap.BuiltinsAt X.mg P := TB.bm.keeps I.bk
  refine PySem.W.kla_eval hdef ?_
  cases hc : codeAmong pos ps.toList with
  | some cv =>
    obtain ⟨c', rfl, hco⟩ := ha pos cv hc
    refine PySem.W.kla_makeFunctionHit (mg := X.mg) (c := c) (P := P) (ps := ps) (closure_ok hfree) I.ok.glob (I.mod.glob.keeps I.bk) hcode (TB.code.keeps I.bk) tP ht hc bP fun ctv h' tk hx hsz => ?_
    exact h _ c' _ ctv H _ (I.kept fun b o e => Heap.get?_push_of_some _ (hx b o e)) (.refl H) hT (Heap.get?_push_size _ rfl) (I.hok.fresh hsz) hsz hco
  | none =>
    refine PySem.W.kla_makeFunction (mg := X.mg) (c := c) (P := P) (ps := ps) (closure_ok hfree) I.ok.glob (I.mod.glob.keeps I.bk) hcode (TB.code.keeps I.bk) tP ht hc TB.gP bP fun c' ctv h' tk hx hge hlt hrec htb => ?_
    obtain ⟨c2, oc, vs, t, e2, hoc, hd, hv⟩ := hrec
    cases e2
    have nC : H c' = none := I.hok.fresh hge
    have nPC := ne_of_none hP nC
    have hsz : s.heap.objs.size ≤ h'.objs.size := Nat.le_trans hge (Nat.le_of_lt hlt)
    have ext : ExtN H (upd (upd H P (.tbl (ps ++ #[rawInt pos.line, rawInt pos.col, .ref c']))) c' (CodeO c' (X.env.qual ++ "<lambda>"))) := fun b o e n => by
      have nP : b ≠ P := fun z => by
        rw [z, hP] at e
        exact n ps (Option.some.inj e).symm
      rw [upd_ne (ne_of_none e nC), upd_ne nP, e]
    refine h h'.objs.size c' _ ctv _ _ (inv_table (t' := tk) (more := #[rawInt pos.line, rawInt pos.col, .ref c']) I hP (fun b o hb e => Heap.get?_push_of_some _ (hx b o hb e)) (Heap.get?_push_of_some _ htb) hge ⟨oc, vs, t, Heap.get?_push_of_some _ hoc, hd, hv⟩) ext (fun p hp => ?_) (Heap.get?_push_size _ rfl) ?_ hsz upd_same
    · by_cases hb : p.1 = P
      · have eL : (ps ++ #[rawInt pos.line, rawInt pos.col, .ref c']).toList = ps.toList ++ [rawInt pos.line, rawInt pos.col, .ref c'] := by simp
        rw [hu p hp hb, hb]
        refine ⟨_, (upd_ne nPC).trans upd_same, by rw [eL]; exact PySem.TriplesOk_snoc _ _ _ _ ht, fun p' cv hcv => ?_⟩
        rw [eL] at hcv
        rcases among_app _ ht hcv with z | z
        · obtain ⟨c0, e1, e2⟩ := ha p' cv z
          exact ⟨c0, e1, ext _ _ e2 codeO_ne⟩
        · exact ⟨c', z, upd_same⟩
      · obtain ⟨ps', a1, a2, a3⟩ := hT p hp
        refine ⟨ps', (upd_ne (ne_of_none a1 nC)).trans ((upd_ne hb).trans a1), a2, fun p' cv hcv => ?_⟩
        obtain ⟨c0, e1, e2⟩ := a3 p' cv hcv
        exact ⟨c0, e1, ext _ _ e2 codeO_ne⟩
    · rw [upd_ne (Nat.ne_of_gt hlt), upd_ne (Nat.ne_of_gt (Nat.lt_of_lt_of_le (Heap.lt_size tP) hsz))]
      exact I.hok.fresh hsz
theorem ae_lamE {c : AC X.K} {H0 : Hp} {params : Arguments} {body : Expr} {scope : Scope} {lpos : Pos} {cd P : Addr} (TB : TabB X.base X.mg cd P) (hcode : X.env.code = .ref cd) (hmT : (P, X.env.qual ++ "<lambda>") ∈ c.TT) (hu : ∀ q ∈ c.TT, q.1 = P → q.2 = X.env.qual ++ "<lambda>")
    (hfr : ∀ y ∈ scope.names, y.2 = .free → X.env.scope.names.lookup y.1 = some .cell ∨ X.env.scope.names.lookup y.1 = some .free) (hdef : defaultsOf params X.env = ([], [])) : AE X c H0 (.Lambda params body scope lpos) fun _ S Q => Q (lamR ⟨X.env.qual ++ "<lambda>", params, body, scope⟩ (cloFrom X.env.cells scope.names [])) S := by
  refine ⟨fun pins s σ H Q I ⟨env, L0, R, rl, h, pq⟩ => ?_⟩
  refine lam_make3 I TB hcode hmT hu rl.good.tabs hdef (fun y hy e => I.ok.has _ (hfr y hy e)) fun f c' pm' ctv H2 s2 I2 eN T2 hf hfn hsz hco => ?_
  have hlt := I.lt
  have I3 := inv_lay I2 hfn hf (Nat.le_trans I.sz hsz) (Nat.ne_of_lt (Nat.lt_of_lt_of_le hlt hsz)) (fun y cc e z => by
    obtain ⟨v, o, ho, _⟩ := I.cell y cc e
    rw [z] at ho
    exact absurd (Nat.lt_of_lt_of_le (Heap.lt_size ho) hsz) (Nat.lt_irrefl _)) (fun q hq z => by
    have ho := (I.pin q hq).1
    rw [z] at ho
    exact absurd (Nat.lt_of_lt_of_le (Heap.lt_size ho) hsz) (Nat.lt_irrefl _))
  have nfc : c' ≠ f := fun z => by
    rw [z, hfn] at hco
    cases hco
  exact ⟨.ref f, _, I3, rfl, pq _ _ _ _ h ((Fr.extN eN).trans (.new hfn)) ((rl.good.extN T2 eN).new hfn _) (rep_lamR.mpr ⟨f, rfl, _, _, c', upd_same, (upd_ne nfc).trans hco⟩)⟩
end
structure LamC (scope : Scope) (x p : Str) : Prop where
  kind : scope.kind = .function
  co : scope.isCoroutine = false
  gen : scope.isGenerator = false
  par : scope.names.lookup p = some .local
  own : ∀ y ∈ scope.names, (y.2 = .local → y.1 = p) ∧ y.2 ≠ .cell
  free : ∀ y ∈ scope.names, y.2 = .free → y.1 = x
def lamCB (scope : Scope) (x p : Str) : Bool :=
  decide (scope.kind = .function) && !scope.isCoroutine && !scope.isGenerator && decide (scope.names.lookup p = some .local) && scope.names.all fun y => (!decide (y.2 = .local) || decide (y.1 = p)) && !decide (y.2 = .cell) && (!decide (y.2 = .free) || decide (y.1 = x))
theorem lamC_by {scope : Scope} {x p : Str} (h : lamCB scope x p = true) : LamC scope x p := by
  unfold lamCB at h
  simp only [Bool.and_eq_true, Bool.or_eq_true, Bool.not_eq_true', decide_eq_true_eq, decide_eq_false_iff_not, List.all_eq_true] at h
  obtain ⟨⟨⟨⟨h1, h2⟩, h3⟩, h5⟩, h4⟩ := h
  exact ⟨h1, h2, h3, h5, fun y hy => ⟨fun e => (h4 y hy).1.1.resolve_left fun z => z e, (h4 y hy).1.2⟩, fun y hy e => (h4 y hy).2.resolve_left fun z => z e⟩
def lamCxC (Z : Cx) (A : Around) (outer : List Env) (s : Shared) (H : Hp) (o : LamCo) (f c' cc : Addr) (x p : Str) : Cx where
  prog := Z.prog
  w := Z.w
  K := Z.K
  mg := Z.mg
  base := Z.base
  A := A.deeper (PySem.W.envX o.qual o.scope s.heap.objs.size f (.ref c') [(x, cc)])
  N := [x, p]
  s_0 := s
  H_0 := H
  env := PySem.W.envX o.qual o.scope s.heap.objs.size f (.ref c') [(x, cc)]
  outer := outer
  stack := PySem.W.envX o.qual o.scope s.heap.objs.size f (.ref c') [(x, cc)] :: outer
  ex := []
  fn := fun _ => false
  calm := true
  pn := []
  xe := fun _ _ => False
theorem look1 {x y : Str} {cc c : Addr} (h : ([(x, cc)] : List (Str × Addr)).lookup y = some c) : y = x ∧ c = cc := by
  have m := PySem.mem_of_lookup h
  rw [List.mem_singleton] at m
  exact Prod.mk.inj m
theorem lam_startC {Z : Cx} {A : Around} {outer : List Env} {s1 : Shared} {H : Hp} {o : LamCo} {f c' cc : Addr} {x p : Str} {h₁ : Heap} {tk : Nat} {u w : Value} {v z : V} {oc : Obj} (L : LamC o.scope x p) (hxp : x ≠ p) (e0 : Env0 Z.prog Z.w Z.K Z.mg Z.base A outer s1 H) (hd : A.handled = none) (hcc : s1.heap.get? cc = some oc) (hcd : oc.data = .cell (some w)) (hHc : H cc = none)
    (rz : RelV z w) (hns : h₁.Ns s1.heap.objs.size fun y => [(p, u)].reverse.lookup y) (kp : ∀ b o, s1.heap.get? b = some o → h₁.get? b = some o) (r : RelV v u) : Inv (lamCxC Z A outer s1 H o f c' cc x p) [] [some z, some v] H { s1 with heap := h₁, toks := tk } := by
  have noA : ∀ b : Addr, b ∉ (lamCxC Z A outer s1 H o f c' cc x p).ex := fun b z => absurd (show b ∈ ([] : List Addr) from z) (by simp)
  have cellK : h₁.IsCell cc (some w) := ⟨oc, kp _ _ hcc, hcd⟩
  have fst : ∀ {y c}, (lamCxC Z A outer s1 H o f c' cc x p).env.cells.lookup y = some c → y = x ∧ c = cc := fun {y c} e => look1 e
  have has : (lamCxC Z A outer s1 H o f c' cc x p).env.cells.lookup x = some cc := by
    show ([(x, cc)] : List (Str × Addr)).lookup x = some cc
    simp
  refine ⟨⟨e0.mod, L.kind, rfl, rfl, Nat.le_refl _, fun y z c e1 e2 => (fst e1).1.trans (fst e2).1.symm, fun y hy => ?_, fun y c z _ => ?_, fun _ => hd, Around.frames_deeper e0.frames, .inr ⟨rfl, rfl⟩, fun b z => absurd z (noA b), e0.bs, e0.bsz, fun b _ _ => noA b,
      fun b z => absurd z (noA b), e0.funs, e0.frf⟩,
    rfl, e0.bare, Un.kept kp, ⟨_, hns, fun i y v' e1 e2 e3 => ?_⟩, fun y c e => ?_, e0.hok.fresh (Nat.le_refl _), fun y c e => ?_, fun q hq => absurd (show q ∈ ([] : List (Addr × Obj)) ++ [] from hq) (by simp), e0.hok.kept kp, rfl⟩
  · have hy : o.scope.names.lookup y = some .cell ∨ o.scope.names.lookup y = some .free := hy
    rcases hy with hy | hy
    · exact absurd rfl (L.own _ (PySem.mem_of_lookup hy)).2
    · have e := L.free _ (PySem.mem_of_lookup hy) rfl
      exact ⟨cc, by rw [show y = x from e]; exact has⟩
  · have z : false = true := z
    cases z
  · have e3 : Vis o.scope y := e3
    have e1 : ([x, p] : List Str)[i]? = some y := e1
    match i, e1, e2 with
    | 0, e1, e2 =>
      cases e1
      cases e2
      rcases e3 with k | k | k
      · exact absurd ((L.own _ (PySem.mem_of_lookup k)).1 rfl) hxp
      · exact absurd rfl (L.own _ (PySem.mem_of_lookup k)).2
      · exact ⟨w, rz, .inr ⟨.inr k, cc, has, cellK⟩⟩
    | 1, e1, e2 =>
      cases e1
      cases e2
      exact ⟨u, r, .inl ⟨L.par, by simp⟩⟩
    | i + 2, e1, e2 => cases e1
  · rw [(fst e).2]
    exact ⟨_, cellK⟩
  · rw [(fst e).2]
    exact hHc
section
variable {P : Program} {w : World} {K : PySem.W.Frag} {c : AC K} {L : Store} {H H2 : Hp} {p cc : Addr} {oc : Obj} {h h' : Heap} {fs : List Addr}
def HdK (L : Store) (H : Hp) (p cc b : Addr) : Prop := (L b ≠ none ∧ b ≠ p) ∨ b = cc ∨ ∃ q, L q ≠ none ∧ q ≠ p ∧ H b = some (.own q)
open Classical in
noncomputable def hidK (L : Store) (H : Hp) (p cc : Addr) : Hp := fun b => if HdK L H p cc b then none else H b
open Classical in
noncomputable def bckK (L : Store) (H : Hp) (p cc : Addr) (H2 : Hp) : Hp := fun b => if HdK L H p cc b then H b else H2 b
theorem hidK_y {b : Addr} (z : HdK L H p cc b) : hidK L H p cc b = none := if_pos z
theorem hidK_n {b : Addr} (z : ¬ HdK L H p cc b) : hidK L H p cc b = H b := if_neg z
theorem bckK_y {b : Addr} (z : HdK L H p cc b) : bckK L H p cc H2 b = H b := if_pos z
theorem bckK_n {b : Addr} (z : ¬ HdK L H p cc b) : bckK L H p cc H2 b = H2 b := if_neg z
theorem hidK_none {b : Addr} (e : H b = none) : hidK L H p cc b = none := by
  by_cases z : HdK L H p cc b
  · exact hidK_y z
  · exact (hidK_n z).trans e
theorem hidK_some {b : Addr} {o : HO} (e : hidK L H p cc b = some o) : ¬ HdK L H p cc b ∧ H b = some o := by
  by_cases z : HdK L H p cc b
  · rw [hidK_y z] at e
    cases e
  · exact ⟨z, (hidK_n z).symm.trans e⟩
structure HidC (c : AC K) (L : Store) (H : Hp) (p cc : Addr) (oc : Obj) : Prop where
  good : Good c L H
  pl : ∃ m, L p = some m
  cc : H cc = some (frzT oc)
theorem HidC.imm (C : HidC c L H p cc oc) {b : Addr} {o : HO} (e : H b = some o) (i : Imm c o) (n : b ≠ cc) : ¬ HdK L H p cc b := by
  rintro (⟨z, _⟩ | z | ⟨q, _, _, z⟩)
  · cases em : L b with
    | none => exact z em
    | some m =>
      obtain ⟨o', e', n', _⟩ := (C.good.st b m em).at
      rw [e] at e'
      cases e'
      exact n' i
  · exact n z
  · rw [e] at z
    cases z
    exact i.elim
theorem HidC.pn (C : HidC c L H p cc oc) : ¬ HdK L H p cc p := by
  obtain ⟨m, em⟩ := C.pl
  rintro (⟨_, z⟩ | z | ⟨q, _, _, z⟩)
  · exact z rfl
  · obtain ⟨o', e', n', _⟩ := (C.good.st p m em).at
    rw [z, C.cc] at e'
    cases e'
    exact n' trivial
  · exact (C.good.st p m em).not_own q z
theorem HidC.tbl (C : HidC c L H p cc oc) {b : Addr} {ps : Array Value} (e : H b = some (.tbl ps)) : ¬ HdK L H p cc b := by
  rintro (⟨z, _⟩ | z | ⟨q, _, _, z⟩)
  · cases em : L b with
    | none => exact z em
    | some m =>
      obtain ⟨o', e', _, n', _⟩ := (C.good.st b m em).at
      rw [e] at e'
      exact n' ps (Option.some.inj e').symm
  · rw [z, C.cc] at e
    cases e
  · rw [e] at z
    cases z
theorem HidC.own (C : HidC c L H p cc oc) {b d : Addr} (n : ¬ HdK L H p cc b ∨ b = p) (e : H d = some (.own b)) : ¬ HdK L H p cc d := by
  rintro (⟨z, _⟩ | z | ⟨q, z1, z2, z⟩)
  · cases em : L d with
    | none => exact z em
    | some m => exact (C.good.st d m em).not_own b e
  · rw [z, C.cc] at e
    cases e
  · rw [e] at z
    cases z
    rcases n with n | n
    · exact n (.inl ⟨z1, z2⟩)
    · exact z2 n
theorem HidC.hok (C : HidC c L H p cc oc) (hok : HOk P w H h) : HOk P w (hidK L H p cc) h := fun b u e => by
  obtain ⟨n, e⟩ := hidK_some e
  refine (hok b u e).stay (fun _ _ _ y => y) (fun d y => (hidK_n (C.own (.inl n) y)).trans y) fun d xs y => (hidK_n (C.imm y trivial fun z => ?_)).trans y
  rw [z, C.cc] at y
  cases y
theorem HidC.there (_ : HidC c L H p cc oc) (hok : HOk P w H h) {b : Addr} {u : HO} (e : H b = some u) : ∃ o, h.get? b = some o := by
  have hb := hok b u e
  cases hg : h.get? b with
  | some o => exact ⟨o, rfl⟩
  | none =>
    have := HOk.gone hok hg
    rw [e] at this
    cases this
theorem HidC.back (C : HidC c L H p cc oc) (hok : HOk P w H h) (hfs : ∀ b ∈ fs, H b = none) (U : Un fs [] (hidK L H p cc) H2 h h') (ok2 : HOk P w H2 h') : Un fs [] H (bckK L H p cc H2) h h' ∧ HOk P w (bckK L H p cc H2) h' ∧ ∀ b o, H2 b = some o → ¬ HdK L H p cc b := by
  have nn : ([] : List Addr) = [] := rfl
  have keep : ∀ b o, HdK L H p cc b → h.get? b = some o → H b ≠ none → h'.get? b = some o := fun b o z e n => U.keep b o e (hidK_y z) (fun m => n (hfs b m)) (by simp)
  have gone : ∀ b o, H2 b = some o → ¬ HdK L H p cc b := fun b o e z => by
    cases eh : H b with
    | some u =>
      obtain ⟨ob, eo⟩ := C.there hok eh
      rw [U.free b ob eo (hidK_y z) (by simp)] at e
      cases e
    | none =>
      rcases z with ⟨z, _⟩ | z | ⟨q, _, _, z⟩
      · cases em : L b with
        | none => exact z em
        | some m =>
          obtain ⟨o', e', _⟩ := (C.good.st b m em).at
          rw [eh] at e'
          cases e'
      · rw [z, C.cc] at eh
        cases eh
      · rw [eh] at z
        cases z
  have n2 : ∀ b o, H2 b = some o → bckK L H p cc H2 b = some o := fun b o e => (bckK_n (gone b o e)).trans e
  refine ⟨⟨fun b o e n => U.keep b o e (hidK_none n), fun b o e n => U.slot b o e (hidK_none n), fun b o e n x => ?_, U.there, fun b xs e => ?_, fun b o u e => ?_, fun b ps e => ?_⟩, fun b u e => ?_, gone⟩
  · by_cases z : HdK L H p cc b
    · exact (bckK_y z).trans n
    · exact (bckK_n z).trans (U.free b o e (hidK_none n) x)
  · have z := C.imm e trivial fun z => by
      rw [z, C.cc] at e
      cases e
    exact n2 _ _ (U.tups b xs ((hidK_n z).trans e))
  · by_cases hb : b = cc
    · exact (bckK_y (.inr (.inl hb))).trans e
    · exact n2 _ _ (U.frzs b o u ((hidK_n (C.imm e trivial hb)).trans e))
  · obtain ⟨more, r⟩ := U.tbls b ps ((hidK_n (C.tbl e)).trans e)
    exact ⟨more, n2 _ _ r⟩
  · have tup : ∀ d xs, H d = some (.tup xs) → bckK L H p cc H2 d = some (.tup xs) := fun d xs e => by
      have z := C.imm e trivial fun z => by
        rw [z, C.cc] at e
        cases e
      exact n2 _ _ (U.tups d xs ((hidK_n z).trans e))
    by_cases z : HdK L H p cc b
    · rw [bckK_y z] at e
      have hk : ∀ o, h.get? b = some o → h'.get? b = some o := fun o eo => keep b o z eo (by rw [e]; exact nofun)
      rcases id z with ⟨z1, z2⟩ | z1 | ⟨q, _, _, z1⟩
      · have ow : ∀ d, H d = some (.own b) → HdK L H p cc d := fun d y => .inr (.inr ⟨b, z1, z2, y⟩)
        refine (hok b u e).stay (fun d v hd y => ?_) (fun d y => (bckK_y (ow d y)).trans y) tup
        rcases hd with hd | hd
        · rw [hd] at y ⊢
          exact hk v y
        · exact keep d v (ow d hd) y (by rw [hd]; exact nofun)
      · rw [z1, C.cc] at e
        cases e
        have := hok b _ (by rw [z1]; exact C.cc)
        exact ⟨hk _ this.1, trivial, ⟨_, hk _ this.1⟩, fun _ _ _ _ => trivial⟩
      · rw [e] at z1
        cases z1
        obtain ⟨o, eo⟩ := C.there hok e
        exact ⟨o, hk o eo⟩
    · rw [bckK_n z] at e
      exact (ok2 b u e).stay (fun _ _ _ y => y) (fun d y => n2 _ _ y) fun d xs y => n2 _ _ y
end
end AL
namespace AL
open PySem PySem.Spec PyProof.Rows L2 LamX JW
theorem fi_of {K : PySem.W.Frag} {C f : Addr} {m q : Str} {st : Stmt} {ps : List Str} (M : MethAt K C m q st ps) (hm : Meth K C m f) : PySem.W.fnIn K f = true := by
  obtain ⟨f', fd, hm', F, _⟩ := M.ex
  have e := hm.at_
  rw [hm'.at_] at e
  cases e
  obtain ⟨oc, od, dV, kV, doc, pm, an, cdv, ct, osl, _, lk, _⟩ := F.ex
  unfold PySem.W.fnIn
  rw [lk]
theorem fnR_of {P : Program} {w : World} {K : PySem.W.Frag} {mg : Str → Option Value} {base : Heap} {k : Nat} {C : Addr} {m : Str} {ps : List Str} {sp : Sp} (MD : MethD P w K mg base CX0 k C m ps [] sp) : ∃ g, Meth K C m g ∧ FnR P w K mg base CX0 k g sp := by
  obtain ⟨g, fd, dsv, hm, hbd, hvd, F⟩ := MD.ex
  refine ⟨g, hm, fun A outer s H us vs Q E hr e0 r h => ?_⟩
  have KX : K.In s.heap := e0.mod.kin.keeps fun b o e => (e0.bs b o e).1
  have hl : us.length = ps.length := by
    rw [← r.length]
    exact F.len _ _ _ _ h
  cases hvd
  exact F.run A outer s H ⟨us, []⟩ us vs Q E hr e0 (by simpa using hbd s us KX (by simpa using hl)) r h
def onlyS (L : Store) (p : Addr) : Store := fun q => if q = p then L q else none
theorem onlyS_same {L : Store} {p : Addr} : onlyS L p p = L p := if_pos rfl
theorem onlyS_some {L : Store} {p q : Addr} {m : MO} (h : onlyS L p q = some m) : q = p ∧ L p = some m := by
  unfold onlyS at h
  split at h
  · rename_i e
    rw [e] at h
    exact ⟨e, h⟩
  · cases h
section
variable {K : PySem.W.Frag} {c : AC K} {L L2 : Store} {H H3 : Hp} {p cc : Addr} {oc : Obj} {ns : List Int}
theorem HidC.good0 (C : HidC c L H p cc oc) (e : L p = some (.lst (ns.map D.int))) : Good c (onlyS L p) (hidK L H p cc) := by
  have imm : ∀ {b o}, H b = some o → Imm c o → b ≠ cc → hidK L H p cc b = some o := fun h i n => (hidK_n (C.imm h i n)).trans h
  refine ⟨fun q hq => ?_, fun q m hm => ?_, fun a ns' ea => ⟨(C.good.scr a ns' ea).1, ?_⟩⟩
  · obtain ⟨ps, h1, h2, h3⟩ := C.good.tabs q hq
    refine ⟨ps, (hidK_n (C.tbl h1)).trans h1, h2, fun pos cv hc => ?_⟩
    obtain ⟨k, e1, e2⟩ := h3 pos cv hc
    refine ⟨k, e1, imm e2 trivial fun z => ?_⟩
    rw [z, C.cc] at e2
    cases e2
  · obtain ⟨rfl, hm⟩ := onlyS_some hm
    rw [e] at hm
    cases hm
    obtain ⟨vs, e1, r⟩ := C.good.st q _ e
    exact ⟨vs, (hidK_n C.pn).trans e1, RepL.ints.mpr (RepL.ints.mp r)⟩
  · rcases (C.good.scr a ns' ea).2 with ⟨h1, h2⟩ | ⟨o, h⟩ | h
    · refine .inl ⟨(hidK_n ?_).trans h1, ?_⟩
      · rintro (⟨z, _⟩ | z | ⟨q, _, _, z⟩)
        · exact z h2
        · rw [z, C.cc] at h1
          cases h1
        · rw [h1] at z
          cases z
      · cases eo : onlyS L p a with
        | none => rfl
        | some m =>
          obtain ⟨rfl, hm⟩ := onlyS_some eo
          rw [h2] at hm
          cases hm
    · refine .inr (.inl ⟨o, imm h trivial fun z => ?_⟩)
      rw [z, C.cc] at h
      cases h
    · exact .inr (.inr h)
theorem HidC.fr2 (C : HidC c L H p cc oc) (gone : ∀ b o, H3 b = some o → ¬ HdK L H p cc b) (s : Fr c (hidK L H p cc) H3) : Fr c H (bckK L H p cc H3) := fun a o e i => by
  by_cases hc : a = cc
  · exact (bckK_y (.inr (.inl hc))).trans e
  · have h3 := s a o ((hidK_n (C.imm e i hc)).trans e) i
    exact (bckK_n (gone a o h3)).trans h3
theorem HidC.good1 (C : HidC c L H p cc oc) (e : L p = some (.lst (ns.map D.int))) (gone : ∀ b o, H3 b = some o → ¬ HdK L H p cc b) (s : Fr c (hidK L H p cc) H3) (g : Good c L2 H3) (e2 : L2 p = some (.lst (ns.map D.int))) : Good c L (bckK L H p cc H3) := by
  have n2 : ∀ b o, H3 b = some o → bckK L H p cc H3 b = some o := fun b o e => (bckK_n (gone b o e)).trans e
  have f2 := C.fr2 gone s
  refine ⟨g.tabs.ext n2, fun q m hm => ?_, fun a ns' ea => ⟨(C.good.scr a ns' ea).1, ?_⟩⟩
  · by_cases hq : q = p
    · subst hq
      rw [e] at hm
      cases hm
      obtain ⟨vs, e1, r⟩ := g.st q _ e2
      exact ⟨vs, n2 _ _ e1, RepL.ints.mpr (RepL.ints.mp r)⟩
    · exact (C.good.st q m hm).mono (bckK_y (.inl ⟨by rw [hm]; exact nofun, hq⟩)) f2
  · rcases (C.good.scr a ns' ea).2 with ⟨h1, h2⟩ | ⟨o, h⟩ | h
    · rcases (g.scr a ns' ea).2 with ⟨k1, _⟩ | ⟨o, k⟩ | k
      · exact .inl ⟨n2 _ _ k1, h2⟩
      · exact .inr (.inl ⟨o, n2 _ _ k⟩)
      · exact .inr (.inr k)
    · exact .inr (.inl ⟨o, f2 _ _ h trivial⟩)
    · exact .inr (.inr h)
end
def aJn (i : Nat) (o : LamCo) (x : Str) (al : ATE) (C : Addr) (aspI : ASp) (as : ATA) : ATE := fun env L Q => ∃ jd, env[i]? = some (some jd) ∧
  ((∃ n : Int, jd = lamV o x (.int n) ∧ as env L fun ds L1 => ∃ (p : Addr) (ns : List Int), ds = [.ref p] ∧ L1 p = some (.lst (ns.map D.int)) ∧ al [some (.int n), some (.ref p)] (onlyS L1 p) fun d L2 => (∃ k : Int, d = .int k) ∧ L2 p = some (.lst (ns.map D.int)) ∧ Q d L1) ∨
   ∃ b, jd = .ref b ∧ as env L fun ds L1 => (∃ ks vs, L1 b = some (.ins C ks vs)) ∧ aspI (.ref b :: ds) L1 Q anyX)
section
variable {Z : Cx} {c : AC Z.K} {H0 : Hp} {e : Expr} {es : List Expr} {as : ATA} {a x p : Str} {i k : Nat} {o : LamCo} {al : ATE} {C : Addr} {aspI : ASp} {p1 p2 : Pos} {q : Str} {st : Stmt} {ps ps' : List Str}
theorem ae_join (MA : MethAt Z.K C "__call__" q st ps') (MD : MethD Z.prog Z.w Z.K Z.mg Z.base CX0 k C "__call__" ps [] (spA c aspI)) (hr : Room (k + 1) Z.A) (hN : Z.N[i]? = some a) (hv : Vis Z.env.scope a) (ha : AA Z c H0 (e :: es) as) (L : LamC o.scope x p) (hxp : x ≠ p)
    (hbind : ∀ (cl : List (Str × Addr)) (pm cv ctv u : Value), bindArgs (PySem.W.kla_fn "<lambda>" o.qual o.params o.body o.scope cl pm cv ctv) ⟨[u], []⟩ = pure [(p, u)])
    (hbody : ∀ (A : Around) (outer : List Env) (s : Shared) (H : Hp) (f c' cc : Addr) (H1 : Hp), Room k (A.deeper (PySem.W.envX o.qual o.scope s.heap.objs.size f (.ref c') [(x, cc)])) → AE (lamCxC Z A outer s H o f c' cc x p) c H1 o.body al)
    (hd : (a == ("__debug__" : Str)) = false := by decide) (hcd : (a == ("__classdict__" : Str)) = false := by decide)
    (hst : starEach (e :: es) Z.env = (false, eval e Z.env) :: starEach es Z.env := by rfl) (hpl : (backTo p2 (starEach es Z.env)).any (·.1) = false := by rfl) :
    AE Z c H0 (.Call (.Name a p1) (e :: es) [] p2) (aJn i o x al C aspI as) := by
  refine ⟨fun pins s σ H Q I ⟨env, L0, R, rl, ⟨jd, hi, h⟩, pq⟩ => ?_⟩
  obtain ⟨vj, ej, rj⟩ := rl.env.get i _ hi
  rcases h with ⟨n, rfl, h⟩ | ⟨b, rfl, h⟩
  · obtain ⟨f, cc, oc, w, rfl, hF, hcc, hcdat, rw0⟩ := rep_lamV.mp rj
    refine wpAny_Call_Name_kw (thn ((pe_var (pos := p1) (i := i) hN hv hd hcd).run pins s σ H (fun v H1 => v = .ref f ∧ H1 = H) I ⟨.ref f, ej, rfl, rfl⟩) fun u s1 ⟨v1, H1, I1, r1, q1⟩ => ?_)
    obtain ⟨ev, eH⟩ := q1
    subst ev
    rw [eH] at I1
    obtain rfl : u = Value.ref f := r1
    obtain ⟨pm0, ctv0, c0, hf0, _⟩ := id hF
    refine PySem.W.callWith_F ⟨_, _, _, _, (I1.hok f _ hf0).1⟩ ?_ hst hpl
    refine thn (ha.run p2 pins s1 σ H (fun vs H2 => ∃ ds L1, RepL c H2 ds vs ∧ Good c L1 H2 ∧ Fr c H H2 ∧ ∃ (p : Addr) (ns : List Int), ds = [.ref p] ∧ L1 p = some (.lst (ns.map D.int)) ∧ al [some (.int n), some (.ref p)] (onlyS L1 p) fun d L2 => (∃ k : Int, d = .int k) ∧ L2 p = some (.lst (ns.map D.int)) ∧ R d L1) I1
      ⟨env, L0, _, rl, h, fun ds L1 vs H1 q s g r => ⟨ds, L1, r, g, s, q⟩⟩) fun us s2 ⟨vs, H2, I2, rv, ds, L1, rd, g2, f2, pa, ns, eds, elp, hal⟩ => ?_
    subst eds
    obtain ⟨v0, r0, ev0, rv0, er0⟩ := repL_cons.mp rd
    cases rep_ref.mp rv0
    cases repL_nil.mp er0
    subst ev0
    obtain ⟨pm, ctv, c', hf2, hc2⟩ := hF.fri f2.fri
    have hcc2 := f2 _ _ hcc trivial
    refine ⟨⟨_, _, _, _, (I2.hok f _ hf2).1⟩, ?_⟩
    cases rv with
    | @cons _ u _ _ ru rr =>
    cases rr
    have HC : HidC c L1 H2 pa cc oc := ⟨g2, ⟨_, elp⟩, hcc2⟩
    have e2 := I2.env0
    have e0 : Env0 Z.prog Z.w Z.K Z.mg Z.base Z.A Z.stack s2 (hidK L1 H2 pa cc) := ⟨e2.frames, e2.mod, fun b ob eb => ⟨(e2.bs b ob eb).1, hidK_none (e2.bs b ob eb).2⟩, e2.bsz, e2.funs, fun b hb => hidK_none (e2.frf b hb), HC.hok e2.hok, e2.bare⟩
    obtain ⟨⟨oc', vs', t, hoc, hdc, hvc⟩, _, _⟩ := I2.hok c' _ hc2
    have rc : codeAny (model Z.prog Z.w) Z.A (.call (.ref f) ⟨[u], []⟩) (fun r s' => match r with | .ok (.ret y) => EP Z pins σ Q y s' | _ => False) s2 := by
      refine PySem.W.kla_callFunE hr.depth (I2.hok f _ hf2).1 rfl L.co L.gen rfl ⟨c', oc', vs', t, rfl, hoc, hdc, hvc⟩ ?_
      rw [hbind]
      refine wpAny_pure (wpAny_newFunctionEnv (fun y hy => (L.own y hy).2) (fun y hy => by rw [List.mem_singleton.mp hy]; exact L.par) (fun h₁ hns hsb => ⟨I2.nolimit.fresh _ hsb, ?_⟩) L.kind)
      show codeAny _ _ (.expr o.body (PySem.W.envX o.qual o.scope s2.heap.objs.size f (.ref c') [(x, cc)])) _ _
      have kp : ∀ b o, s2.heap.get? b = some o → h₁.get? b = some o := fun b o e => hsb.extBut b o (Nat.ne_of_lt (Heap.lt_size e)) (Heap.get?_push_of_some _ e)
      have J : Inv (lamCxC Z Z.A Z.stack s2 (hidK L1 H2 pa cc) o f c' cc x p) [] [some (.int n), some (.ref pa)] (hidK L1 H2 pa cc) { s2 with heap := h₁, toks := s2.toks + ([(p, u)] : List (Str × Value)).length } :=
        lam_startC L hxp e0 hr.hd (I2.hok cc _ hcc2).1 hcdat (hidK_y (.inr (.inl rfl))) rw0 hns kp ru
      refine PySem.W.kla_codeExpr (wpAny_mono ((hbody Z.A Z.stack s2 _ f c' cc (hidK L1 H2 pa cc) (hr.deeper _)).run [] _ _ _ (fun v H3 => ∃ (k : Int) (L2 : Store), v = .int k ∧ L2 pa = some (.lst (ns.map D.int)) ∧ Good c L2 H3 ∧ Fr c (hidK L1 H2 pa cc) H3 ∧ R (.int k) L1) J
        ⟨[some (.int n), some (.ref pa)], onlyS L1 pa, _, ⟨⟨rfl, fun j d ej => ?_⟩, HC.good0 elp, .refl c _⟩, hal, fun d L2 v H3 ⟨⟨k, ek⟩, el2, hR⟩ s3 g3 r3 => ⟨k, L2, ?_, el2, g3, s3, ?_⟩⟩) (fun v s' hq => ?_) fun _ _ hq => hq.elim)
      · match j, ej with
        | 0, ej => cases ej; exact ⟨_, rfl, rep_int.mpr rfl⟩
        | 1, ej => cases ej; exact ⟨_, rfl, rep_ref.mpr rfl⟩
        | j + 2, ej => cases ej
      · subst ek
        exact rep_int.mp r3
      · subst ek
        exact hR
      · obtain ⟨w', H3, J', rv', k, L2, ew, el2, g3, s3, hR⟩ := hq
        subst ew
        obtain ⟨un, ok, gone⟩ := HC.back I2.hok e2.frf J'.base J'.hok
        have f3 := HC.fr2 gone s3
        exact I2.after ⟨.int k, _, J'.os, J'.bare, un, ok, rv', pq (.int k) L1 (.int k) _ hR (f2.trans f3) (HC.good1 elp gone s3 g3 el2) (rep_int.mpr rfl)⟩
    refine wpAny_call (codeAny_mono rc fun r s' hq => ?_)
    cases r with
    | error e => exact hq.elim
    | ok fl =>
      cases fl with
      | ret u => exact hq
      | next => exact hq.elim
      | brk => exact hq.elim
      | cont => exact hq.elim
  · cases rep_ref.mp rj
    obtain ⟨g, hm, FR⟩ := fnR_of MD
    refine (StX.pe_callO (fe := .Name a p1) (pe_var (pos := p1) (i := i) hN hv hd hcd) ⟨hm.at_, hm.fn, fi_of MA hm⟩ FR (hr.mono (Nat.le_succ k)) (E := fun _ _ _ => True) pass0 ha rfl hst hpl).run pins s σ H Q I ?_
    refine ⟨.ref b, ej, b, rfl, env, L0, _, rl, h, fun ds L1 vs H2 q s2 g2 r2 => ?_⟩
    obtain ⟨⟨ks, vs, hb⟩, q⟩ := q
    obtain ⟨dx, vals, e1, _⟩ := g2.st _ _ hb
    exact ⟨.inr ⟨dx, _, e1⟩, _, L1, R, anyX, .cons (rj.fr s2) r2, g2, q, pq.fr s2, px_any⟩
def aCallO (a : ATE) (C : Addr) (aspI : ASp) (as : ATA) : ATE := fun env L Q => a env L fun d L0 => ∃ b, d = .ref b ∧ as env L0 fun ds L1 => (∃ ks vs, L1 b = some (.ins C ks vs)) ∧ aspI (.ref b :: ds) L1 Q anyX
theorem ae_callO {fe : Expr} {b : ATE} (MA : MethAt Z.K C "__call__" q st ps') (MD : MethD Z.prog Z.w Z.K Z.mg Z.base CX0 k C "__call__" ps [] (spA c aspI)) (hr : Room k Z.A) (hf : AE Z c H0 fe b) (ha : AA Z c H0 (e :: es) as)
    (ht : eval (.Call fe (e :: es) [] p2) Z.env = (do callWith p2 (← eval fe Z.env) [] (backTo p2 (starEach (e :: es) Z.env)) (backToKw p2 (keywordEach [] Z.env))) := by rfl)
    (hst : starEach (e :: es) Z.env = (false, eval e Z.env) :: starEach es Z.env := by rfl) (hpl : (backTo p2 (starEach es Z.env)).any (·.1) = false := by rfl) : AE Z c H0 (.Call fe (e :: es) [] p2) (aCallO b C aspI as) := by
  obtain ⟨g, hm, FR⟩ := fnR_of MD
  refine (StX.pe_callO hf ⟨hm.at_, hm.fn, fi_of MA hm⟩ FR hr (E := fun _ _ _ => True) pass0 ha ht hst hpl).imp fun σ H Q ⟨env, L, R, rl, h, pq⟩ => ?_
  refine ⟨env, L, _, rl, h, fun d L1 v H1 ⟨b, eb, h⟩ s1 g1 r1 => ?_⟩
  subst eb
  cases rep_ref.mp r1
  refine ⟨b, rfl, env, L1, _, rl.step s1 g1, h, fun ds L2 vs H2 q s2 g2 r2 => ?_⟩
  obtain ⟨⟨ks, vs, hb⟩, q⟩ := q
  obtain ⟨dx, vals, e1, _⟩ := g2.st _ _ hb
  exact ⟨.inr ⟨dx, _, e1⟩, _, L2, R, anyX, .cons (r1.fr s2) r2, g2, q, (pq.fr s1).fr s2, px_any⟩
end
end AL
namespace AL
open PySem PySem.Spec PyProof.Rows L2 LamX JW
abbrev ABT := En → Store → (En → D → Store → Prop) → Prop
section
variable {X : Cx} {c : AC X.K} {H0 : Hp} {e t : Expr} {a : ATE} {at' : ATT} {b b' : ABT} {sts rest : List Stmt} {pos : Pos}
def lowB {K : PySem.W.Frag} (c : AC K) (H0 : Hp) (a : ABT) : L2.St → Hp → (L2.St → V → Hp → Prop) → Prop := fun σ H Φ => ∃ env L R, Rl c H0 σ H env L ∧ a env L R ∧ ∀ env' d L' σ' v H', R env' d L' → Fr c H H' → Rl c H0 σ' H' env' L' → Rep c H' d v → Φ σ' v H'
structure BL (X : Cx) (c : AC X.K) (H0 : Hp) (sts : List Stmt) (a : ABT) : Prop where
  run : ∀ (pins : List (Addr × Obj)) (s : Shared) (σ : L2.St) (H : Hp) (Φ : L2.St → V → Hp → Prop), Inv X pins σ H s → lowB c H0 a σ H Φ →
    wpAny (model X.prog X.w) X.A (execs sts X.env) (fun fl s' => ∃ u v σ' H', fl = .ret u ∧ Inv X pins σ' H' s' ∧ RelV v u ∧ Φ σ' v H') X.xe s
theorem bl_ret (he : AE X c H0 e a) : BL X c H0 (.Return (some e) pos :: rest) (fun env L Q => a env L (Q env)) := by
  refine ⟨fun pins s σ H Φ I ⟨env, L, R, rl, h, k⟩ => wpAny_execs_cons (wpAny_Return_some (thn (he.run pins s σ H (fun v H1 => Φ σ v H1) I ⟨env, L, _, rl, h, fun d L1 v H1 q s1 g1 r1 => k env d L1 σ v H1 q s1 (rl.step s1 g1) r1⟩) fun v s1 ⟨x, H1, I1, r1, q1⟩ => ?_))⟩
  exact ⟨v, x, σ, H1, rfl, I1, r1, q1⟩
theorem bl_if (ht : AT X c H0 t at') (ha : BL X c H0 sts b) (hb : BL X c H0 rest b') : BL X c H0 (.If t sts [] pos :: rest) (fun env L Q => at' env L fun k L1 => if k = true then b env L1 Q else b' env L1 Q) := by
  refine ⟨fun pins s σ H Φ I ⟨env, L, R, rl, h, k⟩ => wpAny_execs_cons (wpAny_If (thn (ht.run pins s σ H (fun z H1 => ∃ L1, (if z = true then b env L1 R else b' env L1 R) ∧ Fr c H H1 ∧ Good c L1 H1) I ⟨env, L, _, rl, h, fun z L1 H1 q s1 g1 => ⟨L1, q, s1, g1⟩⟩) fun z s1 ⟨H1, I1, L1, q, f1, g1⟩ => ?_))⟩
  cases z with
  | true =>
    refine wpAny_mono (ha.run pins s1 σ H1 Φ I1 ⟨env, L1, R, rl.step f1 g1, q, fun env' d L' σ' v H' hq f2 => k env' d L' σ' v H' hq (f1.trans f2)⟩) (fun fl s' ⟨u, v, σ', H', e, r⟩ => ?_) fun _ _ z => z
    subst e
    exact ⟨u, v, σ', H', rfl, r⟩
  | false => exact wpAny_execs_nil (hb.run pins s1 σ H1 Φ I1 ⟨env, L1, R, rl.step f1 g1, q, fun env' d L' σ' v H' hq f2 => k env' d L' σ' v H' hq (f1.trans f2)⟩)
theorem lam_keep {pins : List (Addr × Obj)} {σ : L2.St} {H : Hp} {s : Shared} {env : En} {L : Store} {i : Nat} {x : Str} {n : Int} (J : Inv X pins σ H s) (hfn : X.fn x = true) (rl : Rl c H0 σ H env L) (hN : X.N[i]? = some x) (hi : env[i]? = some (some (.int n))) (hc : X.env.scope.names.lookup x = some .cell) :
    ∃ cc oc w, X.env.cells.lookup x = some cc ∧ oc.data = .cell (some w) ∧ RelV (.int n) w ∧ H cc = none ∧ X.s_0.heap.objs.size ≤ cc ∧ HOk X.prog X.w (upd H cc (frzT oc)) s.heap := by
  obtain ⟨v, e1, r1⟩ := rl.env.get i _ hi
  cases rep_int.mp r1
  obtain ⟨m, _, hl⟩ := J.loc
  obtain ⟨w, r, q⟩ := hl i x _ hN e1 (.inr (.inl hc))
  rcases q with ⟨k, _⟩ | ⟨_, cc, e2, oc, ho, hd⟩
  · have k : X.env.scope.names.lookup x = some .local := k
    rw [hc] at k
    cases k
  · have hn := J.freeC x cc e2
    have up : ∀ b u, H b = some u → upd H cc (frzT oc) b = some u := fun b u e => (upd_ne (ne_of_none e hn)).trans e
    refine ⟨cc, oc, w, e2, hd, r, hn, J.ok.cab x cc hfn e2, fun b u q => ?_⟩
    by_cases hb : b = cc
    · subst hb
      rw [upd_same] at q
      cases q
      exact ⟨ho, trivial, ⟨oc, ho⟩, fun _ _ _ _ => trivial⟩
    · rw [upd_ne hb] at q
      exact (J.hok b u q).stay (fun _ _ _ y => y) (fun d y => up _ _ y) fun d xs y => up _ _ y
end
theorem _root_.JW.DefAtP.okL {P : Program} {w : World} {K : PySem.W.Frag} {mg : Str → Option Value} {base : Heap} {c : AC K} {x qual : Str} {st : Stmt} {N ps : List Str} {k : Nat} {asp : ASp} (D : DefAtP K mg x qual st ps) (S : FnScope N ps (defScope st)) (hl : ∀ ds L R RX, asp ds L R RX → ds.length = ps.length)
    (body : ∀ (A : Around) (outer : List Env) (s : Shared) (H : Hp) (E : XK), Room k (A.deeper (envOfC qual (defScope st) s.heap.objs.size (He.fAd K (x, none)) (.ref (He.codeOf K (x, none))))) → ∃ a, BL (cxOf CX0 P w K mg base N qual (defScope st) (He.fAd K (x, none)) (.ref (He.codeOf K (x, none))) A outer s H E) c H (defBody st) a ∧
      ∀ ds L R RX, asp ds L R RX → a (startA N ds) L fun env d L' => ∀ σ' v H' s', Inv (cxOf CX0 P w K mg base N qual (defScope st) (He.fAd K (x, none)) (.ref (He.codeOf K (x, none))) A outer s H E) [] σ' H' s' → Rl c H σ' H' env L' → Rep c H' d v →
        ∃ H'' L'' d'', HOk P w H'' s'.heap ∧ (∀ b o, H' b = some o → H'' b = some o) ∧ (∀ b, H' b = none → H'' b ≠ none → s.heap.objs.size ≤ b) ∧ Good c L'' H'' ∧ Rep c H'' d'' v ∧ R d'' L'') : CallD P w K mg base CX0 (k + 1) x ps [] (spA c asp) := by
  obtain ⟨fd, F, b⟩ := D.f
  obtain ⟨oc, od, dV, kV, doc, pm, an, cdv, ct, osl, rfl, lk, hcd, _, _⟩ := id F.ex
  obtain ⟨cA, rfl⟩ := He.codeIn_ref hcd
  have ec : He.codeOf K (x, none) = cA := He.codeOf_eq lk rfl
  subst ec
  refine ⟨_, _, [], D.g, F.kp, b, .nil, spA_len hl, fun A outer s H args us vs Q E hr e0 hb r ⟨ds, L, R, RX, rd, g, h, pq, px⟩ => ?_⟩
  have KX : K.In s.heap := e0.mod.kin.keeps fun b o e => (e0.bs b o e).1
  have lim : s.heap.NoLimit := e0.mod.nolimit.keeps fun b o e => (e0.bs b o e).1
  have hlen : vs.length = ps.length := by
    rw [rd.len]
    exact hl _ _ _ _ h
  refine codeAny_call_function hr.depth (KX _ _ lk) rfl S.co S.gen rfl (PySem.W.codeRec_of KX hcd) (hb _ _ _ _ (wpAny_newFunctionEnv_cells S.kind (fun ⟨n, v⟩ hy => ?_) fun env he s1 xc => ?_))
  · rcases S.par n (List.of_mem_zip hy).1 with q | q
    · exact .inl q
    · exact .inr ⟨q, PySem.W.cellsFrom_some _ _ _ (.inl q)⟩
  subst he
  refine ⟨lim.keeps xc.toInCall.keep, codeAny_func ?_⟩
  obtain ⟨a, ha, hv⟩ := body A outer s H E (hr.deeper _)
  refine wpAny_mono (ha.run [] s1 (L2.start N vs) H (fun σ' v H' => ∀ s', Inv (cxOf CX0 P w K mg base N qual (defScope st) (He.fAd K (x, none)) (.ref (He.codeOf K (x, none))) A outer s H E) [] σ' H' s' → ∃ H'' L'' d'', HOk P w H'' s'.heap ∧ (∀ b o, H' b = some o → H'' b = some o) ∧ (∀ b, H' b = none → H'' b ≠ none → s.heap.objs.size ≤ b) ∧ Good c L'' H'' ∧ Rep c H'' d'' v ∧ R d'' L'' ∧ Fr c H H') (inv_start S hr.hd e0 hlen r xc)
    ⟨startA N ds, L, _, ⟨start_low rd, g, .refl c H⟩, hv ds L R RX h, fun env' d L' σ' v H' hq f rl r' s' J => ?_⟩) (fun fl s' ⟨u, v, σ', H', e, J, rv, q⟩ => ?_) fun e s' hs => hs
  · obtain ⟨H'', L'', d'', h1, h2, h3, h4, h5, h6⟩ := hq σ' v H' s' J rl r'
    exact ⟨H'', L'', d'', h1, h2, h3, h4, h5, h6, f⟩
  · subst e
    obtain ⟨H'', L'', d'', h1, h2, h3, h4, h5, h6, f⟩ := q s' J
    refine ⟨v, H'', J.os, J.bare, ⟨J.base.keep, J.base.slot, fun b o e n hx => ?_, J.base.there, fun b xs e => h2 _ _ (J.base.tups b xs e), fun b o u e => h2 _ _ (J.base.frzs b o u e), fun b ps e => ?_⟩, h1, rv, pq d'' L'' v H'' h6 (f.trans fun b o e _ => h2 b o e) h4 h5⟩
    · cases e2 : H'' b with
      | none => rfl
      | some o' => exact absurd (h3 b (J.base.free b o e n hx) (by rw [e2]; exact nofun)) (Nat.not_le_of_lt (Heap.lt_size e))
    · obtain ⟨more, q⟩ := J.base.tbls b ps e
      exact ⟨more, h2 _ _ q⟩
end AL
namespace AL
open PySem PySem.Spec PyProof.Rows L2 LamX JW GenW
section
variable {P : Program} {w : World} {A : Around} {First : Addr → Addr → List V → Shared → Prop} {fs : List Frame} {it t : Addr} {xs : List V}
end
end AL
namespace JW
open PySem PySem.Spec PyProof.Rows L2 AL
open He
structure Txt (K : PySem.W.Frag) (mg : Str → Option Value) (base : Heap) : Prop where
  cls : ClsF K mg
  o_Adding : ClsO K mg "Adding"
  na_Adding_added : NoAttr K (He.ga K "Adding") "added"
  o_Fold : ClsO K mg "Fold"
  na_Fold_seed : NoAttr K (He.ga K "Fold") "seed"
  na_Fold_joining : NoAttr K (He.ga K "Fold") "joining"
  gMOST : ∃ t, mg "MOST" = some (.int (5000) t)
  gDEEPEST : ∃ t, mg "DEEPEST" = some (.int (120) t)
  gJET_TEXT : ∃ t, mg "JET_TEXT" = some (.str ("o") t)
  init_Adding : InitAt K mg "Adding" (He.ga K "Adding") "Adding.__init__" s_Adding___init__ [] ["self", "added"]
  m_Adding___call__ : MethAt K (He.ga K "Adding") "__call__" "Adding.__call__" s_Adding___call__ ["self", "values"]
  d_folded : DefAt K mg "folded" "folded" s_folded [] ["a", "jet", "join"]
  init_Fold : InitAt K mg "Fold" (He.ga K "Fold") "Fold.__init__" s_Fold___init__ [] ["self", "jet", "join"]
  p_Fold_jet : PropAt K (He.ga K "Fold") "jet" "Fold.jet" s_Fold_jet
  m_Fold___call__ : MethAt K (He.ga K "Fold") "__call__" "Fold.__call__" s_Fold___call__ ["self", "a"]
  m_Fold_seeded : MethAt K (He.ga K "Fold") "seeded" "Fold.seeded" s_Fold_seeded ["self", "jet"]
  c_Fold_summing : CmAt K (He.ga K "Fold") "summing" "Fold.summing" s_Fold_summing ["cls", "jet", "basin"]
  e_TooLarge : ErrAt K mg "TooLarge" (He.ga K "TooLarge") "TooLarge.__init__" s_TooLarge___init__ ["self", "pieces"]
  na_TooLarge : PySem.W.findIn K (.ref (He.ga K "TooLarge")) "pieces" = some none
  e_TooDeep : ErrAt K mg "TooDeep" (He.ga K "TooDeep") "TooDeep.__init__" s_TooDeep___init__ ["self", "basins"]
  na_TooDeep : PySem.W.findIn K (.ref (He.ga K "TooDeep")) "basins" = some none
  d_check_numbers : DefAt K mg "check_numbers" "check_numbers" s_check_numbers [] ["numbers"]
  d_basin_numbers : DefAt K mg "basin_numbers" "basin_numbers" s_basin_numbers [] ["branches"]
  d_parsed : DefAt K mg "parsed" "parsed" s_parsed [] ["text"]
  d_made : DefAtP K mg "made" "made" s_made ["branches"]
  tb_made : LamX.TabB base mg (He.cT K ("made", none)).1 (He.cT K ("made", none)).2
  init : InitAt K mg "Fountain" (cF K) "Fountain.__init__" s_Fountain___init__ [.non] ["self", "text", "branches"]
  p_text : PropAt K (cF K) "text" "Fountain.text" s_Fountain_text
  p_parts : PropAt K (cF K) "parts" "Fountain.parts" s_Fountain_parts
  p_size : PropAt K (cF K) "size" "Fountain.size" s_Fountain_size
  p_jets : PropAt K (cF K) "jets" "Fountain.jets" s_Fountain_jets
  p_depth : PropAt K (cF K) "depth" "Fountain.depth" s_Fountain_depth
  p_longest : PropAt K (cF K) "longest" "Fountain.longest" s_Fountain_longest
  p_shortest : PropAt K (cF K) "shortest" "Fountain.shortest" s_Fountain_shortest
  p_is_open : PropAt K (cF K) "is_open" "Fountain.is_open" s_Fountain_is_open
  p_is_jet : PropAt K (cF K) "is_jet" "Fountain.is_jet" s_Fountain_is_jet
  m___eq__ : MethAt K (cF K) "__eq__" "Fountain.__eq__" s_Fountain___eq__ ["self", "other"]
  d__law_feed : DefAt K mg "_law_feed" "_law_feed" s__law_feed [] ["_law_script", "_law_k"]
  d__law_draw : DefAt K mg "_law_draw" "_law_draw" s__law_draw [] ["_law_feed_here", "_law_limit"]
  d__law_mixed : DefAt K mg "_law_mixed" "_law_mixed" s__law_mixed [] ["_law_feed_here", "_law_items"]
  d__law_norm : DefAt K mg "_law_norm" "_law_norm" s__law_norm [] ["_law_text"]
  d__law_parts : DefAt K mg "_law_parts" "_law_parts" s__law_parts [] ["_law_text"]
  d__law_size : DefAt K mg "_law_size" "_law_size" s__law_size [] ["_law_text"]
  d__law_grown : DefAt K mg "_law_grown" "_law_grown" s__law_grown [] ["_law_feed_here", "_law_room"]
  d__law_open : DefAt K mg "_law_open" "_law_open" s__law_open [] ["_law_feed_here", "_law_room"]
  d__law_product : DefAt K mg "_law_product" "_law_product" s__law_product [] ["_law_one", "_law_two"]
  d__law_composed : DefAt K mg "_law_composed" "_law_composed" s__law_composed [] ["_law_feed_here", "_law_room"]
  d__law_any : DefAt K mg "_law_any" "_law_any" s__law_any [] ["_law_feed_here", "_law_room"]
  d__law_told : DefAt K mg "_law_told" "_law_told" s__law_told [] ["_law_feed_here", "_law_text"]
  d__law_ordered_sum : DefAt K mg "_law_ordered_sum" "_law_ordered_sum" s__law_ordered_sum [] ["_law_values"]
  d__law_joined : DefAt K mg "_law_joined" "_law_joined" s__law_joined [] ["_law_form", "_law_values"]
  d__law_value : DefAt K mg "_law_value" "_law_value" s__law_value [] ["_law_text", "_law_jet", "_law_form"]
  d__law_first : DefAtP K mg "_law_first" "_law_first" s__law_first ["_law_jet", "_law_form"]
  tb__law_first : LamX.TabB base mg (He.cT K ("_law_first", none)).1 (He.cT K ("_law_first", none)).2
  d_law : DefAt K mg "law" "law" s_law [] ["_law_script"]
  b_JetError : mg "JetError" = some (.ref (He.ga K "JetError")) ∧ InitBy K (He.ga K "JetError")
  nb : ∀ h : Heap, K.In h → NoneBooked h
  ny_Fold : ¬ (He.ga K "Fold" = He.ga K "Fountain")
  ny_Adding : ¬ (He.ga K "Adding" = He.ga K "Fountain")
  nt_made__law_first : ¬ ((He.cT K ("made", none)).2 = (He.cT K ("_law_first", none)).2)
  n_NotImplemented : mg "NotImplemented" = none
  n_TypeError : mg "TypeError" = none
  n_abs : mg "abs" = none
  n_any : mg "any" = none
  n_enumerate : mg "enumerate" = none
  n_int : mg "int" = none
  n_isinstance : mg "isinstance" = none
  n_len : mg "len" = none
  n_list : mg "list" = none
  n_max : mg "max" = none
  n_min : mg "min" = none
  n_range : mg "range" = none
  n_sorted : mg "sorted" = none
  n_sum : mg "sum" = none
  n_tuple : mg "tuple" = none
abbrev TT (K : PySem.W.Frag) : List (Addr × Str) := [((He.cT K ("made", none)).2, ("made.<locals>." : Str) ++ "<lambda>"), ((He.cT K ("_law_first", none)).2, ("_law_first.<locals>." : Str) ++ "<lambda>")]
theorem tt_made {K : PySem.W.Frag} : ((He.cT K ("made", none)).2, ("made.<locals>." : Str) ++ "<lambda>") ∈ TT K := .head _
theorem tu_made {K : PySem.W.Frag} {mg : Str → Option Value} {base : Heap} (T : Txt K mg base) : ∀ q ∈ TT K, q.1 = (He.cT K ("made", none)).2 → q.2 = ("made.<locals>." : Str) ++ "<lambda>" := by
  intro q hq e
  rcases List.mem_cons.mp hq with rfl | hq
  · rfl
  rw [List.mem_singleton.mp hq] at e ⊢
  exact absurd e.symm T.nt_made__law_first
theorem tt__law_first {K : PySem.W.Frag} : ((He.cT K ("_law_first", none)).2, ("_law_first.<locals>." : Str) ++ "<lambda>") ∈ TT K := .tail _ (.head _)
theorem tu__law_first {K : PySem.W.Frag} {mg : Str → Option Value} {base : Heap} (T : Txt K mg base) : ∀ q ∈ TT K, q.1 = (He.cT K ("_law_first", none)).2 → q.2 = ("_law_first.<locals>." : Str) ++ "<lambda>" := by
  intro q hq e
  rcases List.mem_cons.mp hq with rfl | hq
  · exact absurd e T.nt_made__law_first
  rw [List.mem_singleton.mp hq]
abbrev cA (K : PySem.W.Frag) (scr : Option (Addr × List Int)) : AL.AC K := ⟨TT K, [], scr⟩
section
variable {P : Program} {w : World} {K : PySem.W.Frag} {mg : Str → Option Value} {base : Heap}
def sp_eq (K : PySem.W.Frag) : Sp := fun vs H Q _ => ∃ v t w u, vs = [v, w] ∧ Ftn (cF K) H t v ∧ Ftn (cF K) H u w ∧ Q (.bl (decide (t = u))) H
theorem ok_Fountain___eq__  (T : Txt K mg base) : MethD P w K mg base CX0 1 (cF K) "__eq__" ["self", "other"] [] (sp_eq K) := by
  refine T.m___eq__.ok sc_Fountain___eq__ (fun vs H Q E h => ?_) (fun f cdv A outer s H vs Q E hr h => ?_)
  · obtain ⟨v, t, w, u, rfl, _⟩ := h
    rfl
  · obtain ⟨v, t, w, u, rfl, hv, hw, k⟩ := h
    obtain ⟨a, dx, b, n, vs, rfl, ha, hb, hn, hk⟩ := ftn_iff.mp hv
    obtain ⟨a2, dx2, b2, n2, vs2, rfl, ha2, hb2, hn2, hk2⟩ := ftn_iff.mp hw
    refine ⟨_, (pss_one (ps_ret (pe_and (pe_callB call_isi (by rfl) T.n_isinstance (by decide +kernel) (pa_cons (pv 1) (pa_cons (pe_glob (v := .ref (cF K)) rfl T.cls.g rfl) pa_nil))) (pe_one (pe_cmpR op_eq (pe_fld (pv 0) rfl) (pe_fld (pv 1) rfl) (nomark _)))))), ?_⟩
    refine ⟨.ref a2, rfl, .ref a2, .ref (cF K), _, _, true, rfl, .own _, T.cls.ty ha2, isi_self, true, rfl, ite_t rfl ⟨.ref a, rfl, a, _, dx, _, _, rfl, ha, T.cls.c, T.cls.nw, fl_w, .ref a2, rfl, a2, _, dx2, _, _, rfl, ha2, T.cls.c, T.cls.nw, fl_w, rfl, ?_⟩⟩
    rw [show decide (V.str (tx t) = V.str (tx u)) = decide (t = u) from decide_eq_decide.mpr ⟨fun z => tx_inj (V.str.inj z), fun z => by rw [z]⟩]
    exact k
theorem okF_eq (T : Txt K mg base) : MethD P w K mg base CX0 1 (cF K) "__eq__" ["self", "other"] [] (spEqF K) := (ok_Fountain___eq__ T).imp fun vs H Q E ⟨x, y, t, u, e, h1, h2, q⟩ => ⟨x, t, y, u, e, h1, h2, q⟩

def FdO (K : PySem.W.Frag) (d e : D) : MO := .ins (He.ga K "Fold") ["seed", "joining"] [d, e]
theorem ni_Fold (T : Txt K mg base) {scr : Option (Addr × List Int)} : ¬ IC (cA K scr) (He.ga K "Fold") := fun h => by
  rcases h with h | ⟨x, hx, _⟩
  · exact T.ny_Fold h
  · exact absurd hx List.not_mem_nil
theorem look_se {d e : D} : ((["seed", "joining"] : List Str).zip [d, e]).lookup ("seed" : Str) = some d := by
  show (match ("seed" : Str) == ("seed" : Str) with | true => some d | false => (match ("seed" : Str) == ("joining" : Str) with | true => some e | false => none)) = some d
  rw [beq_self_eq_true]
theorem look_jo {d e : D} : ((["seed", "joining"] : List Str).zip [d, e]).lookup ("joining" : Str) = some e := by
  have h : (("joining" : Str) == ("seed" : Str)) = false := by decide +kernel
  show (match ("joining" : Str) == ("seed" : Str) with | true => some d | false => (match ("joining" : Str) == ("joining" : Str) with | true => some e | false => none)) = some e
  rw [h, beq_self_eq_true]
theorem putK_jo : putK ("joining" : Str) (["seed"] : List Str) = (["seed", "joining"] : List Str) := if_neg (show ¬ (("seed" : Str) = ("joining" : Str)) by decide +kernel)
theorem putV_jo {x a : D} : putV ("joining" : Str) x ["seed"] [a] = [a, x] := if_neg (show ¬ (("seed" : Str) = ("joining" : Str)) by decide +kernel)
def asp_Fold___init__ (K : PySem.W.Frag) : ASp
  | [.ref p, d, e], L, Q, _ => L p = some (.ins (He.ga K "Fold") [] []) ∧ Q .non (sput L p (FdO K d e))
  | _, _, _, _ => False
theorem okA_Fold___init__  (T : Txt K mg base) {scr : Option (Addr × List Int)} : MakeD P w K mg base CX0 2 "Fold" (He.ga K "Fold") ["self", "jet", "join"] [] (spA (cA K scr) (asp_Fold___init__ K)) := by
  refine T.init_Fold.okA sc_Fold___init__ ?len (fun f cdv A outer s H E hr => (as_cons (as_fldN (K := K) rfl (av 0) (av 1))
      (as_one (as_fldN (K := K) rfl (av 0) (av 2))))) ?vc
  case len =>
    intro ds L R RX h
    unfold asp_Fold___init__ at h
    split at h <;> first | rfl | exact h.elim
  case vc =>
    intro ds L R RX h
    unfold asp_Fold___init__ at h
    split at h
    · rename_i p d e
      obtain ⟨hy, h⟩ := h
      refine ⟨p, _, _, _, rfl, hy, T.o_Fold.c, T.na_Fold_seed, by decide, ?_⟩
      refine ⟨p, _, _, _, rfl, sput_same, T.o_Fold.c, T.na_Fold_joining, by decide, ?_⟩
      rw [sput_sput]
      have e1 : putK ("seed" : Str) [] = (["seed"] : List Str) := rfl
      have e2 : putV ("seed" : Str) d [] [] = [d] := rfl
      rw [e1, e2, putK_jo, putV_jo]
      exact ret_of h
    · exact h.elim
def AdM (K : PySem.W.Frag) (n : Int) : MO := .ins (He.ga K "Adding") ["added"] [.int n]
theorem ni_Adding (T : Txt K mg base) {scr : Option (Addr × List Int)} : ¬ IC (cA K scr) (He.ga K "Adding") := fun h => by
  rcases h with h | ⟨x, hx, _⟩
  · exact T.ny_Adding h
  · exact absurd hx List.not_mem_nil
theorem look_ad {d : D} : ((["added"] : List Str).zip [d]).lookup ("added" : Str) = some d := by
  show (match ("added" : Str) == ("added" : Str) with | true => some d | false => none) = some d
  rw [beq_self_eq_true]
def asp_Adding___init__ (K : PySem.W.Frag) : ASp
  | [.ref p, .int n], L, Q, _ => L p = some (.ins (He.ga K "Adding") [] []) ∧ Q .non (sput L p (AdM K n))
  | _, _, _, _ => False
theorem okA_Adding___init__  (T : Txt K mg base) {scr : Option (Addr × List Int)} : MakeD P w K mg base CX0 2 "Adding" (He.ga K "Adding") ["self", "added"] [] (spA (cA K scr) (asp_Adding___init__ K)) := by
  refine T.init_Adding.okA sc_Adding___init__ ?len (fun f cdv A outer s H E hr => (as_one (as_fldM (K := K) rfl (av 0) (av 1)))) ?vc
  case len =>
    intro ds L R RX h
    unfold asp_Adding___init__ at h
    split at h <;> first | rfl | exact h.elim
  case vc =>
    intro ds L R RX h
    unfold asp_Adding___init__ at h
    split at h
    · rename_i p n
      obtain ⟨hy, h⟩ := h
      exact ⟨p, _, _, _, rfl, hy, T.o_Adding.c, T.na_Adding_added, .inl rfl, ret_of h⟩
    · exact h.elim
def asp_Fold_summing (K : PySem.W.Frag) : ASp
  | [.ref C, .int j, .int n], L, Q, _ => C = He.ga K "Fold" ∧ ∀ a, L a = none → ∀ b, sput L a (AdM K n) b = none → Q (.ref b) (sput (sput L a (AdM K n)) b (FdO K (.int j) (.ref a)))
  | _, _, _, _ => False
theorem okA_Fold_summing  (T : Txt K mg base) {scr : Option (Addr × List Int)} : CmD P w K mg base CX0 6 (He.ga K "Fold") "summing" ["cls", "jet", "basin"] (spA (cA K scr) (asp_Fold_summing K)) := by
  refine T.c_Fold_summing.okA sc_Fold_summing ?len (fun f cdv A outer s H E hr => (as_one (as_ret (ae_makeMV (okA_Fold___init__ T) (hr.mono (by decide)) (ni_Fold T) (av 0) (aa_cons (av 1) (aa_cons (ae_makeM (okA_Adding___init__ T) (hr.mono (by decide)) (by rfl) (ni_Adding T) (aa_cons (av 2) aa_nil)) aa_nil)))))) ?vc
  case len =>
    intro ds L R RX h
    unfold asp_Fold_summing at h
    split at h <;> first | rfl | exact h.elim
  case vc =>
    intro ds L R RX h
    unfold asp_Fold_summing at h
    split at h
    · rename_i C j n
      obtain ⟨rfl, h⟩ := h
      refine ⟨rfl, fun a ha => ⟨sput_same, rfl, fun b hb => ⟨sput_same, rfl, ?_⟩⟩⟩
      rw [sput_sput] at hb ⊢
      rw [sput_sput]
      exact ret_of (h a ha b hb)
    · exact h.elim
def intsI (ns : List Int) : MO := .lst (ns.map D.int)
def asp_Adding___call__ (K : PySem.W.Frag) : ASp
  | [.ref p, .ref q], L, Q, _ => ∃ (n : Int) (ns : List Int), L p = some (AdM K n) ∧ L q = some (intsI ns) ∧ Q (.int (n + ns.sum)) L
  | _, _, _, _ => False
theorem okA_Adding___call__  (T : Txt K mg base) {scr : Option (Addr × List Int)} : MethD P w K mg base CX0 3 (He.ga K "Adding") "__call__" ["self", "values"] [] (spA (cA K scr) (asp_Adding___call__ K)) := by
  refine T.m_Adding___call__.okA sc_Adding___call__ ?len (fun f cdv A outer s H E hr => (as_one (as_ret (ae_op aop_add (ae_fldM (K := K) rfl (av 0) rfl) (ae_b (acb_sum rfl) (by rfl) T.n_sum (by decide +kernel) (aa_cons (av 1) aa_nil)))))) ?vc
  case len =>
    intro ds L R RX h
    unfold asp_Adding___call__ at h
    split at h <;> first | rfl | exact h.elim
  case vc =>
    intro ds L R RX h
    unfold asp_Adding___call__ at h
    split at h
    · rename_i p q
      obtain ⟨n, ns, hp, hq, h⟩ := h
      exact ⟨p, _, _, _, _, rfl, hp, T.o_Adding.c, T.na_Adding_added, look_ad, ns, hq, ret_of h⟩
    · exact h.elim
def ordS (ns : List Int) : Int := ns.foldl (fun a v => (3 * a + v) % 1000003) 1
theorem ordS_snoc (ns : List Int) (v : Int) : ordS (ns ++ [v]) = (3 * ordS ns + v) % 1000003 := by
  unfold ordS
  rw [List.foldl_append]
  rfl
theorem ordS_lt (ns : List Int) : 0 ≤ ordS ns ∧ ordS ns < 1000003 := by
  rcases List.eq_nil_or_concat ns with e | ⟨l, v, e⟩
  · rw [e]
    decide
  · rw [e, List.concat_eq_append, ordS_snoc]
    omega
def asp__law_ordered_sum : ASp
  | [.ref q], L, Q, _ => ∃ ns : List Int, L q = some (intsI ns) ∧ Q (.int (ordS ns)) L
  | _, _, _, _ => False
theorem okA__law_ordered_sum  (T : Txt K mg base) {scr : Option (Addr × List Int)} : CallD P w K mg base CX0 2 "_law_ordered_sum" ["_law_values"] [] (spA (cA K scr) (asp__law_ordered_sum)) := by
  refine T.d__law_ordered_sum.okA sc__law_ordered_sum ?len (fun f cdv A outer s H E hr => (as_cons (as_set (i := 1) sc__law_ordered_sum.nd rfl (by first | exact Or.inl rfl | exact Or.inr rfl) ae_int)
      (as_cons (as_for PassesOwn.never rfl (ai_list (av 0)) (ag_name (i := 2) sc__law_ordered_sum.nd rfl (by first | exact Or.inl rfl | exact Or.inr rfl))
        (as_one (as_set (i := 1) sc__law_ordered_sum.nd rfl (by first | exact Or.inl rfl | exact Or.inr rfl) (ae_op aop_mod (ae_op aop_add (ae_op aop_mul ae_int (av 1)) (av 2)) ae_int))))
      (as_one (as_ret (av 1)))))) ?vc
  case len =>
    intro ds L R RX h
    unfold asp__law_ordered_sum at h
    split at h <;> first | rfl | exact h.elim
  case vc =>
    intro ds L R RX h
    unfold asp__law_ordered_sum at h
    split at h
    · rename_i q
      obtain ⟨ns, hq, h⟩ := h
      refine ⟨_, hq, ?_⟩
      refine loop_map D.int ns (fun pre env L' => L' = L ∧ ∃ x2, env = [some (.ref q), some (.int (ordS pre)), x2]) ?hG ?step ?fin _ _ ⟨rfl, _, rfl⟩
      case hG =>
        rintro pre env L' ⟨rfl, _⟩
        exact hq
      case step =>
        rintro pre v rest nn e kn env L' ⟨rfl, x2, rfl⟩
        have hb := ordS_lt pre
        refine ⟨.inl (.inl ⟨by omega, by omega⟩), by decide, kn _ _ ⟨rfl, some (.int v), ?_⟩⟩
        rw [ordS_snoc]
        rfl
      rintro env L' ⟨rfl, x2, rfl⟩
      exact ret_of h
    · exact h.elim
def jnV (form : Int) (ns : List Int) : Int := if form = 0 then 1 + ns.sum else if form = 1 then ordS ns else form + ns.sum
def asp__law_joined : ASp
  | [.int f, .ref q], L, Q, _ => ∃ ns : List Int, L q = some (intsI ns) ∧ Q (.int (jnV f ns)) L
  | _, _, _, _ => False
theorem okA__law_joined  (T : Txt K mg base) {scr : Option (Addr × List Int)} : CallD P w K mg base CX0 77 "_law_joined" ["_law_form", "_law_values"] [] (spA (cA K scr) (asp__law_joined)) := by
  refine T.d__law_joined.okA sc__law_joined ?len (fun f cdv A outer s H E hr => (as_cons (as_if (at_cmp (aop_eqG (okF_eq T) (hr.mono (by decide)) hr.units) (av 0) ae_int (nomark _))
        (as_one (as_ret (ae_op aop_add ae_int (ae_b (acb_sum rfl) (by rfl) T.n_sum (by decide +kernel) (aa_cons (av 1) aa_nil)))))
        as_nil)
      (as_one (as_ret (ae_if (at_cmp (aop_eqG (okF_eq T) (hr.mono (by decide)) hr.units) (av 0) ae_int (nomark _)) (ae_call (okA__law_ordered_sum T) (hr.mono (by decide)) (by rfl) (aa_cons (av 1) aa_nil)) (ae_op aop_add (av 0) (ae_b (acb_sum rfl) (by rfl) T.n_sum (by decide +kernel) (aa_cons (av 1) aa_nil)))))))) ?vc
  case len =>
    intro ds L R RX h
    unfold asp__law_joined at h
    split at h <;> first | rfl | exact h.elim
  case vc =>
    intro ds L R RX h
    unfold asp__law_joined at h
    split at h
    · rename_i f q
      obtain ⟨ns, hq, h⟩ := h
      unfold jnV at h
      refine ite2 (fun e => ?_) (fun e => ?_)
      · have e1 : f = 0 := by simpa using e
        rw [if_pos e1] at h
        exact ⟨ns, hq, ret_of h⟩
      have e1 : ¬ f = 0 := by simpa using e
      rw [if_neg e1] at h
      refine ite2 (fun e => ?_) (fun e => ?_)
      · have e2 : f = 1 := by simpa using e
        rw [if_pos e2] at h
        exact ⟨ns, hq, ret_of h⟩
      have e2 : ¬ f = 1 := by simpa using e
      rw [if_neg e2] at h
      exact ⟨ns, hq, ret_of h⟩
    · exact h.elim
theorem ok_Fountain_is_jet  (T : Txt K mg base) : PropD P w K mg base CX0 1 (cF K) "is_jet" (spV K fun t => .bl (decide (t = .jet))) := by
  refine T.p_is_jet.ok sc_Fountain_is_jet (fun vs H Q E h => ?_) (fun f cdv A outer s H vs Q E hr h => ?_)
  · obtain ⟨v, t, rfl, _⟩ := h
    rfl
  · obtain ⟨v, t, rfl, hf, k⟩ := h
    obtain ⟨a, dx, b, n, vs, rfl, ha, hb, hn, hk⟩ := ftn_iff.mp hf
    refine ⟨_, (pss_one (ps_ret (pe_cmpR op_eq (pe_fld (pv 0) rfl) (pe_gstr rfl T.gJET_TEXT) (nomark _)))), ?_⟩
    refine ⟨.ref a, rfl, a, _, dx, _, _, rfl, ha, T.cls.c, T.cls.nw, fl_w, rfl, ?_⟩
    show Q (V.bl (decide (V.str (tx t) = V.str "o"))) H
    rw [show decide (V.str (tx t) = V.str "o") = decide (t = .jet) from decide_eq_decide.mpr ⟨fun z => tx_inj ((V.str.inj z).trans tx_jet.symm), fun z => by rw [z, tx_jet]⟩]
    exact k
theorem ok_Fountain_parts  (T : Txt K mg base) : PropD P w K mg base CX0 1 (cF K) "parts" (spKids K) := by
  refine T.p_parts.ok sc_Fountain_parts (fun vs H Q E h => ?_) (fun f cdv A outer s H vs Q E hr h => ?_)
  · obtain ⟨v, t, rfl, _⟩ := h
    rfl
  · obtain ⟨v, t, rfl, hf, k⟩ := h
    obtain ⟨a, dx, b, n, vs, rfl, ha, hb, hn, hk⟩ := ftn_iff.mp hf
    refine ⟨_, (pss_one (ps_ret (pe_fld (pv 0) rfl))), ?_⟩
    exact ⟨.ref a, rfl, a, _, dx, _, _, rfl, ha, T.cls.c, T.cls.nb, fl_b, k b vs hb hk⟩
def loF : LamCo := match defBody s__law_first with
  | .If _ (.Return (some (.Call _ (_ :: .Lambda ps b sc _ :: _) _ _)) _ :: _) _ _ :: _ => ⟨"_law_first.<locals>.<lambda>", ps, b, sc⟩
  | _ => ⟨"", defArgs s__law_first, .Name "" default, defScope s__law_first⟩
theorem loF_c : LamC loF.scope "_law_form" "_law_values" := lamC_by (by kernel_rfl)
mutual
/-- the value of a fold -/
def foV (f j : Int) : JW.T → Int
  | .jet => j
  | .bas l => jnV f (foVL f j l)
def foVL (f j : Int) : List JW.T → List Int
  | [] => []
  | t :: l => foV f j t :: foVL f j l
end
theorem foVL_map (f j : Int) : ∀ l : List JW.T, foVL f j l = l.map (foV f j)
  | [] => rfl
  | t :: l => by
    show foV f j t :: foVL f j l = _
    rw [foVL_map f j l]
    rfl
theorem foV_bas (f j : Int) (l : List JW.T) : foV f j (.bas l) = jnV f (l.map (foV f j)) := by
  show jnV f (foVL f j l) = _
  rw [foVL_map]
def JnOk (K : PySem.W.Frag) (L : Store) (d : D) (f : Int) : Prop := (f < 2 ∧ d = lamV loF "_law_form" (.int f)) ∨ (2 ≤ f ∧ ∃ b, d = .ref b ∧ L b = some (AdM K f))
theorem JnOk.sub {K : PySem.W.Frag} {L L' : Store} {d : D} {f : Int} (h : JnOk K L d f) (s : SubS L L') : JnOk K L' d f := by
  rcases h with h | ⟨h1, b, h2, h3⟩
  · exact .inl h
  · exact .inr ⟨h1, b, h2, s _ _ h3⟩
def asp_folded (K : PySem.W.Frag) (n : Nat) : ASp
  | [.tree t, .int j, d], L, Q, _ => ∃ f : Int, JnOk K L d f ∧ t.dep < n ∧ t.size ≤ 1000 ∧ Q (.int (foV f j t)) L
  | _, _, _, _ => False
theorem stepA_folded  (T : Txt K mg base) {scr : Option (Addr × List Int)} (n : Nat) (ih : CallD P w K mg base CX0 (80 + n) "folded" ["a", "jet", "join"] [] (spA (cA K scr) (asp_folded K n))) : CallD P w K mg base CX0 (80 + n + 1) "folded" ["a", "jet", "join"] [] (spA (cA K scr) (asp_folded K (n + 1))) := by
  refine T.d_folded.okA sc_folded ?len (fun f cdv A outer s H E hr => (as_cons (as_if (at_bl (ae_propG (fun t => .bl (decide (t = .jet))) (fun _ _ => rep_bl.mpr rfl) T.cls.c (ok_Fountain_is_jet T) (hr.mono (by omega)) (av 0) rfl))
        (as_one (as_ret (av 1)))
        as_nil)
      (as_one (as_ret (ae_join (k := 78) (i := 2) T.m_Adding___call__ (okA_Adding___call__ T |>.mono (by decide)) (hr.mono (by omega)) rfl (by first | exact Or.inl rfl | exact Or.inr (Or.inl rfl)) (aa_cons (ae_lc (own := [("branch", 3)]) (by rfl) sc_folded.nd (ai_tup (ae_kids T.cls.c (ok_Fountain_parts T) (hr.mono (by omega)) (av 0) rfl)) (blkOk_by (by kernel_rfl)) (tgOk_name (by decide)) (fun _ _ _ _ _ => pg_name (i := 3) sc_folded.nd rfl (by first | exact Or.inl rfl | exact Or.inr rfl)) (fun _ _ _ _ _ => (ae_call ih (hr.mono (by omega)) (by rfl) (aa_cons (av 3) (aa_cons (av 1) (aa_cons (av 2) aa_nil)))))) aa_nil) loF_c (by decide +kernel) (fun _ _ _ _ _ => rfl) (fun A outer s H f c' cc H1 hr => ae_call (okA__law_joined T) (hr.mono (by decide)) (by rfl) (aa_cons (av 0) (aa_cons (av 1) aa_nil)))))))) ?vc
  case len =>
    intro ds L R RX h
    unfold asp_folded at h
    split at h <;> first | rfl | exact h.elim
  case vc =>
    intro ds L R RX h
    unfold asp_folded at h
    split at h
    rotate_left
    · exact h.elim
    rename_i t j d
    obtain ⟨f, hj, hn, hz, h⟩ := h
    have hsl := sizeLine_eq
    refine ite2 (fun e => ?_) (fun e => ?_)
    · have e1 : t = .jet := of_decide_eq_true e
      subst e1
      exact ret_of (show R (.int j) L from h)
    cases t with
    | jet => exact absurd (decide_eq_true rfl) e
    | bas l =>
      have hs : (JW.T.bas l).size = 1 + sizeL l := rfl
      have hll := length_le l
      have hl0 : ([] : List D).length + l.length ≤ sizeLine := by
        show 0 + l.length ≤ _
        omega
      rw [foV_bas] at h
      refine ⟨d, rfl, ?_⟩
      rcases id hj with ⟨hf, rfl⟩ | ⟨hf, b, rfl, hb⟩
      · refine .inl ⟨f, rfl, ?_⟩
        refine fun p hp => ?_
        refine comp_mapA D.tree (fun u => D.int (foV f j u)) (fun _ => trivial) l [] hl0 (fun u hu l2 k hk => ?_) ?_
        · have h1 := size_mem hu
          have h3 := dep_lt hu
          exact ⟨rfl, f, .inl ⟨hf, rfl⟩, by omega, by omega, hk⟩
        have hL : sput L p (.lst ([] ++ l.map fun u => D.int (foV f j u))) p = some (.lst ((l.map (foV f j)).map D.int)) := by
          rw [sput_same, List.nil_append, List.map_map]
          rfl
        exact ⟨p, l.map (foV f j), rfl, hL, l.map (foV f j), onlyS_same.trans hL, ⟨_, rfl⟩, onlyS_same.trans hL, ret_sub h ((SubS.refl L).new hp)⟩
      · refine .inr ⟨b, rfl, ?_⟩
        refine fun p hp => ?_
        refine comp_mapA D.tree (fun u => D.int (foV f j u)) (fun _ => trivial) l [] hl0 (fun u hu l2 k hk => ?_) ?_
        · have h1 := size_mem hu
          have h3 := dep_lt hu
          exact ⟨rfl, f, .inr ⟨hf, b, rfl, sput_old hb hp⟩, by omega, by omega, hk⟩
        have hL : sput L p (.lst ([] ++ l.map fun u => D.int (foV f j u))) p = some (.lst ((l.map (foV f j)).map D.int)) := by
          rw [sput_same, List.nil_append, List.map_map]
          rfl
        have e2 : jnV f (l.map (foV f j)) = f + (l.map (foV f j)).sum := by
          unfold jnV
          rw [if_neg (by omega), if_neg (by omega)]
        rw [e2] at h
        exact ⟨⟨_, _, sput_old hb hp⟩, f, l.map (foV f j), sput_old hb hp, hL, ret_sub h ((SubS.refl L).new hp)⟩
theorem okA_folded  (T : Txt K mg base) {scr : Option (Addr × List Int)} (n : Nat) : CallD P w K mg base CX0 (80 + n) "folded" ["a", "jet", "join"] [] (spA (cA K scr) (asp_folded K n)) := callD_rec (sp := fun n => spA (cA K scr) (asp_folded K n)) T.d_folded (fun vs H Q E ⟨ds, L, R, RX, _, _, h, _⟩ => by
    unfold asp_folded at h
    split at h
    · obtain ⟨f, _, z, _⟩ := h
      exact absurd z (Nat.not_lt_zero _)
    · exact h.elim
    ) (stepA_folded T) n
def asp__law_first (K : PySem.W.Frag) : ASp
  | [.int j, .int f], L, Q, _ => ∀ a L' d, SubS L L' → L a = none → L' a = some (FdO K (.int j) d) → JnOk K L' d f → Q (.ref a) L'
  | _, _, _, _ => False
theorem good_at {K : PySem.W.Frag} {c : AC K} {L : Store} {H : Hp} {a : Addr} {m m' : MO} (g : Good c (sput L a m) H) (h : MRep c H a m') : Good c (sput L a m') H := by
  refine ⟨g.tabs, fun q n hq => ?_, fun b ns eb => ⟨(g.scr b ns eb).1, ?_⟩⟩
  · by_cases e : q = a
    · rw [e, sput_same] at hq
      cases hq
      rw [e]
      exact h
    · rw [sput_ne e] at hq
      exact g.st q n ((sput_ne e).trans hq)
  · rcases (g.scr b ns eb).2 with ⟨h1, h2⟩ | h
    · by_cases e : b = a
      · rw [e, sput_same] at h2
        cases h2
      · rw [sput_ne e] at h2
        exact .inl ⟨h1, (sput_ne e).trans h2⟩
    · exact .inr h
theorem sc_form : (defScope s__law_first).names.lookup ("_law_form" : Str) = some .cell := by kernel_rfl
theorem clo_form {cells : List (Str × Addr)} {cc : Addr} (h : cells.lookup ("_law_form" : Str) = some cc) : cloFrom cells loF.scope.names [] = [(("_law_form" : Str), cc)] := by
  show [(("_law_form" : Str), (cells.lookup ("_law_form" : Str)).getD 0)] = _
  rw [h]
  rfl
theorem okA__law_first (T : Txt K mg base) {scr : Option (Addr × List Int)} : CallD P w K mg base CX0 83 "_law_first" ["_law_jet", "_law_form"] [] (spA (cA K scr) (asp__law_first K)) := by
  refine T.d__law_first.okL sc__law_first ?len (fun A outer s H E hr => ⟨_, bl_if (at_cmp aop_lt (av 1) ae_int (nomark _)) (bl_ret (ae_makeM (okA_Fold___init__ T) (hr.mono (by decide)) (by rfl) (ni_Fold T) (aa_cons (av 0) (aa_cons (ae_lamE T.tb__law_first rfl tt__law_first (tu__law_first T) ?hfr rfl) aa_nil))))
      (bl_ret (ae_cmM (by rfl) T.o_Fold.g (okA_Fold_summing T) (hr.mono (by decide)) (aa_cons (av 0) (aa_cons (av 1) aa_nil)))), fun ds L R RX h => ?_⟩)
  case len =>
    intro ds L R RX h
    unfold asp__law_first at h
    split at h <;> first | rfl | exact h.elim
  case hfr =>
    intro y hy e
    refine .inl ?_
    rw [loF_c.free y hy e]
    exact sc_form
  unfold asp__law_first at h
  split at h
  rotate_left
  · exact h.elim
  rename_i j f
  refine ite2 (fun e => ?_) (fun e => ?_)
  · refine fun a ha => ⟨sput_same, rfl, ?_⟩
    rw [sput_sput]
    intro σ' v H' s' J rl r
    obtain ⟨cc, oc, w, e1, hd, rw1, hn, hsz, hok⟩ := lam_keep (i := 1) (n := f) J rfl rl rfl rfl sc_form
    have e2 := clo_form e1
    have g2 := rl.good.new hn (frzT oc)
    refine ⟨upd H' cc (frzT oc), sput L a (FdO K (.int j) (lamV loF "_law_form" (.int f))), .ref a, hok, fun b o e => (upd_ne (ne_of_none e hn)).trans e, fun b hb hb2 => ?_, good_at g2 ?_, rep_ref.mpr (rep_ref.mp r), h a _ _ ((SubS.refl L).new ha) ha sput_same (.inl ⟨of_decide_eq_true e, rfl⟩)⟩
    · by_cases z : b = cc
      · rw [z]
        exact hsz
      · exact absurd ((upd_ne z).trans hb) hb2
    · obtain ⟨dx, vs, e3, n3, k3, r3⟩ := g2.st a _ sput_same
      obtain ⟨v0, r0, rfl, q0, q1⟩ := repL_cons.mp r3
      obtain ⟨v1, r2, rfl, q2, q3⟩ := repL_cons.mp q1
      obtain ⟨f0, rfl, hF⟩ := rep_lamR.mp q2
      refine ⟨dx, _, e3, n3, rfl, .cons q0 (.cons (rep_lamV.mpr ⟨f0, cc, oc, w, rfl, ?_, upd_same, hd, rw1⟩) q3)⟩
      rw [← e2]
      exact hF
  · have e1 : ¬ f < 2 := fun z => e (decide_eq_true z)
    refine ⟨rfl, fun a ha b hb => ?_⟩
    intro σ' v H' s' J rl r
    have nab : a ≠ b := fun z => by
      rw [z, sput_same] at hb
      cases hb
    exact ⟨H', _, .ref b, J.hok, fun _ _ e => e, fun b hb hb2 => absurd hb hb2, rl.good, r, h b _ (.ref a) (((SubS.refl L).new ha).new hb) ((sput_ne nab.symm).symm.trans hb) sput_same (.inr ⟨by omega, a, rfl, (sput_ne nab).trans sput_same⟩)⟩
def rngI (k n : Nat) : List D := (List.range' k n).map fun i => D.int (i : Nat)
theorem rngI_succ (k n : Nat) : rngI k (n + 1) = .int (k : Nat) :: rngI (k + 1) n := rfl
theorem rngD_one (n : Nat) : rngD 1 n = rngI 1 n := by
  unfold rngD rngI
  rw [List.range'_eq_map_range, List.map_map]
  refine List.map_congr_left fun i _ => ?_
  show D.int (1 + (i : Nat)) = D.int ((1 + i : Nat) : Int)
  congr 1
def sgI (s q : Nat) : Int := if s = q then 1 else 0
def PStep (z : D) (c : List Nat) (P : Addr) (lp : List D → En → Store → Prop) : Prop := ∀ (k s : Nat) (r : List Nat) (rest : List D) (lev : Int) (beg : Nat) (x4 : Option D) (L : Store) (acc : List D), c.drop k = s :: r → L P = some (.lst acc) → acc.length ≤ k →
  (lev + sgI s 40 - sgI s 41 ≠ 0 → lp rest [some z, some (.ref P), some (.int (lev + sgI s 40 - sgI s 41)), some (.int (beg : Nat)), some (.int (k : Nat))] L) →
  (lev + sgI s 40 - sgI s 41 = 0 → lp rest [some z, some (.ref P), some (.int (lev + sgI s 40 - sgI s 41)), some (.int ((k + 1 : Nat))), some (.int (k : Nat))] (sput L P (.lst (acc ++ [.str ⟨((c.take (k + 1)).drop beg).toArray⟩])))) →
  lp (.int (k : Nat) :: rest) [some z, some (.ref P), some (.int lev), some (.int (beg : Nat)), x4] L
section
variable {z : D} {c : List Nat} {P : Addr} {lp : List D → En → Store → Prop}
theorem drop_more {c a r : List Nat} {k : Nat} (h : c.drop k = a ++ r) : c.drop (k + a.length) = r := by
  rw [← List.drop_drop, h, List.drop_left]
theorem parts_in (S : PStep z c P lp) {beg : Nat} {L : Store} {acc : List D} (hP : L P = some (.lst acc)) : ∀ (t : T) (k m : Nat) (lev : Int) (x4 : Option D) (r : List Nat), 1 ≤ lev → acc.length ≤ k → c.drop k = t.codes ++ r →
    (∀ x4, lp (rngI (k + t.codes.length) m) [some z, some (.ref P), some (.int lev), some (.int (beg : Nat)), x4] L) → lp (rngI k (t.codes.length + m)) [some z, some (.ref P), some (.int lev), some (.int (beg : Nat)), x4] L := by
  apply T.ind'
  · intro k m lev x4 r h1 ha hk h
    have e : T.jet.codes.length + m = m + 1 := Nat.add_comm _ _
    rw [e, rngI_succ]
    have e2 : lev + sgI 111 40 - sgI 111 41 = lev := by
      show lev + 0 - 0 = lev
      omega
    refine S k 111 r _ lev beg x4 L acc hk hP ha (fun _ => ?_) (fun z => ?_)
    · rw [e2]
      exact h _
    · rw [e2] at z
      omega
  · intro ts ih k m lev x4 r h1 ha hk h
    have hl : ∀ (us : List T) (k m : Nat) (lev : Int) (x4 : Option D) (r : List Nat), (∀ u ∈ us, u ∈ ts) → 1 ≤ lev → acc.length ≤ k → c.drop k = codesL us ++ r →
        (∀ x4, lp (rngI (k + (codesL us).length) m) [some z, some (.ref P), some (.int lev), some (.int (beg : Nat)), x4] L) → lp (rngI k ((codesL us).length + m)) [some z, some (.ref P), some (.int lev), some (.int (beg : Nat)), x4] L := by
      intro us
      induction us with
      | nil =>
        intro k m lev x4 r _ _ _ _ h
        have e : (codesL []).length + m = m := Nat.zero_add _
        rw [e]
        exact h x4
      | cons u us ih2 =>
        intro k m lev x4 r hm h1 ha hk h
        have e : (codesL (u :: us)).length = u.codes.length + (codesL us).length := List.length_append
        rw [e, Nat.add_assoc]
        have hk2 : c.drop k = u.codes ++ (codesL us ++ r) := by
          rw [hk]
          exact List.append_assoc _ _ _
        refine ih u (hm u List.mem_cons_self) k _ lev x4 _ h1 ha hk2 fun x4 => ?_
        refine ih2 _ m lev x4 r (fun v hv => hm v (List.mem_cons_of_mem _ hv)) h1 (by omega) (drop_more hk2) fun x4 => ?_
        rw [Nat.add_assoc, ← e]
        exact h x4
    have e : (T.bas ts).codes.length + m = ((codesL ts).length + (m + 1)) + 1 := by
      show (40 :: (codesL ts ++ [41])).length + m = _
      rw [List.length_cons, List.length_append, List.length_singleton]
      omega
    have e0 : k + (T.bas ts).codes.length = k + 1 + (codesL ts).length + 1 := by
      show k + (40 :: (codesL ts ++ [41])).length = _
      rw [List.length_cons, List.length_append, List.length_singleton]
      omega
    rw [e0] at h
    rw [e, rngI_succ]
    have hk1 : c.drop k = 40 :: (codesL ts ++ (41 :: r)) := by
      rw [hk]
      show 40 :: ((codesL ts ++ [41]) ++ r) = _
      rw [List.append_assoc]
      rfl
    have e1 : lev + sgI 40 40 - sgI 40 41 = lev + 1 := by
      show lev + 1 - 0 = lev + 1
      omega
    have e2 : lev + 1 + sgI 41 40 - sgI 41 41 = lev := by
      show lev + 1 + 0 - 1 = lev
      omega
    have hk2 : c.drop (k + 1) = codesL ts ++ (41 :: r) := by
      rw [← List.drop_drop, hk1]
      rfl
    refine S k 40 _ _ lev beg x4 L acc hk1 hP ha (fun _ => ?_) (fun z => by rw [e1] at z; omega)
    rw [e1]
    refine hl ts (k + 1) (m + 1) (lev + 1) _ _ (fun u h => h) (by omega) (by omega) hk2 fun x4 => ?_
    rw [rngI_succ]
    refine S _ 41 r _ (lev + 1) beg x4 L acc (drop_more hk2) hP (by omega) (fun _ => ?_) (fun z => by rw [e2] at z; omega)
    rw [e2]
    exact h _
theorem parts_one (S : PStep z c P lp) {L : Store} {acc : List D} (hP : L P = some (.lst acc)) (t : T) (k m : Nat) (x4 : Option D) (r : List Nat) (ha : acc.length ≤ k) (hk : c.drop k = t.codes ++ r)
    (h : ∀ x4, lp (rngI (k + t.codes.length) m) [some z, some (.ref P), some (.int 0), some (.int ((k + t.codes.length : Nat))), x4] (sput L P (.lst (acc ++ [dtx t])))) : lp (rngI k (t.codes.length + m)) [some z, some (.ref P), some (.int 0), some (.int (k : Nat)), x4] L := by
  have hs : (c.take (k + t.codes.length)).drop k = t.codes := by
    rw [List.drop_take, Nat.add_sub_cancel_left, hk, List.take_left]
  match t, hk, h, hs with
  | .jet, hk, h, hs =>
    have e : T.jet.codes.length + m = m + 1 := Nat.add_comm _ _
    rw [e, rngI_succ]
    have e2 : (0 : Int) + sgI 111 40 - sgI 111 41 = 0 := rfl
    refine S k 111 r _ 0 k x4 L acc hk hP ha (fun z => absurd e2 z) (fun _ => ?_)
    have e3 : (c.take (k + 1)).drop k = T.jet.codes := hs
    rw [e2, e3]
    exact h _
  | .bas ts, hk, h, hs =>
    have e : (T.bas ts).codes.length + m = ((codesL ts).length + (m + 1)) + 1 := by
      show (40 :: (codesL ts ++ [41])).length + m = _
      rw [List.length_cons, List.length_append, List.length_singleton]
      omega
    have e0 : k + (T.bas ts).codes.length = k + 1 + (codesL ts).length + 1 := by
      show k + (40 :: (codesL ts ++ [41])).length = _
      rw [List.length_cons, List.length_append, List.length_singleton]
      omega
    rw [e0] at h hs
    rw [e, rngI_succ]
    have hk1 : c.drop k = 40 :: (codesL ts ++ (41 :: r)) := by
      rw [hk]
      show 40 :: ((codesL ts ++ [41]) ++ r) = _
      rw [List.append_assoc]
      rfl
    have hk2 : c.drop (k + 1) = codesL ts ++ (41 :: r) := by
      rw [← List.drop_drop, hk1]
      rfl
    have e1 : (0 : Int) + sgI 40 40 - sgI 40 41 = 1 := rfl
    have e2 : (1 : Int) + sgI 41 40 - sgI 41 41 = 0 := rfl
    refine S k 40 _ _ 0 k x4 L acc hk1 hP ha (fun _ => ?_) (fun z => absurd z (by decide))
    rw [e1]
    have hl : ∀ (us : List T) (k' m : Nat) (x4 : Option D) (r : List Nat), acc.length ≤ k' → c.drop k' = codesL us ++ r →
        (∀ x4, lp (rngI (k' + (codesL us).length) m) [some z, some (.ref P), some (.int 1), some (.int (k : Nat)), x4] L) → lp (rngI k' ((codesL us).length + m)) [some z, some (.ref P), some (.int 1), some (.int (k : Nat)), x4] L := by
      intro us
      induction us with
      | nil =>
        intro k' m x4 r _ _ h
        have e : (codesL []).length + m = m := Nat.zero_add _
        rw [e]
        exact h x4
      | cons u us ih2 =>
        intro k' m x4 r ha hk h
        have e : (codesL (u :: us)).length = u.codes.length + (codesL us).length := List.length_append
        rw [e, Nat.add_assoc]
        have hk2 : c.drop k' = u.codes ++ (codesL us ++ r) := by
          rw [hk]
          exact List.append_assoc _ _ _
        refine parts_in S hP u k' _ 1 x4 _ (Int.le_refl _) ha hk2 fun x4 => ?_
        refine ih2 _ m x4 r (by omega) (drop_more hk2) fun x4 => ?_
        rw [Nat.add_assoc, ← e]
        exact h x4
    refine hl ts (k + 1) (m + 1) _ _ (by omega) hk2 fun x4 => ?_
    rw [rngI_succ]
    refine S _ 41 r _ 1 k x4 L acc (drop_more hk2) hP (by omega) (fun z => absurd e2 z) (fun _ => ?_)
    rw [e2, hs]
    exact h _
theorem codes_pos (t : T) : 1 ≤ t.codes.length := (codes_len t).2
theorem parts_all (S : PStep z c P lp) : ∀ (ts : List T) (k : Nat) (x4 : Option D) (r : List Nat) (L : Store) (acc : List D), L P = some (.lst acc) → acc.length ≤ k → c.drop k = codesL ts ++ r →
    (∀ k' x4 L', (∀ p, p ≠ P → L' p = L p) → L' P = some (.lst (acc ++ ts.map dtx)) → lp [] [some z, some (.ref P), some (.int 0), some (.int (k' : Nat)), x4] L') → lp (rngI k (codesL ts).length) [some z, some (.ref P), some (.int 0), some (.int (k : Nat)), x4] L
  | [], k, x4, r, L, acc, hP, _, _, h => h k x4 L (fun _ _ => rfl) (by rw [List.map_nil, List.append_nil]; exact hP)
  | t :: ts, k, x4, r, L, acc, hP, ha, hk, h => by
    have e : (codesL (t :: ts)).length = t.codes.length + (codesL ts).length := List.length_append
    rw [e]
    have hk2 : c.drop k = t.codes ++ (codesL ts ++ r) := by
      rw [hk]
      exact List.append_assoc _ _ _
    have hp := codes_pos t
    refine parts_one S hP t k _ x4 _ ha hk2 fun x4 => ?_
    refine parts_all S ts _ x4 r _ _ sput_same (by rw [List.length_append, List.length_singleton]; omega) (drop_more hk2) fun k' x4 L' h1 h2 => h k' x4 L' (fun p hp => by rw [h1 p hp, sput_ne hp]) ?_
    rw [h2, List.append_assoc]
    rfl
end
def bParts : ATS :=
  (aSeq (aAsg (aOp subD (aOp addD (aVar 2) (aB intFD (aCons (aOp (eqG false) (aOp ixD (aVar 0) (aVar 4)) (aC (D.str (Str.ofString "(")))) aNil))) (aB intFD (aCons (aOp (eqG false) (aOp ixD (aVar 0) (aVar 4)) (aC (D.str (Str.ofString ")")))) aNil))) (agName 2))
    (aIfS (aBl (aOp (eqG false) (aVar 2) (aC (D.int 0))))
      (aSeq (aDrop (aMl appendD (aVar 1) (aCons (aSl (aVar 0) (aoSome (aVar 3)) (aoSome (aOp addD (aVar 4) (aC (D.int 1))))) aNil)))
        (aAsg (aOp addD (aVar 4) (aC (D.int 1))) (agName 3)))
      aNext))
def asp__law_parts : ASp
  | [.str z], L, Q, _ => ∃ t : T, z = tx t ∧ t.size ≤ 5000 ∧ ∀ P, L P = none → Q (.ref P) (sput L P (.lst (t.kids.map dtx)))
  | _, _, _, _ => False
theorem okA__law_parts  (T : Txt K mg base) {scr : Option (Addr × List Int)} : CallD P w K mg base CX0 76 "_law_parts" ["_law_text"] [] (spA (cA K scr) (asp__law_parts)) := by
  refine T.d__law_parts.okA sc__law_parts ?len (fun f cdv A outer s H E hr => (as_cons (as_par3 (i := 1) (j := 2) (l := 3) (by rfl) sc__law_parts.nd rfl rfl rfl (by decide) (by decide) (by decide) rfl rfl rfl (aa_cons (ae_lst aa_nil) (aa_cons ae_int (aa_cons ae_int aa_nil))) (by rfl))
      (as_cons (as_for PassesOwn.never rfl (ai_rng2 (by rfl) T.n_range (aa_cons ae_int (aa_cons (ae_op aop_sub (ae_b acb_len (by rfl) T.n_len (by decide +kernel) (aa_cons (av 0) aa_nil)) ae_int) aa_nil))) (ag_name (i := 4) sc__law_parts.nd rfl (by first | exact Or.inl rfl | exact Or.inr rfl))
        (as_cons (as_set (i := 2) sc__law_parts.nd rfl (by first | exact Or.inl rfl | exact Or.inr rfl) (ae_op aop_sub (ae_op aop_add (av 2) (ae_ty acb_int (by rfl) T.n_int (by decide +kernel) (aa_cons (ae_cmp (aop_eqG (okF_eq T) (hr.mono (by decide)) hr.units) (ae_ix (av 0) (av 4) (fun _ _ => rfl)) ae_str (nomark _)) aa_nil))) (ae_ty acb_int (by rfl) T.n_int (by decide +kernel) (aa_cons (ae_cmp (aop_eqG (okF_eq T) (hr.mono (by decide)) hr.units) (ae_ix (av 0) (av 4) (fun _ _ => rfl)) ae_str (nomark _)) aa_nil))))
        (as_one (as_if (at_cmp (aop_eqG (okF_eq T) (hr.mono (by decide)) hr.units) (av 2) ae_int (nomark _))
          (as_cons (as_expr (ae_ml PySem.F.plainAttrs_list PySem.F.slot_list_append PySem.F.type_list_append mt_append low_append (av 1) (aa_cons (ae_sl (av 0) (ao_some (av 3)) (ao_some (ae_op aop_add (av 4) ae_int))) aa_nil)))
          (as_one (as_set (i := 3) sc__law_parts.nd rfl (by first | exact Or.inl rfl | exact Or.inr rfl) (ae_op aop_add (av 4) ae_int))))
          as_nil))))
      (as_one (as_ret (av 1)))))) ?vc
  case len =>
    intro ds L R RX h
    unfold asp__law_parts at h
    split at h <;> first | rfl | exact h.elim
  case vc =>
    intro ds L R RX h
    unfold asp__law_parts at h
    split at h
    · rename_i z
      obtain ⟨t, rfl, hz, h⟩ := h
      have hsl := sizeLine_eq
      have hcl := (codes_len t).1
      have hlen : (tx t).length = t.codes.length := by
        show (SX.S t.codes).length = _
        rw [SX.S_len]
      refine ⟨Nat.zero_le _, fun P hP => ⟨by omega, ⟨by decide, by decide, by omega, by omega⟩, ?_⟩⟩
      rw [rngD_one]
      have St : PStep (.str (tx t)) t.codes P (loopA (agName 4) bParts { nx := aRet (aVar 1) (fnEnds R), rt := (fnEnds R).rt, bk := (fnEnds R).bk, ct := (fnEnds R).ct } yes) := by
        intro k s r rest lev beg x4 L acc hk hP ha h1 h2
        have hkl : k < t.codes.length := by
          by_cases e : k < t.codes.length
          · exact e
          · rw [List.drop_eq_nil_of_le (by omega)] at hk
            cases hk
        have hck : t.codes[k]? = some s := by
          have e : (t.codes.drop k)[0]? = some s := by rw [hk]; rfl
          rw [List.getElem?_drop] at e
          exact e
        have hat : atI (tx t).cps.toList ((k : Nat) : Int) = some s := by
          show atI t.codes _ = _
          exact atI_nat hck
        have b1 : (if (false ^^ decide ((⟨#[s]⟩ : Str) = ("(" : Str))) = true then (1 : Int) else 0) = sgI s 40 := by
          rw [dec_sgn op_S]
          unfold sgI
          simp
        have b2 : (if (false ^^ decide ((⟨#[s]⟩ : Str) = (")" : Str))) = true then (1 : Int) else 0) = sgI s 41 := by
          rw [dec_sgn cl_S]
          unfold sgI
          simp
        refine ⟨trivial, by omega, s, hat, by omega, s, hat, ?_⟩
        show aIfS (aBl (aOp (eqG false) (aVar 2) (aC (D.int 0)))) (aSeq _ _) aNext _ [some (.str (tx t)), some (.ref P), some (.int (lev + (if (false ^^ decide ((⟨#[s]⟩ : Str) = ("(" : Str))) = true then (1 : Int) else 0) - (if (false ^^ decide ((⟨#[s]⟩ : Str) = (")" : Str))) = true then (1 : Int) else 0))), some (.int (beg : Nat)), some (.int (k : Nat))] L
        rw [b1, b2]
        refine ite2 (fun e => ?_) (fun e => ?_)
        · have e := of_decide_eq_true ((Bool.false_xor _).symm.trans e)
          have hc : cutS (tx t) (some ((beg : Nat) : Int)) (some (((k : Nat) : Int) + 1)) = ⟨((t.codes.take (k + 1)).drop beg).toArray⟩ := by
            unfold cutS
            have e5 : (((k : Nat) : Int) + 1) = ((k + 1 : Nat) : Int) := rfl
            rw [e5, HT.sIx_nat, HT.sIx_nat]
            show (⟨((t.codes.drop (min beg (tx t).length)).take (min (k + 1) (tx t).length - min beg (tx t).length)).toArray⟩ : Str) = _
            rw [hlen, ← List.drop_take]
            congr 2
            rw [Nat.min_eq_left (by omega : k + 1 ≤ t.codes.length)]
            by_cases hb : beg ≤ t.codes.length
            · rw [Nat.min_eq_left hb]
            · rw [Nat.min_eq_right (by omega), List.drop_eq_nil_of_le (by rw [List.length_take]; omega), List.drop_eq_nil_of_le (by rw [List.length_take]; omega)]
          refine ⟨⟨P, _, rfl, hP⟩, by omega, _, hP, by omega, ?_⟩
          rw [hc]
          exact h2 e
        · exact h1 fun z => e (by rw [z]; rfl)
      match t, hz, hcl, hlen, h, St with
      | .jet, hz, hcl, hlen, h, St =>
        exact ⟨trivial, ret_of (h P hP)⟩
      | .bas ts, hz, hcl, hlen, h, St =>
        have e : ((tx (JW.T.bas ts)).length : Int) - 1 - 1 = ((codesL ts).length : Nat) := by
          rw [hlen]
          show (((40 :: (codesL ts ++ [41])).length : Nat) : Int) - 1 - 1 = _
          rw [List.length_cons, List.length_append, List.length_singleton]
          omega
        rw [e, Int.toNat_natCast]
        refine parts_all St ts 1 none [41] _ [] sput_same (by decide) rfl fun k' x4 L' h1 h2 => ⟨trivial, ?_⟩
        refine ret_sub (h P hP) fun q n hq => ?_
        by_cases eq : q = P
        · rw [eq, sput_same] at hq
          rw [eq, h2]
          exact hq
        · rw [sput_ne eq] at hq
          rw [h1 q eq, sput_ne eq]
          exact hq
    · exact h.elim
def asp__law_value (n : Nat) : ASp
  | [.str z, .int j, .int f], L, Q, _ => ∃ t : JW.T, z = tx t ∧ t.dep < n ∧ t.size ≤ 1000 ∧ Q (.int (foV f j t)) L
  | _, _, _, _ => False
theorem stepA__law_value  (T : Txt K mg base) {scr : Option (Addr × List Int)} (n : Nat) (ih : CallD P w K mg base CX0 (80 + n) "_law_value" ["_law_text", "_law_jet", "_law_form"] [] (spA (cA K scr) (asp__law_value n))) : CallD P w K mg base CX0 (80 + n + 1) "_law_value" ["_law_text", "_law_jet", "_law_form"] [] (spA (cA K scr) (asp__law_value (n + 1))) := by
  refine T.d__law_value.okA sc__law_value ?len (fun f cdv A outer s H E hr => (as_cons (as_if (at_cmp (aop_eqG (okF_eq T) (hr.mono (by omega)) hr.units) (av 0) ae_str (nomark _))
        (as_one (as_ret (av 1)))
        as_nil)
      (as_one (as_ret (ae_call (okA__law_joined T) (hr.mono (by omega)) (by rfl) (aa_cons (av 2) (aa_cons (ae_lc (own := [("_law_part", 3)]) (by rfl) sc__law_value.nd (ai_list (ae_call (okA__law_parts T) (hr.mono (by omega)) (by rfl) (aa_cons (av 0) aa_nil))) (blkOk_by (by kernel_rfl)) (tgOk_name (by decide)) (fun _ _ _ _ _ => pg_name (i := 3) sc__law_value.nd rfl (by first | exact Or.inl rfl | exact Or.inr rfl)) (fun _ _ _ _ _ => (ae_call ih (hr.mono (by omega)) (by rfl) (aa_cons (av 3) (aa_cons (av 1) (aa_cons (av 2) aa_nil)))))) aa_nil))))))) ?vc
  case len =>
    intro ds L R RX h
    unfold asp__law_value at h
    split at h <;> first | rfl | exact h.elim
  case vc =>
    intro ds L R RX h
    unfold asp__law_value at h
    split at h
    rotate_left
    · exact h.elim
    rename_i z j f
    obtain ⟨t, rfl, hn, hz, h⟩ := h
    have hsl := sizeLine_eq
    refine ite2 (fun e => ?_) (fun e => ?_)
    · have e1 := of_decide_eq_true ((Bool.false_xor _).symm.trans e)
      rw [← tx_jet] at e1
      rw [tx_inj e1] at h
      exact ret_of (show R (.int j) L from h)
    cases t with
    | jet => exact absurd (by rw [tx_jet]; rfl) e
    | bas l =>
      have hs : (JW.T.bas l).size = 1 + sizeL l := rfl
      have hll := length_le l
      have hl0 : ([] : List D).length + l.length ≤ sizeLine := by
        show 0 + l.length ≤ _
        omega
      rw [foV_bas] at h
      refine ⟨.bas l, rfl, by omega, fun P hP => ⟨_, sput_same, fun B hB => ?_⟩⟩
      refine comp_mapA dtx (fun u => D.int (foV f j u)) (fun _ => sput_old sput_same hB) l [] hl0 (fun u hu l2 k hk => ?_) ?_
      · have h1 := size_mem hu
        have h3 := dep_lt hu
        exact ⟨rfl, u, rfl, by omega, by omega, hk⟩
      have hL : sput (sput L P (.lst (l.map dtx))) B (.lst ([] ++ l.map fun u => D.int (foV f j u))) B = some (.lst ((l.map (foV f j)).map D.int)) := by
        rw [sput_same, List.nil_append, List.map_map]
        rfl
      exact ⟨l.map (foV f j), hL, ret_sub h (((SubS.refl L).new hP).new hB)⟩
theorem okA__law_value  (T : Txt K mg base) {scr : Option (Addr × List Int)} (n : Nat) : CallD P w K mg base CX0 (80 + n) "_law_value" ["_law_text", "_law_jet", "_law_form"] [] (spA (cA K scr) (asp__law_value n)) := callD_rec (sp := fun n => spA (cA K scr) (asp__law_value n)) T.d__law_value (fun vs H Q E ⟨ds, L, R, RX, _, _, h, _⟩ => by
    unfold asp__law_value at h
    split at h
    · obtain ⟨t, _, z, _⟩ := h
      exact absurd z (Nat.not_lt_zero _)
    · exact h.elim
    ) (stepA__law_value T) n
def asp_Fold_seeded (K : PySem.W.Frag) : ASp
  | [.ref p, .int j], L, Q, _ => ∃ d e, L p = some (FdO K d e) ∧ ∀ b, L b = none → Q (.ref b) (sput L b (FdO K (.int j) e))
  | _, _, _, _ => False
theorem okA_Fold_seeded  (T : Txt K mg base) {scr : Option (Addr × List Int)} : MethD P w K mg base CX0 5 (He.ga K "Fold") "seeded" ["self", "jet"] [] (spA (cA K scr) (asp_Fold_seeded K)) := by
  refine T.m_Fold_seeded.okA sc_Fold_seeded ?len (fun f cdv A outer s H E hr => (as_one (as_ret (ae_makeM (okA_Fold___init__ T) (hr.mono (by decide)) (by rfl) (ni_Fold T) (aa_cons (av 1) (aa_cons (ae_fldM (K := K) rfl (av 0) rfl) aa_nil)))))) ?vc
  case len =>
    intro ds L R RX h
    unfold asp_Fold_seeded at h
    split at h <;> first | rfl | exact h.elim
  case vc =>
    intro ds L R RX h
    unfold asp_Fold_seeded at h
    split at h
    · rename_i p j
      obtain ⟨d, e, hp, h⟩ := h
      refine ⟨p, _, _, _, _, rfl, hp, T.o_Fold.c, T.na_Fold_joining, look_jo, fun b hb => ⟨sput_same, rfl, ?_⟩⟩
      rw [sput_sput]
      exact ret_of (h b hb)
    · exact h.elim
def asp_Fold___call__ (K : PySem.W.Frag) : ASp
  | [.ref p, .tree t], L, Q, _ => ∃ (j f : Int) (d : D), L p = some (FdO K (.int j) d) ∧ JnOk K L d f ∧ t.dep < 130 ∧ t.size ≤ 1000 ∧ Q (.int (foV f j t)) L
  | _, _, _, _ => False
theorem okA_Fold___call__  (T : Txt K mg base) {scr : Option (Addr × List Int)} : MethD P w K mg base CX0 213 (He.ga K "Fold") "__call__" ["self", "a"] [] (spA (cA K scr) (asp_Fold___call__ K)) := by
  refine T.m_Fold___call__.okA sc_Fold___call__ ?len (fun f cdv A outer s H E hr => (as_one (as_ret (ae_call (okA_folded T 130) (hr.mono (by decide)) (by rfl) (aa_cons (av 1) (aa_cons (ae_fldM (K := K) rfl (av 0) rfl) (aa_cons (ae_fldM (K := K) rfl (av 0) rfl) aa_nil))))))) ?vc
  case len =>
    intro ds L R RX h
    unfold asp_Fold___call__ at h
    split at h <;> first | rfl | exact h.elim
  case vc =>
    intro ds L R RX h
    unfold asp_Fold___call__ at h
    split at h
    · rename_i p t
      obtain ⟨j, f, d, hp, hj, hn, hz, h⟩ := h
      exact ⟨p, _, _, _, _, rfl, hp, T.o_Fold.c, T.na_Fold_seed, look_se, p, _, _, _, _, rfl, hp, T.o_Fold.c, T.na_Fold_joining, look_jo, f, hj, hn, hz, ret_of h⟩
    · exact h.elim
def asp_Fold_jet (K : PySem.W.Frag) : ASp
  | [.ref p], L, Q, _ => ∃ d e, L p = some (FdO K d e) ∧ Q d L
  | _, _, _, _ => False
theorem okA_Fold_jet  (T : Txt K mg base) {scr : Option (Addr × List Int)} : PropD P w K mg base CX0 2 (He.ga K "Fold") "jet" (spA (cA K scr) (asp_Fold_jet K)) := by
  refine T.p_Fold_jet.okA sc_Fold_jet ?len (fun f cdv A outer s H E hr => (as_one (as_ret (ae_fldM (K := K) rfl (av 0) rfl)))) ?vc
  case len =>
    intro ds L R RX h
    unfold asp_Fold_jet at h
    split at h <;> first | rfl | exact h.elim
  case vc =>
    intro ds L R RX h
    unfold asp_Fold_jet at h
    split at h
    · rename_i p
      obtain ⟨d, e, hp, h⟩ := h
      exact ⟨p, _, _, _, _, rfl, hp, T.o_Fold.c, T.na_Fold_seed, look_se, ret_of h⟩
    · exact h.elim
def sp__law_draw : Sp := fun vs H Q _ => ∃ (d : Addr) (many : Int), vs = [.ref d, .int many] ∧ FeedAt H d ∧ 0 < many ∧ many < 1073741824 ∧ ∀ (v : Int) H', 0 ≤ v → v < many → FeedAt H' d → SamD d H H' → Q (.int v) H'
theorem ok__law_draw  (T : Txt K mg base) : CallD P w K mg base CX0 2 "_law_draw" ["_law_feed_here", "_law_limit"] [] (sp__law_draw) := by
  refine T.d__law_draw.ok sc__law_draw (fun vs H Q E h => ?_) (fun f cdv A outer s H vs Q E hr h => ?_)
  · obtain ⟨d, many, rfl, _⟩ := h
    rfl
  · obtain ⟨d, many, rfl, ⟨a, b, c, hd⟩, h0, h1, k⟩ := h
    refine ⟨_, (pss_cons (ps_if (pt_cmpR op_gt (pe_dget (hu_of hr) (pv 0) pe_str (fun _ _ => rfl)) pe_int (nomark _))
        (pss_cons (ps_set (i := 2) sc__law_draw.nd rfl (by first | exact Or.inl rfl | exact Or.inr rfl) (pe_op op_mod (pe_dget (hu_of hr) (pv 0) pe_str (fun _ _ => rfl)) (pv 1)))
        (pss_cons (ps_dput (hu_of hr) (pv 0) pe_str (pe_op op_fdiv (pe_dget (hu_of hr) (pv 0) pe_str (fun _ _ => rfl)) (pv 1)) rfl)
        (pss_one (ps_ret (pv 2)))))
        pss_nil)
      (pss_cons (ps_dput (hu_of hr) (pv 0) pe_str (pe_op op_add (pe_dget (hu_of hr) (pv 0) pe_str (fun _ _ => rfl)) pe_int) rfl)
      (pss_cons (ps_set (i := 3) sc__law_draw.nd rfl (by first | exact Or.inl rfl | exact Or.inr rfl) (pe_op op_mod (pe_op op_mul (pe_op op_add (pe_dget (hu_of hr) (pv 0) pe_str (fun _ _ => rfl)) (pe_op op_mul pe_int (pe_dget (hu_of hr) (pv 0) pe_str (fun _ _ => rfl)))) pe_int) pe_int))
      (pss_cons (ps_dput (hu_of hr) (pv 0) pe_str (pe_op op_add (pe_op op_mod (pe_op op_add (pe_op op_mul (pv 3) pe_int) pe_int) pe_int) pe_int) rfl)
      (pss_one (ps_ret (pe_op op_mod (pe_op op_fdiv (pe_op op_add (pe_op op_mul (pv 3) pe_int) (pe_dget (hu_of hr) (pv 0) pe_str (fun _ _ => rfl))) pe_int) (pv 1)))))))), ?_⟩
    -- if feed['digits'] > 0: ..
    refine ⟨.ref d, rfl, d, _, rfl, dget hd feed_digits, _, _, rfl, rfl, _, rfl, ite2 (fun e => ?_) (fun _ => ?_)⟩
    · refine ⟨.ref d, rfl, d, _, rfl, dget hd feed_digits, _, rfl, _, _, rfl, rfl, h0, ?_⟩
      refine ⟨.ref d, rfl, d, _, rfl, dget hd feed_digits, _, rfl, _, _, rfl, rfl, ⟨h0, h1⟩, .ref d, rfl, d, _, rfl, dput hd feed_len feed_put_digits, _, rfl, ?_⟩
      exact k _ _ (Int.emod_nonneg _ (by omega)) (Int.emod_lt_of_pos _ h0) ⟨_, b, c, upd_same⟩ (SamD.refl d H).put
    -- feed['turn'] = feed['turn'] + 1 ..
    refine ⟨.ref d, rfl, d, _, rfl, dget hd feed_turn, _, _, rfl, rfl, .ref d, rfl, d, _, rfl, dput hd feed_len feed_put_turn, ?_⟩
    have hd2 : upd H d (.dK (feedD a b (c + 1))) d = some (.dK (feedD a b (c + 1))) := upd_same
    have s2 : SamD d H (upd H d (.dK (feedD a b (c + 1)))) := (SamD.refl d H).put
    generalize upd H d (.dK (feedD a b (c + 1))) = H2 at hd2 s2 ⊢
    refine ⟨.ref d, rfl, d, _, rfl, dget hd2 feed_seed, .ref d, rfl, d, _, rfl, dget hd2 feed_turn, _, _, rfl, rfl, .inl (by decide), _, _, rfl, rfl, _, _, rfl, rfl, .inr (by decide), _, _, rfl, rfl, by show (0 : Int) < 2147483647; decide, ?_⟩
    refine ⟨_, rfl, _, _, rfl, rfl, .inr (by decide), _, _, rfl, rfl, _, _, rfl, rfl, by show (0 : Int) < 2147483629; decide, _, _, rfl, rfl, .ref d, rfl, d, _, rfl, dput hd2 feed_len feed_put_seed, ?_⟩
    refine ⟨_, rfl, _, _, rfl, rfl, .inr (by decide), .ref d, rfl, d, _, rfl, dget upd_same feed_seed, _, _, rfl, rfl, _, _, rfl, rfl, ⟨by decide, by decide⟩, _, rfl, _, _, rfl, rfl, h0, ?_⟩
    exact k _ _ (Int.emod_nonneg _ (by omega)) (Int.emod_lt_of_pos _ h0) ⟨a, _, _, upd_same⟩ s2.put
def asp__law_draw : ASp
  | [.ref d, .int n], L, Q, _ => L d = some feedM ∧ 0 < n ∧ n < 1073741824 ∧ ∀ x : Int, 0 ≤ x → x < n → Q (.int x) L
  | _, _, _, _ => False
theorem okA__law_draw (T : Txt K mg base) {scr : Option (Addr × List Int)} : CallD P w K mg base CX0 2 "_law_draw" ["_law_feed_here", "_law_limit"] [] (spA (cA K scr) asp__law_draw) :=
  (ok__law_draw T).imp fun vs H Q E ⟨ds, L, R, RX, r, g, h, pq, px⟩ => by
    unfold asp__law_draw at h
    split at h
    · obtain ⟨h1, h2, h3, h⟩ := h
      obtain ⟨v, w, rfl, r1, r2⟩ := repL_two r
      cases rep_ref.mp r1
      cases rep_int.mp r2
      refine ⟨_, _, rfl, feed_at g h1, h2, h3, fun x H' x0 x1 f' s' => ?_⟩
      obtain ⟨g', fr⟩ := g.but h1 (Tabs.samD g.tabs (feed_at g h1) s') s' (feed_m f')
      exact pq _ L _ H' (h x x0 x1) fr g' (rep_int.mpr rfl)
    · exact h.elim

theorem cnt_codes : ∀ t : T, PyProof.Rows.cnt 40 t.codes + PyProof.Rows.cnt 111 t.codes = (t.size : Nat) := by
  apply T.ind'
  · decide
  · intro l ih
    have hl : ∀ l : List T, (∀ t ∈ l, PyProof.Rows.cnt 40 t.codes + PyProof.Rows.cnt 111 t.codes = (t.size : Nat)) → PyProof.Rows.cnt 40 (codesL l) + PyProof.Rows.cnt 111 (codesL l) = (sizeL l : Nat) := by
      intro l
      induction l with
      | nil => exact fun _ => by decide
      | cons t l ih =>
        intro h
        have h1 := h t List.mem_cons_self
        have h2 := ih fun u hu => h u (List.mem_cons_of_mem _ hu)
        show PyProof.Rows.cnt 40 (t.codes ++ codesL l) + PyProof.Rows.cnt 111 (t.codes ++ codesL l) = ((t.size + sizeL l : Nat) : Int)
        rw [PyProof.Rows.cnt_append, PyProof.Rows.cnt_append]
        omega
    show PyProof.Rows.cnt 40 (40 :: (codesL l ++ [41])) + PyProof.Rows.cnt 111 (40 :: (codesL l ++ [41])) = ((1 + sizeL l : Nat) : Int)
    rw [PyProof.Rows.cnt_cons, PyProof.Rows.cnt_cons, PyProof.Rows.cnt_append, PyProof.Rows.cnt_append]
    have := hl l ih
    simp [PyProof.Rows.cnt_cons, PyProof.Rows.cnt_nil]
    omega
def asp__law_size : ASp
  | [.str z], L, Q, _ => ∃ t : T, z = tx t ∧ Q (.int (t.size : Nat)) L
  | _, _, _, _ => False
theorem okA__law_size  (T : Txt K mg base) {scr : Option (Addr × List Int)} : CallD P w K mg base CX0 3 "_law_size" ["_law_text"] [] (spA (cA K scr) (asp__law_size)) := by
  refine T.d__law_size.okA sc__law_size ?len (fun f cdv A outer s H E hr => (as_one (as_ret (ae_op aop_add (ae_ms1 PySem.F.slot_str_count PySem.F.type_str_count mt_count low_count (av 0) ae_str) (ae_ms1 PySem.F.slot_str_count PySem.F.type_str_count mt_count low_count (av 0) ae_str))))) ?vc
  case len =>
    intro ds L R RX h
    unfold asp__law_size at h
    split at h <;> first | rfl | exact h.elim
  case vc =>
    intro ds L R RX h
    unfold asp__law_size at h
    split at h
    · rename_i z
      obtain ⟨t, rfl, h⟩ := h
      refine ⟨⟨_, rfl⟩, ⟨_, rfl⟩, ret_of ?_⟩
      show R (.int (Txt.count (tx t) ("(" : Str) + Txt.count (tx t) ("o" : Str))) L
      rw [op_S, o_S, PyProof.Rows.count_cnt, PyProof.Rows.count_cnt]
      have e : (tx t).cps.toList = t.codes := by unfold tx; rfl
      rw [e, cnt_codes t]
      exact h
    · exact h.elim
def GW (L0 : Store) (d : Addr) (n : Int) (m : Nat) (env : En) (L : Store) : Prop := ∃ P, ∃ pool : List T, ∃ left x4 x5 x6, env = [some (.ref d), some (.int n), some (.ref P), some (.int left), x4, x5, x6] ∧ L P = some (.lst (pool.map dtx)) ∧ L0 P = none ∧ SubS L0 L ∧ CanL pool ∧ 0 ≤ left ∧ (sizeL pool : Int) + left ≤ n - 1 ∧ m = left.toNat
theorem grown_sign {f : Int} (h0 : 0 ≤ f) (h1 : f < 3) : ∃ t : T, atI [D.str ("o" : Str), D.str ("o" : Str), D.str ("()" : Str)] f = some (dtx t) ∧ Can t ∧ t.size = 1 := by
  have e : ("()" : Str) = tx (.bas []) := by decide +kernel
  obtain ⟨k, rfl⟩ := Int.eq_ofNat_of_zero_le h0
  rw [e, ← tx_jet]
  match k, h1 with
  | 0, _ => exact ⟨.jet, rfl, trivial, rfl⟩
  | 1, _ => exact ⟨.jet, rfl, trivial, rfl⟩
  | 2, _ => exact ⟨.bas [], rfl, ⟨List.Pairwise.nil, trivial⟩, rfl⟩
  | k + 3, h => exact absurd h (by omega)
theorem dep_dtx (l : List T) : depDL (l.map dtx) ≤ 70 := by rw [depDL_map fun _ => rfl]; omega
theorem can_one {t : T} (h : Can t) : CanL [t] := ⟨h, trivial⟩
theorem can_app {a b : List T} (h : CanL a) (k : CanL b) : CanL (a ++ b) := canL_iff.mpr fun t ht => (List.mem_append.mp ht).elim (canL_iff.mp h t) (canL_iff.mp k t)
def asp__law_grown : ASp
  | [.ref d, .int n], L, Q, _ => L d = some feedM ∧ 1 ≤ n ∧ n ≤ 60 ∧ ∀ t : T, Can t → t.size ≤ n → Q (.str (tx t)) L
  | _, _, _, _ => False
theorem quiet__law_draw : GK.Quiet asp__law_draw := fun ds L R h => by
  unfold asp__law_draw at h ⊢
  split at h
  · obtain ⟨h1, h2, h3, h⟩ := h
    exact ⟨GK.hidS_of h1 (fun l z => nomatch z) (fun l z => nomatch z), h2, h3, fun x a b => ⟨rfl, (fun _ z => nomatch z), h x a b⟩⟩
  · exact h.elim
theorem quiet__law_size : GK.Quiet asp__law_size := fun ds L R h => by
  unfold asp__law_size at h ⊢
  split at h
  · obtain ⟨t, h1, h⟩ := h
    exact ⟨t, h1, rfl, (fun _ z => nomatch z), h⟩
  · exact h.elim
theorem okG__law_grown (T : Txt K mg base) {scr : Option (Addr × List Int)} : GK.CallG P w K mg base (cA K scr) 76 "_law_grown" ["_law_feed_here", "_law_room"] asp__law_grown := by
  refine T.d__law_grown.okG sc__law_grown ?len (fun f cdv A outer s H E hr => (GK.xss_cons (GK.xs_par (i := 2) (j := 3) (by rfl) sc__law_grown.nd rfl rfl (by decide) rfl rfl (GK.xa_cons (GK.x_lst GK.xa_nil) (GK.xa_cons (GK.x_op GK.xo_sub (GK.xv 1) GK.x_int) GK.xa_nil)) (by rfl))
      (GK.xss_cons (GK.xs_while PassesOwn.never (GK.xt_cmp GK.xo_gt (GK.xv 3) GK.x_int (nomark _))
        (GK.xss_cons (GK.xs_par (i := 4) (j := 5) (by rfl) sc__law_grown.nd rfl rfl (by decide) rfl rfl (GK.xa_cons (GK.x_call (okA__law_draw T) quiet__law_draw (hr.mono (by decide)) (by rfl) (GK.xa_cons (GK.xv 0) (GK.xa_cons GK.x_int GK.xa_nil))) (GK.xa_cons (GK.x_op GK.xo_add GK.x_int (GK.x_call (okA__law_draw T) quiet__law_draw (hr.mono (by decide)) (by rfl) (GK.xa_cons (GK.xv 0) (GK.xa_cons GK.x_int GK.xa_nil)))) GK.xa_nil)) (by rfl))
        (GK.xss_cons (GK.xs_if (GK.xt_cmp GK.xo_lt (GK.xv 4) GK.x_int (nomark _))
          (GK.xss_one (GK.xs_expr (GK.x_ml PySem.F.plainAttrs_list PySem.F.slot_list_append PySem.F.type_list_append GK.xm_append (GK.xv 2) (GK.xa_cons (GK.x_ix (GK.x_lst (GK.xa_cons GK.x_str (GK.xa_cons GK.x_str (GK.xa_cons GK.x_str GK.xa_nil)))) (GK.xv 4) (fun _ _ => rfl)) GK.xa_nil))))
          (GK.xss_one (GK.xs_if (GK.xt_via (GK.XW.pt (GK.xw_and (GK.xt_cmp GK.xo_eq (GK.xv 4) GK.x_int (nomark _)) (GK.xw_and (GK.xt_cmp (GK.xo_neNil hr.units) (GK.xv 2) (GK.x_lst GK.xa_nil) (nomark _)) (GK.xw_and1 (GK.xt_cmp GK.xo_le (GK.x_call (okA__law_size T) quiet__law_size (hr.mono (by decide)) (by rfl) (GK.xa_cons (GK.x_ix (GK.xv 2) (GK.x_op GK.xo_sub (GK.x_b GK.xb_len (by rfl) T.n_len (by decide +kernel) (GK.xa_cons (GK.xv 2) GK.xa_nil)) GK.x_int) (fun _ _ => rfl)) GK.xa_nil)) (GK.xv 3) (nomark _)))))))
            (GK.xss_cons (GK.xs_set (i := 3) sc__law_grown.nd rfl rfl (GK.x_op GK.xo_add (GK.x_op GK.xo_sub (GK.xv 3) (GK.x_call (okA__law_size T) quiet__law_size (hr.mono (by decide)) (by rfl) (GK.xa_cons (GK.x_ix (GK.xv 2) (GK.x_op GK.xo_sub (GK.x_b GK.xb_len (by rfl) T.n_len (by decide +kernel) (GK.xa_cons (GK.xv 2) GK.xa_nil)) GK.x_int) (fun _ _ => rfl)) GK.xa_nil))) GK.x_int))
            (GK.xss_one (GK.xs_expr (GK.x_ml PySem.F.plainAttrs_list PySem.F.slot_list_append PySem.F.type_list_append GK.xm_append (GK.xv 2) (GK.xa_cons (GK.x_ix (GK.xv 2) (GK.x_op GK.xo_sub (GK.x_b GK.xb_len (by rfl) T.n_len (by decide +kernel) (GK.xa_cons (GK.xv 2) GK.xa_nil)) GK.x_int) (fun _ _ => rfl)) GK.xa_nil)))))
            (GK.xss_one (GK.xs_if (GK.xt_cmp (GK.xo_neNil hr.units) (GK.xv 2) (GK.x_lst GK.xa_nil) (nomark _))
              (GK.xss_cons (GK.xs_via (GK.xs_set (i := 6) sc__law_grown.nd rfl rfl (GK.x_b (GK.xb_max rfl) (by rfl) T.n_max (by decide +kernel) (GK.xa_cons GK.x_int (GK.xa_cons (GK.x_op GK.xo_sub (GK.x_b GK.xb_len (by rfl) T.n_len (by decide +kernel) (GK.xa_cons (GK.xv 2) GK.xa_nil)) (GK.xv 5)) GK.xa_nil)))))
              (GK.xss_one (GK.xs_set (i := 2) sc__law_grown.nd rfl rfl (GK.x_op GK.xo_cat (GK.x_sl (GK.xv 2) GK.xo_none (GK.xo_some (GK.xv 6))) (GK.x_lst (GK.xa_cons (GK.x_wrap (by decide +kernel) (by decide +kernel) (GK.xn_join GK.x_str (GK.x_b GK.xb_sorted (by rfl) T.n_sorted (by decide +kernel) (GK.xa_cons (GK.x_sl (GK.xv 2) (GK.xo_some (GK.xv 6)) GK.xo_none) GK.xa_nil)))) GK.xa_nil))))))
              GK.xss_nil)))))
        (GK.xss_one (GK.xs_set (i := 3) sc__law_grown.nd rfl rfl (GK.x_op GK.xo_sub (GK.xv 3) GK.x_int))))))
      (GK.xss_cons (GK.xs_if (GK.xt_via (GK.XW.pt (GK.xw_and (GK.xt_cmp GK.xo_eq (GK.x_b GK.xb_len (by rfl) T.n_len (by decide +kernel) (GK.xa_cons (GK.xv 2) GK.xa_nil)) GK.x_int (nomark _)) (GK.xw_and1 (GK.xt_cmp GK.xo_gt (GK.x_call (okA__law_draw T) quiet__law_draw (hr.mono (by decide)) (by rfl) (GK.xa_cons (GK.xv 0) (GK.xa_cons GK.x_int GK.xa_nil))) GK.x_int (nomark _))))))
        (GK.xss_one (GK.xs_ret (GK.x_ix (GK.xv 2) GK.x_int (fun _ _ => rfl))))
        GK.xss_nil)
      (GK.xss_one (GK.xs_ret (GK.x_wrap (by decide +kernel) (by decide +kernel) (GK.xn_join GK.x_str (GK.x_b GK.xb_sorted (by rfl) T.n_sorted (by decide +kernel) (GK.xa_cons (GK.xv 2) GK.xa_nil)))))))))) ?vc
  case len =>
    intro ds L R RX h
    unfold asp__law_grown at h
    split at h <;> first | rfl | exact h.elim
  case vc =>
    intro ds L R RX h
    unfold asp__law_grown at h
    split at h
    · rename_i d n
      obtain ⟨hd, h1, h2, h⟩ := h
      have hsl := sizeLine_eq
      refine ⟨Nat.zero_le _, fun P hP0 => ?_⟩
      refine ⟨GW L d n, ⟨_, P, [], n - 1, none, none, none, rfl, sput_same, hP0, (SubS.refl L).new hP0, trivial, by omega, by show ((0 : Nat) : Int) + _ ≤ _; omega, rfl⟩, ?_⟩
      rintro m env L1 ⟨P, pool, left, x4, x5, x6, rfl, hP, hP0, sb, hc, l0, hz, rfl⟩
      have hpl : pool.length ≤ sizeL pool := length_le pool
      have hd1 := sb _ _ hd
      refine ite2 (fun e => ?_) (fun e => ?_)
      · have e := of_decide_eq_true e
        refine ⟨hd1, by decide, by decide, fun f f0 f1 => ⟨hd1, by decide, by decide, fun k k0 k1 => ?_⟩⟩
        have fin : ∀ P (pool2 : List JW.T) (left2 : Int) x6 L2, L2 P = some (.lst (pool2.map dtx)) → L P = none → SubS L L2 → CanL pool2 → 0 ≤ left2 - 1 → (sizeL pool2 : Int) + (left2 - 1) ≤ n - 1 → left2 ≤ left → ∃ m', m' < left.toNat ∧ GW L d n m' [some (.ref d), some (.int n), some (.ref P), some (.int (left2 - 1)), some (.int f), some (.int (1 + k)), x6] L2 := fun P2 pool2 left2 x6 L2 a1 a2 a3 a4 a5 a6 a7 => ⟨(left2 - 1).toNat, by omega, P2, pool2, _, _, _, _, rfl, a1, a2, a3, a4, a5, a6, rfl⟩
        refine ite2 (fun e1 => ?_) (fun e1 => ?_)
        · obtain ⟨t, ht, hct, hzt⟩ := grown_sign f0 (of_decide_eq_true e1)
          refine ⟨⟨P, _, rfl, hP⟩, by show (3 : Nat) ≤ sizeLine; omega, fun r hr => ⟨_, dtx t, sput_same, ht, _, sput_old hP hr, by rw [List.length_map]; omega, fin P (pool ++ [t]) left x6 _ (by rw [sput_same, List.map_append]; rfl) hP0 ((sb.new hr).put hP0) (can_app hc (can_one hct)) (by omega) ?_ (Int.le_refl _)⟩⟩
          rw [sizeL_app]
          have e2 : sizeL [t] = t.size + 0 := rfl
          omega
        · refine ⟨fun b L2 => L2 P = some (.lst (pool.map dtx)) ∧ SubS L L2 ∧ (b = true → ∃ us t, pool = us ++ [t] ∧ (t.size : Int) ≤ left), ite2 (fun e2 => ?_) (fun e2 => ⟨hP, sb, fun z => by cases z⟩), fun b L2 ⟨hP2, sb2, hb⟩ => ite2 (fun eb => ?_) (fun eb => ?_)⟩
          · refine ⟨Nat.zero_le _, fun r hr => ⟨_, _, sput_old hP hr, sput_same, GK.neK_nil (dep_dtx _) (ite2 (fun e3 => ?_) (fun e3 => ⟨sput_old hP hr, sb.new hr, fun z => by cases z⟩))⟩⟩
            have hP3 := sput_old (n := .lst []) hP hr
            have hn : pool ≠ [] := fun z => by subst z; cases e3
            obtain ⟨us, t, rfl⟩ : ∃ us t, pool = us ++ [t] := ⟨_, _, (List.dropLast_concat_getLast hn).symm⟩
            refine ⟨_, hP3, _, dtx t, hP3, ?_, t, rfl, hP3, sb.new hr, fun z => ⟨us, t, rfl, of_decide_eq_true z⟩⟩
            rw [List.map_append]
            exact atI_last _ _
          · obtain ⟨us, t, rfl, htz⟩ := hb eb
            have hat : atI ((us ++ [t]).map dtx) (((us ++ [t]).map dtx).length - 1 : Int) = some (dtx t) := by
              rw [List.map_append]
              exact atI_last _ _
            have ht1 := size_pos t
            have hsa : sizeL (us ++ [t]) = sizeL us + sizeL [t] := sizeL_app _ _
            have e2 : sizeL [t] = t.size + 0 := rfl
            refine ⟨_, hP2, _, dtx t, hP2, hat, t, rfl, ⟨P, _, rfl, hP2⟩, _, hP2, _, dtx t, hP2, hat, _, hP2, by rw [List.length_map]; omega, fin P (us ++ [t] ++ [t]) (left - t.size + 1) x6 _ (by rw [sput_same]; simp) hP0 (sb2.put hP0) (can_app hc (can_one (canL_iff.mp hc t (by simp)))) (by omega) ?_ (by omega)⟩
            rw [sizeL_app]
            omega
          · refine ⟨Nat.zero_le _, fun r hr => ⟨_, _, sput_old hP2 hr, sput_same, GK.neK_nil (dep_dtx _) (ite2 (fun e3 => ?_) (fun e3 => ?_))⟩⟩
            · have hP3 := sput_old (n := .lst []) hP2 hr
              have sb3 := sb2.new (m := .lst []) hr
              generalize sput L2 r (.lst []) = L3 at hP3 sb3
              have hn : pool ≠ [] := fun z => by subst z; cases e3
              have hpp : 0 < pool.length := List.length_pos_iff.mpr hn
              have hlm : (pool.map dtx).length = pool.length := List.length_map _
              obtain ⟨i, hi, hil⟩ : ∃ i : Nat, (if ((pool.map dtx).length : Int) - (1 + k) > 0 then ((pool.map dtx).length : Int) - (1 + k) else 0) = (i : Nat) ∧ i < pool.length := by
                rw [hlm]
                split
                · exact ⟨((pool.length : Int) - (1 + k)).toNat, by omega, by omega⟩
                · exact ⟨0, rfl, hpp⟩
              refine ⟨fun env L4 => L4 = L3 ∧ ∃ i : Nat, i < pool.length ∧ env = [some (.ref d), some (.int n), some (.ref P), some (.int left), some (.int f), some (.int (1 + k)), some (.int (i : Nat))], ⟨_, hP3, rfl, i, hil, by rw [← hi]; rfl⟩, ?_⟩
              rintro _ _ ⟨rfl, i, hil, rfl⟩
              have hsp : sizeL pool = sizeL (pool.take i) + sizeL (pool.drop i) := by rw [← sizeL_app, List.take_append_drop]
              have hsd : sizeL (pool.drop i) ≤ 5000 := by omega
              have hdl : (pool.drop i).length < 64 := by rw [List.length_drop]; omega
              refine ⟨_, hP3, fun a ha => ⟨⟨_, rfl⟩, _, sput_old hP3 ha, fun q hq => .inl ⟨(pool.drop i).map tx, by rw [sput_same, cutD_drop rfl, dtx_map], by rw [List.length_map]; exact hdl, fun ys s py hy hs => ?_⟩⟩⟩
              have ey := sorted_tx py hy
              subst ey
              have hj := joinedS hsd
              refine ⟨_, sput_same, joined hsd, ?_, ?_, by show (1 : Nat) ≤ sizeLine; omega, fun u hu => ?_⟩
              · show 1 + _ ≤ sizeLine
                omega
              · rw [len_cat]
                show (1 + _) + 1 ≤ sizeLine
                omega
              rw [tx_bas]
              refine ⟨_, _, sput_old (sput_old (sput_old sput_same hq) hs) hu, sput_same, ?_, fun v hv => fin v (pool.take i ++ [.bas (sortT (pool.drop i))]) left _ _ ?_ ?_ ?_ ?_ (by omega) ?_ (Int.le_refl _)⟩
              · rw [cutD_take rfl, List.length_map, List.length_take]
                show _ + 1 ≤ sizeLine
                omega
              · rw [sput_same, cutD_take rfl, List.map_append]
                rfl
              · exact ((((sb3.new ha).new hq).new hs).new hu).none hv
              · exact ((((sb3.new ha).new hq).new hs).new hu).new hv
              · exact can_app (canL_iff.mpr fun t ht => canL_iff.mp hc t (List.mem_of_mem_take ht)) (can_one (can_bas (canL_iff.mpr fun t ht => canL_iff.mp hc t (List.mem_of_mem_drop ht))))
              · rw [sizeL_app]
                have e4 : sizeL [JW.T.bas (sortT (pool.drop i))] = (1 + sizeL (sortT (pool.drop i))) + 0 := rfl
                rw [sizeL_perm (sortT_perm _)] at e4
                omega
            · exact fin P pool left x6 _ (sput_old hP2 hr) hP0 (sb2.new hr) hc (by omega) (by omega) (Int.le_refl _)
      · refine ⟨fun b L2 => L2 = L1 ∧ (b = true → ∃ t, pool = [t]), ⟨_, hP, ite2 (fun e2 => ⟨hd1, by decide, by decide, fun x x0 x1 => ⟨rfl, fun _ => ?_⟩⟩) (fun e2 => ⟨rfl, fun z => by cases z⟩)⟩, fun b L2 ⟨el, hb⟩ => ite2 (fun eb => ?_) (fun eb => ?_)⟩
        · have e3 := of_decide_eq_true ((Bool.false_xor _).symm.trans e2)
          rw [List.length_map] at e3
          match pool, e3 with
          | [t], _ => exact ⟨t, rfl⟩
          | [], e3 => exact absurd e3 (by decide)
          | _ :: _ :: _, e3 => exact absurd e3 (by simp only [List.length_cons]; omega)
        · obtain ⟨t, rfl⟩ := hb eb
          have e4 : sizeL [t] = t.size + 0 := rfl
          subst el
          exact ⟨_, dtx t, hP, rfl, ret_sub (h t hc.1 (by omega)) sb⟩
        · subst el
          have hs5 : sizeL pool ≤ 5000 := by omega
          have hj := joinedS hs5
          refine ⟨⟨_, rfl⟩, .inl ⟨pool.map tx, by rw [← dtx_map]; exact hP, by rw [List.length_map]; omega, fun ys s py hy hs => ?_⟩⟩
          have ey := sorted_tx py hy
          subst ey
          refine ⟨_, sput_same, joined hs5, ?_, ?_, ?_⟩
          · show 1 + _ ≤ sizeLine
            omega
          · rw [len_cat]
            show (1 + _) + 1 ≤ sizeLine
            omega
          · rw [tx_bas]
            refine ret_sub (h (.bas (sortT pool)) (can_bas hc) ?_) (sb.new hs)
            have e4 : (JW.T.bas (sortT pool)).size = 1 + sizeL (sortT pool) := rfl
            rw [sizeL_perm (sortT_perm _)] at e4
            omega
    · exact h.elim
def NormI (L0 : Store) (z : D) (st : List (List T)) (env : En) (L : Store) : Prop := ∃ P ps x2 x3, env = [some z, some (.ref P), x2, x3] ∧ L P = some (.lst (ps.map D.ref)) ∧ RowsAt L ps st ∧ P ∉ ps ∧ SubS L0 L ∧ ∀ p ∈ P :: ps, L0 p = none
section
variable {L0 : Store} {z : D} {N : AEnds}
end
def asp__law_norm : ASp
  | [.str z], L, Q, _ => ∃ t : T, z = tx t ∧ NormOk t ∧ Q (.str (tx t.canon)) L
  | _, _, _, _ => False
def bNormK : ATS :=
        (aIfS (aBl (aOp (GK.eqK false) (aVar 2) (aC (D.str (Str.ofString "(")))))
          (aDrop (aMl appendD (aVar 1) (aCons (aLst aNil) aNil)))
          (aIfS (aBl (aOp (GK.eqK false) (aVar 2) (aC (D.str (Str.ofString ")")))))
            (aSeq (aAsg (aMl popD (aVar 1) aNil) (agName 3))
              (aDrop
                (aMl appendD (aOp GK.ixL (aVar 1) (aOp GK.subI (aB GK.lenL (aCons (aVar 1) aNil)) (aC (D.int 1))))
                  (aCons
                    (aOp GK.addS
                      (aOp GK.addS (aC (D.str (Str.ofString "(")))
                        (aMs GK.joinL (aC (D.str (Str.ofString ""))) (aCons (aB GK.sortedL (aCons (aVar 3) aNil)) aNil)))
                      (aC (D.str (Str.ofString ")"))))
                    aNil))))
            (aDrop
              (aMl appendD (aOp GK.ixL (aVar 1) (aOp GK.subI (aB GK.lenL (aCons (aVar 1) aNil)) (aC (D.int 1))))
                (aCons (aVar 2) aNil)))))
section
variable {L0 : Store} {z : D} {N : AEnds}
abbrev lpNK (N : AEnds) : List D → En → Store → Prop := loopA (agName 2) bNormK N yes
theorem norm_openK {s : Str} (es : s = ⟨#[40]⟩) {rest : List D} {st : List (List T)} {env : En} {L : Store} (hs : st.length < 1000) (h : NormI L0 z st env L) (k : ∀ env L, NormI L0 z (st ++ [[]]) env L → lpNK N rest env L) : lpNK N (.str s :: rest) env L := by
  obtain ⟨P, ps, x2, x3, rfl, hP, hR, hn, sb, h0⟩ := h
  have hsl := sizeLine_eq
  have hpl : ps.length < 1000 := by rw [hR.2.1]; exact hs
  refine ⟨trivial, ite_t (by rw [es]; rfl) ⟨⟨P, _, rfl, hP⟩, Nat.zero_le _, fun r hr => ⟨_, sput_old hP hr, by rw [List.length_map]; omega, ?_⟩⟩⟩
  have hrP : r ≠ P := fun e => by rw [e, hP] at hr; cases hr
  have hrp : r ∉ ps := fun hm => by
    obtain ⟨l, e⟩ := rows_some hR hm
    rw [e] at hr
    cases hr
  refine k _ _ ⟨P, ps ++ [r], _, x3, rfl, by rw [sput_same, List.map_append]; rfl, rows_push (rows_keep hR fun p hp => ?_) hrp ?_, ?_, (sb.new hr).put (h0 P List.mem_cons_self), fun p hp => ?_⟩
  · rw [sput_ne (nem hp hn), sput_ne (nem hp hrp)]
  · rw [sput_ne hrP, sput_same]
    rfl
  · intro hm
    rcases List.mem_append.mp hm with e | e
    · exact hn e
    · exact hrP (List.mem_singleton.mp e).symm
  · rcases List.mem_cons.mp hp with e | e
    · exact h0 p (by rw [e]; exact List.mem_cons_self)
    · rcases List.mem_append.mp e with e | e
      · exact h0 p (List.mem_cons_of_mem _ e)
      · rw [List.mem_singleton.mp e]
        exact sb.none hr
theorem norm_jetK {s : Str} (es : s = ⟨#[111]⟩) {rest : List D} {st : List (List T)} {l : List T} {env : En} {L : Store} (hl : l.length < 1000) (h : NormI L0 z (st ++ [l]) env L) (k : ∀ env L, NormI L0 z (st ++ [l ++ [.jet]]) env L → lpNK N rest env L) : lpNK N (.str s :: rest) env L := by
  obtain ⟨P, ps, x2, x3, rfl, hP, hR, hn, sb, h0⟩ := h
  have hsl := sizeLine_eq
  obtain ⟨qs, p, rfl, hR1, hp, hq⟩ := rows_top hR
  have hPp : p ≠ P := fun e => hn (by rw [← e]; simp)
  refine ⟨trivial, ite_f (by rw [es]; rfl) (ite_f (by rw [es]; rfl) ⟨_, hP, _, D.ref p, hP, ?_, ⟨p, _, rfl, hp⟩, _, hp, by rw [List.length_map]; omega, ?_⟩)⟩
  · rw [List.map_append]
    exact atI_last _ _
  refine k _ _ ⟨P, qs ++ [p], _, x3, rfl, by rw [sput_ne (Ne.symm hPp)]; exact hP, rows_push (rows_keep hR1 fun q hm => sput_ne (nem hm hq)) hq ?_, hn, sb.put (h0 p (by simp)), h0⟩
  rw [sput_same, List.map_append, es]
  rfl
theorem norm_closeK {s : Str} (es : s = ⟨#[41]⟩) {rest : List D} {st : List (List T)} {l m : List T} {env : En} {L : Store} (hl : l.length < 1000) (hm : m.length < 64) (hz : sizeL m ≤ 5000) (h : NormI L0 z (st ++ [l] ++ [m]) env L) (k : ∀ env L, NormI L0 z (st ++ [l ++ [.bas (sortT m)]]) env L → lpNK N rest env L) : lpNK N (.str s :: rest) env L := by
  obtain ⟨P, ps, x2, x3, rfl, hP, hR, hn, sb, h0⟩ := h
  have hsl := sizeLine_eq
  obtain ⟨qs, q, rfl, hR1, hq, hqn⟩ := rows_top hR
  obtain ⟨ps, p, rfl, hR2, hp, hpn⟩ := rows_top hR1
  have hPq : q ≠ P := fun e => hn (by rw [← e]; simp)
  have hPp : p ≠ P := fun e => hn (by rw [← e]; simp)
  have hpq : p ≠ q := fun e => hqn (by rw [← e]; simp)
  refine ⟨trivial, ite_f (by rw [es]; rfl) (ite_t (by rw [es]; rfl) ⟨⟨P, _, rfl, hP⟩, _, D.ref q, hP, ?_, ?_⟩)⟩
  · rw [List.map_append]
    exact last_get _ _
  have e2 : ((ps ++ [p] ++ [q]).map D.ref).dropLast = (ps ++ [p]).map D.ref := by rw [List.map_append]; exact List.dropLast_concat
  rw [e2]
  generalize hL2 : sput L P (.lst ((ps ++ [p]).map D.ref)) = L2
  have hP2 : L2 P = some (.lst ((ps ++ [p]).map D.ref)) := by rw [← hL2, sput_same]
  have hp2 : L2 p = some (.lst (l.map dtx)) := by rw [← hL2, sput_ne hPp]; exact hp
  have hq2 : L2 q = some (.lst (m.map dtx)) := by rw [← hL2, sput_ne hPq]; exact hq
  have hR3 : RowsAt L2 ps st := rows_keep hR2 fun a ha => by rw [← hL2, sput_ne (nem (List.mem_append_left _ (List.mem_append_left _ ha)) hn)]
  have sb2 : SubS L0 L2 := by rw [← hL2]; exact sb.put (h0 P List.mem_cons_self)
  refine ⟨_, hP2, _, D.ref p, hP2, ?_, ⟨p, _, rfl, hp2⟩, ⟨_, rfl⟩, .inl ⟨m.map tx, by rw [← dtx_map]; exact hq2, by rw [List.length_map]; exact hm, fun ys r py hy hr => ?_⟩⟩
  · rw [List.map_append]
    exact atI_last _ _
  have ey := sorted_tx py hy
  subst ey
  have hrp : p ≠ r := fun e => by rw [← e, hp2] at hr; cases hr
  have hrP : P ≠ r := fun e => by rw [← e, hP2] at hr; cases hr
  have hj := joinedS hz
  refine ⟨_, sput_same, joined hz, ?_, ?_, _, by rw [sput_ne hrp]; exact hp2, by rw [List.length_map]; omega, ?_⟩
  · show 1 + _ ≤ sizeLine
    omega
  · rw [len_cat]
    show (1 + _) + 1 ≤ sizeLine
    omega
  rw [tx_bas]
  refine k _ _ ⟨P, ps ++ [p], _, _, rfl, by rw [sput_ne (Ne.symm hPp), sput_ne hrP]; exact hP2, rows_push (rows_keep hR3 fun a ha => ?_) hpn ?_, ?_, (sb2.new hr).put (h0 p (by simp)), fun a ha => h0 a (List.mem_cons.mpr ((List.mem_cons.mp ha).imp id fun e => List.mem_append_left _ e))⟩
  · have ha2 : a ≠ r := fun e => by
      obtain ⟨w, e3⟩ := rows_some hR3 ha
      rw [← e, e3] at hr
      cases hr
    rw [sput_ne (nem ha hpn), sput_ne ha2]
  · rw [sput_same, List.map_append]
    rfl
  · intro e
    exact hn (List.mem_append_left _ e)
theorem norm_treeK : ∀ (t : T) (rest : List D) (st : List (List T)) (l : List T) env L, st.length + t.dep < 900 → l.length < 900 → t.size ≤ 4900 ∧ widT t < 64 → NormI L0 z (st ++ [l]) env L → (∀ env L, NormI L0 z (st ++ [l ++ [t.canon]]) env L → lpNK N rest env L) → lpNK N (t.codes.map (fun c => D.str ⟨#[c]⟩) ++ rest) env L := by
  apply T.ind'
  · intro rest st l env L h1 h2 h3 h k
    exact norm_jetK rfl (by omega) h k
  · intro ts ih rest st l env L h1 h2 ⟨h3, h4⟩ h k
    have hts : (T.bas ts).size = 1 + sizeL ts := rfl
    have hdp : (T.bas ts).dep = 1 + depL ts := rfl
    have hwd : max ts.length (widL ts) < 64 := h4
    have hwl : ts.length < 64 := by omega
    have hk : ∀ (us vs : List T) (rest : List D) env L, (∀ t ∈ us, t ∈ ts) → vs.length + us.length ≤ ts.length → NormI L0 z (st ++ [l] ++ [vs]) env L → (∀ env L, NormI L0 z (st ++ [l] ++ [vs ++ us.map T.canon]) env L → lpNK N rest env L) → lpNK N ((codesL us).map (fun c => D.str ⟨#[c]⟩) ++ rest) env L := by
      intro us
      induction us with
      | nil =>
        intro vs rest env L _ _ h k
        exact k _ _ (by rw [List.map_nil, List.append_nil]; exact h)
      | cons t us ih2 =>
        intro vs rest env L hm hz h k
        have ht := hm t List.mem_cons_self
        have hsz := size_mem ht
        have hdm := dep_mem ht
        have hwm := wid_mem ht
        rw [List.length_cons] at hz
        show lpNK N (List.map (fun c => D.str ⟨#[c]⟩) (t.codes ++ codesL us) ++ rest) env L
        rw [List.map_append, List.append_assoc]
        refine ih t ht _ (st ++ [l]) vs env L (by rw [List.length_append, List.length_singleton]; omega) (by omega) ⟨by omega, by omega⟩ h fun env L h => ?_
        refine ih2 (vs ++ [t.canon]) rest env L (fun u hu => hm u (List.mem_cons_of_mem _ hu)) (by rw [List.length_append, List.length_singleton]; omega) h fun env L h => k env L ?_
        rw [List.append_assoc vs] at h
        exact h
    have hcs : sizeL (ts.map T.canon) = sizeL ts := sizeL_canon ts
    show lpNK N (List.map (fun c => D.str ⟨#[c]⟩) (40 :: (codesL ts ++ [41])) ++ rest) env L
    rw [List.map_cons, List.map_append, List.cons_append, List.append_assoc]
    refine norm_openK rfl (by rw [List.length_append, List.length_singleton]; omega) h fun env L h => ?_
    refine hk ts [] _ env L (fun t h => h) (by simp) h fun env L h => ?_
    refine norm_closeK rfl (by omega) (by rw [List.nil_append, List.length_map]; omega) (by rw [List.nil_append, hcs]; omega) h fun env L h => k env L ?_
    rw [canon_bas]
    exact h
end
theorem okG__law_norm (T : Txt K mg base) {scr : Option (Addr × List Int)} : GK.CallG P w K mg base (cA K scr) 76 "_law_norm" ["_law_text"] asp__law_norm := by
  refine T.d__law_norm.okG sc__law_norm ?len (fun f cdv A outer s H E hr => (GK.xss_cons (GK.xs_set (i := 1) sc__law_norm.nd rfl rfl (GK.x_lst (GK.xa_cons (GK.x_lst GK.xa_nil) GK.xa_nil)))
      (GK.xss_cons (GK.xs_for (j := 2) PassesOwn.never (GK.xi_str rfl (GK.xv 0)) sc__law_norm.nd rfl rfl
        (GK.xss_one (GK.xs_if (GK.xt_cmp GK.xo_eq (GK.xv 2) GK.x_str (nomark _))
          (GK.xss_one (GK.xs_expr (GK.x_ml PySem.F.plainAttrs_list PySem.F.slot_list_append PySem.F.type_list_append GK.xm_append (GK.xv 1) (GK.xa_cons (GK.x_lst GK.xa_nil) GK.xa_nil))))
          (GK.xss_one (GK.xs_if (GK.xt_cmp GK.xo_eq (GK.xv 2) GK.x_str (nomark _))
            (GK.xss_cons (GK.xs_set (i := 3) sc__law_norm.nd rfl rfl (GK.x_ml0 PySem.F.plainAttrs_list PySem.F.slot_list_pop PySem.F.type_list_pop GK.xm_pop (GK.xv 1)))
            (GK.xss_one (GK.xs_expr (GK.x_ml PySem.F.plainAttrs_list PySem.F.slot_list_append PySem.F.type_list_append GK.xm_append (GK.x_ix (GK.xv 1) (GK.x_op GK.xo_sub (GK.x_b GK.xb_len (by rfl) T.n_len (by decide +kernel) (GK.xa_cons (GK.xv 1) GK.xa_nil)) GK.x_int) (fun _ _ => rfl)) (GK.xa_cons (GK.x_wrap (by decide +kernel) (by decide +kernel) (GK.xn_join GK.x_str (GK.x_b GK.xb_sorted (by rfl) T.n_sorted (by decide +kernel) (GK.xa_cons (GK.xv 3) GK.xa_nil)))) GK.xa_nil)))))
            (GK.xss_one (GK.xs_expr (GK.x_ml PySem.F.plainAttrs_list PySem.F.slot_list_append PySem.F.type_list_append GK.xm_append (GK.x_ix (GK.xv 1) (GK.x_op GK.xo_sub (GK.x_b GK.xb_len (by rfl) T.n_len (by decide +kernel) (GK.xa_cons (GK.xv 1) GK.xa_nil)) GK.x_int) (fun _ _ => rfl)) (GK.xa_cons (GK.xv 2) GK.xa_nil)))))))))
      (GK.xss_one (GK.xs_ret (GK.x_ix (GK.x_ix (GK.xv 1) GK.x_int (fun _ _ => rfl)) GK.x_int (fun _ _ => rfl))))))) ?vc
  case len =>
    intro ds L R RX h
    unfold asp__law_norm at h
    split at h <;> first | rfl | exact h.elim
  case vc =>
    intro ds L R RX h
    unfold asp__law_norm at h
    split at h
    · rename_i z
      obtain ⟨t, rfl, ⟨hz1, hz2, hz3⟩, h⟩ := h
      refine ⟨Nat.zero_le _, fun r hr => ⟨by show (1 : Nat) ≤ sizeLine; decide, fun P hP0 => ?_⟩⟩
      have e : (tx t).cps.toList = t.codes := by unfold tx; rfl
      show loopA (agName 2) bNormK _ yes ((tx t).cps.toList.map fun k => D.str ⟨#[k]⟩) _ _
      rw [e, ← List.append_nil (List.map _ _)]
      have hrP : r ≠ P := fun e => by rw [← e, sput_same] at hP0; cases hP0
      refine norm_treeK (L0 := L) (z := dtx t) t [] [] [] _ _ (by simp; omega) (by simp) ⟨hz1, hz2⟩ ⟨P, [r], none, none, rfl, sput_same, ⟨by simp, rfl, fun i p l e1 e2 => ?_⟩, fun hm => hrP (List.mem_singleton.mp hm).symm, ((SubS.refl L).new hr).new hP0, fun p hp => ?_⟩ fun env L2 h => ?_
      · rcases i with _ | i
        · cases e1
          cases e2
          rw [sput_ne hrP, sput_same]
          rfl
        · cases e1
      · rcases List.mem_cons.mp hp with e | e
        · rw [e]
          rw [sput_ne fun e => hrP e.symm] at hP0
          exact hP0
        · rw [List.mem_singleton.mp e]
          exact hr
      · obtain ⟨P2, ps, x2, x3, rfl, hP2, hR, hn, sb, h0⟩ := h
        obtain ⟨qs, q, rfl, hR1, hq, hqn⟩ := rows_top hR
        have eq : qs = [] := List.eq_nil_of_length_eq_zero hR1.2.1
        subst eq
        exact ⟨trivial, _, D.ref q, hP2, rfl, _, dtx t.canon, hq, rfl, ret_sub h sb⟩
    · exact h.elim
def asp__law_open : ASp
  | [.ref d, .int n], L, Q, _ => L d = some feedM ∧ 1 ≤ n ∧ n ≤ 60 ∧ ∀ t : T, Can t → opn t = true → t.size ≤ n → Q (.str (tx t)) L
  | _, _, _, _ => False
theorem okG__law_open (T : Txt K mg base) {scr : Option (Addr × List Int)} : GK.CallG P w K mg base (cA K scr) 77 "_law_open" ["_law_feed_here", "_law_room"] asp__law_open := by
  refine T.d__law_open.okG sc__law_open ?len (fun f cdv A outer s H E hr => (GK.xss_cons (GK.xs_set (i := 2) sc__law_open.nd rfl rfl (GK.x_callG (okG__law_grown T) (hr.mono (by decide)) (by rfl) (GK.xa_cons (GK.xv 0) (GK.xa_cons (GK.xv 1) GK.xa_nil))))
      (GK.xss_one (GK.xs_ret (GK.x_if (GK.xt_cmp GK.xo_in GK.x_str (GK.xv 2) (by rfl)) (GK.xv 2) (GK.x_callG (okG__law_norm T) (hr.mono (by decide)) (by rfl) (GK.xa_cons (GK.x_replCC T.nb (GK.xv 2)) GK.xa_nil))))))) ?vc
  case len =>
    intro ds L R RX h
    unfold asp__law_open at h
    split at h <;> first | rfl | exact h.elim
  case vc =>
    intro ds L R RX h
    unfold asp__law_open at h
    split at h
    · rename_i d n
      obtain ⟨hd, h1, h2, h⟩ := h
      refine ⟨hd, h1, h2, fun t hc hz => ?_⟩
      refine ite2 (fun e => ?_) (fun e => ?_)
      · have e2 : (false ^^ !(Builtin.Str.occurrences (tx t) ("o" : Str) 0 (tx t).length 1).isEmpty) = true := e
        rw [Bool.false_xor, in_o] at e2
        exact ret_of (h t hc e2 hz)
      · have e2 : ¬ (false ^^ !(Builtin.Str.occurrences (tx t) ("o" : Str) 0 (tx t).length 1).isEmpty) = true := e
        rw [Bool.false_xor, in_o] at e2
        have hj : t.jts = 0 := by
          unfold opn at e2
          have := of_decide_eq_false (Bool.eq_false_iff.mpr e2)
          omega
        have hl := (codes_len t).1
        refine ⟨?_, t.fill, fill_tx hj, normOk_of (by rw [fill_size]; omega), ret_of (h t.fill.canon (canon_can _) ?_ ?_)⟩
        · have : (tx t).length = t.codes.length := rfl
          have e1 : ("o" : Str).length = 1 := by decide +kernel
          rw [this, e1]
          omega
        · unfold opn
          rw [canon_jts]
          exact decide_eq_true (fill_opn t)
        · rw [canon_size, fill_size]
          exact hz
    · exact h.elim
def asp__law_product : ASp
  | [.str a, .str b], L, Q, _ => ∃ t p : T, a = tx t ∧ b = tx p ∧ Can p ∧ t.size ≤ 60 ∧ p.size ≤ 60 ∧ Q (.str (tx (T.grf p t))) L
  | _, _, _, _ => False
theorem repS_len {t p : T} (h1 : t.size ≤ 60) (h2 : p.size ≤ 60) : (tx t).length + ((tx t).length + 1) * (tx p).length ≤ 16777216 := by
  have a := (codes_len t).1
  have b := (codes_len p).1
  have e1 : (tx t).length = t.codes.length := rfl
  have e2 : (tx p).length = p.codes.length := rfl
  rw [e1, e2]
  have : (t.codes.length + 1) * p.codes.length ≤ 121 * 120 := Nat.mul_le_mul (by omega) (by omega)
  omega
theorem okG__law_product (T : Txt K mg base) {scr : Option (Addr × List Int)} : GK.CallG P w K mg base (cA K scr) 77 "_law_product" ["_law_one", "_law_two"] asp__law_product := by
  refine T.d__law_product.okG sc__law_product ?len (fun f cdv A outer s H E hr => (GK.xss_one (GK.xs_ret (GK.x_callG (okG__law_norm T) (hr.mono (by decide)) (by rfl) (GK.xa_cons (GK.x_replCN (i := 1) T.nb (GK.xv 0) rfl rfl) GK.xa_nil))))) ?vc
  case len =>
    intro ds L R RX h
    unfold asp__law_product at h
    split at h <;> first | rfl | exact h.elim
  case vc =>
    intro ds L R RX h
    unfold asp__law_product at h
    split at h
    · rename_i a b
      obtain ⟨t, p, rfl, rfl, hp, h1, h2, h⟩ := h
      refine ⟨repS_len h1 h2, rgr p t, rgr_tx p t, normOk_rgr hp h1 h2, ret_of ?_⟩
      rw [rgr_canon hp]
      exact h
    · exact h.elim
def asp__law_composed : ASp
  | [.ref d, .int n], L, Q, _ => L d = some feedM ∧ 1 ≤ n ∧ n ≤ 60 ∧ ∀ t : T, Can t → opn t = true → t.size ≤ n → Q (.str (tx t)) L
  | _, _, _, _ => False
theorem opn_grf {p t : T} (h1 : opn p = true) (h2 : opn t = true) : opn (T.grf p t) = true := by
  unfold opn at *
  rw [grf_jts]
  exact decide_eq_true (Nat.mul_pos (of_decide_eq_true h2) (of_decide_eq_true h1))
theorem okG__law_composed (T : Txt K mg base) {scr : Option (Addr × List Int)} : GK.CallG P w K mg base (cA K scr) 79 "_law_composed" ["_law_feed_here", "_law_room"] asp__law_composed := by
  refine T.d__law_composed.okG sc__law_composed ?len (fun f cdv A outer s H E hr => (GK.xss_cons (GK.xs_via (GK.xs_set (i := 2) sc__law_composed.nd rfl rfl (GK.x_callG (okG__law_open T) (hr.mono (by decide)) (by rfl) (GK.xa_cons (GK.xv 0) (GK.xa_cons (GK.x_op GK.xo_add GK.x_int (GK.x_call (okA__law_draw T) quiet__law_draw (hr.mono (by decide)) (by rfl) (GK.xa_cons (GK.xv 0) (GK.xa_cons (GK.x_b (GK.xb_min rfl) (by rfl) T.n_min (by decide +kernel) (GK.xa_cons GK.x_int (GK.xa_cons (GK.xv 1) GK.xa_nil))) GK.xa_nil)))) GK.xa_nil)))))
      (GK.xss_cons (GK.xs_for (j := 3) PassesOwn.never (GK.xi_rng1 rfl (by rfl) T.n_range (GK.xa_cons (GK.x_call (okA__law_draw T) quiet__law_draw (hr.mono (by decide)) (by rfl) (GK.xa_cons (GK.xv 0) (GK.xa_cons GK.x_int GK.xa_nil))) GK.xa_nil)) sc__law_composed.nd rfl rfl
        (GK.xss_cons (GK.xs_set (i := 4) sc__law_composed.nd rfl rfl (GK.x_callG (okG__law_product T) (hr.mono (by decide)) (by rfl) (GK.xa_cons (GK.x_callG (okG__law_open T) (hr.mono (by decide)) (by rfl) (GK.xa_cons (GK.xv 0) (GK.xa_cons (GK.x_op GK.xo_add GK.x_int (GK.x_call (okA__law_draw T) quiet__law_draw (hr.mono (by decide)) (by rfl) (GK.xa_cons (GK.xv 0) (GK.xa_cons GK.x_int GK.xa_nil)))) GK.xa_nil))) (GK.xa_cons (GK.xv 2) GK.xa_nil))))
        (GK.xss_one (GK.xs_if (GK.xt_cmp GK.xo_le (GK.x_call (okA__law_size T) quiet__law_size (hr.mono (by decide)) (by rfl) (GK.xa_cons (GK.xv 4) GK.xa_nil)) (GK.xv 1) (nomark _))
          (GK.xss_one (GK.xs_set (i := 2) sc__law_composed.nd rfl rfl (GK.xv 4)))
          GK.xss_nil))))
      (GK.xss_one (GK.xs_ret (GK.xv 2)))))) ?vc
  case len =>
    intro ds L R RX h
    unfold asp__law_composed at h
    split at h <;> first | rfl | exact h.elim
  case vc =>
    intro ds L R RX h
    unfold asp__law_composed at h
    split at h
    · rename_i d n
      obtain ⟨hd, h1, h2, h⟩ := h
      have hm : 0 < (if n < 6 then n else 6) ∧ (if n < 6 then n else 6) ≤ 6 ∧ (if n < 6 then n else 6) ≤ n := by split <;> omega
      refine ⟨fun env L1 => L1 = L ∧ ∃ (t : JW.T) (x3 x4 : Option D), Can t ∧ opn t = true ∧ (t.size : Int) ≤ n ∧ env = [some (.ref d), some (.int n), some (.str (tx t)), x3, x4], ⟨hd, hm.1, by omega, fun x x0 x1 => ⟨hd, by omega, by omega, fun t a b c => ⟨rfl, t, none, none, a, b, by omega, rfl⟩⟩⟩, ?_⟩
      rintro _ L1 ⟨rfl, t, x3, x4, ht, ho, hz, rfl⟩
      refine ⟨hd, by decide, by decide, fun k k0 k1 => ⟨by omega, by omega, ?_⟩⟩
      refine loop_k _ (fun _ env L2 => L2 = L1 ∧ ∃ (t : JW.T) (x3 x4 : Option D), Can t ∧ opn t = true ∧ (t.size : Int) ≤ n ∧ env = [some (.ref d), some (.int n), some (.str (tx t)), x3, x4]) (fun _ _ _ _ _ => trivial) ?_ ?_ _ _ ⟨rfl, t, x3, x4, ht, ho, hz, rfl⟩
      · rintro i dd _ L2 nx _ hn ⟨rfl, t, x3, x4, ht, ho, hz, rfl⟩
        refine ⟨hd, by decide, by decide, fun x x0 x1 => ⟨hd, by omega, by omega, fun u a b c => ⟨u, t, rfl, rfl, ht, by omega, by omega, ⟨_, rfl, ite2 (fun e => ?_) (fun e => ?_)⟩⟩⟩⟩
        · exact hn _ _ ⟨rfl, _, _, _, grf_can ht u, opn_grf ho b, of_decide_eq_true e, rfl⟩
        · exact hn _ _ ⟨rfl, t, _, _, ht, ho, hz, rfl⟩
      · rintro _ _ ⟨rfl, t, x3, x4, ht, ho, hz, rfl⟩
        exact ret_of (h t ht ho hz)
    · exact h.elim
def asp__law_any : ASp
  | [.ref d, .int n], L, Q, _ => L d = some feedM ∧ 1 ≤ n ∧ n ≤ 60 ∧ ∀ t : T, Can t → t.size ≤ n → Q (.str (tx t)) L
  | _, _, _, _ => False
theorem okG__law_any (T : Txt K mg base) {scr : Option (Addr × List Int)} : GK.CallG P w K mg base (cA K scr) 81 "_law_any" ["_law_feed_here", "_law_room"] asp__law_any := by
  refine T.d__law_any.okG sc__law_any ?len (fun f cdv A outer s H E hr => (GK.xss_cons (GK.xs_if (GK.xt_cmp GK.xo_eq (GK.x_call (okA__law_draw T) quiet__law_draw (hr.mono (by decide)) (by rfl) (GK.xa_cons (GK.xv 0) (GK.xa_cons GK.x_int GK.xa_nil))) GK.x_int (nomark _))
        (GK.xss_one (GK.xs_ret (GK.x_callG (okG__law_composed T) (hr.mono (by decide)) (by rfl) (GK.xa_cons (GK.xv 0) (GK.xa_cons (GK.xv 1) GK.xa_nil)))))
        GK.xss_nil)
      (GK.xss_one (GK.xs_ret (GK.x_callG (okG__law_grown T) (hr.mono (by decide)) (by rfl) (GK.xa_cons (GK.xv 0) (GK.xa_cons (GK.x_op GK.xo_add GK.x_int (GK.x_call (okA__law_draw T) quiet__law_draw (hr.mono (by decide)) (by rfl) (GK.xa_cons (GK.xv 0) (GK.xa_cons (GK.xv 1) GK.xa_nil)))) GK.xa_nil))))))) ?vc
  case len =>
    intro ds L R RX h
    unfold asp__law_any at h
    split at h <;> first | rfl | exact h.elim
  case vc =>
    intro ds L R RX h
    unfold asp__law_any at h
    split at h
    · rename_i d n
      obtain ⟨hd, h1, h2, h⟩ := h
      refine ⟨hd, by decide, by decide, fun x x0 x1 => ite2 (fun _ => ?_) (fun _ => ?_)⟩
      · exact ⟨hd, h1, h2, fun t a _ c => ret_of (h t a c)⟩
      · exact ⟨hd, by omega, by omega, fun y y0 y1 => ⟨hd, by omega, by omega, fun t a c => ret_of (h t a (by omega))⟩⟩
    · exact h.elim
theorem slim__law_any : GK.Slim asp__law_any := by
  intro ds L R RX h
  unfold asp__law_any at h ⊢
  split at h
  · obtain ⟨h1, h2, h3, h⟩ := h
    refine ⟨⟨GK.hidS_of h1 (fun l z => nomatch z) (fun l z => nomatch z), h2, h3, fun t a b => ⟨rfl, h t a b⟩⟩, fun d hd z e => ?_⟩
    subst e
    simp at hd
  · exact h.elim
theorem okA__law_any (T : Txt K mg base) {scr : Option (Addr × List Int)} : CallD P w K mg base CX0 81 "_law_any" ["_law_feed_here", "_law_room"] [] (spA (cA K scr) asp__law_any) := (okG__law_any T).toD slim__law_any
theorem depDL_of {l : List D} {n : Nat} (h : ∀ x ∈ l, depD x ≤ n) : depDL l ≤ n := by
  induction l with
  | nil => exact Nat.zero_le _
  | cons x l ih =>
    show max (depD x) (depDL l) ≤ n
    have h1 := h x List.mem_cons_self
    have h2 := ih fun y hy => h y (List.mem_cons_of_mem _ hy)
    omega
theorem dep_memD {l : List D} {x : D} (h : x ∈ l) : depD x ≤ depDL l := by
  obtain ⟨i, hi, e⟩ := List.getElem_of_mem h
  exact depDL_get (i := i) (by rw [List.getElem?_eq_getElem hi, e])
theorem listD_of {x : D} {l : List D} {L : Store} {Q : AQ} (h : x = .tup l ∨ ∃ p, x = .ref p ∧ L p = some (.lst l)) (q : ∀ r, L r = none → Q (.ref r) (sput L r (.lst l))) : listD [x] L Q := by
  rcases h with e | ⟨p, e, hp⟩
  · subst e
    exact q
  · subst e
    exact ⟨l, hp, q⟩
def asp__law_mixed : ASp
  | [.ref d, x], L, Q, _ => L d = some feedM ∧ ∃ l : List D, (x = .tup l ∨ ∃ p, x = .ref p ∧ L p = some (.lst l)) ∧ l.length ≤ 1000 ∧ depDL l ≤ 70 ∧ ∀ (m : List D) r, m.Perm l → L r = none → Q (.ref r) (sput L r (.lst m))
  | _, _, _, _ => False
theorem okA__law_mixed  (T : Txt K mg base) {scr : Option (Addr × List Int)} : CallD P w K mg base CX0 76 "_law_mixed" ["_law_feed_here", "_law_items"] [] (spA (cA K scr) (asp__law_mixed)) := by
  refine T.d__law_mixed.okA sc__law_mixed ?len (fun f cdv A outer s H E hr => (as_cons (as_par (i := 2) (j := 3) (by rfl) sc__law_mixed.nd rfl rfl (by decide) rfl rfl (aa_cons (ae_ty acb_list (by rfl) T.n_list (by decide +kernel) (aa_cons (av 1) aa_nil)) (aa_cons (ae_lst aa_nil) aa_nil)) (by rfl))
      (as_cons (as_while PassesOwn.never (at_cmp (aop_neG T.cls (okF_eq T) (hr.mono (by decide)) hr.units) (av 2) (ae_lst aa_nil) (nomark _))
        (as_one (as_expr (ae_ml PySem.F.plainAttrs_list PySem.F.slot_list_append PySem.F.type_list_append mt_append low_append (av 3) (aa_cons (ae_ml PySem.F.plainAttrs_list PySem.F.slot_list_pop PySem.F.type_list_pop mt_popAt low_popAt (av 2) (aa_cons (ae_call (okA__law_draw T) (hr.mono (by decide)) (by rfl) (aa_cons (av 0) (aa_cons (ae_b acb_len (by rfl) T.n_len (by decide +kernel) (aa_cons (av 2) aa_nil)) aa_nil))) aa_nil)) aa_nil)))))
      (as_one (as_ret (av 3)))))) ?vc
  case len =>
    intro ds L R RX h
    unfold asp__law_mixed at h
    split at h <;> first | rfl | exact h.elim
  case vc =>
    intro ds L R RX h
    unfold asp__law_mixed at h
    split at h
    · rename_i d x
      obtain ⟨hd, l, hx, hz, hp, h⟩ := h
      have hsl := sizeLine_eq
      refine listD_of hx fun P hP => ⟨Nat.zero_le _, fun F hF => ?_⟩
      have hPF : P ≠ F := fun e => by rw [e, sput_same] at hF; cases hF
      have hF0 : L F = none := by
        rw [sput_ne (Ne.symm hPF)] at hF
        exact hF
      refine ⟨fun m env L1 => ∃ xs fs : List D, env = [some (.ref d), some x, some (.ref P), some (.ref F)] ∧ L1 P = some (.lst xs) ∧ L1 F = some (.lst fs) ∧ SubS L L1 ∧ (fs ++ xs).Perm l ∧ m = xs.length, ⟨_, l, [], rfl, sput_old sput_same hF, sput_same, ((SubS.refl L).new hP).new hF, List.Perm.refl _, rfl⟩, ?_⟩
      rintro m env L1 ⟨xs, fs, rfl, hP1, hF1, sb, pm, rfl⟩
      have hlen := pm.length_eq
      rw [List.length_append] at hlen
      have hdx : depDL xs ≤ 70 := depDL_of fun y hy => Nat.le_trans (dep_memD (pm.subset (List.mem_append_right _ hy))) hp
      refine ⟨Nat.zero_le _, fun r hr => ⟨_, _, sput_old hP1 hr, sput_same, eqSq_nil hdx (ite2 (fun e => ?_) (fun e => ?_))⟩⟩
      rotate_left
      · cases xs with
        | nil =>
          rw [List.append_nil] at pm
          refine ret_sub (h fs F pm hF0) (show SubS (sput L F (.lst fs)) (sput L1 r (.lst [])) from fun q n hq => ?_)
          by_cases e : q = F
          · rw [e] at hq ⊢
            rw [sput_same] at hq
            rw [sput_old hF1 hr, hq]
          · rw [sput_ne e] at hq
            exact (sb.new hr) _ _ hq
        | cons y ys => exact absurd rfl e
      have hP2 := sput_old (n := .lst []) hP1 hr
      have hF2 := sput_old (n := .lst []) hF1 hr
      have sb2 := sb.new (m := .lst []) hr
      generalize sput L1 r (.lst []) = L2 at hP2 hF2 sb2
      cases xs with
      | nil => cases e
      | cons y ys =>
        have hyl : (y :: ys).length = ys.length + 1 := rfl
        refine ⟨⟨F, _, rfl, hF2⟩, ⟨P, _, rfl, hP2⟩, _, hP2, sb2 _ _ hd, by omega, by omega, fun v v0 v1 => ?_⟩
        have hv : v.toNat < (y :: ys).length := by omega
        refine ⟨_, v.toNat, (y :: ys)[v.toNat], hP2, by omega, by omega, seqIndex_nat v0 v1, by simp [hv], _, by rw [sput_ne (Ne.symm hPF)]; exact hF2, by omega, ?_⟩
        refine ⟨_, ?_, (y :: ys).eraseIdx v.toNat, fs ++ [(y :: ys)[v.toNat]], rfl, by rw [sput_ne hPF, sput_same], sput_same, (sb2.put hP).put hF0, ?_, rfl⟩
        · rw [List.length_eraseIdx, if_pos hv]
          omega
        · refine List.Perm.trans ?_ pm
          rw [List.append_assoc]
          exact List.Perm.append_left fs (eraseIdx_perm hv)
    · exact h.elim
theorem dep_dtx0 (l : List T) : depDL (l.map dtx) ≤ 70 := by rw [depDL_map fun _ => rfl]; omega
theorem joinedU {l : List T} (h : sizeL l ≤ 5000) : ((l.map tx).map (·.length)).sum + (l.map tx).length * ("" : Str).length ≤ 16777216 := by
  have e : ("" : Str).length = 0 := rfl
  have h1 := codesL_len l
  rw [lens_tx, e]
  omega
theorem joinedUS {l : List T} (h : sizeL l ≤ 5000) : (Txt.join "" (l.map tx)).length ≤ 10000 := by
  have h1 := codesL_len l
  rw [join_tx, SX.S_len]
  omega
def ToldI (L0 : Store) (fd : Addr) (z : D) (st : List (List T)) (env : En) (L : Store) : Prop := ∃ P ps x2 x3, env = [some (.ref fd), some z, some (.ref P), x2, x3] ∧ L P = some (.lst (ps.map D.ref)) ∧ RowsAt L ps st ∧ P ∉ ps ∧ SubS L0 L ∧ ∀ p ∈ P :: ps, L0 p = none
def bTold : ATS :=
        (aIfS (aBl (aOp (eqG false) (aVar 3) (aC (D.str (Str.ofString "(")))))
          (aDrop (aMl appendD (aVar 2) (aCons (aLst aNil) aNil)))
          (aIfS (aBl (aOp (eqG false) (aVar 3) (aC (D.str (Str.ofString ")")))))
            (aSeq (aAsg (aMl popD (aVar 2) aNil) (agName 4))
              (aDrop
                (aMl appendD (aOp ixD (aVar 2) (aOp subD (aB lenD (aCons (aVar 2) aNil)) (aC (D.int 1))))
                  (aCons
                    (aOp addD
                      (aOp addD (aC (D.str (Str.ofString "(")))
                        (aMs joinD (aC (D.str (Str.ofString ""))) (aCons (aCall asp__law_mixed (aCons (aVar 0) (aCons (aVar 4) aNil))) aNil)))
                      (aC (D.str (Str.ofString ")"))))
                    aNil))))
            (aDrop
              (aMl appendD (aOp ixD (aVar 2) (aOp subD (aB lenD (aCons (aVar 2) aNil)) (aC (D.int 1))))
                (aCons (aVar 3) aNil)))))
section
variable {L0 : Store} {fd : Addr} {z : D} {N : AEnds}
abbrev lpTo (N : AEnds) : List D → En → Store → Prop := loopA (agName 3) bTold N yes
theorem told_open {s : Str} (es : s = ⟨#[40]⟩) {rest : List D} {st : List (List T)} {env : En} {L : Store} (hs : st.length < 1000) (h : ToldI L0 fd z st env L) (k : ∀ env L, ToldI L0 fd z (st ++ [[]]) env L → lpTo N rest env L) : lpTo N (.str s :: rest) env L := by
  obtain ⟨P, ps, x2, x3, rfl, hP, hR, hn, sb, h0⟩ := h
  have hsl := sizeLine_eq
  have hpl : ps.length < 1000 := by rw [hR.2.1]; exact hs
  refine ⟨trivial, ite_t (by rw [es]; rfl) ⟨⟨P, _, rfl, hP⟩, Nat.zero_le _, fun r hr => ⟨_, sput_old hP hr, by rw [List.length_map]; omega, ?_⟩⟩⟩
  have hrP : r ≠ P := fun e => by rw [e, hP] at hr; cases hr
  have hrp : r ∉ ps := fun hm => by
    obtain ⟨l, e⟩ := rows_some hR hm
    rw [e] at hr
    cases hr
  refine k _ _ ⟨P, ps ++ [r], _, x3, rfl, by rw [sput_same, List.map_append]; rfl, rows_push (rows_keep hR fun p hp => ?_) hrp ?_, ?_, (sb.new hr).put (h0 P List.mem_cons_self), fun p hp => ?_⟩
  · rw [sput_ne (nem hp hn), sput_ne (nem hp hrp)]
  · rw [sput_ne hrP, sput_same]
    rfl
  · intro hm
    rcases List.mem_append.mp hm with e | e
    · exact hn e
    · exact hrP (List.mem_singleton.mp e).symm
  · rcases List.mem_cons.mp hp with e | e
    · exact h0 p (by rw [e]; exact List.mem_cons_self)
    · rcases List.mem_append.mp e with e | e
      · exact h0 p (List.mem_cons_of_mem _ e)
      · rw [List.mem_singleton.mp e]
        exact sb.none hr
theorem told_jet {s : Str} (es : s = ⟨#[111]⟩) {rest : List D} {st : List (List T)} {l : List T} {env : En} {L : Store} (hl : l.length < 1000) (h : ToldI L0 fd z (st ++ [l]) env L) (k : ∀ env L, ToldI L0 fd z (st ++ [l ++ [.jet]]) env L → lpTo N rest env L) : lpTo N (.str s :: rest) env L := by
  obtain ⟨P, ps, x2, x3, rfl, hP, hR, hn, sb, h0⟩ := h
  have hsl := sizeLine_eq
  obtain ⟨qs, p, rfl, hR1, hp, hq⟩ := rows_top hR
  have hPp : p ≠ P := fun e => hn (by rw [← e]; simp)
  refine ⟨trivial, ite_f (by rw [es]; rfl) (ite_f (by rw [es]; rfl) ⟨_, hP, _, D.ref p, hP, ?_, ⟨p, _, rfl, hp⟩, _, hp, by rw [List.length_map]; omega, ?_⟩)⟩
  · rw [List.map_append]
    exact atI_last _ _
  refine k _ _ ⟨P, qs ++ [p], _, x3, rfl, by rw [sput_ne (Ne.symm hPp)]; exact hP, rows_push (rows_keep hR1 fun q hm => sput_ne (nem hm hq)) hq ?_, hn, sb.put (h0 p (by simp)), h0⟩
  rw [sput_same, List.map_append, es]
  rfl
theorem told_close {s : Str} (hfd : L0 fd = some feedM) (es : s = ⟨#[41]⟩) {rest : List D} {st : List (List T)} {l m : List T} {env : En} {L : Store} (hl : l.length < 1000) (hm : m.length ≤ 1000) (hz : sizeL m ≤ 5000) (h : ToldI L0 fd z (st ++ [l] ++ [m]) env L) (k : ∀ us : List T, us.Perm m → ∀ env L, ToldI L0 fd z (st ++ [l ++ [.bas us]]) env L → lpTo N rest env L) : lpTo N (.str s :: rest) env L := by
  obtain ⟨P, ps, x2, x3, rfl, hP, hR, hn, sb, h0⟩ := h
  have hsl := sizeLine_eq
  obtain ⟨qs, q, rfl, hR1, hq, hqn⟩ := rows_top hR
  obtain ⟨ps, p, rfl, hR2, hp, hpn⟩ := rows_top hR1
  have hPq : q ≠ P := fun e => hn (by rw [← e]; simp)
  have hPp : p ≠ P := fun e => hn (by rw [← e]; simp)
  have hpq : p ≠ q := fun e => hqn (by rw [← e]; simp)
  refine ⟨trivial, ite_f (by rw [es]; rfl) (ite_t (by rw [es]; rfl) ⟨⟨P, _, rfl, hP⟩, _, D.ref q, hP, ?_, ?_⟩)⟩
  · rw [List.map_append]
    exact last_get _ _
  have e2 : ((ps ++ [p] ++ [q]).map D.ref).dropLast = (ps ++ [p]).map D.ref := by rw [List.map_append]; exact List.dropLast_concat
  rw [e2]
  generalize hL2 : sput L P (.lst ((ps ++ [p]).map D.ref)) = L2
  have hP2 : L2 P = some (.lst ((ps ++ [p]).map D.ref)) := by rw [← hL2, sput_same]
  have hp2 : L2 p = some (.lst (l.map dtx)) := by rw [← hL2, sput_ne hPp]; exact hp
  have hq2 : L2 q = some (.lst (m.map dtx)) := by rw [← hL2, sput_ne hPq]; exact hq
  have hR3 : RowsAt L2 ps st := rows_keep hR2 fun a ha => by rw [← hL2, sput_ne (nem (List.mem_append_left _ (List.mem_append_left _ ha)) hn)]
  have sb2 : SubS L0 L2 := by rw [← hL2]; exact sb.put (h0 P List.mem_cons_self)
  refine ⟨_, hP2, _, D.ref p, hP2, ?_, ⟨p, _, rfl, hp2⟩, ⟨_, rfl⟩, sb2 _ _ hfd, m.map dtx, .inr ⟨q, rfl, hq2⟩, by rw [List.length_map]; exact hm, dep_dtx0 _, fun ys r py hr => ?_⟩
  · rw [List.map_append]
    exact atI_last _ _
  obtain ⟨us, pu, rfl⟩ := perm_mapD py rfl
  have hrp : p ≠ r := fun e => by rw [← e, hp2] at hr; cases hr
  have hrP : P ≠ r := fun e => by rw [← e, hP2] at hr; cases hr
  have hzu : sizeL us ≤ 5000 := by rw [sizeL_perm pu]; exact hz
  have hj := joinedUS hzu
  refine ⟨us.map tx, by rw [sput_same, dtx_map], joinedU hzu, ?_, ?_, _, by rw [sput_ne hrp]; exact hp2, by rw [List.length_map]; omega, ?_⟩
  · show 1 + _ ≤ sizeLine
    omega
  · rw [len_cat]
    show (1 + _) + 1 ≤ sizeLine
    omega
  rw [tx_bas]
  refine k us pu _ _ ⟨P, ps ++ [p], _, _, rfl, by rw [sput_ne (Ne.symm hPp), sput_ne hrP]; exact hP2, rows_push (rows_keep hR3 fun a ha => ?_) hpn ?_, ?_, (sb2.new hr).put (h0 p (by simp)), fun a ha => h0 a (List.mem_cons.mpr ((List.mem_cons.mp ha).imp id fun e => List.mem_append_left _ e))⟩
  · have ha2 : a ≠ r := fun e => by
      obtain ⟨w, e3⟩ := rows_some hR3 ha
      rw [← e, e3] at hr
      cases hr
    rw [sput_ne (nem ha hpn), sput_ne ha2]
  · rw [sput_same, List.map_append]
    rfl
  · intro e
    exact hn (List.mem_append_left _ e)
theorem told_tree (hfd : L0 fd = some feedM) : ∀ (t : T) (rest : List D) (st : List (List T)) (l : List T) env L, st.length + t.dep < 900 → l.length < 900 → t.size ≤ 900 → ToldI L0 fd z (st ++ [l]) env L → (∀ u : T, u.canon = t.canon → ∀ env L, ToldI L0 fd z (st ++ [l ++ [u]]) env L → lpTo N rest env L) → lpTo N (t.codes.map (fun c => D.str ⟨#[c]⟩) ++ rest) env L := by
  apply T.ind'
  · intro rest st l env L h1 h2 h3 h k
    exact told_jet rfl (by omega) h (k .jet rfl)
  · intro ts ih rest st l env L h1 h2 h3 h k
    have hts : (T.bas ts).size = 1 + sizeL ts := rfl
    have hdp : (T.bas ts).dep = 1 + depL ts := rfl
    have hln := length_le ts
    have hk : ∀ (us vs : List T) (rest : List D) env L, (∀ t ∈ us, t ∈ ts) → vs.length + us.length ≤ ts.length → ToldI L0 fd z (st ++ [l] ++ [vs]) env L → (∀ ws : List T, ws.map T.canon = us.map T.canon → ∀ env L, ToldI L0 fd z (st ++ [l] ++ [vs ++ ws]) env L → lpTo N rest env L) → lpTo N ((codesL us).map (fun c => D.str ⟨#[c]⟩) ++ rest) env L := by
      intro us
      induction us with
      | nil =>
        intro vs rest env L _ _ h k
        exact k [] rfl _ _ (by rw [List.append_nil]; exact h)
      | cons t us ih2 =>
        intro vs rest env L hm hz h k
        have ht := hm t List.mem_cons_self
        have hsz := size_mem ht
        have hdm := dep_mem ht
        rw [List.length_cons] at hz
        show lpTo N (List.map (fun c => D.str ⟨#[c]⟩) (t.codes ++ codesL us) ++ rest) env L
        rw [List.map_append, List.append_assoc]
        refine ih t ht _ (st ++ [l]) vs env L (by rw [List.length_append, List.length_singleton]; omega) (by omega) (by omega) h fun u hu env L h => ?_
        refine ih2 (vs ++ [u]) rest env L (fun u hu => hm u (List.mem_cons_of_mem _ hu)) (by rw [List.length_append, List.length_singleton]; omega) h fun ws hw env L h => k (u :: ws) (by rw [List.map_cons, List.map_cons, hu, hw]) env L ?_
        rw [List.append_assoc vs] at h
        exact h
    show lpTo N (List.map (fun c => D.str ⟨#[c]⟩) (40 :: (codesL ts ++ [41])) ++ rest) env L
    rw [List.map_cons, List.map_append, List.cons_append, List.append_assoc]
    refine told_open rfl (by rw [List.length_append, List.length_singleton]; omega) h fun env L h => ?_
    refine hk ts [] _ env L (fun t h => h) (by simp) h fun ws hw env L h => ?_
    rw [List.nil_append] at h
    have hwl : ws.length = ts.length := by
      have := congrArg List.length hw
      rw [List.length_map, List.length_map] at this
      exact this
    have hws : sizeL ws = sizeL ts := by rw [← sizeL_canon ws, hw, sizeL_canon ts]
    refine told_close hfd rfl (by omega) (by omega) (by omega) h fun us pu env L h => k (.bas us) ?_ env L h
    rw [canon_bas, canon_bas, sortT_congr (pu.map T.canon), hw]
end
def asp__law_told : ASp
  | [.ref d, .str z], L, Q, _ => L d = some feedM ∧ ∃ t : T, z = tx t ∧ t.size ≤ 900 ∧ t.dep < 800 ∧ ∀ u : T, u.canon = t.canon → Q (.str (tx u)) L
  | _, _, _, _ => False
theorem okA__law_told  (T : Txt K mg base) {scr : Option (Addr × List Int)} : CallD P w K mg base CX0 78 "_law_told" ["_law_feed_here", "_law_text"] [] (spA (cA K scr) (asp__law_told)) := by
  refine T.d__law_told.okA sc__law_told ?len (fun f cdv A outer s H E hr => (as_cons (as_set (i := 2) sc__law_told.nd rfl (by first | exact Or.inl rfl | exact Or.inr rfl) (ae_lst (aa_cons (ae_lst aa_nil) aa_nil)))
      (as_cons (as_for PassesOwn.never rfl (ai_str (av 1)) (ag_name (i := 3) sc__law_told.nd rfl (by first | exact Or.inl rfl | exact Or.inr rfl))
        (as_one (as_if (at_cmp (aop_eqG (okF_eq T) (hr.mono (by decide)) hr.units) (av 3) ae_str (nomark _))
          (as_one (as_expr (ae_ml PySem.F.plainAttrs_list PySem.F.slot_list_append PySem.F.type_list_append mt_append low_append (av 2) (aa_cons (ae_lst aa_nil) aa_nil))))
          (as_one (as_if (at_cmp (aop_eqG (okF_eq T) (hr.mono (by decide)) hr.units) (av 3) ae_str (nomark _))
            (as_cons (as_set (i := 4) sc__law_told.nd rfl (by first | exact Or.inl rfl | exact Or.inr rfl) (ae_ml0 PySem.F.plainAttrs_list PySem.F.slot_list_pop PySem.F.type_list_pop mt_pop low_pop (av 2)))
            (as_one (as_expr (ae_ml PySem.F.plainAttrs_list PySem.F.slot_list_append PySem.F.type_list_append mt_append low_append (ae_ix (av 2) (ae_op aop_sub (ae_b acb_len (by rfl) T.n_len (by decide +kernel) (aa_cons (av 2) aa_nil)) ae_int) (fun _ _ => rfl)) (aa_cons (ae_op aop_add (ae_op aop_add ae_str (ae_ms1 PySem.F.slot_str_join PySem.F.type_str_join mt_join low_join ae_str (ae_call (okA__law_mixed T) (hr.mono (by decide)) (by rfl) (aa_cons (av 0) (aa_cons (av 4) aa_nil))))) ae_str) aa_nil)))))
            (as_one (as_expr (ae_ml PySem.F.plainAttrs_list PySem.F.slot_list_append PySem.F.type_list_append mt_append low_append (ae_ix (av 2) (ae_op aop_sub (ae_b acb_len (by rfl) T.n_len (by decide +kernel) (aa_cons (av 2) aa_nil)) ae_int) (fun _ _ => rfl)) (aa_cons (av 3) aa_nil)))))))))
      (as_one (as_ret (ae_ix (ae_ix (av 2) ae_int (fun _ _ => rfl)) ae_int (fun _ _ => rfl))))))) ?vc
  case len =>
    intro ds L R RX h
    unfold asp__law_told at h
    split at h <;> first | rfl | exact h.elim
  case vc =>
    intro ds L R RX h
    unfold asp__law_told at h
    split at h
    · rename_i d z
      obtain ⟨hd, t, rfl, hz1, hz3, h⟩ := h
      refine ⟨Nat.zero_le _, fun r hr => ⟨by show (1 : Nat) ≤ sizeLine; decide, fun P hP0 => ?_⟩⟩
      have e : (tx t).cps.toList = t.codes := by unfold tx; rfl
      show loopA (agName 3) bTold _ yes ((tx t).cps.toList.map fun k => D.str ⟨#[k]⟩) _ _
      rw [e, ← List.append_nil (List.map _ _)]
      have hrP : r ≠ P := fun e => by rw [← e, sput_same] at hP0; cases hP0
      refine told_tree (L0 := L) (z := dtx t) hd t [] [] [] _ _ (by simp; omega) (by simp) hz1 ⟨P, [r], none, none, rfl, sput_same, ⟨by simp, rfl, fun i p l e1 e2 => ?_⟩, fun hm => hrP (List.mem_singleton.mp hm).symm, ((SubS.refl L).new hr).new hP0, fun p hp => ?_⟩ fun u hu env L2 h => ?_
      · rcases i with _ | i
        · cases e1
          cases e2
          rw [sput_ne hrP, sput_same]
          rfl
        · cases e1
      · rcases List.mem_cons.mp hp with e | e
        · rw [e]
          rw [sput_ne fun e => hrP e.symm] at hP0
          exact hP0
        · rw [List.mem_singleton.mp e]
          exact hr
      · obtain ⟨P2, ps, x2, x3, rfl, hP2, hR, hn, sb, h0⟩ := h
        obtain ⟨qs, q, rfl, hR1, hq, hqn⟩ := rows_top hR
        have eq : qs = [] := List.eq_nil_of_length_eq_zero hR1.2.1
        subst eq
        exact ⟨trivial, _, D.ref q, hP2, rfl, _, dtx u, hq, rfl, ret_sub (h u hu) sb⟩
    · exact h.elim
def sp__law_feed (K : PySem.W.Frag) : Sp := fun vs H Q _ => ∃ (a : Addr) (ns : List Int) (i : Nat), vs = [.ref a, .int i] ∧ SqL K H a (ns.map V.int) ∧ ns.length ≤ 63 ∧ i ≤ 10 ∧ ∀ H' d, Same H H' → H d = none → FeedAt H' d → Q (.ref d) H'
theorem ok__law_feed  (T : Txt K mg base) : CallD P w K mg base CX0 2 "_law_feed" ["_law_script", "_law_k"] [] (sp__law_feed K) := by
  refine T.d__law_feed.ok sc__law_feed (fun vs H Q E h => ?_) (fun f cdv A outer s H vs Q E hr h => ?_)
  · obtain ⟨a, ns, i, rfl, _⟩ := h
    rfl
  · obtain ⟨a, ns, i0, rfl, hS, hn, hi, k⟩ := h
    refine ⟨_, (pss_cons (ps_set (i := 2) sc__law_feed.nd rfl (by first | exact Or.inl rfl | exact Or.inr rfl) (pe_op op_add (pe_op op_mul pe_int (pv 1)) pe_int))
      (pss_cons (ps_via (ps_if (pt_cmpR op_lt (pv 1) (pe_callB call_len (by rfl) T.n_len (by decide +kernel) (pa_cons (pv 0) pa_nil)) (nomark _))
        (pss_one (ps_set (i := 2) sc__law_feed.nd rfl (by first | exact Or.inl rfl | exact Or.inr rfl) (pe_callB call_abs (by rfl) T.n_abs (by decide +kernel) (pa_cons (pe_ix ix_list (pv 0) (pv 1) (fun _ _ => rfl)) pa_nil))))
        (pss_one (ps_via (ps_if (pt_cmpR op_gt (pe_callB call_len (by rfl) T.n_len (by decide +kernel) (pa_cons (pv 0) pa_nil)) pe_int (nomark _))
          (pss_one (ps_set (i := 2) sc__law_feed.nd rfl (by first | exact Or.inl rfl | exact Or.inr rfl) (pe_op op_add (pv 2) (pe_op op_mul (pe_op op_mod (pe_callB call_abs (by rfl) T.n_abs (by decide +kernel) (pa_cons (pe_ix ix_list (pv 0) (pe_op op_mod (pv 1) (pe_callB call_len (by rfl) T.n_len (by decide +kernel) (pa_cons (pv 0) pa_nil))) (fun _ _ => rfl)) pa_nil)) pe_int) pe_int))))
          pss_nil)))))
      (pss_cons (ps_set (i := 3) sc__law_feed.nd rfl (by first | exact Or.inl rfl | exact Or.inr rfl) (pe_op op_add (pe_op op_mod (pe_op op_add (pe_op op_add (pe_op op_mul (pe_op op_mod (pv 2) pe_int) pe_int) (pe_op op_mul pe_int (pv 1))) pe_int) pe_int) pe_int))
      (pss_one (ps_ret (pe_disp (pps_cons pe_str (pe_ix ix_list (pe_lst (pa_cons pe_int (pa_cons (pv 2) pa_nil))) (pe_callTy call_int1 (by rfl) T.n_int (by decide +kernel) (pa_cons (pe_cmpR op_ge (pv 2) (pe_op op_pow pe_int pe_int) (nomark _)) pa_nil)) (fun _ _ => rfl)) (pps_cons pe_str (pv 3) (pps_cons pe_str pe_int pps_nil))) (by rfl) (by rfl) (fun z => by cases z) (by decide))))))), ?_⟩
    have hsl := sizeLine_eq
    have hat : ∀ j : Nat, j < ns.length → atI (ns.map V.int) (j : Nat) = some (.int (ns.getD j 0)) := fun j hj => atI_nat (by rw [List.getElem?_map, List.getElem?_eq_getElem hj, List.getD_eq_getElem?_getD, List.getElem?_eq_getElem hj]; rfl)
    have hml : (ns.map V.int).length = ns.length := List.length_map _
    refine ⟨_, rfl, _, _, rfl, rfl, .inl (by decide), _, _, rfl, rfl, fun σ' H' => ∃ c : Int, σ' = [some (.ref a), some (.int i0), some (.int c), none] ∧ H' = H, ?_, ?_⟩
    · refine ⟨_, rfl, .ref a, rfl, _, _, rfl, .inl ⟨_, hS, rfl⟩, _, _, rfl, rfl, _, rfl, ite2 (fun e => ?_) fun e => ?_⟩
      · have e1 := of_decide_eq_true e
        rw [hml] at e1
        exact ⟨.ref a, rfl, .int i0, rfl, a, _, _, _, rfl, rfl, hS, hat i0 (by omega), _, rfl, _, rfl, rfl⟩
      · refine ⟨fun σ' H' => ∃ c : Int, σ' = [some (.ref a), some (.int i0), some (.int c), none] ∧ H' = H, ⟨.ref a, rfl, _, _, rfl, .inl ⟨_, hS, rfl⟩, _, _, rfl, rfl, _, rfl, ite2 (fun e1 => ?_) fun e1 => ?_⟩, fun σ' H' z => z⟩
        · have e2 := of_decide_eq_true e1
          rw [hml] at e2
          have hm : ((i0 : Nat) : Int) % ((ns.map V.int).length : Nat) = ((i0 % ns.length : Nat) : Int) := by rw [hml]; rfl
          exact ⟨_, rfl, .ref a, rfl, .int i0, rfl, .ref a, rfl, _, _, rfl, .inl ⟨_, hS, rfl⟩, _, _, rfl, rfl, by rw [hml]; exact e2, a, _, _, _, rfl, rfl, hS, by rw [hm]; exact hat _ (Nat.mod_lt _ (by omega)), _, rfl, _, _, rfl, rfl, by show (0 : Int) < 2147483629; decide, _, _, rfl, rfl, .inr (by decide), _, _, rfl, rfl, _, rfl, rfl⟩
        · exact ⟨_, rfl, rfl⟩
    rintro σ' H' ⟨c, rfl, rfl⟩
    refine ⟨_, rfl, _, _, rfl, rfl, by show (0 : Int) < 2147483629; decide, _, _, rfl, rfl, .inr (by decide), _, rfl, _, _, rfl, rfl, .inl (by decide), _, _, rfl, rfl, _, _, rfl, rfl, _, _, rfl, rfl, by show (0 : Int) < 2147483629; decide, _, _, rfl, rfl, fun p hp => ?_⟩
    refine ⟨_, rfl, sz2, fun q hq => ⟨_, rfl, _, _, rfl, rfl, ⟨by decide, by decide, by decide⟩, _, _, rfl, rfl, .inr ⟨_, rfl, ?_⟩⟩⟩
    obtain ⟨v, hv⟩ : ∃ v : Int, atI [V.int 0, V.int c] (if decide ((10 : Int) ^ (18 : Int).toNat ≤ c) = true then 1 else 0) = some (.int v) := by
      split
      · exact ⟨c, rfl⟩
      · exact ⟨0, rfl⟩
    have npq : p ≠ q := ne_of_none upd_same hq
    refine ⟨q, _, _, _, rfl, rfl, SqL.of upd_same, hv, _, rfl, ?_, feedD v _ 0, rfl, by show 3 ≤ 15; decide, ?_⟩
    · rw [upd_ne npq, upd_same]
    rw [feed_made]
    refine k _ p ((((Same.refl H').new hp).new hq).mine hp) hp ⟨v, _, 0, upd_same⟩
def asp__law_feed : ASp
  | [.scr, .int i], L, Q, _ => 0 ≤ i ∧ i ≤ 10 ∧ ∀ d, L d = none → Q (.ref d) (sput L d feedM)
  | _, _, _, _ => False
theorem okA__law_feed (T : Txt K mg base) {scr : Option (Addr × List Int)} : CallD P w K mg base CX0 2 "_law_feed" ["_law_script", "_law_k"] [] (spA (cA K scr) asp__law_feed) :=
  (ok__law_feed T).imp fun vs H Q E ⟨ds, L, R, RX, r, g, h, pq, px⟩ => by
    unfold asp__law_feed at h
    split at h
    · rename_i i
      obtain ⟨h1, h2, h⟩ := h
      obtain ⟨v, w, rfl, r1, r2⟩ := repL_two r
      obtain ⟨a, ns, e1, rfl⟩ := rep_scr.mp r1
      cases rep_int.mp r2
      refine ⟨a, ns, i.toNat, by rw [Int.toNat_of_nonneg h1], g.seq e1, (g.scr a ns e1).1, by omega, fun H' d s' hd f' => ?_⟩
      exact pq _ _ _ H' (h d (g.fresh hd)) (.same s') (g.sameNew s' hd (feed_m f')) (rep_ref.mpr rfl)
    · exact h.elim

def sp_check_numbers (K : PySem.W.Frag) : Sp := fun vs H Q _ => ∃ n t, vs = [.ref n] ∧ H n = some (.tup (nums t)) ∧ t.size ≤ 5000 ∧ t.dep ≤ 120 ∧ Q .non H
theorem ok_check_numbers  (T : Txt K mg base) : CallD P w K mg base CX0 1 "check_numbers" ["numbers"] [] (sp_check_numbers K) := by
  refine T.d_check_numbers.ok sc_check_numbers (fun vs H Q E h => ?_) (fun f cdv A outer s H vs Q E hr h => ?_)
  · obtain ⟨n, t, rfl, _⟩ := h
    rfl
  · obtain ⟨n, t, rfl, hn, h1, h2, k⟩ := h
    refine ⟨_, (pss_cons (ps_if (pt_cmpR op_gt (pe_ix ix_tup (pv 0) pe_int (fun _ _ => rfl)) (pe_gint rfl T.gMOST) (nomark _))
        pss_never
        pss_nil)
      (pss_one (ps_if (pt_cmpR op_gt (pe_ix ix_tup (pv 0) pe_int (fun _ _ => rfl)) (pe_gint rfl T.gDEEPEST) (nomark _))
        pss_never
        pss_nil))), ?_⟩
    exact ⟨.ref n, rfl, n, _, _, _, rfl, rfl, SqT.of hn, rfl, _, _, rfl, rfl, _, rfl, ite_f (decide_eq_false (by omega)) ⟨.ref n, rfl, n, _, _, _, rfl, rfl, SqT.of hn, rfl, _, _, rfl, rfl, _, rfl, ite_f (decide_eq_false (by omega)) k⟩⟩
theorem ok_Fountain_size  (T : Txt K mg base) : PropD P w K mg base CX0 1 (cF K) "size" (spV K fun t => .int (t.size : Nat)) := by
  refine T.p_size.ok sc_Fountain_size (fun vs H Q E h => ?_) (fun f cdv A outer s H vs Q E hr h => ?_)
  · obtain ⟨v, t, rfl, _⟩ := h
    rfl
  · obtain ⟨v, t, rfl, hf, k⟩ := h
    obtain ⟨a, dx, b, n, vs, rfl, ha, hb, hn, hk⟩ := ftn_iff.mp hf
    refine ⟨_, (pss_one (ps_ret (pe_ix ix_tup (pe_fld (pv 0) rfl) pe_int (fun _ _ => rfl)))), ?_⟩
    exact ⟨.ref a, rfl, a, _, dx, _, _, rfl, ha, T.cls.c, T.cls.nn, fl_n, n, _, _, _, rfl, rfl, SqT.of hn, rfl, k⟩
theorem ok_Fountain_jets  (T : Txt K mg base) : PropD P w K mg base CX0 1 (cF K) "jets" (spV K fun t => .int (t.jts : Nat)) := by
  refine T.p_jets.ok sc_Fountain_jets (fun vs H Q E h => ?_) (fun f cdv A outer s H vs Q E hr h => ?_)
  · obtain ⟨v, t, rfl, _⟩ := h
    rfl
  · obtain ⟨v, t, rfl, hf, k⟩ := h
    obtain ⟨a, dx, b, n, vs, rfl, ha, hb, hn, hk⟩ := ftn_iff.mp hf
    refine ⟨_, (pss_one (ps_ret (pe_ix ix_tup (pe_fld (pv 0) rfl) pe_int (fun _ _ => rfl)))), ?_⟩
    exact ⟨.ref a, rfl, a, _, dx, _, _, rfl, ha, T.cls.c, T.cls.nn, fl_n, n, _, _, _, rfl, rfl, SqT.of hn, rfl, k⟩
theorem ok_Fountain_depth  (T : Txt K mg base) : PropD P w K mg base CX0 1 (cF K) "depth" (spV K fun t => .int (t.dep : Nat)) := by
  refine T.p_depth.ok sc_Fountain_depth (fun vs H Q E h => ?_) (fun f cdv A outer s H vs Q E hr h => ?_)
  · obtain ⟨v, t, rfl, _⟩ := h
    rfl
  · obtain ⟨v, t, rfl, hf, k⟩ := h
    obtain ⟨a, dx, b, n, vs, rfl, ha, hb, hn, hk⟩ := ftn_iff.mp hf
    refine ⟨_, (pss_one (ps_ret (pe_ix ix_tup (pe_fld (pv 0) rfl) pe_int (fun _ _ => rfl)))), ?_⟩
    exact ⟨.ref a, rfl, a, _, dx, _, _, rfl, ha, T.cls.c, T.cls.nn, fl_n, n, _, _, _, rfl, rfl, SqT.of hn, rfl, k⟩
theorem ok_Fountain_longest  (T : Txt K mg base) : PropD P w K mg base CX0 1 (cF K) "longest" (spV K fun t => if t.jts = 0 then .non else .int (t.lng : Nat)) := by
  refine T.p_longest.ok sc_Fountain_longest (fun vs H Q E h => ?_) (fun f cdv A outer s H vs Q E hr h => ?_)
  · obtain ⟨v, t, rfl, _⟩ := h
    rfl
  · obtain ⟨v, t, rfl, hf, k⟩ := h
    obtain ⟨a, dx, b, n, vs, rfl, ha, hb, hn, hk⟩ := ftn_iff.mp hf
    refine ⟨_, (pss_one (ps_ret (pe_ix ix_tup (pe_fld (pv 0) rfl) pe_int (fun _ _ => rfl)))), ?_⟩
    exact ⟨.ref a, rfl, a, _, dx, _, _, rfl, ha, T.cls.c, T.cls.nn, fl_n, n, _, _, _, rfl, rfl, SqT.of hn, rfl, k⟩
theorem ok_Fountain_shortest  (T : Txt K mg base) : PropD P w K mg base CX0 1 (cF K) "shortest" (spV K fun t => if t.jts = 0 then .non else .int (t.sht : Nat)) := by
  refine T.p_shortest.ok sc_Fountain_shortest (fun vs H Q E h => ?_) (fun f cdv A outer s H vs Q E hr h => ?_)
  · obtain ⟨v, t, rfl, _⟩ := h
    rfl
  · obtain ⟨v, t, rfl, hf, k⟩ := h
    obtain ⟨a, dx, b, n, vs, rfl, ha, hb, hn, hk⟩ := ftn_iff.mp hf
    refine ⟨_, (pss_one (ps_ret (pe_ix ix_tup (pe_fld (pv 0) rfl) pe_int (fun _ _ => rfl)))), ?_⟩
    exact ⟨.ref a, rfl, a, _, dx, _, _, rfl, ha, T.cls.c, T.cls.nn, fl_n, n, _, _, _, rfl, rfl, SqT.of hn, rfl, k⟩
theorem ok_Fountain_is_open  (T : Txt K mg base) : PropD P w K mg base CX0 1 (cF K) "is_open" (spV K fun t => .bl (decide (0 < t.jts))) := by
  refine T.p_is_open.ok sc_Fountain_is_open (fun vs H Q E h => ?_) (fun f cdv A outer s H vs Q E hr h => ?_)
  · obtain ⟨v, t, rfl, _⟩ := h
    rfl
  · obtain ⟨v, t, rfl, hf, k⟩ := h
    obtain ⟨a, dx, b, n, vs, rfl, ha, hb, hn, hk⟩ := ftn_iff.mp hf
    refine ⟨_, (pss_one (ps_ret (pe_cmpR op_gt (pe_ix ix_tup (pe_fld (pv 0) rfl) pe_int (fun _ _ => rfl)) pe_int (nomark _)))), ?_⟩
    refine ⟨.ref a, rfl, a, _, dx, _, _, rfl, ha, T.cls.c, T.cls.nn, fl_n, n, _, _, _, rfl, rfl, SqT.of hn, rfl, _, _, rfl, rfl, ?_⟩
    show Q (V.bl (decide ((0 : Int) < (t.jts : Nat)))) H
    rw [show decide ((0 : Int) < (t.jts : Nat)) = decide (0 < t.jts) from decide_eq_decide.mpr (by omega)]
    exact k
def sp_basin_numbers (K : PySem.W.Frag) : Sp := fun vs H Q _ => ∃ b xs l, vs = [.ref b] ∧ H b = some (.tup xs) ∧ FtnL (cF K) H l xs ∧ xs.length < sizeLine ∧ ∀ H' p, Same H H' → H' p = some (.tup (nums (.bas l))) → Q (.ref p) H'
theorem ok_basin_numbers  (T : Txt K mg base) : CallD P w K mg base CX0 3 "basin_numbers" ["branches"] [] (sp_basin_numbers K) := by
  refine T.d_basin_numbers.ok sc_basin_numbers (fun vs H Q E h => ?_) (fun f cdv A outer s H vs Q E hr h => ?_)
  · obtain ⟨b, xs, l, rfl, _⟩ := h
    rfl
  · obtain ⟨b, xs, l, rfl, hb, hl, hz, k⟩ := h
    refine ⟨_, (pss_cons (ps_set (i := 1) sc_basin_numbers.nd rfl (by first | exact Or.inl rfl | exact Or.inr rfl) (pe_op op_add pe_int (pe_callB (cr_sum rfl) (by rfl) T.n_sum (by decide +kernel) (pa_cons (pe_lc (own := [("branch", 6)]) (g := gName 6) (tt := tYes) (by rfl) sc_basin_numbers.nd (pi_tup (pv 0)) (blkOk_by (by kernel_rfl)) (fun _ _ _ _ _ => pg_name (i := 6) sc_basin_numbers.nd rfl (by first | exact Or.inl rfl | exact Or.inr rfl)) (fun _ _ _ _ _ => pts_nil) (fun _ _ _ _ _ => (pe_propD T.cls.c (ok_Fountain_size T) (hr.mono (by decide)) pass0 (pv 6) rfl))) pa_nil))))
      (pss_cons (ps_set (i := 2) sc_basin_numbers.nd rfl (by first | exact Or.inl rfl | exact Or.inr rfl) (pe_callB (cr_sum rfl) (by rfl) T.n_sum (by decide +kernel) (pa_cons (pe_lc (own := [("branch", 6)]) (g := gName 6) (tt := tYes) (by rfl) sc_basin_numbers.nd (pi_tup (pv 0)) (blkOk_by (by kernel_rfl)) (fun _ _ _ _ _ => pg_name (i := 6) sc_basin_numbers.nd rfl (by first | exact Or.inl rfl | exact Or.inr rfl)) (fun _ _ _ _ _ => pts_nil) (fun _ _ _ _ _ => (pe_propD T.cls.c (ok_Fountain_jets T) (hr.mono (by decide)) pass0 (pv 6) rfl))) pa_nil)))
      (pss_cons (ps_set (i := 3) sc_basin_numbers.nd rfl (by first | exact Or.inl rfl | exact Or.inr rfl) (pe_op op_add pe_int (pe_callBK (cr_maxDf rfl (hu_of hr)) (by rfl) T.n_max (by decide +kernel) (pa_cons (pe_lc (own := [("branch", 6)]) (g := gName 6) (tt := tYes) (by rfl) sc_basin_numbers.nd (pi_tup (pv 0)) (blkOk_by (by kernel_rfl)) (fun _ _ _ _ _ => pg_name (i := 6) sc_basin_numbers.nd rfl (by first | exact Or.inl rfl | exact Or.inr rfl)) (fun _ _ _ _ _ => pts_nil) (fun _ _ _ _ _ => (pe_propD T.cls.c (ok_Fountain_depth T) (hr.mono (by decide)) pass0 (pv 6) rfl))) pa_nil) (pk_cons pe_int pk_nil))))
      (pss_cons (ps_setLc (i := 4) (own := [("branch", 6)]) (g := gName 6) (by rfl) sc_basin_numbers.nd rfl rfl (sw_true rfl rfl rfl (by decide +kernel)) (pi_tup (pv 0)) (blkOk_by (by kernel_rfl)) (fun _ _ _ _ _ => pg_name (i := 6) sc_basin_numbers.nd rfl (by first | exact Or.inl rfl | exact Or.inr rfl)) (fun _ _ _ _ _ => pts_one (pt_val (pe_propD T.cls.c (ok_Fountain_is_open T) (hr.mono (by decide)) pass0 (pv 6) rfl))) (fun _ _ _ _ _ => (pv 6)))
      (pss_cons (ps_if (pt_cmpR op_eq (pe_callB call_len (by rfl) T.n_len (by decide +kernel) (pa_cons (pv 4) pa_nil)) pe_int (nomark _))
        (pss_one (ps_ret (pe_tup (pa_cons (pv 1) (pa_cons (pv 2) (pa_cons (pv 3) (pa_cons pe_non (pa_cons pe_non pa_nil))))))))
        pss_nil)
      (pss_cons (ps_set (i := 5) sc_basin_numbers.nd rfl (by first | exact Or.inl rfl | exact Or.inr rfl) (pe_op op_add pe_int (pe_callB (cr_max rfl) (by rfl) T.n_max (by decide +kernel) (pa_cons (pe_lc (own := [("branch", 6)]) (g := gName 6) (tt := tYes) (by rfl) sc_basin_numbers.nd (pi_list (pv 4)) (blkOk_by (by kernel_rfl)) (fun _ _ _ _ _ => pg_name (i := 6) sc_basin_numbers.nd rfl (by first | exact Or.inl rfl | exact Or.inr rfl)) (fun _ _ _ _ _ => pts_nil) (fun _ _ _ _ _ => (pe_propD T.cls.c (ok_Fountain_longest T) (hr.mono (by decide)) pass0 (pv 6) rfl))) pa_nil))))
      (pss_one (ps_ret (pe_tup (pa_cons (pv 1) (pa_cons (pv 2) (pa_cons (pv 3) (pa_cons (pv 5) (pa_cons (pe_op op_add pe_int (pe_callB (cr_min rfl) (by rfl) T.n_min (by decide +kernel) (pa_cons (pe_lc (own := [("branch", 6)]) (g := gName 6) (tt := tYes) (by rfl) sc_basin_numbers.nd (pi_list (pv 4)) (blkOk_by (by kernel_rfl)) (fun _ _ _ _ _ => pg_name (i := 6) sc_basin_numbers.nd rfl (by first | exact Or.inl rfl | exact Or.inr rfl)) (fun _ _ _ _ _ => pts_nil) (fun _ _ _ _ _ => (pe_propD T.cls.c (ok_Fountain_shortest T) (hr.mono (by decide)) pass0 (pv 6) rfl))) pa_nil))) pa_nil)))))))))))))), ?_⟩
    refine ⟨.ref b, rfl, b, rfl, ⟨xs, SqT.of hb⟩, fun D1 hD1 => lc_propT hD1 (SqT.of hb) hl hz (fun _ => rfl) (fun _ => rfl) fun H1 s1 e1 => ?_⟩
    refine ⟨D1, l.map fun t => (t.size : Int), rfl, SqL.of (by rw [e1, List.map_map]; rfl), _, _, rfl, rfl, ?_⟩
    have hb1 := s1 _ _ hb
    have hl1 := hl.same s1
    refine ⟨.ref b, rfl, b, rfl, ⟨xs, SqT.of hb1⟩, fun D2 hD2 => lc_propT hD2 (SqT.of hb1) hl1 hz (fun _ => rfl) (fun _ => rfl) fun H2 s2 e2 => ?_⟩
    refine ⟨D2, l.map fun t => (t.jts : Int), rfl, SqL.of (by rw [e2, List.map_map]; rfl), ?_⟩
    have hb2 := s2 _ _ hb1
    have hl2 := hl1.same s2
    refine ⟨.ref b, rfl, b, rfl, ⟨xs, SqT.of hb2⟩, fun D3 hD3 => lc_propT hD3 (SqT.of hb2) hl2 hz (fun _ => rfl) (fun _ => rfl) fun H3 s3 e3 => ?_⟩
    have hb3 := s3 _ _ hb2
    have hl3 := hl2.same s3
    refine ⟨D3, l.map fun t => (t.dep : Int), _, rfl, rfl, SqL.of (by rw [e3, List.map_map]; rfl), fun m hm => ?_⟩
    have em : m = (depL l : Nat) := by
      rcases hm with ⟨hn, e⟩ | ⟨n, r, hn, e⟩
      · rw [e]
        cases l with
        | nil => rfl
        | cons t q => cases hn
      · rw [e]
        exact dep_fold hn
    subst em
    refine ⟨_, _, rfl, rfl, ?_⟩
    refine ⟨.ref b, rfl, b, rfl, ⟨xs, SqT.of hb3⟩, fun D4 hD4 => lc_someT (bs := l.map opn) hD4 (SqT.of hb3) hz (by rw [List.length_map, hl.len]) (fun _ => rfl) (fun i x b H Q hx hb s q => ?_) (fun i x H Q hx s q => ⟨x, rfl, q H (Same.refl H)⟩) fun H4 s4 e4 => ?_⟩
    · obtain ⟨t, e1, e2⟩ := hl3.get hx
      rw [map_get e1 hb] at q
      exact ⟨x, rfl, ev_prop (e2.same s) ⟨_, rfl, q H (Same.refl H)⟩⟩
    have hl4 : FtnL (cF K) H4 (l.filter opn) _ := FtnL.filter (p := opn) (hl3.same s4)
    have hlen := hl4.len
    have hle : (l.filter opn).length ≤ l.length := List.length_filter_le _ _
    have hxl := hl.len
    have eS : (l.map fun t => (t.size : Int)).sum = (sizeL l : Nat) := by
      rw [sizeL_sum, ← nI_sum, List.map_map]
      rfl
    have eJ : (l.map fun t => (t.jts : Int)).sum = (jtsL l : Nat) := by
      rw [jtsL_sum, ← nI_sum, List.map_map]
      rfl
    have sAll : Same H H4 := (s1.trans s2).trans (s3.trans s4)
    refine ⟨.ref D4, rfl, .ref D4, _, rfl, .inl ⟨_, SqL.of e4, rfl⟩, rfl, _, rfl, ite2 (fun e => ?_) fun e => ?_⟩
    · have e0 : jtsL l = 0 := by
        refine jtsL_zero.mpr (List.eq_nil_of_length_eq_zero ?_)
        have := of_decide_eq_true e
        injection this with this
        omega
      refine ⟨_, rfl, _, rfl, _, rfl, sz5, fun p hp => ?_⟩
      refine k _ p (Same.new sAll hp) ?_
      rw [upd_same, eS, eJ, e0]
      show some (HO.tup [V.int (1 + (sizeL l : Nat)), V.int ((0 : Nat) : Int), V.int (1 + (depL l : Nat)), V.non, V.non]) = some (HO.tup [V.int ((1 + sizeL l : Nat) : Int), V.int (jtsL l : Nat), V.int ((1 + depL l : Nat) : Int), if jtsL l = 0 then V.non else V.int ((1 + lngL l : Nat) : Int), if jtsL l = 0 then V.non else V.int ((1 + shtL l : Nat) : Int)])
      rw [if_pos e0, if_pos e0, e0, Int.natCast_add, Int.natCast_add]
      rfl
    · have e0 : jtsL l ≠ 0 := fun z => by
        refine e (decide_eq_true ?_)
        rw [hlen, jtsL_zero.mp z]
        rfl
      have hne : (l.filter opn).length ≠ 0 := fun z => e0 (jtsL_zero.mpr (List.eq_nil_of_length_eq_zero z))
      have hz4 : (((xs.zip (l.map opn)).filter (·.2)).map (·.1)).length < sizeLine := by omega
      have hD4' : H4 D4 = some (HO.lst (((xs.zip (l.map opn)).filter (·.2)).map (·.1))) := e4
      refine ⟨.ref D4, rfl, D4, rfl, ⟨_, SqL.of hD4'⟩, fun D5 hD5 => lc_propL hD5 (SqL.of hD4') hl4 hz4 (fun _ => rfl) (fun _ => rfl) fun H5 s5 e5 => ?_⟩
      have eL : ∀ t ∈ l.filter opn, (if t.jts = 0 then V.non else V.int (t.lng : Nat)) = V.int (t.lng : Nat) ∧ (if t.jts = 0 then V.non else V.int (t.sht : Nat)) = V.int (t.sht : Nat) := fun t ht => by
        have h1 := (List.mem_filter.mp ht).2
        unfold opn at h1
        have h2 := of_decide_eq_true h1
        exact ⟨if_neg (by omega), if_neg (by omega)⟩
      refine ⟨D5, (l.filter opn).map fun t => (t.lng : Int), rfl, SqL.of (by rw [e5, List.map_map, List.map_congr_left fun t ht => (eL t ht).1]; rfl), by rw [List.length_map]; omega, fun m h1 h2 => ⟨_, _, rfl, rfl, ?_⟩⟩
      rw [lng_max e0 h1 h2]
      have hD5' := s5 _ _ hD4'
      refine ⟨_, rfl, _, rfl, _, rfl, _, rfl, .ref D4, rfl, D4, rfl, ⟨_, SqL.of hD5'⟩, fun D6 hD6 => lc_propL hD6 (SqL.of hD5') (hl4.same s5) hz4 (fun _ => rfl) (fun _ => rfl) fun H6 s6 e6 => ?_⟩
      refine ⟨D6, (l.filter opn).map fun t => (t.sht : Int), rfl, SqL.of (by rw [e6, List.map_map, List.map_congr_left fun t ht => (eL t ht).2]; rfl), by rw [List.length_map]; omega, fun m h1 h2 => ⟨_, _, rfl, rfl, ?_⟩⟩
      rw [sht_min e0 h1 h2]
      refine ⟨sz5, fun p hp => ?_⟩
      refine k _ p (Same.new (sAll.trans (s5.trans s6)) hp) ?_
      rw [upd_same, eS, eJ]
      show some (HO.tup [V.int (1 + (sizeL l : Nat)), V.int (jtsL l : Nat), V.int (1 + (depL l : Nat)), V.int (1 + (lngL l : Nat)), V.int (1 + (shtL l : Nat))]) = some (HO.tup [V.int ((1 + sizeL l : Nat) : Int), V.int (jtsL l : Nat), V.int ((1 + depL l : Nat) : Int), if jtsL l = 0 then V.non else V.int ((1 + lngL l : Nat) : Int), if jtsL l = 0 then V.non else V.int ((1 + shtL l : Nat) : Int)])
      rw [if_neg e0, if_neg e0, Int.natCast_add, Int.natCast_add, Int.natCast_add, Int.natCast_add]
      rfl
theorem ok_Fountain_text  (T : Txt K mg base) : PropD P w K mg base CX0 1 (cF K) "text" (spV K fun t => .str (tx t)) := by
  refine T.p_text.ok sc_Fountain_text (fun vs H Q E h => ?_) (fun f cdv A outer s H vs Q E hr h => ?_)
  · obtain ⟨v, t, rfl, _⟩ := h
    rfl
  · obtain ⟨v, t, rfl, hf, k⟩ := h
    obtain ⟨a, dx, b, n, vs, rfl, ha, hb, hn, hk⟩ := ftn_iff.mp hf
    refine ⟨_, (pss_one (ps_ret (pe_fld (pv 0) rfl))), ?_⟩
    exact ⟨.ref a, rfl, a, _, dx, _, _, rfl, ha, T.cls.c, T.cls.nw, fl_w, k⟩
def sp_init (K : PySem.W.Frag) : Sp := fun vs H Q _ => ∃ x dx t b xs H0, vs = [.ref x, .str (tx t), .ref b] ∧ H0 x = none ∧ Same H0 H ∧ H x = some (.ins (cF K) dx []) ∧ H0 b = some (.tup xs) ∧ FtnL (cF K) H0 t.kids xs ∧ xs.length < sizeLine ∧
  ∀ H', Same H0 H' → Ftn (cF K) H' t (.ref x) → Q .non H'
theorem ok_Fountain___init__  (T : Txt K mg base) : MakeD P w K mg base CX0 4 "Fountain" (cF K) ["self", "text", "branches"] [] (sp_init K) := by
  refine T.init.ok 1 (by decide) sc_Fountain___init__ (fun vs H Q E h => ?_) (fun f cdv A outer s H vs Q E hr h => ?_)
  · obtain ⟨x, dx, t, b, xs, H0, rfl, _⟩ := h
    rfl
  · obtain ⟨x, dx, t, b, xs, H0, rfl, hx0, s0, hx, hb, hk, hz, k⟩ := h
    refine ⟨_, (pss_cons (ps_set (i := 3) sc_Fountain___init__.nd rfl (by first | exact Or.inl rfl | exact Or.inr rfl) (pe_cmpR op_isN (pv 2) pe_non (nomark _)))
      (pss_cons (ps_if (pt_val (pv 3))
        pss_never
        pss_nil)
      (pss_cons (ps_fld (pv 0) (pv 1) (by rfl))
      (pss_cons (ps_fld (pv 0) (pv 2) (by rfl))
      (pss_cons (ps_fld (pv 0) (pe_via (pe_ifExp (pt_cmpR op_eq (pv 1) (pe_gstr rfl T.gJET_TEXT) (nomark _)) (pe_tup (pa_cons pe_int (pa_cons pe_int (pa_cons pe_int (pa_cons pe_int (pa_cons pe_int pa_nil)))))) (pe_callD (ok_basin_numbers T) (hr.mono (by decide)) (by rfl) pass0 (pa_cons (pv 2) pa_nil)))) (by rfl))
      (pss_one (ps_if (pt_val (pv 3))
        pss_never
        pss_nil))))))), ?_⟩
    have nx : ∀ {a : Addr} {o : HO}, H0 a = some o → a ≠ x := fun e => ne_of_none e hx0
    refine ⟨.ref b, rfl, rfl, _, rfl, _, rfl, ite_f (decide_eq_false (fun z => by cases z)) ⟨.str (tx t), rfl, .ref x, rfl, x, _, dx, _, rfl, hx, T.cls.c, T.cls.nw, by decide, .ref b, rfl, .ref x, rfl, x, _, dx, _, rfl, upd_same, T.cls.c, T.cls.nb, fl_l1,
      fun v H' => ∃ n, v = .ref n ∧ Same H0 H' ∧ H' x = some (.ins (cF K) dx (putF "branches" (.ref b) (putF "written" (.str (tx t)) []))) ∧ H' n = some (.tup (nums t)), ⟨_, rfl, rfl, _, rfl, ite2 (fun e => ?_) fun e => ?_⟩, fun v H' hv => ?_⟩⟩
    · have et : t = .jet := tx_inj ((V.str.inj (of_decide_eq_true e)).trans tx_jet.symm)
      subst et
      refine ⟨sz5, fun p hp => ⟨p, rfl, Same.new ?_ hp, ?_, ?_⟩⟩
      · exact fun a o e => by rw [upd_ne (nx e), upd_ne (nx e)]; exact s0 a o e
      · exact upd_old upd_same hp
      · rw [upd_same]
        rfl
    · cases t with
      | jet => exact absurd (decide_eq_true (by rw [tx_jet])) e
      | bas l =>
        have sH : ∀ o1 o2 : HO, Same H0 (upd (upd H x o1) x o2) := fun o1 o2 a o e => by rw [upd_ne (nx e), upd_ne (nx e)]; exact s0 a o e
        exact ⟨.ref b, rfl, b, xs, l, rfl, sH _ _ _ _ hb, FtnL.same hk (sH _ _), hz, fun H' p s e => ⟨p, rfl, (sH _ _).trans s, s _ _ upd_same, e⟩⟩
    · obtain ⟨n, rfl, s1, e1, e2⟩ := hv
      refine ⟨.ref x, rfl, x, _, dx, _, rfl, e1, T.cls.c, T.cls.nn, fl_l2, _, rfl, _, rfl, ite_f (decide_eq_false (fun z => by cases z)) (k _ ?_ ?_)⟩
      · exact fun a o e => by rw [upd_ne (nx e)]; exact s1 a o e
      · have sF : Same H0 (upd H' x (.ins (cF K) dx (putF "numbers" (.ref n) (putF "branches" (.ref b) (putF "written" (.str (tx t)) []))))) := fun a o e => by rw [upd_ne (nx e)]; exact s1 a o e
        have nn : n ≠ x := fun z => by
          subst z
          rw [e1] at e2
          cases e2
        exact ftn_iff.mpr ⟨x, dx, b, n, xs, rfl, by rw [upd_same, fl_put], sF _ _ hb, by rw [upd_ne nn]; exact e2, hk.same sF⟩
def sp_made (K : PySem.W.Frag) : Sp := fun vs H Q _ => ∃ v xs l, vs = [.ref v] ∧ Sq K H v xs ∧ FtnL (cF K) H l xs ∧ sizeL l ≤ 1048576 ∧ LamX.Tabs (TT K) H ∧ ∀ w H', LamX.ExtN H H' → LamX.Tabs (TT K) H' → Ftn (cF K) H' (.bas (sortT l)) w → Q w H'
theorem ok_made  (T : Txt K mg base) : CallD P w K mg base CX0 6 "made" ["branches"] [] (sp_made K) := by
  refine T.d_made.okC sc_made (fun vs H Q E h => ?_) (fun A outer s H vs Q E hr h => ?_)
  · obtain ⟨v, xs, l, rfl, _⟩ := h
    rfl
  · obtain ⟨v, xs, l, rfl, hq, hl, hsz, hT, k⟩ := h
    have hlen := hl.len
    have hll := length_le l
    have hzl : xs.length < sizeLine := by rw [sizeLine_eq]; omega
    refine ⟨_, (pss_cons (ps_set (i := 1) sc_made.nd rfl (by first | exact Or.inl rfl | exact Or.inr rfl) (pe_sortedKey (N := ["branch"]) (k := 2) (pv 0) (by rfl) T.n_sorted T.tb_made rfl tt_made (tu_made T) (hr.mono (by decide)) ⟨rfl, rfl, rfl, by decide +kernel, rfl, by decide +kernel, by decide +kernel⟩ (fun _ _ _ _ _ => rfl) (fun A outer s H f cd hr => (pe_propD T.cls.c (ok_Fountain_text T) (hr.mono (by decide)) pass0 (pv 0) rfl))))
      (pss_one (ps_ret (pe_makeD (ok_Fountain___init__ T) (hr.mono (by decide)) (by rfl) pass0 (pa_cons (pe_op op_add_str (pe_op op_add_str pe_str (pe_join pe_str (pe_lc (own := [("branch", 2)]) (g := gName 2) (tt := tYes) (by rfl) sc_made.nd (pi_list (pv 1)) (blkOk_by (by kernel_rfl)) (fun _ _ _ _ _ => pg_name (i := 2) sc_made.nd rfl (by first | exact Or.inl rfl | exact Or.inr rfl)) (fun _ _ _ _ _ => pts_nil) (fun _ _ _ _ _ => (pe_propD T.cls.c (ok_Fountain_text T) (hr.mono (by decide)) pass0 (pv 2) rfl))))) pe_str) (pa_cons (pe_callTy call_tuple_of (by rfl) T.n_tuple (by decide +kernel) (pa_cons (pv 1) pa_nil)) pa_nil)))))), ?_⟩
    refine ⟨.ref v, rfl, v, xs, l.map tx, rfl, hq, by rw [List.length_map, hlen], hT, fun H2 hE hT2 => ⟨fun H' => LamX.ExtN H2 H' ∧ LamX.Tabs (TT K) H', ⟨LamX.ExtN.refl H2, hT2⟩, fun H' z => z.1, fun i x z hx hz H' hR => ?_, fun D H' ys hR hD ky => ?_⟩⟩
    · obtain ⟨t, e1, e2⟩ := hl.get hx
      rw [map_get e1 hz]
      exact ⟨x, rfl, ev_prop (e2.ext (hE.trans hR.1)) ⟨rfl, hR⟩⟩
    have hlS : sizeL (sortT l) = sizeL l := sizeL_perm (sortT_perm l)
    have hl3 : FtnL (cF K) (upd H' D (.lst ys)) (sortT l) ys := (ftnL_sort (hl.ext (hE.trans hR.1)) ky).same (Same.new (Same.refl H') hD)
    have sD : Same H' (upd H' D (.lst ys)) := Same.new (Same.refl H') hD
    have eD : upd H' D (.lst ys) D = some (.lst ys) := upd_same
    generalize upd H' D (.lst ys) = H3 at hl3 sD eD ⊢
    have hz : ys.length < sizeLine := by
      rw [hl3.len, (sortT_perm l).length_eq]
      omega
    have hcl := codesL_len (sortT l)
    have hjl : (Txt.join "" ((sortT l).map tx)).length = (codesL (sortT l)).length := by rw [join_tx, SX.S_len]
    have hop : (("(" : Str)).length = 1 := by decide +kernel
    have hcp : ((")" : Str)).length = 1 := by decide +kernel
    have hem : (("" : Str)).length = 0 := by decide +kernel
    have hsl := sizeLine_eq
    refine ⟨⟨_, rfl⟩, .ref D, rfl, D, rfl, ⟨ys, SqL.of eD⟩, fun D2 hD2 => lc_propL hD2 (SqL.of eD) hl3 hz (fun _ => rfl) (fun _ => rfl) fun H4 s4 e4 => ⟨_, D2, (sortT l).map tx, rfl, rfl, .inl (SqL.of (by rw [e4, List.map_map]; rfl)), ?_, _, _, rfl, rfl, ?_, _, _, rfl, rfl, ?_, .ref D, rfl, D, ys, rfl, .inl ⟨SqL.of (s4 _ _ eD), fun p hp x dx hx hdx hne => ?_⟩⟩⟩
    · rw [lens_tx, hem]
      omega
    · rw [hop, hjl]
      omega
    · show (("(" : Str) ++ Txt.join "" ((sortT l).map tx)).length + ((")" : Str)).length ≤ sizeLine
      rw [join_tx, op_S, SX.S_cat, SX.S_len, hcp, List.length_append, List.length_singleton]
      omega
    have sP : Same H' (upd H4 p (.tup ys)) := Same.new (sD.trans s4) hp
    refine ⟨x, dx, .bas (sortT l), p, ys, upd H4 p (.tup ys), by rw [← tx_bas]; rfl, hx, Same.new (Same.new (Same.refl _) hdx) (by rw [upd_ne (Ne.symm hne)]; exact hx), upd_same, upd_same, FtnL.same (hl3.same s4) (Same.new (Same.refl H4) hp), hz, fun H5 s5 f5 => ⟨rfl, k _ H5 ?_ ?_ f5⟩⟩
    · exact (hE.trans hR.1).trans (.of (sP.trans s5))
    · exact LamX.Tabs.ext hR.2 (sP.trans s5)
def sp_parsed (K : PySem.W.Frag) : Sp := fun vs H Q _ => ∃ u : JW.T, vs = [.str (tx u)] ∧ u.size ≤ 500000 ∧ LamX.Tabs (TT K) H ∧ ∀ b xs H', LamX.ExtN H H' → LamX.Tabs (TT K) H' → H' b = some (.tup xs) → FtnL (cF K) H' u.canon.kids xs → Q (.ref b) H'
def PInv (K : PySem.W.Frag) (u : JW.T) (H : Hp) (i : Nat) (σ : L2.St) (H' : Hp) : Prop := ∃ D b qs st fd v4 v5 v6, σ = [some (.str (tx u)), some (.ref D), some (.ref b), some (.bl (Option.isSome fd)), v4, v5, v6] ∧ H D = none ∧ LamX.ExtN H H' ∧ LamX.Tabs (TT K) H' ∧ H' D = some (.lst (List.reverse qs)) ∧
  PendR (cF K) H' st qs ∧ (∃ xs, H' b = some (.tup xs) ∧ ∀ t, fd = some t → FtnL (cF K) H' (T.kids t) xs) ∧ prun (u.codes.drop i) (st, fd) = some ([], some u.canon) ∧ wtS (st, fd) ≤ i
theorem pinvA {K : PySem.W.Frag} {u : JW.T} {H H2 H3 : Hp} {i : Nat} {D a b q : Addr} {ws xs bx : List V} {p2 : List JW.T} {r2 : List (List JW.T)} {t : JW.T} {v : V} {v4 v5 v6 : Option V} (hD0 : H D = none) (hE : LamX.ExtN H H2) (hT : LamX.Tabs (TT K) H2) (s : Same H2 H3) (hD : H2 D = some (.lst (V.ref a :: ws).reverse))
    (hf : FtnL (cF K) H2 p2 xs) (hr : PendR (cF K) H2 r2 ws) (ht : Ftn (cF K) H2 t v) (hq : H3 q = some (.tup (xs ++ [v]))) (hb : H2 b = some (.tup bx)) (hrun : prun (u.codes.drop (i + 1)) ((p2 ++ [t]) :: r2, none) = some ([], some u.canon)) (hw : wtS ((p2 ++ [t]) :: r2, none) ≤ i + 1) :
    PInv K u H (i + 1) [some (.str (tx u)), some (.ref D), some (.ref b), some (.bl false), v4, v5, v6] (upd H3 D (.lst (V.ref q :: ws).reverse)) := by
  have hD3 := s _ _ hD
  have hT3 := Tabs.same hT s
  have nq : q ≠ D := ne_of hq hD3 fun z => by cases z
  have nb : b ≠ D := ne_of hb hD fun z => by cases z
  have hx : ExtD D H3 (upd H3 D (.lst (V.ref q :: ws).reverse)) := ExtD.put (ExtD.refl D H3)
  refine ⟨D, b, V.ref q :: ws, (p2 ++ [t]) :: r2, none, v4, v5, v6, rfl, hD0, fun c o e n => ?_, Tabs.put hT3 hD3, upd_same, ?_, ⟨bx, by rw [upd_ne nb]; exact s _ _ hb, fun t z => by cases z⟩, hrun, hw⟩
  · rw [upd_ne (ne_of_none e hD0)]
    exact s _ _ (hE _ _ e n)
  · exact ⟨q, xs ++ [v], ws, rfl, by rw [upd_ne nq]; exact hq, ftnL_extD hD3 hx _ _ ((hf.same s).app (FtnL.one (ht.same s))), PendR.extD hD3 hx (hr.ext (.of s))⟩
theorem pinvN {K : PySem.W.Frag} {u : JW.T} {H H2 H3 : Hp} {i : Nat} {D b q : Addr} {qs bx : List V} {st : List (List JW.T)} {v4 v5 v6 : Option V} (hD0 : H D = none) (hE : LamX.ExtN H H2) (hT : LamX.Tabs (TT K) H2) (s : Same H2 H3) (hD : H2 D = some (.lst qs.reverse))
    (hr : PendR (cF K) H2 st qs) (hq : H3 q = some (.tup [])) (hb : H2 b = some (.tup bx)) (hrun : prun (u.codes.drop (i + 1)) ([] :: st, none) = some ([], some u.canon)) (hw : wtS ([] :: st, none) ≤ i + 1) :
    PInv K u H (i + 1) [some (.str (tx u)), some (.ref D), some (.ref b), some (.bl false), v4, v5, v6] (upd H3 D (.lst (qs.reverse ++ [V.ref q]))) := by
  have hD3 := s _ _ hD
  have hT3 := Tabs.same hT s
  have nq : q ≠ D := ne_of hq hD3 fun z => by cases z
  have nb : b ≠ D := ne_of hb hD fun z => by cases z
  have hx : ExtD D H3 (upd H3 D (.lst (qs.reverse ++ [V.ref q]))) := ExtD.put (ExtD.refl D H3)
  refine ⟨D, b, V.ref q :: qs, [] :: st, none, v4, v5, v6, rfl, hD0, fun c o e n => ?_, Tabs.put hT3 hD3, by rw [upd_same, List.reverse_cons], ?_, ⟨bx, by rw [upd_ne nb]; exact s _ _ hb, fun t z => by cases z⟩, hrun, hw⟩
  · rw [upd_ne (ne_of_none e hD0)]
    exact s _ _ (hE _ _ e n)
  · exact ⟨q, [], qs, rfl, by rw [upd_ne nq]; exact hq, rfl, PendR.extD hD3 hx (hr.ext (.of s))⟩
theorem ok_parsed  (T : Txt K mg base) : CallD P w K mg base CX0 7 "parsed" ["text"] [] (sp_parsed K) := by
  refine T.d_parsed.ok sc_parsed (fun vs H Q E h => ?_) (fun f cdv A outer s H vs Q E hr h => ?_)
  · obtain ⟨u, rfl, _⟩ := h
    rfl
  · obtain ⟨u, rfl, hsz, hT, k⟩ := h
    have hcl := (codes_len u).1
    have hsl := sizeLine_eq
    have hcz : (tx u).cps.size = u.codes.length := by
      show (u.codes.toArray).size = _
      rw [List.size_toArray]
    refine ⟨_, (pss_cons (ps_set (i := 1) sc_parsed.nd rfl (by first | exact Or.inl rfl | exact Or.inr rfl) (pe_lst pa_nil))
      (pss_cons (ps_asg (pe_tup (pa_cons (pe_tup pa_nil) (pa_cons pe_bl pa_nil))) (pg_tup rfl (pgs_cons (pg_name (i := 2) sc_parsed.nd rfl (by first | exact Or.inl rfl | exact Or.inr rfl)) (pgs_cons (pg_name (i := 3) sc_parsed.nd rfl (by first | exact Or.inl rfl | exact Or.inr rfl)) pgs_nil))))
      (pss_cons (ps_for PassesOwn.never rfl (pi_enumS (by rfl) T.n_enumerate (pa_cons (pv 0) pa_nil)) (pg_tup rfl (pgs_cons (pg_name (i := 4) sc_parsed.nd rfl (by first | exact Or.inl rfl | exact Or.inr rfl)) (pgs_cons (pg_name (i := 5) sc_parsed.nd rfl (by first | exact Or.inl rfl | exact Or.inr rfl)) pgs_nil)))
        (pss_cons (ps_if (PW.pt (pw_or (pt_val (pv 3)) (pw_or (pt_cmpR op_notin_str (pv 5) pe_str (by rfl)) (pw_or1 (PW.pt (pw_and (pt_cmpR op_eq (pv 5) pe_str (nomark _)) (pw_and1 (pt_cmpR op_eq (pe_callB call_len (by rfl) T.n_len (by decide +kernel) (pa_cons (pv 1) pa_nil)) pe_int (nomark _)))))))))
          pss_never
          pss_nil)
        (pss_one (ps_via (ps_if (pt_cmpR op_eq (pv 5) pe_str (nomark _))
          (pss_one (ps_expr (pe_bm PySem.F.plainAttrs_list PySem.F.slot_list_append PySem.F.type_list_append mt_append (pv 1) (pa_cons (pe_tup pa_nil) pa_nil))))
          (pss_cons (ps_set (i := 6) sc_parsed.nd rfl (by first | exact Or.inl rfl | exact Or.inr rfl) (pe_via (pe_ifExp (pt_cmpR op_eq (pv 5) (pe_gstr rfl T.gJET_TEXT) (nomark _)) (pe_makeD (ok_Fountain___init__ T) (hr.mono (by decide)) (by rfl) pass0 (pa_cons (pe_gstr rfl T.gJET_TEXT) (pa_cons (pe_tup pa_nil) pa_nil))) (pe_callD (ok_made T) (hr.mono (by decide)) (by rfl) pass0 (pa_cons (pe_bm0 PySem.F.plainAttrs_list PySem.F.slot_list_pop PySem.F.type_list_pop mt_pop (pv 1)) pa_nil)))))
          (pss_one (ps_via (ps_if (pt_cmpR op_gt (pe_callB call_len (by rfl) T.n_len (by decide +kernel) (pa_cons (pv 1) pa_nil)) pe_int (nomark _))
            (pss_one (ps_asg (pe_op op_catA (pe_ix ix_list (pv 1) (pe_un un_neg pe_int) (fun _ _ => rfl)) (pe_tup (pa_cons (pv 6) pa_nil))) (pg_sub (pv 1) (pe_un un_neg pe_int) set_list)))
            (pss_one (ps_par (i := 2) (j := 3) (by rfl) sc_parsed.nd rfl rfl (by decide) rfl rfl (pa_cons (pe_propD T.cls.c (ok_Fountain_parts T) (hr.mono (by decide)) pass0 (pv 6) rfl) (pa_cons pe_bl pa_nil)) (by rfl))))))))))))
      (pss_cons (ps_if (pt_not (pt_val (pv 3)))
        pss_never
        pss_nil)
      (pss_one (ps_ret (pv 2))))))), ?_⟩
    refine ⟨by decide, fun D hD => ⟨by decide, fun b hb => ⟨sz2, fun p hp => ⟨p, _, rfl, SqT.of upd_same, rfl, _, _, rfl, _, _, rfl, rfl, .str (tx u), rfl, _, rfl, ?_⟩⟩⟩⟩
    refine for_enumS (PInv K u H) ?_ (fun i c σ H' Tp hc hP hTp => ?_) fun σ H' hP => ?_
    · have s3 : Same H (upd (upd (upd H D (.lst [])) b (.tup [])) p (.tup [.ref b, .bl false])) := Same.new (Same.new (Same.new (Same.refl H) hD) hb) hp
      exact ⟨D, b, [], [], none, none, none, none, rfl, hD, .of s3, Tabs.same hT s3, upd_old (upd_old upd_same hb) hp, rfl, ⟨[], upd_old upd_same hp, fun t z => by cases z⟩, prun_all u, Nat.le_refl _⟩
    · obtain ⟨D, b, qs, st, fd, v4, v5, v6, rfl, hD0, hE, hT', hDq, hp', ⟨bx, hbx, hfd⟩, hrun, hwt⟩ := hP
      have hc' : u.codes[i]? = some c := by
        have : (u.codes.toArray)[i]? = some c := hc
        rw [List.getElem?_toArray] at this
        exact this
      have hi : i < u.codes.length := (List.getElem?_eq_some_iff.mp hc').1
      obtain ⟨⟨st', fd'⟩, hst, hrun'⟩ := prun_step hc' hrun
      have hwt2 : wtS (st', fd') ≤ i + 1 := Nat.le_trans (pstep_wt hst) (Nat.succ_le_succ hwt)
      have hql := hp'.len
      have hsl2 := wtL_len st
      have hwl : wtL st ≤ i := Nat.le_trans (Nat.le_add_right _ _) hwt
      obtain ⟨rfl, hcs⟩ := pstep_cases hst
      have sT : Same H' (upd H' Tp (.tup [.int (i : Nat), .str ⟨#[c]⟩])) := Same.new (Same.refl H') hTp
      generalize hH1 : upd H' Tp (.tup [.int (i : Nat), .str ⟨#[c]⟩]) = H1 at sT ⊢
      have eT : H1 Tp = some (.tup [.int (i : Nat), .str ⟨#[c]⟩]) := by rw [← hH1, upd_same]
      have hE1 : LamX.ExtN H H1 := hE.trans (.of sT)
      have hT1 := Tabs.same hT' sT
      have hD1 := sT _ _ hDq
      have hp1 : PendR (cF K) H1 st qs := hp'.ext (.of sT)
      have hb1 := sT _ _ hbx
      refine ⟨Tp, _, rfl, SqT.of eT, rfl, _, _, rfl, _, _, rfl, rfl, .bl false, rfl, _, rfl, ite_f rfl ⟨.str ⟨#[c]⟩, rfl, _, _, rfl, rfl, _, rfl, ite_f ?_ ⟨.str ⟨#[c]⟩, rfl, rfl, _, rfl, ite2 (fun e => ?_) fun e => ite_f rfl ?_⟩⟩⟩
      · rcases hcs with ⟨rfl, _⟩ | ⟨rfl, _⟩ | ⟨rfl, _⟩ <;> decide +kernel
      · -- a closing sign: something is open
        have ec : c = 41 := by
          rcases hcs with ⟨rfl, _⟩ | ⟨rfl, _⟩ | ⟨rfl, _⟩
          · exact absurd e (by decide +kernel)
          · exact absurd e (by decide +kernel)
          · rfl
        subst ec
        rcases hcs with ⟨z, _⟩ | ⟨z, _⟩ | ⟨_, pp, r, rfl, hs'⟩
        · cases z
        · cases z
        have hql2 : qs.reverse.length = r.length + 1 := by rw [List.length_reverse, hql]; rfl
        refine ⟨.ref D, rfl, .ref D, _, rfl, .inl ⟨_, SqL.of hD1, rfl⟩, rfl, _, rfl, ite_f (decide_eq_false fun z => ?_) ⟨PInv K u H (i + 1), ⟨.str ⟨#[41]⟩, rfl, rfl, _, rfl, ite_f (by decide +kernel) ?_⟩, fun _ _ z => z⟩⟩
        · have z2 := V.int.inj z
          omega
        -- the piece is made
        obtain ⟨a, xs, ws, rfl, ha, hfp, hpr⟩ := (show ∃ a xs ws, qs = .ref a :: ws ∧ H1 a = some (.tup xs) ∧ FtnL (cF K) H1 pp xs ∧ PendR (cF K) H1 r ws from hp1)
        have hx : ExtD D H1 (upd H1 D (.lst ws.reverse)) := ExtD.put (ExtD.refl D H1)
        have hwp : sizeL pp ≤ i := by
          have : 1 + sizeL pp + wtL r ≤ i := hwl
          omega
        refine ⟨fun v H2 => H2 D = some (.lst ws.reverse) ∧ PendR (cF K) H2 r ws ∧ Ftn (cF K) H2 (.bas (sortT pp)) v ∧ LamX.ExtN H H2 ∧ LamX.Tabs (TT K) H2 ∧ H2 b = some (.tup bx), ⟨.str ⟨#[41]⟩, rfl, rfl, _, rfl, ite_f (by decide +kernel) ⟨.ref D, rfl, tyL hD1, D, _, .ref a, rfl, rfl, hD1, sq_last _ _, ?_⟩⟩, fun v H2 ⟨hD2, hp2, hv, hE2, hT2, hb2⟩ => ?_⟩
        · rw [sq_butlast]
          refine ⟨a, xs, pp, rfl, .inr (SqT.of (by rw [upd_ne (ne_of ha hD1 fun z => by cases z)]; exact ha)), ftnL_extD hD1 hx _ _ hfp, by omega, Tabs.put hT1 hD1, fun w H' e1 e2 e3 => ⟨e1 _ _ upd_same (fun ps z => by cases z), (PendR.extD hD1 hx hpr).ext e1, e3, fun c o ec n => e1 _ _ (by rw [upd_ne (ne_of_none ec hD0)]; exact hE1 _ _ ec n) n, e2, e1 _ _ (by rw [upd_ne (ne_of hb1 hD1 fun z => by cases z)]; exact hb1) (fun ps z => by cases z)⟩⟩
        · have hl2 := hp2.len
          refine ⟨PInv K u H (i + 1), ⟨.ref D, rfl, .ref D, _, rfl, .inl ⟨_, SqL.of hD2, rfl⟩, _, _, rfl, rfl, _, rfl, ite2 (fun e => ?_) fun e => ?_⟩, fun _ _ z => z⟩
          · cases r with
            | nil =>
              rw [List.length_reverse, hl2] at e
              exact absurd (of_decide_eq_true e) (by show ¬ ((0 : Int) < ((0 : Nat) : Int)); decide)
            | cons p2 r2 =>
              obtain ⟨a2, ys, ws2, rfl, ha2, hf2, hr2⟩ := (show ∃ a xs zs, ws = .ref a :: zs ∧ H2 a = some (.tup xs) ∧ FtnL (cF K) H2 p2 xs ∧ PendR (cF K) H2 r2 zs from hp2)
              have hs2 : st' = (p2 ++ [.bas (sortT pp)]) :: r2 ∧ fd' = none := by
                have e3 : (st', fd') = ((p2 ++ [.bas (sortT pp)]) :: r2, none) := hs'
                exact Prod.mk.inj e3
              obtain ⟨rfl, rfl⟩ := hs2
              have hyl : ys.length + 1 ≤ sizeLine := by
                have h1 := hf2.len
                have h2 := length_le p2
                have h3 : 1 + sizeL (p2 ++ [.bas (sortT pp)]) + wtL r2 + 0 ≤ i + 1 := hwt2
                rw [sizeL_app] at h3
                omega
              refine ⟨.ref D, rfl, 1, rfl, D, _, _, _, rfl, rfl, SqL.of hD2, at_last _ _, v, rfl, sz1, fun q hq => ⟨a2, q, ys, [v], rfl, rfl, SqT.of (upd_old ha2 hq), SqT.of upd_same, hyl, fun hy => ⟨.ref D, rfl, 1, rfl, D, _, _, _, rfl, rfl, upd_old hD2 hq, ix_last (by simp), ?_⟩, fun _ z => absurd z (by simp), fun _ _ q2 hq2 => ⟨.ref D, rfl, 1, rfl, D, _, _, _, rfl, rfl, upd_old (upd_old hD2 hq) hq2, ix_last (by simp), ?_⟩⟩⟩
              · subst hy
                rw [set_last]
                exact pinvA hD0 hE2 hT2 (Same.new (Same.refl H2) hq) hD2 hf2 hr2 hv (by rw [upd_same]; rfl) hb2 hrun' hwt2
              · rw [set_last]
                exact pinvA hD0 hE2 hT2 (Same.new (Same.new (Same.refl H2) hq) hq2) hD2 hf2 hr2 hv upd_same hb2 hrun' hwt2
          · cases r with
            | cons p2 r2 =>
              refine absurd (decide_eq_true ?_) e
              rw [List.length_reverse, hl2]
              show (0 : Int) < ((r2.length + 1 : Nat) : Int)
              omega
            | nil =>
              have hs2 : st' = [] ∧ fd' = some (.bas (sortT pp)) := Prod.mk.inj hs'
              obtain ⟨rfl, rfl⟩ := hs2
              refine ⟨v, rfl, ev_kids hv fun b' xs' hb' hk' => ⟨_, _, rfl, ?_⟩⟩
              exact ⟨D, b', ws, [], some (.bas (sortT pp)), _, _, _, rfl, hD0, hE2, hT2, hD2, hp2, ⟨xs', hb', fun t' z => by cases z; exact hk'⟩, hrun', hwt2⟩
      · -- no closing sign
        rcases hcs with ⟨rfl, hs'⟩ | ⟨rfl, hs'⟩ | ⟨rfl, _⟩
        · obtain ⟨rfl, rfl⟩ := Prod.mk.inj hs'
          refine ⟨PInv K u H (i + 1), ⟨.str ⟨#[40]⟩, rfl, rfl, _, rfl, ite_t (by decide +kernel) ⟨.ref D, rfl, tyL hD1, by decide, fun q hq => ⟨D, _, .ref q, rfl, rfl, upd_old hD1 hq, ?_, ?_⟩⟩⟩, fun _ _ z => z⟩
          · rw [List.length_reverse]
            omega
          · exact pinvN hD0 hE1 hT1 (Same.new (Same.refl H1) hq) hD1 hp1 upd_same hb1 hrun' hwt2
        · generalize hr0 : st = r at *
          generalize hq0 : qs = ws at *
          refine ⟨PInv K u H (i + 1), ⟨.str ⟨#[111]⟩, rfl, rfl, _, rfl, ite_f (by decide +kernel) ?_⟩, fun _ _ z => z⟩
          refine ⟨fun v H2 => H2 D = some (.lst ws.reverse) ∧ PendR (cF K) H2 r ws ∧ Ftn (cF K) H2 .jet v ∧ LamX.ExtN H H2 ∧ LamX.Tabs (TT K) H2 ∧ H2 b = some (.tup bx), ⟨.str ⟨#[111]⟩, rfl, rfl, _, rfl, ite_t (by decide +kernel) ⟨by decide, fun q hq x dx hx hdx hne => ?_⟩⟩, fun v H2 ⟨hD2, hp2, hv, hE2, hT2, hb2⟩ => ?_⟩
          · have sQ : Same H1 (upd H1 q (.tup [])) := Same.new (Same.refl H1) hq
            refine ⟨x, dx, .jet, q, [], upd H1 q (.tup []), by rw [tx_jet]; rfl, hx, Same.new (Same.new (Same.refl _) hdx) (by rw [upd_ne (Ne.symm hne)]; exact hx), upd_same, upd_same, rfl, by show 0 < sizeLine; omega, fun H5 s5 f5 => ⟨rfl, ?_⟩⟩
            have s6 : Same H1 H5 := sQ.trans s5
            exact ⟨s6 _ _ hD1, hp1.ext (.of s6), f5, hE1.trans (.of s6), Tabs.same hT1 s6, s6 _ _ hb1⟩
          · have hl2 := hp2.len
            refine ⟨PInv K u H (i + 1), ⟨.ref D, rfl, .ref D, _, rfl, .inl ⟨_, SqL.of hD2, rfl⟩, _, _, rfl, rfl, _, rfl, ite2 (fun e => ?_) fun e => ?_⟩, fun _ _ z => z⟩
            · cases r with
              | nil =>
                rw [List.length_reverse, hl2] at e
                exact absurd (of_decide_eq_true e) (by show ¬ ((0 : Int) < ((0 : Nat) : Int)); decide)
              | cons p2 r2 =>
                obtain ⟨a2, ys, ws2, rfl, ha2, hf2, hr2⟩ := (show ∃ a xs zs, ws = .ref a :: zs ∧ H2 a = some (.tup xs) ∧ FtnL (cF K) H2 p2 xs ∧ PendR (cF K) H2 r2 zs from hp2)
                have hs2 : st' = (p2 ++ [.jet]) :: r2 ∧ fd' = none := by
                  have e3 : (st', fd') = ((p2 ++ [.jet]) :: r2, none) := hs'
                  exact Prod.mk.inj e3
                obtain ⟨rfl, rfl⟩ := hs2
                have hyl : ys.length + 1 ≤ sizeLine := by
                  have h1 := hf2.len
                  have h2 := length_le p2
                  have h3 : 1 + sizeL (p2 ++ [.jet]) + wtL r2 + 0 ≤ i + 1 := hwt2
                  rw [sizeL_app] at h3
                  omega
                refine ⟨.ref D, rfl, 1, rfl, D, _, _, _, rfl, rfl, SqL.of hD2, at_last _ _, v, rfl, sz1, fun q hq => ⟨a2, q, ys, [v], rfl, rfl, SqT.of (upd_old ha2 hq), SqT.of upd_same, hyl, fun hy => ⟨.ref D, rfl, 1, rfl, D, _, _, _, rfl, rfl, upd_old hD2 hq, ix_last (by simp), ?_⟩, fun _ z => absurd z (by simp), fun _ _ q2 hq2 => ⟨.ref D, rfl, 1, rfl, D, _, _, _, rfl, rfl, upd_old (upd_old hD2 hq) hq2, ix_last (by simp), ?_⟩⟩⟩
                · subst hy
                  rw [set_last]
                  exact pinvA hD0 hE2 hT2 (Same.new (Same.refl H2) hq) hD2 hf2 hr2 hv (by rw [upd_same]; rfl) hb2 hrun' hwt2
                · rw [set_last]
                  exact pinvA hD0 hE2 hT2 (Same.new (Same.new (Same.refl H2) hq) hq2) hD2 hf2 hr2 hv upd_same hb2 hrun' hwt2
            · cases r with
              | cons p2 r2 =>
                refine absurd (decide_eq_true ?_) e
                rw [List.length_reverse, hl2]
                show (0 : Int) < ((r2.length + 1 : Nat) : Int)
                omega
              | nil =>
                have hs2 : st' = [] ∧ fd' = some (.jet) := Prod.mk.inj hs'
                obtain ⟨rfl, rfl⟩ := hs2
                refine ⟨v, rfl, ev_kids hv fun b' xs' hb' hk' => ⟨_, _, rfl, ?_⟩⟩
                exact ⟨D, b', ws, [], some (.jet), _, _, _, rfl, hD0, hE2, hT2, hD2, hp2, ⟨xs', hb', fun t' z => by cases z; exact hk'⟩, hrun', hwt2⟩
        · exact absurd (by decide +kernel) e
    · obtain ⟨D, b, qs, st, fd, v4, v5, v6, rfl, hD0, hE, hT', hDq, hp', ⟨bx, hbx, hfd⟩, hrun, hwt⟩ := hP
      rw [hcz, List.drop_length] at hrun
      have e : (st, fd) = ([], some u.canon) := Option.some.inj hrun
      obtain ⟨rfl, rfl⟩ := Prod.mk.inj e
      exact ⟨.bl true, rfl, true, rfl, ite_f rfl ⟨.ref b, rfl, k b bx H' hE hT' hbx (hfd _ rfl)⟩⟩
def sp_init_read (K : PySem.W.Frag) : Sp := fun vs H Q _ => ∃ x dx u H0, vs = [.ref x, .str (tx u), .non] ∧ u.size ≤ 5000 ∧ u.dep ≤ 120 ∧ H0 x = none ∧ Same H0 H ∧ H x = some (.ins (cF K) dx []) ∧ LamX.Tabs (TT K) H ∧
  ∀ H', LamX.ExtN H0 H' → LamX.Tabs (TT K) H' → Ftn (cF K) H' u.canon (.ref x) → Q .non H'
theorem ok_Fountain___init___read  (T : Txt K mg base) : MakeD P w K mg base CX0 8 "Fountain" (cF K) ["self", "text", "branches"] [.non] (sp_init_read K) := by
  refine T.init.ok 0 (by decide) sc_Fountain___init__ (fun vs H Q E h => ?_) (fun f cdv A outer s H vs Q E hr h => ?_)
  · obtain ⟨x, dx, u, H0, rfl, _⟩ := h
    rfl
  · obtain ⟨x, dx, u, H0, rfl, h5, h12, hx0, s0, hx, hT, k⟩ := h
    have hcs := canon_size u
    have hcd := canon_dep u
    have hks := kids_size u.canon
    have hcc := canon_can u
    have nx : ∀ {a : Addr} {o : HO}, H0 a = some o → a ≠ x := fun e => ne_of_none e hx0
    refine ⟨_, (pss_cons (ps_set (i := 3) sc_Fountain___init__.nd rfl (by first | exact Or.inl rfl | exact Or.inr rfl) (pe_cmpR op_isN (pv 2) pe_non (nomark _)))
      (pss_cons (ps_via (ps_if (pt_val (pv 3))
        (pss_cons (ps_set (i := 2) sc_Fountain___init__.nd rfl (by first | exact Or.inl rfl | exact Or.inr rfl) (pe_callD (ok_parsed T) (hr.mono (by decide)) (by rfl) pass0 (pa_cons (pv 1) pa_nil)))
        (pss_one (ps_set (i := 1) sc_Fountain___init__.nd rfl (by first | exact Or.inl rfl | exact Or.inr rfl) (pe_via (pe_ifExp (pt_cmpR op_eq (pv 1) (pe_gstr rfl T.gJET_TEXT) (nomark _)) (pe_gstr rfl T.gJET_TEXT) (pe_propD T.cls.c (ok_Fountain_text T) (hr.mono (by decide)) pass0 (pe_callD (ok_made T) (hr.mono (by decide)) (by rfl) pass0 (pa_cons (pv 2) pa_nil)) rfl))))))
        pss_nil))
      (pss_cons (ps_fld (pv 0) (pv 1) (by rfl))
      (pss_cons (ps_fld (pv 0) (pv 2) (by rfl))
      (pss_cons (ps_fld (pv 0) (pe_via (pe_ifExp (pt_cmpR op_eq (pv 1) (pe_gstr rfl T.gJET_TEXT) (nomark _)) (pe_tup (pa_cons pe_int (pa_cons pe_int (pa_cons pe_int (pa_cons pe_int (pa_cons pe_int pa_nil)))))) (pe_callD (ok_basin_numbers T) (hr.mono (by decide)) (by rfl) pass0 (pa_cons (pv 2) pa_nil)))) (by rfl))
      (pss_one (ps_via (ps_if (pt_val (pv 3))
        (pss_one (ps_expr (pe_callD (ok_check_numbers T) (hr.mono (by decide)) (by rfl) pass0 (pa_cons (pe_fld (pv 0) rfl) pa_nil))))
        pss_nil)))))))), ?_⟩
    refine ⟨.non, rfl, rfl, fun σ' H1 => ∃ b xs, σ' = [some (.ref x), some (.str (tx u.canon)), some (.ref b), some (.bl true)] ∧ LamX.ExtN H H1 ∧ LamX.Tabs (TT K) H1 ∧ H1 x = some (.ins (cF K) dx []) ∧ H1 b = some (.tup xs) ∧ FtnL (cF K) H1 u.canon.kids xs,
      ⟨_, rfl, _, rfl, ite_t rfl ⟨.str (tx u), rfl, u, rfl, by omega, hT, fun b xs H1 hE hT1 hb hk => ?_⟩⟩, fun σ' H1 hR => ?_⟩
    · refine ⟨fun v H2 => v = .str (tx u.canon) ∧ LamX.ExtN H1 H2 ∧ LamX.Tabs (TT K) H2, ⟨.str (tx u), rfl, rfl, _, rfl, ite2 (fun e => ?_) fun e => ?_⟩, fun v H2 ⟨ev, e2, hT2⟩ => ?_⟩
      · have et : u = .jet := tx_inj ((V.str.inj (of_decide_eq_true e)).trans tx_jet.symm)
        subst et
        exact ⟨by rw [← tx_jet]; rfl, LamX.ExtN.refl _, hT1⟩
      · refine ⟨.ref b, rfl, b, xs, u.canon.kids, rfl, .inr (SqT.of hb), hk, by omega, hT1, fun w H2 e1 e2 e3 => ev_prop e3 ⟨?_, e1, e2⟩⟩
        cases u with
        | jet => exact absurd (decide_eq_true (by rw [tx_jet])) e
        | bas l =>
          have ec : (JW.T.bas l).canon = .bas (sortT (l.map JW.T.canon)) := canon_bas l
          rw [ec]
          show V.str (tx (.bas (sortT (sortT (l.map JW.T.canon))))) = _
          rw [sortT_of (sortT_srt _)]
      · subst ev
        exact ⟨b, xs, rfl, hE.trans e2, hT2, e2 _ _ (hE _ _ hx fun ps z => by cases z) (fun ps z => by cases z), e2 _ _ hb (fun ps z => by cases z), hk.ext e2⟩
    obtain ⟨b, xs, rfl, hE1, hT1, hx1, hb1, hk1⟩ := hR
    have nbx : b ≠ x := ne_of hb1 hx1 fun z => by cases z
    have hl1 := hk1.len
    have hll := length_le u.canon.kids
    have hsl := sizeLine_eq
    have hD2 : ∀ o1 o2 : HO, ExtD x H1 (upd (upd H1 x o1) x o2) := fun o1 o2 => ExtD.put (ExtD.put (ExtD.refl x H1))
    have tT2 : ∀ (d1 d2 : Addr) (f1 f2 : List (Str × V)), LamX.Tabs (TT K) (upd (upd H1 x (.ins (cF K) d1 f1)) x (.ins (cF K) d2 f2)) := fun d1 d2 f1 f2 => Tabs.putI (Tabs.putI hT1 hx1) upd_same
    refine ⟨.str (tx u.canon), rfl, .ref x, rfl, x, _, dx, _, rfl, hx1, T.cls.c, T.cls.nw, by decide, .ref b, rfl, .ref x, rfl, x, _, dx, _, rfl, upd_same, T.cls.c, T.cls.nb, fl_l1,
      fun v H' => ∃ n, v = .ref n ∧ ExtD x H1 H' ∧ LamX.Tabs (TT K) H' ∧ H' x = some (.ins (cF K) dx (putF "branches" (.ref b) (putF "written" (.str (tx u.canon)) []))) ∧ H' n = some (.tup (nums u.canon)), ⟨_, rfl, rfl, _, rfl, ite2 (fun e => ?_) fun e => ?_⟩, fun v H' hv => ?_⟩
    · have et : u.canon = .jet := tx_inj ((V.str.inj (of_decide_eq_true e)).trans tx_jet.symm)
      refine ⟨sz5, fun p hp => ⟨p, rfl, ExtD.trans (hD2 _ _) (.of (.of (Same.new (Same.refl _) hp))), Tabs.same (tT2 _ _ _ _) (Same.new (Same.refl _) hp), upd_old upd_same hp, ?_⟩⟩
      rw [upd_same, et]
      rfl
    · cases hu : u.canon with
      | jet => exact absurd (decide_eq_true (by rw [hu, tx_jet])) e
      | bas l =>
        rw [hu] at hk1 hl1 hll hks hcs
        refine ⟨.ref b, rfl, b, xs, l, rfl, hD2 _ _ _ _ nbx hb1 (fun ps z => by cases z), ftnL_extX hx1 (by decide) (hD2 _ _) _ _ hk1, ?_, fun H' p s e => ⟨p, rfl, ExtD.trans (hD2 _ _) (.of (.of s)), Tabs.same (tT2 _ _ _ _) s, s _ _ upd_same, e⟩⟩
        have h1 : xs.length = l.length := hl1
        have h2 : l.length ≤ sizeL l := hll
        have h3 : sizeL l ≤ (JW.T.bas l).size := hks
        omega
    · obtain ⟨n, rfl, eD, tT, e1, e2⟩ := hv
      have nn : n ≠ x := ne_of e2 e1 fun z => by cases z
      refine ⟨.ref x, rfl, x, _, dx, _, rfl, e1, T.cls.c, T.cls.nn, fl_l2, fun _ HF => HF = upd H' x (.ins (cF K) dx (putF "numbers" (.ref n) (putF "branches" (.ref b) (putF "written" (.str (tx u.canon)) [])))), ⟨.bl true, rfl, _, rfl, ite_t rfl ⟨.ref x, rfl, x, _, dx, _, _, rfl, upd_same, T.cls.c, T.cls.nn, by rw [fl_put]; exact fl_n, n, u.canon, rfl, by rw [upd_ne nn]; exact e2, by omega, by omega, rfl⟩⟩, fun _ HF eF => ?_⟩
      subst eF
      refine k _ (fun a o e nt => ?_) (Tabs.putI tT e1) (ftn_iff.mpr ⟨x, dx, b, n, xs, rfl, by rw [upd_same, fl_put], ?_, by rw [upd_ne nn]; exact e2, ftnL_extX hx1 (by decide) (ExtD.put eD) _ _ hk1⟩)
      · rw [upd_ne (nx e)]
        exact eD _ _ (nx e) (hE1 _ _ (s0 _ _ e) nt) nt
      · rw [upd_ne nbx]
        exact eD _ _ nbx hb1 (fun ps z => by cases z)
def aspRead : ASp
  | [.str z], L, Q, _ => ∃ u : T, z = tx u ∧ u.size ≤ 5000 ∧ u.dep ≤ 120 ∧ Q (.tree u.canon) L
  | _, _, _, _ => False
theorem mkA_read {K : PySem.W.Frag} {scr : Option (Addr × List Int)} : ∀ ds vs H L R Q, RepL (cA K scr) H ds vs → Good (cA K scr) L H → aspRead ds L R anyX → Pq (cA K scr) H R Q → ∀ x dx, H x = none → H dx = none → dx ≠ x →
    sp_init_read K (.ref x :: (vs ++ [.non])) (upd (upd H dx (.own x)) x (.ins (cF K) dx [])) (fun v H2 => v = .non ∧ Q (.ref x) H2) (fun _ _ _ => True) := fun ds vs H L R Q r g h pq x dx hx hdx ne => by
  unfold aspRead at h
  split at h
  · obtain ⟨u, rfl, h1, h2, h⟩ := h
    obtain ⟨v, rfl, r1⟩ := repL_one r
    cases rep_str.mp r1
    have s : Same H (upd (upd H dx (.own x)) x (.ins (cF K) dx [])) := Same.new (Same.new (Same.refl H) hdx) (by rw [upd_ne (Ne.symm ne)]; exact hx)
    exact ⟨x, dx, u, H, rfl, h1, h2, hx, s, upd_same, Tabs.same g.tabs s, fun H' e' T' hf => ⟨rfl, pq _ _ _ H' h (.extN e') (g.extN T' e') (rep_tree.mpr hf)⟩⟩
  · exact h.elim

def kdD (q : Addr × Int) : D := .tup [.ref q.1, .int q.2]
def FdsOk (K : PySem.W.Frag) (L : Store) (f : Int) (qs : List (Addr × Int)) : Prop := ∀ q ∈ qs, ∃ d, L q.1 = some (FdO K (.int q.2) d) ∧ JnOk K L d f
theorem FdsOk.sub {K : PySem.W.Frag} {L L' : Store} {f : Int} {qs : List (Addr × Int)} (h : FdsOk K L f qs) (s : SubS L L') : FdsOk K L' f qs := fun q hq => by
  obtain ⟨d, h1, h2⟩ := h q hq
  exact ⟨d, s _ _ h1, h2.sub s⟩
theorem exTx {P : JW.T → Prop} : ∀ {xs : List D}, (∀ x ∈ xs, ∃ t, x = .str (tx t) ∧ P t) → ∃ ts : List JW.T, xs = ts.map dtx ∧ ∀ t ∈ ts, P t
  | [], _ => ⟨[], rfl, fun t h => absurd h List.not_mem_nil⟩
  | x :: xs, h => by
    obtain ⟨t, e, p⟩ := h x List.mem_cons_self
    obtain ⟨ts, e2, p2⟩ := exTx fun y hy => h y (List.mem_cons_of_mem _ hy)
    refine ⟨t :: ts, by rw [e, e2]; rfl, fun u hu => ?_⟩
    rcases List.mem_cons.mp hu with rfl | hu
    · exact p
    · exact p2 u hu
def sp_law (K : PySem.W.Frag) : Sp := fun vs H Q _ => ∃ (a : Addr) (ns : List Int), vs = [.ref a] ∧ SqL K H a (ns.map V.int) ∧ ns.length ≤ 63 ∧ LamX.Tabs (TT K) H ∧ ∀ H', Q (.bl true) H'
theorem fn_law (T : Txt K mg base) {f : Addr} {fd : FuncData} (F : FunD K "law" "law" (defArgs s_law) (defBody s_law) (defScope s_law) [] [] f fd) : FnOk P w K mg base CX0 215 f fd ["_law_script"] (sp_law K) := by
  refine okF F sc_law (fun vs H Q E h => ?_) (fun cdv A outer s H vs Q E hr h => ?_)
  · obtain ⟨a, ns, rfl, _⟩ := h
    rfl
  · obtain ⟨a, ns, rfl, hS, hlen, hT, k⟩ := h
    have hb : ASs (cxOf CX0 P w K mg base ["_law_script", "_law_k", "_law_feed_here", "_law_form", "_law_jet", "_law_kept", "_law_turn", "_law_other", "_law_texts", "_law_fountains", "_law_number", "_law_index", "_law_fold", "_law_value_here", "_law_more", "_law_text"] "law" (defScope s_law) f cdv A outer s H E).nox (cA K (some (a, ns))) H (defBody s_law) _ := (as_cons (as_for PassesOwn.never rfl (ai_rng1 (by rfl) T.n_range (aa_cons (ae_b (acb_max rfl) (by rfl) T.n_max (by decide +kernel) (aa_cons ae_int (aa_cons (ae_b (acb_min rfl) (by rfl) T.n_min (by decide +kernel) (aa_cons ae_int (aa_cons (ae_b acb_len (by rfl) T.n_len (by decide +kernel) (aa_cons (av 0) aa_nil)) aa_nil))) aa_nil))) aa_nil)) (ag_name (i := 1) sc_law.nd rfl (by first | exact Or.inl rfl | exact Or.inr rfl))
        (as_cons (as_set (i := 2) sc_law.nd rfl (by first | exact Or.inl rfl | exact Or.inr rfl) (ae_call (okA__law_feed T) (hr.mono (by decide)) (by rfl) (aa_cons (av 0) (aa_cons (av 1) aa_nil))))
        (as_cons (as_par (i := 3) (j := 4) (by rfl) sc_law.nd rfl rfl (by decide) rfl rfl (aa_cons (ae_call (okA__law_draw T) (hr.mono (by decide)) (by rfl) (aa_cons (av 2) (aa_cons ae_int aa_nil))) (aa_cons (ae_op aop_sub (ae_call (okA__law_draw T) (hr.mono (by decide)) (by rfl) (aa_cons (av 2) (aa_cons ae_int aa_nil))) ae_int) aa_nil)) (by rfl))
        (as_cons (as_set (i := 5) sc_law.nd rfl (by first | exact Or.inl rfl | exact Or.inr rfl) (ae_lst (aa_cons (ae_tup (aa_cons (ae_call (okA__law_first T) (hr.mono (by decide)) (by rfl) (aa_cons (av 4) (aa_cons (av 3) aa_nil))) (aa_cons (av 4) aa_nil))) aa_nil)))
        (as_cons (as_for PassesOwn.never rfl (ai_rng1 (by rfl) T.n_range (aa_cons (ae_op aop_add ae_int (ae_call (okA__law_draw T) (hr.mono (by decide)) (by rfl) (aa_cons (av 2) (aa_cons ae_int aa_nil)))) aa_nil)) (ag_name (i := 6) sc_law.nd rfl (by first | exact Or.inl rfl | exact Or.inr rfl))
          (as_cons (as_set (i := 7) sc_law.nd rfl (by first | exact Or.inl rfl | exact Or.inr rfl) (ae_op aop_sub (ae_call (okA__law_draw T) (hr.mono (by decide)) (by rfl) (aa_cons (av 2) (aa_cons ae_int aa_nil))) ae_int))
          (as_one (as_expr (ae_ml PySem.F.plainAttrs_list PySem.F.slot_list_append PySem.F.type_list_append mt_append low_append (av 5) (aa_cons (ae_tup (aa_cons (ae_methM (K := K) rfl T.o_Fold.c (okA_Fold_seeded T) (hr.mono (by decide)) (ae_ix (ae_ix (av 5) (ae_call (okA__law_draw T) (hr.mono (by decide)) (by rfl) (aa_cons (av 2) (aa_cons (ae_b acb_len (by rfl) T.n_len (by decide +kernel) (aa_cons (av 5) aa_nil)) aa_nil))) (fun _ _ => rfl)) ae_int (fun _ _ => rfl)) (aa_cons (av 7) aa_nil)) (aa_cons (av 7) aa_nil))) aa_nil))))))
        (as_cons (as_set (i := 8) sc_law.nd rfl (by first | exact Or.inl rfl | exact Or.inr rfl) (ae_op aop_add (ae_lc (own := [("_law_turn", 6)]) (by rfl) sc_law.nd (ai_rng1 (by rfl) T.n_range (aa_cons ae_int aa_nil)) (blkOk_by (by kernel_rfl)) (tgOk_name (by decide)) (fun _ _ _ _ _ => pg_name (i := 6) sc_law.nd rfl (by first | exact Or.inl rfl | exact Or.inr rfl)) (fun _ _ _ _ _ => (ae_call (okA__law_any T) (hr.mono (by decide)) (by rfl) (aa_cons (av 2) (aa_cons ae_int aa_nil))))) (ae_lst (aa_cons ae_str aa_nil))))
        (as_cons (as_setLc (own := [("_law_text", 15)]) (i := 9) (by rfl) sc_law.nd rfl rfl (sw_true rfl rfl rfl (by decide +kernel)) (ai_list (av 8)) (blkOk_by (by kernel_rfl)) (tgOk_name (by decide)) (fun _ _ _ _ _ => pg_name (i := 15) sc_law.nd rfl (by first | exact Or.inl rfl | exact Or.inr rfl)) (fun _ _ _ _ _ => (ae_make (dd := []) (asp := aspRead) (ok_Fountain___init___read T) (hr.mono (by decide)) (by rfl) (aa_cons (ae_call (okA__law_told T) (hr.mono (by decide)) (by rfl) (aa_cons (av 2) (aa_cons (av 15) aa_nil))) aa_nil) mkA_read)))
        (as_one (as_for PassesOwn.never rfl (ai_rng1 (by rfl) T.n_range (aa_cons ae_int aa_nil)) (ag_name (i := 6) sc_law.nd rfl (by first | exact Or.inl rfl | exact Or.inr rfl))
          (as_cons (as_for PassesOwn.never rfl (ai_list (ae_sl (ae_call (okA__law_mixed T) (hr.mono (by decide)) (by rfl) (aa_cons (av 2) (aa_cons (ae_listRg (by rfl) (by rfl) T.n_list (by rfl) T.n_range (ae_op aop_mul ae_int (ae_b acb_len (by rfl) T.n_len (by decide +kernel) (aa_cons (av 5) aa_nil)))) aa_nil))) ao_none (ao_some ae_int))) (ag_name (i := 10) sc_law.nd rfl (by first | exact Or.inl rfl | exact Or.inr rfl))
            (as_cons (as_asg (ae_tup (aa_cons (ae_op aop_mod (av 10) ae_int) (aa_cons (ae_ix (av 5) (ae_op aop_fdiv (av 10) ae_int) (fun _ _ => rfl)) aa_nil))) (ag_tup (n := 2) rfl (ags_cons (ag_name (i := 11) sc_law.nd rfl (by first | exact Or.inl rfl | exact Or.inr rfl)) (ags_cons (ag_tup (n := 2) rfl (ags_cons (ag_name (i := 12) sc_law.nd rfl (by first | exact Or.inl rfl | exact Or.inr rfl)) (ags_cons (ag_name (i := 13) sc_law.nd rfl (by first | exact Or.inl rfl | exact Or.inr rfl)) ags_nil)) (fun _ _ _ _ z => agNs_len (js := [12, 13]) z)) ags_nil)) agN12_len))
            (as_cons (as_if (at_cmp (aop_neG T.cls (okF_eq T) (hr.mono (by decide)) hr.units) (ae_propM (K := K) rfl T.o_Fold.c (okA_Fold_jet T) (hr.mono (by decide)) (av 12) rfl) (av 13) (nomark _))
              (as_one (as_ret ae_bl))
              as_nil)
            (as_cons (as_if (at_cmp (aop_neG T.cls (okF_eq T) (hr.mono (by decide)) hr.units) (ae_callO T.m_Fold___call__ (okA_Fold___call__ T) (hr.mono (by decide)) (av 12) (aa_cons (ae_ix (av 9) (av 11) (fun _ _ => rfl)) aa_nil)) (ae_call (okA__law_value T 130) (hr.mono (by decide)) (by rfl) (aa_cons (ae_ix (av 8) (av 11) (fun _ _ => rfl)) (aa_cons (av 13) (aa_cons (av 3) aa_nil)))) (nomark _))
              (as_one (as_ret ae_bl))
              as_nil)
            (as_one (as_if (at_cmp (aop_eqG (okF_eq T) (hr.mono (by decide)) hr.units) (ae_call (okA__law_draw T) (hr.mono (by decide)) (by rfl) (aa_cons (av 2) (aa_cons ae_int aa_nil))) ae_int (nomark _))
              (as_cons (as_set (i := 14) sc_law.nd rfl (by first | exact Or.inl rfl | exact Or.inr rfl) (ae_methM (K := K) rfl T.o_Fold.c (okA_Fold_seeded T) (hr.mono (by decide)) (av 12) (aa_cons (ae_op aop_add (av 13) ae_int) aa_nil)))
              (as_one (as_if (at_via (AW.pt (aw_or (at_cmp (aop_neG T.cls (okF_eq T) (hr.mono (by decide)) hr.units) (ae_callO T.m_Fold___call__ (okA_Fold___call__ T) (hr.mono (by decide)) (av 14) (aa_cons (ae_ix (av 9) ae_int (fun _ _ => rfl)) aa_nil)) (ae_call (okA__law_value T 130) (hr.mono (by decide)) (by rfl) (aa_cons (ae_ix (av 8) ae_int (fun _ _ => rfl)) (aa_cons (ae_op aop_add (av 13) ae_int) (aa_cons (av 3) aa_nil)))) (nomark _)) (aw_or1 (at_cmp (aop_neG T.cls (okF_eq T) (hr.mono (by decide)) hr.units) (ae_propM (K := K) rfl T.o_Fold.c (okA_Fold_jet T) (hr.mono (by decide)) (av 14) rfl) (ae_op aop_add (av 13) ae_int) (nomark _))))))
                (as_one (as_ret ae_bl))
                as_nil)))
              as_nil))))))
          (as_one (as_for PassesOwn.never rfl (ai_list (av 5)) (ag_tup (n := 2) rfl (ags_cons (ag_name (i := 12) sc_law.nd rfl (by first | exact Or.inl rfl | exact Or.inr rfl)) (ags_cons (ag_name (i := 13) sc_law.nd rfl (by first | exact Or.inl rfl | exact Or.inr rfl)) ags_nil)) (fun _ _ _ _ z => agNs_len (js := [12, 13]) z))
            (as_one (as_if (at_via (AW.pt (aw_or (at_cmp (aop_neG T.cls (okF_eq T) (hr.mono (by decide)) hr.units) (ae_propM (K := K) rfl T.o_Fold.c (okA_Fold_jet T) (hr.mono (by decide)) (av 12) rfl) (av 13) (nomark _)) (aw_or1 (at_cmp (aop_neG T.cls (okF_eq T) (hr.mono (by decide)) hr.units) (ae_callO T.m_Fold___call__ (okA_Fold___call__ T) (hr.mono (by decide)) (av 12) (aa_cons (ae_ix (av 9) ae_int (fun _ _ => rfl)) aa_nil)) (av 13) (nomark _))))))
              (as_one (as_ret ae_bl))
              as_nil))))))))))))))
      (as_one (as_ret ae_bl)))
    refine ⟨_, hb, ?_⟩
    refine law_low (c := cA K (some (a, ns))) rfl hlen hS hT (fun H' => k H') ?_
    clear hb
    have hsl := sizeLine_eq
    refine fun n hn => ⟨?_, ?_, ?_⟩
    · split <;> split <;> omega
    · split <;> split <;> omega
    have hm : (if (if (n : Int) < 4 then (n : Int) else 4) > 2 then (if (n : Int) < 4 then (n : Int) else 4) else 2).toNat ≤ 4 := by
      split <;> split <;> omega
    refine loop_map (fun i : Nat => D.int (0 + (i : Nat))) (List.range (if (if (n : Int) < 4 then (n : Int) else 4) > 2 then (if (n : Int) < 4 then (n : Int) else 4) else 2).toNat) (fun _ env _ => ∃ x1 x2 x3 x4 x5 x6 x7 x8 x9 x10 x11 x12 x13 x14 x15 : Option D, env = [some D.scr, x1, x2, x3, x4, x5, x6, x7, x8, x9, x10, x11, x12, x13, x14, x15]) (fun _ _ _ _ => trivial) ?step1 ?fin1 _ _ ⟨_, _, _, _, _, _, _, _, _, _, _, _, _, _, _, rfl⟩
    case fin1 =>
      intro env L ⟨x1, x2, x3, x4, x5, x6, x7, x8, x9, x10, x11, x12, x13, x14, x15, ee⟩
      subst ee
      exact ⟨L, SubS.refl L, Eq.refl (D.bl true)⟩
    case step1 =>
      intro pre i rest nn e kn env L ⟨x1, x2, x3, x4, x5, x6, x7, x8, x9, x10, x11, x12, x13, x14, x15, ee⟩
      subst ee
      have hi : i < 4 := by
        have h1 : i ∈ List.range (if (if (n : Int) < 4 then (n : Int) else 4) > 2 then (if (n : Int) < 4 then (n : Int) else 4) else 2).toNat := by rw [e]; simp
        have := List.mem_range.mp h1
        omega
      clear e hm
      refine ⟨by omega, by omega, fun d hd0 => ⟨sput_same, by decide, by decide, fun f f0 f1 => ⟨sput_same, by decide, by decide, fun j j0 j1 => ?_⟩⟩⟩
      refine fun a L1 dd sb ha hf hj => ⟨by show (2 : Nat) ≤ sizeLine; omega, by show (1 : Nat) ≤ sizeLine; omega, fun P hP => ?_⟩
      have fed : sput L1 P (.lst [kdD (a, j - 4)]) d = some feedM := sput_old (sb _ _ sput_same) hP
      have hK : sput L1 P (.lst [kdD (a, j - 4)]) P = some (.lst ([(a, j - 4)].map kdD)) := sput_same
      have hF : FdsOk K (sput L1 P (.lst [kdD (a, j - 4)])) f [(a, j - 4)] := fun q hq => by
        rw [List.mem_singleton.mp hq]
        exact ⟨dd, sput_old hf hP, hj.sub ((SubS.refl L1).new hP)⟩
      show agName 5 (D.ref P) _ (sput L1 P (.lst [kdD (a, j - 4)])) _
      generalize sput L1 P (.lst [kdD (a, j - 4)]) = L2 at fed hK hF ⊢
      clear hf hj sb ha hP hd0
      refine ⟨fed, by decide, by decide, fun v v0 v1 => ⟨by omega, by omega, ?_⟩⟩
      refine loop_map (fun i : Nat => D.int (0 + (i : Nat))) (List.range (2 + v).toNat) (fun pre env L' => ∃ (qs : List (Addr × Int)) (x6 x7 x8 x9 x10 x11 x12 x13 x14 x15 : Option D), env = [some D.scr, some (.int (0 + (i : Nat))), some (.ref d), some (.int f), some (.int (j - 4)), some (.ref P), x6, x7, x8, x9, x10, x11, x12, x13, x14, x15] ∧ L' d = some feedM ∧ L' P = some (.lst (qs.map kdD)) ∧ FdsOk K L' f qs ∧ qs ≠ [] ∧ qs.length = 1 + pre.length) (fun _ _ _ _ => trivial) ?step2 ?fin2 _ _ ⟨[(a, j - 4)], _, _, _, _, _, _, _, _, _, _, rfl, fed, hK, hF, by simp, rfl⟩
      case step2 =>
        clear fed hK hF
        rintro pre2 i2 rest2 n2 e2 kn2 env L3 ⟨qs, x6, x7, x8, x9, x10, x11, x12, x13, x14, x15, rfl, fed, hK, hF, hne, hl⟩
        have hq0 := List.length_pos_iff.mpr hne
        have hp2 : pre2.length < 5 := by
          have z := congrArg List.length e2
          rw [List.length_range, List.length_append, List.length_cons] at z
          omega
        clear e2
        have hll : (qs.map kdD).length = qs.length := List.length_map _
        refine ⟨fed, by decide, by decide, fun o o0 o1 => ?_⟩
        refine ⟨⟨P, _, rfl, hK⟩, _, hK, fed, by rw [hll]; omega, by rw [hll]; omega, fun w w0 w1 => ?_⟩
        rw [hll] at w1
        obtain ⟨k, rfl⟩ := Int.eq_ofNat_of_zero_le w0
        have hk : k < qs.length := by omega
        obtain ⟨dd, hq, hj⟩ := hF _ (List.getElem_mem hk)
        refine ⟨_, .tup [.ref qs[k].1, .int qs[k].2], hK, atI_nat (by rw [List.getElem?_map, List.getElem?_eq_getElem hk]; rfl), _, rfl, ⟨_, _, hq, by decide⟩, _, _, hq, fun b hb => ⟨by show (2 : Nat) ≤ sizeLine; omega, ?_⟩⟩
        refine ⟨_, sput_old hK hb, by rw [hll]; omega, ?_⟩
        have sB := (SubS.refl L3).new (m := FdO K (.int (o - 9)) dd) hb
        have hPb : P ≠ b := fun z => by rw [z, hb] at hK; cases hK
        have hdP : d ≠ P := fun z => by
          rw [z, hK] at fed
          cases fed
        refine kn2 _ _ ⟨qs ++ [(b, o - 9)], _, _, _, _, _, _, _, _, _, _, rfl, (sput_ne hdP).trans (sB _ _ fed), ?_, fun q hq2 => ?_, by simp, by rw [List.length_append, List.length_append]; show qs.length + 1 = 1 + (pre2.length + 1); omega⟩
        · rw [sput_same, List.map_append]
          rfl
        · have keep : ∀ x m, x ≠ P → sput L3 b (FdO K (.int (o - 9)) dd) x = some m → sput (sput L3 b (FdO K (.int (o - 9)) dd)) P (.lst (qs.map kdD ++ [D.tup [.ref b, .int (o - 9)]])) x = some m := fun x m hx e => (sput_ne hx).trans e
          have jk : ∀ z, JnOk K L3 z f → JnOk K (sput (sput L3 b (FdO K (.int (o - 9)) dd)) P (.lst (qs.map kdD ++ [D.tup [.ref b, .int (o - 9)]]))) z f := fun z hz => by
            rcases hz with hz | ⟨h1, y, h2, h3⟩
            · exact .inl hz
            · refine .inr ⟨h1, y, h2, keep y _ (fun e => ?_) (sB _ _ h3)⟩
              rw [e, hK] at h3
              cases h3
          rcases List.mem_append.mp hq2 with hm | hm
          · obtain ⟨d2, h1, h2⟩ := hF q hm
            refine ⟨d2, keep q.1 _ (fun e => ?_) (sB _ _ h1), jk _ h2⟩
            rw [e, hK] at h1
            cases h1
          · rw [List.mem_singleton.mp hm]
            exact ⟨dd, keep b _ (Ne.symm hPb) sput_same, jk _ hj⟩
      case fin2 =>
        clear fed hK hF
        rintro env L3 ⟨qs, x6, x7, x8, x9, x10, x11, x12, x13, x14, x15, rfl, fed, hK, hF, hne, hl⟩
        have hq0 := List.length_pos_iff.mpr hne
        have hll : (qs.map kdD).length = qs.length := List.length_map _
        have hql : qs.length ≤ 6 := by
          rw [List.length_range] at hl
          omega
        refine ⟨by decide, by decide, fun B hB => ?_⟩
        refine comp_accP (fun x => ∃ t, x = .str (tx t) ∧ (Can t ∧ t.size ≤ 12)) (fun l => trivial) _ [] (by rw [rngD_len]; show 0 + _ ≤ _; omega) (fun x hx l kk hk => ?_) (fun x hx => absurd hx List.not_mem_nil) (fun xs hxl hx => ?_)
        · exact ⟨rfl, sput_old fed hB, by decide, by decide, fun t ct tz => hk _ ⟨t, rfl, ct, by omega⟩⟩
        obtain ⟨ts, rfl, hts⟩ := exTx hx
        have htl : ts.length = 4 := by
          rw [List.length_map, rngD_len] at hxl
          have z : ([] : List D).length = 0 := rfl
          have z2 : ((4 : Int) - 0).toNat = 4 := by decide
          omega
        refine ⟨by show (1 : Nat) ≤ sizeLine; omega, fun C hC => ⟨_, _, sput_old sput_same hC, sput_same, by rw [List.length_map, htl]; show 4 + 1 ≤ _; omega, fun R hR => ?_⟩⟩
        have s1 := (((SubS.refl L3).new (m := .lst (ts.map dtx)) hB).new (m := .lst [.str "o"]) hC).new (m := .lst (ts.map dtx ++ [.str "o"])) hR
        have hR1 : sput (sput (sput L3 B (.lst (ts.map dtx))) C (.lst [.str "o"])) R (.lst (ts.map dtx ++ [.str "o"])) R = some (.lst ((ts ++ [JW.T.jet]).map dtx)) := by
          rw [sput_same, List.map_append]
          show _ = some (MO.lst (ts.map dtx ++ [D.str (tx JW.T.jet)]))
          rw [tx_jet]
        show agName 8 (D.ref R) _ (sput (sput (sput L3 B (.lst (ts.map dtx))) C (.lst [.str "o"])) R (.lst (ts.map dtx ++ [.str "o"]))) _
        generalize sput (sput (sput L3 B (.lst (ts.map dtx))) C (.lst [.str "o"])) R (.lst (ts.map dtx ++ [.str "o"])) = L4 at s1 hR1 ⊢
        have hts2 : ∀ t ∈ ts ++ [JW.T.jet], Can t ∧ t.size ≤ 12 := fun t ht => by
          rcases List.mem_append.mp ht with h | h
          · exact hts t h
          · rw [List.mem_singleton.mp h]
            exact ⟨trivial, by decide⟩
        have hl5 : (ts ++ [JW.T.jet]).length = 5 := by
          rw [List.length_append, htl]
          rfl
        have h4 : (ts ++ [JW.T.jet])[4]? = some .jet := by
          rw [List.getElem?_append_right (by omega), htl]
          rfl
        generalize ts ++ [JW.T.jet] = us at hR1 hts2 hl5 h4
        clear hB hC hR hts htl hxl hx
        have fed := s1 _ _ fed
        have hK := s1 _ _ hK
        have hF := hF.sub s1
        refine ⟨_, hR1, fun G hG => ?_⟩
        refine comp_mapA dtx D.tree (fun _ => sput_old hR1 hG) us [] (by show 0 + us.length ≤ _; omega) (fun u hu l2 k hk => ?_) ?_
        · obtain ⟨q1, q2⟩ := hts2 u hu
          have q3 := dep_le_size u
          refine ⟨rfl, sput_old fed hG, u, rfl, by omega, by omega, fun w hw => ?_⟩
          have e1 : w.canon = u := hw.trans (can_canon u q1)
          have e2 : w.size = u.size := by rw [← canon_size w, e1]
          have e3 := dep_le_size w
          refine ⟨w, rfl, by omega, by omega, ?_⟩
          rw [e1]
          exact hk
        have hG1 : sput L4 G (.lst ([] ++ us.map D.tree)) G = some (.lst (us.map D.tree)) := by rw [sput_same, List.nil_append]
        have s2 := (SubS.refl L4).new (m := .lst ([] ++ us.map D.tree)) hG
        show agName 9 (D.ref G) _ (sput L4 G (.lst ([] ++ us.map D.tree))) _
        generalize sput L4 G (.lst ([] ++ us.map D.tree)) = L5 at hG1 s2 ⊢
        have fed := s2 _ _ fed
        have hK := s2 _ _ hK
        have hF := hF.sub s2
        have hR1 := s2 _ _ hR1
        clear s1 s2 hG
        refine ⟨by decide, by decide, ?_⟩
        refine loop_map (fun i : Nat => D.int (0 + (i : Nat))) (List.range (2 : Int).toNat) (fun pre env L' => ∃ (x6 x7 x10 x11 x12 x13 x14 x15 : Option D), env = [some D.scr, some (.int (0 + (i : Nat))), some (.ref d), some (.int f), some (.int (j - 4)), some (.ref P), x6, x7, some (.ref R), some (.ref G), x10, x11, x12, x13, x14, x15] ∧ SubS L5 L') (fun _ _ _ _ => trivial) ?step3 ?fin3 _ _ ⟨_, _, _, _, _, _, _, _, rfl, SubS.refl L5⟩
        case fin3 =>
          rintro env L6 ⟨x6, x7, x10, x11, x12, x13, x14, x15, rfl, s6⟩
          exact kn _ _ ⟨_, _, _, _, _, _, _, _, _, _, _, _, _, _, _, rfl⟩
        case step3 =>
          rintro pre3 i3 rest3 n3 e3 kn3 env L6 ⟨x6, x7, x10, x11, x12, x13, x14, x15, rfl, s6⟩
          clear e3
          have fed6 := s6 _ _ fed
          have hK6 := s6 _ _ hK
          refine ⟨_, hK6, ?_⟩
          show MulOk 5 (((qs.map kdD).length : Nat) : Int) ∧ _
          refine ⟨.inl (.inl ⟨by decide, by decide⟩), 5 * qs.length, by rw [hll]; congr 1, by omega, fun Z hZ => ⟨sput_old fed6 hZ, _, .inr ⟨Z, rfl, sput_same⟩, by rw [rngD_len]; omega, ?_, fun m r hp hr => ⟨m, sput_same, fun q hq => ⟨_, sput_same, ?_⟩⟩⟩⟩
          · unfold rngD
            rw [depDL_map fun _ => rfl]
            omega
          have s7 := (((SubS.refl L6).new (m := .lst (rngD 0 (5 * qs.length))) hZ).new (m := .lst m) hr).new (m := .lst (cutD m none (some 24))) hq
          have hq7 : sput (sput (sput L6 Z (.lst (rngD 0 (5 * qs.length)))) r (.lst m)) q (.lst (cutD m none (some 24))) q = some (.lst (cutD m none (some 24))) := sput_same
          generalize sput (sput (sput L6 Z (.lst (rngD 0 (5 * qs.length)))) r (.lst m)) q (.lst (cutD m none (some 24))) = L7 at s7 hq7 ⊢
          clear hZ hr hq
          obtain ⟨ms, pm, rfl⟩ := perm_mapD hp rfl
          have ec : cutD (ms.map fun i : Nat => D.int (0 + (i : Nat))) none (some 24) = (ms.take 24).map fun i : Nat => D.int (0 + (i : Nat)) := cutD_take (k := 24) rfl
          rw [ec] at hq7 ⊢
          show loopA _ _ _ _ ((ms.take 24).map fun i : Nat => D.int (0 + (i : Nat))) _ L7
          have hms : ∀ x ∈ ms.take 24, x < 5 * qs.length := fun x hx => List.mem_range.mp (pm.subset (List.mem_of_mem_take hx))
          refine loop_map (fun i : Nat => D.int (0 + (i : Nat))) (ms.take 24) (fun _ env L' => ∃ (x7 x10 x11 x12 x13 x14 x15 : Option D), env = [some D.scr, some (.int (0 + (i : Nat))), some (.ref d), some (.int f), some (.int (j - 4)), some (.ref P), some (.int (0 + (i3 : Nat))), x7, some (.ref R), some (.ref G), x10, x11, x12, x13, x14, x15] ∧ SubS L7 L') (fun _ _ _ ⟨_, _, _, _, _, _, _, _, z⟩ => z _ _ hq7) ?step4 ?fin4 _ _ ⟨_, _, _, _, _, _, _, rfl, SubS.refl L7⟩
          case step4 =>
            rintro pre4 i4 rest4 n4 e4 kn4 env L8 ⟨x7, x10, x11, x12, x13, x14, x15, rfl, s8⟩
            have hi4 : i4 < 5 * qs.length := hms i4 (by rw [e4]; simp)
            clear e4
            have s9 := (s6.trans s7).trans s8
            have fed8 := s9 _ _ fed
            have hK8 := s9 _ _ hK
            have hF8 := hF.sub s9
            have hR8 := s9 _ _ hR1
            have hG8 := s9 _ _ hG1
            have hk : i4 / 5 < qs.length := by omega
            obtain ⟨dd, hq, hj⟩ := hF8 _ (List.getElem_mem hk)
            have hi5 : i4 % 5 < us.length := by omega
            have hu := hts2 _ (List.getElem_mem hi5)
            have hud := dep_le_size us[i4 % 5]
            have hu0 : 0 < us.length := by omega
            have hv := hts2 _ (List.getElem_mem hu0)
            have hvd := dep_le_size us[0]
            refine ⟨by decide, ⟨by decide, by decide⟩, ?_⟩
            have e5 : (0 + ((i4 : Nat) : Int)) / 5 = ((i4 / 5 : Nat) : Int) := by omega
            have e6 : (0 + ((i4 : Nat) : Int)) % 5 = ((i4 % 5 : Nat) : Int) := by omega
            have hat : atI (qs.map kdD) ((0 + ((i4 : Nat) : Int)) / 5) = some (.tup [.ref qs[i4 / 5].1, .int qs[i4 / 5].2]) := by
              rw [e5]
              exact atI_nat (by rw [List.getElem?_map, List.getElem?_eq_getElem hk]; rfl)
            refine ⟨_, .tup [.ref qs[i4 / 5].1, .int qs[i4 / 5].2], hK8, hat, by show (2 : Nat) ≤ sizeLine; omega, ?_⟩
            rw [e6]
            refine ⟨rfl, rfl, ⟨_, _, hq, by decide⟩, _, _, hq, ite_f (by simp) ?_⟩
            have hGu : atI (us.map D.tree) ((i4 % 5 : Nat) : Int) = some (.tree us[i4 % 5]) := atI_nat (by rw [List.getElem?_map, List.getElem?_eq_getElem hi5]; rfl)
            have hRu : atI (us.map dtx) ((i4 % 5 : Nat) : Int) = some (.str (tx us[i4 % 5])) := atI_nat (by rw [List.getElem?_map, List.getElem?_eq_getElem hi5]; rfl)
            refine ⟨_, rfl, _, _, hG8, hGu, ⟨_, _, hq⟩, _, _, _, hq, hj, by omega, by omega, _, _, hR8, hRu, _, rfl, by omega, by omega, ite_f (by simp) ?_⟩
            refine ⟨fed8, by decide, by decide, fun w w0 w1 => ite2 (fun _ => ?_) (fun _ => kn4 _ _ ⟨_, _, _, _, _, _, _, rfl, s8⟩)⟩
            refine ⟨⟨_, _, hq, by decide⟩, _, _, hq, fun b hb => ?_⟩
            have sB := (SubS.refl L8).new (m := FdO K (.int (qs[i4 / 5].2 + 1)) dd) hb
            have hG0 : atI (us.map D.tree) ((0 : Nat) : Int) = some (.tree us[0]) := atI_nat (by rw [List.getElem?_map, List.getElem?_eq_getElem hu0]; rfl)
            have hR0 : atI (us.map dtx) ((0 : Nat) : Int) = some (.str (tx us[0])) := atI_nat (by rw [List.getElem?_map, List.getElem?_eq_getElem hu0]; rfl)
            refine ⟨fun k l => k = false ∧ SubS L8 l, ?_, ?_⟩
            · refine ⟨_, rfl, _, _, sB _ _ hG8, hG0, ⟨_, _, sput_same⟩, _, _, _, sput_same, hj.sub sB, by omega, by omega, _, _, sB _ _ hR8, hR0, _, rfl, by omega, by omega, ite_f (by simp) ?_⟩
              exact ⟨⟨_, _, sput_same, by decide⟩, _, _, sput_same, by simp, sB⟩
            rintro k l ⟨rfl, sl⟩
            exact ite_f (A := True) rfl (kn4 _ _ ⟨_, _, _, _, _, _, _, rfl, s8.trans sl⟩)
          case fin4 =>
            rintro env L8 ⟨x7, x10, x11, x12, x13, x14, x15, rfl, s8⟩
            have s9 := (s6.trans s7).trans s8
            have hK8 := s9 _ _ hK
            have hF8 := hF.sub s9
            have hG8 := s9 _ _ hG1
            refine ⟨_, hK8, ?_⟩
            refine loop_map kdD qs (fun _ env L' => ∃ (x7 x10 x11 x12 x13 x14 x15 : Option D), env = [some D.scr, some (.int (0 + (i : Nat))), some (.ref d), some (.int f), some (.int (j - 4)), some (.ref P), some (.int (0 + (i3 : Nat))), x7, some (.ref R), some (.ref G), x10, x11, x12, x13, x14, x15] ∧ SubS L8 L') (fun _ _ _ ⟨_, _, _, _, _, _, _, _, z⟩ => z _ _ hK8) ?step5 ?fin5 _ _ ⟨_, _, _, _, _, _, _, rfl, SubS.refl L8⟩
            case fin5 =>
              rintro env L9 ⟨x7, x10, x11, x12, x13, x14, x15, rfl, sl⟩
              exact kn3 _ _ ⟨_, _, _, _, _, _, _, _, rfl, s9.trans sl⟩
            case step5 =>
              rintro pre5 q5 rest5 n5 e5 kn5 env L9 ⟨x7, x10, x11, x12, x13, x14, x15, rfl, sl⟩
              obtain ⟨dd, hq, hj⟩ := hF8 q5 (by rw [e5]; simp)
              have hq := sl _ _ hq
              have hj := hj.sub sl
              have hG9 := sl _ _ hG8
              have hG4 : atI (us.map D.tree) ((4 : Nat) : Int) = some (.tree .jet) := atI_nat (by rw [List.getElem?_map, h4]; rfl)
              refine ⟨rfl, fun k l => k = false ∧ SubS L9 l, ?_, ?_⟩
              · refine ⟨⟨_, _, hq, by decide⟩, _, _, hq, ite_f (by simp) ?_⟩
                exact ⟨_, rfl, _, _, hG9, hG4, ⟨_, _, hq⟩, _, _, _, hq, hj, by decide, by decide, by show (true ^^ decide (q5.2 = q5.2)) = false; simp, SubS.refl L9⟩
              rintro k l ⟨rfl, s0⟩
              exact ite_f (A := True) rfl (kn5 _ _ ⟨_, _, _, _, _, _, _, rfl, sl.trans s0⟩)
end
theorem txt_of {w : World} {K : PySem.W.Frag} {h h0 base : Heap} {mg : Str → Option Value} (X : K.In h) (G : h.Ns mainGlobals mg) (c : SaysE fa fn tf ex fx ts w h0 K) (TB : ∀ p ∈ tf.map (cT K), LamX.TabB base mg p.1 p.2) : Txt K mg base where
  cls := clsF_of (glo_ok X G (c.d.fact 0 (f := .glo "Fountain") rfl)) (cls_ok (c.d.fact 1 (f := .cls "Fountain") rfl)) (noat_ok (c.d.fact 2 (f := .noat "Fountain" "written") rfl)) (noat_ok (c.d.fact 3 (f := .noat "Fountain" "branches") rfl)) (noat_ok (c.d.fact 4 (f := .noat "Fountain" "numbers") rfl)) (exs c).1
  o_Adding := clsO_of (glo_ok X G (c.d.fact 5 (f := .glo "Adding") rfl)) (cls_ok (c.d.fact 6 (f := .cls "Adding") rfl)) (of_decide_eq_true (all_at (ba c.more).1 3 (a := fun K : PySem.W.Frag => decide (clsX K "Adding" = true)) rfl))
  na_Adding_added := noat_ok (c.d.fact 7 (f := .noat "Adding" "added") rfl)
  o_Fold := clsO_of (glo_ok X G (c.d.fact 8 (f := .glo "Fold") rfl)) (cls_ok (c.d.fact 9 (f := .cls "Fold") rfl)) (of_decide_eq_true (all_at (ba c.more).1 4 (a := fun K : PySem.W.Frag => decide (clsX K "Fold" = true)) rfl))
  na_Fold_seed := noat_ok (c.d.fact 10 (f := .noat "Fold" "seed") rfl)
  na_Fold_joining := noat_ok (c.d.fact 11 (f := .noat "Fold" "joining") rfl)
  gMOST := int_ok X G (c.d.fact 12 (f := .int "MOST" 5000) rfl)
  gDEEPEST := int_ok X G (c.d.fact 13 (f := .int "DEEPEST" 120) rfl)
  gJET_TEXT := str_ok X G (c.d.fact 14 (f := .str "JET_TEXT" "o") rfl)
  init_Adding := by
    obtain ⟨fd, F⟩ := c.d.def_ 0 (d := dfn "Adding" (some "__init__") "__init__" "Adding.__init__" s_Adding___init__ [] []) rfl
    refine ⟨_, fd, glo_ok X G (c.d.fact 5 (f := .glo "Adding") rfl), mkr_ok (c.d.fact 15 (f := .mkr "Adding") rfl), F, fun j hj => ?_⟩
    have e : j = 0 := Nat.le_zero.mp hj
    subst e
    exact ⟨[], .nil, F.bindsN fun _ _ _ _ _ _ us hl => match us, hl with | [_, _], _ => rfl⟩
  m_Adding___call__ := by
    obtain ⟨fd, F⟩ := c.d.def_ 1 (d := dfn "Adding" (some "__call__") "__call__" "Adding.__call__" s_Adding___call__ [] []) rfl
    exact ⟨_, fd, meth_ok (c.d.fact 16 (f := .meth "Adding" "__call__") rfl), F, F.bindsN fun _ _ _ _ _ _ us hl => match us, hl with | [_, _], _ => rfl⟩
  d_folded := by
    obtain ⟨fd, F⟩ := c.d.def_ 2 (d := dfn "folded" none "folded" "folded" s_folded [] []) rfl
    exact ⟨_, fd, glo_ok X G (c.d.fact 17 (f := .glo "folded") rfl), F, F.bindsN fun _ _ _ _ _ _ us hl => match us, hl with | [_, _, _], _ => rfl⟩
  init_Fold := by
    obtain ⟨fd, F⟩ := c.d.def_ 3 (d := dfn "Fold" (some "__init__") "__init__" "Fold.__init__" s_Fold___init__ [] []) rfl
    refine ⟨_, fd, glo_ok X G (c.d.fact 8 (f := .glo "Fold") rfl), mkr_ok (c.d.fact 18 (f := .mkr "Fold") rfl), F, fun j hj => ?_⟩
    have e : j = 0 := Nat.le_zero.mp hj
    subst e
    exact ⟨[], .nil, F.bindsN fun _ _ _ _ _ _ us hl => match us, hl with | [_, _, _], _ => rfl⟩
  p_Fold_jet := by
    obtain ⟨fd, F⟩ := c.fxAt 0 (d := ⟨fun K => gAd K ("Fold", "jet"), "jet", "Fold.jet", defArgs s_Fold_jet, defBody s_Fold_jet, defScope s_Fold_jet, []⟩) rfl
    exact ⟨_, _, fd, (propB_ok (all_at (exs c).2.1 0 (a := ("Fold", "jet")) rfl)), F, F.bindsN fun _ _ _ _ _ _ us hl => match us, hl with | [_], _ => rfl⟩
  m_Fold___call__ := by
    obtain ⟨fd, F⟩ := c.d.def_ 4 (d := dfn "Fold" (some "__call__") "__call__" "Fold.__call__" s_Fold___call__ [] []) rfl
    exact ⟨_, fd, meth_ok (c.d.fact 19 (f := .meth "Fold" "__call__") rfl), F, F.bindsN fun _ _ _ _ _ _ us hl => match us, hl with | [_, _], _ => rfl⟩
  m_Fold_seeded := by
    obtain ⟨fd, F⟩ := c.d.def_ 5 (d := dfn "Fold" (some "seeded") "seeded" "Fold.seeded" s_Fold_seeded [] []) rfl
    exact ⟨_, fd, meth_ok (c.d.fact 20 (f := .meth "Fold" "seeded") rfl), F, F.bindsN fun _ _ _ _ _ _ us hl => match us, hl with | [_, _], _ => rfl⟩
  c_Fold_summing := by
    obtain ⟨fd, F⟩ := c.fxAt 1 (d := ⟨fun K => cgAd K ("Fold", "summing"), "summing", "Fold.summing", defArgs s_Fold_summing, defBody s_Fold_summing, defScope s_Fold_summing, []⟩) rfl
    exact ⟨_, _, _, fd, (cmB_ok (all_at (exs c).2.2.1 0 (a := ("Fold", "summing")) rfl)).1, (cmB_ok (all_at (exs c).2.2.1 0 (a := ("Fold", "summing")) rfl)).2, F, F.bindsN fun _ _ _ _ _ _ us hl => match us, hl with | [_, _, _], _ => rfl⟩
  e_TooLarge := by
    obtain ⟨fd, F⟩ := c.d.def_ 6 (d := dfn "TooLarge" (some "__init__") "__init__" "TooLarge.__init__" s_TooLarge___init__ [] []) rfl
    exact ⟨glo_ok X G (c.d.fact 21 (f := .glo "TooLarge") rfl), (errB_ok (all_at (exs c).2.2.2.1 0 (a := "TooLarge") rfl)).1, _, fd, (errB_ok (all_at (exs c).2.2.2.1 0 (a := "TooLarge") rfl)).2.1, (errB_ok (all_at (exs c).2.2.2.1 0 (a := "TooLarge") rfl)).2.2, F, F.bindsN fun _ _ _ _ _ _ us hl => match us, hl with | [_, _], _ => rfl⟩
  na_TooLarge := noat_ok (c.d.fact 22 (f := .noat "TooLarge" "pieces") rfl)
  e_TooDeep := by
    obtain ⟨fd, F⟩ := c.d.def_ 7 (d := dfn "TooDeep" (some "__init__") "__init__" "TooDeep.__init__" s_TooDeep___init__ [] []) rfl
    exact ⟨glo_ok X G (c.d.fact 23 (f := .glo "TooDeep") rfl), (errB_ok (all_at (exs c).2.2.2.1 1 (a := "TooDeep") rfl)).1, _, fd, (errB_ok (all_at (exs c).2.2.2.1 1 (a := "TooDeep") rfl)).2.1, (errB_ok (all_at (exs c).2.2.2.1 1 (a := "TooDeep") rfl)).2.2, F, F.bindsN fun _ _ _ _ _ _ us hl => match us, hl with | [_, _], _ => rfl⟩
  na_TooDeep := noat_ok (c.d.fact 24 (f := .noat "TooDeep" "basins") rfl)
  d_check_numbers := by
    obtain ⟨fd, F⟩ := c.d.def_ 8 (d := dfn "check_numbers" none "check_numbers" "check_numbers" s_check_numbers [] []) rfl
    exact ⟨_, fd, glo_ok X G (c.d.fact 25 (f := .glo "check_numbers") rfl), F, F.bindsN fun _ _ _ _ _ _ us hl => match us, hl with | [_], _ => rfl⟩
  d_basin_numbers := by
    obtain ⟨fd, F⟩ := c.d.def_ 9 (d := dfn "basin_numbers" none "basin_numbers" "basin_numbers" s_basin_numbers [] []) rfl
    exact ⟨_, fd, glo_ok X G (c.d.fact 26 (f := .glo "basin_numbers") rfl), F, F.bindsN fun _ _ _ _ _ _ us hl => match us, hl with | [_], _ => rfl⟩
  d_parsed := by
    obtain ⟨fd, F⟩ := c.d.def_ 10 (d := dfn "parsed" none "parsed" "parsed" s_parsed [] []) rfl
    exact ⟨_, fd, glo_ok X G (c.d.fact 27 (f := .glo "parsed") rfl), F, F.bindsN fun _ _ _ _ _ _ us hl => match us, hl with | [_], _ => rfl⟩
  d_made := by
    obtain ⟨fd, F⟩ := c.d.def_ 11 (d := dfn "made" none "made" "made" s_made [] []) rfl
    exact ⟨glo_ok X G (c.d.fact 28 (f := .glo "made") rfl), fd, F, F.bindsN fun _ _ _ _ _ _ us hl => match us, hl with | [_], _ => rfl⟩
  tb_made := TB _ (List.mem_map.mpr ⟨("made", none), List.mem_of_getElem? (i := 0) rfl, rfl⟩)
  init := by
    obtain ⟨fd, F⟩ := c.d.def_ 12 (d := dfn "Fountain" (some "__init__") "__init__" "Fountain.__init__" s_Fountain___init__ [.non] []) rfl
    refine ⟨_, fd, glo_ok X G (c.d.fact 0 (f := .glo "Fountain") rfl), mkr_ok (c.d.fact 29 (f := .mkr "Fountain") rfl), F, fun j hj => ?_⟩
    have e : j = 0 ∨ j = 1 := by
      have h : j ≤ 1 := hj
      omega
    rcases e with rfl | rfl
    · exact F.binds1 2 0 (List.cons_ne_nil _ _) rfl fun _ _ _ _ _ _ _ us its l1 l2 => match us, its, l1, l2 with | [_, _], [_], _, _ => ⟨_, rfl, rfl⟩
    · exact F.binds1 3 1 (List.cons_ne_nil _ _) rfl fun T kV doc pm an cdv ct us its l1 l2 => match us, its, l1, l2 with | [_, _, _], [_], _, _ => ⟨_, rfl, rfl⟩
  p_text := by
    obtain ⟨fd, F⟩ := c.fxAt 2 (d := ⟨fun K => gAd K ("Fountain", "text"), "text", "Fountain.text", defArgs s_Fountain_text, defBody s_Fountain_text, defScope s_Fountain_text, []⟩) rfl
    exact ⟨_, _, fd, (propB_ok (all_at (exs c).2.1 1 (a := ("Fountain", "text")) rfl)), F, F.bindsN fun _ _ _ _ _ _ us hl => match us, hl with | [_], _ => rfl⟩
  p_parts := by
    obtain ⟨fd, F⟩ := c.fxAt 3 (d := ⟨fun K => gAd K ("Fountain", "parts"), "parts", "Fountain.parts", defArgs s_Fountain_parts, defBody s_Fountain_parts, defScope s_Fountain_parts, []⟩) rfl
    exact ⟨_, _, fd, (propB_ok (all_at (exs c).2.1 2 (a := ("Fountain", "parts")) rfl)), F, F.bindsN fun _ _ _ _ _ _ us hl => match us, hl with | [_], _ => rfl⟩
  p_size := by
    obtain ⟨fd, F⟩ := c.fxAt 4 (d := ⟨fun K => gAd K ("Fountain", "size"), "size", "Fountain.size", defArgs s_Fountain_size, defBody s_Fountain_size, defScope s_Fountain_size, []⟩) rfl
    exact ⟨_, _, fd, (propB_ok (all_at (exs c).2.1 3 (a := ("Fountain", "size")) rfl)), F, F.bindsN fun _ _ _ _ _ _ us hl => match us, hl with | [_], _ => rfl⟩
  p_jets := by
    obtain ⟨fd, F⟩ := c.fxAt 5 (d := ⟨fun K => gAd K ("Fountain", "jets"), "jets", "Fountain.jets", defArgs s_Fountain_jets, defBody s_Fountain_jets, defScope s_Fountain_jets, []⟩) rfl
    exact ⟨_, _, fd, (propB_ok (all_at (exs c).2.1 4 (a := ("Fountain", "jets")) rfl)), F, F.bindsN fun _ _ _ _ _ _ us hl => match us, hl with | [_], _ => rfl⟩
  p_depth := by
    obtain ⟨fd, F⟩ := c.fxAt 6 (d := ⟨fun K => gAd K ("Fountain", "depth"), "depth", "Fountain.depth", defArgs s_Fountain_depth, defBody s_Fountain_depth, defScope s_Fountain_depth, []⟩) rfl
    exact ⟨_, _, fd, (propB_ok (all_at (exs c).2.1 5 (a := ("Fountain", "depth")) rfl)), F, F.bindsN fun _ _ _ _ _ _ us hl => match us, hl with | [_], _ => rfl⟩
  p_longest := by
    obtain ⟨fd, F⟩ := c.fxAt 7 (d := ⟨fun K => gAd K ("Fountain", "longest"), "longest", "Fountain.longest", defArgs s_Fountain_longest, defBody s_Fountain_longest, defScope s_Fountain_longest, []⟩) rfl
    exact ⟨_, _, fd, (propB_ok (all_at (exs c).2.1 6 (a := ("Fountain", "longest")) rfl)), F, F.bindsN fun _ _ _ _ _ _ us hl => match us, hl with | [_], _ => rfl⟩
  p_shortest := by
    obtain ⟨fd, F⟩ := c.fxAt 8 (d := ⟨fun K => gAd K ("Fountain", "shortest"), "shortest", "Fountain.shortest", defArgs s_Fountain_shortest, defBody s_Fountain_shortest, defScope s_Fountain_shortest, []⟩) rfl
    exact ⟨_, _, fd, (propB_ok (all_at (exs c).2.1 7 (a := ("Fountain", "shortest")) rfl)), F, F.bindsN fun _ _ _ _ _ _ us hl => match us, hl with | [_], _ => rfl⟩
  p_is_open := by
    obtain ⟨fd, F⟩ := c.fxAt 9 (d := ⟨fun K => gAd K ("Fountain", "is_open"), "is_open", "Fountain.is_open", defArgs s_Fountain_is_open, defBody s_Fountain_is_open, defScope s_Fountain_is_open, []⟩) rfl
    exact ⟨_, _, fd, (propB_ok (all_at (exs c).2.1 8 (a := ("Fountain", "is_open")) rfl)), F, F.bindsN fun _ _ _ _ _ _ us hl => match us, hl with | [_], _ => rfl⟩
  p_is_jet := by
    obtain ⟨fd, F⟩ := c.fxAt 10 (d := ⟨fun K => gAd K ("Fountain", "is_jet"), "is_jet", "Fountain.is_jet", defArgs s_Fountain_is_jet, defBody s_Fountain_is_jet, defScope s_Fountain_is_jet, []⟩) rfl
    exact ⟨_, _, fd, (propB_ok (all_at (exs c).2.1 9 (a := ("Fountain", "is_jet")) rfl)), F, F.bindsN fun _ _ _ _ _ _ us hl => match us, hl with | [_], _ => rfl⟩
  m___eq__ := by
    obtain ⟨fd, F⟩ := c.d.def_ 13 (d := dfn "Fountain" (some "__eq__") "__eq__" "Fountain.__eq__" s_Fountain___eq__ [] []) rfl
    exact ⟨_, fd, meth_ok (c.d.fact 30 (f := .meth "Fountain" "__eq__") rfl), F, F.bindsN fun _ _ _ _ _ _ us hl => match us, hl with | [_, _], _ => rfl⟩
  d__law_feed := by
    obtain ⟨fd, F⟩ := c.d.def_ 14 (d := dfn "_law_feed" none "_law_feed" "_law_feed" s__law_feed [] []) rfl
    exact ⟨_, fd, glo_ok X G (c.d.fact 31 (f := .glo "_law_feed") rfl), F, F.bindsN fun _ _ _ _ _ _ us hl => match us, hl with | [_, _], _ => rfl⟩
  d__law_draw := by
    obtain ⟨fd, F⟩ := c.d.def_ 15 (d := dfn "_law_draw" none "_law_draw" "_law_draw" s__law_draw [] []) rfl
    exact ⟨_, fd, glo_ok X G (c.d.fact 32 (f := .glo "_law_draw") rfl), F, F.bindsN fun _ _ _ _ _ _ us hl => match us, hl with | [_, _], _ => rfl⟩
  d__law_mixed := by
    obtain ⟨fd, F⟩ := c.d.def_ 16 (d := dfn "_law_mixed" none "_law_mixed" "_law_mixed" s__law_mixed [] []) rfl
    exact ⟨_, fd, glo_ok X G (c.d.fact 33 (f := .glo "_law_mixed") rfl), F, F.bindsN fun _ _ _ _ _ _ us hl => match us, hl with | [_, _], _ => rfl⟩
  d__law_norm := by
    obtain ⟨fd, F⟩ := c.d.def_ 17 (d := dfn "_law_norm" none "_law_norm" "_law_norm" s__law_norm [] []) rfl
    exact ⟨_, fd, glo_ok X G (c.d.fact 34 (f := .glo "_law_norm") rfl), F, F.bindsN fun _ _ _ _ _ _ us hl => match us, hl with | [_], _ => rfl⟩
  d__law_parts := by
    obtain ⟨fd, F⟩ := c.d.def_ 18 (d := dfn "_law_parts" none "_law_parts" "_law_parts" s__law_parts [] []) rfl
    exact ⟨_, fd, glo_ok X G (c.d.fact 35 (f := .glo "_law_parts") rfl), F, F.bindsN fun _ _ _ _ _ _ us hl => match us, hl with | [_], _ => rfl⟩
  d__law_size := by
    obtain ⟨fd, F⟩ := c.d.def_ 19 (d := dfn "_law_size" none "_law_size" "_law_size" s__law_size [] []) rfl
    exact ⟨_, fd, glo_ok X G (c.d.fact 36 (f := .glo "_law_size") rfl), F, F.bindsN fun _ _ _ _ _ _ us hl => match us, hl with | [_], _ => rfl⟩
  d__law_grown := by
    obtain ⟨fd, F⟩ := c.d.def_ 20 (d := dfn "_law_grown" none "_law_grown" "_law_grown" s__law_grown [] []) rfl
    exact ⟨_, fd, glo_ok X G (c.d.fact 37 (f := .glo "_law_grown") rfl), F, F.bindsN fun _ _ _ _ _ _ us hl => match us, hl with | [_, _], _ => rfl⟩
  d__law_open := by
    obtain ⟨fd, F⟩ := c.d.def_ 21 (d := dfn "_law_open" none "_law_open" "_law_open" s__law_open [] []) rfl
    exact ⟨_, fd, glo_ok X G (c.d.fact 38 (f := .glo "_law_open") rfl), F, F.bindsN fun _ _ _ _ _ _ us hl => match us, hl with | [_, _], _ => rfl⟩
  d__law_product := by
    obtain ⟨fd, F⟩ := c.d.def_ 22 (d := dfn "_law_product" none "_law_product" "_law_product" s__law_product [] []) rfl
    exact ⟨_, fd, glo_ok X G (c.d.fact 39 (f := .glo "_law_product") rfl), F, F.bindsN fun _ _ _ _ _ _ us hl => match us, hl with | [_, _], _ => rfl⟩
  d__law_composed := by
    obtain ⟨fd, F⟩ := c.d.def_ 23 (d := dfn "_law_composed" none "_law_composed" "_law_composed" s__law_composed [] []) rfl
    exact ⟨_, fd, glo_ok X G (c.d.fact 40 (f := .glo "_law_composed") rfl), F, F.bindsN fun _ _ _ _ _ _ us hl => match us, hl with | [_, _], _ => rfl⟩
  d__law_any := by
    obtain ⟨fd, F⟩ := c.d.def_ 24 (d := dfn "_law_any" none "_law_any" "_law_any" s__law_any [] []) rfl
    exact ⟨_, fd, glo_ok X G (c.d.fact 41 (f := .glo "_law_any") rfl), F, F.bindsN fun _ _ _ _ _ _ us hl => match us, hl with | [_, _], _ => rfl⟩
  d__law_told := by
    obtain ⟨fd, F⟩ := c.d.def_ 25 (d := dfn "_law_told" none "_law_told" "_law_told" s__law_told [] []) rfl
    exact ⟨_, fd, glo_ok X G (c.d.fact 42 (f := .glo "_law_told") rfl), F, F.bindsN fun _ _ _ _ _ _ us hl => match us, hl with | [_, _], _ => rfl⟩
  d__law_ordered_sum := by
    obtain ⟨fd, F⟩ := c.d.def_ 26 (d := dfn "_law_ordered_sum" none "_law_ordered_sum" "_law_ordered_sum" s__law_ordered_sum [] []) rfl
    exact ⟨_, fd, glo_ok X G (c.d.fact 43 (f := .glo "_law_ordered_sum") rfl), F, F.bindsN fun _ _ _ _ _ _ us hl => match us, hl with | [_], _ => rfl⟩
  d__law_joined := by
    obtain ⟨fd, F⟩ := c.d.def_ 27 (d := dfn "_law_joined" none "_law_joined" "_law_joined" s__law_joined [] []) rfl
    exact ⟨_, fd, glo_ok X G (c.d.fact 44 (f := .glo "_law_joined") rfl), F, F.bindsN fun _ _ _ _ _ _ us hl => match us, hl with | [_, _], _ => rfl⟩
  d__law_value := by
    obtain ⟨fd, F⟩ := c.d.def_ 28 (d := dfn "_law_value" none "_law_value" "_law_value" s__law_value [] []) rfl
    exact ⟨_, fd, glo_ok X G (c.d.fact 45 (f := .glo "_law_value") rfl), F, F.bindsN fun _ _ _ _ _ _ us hl => match us, hl with | [_, _, _], _ => rfl⟩
  d__law_first := by
    obtain ⟨fd, F⟩ := c.d.def_ 29 (d := dfn "_law_first" none "_law_first" "_law_first" s__law_first [] []) rfl
    exact ⟨glo_ok X G (c.d.fact 46 (f := .glo "_law_first") rfl), fd, F, F.bindsN fun _ _ _ _ _ _ us hl => match us, hl with | [_, _], _ => rfl⟩
  tb__law_first := TB _ (List.mem_map.mpr ⟨("_law_first", none), List.mem_of_getElem? (i := 1) rfl, rfl⟩)
  d_law := by
    obtain ⟨fd, F⟩ := c.d.def_ 30 (d := dfn "law" none "law" "law" s_law [] []) rfl
    exact ⟨_, fd, glo_ok X G (c.d.fact 47 (f := .glo "law") rfl), F, F.bindsN fun _ _ _ _ _ _ us hl => match us, hl with | [_], _ => rfl⟩
  b_JetError := ⟨glo_ok X G (c.d.fact 48 (f := .glo "JetError") rfl), baseB_ok (all_at (exs c).2.2.2.2.1 0 (a := "JetError") rfl)⟩
  ny_Fold := of_decide_eq_true (all_at (ba c.more).1 0 (a := fun K : PySem.W.Frag => decide (¬ (He.ga K "Fold" = He.ga K "Fountain"))) rfl)
  ny_Adding := of_decide_eq_true (all_at (ba c.more).1 1 (a := fun K : PySem.W.Frag => decide (¬ (He.ga K "Adding" = He.ga K "Fountain"))) rfl)
  nt_made__law_first := of_decide_eq_true (all_at (ba c.more).1 2 (a := fun K : PySem.W.Frag => decide (¬ ((He.cT K ("made", none)).2 = (He.cT K ("_law_first", none)).2))) rfl)
  nb := fun h X => nbB_ok (ba (ba c.more).2).1 h X
  n_NotImplemented := free_ok X G (c.d.fact 49 (f := .free "NotImplemented") rfl)
  n_TypeError := free_ok X G (c.d.fact 50 (f := .free "TypeError") rfl)
  n_abs := free_ok X G (c.d.fact 51 (f := .free "abs") rfl)
  n_any := free_ok X G (c.d.fact 52 (f := .free "any") rfl)
  n_enumerate := free_ok X G (c.d.fact 53 (f := .free "enumerate") rfl)
  n_int := free_ok X G (c.d.fact 54 (f := .free "int") rfl)
  n_isinstance := free_ok X G (c.d.fact 55 (f := .free "isinstance") rfl)
  n_len := free_ok X G (c.d.fact 56 (f := .free "len") rfl)
  n_list := free_ok X G (c.d.fact 57 (f := .free "list") rfl)
  n_max := free_ok X G (c.d.fact 58 (f := .free "max") rfl)
  n_min := free_ok X G (c.d.fact 59 (f := .free "min") rfl)
  n_range := free_ok X G (c.d.fact 60 (f := .free "range") rfl)
  n_sorted := free_ok X G (c.d.fact 61 (f := .free "sorted") rfl)
  n_sum := free_ok X G (c.d.fact 62 (f := .free "sum") rfl)
  n_tuple := free_ok X G (c.d.fact 63 (f := .free "tuple") rfl)
theorem tabs_of {K : PySem.W.Frag} {H : Hp} (hH : ∀ p ∈ tf.map (cT K), H p.2 = some (.tbl #[])) : LamX.Tabs (TT K) H := fun q hq => by
  rcases List.mem_cons.mp hq with e | hq
  · subst e
    exact LamX.TabS.nil (hH _ (List.mem_map.mpr ⟨("made", none), List.mem_of_getElem? (i := 0) rfl, rfl⟩))
  rcases List.mem_cons.mp hq with e | hq
  · subst e
    exact LamX.TabS.nil (hH _ (List.mem_map.mpr ⟨("_law_first", none), List.mem_of_getElem? (i := 1) rfl, rfl⟩))
  · exact absurd hq (by simp)
theorem facts {w : World} {K : PySem.W.Frag} {h : Heap} {mg : Str → Option Value} {f : Addr} (X : K.In h) (G : h.Ns mainGlobals mg) (hfa : mg ("law" : Str) = some (.ref f)) (c : SaysE fa fn tf ex fx ts w h K) :
    LamX.LawAtS PySem.Challenge.rw_jetworks_k83_folds_that_are_held w K CX0 215 63 "_law_script" mg f h := by
  obtain ⟨fd, F⟩ := c.d.def_ 30 (d := dfn "law" none "law" "law" s_law [] []) rfl
  have e := hfa.symm.trans (glo_ok X G (c.d.fact 47 (f := .glo "law") rfl))
  cases e
  refine ⟨fd, tf.map (cT K), sp_law K, fun p hp => ?_, fun p hp => ?_, fun p hp => ?_, fun s v => FunD.bindsA (ps := ["_law_script"]) F (fun _ _ _ _ _ _ us hl => match us, hl with | [_], _ => rfl) s [v] rfl, fun H a ns hl _ hH hS => ⟨a, ns, rfl, hS, hl, tabs_of hH, fun _ => rfl⟩, fun base kb nb TB => fn_law (txt_of kb nb c TB) F⟩
  · obtain ⟨q, hq, rfl⟩ := List.mem_map.mp hp
    exact c.empty q hq
  · obtain ⟨q, hq, rfl⟩ := List.mem_map.mp hp
    exact c.out q hq
  · obtain ⟨q, hq, rfl⟩ := List.mem_map.mp hp
    exact PySem.W.codeHd_of_K X (c.hd q hq)

end JW
open PySem PySem.W PySem.Calls PyProof.Rows
set_option maxRecDepth 100000 in
set_option maxHeartbeats 0 in
theorem PySem.Challenge.cw_jetworks_k83_folds_that_are_held_holds : PySem.Challenge.rw_jetworks_k83_folds_that_are_held.Holds := by
  w_on; o_law
  refine HandSHeadRun.head_any (r := OpenLaw.row PySem.Challenge.rw_jetworks_k83_folds_that_are_held) (q := view (OpenLaw.row PySem.Challenge.rw_jetworks_k83_folds_that_are_held).prog [51]) (H := JW.hk) (ob := JW.ob) (M := 200000) (loose := JW.loose) (d := HandSHeadRun.topDef (OpenLaw.row PySem.Challenge.rw_jetworks_k83_folds_that_are_held).prog 51) (kwd := []) JW.ob_eq
    (by kernel_rfl) (fun s => by kernel_rfl) JW.run (by kernel_rfl) (by kernel_rfl) (by kernel_rfl) (by rfl) (by first | assumption | decide +kernel) (by decide +kernel) ⟨rfl, rfl, rfl, rfl, rfl, by decide +kernel⟩ ?hw ?hc
  case hw => w_witness2
  case hc =>
    refine LamX.walk_ofTsE (l := PySem.Challenge.rw_jetworks_k83_folds_that_are_held) (n := 63) (k := 215) (x := "_law_script") (CX := fun _ => L2.CX0) rfl (by decide) (by kernel_rfl) ⟨rfl, by decide, by decide⟩ ?F (fun _ _ _ _ _ z => z)
    intro w mg fa h Y G hmg0
    obtain ⟨K, KX, c⟩ := Y
    have hmg : mg ("law" : PySem.Str) = some (.ref fa) := by
      have e : (HandSHeadRun.topDef (OpenLaw.row PySem.Challenge.rw_jetworks_k83_folds_that_are_held).prog 51).name = ("law" : PySem.Str) := by kernel_rfl
      rw [← e]
      exact hmg0
    exact ⟨K, KX, JW.facts KX G hmg c⟩

