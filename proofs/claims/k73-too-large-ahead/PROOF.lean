import PyProof.Rows.All
import Wide.All
import OpenK.AllK
import Wide.FinOn
import KE.KStateDown
import Lean
import HandS.ForMost
import HandS.More
import HandS.Exc
import HandS.WordsExc
import HandS.Defaults
import HandS.Flow
import HandS.Style
import HandS.Wide
import HandS.IsInst
import HandS.Head0
import HandS.Head1
import HandS.Head2
import HandS.HeadEnd
import HandS.HeadHook1
import HandS.HeadHook2
import PyProof.NeKinds
import PyProof.InstNe
import OpenK.KMeth
import HandS.Property
import HandS.ClsMeth
import HandS.OwnEq
import KE.KSortKeyAny
import KE.KLam
import HandS.Lambda
import HandS.SortKw
import PyProof.Rows.SortShellAny
import KE.DataMinMax
import HandS.HeadHook4
import HandS.HeadWalk
import HandS.EndTab
import HandS.TupAny
import HandS.ExcInit
import HandS.ExcField
import HandS.ExcIs
import KE.KExcIs
import HandS.ExcOwn
import HandS.TryOnly
import HandS.TupMul
import PySem.Challenge.RW_jetworks_k73_too_large_ahead_of_too_deep
set_option Elab.async false
set_option linter.all false
set_option maxRecDepth 100000
set_option exponentiation.threshold 100000
set_option maxHeartbeats 4000000
set_option pp.maxSteps 700
/-! JWTree: fountains as trees, their texts; plain Lean. -/
namespace JW
inductive T where
  | jet
  | bas (l : List T)
mutual
def T.codes : T → List Nat
  | .jet => [111]
  | .bas l => 40 :: (codesL l ++ [41])
def codesL : List T → List Nat
  | [] => []
  | t :: r => t.codes ++ codesL r
end
theorem codesL_app : ∀ a b : List T, codesL (a ++ b) = codesL a ++ codesL b
  | [], _ => rfl
  | t :: r, b => by
    show t.codes ++ codesL (r ++ b) = (t.codes ++ codesL r) ++ codesL b
    rw [codesL_app r b, List.append_assoc]
theorem codesL_one (t : T) : codesL [t] = t.codes := List.append_nil _
/-! ### induction -/
mutual
theorem T.ind' {P : T → Prop} (hj : P .jet) (hb : ∀ l, (∀ t ∈ l, P t) → P (.bas l)) : ∀ t, P t
  | .jet => hj
  | .bas l => hb l (indL' hj hb l)
theorem indL' {P : T → Prop} (hj : P .jet) (hb : ∀ l, (∀ t ∈ l, P t) → P (.bas l)) : ∀ l : List T, ∀ t ∈ l, P t
  | [], _, h => nomatch h
  | u :: r, t, h => by
    rcases List.mem_cons.mp h with e | e
    · exact e ▸ T.ind' hj hb u
    · exact indL' hj hb r t e
end
/-! ### a text tells its tree -/
theorem codes_head : ∀ t : T, (∃ r, t.codes = 111 :: r) ∨ ∃ r, t.codes = 40 :: r
  | .jet => .inl ⟨[], rfl⟩
  | .bas l => .inr ⟨_, rfl⟩
mutual
theorem codes_pre : ∀ (t u : T) (r s : List Nat), t.codes ++ r = u.codes ++ s → t = u ∧ r = s
  | .jet, .jet, r, s, h => ⟨rfl, List.cons.inj h |>.2⟩
  | .jet, .bas l, r, s, h => by
    have h1 : (111 : Nat) = 40 := (List.cons.inj h).1
    cases h1
  | .bas l, .jet, r, s, h => by
    have h1 : (40 : Nat) = 111 := (List.cons.inj h).1
    cases h1
  | .bas l, .bas m, r, s, h => by
    have h1 : codesL l ++ [41] ++ r = codesL m ++ [41] ++ s := (List.cons.inj h).2
    rw [List.append_assoc, List.append_assoc] at h1
    obtain ⟨e1, e2⟩ := codesL_pre l m r s h1
    exact ⟨by rw [e1], e2⟩
theorem codesL_pre : ∀ (l m : List T) (r s : List Nat), codesL l ++ ([41] ++ r) = codesL m ++ ([41] ++ s) → l = m ∧ r = s
  | [], [], r, s, h => ⟨rfl, (List.cons.inj h).2⟩
  | [], u :: m, r, s, h => by
    have h1 : 41 :: r = u.codes ++ (codesL m ++ ([41] ++ s)) := by
      have h2 : codesL (u :: m) ++ ([41] ++ s) = u.codes ++ (codesL m ++ ([41] ++ s)) := List.append_assoc _ _ _
      rw [← h2]
      exact h
    rcases codes_head u with ⟨q, e⟩ | ⟨q, e⟩
    · rw [e] at h1
      cases (List.cons.inj h1).1
    · rw [e] at h1
      cases (List.cons.inj h1).1
  | t :: l, [], r, s, h => by
    have h1 : t.codes ++ (codesL l ++ ([41] ++ r)) = 41 :: s := by
      have h2 : codesL (t :: l) ++ ([41] ++ r) = t.codes ++ (codesL l ++ ([41] ++ r)) := List.append_assoc _ _ _
      rw [← h2]
      exact h
    rcases codes_head t with ⟨q, e⟩ | ⟨q, e⟩
    · rw [e] at h1
      cases (List.cons.inj h1).1
    · rw [e] at h1
      cases (List.cons.inj h1).1
  | t :: l, u :: m, r, s, h => by
    have h1 : t.codes ++ (codesL l ++ ([41] ++ r)) = u.codes ++ (codesL m ++ ([41] ++ s)) := by
      have h2 : codesL (t :: l) ++ ([41] ++ r) = t.codes ++ (codesL l ++ ([41] ++ r)) := List.append_assoc _ _ _
      have h3 : codesL (u :: m) ++ ([41] ++ s) = u.codes ++ (codesL m ++ ([41] ++ s)) := List.append_assoc _ _ _
      rw [← h2, ← h3]
      exact h
    obtain ⟨e1, e2⟩ := codes_pre t u _ _ h1
    obtain ⟨e3, e4⟩ := codesL_pre l m r s e2
    exact ⟨by rw [e1, e3], e4⟩
end
theorem codes_inj {t u : T} (h : t.codes = u.codes) : t = u := (codes_pre t u [] [] (by rw [h])).1
instance : DecidableEq T := fun a b => if h : a.codes = b.codes then isTrue (codes_inj h) else isFalse fun e => h (e ▸ rfl)
/-! ### order -/
def tle (a b : T) : Bool := !decide (b.codes < a.codes)
theorem tle_trans (a b c : T) (h1 : tle a b = true) (h2 : tle b c = true) : tle a c = true := by
  unfold tle at *
  simp only [Bool.not_eq_true', decide_eq_false_iff_not] at *
  exact fun h => h1 (List.lt_of_le_of_lt (List.not_lt.mp h2) h)
theorem tle_total (a b : T) : (tle a b || tle b a) = true := by
  unfold tle
  by_cases h : b.codes < a.codes
  · have h2 : ¬ a.codes < b.codes := List.lt_asymm h
    simp [h2]
  · simp [h]
theorem tle_anti {a b : T} (h1 : tle a b = true) (h2 : tle b a = true) : a = b := by
  unfold tle at *
  simp only [Bool.not_eq_true', decide_eq_false_iff_not] at *
  exact codes_inj (List.le_antisymm (List.not_lt.mp h1) (List.not_lt.mp h2))
abbrev Srt (l : List T) : Prop := l.Pairwise fun a b => tle a b = true
def sortT (l : List T) : List T := l.mergeSort tle
theorem sortT_perm (l : List T) : (sortT l).Perm l := List.mergeSort_perm l tle
theorem sortT_srt (l : List T) : Srt (sortT l) := List.pairwise_mergeSort tle_trans tle_total l
theorem srt_unique : ∀ {a b : List T}, a.Perm b → Srt a → Srt b → a = b
  | [], b, p, _, _ => (List.nil_perm.mp p).symm ▸ rfl
  | x :: a, [], p, _, _ => absurd p.length_eq (by simp)
  | x :: a, y :: b, p, ha, hb => by
    have hx := List.pairwise_cons.mp ha
    have hy := List.pairwise_cons.mp hb
    have exy : x = y := by
      have h1 : x ∈ y :: b := p.mem_iff.mp List.mem_cons_self
      have h2 : y ∈ x :: a := p.mem_iff.mpr List.mem_cons_self
      rcases List.mem_cons.mp h1 with e | h1
      · exact e
      · rcases List.mem_cons.mp h2 with e | h2
        · exact e.symm
        · exact tle_anti (hx.1 y h2) (hy.1 x h1)
    subst exy
    rw [srt_unique (List.Perm.cons_inv p) hx.2 hy.2]
theorem sortT_eq {a b : List T} (p : a.Perm b) (h : Srt a) : a = sortT b := srt_unique (p.trans (sortT_perm b).symm) h (sortT_srt b)
theorem sortT_congr {a b : List T} (p : a.Perm b) : sortT a = sortT b := srt_unique ((sortT_perm a).trans (p.trans (sortT_perm b).symm)) (sortT_srt a) (sortT_srt b)
theorem sortT_of {a : List T} (h : Srt a) : sortT a = a := (sortT_eq (List.Perm.refl a) h).symm
/-! ### the fountain of a tree: branches in order throughout -/
mutual
def T.canon : T → T
  | .jet => .jet
  | .bas l => .bas (sortT (canonL l))
def canonL : List T → List T
  | [] => []
  | t :: r => t.canon :: canonL r
end
theorem canonL_map : ∀ l : List T, canonL l = l.map T.canon
  | [] => rfl
  | t :: r => by
    show t.canon :: canonL r = t.canon :: r.map T.canon
    rw [canonL_map r]
theorem canon_bas (l : List T) : (T.bas l).canon = .bas (sortT (l.map T.canon)) := by
  show T.bas (sortT (canonL l)) = _
  rw [canonL_map]
/-! ### in order throughout -/
mutual
def Can : T → Prop
  | .jet => True
  | .bas l => Srt l ∧ CanL l
def CanL : List T → Prop
  | [] => True
  | t :: r => Can t ∧ CanL r
end
theorem canL_iff : ∀ {l : List T}, CanL l ↔ ∀ t ∈ l, Can t
  | [] => ⟨fun _ _ h => (nomatch h), fun _ => trivial⟩
  | t :: r => by
    constructor
    · intro h u hu
      have h1 : Can t := h.1
      have h2 : CanL r := h.2
      rcases List.mem_cons.mp hu with e | e
      · exact e ▸ h1
      · exact canL_iff.mp h2 u e
    · exact fun h => ⟨h t List.mem_cons_self, canL_iff.mpr fun u hu => h u (List.mem_cons_of_mem _ hu)⟩
theorem can_canon : ∀ t : T, Can t → t.canon = t := by
  refine T.ind' (fun _ => rfl) fun l ih h => ?_
  rw [canon_bas]
  have e : l.map T.canon = l := by
    rw [show l.map T.canon = l.map id from List.map_congr_left fun t ht => ih t ht (canL_iff.mp h.2 t ht), List.map_id]
  rw [e, sortT_of h.1]
theorem canL_sort {l : List T} (h : CanL l) : CanL (sortT l) := canL_iff.mpr fun t ht => canL_iff.mp h t ((sortT_perm l).mem_iff.mp ht)
theorem can_bas {l : List T} (h : CanL l) : Can (.bas (sortT l)) := ⟨sortT_srt l, canL_sort h⟩
theorem canon_can : ∀ t : T, Can t.canon := by
  refine T.ind' trivial fun l ih => ?_
  rw [canon_bas]
  refine can_bas (canL_iff.mpr fun t ht => ?_)
  obtain ⟨u, hu, e⟩ := List.mem_map.mp ht
  exact e ▸ ih u hu
theorem canon_idem (t : T) : t.canon.canon = t.canon := can_canon _ (canon_can t)
theorem canL_map (l : List T) : CanL (l.map T.canon) := canL_iff.mpr fun t ht => by
  obtain ⟨u, _, e⟩ := List.mem_map.mp ht
  exact e ▸ canon_can u
/-! ### counted -/
mutual
def T.size : T → Nat
  | .jet => 1
  | .bas l => 1 + sizeL l
def sizeL : List T → Nat
  | [] => 0
  | t :: r => t.size + sizeL r
end
mutual
def T.jts : T → Nat
  | .jet => 1
  | .bas l => jtsL l
def jtsL : List T → Nat
  | [] => 0
  | t :: r => t.jts + jtsL r
end
mutual
def T.dep : T → Nat
  | .jet => 0
  | .bas l => 1 + depL l
def depL : List T → Nat
  | [] => 0
  | t :: r => max t.dep (depL r)
end
mutual
def T.lng : T → Nat
  | .jet => 0
  | .bas l => 1 + lngL l
def lngL : List T → Nat
  | [] => 0
  | t :: r => if t.jts = 0 then lngL r else max t.lng (lngL r)
end
mutual
def T.sht : T → Nat
  | .jet => 0
  | .bas l => 1 + shtL l
def shtL : List T → Nat
  | [] => 0
  | t :: r => if t.jts = 0 then shtL r else if jtsL r = 0 then t.sht else min t.sht (shtL r)
end
theorem sizeL_sum : ∀ l : List T, sizeL l = (l.map T.size).sum
  | [] => rfl
  | t :: r => by
    show t.size + sizeL r = _
    rw [sizeL_sum r, List.map_cons, List.sum_cons]
theorem jtsL_sum : ∀ l : List T, jtsL l = (l.map T.jts).sum
  | [] => rfl
  | t :: r => by
    show t.jts + jtsL r = _
    rw [jtsL_sum r, List.map_cons, List.sum_cons]
theorem sizeL_perm {a b : List T} (p : a.Perm b) : sizeL a = sizeL b := by rw [sizeL_sum, sizeL_sum, (p.map T.size).sum_nat]
theorem jtsL_perm {a b : List T} (p : a.Perm b) : jtsL a = jtsL b := by rw [jtsL_sum, jtsL_sum, (p.map T.jts).sum_nat]
theorem depL_perm {a b : List T} (p : a.Perm b) : depL a = depL b := by
  induction p with
  | nil => rfl
  | cons x _ ih => show max _ _ = max _ _; rw [ih]
  | swap x y l => show max _ (max _ _) = max _ (max _ _); omega
  | trans _ _ h1 h2 => exact h1.trans h2
theorem lngL_perm {a b : List T} (p : a.Perm b) : lngL a = lngL b := by
  induction p with
  | nil => rfl
  | cons x _ ih => show ite _ _ _ = ite _ _ _; rw [ih]
  | swap x y l =>
    show ite _ (ite _ _ _) (max _ (ite _ _ _)) = ite _ (ite _ _ _) (max _ (ite _ _ _))
    split <;> split <;> omega
  | trans _ _ h1 h2 => exact h1.trans h2
theorem shtL_perm {a b : List T} (p : a.Perm b) : shtL a = shtL b := by
  induction p with
  | nil => rfl
  | @cons x l1 l2 p ih =>
    show ite _ _ (ite _ _ _) = ite _ _ (ite _ _ _)
    rw [ih, jtsL_perm p]
  | swap x y l =>
    show ite (y.jts = 0) (ite (x.jts = 0) _ (ite _ _ _)) (ite (x.jts + jtsL l = 0) _ (min _ (ite (x.jts = 0) _ (ite _ _ _)))) = ite (x.jts = 0) (ite (y.jts = 0) _ (ite _ _ _)) (ite (y.jts + jtsL l = 0) _ (min _ (ite (y.jts = 0) _ (ite _ _ _))))
    by_cases h1 : x.jts = 0 <;> by_cases h2 : y.jts = 0 <;> by_cases h3 : jtsL l = 0 <;> simp [h1, h2, h3] <;> omega
  | trans _ _ h1 h2 => exact h1.trans h2
theorem size_pos : ∀ t : T, 0 < t.size
  | .jet => Nat.zero_lt_one
  | .bas l => by show 0 < 1 + sizeL l; omega
theorem canon_size : ∀ t : T, t.canon.size = t.size := by
  refine T.ind' rfl fun l ih => ?_
  rw [canon_bas]
  show 1 + sizeL (sortT (l.map T.canon)) = 1 + sizeL l
  rw [sizeL_perm (sortT_perm _), sizeL_sum, sizeL_sum, List.map_map, List.map_congr_left (f := T.size ∘ T.canon) fun t ht => ih t ht]
theorem canon_jts : ∀ t : T, t.canon.jts = t.jts := by
  refine T.ind' rfl fun l ih => ?_
  rw [canon_bas]
  show jtsL (sortT (l.map T.canon)) = jtsL l
  rw [jtsL_perm (sortT_perm _), jtsL_sum, jtsL_sum, List.map_map, List.map_congr_left (f := T.jts ∘ T.canon) fun t ht => ih t ht]
theorem depL_congr {f : T → T} : ∀ {l : List T}, (∀ t ∈ l, (f t).dep = t.dep) → depL (l.map f) = depL l
  | [], _ => rfl
  | t :: r, h => by
    show max _ _ = max _ _
    rw [h t List.mem_cons_self, depL_congr fun u hu => h u (List.mem_cons_of_mem _ hu)]
theorem canon_dep : ∀ t : T, t.canon.dep = t.dep := by
  refine T.ind' rfl fun l ih => ?_
  rw [canon_bas]
  show 1 + depL (sortT (l.map T.canon)) = 1 + depL l
  rw [depL_perm (sortT_perm _), depL_congr ih]
/-- a text's length: two signs for a basin, one for a jet -/
theorem codes_len : ∀ t : T, t.codes.length + t.jts = 2 * t.size ∧ 1 ≤ t.codes.length := by
  refine T.ind' ⟨rfl, Nat.le_refl _⟩ fun l ih => ?_
  have e : ∀ l : List T, (∀ t ∈ l, t.codes.length + t.jts = 2 * t.size ∧ 1 ≤ t.codes.length) → (codesL l).length + jtsL l = 2 * sizeL l := by
    intro l
    induction l with
    | nil => intro _; rfl
    | cons t r ihr =>
      intro h
      have h1 := (h t List.mem_cons_self).1
      have h2 := ihr fun u hu => h u (List.mem_cons_of_mem _ hu)
      show (t.codes ++ codesL r).length + (t.jts + jtsL r) = 2 * (t.size + sizeL r)
      rw [List.length_append]
      omega
  have h := e l ih
  show (40 :: (codesL l ++ [41])).length + jtsL l = 2 * (1 + sizeL l) ∧ 1 ≤ (40 :: (codesL l ++ [41])).length
  rw [List.length_cons, List.length_append, List.length_singleton]
  omega
theorem len_le {t : T} {l : List T} (h : t ∈ l) : t.size ≤ sizeL l := by
  induction l with
  | nil => cases h
  | cons u r ih =>
    show _ ≤ u.size + sizeL r
    rcases List.mem_cons.mp h with e | e
    · subst e; omega
    · have := ih e; omega
theorem length_le : ∀ l : List T, l.length ≤ sizeL l
  | [] => Nat.le_refl _
  | t :: r => by
    have := length_le r
    have := size_pos t
    show r.length + 1 ≤ t.size + sizeL r
    omega
theorem dep_le_size : ∀ t : T, t.dep + 1 ≤ t.size + 1 := by
  refine T.ind' (by decide) fun l ih => ?_
  have e : ∀ l : List T, (∀ t ∈ l, t.dep + 1 ≤ t.size + 1) → depL l ≤ sizeL l := by
    intro l
    induction l with
    | nil => intro _; exact Nat.le_refl _
    | cons t r ihr =>
      intro h
      have h1 := h t List.mem_cons_self
      have h2 := ihr fun u hu => h u (List.mem_cons_of_mem _ hu)
      show max t.dep (depL r) ≤ t.size + sizeL r
      omega
  have := e l ih
  show 1 + depL l + 1 ≤ 1 + sizeL l + 1
  omega
/-! ### a text read sign by sign -/
/-- the stack of what is open (the inmost first), what is found -/
abbrev PSt := List (List T) × Option T
/-- a piece is complete: it goes into what is open, or is the whole -/
def pput (t : T) : List (List T) → PSt
  | [] => ([], some t)
  | p :: r => ((p ++ [t]) :: r, none)
def pstep (s : PSt) (c : Nat) : Option PSt := match s.2 with
  | some _ => none
  | none => if c = 40 then some ([] :: s.1, none) else if c = 111 then some (pput .jet s.1) else if c = 41 then
      (match s.1 with
      | [] => none
      | p :: r => some (pput (.bas (sortT p)) r)) else none
def prun : List Nat → PSt → Option PSt
  | [], s => some s
  | c :: r, s => (pstep s c).bind (prun r)
mutual
theorem prun_codes : ∀ (t : T) (k : List Nat) (st : List (List T)), prun (t.codes ++ k) (st, none) = prun k (pput t.canon st)
  | .jet, k, st => rfl
  | .bas l, k, st => by
    show prun (codesL l ++ [41] ++ k) ([] :: st, none) = _
    rw [List.append_assoc, prun_codesL l ([41] ++ k) [] st, List.nil_append]
    show prun k (pput (.bas (sortT (canonL l))) st) = _
    rfl
theorem prun_codesL : ∀ (l : List T) (k : List Nat) (p : List T) (st : List (List T)), prun (codesL l ++ k) (p :: st, none) = prun k ((p ++ canonL l) :: st, none)
  | [], k, p, st => by
    show prun k _ = prun k ((p ++ []) :: st, none)
    rw [List.append_nil]
  | t :: r, k, p, st => by
    show prun (t.codes ++ codesL r ++ k) _ = prun k ((p ++ (t.canon :: canonL r)) :: st, none)
    rw [List.append_assoc, prun_codes t (codesL r ++ k) (p :: st)]
    show prun (codesL r ++ k) ((p ++ [t.canon]) :: st, none) = _
    rw [prun_codesL r k (p ++ [t.canon]) st, List.append_assoc]
    rfl
end
theorem prun_all (t : T) : prun t.codes ([], none) = some ([], some t.canon) := by
  have h := prun_codes t [] []
  rw [List.append_nil] at h
  exact h
/-! ### greatest and least -/
def opn (t : T) : Bool := decide (0 < t.jts)
theorem jtsL_zero : ∀ {l : List T}, jtsL l = 0 ↔ l.filter opn = []
  | [] => ⟨fun _ => rfl, fun _ => rfl⟩
  | t :: r => by
    have ih := jtsL_zero (l := r)
    show t.jts + jtsL r = 0 ↔ _
    rw [List.filter_cons]
    unfold opn at *
    by_cases h : 0 < t.jts
    · simp [h]; omega
    · simp only [h, decide_false]
      simp only [Bool.false_eq_true, if_false]
      rw [← ih]
      omega
theorem lngL_in : ∀ {l : List T}, jtsL l ≠ 0 → lngL l ∈ (l.filter opn).map T.lng
  | [], h => absurd rfl h
  | t :: r, h => by
    have ih := lngL_in (l := r)
    have h2 : t.jts + jtsL r ≠ 0 := h
    show ite _ _ _ ∈ _
    rw [List.filter_cons]
    by_cases ht : t.jts = 0
    · have e : opn t = false := by unfold opn; simp [ht]
      rw [if_pos ht, e]
      simp only [Bool.false_eq_true, if_false]
      exact ih (by omega)
    · have e : opn t = true := by unfold opn; simp; omega
      rw [if_neg ht, e, if_pos rfl, List.map_cons]
      by_cases hr : jtsL r = 0
      · have e2 : lngL r = 0 := by
          have e3 : ∀ l : List T, jtsL l = 0 → lngL l = 0 := by
            intro l
            induction l with
            | nil => intro _; rfl
            | cons u q ihq =>
              intro hq
              have h3 : u.jts + jtsL q = 0 := hq
              show ite _ _ _ = 0
              rw [if_pos (by omega)]
              exact ihq (by omega)
          exact e3 r hr
        rw [e2, Nat.max_eq_left (Nat.zero_le _)]
        exact List.mem_cons_self
      · by_cases hm : t.lng ≤ lngL r
        · rw [Nat.max_eq_right hm]
          exact List.mem_cons_of_mem _ (ih hr)
        · rw [Nat.max_eq_left (by omega)]
          exact List.mem_cons_self
theorem lngL_le : ∀ {l : List T} {t : T}, t ∈ l.filter opn → t.lng ≤ lngL l
  | [], t, h => by cases h
  | u :: r, t, h => by
    show _ ≤ ite _ _ _
    rw [List.filter_cons] at h
    by_cases ht : u.jts = 0
    · have e : opn u = false := by unfold opn; simp [ht]
      rw [e] at h
      rw [if_pos ht]
      exact lngL_le h
    · have e : opn u = true := by unfold opn; simp; omega
      rw [e, if_pos rfl] at h
      rw [if_neg ht]
      rcases List.mem_cons.mp h with z | z
      · subst z; omega
      · have := lngL_le z; omega
theorem shtL_in : ∀ {l : List T}, jtsL l ≠ 0 → shtL l ∈ (l.filter opn).map T.sht
  | [], h => absurd rfl h
  | t :: r, h => by
    have ih := shtL_in (l := r)
    have h2 : t.jts + jtsL r ≠ 0 := h
    show ite _ _ (ite _ _ _) ∈ _
    rw [List.filter_cons]
    by_cases ht : t.jts = 0
    · have e : opn t = false := by unfold opn; simp [ht]
      rw [if_pos ht, e]
      simp only [Bool.false_eq_true, if_false]
      exact ih (by omega)
    · have e : opn t = true := by unfold opn; simp; omega
      rw [if_neg ht, e, if_pos rfl, List.map_cons]
      by_cases hr : jtsL r = 0
      · rw [if_pos hr]
        exact List.mem_cons_self
      · rw [if_neg hr]
        by_cases hm : t.sht ≤ shtL r
        · rw [Nat.min_eq_left hm]
          exact List.mem_cons_self
        · rw [Nat.min_eq_right (by omega)]
          exact List.mem_cons_of_mem _ (ih hr)
theorem shtL_le : ∀ {l : List T} {t : T}, t ∈ l.filter opn → shtL l ≤ t.sht
  | [], t, h => by cases h
  | u :: r, t, h => by
    show ite _ _ (ite _ _ _) ≤ _
    rw [List.filter_cons] at h
    by_cases ht : u.jts = 0
    · have e : opn u = false := by unfold opn; simp [ht]
      rw [e] at h
      rw [if_pos ht]
      exact shtL_le h
    · have e : opn u = true := by unfold opn; simp; omega
      rw [e, if_pos rfl] at h
      rw [if_neg ht]
      rcases List.mem_cons.mp h with z | z
      · subst z; split <;> omega
      · have h1 := shtL_le z
        have h2 : jtsL r ≠ 0 := fun q => by
          rw [jtsL_zero.mp q] at z
          cases z
        rw [if_neg h2]
        omega
theorem lng_max {l : List T} {m : Int} (h : jtsL l ≠ 0) (h1 : m ∈ (l.filter opn).map fun t => (t.lng : Int)) (h2 : ∀ y ∈ (l.filter opn).map (fun t => (t.lng : Int)), y ≤ m) : m = (lngL l : Nat) := by
  obtain ⟨t, ht, e⟩ := List.mem_map.mp h1
  have a := lngL_le ht
  obtain ⟨u, hu, e2⟩ := List.mem_map.mp (lngL_in h)
  have b := h2 _ (List.mem_map.mpr ⟨u, hu, rfl⟩)
  omega
theorem sht_min {l : List T} {m : Int} (h : jtsL l ≠ 0) (h1 : m ∈ (l.filter opn).map fun t => (t.sht : Int)) (h2 : ∀ y ∈ (l.filter opn).map (fun t => (t.sht : Int)), m ≤ y) : m = (shtL l : Nat) := by
  obtain ⟨t, ht, e⟩ := List.mem_map.mp h1
  have a := shtL_le ht
  obtain ⟨u, hu, e2⟩ := List.mem_map.mp (shtL_in h)
  have b := h2 _ (List.mem_map.mpr ⟨u, hu, rfl⟩)
  omega
theorem dep_fold {l : List T} {n : Int} {r : List Int} (h : (l.map fun t => (t.dep : Int)) = n :: r) : r.foldl max n = (depL l : Nat) := by
  have go : ∀ (l : List T) (n : Int), 0 ≤ n → (l.map fun t => (t.dep : Int)).foldl max n = max n (depL l : Nat) := by
    intro l
    induction l with
    | nil =>
      intro n hn
      show n = max n (0 : Nat)
      omega
    | cons t q ih =>
      intro n hn
      rw [List.map_cons, List.foldl_cons, ih _ (by omega)]
      show max (max n (t.dep : Int)) (depL q : Nat) = max n ((max t.dep (depL q) : Nat) : Int)
      omega
  cases l with
  | nil => cases h
  | cons t q =>
    rw [List.map_cons] at h
    injection h with h1 h2
    subst h1 h2
    rw [go q _ (by omega)]
    show max (t.dep : Int) (depL q : Nat) = ((max t.dep (depL q) : Nat) : Int)
    omega
/-! ### the weight of what is read -/
def wtL : List (List T) → Nat
  | [] => 0
  | p :: r => 1 + sizeL p + wtL r
def wtS (s : PSt) : Nat := wtL s.1 + (match s.2 with
  | some t => t.size
  | none => 0)
theorem sizeL_app (a b : List T) : sizeL (a ++ b) = sizeL a + sizeL b := by
  rw [sizeL_sum, sizeL_sum, sizeL_sum, List.map_append, List.sum_append]
theorem pput_wt (t : T) (st : List (List T)) : wtS (pput t st) = wtL st + t.size := by
  cases st with
  | nil => rfl
  | cons p r =>
    show 1 + sizeL (p ++ [t]) + wtL r + 0 = 1 + sizeL p + wtL r + t.size
    rw [sizeL_app]
    show 1 + (sizeL p + (t.size + 0)) + wtL r + 0 = _
    omega
theorem pstep_wt {s s' : PSt} {c : Nat} (h : pstep s c = some s') : wtS s' ≤ wtS s + 1 := by
  obtain ⟨st, fd⟩ := s
  unfold pstep at h
  cases fd with
  | some t => cases h
  | none =>
    simp only at h
    split at h
    · cases h
      show 1 + 0 + wtL st + 0 ≤ wtL st + 0 + 1
      omega
    · split at h
      · cases h
        rw [pput_wt]
        show wtL st + 1 ≤ wtL st + 0 + 1
        omega
      · split at h
        · cases st with
          | nil => cases h
          | cons p r =>
            cases h
            rw [pput_wt]
            show wtL r + (1 + sizeL (sortT p)) ≤ 1 + sizeL p + wtL r + 0 + 1
            rw [sizeL_perm (sortT_perm p)]
            omega
        · cases h
theorem wtL_len : ∀ st : List (List T), st.length ≤ wtL st
  | [] => Nat.le_refl _
  | p :: r => by
    have := wtL_len r
    show r.length + 1 ≤ 1 + sizeL p + wtL r
    omega
/-- one sign more is read -/
theorem prun_step {l : List Nat} {i c : Nat} {s e : PSt} (hc : l[i]? = some c) (h : prun (l.drop i) s = some e) : ∃ s', pstep s c = some s' ∧ prun (l.drop (i + 1)) s' = some e := by
  have hi : i < l.length := (List.getElem?_eq_some_iff.mp hc).1
  rw [List.drop_eq_getElem_cons hi] at h
  have e1 : l[i] = c := (List.getElem?_eq_some_iff.mp hc).2
  rw [e1] at h
  have h2 : (pstep s c).bind (prun (l.drop (i + 1))) = some e := h
  exact Option.bind_eq_some_iff.mp h2
theorem pstep_cases {st : List (List T)} {fd : Option T} {c : Nat} {s' : PSt} (h : pstep (st, fd) c = some s') : fd = none ∧ ((c = 40 ∧ s' = ([] :: st, none)) ∨ (c = 111 ∧ s' = pput .jet st) ∨ (c = 41 ∧ ∃ p r, st = p :: r ∧ s' = pput (.bas (sortT p)) r)) := by
  unfold pstep at h
  cases fd with
  | some t => cases h
  | none =>
    refine ⟨rfl, ?_⟩
    simp only at h
    split at h
    · rename_i e
      cases h
      exact .inl ⟨e, rfl⟩
    · split at h
      · rename_i e
        cases h
        exact .inr (.inl ⟨e, rfl⟩)
      · split at h
        · rename_i e
          cases st with
          | nil => cases h
          | cons p r =>
            cases h
            exact .inr (.inr ⟨e, p, r, rfl, rfl⟩)
        · cases h
end JW
/-! JWGraft: a tree in the place of every jet; cut again; plain Lean. -/
namespace JW
mutual
def T.grf (p : T) : T → T
  | .jet => p
  | .bas l => .bas (sortT (grfL p l))
def grfL (p : T) : List T → List T
  | [] => []
  | t :: r => T.grf p t :: grfL p r
end
theorem grfL_map (p : T) : ∀ l : List T, grfL p l = l.map (T.grf p)
  | [] => rfl
  | t :: r => by
    show T.grf p t :: grfL p r = T.grf p t :: r.map (T.grf p)
    rw [grfL_map p r]
theorem grf_bas (p : T) (l : List T) : T.grf p (.bas l) = .bas (sortT (l.map (T.grf p))) := by
  show T.bas (sortT (grfL p l)) = _
  rw [grfL_map]
theorem grf_can {p : T} (hp : Can p) : ∀ t : T, Can (T.grf p t) := by
  refine T.ind' hp fun l ih => ?_
  rw [grf_bas]
  refine can_bas (canL_iff.mpr fun t ht => ?_)
  obtain ⟨u, hu, e⟩ := List.mem_map.mp ht
  exact e ▸ ih u hu
theorem grf_jts (p : T) : ∀ t : T, (T.grf p t).jts = t.jts * p.jts := by
  refine T.ind' (Nat.one_mul _).symm fun l ih => ?_
  rw [grf_bas]
  show jtsL (sortT (l.map (T.grf p))) = jtsL l * p.jts
  rw [jtsL_perm (sortT_perm _)]
  have go : ∀ l : List T, (∀ t ∈ l, (T.grf p t).jts = t.jts * p.jts) → jtsL (l.map (T.grf p)) = jtsL l * p.jts := by
    intro l
    induction l with
    | nil => intro _; exact (Nat.zero_mul _).symm
    | cons t r ihr =>
      intro h
      show (T.grf p t).jts + jtsL (r.map (T.grf p)) = (t.jts + jtsL r) * p.jts
      rw [h t List.mem_cons_self, ihr fun u hu => h u (List.mem_cons_of_mem _ hu), Nat.add_mul]
  exact go l ih
theorem grf_size (p : T) : ∀ t : T, (T.grf p t).size + t.jts = t.size + t.jts * p.size := by
  refine T.ind' ?_ fun l ih => ?_
  · show p.size + 1 = 1 + 1 * p.size
    omega
  rw [grf_bas]
  show 1 + sizeL (sortT (l.map (T.grf p))) + jtsL l = 1 + sizeL l + jtsL l * p.size
  rw [sizeL_perm (sortT_perm _)]
  have go : ∀ l : List T, (∀ t ∈ l, (T.grf p t).size + t.jts = t.size + t.jts * p.size) → sizeL (l.map (T.grf p)) + jtsL l = sizeL l + jtsL l * p.size := by
    intro l
    induction l with
    | nil =>
      intro _
      show 0 + 0 = 0 + 0 * p.size
      omega
    | cons t r ihr =>
      intro h
      have h1 := h t List.mem_cons_self
      have h2 := ihr fun u hu => h u (List.mem_cons_of_mem _ hu)
      show (T.grf p t).size + sizeL (r.map (T.grf p)) + (t.jts + jtsL r) = t.size + sizeL r + (t.jts + jtsL r) * p.size
      rw [Nat.add_mul]
      omega
  have := go l ih
  omega
theorem jtsL_all {l : List T} (h : jtsL l = 0) {t : T} (ht : t ∈ l) : t.jts = 0 := by
  induction l with
  | nil => cases ht
  | cons u r ih =>
    have h2 : u.jts + jtsL r = 0 := h
    rcases List.mem_cons.mp ht with e | e
    · subst e; omega
    · exact ih (by omega) e
theorem grf_closed (p : T) : ∀ t : T, Can t → t.jts = 0 → T.grf p t = t := by
  refine T.ind' (fun _ h => absurd h (by decide)) fun l ih hc h => ?_
  rw [grf_bas]
  have e : l.map (T.grf p) = l := by
    rw [show l.map (T.grf p) = l.map id from List.map_congr_left fun t ht => ih t ht (canL_iff.mp hc.2 t ht) (jtsL_all h ht), List.map_id]
  rw [e, sortT_of hc.1]
/-! ### cut -/
mutual
def cutT (b : T) : T → T
  | .jet => .jet
  | .bas l => if T.bas l = b then .jet else if jtsL l = 0 then .bas l else .bas (sortT (cutL b l))
def cutL (b : T) : List T → List T
  | [] => []
  | t :: r => cutT b t :: cutL b r
end
theorem cutL_map (b : T) : ∀ l : List T, cutL b l = l.map (cutT b)
  | [] => rfl
  | t :: r => by
    show cutT b t :: cutL b r = cutT b t :: r.map (cutT b)
    rw [cutL_map b r]
theorem cut_bas (b : T) (l : List T) : cutT b (.bas l) = if T.bas l = b then .jet else if jtsL l = 0 then .bas l else .bas (sortT (l.map (cutT b))) := by
  show (if T.bas l = b then T.jet else if jtsL l = 0 then .bas l else .bas (sortT (cutL b l))) = _
  rw [cutL_map]
theorem cut_self (b : T) : cutT b b = .jet := by
  cases b with
  | jet => rfl
  | bas l => rw [cut_bas, if_pos rfl]
/-! every jet lies in a piece b -/
mutual
def cov (b : T) : T → Bool
  | .jet => decide (T.jet = b)
  | .bas l => decide (T.bas l = b) || covL b l
def covL (b : T) : List T → Bool
  | [] => true
  | t :: r => cov b t && covL b r
end
theorem covL_all {b : T} : ∀ {l : List T}, covL b l = true ↔ ∀ t ∈ l, cov b t = true
  | [] => ⟨fun _ _ h => (nomatch h), fun _ => rfl⟩
  | t :: r => by
    constructor
    · intro h u hu
      have h2 : (cov b t && covL b r) = true := h
      obtain ⟨h3, h4⟩ := Bool.and_eq_true_iff.mp h2
      rcases List.mem_cons.mp hu with e | e
      · exact e ▸ h3
      · exact covL_all.mp h4 u e
    · intro h
      show (cov b t && covL b r) = true
      rw [h t List.mem_cons_self, covL_all.mpr fun u hu => h u (List.mem_cons_of_mem _ hu)]
      rfl
theorem cov_self (b : T) : cov b b = true := by
  cases b with
  | jet => rfl
  | bas l =>
    show (decide (T.bas l = .bas l) || covL (.bas l) l) = true
    rw [decide_eq_true rfl]
    rfl
/-- a basin with b's in it is no b -/
theorem grf_ne {b : T} (hb : 0 < b.jts) {l : List T} : T.grf b (.bas l) ≠ b := by
  intro e
  have h1 := grf_size b (.bas l)
  have h2 := grf_jts b (.bas l)
  rw [e] at h1 h2
  have h3 : (T.bas l).jts = 1 := by
    rcases Nat.eq_zero_or_pos (T.bas l).jts with z | z
    · rw [z, Nat.zero_mul] at h2
      omega
    · exact Nat.eq_of_mul_eq_mul_right hb (by rw [← h2, Nat.one_mul])
  rw [h3] at h1
  have h4 := (codes_len (.bas l)).1
  have h5 : (40 :: (codesL l ++ [41])).length + (T.bas l).jts = 2 * (T.bas l).size := h4
  rw [List.length_cons, List.length_append, List.length_singleton] at h5
  have h6 : 1 ≤ (codesL l).length := by
    cases l with
    | nil => exact absurd h3 (by decide)
    | cons t r =>
      have := (codes_len t).2
      show 1 ≤ (t.codes ++ codesL r).length
      rw [List.length_append]
      omega
  omega
theorem cut_grf {b : T} (hb : 0 < b.jts) : ∀ t : T, Can t → cutT b (T.grf b t) = t := by
  refine T.ind' (fun _ => cut_self b) fun l ih hc => ?_
  have hne := grf_ne hb (l := l)
  rw [grf_bas] at hne ⊢
  rw [cut_bas, if_neg hne]
  have hj : jtsL (sortT (l.map (T.grf b))) = jtsL l * b.jts := by
    have := grf_jts b (.bas l)
    rw [grf_bas] at this
    exact this
  have e : (l.map (T.grf b)).map (cutT b) = l := by
    rw [List.map_map, show l.map (cutT b ∘ T.grf b) = l.map id from List.map_congr_left fun t ht => ih t ht (canL_iff.mp hc.2 t ht), List.map_id]
  split
  · rename_i hz
    rw [hj] at hz
    have hz2 : jtsL l = 0 := by
      rcases Nat.mul_eq_zero.mp hz with z | z
      · exact z
      · omega
    have := grf_closed b (.bas l) hc hz2
    rw [grf_bas] at this
    exact this
  · rw [sortT_congr ((sortT_perm (l.map (T.grf b))).map (cutT b)), e, sortT_of hc.1]
theorem cov_grf (b : T) : ∀ t : T, cov b (T.grf b t) = true := by
  refine T.ind' (cov_self b) fun l ih => ?_
  rw [grf_bas]
  show (decide (T.bas (sortT (l.map (T.grf b))) = b) || covL b (sortT (l.map (T.grf b)))) = true
  rw [show covL b (sortT (l.map (T.grf b))) = true from covL_all.mpr fun t ht => ?_, Bool.or_true]
  obtain ⟨u, hu, e⟩ := List.mem_map.mp ((sortT_perm _).mem_iff.mp ht)
  exact e ▸ ih u hu
theorem cut_size (b : T) : ∀ t : T, (cutT b t).size ≤ t.size := by
  refine T.ind' (Nat.le_refl _) fun l ih => ?_
  rw [cut_bas]
  split
  · exact size_pos (.bas l)
  split
  · exact Nat.le_refl _
  · show 1 + sizeL (sortT (l.map (cutT b))) ≤ 1 + sizeL l
    rw [sizeL_perm (sortT_perm _)]
    have go : ∀ l : List T, (∀ t ∈ l, (cutT b t).size ≤ t.size) → sizeL (l.map (cutT b)) ≤ sizeL l := by
      intro l
      induction l with
      | nil => intro _; exact Nat.le_refl _
      | cons t r ihr =>
        intro h
        have h1 := h t List.mem_cons_self
        have h2 := ihr fun u hu => h u (List.mem_cons_of_mem _ hu)
        show (cutT b t).size + sizeL (r.map (cutT b)) ≤ t.size + sizeL r
        omega
    have := go l ih
    omega
theorem dep_lt {t : T} {l : List T} (h : t ∈ l) : t.dep < (T.bas l).dep := by
  have go : ∀ l : List T, t ∈ l → t.dep ≤ depL l := by
    intro l
    induction l with
    | nil => intro h; cases h
    | cons u r ih =>
      intro h
      show t.dep ≤ max u.dep (depL r)
      rcases List.mem_cons.mp h with e | e
      · subst e; omega
      · have := ih e; omega
  have := go l h
  show t.dep < 1 + depL l
  omega
theorem cut_closed {b t : T} (h : t ≠ b) (hj : t.jts = 0) : cutT b t = t := by
  cases t with
  | jet => rfl
  | bas l =>
    have hz : jtsL l = 0 := hj
    rw [cut_bas, if_neg h, if_pos hz]
theorem cut_open {b : T} {l : List T} (h : T.bas l ≠ b) (hj : (T.bas l).jts ≠ 0) : cutT b (.bas l) = .bas (sortT (l.map (cutT b))) := by
  have hz : ¬ jtsL l = 0 := hj
  rw [cut_bas, if_neg h, if_neg hz]
theorem sizeL_map_le {f : T → T} : ∀ {l : List T}, (∀ t ∈ l, (f t).size ≤ t.size) → sizeL (l.map f) ≤ sizeL l
  | [], _ => Nat.le_refl _
  | t :: r, h => by
    have h1 := h t List.mem_cons_self
    have h2 := sizeL_map_le (l := r) fun u hu => h u (List.mem_cons_of_mem _ hu)
    show (f t).size + sizeL (r.map f) ≤ t.size + sizeL r
    omega
theorem size_mem {t : T} {l : List T} (h : t ∈ l) : t.size < (T.bas l).size := by
  have := len_le h
  show t.size < 1 + sizeL l
  omega
theorem grf_mem {p t : T} {l : List T} (h : t ∈ l) : (T.grf p t).size < (T.grf p (.bas l)).size := by
  rw [grf_bas]
  have h1 : T.grf p t ∈ sortT (l.map (T.grf p)) := (sortT_perm _).mem_iff.mpr (List.mem_map.mpr ⟨t, h, rfl⟩)
  have := len_le h1
  show _ < 1 + sizeL (sortT (l.map (T.grf p)))
  omega
theorem jts_le : ∀ t : T, t.jts ≤ t.size := by
  refine T.ind' (Nat.le_refl _) fun l ih => ?_
  have go : ∀ l : List T, (∀ t ∈ l, t.jts ≤ t.size) → jtsL l ≤ sizeL l := by
    intro l
    induction l with
    | nil => intro _; exact Nat.le_refl _
    | cons t r ihr =>
      intro h
      have h1 := h t List.mem_cons_self
      have h2 := ihr fun u hu => h u (List.mem_cons_of_mem _ hu)
      show t.jts + jtsL r ≤ t.size + sizeL r
      omega
  have := go l ih
  show jtsL l ≤ 1 + sizeL l
  omega
/-- the size of the product, as the law counts it -/
theorem grf_sizeI (p t : T) : ((T.grf p t).size : Int) = (t.size : Nat) + (t.jts : Nat) * (((p.size : Nat) : Int) - 1) := by
  have h := grf_size p t
  rw [Int.mul_sub, Int.mul_one, ← Int.natCast_mul]
  omega
end JW
/-! JWBase: a def with where it stands and what it promises in one word (CallD); heaps that only grow. -/
namespace JW
open PySem PySem.Spec PyProof.Rows L2

/-- a def of the text behind the top, its defaults' values dvs -/
structure DefAt (K : PySem.W.Frag) (mg : Str → Option Value) (x qual : Str) (st : Stmt) (dvs : List V) (ps : List Str) : Prop where
  ex : ∃ f fd, mg x = some (.ref f) ∧ FunD K x qual (defArgs st) (defBody st) (defScope st) dvs [] f fd ∧ Binds K fd ps []
/-- a def that keeps its promise, called by its name -/
structure CallD (P : Program) (w : World) (K : PySem.W.Frag) (mg : Str → Option Value) (base : Heap) (CX : CXT) (k : Nat) (x : Str) (ps : List Str) (dvs : List V) (sp : Sp) : Prop where
  ex : ∃ f fd ds, mg x = some (.ref f) ∧ PySem.W.keepIn K (.ref f) = true ∧ Binds K fd ps ds ∧ Vals dvs ds ∧ FnOk P w K mg base CX k f fd ps sp
section
variable {P : Program} {w : World} {K : PySem.W.Frag} {mg : Str → Option Value} {base : Heap} {CX : CXT}
theorem CallD.mono {j k : Nat} {x : Str} {ps : List Str} {dvs : List V} {sp : Sp} (c : CallD P w K mg base CX j x ps dvs sp) (h : j ≤ k) : CallD P w K mg base CX k x ps dvs sp := by
  obtain ⟨f, fd, ds, h1, h2, h3, h4, F⟩ := c.ex
  exact ⟨f, fd, ds, h1, h2, h3, h4, F.mono h⟩
theorem okF {x qual : Str} {params : Arguments} {body : List Stmt} {scope : Scope} {kws : List (Str × V)} {f : Addr} {fd : FuncData} {N ps : List Str} {k : Nat} {sp : Sp} {dvs : List V} (F : FunD K x qual params body scope dvs kws f fd) (S : FnScope N ps scope)
    (len : ∀ vs H Q E, sp vs H Q E → vs.length = ps.length)
    (hbody : ∀ (cdv : Value) (A : Around) (outer : List Env) (s : Shared) (H : Hp) (vs : List V) (Q : VK) (E : XK), Room k (A.deeper (envOfC qual scope s.heap.objs.size f cdv)) → sp vs H Q E →
      ∃ t, PSs (cxOf CX P w K mg base N qual scope f cdv A outer s H E).nox body t ∧ t { nx := fun _ H' => Q .non H', rt := Q } (start N vs) H) : FnOk P w K mg base CX (k + 1) f fd ps sp :=
  F.ok S len fun cdv A outer s H vs Q E hr h => by
    obtain ⟨t, h, q⟩ := hbody cdv A outer s H vs Q E hr h
    exact ⟨t, h.nox, q⟩
/-- the rule for a def by its body, no exception leaves it -/
theorem DefAt.ok {x qual : Str} {st : Stmt} {N ps : List Str} {k : Nat} {sp : Sp} {dvs : List V} (D : DefAt K mg x qual st dvs ps) (S : FnScope N ps (defScope st)) (len : ∀ vs H Q E, sp vs H Q E → vs.length = ps.length)
    (hbody : ∀ (f : Addr) (cdv : Value) (A : Around) (outer : List Env) (s : Shared) (H : Hp) (vs : List V) (Q : VK) (E : XK), Room k (A.deeper (envOfC qual (defScope st) s.heap.objs.size f cdv)) → sp vs H Q E →
      ∃ t, PSs (cxOf CX P w K mg base N qual (defScope st) f cdv A outer s H E).nox (defBody st) t ∧ t { nx := fun _ H' => Q .non H', rt := Q } (start N vs) H) : CallD P w K mg base CX (k + 1) x ps [] sp := by
  obtain ⟨f, fd, h1, F, b⟩ := D.ex
  refine ⟨f, fd, [], h1, F.kp, b, .nil, F.ok S len fun cdv A outer s H vs Q E hr h => ?_⟩
  obtain ⟨t, h, q⟩ := hbody f cdv A outer s H vs Q E hr h
  exact ⟨t, h.nox, q⟩
end
section
variable {X : Cx} {CX : CXT} {k : Nat} {ps : List Str} {sp : Sp} {dvs : List V} {E : XK} {x : Str} {p pos : Pos} {e : Expr} {es : List Expr} {t : TA}
theorem pe_callD (C : CallD X.prog X.w X.K X.mg X.base CX k x ps dvs sp) (hr : Room k X.A) (hg : Gl X x) (hx : Passes CX X E) (ha : PA X (e :: es) t) (hdb : (x == ("__debug__" : Str)) = false := by decide)
    (he : starEach (e :: es) X.env = (false, eval e X.env) :: starEach es X.env := by rfl) (hpl : (backTo pos (starEach es X.env)).any (·.1) = false := by rfl) : PE X (.Call (.Name x p) (e :: es) [] pos) (tCall sp dvs E t) := by
  obtain ⟨f, fd, ds, h1, h2, h3, h4, F⟩ := C.ex
  exact pe_call F hr hg h1 h2 h3 h4 hx ha hdb he hpl
theorem pe_callD0 (C : CallD X.prog X.w X.K X.mg X.base CX k x ps dvs sp) (hr : Room k X.A) (hg : Gl X x) (hx : Passes CX X E) (hdb : (x == ("__debug__" : Str)) = false := by decide) : PE X (.Call (.Name x p) [] [] pos) (tCall sp dvs E tNil) := by
  obtain ⟨f, fd, ds, h1, h2, h3, h4, F⟩ := C.ex
  exact pe_call0 F hr hg h1 h2 h3 h4 hx hdb
end
/-! ### joins -/
section
variable {X : Cx} {e : Expr} {st : Stmt}
theorem ep_mono {pins : List (Addr × Obj)} {σ : L2.St} {Q Q' : VK} {u : Value} {s' : Shared} (h : EP X pins σ Q u s') (k : ∀ v H, Q v H → Q' v H) : EP X pins σ Q' u s' := by
  obtain ⟨v, H, I, r, q⟩ := h
  exact ⟨v, H, I, r, k v H q⟩
/-- an expression whose value and heap are told ahead -/
def tTo (t : TE) : TE := fun σ H Q => ∃ x H2, t σ H (fun v H' => v = x ∧ H' = H2) ∧ Q x H2
theorem pe_to {t : TE} (h : PE X e t) : PE X e (tTo t) := ⟨fun pins s σ H Q I ⟨x, H2, hw, q⟩ =>
  thn (h.run pins s σ H _ I hw) fun _ _ z => ep_mono z fun v H' ⟨e1, e2⟩ => by rw [e1, e2]; exact q⟩
/-- .. of which something is told ahead -/
def tVia (t : TE) : TE := fun σ H Q => ∃ R : VK, t σ H R ∧ ∀ v H', R v H' → Q v H'
theorem pe_via {t : TE} (h : PE X e t) : PE X e (tVia t) := ⟨fun pins s σ H Q I ⟨R, hw, q⟩ => thn (h.run pins s σ H _ I hw) fun _ _ z => ep_mono z q⟩
def tsVia (t : TS) : TS := fun D σ H => ∃ R : L2.St → Hp → Prop, t { D with nx := R } σ H ∧ ∀ σ' H', R σ' H' → D.nx σ' H'
theorem ps_via {t : TS} (h : PS X st t) : PS X st (tsVia t) := ⟨fun pins s σ H D I ⟨R, hw, q⟩ =>
  thn (h.run pins s σ H _ I hw) fun f s' z => by
    cases f with
    | next =>
      obtain ⟨σ', H', I', r⟩ := z
      exact ⟨σ', H', I', q σ' H' r⟩
    | brk => exact z
    | cont => exact z
    | ret u => exact z⟩
def ttVia (t : TT) : TT := fun σ H Q => ∃ R : Bool → Hp → Prop, t σ H R ∧ ∀ b H', R b H' → Q b H'
theorem pt_via {t : TT} (h : PT X e t) : PT X e (ttVia t) := ⟨fun pins s σ H Q I ⟨R, hw, q⟩ =>
  thn (h.run pins s σ H _ I hw) fun b s' z => by
    obtain ⟨H', I', r⟩ := z
    exact ⟨H', I', q b H' r⟩⟩
end
/-! ### lists of natural numbers -/
def nI (x : Nat) : V := .int (x : Nat)
theorem nI_map (xs : List Nat) : xs.map nI = (xs.map fun x : Nat => (x : Int)).map V.int := by
  rw [List.map_map]
  rfl
theorem nI_sum : ∀ xs : List Nat, (xs.map fun x : Nat => (x : Int)).sum = ((xs.sum : Nat) : Int)
  | [] => rfl
  | x :: r => by rw [List.map_cons, List.sum_cons, List.sum_cons, nI_sum r]; omega
theorem nI_get {xs : List Nat} {k : Nat} (h : k < xs.length) : (xs.map nI)[k]? = some (nI (xs.getD k 0)) := by
  rw [List.getElem?_map, List.getElem?_eq_getElem h, List.getD_eq_getElem?_getD, List.getElem?_eq_getElem h]
  rfl
theorem at_nI {xs : List Nat} {i : Int} {k : Nat} (e : i = (k : Nat)) (h : k < xs.length) : atI (xs.map nI) i = some (nI (xs.getD k 0)) := by
  rw [e]
  exact atI_nat (nI_get h)
theorem eraseIdx_perm {α : Type} : ∀ {l : List α} {i : Nat} (h : i < l.length), (l[i] :: l.eraseIdx i).Perm l
  | [], _, h => absurd h (Nat.not_lt_zero _)
  | a :: l, 0, _ => List.Perm.refl _
  | a :: l, i + 1, h => by
    have hi : i < l.length := Nat.lt_of_succ_lt_succ h
    exact (List.Perm.swap a l[i] (l.eraseIdx i)).trans ((eraseIdx_perm hi).cons a)
theorem sz1 : 1 ≤ sizeLine := by decide
theorem sz2 : 2 ≤ sizeLine := by decide
theorem sz3 : 3 ≤ sizeLine := by decide
theorem sz4 : 4 ≤ sizeLine := by decide
theorem sz5 : 5 ≤ sizeLine := by decide
theorem sz6 : 6 ≤ sizeLine := by decide
end JW
namespace L2
open PySem PySem.Spec PyProof.Rows
/-! ### heaps -/
section
variable {H H' H1 H2 : Hp} {a b p : Addr} {o u : HO}
theorem Same.new (s : Same H H') (hp : H' p = none) : Same H (upd H' p o) := fun c w e => by
  rw [upd_ne (ne_of_none (s _ _ e) hp)]
  exact s _ _ e
theorem Same.mine (s : Same H H') (hp : H p = none) : Same H (upd H' p o) := fun c w e => by
  rw [upd_ne (ne_of_none e hp)]
  exact s _ _ e
theorem upd_old (h : H a = some o) (hp : H p = none) : upd H p u a = some o := by
  rw [upd_ne (ne_of_none h hp)]
  exact h
theorem upd_far (h : H a = some o) (hp : H p = some u) (n : a ≠ p) {v : HO} : upd H p v a = some o := by
  rw [upd_ne n]
  exact h
end
end L2
/-! JWBlk: rules whose reading speaks of the written part, told by K itself (within a comprehension's block). -/
namespace JW
open PySem PySem.Spec PyProof.Rows L2
section
variable {X : Cx} {K : PySem.W.Frag} {e : Expr} {te : TE} {tg : Expr} {pos : Pos}
theorem ix_listK (h : X.K = K) : IxR X (rIxL K) := h ▸ ix_list
theorem ix_tupK (h : X.K = K) : IxR X (rIxT K) := h ▸ ix_tup
theorem sl_listK (h : X.K = K) : SlR X (rSlL K) := h ▸ sl_list
theorem sl_tupK (h : X.K = K) : SlR X (rSlT K) := h ▸ sl_tup
theorem cr_sumK (h : X.K = K) (hc : X.calm = true) : CallR X (.builtin "sum") (rSum K) := h ▸ cr_sum hc
theorem cr_maxK (h : X.K = K) (hc : X.calm = true) : CallR X (.builtin "max") (rMax K) := h ▸ cr_max hc
theorem cr_minK (h : X.K = K) (hc : X.calm = true) : CallR X (.builtin "min") (rMin K) := h ▸ cr_min hc
theorem cr_allK (h : X.K = K) (hc : X.calm = true) : CallR X (.builtin "all") (rAll K) := h ▸ cr_all hc
theorem cr_anyK (h : X.K = K) (hc : X.calm = true) : CallR X (.builtin "any") (rAny K) := h ▸ cr_any hc
def rLen (K : PySem.W.Frag) : List V → Hp → VK → Prop := fun xs H Q => ∃ x n, xs = [x] ∧ LenV K x H n ∧ Q (.int n) H
theorem call_lenK (h : X.K = K) : CallR X (.builtin "len") (rLen K) := h ▸ call_len
def rListOf (K : PySem.W.Frag) : List V → Hp → VK → Prop := fun xs H Q => ∃ p ys, xs = [.ref p] ∧ (SqL K H p ys ∨ SqT K H p ys) ∧ ∀ l, H l = none → Q (.ref l) (upd H l (.lst ys))
theorem call_list_ofK (h : X.K = K) : CallR X (.type "list") (rListOf K) := h ▸ call_list_of
def rTupOf (K : PySem.W.Frag) : List V → Hp → VK → Prop := fun xs H Q => ∃ p ys, xs = [.ref p] ∧ ((SqL K H p ys ∧ ∀ l, H l = none → Q (.ref l) (upd H l (.tup ys))) ∨ (SqT K H p ys ∧ Q (.ref p) H))
theorem call_tuple_ofK (h : X.K = K) : CallR X (.type "tuple") (rTupOf K) := h ▸ call_tuple_of
theorem pi_listK (h : X.K = K) (hl : PE X e te) : PI X tg e (iList K te) := h ▸ pi_list hl
theorem pi_tupK (h : X.K = K) (hl : PE X e te) : PI X tg e (iTup K te) := h ▸ pi_tup hl
theorem op_eqDK (h : X.K = K) (hu : X.A.units + 64 < cLine) : OpR X (compareOp .Eq) (rEqD K) := h ▸ op_eqD hu
theorem op_neDK (h : X.K = K) (hu : X.A.units + 64 < cLine) : OpR X (compareOp .NotEq) (rNeD K) := h ▸ op_neD hu
theorem op_in_seqK (h : X.K = K) : OpR X (compareOp .In) (rIn K false) := h ▸ op_in_seq
theorem op_notIn_seqK (h : X.K = K) : OpR X (compareOp .NotIn) (rIn K true) := h ▸ op_notIn_seq
theorem call_isiK' (h : X.K = K) : CallR X (.builtin "isinstance") (rIsi K) := h ▸ call_isi
theorem pe_fldK {f : Str} {ta : TE} (h : X.K = K) (he : PE X e ta) (hb : attributeBase e f X.env (eval e X.env) = eval e X.env) : PE X (.Attribute e f pos) (tFld K ta f) := h ▸ pe_fld he hb
end
end JW
/-! JWRules: more rules over the layer. -/
namespace JW
open PySem PySem.Spec PyProof.Rows L2
section
variable {X : Cx} {K : PySem.W.Frag}
/-- xs != [], xs == [] (items of any kind) -/
def rNil (K : PySem.W.Frag) (neg : Bool) : R2 := fun x y H Q => ∃ a b xs, x = .ref a ∧ y = .ref b ∧ SqL K H a xs ∧ SqL K H b [] ∧ Q (.bl (if neg then !xs.isEmpty else xs.isEmpty)) H
theorem op_neNilK (h : X.K = K) (hu : X.A.units < cLine) : OpR X (compareOp .NotEq) (rNil K true) := by
  subst h
  intro pins s σ H x y v u Q I rx ry h
  obtain ⟨a, b, xs, rfl, rfl, ha, hb, q⟩ := h
  cases rx
  cases ry
  obtain ⟨its, r1, p1, _⟩ := I.list ha
  obtain ⟨its2, r2, p2, _⟩ := I.list hb
  cases r2
  cases r1 with
  | nil => exact SeqAt.RcNeAt.lists (e := fun _ => true) p1.isList p2.isList rfl hu (fun j h1 _ => absurd h1 (by simp)) _ _ _ _ ⟨.bl false, H, I, rfl, q⟩
  | cons r t => exact SeqAt.RcNeAt.lists_lengths p1.isList p2.isList (by simp) hu _ _ _ _ ⟨.bl true, H, I, rfl, q⟩
theorem op_eqNilK (h : X.K = K) (hu : X.A.units < cLine) : OpR X (compareOp .Eq) (rNil K false) := by
  subst h
  intro pins s σ H x y v u Q I rx ry h
  obtain ⟨a, b, xs, rfl, rfl, ha, hb, q⟩ := h
  cases rx
  cases ry
  obtain ⟨its, r1, p1, _⟩ := I.list ha
  obtain ⟨its2, r2, p2, _⟩ := I.list hb
  cases r2
  cases r1 with
  | nil => exact SeqAt.RcAt.lists (e := fun _ => true) p1.isList p2.isList rfl hu (fun j h1 _ => absurd h1 (by simp)) _ _ _ _ ⟨.bl true, H, I, rfl, q⟩
  | cons r t => exact SeqAt.RcAt.lists_lengths p1.isList p2.isList (by simp) hu _ _ _ _ ⟨.bl false, H, I, rfl, q⟩
end
theorem seqIndex_nat {v : Int} {n : Nat} (h0 : 0 ≤ v) (h1 : v < (n : Nat)) : seqIndex? v n = some v.toNat := PyProof.Rows.seqIndex_at h0 h1
/-! ### dicts with written text keys -/
theorem dget {H : Hp} {a : Addr} {kvs : List (Key × V)} {k : Str} {v : V} (e : H a = some (.dK kvs)) (h : valV kvs (.inr k) = some v) : DGet H a (.str k) (some v) := by
  have z := DGet.k (k := Sum.inr k) e
  rw [h] at z
  exact z
theorem dput {H : Hp} {a : Addr} {kvs kvs' : List (Key × V)} {k : Str} {v : V} (e : H a = some (.dK kvs)) (hl : kvs.length < sizeLine) (h : putK kvs (.inr k) v = kvs') : DPut H a (.str k) v (upd H a (.dK kvs')) := by
  have z := DPut.k (k := Sum.inr k) (v := v) e hl
  rw [h] at z
  exact z
/-- all but two objects stay -/
def Same2 (d g : Addr) (H H' : Hp) : Prop := ∀ b o, b ≠ d → b ≠ g → H b = some o → H' b = some o
theorem Same2.refl (d g : Addr) (H : Hp) : Same2 d g H H := fun _ _ _ _ h => h
theorem Same2.trans {d g : Addr} {H H1 H2 : Hp} (a : Same2 d g H H1) (b : Same2 d g H1 H2) : Same2 d g H H2 := fun c o h1 h2 h => b c o h1 h2 (a c o h1 h2 h)
theorem Same2.putD {d g : Addr} {H H1 : Hp} {o : HO} (a : Same2 d g H H1) : Same2 d g H (upd H1 d o) := fun c u h1 h2 h => by rw [upd_ne h1]; exact a c u h1 h2 h
theorem Same2.putG {d g : Addr} {H H1 : Hp} {o : HO} (a : Same2 d g H H1) : Same2 d g H (upd H1 g o) := fun c u h1 h2 h => by rw [upd_ne h2]; exact a c u h1 h2 h
theorem Same2.new {d g p : Addr} {H H1 : Hp} {o : HO} (a : Same2 d g H H1) (hp : H1 p = none) : Same2 d g H (upd H1 p o) := fun c u h1 h2 h => by rw [upd_ne (ne_of_none (a c u h1 h2 h) hp)]; exact a c u h1 h2 h
theorem Same2.same {d g : Addr} {H H1 H2 : Hp} (a : Same2 d g H H1) (b : Same H1 H2) : Same2 d g H H2 := fun c o h1 h2 h => b c o (a c o h1 h2 h)
theorem Same2.of {d g : Addr} {H H1 : Hp} (a : Same H H1) : Same2 d g H H1 := fun c o _ _ h => a c o h
theorem Same2.new' {d g p : Addr} {H H1 : Hp} {o : HO} (a : Same2 d g H H1) (hp : H p = none) : Same2 d g H (upd H1 p o) := fun c u h1 h2 h => by rw [upd_ne (ne_of_none h hp)]; exact a c u h1 h2 h
theorem Same2.mine {d g : Addr} {H0 H H' : Hp} (a : Same H0 H) (hd : H0 d = none) (hg : H0 g = none) (b : Same2 d g H H') : Same H0 H' := fun c o h => b c o (ne_of_none h hd) (ne_of_none h hg) (a c o h)
/-! ### the source of draws of the second family: a sack -/
def sackD (g : Addr) (a b c : Int) : List (Key × V) := [(.inr "great", .ref g), (.inr "now", .int a), (.inr "seed", .int b), (.inr "turn", .int c)]
theorem sack_great {g : Addr} {a b c : Int} : valV (sackD g a b c) (.inr "great") = some (.ref g) := by kernel_rfl
theorem sack_now {g : Addr} {a b c : Int} : valV (sackD g a b c) (.inr "now") = some (.int a) := by kernel_rfl
theorem sack_seed {g : Addr} {a b c : Int} : valV (sackD g a b c) (.inr "seed") = some (.int b) := by kernel_rfl
theorem sack_turn {g : Addr} {a b c : Int} : valV (sackD g a b c) (.inr "turn") = some (.int c) := by kernel_rfl
theorem sack_put_now {g : Addr} {a b c x : Int} : putK (sackD g a b c) (.inr "now") (.int x) = sackD g x b c := by kernel_rfl
theorem sack_put_seed {g : Addr} {a b c x : Int} : putK (sackD g a b c) (.inr "seed") (.int x) = sackD g a x c := by kernel_rfl
theorem sack_put_turn {g : Addr} {a b c x : Int} : putK (sackD g a b c) (.inr "turn") (.int x) = sackD g a b x := by kernel_rfl
theorem sack_made {g : Addr} {a b c : Int} : mergeK [] (sackD g a b c) = sackD g a b c := by kernel_rfl
theorem sack_len {g : Addr} {a b c : Int} : (sackD g a b c).length < sizeLine := by show 4 < sizeLine; decide
def SackAt (H : Hp) (d g : Addr) : Prop := ∃ (ns : List Int) (a b c : Int), d ≠ g ∧ H d = some (.dK (sackD g a b c)) ∧ H g = some (.lst (ns.map V.int))
theorem SackAt.same {H H' : Hp} {d g : Addr} (h : SackAt H d g) (s : Same H H') : SackAt H' d g := by
  obtain ⟨ns, a, b, c, n, e1, e2⟩ := h
  exact ⟨ns, a, b, c, n, s _ _ e1, s _ _ e2⟩
theorem SackAt.off {H : Hp} {d g p : Addr} {o : HO} (h : SackAt H d g) (h1 : d ≠ p) (h2 : g ≠ p) : SackAt (upd H p o) d g := by
  obtain ⟨ns, a, b, c, n, e1, e2⟩ := h
  exact ⟨ns, a, b, c, n, by rw [upd_ne h1]; exact e1, by rw [upd_ne h2]; exact e2⟩
theorem SackAt.ne {H : Hp} {d g p : Addr} (h : SackAt H d g) (hp : H p = none) : p ≠ d ∧ p ≠ g := by
  obtain ⟨ns, a, b, c, n, e1, e2⟩ := h
  exact ⟨(ne_of_none e1 hp).symm, (ne_of_none e2 hp).symm⟩
end JW
/-! JWOwn: == and != by an own __eq__ (any answer), the own operators of a class. -/
namespace JW
open PySem PySem.Spec PyProof.Rows L2
section
variable {prog : Program} {w : World} {A : Around} {E : Value → Shared → Prop} {s : Shared} {K : PySem.W.Frag} {x C f : Addr} {ox : Obj} {od : Option Obj} {b tb : Value}
/-- x != b where the class has an own __eq__ and object's __ne__ -/
theorem ne_own {Q : Value → Shared → Prop} (hu : A.units + 1 < cLine) (X : K.In s.heap) (I : PySem.W.InstAt s.heap x ox C od) (hb : PySem.W.Looks (model prog w) s.heap (typeOf b) tb) (hn : PySem.W.notFirst K C tb = true)
    (hne : PySem.W.findIn K (.ref C) "__ne__" = some (some (.builtin "object.__ne__"))) (heq : PySem.W.findIn K (.ref C) "__eq__" = some (some (.ref f))) (hf : PySem.W.isFn K (.ref f) = true) (hob : PySem.W.subIn K (.ref C) (.type "object") = some true)
    (h : wpAny (model prog w) A.in1 (call (.ref f) [.ref x, b]) (fun v s' => ∃ k, v = .bool k ∧ Q (.bool (!k)) s') E s) : wpAny (model prog w) A (richCompare .NotEq (.ref x) b) Q E s := by
  have one : wpAny (model prog w) A (tryCompare (.ref x) (cmpInfo .NotEq).2.1 b) (fun r s' => ∃ v, r = some v ∧ Q v s') E s := by
    unfold tryCompare
    have hc : wpAny (model prog w) A (call (.builtin "object.__ne__") [.ref x, b]) (fun v s' => ∃ k, v = .bool (!k) ∧ Q (.bool (!k)) s') E s := by
      refine wpAny_call (codeAny_call_builtin F.cmp_object.ne.plain F.cmpEntry_ne ?_)
      refine PySem.W.check_slot F.cmpKind_ne F.cmpSplit_ne (I.type.andThen (PySem.W.looks_subIn X hob)) (F.cmpArgs_ne _ _) ?_
      unfold Builtin.«object.__ne__»
      repeat (first
        | with_reducible refine wpAny_cRoomFor hu ?_
        | (refine wpAny_bind (m := callSpecialIfBound? (.ref x) (Str.ofString "__eq__") [b])
            (PySem.W.ifBound_K X I heq hf (wpAny_mono h (fun r s' hr => by
              obtain ⟨k, rfl, hq⟩ := hr
              repeat (first | exact ⟨k, rfl, hq⟩ | exact wpAny_pure ⟨k, rfl, hq⟩ | exact wpAny_truthy_bool ⟨k, rfl, hq⟩ | (refine wpAny_bind (m := truthy (.bool _)) (wpAny_truthy_bool ?_)) | wp_step)) fun _ _ e => e)))
        | wp_step)
    refine wpAny_bind ?_
    simp only [callSpecialIfBound?, bindSpecialIfBound?]
    refine wpAny_holding (wpAny_bind (wpAny_bind (wpAny_bind (I.type.here ((PySem.W.looks_findIn X hne).here ?_)))))
    have fin : ∀ R : Option Value → Shared → Prop, (∀ k s', Q (.bool (!k)) s' → R (some (.bool (!k))) s') → wpAny (model prog w) A (call (.builtin "object.__ne__") ([.ref x] ++ [b]) >>= fun v => pure (some v)) R E s := fun R hR => by
      refine wpAny_bind (wpAny_mono hc (fun v s' h' => wpAny_pure ?_) fun _ _ h' => h')
      obtain ⟨k, rfl, hq⟩ := h'
      exact hR k s' hq
    refine wpAny_bind (wpAny_askSetting (wpAny_ite ?_))
    split
    · rw [F.cmp_object.ne.bind]
      exact wpAny_bind (wpAny_pure (wpAny_pure (by exact fin _ fun k s' hq => wpAny_pure ⟨_, rfl, hq⟩)))
    · rw [F.cmp_object.ne.bind]
      exact wpAny_tryCatch (wpAny_bind (wpAny_pure (wpAny_pure (by exact fin _ fun k s' hq => wpAny_pure ⟨_, rfl, hq⟩))))
  unfold richCompare
  simp only [oneThing_ref]
  refine wpAny_holding (wpAny_bind (wpAny_cRoomFor (Nat.lt_of_succ_lt hu) ?_))
  refine wpAny_bind (I.type.here (wpAny_bind (hb.here ?_)))
  split
  · rename_i q
    have e : PySem.W.subIn K tb (.ref C) = some false := by
      rcases Bool.or_eq_true_iff.mp hn with e | e
      · rw [beq_iff_eq.mp e] at q; simp at q
      · exact beq_iff_eq.mp e
    refine wpAny_bind ((PySem.W.looks_subIn X e).here ?_)
    simp only [Bool.false_eq_true, if_false]
    refine wpAny_bind (wpAny_mono one (fun r s' z => ?_) fun _ _ e => e)
    obtain ⟨v, rfl, hq⟩ := z
    exact wpAny_pure hq
  · refine wpAny_bind (wpAny_pure ?_)
    simp only [Bool.false_eq_true, if_false]
    refine wpAny_bind (wpAny_mono one (fun r s' z => ?_) fun _ _ e => e)
    obtain ⟨v, rfl, hq⟩ := z
    exact wpAny_pure hq
end
/-! ### methods in one word -/
structure MethD (P : Program) (w : World) (K : PySem.W.Frag) (mg : Str → Option Value) (base : Heap) (CX : CXT) (k : Nat) (C : Addr) (m : Str) (ps : List Str) (dvs : List V) (sp : Sp) : Prop where
  ex : ∃ f fd ds, Meth K C m f ∧ Binds K fd ps ds ∧ Vals dvs ds ∧ FnOk P w K mg base CX k f fd ps sp
/-- a method of the text: where it stands -/
structure MethAt (K : PySem.W.Frag) (C : Addr) (m qual : Str) (st : Stmt) (ps : List Str) : Prop where
  ex : ∃ f fd, Meth K C m f ∧ FunD K m qual (defArgs st) (defBody st) (defScope st) [] [] f fd ∧ Binds K fd ps []
section
variable {P : Program} {w : World} {K : PySem.W.Frag} {mg : Str → Option Value} {base : Heap} {CX : CXT} {C : Addr}
theorem MethD.mono {j k : Nat} {m : Str} {ps : List Str} {dvs : List V} {sp : Sp} (c : MethD P w K mg base CX j C m ps dvs sp) (h : j ≤ k) : MethD P w K mg base CX k C m ps dvs sp := by
  obtain ⟨f, fd, ds, h1, h2, h3, F⟩ := c.ex
  exact ⟨f, fd, ds, h1, h2, h3, F.mono h⟩
theorem MethAt.ok {m qual : Str} {st : Stmt} {N ps : List Str} {k : Nat} {sp : Sp} (D : MethAt K C m qual st ps) (S : FnScope N ps (defScope st)) (len : ∀ vs H Q E, sp vs H Q E → vs.length = ps.length)
    (hbody : ∀ (f : Addr) (cdv : Value) (A : Around) (outer : List Env) (s : Shared) (H : Hp) (vs : List V) (Q : VK) (E : XK), Room k (A.deeper (envOfC qual (defScope st) s.heap.objs.size f cdv)) → sp vs H Q E →
      ∃ t, PSs (cxOf CX P w K mg base N qual (defScope st) f cdv A outer s H E).nox (defBody st) t ∧ t { nx := fun _ H' => Q .non H', rt := Q } (start N vs) H) : MethD P w K mg base CX (k + 1) C m ps [] sp := by
  obtain ⟨f, fd, h1, F, b⟩ := D.ex
  exact ⟨f, fd, [], h1, b, .nil, okF F S len fun cdv A outer s H vs Q E hr h => hbody f cdv A outer s H vs Q E hr h⟩
end
section
variable {X : Cx} {CX : CXT} {k : Nat} {C : Addr} {ps : List Str} {sp : Sp} {dvs : List V} {E : XK} {m : Str} {pos apos : Pos} {o e : Expr} {es : List Expr} {t : TA} {ta : TE}
theorem pe_methD {pl : Sem Bool} (c : Cls X.K C) (M : MethD X.prog X.w X.K X.mg X.base CX k C m ps dvs sp) (hr : Room k X.A) (hx : Passes CX X E) (he : PE X o ta) (ha : PA X (e :: es) t)
    (hst : starEach (e :: es) X.env = (false, eval e X.env) :: starEach es X.env := by rfl) (hpl : (backTo pos (starEach es X.env)).any (·.1) = false := by rfl)
    (ht : eval (.Call (.Attribute o m apos) (e :: es) [] pos) X.env = (do
      let ov ← eval o X.env
      standAt apos.atName
      let (f, first) ← holding [ov] (getMethod ov m pl)
      callWith pos f first (backTo pos (starEach (e :: es) X.env)) (backToKw pos (keywordEach [] X.env))) := by rfl) : PE X (.Call (.Attribute o m apos) (e :: es) [] pos) (tMeth C m sp dvs E ta t) := by
  obtain ⟨f, fd, ds, h1, h2, h3, F⟩ := M.ex
  exact pe_meth he c h1 F hr h2 h3 hx ha hst hpl ht
theorem pe_methD0 {pl : Sem Bool} (c : Cls X.K C) (M : MethD X.prog X.w X.K X.mg X.base CX k C m ps dvs sp) (hr : Room k X.A) (hx : Passes CX X E) (he : PE X o ta)
    (ht : eval (.Call (.Attribute o m apos) [] [] pos) X.env = (do
      let ov ← eval o X.env
      standAt apos.atName
      let (f, first) ← holding [ov] (getMethod ov m pl)
      callWith pos f first (backTo pos (starEach [] X.env)) (backToKw pos (keywordEach [] X.env))) := by rfl) : PE X (.Call (.Attribute o m apos) [] [] pos) (tMeth C m sp dvs E ta tNil) := by
  obtain ⟨f, fd, ds, h1, h2, h3, F⟩ := M.ex
  exact pe_meth0 he c h1 F hr h2 h3 hx ht
/-- a op b, both of the class C -/
def rOwn (C : Addr) (sp : Sp) (E : XK) : R2 := fun x y H Q => ∃ a dx fs b dy gs, x = .ref a ∧ y = .ref b ∧ H a = some (.ins C dx fs) ∧ H b = some (.ins C dy gs) ∧ sp [x, y] H (fun v H' => v ≠ .non ∧ Q v H') E
theorem relV_back {v : V} {u : Value} {s : Shared} {Q : Value → Shared → Prop} (r : RelV v u) (h : Q u s) : PySem.W.CmpBack Q u s := by
  cases v with
  | non => cases r; exact h
  | bl _ => cases r; exact h
  | int _ => obtain ⟨t, rfl⟩ := r; exact h
  | str _ => obtain ⟨t, rfl⟩ := r; exact h
  | byt _ => obtain ⟨t, rfl⟩ := r; exact h
  | flt _ => obtain ⟨t, rfl⟩ := r; exact h
  | ref _ => cases r; exact h
  | ty _ => cases r; exact h
theorem op_own {op : Operator} (hc : PySem.W.selfFirst X.K C = true) (M : MethD X.prog X.w X.K X.mg X.base CX k C (PySem.dunder op.info.2) ps [] sp) (hr : Room k X.A) (hx : Passes CX X E) : OpR X (binaryOp op) (rOwn C sp E) := by
  intro pins s σ H x y v u Q I rx ry h
  obtain ⟨a, dx, fs, b, dy, gs, rfl, rfl, ha, hb, q⟩ := h
  cases rx
  cases ry
  obtain ⟨f, fd, ds, hm, hbd, hd, F⟩ := M.ex
  cases hd
  obtain ⟨mA, J, _⟩ := ins_get I.hok ha
  obtain ⟨mB, J', _⟩ := ins_get I.hok hb
  obtain ⟨od, J, _⟩ := J.look
  obtain ⟨od', J', _⟩ := J'.look
  obtain ⟨m, hF⟩ := I.fr
  refine PySem.W.binop_K hF I.ok.mod.kin J J'.type hc hm.at_ hm.fn ?_
  refine wpAny_mono (run_fn (us := [.ref a, .ref b]) (vs := [.ref a, .ref b]) F hr hbd .nil hx I (.cons rfl (.cons rfl .nil)) q) (fun v s' z => ?_) fun _ _ z => z
  obtain ⟨v', H', I', r, _, q'⟩ := z
  exact relV_back r ⟨v', H', I', r, q'⟩
/-- == and != of two of the class C, by the own __eq__ -/
def rOwnEq (C : Addr) (sp : Sp) (E : XK) (neg : Bool) : R2 := fun x y H Q => ∃ a dx fs b dy gs, x = .ref a ∧ y = .ref b ∧ H a = some (.ins C dx fs) ∧ H b = some (.ins C dy gs) ∧
  sp [x, y] H (fun v H' => ∃ k, v = .bl k ∧ Q (.bl (if neg then !k else k)) H') E
theorem op_own_eq (M : MethD X.prog X.w X.K X.mg X.base CX k C "__eq__" ps [] sp) (hr : Room k X.A) (hx : Passes CX X E) : OpR X (compareOp .Eq) (rOwnEq C sp E false) := by
  intro pins s σ H x y v u Q I rx ry h
  obtain ⟨a, dx, fs, b, dy, gs, rfl, rfl, ha, hb, q⟩ := h
  cases rx
  cases ry
  obtain ⟨f, fd, ds, hm, hbd, hd, F⟩ := M.ex
  cases hd
  obtain ⟨mA, J, _⟩ := ins_get I.hok ha
  obtain ⟨mB, J', _⟩ := ins_get I.hok hb
  obtain ⟨od, J, _⟩ := J.look
  obtain ⟨od', J', _⟩ := J'.look
  obtain ⟨m, hF⟩ := I.fr
  refine PySem.W.cmp_K (op := .Eq) (tb := .ref C) hr.units0 hF I.ok.mod.kin J J'.type (by simp [PySem.W.notFirst]) hm.at_ hm.fn ?_
  refine wpAny_mono (run_fn (us := [.ref a, .ref b]) (vs := [.ref a, .ref b]) F hr hbd .nil hx I (.cons rfl (.cons rfl .nil)) q) (fun v s' z => ?_) fun _ _ z => z
  obtain ⟨v', H', I', r, k, rfl, q'⟩ := z
  exact relV_back r ⟨_, H', I', r, q'⟩
theorem op_own_ne (hne : PySem.W.findIn X.K (.ref C) "__ne__" = some (some (.builtin "object.__ne__"))) (hob : PySem.W.subIn X.K (.ref C) (.type "object") = some true) (M : MethD X.prog X.w X.K X.mg X.base CX k C "__eq__" ps [] sp) (hr : Room (k + 1) X.A) (hx : Passes CX X.nox E) : OpR X (compareOp .NotEq) (rOwnEq C sp E true) := by
  intro pins s σ H x y v u Q I rx ry h
  obtain ⟨a, dx, fs, b, dy, gs, rfl, rfl, ha, hb, q⟩ := h
  cases rx
  cases ry
  obtain ⟨f, fd, ds, hm, hbd, hd, F⟩ := M.ex
  cases hd
  obtain ⟨mA, J, _⟩ := ins_get I.hok ha
  obtain ⟨mB, J', _⟩ := ins_get I.hok hb
  obtain ⟨od, J, _⟩ := J.look
  obtain ⟨od', J', _⟩ := J'.look
  refine ne_own (tb := .ref C) (hu_of hr) I.kIn J J'.type (by simp [PySem.W.notFirst]) hne hm.at_ hm.fn hob ?_
  have hl : ([Value.ref a, Value.ref b] ++ []).length = ps.length := by
    rw [← F.len _ _ _ _ q]
    rfl
  refine wpAny_call (codeAny_mono (F.run X.A.in1 X.stack s H ⟨[.ref a, .ref b], []⟩ [.ref a, .ref b] [.ref a, .ref b] _ E hr.in1 I.env0.in1 (by
    have := hbd s [.ref a, .ref b] I.kIn hl
    simpa using this) (.cons rfl (.cons rfl .nil)) q) fun r s' hq => ?_)
  cases r with
  | error er => exact False.elim (hx pins σ H s er s' (I.wish _) hq)
  | ok fl =>
    cases fl with
    | ret u =>
      obtain ⟨v', H', I', r, k, rfl, q'⟩ := I.after hq
      cases r
      exact ⟨k, rfl, .bl (!k), H', I', rfl, q'⟩
    | next => exact False.elim hq
    | brk => exact False.elim hq
    | cont => exact False.elim hq
/-! ### properties in one word -/
structure PropD (P : Program) (w : World) (K : PySem.W.Frag) (mg : Str → Option Value) (base : Heap) (CX : CXT) (k : Nat) (C : Addr) (f : Str) (sp : Sp) : Prop where
  ex : ∃ p g fd, PropOf K C f p g ∧ Binds K fd ["self"] [] ∧ FnOk P w K mg base CX k g fd ["self"] sp
structure PropAt (K : PySem.W.Frag) (C : Addr) (m qual : Str) (st : Stmt) : Prop where
  ex : ∃ p g fd, PropOf K C m p g ∧ FunD K m qual (defArgs st) (defBody st) (defScope st) [] [] g fd ∧ Binds K fd ["self"] []
theorem pe_propD {f : Str} (c : Cls X.K C) (M : PropD X.prog X.w X.K X.mg X.base CX k C f sp) (hr : Room (k + 1) X.A) (hx : Passes CX X.nox E) (he : PE X e ta) (hab : attributeBase e f X.env (eval e X.env) = eval e X.env) : PE X (.Attribute e f pos) (tProp C sp [] E ta) := by
  obtain ⟨p, g, fd, hp, hb, F⟩ := M.ex
  exact pe_prop he c hp F hr hb .nil hx hab
end
end JW
/-! JWSort: sorted(xs, key=f) where f gives texts: any length, f any callable that the layer can run. -/
namespace JW
open PySem PySem.Spec PyProof.Rows L2
/-! ### pinned objects changed, tracked -/
section
variable {X : Cx} {pins : List (Addr × Obj)} {σ : L2.St} {H : Hp} {s : Shared}
theorem repin {q : Addr} {o o' : Obj} {h' : Heap} {t' : Nat} (I : Inv X ((q, o) :: pins) σ H s) (hs : X.s_0.heap.objs.size ≤ q) (hp : ∀ p ∈ X.pn ++ pins, p.1 ≠ q)
    (k : ∀ b u, b ≠ q → s.heap.get? b = some u → h'.get? b = some u) (hq : h'.get? q = some o') (hc : ∀ v, o'.data ≠ .cell v) : Inv X ((q, o') :: pins) σ H { s with heap := h', toks := t' } := by
  have hpin := I.pin (q, o) (List.mem_append_right _ List.mem_cons_self)
  have I1 := (ClX.unpin I).turned (t' := t') k hpin.2.1 hpin.2.2.1 (.inr hs) (fun x c e z => by
    obtain ⟨v, o2, ho, hdat⟩ := I.cell x c e
    rw [z] at ho
    have h2 : s.heap.get? q = some o := hpin.1
    rw [h2] at ho
    cases ho
    exact hpin.2.2.2.2 v hdat) hp
  refine I1.pins_of fun p hp' => ?_
  rcases List.mem_cons.mp hp' with e | e
  · subst e
    exact ⟨hq, hpin.2.1, hpin.2.2.1, hpin.2.2.2.1, hc⟩
  · exact I1.pin p (List.mem_append_right _ e)
/-- a pinned object is tracked from now on -/
theorem track {a : Addr} {o : Obj} {u : HO} (I : Inv X ((a, o) :: pins) σ H s) (hs : X.s_0.heap.objs.size ≤ a) (hp : ∀ p ∈ X.pn ++ pins, p.1 ≠ a) (new : ObjOk X.prog X.w (upd H a u) s.heap a u) : Inv X pins σ (upd H a u) s := by
  have hpin := I.pin (a, o) (List.mem_append_right _ List.mem_cons_self)
  have hn : H a = none := hpin.2.1
  have I0 := ClX.unpin I
  have ne : ∀ b w, H b = some w → b ≠ a := fun b w e => ne_of_none e hn
  refine ⟨I0.ok, I0.os, I0.bare, ⟨I0.base.keep, I0.base.slot, fun b w e n hx => ?_, I0.base.there, fun b xs e => ?_, fun b w xs e => ?_, fun b ps e => ?_⟩, I0.loc, I0.cell, ?_, fun x c e => ?_, fun p hp' => ?_, fun b w e => ?_, I0.len⟩
  · rw [upd_ne (Nat.ne_of_lt (Nat.lt_of_lt_of_le (Heap.lt_size e) hs))]
    exact I0.base.free b w e n hx
  · have q := I0.base.tups b xs e
    rw [upd_ne (ne b _ q)]
    exact q
  · have q := I0.base.frzs b w xs e
    rw [upd_ne (ne b _ q)]
    exact q
  · obtain ⟨more, q⟩ := I0.base.tbls b ps e
    exact ⟨more, by rw [upd_ne (ne b _ q)]; exact q⟩
  · rw [upd_ne (Ne.symm hpin.2.2.1)]
    exact I0.free
  · rw [upd_ne (fun z => by
      obtain ⟨v, o2, ho, hdat⟩ := I0.cell x c e
      rw [z] at ho
      have h2 : s.heap.get? a = some o := hpin.1
      rw [h2] at ho
      cases ho
      exact hpin.2.2.2.2 v hdat)]
    exact I0.freeC x c e
  · obtain ⟨h1, h2, h3⟩ := I0.pin p hp'
    exact ⟨h1, by rw [upd_ne (hp p hp')]; exact h2, h3⟩
  · by_cases hb : b = a
    · rw [hb, upd_same] at e
      cases e
      rw [hb]
      exact new
    · rw [upd_ne hb] at e
      exact (I0.hok b w e).stay (fun c v _ q => q) (fun c q => by rw [upd_ne (ne c _ q)]; exact q) fun c xs q => by rw [upd_ne (ne c _ q)]; exact q
end
/-! ### the run -/
theorem strs_snoc {z : Str} {t : Tok} : ∀ {vs : List Value} {ss : List Str}, StrsAre vs ss → StrsAre (vs ++ [.str z t]) (ss ++ [z])
  | _, _, .nil => .cons z t .nil
  | _, _, .cons x u h => .cons x u (strs_snoc h)
theorem zip_mapL {α β γ : Type} (f : α → γ) : ∀ (xs : List α) (ys : List β), (xs.map f).zip ys = (xs.zip ys).map fun p => (f p.1, p.2)
  | [], _ => rfl
  | _ :: _, [] => rfl
  | x :: xs, y :: ys => by rw [List.map_cons, List.zip_cons_cons, List.zip_cons_cons, List.map_cons, zip_mapL f xs ys]
/-- out is xs by rising texts zs -/
def Keyd (zs : List Str) (vs out : List Value) : Prop := ∃ ps : List (Str × Value), ps.Perm (zs.zip vs) ∧ ps.Pairwise (fun p q => ¬ q.1.cps.toList < p.1.cps.toList) ∧ out = ps.map (·.2)
theorem key_out {keys : Array Value} {vs : List Value} {zs : List Str} (hk : StrsAre keys.toList zs) {xs : Array Keyed} (hp : xs.Perm (keys.zip vs.toArray)) (hs : SortedToK strKind xs xs.size) : Keyd zs vs (xs.map (·.2)).toList := by
  have hl : xs.toList.Perm (keys.toList.zip vs) := by rw [← PyProof.Rows.ksk_zip]; exact Array.perm_iff_toList_perm.mp hp
  have hmem : ∀ p, p ∈ xs.toList → ∃ z t, p.1 = .str z t := fun p hp' => hk.all p.1 (List.of_mem_zip (hl.mem_iff.mp hp')).1
  refine ⟨xs.toList.map fun p => (strOf p.1, p.2), ?_, ?_, by rw [Array.toList_map, List.map_map]; rfl⟩
  · have h1 := hl.map fun p : Value × Value => (strOf p.1, p.2)
    have e : (keys.toList.zip vs).map (fun p : Value × Value => (strOf p.1, p.2)) = zs.zip vs := by
      rw [← hk.strs, zip_mapL]
    rw [e] at h1
    exact h1
  · rw [List.pairwise_iff_getElem]
    intro i j hi hj hij
    have hi' : i < xs.size := by simpa using hi
    have hj' : j < xs.size := by simpa using hj
    have h1 := hs i j (Nat.le_of_lt hij) hj'
    obtain ⟨x, t, ex⟩ := hmem xs[i] (by simp)
    obtain ⟨y, u, ey⟩ := hmem xs[j] (by simp)
    rw [KK_str hi' (x := x) (t := t) (q := xs[i].2) (Prod.ext ex rfl), KK_str hj' (x := y) (t := u) (q := xs[j].2) (Prod.ext ey rfl)] at h1
    have h2 : decide (y.cps.toList < x.cps.toList) = false := h1
    simp only [List.getElem_map, Array.getElem_toList]
    rw [show strOf xs[i].1 = x by rw [ex]; rfl, show strOf xs[j].1 = y by rw [ey]; rfl]
    exact of_decide_eq_false h2

section
variable {X : Cx} {pins : List (Addr × Obj)} {σ : L2.St} {A : Around} {E : Value → Shared → Prop} {a kS : Addr} {vs : List Value} {xs : List V} {zs : List Str} {R : Hp → Prop} {e1 : Nat} {P : PySem.Fin → Shared → Prop}
/-- what is asked of the two lists of the sort's own -/
structure Own2 (X : Cx) (pins : List (Addr × Obj)) (a kS : Addr) : Prop where
  sk : X.s_0.heap.objs.size ≤ kS
  sa : X.s_0.heap.objs.size ≤ a
  ka : kS ≠ a
  pk : ∀ p ∈ X.pn ++ pins, p.1 ≠ kS
  pa : ∀ p ∈ X.pn ++ pins, p.1 ≠ a
theorem Own2.pk' {o : Obj} (O : Own2 X pins a kS) : ∀ p ∈ X.pn ++ ((a, o) :: pins), p.1 ≠ kS := fun p hp => by
  rcases List.mem_append.mp hp with h | h
  · exact O.pk p (List.mem_append_left _ h)
  · rcases List.mem_cons.mp h with h | h
    · rw [h]
      exact O.ka.symm
    · exact O.pk p (List.mem_append_right _ h)
theorem noCell (ys : Array Value) (n : Nat) : ∀ v, (seqObj "list" ys n).data ≠ .cell v := fun v z => by cases z
theorem key_tail {keys : Array Value} {e : Nat} {H : Hp} {s : Shared} {st : SortSt} (O : Own2 X pins a kS) (I : Inv X ((kS, seqObj "list" keys e) :: (a, seqObj "list" #[] e1) :: pins) σ H s) (hR : R H) (hk : StrsAre keys.toList zs) (hlen : zs.length = vs.length) (hZ : vs.length ≤ sizeLine)
    (hp : (arrOf st).Perm (keys.zip vs.toArray)) (hs : SortedToK strKind (arrOf st) (arrOf st).size) (hfl : failedOf st = none)
    (h : ∀ s' out c, Inv X ((a, seqObj "list" out c) :: pins) σ H s' → R H → Keyd zs vs out.toList → P (.done (.ret .none)) s') :
    wpAny (model X.prog X.w) A (ksk_tail a false e1 (.ref kS) st) P E s := by
  have hZ2 := hZ
  rw [sizeLine_eq] at hZ2
  have hsz : keys.size = vs.length := by
    have h1 := hk.length
    rw [Array.length_toList] at h1
    omega
  have hsz2 : (arrOf st).size = vs.length := by rw [hp.size_eq, Array.size_zip, hsz, List.size_toArray, Nat.min_self]
  have nk : s.heap.get? kS = some (seqObj "list" keys e) := (I.pin (kS, _) (List.mem_append_right _ List.mem_cons_self)).1
  have na : s.heap.get? a = some (seqObj "list" #[] e1) := (I.pin (a, _) (List.mem_append_right _ (List.mem_cons_of_mem _ List.mem_cons_self))).1
  have s1 := Heap.SameBut.update s.heap kS (Obj.mapSeq fun _ => (#[] : Array Value))
  have na1 : (s.heap.update kS (Obj.mapSeq fun _ => (#[] : Array Value))).get? a = some (seqObj "list" #[] e1) := (s1.2 a O.ka.symm).trans na
  obtain ⟨c1, hc1⟩ : ∃ c1, (s.heap.update kS (Obj.mapSeq fun _ => (#[] : Array Value))).get? kS = some (seqObj "list" #[] c1) := ⟨_, get?_update_seq nk fun _ => #[]⟩
  have s2 := Heap.SameBut.update (s.heap.update kS (Obj.mapSeq fun _ => (#[] : Array Value))) a (Obj.mapSeq fun _ => (arrOf st).map (·.2))
  obtain ⟨c2, hc2⟩ : ∃ c2, ((s.heap.update kS (Obj.mapSeq fun _ => (#[] : Array Value))).update a (Obj.mapSeq fun _ => (arrOf st).map (·.2))).get? a = some (seqObj "list" ((arrOf st).map (·.2)) c2) := ⟨_, get?_update_seq na1 fun _ => (arrOf st).map (·.2)⟩
  unfold ksk_tail
  try dsimp only
  refine wpAny_bind (listUpdate_at nk rfl ?_ (by rw [hsz, sizeLine_eq]; omega) (Nat.zero_le _))
  refine wpAny_bind (wpAny_letGo ?_)
  refine wpAny_bind (seqEpoch_at na1 rfl ?_)
  simp only [Bool.false_eq_true, if_false]
  refine wpAny_bind (listUpdate_at na1 rfl ?_ (Nat.zero_le _) (by rw [Array.size_map, hsz2, sizeLine_eq]; omega))
  rw [hfl]
  simp only [bne_self_eq_false, Bool.false_eq_true, if_false]
  have I1 := repin (t' := s.toks) I O.sk O.pk' (fun b u hb q => (s1.2 b hb).trans q) hc1 (noCell _ _)
  have I2 := repin (t' := s.toks) (ClX.unpin I1) O.sa O.pa (fun b u hb q => (s2.2 b hb).trans q) hc2 (noCell _ _)
  exact wpAny_pure (h _ _ c2 I2 hR (key_out hk hp hs))
theorem key_end {keys : Array Value} {e : Nat} {H : Hp} {s : Shared} (O : Own2 X pins a kS) (I : Inv X ((kS, seqObj "list" keys e) :: (a, seqObj "list" #[] e1) :: pins) σ H s) (hR : R H) (hk : StrsAre keys.toList zs) (hlen : zs.length = vs.length) (hZ : vs.length ≤ sizeLine)
    (h : ∀ s' out c, Inv X ((a, seqObj "list" out c) :: pins) σ H s' → R H → Keyd zs vs out.toList → P (.done (.ret .none)) s') :
    wpAny (model X.prog X.w) A (ksk_end a false vs.toArray e1 (.ref kS) keys) P E s := by
  have hZ2 := hZ
  rw [sizeLine_eq] at hZ2
  have hsz : keys.size = vs.length := by
    have h1 := hk.length
    rw [Array.length_toList] at h1
    omega
  have hzs : (keys.zip vs.toArray).size = vs.length := by rw [Array.size_zip, hsz, List.size_toArray, Nat.min_self]
  have kO : KeysOf strKind (keys.zip vs.toArray) := fun p hp => by
    rw [PyProof.Rows.ksk_zip] at hp
    obtain ⟨z, t, e⟩ := hk.all p.1 (List.of_mem_zip hp).1
    exact ⟨z.cps.toList, by rw [e]⟩
  unfold ksk_end
  simp only [Bool.false_eq_true, if_false]
  by_cases h2 : vs.toArray.size < 2
  · rw [if_pos h2, if_pos h2]
    refine wpAny_bind (wpAny_pure ?_)
    rw [StateT.run_pure]
    refine wpAny_bind (wpAny_pure ?_)
    try dsimp only
    refine key_tail (st := SortSt.mk' general' (keys.zip vs.toArray) #[] 7 none) O I hR hk hlen hZ (Array.Perm.refl _) ?_ rfl h
    intro i j hij hj
    have hj2 : j < (keys.zip vs.toArray).size := hj
    rw [hzs] at hj2
    rw [List.size_toArray] at h2
    have : i = j := by omega
    subst this
    exact KeyOrd.kle_refl _
  · rw [if_neg h2, if_neg h2]
    rw [List.size_toArray] at h2
    have kk : keyKind' keys = pure oneType' := by
      match hv : keys.toList, hk with
      | [], _ => rw [← Array.length_toList, hv] at hsz; simp at hsz; omega
      | [_], _ => rw [← Array.length_toList, hv] at hsz; simp at hsz; omega
      | v1 :: v2 :: r, hk' =>
        have e : keys = (v1 :: v2 :: r).toArray := by rw [← hv]
        rw [e]
        exact keyKind_strs hk'
    rw [kk]
    refine wpAny_bind (wpAny_pure ?_)
    refine wpAny_bind (wpAny_mono (wpS_sortRunsAny (κ := strKind) (a₀ := keys.zip vs.toArray) (st := SortSt.mk' oneType' (keys.zip vs.toArray) #[] 7 none)
      (Q := fun _ st' => (arrOf st').Perm (keys.zip vs.toArray) ∧ failedOf st' = none ∧ SortedToK strKind (arrOf st') (keys.zip vs.toArray).size)
      strKind_oneLt kO ⟨Array.Perm.refl _, rfl, rfl⟩ rfl (by rw [hzs]; omega) fun st' a1 a2 a3 => ⟨a1, a2, a3⟩) ?_ fun _ _ e => e)
    rintro ⟨⟨⟩, st'⟩ s' ⟨rfl, hp, hf, hs⟩
    try dsimp only
    exact key_tail O I hR hk hlen hZ hp (by rw [hp.size_eq]; exact hs) hf h
theorem key_rest {f : Value} {H : Hp} {s : Shared} (O : Own2 X pins a kS) (I : Inv X ((kS, seqObj "list" #[] 0) :: (a, seqObj "list" #[] e1) :: pins) σ H s) (hR : R H) (rv : Vals xs vs) (hlen : zs.length = vs.length) (hZ : vs.length ≤ sizeLine)
    (turn : ∀ (i : Nat) (x : V) (z : Str), xs[i]? = some x → zs[i]? = some z → ∀ (pn : List (Addr × Obj)) (s' : Shared) (H' : Hp) (u : Value), Inv X (pn ++ pins) σ H' s' → R H' → RelV x u →
      wpAny (model X.prog X.w) A (call f [u]) (EP X (pn ++ pins) σ fun v H2 => v = .str z ∧ R H2) (fun _ _ => False) s')
    (h : ∀ s' H' out c, Inv X ((a, seqObj "list" out c) :: pins) σ H' s' → R H' → Keyd zs vs out.toList → P (.done (.ret .none)) s') :
    wpAny (model X.prog X.w) A (ksk_rest a f false vs.toArray e1 (.ref kS)) P E s := by
  have hZ2 := hZ
  rw [sizeLine_eq] at hZ2
  unfold ksk_rest
  refine wpAny_bind (wpAny_rule ?_)
  first
    | rw [List.forIn_toArray]
    | (rw [← Array.forIn_toList]; simp only [List.toList_toArray])
    | rw [← Array.forIn_toList]
  refine wpAny_bind (ksk_fold (fun i s' => ∃ H' kA e, Inv X ((kS, seqObj "list" kA e) :: (a, seqObj "list" #[] e1) :: pins) σ H' s' ∧ R H' ∧ StrsAre kA.toList (zs.take i)) vs 0 s
    ⟨H, #[], 0, I, hR, by simpa using StrsAre.nil⟩ ?step ?done)
  case step =>
    rintro j u s' hx ⟨H', kA, e, I', hR', hk⟩
    simp only [Nat.zero_add] at hk ⊢
    have hj : j < vs.length := (List.getElem?_eq_some_iff.mp hx).1
    obtain ⟨z, hzj⟩ : ∃ z, zs[j]? = some z := ⟨_, List.getElem?_eq_getElem (by omega)⟩
    have hz : kA.size ≤ vs.length := by
      have h1 := hk.length
      rw [Array.length_toList, List.length_take] at h1
      omega
    obtain ⟨x, hxj, rx⟩ : ∃ x, xs[j]? = some x ∧ RelV x u := by
      have hjx : j < xs.length := by rw [rv.length]; exact hj
      obtain ⟨u', hu', r'⟩ := rv.get (List.getElem?_eq_getElem hjx)
      rw [hx] at hu'
      cases hu'
      exact ⟨_, List.getElem?_eq_getElem hjx, r'⟩
    refine wpAny_bind (wpAny_attempt (wpAny_mono (turn j x z hxj hzj [(kS, seqObj "list" kA e), (a, seqObj "list" #[] e1)] s' H' u I' hR' rx) (fun v s'' he => ?_) fun _ _ hF => hF.elim))
    obtain ⟨y, H2, I2, ry, rfl, hR2⟩ := he
    obtain ⟨t2, rfl⟩ := ry
    try dsimp only
    have I2' : Inv X ((kS, seqObj "list" kA e) :: (a, seqObj "list" #[] e1) :: pins) σ H2 s'' := I2
    have nk : s''.heap.get? kS = some (seqObj "list" kA e) := (I2'.pin (kS, _) (List.mem_append_right _ List.mem_cons_self)).1
    have s1 := Heap.SameBut.update s''.heap kS (Obj.mapSeq (·.push (.str z t2)))
    obtain ⟨c2, hc2⟩ : ∃ c2, (s''.heap.update kS (Obj.mapSeq (·.push (.str z t2)))).get? kS = some (seqObj "list" (kA.push (.str z t2)) c2) := ⟨_, get?_update_seq nk (·.push (.str z t2))⟩
    have ek : zs.take (j + 1) = zs.take j ++ [z] := by rw [List.take_add_one, hzj]; simp
    have ea : (kA.push (Value.str z t2)).toList = kA.toList ++ [Value.str z t2] := by simp
    refine wpAny_bind (listUpdate_at nk rfl ?_ (by rw [sizeLine_eq]; omega) (Nat.le_trans (Nat.le_of_eq (Array.size_push ..)) (by rw [sizeLine_eq]; omega)))
    refine wpAny_pure ⟨rfl, H2, kA.push (.str z t2), c2, repin (t' := s''.toks) I2' O.sk O.pk' (fun b u hb q => (s1.2 b hb).trans q) hc2 (noCell _ _), hR2, ?_⟩
    rw [ea, ek]
    exact strs_snoc hk
  case done =>
    rintro s' ⟨H', kA, e, I', hR', hk⟩
    have hk' : StrsAre kA.toList zs := by
      have e3 : zs.take (0 + vs.length) = zs := List.take_of_length_le (by omega)
      rw [e3] at hk
      exact hk
    have nk : s'.heap.get? kS = some (seqObj "list" kA e) := (I'.pin (kS, _) (List.mem_append_right _ List.mem_cons_self)).1
    try dsimp only
    refine wpAny_bind (listItems_at nk rfl ?_)
    exact key_end O I' hR' hk' hlen hZ fun s2 out c I2 hR2 k2 => h s2 H' out c I2 hR2 k2
end

/-! ### sorted(xs, key=f) -/
section
variable {X : Cx} {pins : List (Addr × Obj)} {σ : L2.St} {E : Value → Shared → Prop} {xs : List V} {zs : List Str} {R : Hp → Prop}
/-- out is xs by rising texts zs, as values of the layer -/
def KeydV (zs : List Str) (xs out : List V) : Prop := ∃ ps : List (Str × V), ps.Perm (zs.zip xs) ∧ ps.Pairwise (fun p q => ¬ q.1.cps.toList < p.1.cps.toList) ∧ out = ps.map (·.2)
theorem keyd_vals {vs out : List Value} (rv : Vals xs vs) (hlen : zs.length = xs.length) (k : Keyd zs vs out) : ∃ ys, Vals ys out ∧ KeydV zs xs ys := by
  obtain ⟨ps, pm, pw, rfl⟩ := k
  -- the places
  have go : ∀ {ps qs : List (Str × Value)}, ps.Perm qs → ∀ ws : List (Str × V), Paired (fun (p : Str × V) (q : Str × Value) => p.1 = q.1 ∧ RelV p.2 q.2) ws qs → ∃ rs : List (Str × V), rs.Perm ws ∧ Paired (fun (p : Str × V) (q : Str × Value) => p.1 = q.1 ∧ RelV p.2 q.2) rs ps := by
    intro ps qs pm
    induction pm with
    | nil =>
      intro ws h
      cases h
      exact ⟨[], List.Perm.refl _, .nil⟩
    | cons x _ ih =>
      intro ws h
      cases h with
      | cons r t =>
        obtain ⟨rs, p1, p2⟩ := ih _ t
        exact ⟨_ :: rs, p1.cons _, .cons r p2⟩
    | swap x y l =>
      intro ws h
      cases h with
      | cons r t =>
        cases t with
        | cons r2 t2 => exact ⟨_ :: _ :: _, List.Perm.swap _ _ _, .cons r2 (.cons r t2)⟩
    | trans _ _ ih1 ih2 =>
      intro ws h
      obtain ⟨rs, p1, p2⟩ := ih2 _ h
      obtain ⟨rs', p3, p4⟩ := ih1 _ p2
      exact ⟨rs', p3.trans p1, p4⟩
  have zp : ∀ {xs : List V} {vs : List Value} (zs : List Str), Vals xs vs → Paired (fun (p : Str × V) (q : Str × Value) => p.1 = q.1 ∧ RelV p.2 q.2) (zs.zip xs) (zs.zip vs) := by
    intro xs vs zs r
    induction r generalizing zs with
    | nil => cases zs <;> exact .nil
    | cons r t ih =>
      cases zs with
      | nil => exact .nil
      | cons z zs => exact .cons ⟨rfl, r⟩ (ih zs)
  obtain ⟨rs, p1, p2⟩ := go pm _ (zp zs rv)
  have m2 : ∀ {rs : List (Str × V)} {ps : List (Str × Value)}, Paired (fun (p : Str × V) (q : Str × Value) => p.1 = q.1 ∧ RelV p.2 q.2) rs ps → Vals (rs.map (·.2)) (ps.map (·.2)) ∧ rs.map (·.1) = ps.map (·.1) := by
    intro rs ps h
    induction h with
    | nil => exact ⟨.nil, rfl⟩
    | cons r t ih => exact ⟨.cons r.2 ih.1, by rw [List.map_cons, List.map_cons, ih.2, r.1]⟩
  refine ⟨rs.map (·.2), (m2 p2).1, rs, p1, ?_, rfl⟩
  have e := (m2 p2).2
  have q1 : (ps.map (·.1)).Pairwise (fun p q : Str => ¬ q.cps.toList < p.cps.toList) := List.pairwise_map.mpr pw
  rw [← e] at q1
  exact List.pairwise_map.mp q1
/-- what stands in a list or a tuple, gathered -/
theorem collect_seq {prog : Program} {w : World} {A : Around} {E : Value → Shared → Prop} {s : Shared} {l : Addr} {vs : List Value} {Q : List Value → Shared → Prop} {T : String} (hl : ∃ o n, s.heap.get? l = some o ∧ o.cls = .type T ∧ o.data = .seq vs.toArray n) (hT : T = "list" ∨ T = "tuple")
    (h : Q vs { s with heap := (s.heap.push (seqObj "list" #[] 0)).update s.heap.objs.size (Obj.mapSeq (· ++ vs.toArray)) }) (hsz : vs.length ≤ sizeLine) :
    wpAny (model prog w) A (collect (.ref l)) Q E s := by
  obtain ⟨o, n, ho, hc, hd⟩ := id hl
  unfold collect
  refine wpAny_bind (wpAny_runValue (codeAny_builtin entry_proto_collect' ?_))
  show wpAny _ _ (do again (.builtin "list.__iadd__" ⟨[← newList [], .ref l], []⟩)) _ _ s
  refine wpAny_bind (wpAny_newList (wpAny_pure ⟨Code.quiet_builtin _ (by decide +kernel), codeAny_builtin entry_list_iadd' ?_⟩))
  show wpAny _ _ (Builtin.List.listExtendWith (.ref s.heap.objs.size) (.ref l) (.ref s.heap.objs.size)) _ _ { s with heap := s.heap.push (seqObj "list" #[] 0) }
  unfold Builtin.List.listExtendWith
  have ho' : (s.heap.push (seqObj "list" #[] 0)).get? l = some o := Heap.get?_push_of_some _ ho
  refine wpAny_bind (wpAny_typeOf (T := T) ⟨o, ho', hc⟩ ?_)
  have t1 : (Value.type "list" == Value.type "list") = true := by rfl
  have t2 : (Value.type "tuple" == Value.type "tuple") = true := by rfl
  rw [if_pos (by
    rcases hT with e | e
    · subst e
      rw [t1]
      simp
    · subst e
      rw [t2]
      simp)]
  refine wpAny_bind (listItems_at ho' hd ?_)
  refine wpAny_bind (listItems_at (xs := #[]) (n := 0) (Heap.get?_push_size _ rfl) rfl ?_)
  rw [if_neg (by simp)]
  refine wpAny_bind (listUpdate_at (xs := #[]) (n := 0) (Heap.get?_push_size _ rfl) rfl ?_ (Nat.zero_le _) (by show (#[] ++ vs.toArray).size ≤ sizeLine + 1; simp only [Array.size_append, List.size_toArray, List.length_nil]; omega))
  refine wpAny_pure ?_
  show wpAny (model prog w) A (do
      let o ← load s.heap.objs.size
      match o.data with
      | .seq xs _ => pure xs.toList
      | _ => unsupported "internal:collect") Q E { s with heap := (s.heap.push (seqObj "list" #[] 0)).update s.heap.objs.size (Obj.mapSeq (· ++ vs.toArray)) }
  refine wpAny_bind (wpAny_load (get?_update_seq (Heap.get?_push_size _ rfl) _) ?_)
  show wpAny _ _ (pure ((#[] : Array Value) ++ vs.toArray).toList) Q E _
  rw [show ((#[] : Array Value) ++ vs.toArray).toList = vs by simp]
  exact wpAny_pure h
/-- a list or a tuple -/
def Sq (K : PySem.W.Frag) (H : Hp) (a : Addr) (xs : List V) : Prop := SqL K H a xs ∨ SqT K H a xs
theorem sq_at {H : Hp} {s : Shared} {a : Addr} {xs : List V} (I : Inv X pins σ H s) (h : Sq X.K H a xs) : ∃ its : List Value, Vals xs its ∧ xs.length ≤ sizeLine ∧ ∃ T : String, (T = "list" ∨ T = "tuple") ∧ ∃ o n, s.heap.get? a = some o ∧ o.cls = .type T ∧ o.data = .seq its.toArray n := by
  rcases h with h | h
  · obtain ⟨its, r, ⟨o, n, e, c, _, d⟩, z⟩ := I.list h
    exact ⟨its, r, z, _, .inl rfl, o, n, e, c, d⟩
  · obtain ⟨its, r, ⟨o, e, c, n, d⟩, z⟩ := I.tuple h
    exact ⟨its, r, z, _, .inr rfl, o, n, e, c, d⟩
theorem sorted_key {f : Addr} {l : Addr} {H : Hp} {s : Shared} {Q : Value → Shared → Prop} (I : Inv X pins σ H s) (hR : R H) (hl : Sq X.K H l xs) (hlen : zs.length = xs.length)
    (turn : ∀ (i : Nat) (x : V) (z : Str), xs[i]? = some x → zs[i]? = some z → ∀ (pn : List (Addr × Obj)) (s' : Shared) (H' : Hp) (u : Value), Inv X (pn ++ pins) σ H' s' → R H' → RelV x u →
      wpAny (model X.prog X.w) X.A.in1.in1 (call (.ref f) [u]) (EP X (pn ++ pins) σ fun v H2 => v = .str z ∧ R H2) (fun _ _ => False) s')
    (h : ∀ (D : Addr) (s' : Shared) (H' : Hp) (ys : List V), Inv X pins σ (upd H' D (.lst ys)) s' → H' D = none → R H' → KeydV zs xs ys → Q (.ref D) s') :
    wpAny (model X.prog X.w) X.A (call (.builtin "sorted") [.ref l] [(Str.ofString "key", .ref f)]) Q E s := by
  obtain ⟨vs, rv, hz, T, hT, pl⟩ := sq_at I hl
  have hlv := rv.length
  have hZ : vs.length ≤ sizeLine := by omega
  have hZ2 := hZ
  rw [sizeLine_eq] at hZ2
  refine call_function_entry_kw kind_sorted plain_sorted entry_sorted (PyProof.Rows.ksk_s1 _ _) ?_
  unfold Builtin.«sorted»
  refine wpAny_bind (m := checkCount "sorted" 1 1 _) (wpAny_pure ?_)
  refine wpAny_bind (collect_seq pl hT ?_ (by rw [sizeLine_eq]; omega))
  refine wpAny_bind (wpAny_newList ?_ (by rw [sizeLine_eq]; omega))
  have hsz : ((s.heap.push (seqObj "list" #[] 0)).update s.heap.objs.size (Obj.mapSeq (· ++ vs.toArray))).objs.size = s.heap.objs.size + 1 := by
    rw [Heap.size_update, size_push']
  have hoL : (((s.heap.push (seqObj "list" #[] 0)).update s.heap.objs.size (Obj.mapSeq (· ++ vs.toArray))).push (seqObj "list" vs.toArray 0)).get? (s.heap.objs.size + 1) = some (seqObj "list" vs.toArray 0) := by
    rw [← hsz]; exact Heap.get?_push_size _ rfl
  have keep : ∀ b o, s.heap.get? b = some o → (((s.heap.push (seqObj "list" #[] 0)).update s.heap.objs.size (Obj.mapSeq (· ++ vs.toArray))).push (seqObj "list" vs.toArray 0)).get? b = some o := fun b o q => by
    have hlt : b < s.heap.objs.size := Heap.lt_size q
    rw [Heap.get?_push_ne _ _ _ (by rw [hsz]; exact Nat.ne_of_lt (Nat.lt_succ_of_lt hlt)), Heap.get?_update_ne _ _ _ _ (Nat.ne_of_lt hlt), Heap.get?_push_ne _ _ _ (Nat.ne_of_lt hlt)]
    exact q
  have szA : (((s.heap.push (seqObj "list" #[] 0)).update s.heap.objs.size (Obj.mapSeq (· ++ vs.toArray))).push (seqObj "list" vs.toArray 0)).objs.size = s.heap.objs.size + 2 := by rw [size_push', hsz]
  generalize (((s.heap.push (seqObj "list" #[] 0)).update s.heap.objs.size (Obj.mapSeq (· ++ vs.toArray))).push (seqObj "list" vs.toArray 0)) = hA at hoL keep szA
  show wpAny _ _ _ _ _ { s with heap := hA }
  rw [hsz]
  refine wpAny_bind (wpAny_holding (wpAny_call_entry_kw slot_list_sort ⟨_, hoL, rfl⟩ entry_list_sort ?body (PyProof.Rows.ksk_l1 _ _)))
  case body =>
    show wpAny (model X.prog X.w) X.A.in1.in1 (Builtin.«list.sort» ⟨[.ref (s.heap.objs.size + 1)], [(Str.ofString "key", .ref f)]⟩) _ _ _
    rw [PyProof.Rows.ksk_t1]
    -- the sort's own lists
    have s1 := Heap.SameBut.update hA (s.heap.objs.size + 1) (Obj.mapSeq fun _ => (#[] : Array Value))
    obtain ⟨e1, ho1⟩ : ∃ e1, (hA.update (s.heap.objs.size + 1) (Obj.mapSeq fun _ => (#[] : Array Value))).get? (s.heap.objs.size + 1) = some (seqObj "list" #[] e1) := ⟨_, get?_update_seq hoL fun _ => #[]⟩
    have keep2 : ∀ b o, s.heap.get? b = some o → (((hA.update (s.heap.objs.size + 1) (Obj.mapSeq fun _ => (#[] : Array Value))).push (seqObj "tuple" vs.toArray 0)).push (seqObj "list" #[] 0)).get? b = some o := fun b o q => by
      have hlt : b < s.heap.objs.size := Heap.lt_size q
      exact Heap.get?_push_of_some _ (Heap.get?_push_of_some _ ((s1.2 b (Nat.ne_of_lt (Nat.lt_succ_of_lt hlt))).trans (keep b o q)))
    have hkS : ((hA.update (s.heap.objs.size + 1) (Obj.mapSeq fun _ => (#[] : Array Value))).push (seqObj "tuple" vs.toArray 0)).objs.size = s.heap.objs.size + 3 := by rw [size_push', Heap.size_update, szA]
    have ltp : ∀ p ∈ X.pn ++ pins, p.1 < s.heap.objs.size := fun p hp => Heap.lt_size (I.pin p hp).1
    unfold ksk_tree
    refine wpAny_bind (listItems_at hoL rfl ?_)
    refine wpAny_bind (listUpdate_at hoL rfl ?_ (by rw [List.size_toArray, sizeLine_eq]; omega) (Nat.zero_le _))
    refine wpAny_bind (seqEpoch_at ho1 rfl ?_)
    refine wpAny_bind (wpAny_newTuple ?_ (by show vs.length ≤ _; rw [sizeLine_eq]; omega))
    refine wpAny_bind (wpAny_newList ?_ (Nat.zero_le _))
    refine wpAny_holding ?_
    have O : Own2 X pins (s.heap.objs.size + 1) (s.heap.objs.size + 3) := ⟨Nat.le_trans I.sz (Nat.le_add_right _ _), Nat.le_trans I.sz (Nat.le_add_right _ _), Nat.ne_of_gt (Nat.add_lt_add_left (by decide : 1 < 3) s.heap.objs.size), fun p hp => Nat.ne_of_lt (Nat.lt_of_lt_of_le (ltp p hp) (Nat.le_add_right _ _)), fun p hp => Nat.ne_of_lt (Nat.lt_of_lt_of_le (ltp p hp) (Nat.le_add_right _ _))⟩
    have Ia : Inv X ((s.heap.objs.size + 1, seqObj "list" #[] e1) :: pins) σ H { s with heap := ((hA.update (s.heap.objs.size + 1) (Obj.mapSeq fun _ => (#[] : Array Value))).push (seqObj "tuple" vs.toArray 0)).push (seqObj "list" #[] 0) } :=
      ClX.pin_new (t' := s.toks) I keep2 (Nat.le_succ _) (Heap.get?_push_of_some _ (Heap.get?_push_of_some _ ho1)) (noCell _ _)
    have Ik : Inv X ((s.heap.objs.size + 3, seqObj "list" #[] 0) :: (s.heap.objs.size + 1, seqObj "list" #[] e1) :: pins) σ H { s with heap := ((hA.update (s.heap.objs.size + 1) (Obj.mapSeq fun _ => (#[] : Array Value))).push (seqObj "tuple" vs.toArray 0)).push (seqObj "list" #[] 0) } := by
      refine Ia.pins_of fun p hp => ?_
      rcases List.mem_cons.mp hp with e | e
      · subst e
        refine ⟨?_, I.hok.fresh (Nat.le_add_right s.heap.objs.size 3), Nat.ne_of_gt (Nat.lt_of_lt_of_le I.lt (Nat.le_add_right s.heap.objs.size 3)), I.nofs (Nat.le_add_right s.heap.objs.size 3), noCell _ _⟩
        show Heap.get? _ (s.heap.objs.size + 3) = _
        rw [← hkS]
        exact Heap.get?_push_size _ rfl
      · exact Ia.pin p (List.mem_append_right _ e)
    rw [hkS]
    refine key_rest (R := R) O Ik hR rv (by omega) hZ turn fun s2 H2 out c I2 hR2 k2 => ⟨_, rfl, ?_⟩
    refine wpAny_pure ⟨_, rfl, ?_⟩
    obtain ⟨ys, ry, ky⟩ := keyd_vals rv hlen k2
    have hD : H2 (s.heap.objs.size + 1) = none := ClX.pin_un I2
    have ly : ys.length = xs.length := by
      obtain ⟨ps, pm, _, e⟩ := ky
      rw [e, List.length_map, pm.length_eq, List.length_zip, hlen, Nat.min_self]
    refine h _ s2 H2 ys (track I2 O.sa O.pa ⟨by omega, out.toList, c, ry, ?_⟩) hD hR2 ky
    have := ClX.pin_at I2
    simpa using this
end
end JW
/-! JWLam: a lambda of its parameters alone, called; sorted(e, key=lambda x: ..). -/
namespace JW
open PySem PySem.Spec PyProof.Rows L2 LamX
theorem lam_run {P : Program} {w : World} {K : PySem.W.Frag} {mg : Str → Option Value} {base : Heap} {CX : CXT} {N ps : List Str} {k : Nat} {nm qual : Str} {params : Arguments} {body : Expr} {scope : Scope} {f c' : Addr} {pm ctv : Value} {A : Around} {outer : List Env} {s : Shared} {H : Hp} {Q : VK} {E : XK}
    {us : List Value} {vs : List V} {t : TE} (ho : s.heap.get? f = some (PySem.W.kla_obj nm qual params body scope [] pm c' ctv)) (hcd : s.heap.CodeRec (.ref c') qual) (S : FnScope N ps scope) (hr : Room (k + 1) A) (e0 : Env0 P w K mg base A outer s H)
    (hb : BindsTo s (PySem.W.kla_fn nm qual params body scope [] pm (.ref c') ctv) ⟨us, []⟩ (ps.zip us)) (hl : vs.length = ps.length) (r : Vals vs us)
    (hbody : PE (cxOf CX P w K mg base N qual scope f (.ref c') A outer s H E).nox body t) (h : t (start N vs) H Q) :
    codeAny (model P w) A (.call (.ref f) ⟨us, []⟩) (CR CX outer P w H s Q E) s := by
  have lim : s.heap.NoLimit := e0.mod.nolimit.keeps fun b o e => (e0.bs b o e).1
  have hkind : ∀ y ∈ ps.zip us, scope.names.lookup y.1 = some .local ∨ (scope.names.lookup y.1 = some .cell ∧ ((cellsFrom (s.heap.objs.size + 1) scope.names []).lookup y.1).isSome = true) := fun ⟨n, v⟩ hy => by
    rcases S.par n (List.of_mem_zip hy).1 with q | q
    · exact .inl q
    · exact .inr ⟨q, PySem.W.cellsFrom_some _ _ _ (.inl q)⟩
  refine PySem.W.kla_callFunE hr.depth ho rfl S.co S.gen rfl hcd (hb _ _ _ _ ?_)
  refine wpAny_newFunctionEnv_cells S.kind hkind fun env he s1 x => ?_
  subst he
  refine ⟨lim.keeps x.toInCall.keep, ?_⟩
  have I : Inv (cxOf CX P w K mg base N qual scope f (.ref c') A outer s H E) [] (start N vs) H s1 := inv_start S hr.hd e0 hl r x
  refine PySem.W.kla_codeExpr (wpAny_mono (hbody.nox.run [] s1 (start N vs) H Q I h) (fun v s' hq => ?_) fun e s' hs => hs)
  obtain ⟨v', H', J, rv, q⟩ := hq
  exact ⟨v', H', J.os, J.bare, J.base, J.hok, rv, q⟩
/-- the reading of sorted(e, key=lambda ..) -/
def tSortKey (K : PySem.W.Frag) (T : List (Addr × Str)) (te : TE) (N : List Str) (tb : TE) : TE := fun σ H Q => te σ H fun x H1 => ∃ (l : Addr) (xs : List V) (zs : List Str), x = .ref l ∧ Sq K H1 l xs ∧ zs.length = xs.length ∧ Tabs T H1 ∧
  ∀ H2, ExtN H1 H2 → Tabs T H2 → ∃ R : Hp → Prop, R H2 ∧ (∀ H', R H' → ExtN H2 H') ∧
    (∀ (i : Nat) (x : V) (z : Str), xs[i]? = some x → zs[i]? = some z → ∀ H', R H' → tb (start N [x]) H' fun v H3 => v = .str z ∧ R H3) ∧
    ∀ (D : Addr) (H' : Hp) (ys : List V), R H' → H' D = none → KeydV zs xs ys → Q (.ref D) (upd H' D (.lst ys))
section
variable {X : Cx} {e : Expr} {te tb : TE} {T : List (Addr × Str)} {c P : Addr} {params : Arguments} {body : Expr} {scope : Scope} {p pos lpos kpos : Pos} {N : List Str} {y : Str} {k : Nat}
theorem pe_sortedKey (he : PE X e te) (hg : Gl X "sorted") (hm : X.mg "sorted" = none) (TB : TabB X.base X.mg c P) (hcode : X.env.code = .ref c) (hT : (P, X.env.qual ++ "<lambda>") ∈ T) (hu : ∀ q ∈ T, q.1 = P → q.2 = X.env.qual ++ "<lambda>") (hr : Room (k + 3) X.A)
    (S : FnScope N [y] scope) (hbd : ∀ (q : Str) (pm cdv ctv u : Value), bindArgs (PySem.W.kla_fn "<lambda>" q params body scope [] pm cdv ctv) ⟨[u], []⟩ = pure [(y, u)])
    (hbody : ∀ (A : Around) (outer : List Env) (s : Shared) (H : Hp) (f : Addr) (cd : Value), Room k (A.deeper (envOfC (X.env.qual ++ "<lambda>") scope s.heap.objs.size f cd)) → PE (cxOf CX0 X.prog X.w X.K X.mg X.base N (X.env.qual ++ "<lambda>") scope f cd A outer s H E0).nox body tb)
    (hdef : defaultsOf params X.env = ([], []) := by rfl) (hclo : cloFrom X.env.cells scope.names [] = [] := by rfl)
    (hst : backTo pos (starEach [e] X.env) = [(false, eval e X.env)] := by rfl) : PE X (.Call (.Name "sorted" p) [e] [⟨some "key", .Lambda params body scope lpos, kpos⟩] pos) (tSortKey X.K T te N tb) := by
  refine ⟨fun pins s σ H Q I h => ?_⟩
  have hfree : ∀ y ∈ scope.names, y.2 = .free → ∃ c, X.env.cells.lookup y.1 = some c := fun y hy e => absurd e (S.nofree y hy)
  refine wpAny_Call_Name_kw (ld_blt I hg hm (by decide +kernel : bootBuiltins "sorted" = some (.builtin "sorted")) ?_ (by decide) (by decide))
  refine PyProof.Rows.callWith_kw (e := e) (rest := []) ?_ hst (by rw [hst]; rfl) (by rfl) (by rfl)
  rw [hst]
  refine Calls.spliced_cons (thn (he.run pins s σ H _ I h) fun u s1 ⟨x, H1, I1, r1, q1⟩ => Calls.spliced_nil ?_)
  obtain ⟨l, xs, zs, rfl, hl, hlen, hTb, q⟩ := q1
  cases r1
  show wpAny _ _ (evalAll [(do let v ← eval (.Lambda params body scope lpos) X.env; standAt pos; pure v)]) _ _ s1
  refine wpAny_evalAll_cons (wpAny_bind ?_)
  refine LamX.lam_make2 I1 TB hcode hT hu hTb hdef hfree fun f c' pm ctv H2 s2 I2 hE hTb2 hf hfn hfr hco => ?_
  rw [hclo] at hf
  refine wpAny_bind (wpAny_standAt (wpAny_pure (wpAny_evalAll_nil ?_)))
  show wpAny (model X.prog X.w) X.A (call (.builtin "sorted") [.ref l] [(Str.ofString "key", .ref f)]) _ _ _
  have fne : f ≠ X.env.locals := fun z => by
    obtain ⟨m, ⟨o, es, ep, ho, hd, _⟩, _⟩ := I2.loc
    rw [← z, hf] at ho
    cases ho
    cases hd
  have ffs : f ∉ X.fs := fun z => hfr (by
    rcases I2.ok.stk with e | ⟨e, _⟩
    · rw [e]
      exact z
    · rw [e]
      obtain ⟨o, ho, he'⟩ := List.mem_filterMap.mp z
      exact List.mem_filterMap.mpr ⟨o, List.mem_cons_of_mem _ ho, he'⟩)
  have I3 : Inv X ((f, PySem.W.kla_obj "<lambda>" (X.env.qual ++ "<lambda>") params body scope [] pm c' ctv) :: pins) σ H2 s2 := by
    refine I2.pins_of fun p hp => ?_
    rcases List.mem_cons.mp hp with e | e
    · subst e
      exact ⟨hf, hfn, fne, ffs, fun v z => by cases z⟩
    · exact I2.pin p (List.mem_append_right _ e)
  obtain ⟨R, hR, hRE, turn, fin⟩ := q H2 hE hTb2
  have hl2 : Sq X.K H2 l xs := by
    rcases hl with ((h | ⟨o, h⟩) | h) | ((h | ⟨o, h⟩) | h)
    · exact .inl (.inl (.inl (hE _ _ h fun ps z => by cases z)))
    · exact .inl (.inl (.inr ⟨o, hE _ _ h fun ps z => by cases z⟩))
    · exact .inl (.inr h)
    · exact .inr (.inl (.inl (hE _ _ h fun ps z => by cases z)))
    · exact .inr (.inl (.inr ⟨o, hE _ _ h fun ps z => by cases z⟩))
    · exact .inr (.inr h)
  refine sorted_key (R := R) I3 hR hl2 hlen (fun i x z hx hz pn s' H' u I' hR' rx => ?_) fun D s' H' ys I' hD hR' ky => ⟨.ref D, _, ClX.unpin I', rfl, fin D H' ys hR' hD ky⟩
  have hf' : s'.heap.get? f = some (PySem.W.kla_obj "<lambda>" (X.env.qual ++ "<lambda>") params body scope [] pm c' ctv) := (I'.pin (f, _) (List.mem_append_right _ (List.mem_append_right _ List.mem_cons_self))).1
  have hco' := hRE H' hR' c' _ hco LamX.codeO_ne
  obtain ⟨⟨oc, vs, t, hoc, hdc, hvc⟩, _, _⟩ := I'.hok c' _ hco'
  have hbi : BindsTo s' (PySem.W.kla_fn "<lambda>" (X.env.qual ++ "<lambda>") params body scope [] pm (.ref c') ctv) ⟨[u], []⟩ ([y].zip [u]) := .of_eq (hbd _ _ _ _ _)
  have hr2 : Room (k + 1) X.A.in1.in1 := hr.in1.in1
  refine wpAny_call (codeAny_mono (lam_run (CX := CX0) (E := E0) (N := N) hf' ⟨c', oc, vs, t, rfl, hoc, hdc, hvc⟩ S hr2 I'.env0.in1.in1 hbi rfl (.cons rx .nil) (hbody _ _ s' H' f _ (hr2.deeper _)) (turn i x z hx hz H' hR')) fun r s'' hq => ?_)
  cases r with
  | error er => exact False.elim hq
  | ok fl =>
    cases fl with
    | ret w' => exact I'.after hq
    | next => exact False.elim hq
    | brk => exact False.elim hq
    | cont => exact False.elim hq
end
end JW
/-! JWMax: max(xs, default=d) of a list of ints. -/
namespace JW
open PySem PySem.Spec PyProof.Rows L2
theorem ints_reads {h : Heap} : ∀ {ns : List Int} {us : List Value}, Vals (ns.map V.int) us → ReadsAll h us (ns.map PyData.int) []
  | [], us, r => by
    cases r
    exact .nil
  | n :: ns, us, r => by
    rw [List.map_cons] at r
    cases r with
    | cons r1 r2 =>
      obtain ⟨t, rfl⟩ := r1
      exact ReadsAll.cons (as := []) (bs := []) (.int n t) (ints_reads r2)
theorem ints_alike (ns : List Int) : PySem.W.AlikeAll (ns.map PyData.int) := ⟨fun x hx y hy => by
  obtain ⟨i, _, rfl⟩ := List.mem_map.mp hx
  obtain ⟨j, _, rfl⟩ := List.mem_map.mp hy
  rfl, fun x hx => by
  obtain ⟨i, _, rfl⟩ := List.mem_map.mp hx
  exact fun z => by cases z⟩
theorem ints_depth : ∀ ns : List Int, PyData.depthAll (ns.map PyData.int) = 0
  | [] => rfl
  | n :: r => by
    rw [List.map_cons]
    show max (PyData.depth (.int n)) (PyData.depthAll (r.map PyData.int)) = 0
    rw [ints_depth r]
    rfl
def rMaxDf (K : PySem.W.Frag) : List V → List V → Hp → VK → Prop := fun vs zs H Q => ∃ (a : Addr) (ns : List Int) (d : Int), vs = [V.ref a] ∧ zs = [.int d] ∧ SqL K H a (ns.map V.int) ∧
  ∀ m : Int, ((ns = [] ∧ m = d) ∨ ∃ n r, ns = n :: r ∧ m = r.foldl max n) → Q (.int m) H
theorem cr_maxDf {X : Cx} (hc : X.calm = true) (hu : X.A.units + 1 < cLine) : CallRK X (.builtin "max") [Str.ofString "default"] (rMaxDf X.K) := by
  intro pins s σ H vs zs us ws Q I r rz h
  obtain ⟨a, ns, d, rfl, rfl, hs, q⟩ := h
  obtain ⟨its, rv, hl, _⟩ := I.list hs
  rw [Vals.ref1 r]
  obtain ⟨w1, rfl, rd⟩ := vals1 rz
  refine PySem.W.max_list_default (vs := its.toArray) (I.ok.hd hc) hl.isList (xs := ns.map PyData.int) (as := []) (ints_reads rv) (ints_alike ns) (by rw [ints_depth]; exact hu) (fun hn h' tk hk => ?_) fun y ys i v h' tk bs he hv hr hk => ?_
  · exact ⟨.int d, H, I.kept hk, rd, q d (.inl ⟨List.map_eq_nil_iff.mp hn, rfl⟩)⟩
  · cases ns with
    | nil => cases he
    | cons n r =>
      rw [List.map_cons] at he
      injection he with e1 e2
      subst e1
      subst e2
      rw [PySem.W.maxD_ints] at hr
      cases hr with
      | int _ t => exact ⟨.int _, H, I.kept hk, ⟨t, rfl⟩, q _ (.inr ⟨n, r, rfl, rfl⟩)⟩
end JW
/-! JWEnum: for i, c in enumerate(text). -/
namespace JW
open PySem PySem.Spec PyProof.Rows L2
theorem draws_str {prog : Program} {w : World} {A : Around} (hh : A.handled = none) (it : Addr) (x : Str) (t : Tok) :
    Draws prog w A it [it] x.cps.size (fun i v => ∃ c u, x.cps[i]? = some c ∧ v = .str ⟨#[c]⟩ u) (fun i h => h.IsStrIter it (strIterType x) x t i) := by
  cases ha : x.cps.all (· < 128)
  · have e : strIterType x = "str_iterator" := by simp [strIterType, ha]
    rw [e]
    exact Draws.strWide hh it x t
  · have e : strIterType x = "str_ascii_iterator" := by simp [strIterType, ha]
    rw [e]
    exact Draws.strAscii hh it x t
/-- the signs of the text, each in a new pair with its index -/
def Ites (x : Str) : It :=
  ⟨fun i _ => i < x.cps.size, fun i H v H' => ∃ T c, v = .ref T ∧ H T = none ∧ H' = upd H T (.tup [.int (i : Nat), .str ⟨#[c]⟩]) ∧ x.cps[i]? = some c, fun i _ => i = x.cps.size⟩
theorem turn_enumS {P : Program} {w : World} {K : PySem.W.Frag} {elts : List Expr} {kk : Nat} {tpos : Pos} (x : Str) (t : Tok) (e it : Addr) :
    Turn P w K (.Tuple elts kk tpos) (Ites x) [e, it] e (fun i h => (∃ old, IsEnum h e it ((i : Nat) : Int) old) ∧ h.IsStrIter it (strIterType x) x t i ∧ e ≠ it) where
  mem := by simp
  obj := fun i h st b hb => by
    obtain ⟨⟨old, he⟩, ⟨o, ho, hc, hd⟩, _⟩ := st
    have e' : b = e ∨ b = it := by simpa using hb
    rcases e' with z | z
    · rw [z]; exact ⟨_, he, fun v q => nomatch q⟩
    · rw [z]; exact ⟨o, ho, fun v q => by rw [hd] at q; cases q⟩
  keep := fun i h h' st k => by
    obtain ⟨⟨old, he⟩, ⟨o, ho, r⟩, hne⟩ := st
    exact ⟨⟨old, k e (by simp) _ he⟩, ⟨o, k it (by simp) o ho, r⟩, hne⟩
  item := by
    intro X hP hw hK hc i pins s σ H E I hf st hg
    subst hP hw hK
    obtain ⟨⟨old, he⟩, hit, hne⟩ := st
    have hlt : i < x.cps.size := hg
    have hel : e < s.heap.objs.size := Heap.lt_size he
    have hil : it < s.heap.objs.size := by obtain ⟨_, q, _⟩ := hit; exact Heap.lt_size q
    refine wpAny_pyNext_enum_itemD (draws_str (A := X.A.in1) (I.ok.hd hc) it x t) he hit hlt hne (by simpa using hne) fun y h' tk hy ho hit' hT hsz hk => ?_
    obtain ⟨c, u, hcx, rfl⟩ := hy
    refine ⟨_, rfl, wpAny_letOwnedTupleGo_enum (s := { s with heap := h', toks := tk + 1 }) ho fun h'' he' sb => ?_⟩
    have hT2 : h''.get? s.heap.objs.size = some { cls := .type "tuple", data := .seq #[.int i tk, .str ⟨#[c]⟩ u] } := (sb.2 _ (Nat.ne_of_gt hel)).trans hT
    have new : ObjOk X.prog X.w (upd H s.heap.objs.size (.tup [.int (i : Nat), .str ⟨#[c]⟩])) h'' s.heap.objs.size (.tup [.int (i : Nat), .str ⟨#[c]⟩]) :=
      ⟨by show 2 ≤ sizeLine; decide, [.int i tk, .str ⟨#[c]⟩ u], .cons ⟨_, rfl⟩ (.cons ⟨_, rfl⟩ .nil), ⟨_, hT2, rfl, _, rfl⟩⟩
    have I1 : Inv X pins σ (upd H s.heap.objs.size (.tup [.int (i : Nat), .str ⟨#[c]⟩])) { s with heap := h'', toks := tk + 1 } :=
      I.turnedNew (ch := [e, it]) (fun b ob hb q => (sb.2 b (fun z => hb (by simp [z]))).trans (hk b ob (fun z => hb (by simp [z])) (fun z => hb (by simp [z])) q)) hf (Nat.le_refl _) new
    refine ⟨.ref s.heap.objs.size, _, I1, rfl, ⟨_, c, rfl, I.hok.fresh (Nat.le_refl _), rfl, hcx⟩, ⟨⟨.str ⟨#[c]⟩ u, ?_⟩, ?_, hne⟩, fun b hb => ?_⟩
    · have e1 : ((i + 1 : Nat) : Int) = (i : Int) + 1 := by omega
      rw [e1]; exact he'
    · obtain ⟨o, q, r⟩ := hit'
      exact ⟨o, (sb.2 it (Ne.symm hne)).trans q, r⟩
    · have hb' : b < s.heap.objs.size := by
        have e' : b = e ∨ b = it := by simpa using hb
        rcases e' with z | z
        · rw [z]; exact hel
        · rw [z]; exact hil
      rw [upd_ne (Nat.ne_of_lt hb')]
      exact (hf b hb).1
  done := by
    intro X hP hw hK hc i pins s σ H E I hf st hg
    subst hP hw hK
    obtain ⟨⟨old, he⟩, hit, hne⟩ := st
    have hge : i = x.cps.size := hg
    subst hge
    obtain ⟨f0, f1, f2, f3, f4, f5⟩ := hf it (by simp)
    refine wpAny_pyNext_enum_endD (draws_str (A := X.A.in1) (I.ok.hd hc) it x t) he hit fun h' eb => ⟨rfl, I.turned (t' := s.toks) (fun b o hb q => eb b o hb q) f0 f1 f3 f4 f5⟩
  self := fun A i s Q E st h => let ⟨⟨_, he⟩, _⟩ := st; wpAny_pyIter_enum he h
def iEnumS (ta : TA) : TI := fun σ H R => ta σ H fun vs H1 => ∃ x, vs = [.str x] ∧ R (Ites x) H1
theorem pi_enumS {X : Cx} {e : Expr} {ta : TA} {p pos tpos : Pos} {elts : List Expr} {kk : Nat} (hg : Gl X "enumerate") (hm : X.mg "enumerate" = none) (ha : PA X [e] ta) (hs : starEach [e] X.env = [(false, eval e X.env)] := by rfl) :
    PI X (.Tuple elts kk tpos) (.Call (.Name "enumerate" p) [e] [] pos) (iEnumS ta) := by
  refine ⟨fun pins s σ H R I h => ?_⟩
  refine Call_ (ld_blt I hg hm boot_enumerate (PyProof.Rows.callWith_type1 (thn (ha.run pos pins s σ H _ I h) fun us s1 ⟨vs, H1, I1, r1, q1⟩ => ?_) hs rfl))
  obtain ⟨x, ex, q⟩ := q1
  subst ex
  cases r1 with
  | cons r rr =>
    cases rr
    obtain ⟨t, rfl⟩ := r
    refine call_enumerate_str fun h' he hit hsz hk => wpAny_pyIter_enum he ?_
    have I2 : Inv X pins σ H1 { s1 with heap := h' } := I1.kept (t' := s1.toks) hk
    refine ⟨s1.heap.objs.size + 1, [s1.heap.objs.size + 1, s1.heap.objs.size], _, _, H1, rfl, I2, turn_enumS x t (s1.heap.objs.size + 1) s1.heap.objs.size, ⟨⟨.none, he⟩, hit, Nat.succ_ne_self _⟩, fun b hb => ?_, q⟩
    have e' : b = s1.heap.objs.size + 1 ∨ b = s1.heap.objs.size := by simpa using hb
    have hle : s1.heap.objs.size ≤ b := by
      rcases e' with z | z
      · rw [z]; exact Nat.le_add_right _ _
      · rw [z]; exact Nat.le_refl _
    exact I1.fpOk hle (I1.hok.fresh hle)
/-- its loop: P tells what is read and what is left -/
theorem for_enumS {x : Str} {g : TG} {tb : TS} {D : Ends} {σ : L2.St} {H : Hp} (Pv : Nat → L2.St → Hp → Prop) (h0 : Pv 0 σ H)
    (hs : ∀ i c σ H T, x.cps[i]? = some c → Pv i σ H → H T = none → g (.ref T) σ (upd H T (.tup [.int (i : Nat), .str ⟨#[c]⟩])) fun σ2 H2 => tb { D with nx := Pv (i + 1), ct := Pv (i + 1), bk := D.nx } σ2 H2) (hd : ∀ σ H, Pv x.cps.size σ H → D.nx σ H) :
    ∃ W : Nat → Nat → L2.St → Hp → Prop, (∃ m, W 0 m σ H) ∧ ∀ i m σ H, W i m σ H →
      ((Ites x).stop i H ∧ D.nx σ H) ∨ ((Ites x).go i H ∧ ∃ N : L2.St → Hp → Prop, (∀ σ' H', N σ' H' → ∃ m', m' < m ∧ W (i + 1) m' σ' H') ∧ ∀ v H', (Ites x).yld i H v H' → g v σ H' fun σ2 H2 => tb { D with nx := N, ct := N, bk := D.nx } σ2 H2) := by
  refine ⟨fun i m σ H => m = x.cps.size - i ∧ i ≤ x.cps.size ∧ Pv i σ H, ⟨x.cps.size, rfl, Nat.zero_le _, h0⟩, ?_⟩
  rintro i m σ H ⟨rfl, hi, p⟩
  by_cases hlt : i < x.cps.size
  · refine .inr ⟨hlt, Pv (i + 1), fun σ' H' p' => ⟨x.cps.size - (i + 1), by omega, rfl, hlt, p'⟩, fun v H' hy => ?_⟩
    obtain ⟨T, c, rfl, hT, rfl, hc⟩ := hy
    exact hs i c σ H T hc p hT
  · have e : i = x.cps.size := by omega
    subst e
    exact .inl ⟨rfl, hd σ H p⟩
end JW
/-! JWFtn: fountains in the heap; the class by name; lists of fountains walked. -/
namespace JW
open PySem PySem.Spec PyProof.Rows L2 LamX
abbrev cF (K : PySem.W.Frag) : Addr := He.ga K "Fountain"
def tx (t : T) : Str := ⟨t.codes.toArray⟩
theorem tx_inj {t u : T} (h : tx t = tx u) : t = u := codes_inj (by
  have e : t.codes.toArray = u.codes.toArray := congrArg Str.cps h
  exact congrArg Array.toList e)
theorem tx_jet : tx .jet = "o" := by decide +kernel
def T.kids : T → List T
  | .jet => []
  | .bas l => l
def nums (t : T) : List V := [.int (t.size : Nat), .int (t.jts : Nat), .int (t.dep : Nat), if t.jts = 0 then .non else .int (t.lng : Nat), if t.jts = 0 then .non else .int (t.sht : Nat)]
def flds (t : T) (b n : Addr) : List (Str × V) := [("written", .str (tx t)), ("branches", .ref b), ("numbers", .ref n)]
theorem fl_w {t : T} {b n : Addr} : (flds t b n).lookup ("written" : Str) = some (.str (tx t)) := by kernel_rfl
theorem fl_b {t : T} {b n : Addr} : (flds t b n).lookup ("branches" : Str) = some (.ref b) := by kernel_rfl
theorem fl_n {t : T} {b n : Addr} : (flds t b n).lookup ("numbers" : Str) = some (.ref n) := by kernel_rfl
theorem fl_put {t : T} {b n : Addr} : putF "numbers" (.ref n) (putF "branches" (.ref b) (putF "written" (.str (tx t)) [])) = flds t b n := by kernel_rfl
theorem fl_l1 {v : V} : (putF ("written" : Str) v []).length < 1000 := by
  have e : putF ("written" : Str) v [] = [(("written" : Str), v)] := by kernel_rfl
  rw [e]
  show 1 < 1000
  decide
theorem fl_l2 {v w : V} : (putF ("branches" : Str) w (putF ("written" : Str) v [])).length < 1000 := by
  have e : putF ("branches" : Str) w (putF ("written" : Str) v []) = [(("written" : Str), v), (("branches" : Str), w)] := by kernel_rfl
  rw [e]
  show 2 < 1000
  decide
/-! ### the fountain t stands at v -/
mutual
def Ftn (C : Addr) (H : Hp) : T → V → Prop
  | .jet, v => ∃ a dx b n, v = .ref a ∧ H a = some (.ins C dx (flds .jet b n)) ∧ H b = some (.tup []) ∧ H n = some (.tup (nums .jet))
  | .bas l, v => ∃ a dx b n vs, v = .ref a ∧ H a = some (.ins C dx (flds (.bas l) b n)) ∧ H b = some (.tup vs) ∧ H n = some (.tup (nums (.bas l))) ∧ FtnL C H l vs
def FtnL (C : Addr) (H : Hp) : List T → List V → Prop
  | [], vs => vs = []
  | t :: ts, vs => ∃ v r, vs = v :: r ∧ Ftn C H t v ∧ FtnL C H ts r
end
section
variable {C : Addr} {H H' : Hp}
theorem ftn_iff {t : T} {v : V} : Ftn C H t v ↔ ∃ a dx b n vs, v = .ref a ∧ H a = some (.ins C dx (flds t b n)) ∧ H b = some (.tup vs) ∧ H n = some (.tup (nums t)) ∧ FtnL C H t.kids vs := by
  cases t with
  | jet =>
    constructor
    · intro h
      have h2 : ∃ a dx b n, v = .ref a ∧ H a = some (.ins C dx (flds .jet b n)) ∧ H b = some (.tup []) ∧ H n = some (.tup (nums .jet)) := h
      obtain ⟨a, dx, b, n, e, h1, h2, h3⟩ := h2
      exact ⟨a, dx, b, n, [], e, h1, h2, h3, rfl⟩
    · intro ⟨a, dx, b, n, vs, e, h1, h2, h3, h4⟩
      have e4 : vs = [] := h4
      subst e4
      exact ⟨a, dx, b, n, e, h1, h2, h3⟩
  | bas l => exact ⟨fun h => h, fun h => h⟩
/-- all that is tracked stays, tables too -/
theorem Same.extN (s : L2.Same H H') : ExtN H H' := ExtN.of s
mutual
theorem ftn_ext (e : ExtN H H') : ∀ (t : T) (v : V), Ftn C H t v → Ftn C H' t v
  | .jet, v, h => by
    have h2 : ∃ a dx b n, v = .ref a ∧ H a = some (.ins C dx (flds .jet b n)) ∧ H b = some (.tup []) ∧ H n = some (.tup (nums .jet)) := h
    obtain ⟨a, dx, b, n, ev, h1, h2, h3⟩ := h2
    exact ⟨a, dx, b, n, ev, e _ _ h1 (fun ps z => by cases z), e _ _ h2 (fun ps z => by cases z), e _ _ h3 (fun ps z => by cases z)⟩
  | .bas l, v, h => by
    have h2 : ∃ a dx b n vs, v = .ref a ∧ H a = some (.ins C dx (flds (.bas l) b n)) ∧ H b = some (.tup vs) ∧ H n = some (.tup (nums (.bas l))) ∧ FtnL C H l vs := h
    obtain ⟨a, dx, b, n, vs, ev, h1, h2, h3, h4⟩ := h2
    exact ⟨a, dx, b, n, vs, ev, e _ _ h1 (fun ps z => by cases z), e _ _ h2 (fun ps z => by cases z), e _ _ h3 (fun ps z => by cases z), ftnL_ext e l vs h4⟩
theorem ftnL_ext (e : ExtN H H') : ∀ (l : List T) (vs : List V), FtnL C H l vs → FtnL C H' l vs
  | [], vs, h => h
  | t :: ts, vs, h => by
    have h2 : ∃ v r, vs = v :: r ∧ Ftn C H t v ∧ FtnL C H ts r := h
    obtain ⟨v, r, ev, h1, h2⟩ := h2
    exact ⟨v, r, ev, ftn_ext e t v h1, ftnL_ext e ts r h2⟩
end
theorem Ftn.ext {t : T} {v : V} (h : Ftn C H t v) (e : ExtN H H') : Ftn C H' t v := ftn_ext e t v h
theorem FtnL.ext {l : List T} {vs : List V} (h : FtnL C H l vs) (e : ExtN H H') : FtnL C H' l vs := ftnL_ext e l vs h
theorem Ftn.same {t : T} {v : V} (h : Ftn C H t v) (e : L2.Same H H') : Ftn C H' t v := h.ext (.of e)
theorem FtnL.same {l : List T} {vs : List V} (h : FtnL C H l vs) (e : L2.Same H H') : FtnL C H' l vs := h.ext (.of e)
theorem FtnL.len : ∀ {l : List T} {vs : List V}, FtnL C H l vs → vs.length = l.length
  | [], vs, h => by
    have e : vs = [] := h
    rw [e] <;> rfl
  | t :: ts, vs, h => by
    obtain ⟨v, r, rfl, _, h2⟩ := (show ∃ v r, vs = v :: r ∧ Ftn C H t v ∧ FtnL C H ts r from h)
    rw [List.length_cons, List.length_cons, h2.len]
theorem FtnL.get : ∀ {l : List T} {vs : List V} {i : Nat} {v : V}, FtnL C H l vs → vs[i]? = some v → ∃ t, l[i]? = some t ∧ Ftn C H t v
  | [], vs, i, v, h, e => by
    have e2 : vs = [] := h
    rw [e2] at e
    simp at e
  | t :: ts, vs, i, v, h, e => by
    obtain ⟨u, r, rfl, h1, h2⟩ := (show ∃ v r, vs = v :: r ∧ Ftn C H t v ∧ FtnL C H ts r from h)
    cases i with
    | zero =>
      have e3 : u = v := by simpa using e
      exact ⟨t, rfl, e3 ▸ h1⟩
    | succ i =>
      obtain ⟨t', e1, e2⟩ := h2.get (i := i) (v := v) (by simpa using e)
      exact ⟨t', by simpa using e1, e2⟩
theorem FtnL.app : ∀ {l m : List T} {vs ws : List V}, FtnL C H l vs → FtnL C H m ws → FtnL C H (l ++ m) (vs ++ ws)
  | [], m, vs, ws, h, h' => by
    have e : vs = [] := h
    rw [e]
    exact h'
  | t :: ts, m, vs, ws, h, h' => by
    obtain ⟨u, r, rfl, h1, h2⟩ := (show ∃ v r, vs = v :: r ∧ Ftn C H t v ∧ FtnL C H ts r from h)
    exact ⟨u, r ++ ws, rfl, h1, h2.app h'⟩
theorem FtnL.one {t : T} {v : V} (h : Ftn C H t v) : FtnL C H [t] [v] := ⟨v, [], rfl, h, rfl⟩
theorem FtnL.of_get : ∀ {l : List T} {vs : List V}, vs.length = l.length → (∀ (i : Nat) (t : T) (v : V), l[i]? = some t → vs[i]? = some v → Ftn C H t v) → FtnL C H l vs
  | [], vs, hl, _ => List.eq_nil_of_length_eq_zero hl
  | t :: ts, [], hl, _ => by simp at hl
  | t :: ts, v :: r, hl, h => ⟨v, r, rfl, h 0 t v rfl rfl, FtnL.of_get (by simpa using hl) fun i t' v' e1 e2 => h (i + 1) t' v' (by simpa using e1) (by simpa using e2)⟩
theorem FtnL.zip : ∀ {l : List T} {vs : List V}, FtnL C H l vs → ∀ p ∈ (l.map tx).zip vs, ∃ t, p.1 = tx t ∧ Ftn C H t p.2
  | [], vs, _, p, hp => by
    rw [List.map_nil, List.zip_nil_left] at hp
    cases hp
  | t :: ts, vs, h, p, hp => by
    obtain ⟨u, r, rfl, h1, h2⟩ := (show ∃ v r, vs = v :: r ∧ Ftn C H t v ∧ FtnL C H ts r from h)
    rw [List.map_cons, List.zip_cons_cons] at hp
    rcases List.mem_cons.mp hp with e | e
    · exact ⟨t, by rw [e], by rw [e]; exact h1⟩
    · exact FtnL.zip h2 p e
/-- sorted by their texts -/
theorem ftnL_sort {l : List T} {vs ys : List V} (h : FtnL C H l vs) (k : KeydV (l.map tx) vs ys) : FtnL C H (sortT l) ys := by
  obtain ⟨ps, pm, pw, rfl⟩ := k
  have hall : ∀ p ∈ ps, ∃ t, p.1 = tx t ∧ Ftn C H t p.2 := fun p hp => h.zip p (pm.mem_iff.mp hp)
  have go : ∀ ps : List (Str × V), (∀ p ∈ ps, ∃ t, p.1 = tx t ∧ Ftn C H t p.2) → ∃ us : List T, us.map tx = ps.map (·.1) ∧ FtnL C H us (ps.map (·.2)) := by
    intro ps
    induction ps with
    | nil => exact fun _ => ⟨[], rfl, rfl⟩
    | cons p r ih =>
      intro hp
      obtain ⟨us, e1, e2⟩ := ih fun q hq => hp q (List.mem_cons_of_mem _ hq)
      obtain ⟨t, e3, e4⟩ := hp p List.mem_cons_self
      exact ⟨t :: us, by rw [List.map_cons, List.map_cons, e1, e3], p.2, r.map (·.2), rfl, e4, e2⟩
  obtain ⟨us, e1, e2⟩ := go ps hall
  have hs : Srt us := by
    have q1 : (ps.map (·.1)).Pairwise (fun p q : Str => ¬ q.cps.toList < p.cps.toList) := List.pairwise_map.mpr pw
    rw [← e1] at q1
    refine (List.pairwise_map.mp q1).imp fun {a b} z => ?_
    unfold tle
    simp only [Bool.not_eq_true', decide_eq_false_iff_not]
    exact z
  have hfst : ((l.map tx).zip vs).map (·.1) = l.map tx := by
    rw [List.map_fst_zip]
    rw [List.length_map, h.len]
    exact Nat.le_refl _
  have hp : (us.map tx).Perm (l.map tx) := by
    rw [e1, ← hfst]
    exact pm.map _
  have un : ∃ g : Str → T, ∀ t, g (tx t) = t := by
    classical
    refine ⟨fun z => if e : ∃ t, tx t = z then e.choose else .jet, fun t => ?_⟩
    have e : ∃ u, tx u = tx t := ⟨t, rfl⟩
    show (if e : ∃ u, tx u = tx t then e.choose else T.jet) = t
    rw [dif_pos e]
    exact tx_inj e.choose_spec
  obtain ⟨g, hg⟩ := un
  have hp2 := hp.map g
  rw [List.map_map, List.map_map] at hp2
  have eid : (g ∘ tx) = id := funext hg
  rw [eid, List.map_id, List.map_id] at hp2
  rw [← sortT_eq hp2 hs]
  exact e2
end
/-! ### what is known of the class -/
structure ClsF (K : PySem.W.Frag) (mg : Str → Option Value) : Prop where
  g : mg "Fountain" = some (.ref (cF K))
  c : Cls K (cF K)
  nw : NoAttr K (cF K) "written"
  nb : NoAttr K (cF K) "branches"
  nn : NoAttr K (cF K) "numbers"
  hcl : PySem.W.findIn K (.ref (cF K)) "__class__" = some (some (.builtin "object.__class__"))
  hgs : PySem.W.specialIn K (.builtin "object.__class__") "__get__" = some (some (.builtin "getset_descriptor.__get__"))
  htk : PySem.W.takesIn K (.builtin "object.__class__") = some true
  hmro : PySem.W.mroIn K (cF K) (.type "object") = some true
  hne : PySem.W.findIn K (.ref (cF K)) "__ne__" = some (some (.builtin "object.__ne__"))
  hob : PySem.W.subIn K (.ref (cF K)) (.type "object") = some true
  sf : PySem.W.selfFirst K (cF K) = true
theorem ClsF.ty {K : PySem.W.Frag} {mg : Str → Option Value} (c : ClsF K mg) {H : Hp} {a dx : Addr} {fs : List (Str × V)} (e : H a = some (.ins (cF K) dx fs)) : TyX K H (.ref a) (.ref (cF K)) := .base (.ins e c.c c.hcl c.hgs c.htk c.hmro)
theorem isi_self {K : PySem.W.Frag} : PySem.W.kitOne K (.ref (cF K)) (.ref (cF K)) = some true := by
  unfold PySem.W.kitOne
  exact if_pos (by simp)
/-! ### the class called by its name -/
structure MakeD (P : Program) (w : World) (K : PySem.W.Frag) (mg : Str → Option Value) (base : Heap) (CX : CXT) (k : Nat) (x : Str) (C : Addr) (ps : List Str) (dvs : List V) (sp : Sp) : Prop where
  ex : ∃ f fd ds, mg x = some (.ref C) ∧ Mk K C f ∧ Binds K fd ps ds ∧ Vals dvs ds ∧ FnOk P w K mg base CX k f fd ps sp
structure InitAt (K : PySem.W.Frag) (mg : Str → Option Value) (x : Str) (C : Addr) (qual : Str) (st : Stmt) (dvs : List V) (ps : List Str) : Prop where
  ex : ∃ f fd, mg x = some (.ref C) ∧ Mk K C f ∧ FunD K "__init__" qual (defArgs st) (defBody st) (defScope st) dvs [] f fd ∧ ∀ j, j ≤ dvs.length → ∃ ds, Vals (dvs.drop j) ds ∧ Binds K fd ps ds
section
variable {P : Program} {w : World} {K : PySem.W.Frag} {mg : Str → Option Value} {base : Heap} {CX : CXT} {C : Addr} {x : Str}
theorem MakeD.mono {j k : Nat} {ps : List Str} {dvs : List V} {sp : Sp} (c : MakeD P w K mg base CX j x C ps dvs sp) (h : j ≤ k) : MakeD P w K mg base CX k x C ps dvs sp := by
  obtain ⟨f, fd, ds, h1, h2, h3, h4, F⟩ := c.ex
  exact ⟨f, fd, ds, h1, h2, h3, h4, F.mono h⟩
theorem InitAt.ok {qual : Str} {st : Stmt} {N ps : List Str} {k : Nat} {sp : Sp} {dvs : List V} (D : InitAt K mg x C qual st dvs ps) (j : Nat) (hj : j ≤ dvs.length) (S : FnScope N ps (defScope st)) (len : ∀ vs H Q E, sp vs H Q E → vs.length = ps.length)
    (hbody : ∀ (f : Addr) (cdv : Value) (A : Around) (outer : List Env) (s : Shared) (H : Hp) (vs : List V) (Q : VK) (E : XK), Room k (A.deeper (envOfC qual (defScope st) s.heap.objs.size f cdv)) → sp vs H Q E →
      ∃ t, PSs (cxOf CX P w K mg base N qual (defScope st) f cdv A outer s H E).nox (defBody st) t ∧ t { nx := fun _ H' => Q .non H', rt := Q } (start N vs) H) : MakeD P w K mg base CX (k + 1) x C ps (dvs.drop j) sp := by
  obtain ⟨f, fd, h1, h2, F, b⟩ := D.ex
  obtain ⟨ds, r, hb⟩ := b j hj
  exact ⟨f, fd, ds, h1, h2, hb, r, okF F S len fun cdv A outer s H vs Q E hr h => hbody f cdv A outer s H vs Q E hr h⟩
end
section
variable {X : Cx} {CX : CXT} {k : Nat} {C : Addr} {ps : List Str} {sp : Sp} {dvs : List V} {E : XK} {x : Str} {p pos : Pos} {e : Expr} {es : List Expr} {t : TA}
theorem pe_makeD (M : MakeD X.prog X.w X.K X.mg X.base CX k x C ps dvs sp) (hr : Room (k + 1) X.A) (hg : Gl X x) (hx : Passes CX X E) (ha : PA X (e :: es) t) (hdb : (x == ("__debug__" : Str)) = false := by decide)
    (he : starEach (e :: es) X.env = (false, eval e X.env) :: starEach es X.env := by rfl) (hpl : (backTo pos (starEach es X.env)).any (·.1) = false := by rfl) : PE X (.Call (.Name x p) (e :: es) [] pos) (tMake C sp dvs E t) := by
  obtain ⟨f, fd, ds, h1, h2, h3, h4, F⟩ := M.ex
  exact pe_make h2 F hr hg h1 h3 h4 hx ha hdb he hpl
end
/-! ### a def whose code object is told -/
theorem okC {P : Program} {w : World} {K : PySem.W.Frag} {mg : Str → Option Value} {base : Heap} {CX : CXT} {x qual : Str} {params : Arguments} {body : List Stmt} {scope : Scope} {kws : List (Str × V)} {fd : FuncData} {N ps : List Str} {k : Nat} {sp : Sp} {dvs : List V} {p : Str × Option Str}
    (F : FunD K x qual params body scope dvs kws (He.fAd K p) fd) (S : FnScope N ps scope) (len : ∀ vs H Q E, sp vs H Q E → vs.length = ps.length)
    (hbody : ∀ (A : Around) (outer : List Env) (s : Shared) (H : Hp) (vs : List V) (Q : VK) (E : XK), Room k (A.deeper (envOfC qual scope s.heap.objs.size (He.fAd K p) (.ref (He.codeOf K p)))) → sp vs H Q E →
      ∃ t, PSs (cxOf CX P w K mg base N qual scope (He.fAd K p) (.ref (He.codeOf K p)) A outer s H E).nox body t ∧ t { nx := fun _ H' => Q .non H', rt := Q } (start N vs) H) : FnOk P w K mg base CX (k + 1) (He.fAd K p) fd ps sp := by
  obtain ⟨oc, od, dV, kV, doc, pm, an, cdv, ct, osl, rfl, lk, hcd, _, _⟩ := F.ex
  obtain ⟨c, rfl⟩ := He.codeIn_ref hcd
  have ec : He.codeOf K p = c := He.codeOf_eq lk rfl
  subst ec
  exact fn_of lk hcd S len fun A outer s H vs Q E hr h => by
    obtain ⟨t, h, q⟩ := hbody A outer s H vs Q E hr h
    exact ⟨t, h.nox, q⟩
/-- a def of the text told by its path -/
structure DefAtP (K : PySem.W.Frag) (mg : Str → Option Value) (x qual : Str) (st : Stmt) (ps : List Str) : Prop where
  g : mg x = some (.ref (He.fAd K (x, none)))
  f : ∃ fd, FunD K x qual (defArgs st) (defBody st) (defScope st) [] [] (He.fAd K (x, none)) fd ∧ Binds K fd ps []
theorem DefAtP.at {K : PySem.W.Frag} {mg : Str → Option Value} {x qual : Str} {st : Stmt} {ps : List Str} (d : DefAtP K mg x qual st ps) : DefAt K mg x qual st [] ps := by
  obtain ⟨fd, F, b⟩ := d.f
  exact ⟨_, fd, d.g, F, b⟩
theorem DefAtP.okC {P : Program} {w : World} {K : PySem.W.Frag} {mg : Str → Option Value} {base : Heap} {CX : CXT} {x qual : Str} {st : Stmt} {N ps : List Str} {k : Nat} {sp : Sp} (D : DefAtP K mg x qual st ps) (S : FnScope N ps (defScope st)) (len : ∀ vs H Q E, sp vs H Q E → vs.length = ps.length)
    (hbody : ∀ (A : Around) (outer : List Env) (s : Shared) (H : Hp) (vs : List V) (Q : VK) (E : XK), Room k (A.deeper (envOfC qual (defScope st) s.heap.objs.size (He.fAd K (x, none)) (.ref (He.codeOf K (x, none))))) → sp vs H Q E →
      ∃ t, PSs (cxOf CX P w K mg base N qual (defScope st) (He.fAd K (x, none)) (.ref (He.codeOf K (x, none))) A outer s H E).nox (defBody st) t ∧ t { nx := fun _ H' => Q .non H', rt := Q } (start N vs) H) : CallD P w K mg base CX (k + 1) x ps [] sp := by
  obtain ⟨fd, F, b⟩ := D.f
  exact ⟨_, fd, [], D.g, F.kp, b, .nil, JW.okC F S len hbody⟩
/-! ### a property read -/
/-- what a property tells of a fountain -/
def spV (K : PySem.W.Frag) (f : T → V) : Sp := fun vs H Q _ => ∃ v t, vs = [v] ∧ Ftn (cF K) H t v ∧ Q (f t) H
theorem ev_prop {K : PySem.W.Frag} {f : T → V} {H : Hp} {t : T} {v : V} {Q : VK} {E : XK} (h : Ftn (cF K) H t v) (q : Q (f t) H) : ∃ a dx fs, v = .ref a ∧ H a = some (.ins (cF K) dx fs) ∧ spV K f (.ref a :: []) H Q E := by
  obtain ⟨a, dx, b, n, vs, rfl, h1, _⟩ := ftn_iff.mp h
  exact ⟨a, dx, _, rfl, h1, _, t, rfl, h, q⟩
/-- the branches -/
def spKids (K : PySem.W.Frag) : Sp := fun vs H Q _ => ∃ v t, vs = [v] ∧ Ftn (cF K) H t v ∧ ∀ b xs, H b = some (.tup xs) → FtnL (cF K) H t.kids xs → Q (.ref b) H
theorem ev_kids {K : PySem.W.Frag} {H : Hp} {t : T} {v : V} {Q : VK} {E : XK} (h : Ftn (cF K) H t v) (q : ∀ b xs, H b = some (.tup xs) → FtnL (cF K) H t.kids xs → Q (.ref b) H) : ∃ a dx fs, v = .ref a ∧ H a = some (.ins (cF K) dx fs) ∧ spKids K (.ref a :: []) H Q E := by
  obtain ⟨a, dx, b, n, vs, rfl, h1, _⟩ := ftn_iff.mp h
  exact ⟨a, dx, _, rfl, h1, _, t, rfl, h, q⟩
/-! ### lists of fountains walked by a comprehension -/
theorem lc_eachL {K : PySem.W.Frag} {a : Addr} {xs ys : List V} {j : Nat} {te : TE} {σ : L2.St} {H1 : Hp} {D : Addr} {Qd : Hp → Prop} (hD : H1 D = none) (hl : SqL K H1 a xs) (hz : xs.length < sizeLine) (hy : ys.length = xs.length)
    (hw : ∀ x : V, wipe ((wipe σ [j]).set j (some x)) [j] = wipe σ [j]) (hs : ∀ (i : Nat) (x y : V) (H : Hp) (Q : VK), xs[i]? = some x → ys[i]? = some y → L2.Same H1 H → H D ≠ none → (∀ H', L2.Same H H' → Q y H') → te ((wipe σ [j]).set j (some x)) H Q)
    (hd : ∀ H, L2.Same H1 H → H D = some (.lst ys) → Qd H) : ∃ W : Nat → Nat → Hp → Prop, (∃ m, W 0 m (upd H1 D (.lst []))) ∧ ∀ i m H, W i m H →
      ((Itl K a).stop i H ∧ Qd H) ∨ ((Itl K a).go i H ∧ ∃ Nx : Hp → Prop, (∀ H', Nx H' → ∃ m', m' < m ∧ W (i + 1) m' H') ∧ ∀ x H', (Itl K a).yld i H x H' → gName j x (wipe σ [j]) H' fun σ2 H2 => wipe σ2 [j] = wipe σ [j] ∧ tYes σ2 H2 fun b H3 =>
        if b = true then te σ2 H3 fun y H4 => ∃ acc, H4 D = some (.lst acc) ∧ acc.length < sizeLine ∧ Nx (upd H4 D (.lst (acc ++ [y]))) else Nx H3) := by
  have slq : ∀ H, L2.Same H1 H → SqL K H a xs := fun H s => by
    rcases hl with (h | ⟨o, h⟩) | h
    · exact .inl (.inl (s _ _ h))
    · exact .inl (.inr ⟨o, s _ _ h⟩)
    · exact .inr h
  refine lc_list (fun i H => L2.Same H1 H ∧ H D = some (.lst (ys.take i))) ⟨L2.Same.new (L2.Same.refl H1) hD, by rw [upd_same, List.take_zero]⟩ (fun i H _ p => slq H p.1) (fun i x H hx p => ?_) fun H p => hd H p.1 (by rw [p.2, ← hy, List.take_length])
  have hi : i < xs.length := (List.getElem?_eq_some_iff.mp hx).1
  have hyi : ys[i]? = some ys[i] := List.getElem?_eq_getElem (by omega)
  refine ⟨hw x, ?_⟩
  show te _ H _
  refine hs i x ys[i] H _ hx hyi p.1 (by rw [p.2]; exact fun z => by cases z) fun H' s' => ⟨_, s' _ _ p.2, ?_, ?_, ?_⟩
  · rw [List.length_take]; omega
  · exact L2.Same.mine (p.1.trans s') hD
  · rw [upd_same, List.take_succ, hyi]
    rfl
theorem lc_eachT {K : PySem.W.Frag} {a : Addr} {xs ys : List V} {j : Nat} {te : TE} {σ : L2.St} {H1 : Hp} {D : Addr} {Qd : Hp → Prop} (hD : H1 D = none) (hl : SqT K H1 a xs) (hz : xs.length < sizeLine) (hy : ys.length = xs.length)
    (hw : ∀ x : V, wipe ((wipe σ [j]).set j (some x)) [j] = wipe σ [j]) (hs : ∀ (i : Nat) (x y : V) (H : Hp) (Q : VK), xs[i]? = some x → ys[i]? = some y → L2.Same H1 H → H D ≠ none → (∀ H', L2.Same H H' → Q y H') → te ((wipe σ [j]).set j (some x)) H Q)
    (hd : ∀ H, L2.Same H1 H → H D = some (.lst ys) → Qd H) : ∃ W : Nat → Nat → Hp → Prop, (∃ m, W 0 m (upd H1 D (.lst []))) ∧ ∀ i m H, W i m H →
      ((Itt K a).stop i H ∧ Qd H) ∨ ((Itt K a).go i H ∧ ∃ Nx : Hp → Prop, (∀ H', Nx H' → ∃ m', m' < m ∧ W (i + 1) m' H') ∧ ∀ x H', (Itt K a).yld i H x H' → gName j x (wipe σ [j]) H' fun σ2 H2 => wipe σ2 [j] = wipe σ [j] ∧ tYes σ2 H2 fun b H3 =>
        if b = true then te σ2 H3 fun y H4 => ∃ acc, H4 D = some (.lst acc) ∧ acc.length < sizeLine ∧ Nx (upd H4 D (.lst (acc ++ [y]))) else Nx H3) := by
  have slq : ∀ H, L2.Same H1 H → SqT K H a xs := fun H s => by
    rcases hl with (h | ⟨o, h⟩) | h
    · exact .inl (.inl (s _ _ h))
    · exact .inl (.inr ⟨o, s _ _ h⟩)
    · exact .inr h
  refine lc_tup (fun i H => L2.Same H1 H ∧ H D = some (.lst (ys.take i))) ⟨L2.Same.new (L2.Same.refl H1) hD, by rw [upd_same, List.take_zero]⟩ (fun i H _ p => slq H p.1) (fun i x H hx p => ?_) fun H p => hd H p.1 (by rw [p.2, ← hy, List.take_length])
  have hi : i < xs.length := (List.getElem?_eq_some_iff.mp hx).1
  have hyi : ys[i]? = some ys[i] := List.getElem?_eq_getElem (by omega)
  refine ⟨hw x, ?_⟩
  show te _ H _
  refine hs i x ys[i] H _ hx hyi p.1 (by rw [p.2]; exact fun z => by cases z) fun H' s' => ⟨_, s' _ _ p.2, ?_, ?_, ?_⟩
  · rw [List.length_take]; omega
  · exact L2.Same.mine (p.1.trans s') hD
  · rw [upd_same, List.take_succ, hyi]
    rfl
/-- those that pass a test -/
theorem lc_someT {K : PySem.W.Frag} {a : Addr} {xs : List V} {bs : List Bool} {j : Nat} {tt : TT} {te : TE} {σ : L2.St} {H1 : Hp} {D : Addr} {Qd : Hp → Prop} (hD : H1 D = none) (hl : SqT K H1 a xs) (hz : xs.length < sizeLine) (hy : bs.length = xs.length)
    (hw : ∀ x : V, wipe ((wipe σ [j]).set j (some x)) [j] = wipe σ [j]) (ht : ∀ (i : Nat) (x : V) (b : Bool) (H : Hp) (Q : Bool → Hp → Prop), xs[i]? = some x → bs[i]? = some b → L2.Same H1 H → (∀ H', L2.Same H H' → Q b H') → tt ((wipe σ [j]).set j (some x)) H Q)
    (hs : ∀ (i : Nat) (x : V) (H : Hp) (Q : VK), xs[i]? = some x → L2.Same H1 H → (∀ H', L2.Same H H' → Q x H') → te ((wipe σ [j]).set j (some x)) H Q)
    (hd : ∀ H, L2.Same H1 H → H D = some (.lst (((xs.zip bs).filter (·.2)).map (·.1))) → Qd H) : ∃ W : Nat → Nat → Hp → Prop, (∃ m, W 0 m (upd H1 D (.lst []))) ∧ ∀ i m H, W i m H →
      ((Itt K a).stop i H ∧ Qd H) ∨ ((Itt K a).go i H ∧ ∃ Nx : Hp → Prop, (∀ H', Nx H' → ∃ m', m' < m ∧ W (i + 1) m' H') ∧ ∀ x H', (Itt K a).yld i H x H' → gName j x (wipe σ [j]) H' fun σ2 H2 => wipe σ2 [j] = wipe σ [j] ∧ tt σ2 H2 fun b H3 =>
        if b = true then te σ2 H3 fun y H4 => ∃ acc, H4 D = some (.lst acc) ∧ acc.length < sizeLine ∧ Nx (upd H4 D (.lst (acc ++ [y]))) else Nx H3) := by
  have slq : ∀ H, L2.Same H1 H → SqT K H a xs := fun H s => by
    rcases hl with (h | ⟨o, h⟩) | h
    · exact .inl (.inl (s _ _ h))
    · exact .inl (.inr ⟨o, s _ _ h⟩)
    · exact .inr h
  have hzl : (xs.zip bs).length = xs.length := by rw [List.length_zip, hy, Nat.min_self]
  refine lc_tup (fun i H => L2.Same H1 H ∧ H D = some (.lst ((((xs.zip bs).take i).filter (·.2)).map (·.1)))) ⟨L2.Same.new (L2.Same.refl H1) hD, by rw [upd_same, List.take_zero]; rfl⟩ (fun i H _ p => slq H p.1) (fun i x H hx p => ?_) fun H p => hd H p.1 (by rw [p.2, ← hzl, List.take_length])
  have hi : i < xs.length := (List.getElem?_eq_some_iff.mp hx).1
  have hyi : bs[i]? = some bs[i] := List.getElem?_eq_getElem (by omega)
  have hzi : (xs.zip bs)[i]? = some (x, bs[i]) := by
    rw [List.getElem?_zip_eq_some]
    exact ⟨hx, hyi⟩
  refine ⟨hw x, ht i x bs[i] H _ hx hyi p.1 fun H' s' => ?_⟩
  cases hb : bs[i] with
  | true =>
    rw [if_pos rfl]
    refine hs i x H' _ hx (p.1.trans s') fun H2 s2 => ⟨_, s2 _ _ (s' _ _ p.2), ?_, ?_, ?_⟩
    · rw [List.length_map]
      refine Nat.lt_of_le_of_lt (List.length_filter_le _ _) ?_
      rw [List.length_take]
      omega
    · exact L2.Same.mine (p.1.trans (s'.trans s2)) hD
    · rw [upd_same, List.take_succ, hzi, hb]
      rw [List.filter_append, List.map_append]
      rfl
  | false =>
    rw [if_neg (by simp)]
    refine ⟨p.1.trans s', ?_⟩
    rw [s' _ _ p.2, List.take_succ, hzi, hb, List.filter_append, List.map_append]
    show _ = some (HO.lst (_ ++ []))
    rw [List.append_nil]
/-! ### constants of the module; a property by its body -/
theorem pe_gint {X : Cx} {x : Str} {i : Int} {pos : Pos} (hg : Gl X x) (h : ∃ t, X.mg x = some (.int i t)) (hd : (x == ("__debug__" : Str)) = false := by decide) : PE X (.Name x pos) (tC (.int i)) := by
  obtain ⟨t, e⟩ := h
  exact pe_glob hg e ⟨t, rfl⟩ hd
theorem pe_gstr {X : Cx} {x z : Str} {pos : Pos} (hg : Gl X x) (h : ∃ t, X.mg x = some (.str z t)) (hd : (x == ("__debug__" : Str)) = false := by decide) : PE X (.Name x pos) (tC (.str z)) := by
  obtain ⟨t, e⟩ := h
  exact pe_glob hg e ⟨t, rfl⟩ hd
theorem PropAt.ok {P : Program} {w : World} {K : PySem.W.Frag} {mg : Str → Option Value} {base : Heap} {CX : CXT} {C : Addr} {m qual : Str} {st : Stmt} {N : List Str} {k : Nat} {sp : Sp} (D : PropAt K C m qual st) (S : FnScope N ["self"] (defScope st)) (len : ∀ vs H Q E, sp vs H Q E → vs.length = (["self"] : List Str).length)
    (hbody : ∀ (f : Addr) (cdv : Value) (A : Around) (outer : List Env) (s : Shared) (H : Hp) (vs : List V) (Q : VK) (E : XK), Room k (A.deeper (envOfC qual (defScope st) s.heap.objs.size f cdv)) → sp vs H Q E →
      ∃ t, PSs (cxOf CX P w K mg base N qual (defScope st) f cdv A outer s H E).nox (defBody st) t ∧ t { nx := fun _ H' => Q .non H', rt := Q } (start N vs) H) : PropD P w K mg base CX (k + 1) C m sp := by
  obtain ⟨p, g, fd, h1, F, b⟩ := D.ex
  exact ⟨p, g, fd, h1, b, okF F S len fun cdv A outer s H vs Q E hr h => hbody g cdv A outer s H vs Q E hr h⟩
theorem PropD.mono {P : Program} {w : World} {K : PySem.W.Frag} {mg : Str → Option Value} {base : Heap} {CX : CXT} {C : Addr} {f : Str} {sp : Sp} {j k : Nat} (c : PropD P w K mg base CX j C f sp) (h : j ≤ k) : PropD P w K mg base CX k C f sp := by
  obtain ⟨p, g, fd, h1, h2, F⟩ := c.ex
  exact ⟨p, g, fd, h1, h2, F.mono h⟩
/-! ### a property of each of a list of fountains -/
theorem map_get {α β : Type} {l : List α} {f : α → β} {i : Nat} {t : α} {y : β} (h1 : l[i]? = some t) (h2 : (l.map f)[i]? = some y) : y = f t := by
  rw [List.getElem?_map, h1] at h2
  exact (Option.some.inj h2).symm
theorem lc_propT {K : PySem.W.Frag} {a : Addr} {xs : List V} {l : List T} {f : T → V} {j : Nat} {E : XK} {σ : L2.St} {H1 : Hp} {D : Addr} {Qd : Hp → Prop} (hD : H1 D = none) (hl : SqT K H1 a xs) (hf : FtnL (cF K) H1 l xs) (hz : xs.length < sizeLine)
    (hw : ∀ x : V, wipe ((wipe σ [j]).set j (some x)) [j] = wipe σ [j]) (hv : ∀ x : V, ((wipe σ [j]).set j (some x))[j]? = some (some x)) (hd : ∀ H, L2.Same H1 H → H D = some (.lst (l.map f)) → Qd H) : ∃ W : Nat → Nat → Hp → Prop, (∃ m, W 0 m (upd H1 D (.lst []))) ∧ ∀ i m H, W i m H →
      ((Itt K a).stop i H ∧ Qd H) ∨ ((Itt K a).go i H ∧ ∃ Nx : Hp → Prop, (∀ H', Nx H' → ∃ m', m' < m ∧ W (i + 1) m' H') ∧ ∀ x H', (Itt K a).yld i H x H' → gName j x (wipe σ [j]) H' fun σ2 H2 => wipe σ2 [j] = wipe σ [j] ∧ tYes σ2 H2 fun b H3 =>
        if b = true then tProp (cF K) (spV K f) [] E (tVar j) σ2 H3 fun y H4 => ∃ acc, H4 D = some (.lst acc) ∧ acc.length < sizeLine ∧ Nx (upd H4 D (.lst (acc ++ [y]))) else Nx H3) :=
  lc_eachT (ys := l.map f) hD hl hz (by rw [List.length_map, hf.len]) hw (fun i x y H Q hx hy s _ q => by
    obtain ⟨t, e1, e2⟩ := hf.get hx
    rw [map_get e1 hy] at q
    exact ⟨x, hv x, ev_prop (e2.same s) (q H (L2.Same.refl H))⟩) hd
theorem lc_propL {K : PySem.W.Frag} {a : Addr} {xs : List V} {l : List T} {f : T → V} {j : Nat} {E : XK} {σ : L2.St} {H1 : Hp} {D : Addr} {Qd : Hp → Prop} (hD : H1 D = none) (hl : SqL K H1 a xs) (hf : FtnL (cF K) H1 l xs) (hz : xs.length < sizeLine)
    (hw : ∀ x : V, wipe ((wipe σ [j]).set j (some x)) [j] = wipe σ [j]) (hv : ∀ x : V, ((wipe σ [j]).set j (some x))[j]? = some (some x)) (hd : ∀ H, L2.Same H1 H → H D = some (.lst (l.map f)) → Qd H) : ∃ W : Nat → Nat → Hp → Prop, (∃ m, W 0 m (upd H1 D (.lst []))) ∧ ∀ i m H, W i m H →
      ((Itl K a).stop i H ∧ Qd H) ∨ ((Itl K a).go i H ∧ ∃ Nx : Hp → Prop, (∀ H', Nx H' → ∃ m', m' < m ∧ W (i + 1) m' H') ∧ ∀ x H', (Itl K a).yld i H x H' → gName j x (wipe σ [j]) H' fun σ2 H2 => wipe σ2 [j] = wipe σ [j] ∧ tYes σ2 H2 fun b H3 =>
        if b = true then tProp (cF K) (spV K f) [] E (tVar j) σ2 H3 fun y H4 => ∃ acc, H4 D = some (.lst acc) ∧ acc.length < sizeLine ∧ Nx (upd H4 D (.lst (acc ++ [y]))) else Nx H3) :=
  lc_eachL (ys := l.map f) hD hl hz (by rw [List.length_map, hf.len]) hw (fun i x y H Q hx hy s _ q => by
    obtain ⟨t, e1, e2⟩ := hf.get hx
    rw [map_get e1 hy] at q
    exact ⟨x, hv x, ev_prop (e2.same s) (q H (L2.Same.refl H))⟩) hd
theorem FtnL.filter {C : Addr} {H : Hp} {p : T → Bool} : ∀ {l : List T} {vs : List V}, FtnL C H l vs → FtnL C H (l.filter p) (((vs.zip (l.map p)).filter (·.2)).map (·.1))
  | [], vs, h => by
    have e : vs = [] := h
    subst e
    exact rfl
  | t :: ts, vs, h => by
    obtain ⟨v, r, rfl, h1, h2⟩ := (show ∃ v r, vs = v :: r ∧ Ftn C H t v ∧ FtnL C H ts r from h)
    rw [List.map_cons, List.zip_cons_cons, List.filter_cons, List.filter_cons]
    cases hp : p t with
    | true => exact ⟨v, _, rfl, h1, FtnL.filter h2⟩
    | false =>
      simp only [Bool.false_eq_true, if_false]
      exact FtnL.filter h2
theorem ite_f {b : Bool} {A B : Prop} (h : b = false) (x : B) : if b = true then A else B := by
  subst h
  exact x
theorem ite_t {b : Bool} {A B : Prop} (h : b = true) (x : A) : if b = true then A else B := by
  subst h
  exact x
/-! ### the text of a basin -/
theorem joinL_nil : ∀ ys : List (List Nat), TL.joinL [] ys = ys.flatten
  | [] => rfl
  | [x] => by
    show x = x ++ []
    rw [List.append_nil]
  | x :: y :: r => by
    show x ++ ([] ++ TL.joinL [] (y :: r)) = x ++ (y :: r).flatten
    rw [List.nil_append, joinL_nil (y :: r)]
theorem codesL_flat : ∀ l : List T, codesL l = (l.map T.codes).flatten
  | [] => rfl
  | t :: r => by
    show t.codes ++ codesL r = t.codes ++ (r.map T.codes).flatten
    rw [codesL_flat r]
theorem nil_S : ("" : Str) = SX.S [] := by decide +kernel
theorem op_S : ("(" : Str) = SX.S [40] := by decide +kernel
theorem cl_S : (")" : Str) = SX.S [41] := by decide +kernel
theorem o_S : ("o" : Str) = SX.S [111] := by decide +kernel
theorem join_tx (l : List T) : Txt.join "" (l.map tx) = SX.S (codesL l) := by
  have e : l.map tx = (l.map T.codes).map SX.S := by
    rw [List.map_map]
    rfl
  rw [e, nil_S, SX.join_S, joinL_nil, codesL_flat]
theorem tx_bas (l : List T) : (("(" : Str) ++ Txt.join "" (l.map tx)) ++ (")" : Str) = tx (.bas l) := by
  rw [join_tx, op_S, cl_S, SX.S_cat, SX.S_cat]
  rfl
theorem codesL_len (l : List T) : (codesL l).length ≤ 2 * sizeL l := by
  have h := (codes_len (.bas l)).1
  have h2 : (40 :: (codesL l ++ [41])).length + jtsL l = 2 * (1 + sizeL l) := h
  rw [List.length_cons, List.length_append, List.length_singleton] at h2
  omega
theorem lens_tx (l : List T) : ((l.map tx).map (·.length)).sum = (codesL l).length := by
  rw [codesL_flat, List.length_flatten, List.map_map, List.map_map]
  exact congrArg List.sum (List.map_congr_left fun t _ => SX.S_len t.codes)
/-! ### what is open while a text is read: tuples of fountains, the inmost first -/
def PendR (C : Addr) (H : Hp) : List (List T) → List V → Prop
  | [], vs => vs = []
  | p :: r, vs => ∃ a xs ws, vs = .ref a :: ws ∧ H a = some (.tup xs) ∧ FtnL C H p xs ∧ PendR C H r ws
theorem PendR.ext {C : Addr} {H H' : Hp} (e : ExtN H H') : ∀ {st : List (List T)} {vs : List V}, PendR C H st vs → PendR C H' st vs
  | [], _, h => h
  | p :: r, vs, h => by
    obtain ⟨a, xs, ws, rfl, h1, h2, h3⟩ := (show ∃ a xs ws, vs = .ref a :: ws ∧ H a = some (.tup xs) ∧ FtnL C H p xs ∧ PendR C H r ws from h)
    exact ⟨a, xs, ws, rfl, e _ _ h1 (fun ps z => by cases z), h2.ext e, PendR.ext e h3⟩
theorem PendR.len {C : Addr} {H : Hp} : ∀ {st : List (List T)} {vs : List V}, PendR C H st vs → vs.length = st.length
  | [], _, h => by
    rw [show _ = [] from h] <;> rfl
  | p :: r, vs, h => by
    obtain ⟨a, xs, ws, rfl, h1, h2, h3⟩ := (show ∃ a xs ws, vs = .ref a :: ws ∧ H a = some (.tup xs) ∧ FtnL C H p xs ∧ PendR C H r ws from h)
    rw [List.length_cons, List.length_cons, h3.len]
/-- all but the object at D (a list of one's own) and the tables stay -/
def ExtD (D : Addr) (H H' : Hp) : Prop := ∀ b o, b ≠ D → H b = some o → (∀ ps, o ≠ .tbl ps) → H' b = some o
theorem ExtD.of {D : Addr} {H H' : Hp} (e : ExtN H H') : ExtD D H H' := fun b o _ h n => e b o h n
theorem ExtD.trans {D : Addr} {H H1 H2 : Hp} (a : ExtD D H H1) (b : ExtD D H1 H2) : ExtD D H H2 := fun c o hc h n => b c o hc (a c o hc h n) n
theorem ExtD.put {D : Addr} {H H1 : Hp} {o : HO} (a : ExtD D H H1) : ExtD D H (upd H1 D o) := fun c u hc h n => by rw [upd_ne hc]; exact a c u hc h n
theorem ExtD.refl (D : Addr) (H : Hp) : ExtD D H H := fun _ _ _ h _ => h
section
variable {C D : Addr} {H H' : Hp} {xs : List V}
mutual
theorem ftn_extD (hd : H D = some (.lst xs)) (e : ExtD D H H') : ∀ (t : T) (v : V), Ftn C H t v → Ftn C H' t v
  | .jet, v, h => by
    have h2 : ∃ a dx b n, v = .ref a ∧ H a = some (.ins C dx (flds .jet b n)) ∧ H b = some (.tup []) ∧ H n = some (.tup (nums .jet)) := h
    obtain ⟨a, dx, b, n, ev, h1, h2, h3⟩ := h2
    exact ⟨a, dx, b, n, ev, e _ _ (ne_of h1 hd fun z => by cases z) h1 (fun ps z => by cases z), e _ _ (ne_of h2 hd fun z => by cases z) h2 (fun ps z => by cases z), e _ _ (ne_of h3 hd fun z => by cases z) h3 (fun ps z => by cases z)⟩
  | .bas l, v, h => by
    have h2 : ∃ a dx b n vs, v = .ref a ∧ H a = some (.ins C dx (flds (.bas l) b n)) ∧ H b = some (.tup vs) ∧ H n = some (.tup (nums (.bas l))) ∧ FtnL C H l vs := h
    obtain ⟨a, dx, b, n, vs, ev, h1, h2, h3, h4⟩ := h2
    exact ⟨a, dx, b, n, vs, ev, e _ _ (ne_of h1 hd fun z => by cases z) h1 (fun ps z => by cases z), e _ _ (ne_of h2 hd fun z => by cases z) h2 (fun ps z => by cases z), e _ _ (ne_of h3 hd fun z => by cases z) h3 (fun ps z => by cases z), ftnL_extD hd e l vs h4⟩
theorem ftnL_extD (hd : H D = some (.lst xs)) (e : ExtD D H H') : ∀ (l : List T) (vs : List V), FtnL C H l vs → FtnL C H' l vs
  | [], vs, h => h
  | t :: ts, vs, h => by
    have h2 : ∃ v r, vs = v :: r ∧ Ftn C H t v ∧ FtnL C H ts r := h
    obtain ⟨v, r, ev, h1, h2⟩ := h2
    exact ⟨v, r, ev, ftn_extD hd e t v h1, ftnL_extD hd e ts r h2⟩
end
theorem PendR.extD (hd : H D = some (.lst xs)) (e : ExtD D H H') : ∀ {st : List (List T)} {vs : List V}, PendR C H st vs → PendR C H' st vs
  | [], _, h => h
  | p :: r, vs, h => by
    obtain ⟨a, ys, ws, rfl, h1, h2, h3⟩ := (show ∃ a xs ws, vs = .ref a :: ws ∧ H a = some (.tup xs) ∧ FtnL C H p xs ∧ PendR C H r ws from h)
    exact ⟨a, ys, ws, rfl, e _ _ (ne_of h1 hd fun z => by cases z) h1 (fun ps z => by cases z), ftnL_extD hd e p ys h2, PendR.extD hd e h3⟩
end
theorem Tabs.put {TT : List (Addr × Str)} {H : Hp} {D : Addr} {xs ys : List V} (t : LamX.Tabs TT H) (hd : H D = some (.lst xs)) : LamX.Tabs TT (upd H D (.lst ys)) := fun p hp => by
  obtain ⟨ps, h1, h2, h3⟩ := t p hp
  refine ⟨ps, by rw [upd_ne (ne_of h1 hd fun z => by cases z)]; exact h1, h2, fun pos cv hc => ?_⟩
  obtain ⟨c, e1, e2⟩ := h3 pos cv hc
  exact ⟨c, e1, by rw [upd_ne (ne_of e2 hd fun z => by unfold LamX.CodeO at z; cases z)]; exact e2⟩
theorem Tabs.same {TT : List (Addr × Str)} {H H' : Hp} (t : LamX.Tabs TT H) (s : L2.Same H H') : LamX.Tabs TT H' := LamX.Tabs.ext t s
theorem sq_last {α : Type} (v : α) (r : List α) : ((v :: r).reverse)[(v :: r).reverse.length - 1]? = some v := by
  rw [List.reverse_cons]
  simp
theorem sq_butlast {α : Type} (v : α) (r : List α) : (v :: r).reverse.dropLast = r.reverse := by
  rw [List.reverse_cons, List.dropLast_concat]
theorem ix_last {n : Nat} (h : 0 < n) : ixN n (-1) = some (n - 1) := by
  unfold ixN
  rw [if_neg (by omega), if_pos (by omega)]
  exact congrArg some (by omega)
theorem at_last (v : V) (r : List V) : atI (v :: r).reverse (-1) = some v := by
  unfold atI
  rw [ix_last (by simp)]
  exact sq_last v r
theorem set_last (v w : V) (r : List V) : (v :: r).reverse.set ((v :: r).reverse.length - 1) w = (w :: r).reverse := by
  rw [List.reverse_cons, List.reverse_cons, List.length_append, List.length_singleton]
  simp
theorem tyL {K : PySem.W.Frag} {H : Hp} {D : Addr} {xs : List V} (h : H D = some (.lst xs)) : tyV K "list" (.ref D) H := .inl ⟨rfl, _, SqL.of h⟩
/-! ### an unfinished instance is written: the fountains stay -/
section
variable {C C' D dx' : Addr} {H H' : Hp} {fs : List (Str × V)}
theorem flds_len {t : T} {b n : Addr} : (flds t b n).length = 3 := rfl
mutual
theorem ftn_extX (hd : H D = some (.ins C' dx' fs)) (hf : fs.length ≠ 3) (e : ExtD D H H') : ∀ (t : T) (v : V), Ftn C H t v → Ftn C H' t v
  | .jet, v, h => by
    have h2 : ∃ a dx b n, v = .ref a ∧ H a = some (.ins C dx (flds .jet b n)) ∧ H b = some (.tup []) ∧ H n = some (.tup (nums .jet)) := h
    obtain ⟨a, dx, b, n, ev, h1, h2, h3⟩ := h2
    exact ⟨a, dx, b, n, ev, e _ _ (ne_of h1 hd fun z => by cases z; exact hf rfl) h1 (fun ps z => by cases z), e _ _ (ne_of h2 hd fun z => by cases z) h2 (fun ps z => by cases z), e _ _ (ne_of h3 hd fun z => by cases z) h3 (fun ps z => by cases z)⟩
  | .bas l, v, h => by
    have h2 : ∃ a dx b n vs, v = .ref a ∧ H a = some (.ins C dx (flds (.bas l) b n)) ∧ H b = some (.tup vs) ∧ H n = some (.tup (nums (.bas l))) ∧ FtnL C H l vs := h
    obtain ⟨a, dx, b, n, vs, ev, h1, h2, h3, h4⟩ := h2
    exact ⟨a, dx, b, n, vs, ev, e _ _ (ne_of h1 hd fun z => by cases z; exact hf rfl) h1 (fun ps z => by cases z), e _ _ (ne_of h2 hd fun z => by cases z) h2 (fun ps z => by cases z), e _ _ (ne_of h3 hd fun z => by cases z) h3 (fun ps z => by cases z), ftnL_extX hd hf e l vs h4⟩
theorem ftnL_extX (hd : H D = some (.ins C' dx' fs)) (hf : fs.length ≠ 3) (e : ExtD D H H') : ∀ (l : List T) (vs : List V), FtnL C H l vs → FtnL C H' l vs
  | [], vs, h => h
  | t :: ts, vs, h => by
    have h2 : ∃ v r, vs = v :: r ∧ Ftn C H t v ∧ FtnL C H ts r := h
    obtain ⟨v, r, ev, h1, h2⟩ := h2
    exact ⟨v, r, ev, ftn_extX hd hf e t v h1, ftnL_extX hd hf e ts r h2⟩
end
end
theorem Tabs.putI {TT : List (Addr × Str)} {H : Hp} {D C C' dx dx' : Addr} {fs gs : List (Str × V)} (t : LamX.Tabs TT H) (hd : H D = some (.ins C dx fs)) : LamX.Tabs TT (upd H D (.ins C' dx' gs)) := fun p hp => by
  obtain ⟨ps, h1, h2, h3⟩ := t p hp
  refine ⟨ps, by rw [upd_ne (ne_of h1 hd fun z => by cases z)]; exact h1, h2, fun pos cv hc => ?_⟩
  obtain ⟨c, e1, e2⟩ := h3 pos cv hc
  exact ⟨c, e1, by rw [upd_ne (ne_of e2 hd fun z => by unfold LamX.CodeO at z; cases z)]; exact e2⟩
theorem kids_size (t : T) : sizeL t.kids ≤ t.size := by
  cases t with
  | jet => exact Nat.zero_le _
  | bas l => show sizeL l ≤ 1 + sizeL l; omega
theorem Ftn.ne {C : Addr} {H : Hp} {t : T} {v : V} (h : Ftn C H t v) : v ≠ .non := by
  obtain ⟨a, _, _, _, _, rfl, _⟩ := ftn_iff.mp h
  exact fun z => by cases z
end JW
/-! JWHead: the head's facts with properties of a class. -/
namespace JW
open PySem PySem.Spec PyProof.Rows L2 He
/-- a property's getter -/
def gAd (K : PySem.W.Frag) (p : Str × Str) : Addr := match PySem.W.recIn K (ma K (ga K p.1) p.2) "property" with
  | some (.ref g :: _) => g
  | _ => 0
structure PrD where
  at_ : Str × Str
  name : Str
  qual : Str
  params : Arguments
  body : List Stmt
  scope : Scope
def fnWa (K : PySem.W.Frag) (a : Addr) : FnW := match K.lookup a with
  | some ⟨_, _, .func fd, _⟩ => some (fd.name, fd.qualname, fd.params, fd.body, fd.scope, fd.globals, fd.closure, fd.builtins)
  | _ => none
def PrD.val (d : PrD) : FnW := some (d.name, d.qual, d.params, .stmts d.body, d.scope, mainGlobals, [], builtinsNs)
def PrD.okP (K : PySem.W.Frag) (d : PrD) : Bool := eqO (PySem.W.findIn K (.ref (ga K d.at_.1)) d.at_.2) (some (some (.ref (ma K (ga K d.at_.1) d.at_.2)))) &&
  (eqO (PySem.W.specialIn K (.ref (ma K (ga K d.at_.1) d.at_.2)) "__get__") (some (some (.builtin "property.__get__"))) && (decide (PySem.W.takesIn K (.ref (ma K (ga K d.at_.1) d.at_.2)) = some true) &&
  (match PySem.W.recIn K (ma K (ga K d.at_.1) d.at_.2) "property" with
  | some (.ref _ :: _) => true
  | _ => false)))
def PrD.okF (K : PySem.W.Frag) (d : PrD) : Bool := PySem.W.keepIn K (.ref (gAd K d.at_)) && (match K.lookup (gAd K d.at_) with
  | some ⟨_, _, .func fd, _⟩ => PySem.W.codeIn K fd.code d.qual && (dflB K fd.defaults [] && kwdB K fd.kwdefaults [])
  | _ => false)
def PrD.ok (K : PySem.W.Frag) (d : PrD) : Bool := d.okP K && d.okF K
theorem PrD.propOf {K : PySem.W.Frag} {d : PrD} (h : d.okP K = true) : PropOf K (ga K d.at_.1) d.at_.2 (ma K (ga K d.at_.1) d.at_.2) (gAd K d.at_) := by
  obtain ⟨h1, h2⟩ := ba h
  obtain ⟨h3, h4⟩ := ba h2
  obtain ⟨h5, h6⟩ := ba h4
  refine ⟨eqO_ok h1, eqO_ok h3, of_decide_eq_true h5, ?_⟩
  unfold gAd
  generalize PySem.W.recIn K (ma K (ga K d.at_.1) d.at_.2) "property" = r at h6 ⊢
  cases r with
  | none => cases h6
  | some l =>
    cases l with
    | nil => cases h6
    | cons v rest =>
      cases v with
      | ref g => exact ⟨rest, rfl⟩
      | _ => cases h6
theorem PrD.funD {K : PySem.W.Frag} {d : PrD} (e : fnWa K (gAd K d.at_) = d.val) (c : d.okF K = true) : ∃ fd, FunD K d.name d.qual d.params d.body d.scope [] [] (gAd K d.at_) fd := by
  obtain ⟨kp, c2⟩ := ba c
  unfold fnWa at e
  cases q : K.lookup (gAd K d.at_) with
  | none =>
    rw [q] at c2
    cases c2
  | some o =>
    obtain ⟨oc, od, dt, osl⟩ := o
    rw [q] at c2 e
    cases dt with
    | func fd =>
      obtain ⟨n1, n2, n3, n4, n5, n6, n7, n8, n9, n10, n11, n12, n13, n14, n15⟩ := fd
      have e2 : (some (n1, n2, n3, n4, n5, n6, n7, n15) : FnW) = some (d.name, d.qual, d.params, .stmts d.body, d.scope, mainGlobals, [], builtinsNs) := e
      simp only [Option.some.injEq, Prod.mk.injEq] at e2
      obtain ⟨h1, h2, h3, h4, h5, h6, h7, h8⟩ := e2
      subst h1 h2 h3 h4 h5 h6 h7 h8
      have c3 : (PySem.W.codeIn K n13 d.qual && (dflB K n8 [] && kwdB K n9 [])) = true := c2
      obtain ⟨k1, k2⟩ := ba c3
      obtain ⟨k3, k4⟩ := ba k2
      exact ⟨_, ⟨oc, od, n8, n9, n10, n11, n12, n13, n14, osl, rfl, q, k1, dflB_ok k3, kwdB_ok k4⟩, kp⟩
    | _ => cases c2
/-- more of the class -/
def clsX (K : PySem.W.Frag) (x : Str) : Bool := eqO (PySem.W.findIn K (.ref (ga K x)) "__class__") (some (some (.builtin "object.__class__"))) &&
  (eqO (PySem.W.specialIn K (.builtin "object.__class__") "__get__") (some (some (.builtin "getset_descriptor.__get__"))) && (decide (PySem.W.takesIn K (.builtin "object.__class__") = some true) &&
  (decide (PySem.W.mroIn K (ga K x) (.type "object") = some true) && (eqO (PySem.W.findIn K (.ref (ga K x)) "__ne__") (some (some (.builtin "object.__ne__"))) && PySem.W.selfFirst K (ga K x)))))
theorem clsF_of {K : PySem.W.Frag} {mg : Str → Option Value} (g : mg "Fountain" = some (.ref (cF K))) (c : Cls K (cF K)) (nw : NoAttr K (cF K) "written") (nb : NoAttr K (cF K) "branches") (nn : NoAttr K (cF K) "numbers") (h : clsX K "Fountain" = true) : ClsF K mg := by
  obtain ⟨h1, h2⟩ := ba h
  obtain ⟨h3, h4⟩ := ba h2
  obtain ⟨h5, h6⟩ := ba h4
  obtain ⟨h7, h8⟩ := ba h6
  obtain ⟨h9, h10⟩ := ba h8
  exact ⟨g, c, nw, nb, nn, eqO_ok h1, eqO_ok h3, of_decide_eq_true h5, of_decide_eq_true h7, eqO_ok h9, of_decide_eq_true h7, h10⟩
/-! ### the Hook -/
structure SaysJ (fa : List Fa) (fn : List DefD) (tf : List Defn) (ex : PySem.W.Frag → Bool) (pr : List PrD) (w : World) (h : Heap) (K : PySem.W.Frag) : Prop where
  x : SaysX fa fn [] tf ex w h K
  p : pr.map (fun d => fnWa K (gAd K d.at_)) = pr.map PrD.val
  ok : (pr.all fun d => d.ok K) = true
abbrev AlJ : Type := AlX × List FnW × Bool
def obsJ (n : Nat) (fa : List Fa) (fn : List DefD) (tf : List Defn) (ex : PySem.W.Frag → Bool) (pr : List PrD) (g : Addr → Option Obj) : AlJ :=
  (obsX n fa fn [] tf ex g, pr.map (fun d => fnWa (frT g (asD g n)) (gAd (frT g (asD g n)) d.at_)), pr.all fun d => d.ok (frT g (asD g n)))
def valJ (fn : List DefD) (pr : List PrD) (w : World) : AlJ := (valX fn [] w, pr.map PrD.val, true)
theorem saysJ_of {n : Nat} {fa : List Fa} {fn : List DefD} {tf : List Defn} {ex : PySem.W.Frag → Bool} {pr : List PrD} {w : World} {h : Heap} (e : obsJ n fa fn tf ex pr h.get? = valJ fn pr w) : SaysJ fa fn tf ex pr w h (frT h.get? (asD h.get? n)) :=
  ⟨saysX_of (congrArg (fun z : AlJ => z.1) e), congrArg (fun z : AlJ => z.2.1) e, congrArg (fun z : AlJ => z.2.2) e⟩
def hookJ (n : Nat) (fa : List Fa) (fn : List DefD) (tf : List Defn) (ex : PySem.W.Frag → Bool) (pr : List PrD) : PySem.W.Hook where
  α := AlJ
  obs := fun s => obsJ n fa fn tf ex pr s.heap.get?
  val := fun w => valJ fn pr w
  says := fun w h => ∃ K : PySem.W.Frag, K.In h ∧ SaysJ fa fn tf ex pr w h K
  of := fun _ _ e => ⟨_, frT_in, saysJ_of e⟩
  keeps := fun _ _ _ ⟨K, hK, c⟩ k => ⟨K, PySem.W.Frag.In.keeps hK k, ⟨⟨c.x.t, c.x.more, c.x.hd, c.x.out, fun p hp => k _ _ (c.x.empty p hp)⟩, c.p, c.ok⟩⟩
theorem obsJ_eq {n : Nat} {fa : List Fa} {fn : List DefD} {tf : List Defn} {ex : PySem.W.Frag → Bool} {pr : List PrD} {g : Addr → Option Obj} {s : Shared} (h : ∀ a, g a = s.heap.get? a) : obsJ n fa fn tf ex pr g = (hookJ n fa fn tf ex pr).obs s := by
  have e : g = s.heap.get? := funext h
  rw [e] <;> rfl
section
variable {fa : List Fa} {fn : List DefD} {tf : List Defn} {ex : PySem.W.Frag → Bool} {pr : List PrD} {w : World} {h : Heap} {K : PySem.W.Frag}
theorem SaysJ.d (c : SaysJ fa fn tf ex pr w h K) : SaysD fa fn K := congrArg (fun z : AlT => z.1) c.x.t
theorem SaysJ.prop (c : SaysJ fa fn tf ex pr w h K) (i : Nat) {d : PrD} (hi : pr[i]? = some d) : PropOf K (ga K d.at_.1) d.at_.2 (ma K (ga K d.at_.1) d.at_.2) (gAd K d.at_) ∧ ∃ fd, FunD K d.name d.qual d.params d.body d.scope [] [] (gAd K d.at_) fd := by
  have h1 : d.ok K = true := List.all_eq_true.mp c.ok d (List.mem_of_getElem? hi)
  obtain ⟨h2, h3⟩ := ba h1
  refine ⟨PrD.propOf h2, PrD.funD ?_ h3⟩
  have e2 : (pr.map fun d => fnWa K (gAd K d.at_))[i]? = (pr.map PrD.val)[i]? := by rw [c.p]
  rw [List.getElem?_map, List.getElem?_map, hi] at e2
  exact Option.some.inj e2
theorem SaysJ.propAt (c : SaysJ fa fn tf ex pr w h K) (i : Nat) {x m qual : Str} {st : Stmt} (hi : pr[i]? = some ⟨(x, m), m, qual, defArgs st, defBody st, defScope st⟩)
    (hb : ∀ (kV doc pm : Value) (an : Option Addr) (cdv ct : Value) (us : List Value), us.length = (["self"] : List Str).length → bindArgs (PySem.W.fnOf m qual (defArgs st) (defBody st) (defScope st) .none kV doc pm an cdv ct) ⟨us, []⟩ = pure ((["self"] : List Str).zip us)) : PropAt K (ga K x) m qual st := by
  obtain ⟨h1, fd, F⟩ := c.prop i hi
  exact ⟨_, _, fd, h1, F, F.bindsN hb⟩
end
end JW
/-! JWFeed: the source of draws of the first family; all but one object stay. -/
namespace JW
open PySem PySem.Spec PyProof.Rows L2
def feedD (a b c : Int) : List (Key × V) := [(.inr "digits", .int a), (.inr "seed", .int b), (.inr "turn", .int c)]
theorem feed_digits {a b c : Int} : valV (feedD a b c) (.inr "digits") = some (.int a) := by kernel_rfl
theorem feed_seed {a b c : Int} : valV (feedD a b c) (.inr "seed") = some (.int b) := by kernel_rfl
theorem feed_turn {a b c : Int} : valV (feedD a b c) (.inr "turn") = some (.int c) := by kernel_rfl
theorem feed_put_digits {a b c x : Int} : putK (feedD a b c) (.inr "digits") (.int x) = feedD x b c := by kernel_rfl
theorem feed_put_seed {a b c x : Int} : putK (feedD a b c) (.inr "seed") (.int x) = feedD a x c := by kernel_rfl
theorem feed_put_turn {a b c x : Int} : putK (feedD a b c) (.inr "turn") (.int x) = feedD a b x := by kernel_rfl
theorem feed_made {a b c : Int} : mergeK [] (feedD a b c) = feedD a b c := by kernel_rfl
theorem feed_len {a b c : Int} : (feedD a b c).length < sizeLine := by show 3 < sizeLine; decide
def FeedAt (H : Hp) (d : Addr) : Prop := ∃ a b c : Int, H d = some (.dK (feedD a b c))
theorem FeedAt.same {H H' : Hp} {d : Addr} (h : FeedAt H d) (s : L2.Same H H') : FeedAt H' d := by
  obtain ⟨a, b, c, e⟩ := h
  exact ⟨a, b, c, s _ _ e⟩
theorem FeedAt.off {H : Hp} {d p : Addr} {o : HO} (h : FeedAt H d) (n : d ≠ p) : FeedAt (upd H p o) d := by
  obtain ⟨a, b, c, e⟩ := h
  exact ⟨a, b, c, by rw [upd_ne n]; exact e⟩
theorem FeedAt.ne {H : Hp} {d p : Addr} (h : FeedAt H d) (hp : H p = none) : p ≠ d := by
  obtain ⟨a, b, c, e⟩ := h
  exact (ne_of_none e hp).symm
theorem FeedAt.nel {H : Hp} {d p : Addr} {xs : List V} (h : FeedAt H d) (hp : H p = some (.lst xs)) : p ≠ d := by
  obtain ⟨a, b, c, e⟩ := h
  exact ne_of hp e fun z => by cases z
/-- all but d stay -/
def SamD (d : Addr) (H H' : Hp) : Prop := ∀ b o, b ≠ d → H b = some o → H' b = some o
theorem SamD.refl (d : Addr) (H : Hp) : SamD d H H := fun _ _ _ h => h
theorem SamD.trans {d : Addr} {H H1 H2 : Hp} (a : SamD d H H1) (b : SamD d H1 H2) : SamD d H H2 := fun c o h1 h => b c o h1 (a c o h1 h)
theorem SamD.put {d : Addr} {H H1 : Hp} {o : HO} (a : SamD d H H1) : SamD d H (upd H1 d o) := fun c u h1 h => by rw [upd_ne h1]; exact a c u h1 h
theorem SamD.new {d p : Addr} {H H1 : Hp} {o : HO} (a : SamD d H H1) (hp : H1 p = none) : SamD d H (upd H1 p o) := fun c u h1 h => by rw [upd_ne (ne_of_none (a c u h1 h) hp)]; exact a c u h1 h
theorem SamD.mine {d p : Addr} {H H1 : Hp} {o : HO} (a : SamD d H H1) (hp : H p = none) : SamD d H (upd H1 p o) := fun c u h1 h => by rw [upd_ne (ne_of_none h hp)]; exact a c u h1 h
theorem SamD.of {d : Addr} {H H1 : Hp} (a : L2.Same H H1) : SamD d H H1 := fun c o _ h => a c o h
theorem SamD.same {d : Addr} {H H1 H2 : Hp} (a : SamD d H H1) (b : L2.Same H1 H2) : SamD d H H2 := fun c o h1 h => b c o (a c o h1 h)
/-- what stays of the tables and the fountains -/
theorem Tabs.samD {TT : List (Addr × Str)} {H H' : Hp} {d : Addr} (t : LamX.Tabs TT H) (f : FeedAt H d) (s : SamD d H H') : LamX.Tabs TT H' := fun p hp => by
  obtain ⟨a, b, c0, e⟩ := f
  obtain ⟨ps, h1, h2, h3⟩ := t p hp
  refine ⟨ps, s _ _ (ne_of h1 e fun z => by cases z) h1, h2, fun pos cv hc => ?_⟩
  obtain ⟨c, e1, e2⟩ := h3 pos cv hc
  exact ⟨c, e1, s _ _ (ne_of e2 e fun z => by unfold LamX.CodeO at z; cases z) e2⟩
section
variable {C d : Addr} {H H' : Hp}
mutual
theorem ftn_samD (f : FeedAt H d) (s : SamD d H H') : ∀ (t : T) (v : V), Ftn C H t v → Ftn C H' t v
  | .jet, v, h => by
    have h2 : ∃ a dx b n, v = .ref a ∧ H a = some (.ins C dx (flds .jet b n)) ∧ H b = some (.tup []) ∧ H n = some (.tup (nums .jet)) := h
    obtain ⟨a, dx, b, n, ev, h1, h2, h3⟩ := h2
    obtain ⟨x, y, z, e⟩ := f
    exact ⟨a, dx, b, n, ev, s _ _ (ne_of h1 e fun z => by cases z) h1, s _ _ (ne_of h2 e fun z => by cases z) h2, s _ _ (ne_of h3 e fun z => by cases z) h3⟩
  | .bas l, v, h => by
    have h2 : ∃ a dx b n vs, v = .ref a ∧ H a = some (.ins C dx (flds (.bas l) b n)) ∧ H b = some (.tup vs) ∧ H n = some (.tup (nums (.bas l))) ∧ FtnL C H l vs := h
    obtain ⟨a, dx, b, n, vs, ev, h1, h2, h3, h4⟩ := h2
    have h4' := ftnL_samD f s l vs h4
    obtain ⟨x, y, z, e⟩ := f
    exact ⟨a, dx, b, n, vs, ev, s _ _ (ne_of h1 e fun z => by cases z) h1, s _ _ (ne_of h2 e fun z => by cases z) h2, s _ _ (ne_of h3 e fun z => by cases z) h3, h4'⟩
theorem ftnL_samD (f : FeedAt H d) (s : SamD d H H') : ∀ (l : List T) (vs : List V), FtnL C H l vs → FtnL C H' l vs
  | [], vs, h => h
  | t :: ts, vs, h => by
    have h2 : ∃ v r, vs = v :: r ∧ Ftn C H t v ∧ FtnL C H ts r := h
    obtain ⟨v, r, ev, h1, h2⟩ := h2
    exact ⟨v, r, ev, ftn_samD f s t v h1, ftnL_samD f s ts r h2⟩
end
end
end JW
/-! JWEnumT: for i, x in enumerate(a tuple). -/
namespace PySem
open Sem (wp)
open Builtin Builtin.Str
open AutoSeq1 (wpAny_loadPart')
section
variable {prog : Program} {w : World} {A : Around} {E : Value → Shared → Prop} {s : Shared}
theorem jw_next_tup {it t : Addr} {i : Nat} {items} {x : Value} {Q : Value → Shared → Prop} (hit : s.heap.IsTupleIter it t i) (ht : s.heap.IsTuple t items) (hx : items[i]? = some x)
    (hQ : ∀ h', h'.IsTupleIter it t (i + 1) → Heap.SameBut it s.heap h' → Q x { s with heap := h' }) : wpAny (model prog w) A (Builtin.SmallTypes.nextOf (.ref it)) Q E s := by
  obtain ⟨o, ho, hc, hd⟩ := id hit
  obtain ⟨ol, hol, _, nl, hdl⟩ := ht
  unfold Builtin.SmallTypes.nextOf
  refine wpAny_bind (wpAny_callSpecial?_slot (name := Str.ofString "__next__") hit.typeIs F.slot_tuple_iterator_next
    (wpAny_call_entry F.slot_tuple_iterator_next hit.typeIs F.entry_tuple_iterator_next ?_ (F.args_tuple_iterator_next_1 _)))
  show wpAny _ _ (field (.ref it) 0 >>= _) _ _ s
  refine wpAny_bind (wpAny_field ho hd (x := .ref t) rfl ?_)
  show wpAny _ _ (if (Value.ref t == Value.none) = true then _ else _) _ _ s
  rw [if_neg (show ¬ ((Value.ref t == Value.none) = true) from Bool.false_ne_true)]
  show wpAny _ _ (field (.ref it) 1 >>= _) _ _ s
  refine wpAny_bind (wpAny_field ho hd (x := .int i 0) rfl ?_)
  show wpAny _ _ (seqItems? (.ref t) >>= _) _ _ s
  refine wpAny_bind (wpAny_seqItems hol hdl ?_)
  simp only [Int.toNat_natCast, hx]
  refine wpAny_bind (wpAny_setField ho hd (by simp) (wpAny_pure ⟨x, rfl, wpAny_pure (hQ _ ?_ (Heap.SameBut.update ..))⟩))
  exact ⟨_, Heap.get?_update_self _ ho (Obj.isFreed_of_fields (Obj.data_mapFields hd _)), (Obj.cls_mapFields ..).trans hc, by
    rw [Obj.data_mapFields hd]; simp [rawInt]⟩
theorem jw_next_tup_end {it t : Addr} {i : Nat} {items} {Q : Value → Shared → Prop} (hh : A.handled = none) (hit : s.heap.IsTupleIter it t i) (ht : s.heap.IsTuple t items) (hx : items[i]? = none)
    (hE : ∀ h' e, Heap.ExtBut it s.heap h' → (∃ o, h'.get? e = some o ∧ o.cls = .type "StopIteration") → E (.ref e) { s with heap := h' }) : wpAny (model prog w) A (Builtin.SmallTypes.nextOf (.ref it)) Q E s := by
  obtain ⟨o, ho, hc, hd⟩ := id hit
  obtain ⟨ol, hol, _, nl, hdl⟩ := ht
  unfold Builtin.SmallTypes.nextOf
  refine wpAny_bind (wpAny_callSpecial?_slot (name := Str.ofString "__next__") hit.typeIs F.slot_tuple_iterator_next
    (wpAny_call_entry F.slot_tuple_iterator_next hit.typeIs F.entry_tuple_iterator_next ?_ (F.args_tuple_iterator_next_1 _)))
  show wpAny _ _ (field (.ref it) 0 >>= _) _ _ s
  refine wpAny_bind (wpAny_field ho hd (x := .ref t) rfl ?_)
  show wpAny _ _ (if (Value.ref t == Value.none) = true then _ else _) _ _ s
  rw [if_neg (show ¬ ((Value.ref t == Value.none) = true) from Bool.false_ne_true)]
  show wpAny _ _ (field (.ref it) 1 >>= _) _ _ s
  refine wpAny_bind (wpAny_field ho hd (x := .int i 0) rfl ?_)
  show wpAny _ _ (seqItems? (.ref t) >>= _) _ _ s
  refine wpAny_bind (wpAny_seqItems hol hdl ?_)
  simp only [Int.toNat_natCast, hx]
  refine wpAny_bind (wpAny_rule (wpAny_bind (wpAny_setField ho hd (by simp) ?_)))
  show wpAny _ _ (newExc (.type "StopIteration") [] >>= _) _ _ _
  refine wpAny_bind ?_
  simp only [newExc, newTuple]
  refine wpAny_bind (wpAny_newObj_type ?_ (by size_fits))
  refine wpAny_bind (m := firstArgMember _ _) (wpAny_of_eq (a := Value.none) (by first | rfl | (simp only [firstArgMember]; rfl)) ?_)
  refine wpAny_newObj_type ?_ (by size_fits)
  simp only [raiseNew]
  refine wpAny_bind (wpAny_handled ?_)
  first | rw [show A.in1.handled = none from hh] | rw [hh]
  refine wpAny_bind (wpAny_pure (wpAny_throw ?_))
  exact hE _ _ (((Heap.SameBut.update ..).extBut.push _).push _) ⟨_, Heap.get?_push_size _ rfl, rfl⟩
end
theorem jw_draws_tup {prog : Program} {w : World} {A : Around} (hh : A.handled = none) (it l : Addr) (hne : l ≠ it) (items : Array Value) :
    Draws prog w A it [it, l] items.size (fun i v => items[i]? = some v) (fun i h => h.IsTupleIter it l i ∧ h.IsTuple l items) where
  live := fun _ _ st => let ⟨o, ho, _⟩ := st.1; ⟨o, ho⟩
  frame := fun _ _ _ st hk => by
    obtain ⟨⟨o, ho, r⟩, o2, ho2, r2⟩ := st
    exact ⟨⟨o, hk it (by simp) o ho, r⟩, o2, hk l (by simp) o2 ho2, r2⟩
  item := fun i s Q E hi st hQ => by
    refine jw_next_tup st.1 st.2 (x := items[i]) (by simp [hi]) fun h' hit' hs' => ?_
    exact hQ _ h' s.toks (by simp [hi]) ⟨hit', st.2.extBut hs'.extBut hne⟩ hs'
  done := fun s Q E st hE => jw_next_tup_end hh st.1 st.2 (by simp) hE
set_option maxHeartbeats 4000000 in
theorem jw_enum_newT (l : Addr) (items : Array Value) (n : Nat) (dct : Option Addr) (sl : Array (Option Value)) :
    Meets (Builtin.«enumerate.__new__» ⟨[.type "enumerate", .ref l], []⟩) (fun _ R s => s.heap.get? l = some { cls := .type "tuple", dict := dct, data := .seq items n, slots := sl } ∧
      R (.ok (.ret (.ref (s.heap.push { cls := .type "tuple_iterator", data := .fields #[.ref l, .int 0 0] }).objs.size)))
        { s with heap := (s.heap.push { cls := .type "tuple_iterator", data := .fields #[.ref l, .int 0 0] }).push { cls := .type "enumerate", data := .fields #[.none, .bool false, .ref s.heap.objs.size, rawInt 0, .none, .none] } }) :=
  .of_wp fun prog w A R s h => by
    obtain ⟨hp, g, d, tk, os⟩ := s; obtain ⟨hl, h⟩ := h
    have hsub := sub_enumerate
    have hL : Heap.IsTuple (Shared.heap ⟨hp, g, d, tk, os⟩) l items := ⟨_, hl, rfl, n, rfl⟩
    wp_walk using wpAny_loadPart' hl
    refine wpAny_stack_any fun st => wpAny_pure ?_
    split
    · rename_i c _ _ _ _ _
      cases (c == Value.type "enumerate")
      · wp_walk using wpAny_loadPart' hl, wpAny_pyIter_tuple hL
        exact ⟨_, rfl, h⟩
      · wp_walk using wpAny_loadPart' hl, wpAny_pyIter_tuple hL
        exact ⟨_, rfl, h⟩
    · wp_walk using wpAny_loadPart' hl, wpAny_pyIter_tuple hL
      exact ⟨_, rfl, h⟩
section
variable {prog : Program} {w : World} {A : Around} {E : Value → Shared → Prop} {s : Shared}
theorem jw_call_enumT {l : Addr} {items : Array Value} {Q : Value → Shared → Prop} (hL : s.heap.IsTuple l items)
    (h : ∀ h', IsEnum h' (s.heap.objs.size + 1) s.heap.objs.size 0 .none → h'.IsTupleIter s.heap.objs.size l 0 → h'.objs.size = s.heap.objs.size + 2 →
      (∀ b o, s.heap.get? b = some o → h'.get? b = some o) → Q (.ref (s.heap.objs.size + 1)) { s with heap := h' }) :
    wpAny (model prog w) A (call (.type "enumerate") [.ref l]) Q E s := by
  obtain ⟨⟨c, dct, dt, sl⟩, hl, hc, n, hd⟩ := hL
  replace hc : c = .type "tuple" := hc
  replace hd : dt = .seq items n := hd
  subst hc hd
  refine callType_new F.called_enumerate (by decide) (F.typeCall_enumerate_1 _) (F.newCall_enumerate_1 _) (fun obj => F.args_object_init_2 obj _) F.entry_enumerate_new
    (jw_enum_newT l items n dct sl) ⟨hl, ?_⟩
  have hz : (s.heap.push { cls := .type "tuple_iterator", data := .fields #[.ref l, .int 0 0] }).objs.size = s.heap.objs.size + 1 := Heap.size_push ..
  show _ ∧ _
  rw [hz]
  have he : IsEnum ((s.heap.push { cls := .type "tuple_iterator", data := .fields #[.ref l, .int 0 0] }).push
      { cls := .type "enumerate", data := .fields #[.none, .bool false, .ref s.heap.objs.size, rawInt 0, .none, .none] }) (s.heap.objs.size + 1) s.heap.objs.size 0 .none := by
    have := Heap.get?_push_size (s.heap.push { cls := .type "tuple_iterator", data := .fields #[.ref l, .int 0 0] })
      (o := { cls := .type "enumerate", data := .fields #[.none, .bool false, .ref s.heap.objs.size, rawInt 0, .none, .none] }) rfl
    rw [hz] at this; exact this
  refine ⟨⟨_, he, rfl⟩, h _ he ⟨_, Heap.get?_push_of_some _ (Heap.get?_push_size _ rfl), rfl, rfl⟩ (by rw [Heap.size_push, hz]) fun b o x => Heap.get?_push_of_some _ (Heap.get?_push_of_some _ x)⟩
end
end PySem
namespace JW
open PySem PySem.Spec PyProof.Rows L2
/-- the tuple at a, each item in a new pair with its index -/
def Itet (K : PySem.W.Frag) (a : Addr) : It :=
  ⟨fun i H => ∃ (xs : List V) (x : V), SqT K H a xs ∧ xs[i]? = some x, fun i H v H' => ∃ T x, v = .ref T ∧ H T = none ∧ H' = upd H T (.tup [.int (i : Nat), x]) ∧ ∀ xs, SqT K H a xs → xs[i]? = some x, fun i H => ∃ xs : List V, SqT K H a xs ∧ xs.length = i⟩
theorem turn_enumT {P : Program} {w : World} {K : PySem.W.Frag} {elts : List Expr} {kk : Nat} {tpos : Pos} (a e it : Addr) (hai : a ≠ it) (hae : a ≠ e) :
    Turn P w K (.Tuple elts kk tpos) (Itet K a) [e, it] e (fun i h => (∃ old, IsEnum h e it ((i : Nat) : Int) old) ∧ h.IsTupleIter it a i ∧ e ≠ it) where
  mem := by simp
  obj := fun i h st b hb => by
    obtain ⟨⟨old, he⟩, ⟨o, ho, hc, hd⟩, _⟩ := st
    have e' : b = e ∨ b = it := by simpa using hb
    rcases e' with z | z
    · rw [z]; exact ⟨_, he, fun v q => nomatch q⟩
    · rw [z]; exact ⟨o, ho, fun v q => by rw [hd] at q; cases q⟩
  keep := fun i h h' st k => by
    obtain ⟨⟨old, he⟩, ⟨o, ho, r⟩, hne⟩ := st
    exact ⟨⟨old, k e (by simp) _ he⟩, ⟨o, k it (by simp) o ho, r⟩, hne⟩
  item := by
    intro X hP hw hK hc i pins s σ H E I hf st hg
    subst hP hw hK
    obtain ⟨⟨old, he⟩, hit, hne⟩ := st
    obtain ⟨xs, x, hq, hx⟩ := hg
    obtain ⟨its, rv, p, hz⟩ := I.tuple hq
    obtain ⟨u, hu, ru⟩ := rv.get hx
    have hel : e < s.heap.objs.size := Heap.lt_size he
    have hil : it < s.heap.objs.size := by obtain ⟨_, q, _⟩ := hit; exact Heap.lt_size q
    have hlt : i < its.toArray.size := by
      have := (List.getElem?_eq_some_iff.mp hu).1
      simpa using this
    refine wpAny_pyNext_enum_itemD (jw_draws_tup (A := X.A.in1) (I.ok.hd hc) it a hai its.toArray) he ⟨hit, show s.heap.IsTuple a its.toArray from p⟩ hlt hne (by simp [hne, Ne.symm hae]) fun y h' tk hy ho hit' hT hsz hk => ?_
    obtain rfl : y = u := by
      have e1 : its.toArray[i]? = some u := by simpa using hu
      rw [e1] at hy
      exact (Option.some.inj hy).symm
    refine ⟨_, rfl, wpAny_letOwnedTupleGo_enum (s := { s with heap := h', toks := tk + 1 }) ho fun h'' he' sb => ?_⟩
    have hT2 : h''.get? s.heap.objs.size = some { cls := .type "tuple", data := .seq #[.int i tk, y] } := (sb.2 _ (Nat.ne_of_gt hel)).trans hT
    have new : ObjOk X.prog X.w (upd H s.heap.objs.size (.tup [.int (i : Nat), x])) h'' s.heap.objs.size (.tup [.int (i : Nat), x]) :=
      ⟨by show 2 ≤ sizeLine; decide, [.int i tk, y], .cons ⟨_, rfl⟩ (.cons ru .nil), ⟨_, hT2, rfl, _, rfl⟩⟩
    have I1 : Inv X pins σ (upd H s.heap.objs.size (.tup [.int (i : Nat), x])) { s with heap := h'', toks := tk + 1 } :=
      I.turnedNew (ch := [e, it]) (fun b ob hb q => (sb.2 b (fun z => hb (by simp [z]))).trans (hk b ob (fun z => hb (by simp [z])) (fun z => hb (by simp [z])) q)) hf (Nat.le_refl _) new
    refine ⟨.ref s.heap.objs.size, _, I1, rfl, ⟨_, x, rfl, I.hok.fresh (Nat.le_refl _), rfl, fun ys hy2 => by rw [I.tuple_inj hy2 hq]; exact hx⟩, ⟨⟨y, ?_⟩, ?_, hne⟩, fun b hb => ?_⟩
    · have e1 : ((i + 1 : Nat) : Int) = (i : Int) + 1 := by omega
      rw [e1]; exact he'
    · obtain ⟨⟨o, q, r⟩, _⟩ := hit'
      exact ⟨o, (sb.2 it (Ne.symm hne)).trans q, r⟩
    · have hb' : b < s.heap.objs.size := by
        have e' : b = e ∨ b = it := by simpa using hb
        rcases e' with z | z
        · rw [z]; exact hel
        · rw [z]; exact hil
      rw [upd_ne (Nat.ne_of_lt hb')]
      exact (hf b hb).1
  done := by
    intro X hP hw hK hc i pins s σ H E I hf st hg
    subst hP hw hK
    obtain ⟨⟨old, he⟩, hit, hne⟩ := st
    obtain ⟨xs, hq, hx⟩ := hg
    obtain ⟨its, rv, p, hz⟩ := I.tuple hq
    have hl : i = its.toArray.size := by
      rw [← hx, rv.length, List.size_toArray]
    subst hl
    obtain ⟨f0, f1, f2, f3, f4, f5⟩ := hf it (by simp)
    exact wpAny_pyNext_enum_endD (jw_draws_tup (A := X.A.in1) (I.ok.hd hc) it a hai its.toArray) he ⟨hit, show s.heap.IsTuple a its.toArray from p⟩ fun h' eb => ⟨rfl, I.turned (t' := s.toks) (fun b o hb q => eb b o hb q) f0 f1 f3 f4 f5⟩
  self := fun A i s Q E st h => let ⟨⟨_, he⟩, _⟩ := st; wpAny_pyIter_enum he h
def iEnumT (K : PySem.W.Frag) (ta : TA) : TI := fun σ H R => ta σ H fun vs H1 => ∃ a xs, vs = [.ref a] ∧ SqT K H1 a xs ∧ R (Itet K a) H1
theorem pi_enumT {X : Cx} {e : Expr} {ta : TA} {p pos tpos : Pos} {elts : List Expr} {kk : Nat} (hg : Gl X "enumerate") (hm : X.mg "enumerate" = none) (ha : PA X [e] ta) (hs : starEach [e] X.env = [(false, eval e X.env)] := by rfl) :
    PI X (.Tuple elts kk tpos) (.Call (.Name "enumerate" p) [e] [] pos) (iEnumT X.K ta) := by
  refine ⟨fun pins s σ H R I h => ?_⟩
  refine Call_ (ld_blt I hg hm boot_enumerate (PyProof.Rows.callWith_type1 (thn (ha.run pos pins s σ H _ I h) fun us s1 ⟨vs, H1, I1, r1, q1⟩ => ?_) hs rfl))
  obtain ⟨a, xs, ex, hq, q⟩ := q1
  subst ex
  cases r1 with
  | cons r rr =>
    cases rr
    cases r
    obtain ⟨its, rv, p', hz⟩ := I1.tuple hq
    have hlt : a < s1.heap.objs.size := by
      obtain ⟨o, q2, _⟩ := p'
      exact Heap.lt_size q2
    refine jw_call_enumT (show s1.heap.IsTuple a its.toArray from p') fun h' he hit hsz hk => wpAny_pyIter_enum he ?_
    have I2 : Inv X pins σ H1 { s1 with heap := h' } := I1.kept (t' := s1.toks) hk
    refine ⟨s1.heap.objs.size + 1, [s1.heap.objs.size + 1, s1.heap.objs.size], _, _, H1, rfl, I2, turn_enumT a (s1.heap.objs.size + 1) s1.heap.objs.size (Nat.ne_of_lt hlt) (Nat.ne_of_lt (Nat.lt_succ_of_lt hlt)), ⟨⟨.none, he⟩, hit, Nat.succ_ne_self _⟩, fun b hb => ?_, q⟩
    have e' : b = s1.heap.objs.size + 1 ∨ b = s1.heap.objs.size := by simpa using hb
    have hle : s1.heap.objs.size ≤ b := by
      rcases e' with z | z
      · rw [z]; exact Nat.le_add_right _ _
      · rw [z]; exact Nat.le_refl _
    exact I1.fpOk hle (I1.hok.fresh hle)
/-- its loop -/
theorem for_enumT {K : PySem.W.Frag} {a : Addr} {xs : List V} {g : TG} {tb : TS} {D : Ends} {σ : L2.St} {H : Hp} (Pv : Nat → L2.St → Hp → Prop) (h0 : Pv 0 σ H) (hl : ∀ i σ H, i ≤ xs.length → Pv i σ H → SqT K H a xs)
    (hs : ∀ i x σ H T, xs[i]? = some x → Pv i σ H → H T = none → g (.ref T) σ (upd H T (.tup [.int (i : Nat), x])) fun σ2 H2 => tb { D with nx := Pv (i + 1), ct := Pv (i + 1), bk := D.nx } σ2 H2) (hd : ∀ σ H, Pv xs.length σ H → D.nx σ H) :
    ∃ W : Nat → Nat → L2.St → Hp → Prop, (∃ m, W 0 m σ H) ∧ ∀ i m σ H, W i m σ H →
      ((Itet K a).stop i H ∧ D.nx σ H) ∨ ((Itet K a).go i H ∧ ∃ N : L2.St → Hp → Prop, (∀ σ' H', N σ' H' → ∃ m', m' < m ∧ W (i + 1) m' σ' H') ∧ ∀ v H', (Itet K a).yld i H v H' → g v σ H' fun σ2 H2 => tb { D with nx := N, ct := N, bk := D.nx } σ2 H2) := by
  refine ⟨fun i m σ H => m = xs.length - i ∧ i ≤ xs.length ∧ Pv i σ H, ⟨xs.length, rfl, Nat.zero_le _, h0⟩, ?_⟩
  rintro i m σ H ⟨rfl, hi, p⟩
  by_cases hlt : i < xs.length
  · refine .inr ⟨⟨xs, xs[i], hl i σ H hi p, List.getElem?_eq_getElem hlt⟩, Pv (i + 1), fun σ' H' p' => ⟨xs.length - (i + 1), by omega, rfl, hlt, p'⟩, fun v H' hy => ?_⟩
    obtain ⟨T, x, rfl, hT, rfl, hx⟩ := hy
    exact hs i x σ H T (hx xs (hl i σ H hi p)) p hT
  · have e : i = xs.length := by omega
    subst e
    exact .inl ⟨⟨xs, hl _ σ H hi p, rfl⟩, hd σ H p⟩
end JW
/-! JWCall: recursion by depth; a comprehension of calls that make fountains. -/
namespace JW
open PySem PySem.Spec PyProof.Rows L2 LamX
theorem DefAt.none {P : Program} {w : World} {K : PySem.W.Frag} {mg : Str → Option Value} {base : Heap} {CX : CXT} {x qual : Str} {st : Stmt} {ps : List Str} {k : Nat} {sp : Sp} (D : DefAt K mg x qual st [] ps) (h : ∀ vs H Q E, ¬ sp vs H Q E) : CallD P w K mg base CX k x ps [] sp := by
  obtain ⟨f, fd, h1, F, b⟩ := D.ex
  exact ⟨f, fd, [], h1, F.kp, b, .nil, ⟨fun vs H Q E z => absurd z (h _ _ _ _), fun A outer s H args us vs Q E hr e0 hb r z => absurd z (h _ _ _ _)⟩⟩
theorem callD_rec {P : Program} {w : World} {K : PySem.W.Frag} {mg : Str → Option Value} {base : Heap} {CX : CXT} {x qual : Str} {st : Stmt} {ps : List Str} {L : Nat} {sp : Nat → Sp} (D : DefAt K mg x qual st [] ps) (h0 : ∀ vs H Q E, ¬ sp 0 vs H Q E)
    (step : ∀ n, CallD P w K mg base CX (L + n) x ps [] (sp n) → CallD P w K mg base CX (L + n + 1) x ps [] (sp (n + 1))) : ∀ n, CallD P w K mg base CX (L + n) x ps [] (sp n)
  | 0 => D.none h0
  | n + 1 => step n (callD_rec D h0 step n)
theorem lc_ftnT {K : PySem.W.Frag} {TT : List (Addr × Str)} {a : Addr} {xs : List V} {l : List T} {g : T → T} {j : Nat} {te : TE} {σ : L2.St} {H1 : Hp} {D : Addr} {Qd : Hp → Prop} (hD : H1 D = none) (hl : SqT K H1 a xs) (hf : FtnL (cF K) H1 l xs) (hz : xs.length < sizeLine) (hT : Tabs TT H1)
    (hw : ∀ x : V, wipe ((wipe σ [j]).set j (some x)) [j] = wipe σ [j]) (hs : ∀ (x : V) (t : T) (H : Hp) (Q : VK), t ∈ l → Ftn (cF K) H t x → ExtN H1 H → Tabs TT H → (∀ y H', ExtN H H' → Tabs TT H' → Ftn (cF K) H' (g t) y → Q y H') → te ((wipe σ [j]).set j (some x)) H Q)
    (hd : ∀ H ys, ExtN H1 H → Tabs TT H → H D = some (.lst ys) → FtnL (cF K) H (l.map g) ys → Qd H) : ∃ W : Nat → Nat → Hp → Prop, (∃ m, W 0 m (upd H1 D (.lst []))) ∧ ∀ i m H, W i m H →
      ((Itt K a).stop i H ∧ Qd H) ∨ ((Itt K a).go i H ∧ ∃ Nx : Hp → Prop, (∀ H', Nx H' → ∃ m', m' < m ∧ W (i + 1) m' H') ∧ ∀ x H', (Itt K a).yld i H x H' → gName j x (wipe σ [j]) H' fun σ2 H2 => wipe σ2 [j] = wipe σ [j] ∧ tYes σ2 H2 fun b H3 =>
        if b = true then te σ2 H3 fun y H4 => ∃ acc, H4 D = some (.lst acc) ∧ acc.length < sizeLine ∧ Nx (upd H4 D (.lst (acc ++ [y]))) else Nx H3) := by
  have slq : ∀ H, ExtN H1 H → SqT K H a xs := fun H s => by
    rcases hl with (h | ⟨o, h⟩) | h
    · exact .inl (.inl (s _ _ h fun ps z => by cases z))
    · exact .inl (.inr ⟨o, s _ _ h fun ps z => by cases z⟩)
    · exact .inr h
  have hlen := hf.len
  refine lc_tup (fun i H => ExtN H1 H ∧ Tabs TT H ∧ ∃ ys, H D = some (.lst ys) ∧ FtnL (cF K) H ((l.take i).map g) ys) ⟨.of (Same.new (Same.refl H1) hD), Tabs.same hT (Same.new (Same.refl H1) hD), [], upd_same, by rw [List.take_zero]; rfl⟩ (fun i H _ p => slq H p.1) (fun i x H hx p => ?_) fun H p => ?_
  · obtain ⟨hE, hT2, ys, hy, hfy⟩ := p
    obtain ⟨t, e1, e2⟩ := hf.get hx
    have hi : i < l.length := (List.getElem?_eq_some_iff.mp e1).1
    refine ⟨hw x, ?_⟩
    show te _ H _
    refine hs x t H _ (List.mem_of_getElem? e1) (e2.ext hE) hE hT2 fun y H' hE' hT' hy' => ⟨ys, hE' _ _ hy (fun ps z => by cases z), ?_, ?_, ?_, ys ++ [y], upd_same, ?_⟩
    · rw [hfy.len, List.length_map, List.length_take]
      omega
    · exact fun c o ec n => by rw [upd_ne (ne_of_none ec hD)]; exact hE' _ _ (hE _ _ ec n) n
    · exact Tabs.put hT' (hE' _ _ hy (fun ps z => by cases z))
    · have hDy := hE' _ _ hy (fun ps z => by cases z)
      rw [List.take_succ, e1, Option.toList_some, List.map_append, List.map_singleton]
      exact ftnL_extD hDy (ExtD.put (ExtD.refl D H')) _ _ ((hfy.ext hE').app (FtnL.one hy'))
  · obtain ⟨hE, hT2, ys, hy, hfy⟩ := p
    rw [hlen, List.take_length] at hfy
    exact hd H ys hE hT2 hy hfy
/-! ### a def with keyword-only parameters, all by their defaults -/
structure DefAtK (K : PySem.W.Frag) (mg : Str → Option Value) (x qual : Str) (st : Stmt) (kws : List (Str × V)) (ps : List Str) : Prop where
  ex : ∃ f fd, mg x = some (.ref f) ∧ FunD K x qual (defArgs st) (defBody st) (defScope st) [] kws f fd ∧ ∃ ds, Vals (kws.map (·.2)) ds ∧ Binds K fd ps ds
theorem DefAtK.ok {P : Program} {w : World} {K : PySem.W.Frag} {mg : Str → Option Value} {base : Heap} {CX : CXT} {x qual : Str} {st : Stmt} {N ps : List Str} {kws : List (Str × V)} {k : Nat} {sp : Sp} (D : DefAtK K mg x qual st kws ps) (S : FnScope N ps (defScope st)) (len : ∀ vs H Q E, sp vs H Q E → vs.length = ps.length)
    (hbody : ∀ (f : Addr) (cdv : Value) (A : Around) (outer : List Env) (s : Shared) (H : Hp) (vs : List V) (Q : VK) (E : XK), Room k (A.deeper (envOfC qual (defScope st) s.heap.objs.size f cdv)) → sp vs H Q E →
      ∃ t, PSs (cxOf CX P w K mg base N qual (defScope st) f cdv A outer s H E).nox (defBody st) t ∧ t { nx := fun _ H' => Q .non H', rt := Q } (start N vs) H) : CallD P w K mg base CX (k + 1) x ps (kws.map (·.2)) sp := by
  obtain ⟨f, fd, h1, F, ds, r, b⟩ := D.ex
  exact ⟨f, fd, ds, h1, F.kp, b, r, JW.okF F S len fun cdv A outer s H vs Q E hr h => hbody f cdv A outer s H vs Q E hr h⟩
end JW
/-! JWPy: the law's trees: 'o' or a tuple of trees. -/
namespace JW
open PySem PySem.Spec PyProof.Rows L2
mutual
def PT (H : Hp) : T → V → Prop
  | .jet, v => v = .str (tx .jet)
  | .bas l, v => ∃ a vs, v = .ref a ∧ H a = some (.tup vs) ∧ PTL H l vs
def PTL (H : Hp) : List T → List V → Prop
  | [], vs => vs = []
  | t :: ts, vs => ∃ v r, vs = v :: r ∧ PT H t v ∧ PTL H ts r
end
section
variable {H H' : Hp}
/-- the tuples stay -/
def TupS (H H' : Hp) : Prop := ∀ a xs, H a = some (.tup xs) → H' a = some (.tup xs)
theorem TupS.of (s : L2.Same H H') : TupS H H' := fun a _ e => s a _ e
theorem TupS.ext (e : LamX.ExtN H H') : TupS H H' := fun a _ h => e a _ h fun ps z => by cases z
theorem TupS.refl (H : Hp) : TupS H H := fun _ _ h => h
theorem TupS.trans {H1 : Hp} (a : TupS H H1) (b : TupS H1 H') : TupS H H' := fun c xs h => b c xs (a c xs h)
theorem TupS.sack {d g : Addr} (h : SackAt H d g) (s : Same2 d g H H') : TupS H H' := fun a xs e => by
  obtain ⟨ns, x, y, z, n, e1, e2⟩ := h
  exact s a _ (ne_of e e1 fun z => by cases z) (ne_of e e2 fun z => by cases z) e
mutual
theorem pt_tup (s : TupS H H') : ∀ (t : T) (v : V), PT H t v → PT H' t v
  | .jet, v, h => h
  | .bas l, v, h => by
    obtain ⟨a, vs, ev, e, h2⟩ := (show ∃ a vs, v = .ref a ∧ H a = some (.tup vs) ∧ PTL H l vs from h)
    exact ⟨a, vs, ev, s _ _ e, ptl_tup s l vs h2⟩
theorem ptl_tup (s : TupS H H') : ∀ (l : List T) (vs : List V), PTL H l vs → PTL H' l vs
  | [], vs, h => h
  | t :: ts, vs, h => by
    obtain ⟨v, r, ev, h1, h2⟩ := (show ∃ v r, vs = v :: r ∧ PT H t v ∧ PTL H ts r from h)
    exact ⟨v, r, ev, pt_tup s t v h1, ptl_tup s ts r h2⟩
end
theorem PT.keep {t : T} {v : V} (h : PT H t v) (s : TupS H H') : PT H' t v := pt_tup s t v h
theorem PTL.keep {l : List T} {vs : List V} (h : PTL H l vs) (s : TupS H H') : PTL H' l vs := ptl_tup s l vs h
theorem PTL.len : ∀ {l : List T} {vs : List V}, PTL H l vs → vs.length = l.length
  | [], vs, h => by
    have e : vs = [] := h
    rw [e] <;> rfl
  | t :: ts, vs, h => by
    obtain ⟨v, r, rfl, _, h2⟩ := (show ∃ v r, vs = v :: r ∧ PT H t v ∧ PTL H ts r from h)
    rw [List.length_cons, List.length_cons, PTL.len h2]
theorem PTL.get : ∀ {l : List T} {vs : List V} {i : Nat} {v : V}, PTL H l vs → vs[i]? = some v → ∃ t, l[i]? = some t ∧ PT H t v
  | [], vs, i, v, h, e => by
    have e2 : vs = [] := h
    rw [e2] at e
    simp at e
  | t :: ts, vs, i, v, h, e => by
    obtain ⟨u, r, rfl, h1, h2⟩ := (show ∃ v r, vs = v :: r ∧ PT H t v ∧ PTL H ts r from h)
    cases i with
    | zero =>
      have e3 : u = v := by simpa using e
      exact ⟨t, rfl, e3 ▸ h1⟩
    | succ i =>
      obtain ⟨t', e1, e2⟩ := PTL.get h2 (i := i) (v := v) (by simpa using e)
      exact ⟨t', by simpa using e1, e2⟩
theorem PTL.app : ∀ {l m : List T} {vs ws : List V}, PTL H l vs → PTL H m ws → PTL H (l ++ m) (vs ++ ws)
  | [], m, vs, ws, h, h' => by
    have e : vs = [] := h
    rw [e]
    exact h'
  | t :: ts, m, vs, ws, h, h' => by
    obtain ⟨u, r, rfl, h1, h2⟩ := (show ∃ v r, vs = v :: r ∧ PT H t v ∧ PTL H ts r from h)
    exact ⟨u, r ++ ws, rfl, h1, PTL.app h2 h'⟩
theorem PTL.one {t : T} {v : V} (h : PT H t v) : PTL H [t] [v] := ⟨v, [], rfl, h, rfl⟩
end
/-! ### the data it is -/
mutual
def T.dat : T → PyData
  | .jet => .str (tx .jet)
  | .bas l => .tuple (datL l)
def datL : List T → List PyData
  | [] => []
  | t :: r => t.dat :: datL r
end
section
variable {K : PySem.W.Frag} {H : Hp}
mutual
theorem pt_dp : ∀ (t : T) (v : V), PT H t v → Dp K H v t.dat
  | .jet, v, h => by
    have e : v = .str (tx .jet) := h
    rw [e]
    exact .str _
  | .bas l, v, h => by
    obtain ⟨a, vs, rfl, e, h2⟩ := (show ∃ a vs, v = .ref a ∧ H a = some (.tup vs) ∧ PTL H l vs from h)
    exact .tup (SqT.of e) (ptl_dp l vs h2)
theorem ptl_dp : ∀ (l : List T) (vs : List V), PTL H l vs → DpAll K H vs (datL l)
  | [], vs, h => by
    have e : vs = [] := h
    rw [e]
    exact .nil
  | t :: ts, vs, h => by
    obtain ⟨v, r, rfl, h1, h2⟩ := (show ∃ v r, vs = v :: r ∧ PT H t v ∧ PTL H ts r from h)
    exact .cons (pt_dp t v h1) (ptl_dp ts r h2)
end
end
mutual
theorem dat_eqv : ∀ t u : T, PyData.eqv t.dat u.dat = decide (t = u)
  | .jet, .jet => by
    show (tx .jet == tx .jet) = decide (T.jet = T.jet)
    simp
  | .jet, .bas m => by
    show false = _
    exact (decide_eq_false fun z => by cases z).symm
  | .bas l, .jet => by
    show false = _
    exact (decide_eq_false fun z => by cases z).symm
  | .bas l, .bas m => by
    show PyData.eqvAll (datL l) (datL m) = _
    rw [datL_eqv l m]
    exact decide_eq_decide.mpr ⟨fun z => by rw [z], fun z => T.bas.inj z⟩
theorem datL_eqv : ∀ l m : List T, PyData.eqvAll (datL l) (datL m) = decide (l = m)
  | [], [] => rfl
  | [], u :: m => by
    show false = _
    exact (decide_eq_false fun z => by cases z).symm
  | t :: l, [] => by
    show false = _
    exact (decide_eq_false fun z => by cases z).symm
  | t :: l, u :: m => by
    show (PyData.eqv t.dat u.dat && PyData.eqvAll (datL l) (datL m)) = _
    rw [dat_eqv t u, datL_eqv l m]
    by_cases h1 : t = u <;> by_cases h2 : l = m <;> simp [h1, h2]
end
theorem dat_depth : ∀ t : T, t.dat.depth ≤ t.size := by
  refine T.ind' (by show 0 ≤ 1; omega) fun l ih => ?_
  show PyData.depthAll (datL l) + 1 ≤ 1 + sizeL l
  have go : ∀ l : List T, (∀ t ∈ l, t.dat.depth ≤ t.size) → PyData.depthAll (datL l) ≤ sizeL l := by
    intro l
    induction l with
    | nil => intro _; exact Nat.le_refl _
    | cons t r ihr =>
      intro h
      have h1 := h t List.mem_cons_self
      have h2 := ihr fun u hu => h u (List.mem_cons_of_mem _ hu)
      show max t.dat.depth (PyData.depthAll (datL r)) ≤ t.size + sizeL r
      omega
  have := go l ih
  omega
mutual
theorem dat_lay : ∀ t : T, t.dat.canLay0 = true
  | .jet => by
    show PyData.canLay0 (.str (tx .jet)) = true
    decide +kernel
  | .bas l => datL_lay l
theorem datL_lay : ∀ l : List T, PyData.canLayAll0 (datL l) = true
  | [] => rfl
  | t :: r => by
    show (t.dat.canLay0 && PyData.canLayAll0 (datL r)) = true
    rw [dat_lay t, datL_lay r]
    rfl
end
theorem dat_shaped {t : T} (h : t.size ≤ 64) : SeqAt.shaped t.dat = true := by
  unfold SeqAt.shaped
  rw [dat_lay t, decide_eq_true (Nat.le_trans (dat_depth t) h)]
  rfl
/-- tree == tree -/
theorem ev_eqT {K : PySem.W.Frag} {H : Hp} {t u : T} {v w : V} {Q : VK} (h1 : PT H t v) (h2 : PT H u w) (z1 : t.size ≤ 64) (z2 : u.size ≤ 64) (q : Q (.bl (decide (t = u))) H) : ∃ d e, Dp K H v d ∧ Dp K H w e ∧ SeqAt.shaped d = true ∧ SeqAt.shaped e = true ∧ Q (.bl (PyData.eqv d e)) H :=
  ⟨t.dat, u.dat, pt_dp t v h1, pt_dp u w h2, dat_shaped z1, dat_shaped z2, by rw [dat_eqv]; exact q⟩
theorem ev_neT {K : PySem.W.Frag} {H : Hp} {t u : T} {v w : V} {Q : VK} (h1 : PT H t v) (h2 : PT H u w) (z1 : t.size ≤ 64) (z2 : u.size ≤ 64) (q : Q (.bl (!decide (t = u))) H) : ∃ d e, Dp K H v d ∧ Dp K H w e ∧ SeqAt.shaped d = true ∧ SeqAt.shaped e = true ∧ Q (.bl (!PyData.eqv d e)) H :=
  ⟨t.dat, u.dat, pt_dp t v h1, pt_dp u w h2, dat_shaped z1, dat_shaped z2, by rw [dat_eqv]; exact q⟩
theorem pt_o {H : Hp} : PT H .jet (.str "o") := by
  show V.str "o" = V.str (tx .jet)
  rw [tx_jet]
theorem pt_nil {H : Hp} {p : Addr} (h : H p = some (.tup [])) : PT H (.bas []) (.ref p) := ⟨p, [], rfl, h, rfl⟩
/-! ### sorted(e, key=f), f a def of the text that gives texts -/
def tSortFn (K : PySem.W.Frag) (sp : Sp) (te : TE) : TE := fun σ H Q => te σ H fun x H1 => ∃ (l : Addr) (xs : List V) (zs : List Str) (R : Hp → Prop), x = .ref l ∧ Sq K H1 l xs ∧ zs.length = xs.length ∧ R H1 ∧
  (∀ (i : Nat) (x : V) (z : Str), xs[i]? = some x → zs[i]? = some z → ∀ H', R H' → sp [x] H' (fun v H2 => v = .str z ∧ R H2) E0) ∧
  ∀ (D : Addr) (H' : Hp) (ys : List V), R H' → H' D = none → KeydV zs xs ys → Q (.ref D) (upd H' D (.lst ys))
theorem pe_sortedFn {X : Cx} {e : Expr} {te : TE} {fx y : Str} {p p2 pos kpos : Pos} {k : Nat} {sp : Sp} (he : PE X e te) (hg : Gl X "sorted") (hm : X.mg "sorted" = none) (hgf : Gl X fx) (C : CallD X.prog X.w X.K X.mg X.base CX0 k fx [y] [] sp) (hr : Room (k + 2) X.A) (hdb : (fx == ("__debug__" : Str)) = false := by decide)
    (hst : backTo pos (starEach [e] X.env) = [(false, eval e X.env)] := by rfl) : PE X (.Call (.Name "sorted" p) [e] [⟨some "key", .Name fx p2, kpos⟩] pos) (tSortFn X.K sp te) := by
  obtain ⟨f, fd, ds, h1, h2, h3, h4, F⟩ := C.ex
  cases h4
  refine ⟨fun pins s σ H Q I h => ?_⟩
  refine wpAny_Call_Name_kw (ld_blt I hg hm (by decide +kernel : bootBuiltins "sorted" = some (.builtin "sorted")) ?_ (by decide) (by decide))
  refine PyProof.Rows.callWith_kw (e := e) (rest := []) ?_ hst (by rw [hst]; rfl) (by rfl) (by rfl)
  rw [hst]
  refine Calls.spliced_cons (thn (he.run pins s σ H _ I h) fun u s1 ⟨x, H1, I1, r1, q1⟩ => Calls.spliced_nil ?_)
  obtain ⟨l, xs, zs, R, rfl, hl, hlen, hR, turn, fin⟩ := q1
  cases r1
  show wpAny _ _ (evalAll [(do let v ← eval (.Name fx p2) X.env; standAt pos; pure v)]) _ _ s1
  refine wpAny_evalAll_cons (wpAny_bind (ld_glob I1 hgf h1 ?_ hdb))
  refine wpAny_bind (wpAny_standAt (wpAny_pure (wpAny_evalAll_nil ?_)))
  show wpAny (model X.prog X.w) X.A (call (.builtin "sorted") [.ref l] [(Str.ofString "key", .ref f)]) _ _ _
  refine sorted_key (R := R) I1 hR hl hlen (fun i x z hx hz pn s' H' u I' hR' rx => ?_) fun D s' H' ys I' hD hR' ky => ⟨.ref D, _, I', rfl, fin D H' ys hR' hD ky⟩
  have hsp := turn i x z hx hz H' hR'
  have hl1 : ([u] ++ ([] : List Value)).length = ([y] : List Str).length := rfl
  have hb := h3 s' [u] I'.kIn hl1
  rw [List.append_nil] at hb
  refine wpAny_call (codeAny_mono (F.run X.A.in1.in1 X.stack s' H' ⟨[u], []⟩ [u] [x] _ _ hr.in1.in1 I'.env0.in1.in1 hb (.cons rx .nil) hsp) fun r s'' hq => ?_)
  cases r with
  | error er => exact False.elim hq
  | ok fl =>
    cases fl with
    | ret w' => exact I'.after hq
    | next => exact False.elim hq
    | brk => exact False.elim hq
    | cont => exact False.elim hq
theorem PTL.zip {H : Hp} : ∀ {l : List T} {vs : List V}, PTL H l vs → ∀ p ∈ (l.map tx).zip vs, ∃ t, p.1 = tx t ∧ PT H t p.2
  | [], vs, _, p, hp => by
    rw [List.map_nil, List.zip_nil_left] at hp
    cases hp
  | t :: ts, vs, h, p, hp => by
    obtain ⟨u, r, rfl, h1, h2⟩ := (show ∃ v r, vs = v :: r ∧ PT H t v ∧ PTL H ts r from h)
    rw [List.map_cons, List.zip_cons_cons] at hp
    rcases List.mem_cons.mp hp with e | e
    · exact ⟨t, by rw [e], by rw [e]; exact h1⟩
    · exact PTL.zip h2 p e
theorem ptl_sort {H : Hp} {l : List T} {vs ys : List V} (h : PTL H l vs) (k : KeydV (l.map tx) vs ys) : PTL H (sortT l) ys := by
  obtain ⟨ps, pm, pw, rfl⟩ := k
  have hall : ∀ p ∈ ps, ∃ t, p.1 = tx t ∧ PT H t p.2 := fun p hp => h.zip p (pm.mem_iff.mp hp)
  have go : ∀ ps : List (Str × V), (∀ p ∈ ps, ∃ t, p.1 = tx t ∧ PT H t p.2) → ∃ us : List T, us.map tx = ps.map (·.1) ∧ PTL H us (ps.map (·.2)) := by
    intro ps
    induction ps with
    | nil => exact fun _ => ⟨[], rfl, rfl⟩
    | cons p r ih =>
      intro hp
      obtain ⟨us, e1, e2⟩ := ih fun q hq => hp q (List.mem_cons_of_mem _ hq)
      obtain ⟨t, e3, e4⟩ := hp p List.mem_cons_self
      exact ⟨t :: us, by rw [List.map_cons, List.map_cons, e1, e3], p.2, r.map (·.2), rfl, e4, e2⟩
  obtain ⟨us, e1, e2⟩ := go ps hall
  have hs : Srt us := by
    have q1 : (ps.map (·.1)).Pairwise (fun p q : Str => ¬ q.cps.toList < p.cps.toList) := List.pairwise_map.mpr pw
    rw [← e1] at q1
    refine (List.pairwise_map.mp q1).imp fun {a b} z => ?_
    unfold tle
    simp only [Bool.not_eq_true', decide_eq_false_iff_not]
    exact z
  have hfst : ((l.map tx).zip vs).map (·.1) = l.map tx := by
    rw [List.map_fst_zip]
    rw [List.length_map, h.len]
    exact Nat.le_refl _
  have hp : (us.map tx).Perm (l.map tx) := by
    rw [e1, ← hfst]
    exact pm.map _
  have un : ∃ g : Str → T, ∀ t, g (tx t) = t := by
    classical
    refine ⟨fun z => if e : ∃ t, tx t = z then e.choose else .jet, fun t => ?_⟩
    have e : ∃ u, tx u = tx t := ⟨t, rfl⟩
    show (if e : ∃ u, tx u = tx t then e.choose else T.jet) = t
    rw [dif_pos e]
    exact tx_inj e.choose_spec
  obtain ⟨g, hg⟩ := un
  have hp2 := hp.map g
  rw [List.map_map, List.map_map] at hp2
  have eid : (g ∘ tx) = id := funext hg
  rw [eid, List.map_id, List.map_id] at hp2
  rw [← sortT_eq hp2 hs]
  exact e2
/-- a comprehension of calls that give trees -/
theorem lc_treeT {K : PySem.W.Frag} {a : Addr} {xs : List V} {l : List T} {g : T → T} {j : Nat} {te : TE} {σ : L2.St} {H1 : Hp} {D : Addr} {Qd : Hp → Prop} (hD : H1 D = none) (hl : SqT K H1 a xs) (hf : PTL H1 l xs) (hz : xs.length < sizeLine)
    (hw : ∀ x : V, wipe ((wipe σ [j]).set j (some x)) [j] = wipe σ [j]) (hs : ∀ (x : V) (t : T) (H : Hp) (Q : VK), t ∈ l → PT H t x → L2.Same H1 H → (∀ y H', L2.Same H H' → PT H' (g t) y → Q y H') → te ((wipe σ [j]).set j (some x)) H Q)
    (hd : ∀ H ys, L2.Same H1 H → H D = some (.lst ys) → PTL H (l.map g) ys → Qd H) : ∃ W : Nat → Nat → Hp → Prop, (∃ m, W 0 m (upd H1 D (.lst []))) ∧ ∀ i m H, W i m H →
      ((Itt K a).stop i H ∧ Qd H) ∨ ((Itt K a).go i H ∧ ∃ Nx : Hp → Prop, (∀ H', Nx H' → ∃ m', m' < m ∧ W (i + 1) m' H') ∧ ∀ x H', (Itt K a).yld i H x H' → gName j x (wipe σ [j]) H' fun σ2 H2 => wipe σ2 [j] = wipe σ [j] ∧ tYes σ2 H2 fun b H3 =>
        if b = true then te σ2 H3 fun y H4 => ∃ acc, H4 D = some (.lst acc) ∧ acc.length < sizeLine ∧ Nx (upd H4 D (.lst (acc ++ [y]))) else Nx H3) := by
  have slq : ∀ H, L2.Same H1 H → SqT K H a xs := fun H s => by
    rcases hl with (h | ⟨o, h⟩) | h
    · exact .inl (.inl (s _ _ h))
    · exact .inl (.inr ⟨o, s _ _ h⟩)
    · exact .inr h
  have hlen := hf.len
  refine lc_tup (fun i H => L2.Same H1 H ∧ ∃ ys, H D = some (.lst ys) ∧ PTL H ((l.take i).map g) ys) ⟨L2.Same.new (L2.Same.refl H1) hD, [], upd_same, by rw [List.take_zero]; rfl⟩ (fun i H _ p => slq H p.1) (fun i x H hx p => ?_) fun H p => ?_
  · obtain ⟨hE, ys, hy, hfy⟩ := p
    obtain ⟨t, e1, e2⟩ := hf.get hx
    have hi : i < l.length := (List.getElem?_eq_some_iff.mp e1).1
    refine ⟨hw x, ?_⟩
    show te _ H _
    refine hs x t H _ (List.mem_of_getElem? e1) (e2.keep (.of hE)) hE fun y H' s' hy' => ⟨ys, s' _ _ hy, ?_, L2.Same.mine (hE.trans s') hD, ys ++ [y], upd_same, ?_⟩
    · rw [hfy.len, List.length_map, List.length_take]
      omega
    · rw [List.take_succ, e1, Option.toList_some, List.map_append, List.map_singleton]
      have kp : TupS H' (upd H' D (.lst (ys ++ [y]))) := fun c zs ec => by rw [upd_ne (ne_of ec (s' _ _ hy) fun z => by cases z)]; exact ec
      exact PTL.keep (PTL.app (hfy.keep (.of s')) (PTL.one hy')) kp
  · obtain ⟨hE, ys, hy, hfy⟩ := p
    rw [hlen, List.take_length] at hfy
    exact hd H ys hE hy hfy
theorem ptl_perm {H : Hp} {vs ys : List V} (p : ys.Perm vs) : ∀ {l : List T}, PTL H l vs → ∃ m, m.Perm l ∧ PTL H m ys := by
  induction p with
  | nil => exact fun h => ⟨_, List.Perm.refl _, h⟩
  | @cons x a b _ ih =>
    intro l h
    cases l with
    | nil => cases (show x :: b = [] from h)
    | cons t ts =>
      obtain ⟨v, r, e, h1, h2⟩ := (show ∃ v r, x :: b = v :: r ∧ PT H t v ∧ PTL H ts r from h)
      obtain ⟨rfl, rfl⟩ := List.cons.inj e
      obtain ⟨m, pm, hm⟩ := ih h2
      exact ⟨t :: m, pm.cons t, x, a, rfl, h1, hm⟩
  | @swap x y a =>
    intro l h
    cases l with
    | nil => cases (show x :: y :: a = [] from h)
    | cons t ts =>
      obtain ⟨v, r, e, h1, h2⟩ := (show ∃ v r, x :: y :: a = v :: r ∧ PT H t v ∧ PTL H ts r from h)
      obtain ⟨rfl, rfl⟩ := List.cons.inj e
      cases ts with
      | nil => cases (show y :: a = [] from h2)
      | cons t2 ts =>
        obtain ⟨v, r, e, h3, h4⟩ := (show ∃ v r, y :: a = v :: r ∧ PT H t2 v ∧ PTL H ts r from h2)
        obtain ⟨rfl, rfl⟩ := List.cons.inj e
        exact ⟨t2 :: t :: ts, List.Perm.swap t t2 ts, y, x :: a, rfl, h3, x, a, rfl, h1, h4⟩
  | trans _ _ ih1 ih2 =>
    intro l h
    obtain ⟨m, pm, hm⟩ := ih2 h
    obtain ⟨m2, pm2, hm2⟩ := ih1 hm
    exact ⟨m2, pm2.trans pm, hm2⟩
/-- the last of a list that is not empty -/
theorem ptl_last {H : Hp} {l : List T} {vs : List V} (h : PTL H l vs) (hn : 0 < vs.length) : ∃ x t, atI vs (-1) = some x ∧ t ∈ l ∧ PT H t x := by
  have hx : vs[vs.length - 1]? = some vs[vs.length - 1] := List.getElem?_eq_getElem (by omega)
  obtain ⟨t, e1, e2⟩ := h.get hx
  refine ⟨_, t, ?_, List.mem_of_getElem? e1, e2⟩
  unfold atI
  rw [ix_last hn]
  exact hx
theorem canL_app {a b : List T} (h1 : CanL a) (h2 : CanL b) : CanL (a ++ b) := canL_iff.mpr fun t ht => by
  rcases List.mem_append.mp ht with e | e
  · exact canL_iff.mp h1 t e
  · exact canL_iff.mp h2 t e
/-- a list of one's own grows by one tree -/
theorem PTL.push {H : Hp} {l : List T} {vs : List V} {t : T} {v : V} {P : Addr} (h : PTL H l vs) (hv : PT H t v) (hP : H P = some (.lst vs)) : PTL (upd H P (.lst (vs ++ [v]))) (l ++ [t]) (vs ++ [v]) := by
  have kp : TupS H (upd H P (.lst (vs ++ [v]))) := fun c zs ec => by rw [upd_ne (ne_of ec hP fun z => by cases z)]; exact ec
  exact PTL.keep (PTL.app h (PTL.one hv)) kp
theorem sIx_one (n : Nat) : HT.sIx (n + 1) 0 (some 1) = 1 := by
  unfold HT.sIx
  first
    | rfl
    | (simp; omega)
    | (dsimp only; omega)
theorem sIx_none (n : Nat) : HT.sIx n n none = n := rfl
theorem cut_tail (x : V) (r : List V) : cutV (x :: r) (some 1) none = r := by
  unfold cutV
  rw [List.length_cons, sIx_one, sIx_none]
  show List.take (r.length + 1 - 1) r = r
  rw [Nat.add_sub_cancel, List.take_length]
end JW
/-! JWMix: all but the sack and the tables stay. -/
namespace JW
open PySem PySem.Spec PyProof.Rows L2 LamX
def ExtS (d g : Addr) (H H' : Hp) : Prop := ∀ b o, b ≠ d → b ≠ g → H b = some o → (∀ ps, o ≠ .tbl ps) → H' b = some o
section
variable {d g : Addr} {H H1 H' : Hp}
theorem ExtS.refl (d g : Addr) (H : Hp) : ExtS d g H H := fun _ _ _ _ h _ => h
theorem ExtS.trans (a : ExtS d g H H1) (b : ExtS d g H1 H') : ExtS d g H H' := fun c o h1 h2 h n => b c o h1 h2 (a c o h1 h2 h n) n
theorem ExtS.of2 (s : Same2 d g H H') : ExtS d g H H' := fun b o h1 h2 h _ => s b o h1 h2 h
theorem ExtS.ofN (s : ExtN H H') : ExtS d g H H' := fun b o _ _ h n => s b o h n
theorem ExtS.ofS (s : L2.Same H H') : ExtS d g H H' := fun b o _ _ h _ => s b o h
theorem SackAt.extN (h : SackAt H d g) (e : ExtN H H') : SackAt H' d g := by
  obtain ⟨ns, a, b, c, n, e1, e2⟩ := h
  exact ⟨ns, a, b, c, n, e _ _ e1 (fun ps z => by cases z), e _ _ e2 (fun ps z => by cases z)⟩
theorem Tabs.sack {TT : List (Addr × Str)} (t : Tabs TT H) (h : SackAt H d g) (s : Same2 d g H H') : Tabs TT H' := fun p hp => by
  obtain ⟨ns, a, b, c0, n, e1, e2⟩ := h
  obtain ⟨ps, h1, h2, h3⟩ := t p hp
  refine ⟨ps, s _ _ (ne_of h1 e1 fun z => by cases z) (ne_of h1 e2 fun z => by cases z) h1, h2, fun pos cv hc => ?_⟩
  obtain ⟨c, e3, e4⟩ := h3 pos cv hc
  exact ⟨c, e3, s _ _ (ne_of e4 e1 fun z => by unfold CodeO at z; cases z) (ne_of e4 e2 fun z => by unfold CodeO at z; cases z) e4⟩
theorem TupS.extS (h : SackAt H d g) (s : ExtS d g H H') : TupS H H' := fun a xs e => by
  obtain ⟨ns, x, y, z, n, e1, e2⟩ := h
  exact s a _ (ne_of e e1 fun z => by cases z) (ne_of e e2 fun z => by cases z) e fun ps z => by cases z
variable {C : Addr}
mutual
theorem ftn_sack (h : SackAt H d g) (s : ExtS d g H H') : ∀ (t : T) (v : V), Ftn C H t v → Ftn C H' t v
  | .jet, v, hh => by
    have h2 : ∃ a dx b n, v = .ref a ∧ H a = some (.ins C dx (flds .jet b n)) ∧ H b = some (.tup []) ∧ H n = some (.tup (nums .jet)) := hh
    obtain ⟨a, dx, b, n, ev, h1, h2, h3⟩ := h2
    have kt := TupS.extS h s
    obtain ⟨ns, x, y, z, n0, e1, e2⟩ := h
    exact ⟨a, dx, b, n, ev, s _ _ (ne_of h1 e1 fun z => by cases z) (ne_of h1 e2 fun z => by cases z) h1 (fun ps z => by cases z), kt _ _ h2, kt _ _ h3⟩
  | .bas l, v, hh => by
    have h2 : ∃ a dx b n vs, v = .ref a ∧ H a = some (.ins C dx (flds (.bas l) b n)) ∧ H b = some (.tup vs) ∧ H n = some (.tup (nums (.bas l))) ∧ FtnL C H l vs := hh
    obtain ⟨a, dx, b, n, vs, ev, h1, h2, h3, h4⟩ := h2
    have h4' := ftnL_sack h s l vs h4
    have kt := TupS.extS h s
    obtain ⟨ns, x, y, z, n0, e1, e2⟩ := h
    exact ⟨a, dx, b, n, vs, ev, s _ _ (ne_of h1 e1 fun z => by cases z) (ne_of h1 e2 fun z => by cases z) h1 (fun ps z => by cases z), kt _ _ h2, kt _ _ h3, h4'⟩
theorem ftnL_sack (h : SackAt H d g) (s : ExtS d g H H') : ∀ (l : List T) (vs : List V), FtnL C H l vs → FtnL C H' l vs
  | [], vs, hh => hh
  | t :: ts, vs, hh => by
    have h2 : ∃ v r, vs = v :: r ∧ Ftn C H t v ∧ FtnL C H ts r := hh
    obtain ⟨v, r, ev, h1, h2⟩ := h2
    exact ⟨v, r, ev, ftn_sack h s t v h1, ftnL_sack h s ts r h2⟩
end
theorem Ftn.sack {t : T} {v : V} (f : Ftn C H t v) (h : SackAt H d g) (s : ExtS d g H H') : Ftn C H' t v := ftn_sack h s t v f
end
theorem ExtS.mine {d g : Addr} {H0 H H' : Hp} (a : L2.Same H0 H) (hd : H0 d = none) (hg : H0 g = none) (b : ExtS d g H H') : LamX.ExtN H0 H' := fun c o h n => b c o (ne_of_none h hd) (ne_of_none h hg) (a c o h) n
theorem seqN {K : PySem.W.Frag} {H H' : Hp} {a : Addr} {xs : List V} (h : SqL K H a xs) (e : LamX.ExtN H H') : SqL K H' a xs := by
  rcases h with (h | ⟨o, h⟩) | h
  · exact .inl (.inl (e _ _ h fun ps z => by cases z))
  · exact .inl (.inr ⟨o, e _ _ h fun ps z => by cases z⟩)
  · exact .inr h
end JW
/-! JWExc: defs that raise; calls whose wish depends on the slots; own errors with an __init__ that calls the base's. -/
namespace JW
open PySem PySem.Spec PyProof.Rows L2
/-! ### defs that may raise -/
section
variable {P : Program} {w : World} {K : PySem.W.Frag} {mg : Str → Option Value} {base : Heap} {C : Addr}
theorem DefAt.okX {x qual : Str} {st : Stmt} {N ps : List Str} {k : Nat} {sp : Sp} {dvs : List V} (D : DefAt K mg x qual st dvs ps) (S : FnScope N ps (defScope st)) (len : ∀ vs H Q E, sp vs H Q E → vs.length = ps.length)
    (hbody : ∀ (f : Addr) (cdv : Value) (A : Around) (outer : List Env) (s : Shared) (H : Hp) (vs : List V) (Q : VK) (E : XK), Room k (A.deeper (envOfC qual (defScope st) s.heap.objs.size f cdv)) → sp vs H Q E →
      ∃ t, PSs (cxOf (L2.CX P w) P w K mg base N qual (defScope st) f cdv A outer s H E) (defBody st) t ∧ t { nx := fun _ H' => Q .non H', rt := Q } (start N vs) H) : CallD P w K mg base (L2.CX P w) (k + 1) x ps [] sp := by
  obtain ⟨f, fd, h1, F, b⟩ := D.ex
  exact ⟨f, fd, [], h1, F.kp, b, .nil, F.ok S len fun cdv A outer s H vs Q E hr h => hbody f cdv A outer s H vs Q E hr h⟩
theorem MethAt.okX {m qual : Str} {st : Stmt} {N ps : List Str} {k : Nat} {sp : Sp} (D : MethAt K C m qual st ps) (S : FnScope N ps (defScope st)) (len : ∀ vs H Q E, sp vs H Q E → vs.length = ps.length)
    (hbody : ∀ (f : Addr) (cdv : Value) (A : Around) (outer : List Env) (s : Shared) (H : Hp) (vs : List V) (Q : VK) (E : XK), Room k (A.deeper (envOfC qual (defScope st) s.heap.objs.size f cdv)) → sp vs H Q E →
      ∃ t, PSs (cxOf (L2.CX P w) P w K mg base N qual (defScope st) f cdv A outer s H E) (defBody st) t ∧ t { nx := fun _ H' => Q .non H', rt := Q } (start N vs) H) : MethD P w K mg base (L2.CX P w) (k + 1) C m ps [] sp := by
  obtain ⟨f, fd, h1, F, b⟩ := D.ex
  exact ⟨f, fd, [], h1, b, .nil, F.ok S len fun cdv A outer s H vs Q E hr h => hbody f cdv A outer s H vs Q E hr h⟩
theorem InitAt.okX {x qual : Str} {st : Stmt} {N ps : List Str} {k : Nat} {sp : Sp} {dvs : List V} (D : InitAt K mg x C qual st dvs ps) (j : Nat) (hj : j ≤ dvs.length) (S : FnScope N ps (defScope st)) (len : ∀ vs H Q E, sp vs H Q E → vs.length = ps.length)
    (hbody : ∀ (f : Addr) (cdv : Value) (A : Around) (outer : List Env) (s : Shared) (H : Hp) (vs : List V) (Q : VK) (E : XK), Room k (A.deeper (envOfC qual (defScope st) s.heap.objs.size f cdv)) → sp vs H Q E →
      ∃ t, PSs (cxOf (L2.CX P w) P w K mg base N qual (defScope st) f cdv A outer s H E) (defBody st) t ∧ t { nx := fun _ H' => Q .non H', rt := Q } (start N vs) H) : MakeD P w K mg base (L2.CX P w) (k + 1) x C ps (dvs.drop j) sp := by
  obtain ⟨f, fd, h1, h2, F, b⟩ := D.ex
  obtain ⟨ds, r, hb⟩ := b j hj
  exact ⟨f, fd, ds, h1, h2, hb, r, F.ok S len fun cdv A outer s H vs Q E hr h => hbody f cdv A outer s H vs Q E hr h⟩
end
/-- the def's own wish takes what its callees let out -/
theorem passE {X : Cx} {E : XK} {E₁ : Value → Shared → Prop} (hs : X.stack = X.env :: X.outer) (hf : X.env.frame = some X.env.locals) (hex : X.ex = [])
    (hx : X.xe = fun e s' => wpAny (model X.prog X.w) X.A (leaving X.env e) (fun _ s'' => L2.CX X.prog X.w X.outer X.H_0 X.s_0 E e s'') E₁ s') : Passes (L2.CX X.prog X.w) X E :=
  passes_call (takes_of hs hf hex hx) fun _ _ _ _ h => h
/-! ### calls where the wish depends on the slots -/
section
variable {X : Cx} {CX : CXT} {k : Nat} {f C : Addr} {fd : FuncData} {ps : List Str} {sp : Sp} {dvs : List V} {ds : List Value} {E : L2.St → XK} {x m : Str} {p pos apos : Pos} {e o a b : Expr} {es : List Expr} {ta tb : TE} {t : TA}
theorem run_fnS2 {pins : List (Addr × Obj)} {σ : L2.St} {H : Hp} {s : Shared} {Q : VK} {us : List Value} {vs : List V} (F : FnOk X.prog X.w X.K X.mg X.base CX k f fd ps sp) (hr : Room k X.A) (hb : Binds X.K fd ps ds) (hd : Vals dvs ds) (hx : PassesAt CX X σ (E σ))
    (I : Inv X pins σ H s) (r : Vals vs us) (h : sp (vs ++ dvs) H Q (E σ)) : wpAny (model X.prog X.w) X.A (call (.ref f) us) (EP X pins σ Q) X.xe s := by
  have r2 : Vals (vs ++ dvs) (us ++ ds) := r.append hd
  have hl : (us ++ ds).length = ps.length := by rw [← r2.length]; exact F.len _ _ _ _ h
  refine wpAny_call (codeAny_mono (F.run X.A X.stack s H ⟨us, []⟩ (us ++ ds) (vs ++ dvs) Q (E σ) hr I.env0 (hb s us I.kIn hl) r2 h) fun r s' hq => ?_)
  cases r with
  | error e => exact hx pins H s e s' I hq
  | ok fl =>
    cases fl with
    | ret u => exact I.after hq
    | next => exact False.elim hq
    | brk => exact False.elim hq
    | cont => exact False.elim hq
def tCallS2 (sp : Sp) (dvs : List V) (E : L2.St → XK) (t : TA) : TE := fun σ H Q => t σ H fun vs H1 => sp (vs ++ dvs) H1 Q (E σ)
theorem pe_callDS (c : CallD X.prog X.w X.K X.mg X.base CX k x ps dvs sp) (hr : Room k X.A) (hg : Gl X x) (hx : ∀ σ, PassesAt CX X σ (E σ)) (ha : PA X (e :: es) t) (hdb : (x == ("__debug__" : Str)) = false := by decide)
    (he : starEach (e :: es) X.env = (false, eval e X.env) :: starEach es X.env := by rfl) (hpl : (backTo pos (starEach es X.env)).any (·.1) = false := by rfl) : PE X (.Call (.Name x p) (e :: es) [] pos) (tCallS2 sp dvs E t) := by
  obtain ⟨f, fd, ds, h1, h2, h3, h4, F⟩ := c.ex
  refine ⟨fun pins s σ H Q I h => ?_⟩
  refine wpAny_Call_Name_kw (ld_glob I hg h1 ?_ hdb)
  refine PySem.W.callWith_K (h₀ := X.base) I.ok.mod.kin h2 (thn (ha.run pos pins s σ H _ I h) fun us s1 ⟨vs, H1, I1, r, q⟩ => ⟨I1.kIn, ?_⟩) he hpl
  exact run_fnS2 F hr h3 h4 (hx σ) I1 r q
def tMethS (C : Addr) (m : Str) (sp : Sp) (dvs : List V) (E : L2.St → XK) (ta : TE) (t : TA) : TE := fun σ H Q => ta σ H fun x H1 => ∃ a dx fs, x = .ref a ∧ H1 a = some (.ins C dx fs) ∧ fs.lookup m = none ∧ t σ H1 fun vs H2 => sp (.ref a :: (vs ++ dvs)) H2 Q (E σ)
theorem pe_methDS {pl : Sem Bool} (c : Cls X.K C) (M : MethD X.prog X.w X.K X.mg X.base CX k C m ps dvs sp) (hr : Room k X.A) (hx : ∀ σ, PassesAt CX X σ (E σ)) (he : PE X o ta) (ha : PA X (e :: es) t)
    (hst : starEach (e :: es) X.env = (false, eval e X.env) :: starEach es X.env := by rfl) (hpl : (backTo pos (starEach es X.env)).any (·.1) = false := by rfl)
    (ht : eval (.Call (.Attribute o m apos) (e :: es) [] pos) X.env = (do
      let ov ← eval o X.env
      standAt apos.atName
      let (f, first) ← holding [ov] (getMethod ov m pl)
      callWith pos f first (backTo pos (starEach (e :: es) X.env)) (backToKw pos (keywordEach [] X.env))) := by rfl) : PE X (.Call (.Attribute o m apos) (e :: es) [] pos) (tMethS C m sp dvs E ta t) := by
  obtain ⟨f, fd, ds, h1, h2, h3, F⟩ := M.ex
  refine ⟨fun pins s σ H Q I h => ?_⟩
  refine PySem.W.methodCall_KW (pl := pl) (thn (he.run pins s σ H _ I h) fun u s1 ⟨x, H1, I1, rx, a, dx, fs, ex, ea, l, q⟩ => ?_) ht
  subst ex
  obtain rfl : u = Value.ref a := rx
  refine getmeth_ok I1 ea c h1 l ?_
  refine PySem.W.callWith_K (first := [.ref a]) (h₀ := X.base) I.ok.mod.kin h1.kp (thn (ha.run pos pins s1 σ H1 _ I1 q) fun us s2 ⟨vs, H2, I2, r, q2⟩ => ⟨I2.kIn, ?_⟩) hst hpl
  exact run_fnS2 (us := .ref a :: us) (vs := .ref a :: vs) F hr h2 h3 (hx σ) I2 (.cons rfl r) q2
def tBinS (C : Addr) (sp : Sp) (E : L2.St → XK) (ta tb : TE) : TE := fun σ H Q => ta σ H fun x H1 => tb σ H1 fun y H2 => rOwn C sp (E σ) x y H2 Q
theorem pe_binS {op : Operator} (hc : PySem.W.selfFirst X.K C = true) (M : MethD X.prog X.w X.K X.mg X.base CX k C (PySem.dunder op.info.2) ps [] sp) (hr : Room k X.A) (hx : ∀ σ, PassesAt CX X σ (E σ)) (ha : PE X a ta) (hb : PE X b tb) : PE X (.BinOp a op b pos) (tBinS C sp E ta tb) := by
  refine ⟨fun pins s σ H Q I h => ?_⟩
  refine wpAny_BinOp (thn (ha.run pins s σ H _ I h) fun v s1 ⟨x, H1, I1, rx, q1⟩ => thn (hb.run pins s1 σ H1 _ I1 q1) fun u s2 ⟨y, H2, I2, ry, q2⟩ => ?_)
  obtain ⟨a, dx, fs, b, dy, gs, rfl, rfl, ha, hb, q⟩ := q2
  cases rx
  cases ry
  obtain ⟨f, fd, ds, hm, hbd, hd, F⟩ := M.ex
  cases hd
  obtain ⟨mA, J, _⟩ := ins_get I2.hok ha
  obtain ⟨mB, J', _⟩ := ins_get I2.hok hb
  obtain ⟨od, J, _⟩ := J.look
  obtain ⟨od', J', _⟩ := J'.look
  obtain ⟨m, hF⟩ := I2.fr
  refine PySem.W.binop_K hF I2.ok.mod.kin J J'.type hc hm.at_ hm.fn ?_
  refine wpAny_mono (run_fnS2 (us := [.ref a, .ref b]) (vs := [.ref a, .ref b]) F hr hbd .nil (hx σ) I2 (.cons rfl (.cons rfl .nil)) q) (fun v s' z => ?_) fun _ _ z => z
  obtain ⟨v', H', I', r, _, q'⟩ := z
  exact relV_back r ⟨v', H', I', r, q'⟩
end
/-! ### BASE.__init__(self, ..) where BASE is an own class -/
section
variable {X : Cx} {o e : Expr} {es : List Expr} {ta : TA} {x : Str} {p p' p1 p2 pos : Pos} {D : Addr} {mc : Value}
structure InitBy (K : PySem.W.Frag) (D : Addr) : Prop where
  ex : ∃ mc, ClX.CRead K D mc ∧ PySem.W.findCls K (.ref D) mc "__init__" = some (.val (.builtin "ValueError.__init__"))
theorem pe_cinit {pl : Sem Bool} (hg : Gl X x) (hm : X.mg x = some (.ref D)) (B : InitBy X.K D) (ha : PA X (e :: es) ta) (hdb : (x == ("__debug__" : Str)) = false := by decide)
    (hc : eval (.Call (.Attribute (.Name x p1) "__init__" p2) (e :: es) [] pos) X.env = (do
      let ov ← eval (.Name x p1) X.env
      standAt p2.atName
      let (f, first) ← holding [ov] (getMethod ov "__init__" pl)
      callWith pos f first (backTo pos (starEach (e :: es) X.env)) (backToKw pos (keywordEach [] X.env))) := by rfl)
    (he : starEach (e :: es) X.env = (false, eval e X.env) :: starEach es X.env := by rfl) (hpl : (backTo pos (starEach es X.env)).any (·.1) = false := by rfl) :
    PE X (.Call (.Attribute (.Name x p1) "__init__" p2) (e :: es) [] pos) (tVeI X.K ta) := by
  obtain ⟨mc, r, k⟩ := B.ex
  refine ⟨fun pins s σ H Q I h => ?_⟩
  refine PySem.W.methodCall_KW (ld_glob I hg hm ?_ hdb) hc
  refine PySem.W.method_cls I.kIn r.ga (PySem.W.cls_value I.kIn r.rd k (by decide +kernel) ?_)
  show wpAny _ _ (callWith pos (Value.builtin "ValueError.__init__") [] (backTo pos (starEach (e :: es) X.env)) []) _ _ _
  refine PyProof.Rows.callWith_method1 (thn (ha.run pos pins _ σ H _ (I.tok _) h) fun us s1 ⟨vs, H1, I1, r1, a, C, ws, ev, hl, T, ea, q⟩ => ?_) he hpl
  subst ev
  cases r1 with
  | @cons _ u0 _ ur ra rw' =>
    obtain rfl : u0 = Value.ref a := ra
    have hlen : ur.length ≤ sizeLine := by
      rw [← Paired.length rw', sizeLine_eq]
      omega
    exact oinit_ok T I1 ea hlen fun s' J => ⟨.non, H1, J, rfl, q⟩
end
/-! ### an own error with one field -/
/-- what is known of the error class at C -/
structure ErrC (K : PySem.W.Frag) (C : Addr) : Prop where
  o : OexC K C
  xf : XfC K C
  ex : ExcC K C
/-- the error class x, its __init__ -/
structure ErrAt (K : PySem.W.Frag) (mg : Str → Option Value) (x : Str) (C : Addr) (qual : Str) (st : Stmt) (ps : List Str) : Prop where
  g : mg x = some (.ref C)
  c : ErrC K C
  ex : ∃ f fd, PySem.W.findIn K (.ref C) "__init__" = some (some (.ref f)) ∧ PySem.W.typeIn K (.ref f) = some (.type "function") ∧ FunD K "__init__" qual (defArgs st) (defBody st) (defScope st) [] [] f fd ∧ Binds K fd ps []
/-- .. called, it keeps sp -/
structure ErrD (P : Program) (w : World) (K : PySem.W.Frag) (mg : Str → Option Value) (base : Heap) (k : Nat) (x : Str) (C : Addr) (ps : List Str) (sp : Sp) : Prop where
  g : mg x = some (.ref C)
  c : ErrC K C
  ex : ∃ f fd, PySem.W.findIn K (.ref C) "__init__" = some (some (.ref f)) ∧ PySem.W.typeIn K (.ref f) = some (.type "function") ∧ Binds K fd ps [] ∧ FnOk P w K mg base CX0 k f fd ps sp
/-- __init__ of an error with the field f -/
def spErr (K : PySem.W.Frag) (C : Addr) (f : Str) : Sp := fun vs H Q _ => ∃ a v, vs = [.ref a, v] ∧ H a = some (exo a C none) ∧ ∀ d, H d = none → d ≠ a → Q .non (upd (upd H d (exd d [(f, v)])) a (exo a C (some d)))
section
variable {P : Program} {w : World} {K : PySem.W.Frag} {mg : Str → Option Value} {base : Heap} {C : Addr} {x : Str}
theorem ErrAt.ok {qual : Str} {st : Stmt} {N ps : List Str} {k : Nat} {sp : Sp} (D : ErrAt K mg x C qual st ps) (S : FnScope N ps (defScope st)) (len : ∀ vs H Q E, sp vs H Q E → vs.length = ps.length)
    (hbody : ∀ (f : Addr) (cdv : Value) (A : Around) (outer : List Env) (s : Shared) (H : Hp) (vs : List V) (Q : VK) (E : XK), Room k (A.deeper (envOfC qual (defScope st) s.heap.objs.size f cdv)) → sp vs H Q E →
      ∃ t, PSs (cxOf CX0 P w K mg base N qual (defScope st) f cdv A outer s H E).nox (defBody st) t ∧ t { nx := fun _ H' => Q .non H', rt := Q } (start N vs) H) : ErrD P w K mg base (k + 1) x C ps sp := by
  obtain ⟨f, fd, h1, h2, F, b⟩ := D.ex
  exact ⟨D.g, D.c, f, fd, h1, h2, b, okF F S len fun cdv A outer s H vs Q E hr h => hbody f cdv A outer s H vs Q E hr h⟩
end
/-- x(e, ..) as what is raised -/
def tRaiseE (C : Addr) (f : Str) (ta : TE) : L2.St → Hp → XK → Prop := fun σ H Q => ta σ H fun v H1 => ∀ d H', L2.Same H1 H' → H1 d = none → H' d = some (.xd [(f, v)]) → Q (.ref C) (some d) H'
section
variable {X : Cx} {e : Expr} {te : TE} {p pos : Pos} {x f : Str} {C : Addr} {k : Nat} {ps : List Str}
theorem pmk_err (D : ErrD X.prog X.w X.K X.mg X.base k x C ps (spErr X.K C f)) (hr : Room (k + 1) X.A) (hg : Gl X x) (he : PE X e te) (hdb : (x == ("__debug__" : Str)) = false := by decide)
    (hst : starEach [e] X.env = (false, eval e X.env) :: starEach [] X.env := by rfl) (hpl : (backTo pos (starEach [] X.env)).any (·.1) = false := by rfl) : PMk X (.Call (.Name x p) [e] [] pos) (tRaiseE C f te) := by
  obtain ⟨fI, fd, h1, h2, hb, F⟩ := D.ex
  intro pins s σ H Q I h
  refine pmk_oex (X := X) (C := C) (CX := CX0) (sp := spErr X.K C f) D.c.o h1 h2 F hr hb .nil pass0 hg D.g (pa_cons (pe_via he) pa_nil hst) hdb hst hpl pins s σ H Q I ?_
  refine ⟨_, h, fun v H1 r => ⟨by show 1 ≤ 1000; decide, fun a na => ⟨a, v, rfl, upd_same, fun d nd da => ⟨rfl, d, [(f, v)], upd_same, ?_, ?_, r d _ ?_ ?_ upd_same⟩⟩⟩⟩
  · rw [upd_ne da, upd_same]
  · rw [upd_ne da] at nd
    exact nd
  · intro b o e
    have nb : b ≠ a := ne_of_none e na
    have nd2 : b ≠ d := by
      rw [upd_ne da] at nd
      exact ne_of_none e nd
    rw [upd_ne nd2, del_ne nb, upd_ne nb, upd_ne nd2, upd_ne nb]
    exact e
  · rw [upd_ne da] at nd
    exact nd
end
/-! ### isinstance of a caught error with or without fields -/
def rIsX (K : PySem.W.Frag) (cls : Value) (d : Option Addr) (a : Addr) : List V → Hp → VK → Prop := fun xs H Q => ∃ (C : Addr) (c : V) (cv : Value) (b : Bool), cls = .ref C ∧ ExcC K C ∧ xs = [.ref a, c] ∧ (∀ u, RelV c u → u = cv) ∧ PySem.W.kitOne K (.ref C) cv = some b ∧ (∀ dd, d = some dd → ∃ fs, H dd = some (.xd fs)) ∧ Q (.bl b) H
theorem call_isX {X : Cx} {a : Addr} {oe : Obj} {cls : Value} {d : Option Addr} {pn : List (Addr × Obj)} (hz : Zc cls d oe) (hf : ∃ vs, oe.data = .fields vs) : CallR (X.suite a ((a, oe) :: pn)) (.builtin "isinstance") (rIsX X.K cls d a) := by
  intro pins s σ H xs us Q I r h
  obtain ⟨D, c, cv, b, rfl, C, rfl, hcv, e, hd, q⟩ := h
  cases r with
  | cons rx rr =>
    cases rr with
    | cons rt rr =>
      cases rr
      cases rx
      have ec := hcv _ rt
      subst ec
      obtain ⟨hget, _⟩ := I.pin (a, oe) (List.mem_append.mpr (.inl List.mem_cons_self))
      obtain ⟨vs, hv⟩ := hf
      obtain ⟨od, J⟩ : ∃ od, PySem.W.InstAt s.heap a oe D od := by
        cases d with
        | none =>
          refine ⟨none, hget, hz.1, by unfold PySem.W.notCls; rw [hv] <;> rfl, ?_⟩
          rw [hz.2]
          trivial
        | some dd =>
          obtain ⟨fs, ed⟩ := hd dd rfl
          have hx : ObjOk X.prog X.w H s.heap dd (.xd fs) := I.hok dd _ ed
          obtain ⟨mA, hns, hr⟩ := hx
          obtain ⟨od, ho, hl⟩ := lookIn_ns hns
          exact ⟨some od, hget, hz.1, by unfold PySem.W.notCls; rw [hv] <;> rfl, by rw [hz.2]; exact ho⟩
      have hcl : (PySem.W.clsIn X.K D).isSome = true := by
        obtain ⟨cd, h1, _⟩ := PySem.W.any_some C.hd
        rw [h1] <;> rfl
      exact PySem.W.kia_one (PySem.W.kitx_exc hcl C.hg C.hk C.hs C.ha C.hn C.ht C.hm) I.kIn J e (fun z => nomatch z) fun tk => ⟨.bl b, H, I.kept (t' := tk) fun _ _ z => z, rfl, q⟩
end JW
/-! ### classmethods by the class's name; a class named in an except clause -/
namespace JW
open PySem PySem.Spec PyProof.Rows L2
structure BaseAt (mg : Str → Option Value) (x : Str) (C : Addr) : Prop where
  g : mg x = some (.ref C)
structure CmAt (K : PySem.W.Frag) (C : Addr) (m qual : Str) (st : Stmt) (ps : List Str) : Prop where
  ex : ∃ mc p f fd, ClX.CRead K C mc ∧ ClX.CMet K C mc m p f ∧ FunD K m qual (defArgs st) (defBody st) (defScope st) [] [] f fd ∧ Binds K fd ps []
structure CmD (P : Program) (w : World) (K : PySem.W.Frag) (mg : Str → Option Value) (base : Heap) (CX : CXT) (k : Nat) (C : Addr) (m : Str) (ps : List Str) (sp : Sp) : Prop where
  ex : ∃ mc p f fd, ClX.CRead K C mc ∧ ClX.CMet K C mc m p f ∧ Binds K fd ps [] ∧ FnOk P w K mg base CX k f fd ps sp
section
variable {P : Program} {w : World} {K : PySem.W.Frag} {mg : Str → Option Value} {base : Heap} {C : Addr}
theorem CmAt.okX {m qual : Str} {st : Stmt} {N ps : List Str} {k : Nat} {sp : Sp} (D : CmAt K C m qual st ps) (S : FnScope N ps (defScope st)) (len : ∀ vs H Q E, sp vs H Q E → vs.length = ps.length)
    (hbody : ∀ (f : Addr) (cdv : Value) (A : Around) (outer : List Env) (s : Shared) (H : Hp) (vs : List V) (Q : VK) (E : XK), Room k (A.deeper (envOfC qual (defScope st) s.heap.objs.size f cdv)) → sp vs H Q E →
      ∃ t, PSs (cxOf (L2.CX P w) P w K mg base N qual (defScope st) f cdv A outer s H E) (defBody st) t ∧ t { nx := fun _ H' => Q .non H', rt := Q } (start N vs) H) : CmD P w K mg base (L2.CX P w) (k + 1) C m ps sp := by
  obtain ⟨mc, p, f, fd, h1, h2, F, b⟩ := D.ex
  exact ⟨mc, p, f, fd, h1, h2, b, F.ok S len fun cdv A outer s H vs Q E hr h => hbody f cdv A outer s H vs Q E hr h⟩
theorem CmAt.ok {m qual : Str} {st : Stmt} {N ps : List Str} {k : Nat} {sp : Sp} {CX : CXT} (D : CmAt K C m qual st ps) (S : FnScope N ps (defScope st)) (len : ∀ vs H Q E, sp vs H Q E → vs.length = ps.length)
    (hbody : ∀ (f : Addr) (cdv : Value) (A : Around) (outer : List Env) (s : Shared) (H : Hp) (vs : List V) (Q : VK) (E : XK), Room k (A.deeper (envOfC qual (defScope st) s.heap.objs.size f cdv)) → sp vs H Q E →
      ∃ t, PSs (cxOf CX P w K mg base N qual (defScope st) f cdv A outer s H E).nox (defBody st) t ∧ t { nx := fun _ H' => Q .non H', rt := Q } (start N vs) H) : CmD P w K mg base CX (k + 1) C m ps sp := by
  obtain ⟨mc, p, f, fd, h1, h2, F, b⟩ := D.ex
  exact ⟨mc, p, f, fd, h1, h2, b, okF F S len fun cdv A outer s H vs Q E hr h => hbody f cdv A outer s H vs Q E hr h⟩
end
section
variable {X : Cx} {CX : CXT} {k : Nat} {C : Addr} {ps : List Str} {sp : Sp} {E : L2.St → XK} {x m : Str} {p1 apos pos : Pos} {e : Expr} {es : List Expr} {t : TA}
def tCmS (C : Addr) (sp : Sp) (E : L2.St → XK) (t : TA) : TE := fun σ H Q => t σ H fun vs H2 => sp (.ref C :: vs) H2 Q (E σ)
theorem pe_cmethS {pl : Sem Bool} (hg : Gl X x) (hm : X.mg x = some (.ref C)) (M : CmD X.prog X.w X.K X.mg X.base CX k C m ps sp) (hr : Room k X.A) (hx : ∀ σ, PassesAt CX X σ (E σ)) (ha : PA X (e :: es) t) (hdb : (x == ("__debug__" : Str)) = false := by decide)
    (hst : starEach (e :: es) X.env = (false, eval e X.env) :: starEach es X.env := by rfl) (hpl : (backTo pos (starEach es X.env)).any (·.1) = false := by rfl)
    (ht : eval (.Call (.Attribute (.Name x p1) m apos) (e :: es) [] pos) X.env = (do
      let ov ← eval (.Name x p1) X.env
      standAt apos.atName
      let (f, first) ← holding [ov] (getMethod ov m pl)
      callWith pos f first (backTo pos (starEach (e :: es) X.env)) (backToKw pos (keywordEach [] X.env))) := by rfl) : PE X (.Call (.Attribute (.Name x p1) m apos) (e :: es) [] pos) (tCmS C sp E t) := by
  obtain ⟨mc, p, f, fd, r, c, hb, F⟩ := M.ex
  refine ⟨fun pins s σ H Q I h => ?_⟩
  refine PySem.W.methodCall_KW (pl := pl) (ld_glob I hg hm ?_ hdb) ht
  refine ClX.getmethcm_ok I r c fun s2 I2 => ?_
  refine ClX.callwith_cm I2 (ClX.base_none I (Nat.le_refl _)) c.fi (thn (ha.run pos _ s2 σ H _ I2 h) fun us s3 ⟨vs, H2, I3, rv, q2⟩ => ⟨⟨ClX.pin_at I3, I3.kIn⟩, ?_⟩) hst hpl
  have r2 : Vals (.ref C :: vs) (.ref C :: us) := .cons rfl rv
  have hl : (Value.ref C :: us).length = ps.length := by rw [← r2.length]; exact F.len _ _ _ _ q2
  have b := hb s3 (.ref C :: us) I3.kIn (by rw [List.append_nil]; exact hl)
  rw [List.append_nil] at b
  have z : wpAny (model X.prog X.w) X.A (call (.ref s.heap.objs.size) us) (EP X ((s.heap.objs.size, PySem.W.methodObj (.ref f) (.ref C)) :: pins) σ Q) X.xe s3 :=
    wpAny_call (PySem.W.method_call (ClX.pin_at I3) (codeAny_mono (F.run X.A X.stack s3 H2 ⟨.ref C :: us, []⟩ (.ref C :: us) (.ref C :: vs) Q (E σ) hr I3.env0 b r2 q2) fun r s' hq => (by
      cases r with
      | error e => exact hx σ _ H2 s3 e s' I3 hq
      | ok fl =>
        cases fl with
        | ret u => exact I3.after hq
        | next => exact False.elim hq
        | brk => exact False.elim hq
        | cont => exact False.elim hq)))
  exact thn z fun _ _ y => ClX.unpinE y
theorem seqTN {K : PySem.W.Frag} {H H' : Hp} {a : Addr} {xs : List V} (h : SqT K H a xs) (e : LamX.ExtN H H') : SqT K H' a xs := by
  rcases h with (h | ⟨o, h⟩) | h
  · exact .inl (.inl (e _ _ h fun ps z => by cases z))
  · exact .inl (.inr ⟨o, e _ _ h fun ps z => by cases z⟩)
  · exact .inr h
/-- .. by a wish that does not ask for the slots -/
theorem passN {E : XK} (h : Passes CX X E) : ∀ σ : L2.St, PassesAt CX X σ ((fun _ => E) σ) := fun σ pins H s e s' I c => h pins σ H s e s' I c
end
end JW
/-! JWProd: numbers of products, pieces put in, chains and sprays; plain Lean. -/
namespace JW
theorem lngL_closed : ∀ {l : List T}, jtsL l = 0 → lngL l = 0
  | [], _ => rfl
  | t :: r, h => by
    have h2 : t.jts + jtsL r = 0 := h
    show ite _ _ _ = 0
    rw [if_pos (by omega)]
    exact lngL_closed (by omega)
theorem grfL_jts (p : T) (l : List T) : jtsL (l.map (T.grf p)) = jtsL l * p.jts := by
  have h := grf_jts p (.bas l)
  rw [grf_bas] at h
  have h2 : jtsL (sortT (l.map (T.grf p))) = jtsL l * p.jts := h
  rw [jtsL_perm (sortT_perm _)] at h2
  exact h2
theorem grf_dep (p : T) : ∀ t : T, (T.grf p t).dep = if t.jts = 0 then t.dep else max t.dep (t.lng + p.dep) := by
  refine T.ind' ?_ fun l ih => ?_
  · show p.dep = ite ((1 : Nat) = 0) 0 (max 0 (0 + p.dep))
    rw [if_neg (by decide)]
    omega
  rw [grf_bas]
  show 1 + depL (sortT (l.map (T.grf p))) = ite (jtsL l = 0) (1 + depL l) (max (1 + depL l) (1 + lngL l + p.dep))
  rw [depL_perm (sortT_perm _)]
  have go : ∀ l : List T, (∀ t ∈ l, (T.grf p t).dep = if t.jts = 0 then t.dep else max t.dep (t.lng + p.dep)) → depL (l.map (T.grf p)) = if jtsL l = 0 then depL l else max (depL l) (lngL l + p.dep) := by
    intro l
    induction l with
    | nil => intro _; rfl
    | cons t r ihr =>
      intro h
      have h1 := h t List.mem_cons_self
      have h2 := ihr fun u hu => h u (List.mem_cons_of_mem _ hu)
      show max (T.grf p t).dep (depL (r.map (T.grf p))) = ite (t.jts + jtsL r = 0) (max t.dep (depL r)) (max (max t.dep (depL r)) ((if t.jts = 0 then lngL r else max t.lng (lngL r)) + p.dep))
      rw [h1, h2]
      by_cases ht : t.jts = 0 <;> by_cases hr : jtsL r = 0
      · simp [ht, hr]
      · simp [ht, hr] <;> omega
      · rw [lngL_closed hr]; simp [ht, hr] <;> omega
      · simp [ht, hr] <;> omega
  rw [go l ih]
  by_cases h : jtsL l = 0
  · simp [h]
  · simp [h]; omega
theorem mul_zero_iff {a b : Nat} (hb : b ≠ 0) : a * b = 0 ↔ a = 0 := ⟨fun h => (Nat.mul_eq_zero.mp h).resolve_right hb, fun h => by rw [h, Nat.zero_mul]⟩
theorem grf_lng {p : T} (hp : p.jts ≠ 0) : ∀ t : T, t.jts ≠ 0 → (T.grf p t).lng = t.lng + p.lng := by
  refine T.ind' (fun _ => (Nat.zero_add _).symm) fun l ih h => ?_
  rw [grf_bas]
  show 1 + lngL (sortT (l.map (T.grf p))) = 1 + lngL l + p.lng
  rw [lngL_perm (sortT_perm _)]
  have go : ∀ l : List T, (∀ t ∈ l, t.jts ≠ 0 → (T.grf p t).lng = t.lng + p.lng) → jtsL l ≠ 0 → lngL (l.map (T.grf p)) = lngL l + p.lng := by
    intro l
    induction l with
    | nil => intro _ h; exact absurd rfl h
    | cons t r ihr =>
      intro h hl
      have hl2 : t.jts + jtsL r ≠ 0 := hl
      have h1 := h t List.mem_cons_self
      have h2 := ihr fun u hu => h u (List.mem_cons_of_mem _ hu)
      have e1 : (T.grf p t).jts = 0 ↔ t.jts = 0 := by rw [grf_jts]; exact mul_zero_iff hp
      show ite ((T.grf p t).jts = 0) _ (max (T.grf p t).lng (lngL (r.map (T.grf p)))) = ite (t.jts = 0) (lngL r) (max t.lng (lngL r)) + p.lng
      by_cases ht : t.jts = 0
      · rw [if_pos (e1.mpr ht), if_pos ht]
        exact h2 (by omega)
      · rw [if_neg (fun z => ht (e1.mp z)), if_neg ht, h1 ht]
        by_cases hr : jtsL r = 0
        · rw [lngL_closed hr, lngL_closed (by rw [grfL_jts, hr, Nat.zero_mul])]
          omega
        · rw [h2 hr]
          omega
  rw [go l ih h]
  omega
theorem grf_sht {p : T} (hp : p.jts ≠ 0) : ∀ t : T, t.jts ≠ 0 → (T.grf p t).sht = t.sht + p.sht := by
  refine T.ind' (fun _ => (Nat.zero_add _).symm) fun l ih h => ?_
  rw [grf_bas]
  show 1 + shtL (sortT (l.map (T.grf p))) = 1 + shtL l + p.sht
  rw [shtL_perm (sortT_perm _)]
  have go : ∀ l : List T, (∀ t ∈ l, t.jts ≠ 0 → (T.grf p t).sht = t.sht + p.sht) → jtsL l ≠ 0 → shtL (l.map (T.grf p)) = shtL l + p.sht := by
    intro l
    induction l with
    | nil => intro _ h; exact absurd rfl h
    | cons t r ihr =>
      intro h hl
      have hl2 : t.jts + jtsL r ≠ 0 := hl
      have h1 := h t List.mem_cons_self
      have h2 := ihr fun u hu => h u (List.mem_cons_of_mem _ hu)
      have e1 : (T.grf p t).jts = 0 ↔ t.jts = 0 := by rw [grf_jts]; exact mul_zero_iff hp
      have e2 : jtsL (r.map (T.grf p)) = 0 ↔ jtsL r = 0 := by rw [grfL_jts]; exact mul_zero_iff hp
      show ite ((T.grf p t).jts = 0) _ (ite (jtsL (r.map (T.grf p)) = 0) (T.grf p t).sht (min (T.grf p t).sht (shtL (r.map (T.grf p))))) = ite (t.jts = 0) (shtL r) (ite (jtsL r = 0) t.sht (min t.sht (shtL r))) + p.sht
      by_cases ht : t.jts = 0
      · rw [if_pos (e1.mpr ht), if_pos ht]
        exact h2 (by omega)
      · rw [if_neg (fun z => ht (e1.mp z)), if_neg ht, h1 ht]
        by_cases hr : jtsL r = 0
        · rw [if_pos (e2.mpr hr), if_pos hr]
        · rw [if_neg (fun z => hr (e2.mp z)), if_neg hr, h2 hr]
          omega
  rw [go l ih h]
  omega
theorem grf_size_le (p t : T) : t.size ≤ (T.grf p t).size := by
  have h := grf_size p t
  have h2 := size_pos p
  have h3 : t.jts * 1 ≤ t.jts * p.size := Nat.mul_le_mul_left _ h2
  omega
theorem grf_dep_le (p t : T) : t.dep ≤ (T.grf p t).dep := by
  rw [grf_dep]
  split <;> omega
/-! ### products of several -/
def prodT : List T → T := List.foldl (fun f t => T.grf t f) .jet
theorem prod_snoc (l : List T) (t : T) : prodT (l ++ [t]) = T.grf t (prodT l) := by
  unfold prodT
  rw [List.foldl_append] <;> rfl
theorem fold_le : ∀ (r : List T) (f : T), f.size ≤ (r.foldl (fun f t => T.grf t f) f).size ∧ f.dep ≤ (r.foldl (fun f t => T.grf t f) f).dep
  | [], f => ⟨Nat.le_refl _, Nat.le_refl _⟩
  | t :: r, f => by
    obtain ⟨h1, h2⟩ := fold_le r (T.grf t f)
    exact ⟨Nat.le_trans (grf_size_le t f) h1, Nat.le_trans (grf_dep_le t f) h2⟩
theorem prod_take_le (l : List T) (i : Nat) : (prodT (l.take i)).size ≤ (prodT l).size ∧ (prodT (l.take i)).dep ≤ (prodT l).dep := by
  have e : prodT l = (l.drop i).foldl (fun f t => T.grf t f) (prodT (l.take i)) := by
    unfold prodT
    rw [← List.foldl_append, List.take_append_drop]
  rw [e]
  exact fold_le _ _
theorem prod_can {l : List T} (h : ∀ t ∈ l, Can t) : Can (prodT l) := by
  have go : ∀ (l : List T) (f : T), Can f → (∀ t ∈ l, Can t) → Can (l.foldl (fun f t => T.grf t f) f) := by
    intro l
    induction l with
    | nil => intro f hf _; exact hf
    | cons t r ih => intro f hf hl; exact ih _ (grf_can (hl t List.mem_cons_self) f) fun u hu => hl u (List.mem_cons_of_mem _ hu)
  exact go l .jet trivial h
theorem prod_two (a b : T) : prodT [a, b] = T.grf b a := rfl
/-! ### a piece put in -/
def T.kd : T → List T
  | .jet => []
  | .bas l => l
def subT : List Nat → T → Option T
  | [], t => some t
  | i :: r, t => (t.kd[i]?).bind (subT r)
def repT (p : T) : List Nat → T → T
  | [], _ => p
  | i :: r, t => .bas (sortT (t.kd.set i (repT p r (t.kd.getD i .jet))))
theorem sizeL_set : ∀ {l : List T} {i : Nat} {t : T} (x : T), l[i]? = some t → sizeL (l.set i x) + t.size = sizeL l + x.size
  | u :: r, 0, t, x, h => by
    have e : u = t := by simpa using h
    show x.size + sizeL r + t.size = u.size + sizeL r + x.size
    rw [e]; omega
  | u :: r, i + 1, t, x, h => by
    have ih := sizeL_set (l := r) (i := i) x (by simpa using h)
    show u.size + sizeL (r.set i x) + t.size = u.size + sizeL r + x.size
    omega
theorem kd_get {t u : T} {i : Nat} (h : t.kd[i]? = some u) : t.kd.getD i .jet = u := by
  rw [List.getD_eq_getElem?_getD, h] <;> rfl
theorem kd_size {t u : T} {i : Nat} (h : t.kd[i]? = some u) : t = .bas t.kd := by
  cases t with
  | jet => cases h
  | bas l => rfl
theorem rep_size (p : T) : ∀ (path : List Nat) (t u : T), subT path t = some u → (repT p path t).size + u.size = t.size + p.size
  | [], t, u, h => by
    have e : t = u := Option.some.inj h
    show p.size + u.size = t.size + p.size
    rw [e]; omega
  | i :: r, t, u, h => by
    have h2 : (t.kd[i]?).bind (subT r) = some u := h
    obtain ⟨k, e1, e2⟩ := Option.bind_eq_some_iff.mp h2
    have ih := rep_size p r k u e2
    show 1 + sizeL (sortT (t.kd.set i (repT p r (t.kd.getD i .jet)))) + u.size = t.size + p.size
    rw [sizeL_perm (sortT_perm _), kd_get e1]
    have h3 := sizeL_set (repT p r k) e1
    have h4 : t.size = 1 + sizeL t.kd := by rw [kd_size e1]; rfl
    omega
theorem rep_can {p : T} (hp : Can p) : ∀ (path : List Nat) (t : T), Can t → Can (repT p path t)
  | [], t, _ => hp
  | i :: r, t, h => by
    have hk : CanL t.kd := by
      cases t with
      | jet => exact trivial
      | bas l => exact h.2
    have hg : Can (t.kd.getD i .jet) := by
      rw [List.getD_eq_getElem?_getD]
      cases e : t.kd[i]? with
      | none => exact trivial
      | some u => exact canL_iff.mp hk u (List.mem_of_getElem? e)
    refine can_bas (canL_iff.mpr fun u hu => ?_)
    rcases List.mem_or_eq_of_mem_set hu with e | e
    · exact canL_iff.mp hk u e
    · rw [e]
      exact rep_can hp r _ hg
theorem sub_dep : ∀ (path : List Nat) (t u : T), subT path t = some u → path.length ≤ t.dep
  | [], t, u, _ => Nat.zero_le _
  | i :: r, t, u, h => by
    have h2 : (t.kd[i]?).bind (subT r) = some u := h
    obtain ⟨k, e1, e2⟩ := Option.bind_eq_some_iff.mp h2
    have ih := sub_dep r k u e2
    have h3 : k.dep < t.dep := by
      rw [kd_size e1]
      exact dep_lt (List.mem_of_getElem? e1)
    show r.length + 1 ≤ t.dep
    omega
/-! ### sprays and chains -/
def spT (n : Nat) : T := .bas (List.replicate n .jet)
def chT (p : T) : Nat → T
  | 0 => p
  | n + 1 => .bas [chT p n]
theorem ch_size (p : T) : ∀ n, (chT p n).size = n + p.size
  | 0 => (Nat.zero_add _).symm
  | n + 1 => by
    show 1 + ((chT p n).size + 0) = n + 1 + p.size
    rw [ch_size p n]; omega
theorem ch_dep (p : T) : ∀ n, (chT p n).dep = n + p.dep
  | 0 => (Nat.zero_add _).symm
  | n + 1 => by
    show 1 + max (chT p n).dep 0 = n + 1 + p.dep
    rw [ch_dep p n]; omega
theorem sort_one (t : T) : sortT [t] = [t] := sortT_of (List.pairwise_singleton _ _)
theorem ch_grf (p q : T) : ∀ n, T.grf p (chT q n) = chT (T.grf p q) n
  | 0 => rfl
  | n + 1 => by
    show T.grf p (.bas [chT q n]) = .bas [chT (T.grf p q) n]
    rw [grf_bas, List.map_singleton, ch_grf p q n, sort_one]
theorem ch_can {p : T} (hp : Can p) : ∀ n, Can (chT p n)
  | 0 => hp
  | n + 1 => ⟨List.pairwise_singleton _ _, ch_can hp n, trivial⟩
theorem ch_jts (p : T) : ∀ n, (chT p n).jts = p.jts
  | 0 => rfl
  | n + 1 => by
    show (chT p n).jts + 0 = p.jts
    rw [ch_jts p n]; omega
theorem ch_sub (q : T) : ∀ (k n : Nat), k ≤ n → subT (List.replicate k 0) (chT q n) = some (chT q (n - k))
  | 0, n, _ => rfl
  | k + 1, n + 1, h => by
    show (([chT q n] : List T)[0]?).bind (subT (List.replicate k 0)) = _
    rw [show (([chT q n] : List T)[0]?) = some (chT q n) from rfl, Option.bind_some, ch_sub q k n (by omega), Nat.add_sub_add_right]
theorem ch_rep (p q : T) : ∀ (k n : Nat), k ≤ n → repT p (List.replicate k 0) (chT q n) = chT p k
  | 0, n, _ => rfl
  | k + 1, n + 1, h => by
    show T.bas (sortT ([chT q n].set 0 (repT p (List.replicate k 0) (chT q n)))) = .bas [chT p k]
    rw [ch_rep p q k n (by omega)]
    show T.bas (sortT [chT p k]) = _
    rw [sort_one]
theorem ch_codes (p : T) : ∀ n, (chT p n).codes = List.replicate n 40 ++ p.codes ++ List.replicate n 41
  | 0 => by
    show p.codes = [] ++ p.codes ++ []
    simp
  | n + 1 => by
    show 40 :: ((chT p n).codes ++ [] ++ [41]) = _
    rw [ch_codes p n, List.append_nil, List.replicate_succ, List.replicate_succ']
    simp
theorem srt_rep (n : Nat) (t : T) : Srt (List.replicate n t) := by
  induction n with
  | zero => exact List.Pairwise.nil
  | succ n ih =>
    refine List.pairwise_cons.mpr ⟨fun u hu => ?_, ih⟩
    rw [List.eq_of_mem_replicate hu]
    rcases Bool.or_eq_true_iff.mp (tle_total t t) with h | h <;> exact h
theorem sort_rep (n : Nat) (t : T) : sortT (List.replicate n t) = List.replicate n t := sortT_of (srt_rep n t)
theorem can_rep {t : T} (h : Can t) (n : Nat) : Can (.bas (List.replicate n t)) := ⟨srt_rep n t, canL_iff.mpr fun u hu => by rw [List.eq_of_mem_replicate hu]; exact h⟩
theorem sp_can (n : Nat) : Can (spT n) := can_rep (t := .jet) trivial n
theorem sizeL_rep (n : Nat) (t : T) : sizeL (List.replicate n t) = n * t.size := by
  rw [sizeL_sum, List.map_replicate, List.sum_replicate_nat]
theorem jtsL_rep (n : Nat) (t : T) : jtsL (List.replicate n t) = n * t.jts := by
  rw [jtsL_sum, List.map_replicate, List.sum_replicate_nat]
theorem depL_rep : ∀ (n : Nat) (t : T), 0 < n → depL (List.replicate n t) = t.dep
  | n + 1, t, _ => by
    rw [List.replicate_succ]
    show max t.dep (depL (List.replicate n t)) = t.dep
    cases n with
    | zero => exact Nat.max_eq_left (Nat.zero_le _)
    | succ n => rw [depL_rep (n + 1) t (Nat.succ_pos _)]; omega
theorem lngL_rep : ∀ (n : Nat) (t : T), 0 < n → t.jts ≠ 0 → lngL (List.replicate n t) = t.lng
  | n + 1, t, _, h => by
    rw [List.replicate_succ]
    show ite (t.jts = 0) _ (max t.lng (lngL (List.replicate n t))) = t.lng
    rw [if_neg h]
    cases n with
    | zero => exact Nat.max_eq_left (Nat.zero_le _)
    | succ n => rw [lngL_rep (n + 1) t (Nat.succ_pos _) h]; omega
theorem depL_set_rep : ∀ (n i : Nat) (t x : T), i < n → 2 ≤ n → depL ((List.replicate n t).set i x) = max x.dep t.dep
  | n + 1, 0, t, x, _, h => by
    rw [List.replicate_succ]
    show max x.dep (depL (List.replicate n t)) = _
    rw [depL_rep n t (by omega)]
  | n + 1, i + 1, t, x, hi, h => by
    rw [List.replicate_succ]
    show max t.dep (depL ((List.replicate n t).set i x)) = _
    by_cases hn : 2 ≤ n
    · rw [depL_set_rep n i t x (by omega) hn]; omega
    · have e : n = 1 := by omega
      subst e
      have e2 : i = 0 := by omega
      subst e2
      show max t.dep (max x.dep 0) = _
      omega
/-- a basin of n sprays of m -/
def broadT (n m : Nat) : T := .bas (List.replicate n (spT m))
theorem sp_grf (n m : Nat) : T.grf (spT m) (spT n) = broadT n m := by
  unfold spT broadT
  rw [grf_bas, List.map_replicate, show T.grf (.bas (List.replicate m .jet)) T.jet = T.bas (List.replicate m .jet) from rfl, sort_rep]
  rfl
end JW
/-! ### a sign repeated -/
namespace JW
open PySem PySem.Spec PyProof.Rows L2
theorem rep_cps (c : Nat) : ∀ (n : Nat) (a : Array Nat), (List.replicate n #[c]).foldl (· ++ ·) a = a ++ (List.replicate n c).toArray
  | 0, a => by simp
  | n + 1, a => by
    rw [List.replicate_succ, List.foldl_cons, rep_cps c n, List.replicate_succ]
    apply Array.ext'
    simp
def rRepS : R2 := fun x y H Q => ∃ (c n : Nat), x = .str (SX.S [c]) ∧ y = .int n ∧ 1 ≤ n ∧ n ≤ 100000 ∧ Q (.str (SX.S (List.replicate n c))) H
theorem op_rep_str {X : Cx} : OpR X (binaryOp .Mult) rRepS := by
  intro pins s σ H x y v u Q I rx ry h
  obtain ⟨c, n, rfl, rfl, h1, h2, q⟩ := h
  obtain ⟨t, rfl⟩ := rx
  obtain ⟨t2, rfl⟩ := ry
  have hl1 : (SX.S [c]).length = 1 := rfl
  refine PySem.P.mul_str (by rw [decide_eq_false (by omega), decide_eq_false (by omega)]; rfl) (fun _ _ => ?_) (fun _ _ => ?_) ?_
  · rw [hl1]
    have h3 : (1 : Int) ≤ (2 ^ 63 - 1) / (n : Int) := by
      rw [Int.le_ediv_iff_mul_le (by omega)]
      omega
    show ¬ (((1 : Nat) : Int) > _)
    omega
  · rw [hl1]
    exact decide_eq_false (show ¬ (1 * ((n : Nat) : Int).toNat > sizeLine) by rw [sizeLine_eq]; omega)
  · rw [if_neg (by omega)]
    by_cases e : n = 1
    · subst e
      rw [if_pos (show (((1 : Nat) : Int) == 1 || (SX.S [c]).length == 0) = true from rfl)]
      exact ⟨.str (SX.S [c]), H, I, ⟨t, rfl⟩, q⟩
    · rw [if_neg (by rw [hl1]; simp; omega)]
      have e2 : (⟨(List.replicate ((n : Nat) : Int).toNat (SX.S [c]).cps).foldl (· ++ ·) #[]⟩ : Str) = SX.S (List.replicate n c) := by
        show (⟨(List.replicate n #[c]).foldl (· ++ ·) #[]⟩ : Str) = ⟨(List.replicate n c).toArray⟩
        rw [rep_cps]
        simp
      rw [e2]
      exact ⟨by rw [SX.S_len, List.length_replicate, sizeLine_eq]; omega, .str (SX.S (List.replicate n c)), H, I.tok _, ⟨_, rfl⟩, q⟩
end JW
/-! JWFx: all but the feed and the tables stay. -/
namespace JW
open PySem PySem.Spec PyProof.Rows L2 LamX
def ExtF (d : Addr) (H H' : Hp) : Prop := ∀ b o, b ≠ d → H b = some o → (∀ ps, o ≠ .tbl ps) → H' b = some o
section
variable {d : Addr} {H H1 H' : Hp} {C : Addr}
theorem ExtF.refl (d : Addr) (H : Hp) : ExtF d H H := fun _ _ _ h _ => h
theorem ExtF.trans (a : ExtF d H H1) (b : ExtF d H1 H') : ExtF d H H' := fun c o h1 h n => b c o h1 (a c o h1 h n) n
theorem ExtF.ofN (e : ExtN H H') : ExtF d H H' := fun b o _ h n => e b o h n
theorem ExtF.ofS (e : L2.Same H H') : ExtF d H H' := fun b o _ h _ => e b o h
theorem ExtF.ofD (e : SamD d H H') : ExtF d H H' := fun b o n h _ => e b o n h
theorem FeedAt.extN (h : FeedAt H d) (e : ExtN H H') : FeedAt H' d := by
  obtain ⟨a, b, c, z⟩ := h
  exact ⟨a, b, c, e _ _ z fun ps q => by cases q⟩
theorem ExtF.mine {H0 : Hp} (a : L2.Same H0 H) (hd : H0 d = none) (b : ExtF d H H') : ExtN H0 H' := fun c o h n => b c o (ne_of_none h hd) (a c o h) n
mutual
theorem ftn_extF (f : FeedAt H d) (s : ExtF d H H') : ∀ (t : T) (v : V), Ftn C H t v → Ftn C H' t v
  | .jet, v, h => by
    have h2 : ∃ a dx b n, v = .ref a ∧ H a = some (.ins C dx (flds .jet b n)) ∧ H b = some (.tup []) ∧ H n = some (.tup (nums .jet)) := h
    obtain ⟨a, dx, b, n, ev, h1, h2, h3⟩ := h2
    obtain ⟨x, y, z, e⟩ := f
    exact ⟨a, dx, b, n, ev, s _ _ (ne_of h1 e fun z => by cases z) h1 (fun ps z => by cases z), s _ _ (ne_of h2 e fun z => by cases z) h2 (fun ps z => by cases z), s _ _ (ne_of h3 e fun z => by cases z) h3 (fun ps z => by cases z)⟩
  | .bas l, v, h => by
    have h2 : ∃ a dx b n vs, v = .ref a ∧ H a = some (.ins C dx (flds (.bas l) b n)) ∧ H b = some (.tup vs) ∧ H n = some (.tup (nums (.bas l))) ∧ FtnL C H l vs := h
    obtain ⟨a, dx, b, n, vs, ev, h1, h2, h3, h4⟩ := h2
    have h4' := ftnL_extF f s l vs h4
    obtain ⟨x, y, z, e⟩ := f
    exact ⟨a, dx, b, n, vs, ev, s _ _ (ne_of h1 e fun z => by cases z) h1 (fun ps z => by cases z), s _ _ (ne_of h2 e fun z => by cases z) h2 (fun ps z => by cases z), s _ _ (ne_of h3 e fun z => by cases z) h3 (fun ps z => by cases z), h4'⟩
theorem ftnL_extF (f : FeedAt H d) (s : ExtF d H H') : ∀ (l : List T) (vs : List V), FtnL C H l vs → FtnL C H' l vs
  | [], vs, h => h
  | t :: ts, vs, h => by
    have h2 : ∃ v r, vs = v :: r ∧ Ftn C H t v ∧ FtnL C H ts r := h
    obtain ⟨v, r, ev, h1, h2⟩ := h2
    exact ⟨v, r, ev, ftn_extF f s t v h1, ftnL_extF f s ts r h2⟩
end
theorem Ftn.fx {t : T} {v : V} (h : Ftn C H t v) (f : FeedAt H d) (s : ExtF d H H') : Ftn C H' t v := ftn_extF f s t v h
theorem own_of {K : PySem.W.Frag} {sp : Sp} {E : XK} {x y : V} {Q : VK} {t b : T} (hx : Ftn (cF K) H t x) (hy : Ftn (cF K) H b y) (h : sp [x, y] H (fun v H' => v ≠ .non ∧ Q v H') E) : rOwn (cF K) sp E x y H Q := by
  obtain ⟨a, da, b1, n, vs, rfl, h1, _⟩ := ftn_iff.mp hx
  obtain ⟨b, db, b2, m, ws, rfl, h2, _⟩ := ftn_iff.mp hy
  exact ⟨a, da, _, b, db, _, rfl, rfl, h1, h2, h⟩
end
/-- flat data: texts and ints -/
def flatD : V → PyData
  | .int i => .int i
  | .str z => .str z
  | _ => .none
end JW
/-! JWHeadE: the head's facts with errors, classmethods, and what reading off a class asks. -/
namespace JW
open PySem PySem.Spec PyProof.Rows L2 He
def asE (g : Addr → Option Obj) (n : Nat) : List Addr := asD g n ++ [PySem.cStatics]
/-! ### functions found by a path -/
structure FxD where
  adr : PySem.W.Frag → Addr
  name : Str
  qual : Str
  params : Arguments
  body : List Stmt
  scope : Scope
def FxD.val (d : FxD) : FnW := some (d.name, d.qual, d.params, .stmts d.body, d.scope, mainGlobals, [], builtinsNs)
def FxD.okF (K : PySem.W.Frag) (d : FxD) : Bool := PySem.W.keepIn K (.ref (d.adr K)) && (match K.lookup (d.adr K) with
  | some ⟨_, _, .func fd, _⟩ => PySem.W.codeIn K fd.code d.qual && (dflB K fd.defaults [] && kwdB K fd.kwdefaults [])
  | _ => false)
theorem FxD.funD {K : PySem.W.Frag} {d : FxD} (e : fnWa K (d.adr K) = d.val) (c : d.okF K = true) : ∃ fd, FunD K d.name d.qual d.params d.body d.scope [] [] (d.adr K) fd := by
  obtain ⟨kp, c2⟩ := ba c
  unfold fnWa at e
  cases q : K.lookup (d.adr K) with
  | none =>
    rw [q] at c2
    cases c2
  | some o =>
    obtain ⟨oc, od, dt, osl⟩ := o
    rw [q] at c2 e
    cases dt with
    | func fd =>
      obtain ⟨m1, m2, m3, m4, m5, m6, m7, m8, m9, m10, m11, m12, m13, m14, m15⟩ := fd
      have e2 : (some (m1, m2, m3, m4, m5, m6, m7, m15) : FnW) = some (d.name, d.qual, d.params, .stmts d.body, d.scope, mainGlobals, [], builtinsNs) := e
      simp only [Option.some.injEq, Prod.mk.injEq] at e2
      obtain ⟨h1, h2, h3, h4, h5, h6, h7, h8⟩ := e2
      subst h1 h2 h3 h4 h5 h6 h7 h8
      have c3 : (PySem.W.codeIn K m13 d.qual && (dflB K m8 [] && kwdB K m9 [])) = true := c2
      obtain ⟨k1, k2⟩ := ba c3
      obtain ⟨k3, k4⟩ := ba k2
      exact ⟨_, ⟨oc, od, m8, m9, m10, m11, m12, m13, m14, osl, rfl, q, k1, dflB_ok k3, kwdB_ok k4⟩, kp⟩
    | _ => cases c2
/-! ### a property, a classmethod -/
def propB (K : PySem.W.Frag) (p : Str × Str) : Bool := PrD.okP K ⟨p, "", "", defArgs (.Pass ⟨0, 0, 0, 0⟩), [], defScope (.Pass ⟨0, 0, 0, 0⟩)⟩
theorem propB_ok {K : PySem.W.Frag} {p : Str × Str} (h : propB K p = true) : PropOf K (ga K p.1) p.2 (ma K (ga K p.1) p.2) (gAd K p) := PrD.propOf (d := ⟨p, "", "", defArgs (.Pass ⟨0, 0, 0, 0⟩), [], defScope (.Pass ⟨0, 0, 0, 0⟩)⟩) h
def cmAd (K : PySem.W.Frag) (p : Str × Str) : Addr := match PySem.W.findCls K (.ref (ga K p.1)) (.type "type") p.2 with
  | some (.get _ (.ref q) _ _) => q
  | _ => 0
def cgAd (K : PySem.W.Frag) (p : Str × Str) : Addr := match PySem.W.recIn K (cmAd K p) "classmethod" with
  | some (.ref g :: _) => g
  | _ => 0
def readB (K : PySem.W.Frag) (C : Addr) : Bool := PySem.W.readsIn K C (.type "type") && eqO (PySem.W.specialIn K (.ref C) "__getattribute__") (some (some (.builtin "type.__getattribute__")))
theorem readB_ok {K : PySem.W.Frag} {C : Addr} (h : readB K C = true) : ClX.CRead K C (.type "type") := by
  obtain ⟨h1, h2⟩ := ba h
  exact ⟨h1, eqO_ok h2⟩
def cmB (K : PySem.W.Frag) (p : Str × Str) : Bool := readB K (ga K p.1) && ((match PySem.W.findCls K (.ref (ga K p.1)) (.type "type") p.2 with
  | some (.get (.builtin i) (.ref _) .none (.ref c)) => decide (i = "classmethod.__get__") && decide (c = ga K p.1)
  | _ => false) && ((match PySem.W.recIn K (cmAd K p) "classmethod" with
  | some (.ref _ :: _) => true
  | _ => false) && PySem.W.fnIn K (cgAd K p)))
theorem cmB_ok {K : PySem.W.Frag} {p : Str × Str} (h : cmB K p = true) : ClX.CRead K (ga K p.1) (.type "type") ∧ ClX.CMet K (ga K p.1) (.type "type") p.2 (cmAd K p) (cgAd K p) := by
  obtain ⟨h1, h⟩ := ba h
  obtain ⟨h2, h⟩ := ba h
  obtain ⟨h3, h4⟩ := ba h
  refine ⟨readB_ok h1, ?_, ?_, h4⟩
  · unfold cmAd
    generalize PySem.W.findCls K (.ref (ga K p.1)) (.type "type") p.2 = r at h2 ⊢
    cases r with
    | none => cases h2
    | some f =>
      cases f with
      | val v => cases h2
      | get g a o t =>
        cases g with
        | builtin i =>
          cases a with
          | ref q =>
            cases o with
            | none =>
              cases t with
              | ref c =>
                obtain ⟨z1, z2⟩ := ba (show (decide (i = "classmethod.__get__") && decide (c = ga K p.1)) = true from h2)
                rw [of_decide_eq_true z1, of_decide_eq_true z2]
              | _ => cases h2
            | _ => cases h2
          | _ => cases h2
        | _ => cases h2
  · unfold cgAd
    generalize PySem.W.recIn K (cmAd K p) "classmethod" = r at h3 ⊢
    cases r with
    | none => cases h3
    | some l =>
      cases l with
      | nil => cases h3
      | cons v rest =>
        cases v with
        | ref g => exact ⟨rest, rfl⟩
        | _ => cases h3
/-! ### an error class -/
def oexB (K : PySem.W.Frag) (C : Addr) : Bool := (match K.lookup C with
  | some ⟨.type t, _, .cls cd, sl⟩ => decide (t = "type") && (match cd.mro, sl.toList with
    | .ref c :: bm, [_, _, _, _, some (.builtin n), _] => decide (c = C) && (decide (n = "ValueError.__new__") && (!cd.hasDel && (cd.hasDict && PySem.HandSPX.refsVE bm)))
    | _, _ => false)
  | _ => false) && (eqO (PySem.W.findIn K (.ref C) "__setattr__") (some (some (.builtin "object.__setattr__"))) && (decide (PySem.W.subIn K (.ref C) (.type "BaseException") = some true) && (decide (PySem.W.typeIn K (.ref C) = some (.type "type")) && PySem.W.keepIn K (.ref C))))
theorem oexB_ok {K : PySem.W.Frag} {C : Addr} (h : oexB K C = true) : OexC K C := by
  obtain ⟨h1, h⟩ := ba h
  obtain ⟨h2, h⟩ := ba h
  obtain ⟨h3, h⟩ := ba h
  obtain ⟨h4, h5⟩ := ba h
  refine ⟨?_, eqO_ok h2, of_decide_eq_true h3, of_decide_eq_true h4, h5⟩
  cases q : K.lookup C with
  | none =>
    rw [q] at h1
    cases h1
  | some o =>
    obtain ⟨oc, od, dt, sl⟩ := o
    rw [q] at h1
    cases oc with
    | type t =>
      cases dt with
      | cls cd =>
        obtain ⟨z1, z2⟩ := ba h1
        obtain ⟨nm, bs, mro, ns, qn, hd, sn, sub, ab, col, del⟩ := cd
        dsimp only at z2
        cases mro with
        | nil => cases z2
        | cons v bm =>
          cases v with
          | ref c =>
            obtain ⟨sl⟩ := sl
            match sl, z2 with
            | [k0, k1, k2, k3, some (.builtin n), k5], z2 =>
              obtain ⟨y1, y⟩ := ba (show (decide (c = C) && (decide (n = "ValueError.__new__") && (!del && (hd && PySem.HandSPX.refsVE bm)))) = true from z2)
              obtain ⟨y2, y⟩ := ba y
              obtain ⟨y3, y⟩ := ba y
              obtain ⟨y4, y5⟩ := ba y
              have ec := of_decide_eq_true y1
              have en := of_decide_eq_true y2
              have ed : del = false := by simpa using y3
              have et := of_decide_eq_true z1
              subst ec en ed et y4
              exact ⟨nm, qn, ns, bs, bm, sn, sub, ab, col, od, k0, k1, k2, k3, k5, rfl, y5⟩
          | _ => cases z2
      | _ => cases h1
    | _ => cases h1
def excB (K : PySem.W.Frag) (D : Addr) : Bool := eqO (PySem.W.findIn K (.ref D) "__getattribute__") (some (some (.builtin "BaseException.__getattribute__"))) && (eqO (PySem.W.findIn K (.ref D) "__getattr__") (some none) &&
  (decide (PySem.W.subIn K (.ref D) (.type "BaseException") = some true) && (PySem.W.hasDictIn K D && (eqO (PySem.W.findIn K (.ref D) "__class__") (some (some (.builtin "object.__class__"))) &&
  (eqO (PySem.W.specialIn K (.builtin "object.__class__") "__get__") (some (some (.builtin "getset_descriptor.__get__"))) && (decide (PySem.W.takesIn K (.builtin "object.__class__") = some true) && decide (PySem.W.mroIn K D (.type "object") = some true)))))))
theorem excB_ok {K : PySem.W.Frag} {D : Addr} (h : excB K D = true) : ExcC K D := by
  obtain ⟨h1, h⟩ := ba h
  obtain ⟨h2, h⟩ := ba h
  obtain ⟨h3, h⟩ := ba h
  obtain ⟨h4, h⟩ := ba h
  obtain ⟨h5, h⟩ := ba h
  obtain ⟨h6, h⟩ := ba h
  obtain ⟨h7, h8⟩ := ba h
  exact ⟨eqO_ok h1, eqO_ok h2, of_decide_eq_true h3, h4, eqO_ok h5, eqO_ok h6, of_decide_eq_true h7, of_decide_eq_true h8⟩
def errB (K : PySem.W.Frag) (x : Str) : Bool := oexB K (ga K x) && (xfB K (ga K x) && (excB K (ga K x) && (eqO (PySem.W.findIn K (.ref (ga K x)) "__init__") (some (some (.ref (ma K (ga K x) "__init__")))) && decide (PySem.W.typeIn K (.ref (ma K (ga K x) "__init__")) = some (.type "function")))))
theorem errB_ok {K : PySem.W.Frag} {x : Str} (h : errB K x = true) : ErrC K (ga K x) ∧ PySem.W.findIn K (.ref (ga K x)) "__init__" = some (some (.ref (ma K (ga K x) "__init__"))) ∧ PySem.W.typeIn K (.ref (ma K (ga K x) "__init__")) = some (.type "function") := by
  obtain ⟨h1, h⟩ := ba h
  obtain ⟨h2, h⟩ := ba h
  obtain ⟨h3, h⟩ := ba h
  obtain ⟨h4, h5⟩ := ba h
  exact ⟨⟨oexB_ok h1, xfB_ok h2, excB_ok h3⟩, eqO_ok h4, of_decide_eq_true h5⟩
def baseB (K : PySem.W.Frag) (x : Str) : Bool := readB K (ga K x) && (match PySem.W.findCls K (.ref (ga K x)) (.type "type") "__init__" with
  | some (.val (.builtin i)) => decide (i = "ValueError.__init__")
  | _ => false)
theorem baseB_ok {K : PySem.W.Frag} {x : Str} (h : baseB K x = true) : InitBy K (ga K x) := by
  obtain ⟨h1, h2⟩ := ba h
  refine ⟨.type "type", readB_ok h1, ?_⟩
  generalize PySem.W.findCls K (.ref (ga K x)) (.type "type") "__init__" = r at h2 ⊢
  cases r with
  | none => cases h2
  | some f =>
    cases f with
    | get g a o t => cases h2
    | val v =>
      cases v with
      | builtin i => rw [of_decide_eq_true h2]
      | _ => cases h2
def kitB (K : PySem.W.Frag) (q : Str × Str × Bool) : Bool := decide (PySem.W.kitOne K (.ref (ga K q.1)) (.ref (ga K q.2.1)) = some q.2.2)
def exmB (K : PySem.W.Frag) (q : Str × Str × Bool) : Bool := decide (PySem.W.exmOne K (.ref (ga K q.1)) (.ref (ga K q.2.1)) = some q.2.2)
/-! ### the Hook -/
structure SaysE (fa : List Fa) (fn : List DefD) (tf : List Defn) (ex : PySem.W.Frag → Bool) (fx : List FxD) (h : Heap) (K : PySem.W.Frag) : Prop where
  d : SaysD fa fn K
  more : ex K = true
  hd : ∀ p ∈ tf, PySem.W.codeHdIn K (cT K p).1 (cT K p).2 = true
  out : ∀ p ∈ tf, K.lookup (cT K p).2 = none
  empty : ∀ p ∈ tf, h.get? (cT K p).2 = some { cls := .none, data := .fields #[] }
  p : fx.map (fun d => fnWa K (d.adr K)) = fx.map FxD.val
  ok : (fx.all fun d => d.okF K) = true
abbrev AlE : Type := AlD × Bool × List FnW × Bool
def obsE' (fa : List Fa) (fn : List DefD) (tf : List Defn) (ex : PySem.W.Frag → Bool) (fx : List FxD) (g : Addr → Option Obj) (K : PySem.W.Frag) : AlE :=
  (obsD fa fn K, ex K && tabsB g tf K, fx.map (fun d => fnWa K (d.adr K)), fx.all fun d => d.okF K)
def obsE (n : Nat) (fa : List Fa) (fn : List DefD) (tf : List Defn) (ex : PySem.W.Frag → Bool) (fx : List FxD) (g : Addr → Option Obj) : AlE := obsE' fa fn tf ex fx g (frT g (asE g n))
def valE (fn : List DefD) (fx : List FxD) : AlE := (valD fn, true, fx.map FxD.val, true)
theorem saysE_of {n : Nat} {fa : List Fa} {fn : List DefD} {tf : List Defn} {ex : PySem.W.Frag → Bool} {fx : List FxD} {h : Heap} (e : obsE n fa fn tf ex fx h.get? = valE fn fx) : SaysE fa fn tf ex fx h (frT h.get? (asE h.get? n)) := by
  unfold obsE at e
  have z1 := congrArg (fun z : AlE => z.1) e
  have z2 := congrArg (fun z : AlE => z.2.1) e
  have z3 := congrArg (fun z : AlE => z.2.2.1) e
  have z4 := congrArg (fun z : AlE => z.2.2.2) e
  have inK : ∀ {a : Addr} {o : Obj}, h.get? a = some o → emptyTab o = true → (frT h.get? (asE h.get? n)).lookup a = none := fun q z => frT_none q z
  generalize frT h.get? (asE h.get? n) = K at z1 z2 z3 z4 inK ⊢
  obtain ⟨y1, y2⟩ := ba (show (ex K && tabsB h.get? tf K) = true from z2)
  have key : ∀ p ∈ tf, PySem.W.codeHdIn K (cT K p).1 (cT K p).2 = true ∧ ∃ o, h.get? (cT K p).2 = some o ∧ emptyTab o = true := fun p hp => by
    obtain ⟨w1, w2⟩ := ba (List.all_eq_true.mp y2 p hp)
    refine ⟨w1, ?_⟩
    cases q : h.get? (cT K p).2 with
    | none =>
      rw [q] at w2
      cases w2
    | some o =>
      rw [q] at w2
      exact ⟨o, rfl, w2⟩
  refine ⟨z1, y1, fun p hp => (key p hp).1, fun p hp => ?_, fun p hp => ?_, z3, z4⟩
  · obtain ⟨_, o, q, z⟩ := key p hp
    exact inK q z
  · obtain ⟨_, o, q, z⟩ := key p hp
    rw [q, emptyTab_eq z]
def hookE (n : Nat) (fa : List Fa) (fn : List DefD) (tf : List Defn) (ex : PySem.W.Frag → Bool) (fx : List FxD) : PySem.W.Hook where
  α := AlE
  obs := fun s => obsE n fa fn tf ex fx s.heap.get?
  val := fun _ => valE fn fx
  says := fun _ h => ∃ K : PySem.W.Frag, K.In h ∧ SaysE fa fn tf ex fx h K
  of := fun _ _ e => ⟨_, frT_in, saysE_of e⟩
  keeps := fun _ _ _ ⟨K, hK, c⟩ k => ⟨K, PySem.W.Frag.In.keeps hK k, ⟨c.d, c.more, c.hd, c.out, fun p hp => k _ _ (c.empty p hp), c.p, c.ok⟩⟩
theorem obsE_eq {n : Nat} {fa : List Fa} {fn : List DefD} {tf : List Defn} {ex : PySem.W.Frag → Bool} {fx : List FxD} {g : Addr → Option Obj} {s : Shared} (h : ∀ a, g a = s.heap.get? a) : obsE n fa fn tf ex fx g = (hookE n fa fn tf ex fx).obs s := by
  have e : g = s.heap.get? := funext h
  rw [e] <;> rfl
section
variable {fa : List Fa} {fn : List DefD} {tf : List Defn} {ex : PySem.W.Frag → Bool} {fx : List FxD} {h : Heap} {K : PySem.W.Frag}
theorem SaysE.fxAt (c : SaysE fa fn tf ex fx h K) (i : Nat) {d : FxD} (hi : fx[i]? = some d) : ∃ fd, FunD K d.name d.qual d.params d.body d.scope [] [] (d.adr K) fd := by
  refine FxD.funD ?_ (List.all_eq_true.mp c.ok d (List.mem_of_getElem? hi))
  have e2 : (fx.map fun d => fnWa K (d.adr K))[i]? = (fx.map FxD.val)[i]? := by rw [c.p]
  rw [List.getElem?_map, List.getElem?_map, hi] at e2
  exact Option.some.inj e2
theorem all_at {α : Type} {l : List α} {f : α → Bool} (h : l.all f = true) (i : Nat) {a : α} (hi : l[i]? = some a) : f a = true := List.all_eq_true.mp h a (List.mem_of_getElem? hi)
end
end JW
namespace JW
open PySem PySem.Spec PyProof.Rows L2
def top (i : Nat) : Stmt := PySem.Challenge.pw_jetworks_k73_too_large_ahead_of_too_deep.main.body.getD i (.Pass ⟨0, 0, 0, 0⟩)
abbrev s_TooLarge___init__ : Stmt := inClass (top 8) 0
theorem sc_TooLarge___init__ : FnScope ["self", "pieces"] ["self", "pieces"] (defScope s_TooLarge___init__) := ⟨rfl, rfl, rfl, by decide +kernel, rfl, by decide +kernel, by decide +kernel⟩
abbrev s_TooDeep___init__ : Stmt := inClass (top 9) 0
theorem sc_TooDeep___init__ : FnScope ["self", "basins"] ["self", "basins"] (defScope s_TooDeep___init__) := ⟨rfl, rfl, rfl, by decide +kernel, rfl, by decide +kernel, by decide +kernel⟩
abbrev s_check_numbers : Stmt := top 17
theorem sc_check_numbers : FnScope ["numbers"] ["numbers"] (defScope s_check_numbers) := ⟨rfl, rfl, rfl, by decide +kernel, rfl, by decide +kernel, by decide +kernel⟩
abbrev s_basin_numbers : Stmt := top 18
theorem sc_basin_numbers : FnScope ["branches", "size", "jets", "depth", "opened", "longest", "branch"] ["branches"] (defScope s_basin_numbers) := ⟨rfl, rfl, rfl, by decide +kernel, rfl, by decide +kernel, by decide +kernel⟩
abbrev s_product_numbers : Stmt := top 19
theorem sc_product_numbers : FnScope ["one", "other", "depth", "size", "jets"] ["one", "other"] (defScope s_product_numbers) := ⟨rfl, rfl, rfl, by decide +kernel, rfl, by decide +kernel, by decide +kernel⟩
abbrev s_parsed : Stmt := top 20
theorem sc_parsed : FnScope ["text", "pending", "found", "is_complete", "at", "sign", "part"] ["text"] (defScope s_parsed) := ⟨rfl, rfl, rfl, by decide +kernel, rfl, by decide +kernel, by decide +kernel⟩
abbrev s_made : Stmt := top 21
theorem sc_made : FnScope ["branches", "ordered", "branch"] ["branches"] (defScope s_made) := ⟨rfl, rfl, rfl, by decide +kernel, rfl, by decide +kernel, by decide +kernel⟩
abbrev s_allowed : Stmt := top 22
theorem sc_allowed : FnScope ["fountain"] ["fountain"] (defScope s_allowed) := ⟨rfl, rfl, rfl, by decide +kernel, rfl, by decide +kernel, by decide +kernel⟩
abbrev s_grafted : Stmt := top 23
theorem sc_grafted : FnScope ["fountain", "part", "branch"] ["fountain", "part"] (defScope s_grafted) := ⟨rfl, rfl, rfl, by decide +kernel, rfl, by decide +kernel, by decide +kernel⟩
abbrev s_cut : Stmt := top 24
theorem sc_cut : FnScope ["fountain", "part", "branch"] ["fountain", "part"] (defScope s_cut) := ⟨rfl, rfl, rfl, by decide +kernel, rfl, by decide +kernel, by decide +kernel⟩
abbrev s_bare_place : Stmt := top 25
theorem sc_bare_place : FnScope ["fountain", "part", "path", "index", "branch", "found"] ["fountain", "part", "path"] (defScope s_bare_place) := ⟨rfl, rfl, rfl, by decide +kernel, rfl, by decide +kernel, by decide +kernel⟩
abbrev s_replaced : Stmt := top 27
theorem sc_replaced : FnScope ["fountain", "path", "part", "branches"] ["fountain", "path", "part"] (defScope s_replaced) := ⟨rfl, rfl, rfl, by decide +kernel, rfl, by decide +kernel, by decide +kernel⟩
abbrev s_multiplied : Stmt := top 29
theorem sc_multiplied : FnScope ["factors", "numbers", "factor", "found"] ["factors"] (defScope s_multiplied) := ⟨rfl, rfl, rfl, by decide +kernel, rfl, by decide +kernel, by decide +kernel⟩
abbrev s_Fountain___init__ : Stmt := inClass (top 30) 0
theorem sc_Fountain___init__ : FnScope ["self", "text", "branches", "is_read"] ["self", "text", "branches"] (defScope s_Fountain___init__) := ⟨rfl, rfl, rfl, by decide +kernel, rfl, by decide +kernel, by decide +kernel⟩
abbrev s_Fountain_basin : Stmt := inClass (top 30) 1
theorem sc_Fountain_basin : FnScope ["cls", "parts"] ["cls", "parts"] (defScope s_Fountain_basin) := ⟨rfl, rfl, rfl, by decide +kernel, rfl, by decide +kernel, by decide +kernel⟩
abbrev s_Fountain_spray : Stmt := inClass (top 30) 2
theorem sc_Fountain_spray : FnScope ["cls", "count", "index"] ["cls", "count"] (defScope s_Fountain_spray) := ⟨rfl, rfl, rfl, by decide +kernel, rfl, by decide +kernel, by decide +kernel⟩
abbrev s_Fountain_text : Stmt := inClass (top 30) 4
theorem sc_Fountain_text : FnScope ["self"] ["self"] (defScope s_Fountain_text) := ⟨rfl, rfl, rfl, by decide +kernel, rfl, by decide +kernel, by decide +kernel⟩
abbrev s_Fountain_parts : Stmt := inClass (top 30) 5
theorem sc_Fountain_parts : FnScope ["self"] ["self"] (defScope s_Fountain_parts) := ⟨rfl, rfl, rfl, by decide +kernel, rfl, by decide +kernel, by decide +kernel⟩
abbrev s_Fountain_size : Stmt := inClass (top 30) 6
theorem sc_Fountain_size : FnScope ["self"] ["self"] (defScope s_Fountain_size) := ⟨rfl, rfl, rfl, by decide +kernel, rfl, by decide +kernel, by decide +kernel⟩
abbrev s_Fountain_jets : Stmt := inClass (top 30) 7
theorem sc_Fountain_jets : FnScope ["self"] ["self"] (defScope s_Fountain_jets) := ⟨rfl, rfl, rfl, by decide +kernel, rfl, by decide +kernel, by decide +kernel⟩
abbrev s_Fountain_depth : Stmt := inClass (top 30) 8
theorem sc_Fountain_depth : FnScope ["self"] ["self"] (defScope s_Fountain_depth) := ⟨rfl, rfl, rfl, by decide +kernel, rfl, by decide +kernel, by decide +kernel⟩
abbrev s_Fountain_longest : Stmt := inClass (top 30) 9
theorem sc_Fountain_longest : FnScope ["self"] ["self"] (defScope s_Fountain_longest) := ⟨rfl, rfl, rfl, by decide +kernel, rfl, by decide +kernel, by decide +kernel⟩
abbrev s_Fountain_shortest : Stmt := inClass (top 30) 10
theorem sc_Fountain_shortest : FnScope ["self"] ["self"] (defScope s_Fountain_shortest) := ⟨rfl, rfl, rfl, by decide +kernel, rfl, by decide +kernel, by decide +kernel⟩
abbrev s_Fountain_is_open : Stmt := inClass (top 30) 11
theorem sc_Fountain_is_open : FnScope ["self"] ["self"] (defScope s_Fountain_is_open) := ⟨rfl, rfl, rfl, by decide +kernel, rfl, by decide +kernel, by decide +kernel⟩
abbrev s_Fountain_is_jet : Stmt := inClass (top 30) 12
theorem sc_Fountain_is_jet : FnScope ["self"] ["self"] (defScope s_Fountain_is_jet) := ⟨rfl, rfl, rfl, by decide +kernel, rfl, by decide +kernel, by decide +kernel⟩
abbrev s_Fountain___eq__ : Stmt := inClass (top 30) 13
theorem sc_Fountain___eq__ : FnScope ["self", "other"] ["self", "other"] (defScope s_Fountain___eq__) := ⟨rfl, rfl, rfl, by decide +kernel, rfl, by decide +kernel, by decide +kernel⟩
abbrev s_Fountain___add__ : Stmt := inClass (top 30) 19
theorem sc_Fountain___add__ : FnScope ["self", "other"] ["self", "other"] (defScope s_Fountain___add__) := ⟨rfl, rfl, rfl, by decide +kernel, rfl, by decide +kernel, by decide +kernel⟩
abbrev s_Fountain___mul__ : Stmt := inClass (top 30) 21
theorem sc_Fountain___mul__ : FnScope ["self", "other"] ["self", "other"] (defScope s_Fountain___mul__) := ⟨rfl, rfl, rfl, by decide +kernel, rfl, by decide +kernel, by decide +kernel⟩
abbrev s_Fountain___floordiv__ : Stmt := inClass (top 30) 23
theorem sc_Fountain___floordiv__ : FnScope ["self", "other", "place"] ["self", "other"] (defScope s_Fountain___floordiv__) := ⟨rfl, rfl, rfl, by decide +kernel, rfl, by decide +kernel, by decide +kernel⟩
abbrev s_Fountain_at : Stmt := inClass (top 30) 24
theorem sc_Fountain_at : FnScope ["self", "path", "here", "step", "index"] ["self", "path"] (defScope s_Fountain_at) := ⟨rfl, rfl, rfl, by decide +kernel, rfl, by decide +kernel, by decide +kernel⟩
abbrev s_Fountain_put : Stmt := inClass (top 30) 26
theorem sc_Fountain_put : FnScope ["self", "path", "part"] ["self", "path", "part"] (defScope s_Fountain_put) := ⟨rfl, rfl, rfl, by decide +kernel, rfl, by decide +kernel, by decide +kernel⟩
abbrev s__law_feed : Stmt := top 32
theorem sc__law_feed : FnScope ["_law_script", "_law_k", "_law_cell", "_law_seed"] ["_law_script", "_law_k"] (defScope s__law_feed) := ⟨rfl, rfl, rfl, by decide +kernel, rfl, by decide +kernel, by decide +kernel⟩
abbrev s__law_draw : Stmt := top 33
theorem sc__law_draw : FnScope ["_law_feed_here", "_law_limit", "_law_digit", "_law_mixed_here"] ["_law_feed_here", "_law_limit"] (defScope s__law_draw) := ⟨rfl, rfl, rfl, by decide +kernel, rfl, by decide +kernel, by decide +kernel⟩
abbrev s__law_mixed : Stmt := top 34
theorem sc__law_mixed : FnScope ["_law_feed_here", "_law_items", "_law_left", "_law_found"] ["_law_feed_here", "_law_items"] (defScope s__law_mixed) := ⟨rfl, rfl, rfl, by decide +kernel, rfl, by decide +kernel, by decide +kernel⟩
abbrev s__law_made : Stmt := top 35
theorem sc__law_made : FnScope ["_law_parts", "_law_a", "_law_path", "_law_found", "_law_whole", "e"] ["_law_parts", "_law_a", "_law_path"] (defScope s__law_made) := ⟨rfl, rfl, rfl, by decide +kernel, rfl, by decide +kernel, by decide +kernel⟩
abbrev s__law_due : Stmt := top 36
theorem sc__law_due : FnScope ["_law_size", "_law_depth"] ["_law_size", "_law_depth"] (defScope s__law_due) := ⟨rfl, rfl, rfl, by decide +kernel, rfl, by decide +kernel, by decide +kernel⟩
abbrev s__law_chain : Stmt := top 37
theorem sc__law_chain : FnScope ["_law_many"] ["_law_many"] (defScope s__law_chain) := ⟨rfl, rfl, rfl, by decide +kernel, rfl, by decide +kernel, by decide +kernel⟩
abbrev s_law : Stmt := top 38
theorem sc_law : FnScope ["_law_script", "_law_k", "_law_feed_here", "_law_broad", "_law_deep", "_law_chain_here", "_law_room", "_law_parts", "_law_part", "_law_size", "_law_told", "_law_at", "_law_lower", "_law_wide", "_law_path", "_law_lost", "_law_more", "_law_due_here"] ["_law_script"] (defScope s_law) := ⟨rfl, rfl, rfl, by decide +kernel, rfl, by decide +kernel, by decide +kernel⟩
structure Txt (K : PySem.W.Frag) (mg : Str → Option Value) (base : Heap) : Prop where
  cls : ClsF K mg
  gMOST : ∃ t, mg "MOST" = some (.int (5000) t)
  gDEEPEST : ∃ t, mg "DEEPEST" = some (.int (120) t)
  gJET_TEXT : ∃ t, mg "JET_TEXT" = some (.str ("o") t)
  e_TooLarge : ErrAt K mg "TooLarge" (He.ga K "TooLarge") "TooLarge.__init__" s_TooLarge___init__ ["self", "pieces"]
  na_TooLarge : PySem.W.findIn K (.ref (He.ga K "TooLarge")) "pieces" = some none
  e_TooDeep : ErrAt K mg "TooDeep" (He.ga K "TooDeep") "TooDeep.__init__" s_TooDeep___init__ ["self", "basins"]
  na_TooDeep : PySem.W.findIn K (.ref (He.ga K "TooDeep")) "basins" = some none
  d_check_numbers : DefAt K mg "check_numbers" "check_numbers" s_check_numbers [] ["numbers"]
  d_basin_numbers : DefAt K mg "basin_numbers" "basin_numbers" s_basin_numbers [] ["branches"]
  d_product_numbers : DefAt K mg "product_numbers" "product_numbers" s_product_numbers [] ["one", "other"]
  d_parsed : DefAt K mg "parsed" "parsed" s_parsed [] ["text"]
  d_made : DefAtP K mg "made" "made" s_made ["branches"]
  tb_made : LamX.TabB base mg (He.cT K ("made", none)).1 (He.cT K ("made", none)).2
  d_allowed : DefAt K mg "allowed" "allowed" s_allowed [] ["fountain"]
  d_grafted : DefAt K mg "grafted" "grafted" s_grafted [] ["fountain", "part"]
  d_cut : DefAt K mg "cut" "cut" s_cut [] ["fountain", "part"]
  d_bare_place : DefAt K mg "bare_place" "bare_place" s_bare_place [] ["fountain", "part", "path"]
  d_replaced : DefAt K mg "replaced" "replaced" s_replaced [] ["fountain", "path", "part"]
  d_multiplied : DefAt K mg "multiplied" "multiplied" s_multiplied [] ["factors"]
  init : InitAt K mg "Fountain" (cF K) "Fountain.__init__" s_Fountain___init__ [.non] ["self", "text", "branches"]
  c_basin : CmAt K (cF K) "basin" "Fountain.basin" s_Fountain_basin ["cls", "parts"]
  c_spray : CmAt K (cF K) "spray" "Fountain.spray" s_Fountain_spray ["cls", "count"]
  p_text : PropAt K (cF K) "text" "Fountain.text" s_Fountain_text
  p_parts : PropAt K (cF K) "parts" "Fountain.parts" s_Fountain_parts
  p_size : PropAt K (cF K) "size" "Fountain.size" s_Fountain_size
  p_jets : PropAt K (cF K) "jets" "Fountain.jets" s_Fountain_jets
  p_depth : PropAt K (cF K) "depth" "Fountain.depth" s_Fountain_depth
  p_longest : PropAt K (cF K) "longest" "Fountain.longest" s_Fountain_longest
  p_shortest : PropAt K (cF K) "shortest" "Fountain.shortest" s_Fountain_shortest
  p_is_open : PropAt K (cF K) "is_open" "Fountain.is_open" s_Fountain_is_open
  p_is_jet : PropAt K (cF K) "is_jet" "Fountain.is_jet" s_Fountain_is_jet
  m___eq__ : MethAt K (cF K) "__eq__" "Fountain.__eq__" s_Fountain___eq__ ["self", "other"]
  m___add__ : MethAt K (cF K) "__add__" "Fountain.__add__" s_Fountain___add__ ["self", "other"]
  m___mul__ : MethAt K (cF K) "__mul__" "Fountain.__mul__" s_Fountain___mul__ ["self", "other"]
  m___floordiv__ : MethAt K (cF K) "__floordiv__" "Fountain.__floordiv__" s_Fountain___floordiv__ ["self", "other"]
  m_at : MethAt K (cF K) "at" "Fountain.at" s_Fountain_at ["self", "path"]
  m_put : MethAt K (cF K) "put" "Fountain.put" s_Fountain_put ["self", "path", "part"]
  d__law_feed : DefAt K mg "_law_feed" "_law_feed" s__law_feed [] ["_law_script", "_law_k"]
  d__law_draw : DefAt K mg "_law_draw" "_law_draw" s__law_draw [] ["_law_feed_here", "_law_limit"]
  d__law_mixed : DefAt K mg "_law_mixed" "_law_mixed" s__law_mixed [] ["_law_feed_here", "_law_items"]
  d__law_made : DefAt K mg "_law_made" "_law_made" s__law_made [] ["_law_parts", "_law_a", "_law_path"]
  d__law_due : DefAt K mg "_law_due" "_law_due" s__law_due [] ["_law_size", "_law_depth"]
  d__law_chain : DefAt K mg "_law_chain" "_law_chain" s__law_chain [] ["_law_many"]
  d_law : DefAt K mg "law" "law" s_law [] ["_law_script"]
  b_JetError : mg "JetError" = some (.ref (He.ga K "JetError")) ∧ InitBy K (He.ga K "JetError")
  e_JetError : BaseAt mg "JetError" (He.ga K "JetError")
  k_TooLarge_TooLarge : PySem.W.kitOne K (.ref (He.ga K "TooLarge")) (.ref (He.ga K "TooLarge")) = some true
  k_TooLarge_TooDeep : PySem.W.kitOne K (.ref (He.ga K "TooLarge")) (.ref (He.ga K "TooDeep")) = some false
  k_TooDeep_TooLarge : PySem.W.kitOne K (.ref (He.ga K "TooDeep")) (.ref (He.ga K "TooLarge")) = some false
  k_TooDeep_TooDeep : PySem.W.kitOne K (.ref (He.ga K "TooDeep")) (.ref (He.ga K "TooDeep")) = some true
  x_TooLarge_JetError : PySem.W.exmOne K (.ref (He.ga K "TooLarge")) (.ref (He.ga K "JetError")) = some true
  x_TooDeep_JetError : PySem.W.exmOne K (.ref (He.ga K "TooDeep")) (.ref (He.ga K "JetError")) = some true
  n_NotImplemented : mg "NotImplemented" = none
  n_TypeError : mg "TypeError" = none
  n_abs : mg "abs" = none
  n_any : mg "any" = none
  n_enumerate : mg "enumerate" = none
  n_int : mg "int" = none
  n_isinstance : mg "isinstance" = none
  n_len : mg "len" = none
  n_list : mg "list" = none
  n_max : mg "max" = none
  n_min : mg "min" = none
  n_range : mg "range" = none
  n_sorted : mg "sorted" = none
  n_sum : mg "sum" = none
  n_tuple : mg "tuple" = none
/-- the tables of the defs with lambdas -/
abbrev TT (K : PySem.W.Frag) : List (Addr × Str) := [((He.cT K ("made", none)).2, ("made.<locals>." : Str) ++ "<lambda>")]
section
variable {P : Program} {w : World} {K : PySem.W.Frag} {mg : Str → Option Value} {base : Heap}
def sp__law_feed (K : PySem.W.Frag) : Sp := fun vs H Q _ => ∃ (a : Addr) (ns : List Int) (i : Nat), vs = [.ref a, .int i] ∧ SqL K H a (ns.map V.int) ∧ ns.length ≤ 63 ∧ i ≤ 10 ∧ ∀ H' d, Same H H' → H d = none → FeedAt H' d → Q (.ref d) H'
theorem ok__law_feed  (T : Txt K mg base) : CallD P w K mg base CX0 2 "_law_feed" ["_law_script", "_law_k"] [] (sp__law_feed K) := by
  refine T.d__law_feed.ok sc__law_feed (fun vs H Q E h => ?_) (fun f cdv A outer s H vs Q E hr h => ?_)
  · obtain ⟨a, ns, i, rfl, _⟩ := h
    rfl
  · obtain ⟨a, ns, i0, rfl, hS, hn, hi, k⟩ := h
    refine ⟨_, (pss_cons (ps_set (i := 2) sc__law_feed.nd rfl (by first | exact Or.inl rfl | exact Or.inr rfl) (pe_op op_add (pe_op op_mul pe_int (pv 1)) pe_int))
      (pss_cons (ps_via (ps_if (pt_cmpR op_lt (pv 1) (pe_callB call_len (by rfl) T.n_len (by decide +kernel) (pa_cons (pv 0) pa_nil)) (nomark _))
        (pss_one (ps_set (i := 2) sc__law_feed.nd rfl (by first | exact Or.inl rfl | exact Or.inr rfl) (pe_callB call_abs (by rfl) T.n_abs (by decide +kernel) (pa_cons (pe_ix ix_list (pv 0) (pv 1) (fun _ _ => rfl)) pa_nil))))
        (pss_one (ps_via (ps_if (pt_cmpR op_gt (pe_callB call_len (by rfl) T.n_len (by decide +kernel) (pa_cons (pv 0) pa_nil)) pe_int (nomark _))
          (pss_one (ps_set (i := 2) sc__law_feed.nd rfl (by first | exact Or.inl rfl | exact Or.inr rfl) (pe_op op_add (pv 2) (pe_op op_mul (pe_op op_mod (pe_callB call_abs (by rfl) T.n_abs (by decide +kernel) (pa_cons (pe_ix ix_list (pv 0) (pe_op op_mod (pv 1) (pe_callB call_len (by rfl) T.n_len (by decide +kernel) (pa_cons (pv 0) pa_nil))) (fun _ _ => rfl)) pa_nil)) pe_int) pe_int))))
          pss_nil)))))
      (pss_cons (ps_set (i := 3) sc__law_feed.nd rfl (by first | exact Or.inl rfl | exact Or.inr rfl) (pe_op op_add (pe_op op_mod (pe_op op_add (pe_op op_add (pe_op op_mul (pe_op op_mod (pv 2) pe_int) pe_int) (pe_op op_mul pe_int (pv 1))) pe_int) pe_int) pe_int))
      (pss_one (ps_ret (pe_disp (pps_cons pe_str (pe_ix ix_list (pe_lst (pa_cons pe_int (pa_cons (pv 2) pa_nil))) (pe_callTy call_int1 (by rfl) T.n_int (by decide +kernel) (pa_cons (pe_cmpR op_ge (pv 2) (pe_op op_pow pe_int pe_int) (nomark _)) pa_nil)) (fun _ _ => rfl)) (pps_cons pe_str (pv 3) (pps_cons pe_str pe_int pps_nil))) (by rfl) (by rfl) (fun z => by cases z) (by decide))))))), ?_⟩
    have hsl := sizeLine_eq
    have hat : ∀ j : Nat, j < ns.length → atI (ns.map V.int) (j : Nat) = some (.int (ns.getD j 0)) := fun j hj => atI_nat (by rw [List.getElem?_map, List.getElem?_eq_getElem hj, List.getD_eq_getElem?_getD, List.getElem?_eq_getElem hj]; rfl)
    have hml : (ns.map V.int).length = ns.length := List.length_map _
    refine ⟨_, rfl, _, _, rfl, rfl, .inl (by decide), _, _, rfl, rfl, fun σ' H' => ∃ c : Int, σ' = [some (.ref a), some (.int i0), some (.int c), none] ∧ H' = H, ?_, ?_⟩
    · refine ⟨_, rfl, .ref a, rfl, _, _, rfl, .inl ⟨_, hS, rfl⟩, _, _, rfl, rfl, _, rfl, ite2 (fun e => ?_) fun e => ?_⟩
      · have e1 := of_decide_eq_true e
        rw [hml] at e1
        exact ⟨.ref a, rfl, .int i0, rfl, a, _, _, _, rfl, rfl, hS, hat i0 (by omega), _, rfl, _, rfl, rfl⟩
      · refine ⟨fun σ' H' => ∃ c : Int, σ' = [some (.ref a), some (.int i0), some (.int c), none] ∧ H' = H, ⟨.ref a, rfl, _, _, rfl, .inl ⟨_, hS, rfl⟩, _, _, rfl, rfl, _, rfl, ite2 (fun e1 => ?_) fun e1 => ?_⟩, fun σ' H' z => z⟩
        · have e2 := of_decide_eq_true e1
          rw [hml] at e2
          have hm : ((i0 : Nat) : Int) % ((ns.map V.int).length : Nat) = ((i0 % ns.length : Nat) : Int) := by rw [hml]; rfl
          exact ⟨_, rfl, .ref a, rfl, .int i0, rfl, .ref a, rfl, _, _, rfl, .inl ⟨_, hS, rfl⟩, _, _, rfl, rfl, by rw [hml]; exact e2, a, _, _, _, rfl, rfl, hS, by rw [hm]; exact hat _ (Nat.mod_lt _ (by omega)), _, rfl, _, _, rfl, rfl, by show (0 : Int) < 2147483629; decide, _, _, rfl, rfl, .inr (by decide), _, _, rfl, rfl, _, rfl, rfl⟩
        · exact ⟨_, rfl, rfl⟩
    rintro σ' H' ⟨c, rfl, rfl⟩
    refine ⟨_, rfl, _, _, rfl, rfl, by show (0 : Int) < 2147483629; decide, _, _, rfl, rfl, .inr (by decide), _, rfl, _, _, rfl, rfl, .inl (by decide), _, _, rfl, rfl, _, _, rfl, rfl, _, _, rfl, rfl, by show (0 : Int) < 2147483629; decide, _, _, rfl, rfl, fun p hp => ?_⟩
    refine ⟨_, rfl, sz2, fun q hq => ⟨_, rfl, _, _, rfl, rfl, ⟨by decide, by decide, by decide⟩, _, _, rfl, rfl, .inr ⟨_, rfl, ?_⟩⟩⟩
    obtain ⟨v, hv⟩ : ∃ v : Int, atI [V.int 0, V.int c] (if decide ((10 : Int) ^ (18 : Int).toNat ≤ c) = true then 1 else 0) = some (.int v) := by
      split
      · exact ⟨c, rfl⟩
      · exact ⟨0, rfl⟩
    have npq : p ≠ q := ne_of_none upd_same hq
    refine ⟨q, _, _, _, rfl, rfl, SqL.of upd_same, hv, _, rfl, ?_, feedD v _ 0, rfl, by show 3 ≤ 15; decide, ?_⟩
    · rw [upd_ne npq, upd_same]
    rw [feed_made]
    refine k _ p ((((Same.refl H').new hp).new hq).mine hp) hp ⟨v, _, 0, upd_same⟩
def sp__law_draw : Sp := fun vs H Q _ => ∃ (d : Addr) (many : Int), vs = [.ref d, .int many] ∧ FeedAt H d ∧ 0 < many ∧ many < 1073741824 ∧ ∀ (v : Int) H', 0 ≤ v → v < many → FeedAt H' d → SamD d H H' → Q (.int v) H'
theorem ok__law_draw  (T : Txt K mg base) : CallD P w K mg base CX0 2 "_law_draw" ["_law_feed_here", "_law_limit"] [] (sp__law_draw) := by
  refine T.d__law_draw.ok sc__law_draw (fun vs H Q E h => ?_) (fun f cdv A outer s H vs Q E hr h => ?_)
  · obtain ⟨d, many, rfl, _⟩ := h
    rfl
  · obtain ⟨d, many, rfl, ⟨a, b, c, hd⟩, h0, h1, k⟩ := h
    refine ⟨_, (pss_cons (ps_if (pt_cmpR op_gt (pe_dget (hu_of hr) (pv 0) pe_str (fun _ _ => rfl)) pe_int (nomark _))
        (pss_cons (ps_set (i := 2) sc__law_draw.nd rfl (by first | exact Or.inl rfl | exact Or.inr rfl) (pe_op op_mod (pe_dget (hu_of hr) (pv 0) pe_str (fun _ _ => rfl)) (pv 1)))
        (pss_cons (ps_dput (hu_of hr) (pv 0) pe_str (pe_op op_fdiv (pe_dget (hu_of hr) (pv 0) pe_str (fun _ _ => rfl)) (pv 1)) rfl)
        (pss_one (ps_ret (pv 2)))))
        pss_nil)
      (pss_cons (ps_dput (hu_of hr) (pv 0) pe_str (pe_op op_add (pe_dget (hu_of hr) (pv 0) pe_str (fun _ _ => rfl)) pe_int) rfl)
      (pss_cons (ps_set (i := 3) sc__law_draw.nd rfl (by first | exact Or.inl rfl | exact Or.inr rfl) (pe_op op_mod (pe_op op_mul (pe_op op_add (pe_dget (hu_of hr) (pv 0) pe_str (fun _ _ => rfl)) (pe_op op_mul pe_int (pe_dget (hu_of hr) (pv 0) pe_str (fun _ _ => rfl)))) pe_int) pe_int))
      (pss_cons (ps_dput (hu_of hr) (pv 0) pe_str (pe_op op_add (pe_op op_mod (pe_op op_add (pe_op op_mul (pv 3) pe_int) pe_int) pe_int) pe_int) rfl)
      (pss_one (ps_ret (pe_op op_mod (pe_op op_fdiv (pe_op op_add (pe_op op_mul (pv 3) pe_int) (pe_dget (hu_of hr) (pv 0) pe_str (fun _ _ => rfl))) pe_int) (pv 1)))))))), ?_⟩
    -- if feed['digits'] > 0: ..
    refine ⟨.ref d, rfl, d, _, rfl, dget hd feed_digits, _, _, rfl, rfl, _, rfl, ite2 (fun e => ?_) (fun _ => ?_)⟩
    · refine ⟨.ref d, rfl, d, _, rfl, dget hd feed_digits, _, rfl, _, _, rfl, rfl, h0, ?_⟩
      refine ⟨.ref d, rfl, d, _, rfl, dget hd feed_digits, _, rfl, _, _, rfl, rfl, ⟨h0, h1⟩, .ref d, rfl, d, _, rfl, dput hd feed_len feed_put_digits, _, rfl, ?_⟩
      exact k _ _ (Int.emod_nonneg _ (by omega)) (Int.emod_lt_of_pos _ h0) ⟨_, b, c, upd_same⟩ (SamD.refl d H).put
    -- feed['turn'] = feed['turn'] + 1 ..
    refine ⟨.ref d, rfl, d, _, rfl, dget hd feed_turn, _, _, rfl, rfl, .ref d, rfl, d, _, rfl, dput hd feed_len feed_put_turn, ?_⟩
    have hd2 : upd H d (.dK (feedD a b (c + 1))) d = some (.dK (feedD a b (c + 1))) := upd_same
    have s2 : SamD d H (upd H d (.dK (feedD a b (c + 1)))) := (SamD.refl d H).put
    generalize upd H d (.dK (feedD a b (c + 1))) = H2 at hd2 s2 ⊢
    refine ⟨.ref d, rfl, d, _, rfl, dget hd2 feed_seed, .ref d, rfl, d, _, rfl, dget hd2 feed_turn, _, _, rfl, rfl, .inl (by decide), _, _, rfl, rfl, _, _, rfl, rfl, .inr (by decide), _, _, rfl, rfl, by show (0 : Int) < 2147483647; decide, ?_⟩
    refine ⟨_, rfl, _, _, rfl, rfl, .inr (by decide), _, _, rfl, rfl, _, _, rfl, rfl, by show (0 : Int) < 2147483629; decide, _, _, rfl, rfl, .ref d, rfl, d, _, rfl, dput hd2 feed_len feed_put_seed, ?_⟩
    refine ⟨_, rfl, _, _, rfl, rfl, .inr (by decide), .ref d, rfl, d, _, rfl, dget upd_same feed_seed, _, _, rfl, rfl, _, _, rfl, rfl, ⟨by decide, by decide⟩, _, rfl, _, _, rfl, rfl, h0, ?_⟩
    exact k _ _ (Int.emod_nonneg _ (by omega)) (Int.emod_lt_of_pos _ h0) ⟨a, _, _, upd_same⟩ s2.put
/-- what is due of a size and a depth -/
def dueV (s d : Nat) : List V := if 5000 < s then [.str "large", .int s] else if 120 < d then [.str "deep", .int d] else [.str "told", .int s, .int d]
theorem two_eq {x y x' y' : Int} (h1 : x = x') (h2 : y = y') : [V.int x, V.int y] = [V.int x', V.int y'] := by rw [h1, h2]
def sp__law_due (K : PySem.W.Frag) : Sp := fun vs H Q _ => ∃ (s d : Nat), vs = [.int s, .int d] ∧ ∀ p H', Same H H' → H' p = some (.tup (dueV s d)) → Q (.ref p) H'
def dueD (s d : Nat) : List PyData := if 5000 < s then [.str "large", .int s] else if 120 < d then [.str "deep", .int d] else [.str "told", .int s, .int d]
theorem due_dp {K : PySem.W.Frag} {H : Hp} (s d : Nat) : DpAll K H (dueV s d) (dueD s d) := by
  unfold dueV dueD
  split
  · exact .cons (.str _) (.cons (.int _) .nil)
  · split
    · exact .cons (.str _) (.cons (.int _) .nil)
    · exact .cons (.str _) (.cons (.int _) (.cons (.int _) .nil))
theorem due_lay (s d : Nat) : (PyData.tuple (dueD s d)).canLay0 = true := by
  unfold dueD
  split
  · kernel_rfl
  · split <;> kernel_rfl
theorem due_shaped (s d : Nat) : SeqAt.shaped (.tuple (dueD s d)) = true := by
  unfold dueD
  split
  · kernel_rfl
  · split <;> kernel_rfl
/-- result != due, where both are due -/
theorem ev_dueNe {K : PySem.W.Frag} {H : Hp} {a b : Addr} {s d : Nat} {Q : VK} (ha : H a = some (.tup (dueV s d))) (hb : H b = some (.tup (dueV s d))) (q : Q (.bl false) H) :
    rNeD K (.ref a) (.ref b) H Q :=
  ⟨_, _, .tup (SqT.of ha) (due_dp s d), .tup (SqT.of hb) (due_dp s d), due_shaped s d, due_shaped s d, by rw [SeqAt.eqv_refl _ (due_lay s d)]; exact q⟩
theorem ok__law_due  (T : Txt K mg base) : CallD P w K mg base CX0 1 "_law_due" ["_law_size", "_law_depth"] [] (sp__law_due K) := by
  refine T.d__law_due.ok sc__law_due (fun vs H Q E h => ?_) (fun f cdv A outer s H vs Q E hr h => ?_)
  · obtain ⟨s, d, rfl, _⟩ := h
    rfl
  · obtain ⟨z, d, rfl, k⟩ := h
    refine ⟨_, (pss_cons (ps_if (pt_cmpR op_gt (pv 0) pe_int (nomark _))
        (pss_one (ps_ret (pe_tup (pa_cons pe_str (pa_cons (pv 0) pa_nil)))))
        pss_nil)
      (pss_one (ps_ret (pe_via (pe_ifExp (pt_cmpR op_gt (pv 1) pe_int (nomark _)) (pe_tup (pa_cons pe_str (pa_cons (pv 1) pa_nil))) (pe_tup (pa_cons pe_str (pa_cons (pv 0) (pa_cons (pv 1) pa_nil))))))))), ?_⟩
    refine ⟨_, rfl, _, _, rfl, rfl, _, rfl, ite2 (fun e => ?_) fun e => ?_⟩
    · have e1 := of_decide_eq_true e
      refine ⟨_, rfl, sz2, fun p hp => k p _ (Same.new (Same.refl H) hp) ?_⟩
      rw [upd_same]
      unfold dueV
      rw [if_pos (by omega)]
    have e1 : ¬ ((5000 : Int) < (z : Nat)) := fun q => e (decide_eq_true q)
    refine ⟨fun v H' => ∃ p, v = .ref p ∧ Same H H' ∧ H' p = some (.tup (dueV z d)), ⟨_, rfl, _, _, rfl, rfl, _, rfl, ite2 (fun e2 => ?_) fun e2 => ?_⟩, fun v H' ⟨p, hv, s1, hp⟩ => by
        subst hv
        exact k p H' s1 hp⟩
    · have e3 := of_decide_eq_true e2
      refine ⟨_, rfl, sz2, fun p hp => ⟨p, rfl, Same.new (Same.refl H) hp, ?_⟩⟩
      rw [upd_same]
      unfold dueV
      rw [if_neg (by omega), if_pos (by omega)]
    · have e3 : ¬ ((120 : Int) < (d : Nat)) := fun q => e2 (decide_eq_true q)
      refine ⟨_, rfl, _, rfl, sz3, fun p hp => ⟨p, rfl, Same.new (Same.refl H) hp, ?_⟩⟩
      rw [upd_same]
      unfold dueV
      rw [if_neg (by omega), if_neg (by omega)]
def sp_check_numbers (K : PySem.W.Frag) : Sp := fun vs H Q _ => ∃ n t, vs = [.ref n] ∧ H n = some (.tup (nums t)) ∧ t.size ≤ 5000 ∧ t.dep ≤ 120 ∧ Q .non H
theorem ok_check_numbers  (T : Txt K mg base) : CallD P w K mg base CX0 1 "check_numbers" ["numbers"] [] (sp_check_numbers K) := by
  refine T.d_check_numbers.ok sc_check_numbers (fun vs H Q E h => ?_) (fun f cdv A outer s H vs Q E hr h => ?_)
  · obtain ⟨n, t, rfl, _⟩ := h
    rfl
  · obtain ⟨n, t, rfl, hn, h1, h2, k⟩ := h
    refine ⟨_, (pss_cons (ps_if (pt_cmpR op_gt (pe_ix ix_tup (pv 0) pe_int (fun _ _ => rfl)) (pe_gint rfl T.gMOST) (nomark _))
        pss_never
        pss_nil)
      (pss_one (ps_if (pt_cmpR op_gt (pe_ix ix_tup (pv 0) pe_int (fun _ _ => rfl)) (pe_gint rfl T.gDEEPEST) (nomark _))
        pss_never
        pss_nil))), ?_⟩
    exact ⟨.ref n, rfl, n, _, _, _, rfl, rfl, SqT.of hn, rfl, _, _, rfl, rfl, _, rfl, ite_f (decide_eq_false (by omega)) ⟨.ref n, rfl, n, _, _, _, rfl, rfl, SqT.of hn, rfl, _, _, rfl, rfl, _, rfl, ite_f (decide_eq_false (by omega)) k⟩⟩
theorem ok_Fountain_size  (T : Txt K mg base) : PropD P w K mg base CX0 1 (cF K) "size" (spV K fun t => .int (t.size : Nat)) := by
  refine T.p_size.ok sc_Fountain_size (fun vs H Q E h => ?_) (fun f cdv A outer s H vs Q E hr h => ?_)
  · obtain ⟨v, t, rfl, _⟩ := h
    rfl
  · obtain ⟨v, t, rfl, hf, k⟩ := h
    obtain ⟨a, dx, b, n, vs, rfl, ha, hb, hn, hk⟩ := ftn_iff.mp hf
    refine ⟨_, (pss_one (ps_ret (pe_ix ix_tup (pe_fld (pv 0) rfl) pe_int (fun _ _ => rfl)))), ?_⟩
    exact ⟨.ref a, rfl, a, _, dx, _, _, rfl, ha, T.cls.c, T.cls.nn, fl_n, n, _, _, _, rfl, rfl, SqT.of hn, rfl, k⟩
theorem ok_Fountain_jets  (T : Txt K mg base) : PropD P w K mg base CX0 1 (cF K) "jets" (spV K fun t => .int (t.jts : Nat)) := by
  refine T.p_jets.ok sc_Fountain_jets (fun vs H Q E h => ?_) (fun f cdv A outer s H vs Q E hr h => ?_)
  · obtain ⟨v, t, rfl, _⟩ := h
    rfl
  · obtain ⟨v, t, rfl, hf, k⟩ := h
    obtain ⟨a, dx, b, n, vs, rfl, ha, hb, hn, hk⟩ := ftn_iff.mp hf
    refine ⟨_, (pss_one (ps_ret (pe_ix ix_tup (pe_fld (pv 0) rfl) pe_int (fun _ _ => rfl)))), ?_⟩
    exact ⟨.ref a, rfl, a, _, dx, _, _, rfl, ha, T.cls.c, T.cls.nn, fl_n, n, _, _, _, rfl, rfl, SqT.of hn, rfl, k⟩
theorem ok_Fountain_depth  (T : Txt K mg base) : PropD P w K mg base CX0 1 (cF K) "depth" (spV K fun t => .int (t.dep : Nat)) := by
  refine T.p_depth.ok sc_Fountain_depth (fun vs H Q E h => ?_) (fun f cdv A outer s H vs Q E hr h => ?_)
  · obtain ⟨v, t, rfl, _⟩ := h
    rfl
  · obtain ⟨v, t, rfl, hf, k⟩ := h
    obtain ⟨a, dx, b, n, vs, rfl, ha, hb, hn, hk⟩ := ftn_iff.mp hf
    refine ⟨_, (pss_one (ps_ret (pe_ix ix_tup (pe_fld (pv 0) rfl) pe_int (fun _ _ => rfl)))), ?_⟩
    exact ⟨.ref a, rfl, a, _, dx, _, _, rfl, ha, T.cls.c, T.cls.nn, fl_n, n, _, _, _, rfl, rfl, SqT.of hn, rfl, k⟩
theorem ok_Fountain_longest  (T : Txt K mg base) : PropD P w K mg base CX0 1 (cF K) "longest" (spV K fun t => if t.jts = 0 then .non else .int (t.lng : Nat)) := by
  refine T.p_longest.ok sc_Fountain_longest (fun vs H Q E h => ?_) (fun f cdv A outer s H vs Q E hr h => ?_)
  · obtain ⟨v, t, rfl, _⟩ := h
    rfl
  · obtain ⟨v, t, rfl, hf, k⟩ := h
    obtain ⟨a, dx, b, n, vs, rfl, ha, hb, hn, hk⟩ := ftn_iff.mp hf
    refine ⟨_, (pss_one (ps_ret (pe_ix ix_tup (pe_fld (pv 0) rfl) pe_int (fun _ _ => rfl)))), ?_⟩
    exact ⟨.ref a, rfl, a, _, dx, _, _, rfl, ha, T.cls.c, T.cls.nn, fl_n, n, _, _, _, rfl, rfl, SqT.of hn, rfl, k⟩
theorem ok_Fountain_shortest  (T : Txt K mg base) : PropD P w K mg base CX0 1 (cF K) "shortest" (spV K fun t => if t.jts = 0 then .non else .int (t.sht : Nat)) := by
  refine T.p_shortest.ok sc_Fountain_shortest (fun vs H Q E h => ?_) (fun f cdv A outer s H vs Q E hr h => ?_)
  · obtain ⟨v, t, rfl, _⟩ := h
    rfl
  · obtain ⟨v, t, rfl, hf, k⟩ := h
    obtain ⟨a, dx, b, n, vs, rfl, ha, hb, hn, hk⟩ := ftn_iff.mp hf
    refine ⟨_, (pss_one (ps_ret (pe_ix ix_tup (pe_fld (pv 0) rfl) pe_int (fun _ _ => rfl)))), ?_⟩
    exact ⟨.ref a, rfl, a, _, dx, _, _, rfl, ha, T.cls.c, T.cls.nn, fl_n, n, _, _, _, rfl, rfl, SqT.of hn, rfl, k⟩
theorem ok_Fountain_is_open  (T : Txt K mg base) : PropD P w K mg base CX0 1 (cF K) "is_open" (spV K fun t => .bl (decide (0 < t.jts))) := by
  refine T.p_is_open.ok sc_Fountain_is_open (fun vs H Q E h => ?_) (fun f cdv A outer s H vs Q E hr h => ?_)
  · obtain ⟨v, t, rfl, _⟩ := h
    rfl
  · obtain ⟨v, t, rfl, hf, k⟩ := h
    obtain ⟨a, dx, b, n, vs, rfl, ha, hb, hn, hk⟩ := ftn_iff.mp hf
    refine ⟨_, (pss_one (ps_ret (pe_cmpR op_gt (pe_ix ix_tup (pe_fld (pv 0) rfl) pe_int (fun _ _ => rfl)) pe_int (nomark _)))), ?_⟩
    refine ⟨.ref a, rfl, a, _, dx, _, _, rfl, ha, T.cls.c, T.cls.nn, fl_n, n, _, _, _, rfl, rfl, SqT.of hn, rfl, _, _, rfl, rfl, ?_⟩
    show Q (V.bl (decide ((0 : Int) < (t.jts : Nat)))) H
    rw [show decide ((0 : Int) < (t.jts : Nat)) = decide (0 < t.jts) from decide_eq_decide.mpr (by omega)]
    exact k
def sp_basin_numbers (K : PySem.W.Frag) : Sp := fun vs H Q _ => ∃ b xs l, vs = [.ref b] ∧ H b = some (.tup xs) ∧ FtnL (cF K) H l xs ∧ xs.length < sizeLine ∧ ∀ H' p, Same H H' → H' p = some (.tup (nums (.bas l))) → Q (.ref p) H'
theorem ok_basin_numbers  (T : Txt K mg base) : CallD P w K mg base CX0 3 "basin_numbers" ["branches"] [] (sp_basin_numbers K) := by
  refine T.d_basin_numbers.ok sc_basin_numbers (fun vs H Q E h => ?_) (fun f cdv A outer s H vs Q E hr h => ?_)
  · obtain ⟨b, xs, l, rfl, _⟩ := h
    rfl
  · obtain ⟨b, xs, l, rfl, hb, hl, hz, k⟩ := h
    refine ⟨_, (pss_cons (ps_set (i := 1) sc_basin_numbers.nd rfl (by first | exact Or.inl rfl | exact Or.inr rfl) (pe_op op_add pe_int (pe_callB (cr_sum rfl) (by rfl) T.n_sum (by decide +kernel) (pa_cons (pe_lc (own := [("branch", 6)]) (g := gName 6) (tt := tYes) (by rfl) sc_basin_numbers.nd (pi_tup (pv 0)) (blkOk_by (by kernel_rfl)) (fun _ _ _ _ _ => pg_name (i := 6) sc_basin_numbers.nd rfl (by first | exact Or.inl rfl | exact Or.inr rfl)) (fun _ _ _ _ _ => pts_nil) (fun _ _ _ _ _ => (pe_propD T.cls.c (ok_Fountain_size T) (hr.mono (by decide)) pass0 (pv 6) rfl))) pa_nil))))
      (pss_cons (ps_set (i := 2) sc_basin_numbers.nd rfl (by first | exact Or.inl rfl | exact Or.inr rfl) (pe_callB (cr_sum rfl) (by rfl) T.n_sum (by decide +kernel) (pa_cons (pe_lc (own := [("branch", 6)]) (g := gName 6) (tt := tYes) (by rfl) sc_basin_numbers.nd (pi_tup (pv 0)) (blkOk_by (by kernel_rfl)) (fun _ _ _ _ _ => pg_name (i := 6) sc_basin_numbers.nd rfl (by first | exact Or.inl rfl | exact Or.inr rfl)) (fun _ _ _ _ _ => pts_nil) (fun _ _ _ _ _ => (pe_propD T.cls.c (ok_Fountain_jets T) (hr.mono (by decide)) pass0 (pv 6) rfl))) pa_nil)))
      (pss_cons (ps_set (i := 3) sc_basin_numbers.nd rfl (by first | exact Or.inl rfl | exact Or.inr rfl) (pe_op op_add pe_int (pe_callBK (cr_maxDf rfl (hu_of hr)) (by rfl) T.n_max (by decide +kernel) (pa_cons (pe_lc (own := [("branch", 6)]) (g := gName 6) (tt := tYes) (by rfl) sc_basin_numbers.nd (pi_tup (pv 0)) (blkOk_by (by kernel_rfl)) (fun _ _ _ _ _ => pg_name (i := 6) sc_basin_numbers.nd rfl (by first | exact Or.inl rfl | exact Or.inr rfl)) (fun _ _ _ _ _ => pts_nil) (fun _ _ _ _ _ => (pe_propD T.cls.c (ok_Fountain_depth T) (hr.mono (by decide)) pass0 (pv 6) rfl))) pa_nil) (pk_cons pe_int pk_nil))))
      (pss_cons (ps_setLc (i := 4) (own := [("branch", 6)]) (g := gName 6) (by rfl) sc_basin_numbers.nd rfl rfl (sw_true rfl rfl rfl (by decide +kernel)) (pi_tup (pv 0)) (blkOk_by (by kernel_rfl)) (fun _ _ _ _ _ => pg_name (i := 6) sc_basin_numbers.nd rfl (by first | exact Or.inl rfl | exact Or.inr rfl)) (fun _ _ _ _ _ => pts_one (pt_val (pe_propD T.cls.c (ok_Fountain_is_open T) (hr.mono (by decide)) pass0 (pv 6) rfl))) (fun _ _ _ _ _ => (pv 6)))
      (pss_cons (ps_if (pt_cmpR op_eq (pe_callB call_len (by rfl) T.n_len (by decide +kernel) (pa_cons (pv 4) pa_nil)) pe_int (nomark _))
        (pss_one (ps_ret (pe_tup (pa_cons (pv 1) (pa_cons (pv 2) (pa_cons (pv 3) (pa_cons pe_non (pa_cons pe_non pa_nil))))))))
        pss_nil)
      (pss_cons (ps_set (i := 5) sc_basin_numbers.nd rfl (by first | exact Or.inl rfl | exact Or.inr rfl) (pe_op op_add pe_int (pe_callB (cr_max rfl) (by rfl) T.n_max (by decide +kernel) (pa_cons (pe_lc (own := [("branch", 6)]) (g := gName 6) (tt := tYes) (by rfl) sc_basin_numbers.nd (pi_list (pv 4)) (blkOk_by (by kernel_rfl)) (fun _ _ _ _ _ => pg_name (i := 6) sc_basin_numbers.nd rfl (by first | exact Or.inl rfl | exact Or.inr rfl)) (fun _ _ _ _ _ => pts_nil) (fun _ _ _ _ _ => (pe_propD T.cls.c (ok_Fountain_longest T) (hr.mono (by decide)) pass0 (pv 6) rfl))) pa_nil))))
      (pss_one (ps_ret (pe_tup (pa_cons (pv 1) (pa_cons (pv 2) (pa_cons (pv 3) (pa_cons (pv 5) (pa_cons (pe_op op_add pe_int (pe_callB (cr_min rfl) (by rfl) T.n_min (by decide +kernel) (pa_cons (pe_lc (own := [("branch", 6)]) (g := gName 6) (tt := tYes) (by rfl) sc_basin_numbers.nd (pi_list (pv 4)) (blkOk_by (by kernel_rfl)) (fun _ _ _ _ _ => pg_name (i := 6) sc_basin_numbers.nd rfl (by first | exact Or.inl rfl | exact Or.inr rfl)) (fun _ _ _ _ _ => pts_nil) (fun _ _ _ _ _ => (pe_propD T.cls.c (ok_Fountain_shortest T) (hr.mono (by decide)) pass0 (pv 6) rfl))) pa_nil))) pa_nil)))))))))))))), ?_⟩
    refine ⟨.ref b, rfl, b, rfl, ⟨xs, SqT.of hb⟩, fun D1 hD1 => lc_propT hD1 (SqT.of hb) hl hz (fun _ => rfl) (fun _ => rfl) fun H1 s1 e1 => ?_⟩
    refine ⟨D1, l.map fun t => (t.size : Int), rfl, SqL.of (by rw [e1, List.map_map]; rfl), _, _, rfl, rfl, ?_⟩
    have hb1 := s1 _ _ hb
    have hl1 := hl.same s1
    refine ⟨.ref b, rfl, b, rfl, ⟨xs, SqT.of hb1⟩, fun D2 hD2 => lc_propT hD2 (SqT.of hb1) hl1 hz (fun _ => rfl) (fun _ => rfl) fun H2 s2 e2 => ?_⟩
    refine ⟨D2, l.map fun t => (t.jts : Int), rfl, SqL.of (by rw [e2, List.map_map]; rfl), ?_⟩
    have hb2 := s2 _ _ hb1
    have hl2 := hl1.same s2
    refine ⟨.ref b, rfl, b, rfl, ⟨xs, SqT.of hb2⟩, fun D3 hD3 => lc_propT hD3 (SqT.of hb2) hl2 hz (fun _ => rfl) (fun _ => rfl) fun H3 s3 e3 => ?_⟩
    have hb3 := s3 _ _ hb2
    have hl3 := hl2.same s3
    refine ⟨D3, l.map fun t => (t.dep : Int), _, rfl, rfl, SqL.of (by rw [e3, List.map_map]; rfl), fun m hm => ?_⟩
    have em : m = (depL l : Nat) := by
      rcases hm with ⟨hn, e⟩ | ⟨n, r, hn, e⟩
      · rw [e]
        cases l with
        | nil => rfl
        | cons t q => cases hn
      · rw [e]
        exact dep_fold hn
    subst em
    refine ⟨_, _, rfl, rfl, ?_⟩
    refine ⟨.ref b, rfl, b, rfl, ⟨xs, SqT.of hb3⟩, fun D4 hD4 => lc_someT (bs := l.map opn) hD4 (SqT.of hb3) hz (by rw [List.length_map, hl.len]) (fun _ => rfl) (fun i x b H Q hx hb s q => ?_) (fun i x H Q hx s q => ⟨x, rfl, q H (Same.refl H)⟩) fun H4 s4 e4 => ?_⟩
    · obtain ⟨t, e1, e2⟩ := hl3.get hx
      rw [map_get e1 hb] at q
      exact ⟨x, rfl, ev_prop (e2.same s) ⟨_, rfl, q H (Same.refl H)⟩⟩
    have hl4 : FtnL (cF K) H4 (l.filter opn) _ := FtnL.filter (p := opn) (hl3.same s4)
    have hlen := hl4.len
    have hle : (l.filter opn).length ≤ l.length := List.length_filter_le _ _
    have hxl := hl.len
    have eS : (l.map fun t => (t.size : Int)).sum = (sizeL l : Nat) := by
      rw [sizeL_sum, ← nI_sum, List.map_map]
      rfl
    have eJ : (l.map fun t => (t.jts : Int)).sum = (jtsL l : Nat) := by
      rw [jtsL_sum, ← nI_sum, List.map_map]
      rfl
    have sAll : Same H H4 := (s1.trans s2).trans (s3.trans s4)
    refine ⟨.ref D4, rfl, .ref D4, _, rfl, .inl ⟨_, SqL.of e4, rfl⟩, rfl, _, rfl, ite2 (fun e => ?_) fun e => ?_⟩
    · have e0 : jtsL l = 0 := by
        refine jtsL_zero.mpr (List.eq_nil_of_length_eq_zero ?_)
        have := of_decide_eq_true e
        injection this with this
        omega
      refine ⟨_, rfl, _, rfl, _, rfl, sz5, fun p hp => ?_⟩
      refine k _ p (Same.new sAll hp) ?_
      rw [upd_same, eS, eJ, e0]
      show some (HO.tup [V.int (1 + (sizeL l : Nat)), V.int ((0 : Nat) : Int), V.int (1 + (depL l : Nat)), V.non, V.non]) = some (HO.tup [V.int ((1 + sizeL l : Nat) : Int), V.int (jtsL l : Nat), V.int ((1 + depL l : Nat) : Int), if jtsL l = 0 then V.non else V.int ((1 + lngL l : Nat) : Int), if jtsL l = 0 then V.non else V.int ((1 + shtL l : Nat) : Int)])
      rw [if_pos e0, if_pos e0, e0, Int.natCast_add, Int.natCast_add]
      rfl
    · have e0 : jtsL l ≠ 0 := fun z => by
        refine e (decide_eq_true ?_)
        rw [hlen, jtsL_zero.mp z]
        rfl
      have hne : (l.filter opn).length ≠ 0 := fun z => e0 (jtsL_zero.mpr (List.eq_nil_of_length_eq_zero z))
      have hz4 : (((xs.zip (l.map opn)).filter (·.2)).map (·.1)).length < sizeLine := by omega
      have hD4' : H4 D4 = some (HO.lst (((xs.zip (l.map opn)).filter (·.2)).map (·.1))) := e4
      refine ⟨.ref D4, rfl, D4, rfl, ⟨_, SqL.of hD4'⟩, fun D5 hD5 => lc_propL hD5 (SqL.of hD4') hl4 hz4 (fun _ => rfl) (fun _ => rfl) fun H5 s5 e5 => ?_⟩
      have eL : ∀ t ∈ l.filter opn, (if t.jts = 0 then V.non else V.int (t.lng : Nat)) = V.int (t.lng : Nat) ∧ (if t.jts = 0 then V.non else V.int (t.sht : Nat)) = V.int (t.sht : Nat) := fun t ht => by
        have h1 := (List.mem_filter.mp ht).2
        unfold opn at h1
        have h2 := of_decide_eq_true h1
        exact ⟨if_neg (by omega), if_neg (by omega)⟩
      refine ⟨D5, (l.filter opn).map fun t => (t.lng : Int), rfl, SqL.of (by rw [e5, List.map_map, List.map_congr_left fun t ht => (eL t ht).1]; rfl), by rw [List.length_map]; omega, fun m h1 h2 => ⟨_, _, rfl, rfl, ?_⟩⟩
      rw [lng_max e0 h1 h2]
      have hD5' := s5 _ _ hD4'
      refine ⟨_, rfl, _, rfl, _, rfl, _, rfl, .ref D4, rfl, D4, rfl, ⟨_, SqL.of hD5'⟩, fun D6 hD6 => lc_propL hD6 (SqL.of hD5') (hl4.same s5) hz4 (fun _ => rfl) (fun _ => rfl) fun H6 s6 e6 => ?_⟩
      refine ⟨D6, (l.filter opn).map fun t => (t.sht : Int), rfl, SqL.of (by rw [e6, List.map_map, List.map_congr_left fun t ht => (eL t ht).2]; rfl), by rw [List.length_map]; omega, fun m h1 h2 => ⟨_, _, rfl, rfl, ?_⟩⟩
      rw [sht_min e0 h1 h2]
      refine ⟨sz5, fun p hp => ?_⟩
      refine k _ p (Same.new (sAll.trans (s5.trans s6)) hp) ?_
      rw [upd_same, eS, eJ]
      show some (HO.tup [V.int (1 + (sizeL l : Nat)), V.int (jtsL l : Nat), V.int (1 + (depL l : Nat)), V.int (1 + (lngL l : Nat)), V.int (1 + (shtL l : Nat))]) = some (HO.tup [V.int ((1 + sizeL l : Nat) : Int), V.int (jtsL l : Nat), V.int ((1 + depL l : Nat) : Int), if jtsL l = 0 then V.non else V.int ((1 + lngL l : Nat) : Int), if jtsL l = 0 then V.non else V.int ((1 + shtL l : Nat) : Int)])
      rw [if_neg e0, if_neg e0, Int.natCast_add, Int.natCast_add, Int.natCast_add, Int.natCast_add]
      rfl
theorem ok_Fountain_text  (T : Txt K mg base) : PropD P w K mg base CX0 1 (cF K) "text" (spV K fun t => .str (tx t)) := by
  refine T.p_text.ok sc_Fountain_text (fun vs H Q E h => ?_) (fun f cdv A outer s H vs Q E hr h => ?_)
  · obtain ⟨v, t, rfl, _⟩ := h
    rfl
  · obtain ⟨v, t, rfl, hf, k⟩ := h
    obtain ⟨a, dx, b, n, vs, rfl, ha, hb, hn, hk⟩ := ftn_iff.mp hf
    refine ⟨_, (pss_one (ps_ret (pe_fld (pv 0) rfl))), ?_⟩
    exact ⟨.ref a, rfl, a, _, dx, _, _, rfl, ha, T.cls.c, T.cls.nw, fl_w, k⟩
/-- a new fountain, of its text and its branches in order -/
def sp_init (K : PySem.W.Frag) : Sp := fun vs H Q _ => ∃ x dx t b xs H0, vs = [.ref x, .str (tx t), .ref b] ∧ H0 x = none ∧ Same H0 H ∧ H x = some (.ins (cF K) dx []) ∧ H0 b = some (.tup xs) ∧ FtnL (cF K) H0 t.kids xs ∧ xs.length < sizeLine ∧
  ∀ H', Same H0 H' → Ftn (cF K) H' t (.ref x) → Q .non H'
/-- Fountain(JET_TEXT, ()) -/
theorem mk_jet {K : PySem.W.Frag} {H : Hp} {Q : VK} {E : XK} (q : ∀ v H', Same H H' → Ftn (cF K) H' .jet v → Q v H') : ([] : List V).length ≤ sizeLine ∧ ∀ p, H p = none → ∀ x dx, upd H p (.tup []) x = none → upd H p (.tup []) dx = none → dx ≠ x →
    sp_init K (V.ref x :: ([V.str "o", V.ref p] ++ [])) (upd (upd (upd H p (.tup [])) dx (.own x)) x (.ins (cF K) dx [])) (fun v H2 => v = .non ∧ Q (.ref x) H2) E := by
  refine ⟨Nat.zero_le _, fun p hp x dx hx hdx hne => ?_⟩
  have sQ : Same H (upd H p (.tup [])) := Same.new (Same.refl H) hp
  exact ⟨x, dx, .jet, p, [], upd H p (.tup []), by rw [tx_jet]; rfl, hx, Same.new (Same.new (Same.refl _) hdx) (by rw [upd_ne (Ne.symm hne)]; exact hx), upd_same, upd_same, rfl, by rw [sizeLine_eq]; decide, fun H5 s5 f5 => ⟨rfl, q _ _ (sQ.trans s5) f5⟩⟩
theorem ok_Fountain___init__  (T : Txt K mg base) : MakeD P w K mg base CX0 4 "Fountain" (cF K) ["self", "text", "branches"] [] (sp_init K) := by
  refine T.init.ok 1 (by decide) sc_Fountain___init__ (fun vs H Q E h => ?_) (fun f cdv A outer s H vs Q E hr h => ?_)
  · obtain ⟨x, dx, t, b, xs, H0, rfl, _⟩ := h
    rfl
  · obtain ⟨x, dx, t, b, xs, H0, rfl, hx0, s0, hx, hb, hk, hz, k⟩ := h
    refine ⟨_, (pss_cons (ps_set (i := 3) sc_Fountain___init__.nd rfl (by first | exact Or.inl rfl | exact Or.inr rfl) (pe_cmpR op_isN (pv 2) pe_non (nomark _)))
      (pss_cons (ps_if (pt_val (pv 3))
        pss_never
        pss_nil)
      (pss_cons (ps_fld (pv 0) (pv 1) (by rfl))
      (pss_cons (ps_fld (pv 0) (pv 2) (by rfl))
      (pss_cons (ps_fld (pv 0) (pe_via (pe_ifExp (pt_cmpR op_eq (pv 1) (pe_gstr rfl T.gJET_TEXT) (nomark _)) (pe_tup (pa_cons pe_int (pa_cons pe_int (pa_cons pe_int (pa_cons pe_int (pa_cons pe_int pa_nil)))))) (pe_callD (ok_basin_numbers T) (hr.mono (by decide)) (by rfl) pass0 (pa_cons (pv 2) pa_nil)))) (by rfl))
      (pss_one (ps_if (pt_val (pv 3))
        pss_never
        pss_nil))))))), ?_⟩
    have nx : ∀ {a : Addr} {o : HO}, H0 a = some o → a ≠ x := fun e => ne_of_none e hx0
    refine ⟨.ref b, rfl, rfl, _, rfl, _, rfl, ite_f (decide_eq_false (fun z => by cases z)) ⟨.str (tx t), rfl, .ref x, rfl, x, _, dx, _, rfl, hx, T.cls.c, T.cls.nw, by decide, .ref b, rfl, .ref x, rfl, x, _, dx, _, rfl, upd_same, T.cls.c, T.cls.nb, fl_l1,
      fun v H' => ∃ n, v = .ref n ∧ Same H0 H' ∧ H' x = some (.ins (cF K) dx (putF "branches" (.ref b) (putF "written" (.str (tx t)) []))) ∧ H' n = some (.tup (nums t)), ⟨_, rfl, rfl, _, rfl, ite2 (fun e => ?_) fun e => ?_⟩, fun v H' hv => ?_⟩⟩
    · have et : t = .jet := tx_inj ((V.str.inj (of_decide_eq_true e)).trans tx_jet.symm)
      subst et
      refine ⟨sz5, fun p hp => ⟨p, rfl, Same.new ?_ hp, ?_, ?_⟩⟩
      · exact fun a o e => by rw [upd_ne (nx e), upd_ne (nx e)]; exact s0 a o e
      · exact upd_old upd_same hp
      · rw [upd_same]
        rfl
    · cases t with
      | jet => exact absurd (decide_eq_true (by rw [tx_jet])) e
      | bas l =>
        have sH : ∀ o1 o2 : HO, Same H0 (upd (upd H x o1) x o2) := fun o1 o2 a o e => by rw [upd_ne (nx e), upd_ne (nx e)]; exact s0 a o e
        exact ⟨.ref b, rfl, b, xs, l, rfl, sH _ _ _ _ hb, FtnL.same hk (sH _ _), hz, fun H' p s e => ⟨p, rfl, (sH _ _).trans s, s _ _ upd_same, e⟩⟩
    · obtain ⟨n, rfl, s1, e1, e2⟩ := hv
      refine ⟨.ref x, rfl, x, _, dx, _, rfl, e1, T.cls.c, T.cls.nn, fl_l2, _, rfl, _, rfl, ite_f (decide_eq_false (fun z => by cases z)) (k _ ?_ ?_)⟩
      · exact fun a o e => by rw [upd_ne (nx e)]; exact s1 a o e
      · have sF : Same H0 (upd H' x (.ins (cF K) dx (putF "numbers" (.ref n) (putF "branches" (.ref b) (putF "written" (.str (tx t)) []))))) := fun a o e => by rw [upd_ne (nx e)]; exact s1 a o e
        have nn : n ≠ x := fun z => by
          subst z
          rw [e1] at e2
          cases e2
        exact ftn_iff.mpr ⟨x, dx, b, n, xs, rfl, by rw [upd_same, fl_put], sF _ _ hb, by rw [upd_ne nn]; exact e2, hk.same sF⟩
/-- the basin of these branches, in order -/
def sp_made (K : PySem.W.Frag) : Sp := fun vs H Q _ => ∃ v xs l, vs = [.ref v] ∧ Sq K H v xs ∧ FtnL (cF K) H l xs ∧ sizeL l ≤ 1048576 ∧ LamX.Tabs (TT K) H ∧ ∀ w H', LamX.ExtN H H' → LamX.Tabs (TT K) H' → Ftn (cF K) H' (.bas (sortT l)) w → Q w H'
theorem ok_made  (T : Txt K mg base) : CallD P w K mg base CX0 6 "made" ["branches"] [] (sp_made K) := by
  refine T.d_made.okC sc_made (fun vs H Q E h => ?_) (fun A outer s H vs Q E hr h => ?_)
  · obtain ⟨v, xs, l, rfl, _⟩ := h
    rfl
  · obtain ⟨v, xs, l, rfl, hq, hl, hsz, hT, k⟩ := h
    have hlen := hl.len
    have hll := length_le l
    have hzl : xs.length < sizeLine := by rw [sizeLine_eq]; omega
    refine ⟨_, (pss_cons (ps_set (i := 1) sc_made.nd rfl (by first | exact Or.inl rfl | exact Or.inr rfl) (pe_sortedKey (N := ["branch"]) (k := 2) (pv 0) (by rfl) T.n_sorted T.tb_made rfl (List.mem_singleton.mpr rfl) (fun q hq _ => by rw [List.mem_singleton.mp hq]) (hr.mono (by decide)) ⟨rfl, rfl, rfl, by decide +kernel, rfl, by decide +kernel, by decide +kernel⟩ (fun _ _ _ _ _ => rfl) (fun A outer s H f cd hr => (pe_propD T.cls.c (ok_Fountain_text T) (hr.mono (by decide)) pass0 (pv 0) rfl))))
      (pss_one (ps_ret (pe_makeD (ok_Fountain___init__ T) (hr.mono (by decide)) (by rfl) pass0 (pa_cons (pe_op op_add_str (pe_op op_add_str pe_str (pe_join pe_str (pe_lc (own := [("branch", 2)]) (g := gName 2) (tt := tYes) (by rfl) sc_made.nd (pi_list (pv 1)) (blkOk_by (by kernel_rfl)) (fun _ _ _ _ _ => pg_name (i := 2) sc_made.nd rfl (by first | exact Or.inl rfl | exact Or.inr rfl)) (fun _ _ _ _ _ => pts_nil) (fun _ _ _ _ _ => (pe_propD T.cls.c (ok_Fountain_text T) (hr.mono (by decide)) pass0 (pv 2) rfl))))) pe_str) (pa_cons (pe_callTy call_tuple_of (by rfl) T.n_tuple (by decide +kernel) (pa_cons (pv 1) pa_nil)) pa_nil)))))), ?_⟩
    refine ⟨.ref v, rfl, v, xs, l.map tx, rfl, hq, by rw [List.length_map, hlen], hT, fun H2 hE hT2 => ⟨fun H' => LamX.ExtN H2 H' ∧ LamX.Tabs (TT K) H', ⟨LamX.ExtN.refl H2, hT2⟩, fun H' z => z.1, fun i x z hx hz H' hR => ?_, fun D H' ys hR hD ky => ?_⟩⟩
    · obtain ⟨t, e1, e2⟩ := hl.get hx
      rw [map_get e1 hz]
      exact ⟨x, rfl, ev_prop (e2.ext (hE.trans hR.1)) ⟨rfl, hR⟩⟩
    have hlS : sizeL (sortT l) = sizeL l := sizeL_perm (sortT_perm l)
    have hl3 : FtnL (cF K) (upd H' D (.lst ys)) (sortT l) ys := (ftnL_sort (hl.ext (hE.trans hR.1)) ky).same (Same.new (Same.refl H') hD)
    have sD : Same H' (upd H' D (.lst ys)) := Same.new (Same.refl H') hD
    have eD : upd H' D (.lst ys) D = some (.lst ys) := upd_same
    generalize upd H' D (.lst ys) = H3 at hl3 sD eD ⊢
    have hz : ys.length < sizeLine := by
      rw [hl3.len, (sortT_perm l).length_eq]
      omega
    have hcl := codesL_len (sortT l)
    have hjl : (Txt.join "" ((sortT l).map tx)).length = (codesL (sortT l)).length := by rw [join_tx, SX.S_len]
    have hop : (("(" : Str)).length = 1 := by decide +kernel
    have hcp : ((")" : Str)).length = 1 := by decide +kernel
    have hem : (("" : Str)).length = 0 := by decide +kernel
    have hsl := sizeLine_eq
    refine ⟨⟨_, rfl⟩, .ref D, rfl, D, rfl, ⟨ys, SqL.of eD⟩, fun D2 hD2 => lc_propL hD2 (SqL.of eD) hl3 hz (fun _ => rfl) (fun _ => rfl) fun H4 s4 e4 => ⟨_, D2, (sortT l).map tx, rfl, rfl, .inl (SqL.of (by rw [e4, List.map_map]; rfl)), ?_, _, _, rfl, rfl, ?_, _, _, rfl, rfl, ?_, .ref D, rfl, D, ys, rfl, .inl ⟨SqL.of (s4 _ _ eD), fun p hp x dx hx hdx hne => ?_⟩⟩⟩
    · rw [lens_tx, hem]
      omega
    · rw [hop, hjl]
      omega
    · show (("(" : Str) ++ Txt.join "" ((sortT l).map tx)).length + ((")" : Str)).length ≤ sizeLine
      rw [join_tx, op_S, SX.S_cat, SX.S_len, hcp, List.length_append, List.length_singleton]
      omega
    have sP : Same H' (upd H4 p (.tup ys)) := Same.new (sD.trans s4) hp
    refine ⟨x, dx, .bas (sortT l), p, ys, upd H4 p (.tup ys), by rw [← tx_bas]; rfl, hx, Same.new (Same.new (Same.refl _) hdx) (by rw [upd_ne (Ne.symm hne)]; exact hx), upd_same, upd_same, FtnL.same (hl3.same s4) (Same.new (Same.refl H4) hp), hz, fun H5 s5 f5 => ⟨rfl, k _ H5 ?_ ?_ f5⟩⟩
    · exact (hE.trans hR.1).trans (.of (sP.trans s5))
    · exact LamX.Tabs.ext hR.2 (sP.trans s5)
theorem ok_Fountain_parts  (T : Txt K mg base) : PropD P w K mg base CX0 1 (cF K) "parts" (spKids K) := by
  refine T.p_parts.ok sc_Fountain_parts (fun vs H Q E h => ?_) (fun f cdv A outer s H vs Q E hr h => ?_)
  · obtain ⟨v, t, rfl, _⟩ := h
    rfl
  · obtain ⟨v, t, rfl, hf, k⟩ := h
    obtain ⟨a, dx, b, n, vs, rfl, ha, hb, hn, hk⟩ := ftn_iff.mp hf
    refine ⟨_, (pss_one (ps_ret (pe_fld (pv 0) rfl))), ?_⟩
    exact ⟨.ref a, rfl, a, _, dx, _, _, rfl, ha, T.cls.c, T.cls.nb, fl_b, k b vs hb hk⟩
/-- the branches of the fountain of a text -/
def sp_parsed (K : PySem.W.Frag) : Sp := fun vs H Q _ => ∃ u : JW.T, vs = [.str (tx u)] ∧ u.size ≤ 500000 ∧ LamX.Tabs (TT K) H ∧ ∀ b xs H', LamX.ExtN H H' → LamX.Tabs (TT K) H' → H' b = some (.tup xs) → FtnL (cF K) H' u.canon.kids xs → Q (.ref b) H'
/-- i signs are read -/
def PInv (K : PySem.W.Frag) (u : JW.T) (H : Hp) (i : Nat) (σ : L2.St) (H' : Hp) : Prop := ∃ D b qs st fd v4 v5 v6, σ = [some (.str (tx u)), some (.ref D), some (.ref b), some (.bl (Option.isSome fd)), v4, v5, v6] ∧ H D = none ∧ LamX.ExtN H H' ∧ LamX.Tabs (TT K) H' ∧ H' D = some (.lst (List.reverse qs)) ∧
  PendR (cF K) H' st qs ∧ (∃ xs, H' b = some (.tup xs) ∧ ∀ t, fd = some t → FtnL (cF K) H' (T.kids t) xs) ∧ prun (u.codes.drop i) (st, fd) = some ([], some u.canon) ∧ wtS (st, fd) ≤ i
theorem pinvA {K : PySem.W.Frag} {u : JW.T} {H H2 H3 : Hp} {i : Nat} {D a b q : Addr} {ws xs bx : List V} {p2 : List JW.T} {r2 : List (List JW.T)} {t : JW.T} {v : V} {v4 v5 v6 : Option V} (hD0 : H D = none) (hE : LamX.ExtN H H2) (hT : LamX.Tabs (TT K) H2) (s : Same H2 H3) (hD : H2 D = some (.lst (V.ref a :: ws).reverse))
    (hf : FtnL (cF K) H2 p2 xs) (hr : PendR (cF K) H2 r2 ws) (ht : Ftn (cF K) H2 t v) (hq : H3 q = some (.tup (xs ++ [v]))) (hb : H2 b = some (.tup bx)) (hrun : prun (u.codes.drop (i + 1)) ((p2 ++ [t]) :: r2, none) = some ([], some u.canon)) (hw : wtS ((p2 ++ [t]) :: r2, none) ≤ i + 1) :
    PInv K u H (i + 1) [some (.str (tx u)), some (.ref D), some (.ref b), some (.bl false), v4, v5, v6] (upd H3 D (.lst (V.ref q :: ws).reverse)) := by
  have hD3 := s _ _ hD
  have hT3 := Tabs.same hT s
  have nq : q ≠ D := ne_of hq hD3 fun z => by cases z
  have nb : b ≠ D := ne_of hb hD fun z => by cases z
  have hx : ExtD D H3 (upd H3 D (.lst (V.ref q :: ws).reverse)) := ExtD.put (ExtD.refl D H3)
  refine ⟨D, b, V.ref q :: ws, (p2 ++ [t]) :: r2, none, v4, v5, v6, rfl, hD0, fun c o e n => ?_, Tabs.put hT3 hD3, upd_same, ?_, ⟨bx, by rw [upd_ne nb]; exact s _ _ hb, fun t z => by cases z⟩, hrun, hw⟩
  · rw [upd_ne (ne_of_none e hD0)]
    exact s _ _ (hE _ _ e n)
  · exact ⟨q, xs ++ [v], ws, rfl, by rw [upd_ne nq]; exact hq, ftnL_extD hD3 hx _ _ ((hf.same s).app (FtnL.one (ht.same s))), PendR.extD hD3 hx (hr.ext (.of s))⟩
theorem pinvN {K : PySem.W.Frag} {u : JW.T} {H H2 H3 : Hp} {i : Nat} {D b q : Addr} {qs bx : List V} {st : List (List JW.T)} {v4 v5 v6 : Option V} (hD0 : H D = none) (hE : LamX.ExtN H H2) (hT : LamX.Tabs (TT K) H2) (s : Same H2 H3) (hD : H2 D = some (.lst qs.reverse))
    (hr : PendR (cF K) H2 st qs) (hq : H3 q = some (.tup [])) (hb : H2 b = some (.tup bx)) (hrun : prun (u.codes.drop (i + 1)) ([] :: st, none) = some ([], some u.canon)) (hw : wtS ([] :: st, none) ≤ i + 1) :
    PInv K u H (i + 1) [some (.str (tx u)), some (.ref D), some (.ref b), some (.bl false), v4, v5, v6] (upd H3 D (.lst (qs.reverse ++ [V.ref q]))) := by
  have hD3 := s _ _ hD
  have hT3 := Tabs.same hT s
  have nq : q ≠ D := ne_of hq hD3 fun z => by cases z
  have nb : b ≠ D := ne_of hb hD fun z => by cases z
  have hx : ExtD D H3 (upd H3 D (.lst (qs.reverse ++ [V.ref q]))) := ExtD.put (ExtD.refl D H3)
  refine ⟨D, b, V.ref q :: qs, [] :: st, none, v4, v5, v6, rfl, hD0, fun c o e n => ?_, Tabs.put hT3 hD3, by rw [upd_same, List.reverse_cons], ?_, ⟨bx, by rw [upd_ne nb]; exact s _ _ hb, fun t z => by cases z⟩, hrun, hw⟩
  · rw [upd_ne (ne_of_none e hD0)]
    exact s _ _ (hE _ _ e n)
  · exact ⟨q, [], qs, rfl, by rw [upd_ne nq]; exact hq, rfl, PendR.extD hD3 hx (hr.ext (.of s))⟩
theorem ok_parsed  (T : Txt K mg base) : CallD P w K mg base CX0 7 "parsed" ["text"] [] (sp_parsed K) := by
  refine T.d_parsed.ok sc_parsed (fun vs H Q E h => ?_) (fun f cdv A outer s H vs Q E hr h => ?_)
  · obtain ⟨u, rfl, _⟩ := h
    rfl
  · obtain ⟨u, rfl, hsz, hT, k⟩ := h
    have hcl := (codes_len u).1
    have hsl := sizeLine_eq
    have hcz : (tx u).cps.size = u.codes.length := by
      show (u.codes.toArray).size = _
      rw [List.size_toArray]
    refine ⟨_, (pss_cons (ps_set (i := 1) sc_parsed.nd rfl (by first | exact Or.inl rfl | exact Or.inr rfl) (pe_lst pa_nil))
      (pss_cons (ps_asg (pe_tup (pa_cons (pe_tup pa_nil) (pa_cons pe_bl pa_nil))) (pg_tup rfl (pgs_cons (pg_name (i := 2) sc_parsed.nd rfl (by first | exact Or.inl rfl | exact Or.inr rfl)) (pgs_cons (pg_name (i := 3) sc_parsed.nd rfl (by first | exact Or.inl rfl | exact Or.inr rfl)) pgs_nil))))
      (pss_cons (ps_for PassesOwn.never rfl (pi_enumS (by rfl) T.n_enumerate (pa_cons (pv 0) pa_nil)) (pg_tup rfl (pgs_cons (pg_name (i := 4) sc_parsed.nd rfl (by first | exact Or.inl rfl | exact Or.inr rfl)) (pgs_cons (pg_name (i := 5) sc_parsed.nd rfl (by first | exact Or.inl rfl | exact Or.inr rfl)) pgs_nil)))
        (pss_cons (ps_if (PW.pt (pw_or (pt_val (pv 3)) (pw_or (pt_cmpR op_notin_str (pv 5) pe_str (by rfl)) (pw_or1 (PW.pt (pw_and (pt_cmpR op_eq (pv 5) pe_str (nomark _)) (pw_and1 (pt_cmpR op_eq (pe_callB call_len (by rfl) T.n_len (by decide +kernel) (pa_cons (pv 1) pa_nil)) pe_int (nomark _)))))))))
          pss_never
          pss_nil)
        (pss_one (ps_via (ps_if (pt_cmpR op_eq (pv 5) pe_str (nomark _))
          (pss_one (ps_expr (pe_bm PySem.F.plainAttrs_list PySem.F.slot_list_append PySem.F.type_list_append mt_append (pv 1) (pa_cons (pe_tup pa_nil) pa_nil))))
          (pss_cons (ps_set (i := 6) sc_parsed.nd rfl (by first | exact Or.inl rfl | exact Or.inr rfl) (pe_via (pe_ifExp (pt_cmpR op_eq (pv 5) (pe_gstr rfl T.gJET_TEXT) (nomark _)) (pe_makeD (ok_Fountain___init__ T) (hr.mono (by decide)) (by rfl) pass0 (pa_cons (pe_gstr rfl T.gJET_TEXT) (pa_cons (pe_tup pa_nil) pa_nil))) (pe_callD (ok_made T) (hr.mono (by decide)) (by rfl) pass0 (pa_cons (pe_bm0 PySem.F.plainAttrs_list PySem.F.slot_list_pop PySem.F.type_list_pop mt_pop (pv 1)) pa_nil)))))
          (pss_one (ps_via (ps_if (pt_cmpR op_gt (pe_callB call_len (by rfl) T.n_len (by decide +kernel) (pa_cons (pv 1) pa_nil)) pe_int (nomark _))
            (pss_one (ps_asg (pe_op op_catA (pe_ix ix_list (pv 1) (pe_un un_neg pe_int) (fun _ _ => rfl)) (pe_tup (pa_cons (pv 6) pa_nil))) (pg_sub (pv 1) (pe_un un_neg pe_int) set_list)))
            (pss_one (ps_par (i := 2) (j := 3) (by rfl) sc_parsed.nd rfl rfl (by decide) rfl rfl (pa_cons (pe_propD T.cls.c (ok_Fountain_parts T) (hr.mono (by decide)) pass0 (pv 6) rfl) (pa_cons pe_bl pa_nil)) (by rfl))))))))))))
      (pss_cons (ps_if (pt_not (pt_val (pv 3)))
        pss_never
        pss_nil)
      (pss_one (ps_ret (pv 2))))))), ?_⟩
    refine ⟨by decide, fun D hD => ⟨by decide, fun b hb => ⟨sz2, fun p hp => ⟨p, _, rfl, SqT.of upd_same, rfl, _, _, rfl, _, _, rfl, rfl, .str (tx u), rfl, _, rfl, ?_⟩⟩⟩⟩
    refine for_enumS (PInv K u H) ?_ (fun i c σ H' Tp hc hP hTp => ?_) fun σ H' hP => ?_
    · have s3 : Same H (upd (upd (upd H D (.lst [])) b (.tup [])) p (.tup [.ref b, .bl false])) := Same.new (Same.new (Same.new (Same.refl H) hD) hb) hp
      exact ⟨D, b, [], [], none, none, none, none, rfl, hD, .of s3, Tabs.same hT s3, upd_old (upd_old upd_same hb) hp, rfl, ⟨[], upd_old upd_same hp, fun t z => by cases z⟩, prun_all u, Nat.le_refl _⟩
    · obtain ⟨D, b, qs, st, fd, v4, v5, v6, rfl, hD0, hE, hT', hDq, hp', ⟨bx, hbx, hfd⟩, hrun, hwt⟩ := hP
      have hc' : u.codes[i]? = some c := by
        have : (u.codes.toArray)[i]? = some c := hc
        rw [List.getElem?_toArray] at this
        exact this
      have hi : i < u.codes.length := (List.getElem?_eq_some_iff.mp hc').1
      obtain ⟨⟨st', fd'⟩, hst, hrun'⟩ := prun_step hc' hrun
      have hwt2 : wtS (st', fd') ≤ i + 1 := Nat.le_trans (pstep_wt hst) (Nat.succ_le_succ hwt)
      have hql := hp'.len
      have hsl2 := wtL_len st
      have hwl : wtL st ≤ i := Nat.le_trans (Nat.le_add_right _ _) hwt
      obtain ⟨rfl, hcs⟩ := pstep_cases hst
      have sT : Same H' (upd H' Tp (.tup [.int (i : Nat), .str ⟨#[c]⟩])) := Same.new (Same.refl H') hTp
      generalize hH1 : upd H' Tp (.tup [.int (i : Nat), .str ⟨#[c]⟩]) = H1 at sT ⊢
      have eT : H1 Tp = some (.tup [.int (i : Nat), .str ⟨#[c]⟩]) := by rw [← hH1, upd_same]
      have hE1 : LamX.ExtN H H1 := hE.trans (.of sT)
      have hT1 := Tabs.same hT' sT
      have hD1 := sT _ _ hDq
      have hp1 : PendR (cF K) H1 st qs := hp'.ext (.of sT)
      have hb1 := sT _ _ hbx
      refine ⟨Tp, _, rfl, SqT.of eT, rfl, _, _, rfl, _, _, rfl, rfl, .bl false, rfl, _, rfl, ite_f rfl ⟨.str ⟨#[c]⟩, rfl, _, _, rfl, rfl, _, rfl, ite_f ?_ ⟨.str ⟨#[c]⟩, rfl, rfl, _, rfl, ite2 (fun e => ?_) fun e => ite_f rfl ?_⟩⟩⟩
      · rcases hcs with ⟨rfl, _⟩ | ⟨rfl, _⟩ | ⟨rfl, _⟩ <;> decide +kernel
      · -- a closing sign: something is open
        have ec : c = 41 := by
          rcases hcs with ⟨rfl, _⟩ | ⟨rfl, _⟩ | ⟨rfl, _⟩
          · exact absurd e (by decide +kernel)
          · exact absurd e (by decide +kernel)
          · rfl
        subst ec
        rcases hcs with ⟨z, _⟩ | ⟨z, _⟩ | ⟨_, pp, r, rfl, hs'⟩
        · cases z
        · cases z
        have hql2 : qs.reverse.length = r.length + 1 := by rw [List.length_reverse, hql]; rfl
        refine ⟨.ref D, rfl, .ref D, _, rfl, .inl ⟨_, SqL.of hD1, rfl⟩, rfl, _, rfl, ite_f (decide_eq_false fun z => ?_) ⟨PInv K u H (i + 1), ⟨.str ⟨#[41]⟩, rfl, rfl, _, rfl, ite_f (by decide +kernel) ?_⟩, fun _ _ z => z⟩⟩
        · have z2 := V.int.inj z
          omega
        -- the piece is made
        obtain ⟨a, xs, ws, rfl, ha, hfp, hpr⟩ := (show ∃ a xs ws, qs = .ref a :: ws ∧ H1 a = some (.tup xs) ∧ FtnL (cF K) H1 pp xs ∧ PendR (cF K) H1 r ws from hp1)
        have hx : ExtD D H1 (upd H1 D (.lst ws.reverse)) := ExtD.put (ExtD.refl D H1)
        have hwp : sizeL pp ≤ i := by
          have : 1 + sizeL pp + wtL r ≤ i := hwl
          omega
        refine ⟨fun v H2 => H2 D = some (.lst ws.reverse) ∧ PendR (cF K) H2 r ws ∧ Ftn (cF K) H2 (.bas (sortT pp)) v ∧ LamX.ExtN H H2 ∧ LamX.Tabs (TT K) H2 ∧ H2 b = some (.tup bx), ⟨.str ⟨#[41]⟩, rfl, rfl, _, rfl, ite_f (by decide +kernel) ⟨.ref D, rfl, tyL hD1, D, _, .ref a, rfl, rfl, hD1, sq_last _ _, ?_⟩⟩, fun v H2 ⟨hD2, hp2, hv, hE2, hT2, hb2⟩ => ?_⟩
        · rw [sq_butlast]
          refine ⟨a, xs, pp, rfl, .inr (SqT.of (by rw [upd_ne (ne_of ha hD1 fun z => by cases z)]; exact ha)), ftnL_extD hD1 hx _ _ hfp, by omega, Tabs.put hT1 hD1, fun w H' e1 e2 e3 => ⟨e1 _ _ upd_same (fun ps z => by cases z), (PendR.extD hD1 hx hpr).ext e1, e3, fun c o ec n => e1 _ _ (by rw [upd_ne (ne_of_none ec hD0)]; exact hE1 _ _ ec n) n, e2, e1 _ _ (by rw [upd_ne (ne_of hb1 hD1 fun z => by cases z)]; exact hb1) (fun ps z => by cases z)⟩⟩
        · have hl2 := hp2.len
          refine ⟨PInv K u H (i + 1), ⟨.ref D, rfl, .ref D, _, rfl, .inl ⟨_, SqL.of hD2, rfl⟩, _, _, rfl, rfl, _, rfl, ite2 (fun e => ?_) fun e => ?_⟩, fun _ _ z => z⟩
          · cases r with
            | nil =>
              rw [List.length_reverse, hl2] at e
              exact absurd (of_decide_eq_true e) (by show ¬ ((0 : Int) < ((0 : Nat) : Int)); decide)
            | cons p2 r2 =>
              obtain ⟨a2, ys, ws2, rfl, ha2, hf2, hr2⟩ := (show ∃ a xs zs, ws = .ref a :: zs ∧ H2 a = some (.tup xs) ∧ FtnL (cF K) H2 p2 xs ∧ PendR (cF K) H2 r2 zs from hp2)
              have hs2 : st' = (p2 ++ [.bas (sortT pp)]) :: r2 ∧ fd' = none := by
                have e3 : (st', fd') = ((p2 ++ [.bas (sortT pp)]) :: r2, none) := hs'
                exact Prod.mk.inj e3
              obtain ⟨rfl, rfl⟩ := hs2
              have hyl : ys.length + 1 ≤ sizeLine := by
                have h1 := hf2.len
                have h2 := length_le p2
                have h3 : 1 + sizeL (p2 ++ [.bas (sortT pp)]) + wtL r2 + 0 ≤ i + 1 := hwt2
                rw [sizeL_app] at h3
                omega
              refine ⟨.ref D, rfl, 1, rfl, D, _, _, _, rfl, rfl, SqL.of hD2, at_last _ _, v, rfl, sz1, fun q hq => ⟨a2, q, ys, [v], rfl, rfl, SqT.of (upd_old ha2 hq), SqT.of upd_same, hyl, fun hy => ⟨.ref D, rfl, 1, rfl, D, _, _, _, rfl, rfl, upd_old hD2 hq, ix_last (by simp), ?_⟩, fun _ z => absurd z (by simp), fun _ _ q2 hq2 => ⟨.ref D, rfl, 1, rfl, D, _, _, _, rfl, rfl, upd_old (upd_old hD2 hq) hq2, ix_last (by simp), ?_⟩⟩⟩
              · subst hy
                rw [set_last]
                exact pinvA hD0 hE2 hT2 (Same.new (Same.refl H2) hq) hD2 hf2 hr2 hv (by rw [upd_same]; rfl) hb2 hrun' hwt2
              · rw [set_last]
                exact pinvA hD0 hE2 hT2 (Same.new (Same.new (Same.refl H2) hq) hq2) hD2 hf2 hr2 hv upd_same hb2 hrun' hwt2
          · cases r with
            | cons p2 r2 =>
              refine absurd (decide_eq_true ?_) e
              rw [List.length_reverse, hl2]
              show (0 : Int) < ((r2.length + 1 : Nat) : Int)
              omega
            | nil =>
              have hs2 : st' = [] ∧ fd' = some (.bas (sortT pp)) := Prod.mk.inj hs'
              obtain ⟨rfl, rfl⟩ := hs2
              refine ⟨v, rfl, ev_kids hv fun b' xs' hb' hk' => ⟨_, _, rfl, ?_⟩⟩
              exact ⟨D, b', ws, [], some (.bas (sortT pp)), _, _, _, rfl, hD0, hE2, hT2, hD2, hp2, ⟨xs', hb', fun t' z => by cases z; exact hk'⟩, hrun', hwt2⟩
      · -- no closing sign
        rcases hcs with ⟨rfl, hs'⟩ | ⟨rfl, hs'⟩ | ⟨rfl, _⟩
        · obtain ⟨rfl, rfl⟩ := Prod.mk.inj hs'
          refine ⟨PInv K u H (i + 1), ⟨.str ⟨#[40]⟩, rfl, rfl, _, rfl, ite_t (by decide +kernel) ⟨.ref D, rfl, tyL hD1, by decide, fun q hq => ⟨D, _, .ref q, rfl, rfl, upd_old hD1 hq, ?_, ?_⟩⟩⟩, fun _ _ z => z⟩
          · rw [List.length_reverse]
            omega
          · exact pinvN hD0 hE1 hT1 (Same.new (Same.refl H1) hq) hD1 hp1 upd_same hb1 hrun' hwt2
        · generalize hr0 : st = r at *
          generalize hq0 : qs = ws at *
          refine ⟨PInv K u H (i + 1), ⟨.str ⟨#[111]⟩, rfl, rfl, _, rfl, ite_f (by decide +kernel) ?_⟩, fun _ _ z => z⟩
          refine ⟨fun v H2 => H2 D = some (.lst ws.reverse) ∧ PendR (cF K) H2 r ws ∧ Ftn (cF K) H2 .jet v ∧ LamX.ExtN H H2 ∧ LamX.Tabs (TT K) H2 ∧ H2 b = some (.tup bx), ⟨.str ⟨#[111]⟩, rfl, rfl, _, rfl, ite_t (by decide +kernel) ⟨by decide, fun q hq x dx hx hdx hne => ?_⟩⟩, fun v H2 ⟨hD2, hp2, hv, hE2, hT2, hb2⟩ => ?_⟩
          · have sQ : Same H1 (upd H1 q (.tup [])) := Same.new (Same.refl H1) hq
            refine ⟨x, dx, .jet, q, [], upd H1 q (.tup []), by rw [tx_jet]; rfl, hx, Same.new (Same.new (Same.refl _) hdx) (by rw [upd_ne (Ne.symm hne)]; exact hx), upd_same, upd_same, rfl, by show 0 < sizeLine; omega, fun H5 s5 f5 => ⟨rfl, ?_⟩⟩
            have s6 : Same H1 H5 := sQ.trans s5
            exact ⟨s6 _ _ hD1, hp1.ext (.of s6), f5, hE1.trans (.of s6), Tabs.same hT1 s6, s6 _ _ hb1⟩
          · have hl2 := hp2.len
            refine ⟨PInv K u H (i + 1), ⟨.ref D, rfl, .ref D, _, rfl, .inl ⟨_, SqL.of hD2, rfl⟩, _, _, rfl, rfl, _, rfl, ite2 (fun e => ?_) fun e => ?_⟩, fun _ _ z => z⟩
            · cases r with
              | nil =>
                rw [List.length_reverse, hl2] at e
                exact absurd (of_decide_eq_true e) (by show ¬ ((0 : Int) < ((0 : Nat) : Int)); decide)
              | cons p2 r2 =>
                obtain ⟨a2, ys, ws2, rfl, ha2, hf2, hr2⟩ := (show ∃ a xs zs, ws = .ref a :: zs ∧ H2 a = some (.tup xs) ∧ FtnL (cF K) H2 p2 xs ∧ PendR (cF K) H2 r2 zs from hp2)
                have hs2 : st' = (p2 ++ [.jet]) :: r2 ∧ fd' = none := by
                  have e3 : (st', fd') = ((p2 ++ [.jet]) :: r2, none) := hs'
                  exact Prod.mk.inj e3
                obtain ⟨rfl, rfl⟩ := hs2
                have hyl : ys.length + 1 ≤ sizeLine := by
                  have h1 := hf2.len
                  have h2 := length_le p2
                  have h3 : 1 + sizeL (p2 ++ [.jet]) + wtL r2 + 0 ≤ i + 1 := hwt2
                  rw [sizeL_app] at h3
                  omega
                refine ⟨.ref D, rfl, 1, rfl, D, _, _, _, rfl, rfl, SqL.of hD2, at_last _ _, v, rfl, sz1, fun q hq => ⟨a2, q, ys, [v], rfl, rfl, SqT.of (upd_old ha2 hq), SqT.of upd_same, hyl, fun hy => ⟨.ref D, rfl, 1, rfl, D, _, _, _, rfl, rfl, upd_old hD2 hq, ix_last (by simp), ?_⟩, fun _ z => absurd z (by simp), fun _ _ q2 hq2 => ⟨.ref D, rfl, 1, rfl, D, _, _, _, rfl, rfl, upd_old (upd_old hD2 hq) hq2, ix_last (by simp), ?_⟩⟩⟩
                · subst hy
                  rw [set_last]
                  exact pinvA hD0 hE2 hT2 (Same.new (Same.refl H2) hq) hD2 hf2 hr2 hv (by rw [upd_same]; rfl) hb2 hrun' hwt2
                · rw [set_last]
                  exact pinvA hD0 hE2 hT2 (Same.new (Same.new (Same.refl H2) hq) hq2) hD2 hf2 hr2 hv upd_same hb2 hrun' hwt2
            · cases r with
              | cons p2 r2 =>
                refine absurd (decide_eq_true ?_) e
                rw [List.length_reverse, hl2]
                show (0 : Int) < ((r2.length + 1 : Nat) : Int)
                omega
              | nil =>
                have hs2 : st' = [] ∧ fd' = some (.jet) := Prod.mk.inj hs'
                obtain ⟨rfl, rfl⟩ := hs2
                refine ⟨v, rfl, ev_kids hv fun b' xs' hb' hk' => ⟨_, _, rfl, ?_⟩⟩
                exact ⟨D, b', ws, [], some (.jet), _, _, _, rfl, hD0, hE2, hT2, hD2, hp2, ⟨xs', hb', fun t' z => by cases z; exact hk'⟩, hrun', hwt2⟩
        · exact absurd (by decide +kernel) e
    · obtain ⟨D, b, qs, st, fd, v4, v5, v6, rfl, hD0, hE, hT', hDq, hp', ⟨bx, hbx, hfd⟩, hrun, hwt⟩ := hP
      rw [hcz, List.drop_length] at hrun
      have e : (st, fd) = ([], some u.canon) := Option.some.inj hrun
      obtain ⟨rfl, rfl⟩ := Prod.mk.inj e
      exact ⟨.bl true, rfl, true, rfl, ite_f rfl ⟨.ref b, rfl, k b bx H' hE hT' hbx (hfd _ rfl)⟩⟩
/-- a new fountain, read from a text -/
def sp_init_read (K : PySem.W.Frag) : Sp := fun vs H Q _ => ∃ x dx u H0, vs = [.ref x, .str (tx u), .non] ∧ u.size ≤ 5000 ∧ u.dep ≤ 120 ∧ H0 x = none ∧ Same H0 H ∧ H x = some (.ins (cF K) dx []) ∧ LamX.Tabs (TT K) H ∧
  ∀ H', LamX.ExtN H0 H' → LamX.Tabs (TT K) H' → Ftn (cF K) H' u.canon (.ref x) → Q .non H'
theorem ok_Fountain___init___read  (T : Txt K mg base) : MakeD P w K mg base CX0 8 "Fountain" (cF K) ["self", "text", "branches"] [.non] (sp_init_read K) := by
  refine T.init.ok 0 (by decide) sc_Fountain___init__ (fun vs H Q E h => ?_) (fun f cdv A outer s H vs Q E hr h => ?_)
  · obtain ⟨x, dx, u, H0, rfl, _⟩ := h
    rfl
  · obtain ⟨x, dx, u, H0, rfl, h5, h12, hx0, s0, hx, hT, k⟩ := h
    have hcs := canon_size u
    have hcd := canon_dep u
    have hks := kids_size u.canon
    have hcc := canon_can u
    have nx : ∀ {a : Addr} {o : HO}, H0 a = some o → a ≠ x := fun e => ne_of_none e hx0
    refine ⟨_, (pss_cons (ps_set (i := 3) sc_Fountain___init__.nd rfl (by first | exact Or.inl rfl | exact Or.inr rfl) (pe_cmpR op_isN (pv 2) pe_non (nomark _)))
      (pss_cons (ps_via (ps_if (pt_val (pv 3))
        (pss_cons (ps_set (i := 2) sc_Fountain___init__.nd rfl (by first | exact Or.inl rfl | exact Or.inr rfl) (pe_callD (ok_parsed T) (hr.mono (by decide)) (by rfl) pass0 (pa_cons (pv 1) pa_nil)))
        (pss_one (ps_set (i := 1) sc_Fountain___init__.nd rfl (by first | exact Or.inl rfl | exact Or.inr rfl) (pe_via (pe_ifExp (pt_cmpR op_eq (pv 1) (pe_gstr rfl T.gJET_TEXT) (nomark _)) (pe_gstr rfl T.gJET_TEXT) (pe_propD T.cls.c (ok_Fountain_text T) (hr.mono (by decide)) pass0 (pe_callD (ok_made T) (hr.mono (by decide)) (by rfl) pass0 (pa_cons (pv 2) pa_nil)) rfl))))))
        pss_nil))
      (pss_cons (ps_fld (pv 0) (pv 1) (by rfl))
      (pss_cons (ps_fld (pv 0) (pv 2) (by rfl))
      (pss_cons (ps_fld (pv 0) (pe_via (pe_ifExp (pt_cmpR op_eq (pv 1) (pe_gstr rfl T.gJET_TEXT) (nomark _)) (pe_tup (pa_cons pe_int (pa_cons pe_int (pa_cons pe_int (pa_cons pe_int (pa_cons pe_int pa_nil)))))) (pe_callD (ok_basin_numbers T) (hr.mono (by decide)) (by rfl) pass0 (pa_cons (pv 2) pa_nil)))) (by rfl))
      (pss_one (ps_via (ps_if (pt_val (pv 3))
        (pss_one (ps_expr (pe_callD (ok_check_numbers T) (hr.mono (by decide)) (by rfl) pass0 (pa_cons (pe_fld (pv 0) rfl) pa_nil))))
        pss_nil)))))))), ?_⟩
    refine ⟨.non, rfl, rfl, fun σ' H1 => ∃ b xs, σ' = [some (.ref x), some (.str (tx u.canon)), some (.ref b), some (.bl true)] ∧ LamX.ExtN H H1 ∧ LamX.Tabs (TT K) H1 ∧ H1 x = some (.ins (cF K) dx []) ∧ H1 b = some (.tup xs) ∧ FtnL (cF K) H1 u.canon.kids xs,
      ⟨_, rfl, _, rfl, ite_t rfl ⟨.str (tx u), rfl, u, rfl, by omega, hT, fun b xs H1 hE hT1 hb hk => ?_⟩⟩, fun σ' H1 hR => ?_⟩
    · refine ⟨fun v H2 => v = .str (tx u.canon) ∧ LamX.ExtN H1 H2 ∧ LamX.Tabs (TT K) H2, ⟨.str (tx u), rfl, rfl, _, rfl, ite2 (fun e => ?_) fun e => ?_⟩, fun v H2 ⟨ev, e2, hT2⟩ => ?_⟩
      · have et : u = .jet := tx_inj ((V.str.inj (of_decide_eq_true e)).trans tx_jet.symm)
        subst et
        exact ⟨by rw [← tx_jet]; rfl, LamX.ExtN.refl _, hT1⟩
      · refine ⟨.ref b, rfl, b, xs, u.canon.kids, rfl, .inr (SqT.of hb), hk, by omega, hT1, fun w H2 e1 e2 e3 => ev_prop e3 ⟨?_, e1, e2⟩⟩
        cases u with
        | jet => exact absurd (decide_eq_true (by rw [tx_jet])) e
        | bas l =>
          have ec : (JW.T.bas l).canon = .bas (sortT (l.map JW.T.canon)) := canon_bas l
          rw [ec]
          show V.str (tx (.bas (sortT (sortT (l.map JW.T.canon))))) = _
          rw [sortT_of (sortT_srt _)]
      · subst ev
        exact ⟨b, xs, rfl, hE.trans e2, hT2, e2 _ _ (hE _ _ hx fun ps z => by cases z) (fun ps z => by cases z), e2 _ _ hb (fun ps z => by cases z), hk.ext e2⟩
    obtain ⟨b, xs, rfl, hE1, hT1, hx1, hb1, hk1⟩ := hR
    have nbx : b ≠ x := ne_of hb1 hx1 fun z => by cases z
    have hl1 := hk1.len
    have hll := length_le u.canon.kids
    have hsl := sizeLine_eq
    have hD2 : ∀ o1 o2 : HO, ExtD x H1 (upd (upd H1 x o1) x o2) := fun o1 o2 => ExtD.put (ExtD.put (ExtD.refl x H1))
    have tT2 : ∀ (d1 d2 : Addr) (f1 f2 : List (Str × V)), LamX.Tabs (TT K) (upd (upd H1 x (.ins (cF K) d1 f1)) x (.ins (cF K) d2 f2)) := fun d1 d2 f1 f2 => Tabs.putI (Tabs.putI hT1 hx1) upd_same
    refine ⟨.str (tx u.canon), rfl, .ref x, rfl, x, _, dx, _, rfl, hx1, T.cls.c, T.cls.nw, by decide, .ref b, rfl, .ref x, rfl, x, _, dx, _, rfl, upd_same, T.cls.c, T.cls.nb, fl_l1,
      fun v H' => ∃ n, v = .ref n ∧ ExtD x H1 H' ∧ LamX.Tabs (TT K) H' ∧ H' x = some (.ins (cF K) dx (putF "branches" (.ref b) (putF "written" (.str (tx u.canon)) []))) ∧ H' n = some (.tup (nums u.canon)), ⟨_, rfl, rfl, _, rfl, ite2 (fun e => ?_) fun e => ?_⟩, fun v H' hv => ?_⟩
    · have et : u.canon = .jet := tx_inj ((V.str.inj (of_decide_eq_true e)).trans tx_jet.symm)
      refine ⟨sz5, fun p hp => ⟨p, rfl, ExtD.trans (hD2 _ _) (.of (.of (Same.new (Same.refl _) hp))), Tabs.same (tT2 _ _ _ _) (Same.new (Same.refl _) hp), upd_old upd_same hp, ?_⟩⟩
      rw [upd_same, et]
      rfl
    · cases hu : u.canon with
      | jet => exact absurd (decide_eq_true (by rw [hu, tx_jet])) e
      | bas l =>
        rw [hu] at hk1 hl1 hll hks hcs
        refine ⟨.ref b, rfl, b, xs, l, rfl, hD2 _ _ _ _ nbx hb1 (fun ps z => by cases z), ftnL_extX hx1 (by decide) (hD2 _ _) _ _ hk1, ?_, fun H' p s e => ⟨p, rfl, ExtD.trans (hD2 _ _) (.of (.of s)), Tabs.same (tT2 _ _ _ _) s, s _ _ upd_same, e⟩⟩
        have h1 : xs.length = l.length := hl1
        have h2 : l.length ≤ sizeL l := hll
        have h3 : sizeL l ≤ (JW.T.bas l).size := hks
        omega
    · obtain ⟨n, rfl, eD, tT, e1, e2⟩ := hv
      have nn : n ≠ x := ne_of e2 e1 fun z => by cases z
      refine ⟨.ref x, rfl, x, _, dx, _, rfl, e1, T.cls.c, T.cls.nn, fl_l2, fun _ HF => HF = upd H' x (.ins (cF K) dx (putF "numbers" (.ref n) (putF "branches" (.ref b) (putF "written" (.str (tx u.canon)) [])))), ⟨.bl true, rfl, _, rfl, ite_t rfl ⟨.ref x, rfl, x, _, dx, _, _, rfl, upd_same, T.cls.c, T.cls.nn, by rw [fl_put]; exact fl_n, n, u.canon, rfl, by rw [upd_ne nn]; exact e2, by omega, by omega, rfl⟩⟩, fun _ HF eF => ?_⟩
      subst eF
      refine k _ (fun a o e nt => ?_) (Tabs.putI tT e1) (ftn_iff.mpr ⟨x, dx, b, n, xs, rfl, by rw [upd_same, fl_put], ?_, by rw [upd_ne nn]; exact e2, ftnL_extX hx1 (by decide) (ExtD.put eD) _ _ hk1⟩)
      · rw [upd_ne (nx e)]
        exact eD _ _ (nx e) (hE1 _ _ (s0 _ _ e) nt) nt
      · rw [upd_ne nbx]
        exact eD _ _ nbx hb1 (fun ps z => by cases z)
/-- the chain of so many basins -/
def sp__law_chain (K : PySem.W.Frag) : Sp := fun vs H Q _ => ∃ (n : Nat), vs = [.int n] ∧ 1 ≤ n ∧ n ≤ 120 ∧ LamX.Tabs (TT K) H ∧ ∀ v H', LamX.ExtN H H' → LamX.Tabs (TT K) H' → Ftn (cF K) H' (chT .jet n) v → Q v H'
theorem tx_chain (t : T) (n : Nat) : (SX.S (List.replicate n 40) ++ tx t) ++ SX.S (List.replicate n 41) = tx (chT t n) := by
  have e : ∀ u : JW.T, tx u = SX.S u.codes := fun u => rfl
  rw [e, e, SX.S_cat, SX.S_cat, ch_codes]
theorem ok__law_chain  (T : Txt K mg base) : CallD P w K mg base CX0 71 "_law_chain" ["_law_many"] [] (sp__law_chain K) := by
  refine T.d__law_chain.ok sc__law_chain (fun vs H Q E h => ?_) (fun f cdv A outer s H vs Q E hr h => ?_)
  · obtain ⟨n, rfl, _⟩ := h
    rfl
  · obtain ⟨n, rfl, h1, h2, hT, k⟩ := h
    have hsl := sizeLine_eq
    have hol : ("o" : Str).length = 1 := by decide +kernel
    have hcs := ch_size .jet n
    have hcd := ch_dep .jet n
    have hj1 : JW.T.jet.size = 1 := rfl
    have hj0 : JW.T.jet.dep = 0 := rfl
    refine ⟨_, (pss_one (ps_ret (pe_makeD (ok_Fountain___init___read T) (hr.mono (by decide)) (by rfl) pass0 (pa_cons (pe_op op_add_str (pe_op op_add_str (pe_op op_rep_str pe_str (pv 0)) pe_str) (pe_op op_rep_str pe_str (pv 0))) pa_nil)))), ?_⟩
    refine ⟨_, rfl, 40, n, congrArg V.str op_S, rfl, h1, by omega, _, _, rfl, rfl, ?_, _, rfl, 41, n, congrArg V.str cl_S, rfl, h1, by omega, _, _, rfl, rfl, ?_, fun x dx hx hdx hne => ?_⟩
    · rw [SX.S_len, List.length_replicate, hol]
      omega
    · show (SX.S (List.replicate n 40) ++ ("o" : Str)).length + (SX.S (List.replicate n 41)).length ≤ sizeLine
      rw [o_S, show SX.S (List.replicate n 40) ++ SX.S [111] = SX.S (List.replicate n 40 ++ [111]) from SX.S_cat _ _, SX.S_len, SX.S_len, List.length_append, List.length_replicate, List.length_replicate, List.length_singleton]
      omega
    have s4 : Same H (upd (upd H dx (.own x)) x (.ins (cF K) dx [])) := Same.new (Same.new (Same.refl H) hdx) (by rw [upd_ne (Ne.symm hne)]; exact hx)
    refine ⟨x, dx, chT .jet n, H, by rw [← tx_chain, tx_jet]; rfl, by omega, by omega, hx, s4, upd_same, Tabs.same hT s4, fun H' e' T' f' => ⟨rfl, k _ H' e' T' ?_⟩⟩
    rw [can_canon _ (ch_can (p := .jet) trivial n)] at f'
    exact f'
/-- the items in a drawn order -/
def sp__law_mixed (K : PySem.W.Frag) : Sp := fun vs H Q _ => ∃ (d l : Addr) (xs : List V), vs = [.ref d, .ref l] ∧ FeedAt H d ∧ SqL K H l xs ∧ xs.length ≤ 100 ∧ ∀ p ys H', H p = none → p ≠ d → ys.Perm xs → FeedAt H' d → SamD d H H' → H' p = some (.lst ys) → Q (.ref p) H'
theorem ok__law_mixed  (T : Txt K mg base) : CallD P w K mg base CX0 4 "_law_mixed" ["_law_feed_here", "_law_items"] [] (sp__law_mixed K) := by
  refine T.d__law_mixed.ok sc__law_mixed (fun vs H Q E h => ?_) (fun f cdv A outer s H vs Q E hr h => ?_)
  · obtain ⟨d, l, xs, rfl, _⟩ := h
    rfl
  · obtain ⟨d, l, xs, rfl, hD, hS, hz, k⟩ := h
    refine ⟨_, (pss_cons (ps_par (i := 2) (j := 3) (by rfl) sc__law_mixed.nd rfl rfl (by decide) rfl rfl (pa_cons (pe_callTy call_list_of (by rfl) T.n_list (by decide +kernel) (pa_cons (pv 1) pa_nil)) (pa_cons (pe_lst pa_nil) pa_nil)) (by rfl))
      (pss_cons (ps_while PassesOwn.never (pt_cmpR (op_neNilK (K := K) rfl hr.units0) (pv 2) (pe_lst pa_nil) (nomark _))
        (pss_one (ps_expr (pe_bm PySem.F.plainAttrs_list PySem.F.slot_list_append PySem.F.type_list_append mt_append (pv 3) (pa_cons (pe_bm PySem.F.plainAttrs_list PySem.F.slot_list_pop PySem.F.type_list_pop mt_popAt (pv 2) (pa_cons (pe_callD (ok__law_draw T) (hr.mono (by decide)) (by rfl) pass0 (pa_cons (pv 0) (pa_cons (pe_callB call_len (by rfl) T.n_len (by decide +kernel) (pa_cons (pv 2) pa_nil)) pa_nil))) pa_nil)) pa_nil)))))
      (pss_one (ps_ret (pv 3))))), ?_⟩
    refine ⟨.ref l, rfl, l, xs, rfl, .inl hS, fun p hp => ⟨Nat.zero_le _, fun q hq => ⟨_, _, rfl, ?_⟩⟩⟩
    have hpq : p ≠ q := ne_of_none upd_same hq
    have q0 : H q = none := ((Same.refl H).new hp).free hq
    have npd := hD.ne hp
    have S1 : FeedAt (upd H p (.lst xs)) d := hD.same ((Same.refl H).new hp)
    have nqd := S1.ne hq
    refine while_by (fun σ' H' => ∃ (ls fs : List V), σ' = [some (.ref d), some (.ref l), some (.ref p), some (.ref q)] ∧ FeedAt H' d ∧ SamD d H H' ∧ H' p = some (.lst ls) ∧ H' q = some (.lst fs) ∧ (fs ++ ls).Perm xs)
      (fun σ' H' => match H' p with | some (.lst ls) => ls.length | _ => 0) ⟨xs, [], rfl, S1.same ((Same.refl _).new hq), ((SamD.refl d H).new hp).new hq, upd_old upd_same hq, upd_same, List.Perm.refl _⟩ ?_ ?_
    · rintro σ' H1 ⟨ls, fs, rfl, S2, sm, hp1, hq1, pm⟩
      have hlen := pm.length_eq
      rw [List.length_append] at hlen
      refine ⟨.ref p, rfl, Nat.zero_le _, fun z hz0 => ⟨p, z, ls, rfl, rfl, SqL.of (upd_old hp1 hz0), SqL.of upd_same, _, rfl, ?_⟩⟩
      have sz : Same H1 (upd H1 z (.lst [])) := Same.new (Same.refl H1) hz0
      have hp2 := sz _ _ hp1
      have hq2 := sz _ _ hq1
      have S3 := S2.same sz
      have sm3 : SamD d H (upd H1 z (.lst [])) := sm.same sz
      generalize upd H1 z (.lst []) = H2 at hp2 hq2 S3 sm3 ⊢
      cases ls with
      | nil =>
        rw [List.append_nil] at pm
        exact ite_f rfl ⟨.ref q, rfl, k q fs H2 q0 nqd pm S3 sm3 hq2⟩
      | cons y r =>
        have hyl : (y :: r).length = r.length + 1 := rfl
        refine ite_t rfl ⟨.ref q, rfl, .inl ⟨rfl, _, SqL.of hq2⟩, .ref p, rfl, .inl ⟨rfl, _, SqL.of hp2⟩, .ref d, rfl, .ref p, rfl, _, (y :: r).length, rfl, .inl ⟨y :: r, SqL.of hp2, rfl⟩, d, _, rfl, S3, by omega, by omega, fun v H3 v0 v1 S4 sm4 => ?_⟩
        have hp3 := sm4 p _ npd hp2
        have hq3 := sm4 q _ nqd hq2
        have hv : v.toNat < (y :: r).length := by omega
        refine ⟨p, y :: r, v, v.toNat, (y :: r)[v.toNat], rfl, rfl, hp3, by omega, by omega, seqIndex_nat v0 v1, by simp [hv], q, fs, _, rfl, rfl, by rw [upd_ne hpq.symm]; exact hq3, ?_, ?_⟩
        · exact small1000 (by omega)
        · refine ⟨⟨(y :: r).eraseIdx v.toNat, fs ++ [(y :: r)[v.toNat]], rfl, (S4.off npd.symm).off nqd.symm, fun c o h1 e => ?_, by rw [upd_ne hpq, upd_same], upd_same, ?_⟩, ?_⟩
          · rw [upd_ne (ne_of_none e q0), upd_ne (ne_of_none e hp)]
            exact (sm3.trans sm4) c o h1 e
          · refine List.Perm.trans ?_ pm
            rw [List.append_assoc]
            refine List.Perm.append_left fs ?_
            show ((y :: r)[v.toNat] :: (y :: r).eraseIdx v.toNat).Perm (y :: r)
            exact eraseIdx_perm hv
          · show (match upd (upd H3 p (.lst ((y :: r).eraseIdx v.toNat))) q _ p with | some (.lst ls) => ls.length | _ => 0) < (match H1 p with | some (.lst ls) => ls.length | _ => 0)
            rw [upd_ne hpq, upd_same, hp1]
            show ((y :: r).eraseIdx v.toNat).length < (y :: r).length
            rw [List.length_eraseIdx, if_pos hv]
            show (y :: r).length - 1 < (y :: r).length
            simp
    · rintro σ' H1 Q1 Q2 hQ ⟨v, e, hl, h⟩
      refine ⟨v, e, hl, fun z hz0 => ?_⟩
      obtain ⟨a1, b1, ys, e1, e2, s1, s2, b2, e3, q1⟩ := h z hz0
      exact ⟨a1, b1, ys, e1, e2, s1, s2, b2, e3, hQ _ _ q1⟩
theorem ok_TooLarge___init__ (T : Txt K mg base) : ErrD P w K mg base 2 "TooLarge" (He.ga K "TooLarge") ["self", "pieces"] (spErr K (He.ga K "TooLarge") "pieces") := by
  refine T.e_TooLarge.ok sc_TooLarge___init__ (fun vs H Q E h => ?_) (fun f cdv A outer s H vs Q E hr h => ?_)
  · obtain ⟨a, v, rfl, _⟩ := h
    rfl
  · obtain ⟨a, v, rfl, ha, k⟩ := h
    refine ⟨_, (pss_cons (ps_expr (pe_cinit (by rfl) T.b_JetError.1 T.b_JetError.2 (pa_cons (pv 0) (pa_cons pe_str pa_nil))))
      (pss_one (ps_ost (pv 0) (pv 1)))), ?_⟩
    exact ⟨.ref a, rfl, a, He.ga K "TooLarge", [.str "TooLarge"], rfl, by show 1 ≤ 1000; decide, T.e_TooLarge.c.o, ha, v, rfl, .ref a, rfl, a, He.ga K "TooLarge", rfl, T.e_TooLarge.c.o, T.na_TooLarge, .inl ⟨ha, fun dx nd ne => k dx nd ne⟩⟩
theorem ok_TooDeep___init__ (T : Txt K mg base) : ErrD P w K mg base 2 "TooDeep" (He.ga K "TooDeep") ["self", "basins"] (spErr K (He.ga K "TooDeep") "basins") := by
  refine T.e_TooDeep.ok sc_TooDeep___init__ (fun vs H Q E h => ?_) (fun f cdv A outer s H vs Q E hr h => ?_)
  · obtain ⟨a, v, rfl, _⟩ := h
    rfl
  · obtain ⟨a, v, rfl, ha, k⟩ := h
    refine ⟨_, (pss_cons (ps_expr (pe_cinit (by rfl) T.b_JetError.1 T.b_JetError.2 (pa_cons (pv 0) (pa_cons pe_str pa_nil))))
      (pss_one (ps_ost (pv 0) (pv 1)))), ?_⟩
    exact ⟨.ref a, rfl, a, He.ga K "TooDeep", [.str "TooDeep"], rfl, by show 1 ≤ 1000; decide, T.e_TooDeep.c.o, ha, v, rfl, .ref a, rfl, a, He.ga K "TooDeep", rfl, T.e_TooDeep.c.o, T.na_TooDeep, .inl ⟨ha, fun dx nd ne => k dx nd ne⟩⟩
/-- what a result of the tree t gives: an error, or it -/
def OutN (K : PySem.W.Frag) (t : T) (H : Hp) (E : XK) (k : Prop) : Prop :=
  (5000 < t.size → ∀ d H', Same H H' → H' d = some (.xd [("pieces", .int (t.size : Nat))]) → E (.ref (He.ga K "TooLarge")) (some d) H') ∧
  (t.size ≤ 5000 → 120 < t.dep → ∀ d H', Same H H' → H' d = some (.xd [("basins", .int (t.dep : Nat))]) → E (.ref (He.ga K "TooDeep")) (some d) H') ∧ (t.size ≤ 5000 → t.dep ≤ 120 → k)
def sp_check_numbers_x (K : PySem.W.Frag) : Sp := fun vs H Q E => ∃ n t, vs = [.ref n] ∧ H n = some (.tup (nums t)) ∧ OutN K t H E (Q .non H)
theorem ok_check_numbers_x  (T : Txt K mg base) : CallD P w K mg base (L2.CX P w) 4 "check_numbers" ["numbers"] [] (sp_check_numbers_x K) := by
  refine T.d_check_numbers.okX sc_check_numbers (fun vs H Q E h => ?_) (fun f cdv A outer s H vs Q E hr h => ?_)
  · obtain ⟨n, t, rfl, _⟩ := h
    rfl
  · obtain ⟨n, t, rfl, hn, k1, k2, k3⟩ := h
    refine ⟨_, (pss_cons (ps_if (pt_cmpR op_gt (pe_ix ix_tup (pv 0) pe_int (fun _ _ => rfl)) (pe_gint rfl T.gMOST) (nomark _))
        (pss_one (ps_raise rfl (takes_of rfl rfl rfl rfl) (pmk_err (ok_TooLarge___init__ T) (hr.mono (by decide)) (by rfl) (pe_ix ix_tup (pv 0) pe_int (fun _ _ => rfl)))))
        pss_nil)
      (pss_one (ps_if (pt_cmpR op_gt (pe_ix ix_tup (pv 0) pe_int (fun _ _ => rfl)) (pe_gint rfl T.gDEEPEST) (nomark _))
        (pss_one (ps_raise rfl (takes_of rfl rfl rfl rfl) (pmk_err (ok_TooDeep___init__ T) (hr.mono (by decide)) (by rfl) (pe_ix ix_tup (pv 0) pe_int (fun _ _ => rfl)))))
        pss_nil))), ?_⟩
    refine ⟨.ref n, rfl, n, _, _, _, rfl, rfl, SqT.of hn, rfl, _, _, rfl, rfl, _, rfl, ite2 (fun e => ?_) fun e => ⟨.ref n, rfl, n, _, _, _, rfl, rfl, SqT.of hn, rfl, _, _, rfl, rfl, _, rfl, ite2 (fun e2 => ?_) fun e2 => ?_⟩⟩
    · have h1 := of_decide_eq_true e
      exact ⟨.ref n, rfl, n, _, _, _, rfl, rfl, SqT.of hn, rfl, fun d H' s _ z => k1 (by omega) d H' s z⟩
    · have h1 : ¬ ((5000 : Int) < (t.size : Nat)) := fun z => e (decide_eq_true z)
      have h2 := of_decide_eq_true e2
      exact ⟨.ref n, rfl, n, _, _, _, rfl, rfl, SqT.of hn, rfl, fun d H' s _ z => k2 (by omega) (by omega) d H' s z⟩
    · have h1 : ¬ ((5000 : Int) < (t.size : Nat)) := fun z => e (decide_eq_true z)
      have h2 : ¬ ((120 : Int) < (t.dep : Nat)) := fun z => e2 (decide_eq_true z)
      exact k3 (by omega) (by omega)
/-- what an operation gives whose result is the tree t -/
def OutF (K : PySem.W.Frag) (t : T) (H : Hp) (Q : VK) (E : XK) : Prop :=
  (5000 < t.size → ∀ d H', LamX.ExtN H H' → LamX.Tabs (TT K) H' → H' d = some (.xd [("pieces", .int (t.size : Nat))]) → E (.ref (He.ga K "TooLarge")) (some d) H') ∧
  (t.size ≤ 5000 → 120 < t.dep → ∀ d H', LamX.ExtN H H' → LamX.Tabs (TT K) H' → H' d = some (.xd [("basins", .int (t.dep : Nat))]) → E (.ref (He.ga K "TooDeep")) (some d) H') ∧
  (t.size ≤ 5000 → t.dep ≤ 120 → ∀ w H', LamX.ExtN H H' → LamX.Tabs (TT K) H' → Ftn (cF K) H' t w → Q w H')
theorem OutF.from {K : PySem.W.Frag} {t : T} {H H1 : Hp} {Q : VK} {E : XK} (o : OutF K t H Q E) (e : LamX.ExtN H H1) : OutF K t H1 Q E :=
  ⟨fun h d H' e' => o.1 h d H' (e.trans e'), fun h h2 d H' e' => o.2.1 h h2 d H' (e.trans e'), fun h h2 w H' e' => o.2.2 h h2 w H' (e.trans e')⟩
theorem OutF.nums {K : PySem.W.Frag} {t : T} {H : Hp} {Q : VK} {E : XK} {k : Prop} (o : OutF K t H Q E) (hT : LamX.Tabs (TT K) H) (h : t.size ≤ 5000 → t.dep ≤ 120 → k) : OutN K t H E k :=
  ⟨fun h d H' s => o.1 h d H' (.of s) (Tabs.same hT s), fun h h2 d H' s => o.2.1 h h2 d H' (.of s) (Tabs.same hT s), h⟩
def sp_allowed (K : PySem.W.Frag) : Sp := fun vs H Q E => ∃ v t, vs = [v] ∧ Ftn (cF K) H t v ∧ LamX.Tabs (TT K) H ∧ OutF K t H Q E
theorem ok_allowed  (T : Txt K mg base) : CallD P w K mg base (L2.CX P w) 5 "allowed" ["fountain"] [] (sp_allowed K) := by
  refine T.d_allowed.okX sc_allowed (fun vs H Q E h => ?_) (fun f cdv A outer s H vs Q E hr h => ?_)
  · obtain ⟨v, t, rfl, _⟩ := h
    rfl
  · obtain ⟨v, t, rfl, hf, hT, k⟩ := h
    obtain ⟨a, dx, b, n, vs, rfl, ha, hb, hn, hk⟩ := ftn_iff.mp hf
    refine ⟨_, (pss_cons (ps_expr (pe_callD (ok_check_numbers_x T) (hr.mono (by decide)) (by rfl) (passE rfl rfl rfl rfl) (pa_cons (pe_fld (pv 0) rfl) pa_nil)))
      (pss_one (ps_ret (pv 0)))), ?_⟩
    exact ⟨.ref a, rfl, a, _, dx, _, _, rfl, ha, T.cls.c, T.cls.nn, fl_n, n, t, rfl, hn, k.nums hT fun h1 h2 => ⟨.ref a, rfl, k.2.2 h1 h2 _ H (LamX.ExtN.refl H) hT hf⟩⟩
/-- Fountain.basin(parts) -/
def sp_basin (K : PySem.W.Frag) : Sp := fun vs H Q E => ∃ (C v : Addr) (xs : List V) (l : List T), vs = [.ref C, .ref v] ∧ (SqL K H v xs ∨ SqT K H v xs) ∧ FtnL (cF K) H l xs ∧ sizeL l ≤ 1048576 ∧ LamX.Tabs (TT K) H ∧ OutF K (.bas (sortT l)) H Q E
theorem ok_Fountain_basin  (T : Txt K mg base) : CmD P w K mg base (L2.CX P w) 8 (cF K) "basin" ["cls", "parts"] (sp_basin K) := by
  refine T.c_basin.okX sc_Fountain_basin (fun vs H Q E h => ?_) (fun f cdv A outer s H vs Q E hr h => ?_)
  · obtain ⟨C, v, xs, l, rfl, _⟩ := h
    rfl
  · obtain ⟨C, v, xs, l, rfl, hq, hl, hz, hT, o⟩ := h
    refine ⟨_, (pss_one (ps_ret (pe_callD (ok_allowed T) (hr.mono (by decide)) (by rfl) (passE rfl rfl rfl rfl) (pa_cons (pe_callD (ok_made T) (hr.mono (by decide)) (by rfl) pass0 (pa_cons (pe_callTy call_list_of (by rfl) T.n_list (by decide +kernel) (pa_cons (pv 1) pa_nil)) pa_nil)) pa_nil)))), ?_⟩
    refine ⟨.ref v, rfl, v, xs, rfl, hq, fun p hp => ?_⟩
    have s1 : Same H (upd H p (.lst xs)) := Same.new (Same.refl H) hp
    exact ⟨p, xs, l, rfl, .inl (SqL.of upd_same), hl.same s1, hz, Tabs.same hT s1, fun w H' e4 T4 f4 => ⟨w, _, rfl, f4, T4, o.from ((LamX.ExtN.of s1).trans e4)⟩⟩
/-- the fountain at a path that leads somewhere -/
def sp_at (K : PySem.W.Frag) : Sp := fun vs H Q _ => ∃ v t p path u, vs = [v, .ref p] ∧ Ftn (cF K) H t v ∧ SqT K H p (path.map nI) ∧ subT path t = some u ∧ t.size ≤ 1048576 ∧ ∀ w H', Same H H' → Ftn (cF K) H' u w → Q w H'
theorem sub_step {path : List Nat} {t u c : T} {i x : Nat} (h : subT path t = some u) (hx : path[i]? = some x) (hc : subT (path.take i) t = some c) : ∃ k, c.kd[x]? = some k ∧ subT (path.take (i + 1)) t = some k ∧ c.size ≤ t.size := by
  have app : ∀ (a b : List Nat) (t : JW.T), subT (a ++ b) t = (subT a t).bind (subT b) := by
    intro a
    induction a with
    | nil => intro b t; rfl
    | cons y r ih =>
      intro b t
      show (t.kd[y]?).bind (subT (r ++ b)) = ((t.kd[y]?).bind (subT r)).bind (subT b)
      cases t.kd[y]? with
      | none => rfl
      | some k => exact ih b k
  have e : path = path.take i ++ x :: path.drop (i + 1) := by
    have h1 := (List.getElem?_eq_some_iff.mp hx)
    obtain ⟨hl, he⟩ := h1
    conv => lhs; rw [← List.take_append_drop i path]
    rw [List.drop_eq_getElem_cons hl, he]
  rw [e, app, hc] at h
  have h2 : (c.kd[x]?).bind (subT (path.drop (i + 1))) = some u := h
  obtain ⟨k, e1, _⟩ := Option.bind_eq_some_iff.mp h2
  refine ⟨k, e1, ?_, ?_⟩
  · rw [List.take_succ, hx, app, hc]
    show (c.kd[x]?).bind (subT []) = some k
    rw [e1] <;> rfl
  · have := rep_size c (path.take i) t c hc
    have h3 : ∀ (q : List Nat) (t c : JW.T), subT q t = some c → c.size ≤ t.size := by
      intro q
      induction q with
      | nil => intro t c h; exact Nat.le_of_eq (by rw [Option.some.inj h])
      | cons y r ih =>
        intro t c h
        have h2 : (t.kd[y]?).bind (subT r) = some c := h
        obtain ⟨k, e1, e2⟩ := Option.bind_eq_some_iff.mp h2
        have := ih k c e2
        have h4 := size_mem (List.mem_of_getElem? e1)
        rw [← kd_size e1] at h4
        omega
    exact h3 _ t c hc
theorem kids_kd (t : T) : t.kids = t.kd := by cases t <;> rfl
/-- the piece with an index, in the heap -/
theorem kd_at {C : Addr} {H : Hp} {c k : T} {xs : List V} {y : Nat} (h : FtnL C H c.kids xs) (hk : c.kd[y]? = some k) : y < xs.length ∧ ∃ v, xs[y]? = some v ∧ Ftn C H k v := by
  rw [kids_kd] at h
  have hl : y < c.kd.length := (List.getElem?_eq_some_iff.mp hk).1
  have hy : y < xs.length := by rw [h.len]; exact hl
  refine ⟨hy, xs[y], List.getElem?_eq_getElem hy, ?_⟩
  obtain ⟨t, e1, e2⟩ := h.get (List.getElem?_eq_getElem hy)
  rw [hk] at e1
  rw [Option.some.inj e1]
  exact e2
theorem ok_Fountain_at  (T : Txt K mg base) : MethD P w K mg base CX0 3 (cF K) "at" ["self", "path"] [] (sp_at K) := by
  refine T.m_at.ok sc_Fountain_at (fun vs H Q E h => ?_) (fun f cdv A outer s H vs Q E hr h => ?_)
  · obtain ⟨v, t, p, path, u, rfl, _⟩ := h
    rfl
  · obtain ⟨v, t, p, path, u, rfl, hf, hp, hs, hz, k⟩ := h
    refine ⟨_, (pss_cons (ps_set (i := 2) sc_Fountain_at.nd rfl (by first | exact Or.inl rfl | exact Or.inr rfl) (pv 0))
      (pss_cons (ps_for PassesOwn.never rfl (pi_enumT (by rfl) T.n_enumerate (pa_cons (pv 1) pa_nil)) (pg_tup rfl (pgs_cons (pg_name (i := 3) sc_Fountain_at.nd rfl (by first | exact Or.inl rfl | exact Or.inr rfl)) (pgs_cons (pg_name (i := 4) sc_Fountain_at.nd rfl (by first | exact Or.inl rfl | exact Or.inr rfl)) pgs_nil)))
        (pss_cons (ps_if (pt_not (pt_chain op_le op_lt pe_int (pv 4) (pe_callB call_len (by rfl) T.n_len (by decide +kernel) (pa_cons (pe_propD T.cls.c (ok_Fountain_parts T) (hr.mono (by decide)) pass0 (pv 2) rfl) pa_nil))))
          pss_never
          pss_nil)
        (pss_one (ps_set (i := 2) sc_Fountain_at.nd rfl (by first | exact Or.inl rfl | exact Or.inr rfl) (pe_ix ix_tup (pe_propD T.cls.c (ok_Fountain_parts T) (hr.mono (by decide)) pass0 (pv 2) rfl) (pv 4) (fun _ _ => rfl))))))
      (pss_one (ps_ret (pv 2))))), ?_⟩
    refine ⟨v, rfl, .ref p, rfl, p, path.map nI, rfl, hp, ?_⟩
    refine for_enumT (xs := path.map nI) (fun i σ' H' => ∃ w c v3 v4, σ' = [some v, some (.ref p), some w, v3, v4] ∧ Same H H' ∧ Ftn (cF K) H' c w ∧ subT (path.take i) t = some c) ⟨v, t, none, none, rfl, Same.refl H, hf, rfl⟩ (fun i σ H' _ ⟨_, _, _, _, _, s, _⟩ => seqTN hp (.of s)) (fun i x σ' H' T' hx hP hT' => ?_) fun σ' H' hP => ?_
    · obtain ⟨w, c, v3, v4, rfl, s1, hw, hsub⟩ := hP
      obtain ⟨y, e1, rfl⟩ : ∃ y, path[i]? = some y ∧ x = nI y := by
        rw [List.getElem?_map] at hx
        cases e : path[i]? with
        | none => rw [e] at hx; cases hx
        | some y => rw [e] at hx; exact ⟨y, rfl, (Option.some.inj hx).symm⟩
      obtain ⟨kd, h1, h2, h3⟩ := sub_step hs e1 hsub
      have s2 : Same H' (upd H' T' (.tup [.int (i : Nat), nI y])) := Same.new (Same.refl H') hT'
      have hw2 := hw.same s2
      have eT : upd H' T' (.tup [.int (i : Nat), nI y]) T' = some (.tup [.int (i : Nat), nI y]) := upd_same
      have s3 : Same H (upd H' T' (.tup [.int (i : Nat), nI y])) := s1.trans s2
      generalize upd H' T' (.tup [.int (i : Nat), nI y]) = H2 at hw2 eT s3 ⊢
      refine ⟨T', _, rfl, SqT.of eT, rfl, _, _, rfl, _, _, rfl, rfl, nI y, rfl, _, _, rfl, rfl, _, rfl, ite_t (decide_eq_true (Int.natCast_nonneg y)) ⟨w, rfl, ev_kids hw2 fun b' xs' hb' hk' => ?_⟩⟩
      obtain ⟨hy, vy, ey, fy⟩ := kd_at hk' h1
      refine ⟨_, _, rfl, .inr ⟨_, SqT.of hb', rfl⟩, _, _, rfl, rfl, _, rfl, ite_f (by rw [decide_eq_true (by omega)]; rfl) ⟨w, rfl, ev_kids hw2 fun b2 xs2 hb2 hk2 => ?_⟩⟩
      obtain ⟨hy2, vy2, ey2, fy2⟩ := kd_at hk2 h1
      exact ⟨nI y, rfl, b2, xs2, _, vy2, rfl, rfl, SqT.of hb2, atI_nat ey2, vy2, kd, _, _, rfl, s3, fy2, h2⟩
    obtain ⟨w, c, v3, v4, rfl, s1, hw, hsub⟩ := hP
    rw [List.length_map, List.take_length, hs] at hsub
    have e := Option.some.inj hsub
    subst e
    exact ⟨w, rfl, k w H' s1 hw⟩
/-- the part in the place of the piece at a path -/
def sp_replaced (K : PySem.W.Frag) (n : Nat) : Sp := fun vs H Q _ => ∃ v t p path b u s, vs = [v, .ref p, u] ∧ Ftn (cF K) H t v ∧ Ftn (cF K) H b u ∧ SqT K H p (path.map nI) ∧ subT path t = some s ∧ path.length < n ∧ t.size + b.size ≤ 1048576 ∧ LamX.Tabs (TT K) H ∧
  ∀ w H', LamX.ExtN H H' → LamX.Tabs (TT K) H' → Ftn (cF K) H' (repT b path t) w → Q w H'
theorem FtnL.set {C : Addr} {H : Hp} : ∀ {l : List T} {xs : List V} {i : Nat} {t : T} {v : V}, FtnL C H l xs → Ftn C H t v → FtnL C H (l.set i t) (xs.set i v)
  | [], xs, i, t, v, h, _ => by
    have e : xs = [] := h
    rw [e]
    rfl
  | u :: r, xs, i, t, v, h, hv => by
    obtain ⟨x, q, rfl, h1, h2⟩ := (show ∃ x q, xs = x :: q ∧ Ftn C H u x ∧ FtnL C H r q from h)
    cases i with
    | zero => exact ⟨v, q, rfl, hv, h2⟩
    | succ i => exact ⟨x, q.set i v, rfl, h1, FtnL.set h2 hv⟩
theorem step_replaced  (T : Txt K mg base) (n : Nat) (ih : CallD P w K mg base CX0 (6 + n) "replaced" ["fountain", "path", "part"] [] (sp_replaced K n)) : CallD P w K mg base CX0 (6 + n + 1) "replaced" ["fountain", "path", "part"] [] (sp_replaced K (n + 1)) := by
  refine T.d_replaced.ok sc_replaced (fun vs H Q E h => ?_) (fun f cdv A outer s H vs Q E hr h => ?_)
  · obtain ⟨v, t, p, path, b, u, s, rfl, _⟩ := h
    rfl
  · obtain ⟨v, t, p, path, b, u, sb, rfl, hv, hu, hp, hs, hn, hz, hT, k⟩ := h
    have hsl := sizeLine_eq
    refine ⟨_, (pss_cons (ps_if (pt_cmpR op_eq (pe_callB call_len (by rfl) T.n_len (by decide +kernel) (pa_cons (pv 1) pa_nil)) pe_int (nomark _))
        (pss_one (ps_ret (pv 2)))
        pss_nil)
      (pss_cons (ps_set (i := 3) sc_replaced.nd rfl (by first | exact Or.inl rfl | exact Or.inr rfl) (pe_callTy call_list_of (by rfl) T.n_list (by decide +kernel) (pa_cons (pe_propD T.cls.c (ok_Fountain_parts T) (hr.mono (by omega)) pass0 (pv 0) rfl) pa_nil)))
      (pss_cons (ps_asg (pe_callD ih (hr.mono (by omega)) (by rfl) pass0 (pa_cons (pe_ix ix_list (pv 3) (pe_ix ix_tup (pv 1) pe_int (fun _ _ => rfl)) (fun _ _ => rfl)) (pa_cons (pe_slice sl_tup (pv 1) (po_some pe_int) po_none) (pa_cons (pv 2) pa_nil)))) (pg_sub (pv 3) (pe_ix ix_tup (pv 1) pe_int (fun _ _ => rfl)) set_list))
      (pss_one (ps_ret (pe_callD (ok_made T) (hr.mono (by omega)) (by rfl) pass0 (pa_cons (pv 3) pa_nil))))))), ?_⟩
    cases path with
    | nil => exact ⟨.ref p, rfl, _, _, rfl, .inr ⟨_, hp, rfl⟩, rfl, _, rfl, ite_t rfl ⟨u, rfl, k u H (LamX.ExtN.refl H) hT hu⟩⟩
    | cons i r =>
      have hs2 : (t.kd[i]?).bind (subT r) = some sb := hs
      obtain ⟨kd, hk1, hk2⟩ := Option.bind_eq_some_iff.mp hs2
      have hlen : ((i :: r).map nI).length = r.length + 1 := by rw [List.length_map] <;> rfl
      refine ⟨.ref p, rfl, _, _, rfl, .inr ⟨_, hp, rfl⟩, rfl, _, rfl, ite_f (decide_eq_false fun z => ?_) ⟨v, rfl, ev_kids hv fun b' xs' hb' hk' => ⟨b', xs', rfl, .inr (SqT.of hb'), fun l hl => ?_⟩⟩⟩
      · have z2 := V.int.inj z
        rw [hlen] at z2
        omega
      have s1 : Same H (upd H l (.lst xs')) := Same.new (Same.refl H) hl
      have el : upd H l (.lst xs') l = some (.lst xs') := upd_same
      generalize upd H l (.lst xs') = H1 at s1 el ⊢
      obtain ⟨hy, vy, ey, fy⟩ := kd_at hk' hk1
      have hp1 : SqT K H1 p ((i :: r).map nI) := seqTN hp (.of s1)
      have at0 : atI ((i :: r).map nI) 0 = some (nI i) := show atI _ ((0 : Nat) : Int) = _ from atI_nat rfl
      refine ⟨.ref l, rfl, .ref p, rfl, p, _, _, _, rfl, rfl, hp1, at0, l, xs', _, vy, rfl, rfl, SqL.of el, atI_nat ey, .ref p, rfl, 1, rfl, p, _, rfl, hp1, ?_, fun q hq => ?_⟩
      · rintro ⟨z, _⟩
        rw [hlen] at z
        have z2 : (HT.sIx (r.length + 1) 0 (some 1)) = 1 := sIx_one r.length
        rw [z2] at z
        cases z
      have e2 : cutV ((i :: r).map nI) (some 1) none = r.map nI := cut_tail (nI i) (r.map nI)
      rw [e2]
      have s2 : Same H1 (upd H1 q (.tup (r.map nI))) := Same.new (Same.refl H1) hq
      have eq : upd H1 q (.tup (r.map nI)) q = some (.tup (r.map nI)) := upd_same
      generalize upd H1 q (.tup (r.map nI)) = H2 at s2 eq ⊢
      have s12 := s1.trans s2
      have hks : kd.size < t.size := by
        have h4 := size_mem (List.mem_of_getElem? hk1)
        rw [← kd_size hk1] at h4
        exact h4
      have hrl : (i :: r).length = r.length + 1 := rfl
      refine ⟨u, rfl, vy, kd, q, r, b, u, sb, rfl, fy.same s12, hu.same s12, SqT.of eq, hk2, by omega, by omega, Tabs.same hT s12, fun w H3 e3 T3 f3 => ?_⟩
      have el3 : H3 l = some (.lst xs') := e3 _ _ (s2 _ _ el) fun ps z => by cases z
      have e13 : LamX.ExtN H1 H3 := (LamX.ExtN.of s2).trans e3
      refine ⟨.ref l, rfl, .ref p, rfl, p, _, _, _, rfl, rfl, seqTN hp1 e13, at0, l, xs', _, i, rfl, rfl, el3, ?_, ?_⟩
      · unfold ixN
        rw [if_pos (Int.natCast_nonneg i), if_pos (by omega)]
        rfl
      have e03 : LamX.ExtN H H3 := (LamX.ExtN.of s12).trans e3
      have hl0 : ∀ o : HO, LamX.ExtN H (upd H3 l o) := fun o c w ec n => by
        rw [upd_ne (ne_of_none ec hl)]
        exact e03 _ _ ec n
      have hkk : FtnL (cF K) H3 t.kd xs' := by
        rw [← kids_kd]
        exact FtnL.ext hk' e03
      have hf4 : FtnL (cF K) (upd H3 l (.lst (xs'.set i w))) (t.kd.set i (JW.repT b r kd)) (xs'.set i w) := ftnL_extD el3 (ExtD.put (ExtD.refl l H3)) _ _ (FtnL.set hkk f3)
      have hsz := sizeL_set (JW.repT b r kd) hk1
      have hrs := rep_size b r kd sb hk2
      have htk : t.size = 1 + sizeL t.kd := by
        conv => lhs; rw [kd_size hk1]
        rfl
      refine ⟨.ref l, rfl, l, xs'.set i w, t.kd.set i (JW.repT b r kd), rfl, .inl (SqL.of upd_same), hf4, by omega, Tabs.put T3 el3, fun w4 H4 e4 T4 f4 => k w4 H4 ((hl0 _).trans e4) T4 ?_⟩
      show Ftn (cF K) H4 (.bas (sortT (t.kd.set i (JW.repT b r (t.kd.getD i .jet))))) w4
      rw [kd_get hk1]
      exact f4
theorem ok_replaced  (T : Txt K mg base) (n : Nat) : CallD P w K mg base CX0 (6 + n) "replaced" ["fountain", "path", "part"] [] (sp_replaced K n) := callD_rec (sp := sp_replaced K) T.d_replaced (by
    rintro vs H Q E ⟨v, t, p, path, b, u, s, _, _, _, _, _, z, _⟩
    exact absurd z (Nat.not_lt_zero _)
    ) (step_replaced T) n
/-- a.put(path, b) -/
def sp_put (K : PySem.W.Frag) : Sp := fun vs H Q E => ∃ v t p path b u s, vs = [v, .ref p, u] ∧ Ftn (cF K) H t v ∧ Ftn (cF K) H b u ∧ SqT K H p (path.map nI) ∧ subT path t = some s ∧ path.length < 121 ∧ t.size + b.size ≤ 1048576 ∧ LamX.Tabs (TT K) H ∧ OutF K (repT b path t) H Q E
theorem ok_Fountain_put  (T : Txt K mg base) : MethD P w K mg base (L2.CX P w) 129 (cF K) "put" ["self", "path", "part"] [] (sp_put K) := by
  refine T.m_put.okX sc_Fountain_put (fun vs H Q E h => ?_) (fun f cdv A outer s H vs Q E hr h => ?_)
  · obtain ⟨v, t, p, path, b, u, s, rfl, _⟩ := h
    rfl
  · obtain ⟨v, t, p, path, b, u, sb, rfl, hv, hu, hp, hs, hn, hz, hT, o⟩ := h
    obtain ⟨av, dv, bv, nv, xv, rfl, hav, hbv, hnv, hkv⟩ := ftn_iff.mp hv
    refine ⟨_, (pss_cons (ps_expr (pe_methD T.cls.c (ok_Fountain_at T) (hr.mono (by decide)) pass0 (pv 0) (pa_cons (pv 1) pa_nil)))
      (pss_one (ps_ret (pe_callD (ok_allowed T) (hr.mono (by decide)) (by rfl) (passE rfl rfl rfl rfl) (pa_cons (pe_callD (ok_replaced T 121) (hr.mono (by decide)) (by rfl) pass0 (pa_cons (pv 0) (pa_cons (pe_callTy call_tuple_of (by rfl) T.n_tuple (by decide +kernel) (pa_cons (pv 1) pa_nil)) (pa_cons (pv 2) pa_nil)))) pa_nil))))), ?_⟩
    refine ⟨.ref av, rfl, av, dv, _, rfl, hav, by kernel_rfl, .ref p, rfl, .ref av, t, p, path, sb, rfl, hv, hp, hs, by omega, fun w1 H1 s1 f1 => ?_⟩
    refine ⟨.ref av, rfl, .ref p, rfl, p, path.map nI, rfl, .inr ⟨seqTN hp (.of s1), u, rfl, .ref av, t, p, path, b, u, sb, rfl, hv.same s1, hu.same s1, seqTN hp (.of s1), hs, hn, hz, Tabs.same hT s1, fun w H2 e2 T2 f2 => ⟨w, _, rfl, f2, T2, o.from ((LamX.ExtN.of s1).trans e2)⟩⟩⟩
/-- what is asked: a basin of these, or a piece put in, and the result -/
def Oper (K : PySem.W.Frag) (H : Hp) (vp va vt : V) (r : T) : Prop :=
  (va = .non ∧ ∃ a xs l, vp = .ref a ∧ (SqL K H a xs ∨ SqT K H a xs) ∧ FtnL (cF K) H l xs ∧ sizeL l ≤ 100000 ∧ r = .bas (sortT l)) ∨
  (∃ a x b t p path s, vp = .ref a ∧ SqL K H a [x] ∧ Ftn (cF K) H b x ∧ Ftn (cF K) H t va ∧ vt = .ref p ∧ SqT K H p (path.map nI) ∧ subT path t = some s ∧ path.length < 121 ∧ t.size + b.size ≤ 1000000 ∧ r = repT b path t)
def sp__law_made (K : PySem.W.Frag) : Sp := fun vs H Q _ => ∃ vp va vt r, vs = [vp, va, vt] ∧ Oper K H vp va vt r ∧ LamX.Tabs (TT K) H ∧
  ∀ q H', LamX.ExtN H H' → LamX.Tabs (TT K) H' → H' q = some (.tup (dueV r.size r.dep)) → Q (.ref q) H'
theorem ok__law_made  (T : Txt K mg base) : CallD P w K mg base CX0 132 "_law_made" ["_law_parts", "_law_a", "_law_path"] [] (sp__law_made K) := by
  refine T.d__law_made.ok sc__law_made (fun vs H Q E h => ?_) (fun f cdv A outer s H vs Q E hr h => ?_)
  · obtain ⟨vp, va, vt, r, rfl, _⟩ := h
    rfl
  · obtain ⟨vp, va, vt, r, rfl, hop, hT, k⟩ := h
    refine ⟨_, (pss_cons (ps_set (i := 3) sc__law_made.nd rfl (by first | exact Or.inl rfl | exact Or.inr rfl) (pe_tup (pa_cons pe_str pa_nil)))
      (pss_cons (ps_try_as (i := 5) rfl rfl sc__law_made.nd rfl rfl ⟨rfl, by decide, .inl T.e_JetError.g⟩ takes0 (fun W pn xe tk po => (pss_cons (ps_set (i := 4) sc__law_made.nd rfl (by first | exact Or.inl rfl | exact Or.inr rfl) (pe_via (pe_ifExp (pt_cmpR op_isN (pv 1) pe_non (nomark _)) (pe_cmethS (by rfl) T.cls.g (ok_Fountain_basin T) (hr.mono (by decide)) (fun σ => passAt tk σ) (pa_cons (pv 0) pa_nil)) (pe_methDS T.cls.c (ok_Fountain_put T) (hr.mono (by decide)) (fun σ => passAt tk σ) (pv 1) (pa_cons (pv 2) (pa_cons (pe_ix (ix_listK (K := K) rfl ) (pv 0) pe_int (fun _ _ => rfl)) pa_nil))))))
        (pss_one (ps_set (i := 3) sc__law_made.nd rfl (by first | exact Or.inl rfl | exact Or.inr rfl) (pe_tup (pa_cons pe_str (pa_cons (pe_propD T.cls.c (ok_Fountain_size T) (hr.mono (by decide)) pass0 (pv 4) rfl) (pa_cons (pe_propD T.cls.c (ok_Fountain_depth T) (hr.mono (by decide)) pass0 (pv 4) rfl) pa_nil))))))))
        (fun a oe cls dd pn hz hf => (pss_cons (ps_via (ps_if (PW.pt (pw_and (pt_val (pe_callB (call_isX hz hf) (by rfl) T.n_isinstance (by decide +kernel) (pa_cons (pv 5) (pa_cons (pe_glob (v := .ref (He.ga K "TooLarge")) rfl T.e_TooLarge.g rfl) pa_nil)))) (pw_and1 (pt_not (pt_val (pe_callB (call_isX hz hf) (by rfl) T.n_isinstance (by decide +kernel) (pa_cons (pv 5) (pa_cons (pe_glob (v := .ref (He.ga K "TooDeep")) rfl T.e_TooDeep.g rfl) pa_nil))))))))
          (pss_one (ps_set (i := 3) sc__law_made.nd rfl (by first | exact Or.inl rfl | exact Or.inr rfl) (pe_tup (pa_cons pe_str (pa_cons (pe_xf T.e_TooLarge.c.xf T.na_TooLarge hz hf (pv 5)) pa_nil)))))
          pss_nil))
        (pss_one (ps_via (ps_if (PW.pt (pw_and (pt_val (pe_callB (call_isX hz hf) (by rfl) T.n_isinstance (by decide +kernel) (pa_cons (pv 5) (pa_cons (pe_glob (v := .ref (He.ga K "TooDeep")) rfl T.e_TooDeep.g rfl) pa_nil)))) (pw_and1 (pt_not (pt_val (pe_callB (call_isX hz hf) (by rfl) T.n_isinstance (by decide +kernel) (pa_cons (pv 5) (pa_cons (pe_glob (v := .ref (He.ga K "TooLarge")) rfl T.e_TooLarge.g rfl) pa_nil))))))))
          (pss_one (ps_set (i := 3) sc__law_made.nd rfl (by first | exact Or.inl rfl | exact Or.inr rfl) (pe_tup (pa_cons pe_str (pa_cons (pe_xf T.e_TooDeep.c.xf T.na_TooDeep hz hf (pv 5)) pa_nil)))))
          pss_nil))))))
      (pss_one (ps_ret (pv 3))))), ?_⟩
    refine ⟨sz1, fun p1 hp1 => ?_⟩
    have s1 : Same H (upd H p1 (.tup [.str "other"])) := Same.new (Same.refl H) hp1
    generalize upd H p1 (.tup [.str "other"]) = H1 at s1 ⊢
    have T1 := Tabs.same hT s1
    have hsl := sizeLine_eq
    refine ⟨fun w H' => LamX.ExtN H1 H' ∧ LamX.Tabs (TT K) H' ∧ Ftn (cF K) H' r w ∧ r.size ≤ 5000 ∧ r.dep ≤ 120, ?_, ?_⟩
    · rcases hop with ⟨ea, a0, xs, l, ep, hs, hl, hz, er⟩ | ⟨a0, x, b, t, p, path, sb, ep, hs, hb, ht, et, hp, hsub, hn, hz, er⟩
      · refine ⟨va, rfl, rfl, _, rfl, ite_t (by rw [ea]; exact decide_eq_true rfl) ⟨vp, rfl, cF K, a0, xs, l, by rw [ep], ?_, hl.same s1, by omega, T1, ?_⟩⟩
        · rcases hs with hs | hs
          · exact .inl (seqN hs (.of s1))
          · exact .inr (seqTN hs (.of s1))
        rw [← er]
        refine ⟨fun h5 d H' e' T' hd => ?_, fun h5 h12 d H' e' T' hd => ?_, fun h5 h12 w H' e' T' f' => ⟨e', T', f', h5, h12⟩⟩
        · refine ⟨true, T.x_TooLarge_JetError, fun _ a na => ?_, fun z => Bool.noConfusion z⟩
          refine ⟨fun σ' H2 => ∃ q, σ' = [some vp, some va, some vt, some (.ref q), none, some (.ref a)] ∧ Same H' H2 ∧ H2 q = some (.tup [.str "large", .int (r.size : Nat)]), ?_, ?_⟩
          · refine ⟨.ref a, rfl, He.ga K "TooLarge", .ref (He.ga K "TooLarge"), .ref (He.ga K "TooLarge"), true, rfl, T.e_TooLarge.c.ex, rfl, fun u h => h, T.k_TooLarge_TooLarge, fun dd e => ⟨_, (Option.some.inj e) ▸ hd⟩, true, rfl, ite_t rfl ⟨.ref a, rfl, He.ga K "TooLarge", .ref (He.ga K "TooDeep"), .ref (He.ga K "TooDeep"), false, rfl, T.e_TooLarge.c.ex, rfl, fun u h => h, T.k_TooLarge_TooDeep, fun dd e => ⟨_, (Option.some.inj e) ▸ hd⟩, false, rfl, ite_t rfl ?_⟩⟩
            refine ⟨.ref a, rfl, rfl, rfl, d, _, _, rfl, hd, rfl, sz2, fun q hq => ⟨q, rfl, Same.new (Same.refl H') hq, upd_same⟩⟩
          rintro σ' H2 ⟨q, rfl, s2, hq⟩
          have hd := s2 _ _ hd
          refine ⟨fun σ' H3 => σ' = [some vp, some va, some vt, some (.ref q), none, some (.ref a)] ∧ H3 = H2, ?_, ?_⟩
          · exact ⟨.ref a, rfl, He.ga K "TooLarge", .ref (He.ga K "TooDeep"), .ref (He.ga K "TooDeep"), false, rfl, T.e_TooLarge.c.ex, rfl, fun u h => h, T.k_TooLarge_TooDeep, fun dd e => ⟨_, (Option.some.inj e) ▸ hd⟩, false, rfl, ite_f rfl ⟨rfl, rfl⟩⟩
          rintro σ' H3 ⟨rfl, rfl⟩
          exact ⟨.ref q, rfl, k q _ (((LamX.ExtN.of s1).trans e').trans (.of s2)) (Tabs.same T' s2) (by rw [hq]; unfold dueV; rw [if_pos h5])⟩
        · refine ⟨true, T.x_TooDeep_JetError, fun _ a na => ?_, fun z => Bool.noConfusion z⟩
          refine ⟨fun σ' H2 => σ' = [some vp, some va, some vt, some (.ref p1), none, some (.ref a)] ∧ H2 = H', ?_, ?_⟩
          · exact ⟨.ref a, rfl, He.ga K "TooDeep", .ref (He.ga K "TooLarge"), .ref (He.ga K "TooLarge"), false, rfl, T.e_TooDeep.c.ex, rfl, fun u h => h, T.k_TooDeep_TooLarge, fun dd e => ⟨_, (Option.some.inj e) ▸ hd⟩, false, rfl, ite_f rfl ⟨rfl, rfl⟩⟩
          rintro σ' H2 ⟨rfl, rfl⟩
          refine ⟨fun σ' H3 => ∃ q, σ' = [some vp, some va, some vt, some (.ref q), none, some (.ref a)] ∧ Same H2 H3 ∧ H3 q = some (.tup [.str "deep", .int (r.dep : Nat)]), ?_, ?_⟩
          · refine ⟨.ref a, rfl, He.ga K "TooDeep", .ref (He.ga K "TooDeep"), .ref (He.ga K "TooDeep"), true, rfl, T.e_TooDeep.c.ex, rfl, fun u h => h, T.k_TooDeep_TooDeep, fun dd e => ⟨_, (Option.some.inj e) ▸ hd⟩, true, rfl, ite_t rfl ⟨.ref a, rfl, He.ga K "TooDeep", .ref (He.ga K "TooLarge"), .ref (He.ga K "TooLarge"), false, rfl, T.e_TooDeep.c.ex, rfl, fun u h => h, T.k_TooDeep_TooLarge, fun dd e => ⟨_, (Option.some.inj e) ▸ hd⟩, false, rfl, ite_t rfl ?_⟩⟩
            refine ⟨.ref a, rfl, rfl, rfl, d, _, _, rfl, hd, rfl, sz2, fun q hq => ⟨q, rfl, Same.new (Same.refl H2) hq, upd_same⟩⟩
          rintro σ' H3 ⟨q, rfl, s2, hq⟩
          exact ⟨.ref q, rfl, k q _ (((LamX.ExtN.of s1).trans e').trans (.of s2)) (Tabs.same T' s2) (by rw [hq]; unfold dueV; rw [if_neg (by omega), if_pos h12])⟩
      · obtain ⟨aa, da, ba, na, xa, eva, haa, _⟩ := ftn_iff.mp (ht.same s1)
        have nn : va ≠ .non := ht.ne
        have hx := hb.same s1
        refine ⟨va, rfl, rfl, _, rfl, ite_f (decide_eq_false fun z => nn z) ⟨va, rfl, aa, da, _, eva, haa, by kernel_rfl, vt, rfl, vp, rfl, a0, [x], 0, x, ep, rfl, seqN hs (.of s1), rfl, .ref aa, t, p, path, b, x, sb, by rw [et]; rfl, by rw [← eva]; exact ht.same s1, hx, seqTN hp (.of s1), hsub, hn, by omega, T1, ?_⟩⟩
        rw [← er]
        refine ⟨fun h5 d H' e' T' hd => ?_, fun h5 h12 d H' e' T' hd => ?_, fun h5 h12 w H' e' T' f' => ⟨e', T', f', h5, h12⟩⟩
        · refine ⟨true, T.x_TooLarge_JetError, fun _ a na => ?_, fun z => Bool.noConfusion z⟩
          refine ⟨fun σ' H2 => ∃ q, σ' = [some vp, some va, some vt, some (.ref q), none, some (.ref a)] ∧ Same H' H2 ∧ H2 q = some (.tup [.str "large", .int (r.size : Nat)]), ?_, ?_⟩
          · refine ⟨.ref a, rfl, He.ga K "TooLarge", .ref (He.ga K "TooLarge"), .ref (He.ga K "TooLarge"), true, rfl, T.e_TooLarge.c.ex, rfl, fun u h => h, T.k_TooLarge_TooLarge, fun dd e => ⟨_, (Option.some.inj e) ▸ hd⟩, true, rfl, ite_t rfl ⟨.ref a, rfl, He.ga K "TooLarge", .ref (He.ga K "TooDeep"), .ref (He.ga K "TooDeep"), false, rfl, T.e_TooLarge.c.ex, rfl, fun u h => h, T.k_TooLarge_TooDeep, fun dd e => ⟨_, (Option.some.inj e) ▸ hd⟩, false, rfl, ite_t rfl ?_⟩⟩
            refine ⟨.ref a, rfl, rfl, rfl, d, _, _, rfl, hd, rfl, sz2, fun q hq => ⟨q, rfl, Same.new (Same.refl H') hq, upd_same⟩⟩
          rintro σ' H2 ⟨q, rfl, s2, hq⟩
          have hd := s2 _ _ hd
          refine ⟨fun σ' H3 => σ' = [some vp, some va, some vt, some (.ref q), none, some (.ref a)] ∧ H3 = H2, ?_, ?_⟩
          · exact ⟨.ref a, rfl, He.ga K "TooLarge", .ref (He.ga K "TooDeep"), .ref (He.ga K "TooDeep"), false, rfl, T.e_TooLarge.c.ex, rfl, fun u h => h, T.k_TooLarge_TooDeep, fun dd e => ⟨_, (Option.some.inj e) ▸ hd⟩, false, rfl, ite_f rfl ⟨rfl, rfl⟩⟩
          rintro σ' H3 ⟨rfl, rfl⟩
          exact ⟨.ref q, rfl, k q _ (((LamX.ExtN.of s1).trans e').trans (.of s2)) (Tabs.same T' s2) (by rw [hq]; unfold dueV; rw [if_pos h5])⟩
        · refine ⟨true, T.x_TooDeep_JetError, fun _ a na => ?_, fun z => Bool.noConfusion z⟩
          refine ⟨fun σ' H2 => σ' = [some vp, some va, some vt, some (.ref p1), none, some (.ref a)] ∧ H2 = H', ?_, ?_⟩
          · exact ⟨.ref a, rfl, He.ga K "TooDeep", .ref (He.ga K "TooLarge"), .ref (He.ga K "TooLarge"), false, rfl, T.e_TooDeep.c.ex, rfl, fun u h => h, T.k_TooDeep_TooLarge, fun dd e => ⟨_, (Option.some.inj e) ▸ hd⟩, false, rfl, ite_f rfl ⟨rfl, rfl⟩⟩
          rintro σ' H2 ⟨rfl, rfl⟩
          refine ⟨fun σ' H3 => ∃ q, σ' = [some vp, some va, some vt, some (.ref q), none, some (.ref a)] ∧ Same H2 H3 ∧ H3 q = some (.tup [.str "deep", .int (r.dep : Nat)]), ?_, ?_⟩
          · refine ⟨.ref a, rfl, He.ga K "TooDeep", .ref (He.ga K "TooDeep"), .ref (He.ga K "TooDeep"), true, rfl, T.e_TooDeep.c.ex, rfl, fun u h => h, T.k_TooDeep_TooDeep, fun dd e => ⟨_, (Option.some.inj e) ▸ hd⟩, true, rfl, ite_t rfl ⟨.ref a, rfl, He.ga K "TooDeep", .ref (He.ga K "TooLarge"), .ref (He.ga K "TooLarge"), false, rfl, T.e_TooDeep.c.ex, rfl, fun u h => h, T.k_TooDeep_TooLarge, fun dd e => ⟨_, (Option.some.inj e) ▸ hd⟩, false, rfl, ite_t rfl ?_⟩⟩
            refine ⟨.ref a, rfl, rfl, rfl, d, _, _, rfl, hd, rfl, sz2, fun q hq => ⟨q, rfl, Same.new (Same.refl H2) hq, upd_same⟩⟩
          rintro σ' H3 ⟨q, rfl, s2, hq⟩
          exact ⟨.ref q, rfl, k q _ (((LamX.ExtN.of s1).trans e').trans (.of s2)) (Tabs.same T' s2) (by rw [hq]; unfold dueV; rw [if_neg (by omega), if_pos h12])⟩
    rintro w H' ⟨e', T', f', h5, h12⟩
    refine ⟨w, rfl, ev_prop f' ⟨w, rfl, ev_prop f' ⟨sz3, fun q hq => ⟨.ref q, rfl, k q _ (((LamX.ExtN.of s1).trans e').trans (.of (Same.new (Same.refl H') hq))) (Tabs.same T' (Same.new (Same.refl H') hq)) ?_⟩⟩⟩⟩
    rw [upd_same]
    unfold dueV
    rw [if_neg (by omega), if_neg (by omega)]
/-- Fountain.spray(n) -/
def sp_spray (K : PySem.W.Frag) : Sp := fun vs H Q E => ∃ (C : Addr) (n : Nat), vs = [.ref C, .int n] ∧ n ≤ 1000 ∧ LamX.Tabs (TT K) H ∧ OutF K (spT n) H Q E
theorem ok_Fountain_spray  (T : Txt K mg base) : CmD P w K mg base (L2.CX P w) 8 (cF K) "spray" ["cls", "count"] (sp_spray K) := by
  refine T.c_spray.okX sc_Fountain_spray (fun vs H Q E h => ?_) (fun f cdv A outer s H vs Q E hr h => ?_)
  · obtain ⟨C, n, rfl, _⟩ := h
    rfl
  · obtain ⟨C, n, rfl, hn, hT, o⟩ := h
    refine ⟨_, (pss_one (ps_ret (pe_callD (ok_allowed T) (hr.mono (by decide)) (by rfl) (passE rfl rfl rfl rfl) (pa_cons (pe_callD (ok_made T) (hr.mono (by decide)) (by rfl) pass0 (pa_cons (pe_lc (own := [("index", 2)]) (g := gName 2) (tt := tYes) (by rfl) sc_Fountain_spray.nd (pi_range1 (by rfl) T.n_range (pa_cons (pv 1) pa_nil)) (blkOk_by (by kernel_rfl)) (fun _ _ _ _ _ => pg_name (i := 2) sc_Fountain_spray.nd rfl (by first | exact Or.inl rfl | exact Or.inr rfl)) (fun _ _ _ _ _ => pts_nil) (fun _ _ _ _ _ => (pe_via (pe_makeD (ok_Fountain___init__ T) (hr.mono (by decide)) (by rfl) pass0 (pa_cons (pe_gstr rfl T.gJET_TEXT) (pa_cons (pe_tup pa_nil) pa_nil)))))) pa_nil)) pa_nil)))), ?_⟩
    have hsl := sizeLine_eq
    refine ⟨.int n, rfl, n, rfl, by omega, by omega, fun D hD => lc_range (lo := 0) (n := n) (fun i H' => Same H H' ∧ ∃ ys, H' D = some (.lst ys) ∧ ys.length = i ∧ FtnL (cF K) H' (List.replicate i .jet) ys) ⟨Same.new (Same.refl H) hD, [], upd_same, rfl, rfl⟩ (fun i H' hi hP => ?_) fun H' hP => ?_⟩
    · obtain ⟨s1, ys, hy, ly, fy⟩ := hP
      refine ⟨rfl, fun v H4 => Same H' H4 ∧ Ftn (cF K) H4 .jet v, mk_jet (K := K) (H := H') (Q := fun v H4 => Same H' H4 ∧ Ftn (cF K) H4 .jet v) (E := E0) fun v H4 s4 f4 => ⟨s4, f4⟩, fun v H4 ⟨s4, f4⟩ => ⟨ys, s4 _ _ hy, by omega, Same.mine (s1.trans s4) hD, ys ++ [v], upd_same, by rw [List.length_append, List.length_singleton, ly], ?_⟩⟩
      rw [List.replicate_succ']
      exact ftnL_extD (s4 _ _ hy) (ExtD.put (ExtD.refl D H4)) _ _ ((fy.same s4).app (FtnL.one f4))
    obtain ⟨s1, ys, hy, ly, fy⟩ := hP
    refine ⟨D, ys, List.replicate n .jet, rfl, .inl (SqL.of hy), fy, by rw [sizeL_rep]; show n * 1 ≤ _; omega, Tabs.same hT s1, fun w H2 e2 T2 f2 => ?_⟩
    rw [sort_rep] at f2
    exact ⟨w, _, rfl, f2, T2, o.from ((LamX.ExtN.of s1).trans e2)⟩
/-- the numbers of a product -/
def sp_product_numbers (K : PySem.W.Frag) : Sp := fun vs H Q _ => ∃ n m a b, vs = [.ref n, .ref m] ∧ H n = some (.tup (nums a)) ∧ H m = some (.tup (nums b)) ∧ Can a ∧ a.jts < 18446744073709551616 ∧ ∀ p H', Same H H' → H' p = some (.tup (nums (JW.T.grf b a))) → Q (.ref p) H'
theorem ok_product_numbers  (T : Txt K mg base) : CallD P w K mg base CX0 1 "product_numbers" ["one", "other"] [] (sp_product_numbers K) := by
  refine T.d_product_numbers.ok sc_product_numbers (fun vs H Q E h => ?_) (fun f cdv A outer s H vs Q E hr h => ?_)
  · obtain ⟨n, m, a, b, rfl, _⟩ := h
    rfl
  · obtain ⟨n, m, a, b, rfl, hn, hm, hc, hj, k⟩ := h
    have hgs := grf_sizeI b a
    have hgj := grf_jts b a
    have hgd := grf_dep b a
    refine ⟨_, (pss_cons (ps_if (pt_cmpR op_eq (pe_ix ix_tup (pv 0) pe_int (fun _ _ => rfl)) pe_int (nomark _))
        (pss_one (ps_ret (pv 0)))
        pss_nil)
      (pss_cons (ps_set (i := 2) sc_product_numbers.nd rfl (by first | exact Or.inl rfl | exact Or.inr rfl) (pe_callB (call_max2 rfl) (by rfl) T.n_max (by decide +kernel) (pa_cons (pe_ix ix_tup (pv 0) pe_int (fun _ _ => rfl)) (pa_cons (pe_op op_add (pe_ix ix_tup (pv 0) pe_int (fun _ _ => rfl)) (pe_ix ix_tup (pv 1) pe_int (fun _ _ => rfl))) pa_nil))))
      (pss_cons (ps_par (i := 3) (j := 4) (by rfl) sc_product_numbers.nd rfl rfl (by decide) rfl rfl (pa_cons (pe_op op_add (pe_ix ix_tup (pv 0) pe_int (fun _ _ => rfl)) (pe_op op_mul (pe_ix ix_tup (pv 0) pe_int (fun _ _ => rfl)) (pe_op op_sub (pe_ix ix_tup (pv 1) pe_int (fun _ _ => rfl)) pe_int))) (pa_cons (pe_op op_mul (pe_ix ix_tup (pv 0) pe_int (fun _ _ => rfl)) (pe_ix ix_tup (pv 1) pe_int (fun _ _ => rfl))) pa_nil)) (by rfl))
      (pss_cons (ps_if (pt_cmpR op_eq (pv 4) pe_int (nomark _))
        (pss_one (ps_ret (pe_tup (pa_cons (pv 3) (pa_cons (pv 4) (pa_cons (pv 2) (pa_cons pe_non (pa_cons pe_non pa_nil))))))))
        pss_nil)
      (pss_one (ps_ret (pe_tup (pa_cons (pv 3) (pa_cons (pv 4) (pa_cons (pv 2) (pa_cons (pe_op op_add (pe_ix ix_tup (pv 0) pe_int (fun _ _ => rfl)) (pe_ix ix_tup (pv 1) pe_int (fun _ _ => rfl))) (pa_cons (pe_op op_add (pe_ix ix_tup (pv 0) pe_int (fun _ _ => rfl)) (pe_ix ix_tup (pv 1) pe_int (fun _ _ => rfl))) pa_nil)))))))))))), ?_⟩
    refine ⟨.ref n, rfl, n, _, _, _, rfl, rfl, SqT.of hn, rfl, rfl, _, rfl, ite2 (fun e => ⟨.ref n, rfl, ?_⟩) fun e => ?_⟩
    · have e0 := of_decide_eq_true e
      have e1 : ((a.jts : Nat) : Int) = 0 := V.int.inj e0
      refine k n H (Same.refl H) ?_
      rw [grf_closed b a hc (by omega)]
      exact hn
    have hj0 : a.jts ≠ 0 := fun z => e (decide_eq_true (by rw [z]; rfl))
    have na : nums a = [.int (a.size : Nat), .int (a.jts : Nat), .int (a.dep : Nat), .int (a.lng : Nat), .int (a.sht : Nat)] := by
      unfold nums
      rw [if_neg hj0, if_neg hj0]
    rw [if_neg hj0] at hgd
    rw [na] at hn
    have hmx : ∀ i j : Nat, (if ((j : Nat) : Int) > (i : Nat) then ((j : Nat) : Int) else (i : Nat)) = ((max i j : Nat) : Int) := fun i j => by
      split <;> omega
    have hdd : ((a.lng : Nat) : Int) + (b.dep : Nat) = ((a.lng + b.dep : Nat) : Int) := by omega
    refine ⟨.ref n, rfl, n, _, _, _, rfl, rfl, SqT.of hn, rfl, .ref n, rfl, n, _, _, _, rfl, rfl, SqT.of hn, rfl, .ref m, rfl, m, _, _, _, rfl, rfl, SqT.of hm, rfl, _, _, rfl, rfl, _, _, rfl, .ref n, rfl, n, _, _, _, rfl, rfl, SqT.of hn, rfl, .ref n, rfl, n, _, _, _, rfl, rfl, SqT.of hn, rfl, .ref m, rfl, m, _, _, _, rfl, rfl, SqT.of hm, rfl, _, _, rfl, rfl, _, _, rfl, rfl, .inl ⟨by omega, by omega⟩, _, _, rfl, rfl, .ref n, rfl, n, _, _, _, rfl, rfl, SqT.of hn, rfl, .ref m, rfl, m, _, _, _, rfl, rfl, SqT.of hm, rfl, _, _, rfl, rfl, .inl ⟨by omega, by omega⟩, _, _, rfl, _, rfl, rfl, _, rfl, ite2 (fun e2 => ?_) fun e2 => ?_⟩
    · have e3 := V.int.inj (of_decide_eq_true e2)
      have hz : (JW.T.grf b a).jts = 0 := by
        rw [hgj]
        have := Int.mul_eq_zero.mp e3
        rcases this with h | h
        · exact absurd (by omega) hj0
        · rw [show b.jts = 0 by omega, Nat.mul_zero]
      refine ⟨_, rfl, _, rfl, _, rfl, sz5, fun p hp => k p _ (Same.new (Same.refl H) hp) ?_⟩
      rw [upd_same, hdd, hmx, ← hgd]
      dsimp only
      rw [e3]
      unfold nums
      rw [if_pos hz, if_pos hz, hgs, hz]
      rfl
    · have hb0 : b.jts ≠ 0 := fun z => e2 (decide_eq_true (show V.int (((a.jts : Nat) : Int) * ((b.jts : Nat) : Int)) = V.int 0 from by rw [z]; exact congrArg V.int (Int.mul_zero _)))
      have hz : (JW.T.grf b a).jts ≠ 0 := by
        rw [hgj]
        exact fun z => hj0 ((mul_zero_iff hb0).mp z)
      have nb : nums b = [.int (b.size : Nat), .int (b.jts : Nat), .int (b.dep : Nat), .int (b.lng : Nat), .int (b.sht : Nat)] := by
        unfold nums
        rw [if_neg hb0, if_neg hb0]
      rw [nb] at hm
      refine ⟨_, rfl, _, rfl, _, rfl, .ref n, rfl, n, _, _, _, rfl, rfl, SqT.of hn, rfl, .ref m, rfl, m, _, _, _, rfl, rfl, SqT.of hm, rfl, _, _, rfl, rfl, .ref n, rfl, n, _, _, _, rfl, rfl, SqT.of hn, rfl, .ref m, rfl, m, _, _, _, rfl, rfl, SqT.of hm, rfl, _, _, rfl, rfl, sz5, fun p hp => k p _ (Same.new (Same.refl H) hp) ?_⟩
      rw [upd_same, hdd, hmx, ← hgd]
      unfold nums
      rw [if_neg hz, if_neg hz, hgs, hgj, grf_lng hb0 a hj0, grf_sht hb0 a hj0]
      simp only [Int.natCast_add, Int.natCast_mul]
theorem ok_Fountain_is_jet  (T : Txt K mg base) : PropD P w K mg base CX0 1 (cF K) "is_jet" (spV K fun t => .bl (decide (t = .jet))) := by
  refine T.p_is_jet.ok sc_Fountain_is_jet (fun vs H Q E h => ?_) (fun f cdv A outer s H vs Q E hr h => ?_)
  · obtain ⟨v, t, rfl, _⟩ := h
    rfl
  · obtain ⟨v, t, rfl, hf, k⟩ := h
    obtain ⟨a, dx, b, n, vs, rfl, ha, hb, hn, hk⟩ := ftn_iff.mp hf
    refine ⟨_, (pss_one (ps_ret (pe_cmpR op_eq (pe_fld (pv 0) rfl) (pe_gstr rfl T.gJET_TEXT) (nomark _)))), ?_⟩
    refine ⟨.ref a, rfl, a, _, dx, _, _, rfl, ha, T.cls.c, T.cls.nw, fl_w, rfl, ?_⟩
    show Q (V.bl (decide (V.str (tx t) = V.str "o"))) H
    rw [show decide (V.str (tx t) = V.str "o") = decide (t = .jet) from decide_eq_decide.mpr ⟨fun z => tx_inj ((V.str.inj z).trans tx_jet.symm), fun z => by rw [z, tx_jet]⟩]
    exact k
/-- the part in the place of every jet -/
def sp_grafted (K : PySem.W.Frag) (n : Nat) : Sp := fun vs H Q _ => ∃ v t b u, vs = [v, u] ∧ Ftn (cF K) H t v ∧ Ftn (cF K) H b u ∧ Can t ∧ t.dep < n ∧ (JW.T.grf b t).size ≤ 1048576 ∧ LamX.Tabs (TT K) H ∧ ∀ w H', LamX.ExtN H H' → LamX.Tabs (TT K) H' → Ftn (cF K) H' (JW.T.grf b t) w → Q w H'
theorem sizeL_map_mem {f : T → T} {l : List T} {t : T} (h : t ∈ l) : (f t).size ≤ sizeL (l.map f) := len_le (List.mem_map.mpr ⟨t, h, rfl⟩)
theorem step_grafted  (T : Txt K mg base) (n : Nat) (ih : CallD P w K mg base CX0 (6 + n) "grafted" ["fountain", "part"] [] (sp_grafted K n)) : CallD P w K mg base CX0 (6 + n + 1) "grafted" ["fountain", "part"] [] (sp_grafted K (n + 1)) := by
  refine T.d_grafted.ok sc_grafted (fun vs H Q E h => ?_) (fun f cdv A outer s H vs Q E hr h => ?_)
  · obtain ⟨v, t, b, u, rfl, _⟩ := h
    rfl
  · obtain ⟨v, t, b, u, rfl, hv, hu, hc, hn, hsz, hT, k⟩ := h
    obtain ⟨av, dv, bv, nv, xv, rfl, hav, hbv, hnv, hkv⟩ := ftn_iff.mp hv
    obtain ⟨au, du, bu, nu, xu, rfl, hau, hbu, hnu, hku⟩ := ftn_iff.mp hu
    have hsl := sizeLine_eq
    refine ⟨_, (pss_cons (ps_if (pt_val (pe_propD T.cls.c (ok_Fountain_is_jet T) (hr.mono (by omega)) pass0 (pv 0) rfl))
        (pss_one (ps_ret (pv 1)))
        pss_nil)
      (pss_cons (ps_if (pt_not (pt_val (pe_propD T.cls.c (ok_Fountain_is_open T) (hr.mono (by omega)) pass0 (pv 0) rfl)))
        (pss_one (ps_ret (pv 0)))
        pss_nil)
      (pss_one (ps_ret (pe_callD (ok_made T) (hr.mono (by omega)) (by rfl) pass0 (pa_cons (pe_lc (own := [("branch", 2)]) (g := gName 2) (tt := tYes) (by rfl) sc_grafted.nd (pi_tup (pe_propD T.cls.c (ok_Fountain_parts T) (hr.mono (by omega)) pass0 (pv 0) rfl)) (blkOk_by (by kernel_rfl)) (fun _ _ _ _ _ => pg_name (i := 2) sc_grafted.nd rfl (by first | exact Or.inl rfl | exact Or.inr rfl)) (fun _ _ _ _ _ => pts_nil) (fun _ _ _ _ _ => (pe_callD ih (hr.mono (by omega)) (by rfl) pass0 (pa_cons (pv 2) (pa_cons (pv 1) pa_nil))))) pa_nil)))))), ?_⟩
    refine ⟨.ref av, rfl, ev_prop hv ⟨_, rfl, ite2 (fun e => ⟨.ref au, rfl, ?_⟩) fun e => ⟨.ref av, rfl, ev_prop hv ⟨_, rfl, ite2 (fun e1 => ⟨.ref av, rfl, ?_⟩) fun e1 => ?_⟩⟩⟩⟩
    · have e' : t = .jet := of_decide_eq_true e
      subst e'
      exact k _ _ (LamX.ExtN.refl H) hT hu
    · refine k _ _ (LamX.ExtN.refl H) hT ?_
      rw [grf_closed b t hc (by simpa using e1)]
      exact hv
    have hj : t.jts ≠ 0 := fun z => e1 (by rw [z]; rfl)
    cases t with
    | jet => exact absurd (decide_eq_true rfl) e
    | bas l =>
      rw [grf_bas] at k hsz
      have hs2 : 1 + sizeL (sortT (l.map (JW.T.grf b))) ≤ 1048576 := hsz
      rw [sizeL_perm (sortT_perm _)] at hs2
      have hll := length_le (l.map (JW.T.grf b))
      rw [List.length_map] at hll
      refine ⟨.ref av, rfl, ev_kids hv fun b' xs' hb' hk' => ⟨b', rfl, ⟨xs', SqT.of hb'⟩, fun D hD => lc_ftnT (l := l) (g := JW.T.grf b) hD (SqT.of hb') hk' ?_ hT (fun _ => rfl) (fun x t' H' Q' ht' hx' hE' hT' q' => ?_) (fun H' ys hE hT2 hy hfy => ?_)⟩⟩
      · have h1 : xs'.length = l.length := hk'.len
        omega
      · have h1 := dep_lt ht'
        have h2 := sizeL_map_mem (f := JW.T.grf b) ht'
        exact ⟨x, rfl, .ref au, rfl, x, t', b, .ref au, rfl, hx', hu.ext hE', canL_iff.mp hc.2 t' ht', by omega, by omega, hT', q'⟩
      · exact ⟨D, ys, l.map (JW.T.grf b), rfl, .inl (SqL.of hy), hfy, by omega, hT2, fun w H'' e1 e2 e3 => k w H'' (hE.trans e1) e2 e3⟩
theorem ok_grafted  (T : Txt K mg base) (n : Nat) : CallD P w K mg base CX0 (6 + n) "grafted" ["fountain", "part"] [] (sp_grafted K n) := callD_rec (sp := sp_grafted K) T.d_grafted (by
    rintro vs H Q E ⟨v, t, b, u, _, _, _, _, z, _⟩
    exact absurd z (Nat.not_lt_zero _)
    ) (step_grafted T) n
/-- the product of several fountains, or the error -/
def sp_multiplied (K : PySem.W.Frag) : Sp := fun vs H Q E => ∃ v xs ts, vs = [.ref v] ∧ SqL K H v xs ∧ FtnL (cF K) H ts xs ∧ (∀ t ∈ ts, Can t) ∧ (∀ i, (prodT (ts.take i)).jts < 18446744073709551616) ∧ LamX.Tabs (TT K) H ∧ OutF K (prodT ts) H Q E
theorem ok_multiplied  (T : Txt K mg base) : CallD P w K mg base (L2.CX P w) 129 "multiplied" ["factors"] [] (sp_multiplied K) := by
  refine T.d_multiplied.okX sc_multiplied (fun vs H Q E h => ?_) (fun f cdv A outer s H vs Q E hr h => ?_)
  · obtain ⟨v, xs, ts, rfl, _⟩ := h
    rfl
  · obtain ⟨v, xs, ts, rfl, hS, hf, hc, hj, hT, o⟩ := h
    have hlen := hf.len
    refine ⟨_, (pss_cons (ps_set (i := 1) sc_multiplied.nd rfl (by first | exact Or.inl rfl | exact Or.inr rfl) (pe_fld (pe_via (pe_makeD (ok_Fountain___init__ T) (hr.mono (by decide)) (by rfl) pass0 (pa_cons (pe_gstr rfl T.gJET_TEXT) (pa_cons (pe_tup pa_nil) pa_nil)))) rfl))
      (pss_cons (ps_for (passes_of rfl) rfl (pi_list (pv 0)) (pg_name (i := 2) sc_multiplied.nd rfl (by first | exact Or.inl rfl | exact Or.inr rfl))
        (pss_one (ps_set (i := 1) sc_multiplied.nd rfl (by first | exact Or.inl rfl | exact Or.inr rfl) (pe_callD (ok_product_numbers T) (hr.mono (by decide)) (by rfl) pass0 (pa_cons (pv 1) (pa_cons (pe_fld (pv 2) rfl) pa_nil))))))
      (pss_cons (ps_expr (pe_callD (ok_check_numbers_x T) (hr.mono (by decide)) (by rfl) (passE rfl rfl rfl rfl) (pa_cons (pv 1) pa_nil)))
      (pss_cons (ps_set (i := 3) sc_multiplied.nd rfl (by first | exact Or.inl rfl | exact Or.inr rfl) (pe_via (pe_makeD (ok_Fountain___init__ T) (hr.mono (by decide)) (by rfl) pass0 (pa_cons (pe_gstr rfl T.gJET_TEXT) (pa_cons (pe_tup pa_nil) pa_nil)))))
      (pss_cons (ps_for (passes_of rfl) rfl (pi_list (pv 0)) (pg_name (i := 2) sc_multiplied.nd rfl (by first | exact Or.inl rfl | exact Or.inr rfl))
        (pss_one (ps_set (i := 3) sc_multiplied.nd rfl (by first | exact Or.inl rfl | exact Or.inr rfl) (pe_callD (ok_grafted T 121) (hr.mono (by decide)) (by rfl) pass0 (pa_cons (pv 3) (pa_cons (pv 2) pa_nil))))))
      (pss_one (ps_ret (pv 3)))))))), ?_⟩
    refine ⟨fun v H' => Same H H' ∧ Ftn (cF K) H' .jet v, mk_jet (K := K) (H := H) (Q := fun v H' => Same H H' ∧ Ftn (cF K) H' .jet v) (E := E0) fun v H' s f => ⟨s, f⟩, fun v0 H1 ⟨s1, f0⟩ => ?_⟩
    obtain ⟨a0, d0, b0, n0, x0, rfl, ha0, hb0, hn0, hk0⟩ := ftn_iff.mp f0
    have hlt : ∀ {i : Nat} {x : V}, xs[i]? = some x → i < ts.length := fun h => by
      have := (List.getElem?_eq_some_iff.mp h).1
      omega
    have tk : ∀ {i : Nat} {t : JW.T}, ts[i]? = some t → prodT (ts.take (i + 1)) = JW.T.grf t (prodT (ts.take i)) := fun h => by
      rw [List.take_succ, h]
      exact prod_snoc _ _
    have ct : ∀ i, Can (prodT (ts.take i)) := fun i => prod_can fun t ht => hc t (List.mem_of_mem_take ht)
    refine ⟨a0, _, d0, _, _, rfl, ha0, T.cls.c, T.cls.nn, fl_n, .ref v, rfl, v, rfl, ⟨_, s1.seq hS⟩, for_list (K := K) (a := v) (xs := xs) (fun i σ' H' => ∃ n v2, σ' = [some (.ref v), some (.ref n), v2, none] ∧ Same H H' ∧ H' n = some (.tup (nums (prodT (ts.take i))))) ⟨n0, none, rfl, s1, hn0⟩ (fun i σ' H' _ ⟨_, _, _, s, _⟩ => s.seq hS) ?_ ?_⟩
    · rintro i x σ' H2 hx ⟨n, v2, rfl, s2, hn2⟩
      obtain ⟨t, e1, e2⟩ := hf.get hx
      obtain ⟨ax, dx, bx, nx, yx, rfl, hax, hbx, hnx, hkx⟩ := ftn_iff.mp (e2.same s2)
      refine ⟨.ref n, rfl, .ref ax, rfl, ax, _, dx, _, _, rfl, hax, T.cls.c, T.cls.nn, fl_n, n, nx, prodT (ts.take i), t, rfl, hn2, hnx, ct i, hj i, fun p H3 s3 hp => ⟨p, some (.ref ax), rfl, s2.trans s3, ?_⟩⟩
      rw [tk e1]
      exact hp
    rintro σ' H2 ⟨n, v2, rfl, s2, hn2⟩
    rw [hlen, List.take_length] at hn2
    have T2 := Tabs.same hT s2
    refine ⟨.ref n, rfl, n, prodT ts, rfl, hn2, (o.from (.of s2)).nums T2 fun h5 h12 => ?_⟩
    refine ⟨fun v H' => Same H2 H' ∧ Ftn (cF K) H' .jet v, mk_jet (K := K) (H := H2) (Q := fun v H' => Same H2 H' ∧ Ftn (cF K) H' .jet v) (E := E0) fun v H' s f => ⟨s, f⟩, fun v3 H3 ⟨s3, f3⟩ => ?_⟩
    have s23 := s2.trans s3
    refine ⟨.ref v, rfl, v, rfl, ⟨_, s23.seq hS⟩, for_list (K := K) (a := v) (xs := xs) (fun i σ' H' => ∃ w v2, σ' = [some (.ref v), some (.ref n), v2, some w] ∧ LamX.ExtN H H' ∧ LamX.Tabs (TT K) H' ∧ Ftn (cF K) H' (prodT (ts.take i)) w) ⟨v3, _, rfl, .of s23, Tabs.same T2 s3, f3⟩ (fun i σ' H' _ ⟨_, _, _, e, _⟩ => seqN hS e) ?_ ?_⟩
    · rintro i x σ' H4 hx ⟨w, v2, rfl, e4, T4, f4⟩
      obtain ⟨t, e1, e2⟩ := hf.get hx
      have hle := prod_take_le ts i
      have hle2 := prod_take_le ts (i + 1)
      rw [tk e1] at hle2
      refine ⟨w, rfl, x, rfl, w, prodT (ts.take i), t, x, rfl, f4, e2.ext e4, ct i, by omega, by omega, T4, fun w' H5 e5 T5 f5 => ⟨w', some x, rfl, e4.trans e5, T5, ?_⟩⟩
      rw [tk e1]
      exact f5
    rintro σ' H4 ⟨w, v2, rfl, e4, T4, f4⟩
    rw [hlen, List.take_length] at f4
    exact ⟨w, rfl, o.2.2 h5 h12 w H4 e4 T4 f4⟩
/-- a * b -/
def sp_mul (K : PySem.W.Frag) : Sp := fun vs H Q E => ∃ v t b u, vs = [v, u] ∧ Ftn (cF K) H t v ∧ Ftn (cF K) H b u ∧ Can t ∧ Can b ∧ t.jts < 18446744073709551616 ∧ t.jts * b.jts < 18446744073709551616 ∧ LamX.Tabs (TT K) H ∧ OutF K (T.grf b t) H Q E
theorem ok_Fountain___mul__  (T : Txt K mg base) : MethD P w K mg base (L2.CX P w) 130 (cF K) "__mul__" ["self", "other"] [] (sp_mul K) := by
  refine T.m___mul__.okX sc_Fountain___mul__ (fun vs H Q E h => ?_) (fun f cdv A outer s H vs Q E hr h => ?_)
  · obtain ⟨v, t, b, u, rfl, _⟩ := h
    rfl
  · obtain ⟨v, t, b, u, rfl, hv, hu, hct, hcb, hj1, hj2, hT, o⟩ := h
    obtain ⟨au, du, bu, nu, xu, rfl, hau, hbu, hnu, hku⟩ := ftn_iff.mp hu
    refine ⟨_, (pss_cons (ps_if (pt_not (pt_val (pe_callB call_isi (by rfl) T.n_isinstance (by decide +kernel) (pa_cons (pv 1) (pa_cons (pe_glob (v := .ref (cF K)) rfl T.cls.g rfl) pa_nil)))))
        pss_never
        pss_nil)
      (pss_one (ps_ret (pe_callD (ok_multiplied T) (hr.mono (by decide)) (by rfl) (passE rfl rfl rfl rfl) (pa_cons (pe_lst (pa_cons (pv 0) (pa_cons (pv 1) pa_nil))) pa_nil))))), ?_⟩
    refine ⟨.ref au, rfl, .ref au, .ref (cF K), _, _, true, rfl, .own _, T.cls.ty hau, isi_self, _, rfl, ite_f rfl ⟨v, rfl, .ref au, rfl, sz2, fun p hp => ?_⟩⟩
    have s1 : Same H (upd H p (.lst [v, .ref au])) := Same.new (Same.refl H) hp
    refine ⟨p, [v, .ref au], [t, b], rfl, SqL.of upd_same, ⟨v, [.ref au], rfl, hv.same s1, .ref au, [], rfl, hu.same s1, rfl⟩, fun x hx => ?_, fun i => ?_, Tabs.same hT s1, o.from (.of s1)⟩
    · rcases List.mem_cons.mp hx with e | e
      · rw [e]
        exact hct
      · rw [List.mem_singleton.mp e]
        exact hcb
    · match i with
      | 0 => show (1 : Nat) < _; decide
      | 1 => exact hj1
      | i + 2 =>
        rw [List.take_of_length_le (by show 2 ≤ i + 2; omega), prod_two, grf_jts]
        exact hj2
/-- what is asked: a list of at most 63 ints -/
def sp_law (K : PySem.W.Frag) : Sp := fun vs H Q _ => ∃ (a : Addr) (ns : List Int), vs = [.ref a] ∧ SqL K H a (ns.map V.int) ∧ ns.length ≤ 63 ∧ LamX.Tabs (TT K) H ∧ ∀ H', Q (.bl true) H'
theorem OutF.ok {K : PySem.W.Frag} {t : T} {H : Hp} {Q : VK} {E : XK} (h5 : t.size ≤ 5000) (h12 : t.dep ≤ 120) (k : ∀ w H', LamX.ExtN H H' → LamX.Tabs (TT K) H' → Ftn (cF K) H' t w → Q w H') : OutF K t H Q E :=
  ⟨fun h => absurd h (by omega), fun _ h => absurd h (by omega), fun _ _ => k⟩
theorem sp_size (n : Nat) : (spT n).size = 1 + n := by
  show 1 + sizeL (List.replicate n T.jet) = _
  rw [sizeL_rep]
  show 1 + n * 1 = _
  omega
theorem depL_jet (n : Nat) : depL (List.replicate n T.jet) = 0 := by
  cases n with
  | zero => rfl
  | succ n => rw [depL_rep (n + 1) T.jet (by omega)]; rfl
theorem sp_dep (n : Nat) : (spT n).dep = 1 := by
  show 1 + depL (List.replicate n T.jet) = 1
  rw [depL_jet]
theorem sp_jts (n : Nat) : (spT n).jts = n := by
  show jtsL (List.replicate n T.jet) = n
  rw [jtsL_rep]
  show n * 1 = n
  omega
theorem br_size (n m : Nat) : (broadT n m).size = 1 + n * (1 + m) := by
  show 1 + sizeL (List.replicate n (spT m)) = _
  rw [sizeL_rep, sp_size]
theorem br_jts (n m : Nat) : (broadT n m).jts = n * m := by
  show jtsL (List.replicate n (spT m)) = _
  rw [jtsL_rep, sp_jts]
theorem br_dep {n m : Nat} (h : 0 < n) : (broadT n m).dep = 2 := by
  show 1 + depL (List.replicate n (spT m)) = 2
  rw [depL_rep n _ h, sp_dep]
theorem br_lng {n m : Nat} (h : 0 < n) (hm : 0 < m) : (broadT n m).lng = 2 := by
  show 1 + lngL (List.replicate n (spT m)) = 2
  rw [lngL_rep n _ h (by rw [sp_jts]; omega)]
  show 1 + (1 + lngL (List.replicate m T.jet)) = 2
  rw [lngL_rep m _ hm (by decide)]
  rfl
theorem br_can (n m : Nat) : Can (broadT n m) := can_rep (sp_can m) n
theorem depL_app (a b : List T) : depL (a ++ b) = max (depL a) (depL b) := by
  induction a with
  | nil => show depL b = max 0 (depL b); omega
  | cons t r ih =>
    show max t.dep (depL (r ++ b)) = max (max t.dep (depL r)) (depL b)
    rw [ih]
    omega
theorem flat_rep (n : Nat) (x : V) : (List.replicate n [x]).flatten = List.replicate n x := by
  induction n with
  | zero => rfl
  | succ n ih => rw [List.replicate_succ, List.flatten_cons, ih, List.replicate_succ]; rfl
theorem bas_size (l : List T) : (T.bas (sortT l)).size = 1 + sizeL l := by
  show 1 + sizeL (sortT l) = _
  rw [sizeL_perm (sortT_perm _)]
theorem bas_dep (l : List T) : (T.bas (sortT l)).dep = 1 + depL l := by
  show 1 + depL (sortT l) = _
  rw [depL_perm (sortT_perm _)]
theorem sizes_sum : ∀ l : List T, (l.map fun t => (t.size : Int)).sum = (sizeL l : Nat)
  | [] => rfl
  | t :: r => by
    rw [List.map_cons, List.sum_cons, sizes_sum r]
    show (t.size : Int) + (sizeL r : Nat) = ((t.size + sizeL r : Nat) : Int)
    omega
theorem ftnl_perm {C : Addr} {H : Hp} {vs ys : List V} (p : ys.Perm vs) : ∀ {l : List T}, FtnL C H l vs → ∃ m, m.Perm l ∧ FtnL C H m ys := by
  induction p with
  | nil => exact fun h => ⟨_, List.Perm.refl _, h⟩
  | @cons x a b _ ih =>
    intro l h
    cases l with
    | nil => cases (show x :: b = [] from h)
    | cons t ts =>
      obtain ⟨v, r, e, h1, h2⟩ := (show ∃ v r, x :: b = v :: r ∧ Ftn C H t v ∧ FtnL C H ts r from h)
      obtain ⟨rfl, rfl⟩ := List.cons.inj e
      obtain ⟨m, pm, hm⟩ := ih h2
      exact ⟨t :: m, pm.cons t, x, a, rfl, h1, hm⟩
  | @swap x y a =>
    intro l h
    cases l with
    | nil => cases (show x :: y :: a = [] from h)
    | cons t ts =>
      obtain ⟨v, r, e, h1, h2⟩ := (show ∃ v r, x :: y :: a = v :: r ∧ Ftn C H t v ∧ FtnL C H ts r from h)
      obtain ⟨rfl, rfl⟩ := List.cons.inj e
      cases ts with
      | nil => cases (show y :: a = [] from h2)
      | cons t2 ts =>
        obtain ⟨v, r, e, h3, h4⟩ := (show ∃ v r, y :: a = v :: r ∧ Ftn C H t2 v ∧ FtnL C H ts r from h2)
        obtain ⟨rfl, rfl⟩ := List.cons.inj e
        exact ⟨t2 :: t :: ts, List.Perm.swap .., _, _, rfl, h3, _, _, rfl, h1, h4⟩
  | trans _ _ ih1 ih2 =>
    intro l h
    obtain ⟨m, pm, hm⟩ := ih2 h
    obtain ⟨m2, pm2, hm2⟩ := ih1 hm
    exact ⟨m2, pm2.trans pm, hm2⟩
theorem FtnL.rep {C : Addr} {H : Hp} {t : T} {v : V} (h : Ftn C H t v) : ∀ n, FtnL C H (List.replicate n t) (List.replicate n v)
  | 0 => rfl
  | n + 1 => ⟨v, List.replicate n v, rfl, h, FtnL.rep h n⟩
theorem ftnL_fx {C d : Addr} {H H' : Hp} {l : List T} {vs : List V} (h : FtnL C H l vs) (f : FeedAt H d) (s : ExtF d H H') : FtnL C H' l vs := ftnL_extF f s l vs h
/-- a chain stands before a spray -/
theorem srt_wide (n m : Nat) : sortT [chT .jet (n + 2), spT m] = [chT .jet (n + 2), spT m] := by
  refine sortT_of (List.pairwise_cons.mpr ⟨fun u hu => ?_, List.pairwise_singleton _ _⟩)
  rw [List.mem_singleton.mp hu]
  unfold tle
  have e : ¬ ((spT m).codes < (chT .jet (n + 2)).codes) := by
    intro h
    have h1 : (chT .jet (n + 2)).codes = 40 :: 40 :: ((chT .jet n).codes ++ [] ++ [41] ++ [] ++ [41]) := by
      show 40 :: ((40 :: ((chT .jet n).codes ++ [] ++ [41])) ++ [] ++ [41]) = _
      simp
    rw [h1] at h
    cases m with
    | zero =>
      have h2 : (spT 0).codes = [40, 41] := rfl
      rw [h2] at h
      revert h
      rw [List.cons_lt_cons_iff, List.cons_lt_cons_iff]
      omega
    | succ m =>
      have h2 : (spT (m + 1)).codes = 40 :: 111 :: (codesL (List.replicate m .jet) ++ [41]) := by
        show 40 :: ([111] ++ codesL (List.replicate m .jet) ++ [41]) = _
        simp
      rw [h2] at h
      revert h
      rw [List.cons_lt_cons_iff, List.cons_lt_cons_iff]
      omega
  rw [decide_eq_false e]
  rfl
theorem srt_wide' {n m : Nat} (h : 2 ≤ n) : sortT [chT .jet n, spT m] = [chT .jet n, spT m] := by
  obtain ⟨j, rfl⟩ : ∃ j, n = j + 2 := ⟨n - 2, by omega⟩
  exact srt_wide j m
theorem two_list {x y : Int} (h : x = y) : ([V.int x] : List V) = [V.int y] := by rw [h]
theorem two_list2 {C : Addr} {x y : Int} (h : x = y) : ([V.ref C, V.int x] : List V) = [V.ref C, V.int y] := by rw [h]
theorem fn_law (T : Txt K mg base) {f : Addr} {fd : FuncData} (F : FunD K "law" "law" (defArgs s_law) (defBody s_law) (defScope s_law) [] [] f fd) : FnOk P w K mg base CX0 136 f fd ["_law_script"] (sp_law K) := by
  refine okF F sc_law (fun vs H Q E h => ?_) (fun cdv A outer s H vs Q E hr h => ?_)
  · obtain ⟨a, ns, rfl, _⟩ := h
    rfl
  · obtain ⟨a, ns, rfl, hS, hlen, hT, k⟩ := h
    refine ⟨_, (pss_cons (ps_for PassesOwn.never rfl (pi_range1 (by rfl) T.n_range (pa_cons (pe_callB (call_max2 rfl) (by rfl) T.n_max (by decide +kernel) (pa_cons pe_int (pa_cons (pe_callB (call_min2 rfl) (by rfl) T.n_min (by decide +kernel) (pa_cons pe_int (pa_cons (pe_callB call_len (by rfl) T.n_len (by decide +kernel) (pa_cons (pv 0) pa_nil)) pa_nil))) pa_nil))) pa_nil)) (pg_name (i := 1) sc_law.nd rfl (by first | exact Or.inl rfl | exact Or.inr rfl))
        (pss_cons (ps_set (i := 2) sc_law.nd rfl (by first | exact Or.inl rfl | exact Or.inr rfl) (pe_callD (ok__law_feed T) (hr.mono (by decide)) (by rfl) pass0 (pa_cons (pv 0) (pa_cons (pv 1) pa_nil))))
        (pss_cons (ps_par (i := 3) (j := 4) (by rfl) sc_law.nd rfl rfl (by decide) rfl rfl (pa_cons (pe_op (op_own (op := .Mult) T.cls.sf (ok_Fountain___mul__ T) (hr.mono (by decide)) passL) (pe_cmethS (by rfl) T.cls.g (ok_Fountain_spray T) (hr.mono (by decide)) (passN passL) (pa_cons pe_int pa_nil)) (pe_cmethS (by rfl) T.cls.g (ok_Fountain_spray T) (hr.mono (by decide)) (passN passL) (pa_cons (pe_op op_add pe_int (pe_callD (ok__law_draw T) (hr.mono (by decide)) (by rfl) pass0 (pa_cons (pv 2) (pa_cons pe_int pa_nil)))) pa_nil))) (pa_cons (pe_op op_add pe_int (pe_callD (ok__law_draw T) (hr.mono (by decide)) (by rfl) pass0 (pa_cons (pv 2) (pa_cons pe_int pa_nil)))) pa_nil)) (by rfl))
        (pss_cons (ps_par (i := 5) (j := 6) (by rfl) sc_law.nd rfl rfl (by decide) rfl rfl (pa_cons (pe_callD (ok__law_chain T) (hr.mono (by decide)) (by rfl) pass0 (pa_cons (pv 4) pa_nil)) (pa_cons (pe_ix ix_list (pe_lst (pa_cons pe_int (pa_cons pe_int (pa_cons pe_int (pa_cons (pe_callD (ok__law_draw T) (hr.mono (by decide)) (by rfl) pass0 (pa_cons (pv 2) (pa_cons pe_int pa_nil))) pa_nil))))) (pe_callD (ok__law_draw T) (hr.mono (by decide)) (by rfl) pass0 (pa_cons (pv 2) (pa_cons pe_int pa_nil))) (fun _ _ => rfl)) pa_nil)) (by rfl))
        (pss_cons (ps_set (i := 7) sc_law.nd rfl (by first | exact Or.inl rfl | exact Or.inr rfl) (pe_op op_cat (pe_lst (pa_cons (pv 3) (pa_cons (pv 5) (pa_cons (pe_cmethS (by rfl) T.cls.g (ok_Fountain_spray T) (hr.mono (by decide)) (passN passL) (pa_cons (pv 6) pa_nil)) pa_nil)))) (pe_op op_rep (pe_lst (pa_cons (pe_makeD (ok_Fountain___init___read T) (hr.mono (by decide)) (by rfl) pass0 (pa_cons pe_str pa_nil)) pa_nil)) (pe_callD (ok__law_draw T) (hr.mono (by decide)) (by rfl) pass0 (pa_cons (pv 2) (pa_cons pe_int pa_nil))))))
        (pss_cons (ps_set (i := 7) sc_law.nd rfl (by first | exact Or.inl rfl | exact Or.inr rfl) (pe_callD (ok__law_mixed T) (hr.mono (by decide)) (by rfl) pass0 (pa_cons (pv 2) (pa_cons (pv 7) pa_nil))))
        (pss_cons (ps_set (i := 9) sc_law.nd rfl (by first | exact Or.inl rfl | exact Or.inr rfl) (pe_op op_add pe_int (pe_callB (cr_sum rfl) (by rfl) T.n_sum (by decide +kernel) (pa_cons (pe_lc (own := [("_law_part", 8)]) (g := gName 8) (tt := tYes) (by rfl) sc_law.nd (pi_list (pv 7)) (blkOk_by (by kernel_rfl)) (fun _ _ _ _ _ => pg_name (i := 8) sc_law.nd rfl (by first | exact Or.inl rfl | exact Or.inr rfl)) (fun _ _ _ _ _ => pts_nil) (fun _ _ _ _ _ => (pe_propD T.cls.c (ok_Fountain_size T) (hr.mono (by decide)) pass0 (pv 8) rfl))) pa_nil))))
        (pss_cons (ps_set (i := 10) sc_law.nd rfl (by first | exact Or.inl rfl | exact Or.inr rfl) (pe_ix ix_list (pe_lst (pa_cons (pv 7) (pa_cons (pe_callTy call_tuple_of (by rfl) T.n_tuple (by decide +kernel) (pa_cons (pv 7) pa_nil)) pa_nil))) (pe_callD (ok__law_draw T) (hr.mono (by decide)) (by rfl) pass0 (pa_cons (pv 2) (pa_cons pe_int pa_nil))) (fun _ _ => rfl)))
        (pss_cons (ps_if (pt_cmpR (op_neD hr.units) (pe_callD (ok__law_made T) (hr.mono (by decide)) (by rfl) pass0 (pa_cons (pv 10) (pa_cons pe_non (pa_cons (pe_tup pa_nil) pa_nil)))) (pe_callD (ok__law_due T) (hr.mono (by decide)) (by rfl) pass0 (pa_cons (pv 9) (pa_cons (pe_op op_add (pv 4) pe_int) pa_nil))) (nomark _))
          (pss_one (ps_ret pe_bl))
          pss_nil)
        (pss_cons (ps_par (i := 11) (j := 12) (by rfl) sc_law.nd rfl rfl (by decide) rfl rfl (pa_cons (pe_op op_add pe_int (pe_callD (ok__law_draw T) (hr.mono (by decide)) (by rfl) pass0 (pa_cons (pv 2) (pa_cons pe_int pa_nil)))) (pa_cons (pe_op op_add pe_int (pe_callD (ok__law_draw T) (hr.mono (by decide)) (by rfl) pass0 (pa_cons (pv 2) (pa_cons pe_int pa_nil)))) pa_nil)) (by rfl))
        (pss_cons (ps_set (i := 13) sc_law.nd rfl (by first | exact Or.inl rfl | exact Or.inr rfl) (pe_cmethS (by rfl) T.cls.g (ok_Fountain_basin T) (hr.mono (by decide)) (passN passL) (pa_cons (pe_lst (pa_cons (pe_callD (ok__law_chain T) (hr.mono (by decide)) (by rfl) pass0 (pa_cons (pe_op op_add (pv 11) (pv 12)) pa_nil)) (pa_cons (pe_cmethS (by rfl) T.cls.g (ok_Fountain_spray T) (hr.mono (by decide)) (passN passL) (pa_cons (pe_callD (ok__law_draw T) (hr.mono (by decide)) (by rfl) pass0 (pa_cons (pv 2) (pa_cons pe_int pa_nil))) pa_nil)) pa_nil))) pa_nil)))
        (pss_cons (ps_par (i := 14) (j := 15) (by rfl) sc_law.nd rfl rfl (by decide) rfl rfl (pa_cons (pe_op op_repT (pe_tup (pa_cons pe_int pa_nil)) (pv 11)) (pa_cons (pe_op op_add (pv 12) pe_int) pa_nil)) (by rfl))
        (pss_cons (ps_set (i := 8) sc_law.nd rfl (by first | exact Or.inl rfl | exact Or.inr rfl) (pe_cmethS (by rfl) T.cls.g (ok_Fountain_basin T) (hr.mono (by decide)) (passN passL) (pa_cons (pe_lst (pa_cons (pv 3) (pa_cons (pe_callD (ok__law_chain T) (hr.mono (by decide)) (by rfl) pass0 (pa_cons (pe_op op_add (pe_op op_sub pe_int (pv 11)) (pe_callD (ok__law_draw T) (hr.mono (by decide)) (by rfl) pass0 (pa_cons (pv 2) (pa_cons pe_int pa_nil)))) pa_nil)) pa_nil))) pa_nil)))
        (pss_cons (ps_if (pt_cmpR op_ne (pe_propD T.cls.c (ok_Fountain_size T) (hr.mono (by decide)) pass0 (pe_methD T.cls.c (ok_Fountain_at T) (hr.mono (by decide)) pass0 (pv 13) (pa_cons (pv 14) pa_nil)) rfl) (pv 15) (nomark _))
          (pss_one (ps_ret pe_bl))
          pss_nil)
        (pss_one (ps_for PassesOwn.never rfl (pi_tup (pe_tup (pa_cons (pv 8) (pa_cons (pe_callD (ok__law_chain T) (hr.mono (by decide)) (by rfl) pass0 (pa_cons (pe_op op_add pe_int (pe_callD (ok__law_draw T) (hr.mono (by decide)) (by rfl) pass0 (pa_cons (pv 2) (pa_cons pe_int pa_nil)))) pa_nil)) pa_nil)))) (pg_name (i := 16) sc_law.nd rfl (by first | exact Or.inl rfl | exact Or.inr rfl))
          (pss_cons (ps_set (i := 17) sc_law.nd rfl (by first | exact Or.inl rfl | exact Or.inr rfl) (pe_callD (ok__law_due T) (hr.mono (by decide)) (by rfl) pass0 (pa_cons (pe_op op_add (pe_op op_sub (pe_propD T.cls.c (ok_Fountain_size T) (hr.mono (by decide)) pass0 (pv 13) rfl) (pv 15)) (pe_propD T.cls.c (ok_Fountain_size T) (hr.mono (by decide)) pass0 (pv 16) rfl)) (pa_cons (pe_callB (call_max2 rfl) (by rfl) T.n_max (by decide +kernel) (pa_cons pe_int (pa_cons (pe_op op_add (pv 11) (pe_propD T.cls.c (ok_Fountain_depth T) (hr.mono (by decide)) pass0 (pv 16) rfl)) pa_nil))) pa_nil))))
          (pss_one (ps_if (pt_cmpR (op_neD hr.units) (pe_callD (ok__law_made T) (hr.mono (by decide)) (by rfl) pass0 (pa_cons (pe_lst (pa_cons (pv 16) pa_nil)) (pa_cons (pv 13) (pa_cons (pv 14) pa_nil)))) (pv 17) (nomark _))
            (pss_one (ps_ret pe_bl))
            pss_nil)))))))))))))))))))
      (pss_one (ps_ret pe_bl))), ?_⟩
    have hsl := sizeLine_eq
    obtain ⟨m, hm0, hm5, hm⟩ : ∃ m : Int, 0 ≤ m ∧ m ≤ 5 ∧ (if (if (((ns.map V.int).length : Nat) : Int) < 5 then (((ns.map V.int).length : Nat) : Int) else 5) > 2 then (if (((ns.map V.int).length : Nat) : Int) < 5 then (((ns.map V.int).length : Nat) : Int) else 5) else 2) = m := ⟨_, by split <;> split at * <;> omega, by split <;> split at * <;> omega, rfl⟩
    refine ⟨.ref a, rfl, _, _, rfl, .inl ⟨_, hS, rfl⟩, _, _, rfl, _, _, rfl, ?_⟩
    rw [hm]
    refine ⟨m, rfl, by omega, by omega, for_range (lo := 0) (n := m.toNat) (fun i σ' H' => ∃ v1 v2 v3 v4 v5 v6 v7 v8 v9 v10 v11 v12 v13 v14 v15 v16 v17 : Option V, σ' = [some (.ref a), v1, v2, v3, v4, v5, v6, v7, v8, v9, v10, v11, v12, v13, v14, v15, v16, v17] ∧ LamX.ExtN H H' ∧ LamX.Tabs (TT K) H') ⟨none, none, none, none, none, none, none, none, none, none, none, none, none, none, none, none, none, rfl, LamX.ExtN.refl H, hT⟩ ?_ fun σ' H' hP => by
      obtain ⟨_, _, _, _, _, _, _, _, _, _, _, _, _, _, _, _, _, e, _⟩ := hP
      exact k H'⟩
    rintro i σ' H3 hi ⟨v1, v2, v3, v4, v5, v6, v7, v8, v9, v10, v11, v12, v13, v14, v15, v16, v17, rfl, e3, T3⟩
    refine ⟨_, rfl, _, rfl, a, ns, i, by rw [Int.zero_add]; rfl, seqN hS e3, hlen, by omega, fun H4 d s4 d0 S4 => ?_⟩
    have T4 := Tabs.same T3 s4
    -- broad, deep
    refine ⟨_, 70, rfl, by decide, T4, OutF.ok (by rw [sp_size]; decide) (by rw [sp_dep]; decide) fun w1 H5 e5 T5 f5 => ?_⟩
    have S5 := S4.extN e5
    refine ⟨.ref d, rfl, d, 4, rfl, S5, by decide, by decide, fun x1 H6 a1 b1 S6 m6 => ⟨_, _, rfl, rfl, ?_⟩⟩
    obtain ⟨bm, hbm, bm1, bm2⟩ : ∃ bm : Nat, 66 + x1 = (bm : Int) ∧ 66 ≤ bm ∧ bm ≤ 69 := ⟨(66 + x1).toNat, by omega, by omega, by omega⟩
    have T6 := Tabs.samD T5 S5 m6
    have brs := br_size 70 bm
    have brd := br_dep (n := 70) (m := bm) (by decide)
    refine ⟨_, bm, two_list2 hbm, by omega, T6, OutF.ok (by rw [sp_size]; omega) (by rw [sp_dep]; decide) fun w2 H7 e7 T7 f7 => own_of (sp := sp_mul K) (E := E0) ((f5.fx S5 (.ofD m6)).ext e7) f7 ⟨w1, spT 70, spT bm, w2, rfl, (f5.fx S5 (.ofD m6)).ext e7, f7, sp_can _, sp_can _, by rw [sp_jts]; decide, by rw [sp_jts, sp_jts]; omega, T7, ?_⟩⟩
    rw [sp_grf]
    refine OutF.ok (by omega) (by omega) fun wb H8 e8 T8 fb => ⟨fb.ne, ?_⟩
    have S8 := (S6.extN e7).extN e8
    refine ⟨.ref d, rfl, d, 7, rfl, S8, by decide, by decide, fun x2 H9 a2 b2 S9 m9 => ⟨_, _, rfl, rfl, _, _, rfl, ?_⟩⟩
    have x49 : ExtF d H4 H9 := ((((ExtF.ofN e5).trans (.ofD m6)).trans (.ofN e7)).trans (.ofN e8)).trans (.ofD m9)
    have fb9 := fb.fx S8 (.ofD m9)
    have T9 := Tabs.samD T8 S8 m9
    obtain ⟨dN, hdN, dN1, dN2⟩ : ∃ dN : Nat, 114 + x2 = (dN : Int) ∧ 114 ≤ dN ∧ dN ≤ 120 := ⟨(114 + x2).toNat, by omega, by omega, by omega⟩
    -- chain, room
    refine ⟨_, rfl, dN, two_list hdN, by omega, by omega, T9, fun wc H10 e10 T10 fc => ?_⟩
    have S10 := S9.extN e10
    refine ⟨.ref d, rfl, d, 150, rfl, S10, by decide, by decide, fun x3 H11 a3 b3 S11 m11 => ⟨sz4, fun pl hpl => ?_⟩⟩
    have npl := S11.ne hpl
    refine ⟨.ref d, rfl, d, 4, rfl, S11.same (Same.new (Same.refl H11) hpl), by decide, by decide, fun x4 H12 a4 b4 S12 m12 => ?_⟩
    obtain ⟨rm, hrm, rm2⟩ : ∃ rm : Nat, atI [V.int 0, V.int 20, V.int 200, V.int x3] x4 = some (.int (rm : Nat)) ∧ rm ≤ 200 := by
      have hx : x4 = 0 ∨ x4 = 1 ∨ x4 = 2 ∨ x4 = 3 := by omega
      rcases hx with rfl | rfl | rfl | rfl
      · exact ⟨0, rfl, by decide⟩
      · exact ⟨20, rfl, by decide⟩
      · exact ⟨200, rfl, by decide⟩
      · refine ⟨x3.toNat, ?_, by omega⟩
        rw [Int.toNat_of_nonneg a3]
        rfl
    have x912 : ExtF d H9 H12 := (((ExtF.ofN e10).trans (.ofD m11)).trans (.ofS (Same.new (Same.refl H11) hpl))).trans (.ofD m12)
    have T12 := Tabs.samD (Tabs.same (Tabs.samD T10 S10 m11) (Same.new (Same.refl H11) hpl)) (S11.same (Same.new (Same.refl H11) hpl)) m12
    refine ⟨pl, _, _, _, rfl, rfl, SqL.of (m12 pl _ npl upd_same), hrm, _, _, rfl, ?_⟩
    have fb12 := fb9.fx S9 x912
    have fc12 : Ftn (cF K) H12 (chT .jet dN) wc := fc.fx S10 (((ExtF.ofD m11).trans (.ofS (Same.new (Same.refl H11) hpl))).trans (.ofD m12))
    have chs : (chT .jet dN).size = dN + 1 := ch_size .jet dN
    have chd : (chT .jet dN).dep = dN := ch_dep .jet dN
    -- parts
    refine ⟨wb, rfl, wc, rfl, _, rfl, _, rm, rfl, by omega, T12, OutF.ok (by rw [sp_size]; omega) (by rw [sp_dep]; decide) fun ws H13 e13 T13 fs => ⟨sz3, fun p1 hp1 => ?_⟩⟩
    have s14 : Same H13 (upd H13 p1 (.lst [wb, wc, ws])) := Same.new (Same.refl H13) hp1
    have h14 : upd H13 p1 (.lst [wb, wc, ws]) p1 = some (.lst [wb, wc, ws]) := upd_same
    have S14 := (S12.extN e13).same s14
    have np1 := (S12.extN e13).ne hp1
    generalize upd H13 p1 (.lst [wb, wc, ws]) = H14 at s14 h14 S14 ⊢
    have e1214 : LamX.ExtN H12 H14 := e13.trans (.of s14)
    have T14 := Tabs.same T13 s14
    refine fun x dx hx hdx hne => ?_
    have s16 : Same H14 (upd (upd H14 dx (.own x)) x (.ins (cF K) dx [])) := Same.new (Same.new (Same.refl H14) hdx) (by rw [upd_ne (Ne.symm hne)]; exact hx)
    refine ⟨x, dx, spT 0, H14, by rw [show tx (spT 0) = "()" by decide +kernel]; rfl, by decide, by decide, hx, s16, upd_same, Tabs.same T14 s16, fun H16 e16 T16 f16 => ?_⟩
    rw [can_canon _ (sp_can 0)] at f16
    have e1416 : LamX.ExtN H14 H16 := e16
    have S16 := S14.extN e1416
    have h16 : H16 p1 = some (.lst [wb, wc, ws]) := e1416 _ _ h14 (fun _ z => by cases z)
    refine ⟨rfl, sz1, fun p2 hp2 => ?_⟩
    have s17 : Same H16 (upd H16 p2 (.lst [.ref x])) := Same.new (Same.refl H16) hp2
    have h17 : upd H16 p2 (.lst [.ref x]) p2 = some (.lst [.ref x]) := upd_same
    have S17 := S16.same s17
    have np2 := S16.ne hp2
    have h17p := s17 _ _ h16
    have f17 := f16.same s17
    have T17 := Tabs.same T16 s17
    generalize upd H16 p2 (.lst [.ref x]) = H17 at s17 h17 S17 h17p f17 T17 ⊢
    refine ⟨.ref d, rfl, d, 10, rfl, S17, by decide, by decide, fun x5 H18 a5 b5 S18 m18 => ?_⟩
    have h18p := m18 _ _ np1 h17p
    have h18 := m18 _ _ np2 h17
    have x1718 : ExtF d H17 H18 := .ofD m18
    have T18 := Tabs.samD T17 S17 m18
    have f18 : Ftn (cF K) H18 (spT 0) (.ref x) := f17.fx S17 x1718
    refine ⟨p2, x5, [.ref x], rfl, rfl, h18, by omega, by omega, by show 1 * x5.toNat ≤ _; omega, fun p3 hp3 => ?_⟩
    obtain ⟨n5, hn5, n5l⟩ : ∃ n5 : Nat, x5.toNat = n5 ∧ n5 ≤ 9 := ⟨_, rfl, by omega⟩
    rw [hn5, flat_rep]
    have s19 : Same H18 (upd H18 p3 (.lst (List.replicate n5 (.ref x)))) := Same.new (Same.refl H18) hp3
    have h19 : upd H18 p3 (.lst (List.replicate n5 (.ref x))) p3 = some (.lst (List.replicate n5 (.ref x))) := upd_same
    have h19p := s19 _ _ h18p
    have S19 := S18.same s19
    have T19 := Tabs.same T18 s19
    generalize upd H18 p3 (.lst (List.replicate n5 (.ref x))) = H19 at s19 h19 h19p S19 T19 ⊢
    refine ⟨p1, p3, _, _, rfl, rfl, h19p, h19, by rw [List.length_replicate]; show 3 + n5 ≤ _; omega, fun p4 hp4 => ?_⟩
    have s20 : Same H19 (upd H19 p4 (.lst ([wb, wc, ws] ++ List.replicate n5 (.ref x)))) := Same.new (Same.refl H19) hp4
    have h20 : upd H19 p4 (.lst ([wb, wc, ws] ++ List.replicate n5 (.ref x))) p4 = some (.lst ([wb, wc, ws] ++ List.replicate n5 (.ref x))) := upd_same
    have S20 := S19.same s20
    have np4 := S19.ne hp4
    have T20 := Tabs.same T19 s20
    generalize upd H19 p4 (.lst ([wb, wc, ws] ++ List.replicate n5 (.ref x))) = H20 at s20 h20 S20 T20 ⊢
    refine ⟨.ref d, rfl, .ref p4, rfl, d, p4, _, rfl, S20, SqL.of h20, by rw [List.length_append, List.length_replicate]; show 3 + n5 ≤ 100; omega, fun p5 ys H21 h5n p5d pm S21 m21 h21 => ?_⟩
    have x1820 : ExtF d H18 H20 := (ExtF.ofS s19).trans (.ofS s20)
    have x1821 : ExtF d H18 H21 := x1820.trans (.ofD m21)
    have x1221 : ExtF d H12 H21 := (((((ExtF.ofN e1214).trans (.ofN e1416)).trans (.ofS s17)).trans x1718).trans x1821)
    have fb21 := fb12.fx S12 x1221
    have fc21 := fc12.fx S12 x1221
    have fs21 := fs.fx (S12.extN e13) ((((((ExtF.ofS s14).trans (.ofN e1416)).trans (.ofS s17)).trans x1718).trans x1821))
    have fx21 := f18.fx S18 x1821
    have T21 := Tabs.samD T20 S20 m21
    obtain ⟨ml, pml, hml⟩ := ftnl_perm pm (show FtnL (cF K) H21 ([broadT 70 bm, chT .jet dN, spT rm] ++ List.replicate n5 (spT 0)) ([wb, wc, ws] ++ List.replicate n5 (.ref x)) from ⟨_, _, rfl, fb21, _, _, rfl, fc21, _, _, rfl, fs21, FtnL.rep fx21 n5⟩)
    have zml : sizeL ml = (1 + 70 * (1 + bm)) + (dN + 1) + (1 + rm) + n5 := by
      rw [sizeL_perm pml]
      show (broadT 70 bm).size + ((chT .jet dN).size + ((spT rm).size + sizeL (List.replicate n5 (spT 0)))) = _
      rw [sizeL_rep, sp_size, sp_size, chs, brs]
      omega
    have dml : depL ml = dN := by
      rw [depL_perm pml]
      show max (broadT 70 bm).dep (max (chT .jet dN).dep (max (spT rm).dep (depL (List.replicate n5 (spT 0))))) = _
      have h1 := sp_dep rm
      have h2 : depL (List.replicate n5 (spT 0)) ≤ 1 := by
        rcases Nat.eq_zero_or_pos n5 with rfl | h
        · decide
        · rw [depL_rep n5 _ h, sp_dep]
          decide
      rw [chd, brd, h1]
      omega
    have lys := hml.len
    have lml := length_le ml
    have bad : ys.length < sizeLine := by omega
    refine ⟨.ref p5, rfl, p5, rfl, ⟨ys, SqL.of h21⟩, fun D hD => lc_propL hD (SqL.of h21) hml bad (fun _ => rfl) (fun _ => rfl) fun H22 s22 e22 => ?_⟩
    have hsum := sizes_sum ml
    have s0 : ([.int (1 + (ml.map fun t => (t.size : Int)).sum)] : List V) = [.int ((1 + sizeL ml : Nat) : Int)] := two_list (by rw [sizes_sum]; omega)
    have s22' := s22 _ _ h21
    have T22 := Tabs.same T21 s22
    have S22 := S21.same s22
    refine ⟨D, ml.map fun t => (t.size : Int), rfl, SqL.of (by rw [e22, List.map_map]; rfl), _, _, rfl, rfl, .ref p5, rfl, .ref p5, rfl, ?_⟩
    refine ⟨p5, ys, rfl, .inl ⟨SqL.of s22', fun p6 hp6 => ⟨sz2, fun p7 hp7 => ?_⟩⟩⟩
    have s23 : Same H22 (upd (upd H22 p6 (.tup ys)) p7 (.lst [.ref p5, .ref p6])) := Same.new (Same.new (Same.refl H22) hp6) hp7
    have h23 : upd (upd H22 p6 (.tup ys)) p7 (.lst [.ref p5, .ref p6]) p7 = some (.lst [.ref p5, .ref p6]) := upd_same
    have h23t : upd (upd H22 p6 (.tup ys)) p7 (.lst [.ref p5, .ref p6]) p6 = some (.tup ys) := upd_old upd_same hp7
    have h23l := s23 _ _ s22'
    have S23 := S22.same s23
    have np7 : p7 ≠ d := (S22.same (Same.new (Same.refl H22) hp6)).ne hp7
    have np6 : p6 ≠ d := S22.ne hp6
    have np5 : p5 ≠ d := p5d
    have T23 := Tabs.same T22 s23
    generalize upd (upd H22 p6 (.tup ys)) p7 (.lst [.ref p5, .ref p6]) = H23 at s23 h23 h23t h23l S23 T23 ⊢
    refine ⟨.ref d, rfl, d, 2, rfl, S23, by decide, by decide, fun x6 H24 a6 b6 S24 m24 => ?_⟩
    have T24 := Tabs.samD T23 S23 m24
    have x2124 : ExtF d H21 H24 := ((ExtF.ofS s22).trans (.ofS s23)).trans (.ofD m24)
    have x1224 : ExtF d H12 H24 := x1221.trans x2124
    have hml24 : FtnL (cF K) H24 ml ys := ftnL_extF S21 x2124 ml ys hml
    obtain ⟨a7, hat7, hq7⟩ : ∃ a7, atI [V.ref p5, V.ref p6] x6 = some (.ref a7) ∧ (SqL K H24 a7 ys ∨ SqT K H24 a7 ys) := by
      have hx : x6 = 0 ∨ x6 = 1 := by omega
      rcases hx with rfl | rfl
      · exact ⟨p5, rfl, .inl (SqL.of (m24 _ _ np5 h23l))⟩
      · exact ⟨p6, rfl, .inr (SqT.of (m24 _ _ np6 h23t))⟩
    refine ⟨p7, _, _, _, rfl, rfl, SqL.of (m24 _ _ np7 h23), hat7, ?_⟩
    refine ⟨_, rfl, Nat.zero_le _, fun p8 hp8 => ?_⟩
    have s25 : Same H24 (upd H24 p8 (.tup [])) := Same.new (Same.refl H24) hp8
    have q7 : SqL K (upd H24 p8 (.tup [])) a7 ys ∨ SqT K (upd H24 p8 (.tup [])) a7 ys := hq7.imp (fun h => seqN h (.of s25)) (fun h => seqTN h (.of s25))
    refine ⟨_, _, _, .bas (sortT ml), rfl, .inl ⟨rfl, a7, ys, ml, rfl, q7, hml24.same s25, by omega, rfl⟩, Tabs.same T24 s25, fun q H25 e25 T25 hq => ?_⟩
    have x2425 : ExtF d H24 H25 := (ExtF.ofS s25).trans (.ofN e25)
    have S25 := (S24.same s25).extN e25
    refine ⟨_, rfl, _, rfl, _, _, rfl, rfl, (JW.T.bas (sortT ml)).size, (JW.T.bas (sortT ml)).dep, two_eq (by rw [bas_size]; omega) (by rw [bas_dep]; omega), fun p9 H26 s26 hp9 => ?_⟩
    refine ev_dueNe (s26 _ _ hq) hp9 ?_
    refine ⟨_, rfl, ite_f rfl ?_⟩
    have x2126 : ExtF d H21 H26 := (x2124.trans x2425).trans (.ofS s26)
    have x1226 : ExtF d H12 H26 := x1221.trans x2126
    have S26 := S25.same s26
    have T26 := Tabs.same T25 s26
    -- at, lower, wide
    refine ⟨.ref d, rfl, d, 21, rfl, S26, by decide, by decide, fun y1 H27 c1 c2 S27 m27 => ⟨_, _, rfl, rfl, .ref d, rfl, d, 50, rfl, S27, by decide, by decide, fun y2 H28 c3 c4 S28 m28 => ⟨_, _, rfl, rfl, _, _, rfl, ?_⟩⟩⟩
    obtain ⟨k1, hk1, k1a, k1b⟩ : ∃ k1 : Nat, 40 + y1 = (k1 : Int) ∧ 40 ≤ k1 ∧ k1 ≤ 60 := ⟨(40 + y1).toNat, by omega, by omega, by omega⟩
    obtain ⟨k2, hk2, k2a, k2b⟩ : ∃ k2 : Nat, 10 + y2 = (k2 : Int) ∧ 10 ≤ k2 ∧ k2 ≤ 59 := ⟨(10 + y2).toNat, by omega, by omega, by omega⟩
    have T28 := Tabs.samD (Tabs.samD T26 S26 m27) S27 m28
    refine ⟨_, rfl, _, rfl, _, _, rfl, rfl, k1 + k2, two_list (by omega), by omega, by omega, T28, fun wg H29 e29 T29 fg => ?_⟩
    have S29 := S28.extN e29
    refine ⟨.ref d, rfl, d, 190, rfl, S29, by decide, by decide, fun y3 H30 c5 c6 S30 m30 => ?_⟩
    obtain ⟨k3, hk3, k3b⟩ : ∃ k3 : Nat, y3 = (k3 : Int) ∧ k3 ≤ 189 := ⟨y3.toNat, by omega, by omega⟩
    have T30 := Tabs.samD T29 S29 m30
    refine ⟨_, k3, two_list2 hk3, by omega, T30, OutF.ok (by rw [sp_size]; omega) (by rw [sp_dep]; decide) fun wh H31 e31 T31 fh => ⟨sz2, fun p10 hp10 => ?_⟩⟩
    have S31 := S30.extN e31
    have s32 : Same H31 (upd H31 p10 (.lst [wg, wh])) := Same.new (Same.refl H31) hp10
    have h32 : upd H31 p10 (.lst [wg, wh]) p10 = some (.lst [wg, wh]) := upd_same
    have T32 := Tabs.same T31 s32
    have S32 := S31.same s32
    generalize upd H31 p10 (.lst [wg, wh]) = H32 at s32 h32 T32 S32 ⊢
    have fg32 := fg.fx S29 (((ExtF.ofD m30).trans (.ofN e31)).trans (.ofS s32))
    have fh32 := fh.same s32
    have ghs : (chT .jet (k1 + k2)).size = k1 + k2 + 1 := ch_size .jet (k1 + k2)
    have ghd : (chT .jet (k1 + k2)).dep = k1 + k2 := ch_dep .jet (k1 + k2)
    have hws : sizeL [chT .jet (k1 + k2), spT k3] = k1 + k2 + 1 + (1 + k3) := by
      show (chT .jet (k1 + k2)).size + ((spT k3).size + 0) = _
      rw [ghs, sp_size]
      omega
    have hwd : depL [chT .jet (k1 + k2), spT k3] = k1 + k2 := by
      show max (chT .jet (k1 + k2)).dep (max (spT k3).dep 0) = _
      rw [ghd, sp_dep]
      omega
    refine ⟨_, p10, [wg, wh], [chT .jet (k1 + k2), spT k3], rfl, .inl (SqL.of h32), ⟨_, _, rfl, fg32, _, _, rfl, fh32, rfl⟩, by omega, T32, OutF.ok (by rw [bas_size]; omega) (by rw [bas_dep]; omega) fun wd H33 e33 T33 fw => ?_⟩
    rw [srt_wide' (by omega)] at fw
    have S33 := S32.extN e33
    refine ⟨sz1, fun p12 hp12 => ⟨_, rfl, p12, 40 + y1, [.int 0], rfl, rfl, SqT.of upd_same, List.cons_ne_nil _ _, by omega, by omega, by show 1 ≤ 1000; decide, fun p13 hp13 => ?_⟩⟩
    have e34 : (List.replicate (40 + y1).toNat [V.int 0]).flatten = (List.replicate k1 0).map nI := by
      rw [hk1]
      show (List.replicate k1 [V.int 0]).flatten = _
      rw [flat_rep, List.map_replicate]
      rfl
    rw [e34]
    have s34 : Same H33 (upd (upd H33 p12 (.tup [.int 0])) p13 (.tup ((List.replicate k1 0).map nI))) := Same.new (Same.new (Same.refl H33) hp12) hp13
    have h34 : (upd (upd H33 p12 (.tup [.int 0])) p13 (.tup ((List.replicate k1 0).map nI))) p13 = some (.tup ((List.replicate k1 0).map nI)) := upd_same
    have S34 := S33.same s34
    have np13 : p13 ≠ d := (S33.same (Same.new (Same.refl H33) hp12)).ne hp13
    have T34 := Tabs.same T33 s34
    generalize upd (upd H33 p12 (.tup [.int 0])) p13 (.tup ((List.replicate k1 0).map nI)) = H34 at s34 h34 S34 T34 ⊢
    refine ⟨_, rfl, _, _, rfl, rfl, _, _, rfl, ?_⟩
    refine ⟨_, rfl, _, rfl, _, _, rfl, rfl, .ref d, rfl, d, 12, rfl, S34, by decide, by decide, fun y4 H35 c7 c8 S35 m35 => ⟨_, _, rfl, rfl, ?_⟩⟩
    obtain ⟨k4, hk4, k4a, k4b⟩ : ∃ k4 : Nat, 113 - (40 + y1) + y4 = (k4 : Int) ∧ 53 ≤ k4 ∧ k4 ≤ 84 := ⟨(113 - (40 + y1) + y4).toNat, by omega, by omega, by omega⟩
    have T35 := Tabs.samD T34 S34 m35
    have h35 := m35 _ _ np13 h34
    refine ⟨k4, two_list hk4, by omega, by omega, T35, fun wj H36 e36 T36 fj => ⟨sz2, fun p14 hp14 => ?_⟩⟩
    have S36 := S35.extN e36
    have x2636 : ExtF d H26 H36 := (((((((((ExtF.ofD m27).trans (.ofD m28)).trans (.ofN e29)).trans (.ofD m30)).trans (.ofN e31)).trans (.ofS s32)).trans (.ofN e33)).trans (.ofS s34)).trans (.ofD m35)).trans (.ofN e36)
    have s37 : Same H36 (upd H36 p14 (.lst [wb, wj])) := Same.new (Same.refl H36) hp14
    have h37 : upd H36 p14 (.lst [wb, wj]) p14 = some (.lst [wb, wj]) := upd_same
    have T37 := Tabs.same T36 s37
    have S37 := S36.same s37
    generalize upd H36 p14 (.lst [wb, wj]) = H37 at s37 h37 T37 S37 ⊢
    have x1237 : ExtF d H12 H37 := (x1226.trans x2636).trans (.ofS s37)
    have fb37 := fb12.fx S12 x1237
    have fj37 := fj.same s37
    have jhs : (chT .jet k4).size = k4 + 1 := ch_size .jet k4
    have jhd : (chT .jet k4).dep = k4 := ch_dep .jet k4
    have jws : sizeL [broadT 70 bm, chT .jet k4] = 1 + 70 * (1 + bm) + (k4 + 1) := by
      show (broadT 70 bm).size + ((chT .jet k4).size + 0) = _
      rw [jhs, brs]
    have jwd : depL [broadT 70 bm, chT .jet k4] = k4 := by
      show max (broadT 70 bm).dep (max (chT .jet k4).dep 0) = _
      rw [jhd, brd]
      omega
    refine ⟨_, p14, [wb, wj], [broadT 70 bm, chT .jet k4], rfl, .inl (SqL.of h37), ⟨_, _, rfl, fb37, _, _, rfl, fj37, rfl⟩, by omega, T37, OutF.ok (by rw [bas_size]; omega) (by rw [bas_dep]; omega) fun wp H38 e38 T38 fp => ?_⟩
    have S38 := S37.extN e38
    have x3338 : ExtF d H33 H38 := ((((ExtF.ofS s34).trans (.ofD m35)).trans (.ofN e36)).trans (.ofS s37)).trans (.ofN e38)
    have fw38 := fw.fx S33 x3338
    have h38 := ((ExtF.ofN e36).trans ((ExtF.ofS s37).trans (.ofN e38)) : ExtF d H35 H38) _ _ np13 h35 (fun _ z => by cases z)
    have hsub : subT (List.replicate k1 0) (.bas [chT .jet (k1 + k2), spT k3]) = some (chT .jet (k2 + 1)) := by
      obtain ⟨j, rfl⟩ : ∃ j, k1 = j + 1 := ⟨k1 - 1, by omega⟩
      show subT (List.replicate j 0) (chT .jet (j + 1 + k2)) = _
      rw [ch_sub .jet j (j + 1 + k2) (by omega), show j + 1 + k2 - j = k2 + 1 by omega]
    have wds : (JW.T.bas [chT .jet (k1 + k2), spT k3]).size = 1 + (k1 + k2 + 1 + (1 + k3)) := by
      show 1 + sizeL [chT .jet (k1 + k2), spT k3] = _
      rw [hws]
    have lhs : (chT .jet (k2 + 1)).size = k2 + 1 + 1 := ch_size .jet (k2 + 1)
    have tzn := (seqTN (SqT.of h38) (.refl H38) : SqT K H38 p13 ((List.replicate k1 0).map nI))
    obtain ⟨aa, da, ba, na, xa, rfl, haa, _⟩ := ftn_iff.mp fw38
    refine ⟨_, rfl, aa, da, _, rfl, haa, by kernel_rfl, _, rfl, .ref aa, _, p13, _, _, rfl, fw38, tzn, hsub, by omega, fun wk H39 s39 fk => ?_⟩
    refine ev_prop fk ?_
    refine ⟨_, rfl, rfl, _, rfl, ite_f (by rw [decide_eq_true (congrArg V.int (by rw [lhs]; omega))]; rfl) ?_⟩
    have S39 := S38.same s39
    have T39 := Tabs.same T38 s39
    refine ⟨_, rfl, .ref d, rfl, d, 30, rfl, S39, by decide, by decide, fun y5 H40 c9 c10 S40 m40 => ⟨_, _, rfl, rfl, ?_⟩⟩
    obtain ⟨k5, hk5, k5a, k5b⟩ : ∃ k5 : Nat, 60 + y5 = (k5 : Int) ∧ 60 ≤ k5 ∧ k5 ≤ 89 := ⟨(60 + y5).toNat, by omega, by omega, by omega⟩
    have T40 := Tabs.samD T39 S39 m40
    refine ⟨k5, two_list hk5, by omega, by omega, T40, fun wq H41 e41 T41 fq => ⟨sz2, fun p15 hp15 => ?_⟩⟩
    have s42 : Same H41 (upd H41 p15 (.tup [wp, wq])) := Same.new (Same.refl H41) hp15
    have h42 : upd H41 p15 (.tup [wp, wq]) p15 = some (.tup [wp, wq]) := upd_same
    have T42 := Tabs.same T41 s42
    generalize upd H41 p15 (.tup [wp, wq]) = H42 at s42 h42 T42 ⊢
    have x3842 : ExtF d H38 H42 := (((ExtF.ofS s39).trans (.ofD m40)).trans (.ofN e41)).trans (.ofS s42)
    have fw42 := fw38.fx S38 x3842
    have fp42 := fp.fx S38 x3842
    have fq42 := fq.same s42
    have np13' := np13
    have h42p := x3842 _ _ np13 h38 (fun _ z => by cases z)
    have x442 : ExtF d H4 H42 := ((((x49.trans x912).trans x1226).trans x2636).trans (.ofS s37)).trans ((ExtF.ofN e38).trans x3842)
    have qhs : (chT .jet k5).size = k5 + 1 := ch_size .jet k5
    have qhd : (chT .jet k5).dep = k5 := ch_dep .jet k5
    refine ⟨p15, rfl, ⟨_, SqT.of h42⟩, for_tup (xs := [wp, wq]) (fun j σ' H' => ∃ u16 u17 : Option V, σ' = [some (.ref a), some (.int (0 + i)), some (.ref d), some wb, some (.int (114 + x2)), some wc, some (.int (rm : Nat)), some (.ref p5), some wp, some (.int (1 + (ml.map fun t => (t.size : Int)).sum)), some (.ref a7), some (.int (40 + y1)), some (.int (10 + y2)), some (.ref aa), some (.ref p13), some (.int (10 + y2 + 2)), u16, u17] ∧ LamX.ExtN H42 H' ∧ LamX.Tabs (TT K) H') ⟨_, _, rfl, LamX.ExtN.refl H42, T42⟩ (fun j σ' H' _ hP => by
      obtain ⟨u16, u17, _, ee, _⟩ := hP
      exact seqTN (SqT.of h42) ee) ?_ fun σ' H' hP => by
      obtain ⟨u16, u17, rfl, ee, Te⟩ := hP
      exact ⟨_, _, _, _, _, _, _, _, _, _, _, _, _, _, _, _, _, rfl, e3.trans (ExtF.mine s4 d0 (x442.trans (.ofN ee))), Te⟩⟩
    rintro j y σ' H50 hy ⟨u16, u17, rfl, e50, T50⟩
    obtain ⟨tm, fm, tms, tmd⟩ : ∃ tm : JW.T, Ftn (cF K) H50 tm y ∧ tm.size ≤ 5000 ∧ tm.dep ≤ 120 := by
      match j, hy with
      | 0, hy => exact ⟨_, (Option.some.inj hy) ▸ fp42.ext e50, by rw [bas_size]; omega, by rw [bas_dep]; omega⟩
      | 1, hy => exact ⟨_, (Option.some.inj hy) ▸ fq42.ext e50, by omega, by omega⟩
    have rs := rep_size tm _ _ _ hsub
    have rd : (repT tm (List.replicate k1 0) (.bas [chT .jet (k1 + k2), spT k3])).dep = k1 + tm.dep := by
      obtain ⟨j, rfl⟩ : ∃ j, k1 = j + 1 := ⟨k1 - 1, by omega⟩
      show 1 + depL (sortT [repT tm (List.replicate j 0) (chT .jet (j + 1 + k2)), spT k3]) = _
      rw [depL_perm (sortT_perm _), ch_rep tm .jet j (j + 1 + k2) (by omega)]
      show 1 + max (chT tm j).dep (max (spT k3).dep 0) = _
      rw [ch_dep, sp_dep]
      omega
    have fw50 := fw42.ext e50
    refine ⟨_, rfl, ev_prop fw50 ⟨_, rfl, _, _, rfl, rfl, _, rfl, ev_prop fm ⟨_, _, rfl, rfl, _, rfl, _, rfl, ev_prop fm ⟨_, _, rfl, rfl, _, _, rfl, ?_⟩⟩⟩⟩
    generalize hr' : repT tm (List.replicate k1 0) (.bas [chT .jet (k1 + k2), spT k3]) = res at rs rd
    refine ⟨res.size, res.dep, two_eq (by omega) (by split <;> omega), fun pd H51 s51 hpd => ?_⟩
    refine ⟨_, rfl, sz1, fun p16 hp16 => ⟨_, rfl, _, rfl, ?_⟩⟩
    have s52 : Same H51 (upd H51 p16 (.lst [y])) := Same.new (Same.refl H51) hp16
    have h52 : upd H51 p16 (.lst [y]) p16 = some (.lst [y]) := upd_same
    have e5052 : LamX.ExtN H50 (upd H51 p16 (.lst [y])) := LamX.ExtN.of (s51.trans s52)
    have hpd52 := s52 _ _ hpd
    have h52p := (e50.trans e5052) _ _ h42p (fun _ z => by cases z)
    have T52 := Tabs.same (Tabs.same T50 s51) s52
    have fw52 := fw50.ext e5052
    have fm52 := fm.ext e5052
    generalize upd H51 p16 (.lst [y]) = H52 at s52 h52 e5052 hpd52 h52p T52 fw52 fm52 ⊢
    refine ⟨_, _, _, res, rfl, .inr ⟨p16, y, tm, _, p13, List.replicate k1 0, _, rfl, SqL.of h52, fm52, fw52, rfl, SqT.of h52p, hsub, by rw [List.length_replicate]; omega, by omega, hr'.symm⟩, T52, fun q H53 e53 T53 hq => ?_⟩
    have hpd53 := e53 _ _ hpd52 (fun _ z => by unfold dueV at z; cases z)
    refine ⟨_, rfl, ev_dueNe hq hpd53 ⟨_, rfl, ite_f rfl ⟨_, _, rfl, (e50.trans e5052).trans e53, T53⟩⟩⟩
end
/-! the head: what the top has written, by one run in the kernel -/
open He
def dfn (x : Str) (m : Option Str) (nm q : Str) (s : Stmt) (dv : List Dv) (kw : List (Str × Dv)) : DefD := ⟨(x, m), nm, q, defArgs s, defBody s, defScope s, dv, kw⟩
def fn : List DefD := ([dfn "TooLarge" (some "__init__") "__init__" "TooLarge.__init__" s_TooLarge___init__ [] [], dfn "TooDeep" (some "__init__") "__init__" "TooDeep.__init__" s_TooDeep___init__ [] [], dfn "check_numbers" none "check_numbers" "check_numbers" s_check_numbers [] [], dfn "basin_numbers" none "basin_numbers" "basin_numbers" s_basin_numbers [] [], dfn "product_numbers" none "product_numbers" "product_numbers" s_product_numbers [] [], dfn "parsed" none "parsed" "parsed" s_parsed [] [], dfn "made" none "made" "made" s_made [] [], dfn "allowed" none "allowed" "allowed" s_allowed [] [], dfn "grafted" none "grafted" "grafted" s_grafted [] [], dfn "cut" none "cut" "cut" s_cut [] [], dfn "bare_place" none "bare_place" "bare_place" s_bare_place [] [], dfn "replaced" none "replaced" "replaced" s_replaced [] [], dfn "multiplied" none "multiplied" "multiplied" s_multiplied [] [], dfn "Fountain" (some "__init__") "__init__" "Fountain.__init__" s_Fountain___init__ [.non] [], dfn "Fountain" (some "__eq__") "__eq__" "Fountain.__eq__" s_Fountain___eq__ [] [], dfn "Fountain" (some "__add__") "__add__" "Fountain.__add__" s_Fountain___add__ [] [], dfn "Fountain" (some "__mul__") "__mul__" "Fountain.__mul__" s_Fountain___mul__ [] [], dfn "Fountain" (some "__floordiv__") "__floordiv__" "Fountain.__floordiv__" s_Fountain___floordiv__ [] [], dfn "Fountain" (some "at") "at" "Fountain.at" s_Fountain_at [] [], dfn "Fountain" (some "put") "put" "Fountain.put" s_Fountain_put [] [], dfn "_law_feed" none "_law_feed" "_law_feed" s__law_feed [] [], dfn "_law_draw" none "_law_draw" "_law_draw" s__law_draw [] [], dfn "_law_mixed" none "_law_mixed" "_law_mixed" s__law_mixed [] [], dfn "_law_made" none "_law_made" "_law_made" s__law_made [] [], dfn "_law_due" none "_law_due" "_law_due" s__law_due [] [], dfn "_law_chain" none "_law_chain" "_law_chain" s__law_chain [] [], dfn "law" none "law" "law" s_law [] []] : List DefD)
def fa : List Fa := ([.glo "Fountain", .cls "Fountain", .noat "Fountain" "written", .noat "Fountain" "branches", .noat "Fountain" "numbers", .int "MOST" 5000, .int "DEEPEST" 120, .str "JET_TEXT" "o", .glo "TooLarge", .noat "TooLarge" "pieces", .glo "TooDeep", .noat "TooDeep" "basins", .glo "check_numbers", .glo "basin_numbers", .glo "product_numbers", .glo "parsed", .glo "made", .glo "allowed", .glo "grafted", .glo "cut", .glo "bare_place", .glo "replaced", .glo "multiplied", .mkr "Fountain", .meth "Fountain" "__eq__", .meth "Fountain" "__add__", .meth "Fountain" "__mul__", .meth "Fountain" "__floordiv__", .meth "Fountain" "at", .meth "Fountain" "put"] : List Fa) ++ ([.glo "_law_feed", .glo "_law_draw", .glo "_law_mixed", .glo "_law_made", .glo "_law_due", .glo "_law_chain", .glo "law", .glo "JetError", .free "NotImplemented", .free "TypeError", .free "abs", .free "any", .free "enumerate", .free "int", .free "isinstance", .free "len", .free "list", .free "max", .free "min", .free "range", .free "sorted", .free "sum", .free "tuple"] : List Fa)
def tf : List Defn := ([("made", none)] : List Defn)
def fx : List FxD := ([⟨fun K => cgAd K ("Fountain", "basin"), "basin", "Fountain.basin", defArgs s_Fountain_basin, defBody s_Fountain_basin, defScope s_Fountain_basin⟩, ⟨fun K => cgAd K ("Fountain", "spray"), "spray", "Fountain.spray", defArgs s_Fountain_spray, defBody s_Fountain_spray, defScope s_Fountain_spray⟩, ⟨fun K => gAd K ("Fountain", "text"), "text", "Fountain.text", defArgs s_Fountain_text, defBody s_Fountain_text, defScope s_Fountain_text⟩, ⟨fun K => gAd K ("Fountain", "parts"), "parts", "Fountain.parts", defArgs s_Fountain_parts, defBody s_Fountain_parts, defScope s_Fountain_parts⟩, ⟨fun K => gAd K ("Fountain", "size"), "size", "Fountain.size", defArgs s_Fountain_size, defBody s_Fountain_size, defScope s_Fountain_size⟩, ⟨fun K => gAd K ("Fountain", "jets"), "jets", "Fountain.jets", defArgs s_Fountain_jets, defBody s_Fountain_jets, defScope s_Fountain_jets⟩, ⟨fun K => gAd K ("Fountain", "depth"), "depth", "Fountain.depth", defArgs s_Fountain_depth, defBody s_Fountain_depth, defScope s_Fountain_depth⟩, ⟨fun K => gAd K ("Fountain", "longest"), "longest", "Fountain.longest", defArgs s_Fountain_longest, defBody s_Fountain_longest, defScope s_Fountain_longest⟩, ⟨fun K => gAd K ("Fountain", "shortest"), "shortest", "Fountain.shortest", defArgs s_Fountain_shortest, defBody s_Fountain_shortest, defScope s_Fountain_shortest⟩, ⟨fun K => gAd K ("Fountain", "is_open"), "is_open", "Fountain.is_open", defArgs s_Fountain_is_open, defBody s_Fountain_is_open, defScope s_Fountain_is_open⟩, ⟨fun K => gAd K ("Fountain", "is_jet"), "is_jet", "Fountain.is_jet", defArgs s_Fountain_is_jet, defBody s_Fountain_is_jet, defScope s_Fountain_is_jet⟩] : List FxD)
def prL : List (Str × Str) := ([("Fountain", "text"), ("Fountain", "parts"), ("Fountain", "size"), ("Fountain", "jets"), ("Fountain", "depth"), ("Fountain", "longest"), ("Fountain", "shortest"), ("Fountain", "is_open"), ("Fountain", "is_jet")] : List (Str × Str))
def cmL : List (Str × Str) := ([("Fountain", "basin"), ("Fountain", "spray")] : List (Str × Str))
def erL : List Str := (["TooLarge", "TooDeep"] : List Str)
def bsL : List Str := (["JetError"] : List Str)
def ktL : List (Str × Str × Bool) := ([("TooLarge", "TooLarge", true), ("TooLarge", "TooDeep", false), ("TooDeep", "TooLarge", false), ("TooDeep", "TooDeep", true)] : List (Str × Str × Bool))
def emL : List (Str × Str × Bool) := ([("TooLarge", "JetError", true), ("TooDeep", "JetError", true)] : List (Str × Str × Bool))
def ex (K : PySem.W.Frag) : Bool := clsX K "Fountain" && ((prL.all fun p => propB K p) && ((cmL.all fun p => cmB K p) && ((erL.all fun x => errB K x) && ((bsL.all fun x => baseB K x) && ((ktL.all fun q => kitB K q) && (emL.all fun q => exmB K q))))))
theorem exs {K : PySem.W.Frag} {h : Heap} (c : SaysE fa fn tf ex fx h K) : clsX K "Fountain" = true ∧ (prL.all fun p => propB K p) = true ∧ (cmL.all fun p => cmB K p) = true ∧ (erL.all fun x => errB K x) = true ∧ (bsL.all fun x => baseB K x) = true ∧ (ktL.all fun q => kitB K q) = true ∧ (emL.all fun q => exmB K q) = true := by
  obtain ⟨z1, z⟩ := ba c.more
  obtain ⟨z2, z⟩ := ba z
  obtain ⟨z3, z⟩ := ba z
  obtain ⟨z4, z⟩ := ba z
  obtain ⟨z5, z⟩ := ba z
  obtain ⟨z6, z7⟩ := ba z
  exact ⟨z1, z2, z3, z4, z5, z6, z7⟩
abbrev R : PySem.W.OpenRow := PySem.W.OpenLaw.row PySem.Challenge.rw_jetworks_k73_too_large_ahead_of_too_deep
abbrev hk : PySem.W.Hook := hookE 5 fa fn tf ex fx
def ob (s : PySem.W.SharedT) : AlE := obsE 5 fa fn tf ex fx (HandSHeadRun.getT s)
theorem ob_eq (s : PySem.W.SharedT) : ob s = hk.obs s.abs := obsE_eq (HandSHeadRun.getT_eq s)
def loose : List Str := (["_wall", "__name__", "JetError", "NoText", "NoBasin", "NoBranch", "NoPlace", "Closed", "TooLarge", "TooDeep", "NoDivision", "NoDifference", "NoQuotient", "MOST", "DEEPEST", "JET_TEXT", "check_numbers", "basin_numbers", "product_numbers", "parsed", "made", "allowed", "grafted", "cut", "bare_place", "carries", "replaced", "power", "multiplied", "Fountain"] : List Str) ++ (["_law_feed", "_law_draw", "_law_mixed", "_law_made", "_law_due", "_law_chain"] : List Str)
theorem run (w : World) : HandSHeadRun.RunEq R (PySem.W.view R.prog [38]) hk ob 200000 loose w := by
  intro os
  kernel_rfl
theorem txt_of {K : PySem.W.Frag} {h h0 base : Heap} {mg : Str → Option Value} (X : K.In h) (G : h.Ns mainGlobals mg) (c : SaysE fa fn tf ex fx h0 K) (TB : ∀ p ∈ tf.map (cT K), LamX.TabB base mg p.1 p.2) : Txt K mg base where
  cls := clsF_of (glo_ok X G (c.d.fact 0 (f := .glo "Fountain") rfl)) (cls_ok (c.d.fact 1 (f := .cls "Fountain") rfl)) (noat_ok (c.d.fact 2 (f := .noat "Fountain" "written") rfl)) (noat_ok (c.d.fact 3 (f := .noat "Fountain" "branches") rfl)) (noat_ok (c.d.fact 4 (f := .noat "Fountain" "numbers") rfl)) (exs c).1
  gMOST := int_ok X G (c.d.fact 5 (f := .int "MOST" 5000) rfl)
  gDEEPEST := int_ok X G (c.d.fact 6 (f := .int "DEEPEST" 120) rfl)
  gJET_TEXT := str_ok X G (c.d.fact 7 (f := .str "JET_TEXT" "o") rfl)
  e_TooLarge := by
    obtain ⟨fd, F⟩ := c.d.def_ 0 (d := dfn "TooLarge" (some "__init__") "__init__" "TooLarge.__init__" s_TooLarge___init__ [] []) rfl
    exact ⟨glo_ok X G (c.d.fact 8 (f := .glo "TooLarge") rfl), (errB_ok (all_at (exs c).2.2.2.1 0 (a := "TooLarge") rfl)).1, _, fd, (errB_ok (all_at (exs c).2.2.2.1 0 (a := "TooLarge") rfl)).2.1, (errB_ok (all_at (exs c).2.2.2.1 0 (a := "TooLarge") rfl)).2.2, F, F.bindsN fun _ _ _ _ _ _ us hl => match us, hl with | [_, _], _ => rfl⟩
  na_TooLarge := noat_ok (c.d.fact 9 (f := .noat "TooLarge" "pieces") rfl)
  e_TooDeep := by
    obtain ⟨fd, F⟩ := c.d.def_ 1 (d := dfn "TooDeep" (some "__init__") "__init__" "TooDeep.__init__" s_TooDeep___init__ [] []) rfl
    exact ⟨glo_ok X G (c.d.fact 10 (f := .glo "TooDeep") rfl), (errB_ok (all_at (exs c).2.2.2.1 1 (a := "TooDeep") rfl)).1, _, fd, (errB_ok (all_at (exs c).2.2.2.1 1 (a := "TooDeep") rfl)).2.1, (errB_ok (all_at (exs c).2.2.2.1 1 (a := "TooDeep") rfl)).2.2, F, F.bindsN fun _ _ _ _ _ _ us hl => match us, hl with | [_, _], _ => rfl⟩
  na_TooDeep := noat_ok (c.d.fact 11 (f := .noat "TooDeep" "basins") rfl)
  d_check_numbers := by
    obtain ⟨fd, F⟩ := c.d.def_ 2 (d := dfn "check_numbers" none "check_numbers" "check_numbers" s_check_numbers [] []) rfl
    exact ⟨_, fd, glo_ok X G (c.d.fact 12 (f := .glo "check_numbers") rfl), F, F.bindsN fun _ _ _ _ _ _ us hl => match us, hl with | [_], _ => rfl⟩
  d_basin_numbers := by
    obtain ⟨fd, F⟩ := c.d.def_ 3 (d := dfn "basin_numbers" none "basin_numbers" "basin_numbers" s_basin_numbers [] []) rfl
    exact ⟨_, fd, glo_ok X G (c.d.fact 13 (f := .glo "basin_numbers") rfl), F, F.bindsN fun _ _ _ _ _ _ us hl => match us, hl with | [_], _ => rfl⟩
  d_product_numbers := by
    obtain ⟨fd, F⟩ := c.d.def_ 4 (d := dfn "product_numbers" none "product_numbers" "product_numbers" s_product_numbers [] []) rfl
    exact ⟨_, fd, glo_ok X G (c.d.fact 14 (f := .glo "product_numbers") rfl), F, F.bindsN fun _ _ _ _ _ _ us hl => match us, hl with | [_, _], _ => rfl⟩
  d_parsed := by
    obtain ⟨fd, F⟩ := c.d.def_ 5 (d := dfn "parsed" none "parsed" "parsed" s_parsed [] []) rfl
    exact ⟨_, fd, glo_ok X G (c.d.fact 15 (f := .glo "parsed") rfl), F, F.bindsN fun _ _ _ _ _ _ us hl => match us, hl with | [_], _ => rfl⟩
  d_made := by
    obtain ⟨fd, F⟩ := c.d.def_ 6 (d := dfn "made" none "made" "made" s_made [] []) rfl
    exact ⟨glo_ok X G (c.d.fact 16 (f := .glo "made") rfl), fd, F, F.bindsN fun _ _ _ _ _ _ us hl => match us, hl with | [_], _ => rfl⟩
  tb_made := TB _ (List.mem_map.mpr ⟨("made", none), List.mem_of_getElem? (i := 0) rfl, rfl⟩)
  d_allowed := by
    obtain ⟨fd, F⟩ := c.d.def_ 7 (d := dfn "allowed" none "allowed" "allowed" s_allowed [] []) rfl
    exact ⟨_, fd, glo_ok X G (c.d.fact 17 (f := .glo "allowed") rfl), F, F.bindsN fun _ _ _ _ _ _ us hl => match us, hl with | [_], _ => rfl⟩
  d_grafted := by
    obtain ⟨fd, F⟩ := c.d.def_ 8 (d := dfn "grafted" none "grafted" "grafted" s_grafted [] []) rfl
    exact ⟨_, fd, glo_ok X G (c.d.fact 18 (f := .glo "grafted") rfl), F, F.bindsN fun _ _ _ _ _ _ us hl => match us, hl with | [_, _], _ => rfl⟩
  d_cut := by
    obtain ⟨fd, F⟩ := c.d.def_ 9 (d := dfn "cut" none "cut" "cut" s_cut [] []) rfl
    exact ⟨_, fd, glo_ok X G (c.d.fact 19 (f := .glo "cut") rfl), F, F.bindsN fun _ _ _ _ _ _ us hl => match us, hl with | [_, _], _ => rfl⟩
  d_bare_place := by
    obtain ⟨fd, F⟩ := c.d.def_ 10 (d := dfn "bare_place" none "bare_place" "bare_place" s_bare_place [] []) rfl
    exact ⟨_, fd, glo_ok X G (c.d.fact 20 (f := .glo "bare_place") rfl), F, F.bindsN fun _ _ _ _ _ _ us hl => match us, hl with | [_, _, _], _ => rfl⟩
  d_replaced := by
    obtain ⟨fd, F⟩ := c.d.def_ 11 (d := dfn "replaced" none "replaced" "replaced" s_replaced [] []) rfl
    exact ⟨_, fd, glo_ok X G (c.d.fact 21 (f := .glo "replaced") rfl), F, F.bindsN fun _ _ _ _ _ _ us hl => match us, hl with | [_, _, _], _ => rfl⟩
  d_multiplied := by
    obtain ⟨fd, F⟩ := c.d.def_ 12 (d := dfn "multiplied" none "multiplied" "multiplied" s_multiplied [] []) rfl
    exact ⟨_, fd, glo_ok X G (c.d.fact 22 (f := .glo "multiplied") rfl), F, F.bindsN fun _ _ _ _ _ _ us hl => match us, hl with | [_], _ => rfl⟩
  init := by
    obtain ⟨fd, F⟩ := c.d.def_ 13 (d := dfn "Fountain" (some "__init__") "__init__" "Fountain.__init__" s_Fountain___init__ [.non] []) rfl
    refine ⟨_, fd, glo_ok X G (c.d.fact 0 (f := .glo "Fountain") rfl), mkr_ok (c.d.fact 23 (f := .mkr "Fountain") rfl), F, fun j hj => ?_⟩
    have e : j = 0 ∨ j = 1 := by
      have h : j ≤ 1 := hj
      omega
    rcases e with rfl | rfl
    · exact F.binds1 2 0 (List.cons_ne_nil _ _) rfl fun _ _ _ _ _ _ _ us its l1 l2 => match us, its, l1, l2 with | [_, _], [_], _, _ => ⟨_, rfl, rfl⟩
    · exact F.binds1 3 1 (List.cons_ne_nil _ _) rfl fun T kV doc pm an cdv ct us its l1 l2 => match us, its, l1, l2 with | [_, _, _], [_], _, _ => ⟨_, rfl, rfl⟩
  c_basin := by
    obtain ⟨fd, F⟩ := c.fxAt 0 (d := ⟨fun K => cgAd K ("Fountain", "basin"), "basin", "Fountain.basin", defArgs s_Fountain_basin, defBody s_Fountain_basin, defScope s_Fountain_basin⟩) rfl
    exact ⟨_, _, _, fd, (cmB_ok (all_at (exs c).2.2.1 0 (a := ("Fountain", "basin")) rfl)).1, (cmB_ok (all_at (exs c).2.2.1 0 (a := ("Fountain", "basin")) rfl)).2, F, F.bindsN fun _ _ _ _ _ _ us hl => match us, hl with | [_, _], _ => rfl⟩
  c_spray := by
    obtain ⟨fd, F⟩ := c.fxAt 1 (d := ⟨fun K => cgAd K ("Fountain", "spray"), "spray", "Fountain.spray", defArgs s_Fountain_spray, defBody s_Fountain_spray, defScope s_Fountain_spray⟩) rfl
    exact ⟨_, _, _, fd, (cmB_ok (all_at (exs c).2.2.1 1 (a := ("Fountain", "spray")) rfl)).1, (cmB_ok (all_at (exs c).2.2.1 1 (a := ("Fountain", "spray")) rfl)).2, F, F.bindsN fun _ _ _ _ _ _ us hl => match us, hl with | [_, _], _ => rfl⟩
  p_text := by
    obtain ⟨fd, F⟩ := c.fxAt 2 (d := ⟨fun K => gAd K ("Fountain", "text"), "text", "Fountain.text", defArgs s_Fountain_text, defBody s_Fountain_text, defScope s_Fountain_text⟩) rfl
    exact ⟨_, _, fd, (propB_ok (all_at (exs c).2.1 0 (a := ("Fountain", "text")) rfl)), F, F.bindsN fun _ _ _ _ _ _ us hl => match us, hl with | [_], _ => rfl⟩
  p_parts := by
    obtain ⟨fd, F⟩ := c.fxAt 3 (d := ⟨fun K => gAd K ("Fountain", "parts"), "parts", "Fountain.parts", defArgs s_Fountain_parts, defBody s_Fountain_parts, defScope s_Fountain_parts⟩) rfl
    exact ⟨_, _, fd, (propB_ok (all_at (exs c).2.1 1 (a := ("Fountain", "parts")) rfl)), F, F.bindsN fun _ _ _ _ _ _ us hl => match us, hl with | [_], _ => rfl⟩
  p_size := by
    obtain ⟨fd, F⟩ := c.fxAt 4 (d := ⟨fun K => gAd K ("Fountain", "size"), "size", "Fountain.size", defArgs s_Fountain_size, defBody s_Fountain_size, defScope s_Fountain_size⟩) rfl
    exact ⟨_, _, fd, (propB_ok (all_at (exs c).2.1 2 (a := ("Fountain", "size")) rfl)), F, F.bindsN fun _ _ _ _ _ _ us hl => match us, hl with | [_], _ => rfl⟩
  p_jets := by
    obtain ⟨fd, F⟩ := c.fxAt 5 (d := ⟨fun K => gAd K ("Fountain", "jets"), "jets", "Fountain.jets", defArgs s_Fountain_jets, defBody s_Fountain_jets, defScope s_Fountain_jets⟩) rfl
    exact ⟨_, _, fd, (propB_ok (all_at (exs c).2.1 3 (a := ("Fountain", "jets")) rfl)), F, F.bindsN fun _ _ _ _ _ _ us hl => match us, hl with | [_], _ => rfl⟩
  p_depth := by
    obtain ⟨fd, F⟩ := c.fxAt 6 (d := ⟨fun K => gAd K ("Fountain", "depth"), "depth", "Fountain.depth", defArgs s_Fountain_depth, defBody s_Fountain_depth, defScope s_Fountain_depth⟩) rfl
    exact ⟨_, _, fd, (propB_ok (all_at (exs c).2.1 4 (a := ("Fountain", "depth")) rfl)), F, F.bindsN fun _ _ _ _ _ _ us hl => match us, hl with | [_], _ => rfl⟩
  p_longest := by
    obtain ⟨fd, F⟩ := c.fxAt 7 (d := ⟨fun K => gAd K ("Fountain", "longest"), "longest", "Fountain.longest", defArgs s_Fountain_longest, defBody s_Fountain_longest, defScope s_Fountain_longest⟩) rfl
    exact ⟨_, _, fd, (propB_ok (all_at (exs c).2.1 5 (a := ("Fountain", "longest")) rfl)), F, F.bindsN fun _ _ _ _ _ _ us hl => match us, hl with | [_], _ => rfl⟩
  p_shortest := by
    obtain ⟨fd, F⟩ := c.fxAt 8 (d := ⟨fun K => gAd K ("Fountain", "shortest"), "shortest", "Fountain.shortest", defArgs s_Fountain_shortest, defBody s_Fountain_shortest, defScope s_Fountain_shortest⟩) rfl
    exact ⟨_, _, fd, (propB_ok (all_at (exs c).2.1 6 (a := ("Fountain", "shortest")) rfl)), F, F.bindsN fun _ _ _ _ _ _ us hl => match us, hl with | [_], _ => rfl⟩
  p_is_open := by
    obtain ⟨fd, F⟩ := c.fxAt 9 (d := ⟨fun K => gAd K ("Fountain", "is_open"), "is_open", "Fountain.is_open", defArgs s_Fountain_is_open, defBody s_Fountain_is_open, defScope s_Fountain_is_open⟩) rfl
    exact ⟨_, _, fd, (propB_ok (all_at (exs c).2.1 7 (a := ("Fountain", "is_open")) rfl)), F, F.bindsN fun _ _ _ _ _ _ us hl => match us, hl with | [_], _ => rfl⟩
  p_is_jet := by
    obtain ⟨fd, F⟩ := c.fxAt 10 (d := ⟨fun K => gAd K ("Fountain", "is_jet"), "is_jet", "Fountain.is_jet", defArgs s_Fountain_is_jet, defBody s_Fountain_is_jet, defScope s_Fountain_is_jet⟩) rfl
    exact ⟨_, _, fd, (propB_ok (all_at (exs c).2.1 8 (a := ("Fountain", "is_jet")) rfl)), F, F.bindsN fun _ _ _ _ _ _ us hl => match us, hl with | [_], _ => rfl⟩
  m___eq__ := by
    obtain ⟨fd, F⟩ := c.d.def_ 14 (d := dfn "Fountain" (some "__eq__") "__eq__" "Fountain.__eq__" s_Fountain___eq__ [] []) rfl
    exact ⟨_, fd, meth_ok (c.d.fact 24 (f := .meth "Fountain" "__eq__") rfl), F, F.bindsN fun _ _ _ _ _ _ us hl => match us, hl with | [_, _], _ => rfl⟩
  m___add__ := by
    obtain ⟨fd, F⟩ := c.d.def_ 15 (d := dfn "Fountain" (some "__add__") "__add__" "Fountain.__add__" s_Fountain___add__ [] []) rfl
    exact ⟨_, fd, meth_ok (c.d.fact 25 (f := .meth "Fountain" "__add__") rfl), F, F.bindsN fun _ _ _ _ _ _ us hl => match us, hl with | [_, _], _ => rfl⟩
  m___mul__ := by
    obtain ⟨fd, F⟩ := c.d.def_ 16 (d := dfn "Fountain" (some "__mul__") "__mul__" "Fountain.__mul__" s_Fountain___mul__ [] []) rfl
    exact ⟨_, fd, meth_ok (c.d.fact 26 (f := .meth "Fountain" "__mul__") rfl), F, F.bindsN fun _ _ _ _ _ _ us hl => match us, hl with | [_, _], _ => rfl⟩
  m___floordiv__ := by
    obtain ⟨fd, F⟩ := c.d.def_ 17 (d := dfn "Fountain" (some "__floordiv__") "__floordiv__" "Fountain.__floordiv__" s_Fountain___floordiv__ [] []) rfl
    exact ⟨_, fd, meth_ok (c.d.fact 27 (f := .meth "Fountain" "__floordiv__") rfl), F, F.bindsN fun _ _ _ _ _ _ us hl => match us, hl with | [_, _], _ => rfl⟩
  m_at := by
    obtain ⟨fd, F⟩ := c.d.def_ 18 (d := dfn "Fountain" (some "at") "at" "Fountain.at" s_Fountain_at [] []) rfl
    exact ⟨_, fd, meth_ok (c.d.fact 28 (f := .meth "Fountain" "at") rfl), F, F.bindsN fun _ _ _ _ _ _ us hl => match us, hl with | [_, _], _ => rfl⟩
  m_put := by
    obtain ⟨fd, F⟩ := c.d.def_ 19 (d := dfn "Fountain" (some "put") "put" "Fountain.put" s_Fountain_put [] []) rfl
    exact ⟨_, fd, meth_ok (c.d.fact 29 (f := .meth "Fountain" "put") rfl), F, F.bindsN fun _ _ _ _ _ _ us hl => match us, hl with | [_, _, _], _ => rfl⟩
  d__law_feed := by
    obtain ⟨fd, F⟩ := c.d.def_ 20 (d := dfn "_law_feed" none "_law_feed" "_law_feed" s__law_feed [] []) rfl
    exact ⟨_, fd, glo_ok X G (c.d.fact 30 (f := .glo "_law_feed") rfl), F, F.bindsN fun _ _ _ _ _ _ us hl => match us, hl with | [_, _], _ => rfl⟩
  d__law_draw := by
    obtain ⟨fd, F⟩ := c.d.def_ 21 (d := dfn "_law_draw" none "_law_draw" "_law_draw" s__law_draw [] []) rfl
    exact ⟨_, fd, glo_ok X G (c.d.fact 31 (f := .glo "_law_draw") rfl), F, F.bindsN fun _ _ _ _ _ _ us hl => match us, hl with | [_, _], _ => rfl⟩
  d__law_mixed := by
    obtain ⟨fd, F⟩ := c.d.def_ 22 (d := dfn "_law_mixed" none "_law_mixed" "_law_mixed" s__law_mixed [] []) rfl
    exact ⟨_, fd, glo_ok X G (c.d.fact 32 (f := .glo "_law_mixed") rfl), F, F.bindsN fun _ _ _ _ _ _ us hl => match us, hl with | [_, _], _ => rfl⟩
  d__law_made := by
    obtain ⟨fd, F⟩ := c.d.def_ 23 (d := dfn "_law_made" none "_law_made" "_law_made" s__law_made [] []) rfl
    exact ⟨_, fd, glo_ok X G (c.d.fact 33 (f := .glo "_law_made") rfl), F, F.bindsN fun _ _ _ _ _ _ us hl => match us, hl with | [_, _, _], _ => rfl⟩
  d__law_due := by
    obtain ⟨fd, F⟩ := c.d.def_ 24 (d := dfn "_law_due" none "_law_due" "_law_due" s__law_due [] []) rfl
    exact ⟨_, fd, glo_ok X G (c.d.fact 34 (f := .glo "_law_due") rfl), F, F.bindsN fun _ _ _ _ _ _ us hl => match us, hl with | [_, _], _ => rfl⟩
  d__law_chain := by
    obtain ⟨fd, F⟩ := c.d.def_ 25 (d := dfn "_law_chain" none "_law_chain" "_law_chain" s__law_chain [] []) rfl
    exact ⟨_, fd, glo_ok X G (c.d.fact 35 (f := .glo "_law_chain") rfl), F, F.bindsN fun _ _ _ _ _ _ us hl => match us, hl with | [_], _ => rfl⟩
  d_law := by
    obtain ⟨fd, F⟩ := c.d.def_ 26 (d := dfn "law" none "law" "law" s_law [] []) rfl
    exact ⟨_, fd, glo_ok X G (c.d.fact 36 (f := .glo "law") rfl), F, F.bindsN fun _ _ _ _ _ _ us hl => match us, hl with | [_], _ => rfl⟩
  b_JetError := ⟨glo_ok X G (c.d.fact 37 (f := .glo "JetError") rfl), baseB_ok (all_at (exs c).2.2.2.2.1 0 (a := "JetError") rfl)⟩
  e_JetError := ⟨glo_ok X G (c.d.fact 37 (f := .glo "JetError") rfl)⟩
  k_TooLarge_TooLarge := of_decide_eq_true (all_at (exs c).2.2.2.2.2.1 0 (a := ("TooLarge", "TooLarge", true)) rfl)
  k_TooLarge_TooDeep := of_decide_eq_true (all_at (exs c).2.2.2.2.2.1 1 (a := ("TooLarge", "TooDeep", false)) rfl)
  k_TooDeep_TooLarge := of_decide_eq_true (all_at (exs c).2.2.2.2.2.1 2 (a := ("TooDeep", "TooLarge", false)) rfl)
  k_TooDeep_TooDeep := of_decide_eq_true (all_at (exs c).2.2.2.2.2.1 3 (a := ("TooDeep", "TooDeep", true)) rfl)
  x_TooLarge_JetError := of_decide_eq_true (all_at (exs c).2.2.2.2.2.2 0 (a := ("TooLarge", "JetError", true)) rfl)
  x_TooDeep_JetError := of_decide_eq_true (all_at (exs c).2.2.2.2.2.2 1 (a := ("TooDeep", "JetError", true)) rfl)
  n_NotImplemented := free_ok X G (c.d.fact 38 (f := .free "NotImplemented") rfl)
  n_TypeError := free_ok X G (c.d.fact 39 (f := .free "TypeError") rfl)
  n_abs := free_ok X G (c.d.fact 40 (f := .free "abs") rfl)
  n_any := free_ok X G (c.d.fact 41 (f := .free "any") rfl)
  n_enumerate := free_ok X G (c.d.fact 42 (f := .free "enumerate") rfl)
  n_int := free_ok X G (c.d.fact 43 (f := .free "int") rfl)
  n_isinstance := free_ok X G (c.d.fact 44 (f := .free "isinstance") rfl)
  n_len := free_ok X G (c.d.fact 45 (f := .free "len") rfl)
  n_list := free_ok X G (c.d.fact 46 (f := .free "list") rfl)
  n_max := free_ok X G (c.d.fact 47 (f := .free "max") rfl)
  n_min := free_ok X G (c.d.fact 48 (f := .free "min") rfl)
  n_range := free_ok X G (c.d.fact 49 (f := .free "range") rfl)
  n_sorted := free_ok X G (c.d.fact 50 (f := .free "sorted") rfl)
  n_sum := free_ok X G (c.d.fact 51 (f := .free "sum") rfl)
  n_tuple := free_ok X G (c.d.fact 52 (f := .free "tuple") rfl)
theorem tabs_of {K : PySem.W.Frag} {H : Hp} (hH : ∀ p ∈ tf.map (cT K), H p.2 = some (.tbl #[])) : LamX.Tabs (TT K) H := fun q hq => by
  rcases List.mem_cons.mp hq with e | hq
  · subst e
    exact LamX.TabS.nil (hH _ (List.mem_map.mpr ⟨("made", none), List.mem_of_getElem? (i := 0) rfl, rfl⟩))
  · exact absurd hq (by simp)
theorem facts {w : World} {K : PySem.W.Frag} {h : Heap} {mg : Str → Option Value} {f : Addr} (X : K.In h) (G : h.Ns mainGlobals mg) (hfa : mg ("law" : Str) = some (.ref f)) (c : SaysE fa fn tf ex fx h K) :
    LamX.LawAtS PySem.Challenge.rw_jetworks_k73_too_large_ahead_of_too_deep w K CX0 136 63 "_law_script" mg f h := by
  obtain ⟨fd, F⟩ := c.d.def_ 26 (d := dfn "law" none "law" "law" s_law [] []) rfl
  have e := hfa.symm.trans (glo_ok X G (c.d.fact 36 (f := .glo "law") rfl))
  cases e
  refine ⟨fd, tf.map (cT K), sp_law K, fun p hp => ?_, fun p hp => ?_, fun p hp => ?_, fun s v => FunD.bindsA (ps := ["_law_script"]) F (fun _ _ _ _ _ _ us hl => match us, hl with | [_], _ => rfl) s [v] rfl, fun H a ns hl _ hH hS => ⟨a, ns, rfl, hS, hl, tabs_of hH, fun _ => rfl⟩, fun base kb nb TB => fn_law (txt_of kb nb c TB) F⟩
  · obtain ⟨q, hq, rfl⟩ := List.mem_map.mp hp
    exact c.empty q hq
  · obtain ⟨q, hq, rfl⟩ := List.mem_map.mp hp
    exact c.out q hq
  · obtain ⟨q, hq, rfl⟩ := List.mem_map.mp hp
    exact PySem.W.codeHd_of_K X (c.hd q hq)

end JW
open PySem PySem.W PySem.Calls PyProof.Rows
set_option maxRecDepth 100000 in
set_option maxHeartbeats 0 in
theorem PySem.Challenge.cw_jetworks_k73_too_large_ahead_of_too_deep_holds : PySem.Challenge.rw_jetworks_k73_too_large_ahead_of_too_deep.Holds := by
  w_on; o_law
  refine HandSHeadRun.head_any (r := OpenLaw.row PySem.Challenge.rw_jetworks_k73_too_large_ahead_of_too_deep) (q := view (OpenLaw.row PySem.Challenge.rw_jetworks_k73_too_large_ahead_of_too_deep).prog [38]) (H := JW.hk) (ob := JW.ob) (M := 200000) (loose := JW.loose) (d := HandSHeadRun.topDef (OpenLaw.row PySem.Challenge.rw_jetworks_k73_too_large_ahead_of_too_deep).prog 38) (kwd := []) JW.ob_eq
    (by kernel_rfl) (fun s => by kernel_rfl) JW.run (by kernel_rfl) (by kernel_rfl) (by kernel_rfl) (by rfl) (by first | assumption | decide +kernel) (by decide +kernel) ⟨rfl, rfl, rfl, rfl, rfl, by decide +kernel⟩ ?hw ?hc
  case hw => w_witness2
  case hc =>
    refine LamX.walk_ofTsE (l := PySem.Challenge.rw_jetworks_k73_too_large_ahead_of_too_deep) (n := 63) (k := 136) (x := "_law_script") (CX := fun _ => L2.CX0) rfl (by decide) (by kernel_rfl) ⟨rfl, by decide, by decide⟩ ?F (fun _ _ _ _ _ z => z)
    intro w mg fa h Y G hmg0
    obtain ⟨K, KX, c⟩ := Y
    have hmg : mg ("law" : PySem.Str) = some (.ref fa) := by
      have e : (HandSHeadRun.topDef (OpenLaw.row PySem.Challenge.rw_jetworks_k73_too_large_ahead_of_too_deep).prog 38).name = ("law" : PySem.Str) := by kernel_rfl
      rw [← e]
      exact hmg0
    exact ⟨K, KX, JW.facts KX G hmg c⟩
