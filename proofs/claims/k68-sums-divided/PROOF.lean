import PyProof.Rows.All
import Wide.All
import OpenK.AllK
import Wide.FinOn
import KE.KStateDown
import Lean
import HandS.ForMost
import HandS.More
import HandS.Exc
import HandS.WordsExc
import HandS.Defaults
import HandS.Flow
import HandS.Style
import HandS.Wide
import HandS.IsInst
import HandS.Head0
import HandS.Head1
import HandS.Head2
import HandS.HeadEnd
import HandS.HeadHook1
import HandS.HeadHook2
import PyProof.NeKinds
import PyProof.InstNe
import OpenK.KMeth
import HandS.Property
import HandS.ClsMeth
import HandS.OwnEq
import KE.KSortKeyAny
import KE.KLam
import HandS.Lambda
import HandS.SortKw
import PyProof.Rows.SortShellAny
import KE.DataMinMax
import HandS.HeadHook4
import HandS.HeadWalk
import HandS.EndTab
import HandS.TupAny
import HandS.ExcInit
import HandS.ExcField
import HandS.ExcIs
import KE.KExcIs
import HandS.ExcOwn
import HandS.TryOnly
import HandS.TupMul
import HandS.Star
import HandS.ReplaceLit
import HandS.Walk
import HandS.ReplaceDef
import HandS.ReplaceList
import HandS.GenList
import HandS.Conv
import HandS.FStr
import HandS.Zip
import HandS.Deep
import PySem.Challenge.RW_jetworks_k68_whole_sums_divided_and_fact
set_option Elab.async false
set_option linter.all false
set_option maxRecDepth 100000
set_option exponentiation.threshold 100000
set_option maxHeartbeats 4000000
set_option pp.maxSteps 700
namespace JW
inductive T where
  | jet
  | bas (l : List T)
mutual
def T.codes : T → List Nat
  | .jet => [111]
  | .bas l => 40 :: (codesL l ++ [41])
def codesL : List T → List Nat
  | [] => []
  | t :: r => t.codes ++ codesL r
end
mutual
theorem T.ind' {P : T → Prop} (hj : P .jet) (hb : ∀ l, (∀ t ∈ l, P t) → P (.bas l)) : ∀ t, P t
  | .jet => hj
  | .bas l => hb l (indL' hj hb l)
theorem indL' {P : T → Prop} (hj : P .jet) (hb : ∀ l, (∀ t ∈ l, P t) → P (.bas l)) : ∀ l : List T, ∀ t ∈ l, P t
  | [], _, h => nomatch h
  | u :: r, t, h => by
    rcases List.mem_cons.mp h with e | e
    · exact e ▸ T.ind' hj hb u
    · exact indL' hj hb r t e
end
theorem codes_head : ∀ t : T, (∃ r, t.codes = 111 :: r) ∨ ∃ r, t.codes = 40 :: r
  | .jet => .inl ⟨[], rfl⟩
  | .bas l => .inr ⟨_, rfl⟩
mutual
theorem codes_pre : ∀ (t u : T) (r s : List Nat), t.codes ++ r = u.codes ++ s → t = u ∧ r = s
  | .jet, .jet, r, s, h => ⟨rfl, List.cons.inj h |>.2⟩
  | .jet, .bas l, r, s, h => by
    have h1 : (111 : Nat) = 40 := (List.cons.inj h).1
    cases h1
  | .bas l, .jet, r, s, h => by
    have h1 : (40 : Nat) = 111 := (List.cons.inj h).1
    cases h1
  | .bas l, .bas m, r, s, h => by
    have h1 : codesL l ++ [41] ++ r = codesL m ++ [41] ++ s := (List.cons.inj h).2
    rw [List.append_assoc, List.append_assoc] at h1
    obtain ⟨e1, e2⟩ := codesL_pre l m r s h1
    exact ⟨by rw [e1], e2⟩
theorem codesL_pre : ∀ (l m : List T) (r s : List Nat), codesL l ++ ([41] ++ r) = codesL m ++ ([41] ++ s) → l = m ∧ r = s
  | [], [], r, s, h => ⟨rfl, (List.cons.inj h).2⟩
  | [], u :: m, r, s, h => by
    have h1 : 41 :: r = u.codes ++ (codesL m ++ ([41] ++ s)) := by
      have h2 : codesL (u :: m) ++ ([41] ++ s) = u.codes ++ (codesL m ++ ([41] ++ s)) := List.append_assoc _ _ _
      rw [← h2]
      exact h
    rcases codes_head u with ⟨q, e⟩ | ⟨q, e⟩
    · rw [e] at h1
      cases (List.cons.inj h1).1
    · rw [e] at h1
      cases (List.cons.inj h1).1
  | t :: l, [], r, s, h => by
    have h1 : t.codes ++ (codesL l ++ ([41] ++ r)) = 41 :: s := by
      have h2 : codesL (t :: l) ++ ([41] ++ r) = t.codes ++ (codesL l ++ ([41] ++ r)) := List.append_assoc _ _ _
      rw [← h2]
      exact h
    rcases codes_head t with ⟨q, e⟩ | ⟨q, e⟩
    · rw [e] at h1
      cases (List.cons.inj h1).1
    · rw [e] at h1
      cases (List.cons.inj h1).1
  | t :: l, u :: m, r, s, h => by
    have h1 : t.codes ++ (codesL l ++ ([41] ++ r)) = u.codes ++ (codesL m ++ ([41] ++ s)) := by
      have h2 : codesL (t :: l) ++ ([41] ++ r) = t.codes ++ (codesL l ++ ([41] ++ r)) := List.append_assoc _ _ _
      have h3 : codesL (u :: m) ++ ([41] ++ s) = u.codes ++ (codesL m ++ ([41] ++ s)) := List.append_assoc _ _ _
      rw [← h2, ← h3]
      exact h
    obtain ⟨e1, e2⟩ := codes_pre t u _ _ h1
    obtain ⟨e3, e4⟩ := codesL_pre l m r s e2
    exact ⟨by rw [e1, e3], e4⟩
end
theorem codes_inj {t u : T} (h : t.codes = u.codes) : t = u := (codes_pre t u [] [] (by rw [h])).1
instance : DecidableEq T := fun a b => if h : a.codes = b.codes then isTrue (codes_inj h) else isFalse fun e => h (e ▸ rfl)
def tle (a b : T) : Bool := !decide (b.codes < a.codes)
theorem tle_trans (a b c : T) (h1 : tle a b = true) (h2 : tle b c = true) : tle a c = true := by
  unfold tle at *
  simp only [Bool.not_eq_true', decide_eq_false_iff_not] at *
  exact fun h => h1 (List.lt_of_le_of_lt (List.not_lt.mp h2) h)
theorem tle_total (a b : T) : (tle a b || tle b a) = true := by
  unfold tle
  by_cases h : b.codes < a.codes
  · have h2 : ¬ a.codes < b.codes := List.lt_asymm h
    simp [h2]
  · simp [h]
theorem tle_anti {a b : T} (h1 : tle a b = true) (h2 : tle b a = true) : a = b := by
  unfold tle at *
  simp only [Bool.not_eq_true', decide_eq_false_iff_not] at *
  exact codes_inj (List.le_antisymm (List.not_lt.mp h1) (List.not_lt.mp h2))
abbrev Srt (l : List T) : Prop := l.Pairwise fun a b => tle a b = true
def sortT (l : List T) : List T := l.mergeSort tle
theorem sortT_perm (l : List T) : (sortT l).Perm l := List.mergeSort_perm l tle
theorem sortT_srt (l : List T) : Srt (sortT l) := List.pairwise_mergeSort tle_trans tle_total l
theorem srt_unique : ∀ {a b : List T}, a.Perm b → Srt a → Srt b → a = b
  | [], b, p, _, _ => (List.nil_perm.mp p).symm ▸ rfl
  | x :: a, [], p, _, _ => absurd p.length_eq (by simp)
  | x :: a, y :: b, p, ha, hb => by
    have hx := List.pairwise_cons.mp ha
    have hy := List.pairwise_cons.mp hb
    have exy : x = y := by
      have h1 : x ∈ y :: b := p.mem_iff.mp List.mem_cons_self
      have h2 : y ∈ x :: a := p.mem_iff.mpr List.mem_cons_self
      rcases List.mem_cons.mp h1 with e | h1
      · exact e
      · rcases List.mem_cons.mp h2 with e | h2
        · exact e.symm
        · exact tle_anti (hx.1 y h2) (hy.1 x h1)
    subst exy
    rw [srt_unique (List.Perm.cons_inv p) hx.2 hy.2]
theorem sortT_eq {a b : List T} (p : a.Perm b) (h : Srt a) : a = sortT b := srt_unique (p.trans (sortT_perm b).symm) h (sortT_srt b)
theorem sortT_congr {a b : List T} (p : a.Perm b) : sortT a = sortT b := srt_unique ((sortT_perm a).trans (p.trans (sortT_perm b).symm)) (sortT_srt a) (sortT_srt b)
theorem sortT_of {a : List T} (h : Srt a) : sortT a = a := (sortT_eq (List.Perm.refl a) h).symm
mutual
def T.canon : T → T
  | .jet => .jet
  | .bas l => .bas (sortT (canonL l))
def canonL : List T → List T
  | [] => []
  | t :: r => t.canon :: canonL r
end
theorem canonL_map : ∀ l : List T, canonL l = l.map T.canon
  | [] => rfl
  | t :: r => by
    show t.canon :: canonL r = t.canon :: r.map T.canon
    rw [canonL_map r]
theorem canon_bas (l : List T) : (T.bas l).canon = .bas (sortT (l.map T.canon)) := by
  show T.bas (sortT (canonL l)) = _
  rw [canonL_map]
mutual
def Can : T → Prop
  | .jet => True
  | .bas l => Srt l ∧ CanL l
def CanL : List T → Prop
  | [] => True
  | t :: r => Can t ∧ CanL r
end
theorem canL_iff : ∀ {l : List T}, CanL l ↔ ∀ t ∈ l, Can t
  | [] => ⟨fun _ _ h => (nomatch h), fun _ => trivial⟩
  | t :: r => by
    constructor
    · intro h u hu
      have h1 : Can t := h.1
      have h2 : CanL r := h.2
      rcases List.mem_cons.mp hu with e | e
      · exact e ▸ h1
      · exact canL_iff.mp h2 u e
    · exact fun h => ⟨h t List.mem_cons_self, canL_iff.mpr fun u hu => h u (List.mem_cons_of_mem _ hu)⟩
theorem can_canon : ∀ t : T, Can t → t.canon = t := by
  refine T.ind' (fun _ => rfl) fun l ih h => ?_
  rw [canon_bas]
  have e : l.map T.canon = l := by
    rw [show l.map T.canon = l.map id from List.map_congr_left fun t ht => ih t ht (canL_iff.mp h.2 t ht), List.map_id]
  rw [e, sortT_of h.1]
theorem canL_sort {l : List T} (h : CanL l) : CanL (sortT l) := canL_iff.mpr fun t ht => canL_iff.mp h t ((sortT_perm l).mem_iff.mp ht)
theorem can_bas {l : List T} (h : CanL l) : Can (.bas (sortT l)) := ⟨sortT_srt l, canL_sort h⟩
theorem canon_can : ∀ t : T, Can t.canon := by
  refine T.ind' trivial fun l ih => ?_
  rw [canon_bas]
  refine can_bas (canL_iff.mpr fun t ht => ?_)
  obtain ⟨u, hu, e⟩ := List.mem_map.mp ht
  exact e ▸ ih u hu
mutual
def T.size : T → Nat
  | .jet => 1
  | .bas l => 1 + sizeL l
def sizeL : List T → Nat
  | [] => 0
  | t :: r => t.size + sizeL r
end
mutual
def T.jts : T → Nat
  | .jet => 1
  | .bas l => jtsL l
def jtsL : List T → Nat
  | [] => 0
  | t :: r => t.jts + jtsL r
end
mutual
def T.dep : T → Nat
  | .jet => 0
  | .bas l => 1 + depL l
def depL : List T → Nat
  | [] => 0
  | t :: r => max t.dep (depL r)
end
mutual
def T.lng : T → Nat
  | .jet => 0
  | .bas l => 1 + lngL l
def lngL : List T → Nat
  | [] => 0
  | t :: r => if t.jts = 0 then lngL r else max t.lng (lngL r)
end
mutual
def T.sht : T → Nat
  | .jet => 0
  | .bas l => 1 + shtL l
def shtL : List T → Nat
  | [] => 0
  | t :: r => if t.jts = 0 then shtL r else if jtsL r = 0 then t.sht else min t.sht (shtL r)
end
theorem sizeL_sum : ∀ l : List T, sizeL l = (l.map T.size).sum
  | [] => rfl
  | t :: r => by
    show t.size + sizeL r = _
    rw [sizeL_sum r, List.map_cons, List.sum_cons]
theorem jtsL_sum : ∀ l : List T, jtsL l = (l.map T.jts).sum
  | [] => rfl
  | t :: r => by
    show t.jts + jtsL r = _
    rw [jtsL_sum r, List.map_cons, List.sum_cons]
theorem sizeL_perm {a b : List T} (p : a.Perm b) : sizeL a = sizeL b := by rw [sizeL_sum, sizeL_sum, (p.map T.size).sum_nat]
theorem jtsL_perm {a b : List T} (p : a.Perm b) : jtsL a = jtsL b := by rw [jtsL_sum, jtsL_sum, (p.map T.jts).sum_nat]
theorem depL_perm {a b : List T} (p : a.Perm b) : depL a = depL b := by
  induction p with
  | nil => rfl
  | cons x _ ih => show max _ _ = max _ _; rw [ih]
  | swap x y l => show max _ (max _ _) = max _ (max _ _); omega
  | trans _ _ h1 h2 => exact h1.trans h2
theorem lngL_perm {a b : List T} (p : a.Perm b) : lngL a = lngL b := by
  induction p with
  | nil => rfl
  | cons x _ ih => show ite _ _ _ = ite _ _ _; rw [ih]
  | swap x y l =>
    show ite _ (ite _ _ _) (max _ (ite _ _ _)) = ite _ (ite _ _ _) (max _ (ite _ _ _))
    split <;> split <;> omega
  | trans _ _ h1 h2 => exact h1.trans h2
theorem shtL_perm {a b : List T} (p : a.Perm b) : shtL a = shtL b := by
  induction p with
  | nil => rfl
  | @cons x l1 l2 p ih =>
    show ite _ _ (ite _ _ _) = ite _ _ (ite _ _ _)
    rw [ih, jtsL_perm p]
  | swap x y l =>
    show ite (y.jts = 0) (ite (x.jts = 0) _ (ite _ _ _)) (ite (x.jts + jtsL l = 0) _ (min _ (ite (x.jts = 0) _ (ite _ _ _)))) = ite (x.jts = 0) (ite (y.jts = 0) _ (ite _ _ _)) (ite (y.jts + jtsL l = 0) _ (min _ (ite (y.jts = 0) _ (ite _ _ _))))
    by_cases h1 : x.jts = 0 <;> by_cases h2 : y.jts = 0 <;> by_cases h3 : jtsL l = 0 <;> simp [h1, h2, h3] <;> omega
  | trans _ _ h1 h2 => exact h1.trans h2
theorem size_pos : ∀ t : T, 0 < t.size
  | .jet => Nat.zero_lt_one
  | .bas l => by show 0 < 1 + sizeL l; omega
theorem canon_size : ∀ t : T, t.canon.size = t.size := by
  refine T.ind' rfl fun l ih => ?_
  rw [canon_bas]
  show 1 + sizeL (sortT (l.map T.canon)) = 1 + sizeL l
  rw [sizeL_perm (sortT_perm _), sizeL_sum, sizeL_sum, List.map_map, List.map_congr_left (f := T.size ∘ T.canon) fun t ht => ih t ht]
theorem depL_congr {f : T → T} : ∀ {l : List T}, (∀ t ∈ l, (f t).dep = t.dep) → depL (l.map f) = depL l
  | [], _ => rfl
  | t :: r, h => by
    show max _ _ = max _ _
    rw [h t List.mem_cons_self, depL_congr fun u hu => h u (List.mem_cons_of_mem _ hu)]
theorem canon_dep : ∀ t : T, t.canon.dep = t.dep := by
  refine T.ind' rfl fun l ih => ?_
  rw [canon_bas]
  show 1 + depL (sortT (l.map T.canon)) = 1 + depL l
  rw [depL_perm (sortT_perm _), depL_congr ih]
theorem codes_len : ∀ t : T, t.codes.length + t.jts = 2 * t.size ∧ 1 ≤ t.codes.length := by
  refine T.ind' ⟨rfl, Nat.le_refl _⟩ fun l ih => ?_
  have e : ∀ l : List T, (∀ t ∈ l, t.codes.length + t.jts = 2 * t.size ∧ 1 ≤ t.codes.length) → (codesL l).length + jtsL l = 2 * sizeL l := by
    intro l
    induction l with
    | nil => intro _; rfl
    | cons t r ihr =>
      intro h
      have h1 := (h t List.mem_cons_self).1
      have h2 := ihr fun u hu => h u (List.mem_cons_of_mem _ hu)
      show (t.codes ++ codesL r).length + (t.jts + jtsL r) = 2 * (t.size + sizeL r)
      rw [List.length_append]
      omega
  have h := e l ih
  show (40 :: (codesL l ++ [41])).length + jtsL l = 2 * (1 + sizeL l) ∧ 1 ≤ (40 :: (codesL l ++ [41])).length
  rw [List.length_cons, List.length_append, List.length_singleton]
  omega
theorem len_le {t : T} {l : List T} (h : t ∈ l) : t.size ≤ sizeL l := by
  induction l with
  | nil => cases h
  | cons u r ih =>
    show _ ≤ u.size + sizeL r
    rcases List.mem_cons.mp h with e | e
    · subst e; omega
    · have := ih e; omega
theorem length_le : ∀ l : List T, l.length ≤ sizeL l
  | [] => Nat.le_refl _
  | t :: r => by
    have := length_le r
    have := size_pos t
    show r.length + 1 ≤ t.size + sizeL r
    omega
theorem dep_le_size : ∀ t : T, t.dep + 1 ≤ t.size + 1 := by
  refine T.ind' (by decide) fun l ih => ?_
  have e : ∀ l : List T, (∀ t ∈ l, t.dep + 1 ≤ t.size + 1) → depL l ≤ sizeL l := by
    intro l
    induction l with
    | nil => intro _; exact Nat.le_refl _
    | cons t r ihr =>
      intro h
      have h1 := h t List.mem_cons_self
      have h2 := ihr fun u hu => h u (List.mem_cons_of_mem _ hu)
      show max t.dep (depL r) ≤ t.size + sizeL r
      omega
  have := e l ih
  show 1 + depL l + 1 ≤ 1 + sizeL l + 1
  omega
abbrev PSt := List (List T) × Option T
def pput (t : T) : List (List T) → PSt
  | [] => ([], some t)
  | p :: r => ((p ++ [t]) :: r, none)
def pstep (s : PSt) (c : Nat) : Option PSt := match s.2 with
  | some _ => none
  | none => if c = 40 then some ([] :: s.1, none) else if c = 111 then some (pput .jet s.1) else if c = 41 then
      (match s.1 with
      | [] => none
      | p :: r => some (pput (.bas (sortT p)) r)) else none
def prun : List Nat → PSt → Option PSt
  | [], s => some s
  | c :: r, s => (pstep s c).bind (prun r)
mutual
theorem prun_codes : ∀ (t : T) (k : List Nat) (st : List (List T)), prun (t.codes ++ k) (st, none) = prun k (pput t.canon st)
  | .jet, k, st => rfl
  | .bas l, k, st => by
    show prun (codesL l ++ [41] ++ k) ([] :: st, none) = _
    rw [List.append_assoc, prun_codesL l ([41] ++ k) [] st, List.nil_append]
    show prun k (pput (.bas (sortT (canonL l))) st) = _
    rfl
theorem prun_codesL : ∀ (l : List T) (k : List Nat) (p : List T) (st : List (List T)), prun (codesL l ++ k) (p :: st, none) = prun k ((p ++ canonL l) :: st, none)
  | [], k, p, st => by
    show prun k _ = prun k ((p ++ []) :: st, none)
    rw [List.append_nil]
  | t :: r, k, p, st => by
    show prun (t.codes ++ codesL r ++ k) _ = prun k ((p ++ (t.canon :: canonL r)) :: st, none)
    rw [List.append_assoc, prun_codes t (codesL r ++ k) (p :: st)]
    show prun (codesL r ++ k) ((p ++ [t.canon]) :: st, none) = _
    rw [prun_codesL r k (p ++ [t.canon]) st, List.append_assoc]
    rfl
end
theorem prun_all (t : T) : prun t.codes ([], none) = some ([], some t.canon) := by
  have h := prun_codes t [] []
  rw [List.append_nil] at h
  exact h
def opn (t : T) : Bool := decide (0 < t.jts)
theorem jtsL_zero : ∀ {l : List T}, jtsL l = 0 ↔ l.filter opn = []
  | [] => ⟨fun _ => rfl, fun _ => rfl⟩
  | t :: r => by
    have ih := jtsL_zero (l := r)
    show t.jts + jtsL r = 0 ↔ _
    rw [List.filter_cons]
    unfold opn at *
    by_cases h : 0 < t.jts
    · simp [h]; omega
    · simp only [h, decide_false]
      simp only [Bool.false_eq_true, if_false]
      rw [← ih]
      omega
theorem lngL_in : ∀ {l : List T}, jtsL l ≠ 0 → lngL l ∈ (l.filter opn).map T.lng
  | [], h => absurd rfl h
  | t :: r, h => by
    have ih := lngL_in (l := r)
    have h2 : t.jts + jtsL r ≠ 0 := h
    show ite _ _ _ ∈ _
    rw [List.filter_cons]
    by_cases ht : t.jts = 0
    · have e : opn t = false := by unfold opn; simp [ht]
      rw [if_pos ht, e]
      simp only [Bool.false_eq_true, if_false]
      exact ih (by omega)
    · have e : opn t = true := by unfold opn; simp; omega
      rw [if_neg ht, e, if_pos rfl, List.map_cons]
      by_cases hr : jtsL r = 0
      · have e2 : lngL r = 0 := by
          have e3 : ∀ l : List T, jtsL l = 0 → lngL l = 0 := by
            intro l
            induction l with
            | nil => intro _; rfl
            | cons u q ihq =>
              intro hq
              have h3 : u.jts + jtsL q = 0 := hq
              show ite _ _ _ = 0
              rw [if_pos (by omega)]
              exact ihq (by omega)
          exact e3 r hr
        rw [e2, Nat.max_eq_left (Nat.zero_le _)]
        exact List.mem_cons_self
      · by_cases hm : t.lng ≤ lngL r
        · rw [Nat.max_eq_right hm]
          exact List.mem_cons_of_mem _ (ih hr)
        · rw [Nat.max_eq_left (by omega)]
          exact List.mem_cons_self
theorem lngL_le : ∀ {l : List T} {t : T}, t ∈ l.filter opn → t.lng ≤ lngL l
  | [], t, h => by cases h
  | u :: r, t, h => by
    show _ ≤ ite _ _ _
    rw [List.filter_cons] at h
    by_cases ht : u.jts = 0
    · have e : opn u = false := by unfold opn; simp [ht]
      rw [e] at h
      rw [if_pos ht]
      exact lngL_le h
    · have e : opn u = true := by unfold opn; simp; omega
      rw [e, if_pos rfl] at h
      rw [if_neg ht]
      rcases List.mem_cons.mp h with z | z
      · subst z; omega
      · have := lngL_le z; omega
theorem shtL_in : ∀ {l : List T}, jtsL l ≠ 0 → shtL l ∈ (l.filter opn).map T.sht
  | [], h => absurd rfl h
  | t :: r, h => by
    have ih := shtL_in (l := r)
    have h2 : t.jts + jtsL r ≠ 0 := h
    show ite _ _ (ite _ _ _) ∈ _
    rw [List.filter_cons]
    by_cases ht : t.jts = 0
    · have e : opn t = false := by unfold opn; simp [ht]
      rw [if_pos ht, e]
      simp only [Bool.false_eq_true, if_false]
      exact ih (by omega)
    · have e : opn t = true := by unfold opn; simp; omega
      rw [if_neg ht, e, if_pos rfl, List.map_cons]
      by_cases hr : jtsL r = 0
      · rw [if_pos hr]
        exact List.mem_cons_self
      · rw [if_neg hr]
        by_cases hm : t.sht ≤ shtL r
        · rw [Nat.min_eq_left hm]
          exact List.mem_cons_self
        · rw [Nat.min_eq_right (by omega)]
          exact List.mem_cons_of_mem _ (ih hr)
theorem shtL_le : ∀ {l : List T} {t : T}, t ∈ l.filter opn → shtL l ≤ t.sht
  | [], t, h => by cases h
  | u :: r, t, h => by
    show ite _ _ (ite _ _ _) ≤ _
    rw [List.filter_cons] at h
    by_cases ht : u.jts = 0
    · have e : opn u = false := by unfold opn; simp [ht]
      rw [e] at h
      rw [if_pos ht]
      exact shtL_le h
    · have e : opn u = true := by unfold opn; simp; omega
      rw [e, if_pos rfl] at h
      rw [if_neg ht]
      rcases List.mem_cons.mp h with z | z
      · subst z; split <;> omega
      · have h1 := shtL_le z
        have h2 : jtsL r ≠ 0 := fun q => by
          rw [jtsL_zero.mp q] at z
          cases z
        rw [if_neg h2]
        omega
theorem lng_max {l : List T} {m : Int} (h : jtsL l ≠ 0) (h1 : m ∈ (l.filter opn).map fun t => (t.lng : Int)) (h2 : ∀ y ∈ (l.filter opn).map (fun t => (t.lng : Int)), y ≤ m) : m = (lngL l : Nat) := by
  obtain ⟨t, ht, e⟩ := List.mem_map.mp h1
  have a := lngL_le ht
  obtain ⟨u, hu, e2⟩ := List.mem_map.mp (lngL_in h)
  have b := h2 _ (List.mem_map.mpr ⟨u, hu, rfl⟩)
  omega
theorem sht_min {l : List T} {m : Int} (h : jtsL l ≠ 0) (h1 : m ∈ (l.filter opn).map fun t => (t.sht : Int)) (h2 : ∀ y ∈ (l.filter opn).map (fun t => (t.sht : Int)), m ≤ y) : m = (shtL l : Nat) := by
  obtain ⟨t, ht, e⟩ := List.mem_map.mp h1
  have a := shtL_le ht
  obtain ⟨u, hu, e2⟩ := List.mem_map.mp (shtL_in h)
  have b := h2 _ (List.mem_map.mpr ⟨u, hu, rfl⟩)
  omega
theorem dep_fold {l : List T} {n : Int} {r : List Int} (h : (l.map fun t => (t.dep : Int)) = n :: r) : r.foldl max n = (depL l : Nat) := by
  have go : ∀ (l : List T) (n : Int), 0 ≤ n → (l.map fun t => (t.dep : Int)).foldl max n = max n (depL l : Nat) := by
    intro l
    induction l with
    | nil =>
      intro n hn
      show n = max n (0 : Nat)
      omega
    | cons t q ih =>
      intro n hn
      rw [List.map_cons, List.foldl_cons, ih _ (by omega)]
      show max (max n (t.dep : Int)) (depL q : Nat) = max n ((max t.dep (depL q) : Nat) : Int)
      omega
  cases l with
  | nil => cases h
  | cons t q =>
    rw [List.map_cons] at h
    injection h with h1 h2
    subst h1 h2
    rw [go q _ (by omega)]
    show max (t.dep : Int) (depL q : Nat) = ((max t.dep (depL q) : Nat) : Int)
    omega
def wtL : List (List T) → Nat
  | [] => 0
  | p :: r => 1 + sizeL p + wtL r
def wtS (s : PSt) : Nat := wtL s.1 + (match s.2 with
  | some t => t.size
  | none => 0)
theorem sizeL_app (a b : List T) : sizeL (a ++ b) = sizeL a + sizeL b := by
  rw [sizeL_sum, sizeL_sum, sizeL_sum, List.map_append, List.sum_append]
theorem pput_wt (t : T) (st : List (List T)) : wtS (pput t st) = wtL st + t.size := by
  cases st with
  | nil => rfl
  | cons p r =>
    show 1 + sizeL (p ++ [t]) + wtL r + 0 = 1 + sizeL p + wtL r + t.size
    rw [sizeL_app]
    show 1 + (sizeL p + (t.size + 0)) + wtL r + 0 = _
    omega
theorem pstep_wt {s s' : PSt} {c : Nat} (h : pstep s c = some s') : wtS s' ≤ wtS s + 1 := by
  obtain ⟨st, fd⟩ := s
  unfold pstep at h
  cases fd with
  | some t => cases h
  | none =>
    simp only at h
    split at h
    · cases h
      show 1 + 0 + wtL st + 0 ≤ wtL st + 0 + 1
      omega
    · split at h
      · cases h
        rw [pput_wt]
        show wtL st + 1 ≤ wtL st + 0 + 1
        omega
      · split at h
        · cases st with
          | nil => cases h
          | cons p r =>
            cases h
            rw [pput_wt]
            show wtL r + (1 + sizeL (sortT p)) ≤ 1 + sizeL p + wtL r + 0 + 1
            rw [sizeL_perm (sortT_perm p)]
            omega
        · cases h
theorem wtL_len : ∀ st : List (List T), st.length ≤ wtL st
  | [] => Nat.le_refl _
  | p :: r => by
    have := wtL_len r
    show r.length + 1 ≤ 1 + sizeL p + wtL r
    omega
theorem prun_step {l : List Nat} {i c : Nat} {s e : PSt} (hc : l[i]? = some c) (h : prun (l.drop i) s = some e) : ∃ s', pstep s c = some s' ∧ prun (l.drop (i + 1)) s' = some e := by
  have hi : i < l.length := (List.getElem?_eq_some_iff.mp hc).1
  rw [List.drop_eq_getElem_cons hi] at h
  have e1 : l[i] = c := (List.getElem?_eq_some_iff.mp hc).2
  rw [e1] at h
  have h2 : (pstep s c).bind (prun (l.drop (i + 1))) = some e := h
  exact Option.bind_eq_some_iff.mp h2
theorem pstep_cases {st : List (List T)} {fd : Option T} {c : Nat} {s' : PSt} (h : pstep (st, fd) c = some s') : fd = none ∧ ((c = 40 ∧ s' = ([] :: st, none)) ∨ (c = 111 ∧ s' = pput .jet st) ∨ (c = 41 ∧ ∃ p r, st = p :: r ∧ s' = pput (.bas (sortT p)) r)) := by
  unfold pstep at h
  cases fd with
  | some t => cases h
  | none =>
    refine ⟨rfl, ?_⟩
    simp only at h
    split at h
    · rename_i e
      cases h
      exact .inl ⟨e, rfl⟩
    · split at h
      · rename_i e
        cases h
        exact .inr (.inl ⟨e, rfl⟩)
      · split at h
        · rename_i e
          cases st with
          | nil => cases h
          | cons p r =>
            cases h
            exact .inr (.inr ⟨e, p, r, rfl, rfl⟩)
        · cases h
end JW
namespace JW
mutual
def T.grf (p : T) : T → T
  | .jet => p
  | .bas l => .bas (sortT (grfL p l))
def grfL (p : T) : List T → List T
  | [] => []
  | t :: r => T.grf p t :: grfL p r
end
theorem grfL_map (p : T) : ∀ l : List T, grfL p l = l.map (T.grf p)
  | [] => rfl
  | t :: r => by
    show T.grf p t :: grfL p r = T.grf p t :: r.map (T.grf p)
    rw [grfL_map p r]
theorem grf_bas (p : T) (l : List T) : T.grf p (.bas l) = .bas (sortT (l.map (T.grf p))) := by
  show T.bas (sortT (grfL p l)) = _
  rw [grfL_map]
theorem grf_can {p : T} (hp : Can p) : ∀ t : T, Can (T.grf p t) := by
  refine T.ind' hp fun l ih => ?_
  rw [grf_bas]
  refine can_bas (canL_iff.mpr fun t ht => ?_)
  obtain ⟨u, hu, e⟩ := List.mem_map.mp ht
  exact e ▸ ih u hu
theorem grf_jts (p : T) : ∀ t : T, (T.grf p t).jts = t.jts * p.jts := by
  refine T.ind' (Nat.one_mul _).symm fun l ih => ?_
  rw [grf_bas]
  show jtsL (sortT (l.map (T.grf p))) = jtsL l * p.jts
  rw [jtsL_perm (sortT_perm _)]
  have go : ∀ l : List T, (∀ t ∈ l, (T.grf p t).jts = t.jts * p.jts) → jtsL (l.map (T.grf p)) = jtsL l * p.jts := by
    intro l
    induction l with
    | nil => intro _; exact (Nat.zero_mul _).symm
    | cons t r ihr =>
      intro h
      show (T.grf p t).jts + jtsL (r.map (T.grf p)) = (t.jts + jtsL r) * p.jts
      rw [h t List.mem_cons_self, ihr fun u hu => h u (List.mem_cons_of_mem _ hu), Nat.add_mul]
  exact go l ih
theorem grf_size (p : T) : ∀ t : T, (T.grf p t).size + t.jts = t.size + t.jts * p.size := by
  refine T.ind' ?_ fun l ih => ?_
  · show p.size + 1 = 1 + 1 * p.size
    omega
  rw [grf_bas]
  show 1 + sizeL (sortT (l.map (T.grf p))) + jtsL l = 1 + sizeL l + jtsL l * p.size
  rw [sizeL_perm (sortT_perm _)]
  have go : ∀ l : List T, (∀ t ∈ l, (T.grf p t).size + t.jts = t.size + t.jts * p.size) → sizeL (l.map (T.grf p)) + jtsL l = sizeL l + jtsL l * p.size := by
    intro l
    induction l with
    | nil =>
      intro _
      show 0 + 0 = 0 + 0 * p.size
      omega
    | cons t r ihr =>
      intro h
      have h1 := h t List.mem_cons_self
      have h2 := ihr fun u hu => h u (List.mem_cons_of_mem _ hu)
      show (T.grf p t).size + sizeL (r.map (T.grf p)) + (t.jts + jtsL r) = t.size + sizeL r + (t.jts + jtsL r) * p.size
      rw [Nat.add_mul]
      omega
  have := go l ih
  omega
theorem jtsL_all {l : List T} (h : jtsL l = 0) {t : T} (ht : t ∈ l) : t.jts = 0 := by
  induction l with
  | nil => cases ht
  | cons u r ih =>
    have h2 : u.jts + jtsL r = 0 := h
    rcases List.mem_cons.mp ht with e | e
    · subst e; omega
    · exact ih (by omega) e
theorem grf_closed (p : T) : ∀ t : T, Can t → t.jts = 0 → T.grf p t = t := by
  refine T.ind' (fun _ h => absurd h (by decide)) fun l ih hc h => ?_
  rw [grf_bas]
  have e : l.map (T.grf p) = l := by
    rw [show l.map (T.grf p) = l.map id from List.map_congr_left fun t ht => ih t ht (canL_iff.mp hc.2 t ht) (jtsL_all h ht), List.map_id]
  rw [e, sortT_of hc.1]
mutual
def cutT (b : T) : T → T
  | .jet => .jet
  | .bas l => if T.bas l = b then .jet else if jtsL l = 0 then .bas l else .bas (sortT (cutL b l))
def cutL (b : T) : List T → List T
  | [] => []
  | t :: r => cutT b t :: cutL b r
end
theorem cutL_map (b : T) : ∀ l : List T, cutL b l = l.map (cutT b)
  | [] => rfl
  | t :: r => by
    show cutT b t :: cutL b r = cutT b t :: r.map (cutT b)
    rw [cutL_map b r]
theorem cut_bas (b : T) (l : List T) : cutT b (.bas l) = if T.bas l = b then .jet else if jtsL l = 0 then .bas l else .bas (sortT (l.map (cutT b))) := by
  show (if T.bas l = b then T.jet else if jtsL l = 0 then .bas l else .bas (sortT (cutL b l))) = _
  rw [cutL_map]
theorem cut_self (b : T) : cutT b b = .jet := by
  cases b with
  | jet => rfl
  | bas l => rw [cut_bas, if_pos rfl]
mutual
def cov (b : T) : T → Bool
  | .jet => decide (T.jet = b)
  | .bas l => decide (T.bas l = b) || covL b l
def covL (b : T) : List T → Bool
  | [] => true
  | t :: r => cov b t && covL b r
end
theorem covL_all {b : T} : ∀ {l : List T}, covL b l = true ↔ ∀ t ∈ l, cov b t = true
  | [] => ⟨fun _ _ h => (nomatch h), fun _ => rfl⟩
  | t :: r => by
    constructor
    · intro h u hu
      have h2 : (cov b t && covL b r) = true := h
      obtain ⟨h3, h4⟩ := Bool.and_eq_true_iff.mp h2
      rcases List.mem_cons.mp hu with e | e
      · exact e ▸ h3
      · exact covL_all.mp h4 u e
    · intro h
      show (cov b t && covL b r) = true
      rw [h t List.mem_cons_self, covL_all.mpr fun u hu => h u (List.mem_cons_of_mem _ hu)]
      rfl
theorem cov_self (b : T) : cov b b = true := by
  cases b with
  | jet => rfl
  | bas l =>
    show (decide (T.bas l = .bas l) || covL (.bas l) l) = true
    rw [decide_eq_true rfl]
    rfl
theorem grf_ne {b : T} (hb : 0 < b.jts) {l : List T} : T.grf b (.bas l) ≠ b := by
  intro e
  have h1 := grf_size b (.bas l)
  have h2 := grf_jts b (.bas l)
  rw [e] at h1 h2
  have h3 : (T.bas l).jts = 1 := by
    rcases Nat.eq_zero_or_pos (T.bas l).jts with z | z
    · rw [z, Nat.zero_mul] at h2
      omega
    · exact Nat.eq_of_mul_eq_mul_right hb (by rw [← h2, Nat.one_mul])
  rw [h3] at h1
  have h4 := (codes_len (.bas l)).1
  have h5 : (40 :: (codesL l ++ [41])).length + (T.bas l).jts = 2 * (T.bas l).size := h4
  rw [List.length_cons, List.length_append, List.length_singleton] at h5
  have h6 : 1 ≤ (codesL l).length := by
    cases l with
    | nil => exact absurd h3 (by decide)
    | cons t r =>
      have := (codes_len t).2
      show 1 ≤ (t.codes ++ codesL r).length
      rw [List.length_append]
      omega
  omega
theorem cut_grf {b : T} (hb : 0 < b.jts) : ∀ t : T, Can t → cutT b (T.grf b t) = t := by
  refine T.ind' (fun _ => cut_self b) fun l ih hc => ?_
  have hne := grf_ne hb (l := l)
  rw [grf_bas] at hne ⊢
  rw [cut_bas, if_neg hne]
  have hj : jtsL (sortT (l.map (T.grf b))) = jtsL l * b.jts := by
    have := grf_jts b (.bas l)
    rw [grf_bas] at this
    exact this
  have e : (l.map (T.grf b)).map (cutT b) = l := by
    rw [List.map_map, show l.map (cutT b ∘ T.grf b) = l.map id from List.map_congr_left fun t ht => ih t ht (canL_iff.mp hc.2 t ht), List.map_id]
  split
  · rename_i hz
    rw [hj] at hz
    have hz2 : jtsL l = 0 := by
      rcases Nat.mul_eq_zero.mp hz with z | z
      · exact z
      · omega
    have := grf_closed b (.bas l) hc hz2
    rw [grf_bas] at this
    exact this
  · rw [sortT_congr ((sortT_perm (l.map (T.grf b))).map (cutT b)), e, sortT_of hc.1]
theorem cov_grf (b : T) : ∀ t : T, cov b (T.grf b t) = true := by
  refine T.ind' (cov_self b) fun l ih => ?_
  rw [grf_bas]
  show (decide (T.bas (sortT (l.map (T.grf b))) = b) || covL b (sortT (l.map (T.grf b)))) = true
  rw [show covL b (sortT (l.map (T.grf b))) = true from covL_all.mpr fun t ht => ?_, Bool.or_true]
  obtain ⟨u, hu, e⟩ := List.mem_map.mp ((sortT_perm _).mem_iff.mp ht)
  exact e ▸ ih u hu
theorem cut_size (b : T) : ∀ t : T, (cutT b t).size ≤ t.size := by
  refine T.ind' (Nat.le_refl _) fun l ih => ?_
  rw [cut_bas]
  split
  · exact size_pos (.bas l)
  split
  · exact Nat.le_refl _
  · show 1 + sizeL (sortT (l.map (cutT b))) ≤ 1 + sizeL l
    rw [sizeL_perm (sortT_perm _)]
    have go : ∀ l : List T, (∀ t ∈ l, (cutT b t).size ≤ t.size) → sizeL (l.map (cutT b)) ≤ sizeL l := by
      intro l
      induction l with
      | nil => intro _; exact Nat.le_refl _
      | cons t r ihr =>
        intro h
        have h1 := h t List.mem_cons_self
        have h2 := ihr fun u hu => h u (List.mem_cons_of_mem _ hu)
        show (cutT b t).size + sizeL (r.map (cutT b)) ≤ t.size + sizeL r
        omega
    have := go l ih
    omega
theorem dep_lt {t : T} {l : List T} (h : t ∈ l) : t.dep < (T.bas l).dep := by
  have go : ∀ l : List T, t ∈ l → t.dep ≤ depL l := by
    intro l
    induction l with
    | nil => intro h; cases h
    | cons u r ih =>
      intro h
      show t.dep ≤ max u.dep (depL r)
      rcases List.mem_cons.mp h with e | e
      · subst e; omega
      · have := ih e; omega
  have := go l h
  show t.dep < 1 + depL l
  omega
theorem cut_closed {b t : T} (h : t ≠ b) (hj : t.jts = 0) : cutT b t = t := by
  cases t with
  | jet => rfl
  | bas l =>
    have hz : jtsL l = 0 := hj
    rw [cut_bas, if_neg h, if_pos hz]
theorem cut_open {b : T} {l : List T} (h : T.bas l ≠ b) (hj : (T.bas l).jts ≠ 0) : cutT b (.bas l) = .bas (sortT (l.map (cutT b))) := by
  have hz : ¬ jtsL l = 0 := hj
  rw [cut_bas, if_neg h, if_neg hz]
theorem sizeL_map_le {f : T → T} : ∀ {l : List T}, (∀ t ∈ l, (f t).size ≤ t.size) → sizeL (l.map f) ≤ sizeL l
  | [], _ => Nat.le_refl _
  | t :: r, h => by
    have h1 := h t List.mem_cons_self
    have h2 := sizeL_map_le (l := r) fun u hu => h u (List.mem_cons_of_mem _ hu)
    show (f t).size + sizeL (r.map f) ≤ t.size + sizeL r
    omega
theorem size_mem {t : T} {l : List T} (h : t ∈ l) : t.size < (T.bas l).size := by
  have := len_le h
  show t.size < 1 + sizeL l
  omega
theorem jts_le : ∀ t : T, t.jts ≤ t.size := by
  refine T.ind' (Nat.le_refl _) fun l ih => ?_
  have go : ∀ l : List T, (∀ t ∈ l, t.jts ≤ t.size) → jtsL l ≤ sizeL l := by
    intro l
    induction l with
    | nil => intro _; exact Nat.le_refl _
    | cons t r ihr =>
      intro h
      have h1 := h t List.mem_cons_self
      have h2 := ihr fun u hu => h u (List.mem_cons_of_mem _ hu)
      show t.jts + jtsL r ≤ t.size + sizeL r
      omega
  have := go l ih
  show jtsL l ≤ 1 + sizeL l
  omega
theorem grf_sizeI (p t : T) : ((T.grf p t).size : Int) = (t.size : Nat) + (t.jts : Nat) * (((p.size : Nat) : Int) - 1) := by
  have h := grf_size p t
  rw [Int.mul_sub, Int.mul_one, ← Int.natCast_mul]
  omega
end JW
namespace JW
open PySem PySem.Spec PyProof.Rows L2
structure DefAt (K : PySem.W.Frag) (mg : Str → Option Value) (x qual : Str) (st : Stmt) (dvs : List V) (ps : List Str) : Prop where
  ex : ∃ f fd, mg x = some (.ref f) ∧ FunD K x qual (defArgs st) (defBody st) (defScope st) dvs [] f fd ∧ Binds K fd ps []
structure CallD (P : Program) (w : World) (K : PySem.W.Frag) (mg : Str → Option Value) (base : Heap) (CX : CXT) (k : Nat) (x : Str) (ps : List Str) (dvs : List V) (sp : Sp) : Prop where
  ex : ∃ f fd ds, mg x = some (.ref f) ∧ PySem.W.keepIn K (.ref f) = true ∧ Binds K fd ps ds ∧ Vals dvs ds ∧ FnOk P w K mg base CX k f fd ps sp
section
variable {P : Program} {w : World} {K : PySem.W.Frag} {mg : Str → Option Value} {base : Heap} {CX : CXT}
theorem CallD.mono {j k : Nat} {x : Str} {ps : List Str} {dvs : List V} {sp : Sp} (c : CallD P w K mg base CX j x ps dvs sp) (h : j ≤ k) : CallD P w K mg base CX k x ps dvs sp := by
  obtain ⟨f, fd, ds, h1, h2, h3, h4, F⟩ := c.ex
  exact ⟨f, fd, ds, h1, h2, h3, h4, F.mono h⟩
theorem okF {x qual : Str} {params : Arguments} {body : List Stmt} {scope : Scope} {kws : List (Str × V)} {f : Addr} {fd : FuncData} {N ps : List Str} {k : Nat} {sp : Sp} {dvs : List V} (F : FunD K x qual params body scope dvs kws f fd) (S : FnScope N ps scope)
    (len : ∀ vs H Q E, sp vs H Q E → vs.length = ps.length)
    (hbody : ∀ (cdv : Value) (A : Around) (outer : List Env) (s : Shared) (H : Hp) (vs : List V) (Q : VK) (E : XK), Room k (A.deeper (envOfC qual scope s.heap.objs.size f cdv)) → sp vs H Q E →
      ∃ t, PSs (cxOf CX P w K mg base N qual scope f cdv A outer s H E).nox body t ∧ t { nx := fun _ H' => Q .non H', rt := Q } (start N vs) H) : FnOk P w K mg base CX (k + 1) f fd ps sp :=
  F.ok S len fun cdv A outer s H vs Q E hr h => by
    obtain ⟨t, h, q⟩ := hbody cdv A outer s H vs Q E hr h
    exact ⟨t, h.nox, q⟩
theorem DefAt.ok {x qual : Str} {st : Stmt} {N ps : List Str} {k : Nat} {sp : Sp} {dvs : List V} (D : DefAt K mg x qual st dvs ps) (S : FnScope N ps (defScope st)) (len : ∀ vs H Q E, sp vs H Q E → vs.length = ps.length)
    (hbody : ∀ (f : Addr) (cdv : Value) (A : Around) (outer : List Env) (s : Shared) (H : Hp) (vs : List V) (Q : VK) (E : XK), Room k (A.deeper (envOfC qual (defScope st) s.heap.objs.size f cdv)) → sp vs H Q E →
      ∃ t, PSs (cxOf CX P w K mg base N qual (defScope st) f cdv A outer s H E).nox (defBody st) t ∧ t { nx := fun _ H' => Q .non H', rt := Q } (start N vs) H) : CallD P w K mg base CX (k + 1) x ps [] sp := by
  obtain ⟨f, fd, h1, F, b⟩ := D.ex
  refine ⟨f, fd, [], h1, F.kp, b, .nil, F.ok S len fun cdv A outer s H vs Q E hr h => ?_⟩
  obtain ⟨t, h, q⟩ := hbody f cdv A outer s H vs Q E hr h
  exact ⟨t, h.nox, q⟩
end
section
variable {X : Cx} {CX : CXT} {k : Nat} {ps : List Str} {sp : Sp} {dvs : List V} {E : XK} {x : Str} {p pos : Pos} {e : Expr} {es : List Expr} {t : TA}
theorem pe_callD (C : CallD X.prog X.w X.K X.mg X.base CX k x ps dvs sp) (hr : Room k X.A) (hg : Gl X x) (hx : Passes CX X E) (ha : PA X (e :: es) t) (hdb : (x == ("__debug__" : Str)) = false := by decide)
    (he : starEach (e :: es) X.env = (false, eval e X.env) :: starEach es X.env := by rfl) (hpl : (backTo pos (starEach es X.env)).any (·.1) = false := by rfl) : PE X (.Call (.Name x p) (e :: es) [] pos) (tCall sp dvs E t) := by
  obtain ⟨f, fd, ds, h1, h2, h3, h4, F⟩ := C.ex
  exact pe_call F hr hg h1 h2 h3 h4 hx ha hdb he hpl
end
section
variable {X : Cx} {e : Expr} {st : Stmt}
theorem ep_mono {pins : List (Addr × Obj)} {σ : L2.St} {Q Q' : VK} {u : Value} {s' : Shared} (h : EP X pins σ Q u s') (k : ∀ v H, Q v H → Q' v H) : EP X pins σ Q' u s' := by
  obtain ⟨v, H, I, r, q⟩ := h
  exact ⟨v, H, I, r, k v H q⟩
def tVia (t : TE) : TE := fun σ H Q => ∃ R : VK, t σ H R ∧ ∀ v H', R v H' → Q v H'
theorem pe_via {t : TE} (h : PE X e t) : PE X e (tVia t) := ⟨fun pins s σ H Q I ⟨R, hw, q⟩ => thn (h.run pins s σ H _ I hw) fun _ _ z => ep_mono z q⟩
def tsVia (t : TS) : TS := fun D σ H => ∃ R : L2.St → Hp → Prop, t { D with nx := R } σ H ∧ ∀ σ' H', R σ' H' → D.nx σ' H'
theorem ps_via {t : TS} (h : PS X st t) : PS X st (tsVia t) := ⟨fun pins s σ H D I ⟨R, hw, q⟩ =>
  thn (h.run pins s σ H _ I hw) fun f s' z => by
    cases f with
    | next =>
      obtain ⟨σ', H', I', r⟩ := z
      exact ⟨σ', H', I', q σ' H' r⟩
    | brk => exact z
    | cont => exact z
    | ret u => exact z⟩
end
theorem nI_sum : ∀ xs : List Nat, (xs.map fun x : Nat => (x : Int)).sum = ((xs.sum : Nat) : Int)
  | [] => rfl
  | x :: r => by rw [List.map_cons, List.sum_cons, List.sum_cons, nI_sum r]; omega
theorem eraseIdx_perm {α : Type} : ∀ {l : List α} {i : Nat} (h : i < l.length), (l[i] :: l.eraseIdx i).Perm l
  | [], _, h => absurd h (Nat.not_lt_zero _)
  | a :: l, 0, _ => List.Perm.refl _
  | a :: l, i + 1, h => by
    have hi : i < l.length := Nat.lt_of_succ_lt_succ h
    exact (List.Perm.swap a l[i] (l.eraseIdx i)).trans ((eraseIdx_perm hi).cons a)
theorem sz1 : 1 ≤ sizeLine := by decide
theorem sz2 : 2 ≤ sizeLine := by decide
theorem sz5 : 5 ≤ sizeLine := by decide
end JW
namespace L2
open PySem PySem.Spec PyProof.Rows
section
variable {H H' H1 H2 : Hp} {a b p : Addr} {o u : HO}
theorem Same.new (s : Same H H') (hp : H' p = none) : Same H (upd H' p o) := fun c w e => by
  rw [upd_ne (ne_of_none (s _ _ e) hp)]
  exact s _ _ e
theorem Same.mine (s : Same H H') (hp : H p = none) : Same H (upd H' p o) := fun c w e => by
  rw [upd_ne (ne_of_none e hp)]
  exact s _ _ e
theorem upd_old (h : H a = some o) (hp : H p = none) : upd H p u a = some o := by
  rw [upd_ne (ne_of_none h hp)]
  exact h
end
end L2
namespace JW
open PySem PySem.Spec PyProof.Rows L2
section
variable {X : Cx} {K : PySem.W.Frag} {e : Expr} {te : TE} {tg : Expr} {pos : Pos}
theorem ix_listK (h : X.K = K) : IxR X (rIxL K) := h ▸ ix_list
theorem ix_tupK (h : X.K = K) : IxR X (rIxT K) := h ▸ ix_tup
def rLen (K : PySem.W.Frag) : List V → Hp → VK → Prop := fun xs H Q => ∃ x n, xs = [x] ∧ LenV K x H n ∧ Q (.int n) H
theorem call_lenK (h : X.K = K) : CallR X (.builtin "len") (rLen K) := h ▸ call_len
end
end JW
namespace JW
open PySem PySem.Spec PyProof.Rows L2
section
variable {X : Cx} {K : PySem.W.Frag}
def rNil (K : PySem.W.Frag) (neg : Bool) : R2 := fun x y H Q => ∃ a b xs, x = .ref a ∧ y = .ref b ∧ SqL K H a xs ∧ SqL K H b [] ∧ Q (.bl (if neg then !xs.isEmpty else xs.isEmpty)) H
theorem op_neNilK (h : X.K = K) (hu : X.A.units < cLine) : OpR X (compareOp .NotEq) (rNil K true) := by
  subst h
  intro pins s σ H x y v u Q I rx ry h
  obtain ⟨a, b, xs, rfl, rfl, ha, hb, q⟩ := h
  cases rx
  cases ry
  obtain ⟨its, r1, p1, _⟩ := I.list ha
  obtain ⟨its2, r2, p2, _⟩ := I.list hb
  cases r2
  cases r1 with
  | nil => exact SeqAt.RcNeAt.lists (e := fun _ => true) p1.isList p2.isList rfl hu (fun j h1 _ => absurd h1 (by simp)) _ _ _ _ ⟨.bl false, H, I, rfl, q⟩
  | cons r t => exact SeqAt.RcNeAt.lists_lengths p1.isList p2.isList (by simp) hu _ _ _ _ ⟨.bl true, H, I, rfl, q⟩
end
theorem seqIndex_nat {v : Int} {n : Nat} (h0 : 0 ≤ v) (h1 : v < (n : Nat)) : seqIndex? v n = some v.toNat := PyProof.Rows.seqIndex_at h0 h1
theorem dget {H : Hp} {a : Addr} {kvs : List (Key × V)} {k : Str} {v : V} (e : H a = some (.dK kvs)) (h : valV kvs (.inr k) = some v) : DGet H a (.str k) (some v) := by
  have z := DGet.k (k := Sum.inr k) e
  rw [h] at z
  exact z
theorem dput {H : Hp} {a : Addr} {kvs kvs' : List (Key × V)} {k : Str} {v : V} (e : H a = some (.dK kvs)) (hl : kvs.length < sizeLine) (h : putK kvs (.inr k) v = kvs') : DPut H a (.str k) v (upd H a (.dK kvs')) := by
  have z := DPut.k (k := Sum.inr k) (v := v) e hl
  rw [h] at z
  exact z
def Same2 (d g : Addr) (H H' : Hp) : Prop := ∀ b o, b ≠ d → b ≠ g → H b = some o → H' b = some o
theorem Same2.refl (d g : Addr) (H : Hp) : Same2 d g H H := fun _ _ _ _ h => h
theorem Same2.trans {d g : Addr} {H H1 H2 : Hp} (a : Same2 d g H H1) (b : Same2 d g H1 H2) : Same2 d g H H2 := fun c o h1 h2 h => b c o h1 h2 (a c o h1 h2 h)
theorem Same2.putD {d g : Addr} {H H1 : Hp} {o : HO} (a : Same2 d g H H1) : Same2 d g H (upd H1 d o) := fun c u h1 h2 h => by rw [upd_ne h1]; exact a c u h1 h2 h
theorem Same2.putG {d g : Addr} {H H1 : Hp} {o : HO} (a : Same2 d g H H1) : Same2 d g H (upd H1 g o) := fun c u h1 h2 h => by rw [upd_ne h2]; exact a c u h1 h2 h
theorem Same2.new {d g p : Addr} {H H1 : Hp} {o : HO} (a : Same2 d g H H1) (hp : H1 p = none) : Same2 d g H (upd H1 p o) := fun c u h1 h2 h => by rw [upd_ne (ne_of_none (a c u h1 h2 h) hp)]; exact a c u h1 h2 h
theorem Same2.same {d g : Addr} {H H1 H2 : Hp} (a : Same2 d g H H1) (b : Same H1 H2) : Same2 d g H H2 := fun c o h1 h2 h => b c o (a c o h1 h2 h)
theorem Same2.of {d g : Addr} {H H1 : Hp} (a : Same H H1) : Same2 d g H H1 := fun c o _ _ h => a c o h
theorem Same2.mine {d g : Addr} {H0 H H' : Hp} (a : Same H0 H) (hd : H0 d = none) (hg : H0 g = none) (b : Same2 d g H H') : Same H0 H' := fun c o h => b c o (ne_of_none h hd) (ne_of_none h hg) (a c o h)
def sackD (g : Addr) (a b c : Int) : List (Key × V) := [(.inr "great", .ref g), (.inr "now", .int a), (.inr "seed", .int b), (.inr "turn", .int c)]
theorem sack_great {g : Addr} {a b c : Int} : valV (sackD g a b c) (.inr "great") = some (.ref g) := by kernel_rfl
theorem sack_now {g : Addr} {a b c : Int} : valV (sackD g a b c) (.inr "now") = some (.int a) := by kernel_rfl
theorem sack_seed {g : Addr} {a b c : Int} : valV (sackD g a b c) (.inr "seed") = some (.int b) := by kernel_rfl
theorem sack_turn {g : Addr} {a b c : Int} : valV (sackD g a b c) (.inr "turn") = some (.int c) := by kernel_rfl
theorem sack_put_now {g : Addr} {a b c x : Int} : putK (sackD g a b c) (.inr "now") (.int x) = sackD g x b c := by kernel_rfl
theorem sack_put_seed {g : Addr} {a b c x : Int} : putK (sackD g a b c) (.inr "seed") (.int x) = sackD g a x c := by kernel_rfl
theorem sack_put_turn {g : Addr} {a b c x : Int} : putK (sackD g a b c) (.inr "turn") (.int x) = sackD g a b x := by kernel_rfl
theorem sack_made {g : Addr} {a b c : Int} : mergeK [] (sackD g a b c) = sackD g a b c := by kernel_rfl
theorem sack_len {g : Addr} {a b c : Int} : (sackD g a b c).length < sizeLine := by show 4 < sizeLine; decide
def SackAt (H : Hp) (d g : Addr) : Prop := ∃ (ns : List Int) (a b c : Int), d ≠ g ∧ H d = some (.dK (sackD g a b c)) ∧ H g = some (.lst (ns.map V.int))
theorem SackAt.same {H H' : Hp} {d g : Addr} (h : SackAt H d g) (s : Same H H') : SackAt H' d g := by
  obtain ⟨ns, a, b, c, n, e1, e2⟩ := h
  exact ⟨ns, a, b, c, n, s _ _ e1, s _ _ e2⟩
theorem SackAt.off {H : Hp} {d g p : Addr} {o : HO} (h : SackAt H d g) (h1 : d ≠ p) (h2 : g ≠ p) : SackAt (upd H p o) d g := by
  obtain ⟨ns, a, b, c, n, e1, e2⟩ := h
  exact ⟨ns, a, b, c, n, by rw [upd_ne h1]; exact e1, by rw [upd_ne h2]; exact e2⟩
theorem SackAt.ne {H : Hp} {d g p : Addr} (h : SackAt H d g) (hp : H p = none) : p ≠ d ∧ p ≠ g := by
  obtain ⟨ns, a, b, c, n, e1, e2⟩ := h
  exact ⟨(ne_of_none e1 hp).symm, (ne_of_none e2 hp).symm⟩
end JW
namespace JW
open PySem PySem.Spec PyProof.Rows L2
section
variable {prog : Program} {w : World} {A : Around} {E : Value → Shared → Prop} {s : Shared} {K : PySem.W.Frag} {x C f : Addr} {ox : Obj} {od : Option Obj} {b tb : Value}
theorem ne_own {Q : Value → Shared → Prop} (hu : A.units + 1 < cLine) (X : K.In s.heap) (I : PySem.W.InstAt s.heap x ox C od) (hb : PySem.W.Looks (model prog w) s.heap (typeOf b) tb) (hn : PySem.W.notFirst K C tb = true)
    (hne : PySem.W.findIn K (.ref C) "__ne__" = some (some (.builtin "object.__ne__"))) (heq : PySem.W.findIn K (.ref C) "__eq__" = some (some (.ref f))) (hf : PySem.W.isFn K (.ref f) = true) (hob : PySem.W.subIn K (.ref C) (.type "object") = some true)
    (h : wpAny (model prog w) A.in1 (call (.ref f) [.ref x, b]) (fun v s' => ∃ k, v = .bool k ∧ Q (.bool (!k)) s') E s) : wpAny (model prog w) A (richCompare .NotEq (.ref x) b) Q E s := by
  have one : wpAny (model prog w) A (tryCompare (.ref x) (cmpInfo .NotEq).2.1 b) (fun r s' => ∃ v, r = some v ∧ Q v s') E s := by
    unfold tryCompare
    have hc : wpAny (model prog w) A (call (.builtin "object.__ne__") [.ref x, b]) (fun v s' => ∃ k, v = .bool (!k) ∧ Q (.bool (!k)) s') E s := by
      refine wpAny_call (codeAny_call_builtin F.cmp_object.ne.plain F.cmpEntry_ne ?_)
      refine PySem.W.check_slot F.cmpKind_ne F.cmpSplit_ne (I.type.andThen (PySem.W.looks_subIn X hob)) (F.cmpArgs_ne _ _) ?_
      unfold Builtin.«object.__ne__»
      repeat (first
        | with_reducible refine wpAny_cRoomFor hu ?_
        | (refine wpAny_bind (m := callSpecialIfBound? (.ref x) (Str.ofString "__eq__") [b])
            (PySem.W.ifBound_K X I heq hf (wpAny_mono h (fun r s' hr => by
              obtain ⟨k, rfl, hq⟩ := hr
              repeat (first | exact ⟨k, rfl, hq⟩ | exact wpAny_pure ⟨k, rfl, hq⟩ | exact wpAny_truthy_bool ⟨k, rfl, hq⟩ | (refine wpAny_bind (m := truthy (.bool _)) (wpAny_truthy_bool ?_)) | wp_step)) fun _ _ e => e)))
        | wp_step)
    refine wpAny_bind ?_
    simp only [callSpecialIfBound?, bindSpecialIfBound?]
    refine wpAny_holding (wpAny_bind (wpAny_bind (wpAny_bind (I.type.here ((PySem.W.looks_findIn X hne).here ?_)))))
    have fin : ∀ R : Option Value → Shared → Prop, (∀ k s', Q (.bool (!k)) s' → R (some (.bool (!k))) s') → wpAny (model prog w) A (call (.builtin "object.__ne__") ([.ref x] ++ [b]) >>= fun v => pure (some v)) R E s := fun R hR => by
      refine wpAny_bind (wpAny_mono hc (fun v s' h' => wpAny_pure ?_) fun _ _ h' => h')
      obtain ⟨k, rfl, hq⟩ := h'
      exact hR k s' hq
    refine wpAny_bind (wpAny_askSetting (wpAny_ite ?_))
    split
    · rw [F.cmp_object.ne.bind]
      exact wpAny_bind (wpAny_pure (wpAny_pure (by exact fin _ fun k s' hq => wpAny_pure ⟨_, rfl, hq⟩)))
    · rw [F.cmp_object.ne.bind]
      exact wpAny_tryCatch (wpAny_bind (wpAny_pure (wpAny_pure (by exact fin _ fun k s' hq => wpAny_pure ⟨_, rfl, hq⟩))))
  unfold richCompare
  simp only [oneThing_ref]
  refine wpAny_holding (wpAny_bind (wpAny_cRoomFor (Nat.lt_of_succ_lt hu) ?_))
  refine wpAny_bind (I.type.here (wpAny_bind (hb.here ?_)))
  split
  · rename_i q
    have e : PySem.W.subIn K tb (.ref C) = some false := by
      rcases Bool.or_eq_true_iff.mp hn with e | e
      · rw [beq_iff_eq.mp e] at q; simp at q
      · exact beq_iff_eq.mp e
    refine wpAny_bind ((PySem.W.looks_subIn X e).here ?_)
    simp only [Bool.false_eq_true, if_false]
    refine wpAny_bind (wpAny_mono one (fun r s' z => ?_) fun _ _ e => e)
    obtain ⟨v, rfl, hq⟩ := z
    exact wpAny_pure hq
  · refine wpAny_bind (wpAny_pure ?_)
    simp only [Bool.false_eq_true, if_false]
    refine wpAny_bind (wpAny_mono one (fun r s' z => ?_) fun _ _ e => e)
    obtain ⟨v, rfl, hq⟩ := z
    exact wpAny_pure hq
end
structure MethD (P : Program) (w : World) (K : PySem.W.Frag) (mg : Str → Option Value) (base : Heap) (CX : CXT) (k : Nat) (C : Addr) (m : Str) (ps : List Str) (dvs : List V) (sp : Sp) : Prop where
  ex : ∃ f fd ds, Meth K C m f ∧ Binds K fd ps ds ∧ Vals dvs ds ∧ FnOk P w K mg base CX k f fd ps sp
structure MethAt (K : PySem.W.Frag) (C : Addr) (m qual : Str) (st : Stmt) (ps : List Str) : Prop where
  ex : ∃ f fd, Meth K C m f ∧ FunD K m qual (defArgs st) (defBody st) (defScope st) [] [] f fd ∧ Binds K fd ps []
section
variable {P : Program} {w : World} {K : PySem.W.Frag} {mg : Str → Option Value} {base : Heap} {CX : CXT} {C : Addr}
theorem MethD.mono {j k : Nat} {m : Str} {ps : List Str} {dvs : List V} {sp : Sp} (c : MethD P w K mg base CX j C m ps dvs sp) (h : j ≤ k) : MethD P w K mg base CX k C m ps dvs sp := by
  obtain ⟨f, fd, ds, h1, h2, h3, F⟩ := c.ex
  exact ⟨f, fd, ds, h1, h2, h3, F.mono h⟩
theorem MethAt.ok {m qual : Str} {st : Stmt} {N ps : List Str} {k : Nat} {sp : Sp} (D : MethAt K C m qual st ps) (S : FnScope N ps (defScope st)) (len : ∀ vs H Q E, sp vs H Q E → vs.length = ps.length)
    (hbody : ∀ (f : Addr) (cdv : Value) (A : Around) (outer : List Env) (s : Shared) (H : Hp) (vs : List V) (Q : VK) (E : XK), Room k (A.deeper (envOfC qual (defScope st) s.heap.objs.size f cdv)) → sp vs H Q E →
      ∃ t, PSs (cxOf CX P w K mg base N qual (defScope st) f cdv A outer s H E).nox (defBody st) t ∧ t { nx := fun _ H' => Q .non H', rt := Q } (start N vs) H) : MethD P w K mg base CX (k + 1) C m ps [] sp := by
  obtain ⟨f, fd, h1, F, b⟩ := D.ex
  exact ⟨f, fd, [], h1, b, .nil, okF F S len fun cdv A outer s H vs Q E hr h => hbody f cdv A outer s H vs Q E hr h⟩
end
section
variable {X : Cx} {CX : CXT} {k : Nat} {C : Addr} {ps : List Str} {sp : Sp} {dvs : List V} {E : XK} {m : Str} {pos apos : Pos} {o e : Expr} {es : List Expr} {t : TA} {ta : TE}
def rOwn (C : Addr) (sp : Sp) (E : XK) : R2 := fun x y H Q => ∃ a dx fs b dy gs, x = .ref a ∧ y = .ref b ∧ H a = some (.ins C dx fs) ∧ H b = some (.ins C dy gs) ∧ sp [x, y] H (fun v H' => v ≠ .non ∧ Q v H') E
theorem relV_back {v : V} {u : Value} {s : Shared} {Q : Value → Shared → Prop} (r : RelV v u) (h : Q u s) : PySem.W.CmpBack Q u s := by
  cases v with
  | non => cases r; exact h
  | bl _ => cases r; exact h
  | int _ => obtain ⟨t, rfl⟩ := r; exact h
  | str _ => obtain ⟨t, rfl⟩ := r; exact h
  | byt _ => obtain ⟨t, rfl⟩ := r; exact h
  | flt _ => obtain ⟨t, rfl⟩ := r; exact h
  | ref _ => cases r; exact h
  | ty _ => cases r; exact h
theorem op_own {op : Operator} (hc : PySem.W.selfFirst X.K C = true) (M : MethD X.prog X.w X.K X.mg X.base CX k C (PySem.dunder op.info.2) ps [] sp) (hr : Room k X.A) (hx : Passes CX X E) : OpR X (binaryOp op) (rOwn C sp E) := by
  intro pins s σ H x y v u Q I rx ry h
  obtain ⟨a, dx, fs, b, dy, gs, rfl, rfl, ha, hb, q⟩ := h
  cases rx
  cases ry
  obtain ⟨f, fd, ds, hm, hbd, hd, F⟩ := M.ex
  cases hd
  obtain ⟨mA, J, _⟩ := ins_get I.hok ha
  obtain ⟨mB, J', _⟩ := ins_get I.hok hb
  obtain ⟨od, J, _⟩ := J.look
  obtain ⟨od', J', _⟩ := J'.look
  obtain ⟨m, hF⟩ := I.fr
  refine PySem.W.binop_K hF I.ok.mod.kin J J'.type hc hm.at_ hm.fn ?_
  refine wpAny_mono (run_fn (us := [.ref a, .ref b]) (vs := [.ref a, .ref b]) F hr hbd .nil hx I (.cons rfl (.cons rfl .nil)) q) (fun v s' z => ?_) fun _ _ z => z
  obtain ⟨v', H', I', r, _, q'⟩ := z
  exact relV_back r ⟨v', H', I', r, q'⟩
def rOwnEq (C : Addr) (sp : Sp) (E : XK) (neg : Bool) : R2 := fun x y H Q => ∃ a dx fs b dy gs, x = .ref a ∧ y = .ref b ∧ H a = some (.ins C dx fs) ∧ H b = some (.ins C dy gs) ∧
  sp [x, y] H (fun v H' => ∃ k, v = .bl k ∧ Q (.bl (if neg then !k else k)) H') E
theorem op_own_eq (M : MethD X.prog X.w X.K X.mg X.base CX k C "__eq__" ps [] sp) (hr : Room k X.A) (hx : Passes CX X E) : OpR X (compareOp .Eq) (rOwnEq C sp E false) := by
  intro pins s σ H x y v u Q I rx ry h
  obtain ⟨a, dx, fs, b, dy, gs, rfl, rfl, ha, hb, q⟩ := h
  cases rx
  cases ry
  obtain ⟨f, fd, ds, hm, hbd, hd, F⟩ := M.ex
  cases hd
  obtain ⟨mA, J, _⟩ := ins_get I.hok ha
  obtain ⟨mB, J', _⟩ := ins_get I.hok hb
  obtain ⟨od, J, _⟩ := J.look
  obtain ⟨od', J', _⟩ := J'.look
  obtain ⟨m, hF⟩ := I.fr
  refine PySem.W.cmp_K (op := .Eq) (tb := .ref C) hr.units0 hF I.ok.mod.kin J J'.type (by simp [PySem.W.notFirst]) hm.at_ hm.fn ?_
  refine wpAny_mono (run_fn (us := [.ref a, .ref b]) (vs := [.ref a, .ref b]) F hr hbd .nil hx I (.cons rfl (.cons rfl .nil)) q) (fun v s' z => ?_) fun _ _ z => z
  obtain ⟨v', H', I', r, k, rfl, q'⟩ := z
  exact relV_back r ⟨_, H', I', r, q'⟩
theorem op_own_ne (hne : PySem.W.findIn X.K (.ref C) "__ne__" = some (some (.builtin "object.__ne__"))) (hob : PySem.W.subIn X.K (.ref C) (.type "object") = some true) (M : MethD X.prog X.w X.K X.mg X.base CX k C "__eq__" ps [] sp) (hr : Room (k + 1) X.A) (hx : Passes CX X.nox E) : OpR X (compareOp .NotEq) (rOwnEq C sp E true) := by
  intro pins s σ H x y v u Q I rx ry h
  obtain ⟨a, dx, fs, b, dy, gs, rfl, rfl, ha, hb, q⟩ := h
  cases rx
  cases ry
  obtain ⟨f, fd, ds, hm, hbd, hd, F⟩ := M.ex
  cases hd
  obtain ⟨mA, J, _⟩ := ins_get I.hok ha
  obtain ⟨mB, J', _⟩ := ins_get I.hok hb
  obtain ⟨od, J, _⟩ := J.look
  obtain ⟨od', J', _⟩ := J'.look
  refine ne_own (tb := .ref C) (hu_of hr) I.kIn J J'.type (by simp [PySem.W.notFirst]) hne hm.at_ hm.fn hob ?_
  have hl : ([Value.ref a, Value.ref b] ++ []).length = ps.length := by
    rw [← F.len _ _ _ _ q]
    rfl
  refine wpAny_call (codeAny_mono (F.run X.A.in1 X.stack s H ⟨[.ref a, .ref b], []⟩ [.ref a, .ref b] [.ref a, .ref b] _ E hr.in1 I.env0.in1 (by
    have := hbd s [.ref a, .ref b] I.kIn hl
    simpa using this) (.cons rfl (.cons rfl .nil)) q) fun r s' hq => ?_)
  cases r with
  | error er => exact False.elim (hx pins σ H s er s' (I.wish _) hq)
  | ok fl =>
    cases fl with
    | ret u =>
      obtain ⟨v', H', I', r, k, rfl, q'⟩ := I.after hq
      cases r
      exact ⟨k, rfl, .bl (!k), H', I', rfl, q'⟩
    | next => exact False.elim hq
    | brk => exact False.elim hq
    | cont => exact False.elim hq
structure PropD (P : Program) (w : World) (K : PySem.W.Frag) (mg : Str → Option Value) (base : Heap) (CX : CXT) (k : Nat) (C : Addr) (f : Str) (sp : Sp) : Prop where
  ex : ∃ p g fd, PropOf K C f p g ∧ Binds K fd ["self"] [] ∧ FnOk P w K mg base CX k g fd ["self"] sp
structure PropAt (K : PySem.W.Frag) (C : Addr) (m qual : Str) (st : Stmt) : Prop where
  ex : ∃ p g fd, PropOf K C m p g ∧ FunD K m qual (defArgs st) (defBody st) (defScope st) [] [] g fd ∧ Binds K fd ["self"] []
theorem pe_propD {f : Str} (c : Cls X.K C) (M : PropD X.prog X.w X.K X.mg X.base CX k C f sp) (hr : Room (k + 1) X.A) (hx : Passes CX X.nox E) (he : PE X e ta) (hab : attributeBase e f X.env (eval e X.env) = eval e X.env) : PE X (.Attribute e f pos) (tProp C sp [] E ta) := by
  obtain ⟨p, g, fd, hp, hb, F⟩ := M.ex
  exact pe_prop he c hp F hr hb .nil hx hab
end
end JW
namespace JW
open PySem PySem.Spec PyProof.Rows L2
section
variable {X : Cx} {pins : List (Addr × Obj)} {σ : L2.St} {H : Hp} {s : Shared}
theorem repin {q : Addr} {o o' : Obj} {h' : Heap} {t' : Nat} (I : Inv X ((q, o) :: pins) σ H s) (hs : X.s_0.heap.objs.size ≤ q) (hp : ∀ p ∈ X.pn ++ pins, p.1 ≠ q)
    (k : ∀ b u, b ≠ q → s.heap.get? b = some u → h'.get? b = some u) (hq : h'.get? q = some o') (hc : ∀ v, o'.data ≠ .cell v) : Inv X ((q, o') :: pins) σ H { s with heap := h', toks := t' } := by
  have hpin := I.pin (q, o) (List.mem_append_right _ List.mem_cons_self)
  have I1 := (ClX.unpin I).turned (t' := t') k hpin.2.1 hpin.2.2.1 (.inr hs) (fun x c e z => by
    obtain ⟨v, o2, ho, hdat⟩ := I.cell x c e
    rw [z] at ho
    have h2 : s.heap.get? q = some o := hpin.1
    rw [h2] at ho
    cases ho
    exact hpin.2.2.2.2 v hdat) hp
  refine I1.pins_of fun p hp' => ?_
  rcases List.mem_cons.mp hp' with e | e
  · subst e
    exact ⟨hq, hpin.2.1, hpin.2.2.1, hpin.2.2.2.1, hc⟩
  · exact I1.pin p (List.mem_append_right _ e)
theorem track {a : Addr} {o : Obj} {u : HO} (I : Inv X ((a, o) :: pins) σ H s) (hs : X.s_0.heap.objs.size ≤ a) (hp : ∀ p ∈ X.pn ++ pins, p.1 ≠ a) (new : ObjOk X.prog X.w (upd H a u) s.heap a u) : Inv X pins σ (upd H a u) s := by
  have hpin := I.pin (a, o) (List.mem_append_right _ List.mem_cons_self)
  have hn : H a = none := hpin.2.1
  have I0 := ClX.unpin I
  have ne : ∀ b w, H b = some w → b ≠ a := fun b w e => ne_of_none e hn
  refine ⟨I0.ok, I0.os, I0.bare, ⟨I0.base.keep, I0.base.slot, fun b w e n hx => ?_, I0.base.there, fun b xs e => ?_, fun b w xs e => ?_, fun b ps e => ?_⟩, I0.loc, I0.cell, ?_, fun x c e => ?_, fun p hp' => ?_, fun b w e => ?_, I0.len⟩
  · rw [upd_ne (Nat.ne_of_lt (Nat.lt_of_lt_of_le (Heap.lt_size e) hs))]
    exact I0.base.free b w e n hx
  · have q := I0.base.tups b xs e
    rw [upd_ne (ne b _ q)]
    exact q
  · have q := I0.base.frzs b w xs e
    rw [upd_ne (ne b _ q)]
    exact q
  · obtain ⟨more, q⟩ := I0.base.tbls b ps e
    exact ⟨more, by rw [upd_ne (ne b _ q)]; exact q⟩
  · rw [upd_ne (Ne.symm hpin.2.2.1)]
    exact I0.free
  · rw [upd_ne (fun z => by
      obtain ⟨v, o2, ho, hdat⟩ := I0.cell x c e
      rw [z] at ho
      have h2 : s.heap.get? a = some o := hpin.1
      rw [h2] at ho
      cases ho
      exact hpin.2.2.2.2 v hdat)]
    exact I0.freeC x c e
  · obtain ⟨h1, h2, h3⟩ := I0.pin p hp'
    exact ⟨h1, by rw [upd_ne (hp p hp')]; exact h2, h3⟩
  · by_cases hb : b = a
    · rw [hb, upd_same] at e
      cases e
      rw [hb]
      exact new
    · rw [upd_ne hb] at e
      exact (I0.hok b w e).stay (fun c v _ q => q) (fun c q => by rw [upd_ne (ne c _ q)]; exact q) fun c xs q => by rw [upd_ne (ne c _ q)]; exact q
end
theorem strs_snoc {z : Str} {t : Tok} : ∀ {vs : List Value} {ss : List Str}, StrsAre vs ss → StrsAre (vs ++ [.str z t]) (ss ++ [z])
  | _, _, .nil => .cons z t .nil
  | _, _, .cons x u h => .cons x u (strs_snoc h)
theorem zip_mapL {α β γ : Type} (f : α → γ) : ∀ (xs : List α) (ys : List β), (xs.map f).zip ys = (xs.zip ys).map fun p => (f p.1, p.2)
  | [], _ => rfl
  | _ :: _, [] => rfl
  | x :: xs, y :: ys => by rw [List.map_cons, List.zip_cons_cons, List.zip_cons_cons, List.map_cons, zip_mapL f xs ys]
def Keyd (zs : List Str) (vs out : List Value) : Prop := ∃ ps : List (Str × Value), ps.Perm (zs.zip vs) ∧ ps.Pairwise (fun p q => ¬ q.1.cps.toList < p.1.cps.toList) ∧ out = ps.map (·.2)
theorem key_out {keys : Array Value} {vs : List Value} {zs : List Str} (hk : StrsAre keys.toList zs) {xs : Array Keyed} (hp : xs.Perm (keys.zip vs.toArray)) (hs : SortedToK strKind xs xs.size) : Keyd zs vs (xs.map (·.2)).toList := by
  have hl : xs.toList.Perm (keys.toList.zip vs) := by rw [← PyProof.Rows.ksk_zip]; exact Array.perm_iff_toList_perm.mp hp
  have hmem : ∀ p, p ∈ xs.toList → ∃ z t, p.1 = .str z t := fun p hp' => hk.all p.1 (List.of_mem_zip (hl.mem_iff.mp hp')).1
  refine ⟨xs.toList.map fun p => (strOf p.1, p.2), ?_, ?_, by rw [Array.toList_map, List.map_map]; rfl⟩
  · have h1 := hl.map fun p : Value × Value => (strOf p.1, p.2)
    have e : (keys.toList.zip vs).map (fun p : Value × Value => (strOf p.1, p.2)) = zs.zip vs := by
      rw [← hk.strs, zip_mapL]
    rw [e] at h1
    exact h1
  · rw [List.pairwise_iff_getElem]
    intro i j hi hj hij
    have hi' : i < xs.size := by simpa using hi
    have hj' : j < xs.size := by simpa using hj
    have h1 := hs i j (Nat.le_of_lt hij) hj'
    obtain ⟨x, t, ex⟩ := hmem xs[i] (by simp)
    obtain ⟨y, u, ey⟩ := hmem xs[j] (by simp)
    rw [KK_str hi' (x := x) (t := t) (q := xs[i].2) (Prod.ext ex rfl), KK_str hj' (x := y) (t := u) (q := xs[j].2) (Prod.ext ey rfl)] at h1
    have h2 : decide (y.cps.toList < x.cps.toList) = false := h1
    simp only [List.getElem_map, Array.getElem_toList]
    rw [show strOf xs[i].1 = x by rw [ex]; rfl, show strOf xs[j].1 = y by rw [ey]; rfl]
    exact of_decide_eq_false h2

section
variable {X : Cx} {pins : List (Addr × Obj)} {σ : L2.St} {A : Around} {E : Value → Shared → Prop} {a kS : Addr} {vs : List Value} {xs : List V} {zs : List Str} {R : Hp → Prop} {e1 : Nat} {P : PySem.Fin → Shared → Prop}
structure Own2 (X : Cx) (pins : List (Addr × Obj)) (a kS : Addr) : Prop where
  sk : X.s_0.heap.objs.size ≤ kS
  sa : X.s_0.heap.objs.size ≤ a
  ka : kS ≠ a
  pk : ∀ p ∈ X.pn ++ pins, p.1 ≠ kS
  pa : ∀ p ∈ X.pn ++ pins, p.1 ≠ a
theorem Own2.pk' {o : Obj} (O : Own2 X pins a kS) : ∀ p ∈ X.pn ++ ((a, o) :: pins), p.1 ≠ kS := fun p hp => by
  rcases List.mem_append.mp hp with h | h
  · exact O.pk p (List.mem_append_left _ h)
  · rcases List.mem_cons.mp h with h | h
    · rw [h]
      exact O.ka.symm
    · exact O.pk p (List.mem_append_right _ h)
theorem noCell (ys : Array Value) (n : Nat) : ∀ v, (seqObj "list" ys n).data ≠ .cell v := fun v z => by cases z
theorem key_tail {keys : Array Value} {e : Nat} {H : Hp} {s : Shared} {st : SortSt} (O : Own2 X pins a kS) (I : Inv X ((kS, seqObj "list" keys e) :: (a, seqObj "list" #[] e1) :: pins) σ H s) (hR : R H) (hk : StrsAre keys.toList zs) (hlen : zs.length = vs.length) (hZ : vs.length ≤ sizeLine)
    (hp : (arrOf st).Perm (keys.zip vs.toArray)) (hs : SortedToK strKind (arrOf st) (arrOf st).size) (hfl : failedOf st = none)
    (h : ∀ s' out c, Inv X ((a, seqObj "list" out c) :: pins) σ H s' → R H → Keyd zs vs out.toList → P (.done (.ret .none)) s') :
    wpAny (model X.prog X.w) A (ksk_tail a false e1 (.ref kS) st) P E s := by
  have hZ2 := hZ
  rw [sizeLine_eq] at hZ2
  have hsz : keys.size = vs.length := by
    have h1 := hk.length
    rw [Array.length_toList] at h1
    omega
  have hsz2 : (arrOf st).size = vs.length := by rw [hp.size_eq, Array.size_zip, hsz, List.size_toArray, Nat.min_self]
  have nk : s.heap.get? kS = some (seqObj "list" keys e) := (I.pin (kS, _) (List.mem_append_right _ List.mem_cons_self)).1
  have na : s.heap.get? a = some (seqObj "list" #[] e1) := (I.pin (a, _) (List.mem_append_right _ (List.mem_cons_of_mem _ List.mem_cons_self))).1
  have s1 := Heap.SameBut.update s.heap kS (Obj.mapSeq fun _ => (#[] : Array Value))
  have na1 : (s.heap.update kS (Obj.mapSeq fun _ => (#[] : Array Value))).get? a = some (seqObj "list" #[] e1) := (s1.2 a O.ka.symm).trans na
  obtain ⟨c1, hc1⟩ : ∃ c1, (s.heap.update kS (Obj.mapSeq fun _ => (#[] : Array Value))).get? kS = some (seqObj "list" #[] c1) := ⟨_, get?_update_seq nk fun _ => #[]⟩
  have s2 := Heap.SameBut.update (s.heap.update kS (Obj.mapSeq fun _ => (#[] : Array Value))) a (Obj.mapSeq fun _ => (arrOf st).map (·.2))
  obtain ⟨c2, hc2⟩ : ∃ c2, ((s.heap.update kS (Obj.mapSeq fun _ => (#[] : Array Value))).update a (Obj.mapSeq fun _ => (arrOf st).map (·.2))).get? a = some (seqObj "list" ((arrOf st).map (·.2)) c2) := ⟨_, get?_update_seq na1 fun _ => (arrOf st).map (·.2)⟩
  unfold ksk_tail
  try dsimp only
  refine wpAny_bind (listUpdate_at nk rfl ?_ (by rw [hsz, sizeLine_eq]; omega) (Nat.zero_le _))
  refine wpAny_bind (wpAny_letGo ?_)
  refine wpAny_bind (seqEpoch_at na1 rfl ?_)
  simp only [Bool.false_eq_true, if_false]
  refine wpAny_bind (listUpdate_at na1 rfl ?_ (Nat.zero_le _) (by rw [Array.size_map, hsz2, sizeLine_eq]; omega))
  rw [hfl]
  simp only [bne_self_eq_false, Bool.false_eq_true, if_false]
  have I1 := repin (t' := s.toks) I O.sk O.pk' (fun b u hb q => (s1.2 b hb).trans q) hc1 (noCell _ _)
  have I2 := repin (t' := s.toks) (ClX.unpin I1) O.sa O.pa (fun b u hb q => (s2.2 b hb).trans q) hc2 (noCell _ _)
  exact wpAny_pure (h _ _ c2 I2 hR (key_out hk hp hs))
theorem key_end {keys : Array Value} {e : Nat} {H : Hp} {s : Shared} (O : Own2 X pins a kS) (I : Inv X ((kS, seqObj "list" keys e) :: (a, seqObj "list" #[] e1) :: pins) σ H s) (hR : R H) (hk : StrsAre keys.toList zs) (hlen : zs.length = vs.length) (hZ : vs.length ≤ sizeLine)
    (h : ∀ s' out c, Inv X ((a, seqObj "list" out c) :: pins) σ H s' → R H → Keyd zs vs out.toList → P (.done (.ret .none)) s') :
    wpAny (model X.prog X.w) A (ksk_end a false vs.toArray e1 (.ref kS) keys) P E s := by
  have hZ2 := hZ
  rw [sizeLine_eq] at hZ2
  have hsz : keys.size = vs.length := by
    have h1 := hk.length
    rw [Array.length_toList] at h1
    omega
  have hzs : (keys.zip vs.toArray).size = vs.length := by rw [Array.size_zip, hsz, List.size_toArray, Nat.min_self]
  have kO : KeysOf strKind (keys.zip vs.toArray) := fun p hp => by
    rw [PyProof.Rows.ksk_zip] at hp
    obtain ⟨z, t, e⟩ := hk.all p.1 (List.of_mem_zip hp).1
    exact ⟨z.cps.toList, by rw [e]⟩
  unfold ksk_end
  simp only [Bool.false_eq_true, if_false]
  by_cases h2 : vs.toArray.size < 2
  · rw [if_pos h2, if_pos h2]
    refine wpAny_bind (wpAny_pure ?_)
    rw [StateT.run_pure]
    refine wpAny_bind (wpAny_pure ?_)
    try dsimp only
    refine key_tail (st := SortSt.mk' general' (keys.zip vs.toArray) #[] 7 none) O I hR hk hlen hZ (Array.Perm.refl _) ?_ rfl h
    intro i j hij hj
    have hj2 : j < (keys.zip vs.toArray).size := hj
    rw [hzs] at hj2
    rw [List.size_toArray] at h2
    have : i = j := by omega
    subst this
    exact KeyOrd.kle_refl _
  · rw [if_neg h2, if_neg h2]
    rw [List.size_toArray] at h2
    have kk : keyKind' keys = pure oneType' := by
      match hv : keys.toList, hk with
      | [], _ => rw [← Array.length_toList, hv] at hsz; simp at hsz; omega
      | [_], _ => rw [← Array.length_toList, hv] at hsz; simp at hsz; omega
      | v1 :: v2 :: r, hk' =>
        have e : keys = (v1 :: v2 :: r).toArray := by rw [← hv]
        rw [e]
        exact keyKind_strs hk'
    rw [kk]
    refine wpAny_bind (wpAny_pure ?_)
    refine wpAny_bind (wpAny_mono (wpS_sortRunsAny (κ := strKind) (a₀ := keys.zip vs.toArray) (st := SortSt.mk' oneType' (keys.zip vs.toArray) #[] 7 none)
      (Q := fun _ st' => (arrOf st').Perm (keys.zip vs.toArray) ∧ failedOf st' = none ∧ SortedToK strKind (arrOf st') (keys.zip vs.toArray).size)
      strKind_oneLt kO ⟨Array.Perm.refl _, rfl, rfl⟩ rfl (by rw [hzs]; omega) fun st' a1 a2 a3 => ⟨a1, a2, a3⟩) ?_ fun _ _ e => e)
    rintro ⟨⟨⟩, st'⟩ s' ⟨rfl, hp, hf, hs⟩
    try dsimp only
    exact key_tail O I hR hk hlen hZ hp (by rw [hp.size_eq]; exact hs) hf h
theorem key_rest {f : Value} {H : Hp} {s : Shared} (O : Own2 X pins a kS) (I : Inv X ((kS, seqObj "list" #[] 0) :: (a, seqObj "list" #[] e1) :: pins) σ H s) (hR : R H) (rv : Vals xs vs) (hlen : zs.length = vs.length) (hZ : vs.length ≤ sizeLine)
    (turn : ∀ (i : Nat) (x : V) (z : Str), xs[i]? = some x → zs[i]? = some z → ∀ (pn : List (Addr × Obj)) (s' : Shared) (H' : Hp) (u : Value), Inv X (pn ++ pins) σ H' s' → R H' → RelV x u →
      wpAny (model X.prog X.w) A (call f [u]) (EP X (pn ++ pins) σ fun v H2 => v = .str z ∧ R H2) (fun _ _ => False) s')
    (h : ∀ s' H' out c, Inv X ((a, seqObj "list" out c) :: pins) σ H' s' → R H' → Keyd zs vs out.toList → P (.done (.ret .none)) s') :
    wpAny (model X.prog X.w) A (ksk_rest a f false vs.toArray e1 (.ref kS)) P E s := by
  have hZ2 := hZ
  rw [sizeLine_eq] at hZ2
  unfold ksk_rest
  refine wpAny_bind (wpAny_rule ?_)
  first
    | rw [List.forIn_toArray]
    | (rw [← Array.forIn_toList]; simp only [List.toList_toArray])
    | rw [← Array.forIn_toList]
  refine wpAny_bind (ksk_fold (fun i s' => ∃ H' kA e, Inv X ((kS, seqObj "list" kA e) :: (a, seqObj "list" #[] e1) :: pins) σ H' s' ∧ R H' ∧ StrsAre kA.toList (zs.take i)) vs 0 s
    ⟨H, #[], 0, I, hR, by simpa using StrsAre.nil⟩ ?step ?done)
  case step =>
    rintro j u s' hx ⟨H', kA, e, I', hR', hk⟩
    simp only [Nat.zero_add] at hk ⊢
    have hj : j < vs.length := (List.getElem?_eq_some_iff.mp hx).1
    obtain ⟨z, hzj⟩ : ∃ z, zs[j]? = some z := ⟨_, List.getElem?_eq_getElem (by omega)⟩
    have hz : kA.size ≤ vs.length := by
      have h1 := hk.length
      rw [Array.length_toList, List.length_take] at h1
      omega
    obtain ⟨x, hxj, rx⟩ : ∃ x, xs[j]? = some x ∧ RelV x u := by
      have hjx : j < xs.length := by rw [rv.length]; exact hj
      obtain ⟨u', hu', r'⟩ := rv.get (List.getElem?_eq_getElem hjx)
      rw [hx] at hu'
      cases hu'
      exact ⟨_, List.getElem?_eq_getElem hjx, r'⟩
    refine wpAny_bind (wpAny_attempt (wpAny_mono (turn j x z hxj hzj [(kS, seqObj "list" kA e), (a, seqObj "list" #[] e1)] s' H' u I' hR' rx) (fun v s'' he => ?_) fun _ _ hF => hF.elim))
    obtain ⟨y, H2, I2, ry, rfl, hR2⟩ := he
    obtain ⟨t2, rfl⟩ := ry
    try dsimp only
    have I2' : Inv X ((kS, seqObj "list" kA e) :: (a, seqObj "list" #[] e1) :: pins) σ H2 s'' := I2
    have nk : s''.heap.get? kS = some (seqObj "list" kA e) := (I2'.pin (kS, _) (List.mem_append_right _ List.mem_cons_self)).1
    have s1 := Heap.SameBut.update s''.heap kS (Obj.mapSeq (·.push (.str z t2)))
    obtain ⟨c2, hc2⟩ : ∃ c2, (s''.heap.update kS (Obj.mapSeq (·.push (.str z t2)))).get? kS = some (seqObj "list" (kA.push (.str z t2)) c2) := ⟨_, get?_update_seq nk (·.push (.str z t2))⟩
    have ek : zs.take (j + 1) = zs.take j ++ [z] := by rw [List.take_add_one, hzj]; simp
    have ea : (kA.push (Value.str z t2)).toList = kA.toList ++ [Value.str z t2] := by simp
    refine wpAny_bind (listUpdate_at nk rfl ?_ (by rw [sizeLine_eq]; omega) (Nat.le_trans (Nat.le_of_eq (Array.size_push ..)) (by rw [sizeLine_eq]; omega)))
    refine wpAny_pure ⟨rfl, H2, kA.push (.str z t2), c2, repin (t' := s''.toks) I2' O.sk O.pk' (fun b u hb q => (s1.2 b hb).trans q) hc2 (noCell _ _), hR2, ?_⟩
    rw [ea, ek]
    exact strs_snoc hk
  case done =>
    rintro s' ⟨H', kA, e, I', hR', hk⟩
    have hk' : StrsAre kA.toList zs := by
      have e3 : zs.take (0 + vs.length) = zs := List.take_of_length_le (by omega)
      rw [e3] at hk
      exact hk
    have nk : s'.heap.get? kS = some (seqObj "list" kA e) := (I'.pin (kS, _) (List.mem_append_right _ List.mem_cons_self)).1
    try dsimp only
    refine wpAny_bind (listItems_at nk rfl ?_)
    exact key_end O I' hR' hk' hlen hZ fun s2 out c I2 hR2 k2 => h s2 H' out c I2 hR2 k2
end
section
variable {X : Cx} {pins : List (Addr × Obj)} {σ : L2.St} {E : Value → Shared → Prop} {xs : List V} {zs : List Str} {R : Hp → Prop}
def KeydV (zs : List Str) (xs out : List V) : Prop := ∃ ps : List (Str × V), ps.Perm (zs.zip xs) ∧ ps.Pairwise (fun p q => ¬ q.1.cps.toList < p.1.cps.toList) ∧ out = ps.map (·.2)
theorem keyd_vals {vs out : List Value} (rv : Vals xs vs) (hlen : zs.length = xs.length) (k : Keyd zs vs out) : ∃ ys, Vals ys out ∧ KeydV zs xs ys := by
  obtain ⟨ps, pm, pw, rfl⟩ := k
  -- the places
  have go : ∀ {ps qs : List (Str × Value)}, ps.Perm qs → ∀ ws : List (Str × V), Paired (fun (p : Str × V) (q : Str × Value) => p.1 = q.1 ∧ RelV p.2 q.2) ws qs → ∃ rs : List (Str × V), rs.Perm ws ∧ Paired (fun (p : Str × V) (q : Str × Value) => p.1 = q.1 ∧ RelV p.2 q.2) rs ps := by
    intro ps qs pm
    induction pm with
    | nil =>
      intro ws h
      cases h
      exact ⟨[], List.Perm.refl _, .nil⟩
    | cons x _ ih =>
      intro ws h
      cases h with
      | cons r t =>
        obtain ⟨rs, p1, p2⟩ := ih _ t
        exact ⟨_ :: rs, p1.cons _, .cons r p2⟩
    | swap x y l =>
      intro ws h
      cases h with
      | cons r t =>
        cases t with
        | cons r2 t2 => exact ⟨_ :: _ :: _, List.Perm.swap _ _ _, .cons r2 (.cons r t2)⟩
    | trans _ _ ih1 ih2 =>
      intro ws h
      obtain ⟨rs, p1, p2⟩ := ih2 _ h
      obtain ⟨rs', p3, p4⟩ := ih1 _ p2
      exact ⟨rs', p3.trans p1, p4⟩
  have zp : ∀ {xs : List V} {vs : List Value} (zs : List Str), Vals xs vs → Paired (fun (p : Str × V) (q : Str × Value) => p.1 = q.1 ∧ RelV p.2 q.2) (zs.zip xs) (zs.zip vs) := by
    intro xs vs zs r
    induction r generalizing zs with
    | nil => cases zs <;> exact .nil
    | cons r t ih =>
      cases zs with
      | nil => exact .nil
      | cons z zs => exact .cons ⟨rfl, r⟩ (ih zs)
  obtain ⟨rs, p1, p2⟩ := go pm _ (zp zs rv)
  have m2 : ∀ {rs : List (Str × V)} {ps : List (Str × Value)}, Paired (fun (p : Str × V) (q : Str × Value) => p.1 = q.1 ∧ RelV p.2 q.2) rs ps → Vals (rs.map (·.2)) (ps.map (·.2)) ∧ rs.map (·.1) = ps.map (·.1) := by
    intro rs ps h
    induction h with
    | nil => exact ⟨.nil, rfl⟩
    | cons r t ih => exact ⟨.cons r.2 ih.1, by rw [List.map_cons, List.map_cons, ih.2, r.1]⟩
  refine ⟨rs.map (·.2), (m2 p2).1, rs, p1, ?_, rfl⟩
  have e := (m2 p2).2
  have q1 : (ps.map (·.1)).Pairwise (fun p q : Str => ¬ q.cps.toList < p.cps.toList) := List.pairwise_map.mpr pw
  rw [← e] at q1
  exact List.pairwise_map.mp q1
theorem collect_seq {prog : Program} {w : World} {A : Around} {E : Value → Shared → Prop} {s : Shared} {l : Addr} {vs : List Value} {Q : List Value → Shared → Prop} {T : String} (hl : ∃ o n, s.heap.get? l = some o ∧ o.cls = .type T ∧ o.data = .seq vs.toArray n) (hT : T = "list" ∨ T = "tuple")
    (h : Q vs { s with heap := (s.heap.push (seqObj "list" #[] 0)).update s.heap.objs.size (Obj.mapSeq (· ++ vs.toArray)) }) (hsz : vs.length ≤ sizeLine) :
    wpAny (model prog w) A (collect (.ref l)) Q E s := by
  obtain ⟨o, n, ho, hc, hd⟩ := id hl
  unfold collect
  refine wpAny_bind (wpAny_runValue (codeAny_builtin entry_proto_collect' ?_))
  show wpAny _ _ (do again (.builtin "list.__iadd__" ⟨[← newList [], .ref l], []⟩)) _ _ s
  refine wpAny_bind (wpAny_newList (wpAny_pure ⟨Code.quiet_builtin _ (by decide +kernel), codeAny_builtin entry_list_iadd' ?_⟩))
  show wpAny _ _ (Builtin.List.listExtendWith (.ref s.heap.objs.size) (.ref l) (.ref s.heap.objs.size)) _ _ { s with heap := s.heap.push (seqObj "list" #[] 0) }
  unfold Builtin.List.listExtendWith
  have ho' : (s.heap.push (seqObj "list" #[] 0)).get? l = some o := Heap.get?_push_of_some _ ho
  refine wpAny_bind (wpAny_typeOf (T := T) ⟨o, ho', hc⟩ ?_)
  have t1 : (Value.type "list" == Value.type "list") = true := by rfl
  have t2 : (Value.type "tuple" == Value.type "tuple") = true := by rfl
  rw [if_pos (by
    rcases hT with e | e
    · subst e
      rw [t1]
      simp
    · subst e
      rw [t2]
      simp)]
  refine wpAny_bind (listItems_at ho' hd ?_)
  refine wpAny_bind (listItems_at (xs := #[]) (n := 0) (Heap.get?_push_size _ rfl) rfl ?_)
  rw [if_neg (by simp)]
  refine wpAny_bind (listUpdate_at (xs := #[]) (n := 0) (Heap.get?_push_size _ rfl) rfl ?_ (Nat.zero_le _) (by show (#[] ++ vs.toArray).size ≤ sizeLine + 1; simp only [Array.size_append, List.size_toArray, List.length_nil]; omega))
  refine wpAny_pure ?_
  show wpAny (model prog w) A (do
      let o ← load s.heap.objs.size
      match o.data with
      | .seq xs _ => pure xs.toList
      | _ => unsupported "internal:collect") Q E { s with heap := (s.heap.push (seqObj "list" #[] 0)).update s.heap.objs.size (Obj.mapSeq (· ++ vs.toArray)) }
  refine wpAny_bind (wpAny_load (get?_update_seq (Heap.get?_push_size _ rfl) _) ?_)
  show wpAny _ _ (pure ((#[] : Array Value) ++ vs.toArray).toList) Q E _
  rw [show ((#[] : Array Value) ++ vs.toArray).toList = vs by simp]
  exact wpAny_pure h
def Sq (K : PySem.W.Frag) (H : Hp) (a : Addr) (xs : List V) : Prop := SqL K H a xs ∨ SqT K H a xs
theorem sq_at {H : Hp} {s : Shared} {a : Addr} {xs : List V} (I : Inv X pins σ H s) (h : Sq X.K H a xs) : ∃ its : List Value, Vals xs its ∧ xs.length ≤ sizeLine ∧ ∃ T : String, (T = "list" ∨ T = "tuple") ∧ ∃ o n, s.heap.get? a = some o ∧ o.cls = .type T ∧ o.data = .seq its.toArray n := by
  rcases h with h | h
  · obtain ⟨its, r, ⟨o, n, e, c, _, d⟩, z⟩ := I.list h
    exact ⟨its, r, z, _, .inl rfl, o, n, e, c, d⟩
  · obtain ⟨its, r, ⟨o, e, c, n, d⟩, z⟩ := I.tuple h
    exact ⟨its, r, z, _, .inr rfl, o, n, e, c, d⟩
theorem sorted_key {f : Addr} {l : Addr} {H : Hp} {s : Shared} {Q : Value → Shared → Prop} (I : Inv X pins σ H s) (hR : R H) (hl : Sq X.K H l xs) (hlen : zs.length = xs.length)
    (turn : ∀ (i : Nat) (x : V) (z : Str), xs[i]? = some x → zs[i]? = some z → ∀ (pn : List (Addr × Obj)) (s' : Shared) (H' : Hp) (u : Value), Inv X (pn ++ pins) σ H' s' → R H' → RelV x u →
      wpAny (model X.prog X.w) X.A.in1.in1 (call (.ref f) [u]) (EP X (pn ++ pins) σ fun v H2 => v = .str z ∧ R H2) (fun _ _ => False) s')
    (h : ∀ (D : Addr) (s' : Shared) (H' : Hp) (ys : List V), Inv X pins σ (upd H' D (.lst ys)) s' → H' D = none → R H' → KeydV zs xs ys → Q (.ref D) s') :
    wpAny (model X.prog X.w) X.A (call (.builtin "sorted") [.ref l] [(Str.ofString "key", .ref f)]) Q E s := by
  obtain ⟨vs, rv, hz, T, hT, pl⟩ := sq_at I hl
  have hlv := rv.length
  have hZ : vs.length ≤ sizeLine := by omega
  have hZ2 := hZ
  rw [sizeLine_eq] at hZ2
  refine call_function_entry_kw kind_sorted plain_sorted entry_sorted (PyProof.Rows.ksk_s1 _ _) ?_
  unfold Builtin.«sorted»
  refine wpAny_bind (m := checkCount "sorted" 1 1 _) (wpAny_pure ?_)
  refine wpAny_bind (collect_seq pl hT ?_ (by rw [sizeLine_eq]; omega))
  refine wpAny_bind (wpAny_newList ?_ (by rw [sizeLine_eq]; omega))
  have hsz : ((s.heap.push (seqObj "list" #[] 0)).update s.heap.objs.size (Obj.mapSeq (· ++ vs.toArray))).objs.size = s.heap.objs.size + 1 := by
    rw [Heap.size_update, size_push']
  have hoL : (((s.heap.push (seqObj "list" #[] 0)).update s.heap.objs.size (Obj.mapSeq (· ++ vs.toArray))).push (seqObj "list" vs.toArray 0)).get? (s.heap.objs.size + 1) = some (seqObj "list" vs.toArray 0) := by
    rw [← hsz]; exact Heap.get?_push_size _ rfl
  have keep : ∀ b o, s.heap.get? b = some o → (((s.heap.push (seqObj "list" #[] 0)).update s.heap.objs.size (Obj.mapSeq (· ++ vs.toArray))).push (seqObj "list" vs.toArray 0)).get? b = some o := fun b o q => by
    have hlt : b < s.heap.objs.size := Heap.lt_size q
    rw [Heap.get?_push_ne _ _ _ (by rw [hsz]; exact Nat.ne_of_lt (Nat.lt_succ_of_lt hlt)), Heap.get?_update_ne _ _ _ _ (Nat.ne_of_lt hlt), Heap.get?_push_ne _ _ _ (Nat.ne_of_lt hlt)]
    exact q
  have szA : (((s.heap.push (seqObj "list" #[] 0)).update s.heap.objs.size (Obj.mapSeq (· ++ vs.toArray))).push (seqObj "list" vs.toArray 0)).objs.size = s.heap.objs.size + 2 := by rw [size_push', hsz]
  generalize (((s.heap.push (seqObj "list" #[] 0)).update s.heap.objs.size (Obj.mapSeq (· ++ vs.toArray))).push (seqObj "list" vs.toArray 0)) = hA at hoL keep szA
  show wpAny _ _ _ _ _ { s with heap := hA }
  rw [hsz]
  refine wpAny_bind (wpAny_holding (wpAny_call_entry_kw slot_list_sort ⟨_, hoL, rfl⟩ entry_list_sort ?body (PyProof.Rows.ksk_l1 _ _)))
  case body =>
    show wpAny (model X.prog X.w) X.A.in1.in1 (Builtin.«list.sort» ⟨[.ref (s.heap.objs.size + 1)], [(Str.ofString "key", .ref f)]⟩) _ _ _
    rw [PyProof.Rows.ksk_t1]
    -- the sort's own lists
    have s1 := Heap.SameBut.update hA (s.heap.objs.size + 1) (Obj.mapSeq fun _ => (#[] : Array Value))
    obtain ⟨e1, ho1⟩ : ∃ e1, (hA.update (s.heap.objs.size + 1) (Obj.mapSeq fun _ => (#[] : Array Value))).get? (s.heap.objs.size + 1) = some (seqObj "list" #[] e1) := ⟨_, get?_update_seq hoL fun _ => #[]⟩
    have keep2 : ∀ b o, s.heap.get? b = some o → (((hA.update (s.heap.objs.size + 1) (Obj.mapSeq fun _ => (#[] : Array Value))).push (seqObj "tuple" vs.toArray 0)).push (seqObj "list" #[] 0)).get? b = some o := fun b o q => by
      have hlt : b < s.heap.objs.size := Heap.lt_size q
      exact Heap.get?_push_of_some _ (Heap.get?_push_of_some _ ((s1.2 b (Nat.ne_of_lt (Nat.lt_succ_of_lt hlt))).trans (keep b o q)))
    have hkS : ((hA.update (s.heap.objs.size + 1) (Obj.mapSeq fun _ => (#[] : Array Value))).push (seqObj "tuple" vs.toArray 0)).objs.size = s.heap.objs.size + 3 := by rw [size_push', Heap.size_update, szA]
    have ltp : ∀ p ∈ X.pn ++ pins, p.1 < s.heap.objs.size := fun p hp => Heap.lt_size (I.pin p hp).1
    unfold ksk_tree
    refine wpAny_bind (listItems_at hoL rfl ?_)
    refine wpAny_bind (listUpdate_at hoL rfl ?_ (by rw [List.size_toArray, sizeLine_eq]; omega) (Nat.zero_le _))
    refine wpAny_bind (seqEpoch_at ho1 rfl ?_)
    refine wpAny_bind (wpAny_newTuple ?_ (by show vs.length ≤ _; rw [sizeLine_eq]; omega))
    refine wpAny_bind (wpAny_newList ?_ (Nat.zero_le _))
    refine wpAny_holding ?_
    have O : Own2 X pins (s.heap.objs.size + 1) (s.heap.objs.size + 3) := ⟨Nat.le_trans I.sz (Nat.le_add_right _ _), Nat.le_trans I.sz (Nat.le_add_right _ _), Nat.ne_of_gt (Nat.add_lt_add_left (by decide : 1 < 3) s.heap.objs.size), fun p hp => Nat.ne_of_lt (Nat.lt_of_lt_of_le (ltp p hp) (Nat.le_add_right _ _)), fun p hp => Nat.ne_of_lt (Nat.lt_of_lt_of_le (ltp p hp) (Nat.le_add_right _ _))⟩
    have Ia : Inv X ((s.heap.objs.size + 1, seqObj "list" #[] e1) :: pins) σ H { s with heap := ((hA.update (s.heap.objs.size + 1) (Obj.mapSeq fun _ => (#[] : Array Value))).push (seqObj "tuple" vs.toArray 0)).push (seqObj "list" #[] 0) } :=
      ClX.pin_new (t' := s.toks) I keep2 (Nat.le_succ _) (Heap.get?_push_of_some _ (Heap.get?_push_of_some _ ho1)) (noCell _ _)
    have Ik : Inv X ((s.heap.objs.size + 3, seqObj "list" #[] 0) :: (s.heap.objs.size + 1, seqObj "list" #[] e1) :: pins) σ H { s with heap := ((hA.update (s.heap.objs.size + 1) (Obj.mapSeq fun _ => (#[] : Array Value))).push (seqObj "tuple" vs.toArray 0)).push (seqObj "list" #[] 0) } := by
      refine Ia.pins_of fun p hp => ?_
      rcases List.mem_cons.mp hp with e | e
      · subst e
        refine ⟨?_, I.hok.fresh (Nat.le_add_right s.heap.objs.size 3), Nat.ne_of_gt (Nat.lt_of_lt_of_le I.lt (Nat.le_add_right s.heap.objs.size 3)), I.nofs (Nat.le_add_right s.heap.objs.size 3), noCell _ _⟩
        show Heap.get? _ (s.heap.objs.size + 3) = _
        rw [← hkS]
        exact Heap.get?_push_size _ rfl
      · exact Ia.pin p (List.mem_append_right _ e)
    rw [hkS]
    refine key_rest (R := R) O Ik hR rv (by omega) hZ turn fun s2 H2 out c I2 hR2 k2 => ⟨_, rfl, ?_⟩
    refine wpAny_pure ⟨_, rfl, ?_⟩
    obtain ⟨ys, ry, ky⟩ := keyd_vals rv hlen k2
    have hD : H2 (s.heap.objs.size + 1) = none := ClX.pin_un I2
    have ly : ys.length = xs.length := by
      obtain ⟨ps, pm, _, e⟩ := ky
      rw [e, List.length_map, pm.length_eq, List.length_zip, hlen, Nat.min_self]
    refine h _ s2 H2 ys (track I2 O.sa O.pa ⟨by omega, out.toList, c, ry, ?_⟩) hD hR2 ky
    have := ClX.pin_at I2
    simpa using this
end
end JW
namespace JW
open PySem PySem.Spec PyProof.Rows L2 LamX
theorem lam_run {P : Program} {w : World} {K : PySem.W.Frag} {mg : Str → Option Value} {base : Heap} {CX : CXT} {N ps : List Str} {k : Nat} {nm qual : Str} {params : Arguments} {body : Expr} {scope : Scope} {f c' : Addr} {pm ctv : Value} {A : Around} {outer : List Env} {s : Shared} {H : Hp} {Q : VK} {E : XK}
    {us : List Value} {vs : List V} {t : TE} (ho : s.heap.get? f = some (PySem.W.kla_obj nm qual params body scope [] pm c' ctv)) (hcd : s.heap.CodeRec (.ref c') qual) (S : FnScope N ps scope) (hr : Room (k + 1) A) (e0 : Env0 P w K mg base A outer s H)
    (hb : BindsTo s (PySem.W.kla_fn nm qual params body scope [] pm (.ref c') ctv) ⟨us, []⟩ (ps.zip us)) (hl : vs.length = ps.length) (r : Vals vs us)
    (hbody : PE (cxOf CX P w K mg base N qual scope f (.ref c') A outer s H E).nox body t) (h : t (start N vs) H Q) :
    codeAny (model P w) A (.call (.ref f) ⟨us, []⟩) (CR CX outer P w H s Q E) s := by
  have lim : s.heap.NoLimit := e0.mod.nolimit.keeps fun b o e => (e0.bs b o e).1
  have hkind : ∀ y ∈ ps.zip us, scope.names.lookup y.1 = some .local ∨ (scope.names.lookup y.1 = some .cell ∧ ((cellsFrom (s.heap.objs.size + 1) scope.names []).lookup y.1).isSome = true) := fun ⟨n, v⟩ hy => by
    rcases S.par n (List.of_mem_zip hy).1 with q | q
    · exact .inl q
    · exact .inr ⟨q, PySem.W.cellsFrom_some _ _ _ (.inl q)⟩
  refine PySem.W.kla_callFunE hr.depth ho rfl S.co S.gen rfl hcd (hb _ _ _ _ ?_)
  refine wpAny_newFunctionEnv_cells S.kind hkind fun env he s1 x => ?_
  subst he
  refine ⟨lim.keeps x.toInCall.keep, ?_⟩
  have I : Inv (cxOf CX P w K mg base N qual scope f (.ref c') A outer s H E) [] (start N vs) H s1 := inv_start S hr.hd e0 hl r x
  refine PySem.W.kla_codeExpr (wpAny_mono (hbody.nox.run [] s1 (start N vs) H Q I h) (fun v s' hq => ?_) fun e s' hs => hs)
  obtain ⟨v', H', J, rv, q⟩ := hq
  exact ⟨v', H', J.os, J.bare, J.base, J.hok, rv, q⟩
def tSortKey (K : PySem.W.Frag) (T : List (Addr × Str)) (te : TE) (N : List Str) (tb : TE) : TE := fun σ H Q => te σ H fun x H1 => ∃ (l : Addr) (xs : List V) (zs : List Str), x = .ref l ∧ Sq K H1 l xs ∧ zs.length = xs.length ∧ Tabs T H1 ∧
  ∀ H2, ExtN H1 H2 → Tabs T H2 → ∃ R : Hp → Prop, R H2 ∧ (∀ H', R H' → ExtN H2 H') ∧
    (∀ (i : Nat) (x : V) (z : Str), xs[i]? = some x → zs[i]? = some z → ∀ H', R H' → tb (start N [x]) H' fun v H3 => v = .str z ∧ R H3) ∧
    ∀ (D : Addr) (H' : Hp) (ys : List V), R H' → H' D = none → KeydV zs xs ys → Q (.ref D) (upd H' D (.lst ys))
section
variable {X : Cx} {e : Expr} {te tb : TE} {T : List (Addr × Str)} {c P : Addr} {params : Arguments} {body : Expr} {scope : Scope} {p pos lpos kpos : Pos} {N : List Str} {y : Str} {k : Nat}
theorem pe_sortedKey (he : PE X e te) (hg : Gl X "sorted") (hm : X.mg "sorted" = none) (TB : TabB X.base X.mg c P) (hcode : X.env.code = .ref c) (hT : (P, X.env.qual ++ "<lambda>") ∈ T) (hu : ∀ q ∈ T, q.1 = P → q.2 = X.env.qual ++ "<lambda>") (hr : Room (k + 3) X.A)
    (S : FnScope N [y] scope) (hbd : ∀ (q : Str) (pm cdv ctv u : Value), bindArgs (PySem.W.kla_fn "<lambda>" q params body scope [] pm cdv ctv) ⟨[u], []⟩ = pure [(y, u)])
    (hbody : ∀ (A : Around) (outer : List Env) (s : Shared) (H : Hp) (f : Addr) (cd : Value), Room k (A.deeper (envOfC (X.env.qual ++ "<lambda>") scope s.heap.objs.size f cd)) → PE (cxOf CX0 X.prog X.w X.K X.mg X.base N (X.env.qual ++ "<lambda>") scope f cd A outer s H E0).nox body tb)
    (hdef : defaultsOf params X.env = ([], []) := by rfl) (hclo : cloFrom X.env.cells scope.names [] = [] := by rfl)
    (hst : backTo pos (starEach [e] X.env) = [(false, eval e X.env)] := by rfl) : PE X (.Call (.Name "sorted" p) [e] [⟨some "key", .Lambda params body scope lpos, kpos⟩] pos) (tSortKey X.K T te N tb) := by
  refine ⟨fun pins s σ H Q I h => ?_⟩
  have hfree : ∀ y ∈ scope.names, y.2 = .free → ∃ c, X.env.cells.lookup y.1 = some c := fun y hy e => absurd e (S.nofree y hy)
  refine wpAny_Call_Name_kw (ld_blt I hg hm (by decide +kernel : bootBuiltins "sorted" = some (.builtin "sorted")) ?_ (by decide) (by decide))
  refine PyProof.Rows.callWith_kw (e := e) (rest := []) ?_ hst (by rw [hst]; rfl) (by rfl) (by rfl)
  rw [hst]
  refine Calls.spliced_cons (thn (he.run pins s σ H _ I h) fun u s1 ⟨x, H1, I1, r1, q1⟩ => Calls.spliced_nil ?_)
  obtain ⟨l, xs, zs, rfl, hl, hlen, hTb, q⟩ := q1
  cases r1
  show wpAny _ _ (evalAll [(do let v ← eval (.Lambda params body scope lpos) X.env; standAt pos; pure v)]) _ _ s1
  refine wpAny_evalAll_cons (wpAny_bind ?_)
  refine LamX.lam_make2 I1 TB hcode hT hu hTb hdef hfree fun f c' pm ctv H2 s2 I2 hE hTb2 hf hfn hfr hco => ?_
  rw [hclo] at hf
  refine wpAny_bind (wpAny_standAt (wpAny_pure (wpAny_evalAll_nil ?_)))
  show wpAny (model X.prog X.w) X.A (call (.builtin "sorted") [.ref l] [(Str.ofString "key", .ref f)]) _ _ _
  have fne : f ≠ X.env.locals := fun z => by
    obtain ⟨m, ⟨o, es, ep, ho, hd, _⟩, _⟩ := I2.loc
    rw [← z, hf] at ho
    cases ho
    cases hd
  have ffs : f ∉ X.fs := fun z => hfr (by
    rcases I2.ok.stk with e | ⟨e, _⟩
    · rw [e]
      exact z
    · rw [e]
      obtain ⟨o, ho, he'⟩ := List.mem_filterMap.mp z
      exact List.mem_filterMap.mpr ⟨o, List.mem_cons_of_mem _ ho, he'⟩)
  have I3 : Inv X ((f, PySem.W.kla_obj "<lambda>" (X.env.qual ++ "<lambda>") params body scope [] pm c' ctv) :: pins) σ H2 s2 := by
    refine I2.pins_of fun p hp => ?_
    rcases List.mem_cons.mp hp with e | e
    · subst e
      exact ⟨hf, hfn, fne, ffs, fun v z => by cases z⟩
    · exact I2.pin p (List.mem_append_right _ e)
  obtain ⟨R, hR, hRE, turn, fin⟩ := q H2 hE hTb2
  have hl2 : Sq X.K H2 l xs := by
    rcases hl with ((h | ⟨o, h⟩) | h) | ((h | ⟨o, h⟩) | h)
    · exact .inl (.inl (.inl (hE _ _ h fun ps z => by cases z)))
    · exact .inl (.inl (.inr ⟨o, hE _ _ h fun ps z => by cases z⟩))
    · exact .inl (.inr h)
    · exact .inr (.inl (.inl (hE _ _ h fun ps z => by cases z)))
    · exact .inr (.inl (.inr ⟨o, hE _ _ h fun ps z => by cases z⟩))
    · exact .inr (.inr h)
  refine sorted_key (R := R) I3 hR hl2 hlen (fun i x z hx hz pn s' H' u I' hR' rx => ?_) fun D s' H' ys I' hD hR' ky => ⟨.ref D, _, ClX.unpin I', rfl, fin D H' ys hR' hD ky⟩
  have hf' : s'.heap.get? f = some (PySem.W.kla_obj "<lambda>" (X.env.qual ++ "<lambda>") params body scope [] pm c' ctv) := (I'.pin (f, _) (List.mem_append_right _ (List.mem_append_right _ List.mem_cons_self))).1
  have hco' := hRE H' hR' c' _ hco LamX.codeO_ne
  obtain ⟨⟨oc, vs, t, hoc, hdc, hvc⟩, _, _⟩ := I'.hok c' _ hco'
  have hbi : BindsTo s' (PySem.W.kla_fn "<lambda>" (X.env.qual ++ "<lambda>") params body scope [] pm (.ref c') ctv) ⟨[u], []⟩ ([y].zip [u]) := .of_eq (hbd _ _ _ _ _)
  have hr2 : Room (k + 1) X.A.in1.in1 := hr.in1.in1
  refine wpAny_call (codeAny_mono (lam_run (CX := CX0) (E := E0) (N := N) hf' ⟨c', oc, vs, t, rfl, hoc, hdc, hvc⟩ S hr2 I'.env0.in1.in1 hbi rfl (.cons rx .nil) (hbody _ _ s' H' f _ (hr2.deeper _)) (turn i x z hx hz H' hR')) fun r s'' hq => ?_)
  cases r with
  | error er => exact False.elim hq
  | ok fl =>
    cases fl with
    | ret w' => exact I'.after hq
    | next => exact False.elim hq
    | brk => exact False.elim hq
    | cont => exact False.elim hq
end
end JW
namespace JW
open PySem PySem.Spec PyProof.Rows L2
theorem ints_reads {h : Heap} : ∀ {ns : List Int} {us : List Value}, Vals (ns.map V.int) us → ReadsAll h us (ns.map PyData.int) []
  | [], us, r => by
    cases r
    exact .nil
  | n :: ns, us, r => by
    rw [List.map_cons] at r
    cases r with
    | cons r1 r2 =>
      obtain ⟨t, rfl⟩ := r1
      exact ReadsAll.cons (as := []) (bs := []) (.int n t) (ints_reads r2)
theorem ints_alike (ns : List Int) : PySem.W.AlikeAll (ns.map PyData.int) := ⟨fun x hx y hy => by
  obtain ⟨i, _, rfl⟩ := List.mem_map.mp hx
  obtain ⟨j, _, rfl⟩ := List.mem_map.mp hy
  rfl, fun x hx => by
  obtain ⟨i, _, rfl⟩ := List.mem_map.mp hx
  exact fun z => by cases z⟩
theorem ints_depth : ∀ ns : List Int, PyData.depthAll (ns.map PyData.int) = 0
  | [] => rfl
  | n :: r => by
    rw [List.map_cons]
    show max (PyData.depth (.int n)) (PyData.depthAll (r.map PyData.int)) = 0
    rw [ints_depth r]
    rfl
def rMaxDf (K : PySem.W.Frag) : List V → List V → Hp → VK → Prop := fun vs zs H Q => ∃ (a : Addr) (ns : List Int) (d : Int), vs = [V.ref a] ∧ zs = [.int d] ∧ SqL K H a (ns.map V.int) ∧
  ∀ m : Int, ((ns = [] ∧ m = d) ∨ ∃ n r, ns = n :: r ∧ m = r.foldl max n) → Q (.int m) H
theorem cr_maxDf {X : Cx} (hc : X.calm = true) (hu : X.A.units + 1 < cLine) : CallRK X (.builtin "max") [Str.ofString "default"] (rMaxDf X.K) := by
  intro pins s σ H vs zs us ws Q I r rz h
  obtain ⟨a, ns, d, rfl, rfl, hs, q⟩ := h
  obtain ⟨its, rv, hl, _⟩ := I.list hs
  rw [Vals.ref1 r]
  obtain ⟨w1, rfl, rd⟩ := vals1 rz
  refine PySem.W.max_list_default (vs := its.toArray) (I.ok.hd hc) hl.isList (xs := ns.map PyData.int) (as := []) (ints_reads rv) (ints_alike ns) (by rw [ints_depth]; exact hu) (fun hn h' tk hk => ?_) fun y ys i v h' tk bs he hv hr hk => ?_
  · exact ⟨.int d, H, I.kept hk, rd, q d (.inl ⟨List.map_eq_nil_iff.mp hn, rfl⟩)⟩
  · cases ns with
    | nil => cases he
    | cons n r =>
      rw [List.map_cons] at he
      injection he with e1 e2
      subst e1
      subst e2
      rw [PySem.W.maxD_ints] at hr
      cases hr with
      | int _ t => exact ⟨.int _, H, I.kept hk, ⟨t, rfl⟩, q _ (.inr ⟨n, r, rfl, rfl⟩)⟩
end JW
namespace JW
open PySem PySem.Spec PyProof.Rows L2
theorem draws_str {prog : Program} {w : World} {A : Around} (hh : A.handled = none) (it : Addr) (x : Str) (t : Tok) :
    Draws prog w A it [it] x.cps.size (fun i v => ∃ c u, x.cps[i]? = some c ∧ v = .str ⟨#[c]⟩ u) (fun i h => h.IsStrIter it (strIterType x) x t i) := by
  cases ha : x.cps.all (· < 128)
  · have e : strIterType x = "str_iterator" := by simp [strIterType, ha]
    rw [e]
    exact Draws.strWide hh it x t
  · have e : strIterType x = "str_ascii_iterator" := by simp [strIterType, ha]
    rw [e]
    exact Draws.strAscii hh it x t
def Ites (x : Str) : It :=
  ⟨fun i _ => i < x.cps.size, fun i H v H' => ∃ T c, v = .ref T ∧ H T = none ∧ H' = upd H T (.tup [.int (i : Nat), .str ⟨#[c]⟩]) ∧ x.cps[i]? = some c, fun i _ => i = x.cps.size⟩
theorem turn_enumS {P : Program} {w : World} {K : PySem.W.Frag} {elts : List Expr} {kk : Nat} {tpos : Pos} (x : Str) (t : Tok) (e it : Addr) :
    Turn P w K (.Tuple elts kk tpos) (Ites x) [e, it] e (fun i h => (∃ old, IsEnum h e it ((i : Nat) : Int) old) ∧ h.IsStrIter it (strIterType x) x t i ∧ e ≠ it) where
  mem := by simp
  obj := fun i h st b hb => by
    obtain ⟨⟨old, he⟩, ⟨o, ho, hc, hd⟩, _⟩ := st
    have e' : b = e ∨ b = it := by simpa using hb
    rcases e' with z | z
    · rw [z]; exact ⟨_, he, fun v q => nomatch q⟩
    · rw [z]; exact ⟨o, ho, fun v q => by rw [hd] at q; cases q⟩
  keep := fun i h h' st k => by
    obtain ⟨⟨old, he⟩, ⟨o, ho, r⟩, hne⟩ := st
    exact ⟨⟨old, k e (by simp) _ he⟩, ⟨o, k it (by simp) o ho, r⟩, hne⟩
  item := by
    intro X hP hw hK hc i pins s σ H E I hf st hg
    subst hP hw hK
    obtain ⟨⟨old, he⟩, hit, hne⟩ := st
    have hlt : i < x.cps.size := hg
    have hel : e < s.heap.objs.size := Heap.lt_size he
    have hil : it < s.heap.objs.size := by obtain ⟨_, q, _⟩ := hit; exact Heap.lt_size q
    refine wpAny_pyNext_enum_itemD (draws_str (A := X.A.in1) (I.ok.hd hc) it x t) he hit hlt hne (by simpa using hne) fun y h' tk hy ho hit' hT hsz hk => ?_
    obtain ⟨c, u, hcx, rfl⟩ := hy
    refine ⟨_, rfl, wpAny_letOwnedTupleGo_enum (s := { s with heap := h', toks := tk + 1 }) ho fun h'' he' sb => ?_⟩
    have hT2 : h''.get? s.heap.objs.size = some { cls := .type "tuple", data := .seq #[.int i tk, .str ⟨#[c]⟩ u] } := (sb.2 _ (Nat.ne_of_gt hel)).trans hT
    have new : ObjOk X.prog X.w (upd H s.heap.objs.size (.tup [.int (i : Nat), .str ⟨#[c]⟩])) h'' s.heap.objs.size (.tup [.int (i : Nat), .str ⟨#[c]⟩]) :=
      ⟨by show 2 ≤ sizeLine; decide, [.int i tk, .str ⟨#[c]⟩ u], .cons ⟨_, rfl⟩ (.cons ⟨_, rfl⟩ .nil), ⟨_, hT2, rfl, _, rfl⟩⟩
    have I1 : Inv X pins σ (upd H s.heap.objs.size (.tup [.int (i : Nat), .str ⟨#[c]⟩])) { s with heap := h'', toks := tk + 1 } :=
      I.turnedNew (ch := [e, it]) (fun b ob hb q => (sb.2 b (fun z => hb (by simp [z]))).trans (hk b ob (fun z => hb (by simp [z])) (fun z => hb (by simp [z])) q)) hf (Nat.le_refl _) new
    refine ⟨.ref s.heap.objs.size, _, I1, rfl, ⟨_, c, rfl, I.hok.fresh (Nat.le_refl _), rfl, hcx⟩, ⟨⟨.str ⟨#[c]⟩ u, ?_⟩, ?_, hne⟩, fun b hb => ?_⟩
    · have e1 : ((i + 1 : Nat) : Int) = (i : Int) + 1 := by omega
      rw [e1]; exact he'
    · obtain ⟨o, q, r⟩ := hit'
      exact ⟨o, (sb.2 it (Ne.symm hne)).trans q, r⟩
    · have hb' : b < s.heap.objs.size := by
        have e' : b = e ∨ b = it := by simpa using hb
        rcases e' with z | z
        · rw [z]; exact hel
        · rw [z]; exact hil
      rw [upd_ne (Nat.ne_of_lt hb')]
      exact (hf b hb).1
  done := by
    intro X hP hw hK hc i pins s σ H E I hf st hg
    subst hP hw hK
    obtain ⟨⟨old, he⟩, hit, hne⟩ := st
    have hge : i = x.cps.size := hg
    subst hge
    obtain ⟨f0, f1, f2, f3, f4, f5⟩ := hf it (by simp)
    refine wpAny_pyNext_enum_endD (draws_str (A := X.A.in1) (I.ok.hd hc) it x t) he hit fun h' eb => ⟨rfl, I.turned (t' := s.toks) (fun b o hb q => eb b o hb q) f0 f1 f3 f4 f5⟩
  self := fun A i s Q E st h => let ⟨⟨_, he⟩, _⟩ := st; wpAny_pyIter_enum he h
def iEnumS (ta : TA) : TI := fun σ H R => ta σ H fun vs H1 => ∃ x, vs = [.str x] ∧ R (Ites x) H1
theorem pi_enumS {X : Cx} {e : Expr} {ta : TA} {p pos tpos : Pos} {elts : List Expr} {kk : Nat} (hg : Gl X "enumerate") (hm : X.mg "enumerate" = none) (ha : PA X [e] ta) (hs : starEach [e] X.env = [(false, eval e X.env)] := by rfl) :
    PI X (.Tuple elts kk tpos) (.Call (.Name "enumerate" p) [e] [] pos) (iEnumS ta) := by
  refine ⟨fun pins s σ H R I h => ?_⟩
  refine Call_ (ld_blt I hg hm boot_enumerate (PyProof.Rows.callWith_type1 (thn (ha.run pos pins s σ H _ I h) fun us s1 ⟨vs, H1, I1, r1, q1⟩ => ?_) hs rfl))
  obtain ⟨x, ex, q⟩ := q1
  subst ex
  cases r1 with
  | cons r rr =>
    cases rr
    obtain ⟨t, rfl⟩ := r
    refine call_enumerate_str fun h' he hit hsz hk => wpAny_pyIter_enum he ?_
    have I2 : Inv X pins σ H1 { s1 with heap := h' } := I1.kept (t' := s1.toks) hk
    refine ⟨s1.heap.objs.size + 1, [s1.heap.objs.size + 1, s1.heap.objs.size], _, _, H1, rfl, I2, turn_enumS x t (s1.heap.objs.size + 1) s1.heap.objs.size, ⟨⟨.none, he⟩, hit, Nat.succ_ne_self _⟩, fun b hb => ?_, q⟩
    have e' : b = s1.heap.objs.size + 1 ∨ b = s1.heap.objs.size := by simpa using hb
    have hle : s1.heap.objs.size ≤ b := by
      rcases e' with z | z
      · rw [z]; exact Nat.le_add_right _ _
      · rw [z]; exact Nat.le_refl _
    exact I1.fpOk hle (I1.hok.fresh hle)
theorem for_enumS {x : Str} {g : TG} {tb : TS} {D : Ends} {σ : L2.St} {H : Hp} (Pv : Nat → L2.St → Hp → Prop) (h0 : Pv 0 σ H)
    (hs : ∀ i c σ H T, x.cps[i]? = some c → Pv i σ H → H T = none → g (.ref T) σ (upd H T (.tup [.int (i : Nat), .str ⟨#[c]⟩])) fun σ2 H2 => tb { D with nx := Pv (i + 1), ct := Pv (i + 1), bk := D.nx } σ2 H2) (hd : ∀ σ H, Pv x.cps.size σ H → D.nx σ H) :
    ∃ W : Nat → Nat → L2.St → Hp → Prop, (∃ m, W 0 m σ H) ∧ ∀ i m σ H, W i m σ H →
      ((Ites x).stop i H ∧ D.nx σ H) ∨ ((Ites x).go i H ∧ ∃ N : L2.St → Hp → Prop, (∀ σ' H', N σ' H' → ∃ m', m' < m ∧ W (i + 1) m' σ' H') ∧ ∀ v H', (Ites x).yld i H v H' → g v σ H' fun σ2 H2 => tb { D with nx := N, ct := N, bk := D.nx } σ2 H2) := by
  refine ⟨fun i m σ H => m = x.cps.size - i ∧ i ≤ x.cps.size ∧ Pv i σ H, ⟨x.cps.size, rfl, Nat.zero_le _, h0⟩, ?_⟩
  rintro i m σ H ⟨rfl, hi, p⟩
  by_cases hlt : i < x.cps.size
  · refine .inr ⟨hlt, Pv (i + 1), fun σ' H' p' => ⟨x.cps.size - (i + 1), by omega, rfl, hlt, p'⟩, fun v H' hy => ?_⟩
    obtain ⟨T, c, rfl, hT, rfl, hc⟩ := hy
    exact hs i c σ H T hc p hT
  · have e : i = x.cps.size := by omega
    subst e
    exact .inl ⟨rfl, hd σ H p⟩
end JW
namespace JW
open PySem PySem.Spec PyProof.Rows L2 LamX
abbrev cF (K : PySem.W.Frag) : Addr := He.ga K "Fountain"
def tx (t : T) : Str := ⟨t.codes.toArray⟩
theorem tx_inj {t u : T} (h : tx t = tx u) : t = u := codes_inj (by
  have e : t.codes.toArray = u.codes.toArray := congrArg Str.cps h
  exact congrArg Array.toList e)
theorem tx_jet : tx .jet = "o" := by decide +kernel
def T.kids : T → List T
  | .jet => []
  | .bas l => l
def nums (t : T) : List V := [.int (t.size : Nat), .int (t.jts : Nat), .int (t.dep : Nat), if t.jts = 0 then .non else .int (t.lng : Nat), if t.jts = 0 then .non else .int (t.sht : Nat)]
def flds (t : T) (b n : Addr) : List (Str × V) := [("written", .str (tx t)), ("branches", .ref b), ("numbers", .ref n)]
theorem fl_w {t : T} {b n : Addr} : (flds t b n).lookup ("written" : Str) = some (.str (tx t)) := by kernel_rfl
theorem fl_b {t : T} {b n : Addr} : (flds t b n).lookup ("branches" : Str) = some (.ref b) := by kernel_rfl
theorem fl_n {t : T} {b n : Addr} : (flds t b n).lookup ("numbers" : Str) = some (.ref n) := by kernel_rfl
theorem fl_put {t : T} {b n : Addr} : putF "numbers" (.ref n) (putF "branches" (.ref b) (putF "written" (.str (tx t)) [])) = flds t b n := by kernel_rfl
theorem fl_l1 {v : V} : (putF ("written" : Str) v []).length < 1000 := by
  have e : putF ("written" : Str) v [] = [(("written" : Str), v)] := by kernel_rfl
  rw [e]
  show 1 < 1000
  decide
theorem fl_l2 {v w : V} : (putF ("branches" : Str) w (putF ("written" : Str) v [])).length < 1000 := by
  have e : putF ("branches" : Str) w (putF ("written" : Str) v []) = [(("written" : Str), v), (("branches" : Str), w)] := by kernel_rfl
  rw [e]
  show 2 < 1000
  decide
mutual
def Ftn (C : Addr) (H : Hp) : T → V → Prop
  | .jet, v => ∃ a dx b n, v = .ref a ∧ H a = some (.ins C dx (flds .jet b n)) ∧ H b = some (.tup []) ∧ H n = some (.tup (nums .jet))
  | .bas l, v => ∃ a dx b n vs, v = .ref a ∧ H a = some (.ins C dx (flds (.bas l) b n)) ∧ H b = some (.tup vs) ∧ H n = some (.tup (nums (.bas l))) ∧ FtnL C H l vs
def FtnL (C : Addr) (H : Hp) : List T → List V → Prop
  | [], vs => vs = []
  | t :: ts, vs => ∃ v r, vs = v :: r ∧ Ftn C H t v ∧ FtnL C H ts r
end
section
variable {C : Addr} {H H' : Hp}
theorem ftn_iff {t : T} {v : V} : Ftn C H t v ↔ ∃ a dx b n vs, v = .ref a ∧ H a = some (.ins C dx (flds t b n)) ∧ H b = some (.tup vs) ∧ H n = some (.tup (nums t)) ∧ FtnL C H t.kids vs := by
  cases t with
  | jet =>
    constructor
    · intro h
      have h2 : ∃ a dx b n, v = .ref a ∧ H a = some (.ins C dx (flds .jet b n)) ∧ H b = some (.tup []) ∧ H n = some (.tup (nums .jet)) := h
      obtain ⟨a, dx, b, n, e, h1, h2, h3⟩ := h2
      exact ⟨a, dx, b, n, [], e, h1, h2, h3, rfl⟩
    · intro ⟨a, dx, b, n, vs, e, h1, h2, h3, h4⟩
      have e4 : vs = [] := h4
      subst e4
      exact ⟨a, dx, b, n, e, h1, h2, h3⟩
  | bas l => exact ⟨fun h => h, fun h => h⟩
theorem Same.extN (s : L2.Same H H') : ExtN H H' := ExtN.of s
mutual
theorem ftn_ext (e : ExtN H H') : ∀ (t : T) (v : V), Ftn C H t v → Ftn C H' t v
  | .jet, v, h => by
    have h2 : ∃ a dx b n, v = .ref a ∧ H a = some (.ins C dx (flds .jet b n)) ∧ H b = some (.tup []) ∧ H n = some (.tup (nums .jet)) := h
    obtain ⟨a, dx, b, n, ev, h1, h2, h3⟩ := h2
    exact ⟨a, dx, b, n, ev, e _ _ h1 (fun ps z => by cases z), e _ _ h2 (fun ps z => by cases z), e _ _ h3 (fun ps z => by cases z)⟩
  | .bas l, v, h => by
    have h2 : ∃ a dx b n vs, v = .ref a ∧ H a = some (.ins C dx (flds (.bas l) b n)) ∧ H b = some (.tup vs) ∧ H n = some (.tup (nums (.bas l))) ∧ FtnL C H l vs := h
    obtain ⟨a, dx, b, n, vs, ev, h1, h2, h3, h4⟩ := h2
    exact ⟨a, dx, b, n, vs, ev, e _ _ h1 (fun ps z => by cases z), e _ _ h2 (fun ps z => by cases z), e _ _ h3 (fun ps z => by cases z), ftnL_ext e l vs h4⟩
theorem ftnL_ext (e : ExtN H H') : ∀ (l : List T) (vs : List V), FtnL C H l vs → FtnL C H' l vs
  | [], vs, h => h
  | t :: ts, vs, h => by
    have h2 : ∃ v r, vs = v :: r ∧ Ftn C H t v ∧ FtnL C H ts r := h
    obtain ⟨v, r, ev, h1, h2⟩ := h2
    exact ⟨v, r, ev, ftn_ext e t v h1, ftnL_ext e ts r h2⟩
end
theorem Ftn.ext {t : T} {v : V} (h : Ftn C H t v) (e : ExtN H H') : Ftn C H' t v := ftn_ext e t v h
theorem FtnL.ext {l : List T} {vs : List V} (h : FtnL C H l vs) (e : ExtN H H') : FtnL C H' l vs := ftnL_ext e l vs h
theorem Ftn.same {t : T} {v : V} (h : Ftn C H t v) (e : L2.Same H H') : Ftn C H' t v := h.ext (.of e)
theorem FtnL.same {l : List T} {vs : List V} (h : FtnL C H l vs) (e : L2.Same H H') : FtnL C H' l vs := h.ext (.of e)
theorem FtnL.len : ∀ {l : List T} {vs : List V}, FtnL C H l vs → vs.length = l.length
  | [], vs, h => by
    have e : vs = [] := h
    rw [e] <;> rfl
  | t :: ts, vs, h => by
    obtain ⟨v, r, rfl, _, h2⟩ := (show ∃ v r, vs = v :: r ∧ Ftn C H t v ∧ FtnL C H ts r from h)
    rw [List.length_cons, List.length_cons, h2.len]
theorem FtnL.get : ∀ {l : List T} {vs : List V} {i : Nat} {v : V}, FtnL C H l vs → vs[i]? = some v → ∃ t, l[i]? = some t ∧ Ftn C H t v
  | [], vs, i, v, h, e => by
    have e2 : vs = [] := h
    rw [e2] at e
    simp at e
  | t :: ts, vs, i, v, h, e => by
    obtain ⟨u, r, rfl, h1, h2⟩ := (show ∃ v r, vs = v :: r ∧ Ftn C H t v ∧ FtnL C H ts r from h)
    cases i with
    | zero =>
      have e3 : u = v := by simpa using e
      exact ⟨t, rfl, e3 ▸ h1⟩
    | succ i =>
      obtain ⟨t', e1, e2⟩ := h2.get (i := i) (v := v) (by simpa using e)
      exact ⟨t', by simpa using e1, e2⟩
theorem FtnL.app : ∀ {l m : List T} {vs ws : List V}, FtnL C H l vs → FtnL C H m ws → FtnL C H (l ++ m) (vs ++ ws)
  | [], m, vs, ws, h, h' => by
    have e : vs = [] := h
    rw [e]
    exact h'
  | t :: ts, m, vs, ws, h, h' => by
    obtain ⟨u, r, rfl, h1, h2⟩ := (show ∃ v r, vs = v :: r ∧ Ftn C H t v ∧ FtnL C H ts r from h)
    exact ⟨u, r ++ ws, rfl, h1, h2.app h'⟩
theorem FtnL.one {t : T} {v : V} (h : Ftn C H t v) : FtnL C H [t] [v] := ⟨v, [], rfl, h, rfl⟩
theorem FtnL.zip : ∀ {l : List T} {vs : List V}, FtnL C H l vs → ∀ p ∈ (l.map tx).zip vs, ∃ t, p.1 = tx t ∧ Ftn C H t p.2
  | [], vs, _, p, hp => by
    rw [List.map_nil, List.zip_nil_left] at hp
    cases hp
  | t :: ts, vs, h, p, hp => by
    obtain ⟨u, r, rfl, h1, h2⟩ := (show ∃ v r, vs = v :: r ∧ Ftn C H t v ∧ FtnL C H ts r from h)
    rw [List.map_cons, List.zip_cons_cons] at hp
    rcases List.mem_cons.mp hp with e | e
    · exact ⟨t, by rw [e], by rw [e]; exact h1⟩
    · exact FtnL.zip h2 p e
theorem ftnL_sort {l : List T} {vs ys : List V} (h : FtnL C H l vs) (k : KeydV (l.map tx) vs ys) : FtnL C H (sortT l) ys := by
  obtain ⟨ps, pm, pw, rfl⟩ := k
  have hall : ∀ p ∈ ps, ∃ t, p.1 = tx t ∧ Ftn C H t p.2 := fun p hp => h.zip p (pm.mem_iff.mp hp)
  have go : ∀ ps : List (Str × V), (∀ p ∈ ps, ∃ t, p.1 = tx t ∧ Ftn C H t p.2) → ∃ us : List T, us.map tx = ps.map (·.1) ∧ FtnL C H us (ps.map (·.2)) := by
    intro ps
    induction ps with
    | nil => exact fun _ => ⟨[], rfl, rfl⟩
    | cons p r ih =>
      intro hp
      obtain ⟨us, e1, e2⟩ := ih fun q hq => hp q (List.mem_cons_of_mem _ hq)
      obtain ⟨t, e3, e4⟩ := hp p List.mem_cons_self
      exact ⟨t :: us, by rw [List.map_cons, List.map_cons, e1, e3], p.2, r.map (·.2), rfl, e4, e2⟩
  obtain ⟨us, e1, e2⟩ := go ps hall
  have hs : Srt us := by
    have q1 : (ps.map (·.1)).Pairwise (fun p q : Str => ¬ q.cps.toList < p.cps.toList) := List.pairwise_map.mpr pw
    rw [← e1] at q1
    refine (List.pairwise_map.mp q1).imp fun {a b} z => ?_
    unfold tle
    simp only [Bool.not_eq_true', decide_eq_false_iff_not]
    exact z
  have hfst : ((l.map tx).zip vs).map (·.1) = l.map tx := by
    rw [List.map_fst_zip]
    rw [List.length_map, h.len]
    exact Nat.le_refl _
  have hp : (us.map tx).Perm (l.map tx) := by
    rw [e1, ← hfst]
    exact pm.map _
  have un : ∃ g : Str → T, ∀ t, g (tx t) = t := by
    classical
    refine ⟨fun z => if e : ∃ t, tx t = z then e.choose else .jet, fun t => ?_⟩
    have e : ∃ u, tx u = tx t := ⟨t, rfl⟩
    show (if e : ∃ u, tx u = tx t then e.choose else T.jet) = t
    rw [dif_pos e]
    exact tx_inj e.choose_spec
  obtain ⟨g, hg⟩ := un
  have hp2 := hp.map g
  rw [List.map_map, List.map_map] at hp2
  have eid : (g ∘ tx) = id := funext hg
  rw [eid, List.map_id, List.map_id] at hp2
  rw [← sortT_eq hp2 hs]
  exact e2
end
structure ClsF (K : PySem.W.Frag) (mg : Str → Option Value) : Prop where
  g : mg "Fountain" = some (.ref (cF K))
  c : Cls K (cF K)
  nw : NoAttr K (cF K) "written"
  nb : NoAttr K (cF K) "branches"
  nn : NoAttr K (cF K) "numbers"
  hcl : PySem.W.findIn K (.ref (cF K)) "__class__" = some (some (.builtin "object.__class__"))
  hgs : PySem.W.specialIn K (.builtin "object.__class__") "__get__" = some (some (.builtin "getset_descriptor.__get__"))
  htk : PySem.W.takesIn K (.builtin "object.__class__") = some true
  hmro : PySem.W.mroIn K (cF K) (.type "object") = some true
  hne : PySem.W.findIn K (.ref (cF K)) "__ne__" = some (some (.builtin "object.__ne__"))
  hob : PySem.W.subIn K (.ref (cF K)) (.type "object") = some true
  sf : PySem.W.selfFirst K (cF K) = true
theorem ClsF.ty {K : PySem.W.Frag} {mg : Str → Option Value} (c : ClsF K mg) {H : Hp} {a dx : Addr} {fs : List (Str × V)} (e : H a = some (.ins (cF K) dx fs)) : TyX K H (.ref a) (.ref (cF K)) := .base (.ins e c.c c.hcl c.hgs c.htk c.hmro)
theorem isi_self {K : PySem.W.Frag} : PySem.W.kitOne K (.ref (cF K)) (.ref (cF K)) = some true := by
  unfold PySem.W.kitOne
  exact if_pos (by simp)
structure MakeD (P : Program) (w : World) (K : PySem.W.Frag) (mg : Str → Option Value) (base : Heap) (CX : CXT) (k : Nat) (x : Str) (C : Addr) (ps : List Str) (dvs : List V) (sp : Sp) : Prop where
  ex : ∃ f fd ds, mg x = some (.ref C) ∧ Mk K C f ∧ Binds K fd ps ds ∧ Vals dvs ds ∧ FnOk P w K mg base CX k f fd ps sp
structure InitAt (K : PySem.W.Frag) (mg : Str → Option Value) (x : Str) (C : Addr) (qual : Str) (st : Stmt) (dvs : List V) (ps : List Str) : Prop where
  ex : ∃ f fd, mg x = some (.ref C) ∧ Mk K C f ∧ FunD K "__init__" qual (defArgs st) (defBody st) (defScope st) dvs [] f fd ∧ ∀ j, j ≤ dvs.length → ∃ ds, Vals (dvs.drop j) ds ∧ Binds K fd ps ds
section
variable {P : Program} {w : World} {K : PySem.W.Frag} {mg : Str → Option Value} {base : Heap} {CX : CXT} {C : Addr} {x : Str}
theorem MakeD.mono {j k : Nat} {ps : List Str} {dvs : List V} {sp : Sp} (c : MakeD P w K mg base CX j x C ps dvs sp) (h : j ≤ k) : MakeD P w K mg base CX k x C ps dvs sp := by
  obtain ⟨f, fd, ds, h1, h2, h3, h4, F⟩ := c.ex
  exact ⟨f, fd, ds, h1, h2, h3, h4, F.mono h⟩
theorem InitAt.ok {qual : Str} {st : Stmt} {N ps : List Str} {k : Nat} {sp : Sp} {dvs : List V} (D : InitAt K mg x C qual st dvs ps) (j : Nat) (hj : j ≤ dvs.length) (S : FnScope N ps (defScope st)) (len : ∀ vs H Q E, sp vs H Q E → vs.length = ps.length)
    (hbody : ∀ (f : Addr) (cdv : Value) (A : Around) (outer : List Env) (s : Shared) (H : Hp) (vs : List V) (Q : VK) (E : XK), Room k (A.deeper (envOfC qual (defScope st) s.heap.objs.size f cdv)) → sp vs H Q E →
      ∃ t, PSs (cxOf CX P w K mg base N qual (defScope st) f cdv A outer s H E).nox (defBody st) t ∧ t { nx := fun _ H' => Q .non H', rt := Q } (start N vs) H) : MakeD P w K mg base CX (k + 1) x C ps (dvs.drop j) sp := by
  obtain ⟨f, fd, h1, h2, F, b⟩ := D.ex
  obtain ⟨ds, r, hb⟩ := b j hj
  exact ⟨f, fd, ds, h1, h2, hb, r, okF F S len fun cdv A outer s H vs Q E hr h => hbody f cdv A outer s H vs Q E hr h⟩
end
section
variable {X : Cx} {CX : CXT} {k : Nat} {C : Addr} {ps : List Str} {sp : Sp} {dvs : List V} {E : XK} {x : Str} {p pos : Pos} {e : Expr} {es : List Expr} {t : TA}
theorem pe_makeD (M : MakeD X.prog X.w X.K X.mg X.base CX k x C ps dvs sp) (hr : Room (k + 1) X.A) (hg : Gl X x) (hx : Passes CX X E) (ha : PA X (e :: es) t) (hdb : (x == ("__debug__" : Str)) = false := by decide)
    (he : starEach (e :: es) X.env = (false, eval e X.env) :: starEach es X.env := by rfl) (hpl : (backTo pos (starEach es X.env)).any (·.1) = false := by rfl) : PE X (.Call (.Name x p) (e :: es) [] pos) (tMake C sp dvs E t) := by
  obtain ⟨f, fd, ds, h1, h2, h3, h4, F⟩ := M.ex
  exact pe_make h2 F hr hg h1 h3 h4 hx ha hdb he hpl
end
theorem okC {P : Program} {w : World} {K : PySem.W.Frag} {mg : Str → Option Value} {base : Heap} {CX : CXT} {x qual : Str} {params : Arguments} {body : List Stmt} {scope : Scope} {kws : List (Str × V)} {fd : FuncData} {N ps : List Str} {k : Nat} {sp : Sp} {dvs : List V} {p : Str × Option Str}
    (F : FunD K x qual params body scope dvs kws (He.fAd K p) fd) (S : FnScope N ps scope) (len : ∀ vs H Q E, sp vs H Q E → vs.length = ps.length)
    (hbody : ∀ (A : Around) (outer : List Env) (s : Shared) (H : Hp) (vs : List V) (Q : VK) (E : XK), Room k (A.deeper (envOfC qual scope s.heap.objs.size (He.fAd K p) (.ref (He.codeOf K p)))) → sp vs H Q E →
      ∃ t, PSs (cxOf CX P w K mg base N qual scope (He.fAd K p) (.ref (He.codeOf K p)) A outer s H E).nox body t ∧ t { nx := fun _ H' => Q .non H', rt := Q } (start N vs) H) : FnOk P w K mg base CX (k + 1) (He.fAd K p) fd ps sp := by
  obtain ⟨oc, od, dV, kV, doc, pm, an, cdv, ct, osl, rfl, lk, hcd, _, _⟩ := F.ex
  obtain ⟨c, rfl⟩ := He.codeIn_ref hcd
  have ec : He.codeOf K p = c := He.codeOf_eq lk rfl
  subst ec
  exact fn_of lk hcd S len fun A outer s H vs Q E hr h => by
    obtain ⟨t, h, q⟩ := hbody A outer s H vs Q E hr h
    exact ⟨t, h.nox, q⟩
structure DefAtP (K : PySem.W.Frag) (mg : Str → Option Value) (x qual : Str) (st : Stmt) (ps : List Str) : Prop where
  g : mg x = some (.ref (He.fAd K (x, none)))
  f : ∃ fd, FunD K x qual (defArgs st) (defBody st) (defScope st) [] [] (He.fAd K (x, none)) fd ∧ Binds K fd ps []
theorem DefAtP.at {K : PySem.W.Frag} {mg : Str → Option Value} {x qual : Str} {st : Stmt} {ps : List Str} (d : DefAtP K mg x qual st ps) : DefAt K mg x qual st [] ps := by
  obtain ⟨fd, F, b⟩ := d.f
  exact ⟨_, fd, d.g, F, b⟩
theorem DefAtP.okC {P : Program} {w : World} {K : PySem.W.Frag} {mg : Str → Option Value} {base : Heap} {CX : CXT} {x qual : Str} {st : Stmt} {N ps : List Str} {k : Nat} {sp : Sp} (D : DefAtP K mg x qual st ps) (S : FnScope N ps (defScope st)) (len : ∀ vs H Q E, sp vs H Q E → vs.length = ps.length)
    (hbody : ∀ (A : Around) (outer : List Env) (s : Shared) (H : Hp) (vs : List V) (Q : VK) (E : XK), Room k (A.deeper (envOfC qual (defScope st) s.heap.objs.size (He.fAd K (x, none)) (.ref (He.codeOf K (x, none))))) → sp vs H Q E →
      ∃ t, PSs (cxOf CX P w K mg base N qual (defScope st) (He.fAd K (x, none)) (.ref (He.codeOf K (x, none))) A outer s H E).nox (defBody st) t ∧ t { nx := fun _ H' => Q .non H', rt := Q } (start N vs) H) : CallD P w K mg base CX (k + 1) x ps [] sp := by
  obtain ⟨fd, F, b⟩ := D.f
  exact ⟨_, fd, [], D.g, F.kp, b, .nil, JW.okC F S len hbody⟩
def spV (K : PySem.W.Frag) (f : T → V) : Sp := fun vs H Q _ => ∃ v t, vs = [v] ∧ Ftn (cF K) H t v ∧ Q (f t) H
theorem ev_prop {K : PySem.W.Frag} {f : T → V} {H : Hp} {t : T} {v : V} {Q : VK} {E : XK} (h : Ftn (cF K) H t v) (q : Q (f t) H) : ∃ a dx fs, v = .ref a ∧ H a = some (.ins (cF K) dx fs) ∧ spV K f (.ref a :: []) H Q E := by
  obtain ⟨a, dx, b, n, vs, rfl, h1, _⟩ := ftn_iff.mp h
  exact ⟨a, dx, _, rfl, h1, _, t, rfl, h, q⟩
def spKids (K : PySem.W.Frag) : Sp := fun vs H Q _ => ∃ v t, vs = [v] ∧ Ftn (cF K) H t v ∧ ∀ b xs, H b = some (.tup xs) → FtnL (cF K) H t.kids xs → Q (.ref b) H
theorem ev_kids {K : PySem.W.Frag} {H : Hp} {t : T} {v : V} {Q : VK} {E : XK} (h : Ftn (cF K) H t v) (q : ∀ b xs, H b = some (.tup xs) → FtnL (cF K) H t.kids xs → Q (.ref b) H) : ∃ a dx fs, v = .ref a ∧ H a = some (.ins (cF K) dx fs) ∧ spKids K (.ref a :: []) H Q E := by
  obtain ⟨a, dx, b, n, vs, rfl, h1, _⟩ := ftn_iff.mp h
  exact ⟨a, dx, _, rfl, h1, _, t, rfl, h, q⟩
theorem lc_eachL {K : PySem.W.Frag} {a : Addr} {xs ys : List V} {j : Nat} {te : TE} {σ : L2.St} {H1 : Hp} {D : Addr} {Qd : Hp → Prop} (hD : H1 D = none) (hl : SqL K H1 a xs) (hz : xs.length < sizeLine) (hy : ys.length = xs.length)
    (hw : ∀ x : V, wipe ((wipe σ [j]).set j (some x)) [j] = wipe σ [j]) (hs : ∀ (i : Nat) (x y : V) (H : Hp) (Q : VK), xs[i]? = some x → ys[i]? = some y → L2.Same H1 H → H D ≠ none → (∀ H', L2.Same H H' → Q y H') → te ((wipe σ [j]).set j (some x)) H Q)
    (hd : ∀ H, L2.Same H1 H → H D = some (.lst ys) → Qd H) : ∃ W : Nat → Nat → Hp → Prop, (∃ m, W 0 m (upd H1 D (.lst []))) ∧ ∀ i m H, W i m H →
      ((Itl K a).stop i H ∧ Qd H) ∨ ((Itl K a).go i H ∧ ∃ Nx : Hp → Prop, (∀ H', Nx H' → ∃ m', m' < m ∧ W (i + 1) m' H') ∧ ∀ x H', (Itl K a).yld i H x H' → gName j x (wipe σ [j]) H' fun σ2 H2 => wipe σ2 [j] = wipe σ [j] ∧ tYes σ2 H2 fun b H3 =>
        if b = true then te σ2 H3 fun y H4 => ∃ acc, H4 D = some (.lst acc) ∧ acc.length < sizeLine ∧ Nx (upd H4 D (.lst (acc ++ [y]))) else Nx H3) := by
  have slq : ∀ H, L2.Same H1 H → SqL K H a xs := fun H s => by
    rcases hl with (h | ⟨o, h⟩) | h
    · exact .inl (.inl (s _ _ h))
    · exact .inl (.inr ⟨o, s _ _ h⟩)
    · exact .inr h
  refine lc_list (fun i H => L2.Same H1 H ∧ H D = some (.lst (ys.take i))) ⟨L2.Same.new (L2.Same.refl H1) hD, by rw [upd_same, List.take_zero]⟩ (fun i H _ p => slq H p.1) (fun i x H hx p => ?_) fun H p => hd H p.1 (by rw [p.2, ← hy, List.take_length])
  have hi : i < xs.length := (List.getElem?_eq_some_iff.mp hx).1
  have hyi : ys[i]? = some ys[i] := List.getElem?_eq_getElem (by omega)
  refine ⟨hw x, ?_⟩
  show te _ H _
  refine hs i x ys[i] H _ hx hyi p.1 (by rw [p.2]; exact fun z => by cases z) fun H' s' => ⟨_, s' _ _ p.2, ?_, ?_, ?_⟩
  · rw [List.length_take]; omega
  · exact L2.Same.mine (p.1.trans s') hD
  · rw [upd_same, List.take_succ, hyi]
    rfl
theorem lc_eachT {K : PySem.W.Frag} {a : Addr} {xs ys : List V} {j : Nat} {te : TE} {σ : L2.St} {H1 : Hp} {D : Addr} {Qd : Hp → Prop} (hD : H1 D = none) (hl : SqT K H1 a xs) (hz : xs.length < sizeLine) (hy : ys.length = xs.length)
    (hw : ∀ x : V, wipe ((wipe σ [j]).set j (some x)) [j] = wipe σ [j]) (hs : ∀ (i : Nat) (x y : V) (H : Hp) (Q : VK), xs[i]? = some x → ys[i]? = some y → L2.Same H1 H → H D ≠ none → (∀ H', L2.Same H H' → Q y H') → te ((wipe σ [j]).set j (some x)) H Q)
    (hd : ∀ H, L2.Same H1 H → H D = some (.lst ys) → Qd H) : ∃ W : Nat → Nat → Hp → Prop, (∃ m, W 0 m (upd H1 D (.lst []))) ∧ ∀ i m H, W i m H →
      ((Itt K a).stop i H ∧ Qd H) ∨ ((Itt K a).go i H ∧ ∃ Nx : Hp → Prop, (∀ H', Nx H' → ∃ m', m' < m ∧ W (i + 1) m' H') ∧ ∀ x H', (Itt K a).yld i H x H' → gName j x (wipe σ [j]) H' fun σ2 H2 => wipe σ2 [j] = wipe σ [j] ∧ tYes σ2 H2 fun b H3 =>
        if b = true then te σ2 H3 fun y H4 => ∃ acc, H4 D = some (.lst acc) ∧ acc.length < sizeLine ∧ Nx (upd H4 D (.lst (acc ++ [y]))) else Nx H3) := by
  have slq : ∀ H, L2.Same H1 H → SqT K H a xs := fun H s => by
    rcases hl with (h | ⟨o, h⟩) | h
    · exact .inl (.inl (s _ _ h))
    · exact .inl (.inr ⟨o, s _ _ h⟩)
    · exact .inr h
  refine lc_tup (fun i H => L2.Same H1 H ∧ H D = some (.lst (ys.take i))) ⟨L2.Same.new (L2.Same.refl H1) hD, by rw [upd_same, List.take_zero]⟩ (fun i H _ p => slq H p.1) (fun i x H hx p => ?_) fun H p => hd H p.1 (by rw [p.2, ← hy, List.take_length])
  have hi : i < xs.length := (List.getElem?_eq_some_iff.mp hx).1
  have hyi : ys[i]? = some ys[i] := List.getElem?_eq_getElem (by omega)
  refine ⟨hw x, ?_⟩
  show te _ H _
  refine hs i x ys[i] H _ hx hyi p.1 (by rw [p.2]; exact fun z => by cases z) fun H' s' => ⟨_, s' _ _ p.2, ?_, ?_, ?_⟩
  · rw [List.length_take]; omega
  · exact L2.Same.mine (p.1.trans s') hD
  · rw [upd_same, List.take_succ, hyi]
    rfl
theorem lc_someT {K : PySem.W.Frag} {a : Addr} {xs : List V} {bs : List Bool} {j : Nat} {tt : TT} {te : TE} {σ : L2.St} {H1 : Hp} {D : Addr} {Qd : Hp → Prop} (hD : H1 D = none) (hl : SqT K H1 a xs) (hz : xs.length < sizeLine) (hy : bs.length = xs.length)
    (hw : ∀ x : V, wipe ((wipe σ [j]).set j (some x)) [j] = wipe σ [j]) (ht : ∀ (i : Nat) (x : V) (b : Bool) (H : Hp) (Q : Bool → Hp → Prop), xs[i]? = some x → bs[i]? = some b → L2.Same H1 H → (∀ H', L2.Same H H' → Q b H') → tt ((wipe σ [j]).set j (some x)) H Q)
    (hs : ∀ (i : Nat) (x : V) (H : Hp) (Q : VK), xs[i]? = some x → L2.Same H1 H → (∀ H', L2.Same H H' → Q x H') → te ((wipe σ [j]).set j (some x)) H Q)
    (hd : ∀ H, L2.Same H1 H → H D = some (.lst (((xs.zip bs).filter (·.2)).map (·.1))) → Qd H) : ∃ W : Nat → Nat → Hp → Prop, (∃ m, W 0 m (upd H1 D (.lst []))) ∧ ∀ i m H, W i m H →
      ((Itt K a).stop i H ∧ Qd H) ∨ ((Itt K a).go i H ∧ ∃ Nx : Hp → Prop, (∀ H', Nx H' → ∃ m', m' < m ∧ W (i + 1) m' H') ∧ ∀ x H', (Itt K a).yld i H x H' → gName j x (wipe σ [j]) H' fun σ2 H2 => wipe σ2 [j] = wipe σ [j] ∧ tt σ2 H2 fun b H3 =>
        if b = true then te σ2 H3 fun y H4 => ∃ acc, H4 D = some (.lst acc) ∧ acc.length < sizeLine ∧ Nx (upd H4 D (.lst (acc ++ [y]))) else Nx H3) := by
  have slq : ∀ H, L2.Same H1 H → SqT K H a xs := fun H s => by
    rcases hl with (h | ⟨o, h⟩) | h
    · exact .inl (.inl (s _ _ h))
    · exact .inl (.inr ⟨o, s _ _ h⟩)
    · exact .inr h
  have hzl : (xs.zip bs).length = xs.length := by rw [List.length_zip, hy, Nat.min_self]
  refine lc_tup (fun i H => L2.Same H1 H ∧ H D = some (.lst ((((xs.zip bs).take i).filter (·.2)).map (·.1)))) ⟨L2.Same.new (L2.Same.refl H1) hD, by rw [upd_same, List.take_zero]; rfl⟩ (fun i H _ p => slq H p.1) (fun i x H hx p => ?_) fun H p => hd H p.1 (by rw [p.2, ← hzl, List.take_length])
  have hi : i < xs.length := (List.getElem?_eq_some_iff.mp hx).1
  have hyi : bs[i]? = some bs[i] := List.getElem?_eq_getElem (by omega)
  have hzi : (xs.zip bs)[i]? = some (x, bs[i]) := by
    rw [List.getElem?_zip_eq_some]
    exact ⟨hx, hyi⟩
  refine ⟨hw x, ht i x bs[i] H _ hx hyi p.1 fun H' s' => ?_⟩
  cases hb : bs[i] with
  | true =>
    rw [if_pos rfl]
    refine hs i x H' _ hx (p.1.trans s') fun H2 s2 => ⟨_, s2 _ _ (s' _ _ p.2), ?_, ?_, ?_⟩
    · rw [List.length_map]
      refine Nat.lt_of_le_of_lt (List.length_filter_le _ _) ?_
      rw [List.length_take]
      omega
    · exact L2.Same.mine (p.1.trans (s'.trans s2)) hD
    · rw [upd_same, List.take_succ, hzi, hb]
      rw [List.filter_append, List.map_append]
      rfl
  | false =>
    rw [if_neg (by simp)]
    refine ⟨p.1.trans s', ?_⟩
    rw [s' _ _ p.2, List.take_succ, hzi, hb, List.filter_append, List.map_append]
    show _ = some (HO.lst (_ ++ []))
    rw [List.append_nil]
theorem pe_gint {X : Cx} {x : Str} {i : Int} {pos : Pos} (hg : Gl X x) (h : ∃ t, X.mg x = some (.int i t)) (hd : (x == ("__debug__" : Str)) = false := by decide) : PE X (.Name x pos) (tC (.int i)) := by
  obtain ⟨t, e⟩ := h
  exact pe_glob hg e ⟨t, rfl⟩ hd
theorem pe_gstr {X : Cx} {x z : Str} {pos : Pos} (hg : Gl X x) (h : ∃ t, X.mg x = some (.str z t)) (hd : (x == ("__debug__" : Str)) = false := by decide) : PE X (.Name x pos) (tC (.str z)) := by
  obtain ⟨t, e⟩ := h
  exact pe_glob hg e ⟨t, rfl⟩ hd
theorem PropAt.ok {P : Program} {w : World} {K : PySem.W.Frag} {mg : Str → Option Value} {base : Heap} {CX : CXT} {C : Addr} {m qual : Str} {st : Stmt} {N : List Str} {k : Nat} {sp : Sp} (D : PropAt K C m qual st) (S : FnScope N ["self"] (defScope st)) (len : ∀ vs H Q E, sp vs H Q E → vs.length = (["self"] : List Str).length)
    (hbody : ∀ (f : Addr) (cdv : Value) (A : Around) (outer : List Env) (s : Shared) (H : Hp) (vs : List V) (Q : VK) (E : XK), Room k (A.deeper (envOfC qual (defScope st) s.heap.objs.size f cdv)) → sp vs H Q E →
      ∃ t, PSs (cxOf CX P w K mg base N qual (defScope st) f cdv A outer s H E).nox (defBody st) t ∧ t { nx := fun _ H' => Q .non H', rt := Q } (start N vs) H) : PropD P w K mg base CX (k + 1) C m sp := by
  obtain ⟨p, g, fd, h1, F, b⟩ := D.ex
  exact ⟨p, g, fd, h1, b, okF F S len fun cdv A outer s H vs Q E hr h => hbody g cdv A outer s H vs Q E hr h⟩
theorem PropD.mono {P : Program} {w : World} {K : PySem.W.Frag} {mg : Str → Option Value} {base : Heap} {CX : CXT} {C : Addr} {f : Str} {sp : Sp} {j k : Nat} (c : PropD P w K mg base CX j C f sp) (h : j ≤ k) : PropD P w K mg base CX k C f sp := by
  obtain ⟨p, g, fd, h1, h2, F⟩ := c.ex
  exact ⟨p, g, fd, h1, h2, F.mono h⟩
theorem map_get {α β : Type} {l : List α} {f : α → β} {i : Nat} {t : α} {y : β} (h1 : l[i]? = some t) (h2 : (l.map f)[i]? = some y) : y = f t := by
  rw [List.getElem?_map, h1] at h2
  exact (Option.some.inj h2).symm
theorem lc_propT {K : PySem.W.Frag} {a : Addr} {xs : List V} {l : List T} {f : T → V} {j : Nat} {E : XK} {σ : L2.St} {H1 : Hp} {D : Addr} {Qd : Hp → Prop} (hD : H1 D = none) (hl : SqT K H1 a xs) (hf : FtnL (cF K) H1 l xs) (hz : xs.length < sizeLine)
    (hw : ∀ x : V, wipe ((wipe σ [j]).set j (some x)) [j] = wipe σ [j]) (hv : ∀ x : V, ((wipe σ [j]).set j (some x))[j]? = some (some x)) (hd : ∀ H, L2.Same H1 H → H D = some (.lst (l.map f)) → Qd H) : ∃ W : Nat → Nat → Hp → Prop, (∃ m, W 0 m (upd H1 D (.lst []))) ∧ ∀ i m H, W i m H →
      ((Itt K a).stop i H ∧ Qd H) ∨ ((Itt K a).go i H ∧ ∃ Nx : Hp → Prop, (∀ H', Nx H' → ∃ m', m' < m ∧ W (i + 1) m' H') ∧ ∀ x H', (Itt K a).yld i H x H' → gName j x (wipe σ [j]) H' fun σ2 H2 => wipe σ2 [j] = wipe σ [j] ∧ tYes σ2 H2 fun b H3 =>
        if b = true then tProp (cF K) (spV K f) [] E (tVar j) σ2 H3 fun y H4 => ∃ acc, H4 D = some (.lst acc) ∧ acc.length < sizeLine ∧ Nx (upd H4 D (.lst (acc ++ [y]))) else Nx H3) :=
  lc_eachT (ys := l.map f) hD hl hz (by rw [List.length_map, hf.len]) hw (fun i x y H Q hx hy s _ q => by
    obtain ⟨t, e1, e2⟩ := hf.get hx
    rw [map_get e1 hy] at q
    exact ⟨x, hv x, ev_prop (e2.same s) (q H (L2.Same.refl H))⟩) hd
theorem lc_propL {K : PySem.W.Frag} {a : Addr} {xs : List V} {l : List T} {f : T → V} {j : Nat} {E : XK} {σ : L2.St} {H1 : Hp} {D : Addr} {Qd : Hp → Prop} (hD : H1 D = none) (hl : SqL K H1 a xs) (hf : FtnL (cF K) H1 l xs) (hz : xs.length < sizeLine)
    (hw : ∀ x : V, wipe ((wipe σ [j]).set j (some x)) [j] = wipe σ [j]) (hv : ∀ x : V, ((wipe σ [j]).set j (some x))[j]? = some (some x)) (hd : ∀ H, L2.Same H1 H → H D = some (.lst (l.map f)) → Qd H) : ∃ W : Nat → Nat → Hp → Prop, (∃ m, W 0 m (upd H1 D (.lst []))) ∧ ∀ i m H, W i m H →
      ((Itl K a).stop i H ∧ Qd H) ∨ ((Itl K a).go i H ∧ ∃ Nx : Hp → Prop, (∀ H', Nx H' → ∃ m', m' < m ∧ W (i + 1) m' H') ∧ ∀ x H', (Itl K a).yld i H x H' → gName j x (wipe σ [j]) H' fun σ2 H2 => wipe σ2 [j] = wipe σ [j] ∧ tYes σ2 H2 fun b H3 =>
        if b = true then tProp (cF K) (spV K f) [] E (tVar j) σ2 H3 fun y H4 => ∃ acc, H4 D = some (.lst acc) ∧ acc.length < sizeLine ∧ Nx (upd H4 D (.lst (acc ++ [y]))) else Nx H3) :=
  lc_eachL (ys := l.map f) hD hl hz (by rw [List.length_map, hf.len]) hw (fun i x y H Q hx hy s _ q => by
    obtain ⟨t, e1, e2⟩ := hf.get hx
    rw [map_get e1 hy] at q
    exact ⟨x, hv x, ev_prop (e2.same s) (q H (L2.Same.refl H))⟩) hd
theorem FtnL.filter {C : Addr} {H : Hp} {p : T → Bool} : ∀ {l : List T} {vs : List V}, FtnL C H l vs → FtnL C H (l.filter p) (((vs.zip (l.map p)).filter (·.2)).map (·.1))
  | [], vs, h => by
    have e : vs = [] := h
    subst e
    exact rfl
  | t :: ts, vs, h => by
    obtain ⟨v, r, rfl, h1, h2⟩ := (show ∃ v r, vs = v :: r ∧ Ftn C H t v ∧ FtnL C H ts r from h)
    rw [List.map_cons, List.zip_cons_cons, List.filter_cons, List.filter_cons]
    cases hp : p t with
    | true => exact ⟨v, _, rfl, h1, FtnL.filter h2⟩
    | false =>
      simp only [Bool.false_eq_true, if_false]
      exact FtnL.filter h2
theorem ite_f {b : Bool} {A B : Prop} (h : b = false) (x : B) : if b = true then A else B := by
  subst h
  exact x
theorem ite_t {b : Bool} {A B : Prop} (h : b = true) (x : A) : if b = true then A else B := by
  subst h
  exact x
theorem joinL_nil : ∀ ys : List (List Nat), TL.joinL [] ys = ys.flatten
  | [] => rfl
  | [x] => by
    show x = x ++ []
    rw [List.append_nil]
  | x :: y :: r => by
    show x ++ ([] ++ TL.joinL [] (y :: r)) = x ++ (y :: r).flatten
    rw [List.nil_append, joinL_nil (y :: r)]
theorem codesL_flat : ∀ l : List T, codesL l = (l.map T.codes).flatten
  | [] => rfl
  | t :: r => by
    show t.codes ++ codesL r = t.codes ++ (r.map T.codes).flatten
    rw [codesL_flat r]
theorem nil_S : ("" : Str) = SX.S [] := by decide +kernel
theorem op_S : ("(" : Str) = SX.S [40] := by decide +kernel
theorem cl_S : (")" : Str) = SX.S [41] := by decide +kernel
theorem join_tx (l : List T) : Txt.join "" (l.map tx) = SX.S (codesL l) := by
  have e : l.map tx = (l.map T.codes).map SX.S := by
    rw [List.map_map]
    rfl
  rw [e, nil_S, SX.join_S, joinL_nil, codesL_flat]
theorem tx_bas (l : List T) : (("(" : Str) ++ Txt.join "" (l.map tx)) ++ (")" : Str) = tx (.bas l) := by
  rw [join_tx, op_S, cl_S, SX.S_cat, SX.S_cat]
  rfl
theorem codesL_len (l : List T) : (codesL l).length ≤ 2 * sizeL l := by
  have h := (codes_len (.bas l)).1
  have h2 : (40 :: (codesL l ++ [41])).length + jtsL l = 2 * (1 + sizeL l) := h
  rw [List.length_cons, List.length_append, List.length_singleton] at h2
  omega
theorem lens_tx (l : List T) : ((l.map tx).map (·.length)).sum = (codesL l).length := by
  rw [codesL_flat, List.length_flatten, List.map_map, List.map_map]
  exact congrArg List.sum (List.map_congr_left fun t _ => SX.S_len t.codes)
def PendR (C : Addr) (H : Hp) : List (List T) → List V → Prop
  | [], vs => vs = []
  | p :: r, vs => ∃ a xs ws, vs = .ref a :: ws ∧ H a = some (.tup xs) ∧ FtnL C H p xs ∧ PendR C H r ws
theorem PendR.ext {C : Addr} {H H' : Hp} (e : ExtN H H') : ∀ {st : List (List T)} {vs : List V}, PendR C H st vs → PendR C H' st vs
  | [], _, h => h
  | p :: r, vs, h => by
    obtain ⟨a, xs, ws, rfl, h1, h2, h3⟩ := (show ∃ a xs ws, vs = .ref a :: ws ∧ H a = some (.tup xs) ∧ FtnL C H p xs ∧ PendR C H r ws from h)
    exact ⟨a, xs, ws, rfl, e _ _ h1 (fun ps z => by cases z), h2.ext e, PendR.ext e h3⟩
theorem PendR.len {C : Addr} {H : Hp} : ∀ {st : List (List T)} {vs : List V}, PendR C H st vs → vs.length = st.length
  | [], _, h => by
    rw [show _ = [] from h] <;> rfl
  | p :: r, vs, h => by
    obtain ⟨a, xs, ws, rfl, h1, h2, h3⟩ := (show ∃ a xs ws, vs = .ref a :: ws ∧ H a = some (.tup xs) ∧ FtnL C H p xs ∧ PendR C H r ws from h)
    rw [List.length_cons, List.length_cons, h3.len]
def ExtD (D : Addr) (H H' : Hp) : Prop := ∀ b o, b ≠ D → H b = some o → (∀ ps, o ≠ .tbl ps) → H' b = some o
theorem ExtD.of {D : Addr} {H H' : Hp} (e : ExtN H H') : ExtD D H H' := fun b o _ h n => e b o h n
theorem ExtD.trans {D : Addr} {H H1 H2 : Hp} (a : ExtD D H H1) (b : ExtD D H1 H2) : ExtD D H H2 := fun c o hc h n => b c o hc (a c o hc h n) n
theorem ExtD.put {D : Addr} {H H1 : Hp} {o : HO} (a : ExtD D H H1) : ExtD D H (upd H1 D o) := fun c u hc h n => by rw [upd_ne hc]; exact a c u hc h n
theorem ExtD.refl (D : Addr) (H : Hp) : ExtD D H H := fun _ _ _ h _ => h
section
variable {C D : Addr} {H H' : Hp} {xs : List V}
mutual
theorem ftn_extD (hd : H D = some (.lst xs)) (e : ExtD D H H') : ∀ (t : T) (v : V), Ftn C H t v → Ftn C H' t v
  | .jet, v, h => by
    have h2 : ∃ a dx b n, v = .ref a ∧ H a = some (.ins C dx (flds .jet b n)) ∧ H b = some (.tup []) ∧ H n = some (.tup (nums .jet)) := h
    obtain ⟨a, dx, b, n, ev, h1, h2, h3⟩ := h2
    exact ⟨a, dx, b, n, ev, e _ _ (ne_of h1 hd fun z => by cases z) h1 (fun ps z => by cases z), e _ _ (ne_of h2 hd fun z => by cases z) h2 (fun ps z => by cases z), e _ _ (ne_of h3 hd fun z => by cases z) h3 (fun ps z => by cases z)⟩
  | .bas l, v, h => by
    have h2 : ∃ a dx b n vs, v = .ref a ∧ H a = some (.ins C dx (flds (.bas l) b n)) ∧ H b = some (.tup vs) ∧ H n = some (.tup (nums (.bas l))) ∧ FtnL C H l vs := h
    obtain ⟨a, dx, b, n, vs, ev, h1, h2, h3, h4⟩ := h2
    exact ⟨a, dx, b, n, vs, ev, e _ _ (ne_of h1 hd fun z => by cases z) h1 (fun ps z => by cases z), e _ _ (ne_of h2 hd fun z => by cases z) h2 (fun ps z => by cases z), e _ _ (ne_of h3 hd fun z => by cases z) h3 (fun ps z => by cases z), ftnL_extD hd e l vs h4⟩
theorem ftnL_extD (hd : H D = some (.lst xs)) (e : ExtD D H H') : ∀ (l : List T) (vs : List V), FtnL C H l vs → FtnL C H' l vs
  | [], vs, h => h
  | t :: ts, vs, h => by
    have h2 : ∃ v r, vs = v :: r ∧ Ftn C H t v ∧ FtnL C H ts r := h
    obtain ⟨v, r, ev, h1, h2⟩ := h2
    exact ⟨v, r, ev, ftn_extD hd e t v h1, ftnL_extD hd e ts r h2⟩
end
theorem PendR.extD (hd : H D = some (.lst xs)) (e : ExtD D H H') : ∀ {st : List (List T)} {vs : List V}, PendR C H st vs → PendR C H' st vs
  | [], _, h => h
  | p :: r, vs, h => by
    obtain ⟨a, ys, ws, rfl, h1, h2, h3⟩ := (show ∃ a xs ws, vs = .ref a :: ws ∧ H a = some (.tup xs) ∧ FtnL C H p xs ∧ PendR C H r ws from h)
    exact ⟨a, ys, ws, rfl, e _ _ (ne_of h1 hd fun z => by cases z) h1 (fun ps z => by cases z), ftnL_extD hd e p ys h2, PendR.extD hd e h3⟩
end
theorem Tabs.put {TT : List (Addr × Str)} {H : Hp} {D : Addr} {xs ys : List V} (t : LamX.Tabs TT H) (hd : H D = some (.lst xs)) : LamX.Tabs TT (upd H D (.lst ys)) := fun p hp => by
  obtain ⟨ps, h1, h2, h3⟩ := t p hp
  refine ⟨ps, by rw [upd_ne (ne_of h1 hd fun z => by cases z)]; exact h1, h2, fun pos cv hc => ?_⟩
  obtain ⟨c, e1, e2⟩ := h3 pos cv hc
  exact ⟨c, e1, by rw [upd_ne (ne_of e2 hd fun z => by unfold LamX.CodeO at z; cases z)]; exact e2⟩
theorem Tabs.same {TT : List (Addr × Str)} {H H' : Hp} (t : LamX.Tabs TT H) (s : L2.Same H H') : LamX.Tabs TT H' := LamX.Tabs.ext t s
theorem sq_last {α : Type} (v : α) (r : List α) : ((v :: r).reverse)[(v :: r).reverse.length - 1]? = some v := by
  rw [List.reverse_cons]
  simp
theorem sq_butlast {α : Type} (v : α) (r : List α) : (v :: r).reverse.dropLast = r.reverse := by
  rw [List.reverse_cons, List.dropLast_concat]
theorem ix_last {n : Nat} (h : 0 < n) : ixN n (-1) = some (n - 1) := by
  unfold ixN
  rw [if_neg (by omega), if_pos (by omega)]
  exact congrArg some (by omega)
theorem at_last (v : V) (r : List V) : atI (v :: r).reverse (-1) = some v := by
  unfold atI
  rw [ix_last (by simp)]
  exact sq_last v r
theorem set_last (v w : V) (r : List V) : (v :: r).reverse.set ((v :: r).reverse.length - 1) w = (w :: r).reverse := by
  rw [List.reverse_cons, List.reverse_cons, List.length_append, List.length_singleton]
  simp
theorem tyL {K : PySem.W.Frag} {H : Hp} {D : Addr} {xs : List V} (h : H D = some (.lst xs)) : tyV K "list" (.ref D) H := .inl ⟨rfl, _, SqL.of h⟩
section
variable {C C' D dx' : Addr} {H H' : Hp} {fs : List (Str × V)}
mutual
theorem ftn_extX (hd : H D = some (.ins C' dx' fs)) (hf : fs.length ≠ 3) (e : ExtD D H H') : ∀ (t : T) (v : V), Ftn C H t v → Ftn C H' t v
  | .jet, v, h => by
    have h2 : ∃ a dx b n, v = .ref a ∧ H a = some (.ins C dx (flds .jet b n)) ∧ H b = some (.tup []) ∧ H n = some (.tup (nums .jet)) := h
    obtain ⟨a, dx, b, n, ev, h1, h2, h3⟩ := h2
    exact ⟨a, dx, b, n, ev, e _ _ (ne_of h1 hd fun z => by cases z; exact hf rfl) h1 (fun ps z => by cases z), e _ _ (ne_of h2 hd fun z => by cases z) h2 (fun ps z => by cases z), e _ _ (ne_of h3 hd fun z => by cases z) h3 (fun ps z => by cases z)⟩
  | .bas l, v, h => by
    have h2 : ∃ a dx b n vs, v = .ref a ∧ H a = some (.ins C dx (flds (.bas l) b n)) ∧ H b = some (.tup vs) ∧ H n = some (.tup (nums (.bas l))) ∧ FtnL C H l vs := h
    obtain ⟨a, dx, b, n, vs, ev, h1, h2, h3, h4⟩ := h2
    exact ⟨a, dx, b, n, vs, ev, e _ _ (ne_of h1 hd fun z => by cases z; exact hf rfl) h1 (fun ps z => by cases z), e _ _ (ne_of h2 hd fun z => by cases z) h2 (fun ps z => by cases z), e _ _ (ne_of h3 hd fun z => by cases z) h3 (fun ps z => by cases z), ftnL_extX hd hf e l vs h4⟩
theorem ftnL_extX (hd : H D = some (.ins C' dx' fs)) (hf : fs.length ≠ 3) (e : ExtD D H H') : ∀ (l : List T) (vs : List V), FtnL C H l vs → FtnL C H' l vs
  | [], vs, h => h
  | t :: ts, vs, h => by
    have h2 : ∃ v r, vs = v :: r ∧ Ftn C H t v ∧ FtnL C H ts r := h
    obtain ⟨v, r, ev, h1, h2⟩ := h2
    exact ⟨v, r, ev, ftn_extX hd hf e t v h1, ftnL_extX hd hf e ts r h2⟩
end
end
theorem Tabs.putI {TT : List (Addr × Str)} {H : Hp} {D C C' dx dx' : Addr} {fs gs : List (Str × V)} (t : LamX.Tabs TT H) (hd : H D = some (.ins C dx fs)) : LamX.Tabs TT (upd H D (.ins C' dx' gs)) := fun p hp => by
  obtain ⟨ps, h1, h2, h3⟩ := t p hp
  refine ⟨ps, by rw [upd_ne (ne_of h1 hd fun z => by cases z)]; exact h1, h2, fun pos cv hc => ?_⟩
  obtain ⟨c, e1, e2⟩ := h3 pos cv hc
  exact ⟨c, e1, by rw [upd_ne (ne_of e2 hd fun z => by unfold LamX.CodeO at z; cases z)]; exact e2⟩
theorem kids_size (t : T) : sizeL t.kids ≤ t.size := by
  cases t with
  | jet => exact Nat.zero_le _
  | bas l => show sizeL l ≤ 1 + sizeL l; omega
theorem Ftn.ne {C : Addr} {H : Hp} {t : T} {v : V} (h : Ftn C H t v) : v ≠ .non := by
  obtain ⟨a, _, _, _, _, rfl, _⟩ := ftn_iff.mp h
  exact fun z => by cases z
end JW
namespace JW
open PySem PySem.Spec PyProof.Rows L2 He
def gAd (K : PySem.W.Frag) (p : Str × Str) : Addr := match PySem.W.recIn K (ma K (ga K p.1) p.2) "property" with
  | some (.ref g :: _) => g
  | _ => 0
structure PrD where
  at_ : Str × Str
  name : Str
  qual : Str
  params : Arguments
  body : List Stmt
  scope : Scope
def fnWa (K : PySem.W.Frag) (a : Addr) : FnW := match K.lookup a with
  | some ⟨_, _, .func fd, _⟩ => some (fd.name, fd.qualname, fd.params, fd.body, fd.scope, fd.globals, fd.closure, fd.builtins)
  | _ => none
def PrD.val (d : PrD) : FnW := some (d.name, d.qual, d.params, .stmts d.body, d.scope, mainGlobals, [], builtinsNs)
def PrD.okP (K : PySem.W.Frag) (d : PrD) : Bool := eqO (PySem.W.findIn K (.ref (ga K d.at_.1)) d.at_.2) (some (some (.ref (ma K (ga K d.at_.1) d.at_.2)))) &&
  (eqO (PySem.W.specialIn K (.ref (ma K (ga K d.at_.1) d.at_.2)) "__get__") (some (some (.builtin "property.__get__"))) && (decide (PySem.W.takesIn K (.ref (ma K (ga K d.at_.1) d.at_.2)) = some true) &&
  (match PySem.W.recIn K (ma K (ga K d.at_.1) d.at_.2) "property" with
  | some (.ref _ :: _) => true
  | _ => false)))
def PrD.okF (K : PySem.W.Frag) (d : PrD) : Bool := PySem.W.keepIn K (.ref (gAd K d.at_)) && (match K.lookup (gAd K d.at_) with
  | some ⟨_, _, .func fd, _⟩ => PySem.W.codeIn K fd.code d.qual && (dflB K fd.defaults [] && kwdB K fd.kwdefaults [])
  | _ => false)
def PrD.ok (K : PySem.W.Frag) (d : PrD) : Bool := d.okP K && d.okF K
theorem PrD.propOf {K : PySem.W.Frag} {d : PrD} (h : d.okP K = true) : PropOf K (ga K d.at_.1) d.at_.2 (ma K (ga K d.at_.1) d.at_.2) (gAd K d.at_) := by
  obtain ⟨h1, h2⟩ := ba h
  obtain ⟨h3, h4⟩ := ba h2
  obtain ⟨h5, h6⟩ := ba h4
  refine ⟨eqO_ok h1, eqO_ok h3, of_decide_eq_true h5, ?_⟩
  unfold gAd
  generalize PySem.W.recIn K (ma K (ga K d.at_.1) d.at_.2) "property" = r at h6 ⊢
  cases r with
  | none => cases h6
  | some l =>
    cases l with
    | nil => cases h6
    | cons v rest =>
      cases v with
      | ref g => exact ⟨rest, rfl⟩
      | _ => cases h6
theorem PrD.funD {K : PySem.W.Frag} {d : PrD} (e : fnWa K (gAd K d.at_) = d.val) (c : d.okF K = true) : ∃ fd, FunD K d.name d.qual d.params d.body d.scope [] [] (gAd K d.at_) fd := by
  obtain ⟨kp, c2⟩ := ba c
  unfold fnWa at e
  cases q : K.lookup (gAd K d.at_) with
  | none =>
    rw [q] at c2
    cases c2
  | some o =>
    obtain ⟨oc, od, dt, osl⟩ := o
    rw [q] at c2 e
    cases dt with
    | func fd =>
      obtain ⟨n1, n2, n3, n4, n5, n6, n7, n8, n9, n10, n11, n12, n13, n14, n15⟩ := fd
      have e2 : (some (n1, n2, n3, n4, n5, n6, n7, n15) : FnW) = some (d.name, d.qual, d.params, .stmts d.body, d.scope, mainGlobals, [], builtinsNs) := e
      simp only [Option.some.injEq, Prod.mk.injEq] at e2
      obtain ⟨h1, h2, h3, h4, h5, h6, h7, h8⟩ := e2
      subst h1 h2 h3 h4 h5 h6 h7 h8
      have c3 : (PySem.W.codeIn K n13 d.qual && (dflB K n8 [] && kwdB K n9 [])) = true := c2
      obtain ⟨k1, k2⟩ := ba c3
      obtain ⟨k3, k4⟩ := ba k2
      exact ⟨_, ⟨oc, od, n8, n9, n10, n11, n12, n13, n14, osl, rfl, q, k1, dflB_ok k3, kwdB_ok k4⟩, kp⟩
    | _ => cases c2
def clsX (K : PySem.W.Frag) (x : Str) : Bool := eqO (PySem.W.findIn K (.ref (ga K x)) "__class__") (some (some (.builtin "object.__class__"))) &&
  (eqO (PySem.W.specialIn K (.builtin "object.__class__") "__get__") (some (some (.builtin "getset_descriptor.__get__"))) && (decide (PySem.W.takesIn K (.builtin "object.__class__") = some true) &&
  (decide (PySem.W.mroIn K (ga K x) (.type "object") = some true) && (eqO (PySem.W.findIn K (.ref (ga K x)) "__ne__") (some (some (.builtin "object.__ne__"))) && PySem.W.selfFirst K (ga K x)))))
theorem clsF_of {K : PySem.W.Frag} {mg : Str → Option Value} (g : mg "Fountain" = some (.ref (cF K))) (c : Cls K (cF K)) (nw : NoAttr K (cF K) "written") (nb : NoAttr K (cF K) "branches") (nn : NoAttr K (cF K) "numbers") (h : clsX K "Fountain" = true) : ClsF K mg := by
  obtain ⟨h1, h2⟩ := ba h
  obtain ⟨h3, h4⟩ := ba h2
  obtain ⟨h5, h6⟩ := ba h4
  obtain ⟨h7, h8⟩ := ba h6
  obtain ⟨h9, h10⟩ := ba h8
  exact ⟨g, c, nw, nb, nn, eqO_ok h1, eqO_ok h3, of_decide_eq_true h5, of_decide_eq_true h7, eqO_ok h9, of_decide_eq_true h7, h10⟩
structure SaysJ (fa : List Fa) (fn : List DefD) (tf : List Defn) (ex : PySem.W.Frag → Bool) (pr : List PrD) (w : World) (h : Heap) (K : PySem.W.Frag) : Prop where
  x : SaysX fa fn [] tf ex w h K
  p : pr.map (fun d => fnWa K (gAd K d.at_)) = pr.map PrD.val
  ok : (pr.all fun d => d.ok K) = true
section
variable {fa : List Fa} {fn : List DefD} {tf : List Defn} {ex : PySem.W.Frag → Bool} {pr : List PrD} {w : World} {h : Heap} {K : PySem.W.Frag}
theorem SaysJ.d (c : SaysJ fa fn tf ex pr w h K) : SaysD fa fn K := congrArg (fun z : AlT => z.1) c.x.t
end
end JW
namespace JW
open PySem PySem.Spec PyProof.Rows L2
def feedD (a b c : Int) : List (Key × V) := [(.inr "digits", .int a), (.inr "seed", .int b), (.inr "turn", .int c)]
def FeedAt (H : Hp) (d : Addr) : Prop := ∃ a b c : Int, H d = some (.dK (feedD a b c))
theorem FeedAt.same {H H' : Hp} {d : Addr} (h : FeedAt H d) (s : L2.Same H H') : FeedAt H' d := by
  obtain ⟨a, b, c, e⟩ := h
  exact ⟨a, b, c, s _ _ e⟩
theorem FeedAt.off {H : Hp} {d p : Addr} {o : HO} (h : FeedAt H d) (n : d ≠ p) : FeedAt (upd H p o) d := by
  obtain ⟨a, b, c, e⟩ := h
  exact ⟨a, b, c, by rw [upd_ne n]; exact e⟩
theorem FeedAt.ne {H : Hp} {d p : Addr} (h : FeedAt H d) (hp : H p = none) : p ≠ d := by
  obtain ⟨a, b, c, e⟩ := h
  exact (ne_of_none e hp).symm
def SamD (d : Addr) (H H' : Hp) : Prop := ∀ b o, b ≠ d → H b = some o → H' b = some o
theorem SamD.refl (d : Addr) (H : Hp) : SamD d H H := fun _ _ _ h => h
theorem SamD.trans {d : Addr} {H H1 H2 : Hp} (a : SamD d H H1) (b : SamD d H1 H2) : SamD d H H2 := fun c o h1 h => b c o h1 (a c o h1 h)
theorem SamD.put {d : Addr} {H H1 : Hp} {o : HO} (a : SamD d H H1) : SamD d H (upd H1 d o) := fun c u h1 h => by rw [upd_ne h1]; exact a c u h1 h
theorem SamD.new {d p : Addr} {H H1 : Hp} {o : HO} (a : SamD d H H1) (hp : H1 p = none) : SamD d H (upd H1 p o) := fun c u h1 h => by rw [upd_ne (ne_of_none (a c u h1 h) hp)]; exact a c u h1 h
theorem SamD.mine {d p : Addr} {H H1 : Hp} {o : HO} (a : SamD d H H1) (hp : H p = none) : SamD d H (upd H1 p o) := fun c u h1 h => by rw [upd_ne (ne_of_none h hp)]; exact a c u h1 h
theorem SamD.of {d : Addr} {H H1 : Hp} (a : L2.Same H H1) : SamD d H H1 := fun c o _ h => a c o h
theorem SamD.same {d : Addr} {H H1 H2 : Hp} (a : SamD d H H1) (b : L2.Same H1 H2) : SamD d H H2 := fun c o h1 h => b c o (a c o h1 h)
section
variable {C d : Addr} {H H' : Hp}
end
end JW
namespace PySem
open Sem (wp)
open Builtin Builtin.Str
open AutoSeq1 (wpAny_loadPart')
section
variable {prog : Program} {w : World} {A : Around} {E : Value → Shared → Prop} {s : Shared}
theorem jw_next_tup {it t : Addr} {i : Nat} {items} {x : Value} {Q : Value → Shared → Prop} (hit : s.heap.IsTupleIter it t i) (ht : s.heap.IsTuple t items) (hx : items[i]? = some x)
    (hQ : ∀ h', h'.IsTupleIter it t (i + 1) → Heap.SameBut it s.heap h' → Q x { s with heap := h' }) : wpAny (model prog w) A (Builtin.SmallTypes.nextOf (.ref it)) Q E s := by
  obtain ⟨o, ho, hc, hd⟩ := id hit
  obtain ⟨ol, hol, _, nl, hdl⟩ := ht
  unfold Builtin.SmallTypes.nextOf
  refine wpAny_bind (wpAny_callSpecial?_slot (name := Str.ofString "__next__") hit.typeIs F.slot_tuple_iterator_next
    (wpAny_call_entry F.slot_tuple_iterator_next hit.typeIs F.entry_tuple_iterator_next ?_ (F.args_tuple_iterator_next_1 _)))
  show wpAny _ _ (field (.ref it) 0 >>= _) _ _ s
  refine wpAny_bind (wpAny_field ho hd (x := .ref t) rfl ?_)
  show wpAny _ _ (if (Value.ref t == Value.none) = true then _ else _) _ _ s
  rw [if_neg (show ¬ ((Value.ref t == Value.none) = true) from Bool.false_ne_true)]
  show wpAny _ _ (field (.ref it) 1 >>= _) _ _ s
  refine wpAny_bind (wpAny_field ho hd (x := .int i 0) rfl ?_)
  show wpAny _ _ (seqItems? (.ref t) >>= _) _ _ s
  refine wpAny_bind (wpAny_seqItems hol hdl ?_)
  simp only [Int.toNat_natCast, hx]
  refine wpAny_bind (wpAny_setField ho hd (by simp) (wpAny_pure ⟨x, rfl, wpAny_pure (hQ _ ?_ (Heap.SameBut.update ..))⟩))
  exact ⟨_, Heap.get?_update_self _ ho (Obj.isFreed_of_fields (Obj.data_mapFields hd _)), (Obj.cls_mapFields ..).trans hc, by
    rw [Obj.data_mapFields hd]; simp [rawInt]⟩
theorem jw_next_tup_end {it t : Addr} {i : Nat} {items} {Q : Value → Shared → Prop} (hh : A.handled = none) (hit : s.heap.IsTupleIter it t i) (ht : s.heap.IsTuple t items) (hx : items[i]? = none)
    (hE : ∀ h' e, Heap.ExtBut it s.heap h' → (∃ o, h'.get? e = some o ∧ o.cls = .type "StopIteration") → E (.ref e) { s with heap := h' }) : wpAny (model prog w) A (Builtin.SmallTypes.nextOf (.ref it)) Q E s := by
  obtain ⟨o, ho, hc, hd⟩ := id hit
  obtain ⟨ol, hol, _, nl, hdl⟩ := ht
  unfold Builtin.SmallTypes.nextOf
  refine wpAny_bind (wpAny_callSpecial?_slot (name := Str.ofString "__next__") hit.typeIs F.slot_tuple_iterator_next
    (wpAny_call_entry F.slot_tuple_iterator_next hit.typeIs F.entry_tuple_iterator_next ?_ (F.args_tuple_iterator_next_1 _)))
  show wpAny _ _ (field (.ref it) 0 >>= _) _ _ s
  refine wpAny_bind (wpAny_field ho hd (x := .ref t) rfl ?_)
  show wpAny _ _ (if (Value.ref t == Value.none) = true then _ else _) _ _ s
  rw [if_neg (show ¬ ((Value.ref t == Value.none) = true) from Bool.false_ne_true)]
  show wpAny _ _ (field (.ref it) 1 >>= _) _ _ s
  refine wpAny_bind (wpAny_field ho hd (x := .int i 0) rfl ?_)
  show wpAny _ _ (seqItems? (.ref t) >>= _) _ _ s
  refine wpAny_bind (wpAny_seqItems hol hdl ?_)
  simp only [Int.toNat_natCast, hx]
  refine wpAny_bind (wpAny_rule (wpAny_bind (wpAny_setField ho hd (by simp) ?_)))
  show wpAny _ _ (newExc (.type "StopIteration") [] >>= _) _ _ _
  refine wpAny_bind ?_
  simp only [newExc, newTuple]
  refine wpAny_bind (wpAny_newObj_type ?_ (by size_fits))
  refine wpAny_bind (m := firstArgMember _ _) (wpAny_of_eq (a := Value.none) (by first | rfl | (simp only [firstArgMember]; rfl)) ?_)
  refine wpAny_newObj_type ?_ (by size_fits)
  simp only [raiseNew]
  refine wpAny_bind (wpAny_handled ?_)
  first | rw [show A.in1.handled = none from hh] | rw [hh]
  refine wpAny_bind (wpAny_pure (wpAny_throw ?_))
  exact hE _ _ (((Heap.SameBut.update ..).extBut.push _).push _) ⟨_, Heap.get?_push_size _ rfl, rfl⟩
end
theorem jw_draws_tup {prog : Program} {w : World} {A : Around} (hh : A.handled = none) (it l : Addr) (hne : l ≠ it) (items : Array Value) :
    Draws prog w A it [it, l] items.size (fun i v => items[i]? = some v) (fun i h => h.IsTupleIter it l i ∧ h.IsTuple l items) where
  live := fun _ _ st => let ⟨o, ho, _⟩ := st.1; ⟨o, ho⟩
  frame := fun _ _ _ st hk => by
    obtain ⟨⟨o, ho, r⟩, o2, ho2, r2⟩ := st
    exact ⟨⟨o, hk it (by simp) o ho, r⟩, o2, hk l (by simp) o2 ho2, r2⟩
  item := fun i s Q E hi st hQ => by
    refine jw_next_tup st.1 st.2 (x := items[i]) (by simp [hi]) fun h' hit' hs' => ?_
    exact hQ _ h' s.toks (by simp [hi]) ⟨hit', st.2.extBut hs'.extBut hne⟩ hs'
  done := fun s Q E st hE => jw_next_tup_end hh st.1 st.2 (by simp) hE
set_option maxHeartbeats 4000000 in
theorem jw_enum_newT (l : Addr) (items : Array Value) (n : Nat) (dct : Option Addr) (sl : Array (Option Value)) :
    Meets (Builtin.«enumerate.__new__» ⟨[.type "enumerate", .ref l], []⟩) (fun _ R s => s.heap.get? l = some { cls := .type "tuple", dict := dct, data := .seq items n, slots := sl } ∧
      R (.ok (.ret (.ref (s.heap.push { cls := .type "tuple_iterator", data := .fields #[.ref l, .int 0 0] }).objs.size)))
        { s with heap := (s.heap.push { cls := .type "tuple_iterator", data := .fields #[.ref l, .int 0 0] }).push { cls := .type "enumerate", data := .fields #[.none, .bool false, .ref s.heap.objs.size, rawInt 0, .none, .none] } }) :=
  .of_wp fun prog w A R s h => by
    obtain ⟨hp, g, d, tk, os⟩ := s; obtain ⟨hl, h⟩ := h
    have hsub := sub_enumerate
    have hL : Heap.IsTuple (Shared.heap ⟨hp, g, d, tk, os⟩) l items := ⟨_, hl, rfl, n, rfl⟩
    wp_walk using wpAny_loadPart' hl
    refine wpAny_stack_any fun st => wpAny_pure ?_
    split
    · rename_i c _ _ _ _ _
      cases (c == Value.type "enumerate")
      · wp_walk using wpAny_loadPart' hl, wpAny_pyIter_tuple hL
        exact ⟨_, rfl, h⟩
      · wp_walk using wpAny_loadPart' hl, wpAny_pyIter_tuple hL
        exact ⟨_, rfl, h⟩
    · wp_walk using wpAny_loadPart' hl, wpAny_pyIter_tuple hL
      exact ⟨_, rfl, h⟩
section
variable {prog : Program} {w : World} {A : Around} {E : Value → Shared → Prop} {s : Shared}
theorem jw_call_enumT {l : Addr} {items : Array Value} {Q : Value → Shared → Prop} (hL : s.heap.IsTuple l items)
    (h : ∀ h', IsEnum h' (s.heap.objs.size + 1) s.heap.objs.size 0 .none → h'.IsTupleIter s.heap.objs.size l 0 → h'.objs.size = s.heap.objs.size + 2 →
      (∀ b o, s.heap.get? b = some o → h'.get? b = some o) → Q (.ref (s.heap.objs.size + 1)) { s with heap := h' }) :
    wpAny (model prog w) A (call (.type "enumerate") [.ref l]) Q E s := by
  obtain ⟨⟨c, dct, dt, sl⟩, hl, hc, n, hd⟩ := hL
  replace hc : c = .type "tuple" := hc
  replace hd : dt = .seq items n := hd
  subst hc hd
  refine callType_new F.called_enumerate (by decide) (F.typeCall_enumerate_1 _) (F.newCall_enumerate_1 _) (fun obj => F.args_object_init_2 obj _) F.entry_enumerate_new
    (jw_enum_newT l items n dct sl) ⟨hl, ?_⟩
  have hz : (s.heap.push { cls := .type "tuple_iterator", data := .fields #[.ref l, .int 0 0] }).objs.size = s.heap.objs.size + 1 := Heap.size_push ..
  show _ ∧ _
  rw [hz]
  have he : IsEnum ((s.heap.push { cls := .type "tuple_iterator", data := .fields #[.ref l, .int 0 0] }).push
      { cls := .type "enumerate", data := .fields #[.none, .bool false, .ref s.heap.objs.size, rawInt 0, .none, .none] }) (s.heap.objs.size + 1) s.heap.objs.size 0 .none := by
    have := Heap.get?_push_size (s.heap.push { cls := .type "tuple_iterator", data := .fields #[.ref l, .int 0 0] })
      (o := { cls := .type "enumerate", data := .fields #[.none, .bool false, .ref s.heap.objs.size, rawInt 0, .none, .none] }) rfl
    rw [hz] at this; exact this
  refine ⟨⟨_, he, rfl⟩, h _ he ⟨_, Heap.get?_push_of_some _ (Heap.get?_push_size _ rfl), rfl, rfl⟩ (by rw [Heap.size_push, hz]) fun b o x => Heap.get?_push_of_some _ (Heap.get?_push_of_some _ x)⟩
end
end PySem
namespace JW
open PySem PySem.Spec PyProof.Rows L2
def Itet (K : PySem.W.Frag) (a : Addr) : It :=
  ⟨fun i H => ∃ (xs : List V) (x : V), SqT K H a xs ∧ xs[i]? = some x, fun i H v H' => ∃ T x, v = .ref T ∧ H T = none ∧ H' = upd H T (.tup [.int (i : Nat), x]) ∧ ∀ xs, SqT K H a xs → xs[i]? = some x, fun i H => ∃ xs : List V, SqT K H a xs ∧ xs.length = i⟩
theorem turn_enumT {P : Program} {w : World} {K : PySem.W.Frag} {elts : List Expr} {kk : Nat} {tpos : Pos} (a e it : Addr) (hai : a ≠ it) (hae : a ≠ e) :
    Turn P w K (.Tuple elts kk tpos) (Itet K a) [e, it] e (fun i h => (∃ old, IsEnum h e it ((i : Nat) : Int) old) ∧ h.IsTupleIter it a i ∧ e ≠ it) where
  mem := by simp
  obj := fun i h st b hb => by
    obtain ⟨⟨old, he⟩, ⟨o, ho, hc, hd⟩, _⟩ := st
    have e' : b = e ∨ b = it := by simpa using hb
    rcases e' with z | z
    · rw [z]; exact ⟨_, he, fun v q => nomatch q⟩
    · rw [z]; exact ⟨o, ho, fun v q => by rw [hd] at q; cases q⟩
  keep := fun i h h' st k => by
    obtain ⟨⟨old, he⟩, ⟨o, ho, r⟩, hne⟩ := st
    exact ⟨⟨old, k e (by simp) _ he⟩, ⟨o, k it (by simp) o ho, r⟩, hne⟩
  item := by
    intro X hP hw hK hc i pins s σ H E I hf st hg
    subst hP hw hK
    obtain ⟨⟨old, he⟩, hit, hne⟩ := st
    obtain ⟨xs, x, hq, hx⟩ := hg
    obtain ⟨its, rv, p, hz⟩ := I.tuple hq
    obtain ⟨u, hu, ru⟩ := rv.get hx
    have hel : e < s.heap.objs.size := Heap.lt_size he
    have hil : it < s.heap.objs.size := by obtain ⟨_, q, _⟩ := hit; exact Heap.lt_size q
    have hlt : i < its.toArray.size := by
      have := (List.getElem?_eq_some_iff.mp hu).1
      simpa using this
    refine wpAny_pyNext_enum_itemD (jw_draws_tup (A := X.A.in1) (I.ok.hd hc) it a hai its.toArray) he ⟨hit, show s.heap.IsTuple a its.toArray from p⟩ hlt hne (by simp [hne, Ne.symm hae]) fun y h' tk hy ho hit' hT hsz hk => ?_
    obtain rfl : y = u := by
      have e1 : its.toArray[i]? = some u := by simpa using hu
      rw [e1] at hy
      exact (Option.some.inj hy).symm
    refine ⟨_, rfl, wpAny_letOwnedTupleGo_enum (s := { s with heap := h', toks := tk + 1 }) ho fun h'' he' sb => ?_⟩
    have hT2 : h''.get? s.heap.objs.size = some { cls := .type "tuple", data := .seq #[.int i tk, y] } := (sb.2 _ (Nat.ne_of_gt hel)).trans hT
    have new : ObjOk X.prog X.w (upd H s.heap.objs.size (.tup [.int (i : Nat), x])) h'' s.heap.objs.size (.tup [.int (i : Nat), x]) :=
      ⟨by show 2 ≤ sizeLine; decide, [.int i tk, y], .cons ⟨_, rfl⟩ (.cons ru .nil), ⟨_, hT2, rfl, _, rfl⟩⟩
    have I1 : Inv X pins σ (upd H s.heap.objs.size (.tup [.int (i : Nat), x])) { s with heap := h'', toks := tk + 1 } :=
      I.turnedNew (ch := [e, it]) (fun b ob hb q => (sb.2 b (fun z => hb (by simp [z]))).trans (hk b ob (fun z => hb (by simp [z])) (fun z => hb (by simp [z])) q)) hf (Nat.le_refl _) new
    refine ⟨.ref s.heap.objs.size, _, I1, rfl, ⟨_, x, rfl, I.hok.fresh (Nat.le_refl _), rfl, fun ys hy2 => by rw [I.tuple_inj hy2 hq]; exact hx⟩, ⟨⟨y, ?_⟩, ?_, hne⟩, fun b hb => ?_⟩
    · have e1 : ((i + 1 : Nat) : Int) = (i : Int) + 1 := by omega
      rw [e1]; exact he'
    · obtain ⟨⟨o, q, r⟩, _⟩ := hit'
      exact ⟨o, (sb.2 it (Ne.symm hne)).trans q, r⟩
    · have hb' : b < s.heap.objs.size := by
        have e' : b = e ∨ b = it := by simpa using hb
        rcases e' with z | z
        · rw [z]; exact hel
        · rw [z]; exact hil
      rw [upd_ne (Nat.ne_of_lt hb')]
      exact (hf b hb).1
  done := by
    intro X hP hw hK hc i pins s σ H E I hf st hg
    subst hP hw hK
    obtain ⟨⟨old, he⟩, hit, hne⟩ := st
    obtain ⟨xs, hq, hx⟩ := hg
    obtain ⟨its, rv, p, hz⟩ := I.tuple hq
    have hl : i = its.toArray.size := by
      rw [← hx, rv.length, List.size_toArray]
    subst hl
    obtain ⟨f0, f1, f2, f3, f4, f5⟩ := hf it (by simp)
    exact wpAny_pyNext_enum_endD (jw_draws_tup (A := X.A.in1) (I.ok.hd hc) it a hai its.toArray) he ⟨hit, show s.heap.IsTuple a its.toArray from p⟩ fun h' eb => ⟨rfl, I.turned (t' := s.toks) (fun b o hb q => eb b o hb q) f0 f1 f3 f4 f5⟩
  self := fun A i s Q E st h => let ⟨⟨_, he⟩, _⟩ := st; wpAny_pyIter_enum he h
def iEnumT (K : PySem.W.Frag) (ta : TA) : TI := fun σ H R => ta σ H fun vs H1 => ∃ a xs, vs = [.ref a] ∧ SqT K H1 a xs ∧ R (Itet K a) H1
theorem pi_enumT {X : Cx} {e : Expr} {ta : TA} {p pos tpos : Pos} {elts : List Expr} {kk : Nat} (hg : Gl X "enumerate") (hm : X.mg "enumerate" = none) (ha : PA X [e] ta) (hs : starEach [e] X.env = [(false, eval e X.env)] := by rfl) :
    PI X (.Tuple elts kk tpos) (.Call (.Name "enumerate" p) [e] [] pos) (iEnumT X.K ta) := by
  refine ⟨fun pins s σ H R I h => ?_⟩
  refine Call_ (ld_blt I hg hm boot_enumerate (PyProof.Rows.callWith_type1 (thn (ha.run pos pins s σ H _ I h) fun us s1 ⟨vs, H1, I1, r1, q1⟩ => ?_) hs rfl))
  obtain ⟨a, xs, ex, hq, q⟩ := q1
  subst ex
  cases r1 with
  | cons r rr =>
    cases rr
    cases r
    obtain ⟨its, rv, p', hz⟩ := I1.tuple hq
    have hlt : a < s1.heap.objs.size := by
      obtain ⟨o, q2, _⟩ := p'
      exact Heap.lt_size q2
    refine jw_call_enumT (show s1.heap.IsTuple a its.toArray from p') fun h' he hit hsz hk => wpAny_pyIter_enum he ?_
    have I2 : Inv X pins σ H1 { s1 with heap := h' } := I1.kept (t' := s1.toks) hk
    refine ⟨s1.heap.objs.size + 1, [s1.heap.objs.size + 1, s1.heap.objs.size], _, _, H1, rfl, I2, turn_enumT a (s1.heap.objs.size + 1) s1.heap.objs.size (Nat.ne_of_lt hlt) (Nat.ne_of_lt (Nat.lt_succ_of_lt hlt)), ⟨⟨.none, he⟩, hit, Nat.succ_ne_self _⟩, fun b hb => ?_, q⟩
    have e' : b = s1.heap.objs.size + 1 ∨ b = s1.heap.objs.size := by simpa using hb
    have hle : s1.heap.objs.size ≤ b := by
      rcases e' with z | z
      · rw [z]; exact Nat.le_add_right _ _
      · rw [z]; exact Nat.le_refl _
    exact I1.fpOk hle (I1.hok.fresh hle)
theorem for_enumT {K : PySem.W.Frag} {a : Addr} {xs : List V} {g : TG} {tb : TS} {D : Ends} {σ : L2.St} {H : Hp} (Pv : Nat → L2.St → Hp → Prop) (h0 : Pv 0 σ H) (hl : ∀ i σ H, i ≤ xs.length → Pv i σ H → SqT K H a xs)
    (hs : ∀ i x σ H T, xs[i]? = some x → Pv i σ H → H T = none → g (.ref T) σ (upd H T (.tup [.int (i : Nat), x])) fun σ2 H2 => tb { D with nx := Pv (i + 1), ct := Pv (i + 1), bk := D.nx } σ2 H2) (hd : ∀ σ H, Pv xs.length σ H → D.nx σ H) :
    ∃ W : Nat → Nat → L2.St → Hp → Prop, (∃ m, W 0 m σ H) ∧ ∀ i m σ H, W i m σ H →
      ((Itet K a).stop i H ∧ D.nx σ H) ∨ ((Itet K a).go i H ∧ ∃ N : L2.St → Hp → Prop, (∀ σ' H', N σ' H' → ∃ m', m' < m ∧ W (i + 1) m' σ' H') ∧ ∀ v H', (Itet K a).yld i H v H' → g v σ H' fun σ2 H2 => tb { D with nx := N, ct := N, bk := D.nx } σ2 H2) := by
  refine ⟨fun i m σ H => m = xs.length - i ∧ i ≤ xs.length ∧ Pv i σ H, ⟨xs.length, rfl, Nat.zero_le _, h0⟩, ?_⟩
  rintro i m σ H ⟨rfl, hi, p⟩
  by_cases hlt : i < xs.length
  · refine .inr ⟨⟨xs, xs[i], hl i σ H hi p, List.getElem?_eq_getElem hlt⟩, Pv (i + 1), fun σ' H' p' => ⟨xs.length - (i + 1), by omega, rfl, hlt, p'⟩, fun v H' hy => ?_⟩
    obtain ⟨T, x, rfl, hT, rfl, hx⟩ := hy
    exact hs i x σ H T (hx xs (hl i σ H hi p)) p hT
  · have e : i = xs.length := by omega
    subst e
    exact .inl ⟨⟨xs, hl _ σ H hi p, rfl⟩, hd σ H p⟩
end JW
namespace JW
open PySem PySem.Spec PyProof.Rows L2 LamX
theorem DefAt.none {P : Program} {w : World} {K : PySem.W.Frag} {mg : Str → Option Value} {base : Heap} {CX : CXT} {x qual : Str} {st : Stmt} {ps : List Str} {k : Nat} {sp : Sp} (D : DefAt K mg x qual st [] ps) (h : ∀ vs H Q E, ¬ sp vs H Q E) : CallD P w K mg base CX k x ps [] sp := by
  obtain ⟨f, fd, h1, F, b⟩ := D.ex
  exact ⟨f, fd, [], h1, F.kp, b, .nil, ⟨fun vs H Q E z => absurd z (h _ _ _ _), fun A outer s H args us vs Q E hr e0 hb r z => absurd z (h _ _ _ _)⟩⟩
theorem callD_rec {P : Program} {w : World} {K : PySem.W.Frag} {mg : Str → Option Value} {base : Heap} {CX : CXT} {x qual : Str} {st : Stmt} {ps : List Str} {L : Nat} {sp : Nat → Sp} (D : DefAt K mg x qual st [] ps) (h0 : ∀ vs H Q E, ¬ sp 0 vs H Q E)
    (step : ∀ n, CallD P w K mg base CX (L + n) x ps [] (sp n) → CallD P w K mg base CX (L + n + 1) x ps [] (sp (n + 1))) : ∀ n, CallD P w K mg base CX (L + n) x ps [] (sp n)
  | 0 => D.none h0
  | n + 1 => step n (callD_rec D h0 step n)
theorem lc_ftnT {K : PySem.W.Frag} {TT : List (Addr × Str)} {a : Addr} {xs : List V} {l : List T} {g : T → T} {j : Nat} {te : TE} {σ : L2.St} {H1 : Hp} {D : Addr} {Qd : Hp → Prop} (hD : H1 D = none) (hl : SqT K H1 a xs) (hf : FtnL (cF K) H1 l xs) (hz : xs.length < sizeLine) (hT : Tabs TT H1)
    (hw : ∀ x : V, wipe ((wipe σ [j]).set j (some x)) [j] = wipe σ [j]) (hs : ∀ (x : V) (t : T) (H : Hp) (Q : VK), t ∈ l → Ftn (cF K) H t x → ExtN H1 H → Tabs TT H → (∀ y H', ExtN H H' → Tabs TT H' → Ftn (cF K) H' (g t) y → Q y H') → te ((wipe σ [j]).set j (some x)) H Q)
    (hd : ∀ H ys, ExtN H1 H → Tabs TT H → H D = some (.lst ys) → FtnL (cF K) H (l.map g) ys → Qd H) : ∃ W : Nat → Nat → Hp → Prop, (∃ m, W 0 m (upd H1 D (.lst []))) ∧ ∀ i m H, W i m H →
      ((Itt K a).stop i H ∧ Qd H) ∨ ((Itt K a).go i H ∧ ∃ Nx : Hp → Prop, (∀ H', Nx H' → ∃ m', m' < m ∧ W (i + 1) m' H') ∧ ∀ x H', (Itt K a).yld i H x H' → gName j x (wipe σ [j]) H' fun σ2 H2 => wipe σ2 [j] = wipe σ [j] ∧ tYes σ2 H2 fun b H3 =>
        if b = true then te σ2 H3 fun y H4 => ∃ acc, H4 D = some (.lst acc) ∧ acc.length < sizeLine ∧ Nx (upd H4 D (.lst (acc ++ [y]))) else Nx H3) := by
  have slq : ∀ H, ExtN H1 H → SqT K H a xs := fun H s => by
    rcases hl with (h | ⟨o, h⟩) | h
    · exact .inl (.inl (s _ _ h fun ps z => by cases z))
    · exact .inl (.inr ⟨o, s _ _ h fun ps z => by cases z⟩)
    · exact .inr h
  have hlen := hf.len
  refine lc_tup (fun i H => ExtN H1 H ∧ Tabs TT H ∧ ∃ ys, H D = some (.lst ys) ∧ FtnL (cF K) H ((l.take i).map g) ys) ⟨.of (Same.new (Same.refl H1) hD), Tabs.same hT (Same.new (Same.refl H1) hD), [], upd_same, by rw [List.take_zero]; rfl⟩ (fun i H _ p => slq H p.1) (fun i x H hx p => ?_) fun H p => ?_
  · obtain ⟨hE, hT2, ys, hy, hfy⟩ := p
    obtain ⟨t, e1, e2⟩ := hf.get hx
    have hi : i < l.length := (List.getElem?_eq_some_iff.mp e1).1
    refine ⟨hw x, ?_⟩
    show te _ H _
    refine hs x t H _ (List.mem_of_getElem? e1) (e2.ext hE) hE hT2 fun y H' hE' hT' hy' => ⟨ys, hE' _ _ hy (fun ps z => by cases z), ?_, ?_, ?_, ys ++ [y], upd_same, ?_⟩
    · rw [hfy.len, List.length_map, List.length_take]
      omega
    · exact fun c o ec n => by rw [upd_ne (ne_of_none ec hD)]; exact hE' _ _ (hE _ _ ec n) n
    · exact Tabs.put hT' (hE' _ _ hy (fun ps z => by cases z))
    · have hDy := hE' _ _ hy (fun ps z => by cases z)
      rw [List.take_succ, e1, Option.toList_some, List.map_append, List.map_singleton]
      exact ftnL_extD hDy (ExtD.put (ExtD.refl D H')) _ _ ((hfy.ext hE').app (FtnL.one hy'))
  · obtain ⟨hE, hT2, ys, hy, hfy⟩ := p
    rw [hlen, List.take_length] at hfy
    exact hd H ys hE hT2 hy hfy
structure DefAtK (K : PySem.W.Frag) (mg : Str → Option Value) (x qual : Str) (st : Stmt) (kws : List (Str × V)) (ps : List Str) : Prop where
  ex : ∃ f fd, mg x = some (.ref f) ∧ FunD K x qual (defArgs st) (defBody st) (defScope st) [] kws f fd ∧ ∃ ds, Vals (kws.map (·.2)) ds ∧ Binds K fd ps ds
theorem DefAtK.ok {P : Program} {w : World} {K : PySem.W.Frag} {mg : Str → Option Value} {base : Heap} {CX : CXT} {x qual : Str} {st : Stmt} {N ps : List Str} {kws : List (Str × V)} {k : Nat} {sp : Sp} (D : DefAtK K mg x qual st kws ps) (S : FnScope N ps (defScope st)) (len : ∀ vs H Q E, sp vs H Q E → vs.length = ps.length)
    (hbody : ∀ (f : Addr) (cdv : Value) (A : Around) (outer : List Env) (s : Shared) (H : Hp) (vs : List V) (Q : VK) (E : XK), Room k (A.deeper (envOfC qual (defScope st) s.heap.objs.size f cdv)) → sp vs H Q E →
      ∃ t, PSs (cxOf CX P w K mg base N qual (defScope st) f cdv A outer s H E).nox (defBody st) t ∧ t { nx := fun _ H' => Q .non H', rt := Q } (start N vs) H) : CallD P w K mg base CX (k + 1) x ps (kws.map (·.2)) sp := by
  obtain ⟨f, fd, h1, F, ds, r, b⟩ := D.ex
  exact ⟨f, fd, ds, h1, F.kp, b, r, JW.okF F S len fun cdv A outer s H vs Q E hr h => hbody f cdv A outer s H vs Q E hr h⟩
end JW
namespace JW
open PySem PySem.Spec PyProof.Rows L2
mutual
def PT (H : Hp) : T → V → Prop
  | .jet, v => v = .str (tx .jet)
  | .bas l, v => ∃ a vs, v = .ref a ∧ H a = some (.tup vs) ∧ PTL H l vs
def PTL (H : Hp) : List T → List V → Prop
  | [], vs => vs = []
  | t :: ts, vs => ∃ v r, vs = v :: r ∧ PT H t v ∧ PTL H ts r
end
section
variable {H H' : Hp}
def TupS (H H' : Hp) : Prop := ∀ a xs, H a = some (.tup xs) → H' a = some (.tup xs)
theorem TupS.of (s : L2.Same H H') : TupS H H' := fun a _ e => s a _ e
theorem TupS.ext (e : LamX.ExtN H H') : TupS H H' := fun a _ h => e a _ h fun ps z => by cases z
theorem TupS.refl (H : Hp) : TupS H H := fun _ _ h => h
theorem TupS.trans {H1 : Hp} (a : TupS H H1) (b : TupS H1 H') : TupS H H' := fun c xs h => b c xs (a c xs h)
theorem TupS.sack {d g : Addr} (h : SackAt H d g) (s : Same2 d g H H') : TupS H H' := fun a xs e => by
  obtain ⟨ns, x, y, z, n, e1, e2⟩ := h
  exact s a _ (ne_of e e1 fun z => by cases z) (ne_of e e2 fun z => by cases z) e
mutual
theorem pt_tup (s : TupS H H') : ∀ (t : T) (v : V), PT H t v → PT H' t v
  | .jet, v, h => h
  | .bas l, v, h => by
    obtain ⟨a, vs, ev, e, h2⟩ := (show ∃ a vs, v = .ref a ∧ H a = some (.tup vs) ∧ PTL H l vs from h)
    exact ⟨a, vs, ev, s _ _ e, ptl_tup s l vs h2⟩
theorem ptl_tup (s : TupS H H') : ∀ (l : List T) (vs : List V), PTL H l vs → PTL H' l vs
  | [], vs, h => h
  | t :: ts, vs, h => by
    obtain ⟨v, r, ev, h1, h2⟩ := (show ∃ v r, vs = v :: r ∧ PT H t v ∧ PTL H ts r from h)
    exact ⟨v, r, ev, pt_tup s t v h1, ptl_tup s ts r h2⟩
end
theorem PT.keep {t : T} {v : V} (h : PT H t v) (s : TupS H H') : PT H' t v := pt_tup s t v h
theorem PTL.keep {l : List T} {vs : List V} (h : PTL H l vs) (s : TupS H H') : PTL H' l vs := ptl_tup s l vs h
theorem PTL.len : ∀ {l : List T} {vs : List V}, PTL H l vs → vs.length = l.length
  | [], vs, h => by
    have e : vs = [] := h
    rw [e] <;> rfl
  | t :: ts, vs, h => by
    obtain ⟨v, r, rfl, _, h2⟩ := (show ∃ v r, vs = v :: r ∧ PT H t v ∧ PTL H ts r from h)
    rw [List.length_cons, List.length_cons, PTL.len h2]
theorem PTL.get : ∀ {l : List T} {vs : List V} {i : Nat} {v : V}, PTL H l vs → vs[i]? = some v → ∃ t, l[i]? = some t ∧ PT H t v
  | [], vs, i, v, h, e => by
    have e2 : vs = [] := h
    rw [e2] at e
    simp at e
  | t :: ts, vs, i, v, h, e => by
    obtain ⟨u, r, rfl, h1, h2⟩ := (show ∃ v r, vs = v :: r ∧ PT H t v ∧ PTL H ts r from h)
    cases i with
    | zero =>
      have e3 : u = v := by simpa using e
      exact ⟨t, rfl, e3 ▸ h1⟩
    | succ i =>
      obtain ⟨t', e1, e2⟩ := PTL.get h2 (i := i) (v := v) (by simpa using e)
      exact ⟨t', by simpa using e1, e2⟩
theorem PTL.app : ∀ {l m : List T} {vs ws : List V}, PTL H l vs → PTL H m ws → PTL H (l ++ m) (vs ++ ws)
  | [], m, vs, ws, h, h' => by
    have e : vs = [] := h
    rw [e]
    exact h'
  | t :: ts, m, vs, ws, h, h' => by
    obtain ⟨u, r, rfl, h1, h2⟩ := (show ∃ v r, vs = v :: r ∧ PT H t v ∧ PTL H ts r from h)
    exact ⟨u, r ++ ws, rfl, h1, PTL.app h2 h'⟩
theorem PTL.one {t : T} {v : V} (h : PT H t v) : PTL H [t] [v] := ⟨v, [], rfl, h, rfl⟩
end
mutual
def T.dat : T → PyData
  | .jet => .str (tx .jet)
  | .bas l => .tuple (datL l)
def datL : List T → List PyData
  | [] => []
  | t :: r => t.dat :: datL r
end
section
variable {K : PySem.W.Frag} {H : Hp}
end
mutual
theorem dat_eqv : ∀ t u : T, PyData.eqv t.dat u.dat = decide (t = u)
  | .jet, .jet => by
    show (tx .jet == tx .jet) = decide (T.jet = T.jet)
    simp
  | .jet, .bas m => by
    show false = _
    exact (decide_eq_false fun z => by cases z).symm
  | .bas l, .jet => by
    show false = _
    exact (decide_eq_false fun z => by cases z).symm
  | .bas l, .bas m => by
    show PyData.eqvAll (datL l) (datL m) = _
    rw [datL_eqv l m]
    exact decide_eq_decide.mpr ⟨fun z => by rw [z], fun z => T.bas.inj z⟩
theorem datL_eqv : ∀ l m : List T, PyData.eqvAll (datL l) (datL m) = decide (l = m)
  | [], [] => rfl
  | [], u :: m => by
    show false = _
    exact (decide_eq_false fun z => by cases z).symm
  | t :: l, [] => by
    show false = _
    exact (decide_eq_false fun z => by cases z).symm
  | t :: l, u :: m => by
    show (PyData.eqv t.dat u.dat && PyData.eqvAll (datL l) (datL m)) = _
    rw [dat_eqv t u, datL_eqv l m]
    by_cases h1 : t = u <;> by_cases h2 : l = m <;> simp [h1, h2]
end
theorem dat_depth : ∀ t : T, t.dat.depth ≤ t.size := by
  refine T.ind' (by show 0 ≤ 1; omega) fun l ih => ?_
  show PyData.depthAll (datL l) + 1 ≤ 1 + sizeL l
  have go : ∀ l : List T, (∀ t ∈ l, t.dat.depth ≤ t.size) → PyData.depthAll (datL l) ≤ sizeL l := by
    intro l
    induction l with
    | nil => intro _; exact Nat.le_refl _
    | cons t r ihr =>
      intro h
      have h1 := h t List.mem_cons_self
      have h2 := ihr fun u hu => h u (List.mem_cons_of_mem _ hu)
      show max t.dat.depth (PyData.depthAll (datL r)) ≤ t.size + sizeL r
      omega
  have := go l ih
  omega
mutual
theorem dat_lay : ∀ t : T, t.dat.canLay0 = true
  | .jet => by
    show PyData.canLay0 (.str (tx .jet)) = true
    decide +kernel
  | .bas l => datL_lay l
theorem datL_lay : ∀ l : List T, PyData.canLayAll0 (datL l) = true
  | [] => rfl
  | t :: r => by
    show (t.dat.canLay0 && PyData.canLayAll0 (datL r)) = true
    rw [dat_lay t, datL_lay r]
    rfl
end
theorem dat_shaped {t : T} (h : t.size ≤ 64) : SeqAt.shaped t.dat = true := by
  unfold SeqAt.shaped
  rw [dat_lay t, decide_eq_true (Nat.le_trans (dat_depth t) h)]
  rfl
def tSortFn (K : PySem.W.Frag) (sp : Sp) (te : TE) : TE := fun σ H Q => te σ H fun x H1 => ∃ (l : Addr) (xs : List V) (zs : List Str) (R : Hp → Prop), x = .ref l ∧ Sq K H1 l xs ∧ zs.length = xs.length ∧ R H1 ∧
  (∀ (i : Nat) (x : V) (z : Str), xs[i]? = some x → zs[i]? = some z → ∀ H', R H' → sp [x] H' (fun v H2 => v = .str z ∧ R H2) E0) ∧
  ∀ (D : Addr) (H' : Hp) (ys : List V), R H' → H' D = none → KeydV zs xs ys → Q (.ref D) (upd H' D (.lst ys))
theorem pe_sortedFn {X : Cx} {e : Expr} {te : TE} {fx y : Str} {p p2 pos kpos : Pos} {k : Nat} {sp : Sp} (he : PE X e te) (hg : Gl X "sorted") (hm : X.mg "sorted" = none) (hgf : Gl X fx) (C : CallD X.prog X.w X.K X.mg X.base CX0 k fx [y] [] sp) (hr : Room (k + 2) X.A) (hdb : (fx == ("__debug__" : Str)) = false := by decide)
    (hst : backTo pos (starEach [e] X.env) = [(false, eval e X.env)] := by rfl) : PE X (.Call (.Name "sorted" p) [e] [⟨some "key", .Name fx p2, kpos⟩] pos) (tSortFn X.K sp te) := by
  obtain ⟨f, fd, ds, h1, h2, h3, h4, F⟩ := C.ex
  cases h4
  refine ⟨fun pins s σ H Q I h => ?_⟩
  refine wpAny_Call_Name_kw (ld_blt I hg hm (by decide +kernel : bootBuiltins "sorted" = some (.builtin "sorted")) ?_ (by decide) (by decide))
  refine PyProof.Rows.callWith_kw (e := e) (rest := []) ?_ hst (by rw [hst]; rfl) (by rfl) (by rfl)
  rw [hst]
  refine Calls.spliced_cons (thn (he.run pins s σ H _ I h) fun u s1 ⟨x, H1, I1, r1, q1⟩ => Calls.spliced_nil ?_)
  obtain ⟨l, xs, zs, R, rfl, hl, hlen, hR, turn, fin⟩ := q1
  cases r1
  show wpAny _ _ (evalAll [(do let v ← eval (.Name fx p2) X.env; standAt pos; pure v)]) _ _ s1
  refine wpAny_evalAll_cons (wpAny_bind (ld_glob I1 hgf h1 ?_ hdb))
  refine wpAny_bind (wpAny_standAt (wpAny_pure (wpAny_evalAll_nil ?_)))
  show wpAny (model X.prog X.w) X.A (call (.builtin "sorted") [.ref l] [(Str.ofString "key", .ref f)]) _ _ _
  refine sorted_key (R := R) I1 hR hl hlen (fun i x z hx hz pn s' H' u I' hR' rx => ?_) fun D s' H' ys I' hD hR' ky => ⟨.ref D, _, I', rfl, fin D H' ys hR' hD ky⟩
  have hsp := turn i x z hx hz H' hR'
  have hl1 : ([u] ++ ([] : List Value)).length = ([y] : List Str).length := rfl
  have hb := h3 s' [u] I'.kIn hl1
  rw [List.append_nil] at hb
  refine wpAny_call (codeAny_mono (F.run X.A.in1.in1 X.stack s' H' ⟨[u], []⟩ [u] [x] _ _ hr.in1.in1 I'.env0.in1.in1 hb (.cons rx .nil) hsp) fun r s'' hq => ?_)
  cases r with
  | error er => exact False.elim hq
  | ok fl =>
    cases fl with
    | ret w' => exact I'.after hq
    | next => exact False.elim hq
    | brk => exact False.elim hq
    | cont => exact False.elim hq
theorem PTL.zip {H : Hp} : ∀ {l : List T} {vs : List V}, PTL H l vs → ∀ p ∈ (l.map tx).zip vs, ∃ t, p.1 = tx t ∧ PT H t p.2
  | [], vs, _, p, hp => by
    rw [List.map_nil, List.zip_nil_left] at hp
    cases hp
  | t :: ts, vs, h, p, hp => by
    obtain ⟨u, r, rfl, h1, h2⟩ := (show ∃ v r, vs = v :: r ∧ PT H t v ∧ PTL H ts r from h)
    rw [List.map_cons, List.zip_cons_cons] at hp
    rcases List.mem_cons.mp hp with e | e
    · exact ⟨t, by rw [e], by rw [e]; exact h1⟩
    · exact PTL.zip h2 p e
theorem canL_app {a b : List T} (h1 : CanL a) (h2 : CanL b) : CanL (a ++ b) := canL_iff.mpr fun t ht => by
  rcases List.mem_append.mp ht with e | e
  · exact canL_iff.mp h1 t e
  · exact canL_iff.mp h2 t e
theorem PTL.push {H : Hp} {l : List T} {vs : List V} {t : T} {v : V} {P : Addr} (h : PTL H l vs) (hv : PT H t v) (hP : H P = some (.lst vs)) : PTL (upd H P (.lst (vs ++ [v]))) (l ++ [t]) (vs ++ [v]) := by
  have kp : TupS H (upd H P (.lst (vs ++ [v]))) := fun c zs ec => by rw [upd_ne (ne_of ec hP fun z => by cases z)]; exact ec
  exact PTL.keep (PTL.app h (PTL.one hv)) kp
theorem sIx_none (n : Nat) : HT.sIx n n none = n := rfl
end JW
namespace JW
open PySem PySem.Spec PyProof.Rows L2 LamX
def ExtS (d g : Addr) (H H' : Hp) : Prop := ∀ b o, b ≠ d → b ≠ g → H b = some o → (∀ ps, o ≠ .tbl ps) → H' b = some o
section
variable {d g : Addr} {H H1 H' : Hp}
theorem ExtS.refl (d g : Addr) (H : Hp) : ExtS d g H H := fun _ _ _ _ h _ => h
theorem ExtS.trans (a : ExtS d g H H1) (b : ExtS d g H1 H') : ExtS d g H H' := fun c o h1 h2 h n => b c o h1 h2 (a c o h1 h2 h n) n
theorem SackAt.extN (h : SackAt H d g) (e : ExtN H H') : SackAt H' d g := by
  obtain ⟨ns, a, b, c, n, e1, e2⟩ := h
  exact ⟨ns, a, b, c, n, e _ _ e1 (fun ps z => by cases z), e _ _ e2 (fun ps z => by cases z)⟩
theorem Tabs.sack {TT : List (Addr × Str)} (t : Tabs TT H) (h : SackAt H d g) (s : Same2 d g H H') : Tabs TT H' := fun p hp => by
  obtain ⟨ns, a, b, c0, n, e1, e2⟩ := h
  obtain ⟨ps, h1, h2, h3⟩ := t p hp
  refine ⟨ps, s _ _ (ne_of h1 e1 fun z => by cases z) (ne_of h1 e2 fun z => by cases z) h1, h2, fun pos cv hc => ?_⟩
  obtain ⟨c, e3, e4⟩ := h3 pos cv hc
  exact ⟨c, e3, s _ _ (ne_of e4 e1 fun z => by unfold CodeO at z; cases z) (ne_of e4 e2 fun z => by unfold CodeO at z; cases z) e4⟩
theorem TupS.extS (h : SackAt H d g) (s : ExtS d g H H') : TupS H H' := fun a xs e => by
  obtain ⟨ns, x, y, z, n, e1, e2⟩ := h
  exact s a _ (ne_of e e1 fun z => by cases z) (ne_of e e2 fun z => by cases z) e fun ps z => by cases z
variable {C : Addr}
mutual
theorem ftn_sack (h : SackAt H d g) (s : ExtS d g H H') : ∀ (t : T) (v : V), Ftn C H t v → Ftn C H' t v
  | .jet, v, hh => by
    have h2 : ∃ a dx b n, v = .ref a ∧ H a = some (.ins C dx (flds .jet b n)) ∧ H b = some (.tup []) ∧ H n = some (.tup (nums .jet)) := hh
    obtain ⟨a, dx, b, n, ev, h1, h2, h3⟩ := h2
    have kt := TupS.extS h s
    obtain ⟨ns, x, y, z, n0, e1, e2⟩ := h
    exact ⟨a, dx, b, n, ev, s _ _ (ne_of h1 e1 fun z => by cases z) (ne_of h1 e2 fun z => by cases z) h1 (fun ps z => by cases z), kt _ _ h2, kt _ _ h3⟩
  | .bas l, v, hh => by
    have h2 : ∃ a dx b n vs, v = .ref a ∧ H a = some (.ins C dx (flds (.bas l) b n)) ∧ H b = some (.tup vs) ∧ H n = some (.tup (nums (.bas l))) ∧ FtnL C H l vs := hh
    obtain ⟨a, dx, b, n, vs, ev, h1, h2, h3, h4⟩ := h2
    have h4' := ftnL_sack h s l vs h4
    have kt := TupS.extS h s
    obtain ⟨ns, x, y, z, n0, e1, e2⟩ := h
    exact ⟨a, dx, b, n, vs, ev, s _ _ (ne_of h1 e1 fun z => by cases z) (ne_of h1 e2 fun z => by cases z) h1 (fun ps z => by cases z), kt _ _ h2, kt _ _ h3, h4'⟩
theorem ftnL_sack (h : SackAt H d g) (s : ExtS d g H H') : ∀ (l : List T) (vs : List V), FtnL C H l vs → FtnL C H' l vs
  | [], vs, hh => hh
  | t :: ts, vs, hh => by
    have h2 : ∃ v r, vs = v :: r ∧ Ftn C H t v ∧ FtnL C H ts r := hh
    obtain ⟨v, r, ev, h1, h2⟩ := h2
    exact ⟨v, r, ev, ftn_sack h s t v h1, ftnL_sack h s ts r h2⟩
end
theorem Ftn.sack {t : T} {v : V} (f : Ftn C H t v) (h : SackAt H d g) (s : ExtS d g H H') : Ftn C H' t v := ftn_sack h s t v f
end
theorem ExtS.mine {d g : Addr} {H0 H H' : Hp} (a : L2.Same H0 H) (hd : H0 d = none) (hg : H0 g = none) (b : ExtS d g H H') : LamX.ExtN H0 H' := fun c o h n => b c o (ne_of_none h hd) (ne_of_none h hg) (a c o h) n
theorem seqN {K : PySem.W.Frag} {H H' : Hp} {a : Addr} {xs : List V} (h : SqL K H a xs) (e : LamX.ExtN H H') : SqL K H' a xs := by
  rcases h with (h | ⟨o, h⟩) | h
  · exact .inl (.inl (e _ _ h fun ps z => by cases z))
  · exact .inl (.inr ⟨o, e _ _ h fun ps z => by cases z⟩)
  · exact .inr h
end JW
namespace JW
open PySem PySem.Spec PyProof.Rows L2
section
variable {P : Program} {w : World} {K : PySem.W.Frag} {mg : Str → Option Value} {base : Heap} {C : Addr}
theorem DefAt.okX {x qual : Str} {st : Stmt} {N ps : List Str} {k : Nat} {sp : Sp} {dvs : List V} (D : DefAt K mg x qual st dvs ps) (S : FnScope N ps (defScope st)) (len : ∀ vs H Q E, sp vs H Q E → vs.length = ps.length)
    (hbody : ∀ (f : Addr) (cdv : Value) (A : Around) (outer : List Env) (s : Shared) (H : Hp) (vs : List V) (Q : VK) (E : XK), Room k (A.deeper (envOfC qual (defScope st) s.heap.objs.size f cdv)) → sp vs H Q E →
      ∃ t, PSs (cxOf (L2.CX P w) P w K mg base N qual (defScope st) f cdv A outer s H E) (defBody st) t ∧ t { nx := fun _ H' => Q .non H', rt := Q } (start N vs) H) : CallD P w K mg base (L2.CX P w) (k + 1) x ps [] sp := by
  obtain ⟨f, fd, h1, F, b⟩ := D.ex
  exact ⟨f, fd, [], h1, F.kp, b, .nil, F.ok S len fun cdv A outer s H vs Q E hr h => hbody f cdv A outer s H vs Q E hr h⟩
theorem MethAt.okX {m qual : Str} {st : Stmt} {N ps : List Str} {k : Nat} {sp : Sp} (D : MethAt K C m qual st ps) (S : FnScope N ps (defScope st)) (len : ∀ vs H Q E, sp vs H Q E → vs.length = ps.length)
    (hbody : ∀ (f : Addr) (cdv : Value) (A : Around) (outer : List Env) (s : Shared) (H : Hp) (vs : List V) (Q : VK) (E : XK), Room k (A.deeper (envOfC qual (defScope st) s.heap.objs.size f cdv)) → sp vs H Q E →
      ∃ t, PSs (cxOf (L2.CX P w) P w K mg base N qual (defScope st) f cdv A outer s H E) (defBody st) t ∧ t { nx := fun _ H' => Q .non H', rt := Q } (start N vs) H) : MethD P w K mg base (L2.CX P w) (k + 1) C m ps [] sp := by
  obtain ⟨f, fd, h1, F, b⟩ := D.ex
  exact ⟨f, fd, [], h1, b, .nil, F.ok S len fun cdv A outer s H vs Q E hr h => hbody f cdv A outer s H vs Q E hr h⟩
theorem InitAt.okX {x qual : Str} {st : Stmt} {N ps : List Str} {k : Nat} {sp : Sp} {dvs : List V} (D : InitAt K mg x C qual st dvs ps) (j : Nat) (hj : j ≤ dvs.length) (S : FnScope N ps (defScope st)) (len : ∀ vs H Q E, sp vs H Q E → vs.length = ps.length)
    (hbody : ∀ (f : Addr) (cdv : Value) (A : Around) (outer : List Env) (s : Shared) (H : Hp) (vs : List V) (Q : VK) (E : XK), Room k (A.deeper (envOfC qual (defScope st) s.heap.objs.size f cdv)) → sp vs H Q E →
      ∃ t, PSs (cxOf (L2.CX P w) P w K mg base N qual (defScope st) f cdv A outer s H E) (defBody st) t ∧ t { nx := fun _ H' => Q .non H', rt := Q } (start N vs) H) : MakeD P w K mg base (L2.CX P w) (k + 1) x C ps (dvs.drop j) sp := by
  obtain ⟨f, fd, h1, h2, F, b⟩ := D.ex
  obtain ⟨ds, r, hb⟩ := b j hj
  exact ⟨f, fd, ds, h1, h2, hb, r, F.ok S len fun cdv A outer s H vs Q E hr h => hbody f cdv A outer s H vs Q E hr h⟩
end
theorem passE {X : Cx} {E : XK} {E₁ : Value → Shared → Prop} (hs : X.stack = X.env :: X.outer) (hf : X.env.frame = some X.env.locals) (hex : X.ex = [])
    (hx : X.xe = fun e s' => wpAny (model X.prog X.w) X.A (leaving X.env e) (fun _ s'' => L2.CX X.prog X.w X.outer X.H_0 X.s_0 E e s'') E₁ s') : Passes (L2.CX X.prog X.w) X E :=
  passes_call (takes_of hs hf hex hx) fun _ _ _ _ h => h
section
variable {X : Cx} {CX : CXT} {k : Nat} {f C : Addr} {fd : FuncData} {ps : List Str} {sp : Sp} {dvs : List V} {ds : List Value} {E : L2.St → XK} {x m : Str} {p pos apos : Pos} {e o a b : Expr} {es : List Expr} {ta tb : TE} {t : TA}
theorem run_fnS2 {pins : List (Addr × Obj)} {σ : L2.St} {H : Hp} {s : Shared} {Q : VK} {us : List Value} {vs : List V} (F : FnOk X.prog X.w X.K X.mg X.base CX k f fd ps sp) (hr : Room k X.A) (hb : Binds X.K fd ps ds) (hd : Vals dvs ds) (hx : PassesAt CX X σ (E σ))
    (I : Inv X pins σ H s) (r : Vals vs us) (h : sp (vs ++ dvs) H Q (E σ)) : wpAny (model X.prog X.w) X.A (call (.ref f) us) (EP X pins σ Q) X.xe s := by
  have r2 : Vals (vs ++ dvs) (us ++ ds) := r.append hd
  have hl : (us ++ ds).length = ps.length := by rw [← r2.length]; exact F.len _ _ _ _ h
  refine wpAny_call (codeAny_mono (F.run X.A X.stack s H ⟨us, []⟩ (us ++ ds) (vs ++ dvs) Q (E σ) hr I.env0 (hb s us I.kIn hl) r2 h) fun r s' hq => ?_)
  cases r with
  | error e => exact hx pins H s e s' I hq
  | ok fl =>
    cases fl with
    | ret u => exact I.after hq
    | next => exact False.elim hq
    | brk => exact False.elim hq
    | cont => exact False.elim hq
def tBinS (C : Addr) (sp : Sp) (E : L2.St → XK) (ta tb : TE) : TE := fun σ H Q => ta σ H fun x H1 => tb σ H1 fun y H2 => rOwn C sp (E σ) x y H2 Q
theorem pe_binS {op : Operator} (hc : PySem.W.selfFirst X.K C = true) (M : MethD X.prog X.w X.K X.mg X.base CX k C (PySem.dunder op.info.2) ps [] sp) (hr : Room k X.A) (hx : ∀ σ, PassesAt CX X σ (E σ)) (ha : PE X a ta) (hb : PE X b tb) : PE X (.BinOp a op b pos) (tBinS C sp E ta tb) := by
  refine ⟨fun pins s σ H Q I h => ?_⟩
  refine wpAny_BinOp (thn (ha.run pins s σ H _ I h) fun v s1 ⟨x, H1, I1, rx, q1⟩ => thn (hb.run pins s1 σ H1 _ I1 q1) fun u s2 ⟨y, H2, I2, ry, q2⟩ => ?_)
  obtain ⟨a, dx, fs, b, dy, gs, rfl, rfl, ha, hb, q⟩ := q2
  cases rx
  cases ry
  obtain ⟨f, fd, ds, hm, hbd, hd, F⟩ := M.ex
  cases hd
  obtain ⟨mA, J, _⟩ := ins_get I2.hok ha
  obtain ⟨mB, J', _⟩ := ins_get I2.hok hb
  obtain ⟨od, J, _⟩ := J.look
  obtain ⟨od', J', _⟩ := J'.look
  obtain ⟨m, hF⟩ := I2.fr
  refine PySem.W.binop_K hF I2.ok.mod.kin J J'.type hc hm.at_ hm.fn ?_
  refine wpAny_mono (run_fnS2 (us := [.ref a, .ref b]) (vs := [.ref a, .ref b]) F hr hbd .nil (hx σ) I2 (.cons rfl (.cons rfl .nil)) q) (fun v s' z => ?_) fun _ _ z => z
  obtain ⟨v', H', I', r, _, q'⟩ := z
  exact relV_back r ⟨v', H', I', r, q'⟩
end
section
variable {X : Cx} {o e : Expr} {es : List Expr} {ta : TA} {x : Str} {p p' p1 p2 pos : Pos} {D : Addr} {mc : Value}
structure InitBy (K : PySem.W.Frag) (D : Addr) : Prop where
  ex : ∃ mc, ClX.CRead K D mc ∧ PySem.W.findCls K (.ref D) mc "__init__" = some (.val (.builtin "ValueError.__init__"))
theorem pe_cinit {pl : Sem Bool} (hg : Gl X x) (hm : X.mg x = some (.ref D)) (B : InitBy X.K D) (ha : PA X (e :: es) ta) (hdb : (x == ("__debug__" : Str)) = false := by decide)
    (hc : eval (.Call (.Attribute (.Name x p1) "__init__" p2) (e :: es) [] pos) X.env = (do
      let ov ← eval (.Name x p1) X.env
      standAt p2.atName
      let (f, first) ← holding [ov] (getMethod ov "__init__" pl)
      callWith pos f first (backTo pos (starEach (e :: es) X.env)) (backToKw pos (keywordEach [] X.env))) := by rfl)
    (he : starEach (e :: es) X.env = (false, eval e X.env) :: starEach es X.env := by rfl) (hpl : (backTo pos (starEach es X.env)).any (·.1) = false := by rfl) :
    PE X (.Call (.Attribute (.Name x p1) "__init__" p2) (e :: es) [] pos) (tVeI X.K ta) := by
  obtain ⟨mc, r, k⟩ := B.ex
  refine ⟨fun pins s σ H Q I h => ?_⟩
  refine PySem.W.methodCall_KW (ld_glob I hg hm ?_ hdb) hc
  refine PySem.W.method_cls I.kIn r.ga (PySem.W.cls_value I.kIn r.rd k (by decide +kernel) ?_)
  show wpAny _ _ (callWith pos (Value.builtin "ValueError.__init__") [] (backTo pos (starEach (e :: es) X.env)) []) _ _ _
  refine PyProof.Rows.callWith_method1 (thn (ha.run pos pins _ σ H _ (I.tok _) h) fun us s1 ⟨vs, H1, I1, r1, a, C, ws, ev, hl, T, ea, q⟩ => ?_) he hpl
  subst ev
  cases r1 with
  | @cons _ u0 _ ur ra rw' =>
    obtain rfl : u0 = Value.ref a := ra
    have hlen : ur.length ≤ sizeLine := by
      rw [← Paired.length rw', sizeLine_eq]
      omega
    exact oinit_ok T I1 ea hlen fun s' J => ⟨.non, H1, J, rfl, q⟩
end
structure ErrC (K : PySem.W.Frag) (C : Addr) : Prop where
  o : OexC K C
  xf : XfC K C
  ex : ExcC K C
structure ErrAt (K : PySem.W.Frag) (mg : Str → Option Value) (x : Str) (C : Addr) (qual : Str) (st : Stmt) (ps : List Str) : Prop where
  g : mg x = some (.ref C)
  c : ErrC K C
  ex : ∃ f fd, PySem.W.findIn K (.ref C) "__init__" = some (some (.ref f)) ∧ PySem.W.typeIn K (.ref f) = some (.type "function") ∧ FunD K "__init__" qual (defArgs st) (defBody st) (defScope st) [] [] f fd ∧ Binds K fd ps []
structure ErrD (P : Program) (w : World) (K : PySem.W.Frag) (mg : Str → Option Value) (base : Heap) (k : Nat) (x : Str) (C : Addr) (ps : List Str) (sp : Sp) : Prop where
  g : mg x = some (.ref C)
  c : ErrC K C
  ex : ∃ f fd, PySem.W.findIn K (.ref C) "__init__" = some (some (.ref f)) ∧ PySem.W.typeIn K (.ref f) = some (.type "function") ∧ Binds K fd ps [] ∧ FnOk P w K mg base CX0 k f fd ps sp
def spErr (K : PySem.W.Frag) (C : Addr) (f : Str) : Sp := fun vs H Q _ => ∃ a v, vs = [.ref a, v] ∧ H a = some (exo a C none) ∧ ∀ d, H d = none → d ≠ a → Q .non (upd (upd H d (exd d [(f, v)])) a (exo a C (some d)))
section
variable {P : Program} {w : World} {K : PySem.W.Frag} {mg : Str → Option Value} {base : Heap} {C : Addr} {x : Str}
theorem ErrAt.ok {qual : Str} {st : Stmt} {N ps : List Str} {k : Nat} {sp : Sp} (D : ErrAt K mg x C qual st ps) (S : FnScope N ps (defScope st)) (len : ∀ vs H Q E, sp vs H Q E → vs.length = ps.length)
    (hbody : ∀ (f : Addr) (cdv : Value) (A : Around) (outer : List Env) (s : Shared) (H : Hp) (vs : List V) (Q : VK) (E : XK), Room k (A.deeper (envOfC qual (defScope st) s.heap.objs.size f cdv)) → sp vs H Q E →
      ∃ t, PSs (cxOf CX0 P w K mg base N qual (defScope st) f cdv A outer s H E).nox (defBody st) t ∧ t { nx := fun _ H' => Q .non H', rt := Q } (start N vs) H) : ErrD P w K mg base (k + 1) x C ps sp := by
  obtain ⟨f, fd, h1, h2, F, b⟩ := D.ex
  exact ⟨D.g, D.c, f, fd, h1, h2, b, okF F S len fun cdv A outer s H vs Q E hr h => hbody f cdv A outer s H vs Q E hr h⟩
end
def tRaiseE (C : Addr) (f : Str) (ta : TE) : L2.St → Hp → XK → Prop := fun σ H Q => ta σ H fun v H1 => ∀ d H', L2.Same H1 H' → H1 d = none → H' d = some (.xd [(f, v)]) → Q (.ref C) (some d) H'
section
variable {X : Cx} {e : Expr} {te : TE} {p pos : Pos} {x f : Str} {C : Addr} {k : Nat} {ps : List Str}
theorem pmk_err (D : ErrD X.prog X.w X.K X.mg X.base k x C ps (spErr X.K C f)) (hr : Room (k + 1) X.A) (hg : Gl X x) (he : PE X e te) (hdb : (x == ("__debug__" : Str)) = false := by decide)
    (hst : starEach [e] X.env = (false, eval e X.env) :: starEach [] X.env := by rfl) (hpl : (backTo pos (starEach [] X.env)).any (·.1) = false := by rfl) : PMk X (.Call (.Name x p) [e] [] pos) (tRaiseE C f te) := by
  obtain ⟨fI, fd, h1, h2, hb, F⟩ := D.ex
  intro pins s σ H Q I h
  refine pmk_oex (X := X) (C := C) (CX := CX0) (sp := spErr X.K C f) D.c.o h1 h2 F hr hb .nil pass0 hg D.g (pa_cons (pe_via he) pa_nil hst) hdb hst hpl pins s σ H Q I ?_
  refine ⟨_, h, fun v H1 r => ⟨by show 1 ≤ 1000; decide, fun a na => ⟨a, v, rfl, upd_same, fun d nd da => ⟨rfl, d, [(f, v)], upd_same, ?_, ?_, r d _ ?_ ?_ upd_same⟩⟩⟩⟩
  · rw [upd_ne da, upd_same]
  · rw [upd_ne da] at nd
    exact nd
  · intro b o e
    have nb : b ≠ a := ne_of_none e na
    have nd2 : b ≠ d := by
      rw [upd_ne da] at nd
      exact ne_of_none e nd
    rw [upd_ne nd2, del_ne nb, upd_ne nb, upd_ne nd2, upd_ne nb]
    exact e
  · rw [upd_ne da] at nd
    exact nd
end
end JW
namespace JW
open PySem PySem.Spec PyProof.Rows L2
structure CmAt (K : PySem.W.Frag) (C : Addr) (m qual : Str) (st : Stmt) (ps : List Str) : Prop where
  ex : ∃ mc p f fd, ClX.CRead K C mc ∧ ClX.CMet K C mc m p f ∧ FunD K m qual (defArgs st) (defBody st) (defScope st) [] [] f fd ∧ Binds K fd ps []
structure CmD (P : Program) (w : World) (K : PySem.W.Frag) (mg : Str → Option Value) (base : Heap) (CX : CXT) (k : Nat) (C : Addr) (m : Str) (ps : List Str) (sp : Sp) : Prop where
  ex : ∃ mc p f fd, ClX.CRead K C mc ∧ ClX.CMet K C mc m p f ∧ Binds K fd ps [] ∧ FnOk P w K mg base CX k f fd ps sp
section
variable {P : Program} {w : World} {K : PySem.W.Frag} {mg : Str → Option Value} {base : Heap} {C : Addr}
theorem CmAt.okX {m qual : Str} {st : Stmt} {N ps : List Str} {k : Nat} {sp : Sp} (D : CmAt K C m qual st ps) (S : FnScope N ps (defScope st)) (len : ∀ vs H Q E, sp vs H Q E → vs.length = ps.length)
    (hbody : ∀ (f : Addr) (cdv : Value) (A : Around) (outer : List Env) (s : Shared) (H : Hp) (vs : List V) (Q : VK) (E : XK), Room k (A.deeper (envOfC qual (defScope st) s.heap.objs.size f cdv)) → sp vs H Q E →
      ∃ t, PSs (cxOf (L2.CX P w) P w K mg base N qual (defScope st) f cdv A outer s H E) (defBody st) t ∧ t { nx := fun _ H' => Q .non H', rt := Q } (start N vs) H) : CmD P w K mg base (L2.CX P w) (k + 1) C m ps sp := by
  obtain ⟨mc, p, f, fd, h1, h2, F, b⟩ := D.ex
  exact ⟨mc, p, f, fd, h1, h2, b, F.ok S len fun cdv A outer s H vs Q E hr h => hbody f cdv A outer s H vs Q E hr h⟩
theorem CmAt.ok {m qual : Str} {st : Stmt} {N ps : List Str} {k : Nat} {sp : Sp} {CX : CXT} (D : CmAt K C m qual st ps) (S : FnScope N ps (defScope st)) (len : ∀ vs H Q E, sp vs H Q E → vs.length = ps.length)
    (hbody : ∀ (f : Addr) (cdv : Value) (A : Around) (outer : List Env) (s : Shared) (H : Hp) (vs : List V) (Q : VK) (E : XK), Room k (A.deeper (envOfC qual (defScope st) s.heap.objs.size f cdv)) → sp vs H Q E →
      ∃ t, PSs (cxOf CX P w K mg base N qual (defScope st) f cdv A outer s H E).nox (defBody st) t ∧ t { nx := fun _ H' => Q .non H', rt := Q } (start N vs) H) : CmD P w K mg base CX (k + 1) C m ps sp := by
  obtain ⟨mc, p, f, fd, h1, h2, F, b⟩ := D.ex
  exact ⟨mc, p, f, fd, h1, h2, b, okF F S len fun cdv A outer s H vs Q E hr h => hbody f cdv A outer s H vs Q E hr h⟩
end
section
variable {X : Cx} {CX : CXT} {k : Nat} {C : Addr} {ps : List Str} {sp : Sp} {E : L2.St → XK} {x m : Str} {p1 apos pos : Pos} {e : Expr} {es : List Expr} {t : TA}
def tCmS (C : Addr) (sp : Sp) (E : L2.St → XK) (t : TA) : TE := fun σ H Q => t σ H fun vs H2 => sp (.ref C :: vs) H2 Q (E σ)
theorem pe_cmethS {pl : Sem Bool} (hg : Gl X x) (hm : X.mg x = some (.ref C)) (M : CmD X.prog X.w X.K X.mg X.base CX k C m ps sp) (hr : Room k X.A) (hx : ∀ σ, PassesAt CX X σ (E σ)) (ha : PA X (e :: es) t) (hdb : (x == ("__debug__" : Str)) = false := by decide)
    (hst : starEach (e :: es) X.env = (false, eval e X.env) :: starEach es X.env := by rfl) (hpl : (backTo pos (starEach es X.env)).any (·.1) = false := by rfl)
    (ht : eval (.Call (.Attribute (.Name x p1) m apos) (e :: es) [] pos) X.env = (do
      let ov ← eval (.Name x p1) X.env
      standAt apos.atName
      let (f, first) ← holding [ov] (getMethod ov m pl)
      callWith pos f first (backTo pos (starEach (e :: es) X.env)) (backToKw pos (keywordEach [] X.env))) := by rfl) : PE X (.Call (.Attribute (.Name x p1) m apos) (e :: es) [] pos) (tCmS C sp E t) := by
  obtain ⟨mc, p, f, fd, r, c, hb, F⟩ := M.ex
  refine ⟨fun pins s σ H Q I h => ?_⟩
  refine PySem.W.methodCall_KW (pl := pl) (ld_glob I hg hm ?_ hdb) ht
  refine ClX.getmethcm_ok I r c fun s2 I2 => ?_
  refine ClX.callwith_cm I2 (ClX.base_none I (Nat.le_refl _)) c.fi (thn (ha.run pos _ s2 σ H _ I2 h) fun us s3 ⟨vs, H2, I3, rv, q2⟩ => ⟨⟨ClX.pin_at I3, I3.kIn⟩, ?_⟩) hst hpl
  have r2 : Vals (.ref C :: vs) (.ref C :: us) := .cons rfl rv
  have hl : (Value.ref C :: us).length = ps.length := by rw [← r2.length]; exact F.len _ _ _ _ q2
  have b := hb s3 (.ref C :: us) I3.kIn (by rw [List.append_nil]; exact hl)
  rw [List.append_nil] at b
  have z : wpAny (model X.prog X.w) X.A (call (.ref s.heap.objs.size) us) (EP X ((s.heap.objs.size, PySem.W.methodObj (.ref f) (.ref C)) :: pins) σ Q) X.xe s3 :=
    wpAny_call (PySem.W.method_call (ClX.pin_at I3) (codeAny_mono (F.run X.A X.stack s3 H2 ⟨.ref C :: us, []⟩ (.ref C :: us) (.ref C :: vs) Q (E σ) hr I3.env0 b r2 q2) fun r s' hq => (by
      cases r with
      | error e => exact hx σ _ H2 s3 e s' I3 hq
      | ok fl =>
        cases fl with
        | ret u => exact I3.after hq
        | next => exact False.elim hq
        | brk => exact False.elim hq
        | cont => exact False.elim hq)))
  exact thn z fun _ _ y => ClX.unpinE y
theorem seqTN {K : PySem.W.Frag} {H H' : Hp} {a : Addr} {xs : List V} (h : SqT K H a xs) (e : LamX.ExtN H H') : SqT K H' a xs := by
  rcases h with (h | ⟨o, h⟩) | h
  · exact .inl (.inl (e _ _ h fun ps z => by cases z))
  · exact .inl (.inr ⟨o, e _ _ h fun ps z => by cases z⟩)
  · exact .inr h
theorem passN {E : XK} (h : Passes CX X E) : ∀ σ : L2.St, PassesAt CX X σ ((fun _ => E) σ) := fun σ pins H s e s' I c => h pins σ H s e s' I c
end
end JW
namespace JW
theorem lngL_closed : ∀ {l : List T}, jtsL l = 0 → lngL l = 0
  | [], _ => rfl
  | t :: r, h => by
    have h2 : t.jts + jtsL r = 0 := h
    show ite _ _ _ = 0
    rw [if_pos (by omega)]
    exact lngL_closed (by omega)
theorem grfL_jts (p : T) (l : List T) : jtsL (l.map (T.grf p)) = jtsL l * p.jts := by
  have h := grf_jts p (.bas l)
  rw [grf_bas] at h
  have h2 : jtsL (sortT (l.map (T.grf p))) = jtsL l * p.jts := h
  rw [jtsL_perm (sortT_perm _)] at h2
  exact h2
theorem grf_dep (p : T) : ∀ t : T, (T.grf p t).dep = if t.jts = 0 then t.dep else max t.dep (t.lng + p.dep) := by
  refine T.ind' ?_ fun l ih => ?_
  · show p.dep = ite ((1 : Nat) = 0) 0 (max 0 (0 + p.dep))
    rw [if_neg (by decide)]
    omega
  rw [grf_bas]
  show 1 + depL (sortT (l.map (T.grf p))) = ite (jtsL l = 0) (1 + depL l) (max (1 + depL l) (1 + lngL l + p.dep))
  rw [depL_perm (sortT_perm _)]
  have go : ∀ l : List T, (∀ t ∈ l, (T.grf p t).dep = if t.jts = 0 then t.dep else max t.dep (t.lng + p.dep)) → depL (l.map (T.grf p)) = if jtsL l = 0 then depL l else max (depL l) (lngL l + p.dep) := by
    intro l
    induction l with
    | nil => intro _; rfl
    | cons t r ihr =>
      intro h
      have h1 := h t List.mem_cons_self
      have h2 := ihr fun u hu => h u (List.mem_cons_of_mem _ hu)
      show max (T.grf p t).dep (depL (r.map (T.grf p))) = ite (t.jts + jtsL r = 0) (max t.dep (depL r)) (max (max t.dep (depL r)) ((if t.jts = 0 then lngL r else max t.lng (lngL r)) + p.dep))
      rw [h1, h2]
      by_cases ht : t.jts = 0 <;> by_cases hr : jtsL r = 0
      · simp [ht, hr]
      · simp [ht, hr] <;> omega
      · rw [lngL_closed hr]; simp [ht, hr] <;> omega
      · simp [ht, hr] <;> omega
  rw [go l ih]
  by_cases h : jtsL l = 0
  · simp [h]
  · simp [h]; omega
theorem mul_zero_iff {a b : Nat} (hb : b ≠ 0) : a * b = 0 ↔ a = 0 := ⟨fun h => (Nat.mul_eq_zero.mp h).resolve_right hb, fun h => by rw [h, Nat.zero_mul]⟩
theorem grf_lng {p : T} (hp : p.jts ≠ 0) : ∀ t : T, t.jts ≠ 0 → (T.grf p t).lng = t.lng + p.lng := by
  refine T.ind' (fun _ => (Nat.zero_add _).symm) fun l ih h => ?_
  rw [grf_bas]
  show 1 + lngL (sortT (l.map (T.grf p))) = 1 + lngL l + p.lng
  rw [lngL_perm (sortT_perm _)]
  have go : ∀ l : List T, (∀ t ∈ l, t.jts ≠ 0 → (T.grf p t).lng = t.lng + p.lng) → jtsL l ≠ 0 → lngL (l.map (T.grf p)) = lngL l + p.lng := by
    intro l
    induction l with
    | nil => intro _ h; exact absurd rfl h
    | cons t r ihr =>
      intro h hl
      have hl2 : t.jts + jtsL r ≠ 0 := hl
      have h1 := h t List.mem_cons_self
      have h2 := ihr fun u hu => h u (List.mem_cons_of_mem _ hu)
      have e1 : (T.grf p t).jts = 0 ↔ t.jts = 0 := by rw [grf_jts]; exact mul_zero_iff hp
      show ite ((T.grf p t).jts = 0) _ (max (T.grf p t).lng (lngL (r.map (T.grf p)))) = ite (t.jts = 0) (lngL r) (max t.lng (lngL r)) + p.lng
      by_cases ht : t.jts = 0
      · rw [if_pos (e1.mpr ht), if_pos ht]
        exact h2 (by omega)
      · rw [if_neg (fun z => ht (e1.mp z)), if_neg ht, h1 ht]
        by_cases hr : jtsL r = 0
        · rw [lngL_closed hr, lngL_closed (by rw [grfL_jts, hr, Nat.zero_mul])]
          omega
        · rw [h2 hr]
          omega
  rw [go l ih h]
  omega
theorem grf_sht {p : T} (hp : p.jts ≠ 0) : ∀ t : T, t.jts ≠ 0 → (T.grf p t).sht = t.sht + p.sht := by
  refine T.ind' (fun _ => (Nat.zero_add _).symm) fun l ih h => ?_
  rw [grf_bas]
  show 1 + shtL (sortT (l.map (T.grf p))) = 1 + shtL l + p.sht
  rw [shtL_perm (sortT_perm _)]
  have go : ∀ l : List T, (∀ t ∈ l, t.jts ≠ 0 → (T.grf p t).sht = t.sht + p.sht) → jtsL l ≠ 0 → shtL (l.map (T.grf p)) = shtL l + p.sht := by
    intro l
    induction l with
    | nil => intro _ h; exact absurd rfl h
    | cons t r ihr =>
      intro h hl
      have hl2 : t.jts + jtsL r ≠ 0 := hl
      have h1 := h t List.mem_cons_self
      have h2 := ihr fun u hu => h u (List.mem_cons_of_mem _ hu)
      have e1 : (T.grf p t).jts = 0 ↔ t.jts = 0 := by rw [grf_jts]; exact mul_zero_iff hp
      have e2 : jtsL (r.map (T.grf p)) = 0 ↔ jtsL r = 0 := by rw [grfL_jts]; exact mul_zero_iff hp
      show ite ((T.grf p t).jts = 0) _ (ite (jtsL (r.map (T.grf p)) = 0) (T.grf p t).sht (min (T.grf p t).sht (shtL (r.map (T.grf p))))) = ite (t.jts = 0) (shtL r) (ite (jtsL r = 0) t.sht (min t.sht (shtL r))) + p.sht
      by_cases ht : t.jts = 0
      · rw [if_pos (e1.mpr ht), if_pos ht]
        exact h2 (by omega)
      · rw [if_neg (fun z => ht (e1.mp z)), if_neg ht, h1 ht]
        by_cases hr : jtsL r = 0
        · rw [if_pos (e2.mpr hr), if_pos hr]
        · rw [if_neg (fun z => hr (e2.mp z)), if_neg hr, h2 hr]
          omega
  rw [go l ih h]
  omega
theorem grf_size_le (p t : T) : t.size ≤ (T.grf p t).size := by
  have h := grf_size p t
  have h2 := size_pos p
  have h3 : t.jts * 1 ≤ t.jts * p.size := Nat.mul_le_mul_left _ h2
  omega
theorem grf_dep_le (p t : T) : t.dep ≤ (T.grf p t).dep := by
  rw [grf_dep]
  split <;> omega
def prodT : List T → T := List.foldl (fun f t => T.grf t f) .jet
theorem prod_snoc (l : List T) (t : T) : prodT (l ++ [t]) = T.grf t (prodT l) := by
  unfold prodT
  rw [List.foldl_append] <;> rfl
theorem fold_le : ∀ (r : List T) (f : T), f.size ≤ (r.foldl (fun f t => T.grf t f) f).size ∧ f.dep ≤ (r.foldl (fun f t => T.grf t f) f).dep
  | [], f => ⟨Nat.le_refl _, Nat.le_refl _⟩
  | t :: r, f => by
    obtain ⟨h1, h2⟩ := fold_le r (T.grf t f)
    exact ⟨Nat.le_trans (grf_size_le t f) h1, Nat.le_trans (grf_dep_le t f) h2⟩
theorem prod_take_le (l : List T) (i : Nat) : (prodT (l.take i)).size ≤ (prodT l).size ∧ (prodT (l.take i)).dep ≤ (prodT l).dep := by
  have e : prodT l = (l.drop i).foldl (fun f t => T.grf t f) (prodT (l.take i)) := by
    unfold prodT
    rw [← List.foldl_append, List.take_append_drop]
  rw [e]
  exact fold_le _ _
theorem prod_can {l : List T} (h : ∀ t ∈ l, Can t) : Can (prodT l) := by
  have go : ∀ (l : List T) (f : T), Can f → (∀ t ∈ l, Can t) → Can (l.foldl (fun f t => T.grf t f) f) := by
    intro l
    induction l with
    | nil => intro f hf _; exact hf
    | cons t r ih => intro f hf hl; exact ih _ (grf_can (hl t List.mem_cons_self) f) fun u hu => hl u (List.mem_cons_of_mem _ hu)
  exact go l .jet trivial h
theorem prod_two (a b : T) : prodT [a, b] = T.grf b a := rfl
end JW
namespace JW
open PySem PySem.Spec PyProof.Rows L2
theorem rep_cps (c : Nat) : ∀ (n : Nat) (a : Array Nat), (List.replicate n #[c]).foldl (· ++ ·) a = a ++ (List.replicate n c).toArray
  | 0, a => by simp
  | n + 1, a => by
    rw [List.replicate_succ, List.foldl_cons, rep_cps c n, List.replicate_succ]
    apply Array.ext'
    simp
def rRepS : R2 := fun x y H Q => ∃ (c n : Nat), x = .str (SX.S [c]) ∧ y = .int n ∧ 1 ≤ n ∧ n ≤ 100000 ∧ Q (.str (SX.S (List.replicate n c))) H
theorem op_rep_str {X : Cx} : OpR X (binaryOp .Mult) rRepS := by
  intro pins s σ H x y v u Q I rx ry h
  obtain ⟨c, n, rfl, rfl, h1, h2, q⟩ := h
  obtain ⟨t, rfl⟩ := rx
  obtain ⟨t2, rfl⟩ := ry
  have hl1 : (SX.S [c]).length = 1 := rfl
  refine PySem.P.mul_str (by rw [decide_eq_false (by omega), decide_eq_false (by omega)]; rfl) (fun _ _ => ?_) (fun _ _ => ?_) ?_
  · rw [hl1]
    have h3 : (1 : Int) ≤ (2 ^ 63 - 1) / (n : Int) := by
      rw [Int.le_ediv_iff_mul_le (by omega)]
      omega
    show ¬ (((1 : Nat) : Int) > _)
    omega
  · rw [hl1]
    exact decide_eq_false (show ¬ (1 * ((n : Nat) : Int).toNat > sizeLine) by rw [sizeLine_eq]; omega)
  · rw [if_neg (by omega)]
    by_cases e : n = 1
    · subst e
      rw [if_pos (show (((1 : Nat) : Int) == 1 || (SX.S [c]).length == 0) = true from rfl)]
      exact ⟨.str (SX.S [c]), H, I, ⟨t, rfl⟩, q⟩
    · rw [if_neg (by rw [hl1]; simp; omega)]
      have e2 : (⟨(List.replicate ((n : Nat) : Int).toNat (SX.S [c]).cps).foldl (· ++ ·) #[]⟩ : Str) = SX.S (List.replicate n c) := by
        show (⟨(List.replicate n #[c]).foldl (· ++ ·) #[]⟩ : Str) = ⟨(List.replicate n c).toArray⟩
        rw [rep_cps]
        simp
      rw [e2]
      exact ⟨by rw [SX.S_len, List.length_replicate, sizeLine_eq]; omega, .str (SX.S (List.replicate n c)), H, I.tok _, ⟨_, rfl⟩, q⟩
end JW
namespace JW
open PySem PySem.Spec PyProof.Rows L2 LamX
def ExtF (d : Addr) (H H' : Hp) : Prop := ∀ b o, b ≠ d → H b = some o → (∀ ps, o ≠ .tbl ps) → H' b = some o
section
variable {d : Addr} {H H1 H' : Hp} {C : Addr}
theorem ExtF.refl (d : Addr) (H : Hp) : ExtF d H H := fun _ _ _ h _ => h
theorem ExtF.trans (a : ExtF d H H1) (b : ExtF d H1 H') : ExtF d H H' := fun c o h1 h n => b c o h1 (a c o h1 h n) n
theorem FeedAt.extN (h : FeedAt H d) (e : ExtN H H') : FeedAt H' d := by
  obtain ⟨a, b, c, z⟩ := h
  exact ⟨a, b, c, e _ _ z fun ps q => by cases q⟩
theorem ExtF.mine {H0 : Hp} (a : L2.Same H0 H) (hd : H0 d = none) (b : ExtF d H H') : ExtN H0 H' := fun c o h n => b c o (ne_of_none h hd) (a c o h) n
mutual
theorem ftn_extF (f : FeedAt H d) (s : ExtF d H H') : ∀ (t : T) (v : V), Ftn C H t v → Ftn C H' t v
  | .jet, v, h => by
    have h2 : ∃ a dx b n, v = .ref a ∧ H a = some (.ins C dx (flds .jet b n)) ∧ H b = some (.tup []) ∧ H n = some (.tup (nums .jet)) := h
    obtain ⟨a, dx, b, n, ev, h1, h2, h3⟩ := h2
    obtain ⟨x, y, z, e⟩ := f
    exact ⟨a, dx, b, n, ev, s _ _ (ne_of h1 e fun z => by cases z) h1 (fun ps z => by cases z), s _ _ (ne_of h2 e fun z => by cases z) h2 (fun ps z => by cases z), s _ _ (ne_of h3 e fun z => by cases z) h3 (fun ps z => by cases z)⟩
  | .bas l, v, h => by
    have h2 : ∃ a dx b n vs, v = .ref a ∧ H a = some (.ins C dx (flds (.bas l) b n)) ∧ H b = some (.tup vs) ∧ H n = some (.tup (nums (.bas l))) ∧ FtnL C H l vs := h
    obtain ⟨a, dx, b, n, vs, ev, h1, h2, h3, h4⟩ := h2
    have h4' := ftnL_extF f s l vs h4
    obtain ⟨x, y, z, e⟩ := f
    exact ⟨a, dx, b, n, vs, ev, s _ _ (ne_of h1 e fun z => by cases z) h1 (fun ps z => by cases z), s _ _ (ne_of h2 e fun z => by cases z) h2 (fun ps z => by cases z), s _ _ (ne_of h3 e fun z => by cases z) h3 (fun ps z => by cases z), h4'⟩
theorem ftnL_extF (f : FeedAt H d) (s : ExtF d H H') : ∀ (l : List T) (vs : List V), FtnL C H l vs → FtnL C H' l vs
  | [], vs, h => h
  | t :: ts, vs, h => by
    have h2 : ∃ v r, vs = v :: r ∧ Ftn C H t v ∧ FtnL C H ts r := h
    obtain ⟨v, r, ev, h1, h2⟩ := h2
    exact ⟨v, r, ev, ftn_extF f s t v h1, ftnL_extF f s ts r h2⟩
end
theorem Ftn.fx {t : T} {v : V} (h : Ftn C H t v) (f : FeedAt H d) (s : ExtF d H H') : Ftn C H' t v := ftn_extF f s t v h
theorem own_of {K : PySem.W.Frag} {sp : Sp} {E : XK} {x y : V} {Q : VK} {t b : T} (hx : Ftn (cF K) H t x) (hy : Ftn (cF K) H b y) (h : sp [x, y] H (fun v H' => v ≠ .non ∧ Q v H') E) : rOwn (cF K) sp E x y H Q := by
  obtain ⟨a, da, b1, n, vs, rfl, h1, _⟩ := ftn_iff.mp hx
  obtain ⟨b, db, b2, m, ws, rfl, h2, _⟩ := ftn_iff.mp hy
  exact ⟨a, da, _, b, db, _, rfl, rfl, h1, h2, h⟩
end
end JW
namespace JW
open PySem PySem.Spec PyProof.Rows L2 He
def asE (g : Addr → Option Obj) (n : Nat) : List Addr := asD g n ++ [PySem.cStatics]
structure FxD where
  adr : PySem.W.Frag → Addr
  name : Str
  qual : Str
  params : Arguments
  body : List Stmt
  scope : Scope
def FxD.val (d : FxD) : FnW := some (d.name, d.qual, d.params, .stmts d.body, d.scope, mainGlobals, [], builtinsNs)
def FxD.okF (K : PySem.W.Frag) (d : FxD) : Bool := PySem.W.keepIn K (.ref (d.adr K)) && (match K.lookup (d.adr K) with
  | some ⟨_, _, .func fd, _⟩ => PySem.W.codeIn K fd.code d.qual && (dflB K fd.defaults [] && kwdB K fd.kwdefaults [])
  | _ => false)
theorem FxD.funD {K : PySem.W.Frag} {d : FxD} (e : fnWa K (d.adr K) = d.val) (c : d.okF K = true) : ∃ fd, FunD K d.name d.qual d.params d.body d.scope [] [] (d.adr K) fd := by
  obtain ⟨kp, c2⟩ := ba c
  unfold fnWa at e
  cases q : K.lookup (d.adr K) with
  | none =>
    rw [q] at c2
    cases c2
  | some o =>
    obtain ⟨oc, od, dt, osl⟩ := o
    rw [q] at c2 e
    cases dt with
    | func fd =>
      obtain ⟨m1, m2, m3, m4, m5, m6, m7, m8, m9, m10, m11, m12, m13, m14, m15⟩ := fd
      have e2 : (some (m1, m2, m3, m4, m5, m6, m7, m15) : FnW) = some (d.name, d.qual, d.params, .stmts d.body, d.scope, mainGlobals, [], builtinsNs) := e
      simp only [Option.some.injEq, Prod.mk.injEq] at e2
      obtain ⟨h1, h2, h3, h4, h5, h6, h7, h8⟩ := e2
      subst h1 h2 h3 h4 h5 h6 h7 h8
      have c3 : (PySem.W.codeIn K m13 d.qual && (dflB K m8 [] && kwdB K m9 [])) = true := c2
      obtain ⟨k1, k2⟩ := ba c3
      obtain ⟨k3, k4⟩ := ba k2
      exact ⟨_, ⟨oc, od, m8, m9, m10, m11, m12, m13, m14, osl, rfl, q, k1, dflB_ok k3, kwdB_ok k4⟩, kp⟩
    | _ => cases c2
def propB (K : PySem.W.Frag) (p : Str × Str) : Bool := PrD.okP K ⟨p, "", "", defArgs (.Pass ⟨0, 0, 0, 0⟩), [], defScope (.Pass ⟨0, 0, 0, 0⟩)⟩
theorem propB_ok {K : PySem.W.Frag} {p : Str × Str} (h : propB K p = true) : PropOf K (ga K p.1) p.2 (ma K (ga K p.1) p.2) (gAd K p) := PrD.propOf (d := ⟨p, "", "", defArgs (.Pass ⟨0, 0, 0, 0⟩), [], defScope (.Pass ⟨0, 0, 0, 0⟩)⟩) h
def cmAd (K : PySem.W.Frag) (p : Str × Str) : Addr := match PySem.W.findCls K (.ref (ga K p.1)) (.type "type") p.2 with
  | some (.get _ (.ref q) _ _) => q
  | _ => 0
def cgAd (K : PySem.W.Frag) (p : Str × Str) : Addr := match PySem.W.recIn K (cmAd K p) "classmethod" with
  | some (.ref g :: _) => g
  | _ => 0
def readB (K : PySem.W.Frag) (C : Addr) : Bool := PySem.W.readsIn K C (.type "type") && eqO (PySem.W.specialIn K (.ref C) "__getattribute__") (some (some (.builtin "type.__getattribute__")))
theorem readB_ok {K : PySem.W.Frag} {C : Addr} (h : readB K C = true) : ClX.CRead K C (.type "type") := by
  obtain ⟨h1, h2⟩ := ba h
  exact ⟨h1, eqO_ok h2⟩
def cmB (K : PySem.W.Frag) (p : Str × Str) : Bool := readB K (ga K p.1) && ((match PySem.W.findCls K (.ref (ga K p.1)) (.type "type") p.2 with
  | some (.get (.builtin i) (.ref _) .none (.ref c)) => decide (i = "classmethod.__get__") && decide (c = ga K p.1)
  | _ => false) && ((match PySem.W.recIn K (cmAd K p) "classmethod" with
  | some (.ref _ :: _) => true
  | _ => false) && PySem.W.fnIn K (cgAd K p)))
theorem cmB_ok {K : PySem.W.Frag} {p : Str × Str} (h : cmB K p = true) : ClX.CRead K (ga K p.1) (.type "type") ∧ ClX.CMet K (ga K p.1) (.type "type") p.2 (cmAd K p) (cgAd K p) := by
  obtain ⟨h1, h⟩ := ba h
  obtain ⟨h2, h⟩ := ba h
  obtain ⟨h3, h4⟩ := ba h
  refine ⟨readB_ok h1, ?_, ?_, h4⟩
  · unfold cmAd
    generalize PySem.W.findCls K (.ref (ga K p.1)) (.type "type") p.2 = r at h2 ⊢
    cases r with
    | none => cases h2
    | some f =>
      cases f with
      | val v => cases h2
      | get g a o t =>
        cases g with
        | builtin i =>
          cases a with
          | ref q =>
            cases o with
            | none =>
              cases t with
              | ref c =>
                obtain ⟨z1, z2⟩ := ba (show (decide (i = "classmethod.__get__") && decide (c = ga K p.1)) = true from h2)
                rw [of_decide_eq_true z1, of_decide_eq_true z2]
              | _ => cases h2
            | _ => cases h2
          | _ => cases h2
        | _ => cases h2
  · unfold cgAd
    generalize PySem.W.recIn K (cmAd K p) "classmethod" = r at h3 ⊢
    cases r with
    | none => cases h3
    | some l =>
      cases l with
      | nil => cases h3
      | cons v rest =>
        cases v with
        | ref g => exact ⟨rest, rfl⟩
        | _ => cases h3
def oexB (K : PySem.W.Frag) (C : Addr) : Bool := (match K.lookup C with
  | some ⟨.type t, _, .cls cd, sl⟩ => decide (t = "type") && (match cd.mro, sl.toList with
    | .ref c :: bm, [_, _, _, _, some (.builtin n), _] => decide (c = C) && (decide (n = "ValueError.__new__") && (!cd.hasDel && (cd.hasDict && PySem.HandSPX.refsVE bm)))
    | _, _ => false)
  | _ => false) && (eqO (PySem.W.findIn K (.ref C) "__setattr__") (some (some (.builtin "object.__setattr__"))) && (decide (PySem.W.subIn K (.ref C) (.type "BaseException") = some true) && (decide (PySem.W.typeIn K (.ref C) = some (.type "type")) && PySem.W.keepIn K (.ref C))))
theorem oexB_ok {K : PySem.W.Frag} {C : Addr} (h : oexB K C = true) : OexC K C := by
  obtain ⟨h1, h⟩ := ba h
  obtain ⟨h2, h⟩ := ba h
  obtain ⟨h3, h⟩ := ba h
  obtain ⟨h4, h5⟩ := ba h
  refine ⟨?_, eqO_ok h2, of_decide_eq_true h3, of_decide_eq_true h4, h5⟩
  cases q : K.lookup C with
  | none =>
    rw [q] at h1
    cases h1
  | some o =>
    obtain ⟨oc, od, dt, sl⟩ := o
    rw [q] at h1
    cases oc with
    | type t =>
      cases dt with
      | cls cd =>
        obtain ⟨z1, z2⟩ := ba h1
        obtain ⟨nm, bs, mro, ns, qn, hd, sn, sub, ab, col, del⟩ := cd
        dsimp only at z2
        cases mro with
        | nil => cases z2
        | cons v bm =>
          cases v with
          | ref c =>
            obtain ⟨sl⟩ := sl
            match sl, z2 with
            | [k0, k1, k2, k3, some (.builtin n), k5], z2 =>
              obtain ⟨y1, y⟩ := ba (show (decide (c = C) && (decide (n = "ValueError.__new__") && (!del && (hd && PySem.HandSPX.refsVE bm)))) = true from z2)
              obtain ⟨y2, y⟩ := ba y
              obtain ⟨y3, y⟩ := ba y
              obtain ⟨y4, y5⟩ := ba y
              have ec := of_decide_eq_true y1
              have en := of_decide_eq_true y2
              have ed : del = false := by simpa using y3
              have et := of_decide_eq_true z1
              subst ec en ed et y4
              exact ⟨nm, qn, ns, bs, bm, sn, sub, ab, col, od, k0, k1, k2, k3, k5, rfl, y5⟩
          | _ => cases z2
      | _ => cases h1
    | _ => cases h1
def excB (K : PySem.W.Frag) (D : Addr) : Bool := eqO (PySem.W.findIn K (.ref D) "__getattribute__") (some (some (.builtin "BaseException.__getattribute__"))) && (eqO (PySem.W.findIn K (.ref D) "__getattr__") (some none) &&
  (decide (PySem.W.subIn K (.ref D) (.type "BaseException") = some true) && (PySem.W.hasDictIn K D && (eqO (PySem.W.findIn K (.ref D) "__class__") (some (some (.builtin "object.__class__"))) &&
  (eqO (PySem.W.specialIn K (.builtin "object.__class__") "__get__") (some (some (.builtin "getset_descriptor.__get__"))) && (decide (PySem.W.takesIn K (.builtin "object.__class__") = some true) && decide (PySem.W.mroIn K D (.type "object") = some true)))))))
theorem excB_ok {K : PySem.W.Frag} {D : Addr} (h : excB K D = true) : ExcC K D := by
  obtain ⟨h1, h⟩ := ba h
  obtain ⟨h2, h⟩ := ba h
  obtain ⟨h3, h⟩ := ba h
  obtain ⟨h4, h⟩ := ba h
  obtain ⟨h5, h⟩ := ba h
  obtain ⟨h6, h⟩ := ba h
  obtain ⟨h7, h8⟩ := ba h
  exact ⟨eqO_ok h1, eqO_ok h2, of_decide_eq_true h3, h4, eqO_ok h5, eqO_ok h6, of_decide_eq_true h7, of_decide_eq_true h8⟩
def errB (K : PySem.W.Frag) (x : Str) : Bool := oexB K (ga K x) && (xfB K (ga K x) && (excB K (ga K x) && (eqO (PySem.W.findIn K (.ref (ga K x)) "__init__") (some (some (.ref (ma K (ga K x) "__init__")))) && decide (PySem.W.typeIn K (.ref (ma K (ga K x) "__init__")) = some (.type "function")))))
theorem errB_ok {K : PySem.W.Frag} {x : Str} (h : errB K x = true) : ErrC K (ga K x) ∧ PySem.W.findIn K (.ref (ga K x)) "__init__" = some (some (.ref (ma K (ga K x) "__init__"))) ∧ PySem.W.typeIn K (.ref (ma K (ga K x) "__init__")) = some (.type "function") := by
  obtain ⟨h1, h⟩ := ba h
  obtain ⟨h2, h⟩ := ba h
  obtain ⟨h3, h⟩ := ba h
  obtain ⟨h4, h5⟩ := ba h
  exact ⟨⟨oexB_ok h1, xfB_ok h2, excB_ok h3⟩, eqO_ok h4, of_decide_eq_true h5⟩
def baseB (K : PySem.W.Frag) (x : Str) : Bool := readB K (ga K x) && (match PySem.W.findCls K (.ref (ga K x)) (.type "type") "__init__" with
  | some (.val (.builtin i)) => decide (i = "ValueError.__init__")
  | _ => false)
theorem baseB_ok {K : PySem.W.Frag} {x : Str} (h : baseB K x = true) : InitBy K (ga K x) := by
  obtain ⟨h1, h2⟩ := ba h
  refine ⟨.type "type", readB_ok h1, ?_⟩
  generalize PySem.W.findCls K (.ref (ga K x)) (.type "type") "__init__" = r at h2 ⊢
  cases r with
  | none => cases h2
  | some f =>
    cases f with
    | get g a o t => cases h2
    | val v =>
      cases v with
      | builtin i => rw [of_decide_eq_true h2]
      | _ => cases h2
def kitB (K : PySem.W.Frag) (q : Str × Str × Bool) : Bool := decide (PySem.W.kitOne K (.ref (ga K q.1)) (.ref (ga K q.2.1)) = some q.2.2)
def exmB (K : PySem.W.Frag) (q : Str × Str × Bool) : Bool := decide (PySem.W.exmOne K (.ref (ga K q.1)) (.ref (ga K q.2.1)) = some q.2.2)
structure SaysE (fa : List Fa) (fn : List DefD) (tf : List Defn) (ex : PySem.W.Frag → Bool) (fx : List FxD) (h : Heap) (K : PySem.W.Frag) : Prop where
  d : SaysD fa fn K
  more : ex K = true
  hd : ∀ p ∈ tf, PySem.W.codeHdIn K (cT K p).1 (cT K p).2 = true
  out : ∀ p ∈ tf, K.lookup (cT K p).2 = none
  empty : ∀ p ∈ tf, h.get? (cT K p).2 = some { cls := .none, data := .fields #[] }
  p : fx.map (fun d => fnWa K (d.adr K)) = fx.map FxD.val
  ok : (fx.all fun d => d.okF K) = true
abbrev AlE : Type := AlD × Bool × List FnW × Bool
def obsE' (fa : List Fa) (fn : List DefD) (tf : List Defn) (ex : PySem.W.Frag → Bool) (fx : List FxD) (g : Addr → Option Obj) (K : PySem.W.Frag) : AlE :=
  (obsD fa fn K, ex K && tabsB g tf K, fx.map (fun d => fnWa K (d.adr K)), fx.all fun d => d.okF K)
def obsE (n : Nat) (fa : List Fa) (fn : List DefD) (tf : List Defn) (ex : PySem.W.Frag → Bool) (fx : List FxD) (g : Addr → Option Obj) : AlE := obsE' fa fn tf ex fx g (frT g (asE g n))
def valE (fn : List DefD) (fx : List FxD) : AlE := (valD fn, true, fx.map FxD.val, true)
theorem saysE_of {n : Nat} {fa : List Fa} {fn : List DefD} {tf : List Defn} {ex : PySem.W.Frag → Bool} {fx : List FxD} {h : Heap} (e : obsE n fa fn tf ex fx h.get? = valE fn fx) : SaysE fa fn tf ex fx h (frT h.get? (asE h.get? n)) := by
  unfold obsE at e
  have z1 := congrArg (fun z : AlE => z.1) e
  have z2 := congrArg (fun z : AlE => z.2.1) e
  have z3 := congrArg (fun z : AlE => z.2.2.1) e
  have z4 := congrArg (fun z : AlE => z.2.2.2) e
  have inK : ∀ {a : Addr} {o : Obj}, h.get? a = some o → emptyTab o = true → (frT h.get? (asE h.get? n)).lookup a = none := fun q z => frT_none q z
  generalize frT h.get? (asE h.get? n) = K at z1 z2 z3 z4 inK ⊢
  obtain ⟨y1, y2⟩ := ba (show (ex K && tabsB h.get? tf K) = true from z2)
  have key : ∀ p ∈ tf, PySem.W.codeHdIn K (cT K p).1 (cT K p).2 = true ∧ ∃ o, h.get? (cT K p).2 = some o ∧ emptyTab o = true := fun p hp => by
    obtain ⟨w1, w2⟩ := ba (List.all_eq_true.mp y2 p hp)
    refine ⟨w1, ?_⟩
    cases q : h.get? (cT K p).2 with
    | none =>
      rw [q] at w2
      cases w2
    | some o =>
      rw [q] at w2
      exact ⟨o, rfl, w2⟩
  refine ⟨z1, y1, fun p hp => (key p hp).1, fun p hp => ?_, fun p hp => ?_, z3, z4⟩
  · obtain ⟨_, o, q, z⟩ := key p hp
    exact inK q z
  · obtain ⟨_, o, q, z⟩ := key p hp
    rw [q, emptyTab_eq z]
def hookE (n : Nat) (fa : List Fa) (fn : List DefD) (tf : List Defn) (ex : PySem.W.Frag → Bool) (fx : List FxD) : PySem.W.Hook where
  α := AlE
  obs := fun s => obsE n fa fn tf ex fx s.heap.get?
  val := fun _ => valE fn fx
  says := fun _ h => ∃ K : PySem.W.Frag, K.In h ∧ SaysE fa fn tf ex fx h K
  of := fun _ _ e => ⟨_, frT_in, saysE_of e⟩
  keeps := fun _ _ _ ⟨K, hK, c⟩ k => ⟨K, PySem.W.Frag.In.keeps hK k, ⟨c.d, c.more, c.hd, c.out, fun p hp => k _ _ (c.empty p hp), c.p, c.ok⟩⟩
theorem obsE_eq {n : Nat} {fa : List Fa} {fn : List DefD} {tf : List Defn} {ex : PySem.W.Frag → Bool} {fx : List FxD} {g : Addr → Option Obj} {s : Shared} (h : ∀ a, g a = s.heap.get? a) : obsE n fa fn tf ex fx g = (hookE n fa fn tf ex fx).obs s := by
  have e : g = s.heap.get? := funext h
  rw [e] <;> rfl
section
variable {fa : List Fa} {fn : List DefD} {tf : List Defn} {ex : PySem.W.Frag → Bool} {fx : List FxD} {h : Heap} {K : PySem.W.Frag}
theorem SaysE.fxAt (c : SaysE fa fn tf ex fx h K) (i : Nat) {d : FxD} (hi : fx[i]? = some d) : ∃ fd, FunD K d.name d.qual d.params d.body d.scope [] [] (d.adr K) fd := by
  refine FxD.funD ?_ (List.all_eq_true.mp c.ok d (List.mem_of_getElem? hi))
  have e2 : (fx.map fun d => fnWa K (d.adr K))[i]? = (fx.map FxD.val)[i]? := by rw [c.p]
  rw [List.getElem?_map, List.getElem?_map, hi] at e2
  exact Option.some.inj e2
theorem all_at {α : Type} {l : List α} {f : α → Bool} (h : l.all f = true) (i : Nat) {a : α} (hi : l[i]? = some a) : f a = true := List.all_eq_true.mp h a (List.mem_of_getElem? hi)
end
end JW
namespace AL
end AL
namespace JW
open PySem PySem.Spec PyProof.Rows L2 AL
def top (i : Nat) : Stmt := PySem.Challenge.pw_jetworks_k68_whole_sums_divided_and_fact.main.body.getD i (.Pass ⟨0, 0, 0, 0⟩)
abbrev s_NoBasin___init__ : Stmt := inClass (top 4) 0
theorem sc_NoBasin___init__ : FnScope ["self"] ["self"] (defScope s_NoBasin___init__) := ⟨rfl, rfl, rfl, by decide +kernel, rfl, by decide +kernel, by decide +kernel⟩
abbrev s_Closed___init__ : Stmt := inClass (top 7) 0
abbrev s_TooLarge___init__ : Stmt := inClass (top 8) 0
theorem sc_TooLarge___init__ : FnScope ["self", "pieces"] ["self", "pieces"] (defScope s_TooLarge___init__) := ⟨rfl, rfl, rfl, by decide +kernel, rfl, by decide +kernel, by decide +kernel⟩
abbrev s_TooDeep___init__ : Stmt := inClass (top 9) 0
theorem sc_TooDeep___init__ : FnScope ["self", "basins"] ["self", "basins"] (defScope s_TooDeep___init__) := ⟨rfl, rfl, rfl, by decide +kernel, rfl, by decide +kernel, by decide +kernel⟩
abbrev s_NoDifference___init__ : Stmt := inClass (top 11) 0
theorem sc_NoDifference___init__ : FnScope ["self", "branch"] ["self", "branch"] (defScope s_NoDifference___init__) := ⟨rfl, rfl, rfl, by decide +kernel, rfl, by decide +kernel, by decide +kernel⟩
abbrev s_check_numbers : Stmt := top 17
theorem sc_check_numbers : FnScope ["numbers"] ["numbers"] (defScope s_check_numbers) := ⟨rfl, rfl, rfl, by decide +kernel, rfl, by decide +kernel, by decide +kernel⟩
abbrev s_basin_numbers : Stmt := top 18
theorem sc_basin_numbers : FnScope ["branches", "size", "jets", "depth", "opened", "longest", "branch"] ["branches"] (defScope s_basin_numbers) := ⟨rfl, rfl, rfl, by decide +kernel, rfl, by decide +kernel, by decide +kernel⟩
abbrev s_product_numbers : Stmt := top 19
theorem sc_product_numbers : FnScope ["one", "other", "depth", "size", "jets"] ["one", "other"] (defScope s_product_numbers) := ⟨rfl, rfl, rfl, by decide +kernel, rfl, by decide +kernel, by decide +kernel⟩
abbrev s_parsed : Stmt := top 20
theorem sc_parsed : FnScope ["text", "pending", "found", "is_complete", "at", "sign", "part"] ["text"] (defScope s_parsed) := ⟨rfl, rfl, rfl, by decide +kernel, rfl, by decide +kernel, by decide +kernel⟩
abbrev s_made : Stmt := top 21
theorem sc_made : FnScope ["branches", "ordered", "branch"] ["branches"] (defScope s_made) := ⟨rfl, rfl, rfl, by decide +kernel, rfl, by decide +kernel, by decide +kernel⟩
abbrev s_allowed : Stmt := top 22
theorem sc_allowed : FnScope ["fountain"] ["fountain"] (defScope s_allowed) := ⟨rfl, rfl, rfl, by decide +kernel, rfl, by decide +kernel, by decide +kernel⟩
abbrev s_grafted : Stmt := top 23
theorem sc_grafted : FnScope ["fountain", "part", "branch"] ["fountain", "part"] (defScope s_grafted) := ⟨rfl, rfl, rfl, by decide +kernel, rfl, by decide +kernel, by decide +kernel⟩
abbrev s_cut : Stmt := top 24
theorem sc_cut : FnScope ["fountain", "part", "branch"] ["fountain", "part"] (defScope s_cut) := ⟨rfl, rfl, rfl, by decide +kernel, rfl, by decide +kernel, by decide +kernel⟩
abbrev s_bare_place : Stmt := top 25
theorem sc_bare_place : FnScope ["fountain", "part", "path", "index", "branch", "found"] ["fountain", "part", "path"] (defScope s_bare_place) := ⟨rfl, rfl, rfl, by decide +kernel, rfl, by decide +kernel, by decide +kernel⟩
abbrev s_carries : Stmt := top 26
abbrev s_multiplied : Stmt := top 28
theorem sc_multiplied : FnScope ["factors", "numbers", "factor", "found"] ["factors"] (defScope s_multiplied) := ⟨rfl, rfl, rfl, by decide +kernel, rfl, by decide +kernel, by decide +kernel⟩
abbrev s_Fountain___init__ : Stmt := inClass (top 29) 0
theorem sc_Fountain___init__ : FnScope ["self", "text", "branches", "is_read"] ["self", "text", "branches"] (defScope s_Fountain___init__) := ⟨rfl, rfl, rfl, by decide +kernel, rfl, by decide +kernel, by decide +kernel⟩
abbrev s_Fountain_basin : Stmt := inClass (top 29) 1
abbrev s_Fountain_spray : Stmt := inClass (top 29) 2
abbrev s_Fountain_product : Stmt := inClass (top 29) 3
theorem sc_Fountain_product : FnScope ["cls", "parts"] ["cls", "parts"] (defScope s_Fountain_product) := ⟨rfl, rfl, rfl, by decide +kernel, rfl, by decide +kernel, by decide +kernel⟩
abbrev s_Fountain_text : Stmt := inClass (top 29) 4
theorem sc_Fountain_text : FnScope ["self"] ["self"] (defScope s_Fountain_text) := ⟨rfl, rfl, rfl, by decide +kernel, rfl, by decide +kernel, by decide +kernel⟩
abbrev s_Fountain_parts : Stmt := inClass (top 29) 5
theorem sc_Fountain_parts : FnScope ["self"] ["self"] (defScope s_Fountain_parts) := ⟨rfl, rfl, rfl, by decide +kernel, rfl, by decide +kernel, by decide +kernel⟩
abbrev s_Fountain_size : Stmt := inClass (top 29) 6
theorem sc_Fountain_size : FnScope ["self"] ["self"] (defScope s_Fountain_size) := ⟨rfl, rfl, rfl, by decide +kernel, rfl, by decide +kernel, by decide +kernel⟩
abbrev s_Fountain_jets : Stmt := inClass (top 29) 7
theorem sc_Fountain_jets : FnScope ["self"] ["self"] (defScope s_Fountain_jets) := ⟨rfl, rfl, rfl, by decide +kernel, rfl, by decide +kernel, by decide +kernel⟩
abbrev s_Fountain_depth : Stmt := inClass (top 29) 8
theorem sc_Fountain_depth : FnScope ["self"] ["self"] (defScope s_Fountain_depth) := ⟨rfl, rfl, rfl, by decide +kernel, rfl, by decide +kernel, by decide +kernel⟩
abbrev s_Fountain_longest : Stmt := inClass (top 29) 9
theorem sc_Fountain_longest : FnScope ["self"] ["self"] (defScope s_Fountain_longest) := ⟨rfl, rfl, rfl, by decide +kernel, rfl, by decide +kernel, by decide +kernel⟩
abbrev s_Fountain_shortest : Stmt := inClass (top 29) 10
theorem sc_Fountain_shortest : FnScope ["self"] ["self"] (defScope s_Fountain_shortest) := ⟨rfl, rfl, rfl, by decide +kernel, rfl, by decide +kernel, by decide +kernel⟩
abbrev s_Fountain_is_open : Stmt := inClass (top 29) 11
theorem sc_Fountain_is_open : FnScope ["self"] ["self"] (defScope s_Fountain_is_open) := ⟨rfl, rfl, rfl, by decide +kernel, rfl, by decide +kernel, by decide +kernel⟩
abbrev s_Fountain_is_jet : Stmt := inClass (top 29) 12
theorem sc_Fountain_is_jet : FnScope ["self"] ["self"] (defScope s_Fountain_is_jet) := ⟨rfl, rfl, rfl, by decide +kernel, rfl, by decide +kernel, by decide +kernel⟩
abbrev s_Fountain___eq__ : Stmt := inClass (top 29) 13
theorem sc_Fountain___eq__ : FnScope ["self", "other"] ["self", "other"] (defScope s_Fountain___eq__) := ⟨rfl, rfl, rfl, by decide +kernel, rfl, by decide +kernel, by decide +kernel⟩
abbrev s_Fountain___repr__ : Stmt := inClass (top 29) 14
abbrev s_Fountain___len__ : Stmt := inClass (top 29) 15
abbrev s_Fountain___getitem__ : Stmt := inClass (top 29) 17
abbrev s_Fountain___contains__ : Stmt := inClass (top 29) 18
abbrev s_Fountain___add__ : Stmt := inClass (top 29) 19
theorem sc_Fountain___add__ : FnScope ["self", "other"] ["self", "other"] (defScope s_Fountain___add__) := ⟨rfl, rfl, rfl, by decide +kernel, rfl, by decide +kernel, by decide +kernel⟩
abbrev s_Fountain___sub__ : Stmt := inClass (top 29) 20
theorem sc_Fountain___sub__ : FnScope ["self", "other", "left", "branch"] ["self", "other"] (defScope s_Fountain___sub__) := ⟨rfl, rfl, rfl, by decide +kernel, rfl, by decide +kernel, by decide +kernel⟩
abbrev s_Fountain___mul__ : Stmt := inClass (top 29) 21
theorem sc_Fountain___mul__ : FnScope ["self", "other"] ["self", "other"] (defScope s_Fountain___mul__) := ⟨rfl, rfl, rfl, by decide +kernel, rfl, by decide +kernel, by decide +kernel⟩
abbrev s_Fountain___floordiv__ : Stmt := inClass (top 29) 23
theorem sc_Fountain___floordiv__ : FnScope ["self", "other", "place"] ["self", "other"] (defScope s_Fountain___floordiv__) := ⟨rfl, rfl, rfl, by decide +kernel, rfl, by decide +kernel, by decide +kernel⟩
abbrev s_Fountain_at : Stmt := inClass (top 29) 24
abbrev s_Fountain_put : Stmt := inClass (top 29) 26
abbrev s_need_open : Stmt := top 31
theorem sc_need_open : FnScope ["fountains", "fountain"] ["fountains"] (defScope s_need_open) := ⟨rfl, rfl, rfl, by decide +kernel, rfl, by decide +kernel, by decide +kernel⟩
abbrev s_shared_tail : Stmt := top 32
theorem sc_shared_tail : FnScope ["words", "least", "count", "word"] ["words"] (defScope s_shared_tail) := ⟨rfl, rfl, rfl, by decide +kernel, rfl, by decide +kernel, by decide +kernel⟩
abbrev s_open_branches : Stmt := top 33
theorem sc_open_branches : FnScope ["fountain", "parts", "index", "part"] ["fountain"] (defScope s_open_branches) := ⟨rfl, rfl, rfl, by decide +kernel, rfl, by decide +kernel, by decide +kernel⟩
abbrev s_word_and_ends : Stmt := top 34
theorem sc_word_and_ends : FnScope ["fountain", "found", "ends", "tail", "branch", "word"] ["fountain"] (defScope s_word_and_ends) := ⟨rfl, rfl, rfl, by decide +kernel, rfl, by decide +kernel, by decide +kernel⟩
abbrev s_word_of : Stmt := top 35
theorem sc_word_of : FnScope ["fountain"] ["fountain"] (defScope s_word_of) := ⟨rfl, rfl, rfl, by decide +kernel, rfl, by decide +kernel, by decide +kernel⟩
abbrev s_factors : Stmt := top 36
theorem sc_factors : FnScope ["a"] ["a"] (defScope s_factors) := ⟨rfl, rfl, rfl, by decide +kernel, rfl, by decide +kernel, by decide +kernel⟩
abbrev s_is_prime : Stmt := top 37
theorem sc_is_prime : FnScope ["a"] ["a"] (defScope s_is_prime) := ⟨rfl, rfl, rfl, by decide +kernel, rfl, by decide +kernel, by decide +kernel⟩
abbrev s_common_end : Stmt := top 38
theorem sc_common_end : FnScope ["a", "b"] ["a", "b"] (defScope s_common_end) := ⟨rfl, rfl, rfl, by decide +kernel, rfl, by decide +kernel, by decide +kernel⟩
abbrev s__law_sack : Stmt := top 40
theorem sc__law_sack : FnScope ["_law_script", "_law_base", "_law_seed", "_law_cell", "_law_great"] ["_law_script", "_law_base"] (defScope s__law_sack) := ⟨rfl, rfl, rfl, by decide +kernel, rfl, by decide +kernel, by decide +kernel⟩
abbrev s__law_take : Stmt := top 41
theorem sc__law_take : FnScope ["_law_sack_here", "_law_many", "_law_digit", "_law_one"] ["_law_sack_here", "_law_many"] (defScope s__law_take) := ⟨rfl, rfl, rfl, by decide +kernel, rfl, by decide +kernel, by decide +kernel⟩
abbrev s__law_mixed : Stmt := top 42
theorem sc__law_mixed : FnScope ["_law_sack_here", "_law_some", "_law_left", "_law_found", "_law_turn"] ["_law_sack_here", "_law_some"] (defScope s__law_mixed) := ⟨rfl, rfl, rfl, by decide +kernel, rfl, by decide +kernel, by decide +kernel⟩
abbrev s__law_text : Stmt := top 43
theorem sc__law_text : FnScope ["_law_tree_here", "_law_branch"] ["_law_tree_here"] (defScope s__law_text) := ⟨rfl, rfl, rfl, by decide +kernel, rfl, by decide +kernel, by decide +kernel⟩
abbrev s__law_basin : Stmt := top 44
theorem sc__law_basin : FnScope ["_law_parts"] ["_law_parts"] (defScope s__law_basin) := ⟨rfl, rfl, rfl, by decide +kernel, rfl, by decide +kernel, by decide +kernel⟩
abbrev s__law_size : Stmt := top 45
theorem sc__law_size : FnScope ["_law_tree_here", "_law_branch"] ["_law_tree_here"] (defScope s__law_size) := ⟨rfl, rfl, rfl, by decide +kernel, rfl, by decide +kernel, by decide +kernel⟩
abbrev s__law_jets : Stmt := top 46
theorem sc__law_jets : FnScope ["_law_tree_here", "_law_branch"] ["_law_tree_here"] (defScope s__law_jets) := ⟨rfl, rfl, rfl, by decide +kernel, rfl, by decide +kernel, by decide +kernel⟩
abbrev s__law_tree : Stmt := top 47
theorem sc__law_tree : FnScope ["_law_sack_here", "_law_size_here", "_law_left", "_law_parts", "_law_form", "_law_many", "_law_part"] ["_law_sack_here", "_law_size_here"] (defScope s__law_tree) := ⟨rfl, rfl, rfl, by decide +kernel, rfl, by decide +kernel, by decide +kernel⟩
abbrev s__law_open : Stmt := top 48
theorem sc__law_open : FnScope ["_law_sack_here", "_law_size_here", "_law_tree_here"] ["_law_sack_here", "_law_size_here"] (defScope s__law_open) := ⟨rfl, rfl, rfl, by decide +kernel, rfl, by decide +kernel, by decide +kernel⟩
abbrev s__law_grafted : Stmt := top 49
theorem sc__law_grafted : FnScope ["_law_tree_here", "_law_part", "_law_branch"] ["_law_tree_here", "_law_part"] (defScope s__law_grafted) := ⟨rfl, rfl, rfl, by decide +kernel, rfl, by decide +kernel, by decide +kernel⟩
abbrev s__law_product : Stmt := top 50
theorem sc__law_product : FnScope ["_law_trees", "_law_found", "_law_tree_here"] ["_law_trees"] (defScope s__law_product) := ⟨rfl, rfl, rfl, by decide +kernel, rfl, by decide +kernel, by decide +kernel⟩
abbrev s__law_cut : Stmt := top 51
theorem sc__law_cut : FnScope ["_law_tree_here", "_law_part", "_law_branch"] ["_law_tree_here", "_law_part"] (defScope s__law_cut) := ⟨rfl, rfl, rfl, by decide +kernel, rfl, by decide +kernel, by decide +kernel⟩
abbrev s__law_bare : Stmt := top 52
theorem sc__law_bare : FnScope ["_law_tree_here", "_law_part", "_law_k", "_law_branch", "_law_found"] ["_law_tree_here", "_law_part"] (defScope s__law_bare) := ⟨rfl, rfl, rfl, by decide +kernel, rfl, by decide +kernel, by decide +kernel⟩
abbrev s__law_loose : Stmt := top 53
theorem sc__law_loose : FnScope ["_law_sack_here", "_law_tree_here", "_law_branch"] ["_law_sack_here", "_law_tree_here"] (defScope s__law_loose) := ⟨rfl, rfl, rfl, by decide +kernel, rfl, by decide +kernel, by decide +kernel⟩
abbrev s__law_made : Stmt := top 54
theorem sc__law_made : FnScope ["_law_sack_here", "_law_tree_here"] ["_law_sack_here", "_law_tree_here"] (defScope s__law_made) := ⟨rfl, rfl, rfl, by decide +kernel, rfl, by decide +kernel, by decide +kernel⟩
abbrev s__law_first_way : Stmt := top 55
theorem sc__law_first_way : FnScope ["_law_tree_here", "_law_found", "_law_branch"] ["_law_tree_here"] (defScope s__law_first_way) := ⟨rfl, rfl, rfl, by decide +kernel, rfl, by decide +kernel, by decide +kernel⟩
abbrev s__law_word : Stmt := top 56
theorem sc__law_word : FnScope ["_law_tree_here", "_law_found", "_law_ends", "_law_piece"] ["_law_tree_here"] (defScope s__law_word) := ⟨rfl, rfl, rfl, by decide +kernel, rfl, by decide +kernel, by decide +kernel⟩
abbrev s__law_primes : Stmt := top 57
theorem sc__law_primes : FnScope ["_law_sack_here", "_law_many", "_law_found", "_law_turn", "_law_tree_here"] ["_law_sack_here", "_law_many"] (defScope s__law_primes) := ⟨rfl, rfl, rfl, by decide +kernel, rfl, by decide +kernel, by decide +kernel⟩
abbrev s__law_fits : Stmt := top 58
theorem sc__law_fits : FnScope ["_law_word_here", "_law_pieces", "_law_tips", "_law_tree_here"] ["_law_word_here"] (defScope s__law_fits) := ⟨rfl, rfl, rfl, by decide +kernel, rfl, by decide +kernel, by decide +kernel⟩
abbrev s__law_some_word : Stmt := top 59
theorem sc__law_some_word : FnScope ["_law_sack_here", "_law_pool_here", "_law_many", "_law_found", "_law_turn", "_law_more"] ["_law_sack_here", "_law_pool_here", "_law_many"] (defScope s__law_some_word) := ⟨rfl, rfl, rfl, by decide +kernel, rfl, by decide +kernel, by decide +kernel⟩
abbrev s__law_pool : Stmt := top 60
theorem sc__law_pool : FnScope ["_law_sack_here"] ["_law_sack_here"] (defScope s__law_pool) := ⟨rfl, rfl, rfl, by decide +kernel, rfl, by decide +kernel, by decide +kernel⟩
abbrev s__law_shut : Stmt := top 61
theorem sc__law_shut : FnScope ["_law_sack_here"] ["_law_sack_here"] (defScope s__law_shut) := ⟨rfl, rfl, rfl, by decide +kernel, rfl, by decide +kernel, by decide +kernel⟩
abbrev s__law_end_of : Stmt := top 62
theorem sc__law_end_of : FnScope ["_law_a", "_law_found", "_law_branch"] ["_law_a"] (defScope s__law_end_of) := ⟨rfl, rfl, rfl, by decide +kernel, rfl, by decide +kernel, by decide +kernel⟩
abbrev s__law_drawn : Stmt := top 63
theorem sc__law_drawn : FnScope ["_law_sack_here", "_law_pool_here", "_law_end", "_law_branches", "_law_turn", "_law_word_here", "_law_branch"] ["_law_sack_here", "_law_pool_here", "_law_end"] (defScope s__law_drawn) := ⟨rfl, rfl, rfl, by decide +kernel, rfl, by decide +kernel, by decide +kernel⟩
abbrev s__law_basin_right : Stmt := top 64
theorem sc__law_basin_right : FnScope ["_law_a", "_law_end", "_law_first"] ["_law_a"] (defScope s__law_basin_right) := ⟨rfl, rfl, rfl, by decide +kernel, rfl, by decide +kernel, by decide +kernel⟩
abbrev s__law_sum_right : Stmt := top 65
theorem sc__law_sum_right : FnScope ["_law_a", "_law_b", "_law_shut_here", "_law_end"] ["_law_a", "_law_b", "_law_shut_here"] (defScope s__law_sum_right) := ⟨rfl, rfl, rfl, by decide +kernel, rfl, by decide +kernel, by decide +kernel⟩
abbrev s__law_many_right : Stmt := top 66
theorem sc__law_many_right : FnScope ["_law_sack_here", "_law_ends", "_law_branches", "_law_tree_here", "_law_a", "_law_k", "_law_end", "_law_prime"] ["_law_sack_here"] (defScope s__law_many_right) := ⟨rfl, rfl, rfl, by decide +kernel, rfl, by decide +kernel, by decide +kernel⟩
abbrev s_law : Stmt := top 67
theorem sc_law : FnScope ["_law_script", "_law_base", "_law_sack_here", "_law_pool_here", "_law_end", "_law_trees", "_law_a", "_law_b", "_law_c", "_law_shut_here", "_law_one", "_law_other", "_law_tree_here", "_law_prime"] ["_law_script"] (defScope s_law) := ⟨rfl, rfl, rfl, by decide +kernel, rfl, by decide +kernel, by decide +kernel⟩
open He
def dfn (x : Str) (m : Option Str) (nm q : Str) (s : Stmt) (dv : List Dv) (kw : List (Str × Dv)) : DefD := ⟨(x, m), nm, q, defArgs s, defBody s, defScope s, dv, kw⟩
def fn : List DefD := ([dfn "NoBasin" (some "__init__") "__init__" "NoBasin.__init__" s_NoBasin___init__ [] [], dfn "Closed" (some "__init__") "__init__" "Closed.__init__" s_Closed___init__ [] [], dfn "TooLarge" (some "__init__") "__init__" "TooLarge.__init__" s_TooLarge___init__ [] [], dfn "TooDeep" (some "__init__") "__init__" "TooDeep.__init__" s_TooDeep___init__ [] [], dfn "NoDifference" (some "__init__") "__init__" "NoDifference.__init__" s_NoDifference___init__ [] [], dfn "check_numbers" none "check_numbers" "check_numbers" s_check_numbers [] [], dfn "basin_numbers" none "basin_numbers" "basin_numbers" s_basin_numbers [] [], dfn "product_numbers" none "product_numbers" "product_numbers" s_product_numbers [] [], dfn "parsed" none "parsed" "parsed" s_parsed [] [], dfn "made" none "made" "made" s_made [] [], dfn "allowed" none "allowed" "allowed" s_allowed [] [], dfn "grafted" none "grafted" "grafted" s_grafted [] [], dfn "cut" none "cut" "cut" s_cut [] [], dfn "bare_place" none "bare_place" "bare_place" s_bare_place [] [], dfn "carries" none "carries" "carries" s_carries [] [], dfn "multiplied" none "multiplied" "multiplied" s_multiplied [] [], dfn "Fountain" (some "__init__") "__init__" "Fountain.__init__" s_Fountain___init__ [.non] [], dfn "Fountain" (some "__eq__") "__eq__" "Fountain.__eq__" s_Fountain___eq__ [] [], dfn "Fountain" (some "__repr__") "__repr__" "Fountain.__repr__" s_Fountain___repr__ [] [], dfn "Fountain" (some "__len__") "__len__" "Fountain.__len__" s_Fountain___len__ [] [], dfn "Fountain" (some "__getitem__") "__getitem__" "Fountain.__getitem__" s_Fountain___getitem__ [] [], dfn "Fountain" (some "__contains__") "__contains__" "Fountain.__contains__" s_Fountain___contains__ [] [], dfn "Fountain" (some "__add__") "__add__" "Fountain.__add__" s_Fountain___add__ [] [], dfn "Fountain" (some "__sub__") "__sub__" "Fountain.__sub__" s_Fountain___sub__ [] [], dfn "Fountain" (some "__mul__") "__mul__" "Fountain.__mul__" s_Fountain___mul__ [] [], dfn "Fountain" (some "__floordiv__") "__floordiv__" "Fountain.__floordiv__" s_Fountain___floordiv__ [] [], dfn "Fountain" (some "at") "at" "Fountain.at" s_Fountain_at [] [], dfn "Fountain" (some "put") "put" "Fountain.put" s_Fountain_put [] [], dfn "need_open" none "need_open" "need_open" s_need_open [] [], dfn "shared_tail" none "shared_tail" "shared_tail" s_shared_tail [] []] : List DefD) ++ ([dfn "open_branches" none "open_branches" "open_branches" s_open_branches [] [], dfn "word_and_ends" none "word_and_ends" "word_and_ends" s_word_and_ends [] [], dfn "word_of" none "word_of" "word_of" s_word_of [] [], dfn "factors" none "factors" "factors" s_factors [] [], dfn "is_prime" none "is_prime" "is_prime" s_is_prime [] [], dfn "common_end" none "common_end" "common_end" s_common_end [] [], dfn "_law_sack" none "_law_sack" "_law_sack" s__law_sack [] [], dfn "_law_take" none "_law_take" "_law_take" s__law_take [] [], dfn "_law_mixed" none "_law_mixed" "_law_mixed" s__law_mixed [] [], dfn "_law_text" none "_law_text" "_law_text" s__law_text [] [], dfn "_law_basin" none "_law_basin" "_law_basin" s__law_basin [] [], dfn "_law_size" none "_law_size" "_law_size" s__law_size [] [], dfn "_law_jets" none "_law_jets" "_law_jets" s__law_jets [] [], dfn "_law_tree" none "_law_tree" "_law_tree" s__law_tree [] [], dfn "_law_open" none "_law_open" "_law_open" s__law_open [] [], dfn "_law_grafted" none "_law_grafted" "_law_grafted" s__law_grafted [] [], dfn "_law_product" none "_law_product" "_law_product" s__law_product [] [], dfn "_law_cut" none "_law_cut" "_law_cut" s__law_cut [] [], dfn "_law_bare" none "_law_bare" "_law_bare" s__law_bare [] [], dfn "_law_loose" none "_law_loose" "_law_loose" s__law_loose [] [], dfn "_law_made" none "_law_made" "_law_made" s__law_made [] [], dfn "_law_first_way" none "_law_first_way" "_law_first_way" s__law_first_way [] [], dfn "_law_word" none "_law_word" "_law_word" s__law_word [] [], dfn "_law_primes" none "_law_primes" "_law_primes" s__law_primes [] [], dfn "_law_fits" none "_law_fits" "_law_fits" s__law_fits [] [], dfn "_law_some_word" none "_law_some_word" "_law_some_word" s__law_some_word [] [], dfn "_law_pool" none "_law_pool" "_law_pool" s__law_pool [] [], dfn "_law_shut" none "_law_shut" "_law_shut" s__law_shut [] [], dfn "_law_end_of" none "_law_end_of" "_law_end_of" s__law_end_of [] [], dfn "_law_drawn" none "_law_drawn" "_law_drawn" s__law_drawn [] []] : List DefD) ++ ([dfn "_law_basin_right" none "_law_basin_right" "_law_basin_right" s__law_basin_right [] [], dfn "_law_sum_right" none "_law_sum_right" "_law_sum_right" s__law_sum_right [] [], dfn "_law_many_right" none "_law_many_right" "_law_many_right" s__law_many_right [] [], dfn "law" none "law" "law" s_law [] []] : List DefD)
def fa : List Fa := ([.glo "Fountain", .cls "Fountain", .noat "Fountain" "written", .noat "Fountain" "branches", .noat "Fountain" "numbers", .int "MOST" 5000, .int "DEEPEST" 120, .str "JET_TEXT" "o", .glo "NoBasin", .glo "Closed", .glo "TooLarge", .noat "TooLarge" "pieces", .glo "TooDeep", .noat "TooDeep" "basins", .glo "NoDifference", .noat "NoDifference" "branch", .glo "check_numbers", .glo "basin_numbers", .glo "product_numbers", .glo "parsed", .glo "made", .glo "allowed", .glo "grafted", .glo "cut", .glo "bare_place", .glo "carries", .glo "multiplied", .mkr "Fountain", .meth "Fountain" "__eq__", .meth "Fountain" "__repr__"] : List Fa) ++ ([.meth "Fountain" "__len__", .meth "Fountain" "__getitem__", .meth "Fountain" "__contains__", .meth "Fountain" "__add__", .meth "Fountain" "__sub__", .meth "Fountain" "__mul__", .meth "Fountain" "__floordiv__", .meth "Fountain" "at", .meth "Fountain" "put", .glo "need_open", .glo "shared_tail", .glo "open_branches", .glo "word_and_ends", .glo "word_of", .glo "factors", .glo "is_prime", .glo "common_end", .glo "_law_sack", .glo "_law_take", .glo "_law_mixed", .glo "_law_text", .glo "_law_basin", .glo "_law_size", .glo "_law_jets", .glo "_law_tree", .glo "_law_open", .glo "_law_grafted", .glo "_law_product", .glo "_law_cut", .glo "_law_bare"] : List Fa) ++ ([.glo "_law_loose", .glo "_law_made", .glo "_law_first_way", .glo "_law_word", .glo "_law_primes", .glo "_law_fits", .glo "_law_some_word", .glo "_law_pool", .glo "_law_shut", .glo "_law_end_of", .glo "_law_drawn", .glo "_law_basin_right", .glo "_law_sum_right", .glo "_law_many_right", .glo "law", .glo "JetError", .glo "NoDivision", .free "NotImplemented", .free "TypeError", .free "abs", .free "all", .free "any", .free "enumerate", .free "int", .free "isinstance", .free "len", .free "list", .free "max", .free "min", .free "range"] : List Fa) ++ ([.free "sorted", .free "sum", .free "tuple"] : List Fa)
def tf : List Defn := ([("made", none)] : List Defn)
def fx : List FxD := ([⟨fun K => cgAd K ("Fountain", "basin"), "basin", "Fountain.basin", defArgs s_Fountain_basin, defBody s_Fountain_basin, defScope s_Fountain_basin⟩, ⟨fun K => cgAd K ("Fountain", "spray"), "spray", "Fountain.spray", defArgs s_Fountain_spray, defBody s_Fountain_spray, defScope s_Fountain_spray⟩, ⟨fun K => cgAd K ("Fountain", "product"), "product", "Fountain.product", defArgs s_Fountain_product, defBody s_Fountain_product, defScope s_Fountain_product⟩, ⟨fun K => gAd K ("Fountain", "text"), "text", "Fountain.text", defArgs s_Fountain_text, defBody s_Fountain_text, defScope s_Fountain_text⟩, ⟨fun K => gAd K ("Fountain", "parts"), "parts", "Fountain.parts", defArgs s_Fountain_parts, defBody s_Fountain_parts, defScope s_Fountain_parts⟩, ⟨fun K => gAd K ("Fountain", "size"), "size", "Fountain.size", defArgs s_Fountain_size, defBody s_Fountain_size, defScope s_Fountain_size⟩, ⟨fun K => gAd K ("Fountain", "jets"), "jets", "Fountain.jets", defArgs s_Fountain_jets, defBody s_Fountain_jets, defScope s_Fountain_jets⟩, ⟨fun K => gAd K ("Fountain", "depth"), "depth", "Fountain.depth", defArgs s_Fountain_depth, defBody s_Fountain_depth, defScope s_Fountain_depth⟩, ⟨fun K => gAd K ("Fountain", "longest"), "longest", "Fountain.longest", defArgs s_Fountain_longest, defBody s_Fountain_longest, defScope s_Fountain_longest⟩, ⟨fun K => gAd K ("Fountain", "shortest"), "shortest", "Fountain.shortest", defArgs s_Fountain_shortest, defBody s_Fountain_shortest, defScope s_Fountain_shortest⟩, ⟨fun K => gAd K ("Fountain", "is_open"), "is_open", "Fountain.is_open", defArgs s_Fountain_is_open, defBody s_Fountain_is_open, defScope s_Fountain_is_open⟩, ⟨fun K => gAd K ("Fountain", "is_jet"), "is_jet", "Fountain.is_jet", defArgs s_Fountain_is_jet, defBody s_Fountain_is_jet, defScope s_Fountain_is_jet⟩] : List FxD)
def prL : List (Str × Str) := ([("Fountain", "text"), ("Fountain", "parts"), ("Fountain", "size"), ("Fountain", "jets"), ("Fountain", "depth"), ("Fountain", "longest"), ("Fountain", "shortest"), ("Fountain", "is_open"), ("Fountain", "is_jet")] : List (Str × Str))
def cmL : List (Str × Str) := ([("Fountain", "basin"), ("Fountain", "spray"), ("Fountain", "product")] : List (Str × Str))
def erL : List Str := (["NoBasin", "Closed", "TooLarge", "TooDeep", "NoDifference"] : List Str)
def bsL : List Str := (["JetError", "NoDivision"] : List Str)
def ktL : List (Str × Str × Bool) := ([] : List (Str × Str × Bool))
def emL : List (Str × Str × Bool) := ([] : List (Str × Str × Bool))
def ex (K : PySem.W.Frag) : Bool := (clsX K "Fountain" && ((prL.all fun p => propB K p) && ((cmL.all fun p => cmB K p) && ((erL.all fun x => errB K x) && ((bsL.all fun x => baseB K x) && ((ktL.all fun q => kitB K q) && (emL.all fun q => exmB K q)))))))
theorem exs {K : PySem.W.Frag} {h : Heap} (c : SaysE fa fn tf ex fx h K) : clsX K "Fountain" = true ∧ (prL.all fun p => propB K p) = true ∧ (cmL.all fun p => cmB K p) = true ∧ (erL.all fun x => errB K x) = true ∧ (bsL.all fun x => baseB K x) = true ∧ (ktL.all fun q => kitB K q) = true ∧ (emL.all fun q => exmB K q) = true := by
  have more := c.more
  obtain ⟨z1, z⟩ := ba more
  obtain ⟨z2, z⟩ := ba z
  obtain ⟨z3, z⟩ := ba z
  obtain ⟨z4, z⟩ := ba z
  obtain ⟨z5, z⟩ := ba z
  obtain ⟨z6, z7⟩ := ba z
  exact ⟨z1, z2, z3, z4, z5, z6, z7⟩
abbrev R : PySem.W.OpenRow := PySem.W.OpenLaw.row PySem.Challenge.rw_jetworks_k68_whole_sums_divided_and_fact
abbrev hk : PySem.W.Hook := hookE 5 fa fn tf ex fx
def ob (s : PySem.W.SharedT) : AlE := obsE 5 fa fn tf ex fx (HandSHeadRun.getT s)
theorem ob_eq (s : PySem.W.SharedT) : ob s = hk.obs s.abs := obsE_eq (HandSHeadRun.getT_eq s)
def loose : List Str := (["_wall", "__name__", "JetError", "NoText", "NoBasin", "NoBranch", "NoPlace", "Closed", "TooLarge", "TooDeep", "NoDivision", "NoDifference", "NoQuotient", "MOST", "DEEPEST", "JET_TEXT", "check_numbers", "basin_numbers", "product_numbers", "parsed", "made", "allowed", "grafted", "cut", "bare_place", "carries", "power", "multiplied", "Fountain", "need_open"] : List Str) ++ (["shared_tail", "open_branches", "word_and_ends", "word_of", "factors", "is_prime", "common_end", "_law_sack", "_law_take", "_law_mixed", "_law_text", "_law_basin", "_law_size", "_law_jets", "_law_tree", "_law_open", "_law_grafted", "_law_product", "_law_cut", "_law_bare", "_law_loose", "_law_made", "_law_first_way", "_law_word", "_law_primes", "_law_fits", "_law_some_word", "_law_pool", "_law_shut", "_law_end_of"] : List Str) ++ (["_law_drawn", "_law_basin_right", "_law_sum_right", "_law_many_right"] : List Str)
theorem all_td {α : Type} {p : α → Bool} {l : List α} (n : Nat) (h1 : (l.take n).all p = true) (h2 : (l.drop n).all p = true) : l.all p = true := by
  rw [← List.take_append_drop n l, List.all_append, h1, h2]
  rfl
theorem map_td {α β : Type} {f g : α → β} {l : List α} (n : Nat) (h1 : (l.take n).map f = (l.take n).map g) (h2 : (l.drop n).map f = (l.drop n).map g) : l.map f = l.map g := by
  rw [← List.take_append_drop n l, List.map_append, List.map_append, h1, h2]
noncomputable def XX (w : World) (os : OsState) : Option PySem.W.SharedT := HandSHeadRun.endF (HandSHeadRun.stepQ (HandSHeadRun.denQ HandSHeadRun.tabQ) R.prog w) 200000 R.prog w os
def KO (s : PySem.W.SharedT) : PySem.W.Frag := frT (HandSHeadRun.getT s) (asE (HandSHeadRun.getT s) 5)
theorem run0 (w : World) : HandSHeadRun.RunEq R (PySem.W.view R.prog [67]) PySem.W.Hook.none (fun _ => ()) 200000 loose w := by
  intro os
  kernel_rfl
theorem run1 (w : World) (os : OsState) : (XX w os).map (fun s => (fa.take 40).all fun f => f.ok (KO s)) = some (true) := by kernel_rfl
theorem run2 (w : World) (os : OsState) : (XX w os).map (fun s => ((fa.drop 40).take 40).all fun f => f.ok (KO s)) = some (true) := by kernel_rfl
theorem run3 (w : World) (os : OsState) : (XX w os).map (fun s => ((fa.drop 40).drop 40).all fun f => f.ok (KO s)) = some (true) := by kernel_rfl
theorem run4 (w : World) (os : OsState) : (XX w os).map (fun s => ((fn.take 40).all fun d => d.ok (KO s), (fn.take 40).map fun d => fnW (KO s) d.at_)) = some ((true, (fn.take 40).map DefD.val)) := by kernel_rfl
theorem run5 (w : World) (os : OsState) : (XX w os).map (fun s => ((fn.drop 40).all fun d => d.ok (KO s), (fn.drop 40).map fun d => fnW (KO s) d.at_)) = some ((true, (fn.drop 40).map DefD.val)) := by kernel_rfl
theorem run6 (w : World) (os : OsState) : (XX w os).map (fun s => ex (KO s) && tabsB (HandSHeadRun.getT s) tf (KO s)) = some (true) := by kernel_rfl
theorem run7 (w : World) (os : OsState) : (XX w os).map (fun s => (fx.map (fun d => fnWa (KO s) (d.adr (KO s))), fx.all fun d => d.okF (KO s))) = some ((fx.map FxD.val, true)) := by kernel_rfl
theorem run (w : World) : HandSHeadRun.RunEq R (PySem.W.view R.prog [67]) hk ob 200000 loose w := by
  intro os
  have h0 := run0 w os
  have h1 := run1 w os
  have h2 := run2 w os
  have h3 := run3 w os
  have h4 := run4 w os
  have h5 := run5 w os
  have h6 := run6 w os
  have h7 := run7 w os
  change Option.map _ (XX w os) = _ at h0
  change Option.map _ (XX w os) = _
  generalize XX w os = x at h0 h1 h2 h3 h4 h5 h6 h7 ⊢
  cases x with
  | none => cases h1
  | some s =>
    have g1 : ((fa.take 40).all fun f => f.ok (KO s)) = true := Option.some.inj h1
    have g2 : (((fa.drop 40).take 40).all fun f => f.ok (KO s)) = true := Option.some.inj h2
    have g3 : (((fa.drop 40).drop 40).all fun f => f.ok (KO s)) = true := Option.some.inj h3
    have g4 : (((fn.take 40).all fun d => d.ok (KO s), (fn.take 40).map fun d => fnW (KO s) d.at_)) = (true, (fn.take 40).map DefD.val) := Option.some.inj h4
    have g5 : (((fn.drop 40).all fun d => d.ok (KO s), (fn.drop 40).map fun d => fnW (KO s) d.at_)) = (true, (fn.drop 40).map DefD.val) := Option.some.inj h5
    have g6 : (ex (KO s) && tabsB (HandSHeadRun.getT s) tf (KO s)) = true := Option.some.inj h6
    have g7 : ((fx.map (fun d => fnWa (KO s) (d.adr (KO s))), fx.all fun d => d.okF (KO s))) = (fx.map FxD.val, true) := Option.some.inj h7
    have g0 := Option.some.inj h0
    have a1 := congrArg Prod.fst g0
    have a2 := congrArg (fun z => z.2.1) g0
    have b1 : (fa.all fun f => f.ok (KO s)) = true := (all_td 40 g1 (all_td 40 g2 g3))
    have b2 : (fn.all fun d => d.ok (KO s)) = true := (all_td 40 (Prod.mk.inj g4).1 (Prod.mk.inj g5).1)
    have b3 : (fn.map fun d => fnW (KO s) d.at_) = fn.map DefD.val := (map_td 40 (Prod.mk.inj g4).2 (Prod.mk.inj g5).2)
    refine congrArg some (Prod.ext a1 (Prod.ext a2 ?_))
    show (((fa.all fun f => f.ok (KO s)) && fn.all fun d => d.ok (KO s), fn.map fun d => fnW (KO s) d.at_), ex (KO s) && tabsB (HandSHeadRun.getT s) tf (KO s), fx.map (fun d => fnWa (KO s) (d.adr (KO s))), fx.all fun d => d.okF (KO s)) = ((true, fn.map DefD.val), true, fx.map FxD.val, true)
    rw [g6, b1, b2, b3, (Prod.mk.inj g7).1, (Prod.mk.inj g7).2]
    rfl
end JW
namespace JW
theorem grf_assoc (p q : T) : ∀ t : T, T.grf p (T.grf q t) = T.grf (T.grf p q) t := by
  refine T.ind' rfl fun l ih => ?_
  have e : l.map (T.grf p ∘ T.grf q) = l.map (T.grf (T.grf p q)) := List.map_congr_left fun t ht => ih t ht
  rw [grf_bas, grf_bas, grf_bas, sortT_congr ((sortT_perm (l.map (T.grf q))).map (T.grf p)), List.map_map, e]
theorem grf_jet : ∀ t : T, Can t → T.grf .jet t = t := by
  refine T.ind' (fun _ => rfl) fun l ih hc => ?_
  have e : l.map (T.grf .jet) = l.map id := List.map_congr_left fun t ht => ih t ht (canL_iff.mp hc.2 t ht)
  rw [grf_bas, e, List.map_id, sortT_of hc.1]
theorem fold_grf : ∀ (b : List T) (f : T), Can f → (∀ t ∈ b, Can t) → b.foldl (fun f t => T.grf t f) f = T.grf (prodT b) f
  | [], f, hf, _ => (grf_jet f hf).symm
  | t :: r, f, hf, h => by
    have hr : ∀ u ∈ r, Can u := fun u hu => h u (List.mem_cons_of_mem _ hu)
    have ht := h t List.mem_cons_self
    show r.foldl (fun f t => T.grf t f) (T.grf t f) = T.grf (r.foldl (fun f t => T.grf t f) t) f
    rw [fold_grf r _ (grf_can ht f) hr, fold_grf r t ht hr, grf_assoc]
theorem prod_cons {t : T} {r : List T} (h : ∀ u ∈ t :: r, Can u) : prodT (t :: r) = T.grf (prodT r) t :=
  fold_grf r t (h t List.mem_cons_self) fun u hu => h u (List.mem_cons_of_mem _ hu)
theorem prod_app {a b : List T} (ha : ∀ u ∈ a, Can u) (hb : ∀ u ∈ b, Can u) : prodT (a ++ b) = T.grf (prodT b) (prodT a) := by
  unfold prodT
  rw [List.foldl_append]
  exact fold_grf b _ (prod_can ha) hb
theorem prod_open {l : List T} (h : ∀ t ∈ l, t.jts ≠ 0) : (prodT l).jts ≠ 0 := by
  have go : ∀ (l : List T) (f : T), f.jts ≠ 0 → (∀ t ∈ l, t.jts ≠ 0) → (l.foldl (fun f t => T.grf t f) f).jts ≠ 0 := by
    intro l
    induction l with
    | nil => intro f hf _; exact hf
    | cons t r ih =>
      intro f hf hl
      refine ih _ ?_ fun u hu => hl u (List.mem_cons_of_mem _ hu)
      rw [grf_jts]
      exact fun z => (Nat.mul_eq_zero.mp z).elim hf (hl t List.mem_cons_self)
  exact go l .jet (by decide) h
def lcp : List T → List T → List T
  | x :: a, y :: b => if x = y then x :: lcp a b else []
  | _, _ => []
theorem lcp_l : ∀ a b : List T, lcp a b <+: a
  | [], _ => List.nil_prefix
  | x :: a, [] => List.nil_prefix
  | x :: a, y :: b => by
    unfold lcp
    split
    · exact List.cons_prefix_cons.mpr ⟨rfl, lcp_l a b⟩
    · exact List.nil_prefix
theorem lcp_r : ∀ a b : List T, lcp a b <+: b
  | [], _ => List.nil_prefix
  | x :: a, [] => List.nil_prefix
  | x :: a, y :: b => by
    unfold lcp
    split
    · rename_i e
      exact List.cons_prefix_cons.mpr ⟨e, lcp_r a b⟩
    · exact List.nil_prefix
theorem lcp_max : ∀ x a b : List T, x <+: a → x <+: b → x <+: lcp a b
  | [], _, _, _, _ => List.nil_prefix
  | x :: r, [], _, h, _ => absurd (List.prefix_nil.mp h) (List.cons_ne_nil _ _)
  | x :: r, y :: a, [], _, h => absurd (List.prefix_nil.mp h) (List.cons_ne_nil _ _)
  | x :: r, y :: a, z :: b, h1, h2 => by
    obtain ⟨e1, h1⟩ := List.cons_prefix_cons.mp h1
    obtain ⟨e2, h2⟩ := List.cons_prefix_cons.mp h2
    unfold lcp
    rw [if_pos (e1.symm.trans e2)]
    exact List.cons_prefix_cons.mpr ⟨e1, lcp_max r a b h1 h2⟩
def lcpL : List (List T) → List T
  | [] => []
  | w :: r => r.foldl lcp w
theorem lcpF_pre : ∀ (r : List (List T)) (w : List T), r.foldl lcp w <+: w ∧ ∀ v ∈ r, r.foldl lcp w <+: v
  | [], w => ⟨List.prefix_refl _, fun _ h => nomatch h⟩
  | v :: r, w => by
    obtain ⟨h1, h2⟩ := lcpF_pre r (lcp w v)
    refine ⟨h1.trans (lcp_l w v), fun u hu => ?_⟩
    rcases List.mem_cons.mp hu with e | e
    · exact e ▸ h1.trans (lcp_r w v)
    · exact h2 u e
theorem lcpF_max {x : List T} : ∀ (r : List (List T)) (w : List T), x <+: w → (∀ v ∈ r, x <+: v) → x <+: r.foldl lcp w
  | [], w, h, _ => h
  | v :: r, w, h, hr => lcpF_max r _ (lcp_max x w v h (hr v List.mem_cons_self)) fun u hu => hr u (List.mem_cons_of_mem _ hu)
def lcsL (ws : List (List T)) : List T := (lcpL (ws.map List.reverse)).reverse
theorem lcs_suf {ws : List (List T)} {w : List T} (h : w ∈ ws) : lcsL ws <:+ w := by
  have h1 : lcpL (ws.map List.reverse) <+: w.reverse := by
    have hm : w.reverse ∈ ws.map List.reverse := List.mem_map_of_mem h
    cases hw : ws.map List.reverse with
    | nil => rw [hw] at hm; cases hm
    | cons v r =>
      rw [hw] at hm
      rcases List.mem_cons.mp hm with e | e
      · exact e ▸ (lcpF_pre r v).1
      · exact (lcpF_pre r v).2 _ e
  have h2 := List.reverse_suffix.mpr h1
  rw [List.reverse_reverse] at h2
  exact h2
theorem lcs_max {ws : List (List T)} {x : List T} (hn : ws ≠ []) (h : ∀ w ∈ ws, x <:+ w) : x <:+ lcsL ws := by
  have h1 : x.reverse <+: lcpL (ws.map List.reverse) := by
    have hm : ∀ v ∈ ws.map List.reverse, x.reverse <+: v := fun v hv => by
      obtain ⟨w, hw, e⟩ := List.mem_map.mp hv
      exact e ▸ List.reverse_prefix.mpr (h w hw)
    cases hw : ws.map List.reverse with
    | nil => exact absurd (List.map_eq_nil_iff.mp hw) hn
    | cons v r =>
      rw [hw] at hm
      exact lcpF_max r v (hm v List.mem_cons_self) fun u hu => hm u (List.mem_cons_of_mem _ hu)
  have h2 := List.reverse_suffix.mpr h1
  rw [List.reverse_reverse] at h2
  exact h2
theorem suf_anti {a b : List T} (h1 : a <:+ b) (h2 : b <:+ a) : a = b := h1.eq_of_length (Nat.le_antisymm h1.length_le h2.length_le)
theorem lcs_eq {ws : List (List T)} {s : List T} (hn : ws ≠ []) (h1 : ∀ w ∈ ws, s <:+ w) (h2 : ∀ x, (∀ w ∈ ws, x <:+ w) → x <:+ s) : lcsL ws = s :=
  suf_anti (h2 _ fun _ h => lcs_suf h) (lcs_max hn h1)
theorem lcs_mem {ws vs : List (List T)} (hn : ws ≠ []) (h : ∀ w, w ∈ ws ↔ w ∈ vs) : lcsL ws = lcsL vs := by
  have hv : vs ≠ [] := fun z => by
    cases ws with
    | nil => exact hn rfl
    | cons w r =>
      have := (h w).mp List.mem_cons_self
      rw [z] at this
      cases this
  exact lcs_eq hn (fun w hw => lcs_suf ((h w).mp hw)) fun x hx => lcs_max hv fun w hw => hx w ((h w).mpr hw)
theorem lcs_app {ws : List (List T)} (hn : ws ≠ []) (x : List T) : lcsL (ws.map (· ++ x)) = lcsL ws ++ x := by
  refine lcs_eq (fun z => hn (List.map_eq_nil_iff.mp z)) (fun w hw => ?_) fun y hy => ?_
  · obtain ⟨v, hv, e⟩ := List.mem_map.mp hw
    obtain ⟨t, ht⟩ := lcs_suf hv
    exact ⟨t, by rw [← e, ← ht, List.append_assoc]⟩
  · have hy2 : ∀ w ∈ ws, y <:+ w ++ x := fun w hw => hy _ (List.mem_map_of_mem (f := (· ++ x)) hw)
    by_cases hl : y.length ≤ x.length
    · cases ws with
      | nil => exact absurd rfl hn
      | cons w r =>
        have h1 : y <:+ x := List.suffix_of_suffix_length_le (hy2 w List.mem_cons_self) (List.suffix_append _ _) hl
        exact h1.trans (List.suffix_append _ _)
    · obtain ⟨z, rfl⟩ : ∃ z, z ++ x = y := by
        cases ws with
        | nil => exact absurd rfl hn
        | cons w r => exact List.suffix_of_suffix_length_le (List.suffix_append w _) (hy2 w List.mem_cons_self) (by omega)
      have h1 : z <:+ lcsL ws := lcs_max hn fun w hw => by
        obtain ⟨t, ht⟩ := hy2 w hw
        exact ⟨t, List.append_cancel_right (by rw [List.append_assoc]; exact ht)⟩
      obtain ⟨t, ht⟩ := h1
      exact ⟨t, by rw [← ht, List.append_assoc]⟩
mutual
def T.word : T → List T
  | .jet => []
  | .bas l => cutT (prodT (lcsL (wordsL l))) (.bas l) :: lcsL (wordsL l)
def wordsL : List T → List (List T)
  | [] => []
  | t :: r => if t.jts = 0 then wordsL r else t.word :: wordsL r
end
theorem mem_words {w : List T} : ∀ {l : List T}, w ∈ wordsL l ↔ ∃ t ∈ l, t.jts ≠ 0 ∧ t.word = w
  | [] => ⟨fun h => (nomatch h), fun ⟨_, h, _⟩ => (nomatch h)⟩
  | t :: r => by
    show w ∈ (if t.jts = 0 then wordsL r else t.word :: wordsL r) ↔ _
    split
    · rename_i z
      rw [mem_words]
      refine ⟨fun ⟨u, hu, h⟩ => ⟨u, List.mem_cons_of_mem _ hu, h⟩, fun ⟨u, hu, h1, h2⟩ => ?_⟩
      rcases List.mem_cons.mp hu with e | e
      · exact absurd (e ▸ z) h1
      · exact ⟨u, e, h1, h2⟩
    · rename_i z
      rw [List.mem_cons, mem_words]
      constructor
      · rintro (e | ⟨u, hu, h⟩)
        · exact ⟨t, List.mem_cons_self, z, e.symm⟩
        · exact ⟨u, List.mem_cons_of_mem _ hu, h⟩
      · rintro ⟨u, hu, h1, h2⟩
        rcases List.mem_cons.mp hu with e | e
        · exact .inl (by rw [← e, h2])
        · exact .inr ⟨u, e, h1, h2⟩
theorem open_branch : ∀ {l : List T}, jtsL l ≠ 0 → ∃ t ∈ l, t.jts ≠ 0
  | [], h => absurd rfl h
  | t :: r, h => by
    by_cases z : t.jts = 0
    · have h2 : jtsL r ≠ 0 := fun z2 => h (by show t.jts + jtsL r = 0; omega)
      obtain ⟨u, hu, hz⟩ := open_branch h2
      exact ⟨u, List.mem_cons_of_mem _ hu, hz⟩
    · exact ⟨t, List.mem_cons_self, z⟩
theorem words_ne {l : List T} (h : jtsL l ≠ 0) : wordsL l ≠ [] := fun z => by
  obtain ⟨t, ht, hj⟩ := open_branch h
  have := (mem_words (w := t.word)).mpr ⟨t, ht, hj, rfl⟩
  rw [z] at this
  cases this
def Op (t : T) : Prop := Can t ∧ t.jts ≠ 0
theorem cut_part {l : List T} (hc : Can (.bas l)) (ho : jtsL l ≠ 0) (ih : ∀ t ∈ l, Op t → prodT t.word = t ∧ ∀ q ∈ t.word, Op q) :
    (∀ q ∈ lcsL (wordsL l), Op q) ∧ Op (cutT (prodT (lcsL (wordsL l))) (.bas l)) ∧ T.grf (prodT (lcsL (wordsL l))) (cutT (prodT (lcsL (wordsL l))) (.bas l)) = .bas l ∧ T.bas l ≠ prodT (lcsL (wordsL l)) := by
  obtain ⟨t0, ht0, hj0⟩ := open_branch ho
  have hcl := canL_iff.mp hc.2
  have hs : ∀ t ∈ l, t.jts ≠ 0 → lcsL (wordsL l) <:+ t.word := fun t ht hj => lcs_suf (mem_words.mpr ⟨t, ht, hj, rfl⟩)
  have he : ∀ q ∈ lcsL (wordsL l), Op q := fun q hq => (ih t0 ht0 ⟨hcl t0 ht0, hj0⟩).2 q ((hs t0 ht0 hj0).subset hq)
  generalize lcsL (wordsL l) = e at hs he ⊢
  have hE : Can (prodT e) := prod_can fun q hq => (he q hq).1
  have hEo : (prodT e).jts ≠ 0 := prod_open fun q hq => (he q hq).2
  have hp : ∀ t ∈ l, t.jts ≠ 0 → ∃ v, Op v ∧ t = T.grf (prodT e) v := fun t ht hj => by
    obtain ⟨h1, h2⟩ := ih t ht ⟨hcl t ht, hj⟩
    obtain ⟨v, hv⟩ := hs t ht hj
    have hvo : ∀ q ∈ v, Op q := fun q hq => h2 q (hv ▸ List.mem_append_left _ hq)
    refine ⟨prodT v, ⟨prod_can fun q hq => (hvo q hq).1, prod_open fun q hq => (hvo q hq).2⟩, ?_⟩
    rw [← prod_app (fun q hq => (hvo q hq).1) fun q hq => (he q hq).1, hv, h1]
  have hb : ∀ t ∈ l, Can (cutT (prodT e) t) ∧ T.grf (prodT e) (cutT (prodT e) t) = t := fun t ht => by
    by_cases hj : t.jts = 0
    · have hne : t ≠ prodT e := fun z => hEo (by rw [← z]; exact hj)
      rw [cut_closed hne hj]
      exact ⟨hcl t ht, grf_closed _ _ (hcl t ht) hj⟩
    · obtain ⟨v, hv, ev⟩ := hp t ht hj
      have h1 : cutT (prodT e) t = v := by
        rw [ev]
        exact cut_grf (Nat.pos_of_ne_zero hEo) v hv.1
      rw [h1]
      exact ⟨hv.1, ev.symm⟩
  have hne : T.bas l ≠ prodT e := fun z => by
    obtain ⟨v, hv, ev⟩ := hp t0 ht0 hj0
    have h1 := size_mem ht0
    have h2 := grf_size (prodT e) v
    have h3 := jts_le v
    have h4 : 1 * (prodT e).size ≤ v.jts * (prodT e).size := Nat.mul_le_mul_right _ (Nat.pos_of_ne_zero hv.2)
    rw [← ev] at h2
    rw [z] at h1
    omega
  have hg : T.grf (prodT e) (cutT (prodT e) (.bas l)) = .bas l := by
    rw [cut_open hne ho, grf_bas, sortT_congr ((sortT_perm (l.map (cutT (prodT e)))).map (T.grf (prodT e))), List.map_map]
    have em : l.map (T.grf (prodT e) ∘ cutT (prodT e)) = l.map id := List.map_congr_left fun t ht => (hb t ht).2
    rw [em, List.map_id, sortT_of hc.1]
  refine ⟨he, ⟨?_, fun z => ?_⟩, hg, hne⟩
  · rw [cut_open hne ho]
    refine can_bas (canL_iff.mpr fun t ht => ?_)
    obtain ⟨u, hu, eu⟩ := List.mem_map.mp ht
    exact eu ▸ (hb u hu).1
  · have h1 := grf_jts (prodT e) (cutT (prodT e) (.bas l))
    rw [hg, z, Nat.zero_mul] at h1
    exact ho h1
theorem word_prod : ∀ t : T, Op t → prodT t.word = t ∧ ∀ q ∈ t.word, Op q := by
  refine T.ind' (fun _ => ⟨rfl, fun _ h => nomatch h⟩) fun l ih h => ?_
  obtain ⟨h1, h2, h3, _⟩ := cut_part h.1 h.2 ih
  have ha : ∀ q ∈ (T.bas l).word, Op q := fun q hq => by
    rcases List.mem_cons.mp (show q ∈ cutT (prodT (lcsL (wordsL l))) (.bas l) :: lcsL (wordsL l) from hq) with e | e
    · exact e ▸ h2
    · exact h1 q e
  refine ⟨?_, ha⟩
  show prodT (cutT (prodT (lcsL (wordsL l))) (.bas l) :: lcsL (wordsL l)) = _
  rw [prod_cons fun q hq => (ha q hq).1, h3]
theorem word_part {l : List T} (h : Op (.bas l)) : (∀ q ∈ lcsL (wordsL l), Op q) ∧ Op (cutT (prodT (lcsL (wordsL l))) (.bas l)) ∧ T.grf (prodT (lcsL (wordsL l))) (cutT (prodT (lcsL (wordsL l))) (.bas l)) = .bas l ∧ T.bas l ≠ prodT (lcsL (wordsL l)) :=
  cut_part h.1 h.2 fun t _ => word_prod t
theorem word_grf {p : T} (hp : Op p) : ∀ t : T, Op t → (T.grf p t).word = t.word ++ p.word := by
  refine T.ind' (fun _ => rfl) fun l ih h => ?_
  have hpp := (word_prod p hp).1
  have hpw := (word_prod p hp).2
  have hcl := canL_iff.mp h.1.2
  obtain ⟨h1, h2, h3, h4⟩ := word_part h
  have hne := words_ne h.2
  have hw : lcsL (wordsL (sortT (l.map (T.grf p)))) = lcsL (wordsL l) ++ p.word := by
    rw [← lcs_app hne]
    refine (lcs_mem (fun z => hne (List.map_eq_nil_iff.mp z)) fun w => ?_).symm
    rw [mem_words, List.mem_map]
    constructor
    · rintro ⟨v, hv, rfl⟩
      obtain ⟨t, ht, hj, rfl⟩ := mem_words.mp hv
      refine ⟨T.grf p t, (sortT_perm _).mem_iff.mpr (List.mem_map_of_mem ht), ?_, ih t ht ⟨hcl t ht, hj⟩⟩
      rw [grf_jts]
      exact fun z => (Nat.mul_eq_zero.mp z).elim hj hp.2
    · rintro ⟨u, hu, hj, rfl⟩
      obtain ⟨t, ht, rfl⟩ := List.mem_map.mp ((sortT_perm _).mem_iff.mp hu)
      rw [grf_jts] at hj
      have hj2 : t.jts ≠ 0 := fun z => hj (by rw [z, Nat.zero_mul])
      exact ⟨t.word, mem_words.mpr ⟨t, ht, hj2, rfl⟩, (ih t ht ⟨hcl t ht, hj2⟩).symm⟩
  rw [grf_bas]
  show cutT (prodT (lcsL (wordsL (sortT (l.map (T.grf p)))))) (.bas (sortT (l.map (T.grf p)))) :: lcsL (wordsL (sortT (l.map (T.grf p)))) = cutT (prodT (lcsL (wordsL l))) (.bas l) :: lcsL (wordsL l) ++ p.word
  rw [hw, prod_app (fun q hq => (h1 q hq).1) fun q hq => (hpw q hq).1, hpp, ← grf_bas]
  have e1 : T.grf p (.bas l) = T.grf (T.grf p (prodT (lcsL (wordsL l)))) (cutT (prodT (lcsL (wordsL l))) (.bas l)) := by
    rw [← grf_assoc, h3]
  rw [e1, cut_grf ?_ _ h2.1]
  · rfl
  rw [grf_jts]
  exact Nat.mul_pos (Nat.pos_of_ne_zero (prod_open fun q hq => (h1 q hq).2)) (Nat.pos_of_ne_zero hp.2)
def Prm (q : T) : Prop := q.word = [q]
theorem word_of_primes : ∀ e : List T, (∀ q ∈ e, Op q ∧ Prm q) → (prodT e).word = e
  | [], _ => rfl
  | q :: r, h => by
    have hr : ∀ u ∈ r, Op u ∧ Prm u := fun u hu => h u (List.mem_cons_of_mem _ hu)
    have hq := h q List.mem_cons_self
    have hE : Op (prodT r) := ⟨prod_can fun u hu => (hr u hu).1.1, prod_open fun u hu => (hr u hu).1.2⟩
    rw [prod_cons fun u hu => (h u hu).1.1, word_grf hE q hq.1, word_of_primes r hr, hq.2]
    rfl
theorem word_prime : ∀ t : T, Op t → ∀ q ∈ t.word, Prm q := by
  refine T.ind' (fun _ _ h => nomatch h) fun l ih h => ?_
  obtain ⟨h1, h2, h3, h4⟩ := word_part h
  obtain ⟨t0, ht0, hj0⟩ := open_branch h.2
  have hcl := canL_iff.mp h.1.2
  have hs : lcsL (wordsL l) <:+ t0.word := lcs_suf (mem_words.mpr ⟨t0, ht0, hj0, rfl⟩)
  have he : ∀ q ∈ lcsL (wordsL l), Prm q := fun q hq => ih t0 ht0 ⟨hcl t0 ht0, hj0⟩ q (hs.subset hq)
  have hE : Op (prodT (lcsL (wordsL l))) := ⟨prod_can fun u hu => (h1 u hu).1, prod_open fun u hu => (h1 u hu).2⟩
  have hw : (T.bas l).word = (cutT (prodT (lcsL (wordsL l))) (.bas l)).word ++ lcsL (wordsL l) := by
    have h5 := word_grf hE _ h2
    rw [h3, word_of_primes _ fun q hq => ⟨h1 q hq, he q hq⟩] at h5
    exact h5
  intro q hq
  rcases List.mem_cons.mp (show q ∈ cutT (prodT (lcsL (wordsL l))) (.bas l) :: lcsL (wordsL l) from hq) with e | e
  · have h6 : [cutT (prodT (lcsL (wordsL l))) (.bas l)] ++ lcsL (wordsL l) = (cutT (prodT (lcsL (wordsL l))) (.bas l)).word ++ lcsL (wordsL l) := hw
    rw [e]
    exact (List.append_cancel_right h6).symm
  · exact he q e
end JW
namespace JW
open PySem PySem.Spec PyProof.Rows L2
structure CallS (P : Program) (w : World) (K : PySem.W.Frag) (mg : Str → Option Value) (base : Heap) (CX : CXT) (k : Nat) (x : Str) (sp : Sp) : Prop where
  ex : ∃ f, mg x = some (.ref f) ∧ PySem.W.keepIn K (.ref f) = true ∧ FnR P w K mg base CX k f sp
structure StarAt (K : PySem.W.Frag) (mg : Str → Option Value) (x qual : Str) (st : Stmt) (ps : List Str) (pv : Str) : Prop where
  ex : ∃ f fd, mg x = some (.ref f) ∧ FunD K x qual (defArgs st) (defBody st) (defScope st) [] [] f fd ∧ ∀ us rest : List Value, us.length = ps.length → bindArgs fd ⟨us ++ rest, []⟩ = (newTuple rest >>= fun t => pure (ps.zip us ++ [(pv, t)]))
def starSp (n : Nat) (sp : Sp) : Sp := fun vs H Q E => ∃ ws rest, vs = ws ++ rest ∧ ws.length = n ∧ rest.length ≤ sizeLine ∧ ∀ p, H p = Option.none → sp (ws ++ [V.ref p]) (upd H p (.tup rest)) Q E
section
variable {P : Program} {w : World} {K : PySem.W.Frag} {mg : Str → Option Value} {base : Heap}
theorem StarAt.ok {x qual : Str} {st : Stmt} {N ps : List Str} {pv : Str} {k : Nat} {sp : Sp} (D : StarAt K mg x qual st ps pv) (S : FnScope N (ps ++ [pv]) (defScope st))
    (hbody : ∀ (f : Addr) (cdv : Value) (A : Around) (outer : List Env) (s : Shared) (H : Hp) (vs : List V) (Q : VK) (E : XK), Room k (A.deeper (envOfC qual (defScope st) s.heap.objs.size f cdv)) → sp vs H Q E →
      ∃ t, PSs (cxOf CX0 P w K mg base N qual (defScope st) f cdv A outer s H E).nox (defBody st) t ∧ t { nx := fun _ H' => Q .non H', rt := Q } (start N vs) H) : CallS P w K mg base CX0 (k + 1) x (starSp ps.length sp) := by
  obtain ⟨f, fd, h1, F, hb⟩ := D.ex
  have hk := F.kp
  obtain ⟨oc, od, dV, kV, doc, pm, an, cdv, ct, osl, rfl, lk, hcd, _, _⟩ := F.ex
  refine ⟨f, h1, hk, StX.fn_star lk hcd S StX.cxUp_none hb fun A outer s H vs Q E hr h => ?_⟩
  obtain ⟨t, h, q⟩ := hbody f cdv A outer s H vs Q E hr h
  exact ⟨t, h.nox, q⟩
end
section
variable {X : Cx} {CX : CXT} {k : Nat} {sp : Sp} {E : XK} {x : Str} {p pos : Pos} {e : Expr} {es : List Expr} {t : TA}
def tCallSt (sp : Sp) (E : XK) (t : TA) : TE := fun σ H Q => t σ H fun vs H1 => sp vs H1 Q E
theorem pe_callSt (C : CallS X.prog X.w X.K X.mg X.base CX k x sp) (hr : Room k X.A) (hg : Gl X x) (hx : Passes CX X E) (ha : PA X (e :: es) t) (hdb : (x == ("__debug__" : Str)) = false := by decide)
    (he : starEach (e :: es) X.env = (false, eval e X.env) :: starEach es X.env := by rfl) (hpl : (backTo pos (starEach es X.env)).any (·.1) = false := by rfl) : PE X (.Call (.Name x p) (e :: es) [] pos) (tCallSt sp E t) := by
  obtain ⟨f, h1, h2, F⟩ := C.ex
  refine ⟨fun pins s σ H Q I h => ?_⟩
  refine wpAny_Call_Name_kw (ld_glob I hg h1 ?_ hdb)
  refine PySem.W.callWith_K (h₀ := X.base) I.ok.mod.kin h2 (thn (ha.run pos pins s σ H _ I h) fun us s1 ⟨vs, H1, I1, r, q⟩ => ⟨I1.kIn, ?_⟩) he hpl
  exact wpAny_call (run_fnR F hr hx I1 r q)
end
end JW
namespace JW
open PySem PySem.Spec PyProof.Rows L2
theorem pg_tupK {X : Cx} {K : PySem.W.Frag} (hk : X.K = K) {es : List Expr} {k : Nat} {t : TGs} {n : Nat} {pos : Pos} (hc : X.calm = true) (h : PGs X es t)
    (hn : (assignEach es X.env).length = n := by rfl) (hst : (assignEach es X.env).findIdx? (·.1) = none := by rfl) : PG X (.Tuple es k pos) (gTup K n t) := hk ▸ pg_tup hc h hn hst
theorem lc_enumT {K : PySem.W.Frag} {a : Addr} {xs : List V} {g : TG} {tt : TT} {te : TE} {vs : List Nat} {σ : L2.St} {H1 : Hp} {D : Addr} {Qd : Hp → Prop} (Pv : Nat → Hp → Prop) (h0 : Pv 0 (upd H1 D (.lst []))) (hl : ∀ i H, i ≤ xs.length → Pv i H → SqT K H a xs)
    (hs : ∀ i x H T, xs[i]? = some x → Pv i H → H T = none → g (.ref T) (wipe σ vs) (upd H T (.tup [.int (i : Nat), x])) fun σ2 H2 => wipe σ2 vs = wipe σ vs ∧ tt σ2 H2 fun b H3 =>
      if b = true then te σ2 H3 fun y H4 => ∃ acc, H4 D = some (.lst acc) ∧ acc.length < sizeLine ∧ Pv (i + 1) (upd H4 D (.lst (acc ++ [y]))) else Pv (i + 1) H3) (hd : ∀ H, Pv xs.length H → Qd H) :
    ∃ W : Nat → Nat → Hp → Prop, (∃ m, W 0 m (upd H1 D (.lst []))) ∧ ∀ i m H, W i m H →
      ((Itet K a).stop i H ∧ Qd H) ∨ ((Itet K a).go i H ∧ ∃ Nx : Hp → Prop, (∀ H', Nx H' → ∃ m', m' < m ∧ W (i + 1) m' H') ∧ ∀ x H', (Itet K a).yld i H x H' → g x (wipe σ vs) H' fun σ2 H2 => wipe σ2 vs = wipe σ vs ∧ tt σ2 H2 fun b H3 =>
        if b = true then te σ2 H3 fun y H4 => ∃ acc, H4 D = some (.lst acc) ∧ acc.length < sizeLine ∧ Nx (upd H4 D (.lst (acc ++ [y]))) else Nx H3) := by
  refine ⟨fun i m H => m = xs.length - i ∧ i ≤ xs.length ∧ Pv i H, ⟨xs.length, rfl, Nat.zero_le _, h0⟩, ?_⟩
  rintro i m H ⟨rfl, hi, p⟩
  by_cases hlt : i < xs.length
  · refine .inr ⟨⟨xs, xs[i], hl i H hi p, List.getElem?_eq_getElem hlt⟩, Pv (i + 1), fun H' p' => ⟨xs.length - (i + 1), by omega, rfl, hlt, p'⟩, fun v H' hy => ?_⟩
    obtain ⟨T, x, rfl, hT, rfl, hx⟩ := hy
    exact hs i x H T (hx xs (hl i H hi p)) p hT
  · have e : i = xs.length := by omega
    subst e
    exact .inl ⟨⟨xs, hl _ H hi p, rfl⟩, hd H p⟩
def opK (l : List T) (n : Nat) (t : T) : Prop := t.jts ≠ 0 ∧ (n = 0 ∨ l[n - 1]? ≠ some t)
instance (l : List T) (n : Nat) (t : T) : Decidable (opK l n t) := by unfold opK; exact inferInstance
def opN (l : List T) : Nat → List T
  | 0 => []
  | n + 1 => opN l n ++ (match l[n]? with | some t => if opK l n t then [t] else [] | none => [])
def opB (l : List T) : List T := opN l l.length
theorem opN_yes {l : List T} {n : Nat} {t : T} (h : l[n]? = some t) (hk : opK l n t) : opN l (n + 1) = opN l n ++ [t] := by
  show opN l n ++ (match l[n]? with | some t => if opK l n t then [t] else [] | none => []) = _
  rw [h]
  show opN l n ++ (if opK l n t then [t] else []) = _
  rw [if_pos hk]
theorem opN_no {l : List T} {n : Nat} {t : T} (h : l[n]? = some t) (hk : ¬ opK l n t) : opN l (n + 1) = opN l n := by
  show opN l n ++ (match l[n]? with | some t => if opK l n t then [t] else [] | none => []) = _
  rw [h]
  show opN l n ++ (if opK l n t then [t] else []) = _
  rw [if_neg hk, List.append_nil]
theorem opN_step (l : List T) (n : Nat) : opN l (n + 1) = opN l n ∨ ∃ t, l[n]? = some t ∧ t.jts ≠ 0 ∧ opN l (n + 1) = opN l n ++ [t] := by
  cases h : l[n]? with
  | none =>
    refine .inl ?_
    show opN l n ++ (match l[n]? with | some t => if opK l n t then [t] else [] | none => []) = _
    rw [h, List.append_nil]
  | some t =>
    by_cases hk : opK l n t
    · exact .inr ⟨t, rfl, hk.1, opN_yes h hk⟩
    · exact .inl (opN_no h hk)
theorem opN_of {l : List T} {t : T} : ∀ {n : Nat}, t ∈ opN l n → ∃ i, i < n ∧ l[i]? = some t ∧ t.jts ≠ 0
  | 0, h => by cases h
  | n + 1, h => by
    rcases opN_step l n with e | ⟨u, h1, h2, e⟩
    · rw [e] at h
      obtain ⟨i, hi, h3⟩ := opN_of h
      exact ⟨i, by omega, h3⟩
    · rw [e] at h
      rcases List.mem_append.mp h with h | h
      · obtain ⟨i, hi, h3⟩ := opN_of h
        exact ⟨i, by omega, h3⟩
      · rw [List.mem_singleton.mp h]
        exact ⟨n, by omega, h1, h2⟩
theorem opN_mono {l : List T} {t : T} {n : Nat} (h : t ∈ opN l n) : ∀ k, t ∈ opN l (n + k)
  | 0 => h
  | k + 1 => by
    have h1 := opN_mono h k
    show t ∈ opN l (n + k + 1)
    rcases opN_step l (n + k) with e | ⟨u, _, _, e⟩
    · rw [e]; exact h1
    · rw [e]; exact List.mem_append_left _ h1
theorem opN_at {l : List T} {t : T} (hj : t.jts ≠ 0) : ∀ {i : Nat}, l[i]? = some t → t ∈ opN l (i + 1)
  | 0, h => by
    rw [opN_yes h ⟨hj, .inl rfl⟩]
    exact List.mem_append_right _ (List.mem_singleton.mpr rfl)
  | i + 1, h => by
    by_cases e : l[i]? = some t
    · exact opN_mono (opN_at hj e) 1
    · rw [opN_yes h ⟨hj, .inr e⟩]
      exact List.mem_append_right _ (List.mem_singleton.mpr rfl)
theorem opB_mem {l : List T} {t : T} : t ∈ opB l ↔ t ∈ l ∧ t.jts ≠ 0 := by
  constructor
  · intro h
    obtain ⟨i, _, h1, h2⟩ := opN_of h
    exact ⟨List.mem_of_getElem? h1, h2⟩
  · rintro ⟨h, hj⟩
    obtain ⟨i, hi, e⟩ := List.getElem_of_mem h
    have h1 : l[i]? = some t := by rw [← e]; exact List.getElem?_eq_getElem hi
    have h2 := opN_mono (opN_at hj h1) (l.length - (i + 1))
    rw [show i + 1 + (l.length - (i + 1)) = l.length by omega] at h2
    exact h2
theorem opN_len (l : List T) : ∀ n, (opN l n).length ≤ n
  | 0 => Nat.le_refl _
  | n + 1 => by
    have := opN_len l n
    rcases opN_step l n with e | ⟨u, _, _, e⟩
    · rw [e]; omega
    · rw [e, List.length_append, List.length_singleton]; omega
theorem opB_ne {l : List T} (h : jtsL l ≠ 0) : opB l ≠ [] := fun z => by
  obtain ⟨t, ht, hj⟩ := open_branch h
  have := opB_mem.mpr ⟨ht, hj⟩
  rw [z] at this
  cases this
theorem opB_words {l : List T} (h : jtsL l ≠ 0) : lcsL ((opB l).map T.word) = lcsL (wordsL l) := by
  refine lcs_mem (fun z => opB_ne h (List.map_eq_nil_iff.mp z)) fun w => ?_
  rw [List.mem_map, mem_words]
  exact ⟨fun ⟨t, h1, h2⟩ => ⟨t, (opB_mem.mp h1).1, (opB_mem.mp h1).2, h2⟩, fun ⟨t, h1, h2, h3⟩ => ⟨t, opB_mem.mpr ⟨h1, h2⟩, h3⟩⟩
end JW
namespace JW
def endsW (w : List T) : List T := (List.range (w.length + 1)).map fun k => prodT (w.drop (w.length - k))
theorem endsW_len (w : List T) : (endsW w).length = w.length + 1 := by
  unfold endsW
  rw [List.length_map, List.length_range]
theorem drop_suf {e w : List T} (h : e <:+ w) {k : Nat} (hk : k ≤ e.length) : w.drop (w.length - k) = e.drop (e.length - k) := by
  obtain ⟨t, rfl⟩ := h
  rw [List.length_append, List.drop_append, List.drop_of_length_le (by omega), List.nil_append, show t.length + e.length - k - t.length = e.length - k by omega]
theorem endsW_take {e w : List T} (h : e <:+ w) : (endsW w).take (e.length + 1) = endsW e := by
  have hl := h.length_le
  unfold endsW
  rw [← List.map_take, List.take_range, show min (e.length + 1) (w.length + 1) = e.length + 1 by omega]
  refine List.map_congr_left fun k hk => ?_
  rw [drop_suf h (by have := List.mem_range.mp hk; omega)]
theorem endsW_cons (q : T) (e : List T) : endsW (q :: e) = endsW e ++ [prodT (q :: e)] := by
  unfold endsW
  rw [List.length_cons, List.range_succ, List.map_append, List.map_singleton]
  congr 1
  · refine List.map_congr_left fun k hk => ?_
    rw [show e.length + 1 - k = (e.length - k) + 1 by have := List.mem_range.mp hk; omega, List.drop_succ_cons]
  · rw [show e.length + 1 - (e.length + 1) = 0 by omega, List.drop_zero]
theorem endsW_last (e : List T) : (endsW e)[(endsW e).length - 1]? = some (prodT e) := by
  rw [endsW_len]
  unfold endsW
  rw [show e.length + 1 - 1 = e.length by omega, List.getElem?_map, List.getElem?_range (by omega)]
  show some (prodT (e.drop (e.length - e.length))) = _
  rw [Nat.sub_self, List.drop_zero]
end JW
namespace AL
open PySem PySem.Spec PyProof.Rows L2 LamX JW
inductive D where
  | non | bl (b : Bool) | int (i : Int) | str (s : Str) | ref (p : Addr) | ty (n : String) | scr | tree (t : T)
  | tup (l : List D) | obj (C : Addr) (ks : List Str) (ds : List D)
inductive MO where
  | lst (l : List D) | dct (l : List (Key × D)) | ins (C : Addr) (ks : List Str) (ds : List D) | opq (P : HO → Prop)
abbrev Store := Addr → Option MO
def sput (L : Store) (p : Addr) (m : MO) : Store := fun q => if q = p then some m else L q
theorem sput_same {L : Store} {p : Addr} {m : MO} : sput L p m p = some m := by unfold sput; rw [if_pos rfl]
theorem sput_ne {L : Store} {p q : Addr} {m : MO} (h : q ≠ p) : sput L p m q = L q := by unfold sput; rw [if_neg h]
theorem sput_sput {L : Store} {p : Addr} {m n : MO} : sput (sput L p m) p n = sput L p n := by
  funext q; unfold sput; split <;> rfl
theorem sput_old {L : Store} {p q : Addr} {m n : MO} (h : L q = some m) (hp : L p = none) : sput L p n q = some m := by
  rw [sput_ne fun e => by rw [e, hp] at h; cases h]
  exact h
structure AC (K : PySem.W.Frag) where
  TT : List (Addr × Str)
  imm : List Str
  scr : Option (Addr × List Int)
def IC {K : PySem.W.Frag} (c : AC K) (C : Addr) : Prop := C = cF K ∨ ∃ x ∈ c.imm, C = He.ga K x
def Imm {K : PySem.W.Frag} (c : AC K) : HO → Prop
  | .tup _ => True
  | .ins C _ _ => IC c C
  | .frz _ _ => True
  | .xd _ => True
  | _ => False
def Fr {K : PySem.W.Frag} (c : AC K) (H H' : Hp) : Prop := ∀ a o, H a = some o → Imm c o → H' a = some o
section
variable {K : PySem.W.Frag} {c : AC K} {H H1 H' : Hp}
theorem Fr.refl (c : AC K) (H : Hp) : Fr c H H := fun _ _ h _ => h
theorem Fr.trans (a : Fr c H H1) (b : Fr c H1 H') : Fr c H H' := fun p o h i => b p o (a p o h i) i
theorem Fr.same (s : L2.Same H H') : Fr c H H' := fun p o h _ => s p o h
theorem Fr.new {p : Addr} {o : HO} (hp : H p = none) : Fr c H (upd H p o) := fun q u h _ => by
  rw [upd_ne (ne_of_none h hp)]
  exact h
theorem Fr.put {p : Addr} {o u : HO} (hp : H p = some u) (n : ¬ Imm c u) : Fr c H (upd H p o) := fun q v h i => by
  rw [upd_ne fun e => by subst e; rw [hp] at h; cases h; exact n i]
  exact h
theorem Fr.extN (s : ExtN H H') : Fr c H H' := fun p o h i => s p o h fun ps z => by subst z; exact i.elim
end
mutual
def RepC {K : PySem.W.Frag} (c : AC K) (H : Hp) : D → V → Prop
  | .non, v => v = .non
  | .bl b, v => v = .bl b
  | .int i, v => v = .int i
  | .str s, v => v = .str s
  | .ref p, v => v = .ref p
  | .ty n, v => v = .ty n
  | .scr, v => ∃ a ns, c.scr = some (a, ns) ∧ v = .ref a
  | .tree t, v => Ftn (cF K) H t v
  | .tup l, v => ∃ a vs, v = .ref a ∧ SqT K H a vs ∧ RepCL c H l vs
  | .obj C ks ds, v => ∃ a dx vs, v = .ref a ∧ H a = some (.ins C dx (ks.zip vs)) ∧ IC c C ∧ ks.length = ds.length ∧ RepCL c H ds vs
def RepCL {K : PySem.W.Frag} (c : AC K) (H : Hp) : List D → List V → Prop
  | [], vs => vs = []
  | d :: ds, vs => ∃ v r, vs = v :: r ∧ RepC c H d v ∧ RepCL c H ds r
end
structure Rep {K : PySem.W.Frag} (c : AC K) (H : Hp) (d : D) (v : V) : Prop where
  core : RepC c H d v
structure RepL {K : PySem.W.Frag} (c : AC K) (H : Hp) (l : List D) (vs : List V) : Prop where
  core : RepCL c H l vs
section
variable {K : PySem.W.Frag} {c : AC K} {H H1 H' : Hp}
theorem repL_nil {vs : List V} : RepL c H [] vs ↔ vs = [] := ⟨fun h => by have := h.core; simpa only [RepCL] using this, fun h => ⟨by simpa only [RepCL] using h⟩⟩
theorem repL_cons {d : D} {ds : List D} {vs : List V} : RepL c H (d :: ds) vs ↔ ∃ v r, vs = v :: r ∧ Rep c H d v ∧ RepL c H ds r := by
  constructor
  · rintro ⟨h⟩
    have h2 : ∃ v r, vs = v :: r ∧ RepC c H d v ∧ RepCL c H ds r := by simpa only [RepCL] using h
    obtain ⟨v, r, e, h1, h3⟩ := h2
    exact ⟨v, r, e, ⟨h1⟩, ⟨h3⟩⟩
  · rintro ⟨v, r, e, ⟨h1⟩, ⟨h3⟩⟩
    refine ⟨?_⟩
    simp only [RepCL]
    exact ⟨v, r, e, h1, h3⟩
theorem rep_tree {t : T} {v : V} : Rep c H (.tree t) v ↔ Ftn (cF K) H t v := ⟨fun h => by have := h.core; simpa only [RepC] using this, fun h => ⟨by simpa only [RepC] using h⟩⟩
theorem rep_tup {l : List D} {v : V} : Rep c H (.tup l) v ↔ ∃ a vs, v = .ref a ∧ SqT K H a vs ∧ RepL c H l vs := by
  constructor
  · rintro ⟨h⟩
    have h2 : ∃ a vs, v = .ref a ∧ SqT K H a vs ∧ RepCL c H l vs := by simpa only [RepC] using h
    obtain ⟨a, vs, e, h1, h3⟩ := h2
    exact ⟨a, vs, e, h1, ⟨h3⟩⟩
  · rintro ⟨a, vs, e, h1, ⟨h3⟩⟩
    refine ⟨?_⟩
    simp only [RepC]
    exact ⟨a, vs, e, h1, h3⟩
theorem rep_obj {C : Addr} {ks : List Str} {ds : List D} {v : V} : Rep c H (.obj C ks ds) v ↔ ∃ a dx vs, v = .ref a ∧ H a = some (.ins C dx (ks.zip vs)) ∧ IC c C ∧ ks.length = ds.length ∧ RepL c H ds vs := by
  constructor
  · rintro ⟨h⟩
    have h2 : ∃ a dx vs, v = .ref a ∧ H a = some (.ins C dx (ks.zip vs)) ∧ IC c C ∧ ks.length = ds.length ∧ RepCL c H ds vs := by simpa only [RepC] using h
    obtain ⟨a, dx, vs, e, h1, h2, h4, h3⟩ := h2
    exact ⟨a, dx, vs, e, h1, h2, h4, ⟨h3⟩⟩
  · rintro ⟨a, dx, vs, e, h1, h2, h4, ⟨h3⟩⟩
    refine ⟨?_⟩
    simp only [RepC]
    exact ⟨a, dx, vs, e, h1, h2, h4, h3⟩
theorem rep_non {v : V} : Rep c H .non v ↔ v = .non := ⟨fun h => by have := h.core; simpa only [RepC] using this, fun h => ⟨by simpa only [RepC] using h⟩⟩
theorem rep_bl {b : Bool} {v : V} : Rep c H (.bl b) v ↔ v = .bl b := ⟨fun h => by have := h.core; simpa only [RepC] using this, fun h => ⟨by simpa only [RepC] using h⟩⟩
theorem rep_int {i : Int} {v : V} : Rep c H (.int i) v ↔ v = .int i := ⟨fun h => by have := h.core; simpa only [RepC] using this, fun h => ⟨by simpa only [RepC] using h⟩⟩
theorem rep_str {z : Str} {v : V} : Rep c H (.str z) v ↔ v = .str z := ⟨fun h => by have := h.core; simpa only [RepC] using this, fun h => ⟨by simpa only [RepC] using h⟩⟩
theorem rep_ref {p : Addr} {v : V} : Rep c H (.ref p) v ↔ v = .ref p := ⟨fun h => by have := h.core; simpa only [RepC] using this, fun h => ⟨by simpa only [RepC] using h⟩⟩
theorem rep_ty {n : String} {v : V} : Rep c H (.ty n) v ↔ v = .ty n := ⟨fun h => by have := h.core; simpa only [RepC] using this, fun h => ⟨by simpa only [RepC] using h⟩⟩
theorem rep_scr {v : V} : Rep c H .scr v ↔ ∃ a ns, c.scr = some (a, ns) ∧ v = .ref a := ⟨fun h => by have := h.core; simpa only [RepC] using this, fun h => ⟨by simpa only [RepC] using h⟩⟩
mutual
theorem ftn_fr (s : Fr c H H') : ∀ (t : T) (v : V), Ftn (cF K) H t v → Ftn (cF K) H' t v
  | .jet, v, h => by
    have h2 : ∃ a dx b n, v = .ref a ∧ H a = some (.ins (cF K) dx (flds .jet b n)) ∧ H b = some (.tup []) ∧ H n = some (.tup (nums .jet)) := h
    obtain ⟨a, dx, b, n, ev, h1, h2, h3⟩ := h2
    exact ⟨a, dx, b, n, ev, s _ _ h1 (.inl rfl), s _ _ h2 trivial, s _ _ h3 trivial⟩
  | .bas l, v, h => by
    have h2 : ∃ a dx b n vs, v = .ref a ∧ H a = some (.ins (cF K) dx (flds (.bas l) b n)) ∧ H b = some (.tup vs) ∧ H n = some (.tup (nums (.bas l))) ∧ FtnL (cF K) H l vs := h
    obtain ⟨a, dx, b, n, vs, ev, h1, h2, h3, h4⟩ := h2
    exact ⟨a, dx, b, n, vs, ev, s _ _ h1 (.inl rfl), s _ _ h2 trivial, s _ _ h3 trivial, ftnL_fr s l vs h4⟩
theorem ftnL_fr (s : Fr c H H') : ∀ (l : List T) (vs : List V), FtnL (cF K) H l vs → FtnL (cF K) H' l vs
  | [], vs, h => h
  | t :: ts, vs, h => by
    have h2 : ∃ v r, vs = v :: r ∧ Ftn (cF K) H t v ∧ FtnL (cF K) H ts r := h
    obtain ⟨v, r, ev, h1, h2⟩ := h2
    exact ⟨v, r, ev, ftn_fr s t v h1, ftnL_fr s ts r h2⟩
end
theorem sqT_fr (s : Fr c H H') {a : Addr} {vs : List V} (h : SqT K H a vs) : SqT K H' a vs := by
  rcases h with (h | ⟨o, h⟩) | h
  · exact .inl (.inl (s _ _ h trivial))
  · exact .inl (.inr ⟨o, s _ _ h trivial⟩)
  · exact .inr h
mutual
theorem rep_fr (s : Fr c H H') : ∀ (d : D) (v : V), Rep c H d v → Rep c H' d v
  | .non, v, h => rep_non.mpr (rep_non.mp h)
  | .bl _, v, h => rep_bl.mpr (rep_bl.mp h)
  | .int _, v, h => rep_int.mpr (rep_int.mp h)
  | .str _, v, h => rep_str.mpr (rep_str.mp h)
  | .ref _, v, h => rep_ref.mpr (rep_ref.mp h)
  | .ty _, v, h => rep_ty.mpr (rep_ty.mp h)
  | .scr, v, h => rep_scr.mpr (rep_scr.mp h)
  | .tree t, v, h => rep_tree.mpr (ftn_fr s t v (rep_tree.mp h))
  | .tup l, v, h => by
    obtain ⟨a, vs, e, h1, h3⟩ := rep_tup.mp h
    exact rep_tup.mpr ⟨a, vs, e, sqT_fr s h1, repL_fr s l vs h3⟩
  | .obj C ks ds, v, h => by
    obtain ⟨a, dx, vs, e, h1, h4, h5, h3⟩ := rep_obj.mp h
    exact rep_obj.mpr ⟨a, dx, vs, e, s _ _ h1 h4, h4, h5, repL_fr s ds vs h3⟩
theorem repL_fr (s : Fr c H H') : ∀ (l : List D) (vs : List V), RepL c H l vs → RepL c H' l vs
  | [], vs, h => repL_nil.mpr (repL_nil.mp h)
  | d :: ds, vs, h => by
    obtain ⟨v, r, e, h1, h3⟩ := repL_cons.mp h
    exact repL_cons.mpr ⟨v, r, e, rep_fr s d v h1, repL_fr s ds r h3⟩
end
theorem Rep.fr {d : D} {v : V} (h : Rep c H d v) (s : Fr c H H') : Rep c H' d v := rep_fr s d v h
theorem RepL.fr {l : List D} {vs : List V} (h : RepL c H l vs) (s : Fr c H H') : RepL c H' l vs := repL_fr s l vs h
theorem RepL.len : ∀ {l : List D} {vs : List V}, RepL c H l vs → vs.length = l.length
  | [], vs, h => by rw [repL_nil.mp h]; rfl
  | d :: ds, vs, h => by
    obtain ⟨v, r, rfl, _, h2⟩ := repL_cons.mp h
    show r.length + 1 = ds.length + 1
    rw [h2.len]
theorem RepL.get : ∀ {l : List D} {vs : List V} {i : Nat} {d : D}, RepL c H l vs → l[i]? = some d → ∃ v, vs[i]? = some v ∧ Rep c H d v
  | [], vs, i, d, h, e => by simp at e
  | x :: ds, vs, 0, d, h, e => by
    obtain ⟨v, r, rfl, h1, h2⟩ := repL_cons.mp h
    simp at e
    subst e
    exact ⟨v, rfl, h1⟩
  | x :: ds, vs, i + 1, d, h, e => by
    obtain ⟨v, r, rfl, h1, h2⟩ := repL_cons.mp h
    obtain ⟨u, e1, e2⟩ := h2.get (by simpa using e)
    exact ⟨u, by simpa using e1, e2⟩
theorem RepL.getV {l : List D} {vs : List V} {i : Nat} {v : V} (h : RepL c H l vs) (e : vs[i]? = some v) : ∃ d, l[i]? = some d ∧ Rep c H d v := by
  have hi : i < l.length := by
    rw [← h.len]
    exact (List.getElem?_eq_some_iff.mp e).1
  obtain ⟨u, e1, r⟩ := h.get (List.getElem?_eq_getElem hi)
  rw [e] at e1
  cases e1
  exact ⟨_, List.getElem?_eq_getElem hi, r⟩
theorem RepL.app : ∀ {l m : List D} {vs ws : List V}, RepL c H l vs → RepL c H m ws → RepL c H (l ++ m) (vs ++ ws)
  | [], m, vs, ws, h, g => by
    rw [repL_nil.mp h]
    exact g
  | d :: ds, m, vs, ws, h, g => by
    obtain ⟨v, r, rfl, h1, h2⟩ := repL_cons.mp h
    exact repL_cons.mpr ⟨v, r ++ ws, rfl, h1, h2.app g⟩
theorem RepL.one {d : D} {v : V} (h : Rep c H d v) : RepL c H [d] [v] := repL_cons.mpr ⟨v, [], rfl, h, repL_nil.mpr rfl⟩
theorem RepL.cons {d : D} {v : V} {l : List D} {vs : List V} (h : Rep c H d v) (g : RepL c H l vs) : RepL c H (d :: l) (v :: vs) := repL_cons.mpr ⟨v, vs, rfl, h, g⟩
theorem RepL.nil : RepL c H [] [] := repL_nil.mpr rfl
theorem RepL.drop : ∀ {l : List D} {vs : List V} (n : Nat), RepL c H l vs → RepL c H (l.drop n) (vs.drop n)
  | l, vs, 0, h => by simpa using h
  | [], vs, n + 1, h => by
    rw [repL_nil.mp h]
    exact RepL.nil
  | d :: ds, vs, n + 1, h => by
    obtain ⟨v, r, rfl, h1, h2⟩ := repL_cons.mp h
    simpa using h2.drop n
theorem RepL.take : ∀ {l : List D} {vs : List V} (n : Nat), RepL c H l vs → RepL c H (l.take n) (vs.take n)
  | l, vs, 0, h => by simpa using RepL.nil
  | [], vs, n + 1, h => by
    rw [repL_nil.mp h]
    simpa using RepL.nil
  | d :: ds, vs, n + 1, h => by
    obtain ⟨v, r, rfl, h1, h2⟩ := repL_cons.mp h
    simpa using RepL.cons h1 (h2.take n)
theorem RepL.set : ∀ {l : List D} {vs : List V} {d : D} {v : V} (n : Nat), RepL c H l vs → Rep c H d v → RepL c H (l.set n d) (vs.set n v)
  | [], vs, d, v, n, h, g => by
    rw [repL_nil.mp h]
    exact RepL.nil
  | x :: ds, vs, d, v, 0, h, g => by
    obtain ⟨y, r, rfl, h1, h2⟩ := repL_cons.mp h
    exact RepL.cons g h2
  | x :: ds, vs, d, v, n + 1, h, g => by
    obtain ⟨y, r, rfl, h1, h2⟩ := repL_cons.mp h
    exact RepL.cons h1 (h2.set n g)
theorem RepL.eraseIdx : ∀ {l : List D} {vs : List V} (n : Nat), RepL c H l vs → RepL c H (l.eraseIdx n) (vs.eraseIdx n)
  | [], vs, n, h => by
    rw [repL_nil.mp h]
    exact RepL.nil
  | x :: ds, vs, 0, h => by
    obtain ⟨y, r, rfl, h1, h2⟩ := repL_cons.mp h
    exact h2
  | x :: ds, vs, n + 1, h => by
    obtain ⟨y, r, rfl, h1, h2⟩ := repL_cons.mp h
    exact RepL.cons h1 (h2.eraseIdx n)
theorem RepL.ints : ∀ {l : List Int} {vs : List V}, RepL c H (l.map D.int) vs ↔ vs = l.map V.int
  | [], vs => repL_nil
  | i :: l, vs => by
    rw [List.map_cons, List.map_cons, repL_cons]
    constructor
    · rintro ⟨v, r, rfl, h1, h2⟩
      rw [rep_int.mp h1, RepL.ints.mp h2]
    · rintro rfl
      exact ⟨_, _, rfl, rep_int.mpr rfl, RepL.ints.mpr rfl⟩
theorem RepL.strs : ∀ {l : List Str} {vs : List V}, RepL c H (l.map D.str) vs ↔ vs = l.map V.str
  | [], vs => repL_nil
  | i :: l, vs => by
    rw [List.map_cons, List.map_cons, repL_cons]
    constructor
    · rintro ⟨v, r, rfl, h1, h2⟩
      rw [rep_str.mp h1, RepL.strs.mp h2]
    · rintro rfl
      exact ⟨_, _, rfl, rep_str.mpr rfl, RepL.strs.mpr rfl⟩
theorem RepL.trees : ∀ {l : List T} {vs : List V}, RepL c H (l.map D.tree) vs ↔ FtnL (cF K) H l vs
  | [], vs => repL_nil
  | t :: l, vs => by
    rw [List.map_cons, repL_cons]
    constructor
    · rintro ⟨v, r, rfl, h1, h2⟩
      exact ⟨v, r, rfl, rep_tree.mp h1, RepL.trees.mp h2⟩
    · rintro ⟨v, r, rfl, h1, h2⟩
      exact ⟨v, r, rfl, rep_tree.mpr h1, RepL.trees.mpr h2⟩
end
def MRep {K : PySem.W.Frag} (c : AC K) (H : Hp) (p : Addr) : MO → Prop
  | .lst l => ∃ vs, H p = some (.lst vs) ∧ RepL c H l vs
  | .dct l => ∃ kvs, H p = some (.dK kvs) ∧ kvs.map (·.1) = l.map (·.1) ∧ RepL c H (l.map (·.2)) (kvs.map (·.2))
  | .ins C ks ds => ∃ dx vs, H p = some (.ins C dx (ks.zip vs)) ∧ ¬ IC c C ∧ ks.length = ds.length ∧ RepL c H ds vs
  | .opq P => ∃ o, H p = some o ∧ P o ∧ ¬ Imm c o ∧ (∀ ps, o ≠ .tbl ps) ∧ (∀ φ, o ≠ .ext φ) ∧ ∀ xs, ¬ P (.lst xs)
def ScrOk {K : PySem.W.Frag} (c : AC K) (L : Store) (H : Hp) : Prop := ∀ a ns, c.scr = some (a, ns) → ns.length ≤ 63 ∧
  ((H a = some (.lst (ns.map V.int)) ∧ L a = none) ∨ (∃ o, H a = some (.frz o (.lst (ns.map V.int)))) ∨ (∃ (o : Obj) (its : Array Value) (n : Nat), K.lookup a = some o ∧ o.cls = .type "list" ∧ o.dict = none ∧ o.data = .seq its n ∧ its.size ≤ sizeLine ∧ Vals (ns.map V.int) its.toList))
structure Good {K : PySem.W.Frag} (c : AC K) (L : Store) (H : Hp) : Prop where
  tabs : Tabs c.TT H
  st : ∀ p m, L p = some m → MRep c H p m
  scr : ScrOk c L H
section
variable {K : PySem.W.Frag} {c : AC K} {H H1 H' : Hp} {L : Store} {p : Addr} {m : MO}
theorem MRep.at (h : MRep c H p m) : ∃ o, H p = some o ∧ ¬ Imm c o ∧ (∀ ps, o ≠ .tbl ps) ∧ ∀ φ, o ≠ .ext φ := by
  cases m with
  | lst l => obtain ⟨vs, e, _⟩ := h; exact ⟨_, e, fun z => z, fun _ z => (by cases z), fun _ z => (by cases z)⟩
  | dct l => obtain ⟨vs, e, _⟩ := h; exact ⟨_, e, fun z => z, fun _ z => (by cases z), fun _ z => (by cases z)⟩
  | ins C ks ds => obtain ⟨dx, vs, e, n, _⟩ := h; exact ⟨_, e, n, fun _ z => (by cases z), fun _ z => (by cases z)⟩
  | opq P => obtain ⟨o, e, _, r1, r2, r3, _⟩ := h; exact ⟨o, e, r1, r2, r3⟩
theorem MRep.mono (h : MRep c H p m) (e : H' p = H p) (s : Fr c H H') : MRep c H' p m := by
  cases m with
  | lst l => obtain ⟨vs, e1, r⟩ := h; exact ⟨vs, e.trans e1, r.fr s⟩
  | dct l => obtain ⟨vs, e1, k, r⟩ := h; exact ⟨vs, e.trans e1, k, r.fr s⟩
  | ins C ks ds => obtain ⟨dx, vs, e1, n, k, r⟩ := h; exact ⟨dx, vs, e.trans e1, n, k, r.fr s⟩
  | opq P => obtain ⟨o, e1, r⟩ := h; exact ⟨o, e.trans e1, r⟩
theorem Good.fresh (g : Good c L H) (h : H p = none) : L p = none := by
  cases e : L p with
  | none => rfl
  | some m =>
    obtain ⟨o, e2, _⟩ := (g.st p m e).at
    rw [h] at e2
    cases e2
theorem tabs_upd {TT : List (Addr × Str)} {o u : HO} (t : Tabs TT H) (hd : ∀ v, H p = some v → (∀ ps, v ≠ .tbl ps) ∧ ∀ φ, v ≠ .ext φ) : Tabs TT (upd H p u) := fun q hq => by
  obtain ⟨ps, h1, h2, h3⟩ := t q hq
  have ne1 : q.1 ≠ p := fun e => (hd _ (e ▸ h1)).1 ps rfl
  refine ⟨ps, by rw [upd_ne ne1]; exact h1, h2, fun pos cv hc => ?_⟩
  obtain ⟨k, e1, e2⟩ := h3 pos cv hc
  have ne2 : k ≠ p := fun e => (hd _ (e ▸ e2)).2 _ rfl
  exact ⟨k, e1, by rw [upd_ne ne2]; exact e2⟩
theorem Good.alloc (g : Good c L H) (hp : H p = none) (o : HO) (hm : MRep c (upd H p o) p m) : Good c (sput L p m) (upd H p o) := by
  have s : Fr c H (upd H p o) := .new hp
  refine ⟨tabs_upd (o := o) g.tabs fun v e => (by rw [hp] at e; cases e), fun q n e => ?_, fun a ns e => ?_⟩
  · by_cases hq : q = p
    · subst hq
      rw [sput_same] at e
      cases e
      exact hm
    · rw [sput_ne hq] at e
      exact (g.st q n e).mono (upd_ne hq) s
  · refine ⟨(g.scr a ns e).1, ?_⟩
    rcases (g.scr a ns e).2 with ⟨h1, h2⟩ | ⟨o', h⟩ | h
    · have ne : a ≠ p := fun z => by subst z; rw [hp] at h1; cases h1
      exact .inl ⟨by rw [upd_ne ne]; exact h1, by rw [sput_ne ne]; exact h2⟩
    · have ne : a ≠ p := fun z => by subst z; rw [hp] at h; cases h
      exact .inr (.inl ⟨o', by rw [upd_ne ne]; exact h⟩)
    · exact .inr (.inr h)
theorem Good.new (g : Good c L H) (hp : H p = none) (o : HO) : Good c L (upd H p o) := by
  have s : Fr c H (upd H p o) := .new hp
  refine ⟨tabs_upd (o := o) g.tabs fun v e => (by rw [hp] at e; cases e), fun q n e => ?_, fun a ns e => ?_⟩
  · have hq : q ≠ p := fun z => by subst z; rw [g.fresh hp] at e; cases e
    exact (g.st q n e).mono (upd_ne hq) s
  · refine ⟨(g.scr a ns e).1, ?_⟩
    rcases (g.scr a ns e).2 with ⟨h1, h2⟩ | ⟨o', h⟩ | h
    · have ne : a ≠ p := fun z => by subst z; rw [hp] at h1; cases h1
      exact .inl ⟨by rw [upd_ne ne]; exact h1, h2⟩
    · have ne : a ≠ p := fun z => by subst z; rw [hp] at h; cases h
      exact .inr (.inl ⟨o', by rw [upd_ne ne]; exact h⟩)
    · exact .inr (.inr h)
theorem Good.put {m' : MO} (g : Good c L H) (hp : L p = some m) (o : HO) (hm : MRep c (upd H p o) p m') : Good c (sput L p m') (upd H p o) ∧ Fr c H (upd H p o) := by
  obtain ⟨u, e0, n0, n1, n2⟩ := (g.st p m hp).at
  have s : Fr c H (upd H p o) := .put e0 n0
  refine ⟨⟨tabs_upd (o := o) g.tabs fun v e => by rw [e0] at e; cases e; exact ⟨n1, n2⟩, fun q n e => ?_, fun a ns e => ?_⟩, s⟩
  · by_cases hq : q = p
    · subst hq
      rw [sput_same] at e
      cases e
      exact hm
    · rw [sput_ne hq] at e
      exact (g.st q n e).mono (upd_ne hq) s
  · refine ⟨(g.scr a ns e).1, ?_⟩
    rcases (g.scr a ns e).2 with ⟨h1, h2⟩ | ⟨o', h⟩ | h
    · have ne : a ≠ p := fun z => by subst z; rw [hp] at h2; cases h2
      exact .inl ⟨by rw [upd_ne ne]; exact h1, by rw [sput_ne ne]; exact h2⟩
    · have ne : a ≠ p := fun z => by subst z; rw [e0] at h; cases h; exact n0 trivial
      exact .inr (.inl ⟨o', by rw [upd_ne ne]; exact h⟩)
    · exact .inr (.inr h)
theorem Good.keep (g : Good c L H) (t : Tabs c.TT H') (s : Fr c H H') (k : ∀ q n, L q = some n → H' q = H q) (hs : ∀ a ns, c.scr = some (a, ns) → H a = some (.lst (ns.map V.int)) → H' a = H a) : Good c L H' := by
  refine ⟨t, fun q n e => (g.st q n e).mono (k q n e) s, fun a ns e => ?_⟩
  refine ⟨(g.scr a ns e).1, ?_⟩
  rcases (g.scr a ns e).2 with ⟨h1, h2⟩ | ⟨o', h⟩ | h
  · exact .inl ⟨(hs a ns e h1).trans h1, h2⟩
  · exact .inr (.inl ⟨o', s _ _ h trivial⟩)
  · exact .inr (.inr h)
theorem Good.extN (g : Good c L H) (t : Tabs c.TT H') (s : ExtN H H') : Good c L H' := by
  refine g.keep t (.extN s) (fun q n e => ?_) fun a ns e h => ?_
  · obtain ⟨o, e0, _, n1, _⟩ := (g.st q n e).at
    rw [s _ _ e0 n1, e0]
  · rw [s _ _ h (fun ps z => by cases z), h]
theorem Good.same (g : Good c L H) (s : L2.Same H H') : Good c L H' := g.extN (JW.Tabs.same g.tabs s) (.of s)
end
section
variable {K : PySem.W.Frag} {c : AC K} {H H1 H' : Hp} {L : Store}
theorem Good.seq (g : Good c L H) {a : Addr} {ns : List Int} (e : c.scr = some (a, ns)) : SqL K H a (ns.map V.int) := by
  rcases (g.scr a ns e).2 with ⟨h, _⟩ | ⟨o, h⟩ | h
  · exact .inl (.inl h)
  · exact .inl (.inr ⟨o, h⟩)
  · exact .inr h
def law0 : Store := fun _ => none
theorem good_law {a : Addr} {ns : List Int} (hs : c.scr = some (a, ns)) (hl : ns.length ≤ 63) (h : SqL K H a (ns.map V.int)) (t : Tabs c.TT H) : Good c law0 H := by
  refine ⟨t, fun q n e => (by cases e), fun b ms e => ?_⟩
  rw [hs] at e
  cases e
  refine ⟨hl, ?_⟩
  rcases h with (h | ⟨o, h⟩) | h
  · exact .inl ⟨h, rfl⟩
  · exact .inr (.inl ⟨o, h⟩)
  · exact .inr (.inr h)
theorem Good.sameNew {d : Addr} {m : MO} (g : Good c L H) (s : L2.Same H H') (hd : H d = none) (hm : MRep c H' d m) : Good c (sput L d m) H' := by
  have g' := g.same s
  refine ⟨g'.tabs, fun q n e => ?_, fun a ns e => ?_⟩
  · by_cases hq : q = d
    · subst hq
      rw [sput_same] at e
      cases e
      exact hm
    · rw [sput_ne hq] at e
      exact g'.st q n e
  · refine ⟨(g.scr a ns e).1, ?_⟩
    rcases (g.scr a ns e).2 with ⟨h1, h2⟩ | ⟨o, h⟩ | h
    · exact .inl ⟨s _ _ h1, by rw [sput_ne (ne_of_none h1 hd)]; exact h2⟩
    · exact .inr (.inl ⟨o, s _ _ h⟩)
    · exact .inr (.inr h)
def SubS (L0 L : Store) : Prop := ∀ p m, L0 p = some m → L p = some m
theorem SubS.refl (L : Store) : SubS L L := fun _ _ h => h
theorem SubS.trans {L0 L1 L2 : Store} (a : SubS L0 L1) (b : SubS L1 L2) : SubS L0 L2 := fun p m h => b p m (a p m h)
theorem SubS.new {L0 L : Store} {p : Addr} {m : MO} (a : SubS L0 L) (hp : L p = none) : SubS L0 (sput L p m) := fun q n h => sput_old (a q n h) hp
theorem SubS.put {L0 L : Store} {p : Addr} {m : MO} (a : SubS L0 L) (hp : L0 p = none) : SubS L0 (sput L p m) := fun q n h => by
  rw [sput_ne fun e => by rw [e, hp] at h; cases h]
  exact a q n h
theorem SubS.none {L0 L : Store} {p : Addr} (a : SubS L0 L) (hp : L p = none) : L0 p = none := by
  cases e : L0 p with
  | none => rfl
  | some m => rw [a p m e] at hp; cases hp
theorem SubS.mine {L0 L : Store} {p : Addr} {m : MO} (a : SubS L0 L) (hp : L p = some m) : SubS (sput L0 p m) L := fun q n h => by
  by_cases e : q = p
  · subst e
    rw [sput_same] at h
    cases h
    exact hp
  · rw [sput_ne e] at h
    exact a q n h
theorem Good.sub {L0 : Store} (g : Good c L H) (s : SubS L0 L) : Good c L0 H := by
  refine ⟨g.tabs, fun q n e => g.st q n (s q n e), fun a ns e => ⟨(g.scr a ns e).1, ?_⟩⟩
  rcases (g.scr a ns e).2 with ⟨h1, h2⟩ | h
  · exact .inl ⟨h1, s.none h2⟩
  · exact .inr h
end
end AL
namespace AL
open PySem PySem.Spec PyProof.Rows L2 LamX JW
abbrev En := List (Option D)
abbrev AQ := D → Store → Prop
abbrev AX := Str → List (Str × D) → Store → Prop
abbrev ATE := En → Store → AQ → Prop
abbrev ATT := En → Store → (Bool → Store → Prop) → Prop
abbrev ATA := En → Store → (List D → Store → Prop) → Prop
structure AEnds where
  nx : En → Store → Prop
  rt : AQ
  bk : En → Store → Prop := fun _ _ => False
  ct : En → Store → Prop := fun _ _ => False
abbrev ATS := AEnds → En → Store → Prop
abbrev ATG := D → En → Store → (En → Store → Prop) → Prop
abbrev ATGs := List D → En → Store → (En → Store → Prop) → Prop
abbrev ATI := En → Store → (List D → (Store → Prop) → Store → Prop) → Prop
abbrev ASp := List D → Store → AQ → AX → Prop
def anyX : AX := fun _ _ _ => True
section
variable {K : PySem.W.Frag}
structure EnvR (c : AC K) (H : Hp) (σ : L2.St) (env : En) : Prop where
  len : σ.length = env.length
  get : ∀ (i : Nat) (d : D), env[i]? = some (some d) → ∃ v : V, σ[i]? = some (some v) ∧ Rep c H d v
structure Rl (c : AC K) (H0 : Hp) (σ : L2.St) (H : Hp) (env : En) (L : Store) : Prop where
  env : EnvR c H σ env
  good : Good c L H
  fr : Fr c H0 H
def Pq (c : AC K) (H : Hp) (R : AQ) (Q : VK) : Prop := ∀ d L' v H', R d L' → Fr c H H' → Good c L' H' → Rep c H' d v → Q v H'
def ErrR (c : AC K) (H : Hp) (fs : List (Str × D)) (dd : Option Addr) : Prop := (fs = [] ∧ dd = none) ∨ ∃ f d a v, fs = [(f, d)] ∧ dd = some a ∧ H a = some (.xd [(f, v)]) ∧ Rep c H d v
def Px (c : AC K) (H : Hp) (R : AX) (E : XK) : Prop := ∀ x fs L' H' dd, R x fs L' → Fr c H H' → Good c L' H' → ErrR c H' fs dd → E (.ref (He.ga K x)) dd H'
end
section
variable {K : PySem.W.Frag} {c : AC K} {H0 H H1 H' : Hp} {σ : L2.St} {env : En} {L L1 : Store} {Q : VK} {R : AQ} {d : D} {v : V}
theorem EnvR.fr (h : EnvR c H σ env) (s : Fr c H H1) : EnvR c H1 σ env := ⟨h.len, fun i d e => by
  obtain ⟨v, e1, r⟩ := h.get i d e
  exact ⟨v, e1, r.fr s⟩⟩
theorem EnvR.set (h : EnvR c H σ env) (i : Nat) (r : Rep c H d v) : EnvR c H (σ.set i (some v)) (env.set i (some d)) := by
  refine ⟨by rw [List.length_set, List.length_set, h.len], fun j e hj => ?_⟩
  by_cases hi : i = j
  · subst hi
    have lt : i < env.length := by
      rcases Nat.lt_or_ge i env.length with z | z
      · exact z
      · rw [List.getElem?_eq_none (by simpa using z)] at hj
        cases hj
    rw [List.getElem?_set_self lt] at hj
    cases hj
    exact ⟨v, List.getElem?_set_self (by rw [h.len]; exact lt), r⟩
  · rw [List.getElem?_set_ne hi] at hj
    obtain ⟨u, e1, r1⟩ := h.get j e hj
    exact ⟨u, by rw [List.getElem?_set_ne hi]; exact e1, r1⟩
theorem Rl.step (h : Rl c H0 σ H env L) (s : Fr c H H1) (g : Good c L1 H1) : Rl c H0 σ H1 env L1 := ⟨h.env.fr s, g, h.fr.trans s⟩
theorem Pq.fr (h : Pq c H R Q) (s : Fr c H H1) : Pq c H1 R Q := fun d L' v H' r f g p => h d L' v H' r (s.trans f) g p
theorem Pq.here (h : Pq c H R Q) (r : R d L) (g : Good c L H) (p : Rep c H d v) : Q v H := h d L v H r (.refl c H) g p
theorem Pq.new (h : Pq c H R Q) {p : Addr} {o : HO} (hp : H p = none) (r : R d L) (g : Good c L H) (q : Rep c (upd H p o) d v) : Q v (upd H p o) := h d L v _ r (.new hp) (g.new hp o) q
theorem Pq.alloc (h : Pq c H R Q) {p : Addr} {o : HO} {m : MO} (hp : H p = none) (r : R (.ref p) (sput L p m)) (g : Good c L H) (q : MRep c (upd H p o) p m) : Q (.ref p) (upd H p o) :=
  h (.ref p) _ _ _ r (.new hp) (g.alloc hp o q) (rep_ref.mpr rfl)
theorem Px.fr {RX : AX} {E : XK} (h : Px c H RX E) (s : Fr c H H1) : Px c H1 RX E := fun x fs L' H' dd r f g p => h x fs L' H' dd r (s.trans f) g p
end
section
variable {K : PySem.W.Frag}
def lowE (c : AC K) (H0 : Hp) (a : ATE) : TE := fun σ H Q => ∃ env L R, Rl c H0 σ H env L ∧ a env L R ∧ Pq c H R Q
def lowT (c : AC K) (H0 : Hp) (a : ATT) : TT := fun σ H Q => ∃ env L R, Rl c H0 σ H env L ∧ a env L R ∧ ∀ b L' H', R b L' → Fr c H H' → Good c L' H' → Q b H'
def lowA (c : AC K) (H0 : Hp) (a : ATA) : TA := fun σ H Q => ∃ env L R, Rl c H0 σ H env L ∧ a env L R ∧ ∀ ds L' vs H', R ds L' → Fr c H H' → Good c L' H' → RepL c H' ds vs → Q vs H'
structure EndR (c : AC K) (H0 : Hp) (H : Hp) (R : AEnds) (D : Ends) : Prop where
  nx : ∀ env' L' σ' H', R.nx env' L' → Fr c H H' → Rl c H0 σ' H' env' L' → D.nx σ' H'
  rt : ∀ d L' v H', R.rt d L' → Fr c H H' → Good c L' H' → Rep c H' d v → D.rt v H'
  bk : ∀ env' L' σ' H', R.bk env' L' → Fr c H H' → Rl c H0 σ' H' env' L' → D.bk σ' H'
  ct : ∀ env' L' σ' H', R.ct env' L' → Fr c H H' → Rl c H0 σ' H' env' L' → D.ct σ' H'
def lowS (c : AC K) (H0 : Hp) (a : ATS) : TS := fun D σ H => ∃ env L R, Rl c H0 σ H env L ∧ a R env L ∧ EndR c H0 H R D
def lowG (c : AC K) (H0 : Hp) (a : ATG) : TG := fun v σ H Q => ∃ d env L R, Rep c H d v ∧ Rl c H0 σ H env L ∧ a d env L R ∧ ∀ env' L' σ' H', R env' L' → Fr c H H' → Rl c H0 σ' H' env' L' → Q σ' H'
def lowGs (c : AC K) (H0 : Hp) (a : ATGs) : TGs := fun vs σ H Q => ∃ ds env L R, RepL c H ds vs ∧ Rl c H0 σ H env L ∧ a ds env L R ∧ ∀ env' L' σ' H', R env' L' → Fr c H H' → Rl c H0 σ' H' env' L' → Q σ' H'
structure WalkA (c : AC K) (J : It) (items : List D) (G : Store → Prop) (H : Hp) : Prop where
  ex : ∃ GH : Hp → Prop, Walk J items.length GH (fun i H x H' => Fr c H H' ∧ (∀ L, Good c L H → Good c L H') ∧ ∃ d, items[i]? = some d ∧ Rep c H' d x) ∧ ∀ L H', Fr c H H' → Good c L H' → G L → GH H'
def lowI (c : AC K) (H0 : Hp) (a : ATI) : TI := fun σ H Q => ∃ env L R, Rl c H0 σ H env L ∧ a env L R ∧ ∀ items G L' J H', R items G L' → Fr c H H' → Good c L' H' → WalkA c J items G H' → Q J H'
def spA (c : AC K) (asp : ASp) : Sp := fun vs H Q E => ∃ ds L R RX, RepL c H ds vs ∧ Good c L H ∧ asp ds L R RX ∧ Pq c H R Q ∧ Px c H RX E
end
theorem EndR.fr {K : PySem.W.Frag} {c : AC K} {H0 H H1 : Hp} {R : AEnds} {D : Ends} (h : EndR c H0 H R D) (s : Fr c H H1) : EndR c H0 H1 R D :=
  ⟨fun e l σ h' r f => h.nx e l σ h' r (s.trans f), fun d l v h' r f => h.rt d l v h' r (s.trans f), fun e l σ h' r f => h.bk e l σ h' r (s.trans f), fun e l σ h' r f => h.ct e l σ h' r (s.trans f)⟩
section
variable (X : Cx) (c : AC X.K) (H0 : Hp)
def AE (e : Expr) (a : ATE) : Prop := PE X e (lowE c H0 a)
def AT (e : Expr) (a : ATT) : Prop := PT X e (lowT c H0 a)
def AW (e : Expr) (a : ATT) : Prop := PW X e (lowT c H0 a)
def AA (es : List Expr) (a : ATA) : Prop := PA X es (lowA c H0 a)
def AS (st : Stmt) (a : ATS) : Prop := PS X st (lowS c H0 a)
def ASs (st : List Stmt) (a : ATS) : Prop := PSs X st (lowS c H0 a)
def AG (tg : Expr) (a : ATG) : Prop := PG X tg (lowG c H0 a)
def AGs (tg : List Expr) (a : ATGs) : Prop := PGs X tg (lowGs c H0 a)
def AI (tg it : Expr) (a : ATI) : Prop := PI X tg it (lowI c H0 a)
end
section
variable {X : Cx}
theorem _root_.L2.PE.imp {e : Expr} {t t' : TE} (h : PE X e t) (k : ∀ σ H Q, t' σ H Q → t σ H Q) : PE X e t' := ⟨fun pins s σ H Q I q => h.run pins s σ H Q I (k σ H Q q)⟩
theorem _root_.L2.PT.imp {e : Expr} {t t' : TT} (h : PT X e t) (k : ∀ σ H Q, t' σ H Q → t σ H Q) : PT X e t' := ⟨fun pins s σ H Q I q => h.run pins s σ H Q I (k σ H Q q)⟩
theorem _root_.L2.PW.imp {e : Expr} {t t' : TT} (h : PW X e t) (k : ∀ σ H Q, t' σ H Q → t σ H Q) : PW X e t' := ⟨fun wh pins s σ H Q I q => h.run wh pins s σ H Q I (k σ H Q q)⟩
theorem _root_.L2.PA.imp {es : List Expr} {t t' : TA} (h : PA X es t) (k : ∀ σ H Q, t' σ H Q → t σ H Q) : PA X es t' := ⟨fun pos pins s σ H Q I q => h.run pos pins s σ H Q I (k σ H Q q)⟩
theorem _root_.L2.PS.imp {st : Stmt} {t t' : TS} (h : PS X st t) (k : ∀ D σ H, t' D σ H → t D σ H) : PS X st t' := ⟨fun pins s σ H D I q => h.run pins s σ H D I (k D σ H q)⟩
theorem _root_.L2.PSs.imp {st : List Stmt} {t t' : TS} (h : PSs X st t) (k : ∀ D σ H, t' D σ H → t D σ H) : PSs X st t' := ⟨fun pins s σ H D I q => h.run pins s σ H D I (k D σ H q)⟩
theorem _root_.L2.PG.imp {e : Expr} {t t' : TG} (h : PG X e t) (k : ∀ v σ H Q, t' v σ H Q → t v σ H Q) : PG X e t' := ⟨fun pins s σ H v u Q I r q => h.run pins s σ H v u Q I r (k v σ H Q q)⟩
theorem _root_.L2.PGs.imp {es : List Expr} {t t' : TGs} (h : PGs X es t) (k : ∀ v σ H Q, t' v σ H Q → t v σ H Q) : PGs X es t' := ⟨fun pins s σ H v u Q I r q => h.run pins s σ H v u Q I r (k v σ H Q q)⟩
theorem _root_.L2.PI.imp {tg it : Expr} {t t' : TI} (h : PI X tg it t) (k : ∀ σ H R, t' σ H R → t σ H R) : PI X tg it t' := ⟨fun pins s σ H R I q => h.run pins s σ H R I (k σ H R q)⟩
theorem _root_.L2.OpR.imp {f : Value → Value → Sem Value} {r r' : R2} (h : OpR X f r) (k : ∀ x y H Q, r' x y H Q → r x y H Q) : OpR X f r' := fun pins s σ H x y v u Q I rx ry q => h pins s σ H x y v u Q I rx ry (k x y H Q q)
theorem _root_.L2.CallR.imp {f : Value} {r r' : List V → Hp → VK → Prop} (h : CallR X f r) (k : ∀ vs H Q, r' vs H Q → r vs H Q) : CallR X f r' := fun pins s σ H vs us Q I rv q => h pins s σ H vs us Q I rv (k vs H Q q)
end
def aVar (i : Nat) : ATE := fun env L Q => match env[i]? with
  | some (some d) => Q d L
  | _ => False
def aC (d : D) : ATE := fun _ L Q => Q d L
def aOp (f : D → D → Store → AQ → Prop) (a b : ATE) : ATE := fun env L Q => a env L fun d L1 => b env L1 fun e L2 => f d e L2 Q
def aUn (f : D → Store → AQ → Prop) (a : ATE) : ATE := fun env L Q => a env L fun d L1 => f d L1 Q
def aNil : ATA := fun _ L Q => Q [] L
def aCons (a : ATE) (as : ATA) : ATA := fun env L Q => a env L fun d L1 => as env L1 fun ds L2 => Q (d :: ds) L2
def aTup (as : ATA) : ATE := fun env L Q => as env L fun ds L1 => ds.length ≤ sizeLine ∧ Q (.tup ds) L1
def aLst (as : ATA) : ATE := fun env L Q => as env L fun ds L1 => ds.length ≤ sizeLine ∧ ∀ p, L1 p = none → Q (.ref p) (sput L1 p (.lst ds))
def aIf (t : ATT) (a b : ATE) : ATE := fun env L Q => t env L fun k L1 => if k = true then a env L1 Q else b env L1 Q
section
variable {X : Cx} {c : AC X.K} {H0 : Hp} {e f g : Expr} {es : List Expr} {a b : ATE} {as : ATA} {pos : Pos} {t u : ATT}
theorem ae_var {i : Nat} {x : Str} (hN : X.N[i]? = some x) (hv : Vis X.env.scope x) (hd : (x == ("__debug__" : Str)) = false := by decide) (hcd : (x == ("__classdict__" : Str)) = false := by decide) : AE X c H0 (.Name x pos) (aVar i) := by
  refine (pe_var hN hv hd hcd).imp fun σ H Q ⟨env, L, R, rl, h, pq⟩ => ?_
  unfold aVar at h
  split at h
  · rename_i d e
    obtain ⟨v, e1, r⟩ := rl.env.get i d e
    exact ⟨v, e1, pq.here h rl.good r⟩
  · exact h.elim
theorem ae_c {d : D} {v : V} (h : PE X e (tC v)) (r : ∀ H, Rep c H d v) : AE X c H0 e (aC d) := h.imp fun _ H _ ⟨_, _, _, rl, h, pq⟩ => pq.here h rl.good (r H)
theorem ae_int {i : Int} {j} : AE X c H0 (.Constant (.int i) j pos) (aC (.int i)) := ae_c pe_int fun _ => rep_int.mpr rfl
theorem ae_bl {i : Bool} {j} : AE X c H0 (.Constant (.bool i) j pos) (aC (.bl i)) := ae_c pe_bl fun _ => rep_bl.mpr rfl
theorem ae_non {j} : AE X c H0 (.Constant .none j pos) (aC .non) := ae_c pe_non fun _ => rep_non.mpr rfl
theorem ae_str {x : Str} {j} : AE X c H0 (.Constant (.str x) j pos) (aC (.str x)) := ae_c pe_str fun _ => rep_str.mpr rfl
def LowR2 {K : PySem.W.Frag} (c : AC K) (r : R2) (f : D → D → Store → AQ → Prop) : Prop := ∀ x y H Q d e L R, Rep c H d x → Rep c H e y → Good c L H → f d e L R → Pq c H R Q → r x y H Q
structure AOp (X : Cx) (c : AC X.K) (g : Value → Value → Sem Value) (f : D → D → Store → AQ → Prop) : Prop where
  ex : ∃ r, OpR X g r ∧ LowR2 c r f
theorem low_op {r : R2} {f : D → D → Store → AQ → Prop} (h : LowR2 c r f) {σ : L2.St} {H : Hp} {Q : VK} (q : lowE c H0 (aOp f a b) σ H Q) : tOp r (lowE c H0 a) (lowE c H0 b) σ H Q := by
  obtain ⟨env, L, R, rl, ha, pq⟩ := q
  refine ⟨env, L, _, rl, ha, fun d L1 x H1 hb s1 g1 r1 => ?_⟩
  refine ⟨env, L1, _, rl.step s1 g1, hb, fun e L2 y H2 hf s2 g2 r2 => ?_⟩
  exact h x y H2 Q d e L2 R (r1.fr s2) r2 g2 hf (pq.fr (s1.trans s2))
theorem ae_op {op : Operator} {f' : D → D → Store → AQ → Prop} (h : AOp X c (binaryOp op) f') (ha : AE X c H0 e a) (hb : AE X c H0 f b) : AE X c H0 (.BinOp e op f pos) (aOp f' a b) := by
  obtain ⟨r, h1, h2⟩ := h.ex
  exact (pe_op h1 ha hb).imp fun _ _ _ q => low_op h2 q
theorem ae_cmp {op : CmpOp} {f' : D → D → Store → AQ → Prop} (h : AOp X c (compareOp op) f') (ha : AE X c H0 e a) (hb : AE X c H0 f b) (hm : behindInMarks op f = false) : AE X c H0 (.Compare e [op] [f] pos) (aOp f' a b) := by
  obtain ⟨r, h1, h2⟩ := h.ex
  exact (pe_cmpR h1 ha hb hm).imp fun _ _ _ q => low_op h2 q
theorem ae_un {op : UnaryOp} {r : V → Hp → VK → Prop} {f' : D → Store → AQ → Prop} (h : UnR X (unaryOp op) r) (k : ∀ x H Q d L R, Rep c H d x → Good c L H → f' d L R → Pq c H R Q → r x H Q) (ha : AE X c H0 e a) : AE X c H0 (.UnaryOp op e pos) (aUn f' a) :=
  (pe_un h ha).imp fun σ H Q ⟨env, L, R, rl, ha, pq⟩ => ⟨env, L, _, rl, ha, fun d L1 x H1 hf s1 g1 r1 => k x H1 Q d L1 R r1 g1 hf (pq.fr s1)⟩
theorem aa_nil : AA X c H0 [] aNil := pa_nil.imp fun _ H _ ⟨_, _, _, rl, h, pq⟩ => pq _ _ _ _ h (.refl c H) rl.good RepL.nil
theorem aa_cons (ha : AE X c H0 e a) (hr : AA X c H0 es as) (hs : starEach (e :: es) X.env = (false, eval e X.env) :: starEach es X.env := by rfl) : AA X c H0 (e :: es) (aCons a as) := by
  refine (pa_cons ha hr hs).imp fun σ H Q ⟨env, L, R, rl, h, pq⟩ => ?_
  refine ⟨env, L, _, rl, h, fun d L1 x H1 hb s1 g1 r1 => ?_⟩
  exact ⟨env, L1, _, rl.step s1 g1, hb, fun ds L2 xs H2 q s2 g2 r2 => pq _ _ _ _ q (s1.trans s2) g2 (RepL.cons (r1.fr s2) r2)⟩
theorem ae_tup {x1} (h : AA X c H0 es as) : AE X c H0 (.Tuple es x1 pos) (aTup as) := by
  refine (pe_tup h).imp fun σ H Q ⟨env, L, R, rl, h, pq⟩ => ?_
  refine ⟨env, L, _, rl, h, fun ds L1 xs H1 ⟨hz, q⟩ s1 g1 r1 => ⟨by rw [r1.len]; exact hz, fun p hp => ?_⟩⟩
  exact (pq.fr s1).new hp q g1 (rep_tup.mpr ⟨p, xs, rfl, SqT.of upd_same, r1.fr (.new hp)⟩)
theorem ae_lst (h : AA X c H0 es as) : AE X c H0 (.List es pos) (aLst as) := by
  refine (pe_lst h).imp fun σ H Q ⟨env, L, R, rl, h, pq⟩ => ?_
  refine ⟨env, L, _, rl, h, fun ds L1 xs H1 ⟨hz, q⟩ s1 g1 r1 => ⟨by rw [r1.len]; exact hz, fun p hp => ?_⟩⟩
  exact (pq.fr s1).alloc hp (q p (g1.fresh hp)) g1 ⟨xs, upd_same, r1.fr (.new hp)⟩
theorem ae_if (hc : AT X c H0 e t) (ha : AE X c H0 f a) (hb : AE X c H0 g b) : AE X c H0 (.IfExp e f g pos) (aIf t a b) := by
  refine (pe_ifExp hc ha hb).imp fun σ H Q ⟨env, L, R, rl, h, pq⟩ => ?_
  refine ⟨env, L, _, rl, h, fun k L1 H1 q s1 g1 => ?_⟩
  cases k with
  | true => exact ⟨env, L1, R, rl.step s1 g1, q, pq.fr s1⟩
  | false => exact ⟨env, L1, R, rl.step s1 g1, q, pq.fr s1⟩
end
def truM : Option MO → (Bool → Prop) → Prop
  | some (.lst l), Q => Q (!l.isEmpty)
  | some (.dct l), Q => Q (!l.isEmpty)
  | _, _ => False
def tru : D → Store → (Bool → Store → Prop) → Prop
  | .non, L, Q => Q false L
  | .bl b, L, Q => Q b L
  | .int i, L, Q => Q (i != 0) L
  | .str s, L, Q => s.length ≤ sizeLine ∧ Q ((s.length : Int) != 0) L
  | .tup l, L, Q => Q (!l.isEmpty) L
  | .ref p, L, Q => truM (L p) fun b => Q b L
  | _, _, _ => False
theorem RepL.isEmpty {K : PySem.W.Frag} {c : AC K} {H : Hp} {l : List D} {vs : List V} (h : RepL c H l vs) : vs.isEmpty = l.isEmpty := by
  have := h.len
  cases l <;> cases vs <;> simp_all
theorem tru_low {K : PySem.W.Frag} {c : AC K} {H : Hp} {d : D} {v : V} {L : Store} {R : Bool → Store → Prop} (r : Rep c H d v) (g : Good c L H) (h : tru d L R) : ∃ k, TruV K v H k ∧ R k L := by
  cases d with
  | non => cases rep_non.mp r; exact ⟨false, rfl, h⟩
  | bl b => cases rep_bl.mp r; exact ⟨b, rfl, h⟩
  | int i => cases rep_int.mp r; exact ⟨_, rfl, h⟩
  | str s => cases rep_str.mp r; exact ⟨_, ⟨h.1, rfl⟩, h.2⟩
  | tup l =>
    obtain ⟨p, vs, rfl, e, rs⟩ := rep_tup.mp r
    exact ⟨_, .inr (.inl ⟨vs, e, rfl⟩), by rw [rs.isEmpty]; exact h⟩
  | ref p =>
    cases rep_ref.mp r
    have h : truM (L p) fun b => R b L := h
    match e : L p, h with
    | some (.lst l), h =>
      obtain ⟨vs, e1, rs⟩ := g.st _ _ e
      exact ⟨_, .inl ⟨vs, SqL.of e1, rfl⟩, by rw [rs.isEmpty]; exact h⟩
    | some (.dct l), h =>
      obtain ⟨kvs, e1, ek, rs⟩ := g.st _ _ e
      refine ⟨_, .inr (.inr ⟨kvs, e1, rfl⟩), ?_⟩
      have : kvs.isEmpty = l.isEmpty := by
        have := congrArg List.length ek
        cases l <;> cases kvs <;> simp_all
      rw [this]
      exact h
    | none, h => exact h.elim
    | some (.ins _ _ _), h => exact h.elim
    | some (.opq _), h => exact h.elim
  | ty n => exact h.elim
  | scr => exact h.elim
  | tree t => exact h.elim
  | obj C ks ds => exact h.elim
def blD : D → (Bool → Prop) → Prop
  | .bl b, Q => Q b
  | _, _ => False
def aBl (a : ATE) : ATT := fun env L Q => a env L fun d L1 => blD d fun b => Q b L1
def aAnd (t u : ATT) : ATT := fun env L Q => t env L fun k L1 => if k = true then u env L1 Q else Q false L1
def aOr (t u : ATT) : ATT := fun env L Q => t env L fun k L1 => if k = true then Q true L1 else u env L1 Q
def aNot (t : ATT) : ATT := fun env L Q => t env L fun k L1 => Q (!k) L1
section
variable {X : Cx} {c : AC X.K} {H0 : Hp} {e f g : Expr} {es : List Expr} {a b a' : ATE} {as : ATA} {pos : Pos} {t u : ATT}
theorem bl_low {K : PySem.W.Frag} {c : AC K} {H : Hp} {d : D} {v : V} {R : Bool → Prop} (r : Rep c H d v) (h : blD d R) : ∃ k, v = .bl k ∧ R k := by
  cases d with
  | bl b => exact ⟨b, rep_bl.mp r, h⟩
  | _ => exact h.elim
theorem at_bl (ha : AE X c H0 e a) (he : ∀ whole, isTrue e X.env whole = (do let v ← whole; standAt e.pos; holding [v] (truthy v)) := by intro _; rfl) : AT X c H0 e (aBl a) := by
  refine (pt_val ha he).imp fun σ H Q ⟨env, L, R, rl, h, pq⟩ => ?_
  refine ⟨env, L, _, rl, h, fun d L1 x H1 q s1 g1 r1 => ?_⟩
  obtain ⟨k, e1, e2⟩ := bl_low (R := fun b => R b L1) r1 q
  exact ⟨k, e1, pq k L1 H1 e2 s1 g1⟩
theorem low_test {t : TE} {σ : L2.St} {H : Hp} {Q : Bool → Hp → Prop} (k : ∀ σ H Q, lowE c H0 a σ H Q → t σ H Q) (q : lowT c H0 (aBl a) σ H Q) : tTest t σ H Q := by
  obtain ⟨env, L, R, rl, h, pq⟩ := q
  refine k _ _ _ ⟨env, L, _, rl, h, fun d L1 x H1 q s1 g1 r1 => ?_⟩
  obtain ⟨k, e1, e2⟩ := bl_low (R := fun b => R b L1) r1 q
  exact ⟨k, e1, pq k L1 H1 e2 s1 g1⟩
theorem at_cmp {op : CmpOp} {f' : D → D → Store → AQ → Prop} (h : AOp X c (compareOp op) f') (ha : AE X c H0 e a) (hb : AE X c H0 f b) (hm : behindInMarks op f = false) : AT X c H0 (.Compare e [op] [f] pos) (aBl (aOp f' a b)) := by
  obtain ⟨r, h1, h2⟩ := h.ex
  exact (pt_cmpR h1 ha hb hm).imp fun _ _ _ q => low_test (fun _ _ _ z => low_op h2 z) q
theorem AW.pt (h : AW X c H0 e t) : AT X c H0 e t := PW.pt h
theorem aw_and1 (h : AT X c H0 e t) : AW X c H0 (.BoolOp .And [e] pos) t := pw_and1 h
theorem aw_or1 (h : AT X c H0 e t) : AW X c H0 (.BoolOp .Or [e] pos) t := pw_or1 h
theorem aw_and (ha : AT X c H0 e t) (hb : AW X c H0 (.BoolOp .And (f :: es) pos) u) : AW X c H0 (.BoolOp .And (e :: f :: es) pos) (aAnd t u) := by
  refine (pw_and ha hb).imp fun σ H Q ⟨env, L, R, rl, h, pq⟩ => ?_
  refine ⟨env, L, _, rl, h, fun k L1 H1 q s1 g1 => ?_⟩
  cases k with
  | true => exact ⟨env, L1, R, rl.step s1 g1, q, fun b L' H' r s => pq b L' H' r (s1.trans s)⟩
  | false => exact pq _ _ _ q s1 g1
theorem aw_or (ha : AT X c H0 e t) (hb : AW X c H0 (.BoolOp .Or (f :: es) pos) u) : AW X c H0 (.BoolOp .Or (e :: f :: es) pos) (aOr t u) := by
  refine (pw_or ha hb).imp fun σ H Q ⟨env, L, R, rl, h, pq⟩ => ?_
  refine ⟨env, L, _, rl, h, fun k L1 H1 q s1 g1 => ?_⟩
  cases k with
  | true => exact pq _ _ _ q s1 g1
  | false => exact ⟨env, L1, R, rl.step s1 g1, q, fun b L' H' r s => pq b L' H' r (s1.trans s)⟩
theorem at_not (ha : AT X c H0 e t) : AT X c H0 (.UnaryOp .Not e pos) (aNot t) := by
  refine (pt_not ha).imp fun σ H Q ⟨env, L, R, rl, h, pq⟩ => ?_
  exact ⟨env, L, _, rl, h, fun k L1 H1 q s1 g1 => pq _ _ _ q s1 g1⟩
def aAndV (a b : ATE) : ATE := fun env L Q => a env L fun d L1 => tru d L1 fun k L2 => if k = true then b env L2 Q else Q d L2
def aNotV (a : ATE) : ATE := fun env L Q => a env L fun d L1 => tru d L1 fun k L2 => Q (.bl (!k)) L2
theorem ae_one {op} (h : AE X c H0 e a) : AE X c H0 (.BoolOp op [e] pos) a := pe_one h
theorem ae_and (ha : AE X c H0 e a) (hb : AE X c H0 (.BoolOp .And (f :: es) pos) b) : AE X c H0 (.BoolOp .And (e :: f :: es) pos) (aAndV a b) := by
  refine (pe_andT ha hb).imp fun σ H Q ⟨env, L, R, rl, h, pq⟩ => ?_
  refine ⟨env, L, _, rl, h, fun d L1 x H1 q s1 g1 r1 => ?_⟩
  obtain ⟨k, e1, e2⟩ := tru_low r1 g1 q
  refine ⟨k, e1, ?_⟩
  cases k with
  | true => exact ⟨env, L1, R, rl.step s1 g1, e2, pq.fr s1⟩
  | false => exact (pq.fr s1).here e2 g1 r1
theorem ae_not (ha : AE X c H0 e a) : AE X c H0 (.UnaryOp .Not e pos) (aNotV a) := by
  refine (pe_notT ha).imp fun σ H Q ⟨env, L, R, rl, h, pq⟩ => ?_
  refine ⟨env, L, _, rl, h, fun d L1 x H1 q s1 g1 r1 => ?_⟩
  obtain ⟨k, e1, e2⟩ := tru_low r1 g1 q
  exact ⟨k, e1, (pq.fr s1).here e2 g1 (rep_bl.mpr rfl)⟩
end
def aSeq (a b : ATS) : ATS := fun D env L => a { D with nx := b D } env L
def aNext : ATS := fun D env L => D.nx env L
def aDrop (a : ATE) : ATS := fun D env L => a env L fun _ L1 => D.nx env L1
def aRet (a : ATE) : ATS := fun D env L => a env L D.rt
def aIfS (t : ATT) (a b : ATS) : ATS := fun D env L => t env L fun k L1 => if k = true then a D env L1 else b D env L1
def aNever : ATS := fun _ _ _ => False
def aAsg (a : ATE) (g : ATG) : ATS := fun D env L => a env L fun d L1 => g d env L1 D.nx
def agName (i : Nat) : ATG := fun d env L Q => Q (env.set i (some d)) L
def agNil : ATGs := fun ds env L Q => ds = [] ∧ Q env L
def agCons (g : ATG) (gs : ATGs) : ATGs := fun ds env L Q => match ds with
  | d :: r => g d env L fun env1 L1 => gs r env1 L1 Q
  | [] => False
def agTup (gs : ATGs) : ATG := fun d env L Q => match d with
  | .tup l => gs l env L Q
  | _ => False
def aWhile (t : ATT) (b : ATS) : ATS := fun D env L => ∃ W : Nat → En → Store → Prop, (∃ m, W m env L) ∧ ∀ m env L, W m env L →
  t env L fun k L1 => if k = true then b { D with nx := fun e l => ∃ m', m' < m ∧ W m' e l, ct := fun e l => ∃ m', m' < m ∧ W m' e l, bk := D.nx } env L1 else D.nx env L1
def loopA (g : ATG) (b : ATS) (N : AEnds) (G : Store → Prop) : List D → En → Store → Prop
  | [], env, L => G L ∧ N.nx env L
  | d :: ds, env, L => G L ∧ g d env L fun env1 L1 => b { N with nx := loopA g b N G ds, ct := loopA g b N G ds, bk := N.nx } env1 L1
def aFor (ai : ATI) (g : ATG) (b : ATS) : ATS := fun D env L => ai env L fun items G L1 => loopA g b D G items env L1
section
variable {X : Cx} {c : AC X.K} {H0 : Hp} {e f tg : Expr} {es tgs : List Expr} {a b a' : ATE} {pos : Pos} {t : ATT} {st : Stmt} {rest sts sts' : List Stmt} {s1 s2 : ATS} {g : ATG} {gs : ATGs}
theorem as_nil : ASs X c H0 [] aNext := pss_nil.imp fun D σ H ⟨env, L, R, rl, h, er⟩ => er.nx env L σ H h (.refl c H) rl
theorem as_cons (h1 : AS X c H0 st s1) (h2 : ASs X c H0 rest s2) : ASs X c H0 (st :: rest) (aSeq s1 s2) := by
  refine (pss_cons h1 h2).imp fun D σ H ⟨env, L, R, rl, h, er⟩ => ?_
  exact ⟨env, L, _, rl, h, ⟨fun env' L' σ' H' r s rl' => ⟨env', L', R, rl', r, er.fr s⟩, er.rt, er.bk, er.ct⟩⟩
theorem as_one (h1 : AS X c H0 st s1) : ASs X c H0 [st] s1 := pss_one h1
theorem as_expr (he : AE X c H0 e a) (hs : swapsWith e none pos.line X.env = pure false := by rfl) : AS X c H0 (.Expr e pos) (aDrop a) := by
  refine (ps_expr he hs).imp fun D σ H ⟨env, L, R, rl, h, er⟩ => ?_
  exact ⟨env, L, _, rl, h, fun d L1 v H1 q s g r => er.nx env L1 σ H1 q s (rl.step s g)⟩
theorem as_ret (he : AE X c H0 e a) : AS X c H0 (.Return (some e) pos) (aRet a) := by
  refine (ps_ret he).imp fun D σ H ⟨env, L, R, rl, h, er⟩ => ?_
  exact ⟨env, L, _, rl, h, fun d L1 v H1 q s g r => er.rt d L1 v H1 q s g r⟩
theorem as_if (hc : AT X c H0 e t) (ha : ASs X c H0 sts s1) (hb : ASs X c H0 sts' s2) : AS X c H0 (.If e sts sts' pos) (aIfS t s1 s2) := by
  refine (ps_if hc ha hb).imp fun D σ H ⟨env, L, R, rl, h, er⟩ => ?_
  refine ⟨env, L, _, rl, h, fun k L1 H1 q s g => ?_⟩
  cases k with
  | true => exact ⟨env, L1, R, rl.step s g, q, er.fr s⟩
  | false => exact ⟨env, L1, R, rl.step s g, q, er.fr s⟩
theorem ass_never : ASs X c H0 sts aNever := pss_never.imp fun D σ H ⟨_, _, _, _, h, _⟩ => h
theorem ag_name {i : Nat} {x : Str} (hN : X.N.Nodup) (hi : X.N[i]? = some x) (hx : Loc X.env.scope x) (hf : X.fn x = true ∨ X.env.scope.names.lookup x = some .local := by first | exact .inl rfl | exact .inr rfl | assumption) : AG X c H0 (.Name x pos) (agName i) := by
  refine (pg_name hN hi hx hf).imp fun v σ H Q ⟨d, env, L, R, r, rl, h, pq⟩ => ?_
  exact pq _ L _ H h (.refl c H) ⟨rl.env.set i r, rl.good, rl.fr⟩
theorem ags_nil : AGs X c H0 [] agNil := pgs_nil.imp fun vs σ H Q ⟨ds, env, L, R, r, rl, h, pq⟩ => by
  obtain ⟨rfl, h⟩ := h
  exact ⟨repL_nil.mp r, pq _ L _ H h (.refl c H) rl⟩
theorem ags_cons (h1 : AG X c H0 tg g) (h2 : AGs X c H0 tgs gs) (hs : (assignEach (tg :: tgs) X.env).map (·.2) = assign tg X.env :: (assignEach tgs X.env).map (·.2) := by rfl) : AGs X c H0 (tg :: tgs) (agCons g gs) := by
  refine (pgs_cons h1 h2 hs).imp fun vs σ H Q ⟨ds, env, L, R, r, rl, h, pq⟩ => ?_
  cases ds with
  | nil => exact h.elim
  | cons d ds =>
    obtain ⟨v, rs, rfl, r1, r2⟩ := repL_cons.mp r
    exact ⟨v, rs, rfl, d, env, L, _, r1, rl, h, fun env' L' σ' H' q s rl' => ⟨ds, env', L', R, r2.fr s, rl', q, fun env2 L2 σ2 H2 q2 s2 => pq env2 L2 σ2 H2 q2 (s.trans s2)⟩⟩
theorem ag_tup {k : Nat} {n : Nat} (hc : X.calm = true) (h : AGs X c H0 tgs gs) (hl : ∀ ds env L R, gs ds env L R → ds.length = n) (hn : (assignEach tgs X.env).length = n := by rfl) (hst : (assignEach tgs X.env).findIdx? (·.1) = none := by rfl) : AG X c H0 (.Tuple tgs k pos) (agTup gs) := by
  refine (pg_tup hc h hn hst).imp fun v σ H Q ⟨d, env, L, R, r, rl, h, pq⟩ => ?_
  cases d with
  | tup l =>
    obtain ⟨p, vs, rfl, e, rs⟩ := rep_tup.mp r
    exact ⟨p, vs, rfl, e, by rw [rs.len]; exact hl l env L R h, l, env, L, R, rs, rl, h, pq⟩
  | _ => exact h.elim
theorem as_asg (he : AE X c H0 e a) (hg : AG X c H0 tg g) (hs : swapsWithSole [tg] e pos.line X.env = pure false := by rfl) (hw : swappedStores [tg] e X.env = pure none := by rfl)
    (h1 : (assignEach [tg] X.env).map (·.2) = [assign tg X.env] := by rfl) : AS X c H0 (.Assign [tg] e pos) (aAsg a g) := by
  refine (ps_asg he hg hs hw h1).imp fun D σ H ⟨env, L, R, rl, h, er⟩ => ?_
  exact ⟨env, L, _, rl, h, fun d L1 v H1 q s g1 r => ⟨d, env, L1, _, r, rl.step s g1, q, fun env' L' σ' H' q s' rl' => er.nx env' L' σ' H' q (s.trans s') rl'⟩⟩
theorem as_set {i : Nat} {x : Str} {pos' : Pos} (hN : X.N.Nodup) (hi : X.N[i]? = some x) (hx : Loc X.env.scope x) (he : AE X c H0 e a) (hs : swapsWith e (some (.Name x pos')) pos.line X.env = pure false := by rfl)
    (hf : X.fn x = true ∨ X.env.scope.names.lookup x = some .local := by first | exact .inl rfl | exact .inr rfl | assumption) : AS X c H0 (.Assign [.Name x pos'] e pos) (aAsg a (agName i)) := by
  refine (ps_set hN hi hx he hs hf).imp fun D σ H ⟨env, L, R, rl, h, er⟩ => ?_
  exact ⟨env, L, _, rl, h, fun d L1 v H1 q s g1 r => er.nx _ L1 _ H1 q s ⟨(rl.env.fr s).set i r, g1, rl.fr.trans s⟩⟩
def aPar (i j : Nat) (as : ATA) : ATS := fun D env L => as env L fun ds L1 => match ds with
  | [d, e] => D.nx ((env.set i (some d)).set j (some e)) L1
  | _ => False
theorem as_par {i j : Nat} {x y : Str} {as : ATA} {px py pt : Pos} {kt k2 pt2} (hc : X.calm = true) (hN : X.N.Nodup) (hi : X.N[i]? = some x) (hj : X.N[j]? = some y) (hij : i ≠ j)
    (hx : X.env.scope.names.lookup x = some .local) (hy : X.env.scope.names.lookup y = some .local) (ha : AA X c H0 [e, f] as)
    (hw : swappedStores [.Tuple [.Name x px, .Name y py] kt pt] (.Tuple [e, f] k2 pt2) X.env = pure (some [x, y]))
    (hs : swapsWithSole [.Tuple [.Name x px, .Name y py] kt pt] (.Tuple [e, f] k2 pt2) pos.line X.env = pure false := by rfl) :
    AS X c H0 (.Assign [.Tuple [.Name x px, .Name y py] kt pt] (.Tuple [e, f] k2 pt2) pos) (aPar i j as) := by
  refine (ps_par hc hN hi hj hij hx hy ha hw hs).imp fun D σ H ⟨env, L, R, rl, h, er⟩ => ?_
  refine ⟨env, L, _, rl, h, fun ds L1 vs H1 q s g1 r => ?_⟩
  match ds, q, r with
  | [d1, d2], q, r =>
    obtain ⟨v, rs, rfl, r1, r2⟩ := repL_cons.mp r
    obtain ⟨w, rs2, rfl, r3, r4⟩ := repL_cons.mp r2
    cases repL_nil.mp r4
    exact ⟨v, w, rfl, er.nx _ L1 _ H1 q s ⟨((rl.env.fr s).set i r1).set j r3, g1, rl.fr.trans s⟩⟩
  | [], q, _ => exact q.elim
  | [_], q, _ => exact q.elim
  | _ :: _ :: _ :: _, q, _ => exact q.elim
theorem as_while (hp : PassesOwn (model X.prog X.w) X.A X.env X.xe) (hc : AT X c H0 e t) (hb : ASs X c H0 sts s1) : AS X c H0 (.While e sts [] pos) (aWhile t s1) := by
  refine (ps_while hp hc hb).imp fun D σ H ⟨env, L, R, rl, ⟨W, ⟨m0, w0⟩, turn⟩, er⟩ => ?_
  refine ⟨fun m σ' H' => Fr c H H' ∧ ∃ env' L', Rl c H0 σ' H' env' L' ∧ W m env' L', ⟨m0, .refl c H, env, L, rl, w0⟩, ?_⟩
  rintro m σ1 H1 ⟨f1, env1, L1, rl1, w1⟩
  refine ⟨env1, L1, _, rl1, turn m env1 L1 w1, fun k L2 H2 q s g => ?_⟩
  cases k with
  | true =>
    refine ⟨fun σ' H' => Fr c H H' ∧ ∃ env' L', Rl c H0 σ' H' env' L' ∧ ∃ m', m' < m ∧ W m' env' L', fun σ' H' ⟨f', env', L', rl', m', hm, w'⟩ => ⟨m', hm, f', env', L', rl', w'⟩, ?_⟩
    refine ⟨env1, L2, _, rl1.step s g, q, ⟨fun env' L' σ' H' q' s' rl' => ⟨(f1.trans s).trans s', env', L', rl', q'⟩, fun d L' v H' q' s' => er.rt d L' v H' q' ((f1.trans s).trans s'), fun env' L' σ' H' q' s' rl' => er.nx env' L' σ' H' q' ((f1.trans s).trans s') rl', fun env' L' σ' H' q' s' rl' => ⟨(f1.trans s).trans s', env', L', rl', q'⟩⟩⟩
  | false => exact er.nx env1 L2 σ1 H2 q (f1.trans s) (rl1.step s g)
theorem as_for {iter : Expr} {ai : ATI} (hp : PassesOwn (model X.prog X.w) X.A X.env X.xe) (hc : X.calm = true) (hi : AI X c H0 tg iter ai) (hg : AG X c H0 tg g) (hb : ASs X c H0 sts s1)
    (hs : ∀ x, foldedSetIterable iter X.env x = pure x := by intro _; rfl) : AS X c H0 (.For tg iter sts [] pos) (aFor ai g s1) := by
  refine (ps_for hp hc hi hg hb hs).imp fun D σ H ⟨env, L, R, rl, h, er⟩ => ?_
  refine ⟨env, L, _, rl, h, fun items G L1 J H1 q s g1 wa => ?_⟩
  obtain ⟨GH, wk, hG⟩ := wa.ex
  have hd : ∀ {i : Nat}, i < items.length → ∃ d, items[i]? = some d ∧ items.drop i = d :: items.drop (i + 1) := fun {i} hi => ⟨items[i], List.getElem?_eq_getElem hi, List.drop_eq_getElem_cons hi⟩
  have hGl : ∀ {ds : List AL.D} {env' : En} {L' : Store}, loopA g s1 R G ds env' L' → G L' := fun {ds env' L'} z => by
    cases ds with
    | nil => exact z.1
    | cons d ds => exact z.1
  refine for_it wk (fun i σ' H' => Fr c H1 H' ∧ ∃ env' L', Rl c H0 σ' H' env' L' ∧ loopA g s1 R G (items.drop i) env' L') ⟨.refl c H1, env, L1, rl.step s g1, q⟩ (fun i σ' H' _ ⟨f, env', L', rl', z⟩ => hG L' H' f rl'.good (hGl z)) ?_ ?_
  · rintro i x σ' H2 H3 hi ⟨f, env', L', rl', z⟩ ⟨s2, k2, d, e1, r⟩
    obtain ⟨d', e2, e3⟩ := hd hi
    rw [e1] at e2
    cases e2
    rw [e3] at z
    refine ⟨d, env', L', _, r, rl'.step s2 (k2 L' rl'.good), z.2, fun env2 L2 σ2 H4 q2 s3 rl2 => ?_⟩
    refine ⟨env2, L2, _, rl2, q2, ⟨fun env3 L3 σ3 H5 q3 s4 rl3 => ⟨((f.trans s2).trans s3).trans s4, env3, L3, rl3, q3⟩, fun d L' v H' q' s' => er.rt d L' v H' q' ((((s.trans f).trans s2).trans s3).trans s'), fun env' L' σ' H' q' s' rl' => er.nx env' L' σ' H' q' ((((s.trans f).trans s2).trans s3).trans s') rl', fun env3 L3 σ3 H5 q3 s4 rl3 => ⟨((f.trans s2).trans s3).trans s4, env3, L3, rl3, q3⟩⟩⟩
  · rintro σ' H2 ⟨f, env', L', rl', z⟩
    rw [List.drop_length] at z
    exact er.nx env' L' σ' H2 z.2 (s.trans f) rl'
end
end AL
namespace AL
open PySem PySem.Spec PyProof.Rows L2 LamX JW
theorem AOp.mk' {X : Cx} {c : AC X.K} {g : Value → Value → Sem Value} {f : D → D → Store → AQ → Prop} {r : R2} (h : OpR X g r) (k : LowR2 c r f) : AOp X c g f := ⟨r, h, k⟩
def addD : D → D → Store → AQ → Prop
  | .int i, .int j, L, Q => Q (.int (i + j)) L
  | .int i, .bl k, L, Q => Q (.int (i + b2i k)) L
  | .str a, .str b, L, Q => a.length + b.length ≤ sizeLine ∧ Q (.str (a ++ b)) L
  | .tup a, .tup b, L, Q => a.length + b.length ≤ sizeLine ∧ Q (.tup (a ++ b)) L
  | .ref p, .ref q, L, Q => ∃ xs ys, L p = some (.lst xs) ∧ L q = some (.lst ys) ∧ xs.length + ys.length ≤ sizeLine ∧ ∀ r, L r = none → Q (.ref r) (sput L r (.lst (xs ++ ys)))
  | _, _, _, _ => False
def subD : D → D → Store → AQ → Prop
  | .int i, .int j, L, Q => Q (.int (i - j)) L
  | _, _, _, _ => False
def MulOk (i j : Int) : Prop := CMul i j ∨ CMulW i j
def mulD : D → D → Store → AQ → Prop
  | .int i, .int j, L, Q => MulOk i j ∧ Q (.int (i * j)) L
  | .ref p, .int k, L, Q => ∃ xs, L p = some (.lst xs) ∧ -(2 ^ 63) ≤ k ∧ k < 2 ^ 63 ∧ xs.length * k.toNat ≤ sizeLine ∧ ∀ r, L r = none → Q (.ref r) (sput L r (.lst (List.replicate k.toNat xs).flatten))
  | .str z, .int k, L, Q => ∃ (c n : Nat), z = SX.S [c] ∧ k = n ∧ 1 ≤ n ∧ n ≤ 100000 ∧ Q (.str (SX.S (List.replicate n c))) L
  | _, _, _, _ => False
def ltD : D → D → Store → AQ → Prop
  | .int i, .int j, L, Q => Q (.bl (decide (i < j))) L
  | .str a, .str b, L, Q => Q (.bl (decide (a.cps.toList < b.cps.toList))) L
  | _, _, _, _ => False
def leD : D → D → Store → AQ → Prop
  | .int i, .int j, L, Q => Q (.bl (decide (i ≤ j))) L
  | .str a, .str b, L, Q => Q (.bl (!decide (b.cps.toList < a.cps.toList))) L
  | _, _, _, _ => False
def gtD : D → D → Store → AQ → Prop
  | .int i, .int j, L, Q => Q (.bl (decide (j < i))) L
  | .str a, .str b, L, Q => Q (.bl (decide (b.cps.toList < a.cps.toList))) L
  | _, _, _, _ => False
def isNonD : D → Bool
  | .non => true
  | _ => false
def isD (neg : Bool) : D → D → Store → AQ → Prop
  | d, .non, L, Q => Q (.bl (neg ^^ isNonD d)) L
  | _, _, _, _ => False
section
variable {K : PySem.W.Frag} {c : AC K} {H : Hp} {L : Store}
theorem good_lst (g : Good c L H) {p : Addr} {l : List D} (e : L p = some (.lst l)) : ∃ vs, H p = some (.lst vs) ∧ RepL c H l vs := g.st p _ e
theorem isNon_low {d : D} {v : V} (r : Rep c H d v) : decide (v = .non) = isNonD d := by
  cases d with
  | non => cases rep_non.mp r; rfl
  | bl b => cases rep_bl.mp r; rfl
  | int i => cases rep_int.mp r; rfl
  | str s => cases rep_str.mp r; rfl
  | ref p => cases rep_ref.mp r; rfl
  | ty n => cases rep_ty.mp r; rfl
  | scr => obtain ⟨a, ns, _, rfl⟩ := rep_scr.mp r; rfl
  | tree t => exact decide_eq_false (Ftn.ne (rep_tree.mp r))
  | tup l => obtain ⟨a, vs, rfl, _⟩ := rep_tup.mp r; rfl
  | obj C ks ds => obtain ⟨a, dx, vs, rfl, _⟩ := rep_obj.mp r; rfl
end
section
variable {X : Cx} {c : AC X.K}
theorem aop_add : AOp X c (binaryOp .Add) addD := by
  refine .mk' ((op_add.or op_add_ib).or (op_add_str.or (op_catA.or op_cat))) fun x y H Q d e L R rx ry g h pq => ?_
  unfold addD at h
  split at h
  · rename_i i j
    exact .inl (.inl ⟨i, j, rep_int.mp rx, rep_int.mp ry, pq.here h g (rep_int.mpr rfl)⟩)
  · rename_i i j
    exact .inl (.inr ⟨i, j, rep_int.mp rx, rep_bl.mp ry, pq.here h g (rep_int.mpr rfl)⟩)
  · rename_i a b
    exact .inr (.inl ⟨a, b, rep_str.mp rx, rep_str.mp ry, h.1, pq.here h.2 g (rep_str.mpr rfl)⟩)
  · rename_i a b
    obtain ⟨hz, h⟩ := h
    obtain ⟨p, vs, rfl, e1, r1⟩ := rep_tup.mp rx
    obtain ⟨q, ws, rfl, e2, r2⟩ := rep_tup.mp ry
    refine .inr (.inr (.inl ⟨p, q, vs, ws, rfl, rfl, e1, e2, by rw [r1.len, r2.len]; exact hz, fun z => ?_, fun _ z => ?_, fun _ _ r hr => ?_⟩))
    · subst z
      have : a = [] := List.eq_nil_of_length_eq_zero (by rw [← r1.len]; rfl)
      subst this
      exact pq.here h g (rep_tup.mpr ⟨q, ws, rfl, e2, r2⟩)
    · subst z
      have : b = [] := List.eq_nil_of_length_eq_zero (by rw [← r2.len]; rfl)
      subst this
      rw [List.append_nil] at h
      exact pq.here h g (rep_tup.mpr ⟨p, vs, rfl, e1, r1⟩)
    · exact pq.new hr h g (rep_tup.mpr ⟨r, _, rfl, SqT.of upd_same, (r1.app r2).fr (.new hr)⟩)
  · rename_i p q
    obtain ⟨xs, ys, h1, h2, hz, h⟩ := h
    obtain ⟨vs, e1, r1⟩ := good_lst g h1
    obtain ⟨ws, e2, r2⟩ := good_lst g h2
    cases rep_ref.mp rx
    cases rep_ref.mp ry
    exact .inr (.inr (.inr ⟨p, q, vs, ws, rfl, rfl, e1, e2, by rw [r1.len, r2.len]; exact hz, fun r hr => pq.alloc hr (h r (g.fresh hr)) g ⟨_, upd_same, (r1.app r2).fr (.new hr)⟩⟩))
  · exact h.elim
theorem aop_sub : AOp X c (binaryOp .Sub) subD := by
  refine .mk' op_sub fun x y H Q d e L R rx ry g h pq => ?_
  unfold subD at h
  split at h
  · rename_i i j
    exact ⟨i, j, rep_int.mp rx, rep_int.mp ry, pq.here h g (rep_int.mpr rfl)⟩
  · exact h.elim
theorem aop_mul : AOp X c (binaryOp .Mult) mulD := by
  refine .mk' ((op_mul.or op_mulW).or (op_rep.or op_rep_str)) fun x y H Q d e L R rx ry g h pq => ?_
  unfold mulD at h
  split at h
  · rename_i i j
    obtain ⟨k, h⟩ := h
    rcases k with k | k
    · exact .inl (.inl ⟨i, j, rep_int.mp rx, rep_int.mp ry, k, pq.here h g (rep_int.mpr rfl)⟩)
    · exact .inl (.inr ⟨i, j, rep_int.mp rx, rep_int.mp ry, k, pq.here h g (rep_int.mpr rfl)⟩)
  · rename_i p k
    obtain ⟨xs, h1, k1, k2, hz, h⟩ := h
    obtain ⟨vs, e1, r1⟩ := good_lst g h1
    cases rep_ref.mp rx
    refine .inr (.inl ⟨p, k, vs, rfl, rep_int.mp ry, e1, k1, k2, by rw [r1.len]; exact hz, fun r hr => pq.alloc hr (h r (g.fresh hr)) g ⟨_, upd_same, ?_⟩⟩)
    have : ∀ n : Nat, RepL c (upd H r (.lst (List.replicate k.toNat vs).flatten)) (List.replicate n xs).flatten (List.replicate n vs).flatten := fun n => by
      induction n with
      | zero => exact RepL.nil
      | succ n ih =>
        rw [List.replicate_succ, List.replicate_succ, List.flatten_cons, List.flatten_cons]
        exact (r1.fr (.new hr)).app ih
    exact this _
  · rename_i z k
    obtain ⟨a, n, h1, h2, h3, h4, h⟩ := h
    subst h1 h2
    exact .inr (.inr ⟨a, n, rep_str.mp rx, rep_int.mp ry, h3, h4, pq.here h g (rep_str.mpr rfl)⟩)
  · exact h.elim
theorem aop_lt : AOp X c (compareOp .Lt) ltD := by
  refine .mk' (op_lt.or op_lt_str) fun x y H Q d e L R rx ry g h pq => ?_
  unfold ltD at h
  split at h
  · rename_i i j
    exact .inl ⟨i, j, rep_int.mp rx, rep_int.mp ry, pq.here h g (rep_bl.mpr rfl)⟩
  · rename_i i j
    exact .inr ⟨i, j, rep_str.mp rx, rep_str.mp ry, pq.here h g (rep_bl.mpr rfl)⟩
  · exact h.elim
theorem aop_le : AOp X c (compareOp .LtE) leD := by
  refine .mk' (op_le.or op_le_str) fun x y H Q d e L R rx ry g h pq => ?_
  unfold leD at h
  split at h
  · rename_i i j
    exact .inl ⟨i, j, rep_int.mp rx, rep_int.mp ry, pq.here h g (rep_bl.mpr rfl)⟩
  · rename_i i j
    exact .inr ⟨i, j, rep_str.mp rx, rep_str.mp ry, pq.here h g (rep_bl.mpr rfl)⟩
  · exact h.elim
theorem aop_gt : AOp X c (compareOp .Gt) gtD := by
  refine .mk' (op_gt.or op_gt_str) fun x y H Q d e L R rx ry g h pq => ?_
  unfold gtD at h
  split at h
  · rename_i i j
    exact .inl ⟨i, j, rep_int.mp rx, rep_int.mp ry, pq.here h g (rep_bl.mpr rfl)⟩
  · rename_i i j
    exact .inr ⟨i, j, rep_str.mp rx, rep_str.mp ry, pq.here h g (rep_bl.mpr rfl)⟩
  · exact h.elim
theorem aop_is : AOp X c (compareOp .Is) (isD false) := by
  refine .mk' op_isN fun x y H Q d e L R rx ry g h pq => ?_
  cases e with
  | non => exact ⟨rep_non.mp ry, by rw [isNon_low rx]; exact pq.here h g (rep_bl.mpr (by rw [Bool.false_xor]))⟩
  | _ => exact h.elim
theorem aop_isnot : AOp X c (compareOp .IsNot) (isD true) := by
  refine .mk' op_notN fun x y H Q d e L R rx ry g h pq => ?_
  cases e with
  | non => exact ⟨rep_non.mp ry, by rw [isNon_low rx]; exact pq.here h g (rep_bl.mpr (by rw [Bool.true_xor]))⟩
  | _ => exact h.elim
end
mutual
def pyF : D → Option PyData
  | .non => some .none
  | .bl b => some (.bool b)
  | .int i => some (.int i)
  | .str s => some (.str s)
  | .tup l => (pyFL l).map .tuple
  | _ => none
def pyFL : List D → Option (List PyData)
  | [] => some []
  | d :: ds => match pyF d, pyFL ds with
    | some x, some xs => some (x :: xs)
    | _, _ => none
end
def pyT (L : Store) : D → Option PyData
  | .ref p => match L p with
    | some (.lst l) => (pyFL l).map .list
    | _ => none
  | d => pyF d
section
variable {K : PySem.W.Frag} {c : AC K} {H : Hp} {L : Store}
mutual
theorem dp_of : ∀ (d : D) (v : V) (x : PyData), Rep c H d v → pyF d = some x → Dp K H v x
  | .non, v, x, r, e => by
    cases rep_non.mp r
    simp only [pyF, Option.some.injEq] at e
    subst e
    exact .non
  | .bl b, v, x, r, e => by
    cases rep_bl.mp r
    simp only [pyF, Option.some.injEq] at e
    subst e
    exact .bl b
  | .int i, v, x, r, e => by
    cases rep_int.mp r
    simp only [pyF, Option.some.injEq] at e
    subst e
    exact .int i
  | .str z, v, x, r, e => by
    cases rep_str.mp r
    simp only [pyF, Option.some.injEq] at e
    subst e
    exact .str z
  | .tup l, v, x, r, e => by
    obtain ⟨a, vs, rfl, e1, rs⟩ := rep_tup.mp r
    simp only [pyF, Option.map_eq_some_iff] at e
    obtain ⟨xs, e2, rfl⟩ := e
    exact .tup (e1) (dpL_of l vs xs rs e2)
  | .ref _, v, x, r, e => by simp [pyF] at e
  | .ty _, v, x, r, e => by simp [pyF] at e
  | .scr, v, x, r, e => by simp [pyF] at e
  | .tree _, v, x, r, e => by simp [pyF] at e
  | .obj _ _ _, v, x, r, e => by simp [pyF] at e
theorem dpL_of : ∀ (l : List D) (vs : List V) (xs : List PyData), RepL c H l vs → pyFL l = some xs → DpAll K H vs xs
  | [], vs, xs, r, e => by
    cases repL_nil.mp r
    simp only [pyFL, Option.some.injEq] at e
    subst e
    exact .nil
  | d :: ds, vs, xs, r, e => by
    obtain ⟨v, ws, rfl, r1, r2⟩ := repL_cons.mp r
    simp only [pyFL] at e
    split at e
    · rename_i x ys e1 e2
      simp only [Option.some.injEq] at e
      subst e
      exact .cons (dp_of d v x r1 e1) (dpL_of ds ws ys r2 e2)
    · cases e
end
theorem dpT_of (g : Good c L H) {d : D} {v : V} {x : PyData} (r : Rep c H d v) (e : pyT L d = some x) : Dp K H v x := by
  cases d with
  | ref p =>
    cases rep_ref.mp r
    unfold pyT at e
    simp only at e
    split at e
    · rename_i l e1
      obtain ⟨vs, e2, rs⟩ := good_lst g e1
      obtain ⟨xs, e3, rfl⟩ := Option.map_eq_some_iff.mp e
      exact .lst (SqL.of e2) (dpL_of l vs xs rs e3)
    · cases e
  | _ => exact dp_of _ v x r e
end
def eqX (neg : Bool) (d e : D) (L : Store) (Q : AQ) : Prop := ∃ x y, pyT L d = some x ∧ pyT L e = some y ∧ SeqAt.shaped x = true ∧ SeqAt.shaped y = true ∧ Q (.bl (neg ^^ PyData.eqv x y)) L
def eqD (neg : Bool) : D → D → Store → AQ → Prop
  | .int i, .int j, L, Q => Q (.bl (neg ^^ decide (i = j))) L
  | .str i, .str j, L, Q => Q (.bl (neg ^^ decide (i = j))) L
  | .bl i, .bl j, L, Q => Q (.bl (neg ^^ decide (i = j))) L
  | .tree t, .tree u, L, Q => Q (.bl (neg ^^ decide (t = u))) L
  | d, e, L, Q => eqX neg d e L Q
def spEqF (K : PySem.W.Frag) : Sp := fun vs H Q _ => ∃ x y t u, vs = [x, y] ∧ Ftn (cF K) H t x ∧ Ftn (cF K) H u y ∧ Q (.bl (decide (t = u))) H
section
variable {X : Cx} {c : AC X.K} {CX : CXT} {k : Nat} {ps : List Str} {E : XK}
theorem eq_low {neg : Bool} {rS rD rO : R2} (hS : ∀ x y H Q, scal x y = true → Q (.bl (neg ^^ decide (x = y))) H → rS x y H Q)
    (hD : ∀ x y H Q d e, Dp X.K H x d → Dp X.K H y e → SeqAt.shaped d = true → SeqAt.shaped e = true → Q (.bl (neg ^^ PyData.eqv d e)) H → rD x y H Q)
    (hO : ∀ x y H Q t u, Ftn (cF X.K) H t x → Ftn (cF X.K) H u y → Q (.bl (neg ^^ decide (t = u))) H → rO x y H Q) : LowR2 c (fun x y H Q => rS x y H Q ∨ (rD x y H Q ∨ rO x y H Q)) (eqD neg) := by
  intro x y H Q d e L R rx ry g h pq
  have gen : eqX neg d e L R → (rS x y H Q ∨ (rD x y H Q ∨ rO x y H Q)) := fun ⟨a, b, e1, e2, s1, s2, q⟩ =>
    .inr (.inl (hD x y H Q a b (dpT_of g rx e1) (dpT_of g ry e2) s1 s2 (pq.here q g (rep_bl.mpr rfl))))
  unfold eqD at h
  split at h
  · rename_i i j
    cases rep_int.mp rx
    cases rep_int.mp ry
    refine .inl (hS _ _ H Q rfl ?_)
    have : decide (V.int i = V.int j) = decide (i = j) := by
      by_cases z : i = j
      · subst z; simp
      · rw [decide_eq_false z, decide_eq_false fun q => z (V.int.inj q)]
    rw [this]
    exact pq.here h g (rep_bl.mpr rfl)
  · rename_i i j
    cases rep_str.mp rx
    cases rep_str.mp ry
    refine .inl (hS _ _ H Q rfl ?_)
    have : decide (V.str i = V.str j) = decide (i = j) := by
      by_cases z : i = j
      · subst z; simp
      · rw [decide_eq_false z, decide_eq_false fun q => z (V.str.inj q)]
    rw [this]
    exact pq.here h g (rep_bl.mpr rfl)
  · rename_i i j
    cases rep_bl.mp rx
    cases rep_bl.mp ry
    refine .inl (hS _ _ H Q rfl ?_)
    have : decide (V.bl i = V.bl j) = decide (i = j) := by
      by_cases z : i = j
      · subst z; simp
      · rw [decide_eq_false z, decide_eq_false fun q => z (V.bl.inj q)]
    rw [this]
    exact pq.here h g (rep_bl.mpr rfl)
  · rename_i t u
    exact .inr (.inr (hO x y H Q t u (rep_tree.mp rx) (rep_tree.mp ry) (pq.here h g (rep_bl.mpr rfl))))
  · exact gen h
theorem ftn_ins {H : Hp} {t : T} {x : V} (h : Ftn (cF X.K) H t x) : ∃ a dx fs, x = .ref a ∧ H a = some (.ins (cF X.K) dx fs) := by
  obtain ⟨a, dx, b, n, vs, rfl, h1, _⟩ := ftn_iff.mp h
  exact ⟨a, dx, _, rfl, h1⟩
theorem aop_eq (M : MethD X.prog X.w X.K X.mg X.base CX0 k (cF X.K) "__eq__" ps [] (spEqF X.K)) (hr : Room (k + 1) X.A) (hu : X.A.units + 64 < cLine) : AOp X c (compareOp .Eq) (eqD false) := by
  refine .mk' (op_eq.or ((op_eqD hu).or (op_own_eq (E := fun _ _ _ => True) M (hr.mono (Nat.le_succ k)) pass0))) (eq_low (fun x y H Q s q => ⟨s, by rw [Bool.false_xor] at q; exact q⟩) (fun x y H Q d e h1 h2 s1 s2 q => ⟨d, e, h1, h2, s1, s2, by rw [Bool.false_xor] at q; exact q⟩) fun x y H Q t u h1 h2 q => ?_)
  obtain ⟨a, dx, fs, rfl, e1⟩ := ftn_ins h1
  obtain ⟨b, dy, gs, rfl, e2⟩ := ftn_ins h2
  exact ⟨a, dx, fs, b, dy, gs, rfl, rfl, e1, e2, _, _, t, u, rfl, h1, h2, _, rfl, by rw [Bool.false_xor] at q; simpa using q⟩
theorem aop_ne (cl : ClsF X.K X.mg) (M : MethD X.prog X.w X.K X.mg X.base CX0 k (cF X.K) "__eq__" ps [] (spEqF X.K)) (hr : Room (k + 1) X.A) (hu : X.A.units + 64 < cLine) : AOp X c (compareOp .NotEq) (eqD true) := by
  refine .mk' (op_ne.or ((op_neD hu).or (op_own_ne (E := fun _ _ _ => True) cl.hne cl.hob M hr pass0))) (eq_low (fun x y H Q s q => ⟨s, by rw [Bool.true_xor] at q; exact q⟩) (fun x y H Q d e h1 h2 s1 s2 q => ⟨d, e, h1, h2, s1, s2, by rw [Bool.true_xor] at q; exact q⟩) fun x y H Q t u h1 h2 q => ?_)
  obtain ⟨a, dx, fs, rfl, e1⟩ := ftn_ins h1
  obtain ⟨b, dy, gs, rfl, e2⟩ := ftn_ins h2
  exact ⟨a, dx, fs, b, dy, gs, rfl, rfl, e1, e2, _, _, t, u, rfl, h1, h2, _, rfl, by rw [Bool.true_xor] at q; simpa using q⟩
end
def flatB : D → Bool
  | .non | .bl _ | .int _ | .str _ => true
  | _ => false
def vD : D → V
  | .bl b => .bl b
  | .int i => .int i
  | .str s => .str s
  | _ => .non
section
variable {K : PySem.W.Frag} {c : AC K} {H : Hp} {L : Store}
theorem flat_low {d : D} {v : V} (r : Rep c H d v) (h : flatB d = true) : v = vD d ∧ flatV v = true := by
  cases d with
  | non => cases rep_non.mp r; exact ⟨rfl, rfl⟩
  | bl b => cases rep_bl.mp r; exact ⟨rfl, rfl⟩
  | int i => cases rep_int.mp r; exact ⟨rfl, rfl⟩
  | str s => cases rep_str.mp r; exact ⟨rfl, rfl⟩
  | _ => cases h
end
section
variable {X : Cx} {c : AC X.K}
end
def ixD : D → D → Store → AQ → Prop
  | .tup l, .int i, L, Q => ∃ d, atI l i = some d ∧ Q d L
  | .ref p, .int i, L, Q => ∃ l d, L p = some (.lst l) ∧ atI l i = some d ∧ Q d L
  | .str z, .int i, L, Q => z.length ≤ sizeLine ∧ ∃ c, atI z.cps.toList i = some c ∧ Q (.str ⟨#[c]⟩) L
  | _, _, _, _ => False
theorem atI_low {K : PySem.W.Frag} {c : AC K} {H : Hp} {l : List D} {vs : List V} {i : Int} {d : D} (rs : RepL c H l vs) (h : atI l i = some d) : ∃ v, atI vs i = some v ∧ Rep c H d v := by
  unfold atI at h ⊢
  rw [rs.len]
  cases e : ixN l.length i with
  | none => rw [e] at h; cases h
  | some j =>
    rw [e] at h
    exact rs.get h
section
variable {X : Cx} {c : AC X.K} {H0 : Hp} {e f : Expr} {a b : ATE} {pos p2 : Pos}
theorem ae_ix (ha : AE X c H0 e a) (hb : AE X c H0 f b) (hs : PlainIx f) : AE X c H0 (.Subscript e f pos) (aOp ixD a b) := by
  refine (pe_ix ix_seq ha hb hs).imp fun σ H Q q => low_op (fun x y H Q d e L R rx ry g h pq => ?_) q
  unfold ixD at h
  split at h
  · rename_i l i
    obtain ⟨d, h1, h⟩ := h
    obtain ⟨p, vs, rfl, e1, rs⟩ := rep_tup.mp rx
    obtain ⟨v, e2, r⟩ := atI_low rs h1
    exact .inr (.inl ⟨p, vs, i, v, rfl, rep_int.mp ry, e1, e2, pq.here h g r⟩)
  · rename_i p i
    obtain ⟨l, d, h0, h1, h⟩ := h
    obtain ⟨vs, e1, rs⟩ := good_lst g h0
    cases rep_ref.mp rx
    obtain ⟨v, e2, r⟩ := atI_low rs h1
    exact .inl ⟨p, vs, i, v, rfl, rep_int.mp ry, SqL.of e1, e2, pq.here h g r⟩
  · rename_i z i
    obtain ⟨hz, k, h1, h⟩ := h
    exact .inr (.inr ⟨z, i, k, rep_str.mp rx, rep_int.mp ry, hz, h1, pq.here h g (rep_str.mpr rfl)⟩)
  · exact h.elim
end
abbrev ATO := En → Store → (Option Int → Store → Prop) → Prop
def lowO {K : PySem.W.Frag} (c : AC K) (H0 : Hp) (a : ATO) : TO := fun σ H Q => ∃ env L R, Rl c H0 σ H env L ∧ a env L R ∧ ∀ b L' H', R b L' → Fr c H H' → Good c L' H' → Q b H'
def AO (X : Cx) (c : AC X.K) (H0 : Hp) (e : Option Expr) (a : ATO) : Prop := PO X e (lowO c H0 a)
def aoNone : ATO := fun _ L Q => Q none L
def intD : D → (Int → Prop) → Prop
  | .int i, Q => Q i
  | _, _ => False
def aoSome (a : ATE) : ATO := fun env L Q => a env L fun d L1 => intD d fun i => Q (some i) L1
theorem int_low {K : PySem.W.Frag} {c : AC K} {H : Hp} {d : D} {v : V} {R : Int → Prop} (r : Rep c H d v) (h : intD d R) : ∃ k, v = .int k ∧ R k := by
  cases d with
  | int b => exact ⟨b, rep_int.mp r, h⟩
  | _ => exact h.elim
def cutD (l : List D) (lo hi : Option Int) : List D := (l.drop (HT.sIx l.length 0 lo)).take (HT.sIx l.length l.length hi - HT.sIx l.length 0 lo)
def slD : D → Option Int → Option Int → Store → AQ → Prop
  | .tup l, lo, hi, L, Q => Q (.tup (cutD l lo hi)) L
  | .ref p, lo, hi, L, Q => ∃ l, L p = some (.lst l) ∧ ∀ q, L q = none → Q (.ref q) (sput L q (.lst (cutD l lo hi)))
  | .str z, lo, hi, L, Q => z.length ≤ sizeLine ∧ Q (.str (cutS z lo hi)) L
  | _, _, _, _, _ => False
def aSl (a : ATE) (lo hi : ATO) : ATE := fun env L Q => a env L fun d L1 => lo env L1 fun l L2 => hi env L2 fun h L3 => slD d l h L3 Q
theorem cut_low {K : PySem.W.Frag} {c : AC K} {H : Hp} {l : List D} {vs : List V} {lo hi : Option Int} (rs : RepL c H l vs) : RepL c H (cutD l lo hi) (cutV vs lo hi) := by
  unfold cutD cutV
  rw [rs.len]
  exact (rs.drop _).take _
section
variable {X : Cx} {c : AC X.K} {H0 : Hp} {e : Expr} {lo hi : Option Expr} {a : ATE} {ol oh : ATO} {pos p2 : Pos}
theorem ao_none : AO X c H0 none aoNone := ⟨fun pins s σ H Q I h => po_none.run pins s σ H Q I (by
  obtain ⟨env, L, R, rl, h, pq⟩ := h
  exact pq none L H h (.refl c H) rl.good)⟩
theorem ao_some (h : AE X c H0 e a) : AO X c H0 (some e) (aoSome a) := ⟨fun pins s σ H Q I q => (po_some h).run pins s σ H Q I (by
  obtain ⟨env, L, R, rl, h, pq⟩ := q
  refine ⟨env, L, _, rl, h, fun d L1 x H1 q s1 g1 r1 => ?_⟩
  obtain ⟨k, e1, e2⟩ := int_low (R := fun i => R (some i) L1) r1 q
  exact ⟨k, e1, pq _ L1 H1 e2 s1 g1⟩)⟩
theorem ae_sl (he : AE X c H0 e a) (hl : AO X c H0 lo ol) (hh : AO X c H0 hi oh) : AE X c H0 (.Subscript e (.Slice lo hi none p2) pos) (aSl a ol oh) := by
  refine (pe_slice (sl_list.or (sl_tupA.or sl_str)) he hl hh).imp fun σ H Q ⟨env, L, R, rl, h, pq⟩ => ?_
  refine ⟨env, L, _, rl, h, fun d L1 x H1 q s1 g1 r1 => ?_⟩
  refine ⟨env, L1, _, rl.step s1 g1, q, fun l L2 H2 q2 s2 g2 => ?_⟩
  refine ⟨env, L2, _, rl.step (s1.trans s2) g2, q2, fun u L3 H3 q3 s3 g3 => ?_⟩
  have pq3 := pq.fr ((s1.trans s2).trans s3)
  have rx := r1.fr (s2.trans s3)
  unfold slD at q3
  split at q3
  · rename_i ds
    obtain ⟨p, vs, rfl, e1, rs⟩ := rep_tup.mp rx
    refine .inr (.inl ⟨p, vs, rfl, e1, fun hw => ?_, fun _ r hr => pq3.new hr q3 g3 (rep_tup.mpr ⟨r, _, rfl, SqT.of upd_same, (cut_low rs).fr (.new hr)⟩)⟩)
    have ec : cutD ds l u = ds := by
      unfold cutD
      have h1 := hw.1
      have h2 := hw.2
      rw [rs.len] at h1 h2
      rw [h1, h2, List.drop_zero, Nat.sub_zero, List.take_length]
    have q3 : R (.tup (cutD ds l u)) L3 := q3
    rw [ec] at q3
    exact pq3.here q3 g3 rx
  · rename_i p
    obtain ⟨ds, e0, q3⟩ := q3
    obtain ⟨vs, e1, rs⟩ := good_lst g3 e0
    cases rep_ref.mp rx
    exact .inl ⟨p, vs, rfl, SqL.of e1, fun r hr => pq3.alloc hr (q3 r (g3.fresh hr)) g3 ⟨_, upd_same, (cut_low rs).fr (.new hr)⟩⟩
  · rename_i z
    exact .inr (.inr ⟨z, rep_str.mp rx, q3.1, pq3.here q3.2 g3 (rep_str.mpr rfl)⟩)
  · exact q3.elim
end
def aCall (asp : ASp) (as : ATA) : ATE := fun env L Q => as env L fun ds L1 => asp ds L1 Q anyX
def aCallX (asp : ASp) (RX : AX) (as : ATA) : ATE := fun env L Q => as env L fun ds L1 => asp ds L1 Q RX
def withD (dd : List D) (asp : ASp) : ASp := fun ds L Q RX => asp (ds ++ dd) L Q RX
section
variable {X : Cx} {c : AC X.K} {H0 : Hp} {e o : Expr} {es : List Expr} {a : ATE} {as : ATA} {x m : Str} {p pos apos : Pos} {k : Nat} {ps : List Str} {asp : ASp} {CX : CXT} {E : XK} {RX : AX} {dvs : List V} {dd : List D} {C : Addr}
theorem low_call {σ : L2.St} {H : Hp} {Q : VK} (hd : ∀ H, RepL c H dd dvs) (q : lowE c H0 (aCallX (withD dd asp) RX as) σ H Q) (hE : ∀ H1, Fr c H H1 → Px c H1 RX E) : tCall (spA c asp) dvs E (lowA c H0 as) σ H Q := by
  obtain ⟨env, L, R, rl, h, pq⟩ := q
  exact ⟨env, L, _, rl, h, fun ds L1 vs H1 q s1 g1 r1 => ⟨ds ++ dd, L1, R, RX, r1.app (hd H1), g1, q, pq.fr s1, hE H1 s1⟩⟩
theorem px_any {H : Hp} : Px c H anyX (fun _ _ _ => True) := fun _ _ _ _ _ _ _ _ _ => trivial
theorem ae_call (C : CallD X.prog X.w X.K X.mg X.base CX0 k x ps [] (spA c asp)) (hr : Room k X.A) (hg : Gl X x) (ha : AA X c H0 (e :: es) as) (hdb : (x == ("__debug__" : Str)) = false := by decide)
    (he : starEach (e :: es) X.env = (false, eval e X.env) :: starEach es X.env := by rfl) (hpl : (backTo pos (starEach es X.env)).any (·.1) = false := by rfl) : AE X c H0 (.Call (.Name x p) (e :: es) [] pos) (aCall asp as) := by
  refine (pe_callD (E := fun _ _ _ => True) C hr hg pass0 ha hdb he hpl).imp fun σ H Q q => low_call (dd := []) (RX := anyX) (fun _ => RepL.nil) ?_ fun _ _ => px_any
  obtain ⟨env, L, R, rl, h, pq⟩ := q
  refine ⟨env, L, R, rl, ?_, pq⟩
  have h : as env L fun ds L1 => asp ds L1 R anyX := h
  unfold aCallX withD
  simpa using h
end
def LowC {K : PySem.W.Frag} (c : AC K) (r : List V → Hp → VK → Prop) (f : List D → Store → AQ → Prop) : Prop := ∀ vs H Q ds L R, RepL c H ds vs → Good c L H → f ds L R → Pq c H R Q → r vs H Q
structure ACB (X : Cx) (c : AC X.K) (g : Value) (f : List D → Store → AQ → Prop) : Prop where
  ex : ∃ r, CallR X g r ∧ LowC c r f
def aB (f : List D → Store → AQ → Prop) (as : ATA) : ATE := fun env L Q => as env L fun ds L1 => f ds L1 Q
section
variable {X : Cx} {c : AC X.K} {H0 : Hp} {e o : Expr} {es : List Expr} {a : ATE} {as : ATA} {x m : Str} {p pos apos : Pos} {id T : String} {f : List D → Store → AQ → Prop}
theorem ACB.mk' {g : Value} {r : List V → Hp → VK → Prop} (h : CallR X g r) (k : LowC c r f) : ACB X c g f := ⟨r, h, k⟩
theorem low_cb {r : List V → Hp → VK → Prop} (h : LowC c r f) {σ : L2.St} {H : Hp} {Q : VK} (q : lowE c H0 (aB f as) σ H Q) : tCB r (lowA c H0 as) σ H Q := by
  obtain ⟨env, L, R, rl, k, pq⟩ := q
  exact ⟨env, L, _, rl, k, fun ds L1 vs H1 q s1 g1 r1 => h vs H1 Q ds L1 R r1 g1 q (pq.fr s1)⟩
theorem ae_b (hc : ACB X c (.builtin id) f) (hg : Gl X x) (hm : X.mg x = none) (hv : bootBuiltins x = some (.builtin id)) (ha : AA X c H0 (e :: es) as) (hn : x ≠ "__name__" := by decide) (hdb : (x == ("__debug__" : Str)) = false := by decide)
    (he : starEach (e :: es) X.env = (false, eval e X.env) :: starEach es X.env := by rfl) (hpl : (backTo pos (starEach es X.env)).any (·.1) = false := by rfl) : AE X c H0 (.Call (.Name x p) (e :: es) [] pos) (aB f as) := by
  obtain ⟨r, h1, h2⟩ := hc.ex
  exact (pe_callB h1 hg hm hv ha hn hdb he hpl).imp fun _ _ _ q => low_cb h2 q
theorem ae_ty (hc : ACB X c (.type T) f) (hg : Gl X x) (hm : X.mg x = none) (hv : bootBuiltins x = some (.type T)) (ha : AA X c H0 (e :: es) as) (hn : x ≠ "__name__" := by decide) (hdb : (x == ("__debug__" : Str)) = false := by decide)
    (he : starEach (e :: es) X.env = (false, eval e X.env) :: starEach es X.env := by rfl) (hpl : (backTo pos (starEach es X.env)).any (·.1) = false := by rfl) : AE X c H0 (.Call (.Name x p) (e :: es) [] pos) (aB f as) := by
  obtain ⟨r, h1, h2⟩ := hc.ex
  exact (pe_callTy h1 hg hm hv ha hn hdb he hpl).imp fun _ _ _ q => low_cb h2 q
end
def lenD : List D → Store → AQ → Prop
  | [.str z], L, Q => z.length ≤ sizeLine ∧ Q (.int z.length) L
  | [.tup l], L, Q => Q (.int l.length) L
  | [.ref p], L, Q => ∃ l, L p = some (.lst l) ∧ Q (.int l.length) L
  | [.scr], L, Q => ∀ n : Nat, n ≤ 63 → Q (.int n) L
  | _, _, _ => False
def intFD : List D → Store → AQ → Prop
  | [.int i], L, Q => Q (.int i) L
  | [.bl k], L, Q => Q (.int (if k then 1 else 0)) L
  | _, _, _ => False
def sumD : List D → Store → AQ → Prop
  | [.ref p], L, Q => ∃ ns : List Int, L p = some (.lst (ns.map D.int)) ∧ Q (.int ns.sum) L
  | _, _, _ => False
def minD : List D → Store → AQ → Prop
  | [.ref p], L, Q => ∃ ns : List Int, L p = some (.lst (ns.map D.int)) ∧ 0 < ns.length ∧ ∀ m, m ∈ ns → (∀ y, y ∈ ns → m ≤ y) → Q (.int m) L
  | [.int i, .int j], L, Q => Q (.int (if j < i then j else i)) L
  | _, _, _ => False
def listD : List D → Store → AQ → Prop
  | [.tup l], L, Q => ∀ r, L r = none → Q (.ref r) (sput L r (.lst l))
  | [.ref p], L, Q => ∃ l, L p = some (.lst l) ∧ ∀ r, L r = none → Q (.ref r) (sput L r (.lst l))
  | _, _, _ => False
def tupD : List D → Store → AQ → Prop
  | [.tup l], L, Q => Q (.tup l) L
  | [.ref p], L, Q => ∃ l, L p = some (.lst l) ∧ Q (.tup l) L
  | _, _, _ => False
section
variable {K : PySem.W.Frag} {c : AC K}
theorem repL_one {H : Hp} {d : D} {vs : List V} (r : RepL c H [d] vs) : ∃ v, vs = [v] ∧ Rep c H d v := by
  obtain ⟨v, ws, rfl, r1, r2⟩ := repL_cons.mp r
  cases repL_nil.mp r2
  exact ⟨v, rfl, r1⟩
theorem repL_two {H : Hp} {d e : D} {vs : List V} (r : RepL c H [d, e] vs) : ∃ v w, vs = [v, w] ∧ Rep c H d v ∧ Rep c H e w := by
  obtain ⟨v, ws, rfl, r1, r2⟩ := repL_cons.mp r
  obtain ⟨w, rfl, r3⟩ := repL_one r2
  exact ⟨v, w, rfl, r1, r3⟩
end
section
variable {X : Cx} {c : AC X.K}
theorem acb_len : ACB X c (.builtin "len") lenD := by
  refine .mk' call_len fun vs H Q ds L R r g h pq => ?_
  unfold lenD at h
  split at h
  · rename_i z
    obtain ⟨v, rfl, r1⟩ := repL_one r
    cases rep_str.mp r1
    exact ⟨_, _, rfl, ⟨h.1, rfl⟩, pq.here h.2 g (rep_int.mpr rfl)⟩
  · rename_i l
    obtain ⟨v, rfl, r1⟩ := repL_one r
    obtain ⟨p, ws, rfl, e1, rs⟩ := rep_tup.mp r1
    exact ⟨_, l.length, rfl, .inr ⟨ws, e1, rs.len.symm⟩, pq.here h g (rep_int.mpr rfl)⟩
  · rename_i p
    obtain ⟨l, e0, h⟩ := h
    obtain ⟨v, rfl, r1⟩ := repL_one r
    cases rep_ref.mp r1
    obtain ⟨ws, e1, rs⟩ := good_lst g e0
    exact ⟨_, l.length, rfl, .inl ⟨ws, SqL.of e1, rs.len.symm⟩, pq.here h g (rep_int.mpr rfl)⟩
  · obtain ⟨v, rfl, r1⟩ := repL_one r
    obtain ⟨a, ns, e1, rfl⟩ := rep_scr.mp r1
    exact ⟨_, ns.length, rfl, .inl ⟨_, g.seq e1, by rw [List.length_map]⟩, pq.here (h ns.length (g.scr a ns e1).1) g (rep_int.mpr rfl)⟩
  · exact h.elim
theorem acb_int : ACB X c (.type "int") intFD := by
  refine .mk' call_int1 fun vs H Q ds L R r g h pq => ?_
  unfold intFD at h
  split at h
  · rename_i i
    obtain ⟨v, rfl, r1⟩ := repL_one r
    cases rep_int.mp r1
    exact .inl ⟨_, rfl, pq.here h g (rep_int.mpr rfl)⟩
  · rename_i k
    obtain ⟨v, rfl, r1⟩ := repL_one r
    cases rep_bl.mp r1
    exact .inr ⟨_, rfl, pq.here h g (rep_int.mpr rfl)⟩
  · exact h.elim
theorem acb_sum (hc : X.calm = true) : ACB X c (.builtin "sum") sumD := by
  refine .mk' (cr_sum hc) fun vs H Q ds L R r g h pq => ?_
  unfold sumD at h
  split at h
  · rename_i p
    obtain ⟨ns, e0, h⟩ := h
    obtain ⟨v, rfl, r1⟩ := repL_one r
    cases rep_ref.mp r1
    obtain ⟨ws, e1, rs⟩ := good_lst g e0
    rw [RepL.ints.mp rs] at e1
    exact ⟨p, ns, rfl, SqL.of e1, pq.here h g (rep_int.mpr rfl)⟩
  · exact h.elim
theorem acb_min (hc : X.calm = true) : ACB X c (.builtin "min") minD := by
  refine .mk' ((cr_min hc).or (call_min2 hc)) fun vs H Q ds L R r g h pq => ?_
  unfold minD at h
  split at h
  · rename_i p
    obtain ⟨ns, e0, hl, h⟩ := h
    obtain ⟨v, rfl, r1⟩ := repL_one r
    cases rep_ref.mp r1
    obtain ⟨ws, e1, rs⟩ := good_lst g e0
    rw [RepL.ints.mp rs] at e1
    exact .inl ⟨p, ns, rfl, SqL.of e1, hl, fun m h1 h2 => pq.here (h m h1 h2) g (rep_int.mpr rfl)⟩
  · rename_i i j
    obtain ⟨v, w, rfl, r1, r2⟩ := repL_two r
    cases rep_int.mp r1
    cases rep_int.mp r2
    exact .inr ⟨i, j, rfl, pq.here h g (rep_int.mpr rfl)⟩
  · exact h.elim
theorem acb_list : ACB X c (.type "list") listD := by
  refine .mk' call_list_of fun vs H Q ds L R r g h pq => ?_
  unfold listD at h
  split at h
  · rename_i l
    obtain ⟨v, rfl, r1⟩ := repL_one r
    obtain ⟨p, ws, rfl, e1, rs⟩ := rep_tup.mp r1
    exact ⟨p, ws, rfl, .inr (e1), fun q hq => pq.alloc hq (h q (g.fresh hq)) g ⟨ws, upd_same, rs.fr (.new hq)⟩⟩
  · rename_i p
    obtain ⟨l, e0, h⟩ := h
    obtain ⟨v, rfl, r1⟩ := repL_one r
    cases rep_ref.mp r1
    obtain ⟨ws, e1, rs⟩ := good_lst g e0
    exact ⟨p, ws, rfl, .inl (SqL.of e1), fun q hq => pq.alloc hq (h q (g.fresh hq)) g ⟨ws, upd_same, rs.fr (.new hq)⟩⟩
  · exact h.elim
theorem acb_tup : ACB X c (.type "tuple") tupD := by
  refine .mk' call_tuple_of fun vs H Q ds L R r g h pq => ?_
  unfold tupD at h
  split at h
  · rename_i l
    obtain ⟨v, rfl, r1⟩ := repL_one r
    obtain ⟨p, ws, rfl, e1, rs⟩ := rep_tup.mp r1
    exact ⟨p, ws, rfl, .inr ⟨e1, pq.here h g r1⟩⟩
  · rename_i p
    obtain ⟨l, e0, h⟩ := h
    obtain ⟨v, rfl, r1⟩ := repL_one r
    cases rep_ref.mp r1
    obtain ⟨ws, e1, rs⟩ := good_lst g e0
    exact ⟨p, ws, rfl, .inl ⟨SqL.of e1, fun q hq => pq.new hq h g (rep_tup.mpr ⟨q, ws, rfl, SqT.of upd_same, rs.fr (.new hq)⟩)⟩⟩
  · exact h.elim
end
end AL
namespace AL
open PySem PySem.Spec PyProof.Rows L2 LamX JW
def treeD : D → (T → Prop) → Prop
  | .tree t, Q => Q t
  | _, _ => False
def aProp (g : T → D) (a : ATE) : ATE := fun env L Q => a env L fun d L1 => treeD d fun t => Q (g t) L1
theorem tree_low {K : PySem.W.Frag} {c : AC K} {H : Hp} {d : D} {v : V} {R : T → Prop} (r : Rep c H d v) (h : treeD d R) : ∃ t, Ftn (cF K) H t v ∧ R t := by
  cases d with
  | tree t => exact ⟨t, rep_tree.mp r, h⟩
  | _ => exact h.elim
theorem _root_.JW.CallD.imp {P : Program} {w : World} {K : PySem.W.Frag} {mg : Str → Option Value} {base : Heap} {CX : CXT} {k : Nat} {x : Str} {ps : List Str} {dvs : List V} {sp sp' : Sp} (C : CallD P w K mg base CX k x ps dvs sp) (h : ∀ vs H Q E, sp' vs H Q E → sp vs H Q E) : CallD P w K mg base CX k x ps dvs sp' := by
  obtain ⟨f, fd, ds, h1, h2, h3, h4, F⟩ := C.ex
  exact ⟨f, fd, ds, h1, h2, h3, h4, F.imp h⟩
theorem _root_.JW.MethD.imp {P : Program} {w : World} {K : PySem.W.Frag} {mg : Str → Option Value} {base : Heap} {CX : CXT} {k : Nat} {C : Addr} {x : Str} {ps : List Str} {dvs : List V} {sp sp' : Sp} (M : MethD P w K mg base CX k C x ps dvs sp) (h : ∀ vs H Q E, sp' vs H Q E → sp vs H Q E) : MethD P w K mg base CX k C x ps dvs sp' := by
  obtain ⟨f, fd, ds, h1, h2, h3, F⟩ := M.ex
  exact ⟨f, fd, ds, h1, h2, h3, F.imp h⟩
theorem _root_.JW.MakeD.imp {P : Program} {w : World} {K : PySem.W.Frag} {mg : Str → Option Value} {base : Heap} {CX : CXT} {k : Nat} {C : Addr} {x : Str} {ps : List Str} {dvs : List V} {sp sp' : Sp} (M : MakeD P w K mg base CX k x C ps dvs sp) (h : ∀ vs H Q E, sp' vs H Q E → sp vs H Q E) : MakeD P w K mg base CX k x C ps dvs sp' := by
  obtain ⟨f, fd, ds, h1, h2, h3, h4, F⟩ := M.ex
  exact ⟨f, fd, ds, h1, h2, h3, h4, F.imp h⟩
section
variable {X : Cx} {c : AC X.K} {H0 : Hp} {e o : Expr} {es : List Expr} {a b : ATE} {as : ATA} {x m f : Str} {p pos apos : Pos} {k : Nat} {ps : List Str} {asp : ASp} {CX : CXT} {E : XK} {RX : AX}
theorem ae_prop {g : T → D} {fV : T → V} (cl : Cls X.K (cF X.K)) (M : PropD X.prog X.w X.K X.mg X.base CX0 k (cF X.K) f (spV X.K fV)) (hg : ∀ H t, Rep c H (g t) (fV t)) (hr : Room (k + 1) X.A) (he : AE X c H0 e a) (hab : attributeBase e f X.env (eval e X.env) = eval e X.env) : AE X c H0 (.Attribute e f pos) (aProp g a) := by
  refine (pe_propD (E := fun _ _ _ => True) cl M hr pass0 he hab).imp fun σ H Q ⟨env, L, R, rl, h, pq⟩ => ?_
  refine ⟨env, L, _, rl, h, fun d L1 x H1 q s1 g1 r1 => ?_⟩
  obtain ⟨t, hf, q⟩ := tree_low (R := fun t => R (g t) L1) r1 q
  obtain ⟨p, dx, b, n, vs, rfl, h1, _⟩ := ftn_iff.mp hf
  exact ⟨p, dx, _, rfl, h1, _, t, rfl, hf, (pq.fr s1).here q g1 (hg H1 t)⟩
theorem ae_kids (cl : Cls X.K (cF X.K)) (M : PropD X.prog X.w X.K X.mg X.base CX0 k (cF X.K) f (spKids X.K)) (hr : Room (k + 1) X.A) (he : AE X c H0 e a) (hab : attributeBase e f X.env (eval e X.env) = eval e X.env) : AE X c H0 (.Attribute e f pos) (aProp (fun t => .tup (t.kids.map .tree)) a) := by
  refine (pe_propD (E := fun _ _ _ => True) cl M hr pass0 he hab).imp fun σ H Q ⟨env, L, R, rl, h, pq⟩ => ?_
  refine ⟨env, L, _, rl, h, fun d L1 x H1 q s1 g1 r1 => ?_⟩
  obtain ⟨t, hf, q⟩ := tree_low (R := fun t => R (.tup (t.kids.map .tree)) L1) r1 q
  obtain ⟨p, dx, b, n, vs, rfl, h1, _⟩ := ftn_iff.mp hf
  exact ⟨p, dx, _, rfl, h1, _, t, rfl, hf, fun b' xs hb hk => (pq.fr s1).here q g1 (rep_tup.mpr ⟨b', xs, rfl, SqT.of hb, RepL.trees.mpr hk⟩)⟩
def ownD (asp : ASp) (RX : AX) : D → D → Store → AQ → Prop
  | .tree t, .tree u, L, Q => asp [.tree t, .tree u] L (fun z L' => isNonD z = false ∧ Q z L') RX
  | _, _, _, _ => False
theorem non_low {d : D} {v : V} {H : Hp} (r : Rep c H d v) (h : isNonD d = false) : v ≠ .non := by
  have := isNon_low r
  rw [h] at this
  exact of_decide_eq_false this
theorem aop_own {op : Operator} (cl : ClsF X.K X.mg) (M : MethD X.prog X.w X.K X.mg X.base CX0 k (cF X.K) (PySem.dunder op.info.2) ps [] (spA c asp)) (hr : Room k X.A) : AOp X c (binaryOp op) (ownD asp anyX) := by
  refine .mk' (op_own (E := fun _ _ _ => True) cl.sf M hr pass0) fun x y H Q d e L R rx ry g h pq => ?_
  unfold ownD at h
  split at h
  · rename_i t u
    obtain ⟨p, dx, fs, rfl, e1⟩ := ftn_ins (rep_tree.mp rx)
    obtain ⟨q, dy, gs, rfl, e2⟩ := ftn_ins (rep_tree.mp ry)
    exact ⟨p, dx, fs, q, dy, gs, rfl, rfl, e1, e2, _, L, _, anyX, .cons rx (.one ry), g, h, fun z L' v H' ⟨n, r⟩ s g' rz => ⟨non_low rz n, pq z L' v H' r s g' rz⟩, px_any⟩
  · exact h.elim
theorem ae_make {C : Addr} {dvs : List V} {sp : Sp} {dd : List D} (M : MakeD X.prog X.w X.K X.mg X.base CX0 k x C ps dvs sp) (hr : Room (k + 1) X.A) (hg : Gl X x) (ha : AA X c H0 (e :: es) as)
    (hsp : ∀ ds vs H L R Q, RepL c H ds vs → Good c L H → asp ds L R anyX → Pq c H R Q → ∀ x dx, H x = none → H dx = none → dx ≠ x → sp (.ref x :: (vs ++ dvs)) (upd (upd H dx (.own x)) x (.ins C dx [])) (fun v H2 => v = .non ∧ Q (.ref x) H2) (fun _ _ _ => True))
    (hdb : (x == ("__debug__" : Str)) = false := by decide) (he : starEach (e :: es) X.env = (false, eval e X.env) :: starEach es X.env := by rfl) (hpl : (backTo pos (starEach es X.env)).any (·.1) = false := by rfl) : AE X c H0 (.Call (.Name x p) (e :: es) [] pos) (aCall asp as) := by
  refine (pe_makeD (E := fun _ _ _ => True) M hr hg pass0 ha hdb he hpl).imp fun σ H Q ⟨env, L, R, rl, h, pq⟩ => ?_
  exact ⟨env, L, _, rl, h, fun ds L1 vs H1 q s1 g1 r1 x dx hx hdx ne => hsp ds vs H1 L1 R Q r1 g1 q (pq.fr s1) x dx hx hdx ne⟩
end
def LowM {K : PySem.W.Frag} (c : AC K) (r : V → List V → Hp → VK → Prop) (f : D → List D → Store → AQ → Prop) : Prop := ∀ x vs H Q d ds L R, Rep c H d x → RepL c H ds vs → Good c L H → f d ds L R → Pq c H R Q → r x vs H Q
def isLst (d : D) (L : Store) : Prop := ∃ p l, d = .ref p ∧ L p = some (.lst l)
def isStr (d : D) : Prop := ∃ z, d = .str z
def aMl (f : D → List D → Store → AQ → Prop) (a : ATE) (as : ATA) : ATE := fun env L Q => a env L fun d L1 => isLst d L1 ∧ as env L1 fun ds L2 => f d ds L2 Q
def aMs (f : D → List D → Store → AQ → Prop) (a : ATE) (as : ATA) : ATE := fun env L Q => a env L fun d L1 => isStr d ∧ as env L1 fun ds L2 => f d ds L2 Q
def appendD : D → List D → Store → AQ → Prop
  | .ref p, [d], L, Q => ∃ l, L p = some (.lst l) ∧ l.length < sizeLine ∧ Q .non (sput L p (.lst (l ++ [d])))
  | _, _, _, _ => False
def popAtD : D → List D → Store → AQ → Prop
  | .ref p, [.int i], L, Q => ∃ l k d, L p = some (.lst l) ∧ -(2 ^ 63) ≤ i ∧ i < 2 ^ 63 ∧ seqIndex? i l.length = some k ∧ l[k]? = some d ∧ Q d (sput L p (.lst (l.eraseIdx k)))
  | _, _, _, _ => False
def joinD : D → List D → Store → AQ → Prop
  | .str z, [.ref p], L, Q => ∃ ys : List Str, L p = some (.lst (ys.map D.str)) ∧ (ys.map (·.length)).sum + ys.length * z.length ≤ 16777216 ∧ Q (.str (Txt.join z ys)) L
  | .str z, [.tup l], L, Q => ∃ ys : List Str, l = ys.map D.str ∧ (ys.map (·.length)).sum + ys.length * z.length ≤ 16777216 ∧ Q (.str (Txt.join z ys)) L
  | _, _, _, _ => False
section
variable {X : Cx} {c : AC X.K} {H0 : Hp} {o e : Expr} {es : List Expr} {a b : ATE} {as : ATA} {name : Str} {apos cpos pos : Pos} {id : String} {r : V → List V → Hp → VK → Prop} {f : D → List D → Store → AQ → Prop}
theorem ty_lst {H : Hp} {L : Store} {d : D} {v : V} (r : Rep c H d v) (g : Good c L H) (h : isLst d L) : tyV X.K "list" v H := by
  obtain ⟨p, l, rfl, e1⟩ := h
  cases rep_ref.mp r
  obtain ⟨vs, e2, _⟩ := good_lst g e1
  exact .inl ⟨rfl, vs, SqL.of e2⟩
theorem ae_ml (pa : PlainAttrs "list") (slot : Slot "list" name id) (hty : typeOf (.builtin id) = pure (.type "method_descriptor")) (hm : MtR X id r) (k : LowM c r f) (ho : AE X c H0 o a) (ha : AA X c H0 (e :: es) as)
    (hbase : attributeBase o name X.env (eval o X.env) = eval o X.env := by rfl)
    (hfew : ((backTo cpos (starEach (e :: es) X.env)).all (fun x => !x.1) && (backToKw cpos (keywordEach [] X.env)).all (fun x => x.1.isSome)
      && decide ((e :: es).length + ([] : List Keyword).length + (if ([] : List Keyword).isEmpty then 0 else 1) < 30)) = true := by rfl)
    (hline : (apos.endLine == cpos.line) = true := by rfl) (hs : starEach (e :: es) X.env = (false, eval e X.env) :: starEach es X.env := by rfl) (hplain : (backTo cpos (starEach es X.env)).any (·.1) = false := by rfl) :
    AE X c H0 (.Call (.Attribute o name apos) (e :: es) [] cpos) (aMl f a as) := by
  refine (pe_bm pa slot hty hm ho ha hbase hfew hline hs hplain).imp fun σ H Q ⟨env, L, R, rl, h, pq⟩ => ?_
  refine ⟨env, L, _, rl, h, fun d L1 x H1 ⟨hl, q⟩ s1 g1 r1 => ⟨ty_lst r1 g1 hl, env, L1, _, rl.step s1 g1, q, fun ds L2 vs H2 q2 s2 g2 r2 => ?_⟩⟩
  exact k x vs H2 Q d ds L2 R (r1.fr s2) r2 g2 q2 (pq.fr (s1.trans s2))
theorem ae_ms1 (slot : Slot "str" name id) (ty : typeOf (.builtin id) = pure (.type "method_descriptor")) (hm : MtR X id r) (k : LowM c r f) (ho : AE X c H0 o a) (he : AE X c H0 e b)
    (hs : starEach [e] X.env = [(false, eval e X.env)] := by rfl) (hbase : attributeBase o name X.env (eval o X.env) = eval o X.env := by rfl) (hline : (apos.endLine == pos.line) = true := by rfl) :
    AE X c H0 (.Call (.Attribute o name apos) [e] [] pos) (aMs f a (aCons b aNil)) := by
  refine (pe_m1 slot ty hm ho he hs hbase hline).imp fun σ H Q ⟨env, L, R, rl, h, pq⟩ => ?_
  refine ⟨env, L, _, rl, h, fun d L1 x H1 ⟨⟨z, hz⟩, q⟩ s1 g1 r1 => ?_⟩
  subst hz
  refine ⟨⟨z, rep_str.mp r1⟩, env, L1, _, rl.step s1 g1, q, fun d2 L2 y H2 q2 s2 g2 r2 => ?_⟩
  exact k x [y] H2 Q _ [d2] L2 R (r1.fr s2) (.one r2) g2 q2 (pq.fr (s1.trans s2))
end
section
variable {K : PySem.W.Frag} {c : AC K}
theorem lst_put {H : Hp} {L : Store} {R : AQ} {Q : VK} {p : Addr} {l l' : List D} {vs' : List V} {d : D} {v : V} (g : Good c L H) (pq : Pq c H R Q) (e : L p = some (.lst l)) (rs : RepL c H l' vs') (rd : Rep c H d v) (q : R d (sput L p (.lst l'))) : Q v (upd H p (.lst vs')) := by
  obtain ⟨vs, e1, _⟩ := good_lst g e
  have s : Fr c H (upd H p (.lst vs')) := .put e1 fun z => z
  obtain ⟨g', _⟩ := g.put (m' := .lst l') e (.lst vs') ⟨vs', upd_same, rs.fr s⟩
  exact pq d _ v _ q s g' (rd.fr s)
theorem low_append : LowM c rAppend appendD := fun x vs H Q d ds L R rx rv g h pq => by
  unfold appendD at h
  split at h
  · rename_i p d
    obtain ⟨l, e, hz, h⟩ := h
    cases rep_ref.mp rx
    obtain ⟨v, rfl, r1⟩ := repL_one rv
    obtain ⟨ws, e1, rs⟩ := good_lst g e
    exact ⟨p, ws, v, rfl, rfl, e1, by rw [rs.len]; exact hz, lst_put g pq e (rs.app (.one r1)) (rep_non.mpr rfl) h⟩
  · exact h.elim
theorem low_popAt : LowM c rPopAt popAtD := fun x vs H Q d ds L R rx rv g h pq => by
  unfold popAtD at h
  split at h
  · rename_i p i
    obtain ⟨l, k, d, e, h1, h2, h3, e2, h⟩ := h
    cases rep_ref.mp rx
    obtain ⟨v, rfl, r1⟩ := repL_one rv
    cases rep_int.mp r1
    obtain ⟨ws, e1, rs⟩ := good_lst g e
    obtain ⟨v, e3, r⟩ := rs.get e2
    exact ⟨p, ws, i, k, v, rfl, rfl, e1, h1, h2, by rw [rs.len]; exact h3, e3, lst_put g pq e (rs.eraseIdx k) r h⟩
  · exact h.elim
theorem low_join : LowM c (fun x xs H Q => ∃ a p, ∃ ys : List Str, x = .str a ∧ xs = [.ref p] ∧ (SqL K H p (ys.map V.str) ∨ SqT K H p (ys.map V.str)) ∧
    (ys.map (·.length)).sum + ys.length * a.length ≤ 16777216 ∧ Q (.str (Txt.join a ys)) H) joinD := fun x vs H Q d ds L R rx rv g h pq => by
  unfold joinD at h
  split at h
  · rename_i z p
    obtain ⟨ys, e, hz, h⟩ := h
    obtain ⟨v, rfl, r1⟩ := repL_one rv
    cases rep_ref.mp r1
    obtain ⟨ws, e1, rs⟩ := good_lst g e
    rw [RepL.strs.mp rs] at e1
    exact ⟨z, p, ys, rep_str.mp rx, rfl, .inl (SqL.of e1), hz, pq.here h g (rep_str.mpr rfl)⟩
  · rename_i z l
    obtain ⟨ys, e, hz, h⟩ := h
    subst e
    obtain ⟨v, rfl, r1⟩ := repL_one rv
    obtain ⟨p, ws, rfl, e1, rs⟩ := rep_tup.mp r1
    rw [RepL.strs.mp rs] at e1
    exact ⟨z, p, ys, rep_str.mp rx, rfl, .inr e1, hz, pq.here h g (rep_str.mpr rfl)⟩
  · exact h.elim
end
def refD : D → (Addr → Prop) → Prop
  | .ref p, Q => Q p
  | _, _ => False
def tupE : D → (List D → Prop) → Prop
  | .tup l, Q => Q l
  | _, _ => False
theorem ref_low {K : PySem.W.Frag} {c : AC K} {H : Hp} {d : D} {v : V} {R : Addr → Prop} (r : Rep c H d v) (h : refD d R) : ∃ p, v = .ref p ∧ R p := by
  cases d with
  | ref p => exact ⟨p, rep_ref.mp r, h⟩
  | _ => exact h.elim
theorem tup_low {K : PySem.W.Frag} {c : AC K} {H : Hp} {d : D} {v : V} {R : List D → Prop} (r : Rep c H d v) (h : tupE d R) : ∃ p vs l, v = .ref p ∧ SqT K H p vs ∧ RepL c H l vs ∧ R l := by
  cases d with
  | tup l =>
    obtain ⟨p, vs, e, e1, rs⟩ := rep_tup.mp r
    exact ⟨p, vs, l, e, e1, rs, h⟩
  | _ => exact h.elim
def lstAt (p : Addr) (l : List D) : Store → Prop := fun L => L p = some (.lst l)
def yes : Store → Prop := fun _ => True
def aiList (a : ATE) : ATI := fun env L Q => a env L fun d L1 => refD d fun p => ∃ l, L1 p = some (.lst l) ∧ Q l (lstAt p l) L1
def aiTup (a : ATE) : ATI := fun env L Q => a env L fun d L1 => tupE d fun l => Q l yes L1
def rngD (lo : Int) (n : Nat) : List D := (List.range n).map fun i => .int (lo + (i : Nat))
def aiRng1 (as : ATA) : ATI := fun env L Q => as env L fun ds L1 => match ds with
  | [.int j] => -(2 ^ 62) ≤ j ∧ j < 2 ^ 62 ∧ Q (rngD 0 j.toNat) yes L1
  | _ => False
def enumD (l : List D) : List D := (List.range l.length).zipWith (fun i d => .tup [.int (i : Nat), d]) l
def aiEnumL (as : ATA) : ATI := fun env L Q => as env L fun ds L1 => match ds with
  | [.ref p] => ∃ l, L1 p = some (.lst l) ∧ Q (enumD l) (lstAt p l) L1
  | _ => False
def aiEnumT (as : ATA) : ATI := fun env L Q => as env L fun ds L1 => match ds with
  | [.tup l] => Q (enumD l) yes L1
  | _ => False
section
variable {K : PySem.W.Frag} {c : AC K} {H H1 H' : Hp} {L : Store}
theorem walkA_list {p : Addr} {l : List D} (g : Good c L H) (e : L p = some (.lst l)) : WalkA c (Itl K p) l (lstAt p l) H := by
  obtain ⟨vs, e1, rs⟩ := good_lst g e
  refine ⟨fun H' => Fr c H H' ∧ ∃ ws, H' p = some (.lst ws) ∧ RepL c H' l ws, ?_, fun L' H' s g' e' => ⟨s, good_lst g' e'⟩⟩
  refine ⟨fun i H' hi ⟨_, ws, e2, r2⟩ => ⟨ws, ws[i]'(by rw [r2.len]; exact hi), SqL.of e2, List.getElem?_eq_getElem (by rw [r2.len]; exact hi)⟩, fun H' ⟨_, ws, e2, r2⟩ => ⟨ws, SqL.of e2, by rw [r2.len]; exact Nat.le_refl _⟩, fun i H1 x H2 hi ⟨s, ws, e2, r2⟩ y => ?_⟩
  obtain ⟨rfl, y⟩ := y
  obtain ⟨d, e3, r⟩ := r2.getV (y ws (SqL.of e2))
  exact ⟨.refl c _, fun L g => g, d, e3, r⟩
theorem walkA_tup {p : Addr} {l : List D} {vs : List V} (e : SqT K H p vs) (rs : RepL c H l vs) : WalkA c (Itt K p) l yes H := by
  refine ⟨fun H' => Fr c H H', ?_, fun L' H' s g' e' => s⟩
  have at_ : ∀ {H'}, Fr c H H' → SqT K H' p vs := fun s => sqT_fr s e
  refine ⟨fun i H' hi s => ⟨vs, vs[i]'(by rw [rs.len]; exact hi), at_ s, List.getElem?_eq_getElem (by rw [rs.len]; exact hi)⟩, fun H' s => ⟨vs, at_ s, by rw [rs.len]; exact Nat.le_refl _⟩, fun i H1 x H2 hi s y => ?_⟩
  obtain ⟨rfl, y⟩ := y
  obtain ⟨d, e3, r⟩ := (rs.fr s).getV (y vs (at_ s))
  exact ⟨.refl c _, fun L g => g, d, e3, r⟩
theorem rngD_get {lo : Int} {n i : Nat} (h : i < n) : (rngD lo n)[i]? = some (.int (lo + (i : Nat))) := by
  unfold rngD
  rw [List.getElem?_map, List.getElem?_range h]
  rfl
theorem rngD_len {lo : Int} {n : Nat} : (rngD lo n).length = n := by
  unfold rngD
  rw [List.length_map, List.length_range]
theorem walkA_rng {lo : Int} {n : Nat} : WalkA c (Itr lo n) (rngD lo n) yes H := by
  refine ⟨fun _ => True, ?_, fun _ _ _ _ _ => trivial⟩
  rw [rngD_len]
  refine walk_range.mono (fun _ _ => trivial) fun i H1 x H2 hi _ y => ?_
  obtain ⟨rfl, rfl⟩ := y
  exact ⟨.refl c _, fun L g => g, _, rngD_get hi, rep_int.mpr rfl⟩
theorem pair_new {p : Addr} {x y : V} {d e : D} {H : Hp} (hp : H p = none) (r1 : Rep c H d x) (r2 : Rep c H e y) : Fr c H (upd H p (.tup [x, y])) ∧ (∀ L, Good c L H → Good c L (upd H p (.tup [x, y]))) ∧ Rep c (upd H p (.tup [x, y])) (.tup [d, e]) (.ref p) :=
  ⟨.new hp, fun L g => g.new hp _, rep_tup.mpr ⟨p, _, rfl, SqT.of upd_same, .cons (r1.fr (.new hp)) (.one (r2.fr (.new hp)))⟩⟩
theorem enumD_get {l : List D} {i : Nat} {d : D} (h : l[i]? = some d) : (enumD l)[i]? = some (.tup [.int (i : Nat), d]) := by
  have hi : i < l.length := (List.getElem?_eq_some_iff.mp h).1
  unfold enumD
  rw [List.getElem?_zipWith, List.getElem?_range hi, h]
theorem enumD_len {l : List D} : (enumD l).length = l.length := by
  unfold enumD
  rw [List.length_zipWith, List.length_range, Nat.min_self]
theorem walkA_enumL {p : Addr} {l : List D} (g : Good c L H) (e : L p = some (.lst l)) : WalkA c (Ite K p) (enumD l) (lstAt p l) H := by
  refine ⟨fun H' => Fr c H H' ∧ ∃ ws, H' p = some (.lst ws) ∧ RepL c H' l ws, ?_, fun L' H' s g' e' => ⟨s, good_lst g' e'⟩⟩
  rw [enumD_len]
  refine ⟨fun i H' hi ⟨_, ws, e2, r2⟩ => ⟨ws, ws[i]'(by rw [r2.len]; exact hi), SqL.of e2, List.getElem?_eq_getElem (by rw [r2.len]; exact hi)⟩, fun H' ⟨_, ws, e2, r2⟩ => ⟨ws, SqL.of e2, by rw [r2.len]; exact Nat.le_refl _⟩, fun i H1 x H2 hi ⟨s, ws, e2, r2⟩ y => ?_⟩
  obtain ⟨T, v, rfl, hT, rfl, y⟩ := y
  obtain ⟨d, e3, r⟩ := r2.getV (y ws (SqL.of e2))
  obtain ⟨f1, f2, f3⟩ := pair_new (d := .int (i : Nat)) hT (rep_int.mpr rfl) r
  exact ⟨f1, f2, _, enumD_get e3, f3⟩
theorem walkA_enumT {p : Addr} {l : List D} {vs : List V} (e : SqT K H p vs) (rs : RepL c H l vs) : WalkA c (Itet K p) (enumD l) yes H := by
  refine ⟨fun H' => Fr c H H', ?_, fun L' H' s g' e' => s⟩
  have at_ : ∀ {H'}, Fr c H H' → SqT K H' p vs := fun s => sqT_fr s e
  rw [enumD_len]
  refine ⟨fun i H' hi s => ⟨vs, vs[i]'(by rw [rs.len]; exact hi), at_ s, List.getElem?_eq_getElem (by rw [rs.len]; exact hi)⟩, fun H' s => ⟨vs, at_ s, by rw [rs.len]⟩, fun i H1 x H2 hi s y => ?_⟩
  obtain ⟨T, v, rfl, hT, rfl, y⟩ := y
  obtain ⟨d, e3, r⟩ := (rs.fr s).getV (y vs (at_ s))
  obtain ⟨f1, f2, f3⟩ := pair_new (d := .int (i : Nat)) hT (rep_int.mpr rfl) r
  exact ⟨f1, f2, _, enumD_get e3, f3⟩
end
section
variable {X : Cx} {c : AC X.K} {H0 : Hp} {tg e f : Expr} {a : ATE} {as : ATA} {p pos tpos : Pos} {elts : List Expr} {kk : Nat}
theorem ai_list (h : AE X c H0 e a) : AI X c H0 tg e (aiList a) := by
  refine (pi_list h).imp fun σ H Q ⟨env, L, R, rl, h, pq⟩ => ?_
  refine ⟨env, L, _, rl, h, fun d L1 x H1 q s1 g1 r1 => ?_⟩
  obtain ⟨p, rfl, l, e, q⟩ := ref_low r1 q
  obtain ⟨vs, e1, rs⟩ := good_lst g1 e
  exact ⟨p, rfl, ⟨vs, SqL.of e1⟩, pq _ _ L1 _ H1 q s1 g1 (walkA_list g1 e)⟩
theorem ai_tup (h : AE X c H0 e a) : AI X c H0 tg e (aiTup a) := by
  refine (pi_tup h).imp fun σ H Q ⟨env, L, R, rl, h, pq⟩ => ?_
  refine ⟨env, L, _, rl, h, fun d L1 x H1 q s1 g1 r1 => ?_⟩
  obtain ⟨p, vs, l, rfl, e1, rs, q⟩ := tup_low r1 q
  exact ⟨p, rfl, ⟨vs, e1⟩, pq _ _ L1 _ H1 q s1 g1 (walkA_tup e1 rs)⟩
theorem ai_rng1 (hg : Gl X "range") (hm : X.mg "range" = none) (ha : AA X c H0 [e] as) (hs : starEach [e] X.env = [(false, eval e X.env)] := by rfl) : AI X c H0 tg (.Call (.Name "range" p) [e] [] pos) (aiRng1 as) := by
  refine (pi_range1 hg hm ha hs).imp fun σ H Q ⟨env, L, R, rl, h, pq⟩ => ?_
  refine ⟨env, L, _, rl, h, fun ds L1 vs H1 q s1 g1 r1 => ?_⟩
  split at q
  · rename_i j
    obtain ⟨h1, h2, q⟩ := q
    obtain ⟨v, rfl, r2⟩ := repL_one r1
    cases rep_int.mp r2
    exact ⟨j, rfl, h1, h2, pq _ _ L1 _ H1 q s1 g1 walkA_rng⟩
  · exact q.elim
theorem ai_enumL (hg : Gl X "enumerate") (hm : X.mg "enumerate" = none) (ha : AA X c H0 [e] as) (hs : starEach [e] X.env = [(false, eval e X.env)] := by rfl) : AI X c H0 (.Tuple elts kk tpos) (.Call (.Name "enumerate" p) [e] [] pos) (aiEnumL as) := by
  refine (pi_enum hg hm ha hs).imp fun σ H Q ⟨env, L, R, rl, h, pq⟩ => ?_
  refine ⟨env, L, _, rl, h, fun ds L1 vs H1 q s1 g1 r1 => ?_⟩
  split at q
  · rename_i q
    obtain ⟨l, e1, q⟩ := q
    obtain ⟨v, rfl, r2⟩ := repL_one r1
    cases rep_ref.mp r2
    obtain ⟨ws, e2, rs⟩ := good_lst g1 e1
    exact ⟨_, ws, rfl, SqL.of e2, pq _ _ L1 _ H1 q s1 g1 (walkA_enumL g1 e1)⟩
  · exact q.elim
theorem ai_enumT (hg : Gl X "enumerate") (hm : X.mg "enumerate" = none) (ha : AA X c H0 [e] as) (hs : starEach [e] X.env = [(false, eval e X.env)] := by rfl) : AI X c H0 (.Tuple elts kk tpos) (.Call (.Name "enumerate" p) [e] [] pos) (aiEnumT as) := by
  refine (pi_enumT hg hm ha hs).imp fun σ H Q ⟨env, L, R, rl, h, pq⟩ => ?_
  refine ⟨env, L, _, rl, h, fun ds L1 vs H1 q s1 g1 r1 => ?_⟩
  split at q
  · rename_i l
    obtain ⟨v, rfl, r2⟩ := repL_one r1
    obtain ⟨p, vs, rfl, e1, rs⟩ := rep_tup.mp r2
    exact ⟨p, vs, rfl, e1, pq _ _ L1 _ H1 q s1 g1 (walkA_enumT e1 rs)⟩
  · exact q.elim
end
end AL
namespace AL
open PySem PySem.Spec PyProof.Rows L2 LamX JW
def wipeA (env : En) : List Nat → En
  | [] => env
  | v :: vs => (wipeA env vs).set v none
theorem set_twice {α : Type} (l : List α) (i : Nat) (a b : α) : (l.set i a).set i b = l.set i b := by rw [List.set_set]
theorem wipe_set (σ : L2.St) (j : Nat) (x : Option V) : ∀ vs : List Nat, (∀ y, (wipe (σ.set j x) vs).set j y = (wipe σ vs).set j y) ∧ (j ∈ vs → wipe (σ.set j x) vs = wipe σ vs)
  | [] => ⟨fun y => set_twice _ _ _ _, fun h => absurd h (by simp)⟩
  | v :: vs => by
    obtain ⟨h1, h2⟩ := wipe_set σ j x vs
    by_cases e : v = j
    · subst e
      refine ⟨fun y => ?_, fun _ => h1 none⟩
      show ((wipe (σ.set v x) vs).set v none).set v y = ((wipe σ vs).set v none).set v y
      rw [h1 none]
    · refine ⟨fun y => ?_, fun h => ?_⟩
      · show ((wipe (σ.set j x) vs).set v none).set j y = ((wipe σ vs).set v none).set j y
        rw [List.set_comm _ _ e, h1 y, List.set_comm _ _ (Ne.symm e)]
      · have hj : j ∈ vs := (List.mem_cons.mp h).resolve_left (Ne.symm e)
        show (wipe (σ.set j x) vs).set v none = (wipe σ vs).set v none
        rw [h2 hj]
theorem wipe_idem (σ : L2.St) : ∀ vs : List Nat, wipe (wipe σ vs) vs = wipe σ vs
  | [] => rfl
  | v :: vs => by
    show (wipe ((wipe σ vs).set v none) vs).set v none = (wipe σ vs).set v none
    rw [(wipe_set (wipe σ vs) v none vs).1, wipe_idem σ vs]
section
variable {K : PySem.W.Frag} {c : AC K} {H : Hp} {σ : L2.St} {env : En}
theorem EnvR.unset (h : EnvR c H σ env) (i : Nat) : EnvR c H (σ.set i none) (env.set i none) := by
  refine ⟨by rw [List.length_set, List.length_set, h.len], fun j e hj => ?_⟩
  by_cases hi : i = j
  · subst hi
    rcases Nat.lt_or_ge i env.length with z | z
    · rw [List.getElem?_set_self z] at hj
      cases hj
    · rw [List.getElem?_eq_none (by simpa using z)] at hj
      cases hj
  · rw [List.getElem?_set_ne hi] at hj
    obtain ⟨u, e1, r1⟩ := h.get j e hj
    exact ⟨u, by rw [List.getElem?_set_ne hi]; exact e1, r1⟩
theorem EnvR.wipe (h : EnvR c H σ env) : ∀ vs : List Nat, EnvR c H (L2.wipe σ vs) (wipeA env vs)
  | [] => h
  | v :: vs => (h.wipe vs).unset v
end
def TgOk {K : PySem.W.Frag} (c : AC K) (g : TG) (ag : ATG) (vs : List Nat) : Prop := ∀ d x env L R σ H (P : L2.St → Hp → Prop), Rep c H d x → EnvR c H σ env → ag d env L R →
  (∀ env1 σ1, R env1 L → EnvR c H σ1 env1 → wipe σ1 vs = wipe σ vs → P σ1 H) → g x σ H P
def gNs : List Nat → TGs
  | [] => gNil
  | j :: js => gCons (gName j) (gNs js)
def agNs : List Nat → ATGs
  | [] => agNil
  | j :: js => agCons (agName j) (agNs js)
section
variable {K : PySem.W.Frag} {c : AC K}
theorem tgOk_name {j : Nat} {vs : List Nat} (hj : j ∈ vs) : TgOk c (gName j) (agName j) vs := fun d x env L R σ H P r er h k => k _ _ h (er.set j r) ((wipe_set σ j _ vs).2 hj)
theorem gNs_low {vs : List Nat} : ∀ {js : List Nat} {l : List D} {xs : List V} {env : En} {L : Store} {R : En → Store → Prop} {σ : L2.St} {H : Hp} {P : L2.St → Hp → Prop}, (∀ j ∈ js, j ∈ vs) → RepL c H l xs → EnvR c H σ env → agNs js l env L R →
    (∀ env1 σ1, R env1 L → EnvR c H σ1 env1 → wipe σ1 vs = wipe σ vs → P σ1 H) → gNs js xs σ H P
  | [], l, xs, env, L, R, σ, H, P, _, r, er, h, k => by
    obtain ⟨rfl, h⟩ := h
    exact ⟨repL_nil.mp r, k env σ h er rfl⟩
  | j :: js, l, xs, env, L, R, σ, H, P, hj, r, er, h, k => by
    cases l with
    | nil => exact h.elim
    | cons d l =>
      obtain ⟨v, ws, rfl, r1, r2⟩ := repL_cons.mp r
      refine ⟨v, ws, rfl, ?_⟩
      refine gNs_low (js := js) (fun j' h' => hj j' (List.mem_cons_of_mem _ h')) r2 (er.set j r1) h fun env1 σ1 h1 h2 h3 => k env1 σ1 h1 h2 ?_
      rw [h3]
      exact (wipe_set σ j _ vs).2 (hj j List.mem_cons_self)
theorem agNs_len : ∀ {js : List Nat} {l : List D} {env : En} {L : Store} {R : En → Store → Prop}, agNs js l env L R → l.length = js.length
  | [], l, env, L, R, h => by rw [h.1]; rfl
  | j :: js, l, env, L, R, h => by
    cases l with
    | nil => exact h.elim
    | cons d l => rw [List.length_cons, List.length_cons, agNs_len (js := js) h]
theorem tgOk_tup {js : List Nat} {n : Nat} {vs : List Nat} (hn : n = js.length) (hj : ∀ j ∈ js, j ∈ vs) : TgOk c (gTup K n (gNs js)) (agTup (agNs js)) vs := fun d x env L R σ H P r er h k => by
  cases d with
  | tup l =>
    obtain ⟨p, ws, rfl, e1, rs⟩ := rep_tup.mp r
    exact ⟨p, ws, rfl, e1, by rw [rs.len, hn]; exact agNs_len h, gNs_low hj rs er h k⟩
  | _ => exact h.elim
end
def compA (g : ATG) (t : ATT) (a : ATE) (G : Store → Prop) (p : Addr) (env : En) (Q : AQ) : List D → List D → Store → Prop
  | [], acc, L => G L ∧ L p = some (.lst acc) ∧ Q (.ref p) L
  | d :: ds, acc, L => G L ∧ L p = some (.lst acc) ∧ g d env L fun env1 L1 => L1 = L ∧ t env1 L1 fun b L2 => if b = true then a env1 L2 fun x L3 => acc.length < sizeLine ∧ L3 p = some (.lst acc) ∧ compA g t a G p env Q ds (acc ++ [x]) (sput L3 p (.lst (acc ++ [x]))) else compA g t a G p env Q ds acc L2
def aYes : ATT := fun _ L Q => Q true L
def aLc (ai : ATI) (g : ATG) (t : ATT) (a : ATE) (vs : List Nat) : ATE := fun env L Q => ai env L fun items G L1 => ∀ p, L1 p = none → compA g t a G p (wipeA env vs) Q items [] (sput L1 p (.lst []))
section
variable {X : Cx} {c : AC X.K} {H0 : Hp}
theorem low_lc {ai : ATI} {g : TG} {ag : ATG} {t : ATT} {tt : TT} {a : ATE} {vs : List Nat} (tg : TgOk c g ag vs) (ht : ∀ σ H Q, lowT c H0 t σ H Q → tt σ H Q) {σ : L2.St} {H : Hp} {Q : VK} (q : lowE c H0 (aLc ai ag t a vs) σ H Q) :
    tLc (lowI c H0 ai) g tt (lowE c H0 a) vs σ H Q := by
  obtain ⟨env, L, R, rl, h, pq⟩ := q
  refine ⟨env, L, _, rl, h, fun items G L1 J H1 q s1 g1 wa D hD => ?_⟩
  have q := q D (g1.fresh hD)
  obtain ⟨GH, wk, hG⟩ := wa.ex
  have f0 : Fr c H1 (upd H1 D (.lst [])) := .new hD
  have hg0 : Good c (sput L1 D (.lst [])) (upd H1 D (.lst [])) := g1.alloc hD _ ⟨[], upd_same, RepL.nil⟩
  have hGl : ∀ {ds acc : List AL.D} {L' : Store}, compA ag t a G D (wipeA env vs) R ds acc L' → G L' := fun {ds acc L'} z => by
    cases ds with
    | nil => exact z.1
    | cons d ds => exact z.1
  refine lc_it wk (fun i H' => Fr c H1 H' ∧ ∃ acc L', Good c L' H' ∧ compA ag t a G D (wipeA env vs) R (items.drop i) acc L') ⟨f0, [], _, hg0, q⟩ (fun i H' _ ⟨f, acc, L', g', z⟩ => hG L' H' f g' (hGl z)) ?_ ?_
  · rintro i x H2 H3 hi ⟨f, acc, L', g', z⟩ ⟨s2, k2, d, e1, r⟩
    have e2 : items.drop i = d :: items.drop (i + 1) := by
      have hh := List.drop_eq_getElem_cons hi
      rw [List.getElem?_eq_getElem hi] at e1
      rw [hh, Option.some.inj e1]
    rw [e2] at z
    obtain ⟨_, hp, z⟩ := z
    have er : EnvR c H3 (wipe σ vs) (wipeA env vs) := ((rl.env.fr s1).fr (f.trans s2)).wipe vs
    refine tg d x _ L' _ _ H3 _ r er z fun env1 σ1 ⟨_, h1⟩ h2 h3 => ⟨by rw [h3, wipe_idem], ?_⟩
    have fr3 : Fr c H0 H3 := (rl.fr.trans s1).trans (f.trans s2)
    refine ht _ _ _ ⟨env1, L', _, ⟨h2, k2 _ g', fr3⟩, h1, fun b L2 H4 hb s4 g4 => ?_⟩
    cases b with
    | true =>
      refine ⟨env1, L2, _, ⟨h2.fr s4, g4, fr3.trans s4⟩, hb, fun y L3 v H5 ⟨hz, hp3, hc⟩ s5 g5 r5 => ?_⟩
      obtain ⟨ws, e5, rs⟩ := good_lst g5 hp3
      obtain ⟨g6, f6⟩ := g5.put (m' := .lst (acc ++ [y])) hp3 (.lst (ws ++ [v])) ⟨ws ++ [v], upd_same, (rs.app (.one r5)).fr (.put e5 fun z => z)⟩
      exact ⟨ws, e5, by rw [rs.len]; exact hz, (((f.trans s2).trans s4).trans s5).trans f6, _, _, g6, hc⟩
    | false => exact ⟨(f.trans s2).trans s4, acc, L2, g4, hb⟩
  · rintro H2 ⟨f, acc, L', g', z⟩
    rw [List.drop_length] at z
    exact pq _ L' _ H2 z.2.2 (s1.trans f) g' (rep_ref.mpr rfl)
theorem ae_lc {elt tg iter : Expr} {scope : Scope} {own : List (Str × Nat)} {pos : Pos} {ai : ATI} {g : TG} {ag : ATG} {a : ATE} (hc : X.calm = true) (hN : X.N.Nodup) (hi : AI X c H0 tg iter ai) (ok : BlkOk X.N X.env.scope scope own) (hk : TgOk c g ag (own.map (·.2)))
    (hg : ∀ (s : Shared) (H : Hp) (C : Addr) (cl : List (Str × Addr)) (fp : List Addr), PG (X.blk s H scope (compEnvC scope cl C X.env) fp) tg g)
    (he : ∀ (s : Shared) (H : Hp) (C : Addr) (cl : List (Str × Addr)) (fp : List Addr), AE (X.blk s H scope (compEnvC scope cl C X.env) fp) c H0 elt a) (hs : ∀ x, foldedSetIterable iter X.env x = pure x := by intro _; rfl) :
    AE X c H0 (.ListComp elt [⟨tg, iter, [], 0⟩] scope pos) (aLc ai ag aYes a (own.map (·.2))) :=
  (pe_lc (te := lowE (K := X.K) c H0 a) hc hN hi ok hg (fun _ _ _ _ _ => pts_nil) he hs).imp fun σ H Q q => low_lc hk (fun σ H Q ⟨env, L, R, rl, h, k⟩ => k true L H h (.refl c H) rl.good) q
theorem ae_lcIf {elt tg iter cond : Expr} {scope : Scope} {own : List (Str × Nat)} {pos : Pos} {ai : ATI} {g : TG} {ag : ATG} {a : ATE} {t : ATT} (hc : X.calm = true) (hN : X.N.Nodup) (hi : AI X c H0 tg iter ai) (ok : BlkOk X.N X.env.scope scope own) (hk : TgOk c g ag (own.map (·.2)))
    (hg : ∀ (s : Shared) (H : Hp) (C : Addr) (cl : List (Str × Addr)) (fp : List Addr), PG (X.blk s H scope (compEnvC scope cl C X.env) fp) tg g)
    (ht : ∀ (s : Shared) (H : Hp) (C : Addr) (cl : List (Str × Addr)) (fp : List Addr), AT (X.blk s H scope (compEnvC scope cl C X.env) fp) c H0 cond t)
    (he : ∀ (s : Shared) (H : Hp) (C : Addr) (cl : List (Str × Addr)) (fp : List Addr), AE (X.blk s H scope (compEnvC scope cl C X.env) fp) c H0 elt a) (hs : ∀ x, foldedSetIterable iter X.env x = pure x := by intro _; rfl) :
    AE X c H0 (.ListComp elt [⟨tg, iter, [cond], 0⟩] scope pos) (aLc ai ag t a (own.map (·.2))) :=
  (pe_lc (tt := lowT (K := X.K) c H0 t) (te := lowE (K := X.K) c H0 a) hc hN hi ok hg (fun s H C cl fp => pts_one (ht s H C cl fp)) he hs).imp fun σ H Q q => low_lc hk (fun _ _ _ z => z) q
theorem low_asgLc {te : TE} {a : ATE} {i : Nat} (k : ∀ σ H Q, lowE c H0 a σ H Q → te σ H Q) {D : Ends} {σ : L2.St} {H : Hp} (q : lowS c H0 (aAsg a (agName i)) D σ H) : tAsg te (gName i) D σ H := by
  obtain ⟨env, L, R, rl, h, er⟩ := q
  exact k _ _ _ ⟨env, L, _, rl, h, fun d L1 v H1 q s g1 r => er.nx _ L1 _ H1 q s ⟨(rl.env.fr s).set i r, g1, rl.fr.trans s⟩⟩
theorem as_setLc {i : Nat} {y : Str} {py : Pos} {elt tg iter : Expr} {scope : Scope} {own : List (Str × Nat)} {pos spos : Pos} {ai : ATI} {g : TG} {ag : ATG} {a : ATE} (hc : X.calm = true) (hN : X.N.Nodup) (hy : X.N[i]? = some y) (hyl : X.env.scope.names.lookup y = some .local)
    (hsw : swapsWith (.ListComp elt [⟨tg, iter, [], 0⟩] scope pos) (some (.Name y py)) spos.line X.env = pure true) (hi : AI X c H0 tg iter ai) (ok : BlkOk X.N X.env.scope scope own) (hk : TgOk c g ag (own.map (·.2)))
    (hg : ∀ (s : Shared) (H : Hp) (C : Addr) (cl : List (Str × Addr)) (fp : List Addr), PG (X.blk s H scope (compEnvC scope cl C X.env) fp) tg g)
    (he : ∀ (s : Shared) (H : Hp) (C : Addr) (cl : List (Str × Addr)) (fp : List Addr), AE (X.blk s H scope (compEnvC scope cl C X.env) fp) c H0 elt a) (hs : ∀ x, foldedSetIterable iter X.env x = pure x := by intro _; rfl) :
    AS X c H0 (.Assign [.Name y py] (.ListComp elt [⟨tg, iter, [], 0⟩] scope pos) spos) (aAsg (aLc ai ag aYes a (own.map (·.2))) (agName i)) :=
  (ps_setLc (te := lowE (K := X.K) c H0 a) hc hN hy hyl hsw hi ok hg (fun _ _ _ _ _ => pts_nil) he hs).imp fun D σ H q => low_asgLc (fun σ H Q q => low_lc hk (fun σ H Q ⟨env, L, R, rl, h, k⟩ => k true L H h (.refl c H) rl.good) q) q
theorem as_setLcIf {i : Nat} {y : Str} {py : Pos} {elt tg iter cond : Expr} {scope : Scope} {own : List (Str × Nat)} {pos spos : Pos} {ai : ATI} {g : TG} {ag : ATG} {a : ATE} {t : ATT} (hc : X.calm = true) (hN : X.N.Nodup) (hy : X.N[i]? = some y) (hyl : X.env.scope.names.lookup y = some .local)
    (hsw : swapsWith (.ListComp elt [⟨tg, iter, [cond], 0⟩] scope pos) (some (.Name y py)) spos.line X.env = pure true) (hi : AI X c H0 tg iter ai) (ok : BlkOk X.N X.env.scope scope own) (hk : TgOk c g ag (own.map (·.2)))
    (hg : ∀ (s : Shared) (H : Hp) (C : Addr) (cl : List (Str × Addr)) (fp : List Addr), PG (X.blk s H scope (compEnvC scope cl C X.env) fp) tg g)
    (ht : ∀ (s : Shared) (H : Hp) (C : Addr) (cl : List (Str × Addr)) (fp : List Addr), AT (X.blk s H scope (compEnvC scope cl C X.env) fp) c H0 cond t)
    (he : ∀ (s : Shared) (H : Hp) (C : Addr) (cl : List (Str × Addr)) (fp : List Addr), AE (X.blk s H scope (compEnvC scope cl C X.env) fp) c H0 elt a) (hs : ∀ x, foldedSetIterable iter X.env x = pure x := by intro _; rfl) :
    AS X c H0 (.Assign [.Name y py] (.ListComp elt [⟨tg, iter, [cond], 0⟩] scope pos) spos) (aAsg (aLc ai ag t a (own.map (·.2))) (agName i)) :=
  (ps_setLc (tt := lowT (K := X.K) c H0 t) (te := lowE (K := X.K) c H0 a) hc hN hy hyl hsw hi ok hg (fun s H C cl fp => pts_one (ht s H C cl fp)) he hs).imp fun D σ H q => low_asgLc (fun σ H Q q => low_lc hk (fun _ _ _ z => z) q) q
end
def startA (N : List Str) (ds : List D) : En := ds.map some ++ List.replicate (N.length - ds.length) none
def fnEnds (R : AQ) : AEnds := { nx := fun _ L => ∃ L0, SubS L0 L ∧ R .non L0, rt := fun d L => ∃ L0, SubS L0 L ∧ R d L0 }
theorem ret_of {R : AQ} {d : D} {L : Store} (h : R d L) : ∃ L0, SubS L0 L ∧ R d L0 := ⟨L, .refl L, h⟩
theorem ret_sub {R : AQ} {d : D} {L L0 : Store} (h : R d L0) (s : SubS L0 L) : ∃ L0, SubS L0 L ∧ R d L0 := ⟨L0, s, h⟩
section
variable {K : PySem.W.Frag} {c : AC K}
theorem start_low {N : List Str} {ds : List D} {vs : List V} {H : Hp} (r : RepL c H ds vs) : EnvR c H (L2.start N vs) (startA N ds) := by
  unfold L2.start startA
  refine ⟨by simp [r.len], fun i d e => ?_⟩
  by_cases hi : i < ds.length
  · rw [List.getElem?_append_left (by simpa using hi), List.getElem?_map] at e
    rw [List.getElem?_append_left (by simpa [r.len] using hi), List.getElem?_map]
    cases e1 : ds[i]? with
    | none => rw [e1] at e; cases e
    | some d' =>
      rw [e1] at e
      cases e
      obtain ⟨v, e2, r2⟩ := r.get e1
      exact ⟨v, by rw [e2]; rfl, r2⟩
  · rw [List.getElem?_append_right (by simpa using hi), List.getElem?_replicate] at e
    split at e <;> cases e
theorem body_low {N : List Str} {H : Hp} {a : ATS} {ds : List D} {vs : List V} {L : Store} {R : AQ} {Q : VK} (r : RepL c H ds vs) (g : Good c L H) (pq : Pq c H R Q) (vc : a (fnEnds R) (startA N ds) L) : lowS c H a { nx := fun _ H' => Q .non H', rt := Q } (L2.start N vs) H :=
  ⟨startA N ds, L, fnEnds R, ⟨start_low r, g, .refl c H⟩, vc, ⟨fun env' L' σ' H' ⟨L0, sb, h⟩ s rl => pq .non L0 .non H' h s (rl.good.sub sb) (rep_non.mpr rfl), fun d L' v H' ⟨L0, sb, h⟩ s g' r' => pq d L0 v H' h s (g'.sub sb) r', fun _ _ _ _ h => h.elim, fun _ _ _ _ h => h.elim⟩⟩
end
section
variable {P : Program} {w : World} {K : PySem.W.Frag} {mg : Str → Option Value} {base : Heap} {c : AC K} {x m qual : Str} {st : Stmt} {N ps : List Str} {k : Nat} {asp : ASp} {C : Addr}
theorem spA_len {n : Nat} (hl : ∀ ds L R RX, asp ds L R RX → ds.length = n) : ∀ vs H Q E, spA c asp vs H Q E → vs.length = n := fun vs H Q E ⟨ds, L, R, RX, r, _, h, _⟩ => by rw [r.len]; exact hl ds L R RX h
theorem _root_.JW.DefAt.okA {a : ATS} (D : DefAt K mg x qual st [] ps) (S : FnScope N ps (defScope st)) (hl : ∀ ds L R RX, asp ds L R RX → ds.length = ps.length)
    (body : ∀ (f : Addr) (cdv : Value) (A : Around) (outer : List Env) (s : Shared) (H : Hp) (E : XK), Room k (A.deeper (envOfC qual (defScope st) s.heap.objs.size f cdv)) → ASs (cxOf CX0 P w K mg base N qual (defScope st) f cdv A outer s H E).nox c H (defBody st) a)
    (vc : ∀ ds L R RX, asp ds L R RX → a (fnEnds R) (startA N ds) L) : CallD P w K mg base CX0 (k + 1) x ps [] (spA c asp) :=
  D.ok S (spA_len hl) fun f cdv A outer s H vs Q E hr ⟨ds, L, R, RX, r, g, h, pq, px⟩ => ⟨_, body f cdv A outer s H E hr, body_low r g pq (vc ds L R RX h)⟩
theorem _root_.JW.DefAt.okAX {a : AX → ATS} (D : DefAt K mg x qual st [] ps) (S : FnScope N ps (defScope st)) (hl : ∀ ds L R RX, asp ds L R RX → ds.length = ps.length)
    (body : ∀ (f : Addr) (cdv : Value) (A : Around) (outer : List Env) (s : Shared) (H : Hp) (E : XK) (RX : AX), Px c H RX E → Room k (A.deeper (envOfC qual (defScope st) s.heap.objs.size f cdv)) → ASs (cxOf (L2.CX P w) P w K mg base N qual (defScope st) f cdv A outer s H E) c H (defBody st) (a RX))
    (vc : ∀ ds L R RX, asp ds L R RX → a RX (fnEnds R) (startA N ds) L) : CallD P w K mg base (L2.CX P w) (k + 1) x ps [] (spA c asp) :=
  D.okX S (spA_len hl) fun f cdv A outer s H vs Q E hr ⟨ds, L, R, RX, r, g, h, pq, px⟩ => ⟨_, body f cdv A outer s H E RX px hr, body_low r g pq (vc ds L R RX h)⟩
theorem _root_.JW.MethAt.okA {a : ATS} (D : MethAt K C m qual st ps) (S : FnScope N ps (defScope st)) (hl : ∀ ds L R RX, asp ds L R RX → ds.length = ps.length)
    (body : ∀ (f : Addr) (cdv : Value) (A : Around) (outer : List Env) (s : Shared) (H : Hp) (E : XK), Room k (A.deeper (envOfC qual (defScope st) s.heap.objs.size f cdv)) → ASs (cxOf CX0 P w K mg base N qual (defScope st) f cdv A outer s H E).nox c H (defBody st) a)
    (vc : ∀ ds L R RX, asp ds L R RX → a (fnEnds R) (startA N ds) L) : MethD P w K mg base CX0 (k + 1) C m ps [] (spA c asp) :=
  D.ok S (spA_len hl) fun f cdv A outer s H vs Q E hr ⟨ds, L, R, RX, r, g, h, pq, px⟩ => ⟨_, body f cdv A outer s H E hr, body_low r g pq (vc ds L R RX h)⟩
end
end AL
namespace AL
open PySem PySem.Spec PyProof.Rows L2 LamX JW
section
open PySem.SeqAt AutoSeq1 MeetsSeq MeetsSeq2 MeetsSeq3
variable {prog : Program} {w : World} {A : Around} {R : Result → Shared → Prop}
def TwoL (prog : Program) (w : World) (A : Around) (E : Value → Shared → Prop) (p q : Addr) (m : Nat) (f : Nat → Bool) (J : Shared → Prop) : Prop :=
  ∀ s0, J s0 → ∃ (xs ys : Array Value) (c1 c2 : Nat), s0.heap.get? p = some { cls := .type "list", data := .seq xs c1 } ∧ s0.heap.get? q = some { cls := .type "list", data := .seq ys c2 } ∧ xs.size = m ∧ ys.size = m ∧
    ∀ (i : Nat) (h1 : i < xs.size) (h2 : i < ys.size), wpAny (model prog w) A.in1 (eqBool xs[i] ys[i]) (fun r s' => r = f i ∧ J s') E s0
def opC (neg : Bool) : Int := if neg then 3 else 2
theorem loop_any (p q : Addr) (m : Nat) (f : Nat → Bool) (neg : Bool) (J : Shared → Prop) (tw : TwoL prog w A (fun e s' => R (.error e) s') p q m f J)
    (fin : ∀ s0 b, J s0 → b = (neg ^^ (List.range m).all f) → R (.ok (.ret (.bool b))) s0) (j : Nat) :
    ∀ i : Nat, m - i = j → i ≤ m → ((List.range m).all f = ((List.range m).drop i).all f) → ∀ s0, J s0 →
      wpAny (model prog w) A.in1 (Builtin.«list.__eq__.loop» ⟨[.ref p, .ref q, rawInt i, rawInt (opC neg)], []⟩) (GQ.FinOf prog w A R) (fun e s' => R (.error e) s') s0 := by
  induction j with
  | zero =>
    intro i hj hi ha s0 hJ
    obtain ⟨xs, ys, c1, c2, k1, k2, z1, z2, _⟩ := tw _ hJ
    have im : i = m := by omega
    subst im
    have hR := fin s0 (!neg) hJ (by rw [ha, List.drop_of_length_le (by simp)]; cases neg <;> rfl)
    obtain ⟨hp, g, d, tk, os⟩ := s0
    cases neg <;>
    · show wpAny _ _ (Builtin.«list.__eq__.loop» ⟨[.ref p, .ref q, rawInt i, rawInt _], []⟩) _ _ _
      simp only [opC] at *
      wp_walk using wpAny_loadPart' k1, wpAny_loadPart' k2
      have e1 : xs[((i : Nat) : Int).toNat]? = none := by simp [z1]
      have e2 : ys[((i : Nat) : Int).toNat]? = none := by simp [z2]
      rw [e1, e2]
      wp_walk using wpAny_loadPart' k1, wpAny_loadPart' k2
      first
        | show R (.ok (.ret (.bool (xs.size == ys.size)))) _
        | show R (.ok (.ret (.bool (xs.size != ys.size)))) _
      rw [z1, z2]
      simpa using hR
  | succ j ih =>
    intro i hj hi ha s0 hJ
    obtain ⟨xs, ys, c1, c2, k1, k2, z1, z2, turn⟩ := tw _ hJ
    have l1 : i < xs.size := by omega
    have l2 : i < ys.size := by omega
    have ht := turn i l1 l2
    have e1 : xs[((i : Nat) : Int).toNat]? = some xs[i] := by simp [l1]
    have e2 : ys[((i : Nat) : Int).toNat]? = some ys[i] := by simp [l2]
    have ec : ((i : Int) + 1) = ((i + 1 : Nat) : Int) := by omega
    have ed : (List.range m).drop i = i :: (List.range m).drop (i + 1) := by
      have l3 : i < (List.range m).length := by simp; omega
      have := List.drop_eq_getElem_cons l3
      simpa using this
    obtain ⟨hp, g, d, tk, os⟩ := s0
    cases neg <;>
    · simp only [opC] at *
      wp_walk using wpAny_loadPart' k1, wpAny_loadPart' k2
      rw [e1, e2]
      refine wpAny_bind (wpAny_mono ht (fun r s1 h1 => ?_) fun _ _ z => z)
      obtain ⟨hr, h1⟩ := h1
      subst hr
      cases hf : f i with
      | true =>
        have hrec := ih (i + 1) (by omega) (by omega) (by rw [ha, ed, List.all_cons, hf, Bool.true_and]) s1 h1
        obtain ⟨hp2, g2, d2, tk2, os2⟩ := s1
        wp_walk
        rw [ec]
        exact ⟨plainId_quiet plain_eq_loop _, codeAny_builtin entry_eq_loop (by
          rw [Around.under_plainId plain_eq_loop _]
          exact hrec)⟩
      | false =>
        obtain ⟨us, vs, d1, d2', k3, k4, z3, z4, _⟩ := tw _ h1
        have hR := fin s1 _ h1 rfl
        rw [ha, ed, List.all_cons, hf, Bool.false_and] at hR
        obtain ⟨hp2, g2, d2, tk2, os2⟩ := s1
        have l3 : i < us.size := by omega
        have l4 : i < vs.size := by omega
        have e3 : us[((i : Nat) : Int).toNat]? = some us[i] := by simp [l3]
        have e4 : vs[((i : Nat) : Int).toNat]? = some vs[i] := by simp [l4]
        wp_walk using wpAny_loadPart' k3, wpAny_loadPart' k4
        rw [e3, e4]
        wp_walk
        simpa using hR
theorem list_any (p q : Addr) (m : Nat) (f : Nat → Bool) (neg : Bool) (J : Shared → Prop) (tw : TwoL prog w A (fun e s' => R (.error e) s') p q m f J)
    (fin : ∀ s0 b, J s0 → b = (neg ^^ (List.range m).all f) → R (.ok (.ret (.bool b))) s0) {s0 : Shared} (hJ : J s0) :
    wpAny (model prog w) A.in1 ((if neg then Builtin.«list.__ne__» else Builtin.«list.__eq__») ⟨[.ref p, .ref q], []⟩) (GQ.FinOf prog w A R) (fun e s' => R (.error e) s') s0 := by
  obtain ⟨xs, ys, c1, c2, k1, k2, z1, z2, _⟩ := tw _ hJ
  have hrec := loop_any (A := A) (R := R) p q m f neg J tw fin _ 0 rfl (Nat.zero_le _) (by rw [List.drop_zero]) s0 hJ
  obtain ⟨hp, g, d, tk, os⟩ := s0
  have f3 := AutoSeq1.sub_list_list
  have hne : ¬ (xs.size != ys.size) = true := by simp [z1, z2]
  cases neg with
  | false =>
    rw [if_neg Bool.false_ne_true]
    wp_walk using wpAny_loadPart' k1, wpAny_loadPart' k2
    exact ⟨plainId_quiet plain_eq_loop _, codeAny_builtin entry_eq_loop (by
      rw [Around.under_plainId plain_eq_loop _]
      exact hrec)⟩
  | true =>
    rw [if_pos rfl]
    wp_walk using wpAny_loadPart' k1, wpAny_loadPart' k2
    exact ⟨plainId_quiet plain_eq_loop _, codeAny_builtin entry_eq_loop (by
      rw [Around.under_plainId plain_eq_loop _]
      exact hrec)⟩
theorem tup_any (p q : Addr) (xs ys : Array Value) (c1 c2 : Nat) (o1 o2 : Option Addr) (b1 b2 : Array (Option Value)) (f : Nat → Bool) (neg : Bool) (J : Shared → Prop)
    (turn : ∀ (i : Nat) (h1 : i < xs.size) (h2 : i < ys.size) s0, J s0 → wpAny (model prog w) A.in1 (eqBool xs[i] ys[i]) (fun r s' => r = f i ∧ J s') (fun e s' => R (.error e) s') s0)
    (fin : ∀ s0 b, J s0 → b = (neg ^^ ((List.range (min xs.size ys.size)).all f && xs.size == ys.size)) → R (.ok (.ret (.bool b))) s0) {s0 : Shared}
    (k1 : s0.heap.get? p = some { cls := .type "tuple", dict := o1, data := .seq xs c1, slots := b1 }) (k2 : s0.heap.get? q = some { cls := .type "tuple", dict := o2, data := .seq ys c2, slots := b2 }) (hJ : J s0) :
    wpAny (model prog w) A.in1 ((if neg then Builtin.«tuple.__ne__» else Builtin.«tuple.__eq__») ⟨[.ref p, .ref q], []⟩) (GQ.FinOf prog w A R) (fun e s' => R (.error e) s') s0 := by
  have f2 := AutoSeq1.sub_tuple_tuple
  have hZ : (xs.toList.zip ys.toList).length = min xs.size ys.size := by simp
  have hJ0 := hJ
  obtain ⟨hp, g, d, tk, os⟩ := s0
  cases neg
  case' false => rw [if_neg Bool.false_ne_true]
  case' true => rw [if_pos rfl]
  all_goals
    wp_walk using wpAny_loadPart' k1, wpAny_loadPart' k2, wpAny_forIn_list _ (fun rest b s' => b.1 = none ∧ J s' ∧ ∃ i, rest = (xs.toList.zip ys.toList).drop i ∧ i ≤ min xs.size ys.size ∧
      (List.range (min xs.size ys.size)).all f = ((List.range (min xs.size ys.size)).drop i).all f) _
    case turn =>
      rintro ⟨y, x⟩ rest b s' ⟨hb, hJ', i, hz, hi, ha⟩
      have lt : i < (xs.toList.zip ys.toList).length := by
        rcases Nat.lt_or_ge i (xs.toList.zip ys.toList).length with z | z
        · exact z
        · rw [List.drop_of_length_le z] at hz
          cases hz
      have h0 : i < min xs.size ys.size := hZ ▸ lt
      have h1 : i < xs.size := by omega
      have h2 : i < ys.size := by omega
      have hz' := hz.trans (List.drop_eq_getElem_cons lt)
      injection hz' with e1 e2
      have ey : y = xs[i] := by simpa using congrArg Prod.fst e1
      have ex : x = ys[i] := by simpa using congrArg Prod.snd e1
      subst ey ex
      have ed : (List.range (min xs.size ys.size)).drop i = i :: (List.range (min xs.size ys.size)).drop (i + 1) := by
        have l3 : i < (List.range (min xs.size ys.size)).length := by simpa using h0
        simpa using List.drop_eq_getElem_cons l3
      rw [ed, List.all_cons] at ha
      refine wpAny_bind (wpAny_mono (turn i h1 h2 s' hJ') (fun r s1 q1 => ?_) fun _ _ z => z)
      obtain ⟨hr, q1⟩ := q1
      subst hr
      cases hf : f i with
      | true =>
        rw [hf, Bool.true_and] at ha
        wp_walk
        exact ⟨rfl, q1, i + 1, e2, h0, ha⟩
      | false =>
        rw [hf, Bool.false_and] at ha
        wp_walk
        exact fin _ _ q1 (by rw [ha]; rfl)
    case fin =>
      rintro ⟨r1, r2⟩ s' ⟨hb, hJ', i, hz, hi, ha⟩
      simp only at hb
      subst hb
      have hge : min xs.size ys.size ≤ i := by
        rcases Nat.lt_or_ge i (xs.toList.zip ys.toList).length with z | z
        · have hz' := hz.trans (List.drop_eq_getElem_cons z)
          cases hz'
        · exact hZ ▸ z
      rw [List.drop_of_length_le (by simpa using hge)] at ha
      have hR := fin s' _ hJ' rfl
      rw [ha] at hR
      wp_walk
      simpa [Builtin.Tuple.tupleCompareSizes, bne] using hR
    case h =>
      exact ⟨rfl, hJ0, 0, rfl, Nat.zero_le _, rfl⟩
end
section
variable {prog : Program} {w : World} {A : Around} {E : Value → Shared → Prop} {s0 : Shared} {Q : Value → Shared → Prop}
theorem rc_list_any {p q : Addr} (m : Nat) (f : Nat → Bool) (neg : Bool) (J : Shared → Prop) (hu : A.units < cLine) (tw : TwoL prog w A E p q m f J) (fin : ∀ s1 b, J s1 → b = (neg ^^ (List.range m).all f) → Q (.bool b) s1) (hJ : J s0) :
    wpAny (model prog w) A (richCompare (if neg then .NotEq else .Eq) (.ref p) (.ref q)) Q E s0 := by
  obtain ⟨xs, ys, c1, c2, k1, k2, _, _, _⟩ := tw _ hJ
  have go := list_any (R := wants (fun v s' => v ≠ .notImplemented ∧ Q v s') E) p q m f neg J tw (fun s1 b h1 h2 => ⟨(fun z => nomatch z), fin s1 b h1 h2⟩) hJ
  cases neg with
  | false => exact wpAny_richCompare_same_room (op := .Eq) ⟨_, k1, rfl⟩ ⟨_, k2, rfl⟩ F.slot_list_eq (GQ.call_here F.slot_list_eq ⟨_, k1, rfl⟩ F.entry_list_eq (F.args_list_eq_2 _ _) go) hu
  | true => exact wpAny_richCompare_same_room (op := .NotEq) ⟨_, k1, rfl⟩ ⟨_, k2, rfl⟩ F.slot_list_ne (GQ.call_here F.slot_list_ne ⟨_, k1, rfl⟩ F.entry_list_ne (F.args_list_ne_2 _ _) go) hu
theorem rc_tup_any {p q : Addr} {xs ys : Array Value} (f : Nat → Bool) (neg : Bool) (J : Shared → Prop) (hu : A.units < cLine) (h1 : s0.heap.IsTuple p xs) (h2 : s0.heap.IsTuple q ys)
    (turn : ∀ (i : Nat) (h1 : i < xs.size) (h2 : i < ys.size) s1, J s1 → wpAny (model prog w) A.in1 (eqBool xs[i] ys[i]) (fun r s' => r = f i ∧ J s') E s1)
    (fin : ∀ s1 b, J s1 → b = (neg ^^ ((List.range (min xs.size ys.size)).all f && xs.size == ys.size)) → Q (.bool b) s1) (hJ : J s0) :
    wpAny (model prog w) A (richCompare (if neg then .NotEq else .Eq) (.ref p) (.ref q)) Q E s0 := by
  obtain ⟨⟨t1, o1, a1, b1⟩, k1, e1, n1, e2⟩ := id h1
  obtain ⟨⟨t2, o2, a2, b2⟩, k2, e3, n2, e4⟩ := id h2
  simp only at e1 e2 e3 e4
  subst e1 e2 e3 e4
  have go := tup_any (R := wants (fun v s' => v ≠ .notImplemented ∧ Q v s') E) p q xs ys n1 n2 o1 o2 b1 b2 f neg J turn (fun s1 b h1 h2 => ⟨(fun z => nomatch z), fin s1 b h1 h2⟩) k1 k2 hJ
  cases neg with
  | false => exact wpAny_richCompare_same_room (op := .Eq) ⟨_, k1, rfl⟩ ⟨_, k2, rfl⟩ F.slot_tuple_eq (GQ.call_here F.slot_tuple_eq ⟨_, k1, rfl⟩ F.entry_tuple_eq (F.args_tuple_eq_2 _ _) go) hu
  | true => exact wpAny_richCompare_same_room (op := .NotEq) ⟨_, k1, rfl⟩ ⟨_, k2, rfl⟩ F.slot_tuple_ne (GQ.call_here F.slot_tuple_ne ⟨_, k1, rfl⟩ F.entry_tuple_ne (F.args_tuple_ne_2 _ _) go) hu
end
end AL
namespace AL
open PySem PySem.Spec PyProof.Rows L2 LamX JW
mutual
def eqDD : D → D → Option Bool
  | .tup l, .tup m => (eqDL l m).map fun b => b && l.length == m.length
  | .tree t, .tree u => some (decide (t = u))
  | d, e => if flatB d && flatB e then some (eqV (vD d) (vD e)) else none
/-- item by item, as far as both go -/
def eqDL : List D → List D → Option Bool
  | d :: ds, e :: es => match eqDD d e, eqDL ds es with
    | some a, some b => some (a && b)
    | _, _ => none
  | _, _ => some true
end
mutual
def depD : D → Nat
  | .tup l => depDL l + 1
  | _ => 0
def depDL : List D → Nat
  | [] => 0
  | d :: ds => max (depD d) (depDL ds)
end
theorem eqDL_get : ∀ {l m : List D} {b : Bool}, eqDL l m = some b → ∃ f : Nat → Bool, (∀ (i : Nat) d e, l[i]? = some d → m[i]? = some e → eqDD d e = some (f i)) ∧ b = (List.range (min l.length m.length)).all f
  | [], m, b, h => by
    simp only [eqDL, Option.some.injEq] at h
    exact ⟨fun _ => true, fun i d e h1 => by simp at h1, by simp [← h]⟩
  | d :: ds, [], b, h => by
    simp only [eqDL, Option.some.injEq] at h
    exact ⟨fun _ => true, fun i d e _ h2 => by simp at h2, by simp [← h]⟩
  | d :: ds, e :: es, b, h => by
    simp only [eqDL] at h
    split at h
    · rename_i a b' h1 h2
      obtain ⟨f, hf, hb⟩ := eqDL_get h2
      refine ⟨fun i => match i with | 0 => a | i + 1 => f i, fun i d' e' g1 g2 => ?_, ?_⟩
      · cases i with
        | zero =>
          simp at g1 g2
          subst g1 g2
          exact h1
        | succ i =>
          simp at g1 g2
          exact hf i d' e' g1 g2
      · have := Option.some.inj h
        subst this
        rw [List.length_cons, List.length_cons, Nat.add_min_add_right, List.range_succ_eq_map, List.all_cons, List.all_map, hb]
        rfl
    · cases h
theorem depDL_get : ∀ {l : List D} {i : Nat} {d : D}, l[i]? = some d → depD d ≤ depDL l
  | [], i, d, h => by simp at h
  | x :: xs, 0, d, h => by
    simp at h
    subst h
    simp only [depDL]
    omega
  | x :: xs, i + 1, d, h => by
    have := depDL_get (l := xs) (i := i) (by simpa using h)
    simp only [depDL]
    omega
theorem ftn_fun {C : Addr} {H : Hp} {t u : T} {v : V} (h1 : Ftn C H t v) (h2 : Ftn C H u v) : t = u := by
  obtain ⟨a, dx, b, n, vs, rfl, e1, _⟩ := ftn_iff.mp h1
  obtain ⟨a2, dx2, b2, n2, vs2, ea, e2, _⟩ := ftn_iff.mp h2
  cases ea
  rw [e1] at e2
  have e3 := HO.ins.inj (Option.some.inj e2)
  have e4 : some (V.str (tx t)) = some (V.str (tx u)) := by rw [← fl_w (t := t) (b := b) (n := n), ← fl_w (t := u) (b := b2) (n := n2), e3.2.2]
  exact tx_inj (V.str.inj (Option.some.inj e4))
theorem eqV_self : ∀ {x : V}, flatV x = true → eqV x x = true
  | .non, _ => rfl
  | .bl b, _ => by simp [eqV]
  | .int i, _ => by simp [eqV]
  | .str z, _ => by simp [eqV]
  | .byt _, h => by cases h
  | .flt _, h => by cases h
  | .ref _, h => by cases h
  | .ty _, h => by cases h
section
variable {X : Cx} {c : AC X.K} {H : Hp} {pins : List (Addr × Obj)} {σ : L2.St} {s : Shared}
mutual
theorem eq_same (I : L2.Inv X pins σ H s) : ∀ (d e : D) (v : V) (b : Bool), Rep c H d v → Rep c H e v → eqDD d e = some b → b = true
  | .tup l, .tup m, v, b, r1, r2, h => by
    obtain ⟨p, vs, rfl, e1, rs⟩ := rep_tup.mp r1
    obtain ⟨q, ws, e, e2, rs2⟩ := rep_tup.mp r2
    cases e
    have : vs = ws := I.tuple_inj e1 e2
    subst this
    simp only [eqDD, Option.map_eq_some_iff] at h
    obtain ⟨b', h1, rfl⟩ := h
    have hl : l.length = m.length := by rw [← rs.len, ← rs2.len]
    rw [eqL_same I l m vs b' rs rs2 h1, hl]
    simp
  | .tree t, .tree u, v, b, r1, r2, h => by
    simp only [eqDD, Option.some.injEq] at h
    rw [← h, ftn_fun (rep_tree.mp r1) (rep_tree.mp r2)]
    simp
  | d, e, v, b, r1, r2, h => by
    by_cases hf : (flatB d && flatB e) = true
    · have hf' := Bool.and_eq_true_iff.mp hf
      obtain ⟨e1, f1⟩ := flat_low r1 hf'.1
      obtain ⟨e2, f2⟩ := flat_low r2 hf'.2
      have hs := eqV_self f1
      have hb : eqDD d e = some (eqV (vD d) (vD e)) := by
        unfold eqDD
        split
        · cases hf'.1
        · cases hf'.1
        · rw [if_pos hf]
      rw [hb, ← e1, ← e2] at h
      rw [hs] at h
      exact (Option.some.inj h).symm
    · have hn : ∀ l m, ¬ (d = .tup l ∧ e = .tup m) ∨ True := fun _ _ => .inr trivial
      cases d <;> cases e <;> first
        | (simp [eqDD, flatB] at h; done)
        | (exact absurd rfl hf)
        | (obtain ⟨p, vs, rfl, e1, rs⟩ := rep_tup.mp r1
           obtain ⟨q, ws, e, e2, rs2⟩ := rep_tup.mp r2
           cases e
           have : vs = ws := I.tuple_inj e1 e2
           subst this
           simp only [eqDD, Option.map_eq_some_iff] at h
           obtain ⟨b', h1, rfl⟩ := h
           rw [eqL_same I _ _ vs b' rs rs2 h1, ← rs.len, ← rs2.len]
           simp)
        | (simp only [eqDD, Option.some.injEq] at h
           rw [← h, ftn_fun (rep_tree.mp r1) (rep_tree.mp r2)]
           simp)
theorem eqL_same (I : L2.Inv X pins σ H s) : ∀ (l m : List D) (vs : List V) (b : Bool), RepL c H l vs → RepL c H m vs → eqDL l m = some b → b = true
  | [], m, vs, b, _, _, h => by simpa [eqDL] using h.symm
  | d :: ds, [], vs, b, _, _, h => by simpa [eqDL] using h.symm
  | d :: ds, e :: es, vs, b, r1, r2, h => by
    obtain ⟨v, ws, rfl, a1, a2⟩ := repL_cons.mp r1
    obtain ⟨v', ws', e1, b1, b2⟩ := repL_cons.mp r2
    injection e1 with e1 e2
    subst e1 e2
    simp only [eqDL] at h
    split at h
    · rename_i x y h1 h2
      have := Option.some.inj h
      rw [← this, eq_same I d e v x a1 b1 h1, eqL_same I ds es ws y a2 b2 h2]
      rfl
    · cases h
end
end
section
variable {X : Cx} {c : AC X.K} {k : Nat} {ps : List Str} {H : Hp} {σ : L2.St} {pins : List (Addr × Obj)}
abbrev MEq (X : Cx) (k : Nat) (ps : List Str) : Prop := MethD X.prog X.w X.K X.mg X.base CX0 k (cF X.K) "__eq__" ps [] (spEqF X.K)
theorem rcF_run (M : MEq X k ps) {A : Around} {s : Shared} {t u : T} {x y : V} {v w : Value} (sb : Sub X k A) (I : Inv X pins σ H s) (rx : RelV x v) (ry : RelV y w) (h1 : Ftn (cF X.K) H t x) (h2 : Ftn (cF X.K) H u y) :
    wpAny (model X.prog X.w) A (richCompare .Eq v w) (fun r s' => r = .bool (decide (t = u)) ∧ Inv X pins σ H s') X.xe s := by
  obtain ⟨a, dx, fs, rfl, ha⟩ := ftn_ins h1
  obtain ⟨b, dy, gs, rfl, hb⟩ := ftn_ins h2
  cases rx
  cases ry
  obtain ⟨f, fd, ds, hm, hbd, hd, F⟩ := M.ex
  cases hd
  obtain ⟨mA, J, _⟩ := ins_get I.hok ha
  obtain ⟨mB, J', _⟩ := ins_get I.hok hb
  obtain ⟨od, J, _⟩ := J.look
  obtain ⟨od', J', _⟩ := J'.look
  obtain ⟨m, hF⟩ := I.fr
  refine PySem.W.cmp_K (op := .Eq) (tb := .ref (cF X.K)) sb.room.units0 hF I.ok.mod.kin J J'.type (by simp [PySem.W.notFirst]) hm.at_ hm.fn ?_
  have hsp : spEqF X.K [.ref a, .ref b] H (fun v H' => v = .bl (decide (t = u)) ∧ H' = H) (fun _ _ _ => True) := ⟨_, _, t, u, rfl, h1, h2, rfl, rfl⟩
  have e0 : Env0 X.prog X.w X.K X.mg X.base A X.stack s H := by
    have e := I.env0
    exact ⟨sb.fr.trans e.frames, e.mod, e.bs, e.bsz, e.funs, e.frf, e.hok, e.bare⟩
  have hl : ([Value.ref a, Value.ref b] ++ []).length = ps.length := by
    rw [← F.len _ _ _ _ hsp]
    rfl
  refine wpAny_call (codeAny_mono (F.run A X.stack s H ⟨[.ref a, .ref b], []⟩ [.ref a, .ref b] [.ref a, .ref b] _ (fun _ _ _ => True) sb.room e0 (by
    have := hbd s [.ref a, .ref b] I.kIn hl
    simpa using this) (.cons rfl (.cons rfl .nil)) hsp) fun r s' hq => ?_)
  cases r with
  | error er => exact False.elim hq
  | ok fl =>
    cases fl with
    | ret z =>
      obtain ⟨x', H', I', rz, ez, eh⟩ := I.after hq
      subst ez eh
      cases rz
      exact ⟨rfl, I'⟩
    | next => exact False.elim hq
    | brk => exact False.elim hq
    | cont => exact False.elim hq
theorem sub_in1 {n : Nat} {A : Around} (s : Sub X (n + 1) A) : Sub X n A.in1 := s.in1
theorem eq_run (M : MEq X k ps) : ∀ (n : Nat) (d e : D) (b : Bool), depD d ≤ n → eqDD d e = some b → ∀ {A : Around} {s : Shared} {x y : V} {v w : Value}, Sub X (k + 2 + n) A → Inv X pins σ H s → RelV x v → RelV y w → Rep c H d x → Rep c H e y →
    wpAny (model X.prog X.w) A (eqBool v w) (fun r s' => r = b ∧ Inv X pins σ H s') X.xe s := by
  intro n
  induction n with
  | zero =>
    intro d e b hd h A s x y v w sb I rx ry r1 r2
    by_cases hf : (flatB d && flatB e) = true
    · have hf' := Bool.and_eq_true_iff.mp hf
      obtain ⟨e1, f1⟩ := flat_low r1 hf'.1
      obtain ⟨e2, f2⟩ := flat_low r2 hf'.2
      have hb : eqDD d e = some (eqV (vD d) (vD e)) := by
        unfold eqDD
        split
        · cases hf'.1
        · cases hf'.1
        · rw [if_pos hf]
      rw [hb] at h
      have hv := eqAt_V (A := A) (s := s) rx ry f1 f2
      rw [e1, e2, Option.some.inj h] at hv
      exact hv X.prog X.w X.xe _ ⟨rfl, I⟩
    · unfold eqDD at h
      split at h
      · simp only [depD] at hd
        omega
      · rename_i t u
        have h1 := rep_tree.mp r1
        have h2 := rep_tree.mp r2
        have hb := Option.some.inj h
        obtain ⟨p, dx, fs, rfl, _⟩ := ftn_ins h1
        obtain ⟨q, dy, gs, rfl, _⟩ := ftn_ins h2
        cases rx
        cases ry
        by_cases hpq : p = q
        · subst hpq
          have : t = u := ftn_fun h1 h2
          exact SeqAt.EqAt.same (A := A) (s := s) (.ref p) X.prog X.w X.xe _ ⟨by rw [← hb]; simp [this], I⟩
        · refine GQ.eqBool_refG hpq (wpAny_mono (rcF_run (x := .ref p) (y := .ref q) M (sb.mono (by omega)) I rfl rfl h1 h2) (fun r s' z => ?_) fun _ _ z => z)
          obtain ⟨er, I'⟩ := z
          exact ⟨_, er, hb, I'⟩
      · rw [if_neg hf] at h
        cases h
  | succ n ih =>
    intro d e b hd h A s x y v w sb I rx ry r1 r2
    by_cases h0 : depD d ≤ n
    · exact ih d e b h0 h (sb.mono (by omega)) I rx ry r1 r2
    · cases d with
      | tup l =>
        cases e with
        | tup m =>
          obtain ⟨p, vs, rfl, e1, rs⟩ := rep_tup.mp r1
          obtain ⟨q, ws, rfl, e2, rs2⟩ := rep_tup.mp r2
          cases rx
          cases ry
          by_cases hpq : p = q
          · subst hpq
            exact SeqAt.EqAt.same (A := A) (s := s) (.ref p) X.prog X.w X.xe _ ⟨(eq_same I _ _ _ b r1 r2 h).symm, I⟩
          · refine GQ.eqBool_refG hpq ?_
            simp only [eqDD, Option.map_eq_some_iff] at h
            obtain ⟨b', h1, hb⟩ := h
            obtain ⟨f, hf, hb'⟩ := eqDL_get h1
            obtain ⟨its, rv, t1, _⟩ := I.tuple e1
            obtain ⟨its2, rv2, t2, _⟩ := I.tuple e2
            have z1 : its.toArray.size = l.length := by rw [List.size_toArray, ← rv.length, rs.len]
            have z2 : its2.toArray.size = m.length := by rw [List.size_toArray, ← rv2.length, rs2.len]
            have hd' : depDL l ≤ n := by
              simp only [depD] at hd
              omega
            refine rc_tup_any f false (fun s' => Inv X pins σ H s') sb.room.units0 t1 t2 (fun i i1 i2 s1 I1 => ?_) (fun s1 b1 I1 eb => ⟨b1, rfl, ?_, I1⟩) I
            · have j1 : i < l.length := by omega
              have j2 : i < m.length := by omega
              have g1 := List.getElem?_eq_getElem j1
              have g2 := List.getElem?_eq_getElem j2
              obtain ⟨x1, x2, x3⟩ := rs.get g1
              obtain ⟨y1, y2, y3⟩ := rs2.get g2
              obtain ⟨u1, u2, u3⟩ := rv.get x2
              obtain ⟨w1, w2, w3⟩ := rv2.get y2
              have q1 : its.toArray[i] = u1 := by
                have j3 : i < its.length := by simpa using i1
                rw [List.getElem?_eq_getElem j3] at u2
                simpa using u2
              have q2 : its2.toArray[i] = w1 := by
                have j3 : i < its2.length := by simpa using i2
                rw [List.getElem?_eq_getElem j3] at w2
                simpa using w2
              rw [q1, q2]
              exact ih _ _ _ (Nat.le_trans (depDL_get g1) hd') (hf i _ _ g1 g2) (sub_in1 sb) I1 u3 w3 x3 y3
            · rw [eb, z1, z2, ← hb, hb', Bool.false_xor]
        | _ => simp [eqDD, flatB] at h
      | _ => exact absurd (Nat.zero_le _) h0
theorem items_run (M : MEq X k ps) {n : Nat} {l m : List D} (hd : depDL l ≤ n) {f : Nat → Bool} (hf : ∀ (i : Nat) d e, l[i]? = some d → m[i]? = some e → eqDD d e = some (f i)) {A : Around} (sb : Sub X (k + 2 + (n + 1)) A) {vs ws : List V} {its its2 : List Value}
    (rs : RepL c H l vs) (rs2 : RepL c H m ws) (rv : Vals vs its) (rv2 : Vals ws its2) (i : Nat) (i1 : i < its.toArray.size) (i2 : i < its2.toArray.size) {s1 : Shared} (I1 : Inv X pins σ H s1) :
    wpAny (model X.prog X.w) A.in1 (eqBool its.toArray[i] its2.toArray[i]) (fun r s' => r = f i ∧ Inv X pins σ H s') X.xe s1 := by
  have j1 : i < l.length := by
    have := i1
    rw [List.size_toArray, ← rv.length, rs.len] at this
    exact this
  have j2 : i < m.length := by
    have := i2
    rw [List.size_toArray, ← rv2.length, rs2.len] at this
    exact this
  have g1 := List.getElem?_eq_getElem j1
  have g2 := List.getElem?_eq_getElem j2
  obtain ⟨x1, x2, x3⟩ := rs.get g1
  obtain ⟨y1, y2, y3⟩ := rs2.get g2
  obtain ⟨u1, u2, u3⟩ := rv.get x2
  obtain ⟨w1, w2, w3⟩ := rv2.get y2
  have q1 : its.toArray[i] = u1 := by
    have j3 : i < its.length := by simpa using i1
    rw [List.getElem?_eq_getElem j3] at u2
    simpa using u2
  have q2 : its2.toArray[i] = w1 := by
    have j3 : i < its2.length := by simpa using i2
    rw [List.getElem?_eq_getElem j3] at w2
    simpa using w2
  rw [q1, q2]
  exact eq_run M n _ _ _ (Nat.le_trans (depDL_get g1) hd) (hf i _ _ g1 g2) (sub_in1 sb) I1 u3 w3 x3 y3
def eqSq (neg : Bool) (l m : List D) (L : Store) (Q : AQ) : Prop := ∃ b, eqDL l m = some b ∧ depDL l ≤ 70 ∧ Q (.bl (neg ^^ (b && l.length == m.length))) L
def eqG (neg : Bool) : D → D → Store → AQ → Prop
  | .ref p, .ref q, L, Q => ∃ l m, L p = some (.lst l) ∧ L q = some (.lst m) ∧ eqSq neg l m L Q
  | .tup l, .tup m, L, Q => eqSq neg l m L Q
  | d, e, L, Q => eqD neg d e L Q
def rSq (neg : Bool) (c : AC X.K) : R2 := fun x y H Q => ∃ p q vs ws l m b, x = .ref p ∧ y = .ref q ∧ RepL c H l vs ∧ RepL c H m ws ∧ eqDL l m = some b ∧ depDL l ≤ 70 ∧ ((H p = some (.lst vs) ∧ H q = some (.lst ws)) ∨ (SqT X.K H p vs ∧ SqT X.K H q ws)) ∧ Q (.bl (neg ^^ (b && l.length == m.length))) H
theorem op_sq (M : MEq X k ps) (neg : Bool) (hr : Room (k + 73) X.A) : OpR X (fun a b => richCompare (if neg then .NotEq else .Eq) a b) (rSq neg c) := by
  intro pins s σ H x y v u Q I rx ry h
  obtain ⟨p, q, vs, ws, l, m, b, rfl, rfl, rs, rs2, h1, hd, ho, hq⟩ := h
  cases rx
  cases ry
  obtain ⟨f, hf, hb⟩ := eqDL_get h1
  have sb : Sub X (k + 2 + (70 + 1)) X.A := ⟨hr, rfl⟩
  have fin : ∀ {s1 : Shared} {b1 : Bool}, Inv X pins σ H s1 → b1 = (neg ^^ (b && l.length == m.length)) → EP X pins σ Q (.bool b1) s1 := fun I1 e => by
    subst e
    exact ⟨.bl _, H, I1, rfl, hq⟩
  rcases ho with ⟨e1, e2⟩ | ⟨e1, e2⟩
  · obtain ⟨its, rv, ⟨o1, c1, o2, o3, o4, o5⟩, _⟩ := I.list (SqL.of e1)
    obtain ⟨its2, rv2, _, _⟩ := I.list (SqL.of e2)
    by_cases hlm : l.length = m.length
    · refine rc_list_any l.length f neg (fun s' => Inv X pins σ H s') sb.room.units0 (fun s0 I0 => ?_) (fun s1 b1 I1 eb => fin I1 ?_) I
      · obtain ⟨z, us, n1, r1, k1⟩ := I0.hok p _ e1
        obtain ⟨z2, us2, n2, r2, k2⟩ := I0.hok q _ e2
        exact ⟨us.toArray, us2.toArray, n1, n2, k1, k2, by rw [List.size_toArray, ← r1.length, rs.len], by rw [List.size_toArray, ← r2.length, rs2.len, hlm], fun i i1 i2 => items_run M hd hf sb rs rs2 r1 r2 i i1 i2 I0⟩
      · rw [eb, hb, hlm, Nat.min_self]
        simp
    · obtain ⟨z, us, n1, r1, k1⟩ := I.hok p _ e1
      obtain ⟨z2, us2, n2, r2, k2⟩ := I.hok q _ e2
      have hne : (us.toArray.size != us2.toArray.size) = true := by
        rw [List.size_toArray, List.size_toArray, ← r1.length, ← r2.length, rs.len, rs2.len]
        simpa using hlm
      have hf0 : (l.length == m.length) = false := by simpa using hlm
      cases neg with
      | false => exact SeqAt.RcAt.lists_lengths ⟨_, k1, rfl, n1, rfl⟩ ⟨_, k2, rfl, n2, rfl⟩ hne sb.room.units0 _ _ _ _ (fin I (by rw [hf0]; simp))
      | true => exact SeqAt.RcNeAt.lists_lengths ⟨_, k1, rfl, n1, rfl⟩ ⟨_, k2, rfl, n2, rfl⟩ hne sb.room.units0 _ _ _ _ (fin I (by rw [hf0]; simp))
  · obtain ⟨its, rv, t1, _⟩ := I.tuple e1
    obtain ⟨its2, rv2, t2, _⟩ := I.tuple e2
    have z1 : its.toArray.size = l.length := by rw [List.size_toArray, ← rv.length, rs.len]
    have z2 : its2.toArray.size = m.length := by rw [List.size_toArray, ← rv2.length, rs2.len]
    refine rc_tup_any f neg (fun s' => Inv X pins σ H s') sb.room.units0 t1 t2 (fun i i1 i2 s1 I1 => items_run M hd hf sb rs rs2 rv rv2 i i1 i2 I1) (fun s1 b1 I1 eb => fin I1 ?_) I
    rw [eb, z1, z2, hb]
theorem eqG_low {neg : Bool} {r1 : R2} (h1 : LowR2 c r1 (eqD neg)) : LowR2 c (fun x y H Q => r1 x y H Q ∨ rSq neg c x y H Q) (eqG neg) := by
  intro x y H Q d e L R rx ry g h pq
  unfold eqG at h
  split at h
  · obtain ⟨l, m, e1, e2, b, h2, h3, h4⟩ := h
    obtain ⟨vs, e3, rs⟩ := good_lst g e1
    obtain ⟨ws, e4, rs2⟩ := good_lst g e2
    exact .inr ⟨_, _, vs, ws, l, m, b, rep_ref.mp rx, rep_ref.mp ry, rs, rs2, h2, h3, .inl ⟨e3, e4⟩, pq.here h4 g (rep_bl.mpr rfl)⟩
  · obtain ⟨b, h2, h3, h4⟩ := h
    obtain ⟨p, vs, rfl, e3, rs⟩ := rep_tup.mp rx
    obtain ⟨q, ws, rfl, e4, rs2⟩ := rep_tup.mp ry
    exact .inr ⟨p, q, vs, ws, _, _, b, rfl, rfl, rs, rs2, h2, h3, .inr ⟨e3, e4⟩, pq.here h4 g (rep_bl.mpr rfl)⟩
  · exact .inl (h1 x y H Q d e L R rx ry g h pq)
theorem aop_eqG (M : MEq X k ps) (hr : Room (k + 73) X.A) (hu : X.A.units + 64 < cLine) : AOp X c (compareOp .Eq) (eqG false) := by
  obtain ⟨r, h1, h2⟩ := (aop_eq (c := c) M (hr.mono (by omega)) hu).ex
  exact .mk' (h1.or (op_sq M false hr)) (eqG_low h2)
theorem aop_neG (cl : ClsF X.K X.mg) (M : MEq X k ps) (hr : Room (k + 73) X.A) (hu : X.A.units + 64 < cLine) : AOp X c (compareOp .NotEq) (eqG true) := by
  obtain ⟨r, h1, h2⟩ := (aop_ne (c := c) cl M (hr.mono (by omega)) hu).ex
  exact .mk' (h1.or (op_sq M true hr)) (eqG_low h2)
end
end AL
namespace AL
open PySem PySem.Spec PyProof.Rows L2 LamX JW
section
variable {X : Cx} {c : AC X.K} {H0 : Hp} {e : Expr} {a : ATE} {pos : Pos} {k : Nat} {f : Str}
theorem av (i : Nat) {x : Str} (hN : X.N[i]? = some x := by rfl) (hv : Vis X.env.scope x := by first | exact Or.inl rfl | exact Or.inr (Or.inl rfl) | exact Or.inr (Or.inr rfl)) (hd : (x == ("__debug__" : Str)) = false := by decide) (hcd : (x == ("__classdict__" : Str)) = false := by decide) : AE X c H0 (.Name x pos) (aVar i) := ae_var hN hv hd hcd
theorem ae_propG (g : T → D) {fV : T → V} (hg : ∀ H t, Rep c H (g t) (fV t)) (cl : Cls X.K (cF X.K)) (M : PropD X.prog X.w X.K X.mg X.base CX0 k (cF X.K) f (spV X.K fV)) (hr : Room (k + 1) X.A) (he : AE X c H0 e a) (hab : attributeBase e f X.env (eval e X.env) = eval e X.env) : AE X c H0 (.Attribute e f pos) (aProp g a) := ae_prop cl M hg hr he hab
def asVia (t : ATS) : ATS := fun D env L => ∃ R : En → Store → Prop, t { D with nx := R } env L ∧ ∀ e l, R e l → D.nx e l
theorem as_via {st : Stmt} {t : ATS} (h : AS X c H0 st t) : AS X c H0 st (asVia t) := by
  refine h.imp fun D σ H ⟨env, L, R, rl, ⟨N, h1, h2⟩, er⟩ => ?_
  exact ⟨env, L, { R with nx := N }, rl, h1, ⟨fun e l σ' H' r s rl' => er.nx e l σ' H' (h2 e l r) s rl', er.rt, er.bk, er.ct⟩⟩
def aPar3 (i j l : Nat) (as : ATA) : ATS := fun D env L => as env L fun ds L1 => match ds with
  | [d, e, f] => D.nx (((env.set i (some d)).set j (some e)).set l (some f)) L1
  | _ => False
def agSub (a b : ATE) : ATG := fun d env L Q => a env L fun x L1 => b env L1 fun i L2 => refD x fun p => intD i fun k => ∃ l j, L2 p = some (.lst l) ∧ ixN l.length k = some j ∧ Q env (sput L2 p (.lst (l.set j d)))
theorem ag_sub {o i : Expr} {ao ai : ATE} (ho : AE X c H0 o ao) (hi : AE X c H0 i ai)
    (ha : ∀ v, assign (.Subscript o i pos) X.env v = (do
      let ov ← holding [v] (eval o X.env)
      let iv ← holding [v, ov] (eval i X.env)
      standAt pos
      holding [v, ov, iv] (setItem ov iv v)
      release [v, ov, iv] []) := by intro _; rfl) : AG X c H0 (.Subscript o i pos) (agSub ao ai) := by
  refine (pg_sub ho hi set_list ha).imp fun v σ H Q ⟨d, env, L, R, r, rl, h, pq⟩ => ?_
  refine ⟨env, L, _, rl, h, fun x L1 y H1 q1 s1 g1 r1 => ⟨env, L1, _, rl.step s1 g1, q1, fun z L2 w H2 q2 s2 g2 r2 => ?_⟩⟩
  obtain ⟨p, rfl, q2⟩ := ref_low (r1.fr s2) q2
  obtain ⟨k, rfl, l, j, e1, e2, q2⟩ := int_low r2 q2
  obtain ⟨ws, e3, rs⟩ := good_lst g2 e1
  have f3 : Fr c H2 (upd H2 p (.lst (ws.set j v))) := .put e3 fun z => z
  obtain ⟨g3, _⟩ := g2.put (m' := .lst (l.set j d)) e1 (.lst (ws.set j v)) ⟨_, upd_same, (rs.set j (r.fr (s1.trans s2))).fr f3⟩
  exact ⟨p, ws, k, j, rfl, rfl, e3, by rw [rs.len]; exact e2, pq env _ σ _ q2 ((s1.trans s2).trans f3) (rl.step ((s1.trans s2).trans f3) g3)⟩
end
section
variable {X : Cx} {c : AC X.K} {H0 : Hp} {e f g : Expr} {a : ATE} {as : ATA} {pos : Pos}
theorem as_par3 {i j l : Nat} {x y z : Str} {px py pz pt pos : Pos} {kt k2 pt2} (hc : X.calm = true) (hN : X.N.Nodup) (hi : X.N[i]? = some x) (hj : X.N[j]? = some y) (hl : X.N[l]? = some z) (hij : i ≠ j) (hil : i ≠ l) (hjl : j ≠ l)
    (hx : X.env.scope.names.lookup x = some .local) (hy : X.env.scope.names.lookup y = some .local) (hz : X.env.scope.names.lookup z = some .local) (ha : AA X c H0 [e, f, g] as)
    (hw : swappedStores [.Tuple [.Name x px, .Name y py, .Name z pz] kt pt] (.Tuple [e, f, g] k2 pt2) X.env = pure (some [x, y, z]))
    (hs : swapsWithSole [.Tuple [.Name x px, .Name y py, .Name z pz] kt pt] (.Tuple [e, f, g] k2 pt2) pos.line X.env = pure false := by rfl) :
    AS X c H0 (.Assign [.Tuple [.Name x px, .Name y py, .Name z pz] kt pt] (.Tuple [e, f, g] k2 pt2) pos) (aPar3 i j l as) := by
  refine (ps_par3 hc hN hi hj hl hij hil hjl hx hy hz ha hw hs).imp fun D σ H ⟨env, L, R, rl, h, er⟩ => ?_
  refine ⟨env, L, _, rl, h, fun ds L1 vs H1 q s g1 r => ?_⟩
  split at q
  · rename_i d1 d2 d3
    obtain ⟨u, rs, rfl, r1, r2⟩ := repL_cons.mp r
    obtain ⟨v, w, rfl, r3, r4⟩ := repL_two r2
    exact ⟨u, v, w, rfl, er.nx _ L1 _ H1 q s ⟨(((rl.env.fr s).set i r1).set j r3).set l r4, g1, rl.fr.trans s⟩⟩
  · exact q.elim
def negD : D → Store → AQ → Prop
  | .int i, L, Q => Q (.int (-i)) L
  | _, _, _ => False
theorem ae_neg (h : AE X c H0 e a) : AE X c H0 (.UnaryOp .USub e pos) (aUn negD a) := by
  refine ae_un (f' := negD) un_neg (fun x H Q d L R rx g q pq => ?_) h
  unfold negD at q
  split at q
  · rename_i i
    exact ⟨i, rep_int.mp rx, pq.here q g (rep_int.mpr rfl)⟩
  · exact q.elim
end
theorem law_low {K : PySem.W.Frag} {c : AC K} {H : Hp} {a : ATS} {p : Addr} {ns : List Int} {N : List Str} {Q : VK} (hs : c.scr = some (p, ns)) (hl : ns.length ≤ 63) (hS : SqL K H p (ns.map V.int)) (hT : Tabs c.TT H) (k : ∀ H', Q (.bl true) H')
    (vc : a (fnEnds fun d _ => d = .bl true) (startA N [.scr]) law0) : lowS c H a { nx := fun _ H' => Q .non H', rt := Q } (L2.start N [.ref p]) H :=
  body_low (.one (rep_scr.mpr ⟨p, ns, hs, rfl⟩)) (good_law hs hl hS hT) (fun d L' v H' e s g r => by
    subst e
    rw [rep_bl.mp r]
    exact k H') vc
def outD (t : T) (L : Store) (Q : AQ) (RX : AX) : Prop :=
  (5000 < t.size → RX "TooLarge" [("pieces", .int (t.size : Nat))] L) ∧ (t.size ≤ 5000 → 120 < t.dep → RX "TooDeep" [("basins", .int (t.dep : Nat))] L) ∧ (t.size ≤ 5000 → t.dep ≤ 120 → Q (.tree t) L)
def noX : AX := fun _ _ _ => False
theorem px_no {K : PySem.W.Frag} {c : AC K} {H : Hp} {E : XK} : Px c H noX E := fun _ _ _ _ _ h => h.elim
end AL
namespace AL
open PySem PySem.Spec PyProof.Rows L2 LamX JW
theorem perm_tx : ∀ {ys zs : List Str}, ys.Perm zs → ∀ {l : List T}, zs = l.map tx → ∃ us : List T, us.Perm l ∧ ys = us.map tx := by
  intro ys zs p
  induction p with
  | nil =>
    intro l e
    cases l with
    | nil => exact ⟨[], .refl _, rfl⟩
    | cons t r => cases e
  | cons x p ih =>
    intro l e
    cases l with
    | nil => cases e
    | cons t r =>
      cases e
      obtain ⟨us, p1, e1⟩ := ih rfl
      exact ⟨t :: us, p1.cons t, by rw [e1]; rfl⟩
  | swap x y zs =>
    intro l e
    match l, e with
    | t :: u :: r, e =>
      cases e
      exact ⟨u :: t :: r, .swap t u r, rfl⟩
  | trans p q ih1 ih2 =>
    intro l e
    obtain ⟨us, p1, e1⟩ := ih2 e
    obtain ⟨vs, p2, e2⟩ := ih1 e1
    exact ⟨vs, p2.trans p1, e2⟩
def dtx (t : T) : D := .str (tx t)
theorem dtx_map (l : List T) : l.map dtx = (l.map tx).map D.str := by rw [List.map_map]; rfl
theorem sizeL_canon (l : List T) : sizeL (l.map T.canon) = sizeL l := by
  rw [sizeL_sum, sizeL_sum, List.map_map, List.map_congr_left (f := T.size ∘ T.canon) fun t _ => canon_size t]
theorem depDL_map {α : Type} {f : α → D} (h : ∀ a, depD (f a) = 0) : ∀ l : List α, depDL (l.map f) = 0
  | [] => rfl
  | a :: l => by
    show max (depD (f a)) (depDL (l.map f)) = 0
    rw [h a, depDL_map h l]
    rfl
theorem cutD_drop {α : Type} {f : α → D} {l : List α} {i : Int} {k : Nat} (h : i = (k : Nat)) : cutD (l.map f) (some i) none = (l.drop k).map f := by
  subst h
  unfold cutD
  rw [HT.sIx_nat, HT.sIx_none, List.map_drop]
  by_cases e : k ≤ (l.map f).length
  · rw [Nat.min_eq_left e]
    exact List.take_of_length_le (by rw [List.length_drop]; omega)
  · rw [Nat.min_eq_right (by omega), List.drop_of_length_le (Nat.le_refl _), List.drop_of_length_le (by omega)]
    simp
def atVia (t : ATT) : ATT := fun env L Q => ∃ R : Bool → Store → Prop, t env L R ∧ ∀ k l, R k l → Q k l
section
variable {X : Cx} {c : AC X.K} {H0 : Hp} {e : Expr} {t : ATT}
theorem at_via (ha : AT X c H0 e t) : AT X c H0 e (atVia t) := by
  refine ha.imp fun σ H Q ⟨env, L, R, rl, ⟨N, h1, h2⟩, pq⟩ => ?_
  exact ⟨env, L, N, rl, h1, fun k L1 H1 q s1 g1 => pq _ _ _ (h2 k L1 q) s1 g1⟩
end
end AL
namespace L2
open PySem PySem.Spec PyProof.Rows JW
section
variable {X : Cx} {CX : CXT} {k : Nat} {ps : List Str} {sp : Sp} {dvs : List V} {E : XK} {x : Str} {p pos : Pos} {e : Expr} {es : List Expr} {t : TA} {a b : Expr} {ta tb : TE} {tA : TT}
theorem PSsT.nox {st : List Stmt} {t : TS} (h : PSsT X.nox st t) : PSsT X st t := fun pins s σ H D h0 I hw =>
  wpAny_mono (h pins s σ H D h0 (I.wish _) hw) (fun _ _ q => q.unwish) fun _ _ z => False.elim z
end
end L2
namespace AL
open PySem PySem.Spec PyProof.Rows L2 LamX JW
section
variable (X : Cx) (c : AC X.K) (H0 : Hp)
end
section
variable {X : Cx} {c : AC X.K} {H0 : Hp} {e f g : Expr} {es : List Expr} {a b : ATE} {as : ATA} {pos p : Pos} {t : ATT} {st : Stmt} {rest : List Stmt} {s1 s2 : ATS} {k : Nat} {ps : List Str} {x : Str} {asp : ASp}
end
section
variable {P : Program} {w : World} {K : PySem.W.Frag} {mg : Str → Option Value} {base : Heap} {c : AC K} {x m qual : Str} {st : Stmt} {N ps : List Str} {k : Nat} {asp : ASp}
end
end AL
namespace JW
open PySem PySem.Spec PyProof.Rows
end JW
namespace JW
open PySem PySem.Spec PyProof.Rows L2
section
variable {X : Cx} {CX : CXT} {k : Nat} {f : Addr} {fd : FuncData} {ps : List Str} {ds : List Value} {dvs : List V} {sp : Sp} {E : XK} {C : Addr}
end
end JW
namespace AL
open PySem PySem.Spec PyProof.Rows L2 LamX JW
section
variable {X : Cx} {c : AC X.K} {H0 : Hp} {e f : Expr} {a b : ATE} {pos : Pos} {k : Nat} {ps : List Str} {asp : ASp} {qual : Str} {st : Stmt}
end
end AL
namespace JW
theorem grf_ge {p t : T} (h : t.jts ≠ 0) : p.size ≤ (T.grf p t).size ∧ p.dep ≤ (T.grf p t).dep := by
  have h1 := grf_size p t
  have h2 := jts_le t
  have h3 : p.size ≤ t.jts * p.size := Nat.le_mul_of_pos_left _ (by omega)
  have h4 := grf_dep p t
  rw [if_neg h] at h4
  omega
theorem prod_op {l : List T} (h : ∀ t ∈ l, Op t) : Op (prodT l) := ⟨prod_can fun t ht => (h t ht).1, prod_open fun t ht => (h t ht).2⟩
theorem part_le {a b c : List T} (ha : ∀ t ∈ a, Op t) (hb : ∀ t ∈ b, Op t) (hc : ∀ t ∈ c, Op t) : (prodT b).size ≤ (prodT (a ++ b ++ c)).size ∧ (prodT b).dep ≤ (prodT (a ++ b ++ c)).dep := by
  have hab : ∀ t ∈ a ++ b, Op t := fun t ht => (List.mem_append.mp ht).elim (ha t) (hb t)
  rw [prod_app (a := a ++ b) (fun t ht => (hab t ht).1) (fun t ht => (hc t ht).1), prod_app (fun t ht => (ha t ht).1) (fun t ht => (hb t ht).1), grf_assoc]
  have h1 := grf_ge (p := T.grf (prodT c) (prodT b)) (prod_op ha).2
  have h2 := grf_size_le (prodT c) (prodT b)
  have h3 := grf_dep_le (prodT c) (prodT b)
  omega
end JW
namespace JW
open PySem PySem.Spec PyProof.Rows L2
theorem bindStar0 {fd : FuncData} {a : Arg} (h1 : fd.params.posonlyargs = []) (h2 : fd.params.args = []) (h3 : fd.params.kwonlyargs = []) (h4 : fd.params.vararg = some a) (h5 : fd.params.kwarg = none) (h6 : fd.defaults = .none) (rest : List Value) :
    bindArgs fd ⟨rest, []⟩ = (newTuple rest >>= fun t => pure [(a.arg, t)]) := by
  unfold bindArgs
  simp [h1, h2, h3, h4, h5, h6, seqItems?, notAStandIn]
theorem bindStar1 {fd : FuncData} {a : Arg} {x : Str} (h1 : fd.params.posonlyargs = []) (h2 : fd.params.args = []) (h3 : fd.params.kwonlyargs = []) (h4 : fd.params.vararg = some a) (h5 : fd.params.kwarg = none) (h6 : fd.defaults = .none) (hx : a.arg = x) (rest : List Value) :
    bindArgs fd ⟨[] ++ rest, []⟩ = (newTuple rest >>= fun t => pure (([] : List Str).zip ([] : List Value) ++ [(x, t)])) := by
  subst hx
  exact bindStar0 h1 h2 h3 h4 h5 h6 rest
end JW
namespace GK
open PySem PySem.Spec PyProof.Rows L2 LamX JW AL
def GdV (n : Nat) (u : Value) : Prop := ∀ y t, u = .str y t → t ≠ 0 ∧ t < n
def GdVs (n : Nat) (us : List Value) : Prop := ∀ u ∈ us, GdV n u
theorem GdV.mono {n m : Nat} {u : Value} (h : GdV n u) (k : n ≤ m) : GdV m u := fun y t e => ⟨(h y t e).1, Nat.lt_of_lt_of_le (h y t e).2 k⟩
theorem GdVs.mono {n m : Nat} {us : List Value} (h : GdVs n us) (k : n ≤ m) : GdVs m us := fun u hu => (h u hu).mono k
theorem GdVs.nil {n : Nat} : GdVs n [] := fun _ h => absurd h List.not_mem_nil
theorem GdVs.cons {n : Nat} {u : Value} {us : List Value} (h : GdV n u) (k : GdVs n us) : GdVs n (u :: us) := fun v hv => (List.mem_cons.mp hv).elim (fun e => e ▸ h) (k v)
theorem GdVs.app {n : Nat} {us vs : List Value} (h : GdVs n us) (k : GdVs n vs) : GdVs n (us ++ vs) := fun v hv => (List.mem_append.mp hv).elim (h v) (k v)
def GdL (H : Hp) (s : Shared) : Prop := ∀ p xs o its k, H p = some (.lst xs) → s.heap.get? p = some o → o.data = .seq its k → GdVs s.toks its.toList
def noSt (X : Cx) : L2.St := List.replicate X.N.length none
def FrG (X : Cx) (c : AC X.K) (env : En) (H : Hp) (n : Nat) (m : Str → Option Value) : Prop := ∀ (i : Nat) (d : D), env[i]? = some (some d) → ∃ x v u, X.N[i]? = some x ∧ m x = some u ∧ RelV v u ∧ Rep c H d v ∧ GdV n u
structure SG (X : Cx) (c : AC X.K) (pins : List (Addr × Obj)) (env : En) (L : Store) (H : Hp) (s : Shared) : Prop where
  inv : Inv X pins (noSt X) H s
  fr : ∃ m, s.heap.Ns X.env.locals m ∧ FrG X c env H s.toks m
  len : env.length = X.N.length
  good : Good c L H
  lst : GdL H s
  tk : 1 ≤ s.toks
section
variable {X : Cx} {c : AC X.K} {pins : List (Addr × Obj)} {env : En} {L L' : Store} {H H' : Hp} {s s' : Shared}
theorem FrG.fr {n n' : Nat} {m : Str → Option Value} (h : FrG X c env H n m) (f : AL.Fr c H H') (k : n ≤ n') : FrG X c env H' n' m := fun i d e => by
  obtain ⟨x, v, u, h1, h2, h3, h4, h5⟩ := h i d e
  exact ⟨x, v, u, h1, h2, h3, h4.fr f, h5.mono k⟩
theorem SG.to (S : SG X c pins env L H s) (I : Inv X pins (noSt X) H' s') (hf : ∀ m, s.heap.Ns X.env.locals m → s'.heap.Ns X.env.locals m) (ht : s.toks ≤ s'.toks) (f : AL.Fr c H H') (g : Good c L' H') (l : GdL H' s') : SG X c pins env L' H' s' := by
  obtain ⟨m, h1, h2⟩ := S.fr
  exact ⟨I, ⟨m, hf m h1, h2.fr f ht⟩, S.len, g, l, Nat.le_trans S.tk ht⟩
theorem ns_kept {h h' : Heap} {a : Addr} (k : ∀ b o, h.get? b = some o → h'.get? b = some o) : ∀ m, h.Ns a m → h'.Ns a m := fun m hn => hn.keeps k
theorem gdl_kept {h' : Heap} {t' : Nat} (l : GdL H s) (hk : HOk X.prog X.w H s.heap) (k : ∀ b o, s.heap.get? b = some o → h'.get? b = some o) (ht : s.toks ≤ t') : GdL H { s with heap := h', toks := t' } := fun p xs o its n e1 e2 e3 => by
  obtain ⟨z, us, n', _, e4⟩ := hk p _ e1
  have e5 : h'.get? p = some o := e2
  rw [k _ _ e4] at e5
  cases e5
  exact (l p xs _ its n e1 e4 e3).mono ht
theorem SG.kept {h' : Heap} {t' : Nat} (S : SG X c pins env L H s) (k : ∀ b o, s.heap.get? b = some o → h'.get? b = some o) (ht : s.toks ≤ t') : SG X c pins env L H { s with heap := h', toks := t' } :=
  S.to (S.inv.kept k) (ns_kept k) ht (.refl c H) S.good (gdl_kept S.lst S.inv.hok k ht)
theorem SG.tok {t' : Nat} (S : SG X c pins env L H s) (ht : s.toks ≤ t') : SG X c pins env L H { s with toks := t' } := S.kept (fun _ _ e => e) ht
theorem SG.put {t' : Nat} {l : Addr} {xs ys : List V} {its its' : List Value} {n : Nat} {f : Array Value → Array Value} {ds es : List D} (S : SG X c pins env L H s) (hH : H l = some (.lst xs)) (hL : L l = some (.lst ds)) (e : s.heap.get? l = some { cls := .type "list", data := .seq its.toArray n })
    (hf : f its.toArray = its'.toArray) (hv : Vals ys its') (hz : ys.length ≤ sizeLine) (ht : s.toks ≤ t') (gd : GdVs t' its') (rs : RepL c H es ys) : SG X c pins env (sput L l (.lst es)) (upd H l (.lst ys)) { s with heap := s.heap.update l (Obj.mapSeq f), toks := t' } := by
  have hF : AL.Fr c H (upd H l (.lst ys)) := .put hH fun z => z
  obtain ⟨g, _⟩ := S.good.put (m' := .lst es) hL (.lst ys) ⟨ys, upd_same, rs.fr hF⟩
  have hne : l ≠ X.env.locals := fun z => by
    rw [z, S.inv.free] at hH
    cases hH
  have q := PySem.IsL.update e f
  refine S.to (S.inv.lset hH e hf hv hz) (fun m hm => ?_) ht hF g (fun p zs o us n' e1 e2 e3 => ?_)
  · obtain ⟨o, es', ep, h1, h2⟩ := hm
    exact ⟨o, es', ep, (Heap.get?_update_other s.heap (Obj.mapSeq f) hne).trans h1, h2⟩
  · have e2 : (s.heap.update l (Obj.mapSeq f)).get? p = some o := e2
    by_cases hp : p = l
    · subst hp
      rw [q] at e2
      cases e2
      cases e3
      rw [hf]
      simpa using gd
    · rw [upd_ne hp] at e1
      rw [Heap.get?_update_other s.heap (Obj.mapSeq f) (Ne.symm hp)] at e2
      exact (S.lst p zs o us n' e1 e2 e3).mono ht
theorem SG.list {p : Addr} {ds : List D} (S : SG X c pins env L H s) (h : L p = some (.lst ds)) : ∃ (vs : List V) (its : List Value) (n : Nat), H p = some (.lst vs) ∧ RepL c H ds vs ∧ Vals vs its ∧ vs.length ≤ sizeLine ∧ s.heap.get? p = some { cls := .type "list", data := .seq its.toArray n } ∧ GdVs s.toks its := by
  obtain ⟨vs, e1, rs⟩ := good_lst S.good h
  obtain ⟨z, its, n, r, e⟩ := S.inv.hok p _ e1
  exact ⟨vs, its, n, e1, rs, r, z, e, by simpa using S.lst p vs _ _ n e1 e rfl⟩
end
end GK
namespace GK
open PySem PySem.Spec PyProof.Rows L2 LamX JW AL
section
variable (X : Cx) (c : AC X.K) (pins : List (Addr × Obj)) (env : En) (H : Hp)
def EG (R : AQ) (u : Value) (s' : Shared) : Prop := ∃ d v H' L', SG X c pins env L' H' s' ∧ AL.Fr c H H' ∧ Rep c H' d v ∧ RelV v u ∧ GdV s'.toks u ∧ R d L'
def TGd (R : Bool → Store → Prop) (b : Bool) (s' : Shared) : Prop := ∃ H' L', SG X c pins env L' H' s' ∧ AL.Fr c H H' ∧ R b L'
end
section
variable (X : Cx) (c : AC X.K)
def XE (e : Expr) (a : ATE) : Prop := ∀ pins s env L H R, SG X c pins env L H s → a env L R → wpAny (model X.prog X.w) X.A (eval e X.env) (EG X c pins env H R) X.xe s
def XT (e : Expr) (t : ATT) : Prop := ∀ pins s env L H R, SG X c pins env L H s → t env L R → wpAny (model X.prog X.w) X.A (isTrue e X.env (eval e X.env)) (TGd X c pins env H R) X.xe s
def XW (e : Expr) (t : ATT) : Prop := ∀ whole pins s env L H R, SG X c pins env L H s → t env L R → wpAny (model X.prog X.w) X.A (isTrue e X.env whole) (TGd X c pins env H R) X.xe s
end
section
variable {X : Cx} {c : AC X.K} {pins : List (Addr × Obj)} {env : En} {L : Store} {H H1 : Hp} {s : Shared} {R : AQ} {e f g : Expr} {a b : ATE} {as : ATA} {es : List Expr} {pos : Pos} {t u' : ATT} {x : Str} {p : Pos}
theorem EG.fr {u : Value} (h : EG X c pins env H1 R u s) (k : AL.Fr c H H1) : EG X c pins env H R u s := by
  obtain ⟨d, v, H', L', S, f, r⟩ := h
  exact ⟨d, v, H', L', S, k.trans f, r⟩
theorem TGd.fr {R : Bool → Store → Prop} {b : Bool} (h : TGd X c pins env H1 R b s) (k : AL.Fr c H H1) : TGd X c pins env H R b s := by
  obtain ⟨H', L', S, f, r⟩ := h
  exact ⟨H', L', S, k.trans f, r⟩
theorem SG.eg {d : D} {v : V} {u : Value} (S : SG X c pins env L H s) (r : Rep c H d v) (q : RelV v u) (g : GdV s.toks u) (h : R d L) : EG X c pins env H R u s := ⟨d, v, H, L, S, .refl c H, r, q, g, h⟩
theorem xv (i : Nat) {x : Str} (hN : X.N[i]? = some x := by rfl) (hk : X.env.kindOf x = some .local := by rfl) (hd : (x == ("__debug__" : Str)) = false := by decide) : XE X c (.Name x pos) (aVar i) := by
  intro pins s env L H R S h
  unfold aVar at h
  split at h
  · rename_i d e1
    obtain ⟨m, hn, hf⟩ := S.fr
    obtain ⟨y, v, u, h1, h2, h3, h4, h5⟩ := hf i d e1
    rw [hN] at h1
    cases h1
    exact wpAny_Name (wpAny_loadName_local S.inv.ok.kind hk hn h2 (S.eg h4 h3 h5 h)) hd
  · exact h.elim
theorem XW.pt (h : XW X c e t) : XT X c e t := h _
end
section
variable {X : Cx} {c : AC X.K}
end
end GK
namespace GK
open PySem PySem.Spec PyProof.Rows L2 LamX JW AL
section
variable {X : Cx} {c : AC X.K} {e f g o : Expr} {a b : ATE} {as : ATA} {es : List Expr} {pos apos cpos p p2 : Pos} {x name : Str} {id : String}
end
end GK
namespace GK
open PySem PySem.Spec PyProof.Rows L2 LamX JW AL
section
variable (X : Cx) (c : AC X.K)
end
section
variable {X : Cx} {c : AC X.K} {e f g o : Expr} {a b : ATE} {as : ATA} {es : List Expr} {pos apos cpos p p2 : Pos} {x name : Str} {id : String} {k' : D → List D → Store → AQ → Prop}
end
end GK
namespace GK
open PySem PySem.Spec PyProof.Rows L2 LamX JW AL
def Zc {K : PySem.W.Frag} (c : AC K) (a : Addr) : Prop := ∃ ns, c.scr = some (a, ns)
def Hd {K : PySem.W.Frag} (c : AC K) (H : Hp) (a : Addr) : Prop := (∃ xs, H a = some (.lst xs)) ∧ ¬ Zc c a
open Classical in
noncomputable def hid {K : PySem.W.Frag} (c : AC K) (H : Hp) : Hp := fun a => if Hd c H a then none else H a
def hidS (L : Store) : Store := fun p => match L p with
  | some (.lst _) => none
  | m => m
section
variable {K : PySem.W.Frag} {c : AC K} {H H1 : Hp} {a : Addr} {o : HO}
theorem hid_of (h : H a = some o) (n : ¬ Hd c H a) : hid c H a = some o := by
  unfold hid
  rw [if_neg n]
  exact h
theorem hid_nl (h : H a = some o) (n : ∀ xs, o ≠ .lst xs) : hid c H a = some o := hid_of h fun ⟨⟨xs, e⟩, _⟩ => by
  rw [h] at e
  cases e
  exact n xs rfl
theorem hid_none (h : H a = none) : hid c H a = none := by
  unfold hid
  split
  · rfl
  · exact h
theorem hid_hd (h : Hd c H a) : hid c H a = none := by
  unfold hid
  rw [if_pos h]
theorem hidS_of {L : Store} {p : Addr} {m : MO} (h : L p = some m) (n : ∀ l, m ≠ .lst l) : hidS L p = some m := by
  unfold hidS
  rw [h]
  cases m with
  | lst xs => exact absurd rfl (n xs)
  | _ => rfl
end
section
variable {K : PySem.W.Frag} {c : AC K} {H H1 : Hp} {L : Store}
theorem imm_nl {o : HO} (h : Imm c o) : ∀ xs, o ≠ .lst xs := fun xs e => by
  subst e
  exact h
theorem fr_hid : AL.Fr c H (hid c H) := fun a o h i => hid_nl h (imm_nl i)
end
section
variable {P : Program} {w : World} {K : PySem.W.Frag} {c : AC K} {L : Store} {H H1 : Hp} {h h' : Heap} {fs : List Addr}
theorem hd_there (hok : HOk P w H h) (hfs : ∀ b ∈ fs, H b = none) (U : Un fs [] (hid c H) H1 h h') {a : Addr} (z : Hd c H a) : ∃ o, h.get? a = some o ∧ H1 a = none ∧ h'.get? a = some o := by
  obtain ⟨⟨xs, e⟩, _⟩ := id z
  obtain ⟨_, its, n, r, e2⟩ := hok a _ e
  refine ⟨_, e2, U.free a _ e2 (hid_hd z) (by simp), U.keep a _ e2 (hid_hd z) (fun hm => ?_) (by simp)⟩
  rw [hfs a hm] at e
  cases e
structure Back (c : AC K) (H H1 H' : Hp) : Prop where
  hd : ∀ a, Hd c H a → H' a = H a
  nl : ∀ a o, H1 a = some o → (∀ xs, o ≠ .lst xs) → H' a = some o
  at_ : ∀ a o, H' a = some o → (Hd c H a ∧ H a = some o) ∨ (¬ Hd c H a ∧ H1 a = some o)
  scr : ∀ a, Zc c a → H' a = H1 a
variable {H' : Hp}
theorem Back.fr1 (B : Back c H H1 H') : AL.Fr c H1 H' := fun a o e i => B.nl a o e (imm_nl i)
theorem Back.un (B : Back c H H1 H') (U : Un fs [] (hid c H) H1 h h') : Un fs [] H H' h h' := by
  refine ⟨fun b o e n hb hx => U.keep b o e (hid_none n) hb hx, fun b o e n hb hx => U.slot b o e (hid_none n) hb hx, fun b o e n hx => ?_, U.there, fun b xs e => ?_, fun b o u e => ?_, fun b ps e => ?_⟩
  · cases e2 : H' b with
    | none => rfl
    | some v =>
      rcases B.at_ b v e2 with ⟨_, z⟩ | ⟨_, z⟩
      · rw [n] at z
        cases z
      · rw [U.free b o e (hid_none n) hx] at z
        cases z
  · exact B.nl _ _ (U.tups b xs (hid_nl e (fun _ z => nomatch z))) (fun _ z => nomatch z)
  · exact B.nl _ _ (U.frzs b o u (hid_nl e (fun _ z => nomatch z))) (fun _ z => nomatch z)
  · obtain ⟨more, e1⟩ := U.tbls b ps (hid_nl e (fun _ z => nomatch z))
    exact ⟨more, B.nl _ _ e1 (fun _ z => nomatch z)⟩
theorem Back.hok (B : Back c H H1 H') (hok : HOk P w H h) (hfs : ∀ b ∈ fs, H b = none) (U : Un fs [] (hid c H) H1 h h') (hk : HOk P w H1 h') : HOk P w H' h' := fun a o e => by
  rcases B.at_ a o e with ⟨z, e1⟩ | ⟨_, e1⟩
  · obtain ⟨⟨xs, e2⟩, _⟩ := id z
    rw [e1] at e2
    cases e2
    obtain ⟨zz, its, n, r, e3⟩ := hok a _ e1
    obtain ⟨o, e4, _, e5⟩ := hd_there hok hfs U z
    rw [e3] at e4
    cases e4
    exact ⟨zz, its, n, r, e5⟩
  · exact (hk a o e1).stay (fun _ _ _ q => q) (fun b q => B.nl _ _ q (fun _ z => nomatch z)) fun b xs q => B.nl _ _ q (fun _ z => nomatch z)
theorem Back.good (B : Back c H H1 H') (hK : ∀ a o, K.lookup a = some o → H a = none) (g0 : Good c L H) (f : AL.Fr c (hid c H) H1) (g : Good c (hidS L) H1) : Good c L H' := by
  have f1 : AL.Fr c H H' := fr_hid.trans (f.trans B.fr1)
  refine ⟨fun q hq => ?_, fun p m e => ?_, fun a ns e => ?_⟩
  · obtain ⟨ps, h1, h2, h3⟩ := g.tabs q hq
    refine ⟨ps, B.nl _ _ h1 (fun _ z => nomatch z), h2, fun pos cv hc => ?_⟩
    obtain ⟨k, e1, e2⟩ := h3 pos cv hc
    exact ⟨k, e1, B.nl _ _ e2 (fun _ z => nomatch z)⟩
  · cases m with
    | lst l =>
      obtain ⟨vs, e1, rs⟩ := good_lst g0 e
      have hz : Hd c H p := ⟨⟨vs, e1⟩, fun ⟨ns, z⟩ => by
        rcases (g0.scr p ns z).2 with ⟨_, h2⟩ | ⟨o, h2⟩ | ⟨o, its, n, h2, _⟩
        · rw [e] at h2
          cases h2
        · rw [e1] at h2
          cases h2
        · rw [hK _ _ h2] at e1
          cases e1⟩
      exact ⟨vs, (B.hd p hz).trans e1, rs.fr f1⟩
    | dct l => obtain ⟨vs, e2, k, rs⟩ := g.st p _ (hidS_of e (fun _ z => nomatch z)); exact ⟨vs, B.nl _ _ e2 (fun _ z => nomatch z), k, rs.fr B.fr1⟩
    | ins C ks ds => obtain ⟨dx, vs, e2, n, k, rs⟩ := g.st p _ (hidS_of e (fun _ z => nomatch z)); exact ⟨dx, vs, B.nl _ _ e2 (fun _ z => nomatch z), n, k, rs.fr B.fr1⟩
    | opq Q =>
      obtain ⟨o, e2, hp, r1, r2, r3, r4⟩ := g.st p _ (hidS_of e (fun _ z => nomatch z))
      exact ⟨o, B.nl _ _ e2 (fun xs z => r4 xs (by rw [← z]; exact hp)), hp, r1, r2, r3, r4⟩
  · refine ⟨(g0.scr a ns e).1, ?_⟩
    have hs := B.scr a ⟨ns, e⟩
    rcases (g0.scr a ns e).2 with ⟨h1, h2⟩ | ⟨o, h1⟩ | h1
    · rcases (g.scr a ns e).2 with ⟨k1, _⟩ | ⟨o, k1⟩ | k1
      · exact .inl ⟨hs.trans k1, h2⟩
      · exact .inr (.inl ⟨o, hs.trans k1⟩)
      · exact .inr (.inr k1)
    · exact .inr (.inl ⟨o, f1 a _ h1 trivial⟩)
    · exact .inr (.inr h1)
end
section
variable {X : Cx} {c : AC X.K} {pins : List (Addr × Obj)} {env : En} {L : Store} {H H1 : Hp} {s s' : Shared}
section
variable {e : Expr} {es : List Expr} {as : ATA} {x : Str} {p pos : Pos} {k : Nat} {ps : List Str} {asp : ASp}
end
end
end GK
namespace GK
open PySem PySem.Spec PyProof.Rows L2 LamX JW AL
section
variable (X : Cx) (c : AC X.K)
def SGd (pins : List (Addr × Obj)) (H : Hp) (D : AEnds) (f : Flow) (s' : Shared) : Prop :=
  match f with
  | .next => ∃ env' H' L', SG X c pins env' L' H' s' ∧ AL.Fr c H H' ∧ D.nx env' L'
  | .brk => ∃ env' H' L', SG X c pins env' L' H' s' ∧ AL.Fr c H H' ∧ D.bk env' L'
  | .cont => ∃ env' H' L', SG X c pins env' L' H' s' ∧ AL.Fr c H H' ∧ D.ct env' L'
  | .ret u => ∃ env' d v H' L', SG X c pins env' L' H' s' ∧ AL.Fr c H H' ∧ Rep c H' d v ∧ RelV v u ∧ GdV s'.toks u ∧ D.rt d L'
end
section
variable {X : Cx} {c : AC X.K} {pins : List (Addr × Obj)} {env : En} {L : Store} {H H1 : Hp} {s : Shared} {DD : AEnds}
theorem SGd.fr {f : Flow} (h : SGd X c pins H1 DD f s) (k : AL.Fr c H H1) : SGd X c pins H DD f s := by
  cases f with
  | next => obtain ⟨a, b, d, S, f, r⟩ := h; exact ⟨a, b, d, S, k.trans f, r⟩
  | brk => obtain ⟨a, b, d, S, f, r⟩ := h; exact ⟨a, b, d, S, k.trans f, r⟩
  | cont => obtain ⟨a, b, d, S, f, r⟩ := h; exact ⟨a, b, d, S, k.trans f, r⟩
  | ret u => obtain ⟨a, b, v, d, e, S, f, r⟩ := h; exact ⟨a, b, v, d, e, S, k.trans f, r⟩
end
section
variable {X : Cx} {c : AC X.K} {e f tg : Expr} {a b : ATE} {as : ATA} {pos : Pos} {t : ATT} {st : Stmt} {rest sts sts' : List Stmt} {s1 s2 : ATS}
theorem SG.turn {pins : List (Addr × Obj)} {env : En} {L : Store} {H : Hp} {s : Shared} {it : Addr} {h' : Heap} {tk : Nat} (S : SG X c pins env L H s) (hf : FpOk X pins H it) (k : ∀ b o, b ≠ it → s.heap.get? b = some o → h'.get? b = some o) (ht : s.toks ≤ tk) : SG X c pins env L H { s with heap := h', toks := tk } := by
  obtain ⟨f0, f1, f2, f3, f4, f5⟩ := hf
  refine S.to (S.inv.turned k f0 f1 f3 f4 f5) (fun m ⟨o, es, ep, h1, h2⟩ => ⟨o, es, ep, k _ o (Ne.symm f1) h1, h2⟩) ht (.refl c H) S.good (fun p xs o its n e1 e2 e3 => ?_)
  have hp : p ≠ it := fun z => by
    rw [z, f0] at e1
    cases e1
  obtain ⟨_, us, n', _, e4⟩ := S.inv.hok p _ e1
  have e5 : h'.get? p = some o := e2
  rw [k _ _ hp e4] at e5
  cases e5
  exact (S.lst p xs _ its n e1 e4 e3).mono ht
end
end GK
namespace GK
open PySem PySem.Spec PyProof.Rows L2 LamX JW AL
section
variable {X : Cx} {c : AC X.K} {e o tg : Expr} {a b : ATE} {as : ATA} {es : List Expr} {pos p apos : Pos}
end
end GK
namespace GK
open PySem PySem.Spec PyProof.Rows L2 LamX JW AL
section
variable {X : Cx} {c : AC X.K} {e : Expr} {es : List Expr} {as : ATA} {x : Str} {p pos : Pos} {k : Nat} {ps : List Str} {asp : ASp}
end
section
variable {P : Program} {w : World} {K : PySem.W.Frag} {mg : Str → Option Value} {base : Heap} {c : AC K} {x qual : Str} {st : Stmt} {N ps : List Str} {k : Nat} {asp : ASp}
end
end GK
namespace JW
open PySem PySem.Spec PyProof.Rows
end JW
namespace AL
open PySem PySem.Spec PyProof.Rows L2 LamX JW
theorem loop_k {g : ATG} {b : ATS} {N : AEnds} {G : Store → Prop} (items : List D) (I : Nat → En → Store → Prop) (hG : ∀ i env L, i ≤ items.length → I i env L → G L)
    (hs : ∀ i d env L (n : En → Store → Prop), items[i]? = some d → (∀ e l, I (i + 1) e l → n e l) → I i env L → g d env L fun env1 L1 => b { N with nx := n, ct := n, bk := N.nx } env1 L1) (hd : ∀ env L, I items.length env L → N.nx env L) : ∀ env L, I 0 env L → loopA g b N G items env L := by
  have : ∀ (k i : Nat), i + k = items.length → ∀ env L, I i env L → loopA g b N G (items.drop i) env L := by
    intro k
    induction k with
    | zero =>
      intro i hi env L h
      have e : i = items.length := by omega
      subst e
      rw [List.drop_length]
      exact ⟨hG _ _ _ (Nat.le_refl _) h, hd _ _ h⟩
    | succ k ih =>
      intro i hi env L h
      have hlt : i < items.length := by omega
      rw [List.drop_eq_getElem_cons hlt]
      exact ⟨hG i _ _ (Nat.le_of_lt hlt) h, hs i _ env L _ (List.getElem?_eq_getElem hlt) (fun e l z => ih (i + 1) (by omega) e l z) h⟩
  intro env L h
  exact this items.length 0 (by omega) env L h
theorem loop_map {α : Type} {g : ATG} {b : ATS} {N : AEnds} {G : Store → Prop} (f : α → D) (ts : List α) (I : List α → En → Store → Prop) (hG : ∀ p e l, I p e l → G l)
    (step : ∀ (pre : List α) t (rest : List α) (n : En → Store → Prop), ts = pre ++ t :: rest → (∀ e l, I (pre ++ [t]) e l → n e l) → ∀ env L, I pre env L → g (f t) env L fun env1 L1 => b { N with nx := n, ct := n, bk := N.nx } env1 L1)
    (hd : ∀ env L, I ts env L → N.nx env L) : ∀ env L, I [] env L → loopA g b N G (ts.map f) env L := by
  have : ∀ (rest pre : List α), ts = pre ++ rest → ∀ env L, I pre env L → loopA g b N G (rest.map f) env L := by
    intro rest
    induction rest with
    | nil => exact fun pre e env L h => ⟨hG _ _ _ h, hd _ _ (by rw [e, List.append_nil]; exact h)⟩
    | cons t rest ih => exact fun pre e env L h => ⟨hG _ _ _ h, step pre t rest _ e (fun env1 L1 h1 => ih (pre ++ [t]) (by rw [List.append_assoc]; exact e) env1 L1 h1) env L h⟩
  exact this ts [] rfl
end AL
namespace AL
open PySem PySem.Spec PyProof.Rows L2 LamX JW
section
variable {X : Cx} {c : AC X.K}
end
end AL
namespace JW
open PySem PySem.Spec PyProof.Rows L2 He
end JW
namespace L2
open PySem PySem.Spec PyProof.Rows
section
variable {X : Cx}
end
end L2
namespace JW
open PySem PySem.Spec PyProof.Rows L2
section
variable {X : Cx} {CX : CXT} {k : Nat} {ps : List Str} {sp : Sp} {E : XK} {C : Addr}
end
end JW
namespace AL
open PySem PySem.Spec PyProof.Rows L2 LamX JW
section
variable {X : Cx} {c : AC X.K} {H0 : Hp} {e : Expr} {a : ATE} {pos p p2 : Pos} {k : Nat} {ps : List Str} {qual : Str} {st : Stmt}
end
end AL
namespace JW
open PySem PySem.Spec PyProof.Rows L2
def spErr0 (K : PySem.W.Frag) (C : Addr) : Sp := fun vs H Q _ => ∃ a, vs = [.ref a] ∧ H a = some (exo a C none) ∧ Q .non H
theorem mk_end00 {X : Cx} {pins : List (Addr × Obj)} {σ : L2.St} {H1 H2 : Hp} {hp hp2 h2 : Heap} {g1 g2 : Array GenState} {d1 d2 : Drawn} {t1 t2 : Nat} {os1 os2 : OsState} {a C : Addr} (I1 : Inv X pins σ H1 ⟨hp, g1, d1, t1, os1⟩)
    (ha : hp.objs.size ≤ a) (k : ∀ b o, hp.get? b = some o → hp2.get? b = some o) (un : Un (frs X.stack) [] (upd H1 a (exo a C none)) H2 hp2 h2) (hok : HOk X.prog X.w H2 h2) (ho : os2 = os1) (hb : AllBare g2)
    (ea : H2 a = some (exo a C none)) :
    ∃ (t0 : Addr) (G : Heap), Inv X pins σ (del H2 a) ⟨G, g2, d2, t2, os2⟩ ∧ (∀ b o, G.get? b = some o → h2.get? b = some o) ∧ G.get? a = none ∧
      h2.get? a = some ({ cls := .ref C, dict := none, data := .fields #[.ref t0, .none, .none, .none, .bool false, .none] } : Obj) ∧ (del H2 a) a = none := by
  obtain ⟨t0, hoe⟩ := exo_at hok ea
  have hn : H1 a = none := I1.hok.fresh ha
  obtain ⟨G, g1', g2'⟩ := restrict h2 fun b => decide (b ≠ a)
  have gk : ∀ b, b ≠ a → G.get? b = h2.get? b := fun b hb => g1' b (decide_eq_true hb)
  have ge : G.get? a = none := g2' a (by simp)
  have nha : ∀ {b : Addr} {o : Obj}, hp.get? b = some o → b ≠ a := fun {b o} z => Nat.ne_of_lt (Nat.lt_of_lt_of_le (Heap.lt_size z) ha)
  have up : ∀ {b : Addr}, b ≠ a → H1 b = none → upd H1 a (exo a C none) b = none := fun {b} hb n => by rw [upd_ne hb]; exact n
  have U : Un (frs X.stack) [] H1 (del H2 a) hp G := {
    keep := fun b o z n hf hx => by
      rw [gk b (nha z)]
      exact un.keep b o (k b o z) (up (nha z) n) hf hx
    slot := fun b o z n hf hx => by
      rw [gk b (nha z)]
      exact un.slot b o (k b o z) (up (nha z) n) hf hx
    free := fun b o z n hx => by
      rw [del_ne (nha z)]
      exact un.free b o (k b o z) (up (nha z) n) hx
    there := fun b o z hx => by
      rw [gk b (nha z)]
      exact un.there b o (k b o z) hx
    tups := fun b xs z => by
      rw [del_ne (ne_of_none z hn)]
      exact un.tups b xs (by rw [upd_ne (ne_of_none z hn)]; exact z)
    frzs := fun b o v z => by
      rw [del_ne (ne_of_none z hn)]
      exact un.frzs b o v (by rw [upd_ne (ne_of_none z hn)]; exact z)
    tbls := fun b ps z => by
      rw [del_ne (ne_of_none z hn)]
      exact un.tbls b ps (by rw [upd_ne (ne_of_none z hn)]; exact z) }
  have hok3 : HOk X.prog X.w (del H2 a) G := fun b o z => by
    have hba : b ≠ a := fun e => by
      rw [e, del_same] at z
      cases z
    rw [del_ne hba] at z
    have noa : ∀ {c : Addr}, H2 c = some (.own b) → c ≠ a := fun {c} hc => at_ne ea hc exo_own
    exact (hok b o z).stay (fun c v hc y => by
        have hca : c ≠ a := by
          rcases hc with hc | hc
          · rw [hc]
            exact hba
          · exact noa hc
        rw [gk c hca]
        exact y)
      (fun c hc => by rw [del_ne (noa hc)]; exact hc) (fun c xs hc => by rw [del_ne (at_ne ea hc exo_tup)]; exact hc)
  have J : Inv X pins σ (del H2 a) ⟨G, g2, d2, t2, os2⟩ := I1.call' (ch := []) ho U hok3 hb (fun b z => absurd z (by simp))
  refine ⟨t0, G, J, fun b o z => ?_, ge, hoe, del_same⟩
  by_cases hba : b = a
  · rw [hba, ge] at z
    cases z
  · exact (gk b hba).symm.trans z
def tRaise0 (C : Addr) : L2.St → Hp → XK → Prop := fun _ H Q => Q (.ref C) none H
section
variable {X : Cx} {p pos : Pos} {x : Str} {C : Addr} {k : Nat} {ps : List Str}
theorem pmk_err0 (D : ErrD X.prog X.w X.K X.mg X.base k x C ps (spErr0 X.K C)) (hr : Room (k + 1) X.A) (hg : Gl X x) (hdb : (x == ("__debug__" : Str)) = false := by decide) : PMk X (.Call (.Name x p) [] [] pos) (tRaise0 C) := by
  obtain ⟨fI, fd, iC, tI, hb, F1⟩ := D.ex
  have T := D.c.o
  intro pins s σ H Q I h
  obtain ⟨nm, q, N, bs, bm, sn, sub, ab, col, dd, k0, k1, k2, k3, k5, hC, hbm⟩ := T.cls
  refine wpAny_Call_Name_kw (ld_glob I hg D.g ?_ hdb)
  refine PySem.W.callWith_K0 I.kIn T.kC ?_
  show wpAny _ _ (call (.ref C) []) _ _ _
  obtain ⟨hp, g, dr, tk, os⟩ := s
  have hsz : hp.objs.size ≤ hp.objs.size + 1 := Nat.le_succ _
  have hn : H (hp.objs.size + 1) = none := I.hok.fresh hsz
  have kk : ∀ b o, hp.get? b = some o → ((hp.push (PySem.W.kdv_tup [])).push (PySem.HandSPX.excO C hp.objs.size)).get? b = some o := fun b o e => Heap.get?_push_of_some _ (Heap.get?_push_of_some _ e)
  have hget : ((hp.push (PySem.W.kdv_tup [])).push (PySem.HandSPX.excO C hp.objs.size)).get? (hp.objs.size + 1) = some (PySem.HandSPX.excO C hp.objs.size) := by heap_get
  have I2 : Inv X pins σ (upd H (hp.objs.size + 1) (exo (hp.objs.size + 1) C none)) ⟨(hp.push (PySem.W.kdv_tup [])).push (PySem.HandSPX.excO C hp.objs.size), g, dr, tk, os⟩ :=
    I.laid (t' := tk) (a := hp.objs.size + 1) (o := exo (hp.objs.size + 1) C none) (h' := (hp.push (PySem.W.kdv_tup [])).push (PySem.HandSPX.excO C hp.objs.size)) kk hsz (exo_ok hget)
  have r2 : Vals [V.ref (hp.objs.size + 1)] [Value.ref (hp.objs.size + 1)] := .cons rfl .nil
  have hq : spErr0 X.K C [V.ref (hp.objs.size + 1)] (upd H (hp.objs.size + 1) (exo (hp.objs.size + 1) C none)) (fun v H2 => v = .non ∧ H2 = upd H (hp.objs.size + 1) (exo (hp.objs.size + 1) C none)) (fun _ _ _ => False) := ⟨_, rfl, upd_same, rfl, rfl⟩
  have hl : [Value.ref (hp.objs.size + 1)].length = ps.length := F1.len _ _ _ _ hq
  refine wpAny_call (PySem.HandSPX.call_own F.excBase_ValueError (fun Y => PySem.HandSPX.refsVE_contains Y bm hbm) (I.kIn _ _ hC) (PySem.W.looks_findIn I.kIn iC) (fun self => PySem.W.bind_fn I.kIn self tI) (by rw [sizeLine_eq]; decide)
    (codeAny_mono (F1.run _ X.stack _ _ ⟨[Value.ref (hp.objs.size + 1)], []⟩ [Value.ref (hp.objs.size + 1)] _ _ (fun _ _ _ => False) (hr.make C [] []) (I2.env0.make C [] []) (hb _ [Value.ref (hp.objs.size + 1)] I2.kIn hl) r2 hq) fun r s' hq' => ?_))
  cases r with
  | error er => exact pass0 (X := X) pins σ _ _ er s' I2 hq'
  | ok fl =>
    cases fl with
    | ret u =>
      obtain ⟨v, H2, os2, bare2, un2, hok2, rv, ev, eH⟩ := hq'
      subst ev
      subst eH
      obtain ⟨h2, g2, d2, t2, os'⟩ := s'
      refine ⟨rv, ?_⟩
      obtain ⟨t0, G, J, kG, ge, hoe, na⟩ := mk_end00 (d2 := d2) (t2 := t2) I hsz kk un2 hok2 os2 bare2 upd_same
      have eD : del (upd H (hp.objs.size + 1) (exo (hp.objs.size + 1) C none)) (hp.objs.size + 1) = H := by
        funext b
        by_cases e : b = hp.objs.size + 1
        · rw [e, del_same, hn]
        · rw [del_ne e, upd_ne e]
      rw [eD] at J
      exact ⟨hp.objs.size + 1, _, _, ⟨G, g2, d2, t2, os'⟩, _, .ref C, none, rfl, J, kG, ge, hoe, ⟨rfl, rfl⟩, rfl, rfl, hn, rfl, bare2, raises_own T.exC T.tyC, h⟩
    | next => exact False.elim hq'
    | brk => exact False.elim hq'
    | cont => exact False.elim hq'
end
end JW
namespace AL
open PySem PySem.Spec PyProof.Rows L2 JW
theorem comp_mapA {α : Type} {g : ATG} {a : ATE} {G : Store → Prop} {p : Addr} {env : En} {Q : AQ} {L0 : Store} (f h : α → D) (hG : ∀ l, G (sput L0 p (.lst l))) : ∀ (ws : List α) (acc : List D), acc.length + ws.length ≤ sizeLine →
    (∀ w ∈ ws, ∀ (l : List D) (k : AQ), k (h w) (sput L0 p (.lst l)) → g (f w) env (sput L0 p (.lst l)) fun env1 L1 => L1 = sput L0 p (.lst l) ∧ a env1 L1 k) →
    Q (.ref p) (sput L0 p (.lst (acc ++ ws.map h))) → compA g aYes a G p env Q (ws.map f) acc (sput L0 p (.lst acc))
  | [], acc, hz, hs, q => ⟨hG acc, sput_same, by rw [List.map_nil, List.append_nil] at q; exact q⟩
  | w :: ws, acc, hz, hs, q => by
    rw [List.length_cons] at hz
    refine ⟨hG acc, sput_same, hs w List.mem_cons_self acc _ ?_⟩
    refine ⟨by omega, sput_same, ?_⟩
    rw [sput_sput]
    refine comp_mapA f h hG ws (acc ++ [h w]) (by rw [List.length_append, List.length_singleton]; omega) (fun d' h' => hs d' (List.mem_cons_of_mem _ h')) ?_
    rw [List.append_assoc]
    exact q
theorem perm_mapD {α β : Type} {f : α → β} : ∀ {ys zs : List β}, ys.Perm zs → ∀ {l : List α}, zs = l.map f → ∃ us : List α, us.Perm l ∧ ys = us.map f := by
  intro ys zs p
  induction p with
  | nil => exact fun {l} e => ⟨l, .refl _, e⟩
  | cons x p ih =>
    intro l e
    match l, e with
    | a :: l, e =>
      obtain ⟨e1, e2⟩ := List.cons.inj e
      obtain ⟨us, pu, e3⟩ := ih e2
      exact ⟨a :: us, pu.cons a, by rw [e1, e3]; rfl⟩
  | swap x y p =>
    intro l e
    match l, e with
    | a :: b :: l, e =>
      obtain ⟨e1, e2⟩ := List.cons.inj e
      obtain ⟨e3, e4⟩ := List.cons.inj e2
      exact ⟨b :: a :: l, .swap a b l, by rw [e1, e3, e4]; rfl⟩
  | trans p q ih1 ih2 =>
    intro l e
    obtain ⟨us, pu, e1⟩ := ih2 e
    obtain ⟨vs, pv, e2⟩ := ih1 e1
    exact ⟨vs, pv.trans pu, e2⟩
end AL
namespace AL
open PySem PySem.Spec PyProof.Rows L2 LamX JW
section
open PySem.SeqAt AutoSeq1 MeetsSeq MeetsSeq2 MeetsSeq3
variable {prog : Program} {w : World} {A : Around} {R : Result → Shared → Prop}
def OneL (prog : Program) (w : World) (A : Around) (E : Value → Shared → Prop) (p : Addr) (x : Value) (m : Nat) (f : Nat → Bool) (J : Shared → Prop) : Prop :=
  ∀ s0, J s0 → ∃ (xs : Array Value) (c1 : Nat), s0.heap.get? p = some { cls := .type "list", data := .seq xs c1 } ∧ xs.size = m ∧
    ∀ (i : Nat) (h1 : i < xs.size), wpAny (model prog w) A.in1 (eqBool xs[i] x) (fun r s' => r = f i ∧ J s') E s0
theorem cont_any (p : Addr) (x : Value) (m : Nat) (f : Nat → Bool) (J : Shared → Prop) (tw : OneL prog w A (fun e s' => R (.error e) s') p x m f J)
    (fin : ∀ s0 b, J s0 → b = (List.range m).any f → R (.ok (.ret (.bool b))) s0) (j : Nat) :
    ∀ i : Nat, m - i = j → i ≤ m → ((List.range m).any f = ((List.range m).drop i).any f) → ∀ s0, J s0 →
      wpAny (model prog w) A.in1 (Builtin.«list.__contains__.loop» ⟨[.ref p, x, rawInt i], []⟩) (GQ.FinOf prog w A R) (fun e s' => R (.error e) s') s0 := by
  induction j with
  | zero =>
    intro i hj hi ha s0 hJ
    obtain ⟨xs, c1, k1, z1, _⟩ := tw _ hJ
    have im : i = m := by omega
    subst im
    have hR := fin s0 false hJ (by rw [ha, List.drop_of_length_le (by simp)]; rfl)
    obtain ⟨hp, g, d, tk, os⟩ := s0
    wp_walk using wpAny_loadPart' k1
    have e1 : xs[((i : Nat) : Int).toNat]? = none := by simp [z1]
    rw [e1]
    wp_walk
    exact hR
  | succ j ih =>
    intro i hj hi ha s0 hJ
    obtain ⟨xs, c1, k1, z1, turn⟩ := tw _ hJ
    have l1 : i < xs.size := by omega
    have ht := turn i l1
    have e1 : xs[((i : Nat) : Int).toNat]? = some xs[i] := by simp [l1]
    have ec : ((i : Int) + 1) = ((i + 1 : Nat) : Int) := by omega
    have ed : (List.range m).drop i = i :: (List.range m).drop (i + 1) := by
      have l3 : i < (List.range m).length := by simp; omega
      have := List.drop_eq_getElem_cons l3
      simpa using this
    obtain ⟨hp, g, d, tk, os⟩ := s0
    wp_walk using wpAny_loadPart' k1
    rw [e1]
    refine wpAny_bind (wpAny_mono ht (fun r s1 h1 => ?_) fun _ _ z => z)
    obtain ⟨hr, h1⟩ := h1
    subst hr
    cases hf : f i with
    | false =>
      have hrec := ih (i + 1) (by omega) (by omega) (by rw [ha, ed, List.any_cons, hf, Bool.false_or]) s1 h1
      obtain ⟨hp2, g2, d2, tk2, os2⟩ := s1
      wp_walk
      rw [ec]
      exact ⟨plainId_quiet plain_contains_loop _, codeAny_builtin entry_contains_loop (by
        rw [Around.under_plainId plain_contains_loop _]
        exact hrec)⟩
    | true =>
      have hR := fin s1 _ h1 rfl
      rw [ha, ed, List.any_cons, hf, Bool.true_or] at hR
      obtain ⟨hp2, g2, d2, tk2, os2⟩ := s1
      wp_walk
      exact hR
theorem contains_any (p : Addr) (x : Value) (m : Nat) (f : Nat → Bool) (J : Shared → Prop) (tw : OneL prog w A (fun e s' => R (.error e) s') p x m f J)
    (fin : ∀ s0 b, J s0 → b = (List.range m).any f → R (.ok (.ret (.bool b))) s0) {s0 : Shared} (hJ : J s0) :
    wpAny (model prog w) A.in1 (Builtin.«list.__contains__» ⟨[.ref p, x], []⟩) (GQ.FinOf prog w A R) (fun e s' => R (.error e) s') s0 := by
  obtain ⟨xs, c1, k1, z1, _⟩ := tw _ hJ
  have hrec := cont_any (A := A) (R := R) p x m f J tw fin _ 0 rfl (Nat.zero_le _) (by rw [List.drop_zero]) s0 hJ
  obtain ⟨hp, g, d, tk, os⟩ := s0
  wp_walk using wpAny_loadPart' k1
  exact ⟨plainId_quiet plain_contains_loop _, codeAny_builtin entry_contains_loop (by
    rw [Around.under_plainId plain_contains_loop _]
    exact hrec)⟩
theorem rem_any (p : Addr) (x : Value) (m : Nat) (f : Nat → Bool) (J : Shared → Prop) (tw : OneL prog w A (fun e s' => R (.error e) s') p x m f J) (hm : m ≤ sizeLine) (k : Nat) (hk : k < m) (hit : f k = true) (hno : ∀ i, i < k → f i = false)
    (fin : ∀ s0, J s0 → R (.ok (.ret .none)) { s0 with heap := s0.heap.update p (Obj.mapSeq fun xs => xs.eraseIdxIfInBounds k) }) (j : Nat) :
    ∀ i : Nat, k - i = j → i ≤ k → ∀ s0, J s0 →
      wpAny (model prog w) A.in1 (Builtin.«list.remove.loop» ⟨[.ref p, x, rawInt i], []⟩) (GQ.FinOf prog w A R) (fun e s' => R (.error e) s') s0 := by
  induction j with
  | zero =>
    intro i hj hi s0 hJ
    obtain ⟨xs, c1, k1, z1, turn⟩ := tw _ hJ
    have im : i = k := by omega
    subst im
    have l1 : i < xs.size := by omega
    have ht := turn i l1
    have e1 : xs[((i : Nat) : Int).toNat]? = some xs[i] := by simp [l1]
    obtain ⟨hp, g, d, tk, os⟩ := s0
    wp_walk using wpAny_loadPart' k1
    rw [e1]
    refine wpAny_bind (wpAny_mono ht (fun r s1 h1 => ?_) fun _ _ z => z)
    obtain ⟨hr, h1⟩ := h1
    subst hr
    rw [hit]
    obtain ⟨ys, c2, k2, z2, _⟩ := tw _ h1
    have hR := fin s1 h1
    have hz' : (ys.eraseIdxIfInBounds i).size ≤ sizeLine + 1 := Nat.le_trans (size_erased ys _) (Nat.le_succ_of_le (by rw [z2]; exact hm))
    have hs1 : ys.size ≤ sizeLine := by rw [z2]; exact hm
    obtain ⟨hp2, g2, d2, tk2, os2⟩ := s1
    wp_walk using (wpAny_updateSeq k2 rfl (hz := hs1) (_hz' := hz')), wpAny_loadPart' k2
    simpa using hR
  | succ j ih =>
    intro i hj hi s0 hJ
    obtain ⟨xs, c1, k1, z1, turn⟩ := tw _ hJ
    have l1 : i < xs.size := by omega
    have ht := turn i l1
    have e1 : xs[((i : Nat) : Int).toNat]? = some xs[i] := by simp [l1]
    have ec : ((i : Int) + 1) = ((i + 1 : Nat) : Int) := by omega
    obtain ⟨hp, g, d, tk, os⟩ := s0
    wp_walk using wpAny_loadPart' k1
    rw [e1]
    refine wpAny_bind (wpAny_mono ht (fun r s1 h1 => ?_) fun _ _ z => z)
    obtain ⟨hr, h1⟩ := h1
    subst hr
    rw [hno i (by omega)]
    have hrec := ih (i + 1) (by omega) (by omega) s1 h1
    obtain ⟨hp2, g2, d2, tk2, os2⟩ := s1
    wp_walk
    rw [ec]
    exact ⟨plainId_quiet plain_remove_loop _, codeAny_builtin entry_remove_loop (by
      rw [Around.under_plainId plain_remove_loop _]
      exact hrec)⟩
theorem remove_any (p : Addr) (x : Value) (m : Nat) (f : Nat → Bool) (J : Shared → Prop) (tw : OneL prog w A (fun e s' => R (.error e) s') p x m f J) (hm : m ≤ sizeLine) (k : Nat) (hk : k < m) (hit : f k = true) (hno : ∀ i, i < k → f i = false)
    (fin : ∀ s0, J s0 → R (.ok (.ret .none)) { s0 with heap := s0.heap.update p (Obj.mapSeq fun xs => xs.eraseIdxIfInBounds k) }) {s0 : Shared} (hJ : J s0) :
    wpAny (model prog w) A.in1 (Builtin.«list.remove» ⟨[.ref p, x], []⟩) (GQ.FinOf prog w A R) (fun e s' => R (.error e) s') s0 := by
  obtain ⟨xs, c1, k1, z1, _⟩ := tw _ hJ
  have hrec := rem_any (A := A) (R := R) p x m f J tw hm k hk hit hno fin _ 0 rfl (Nat.zero_le _) s0 hJ
  obtain ⟨hp, g, d, tk, os⟩ := s0
  wp_walk using wpAny_loadPart' k1
  exact ⟨plainId_quiet plain_remove_loop _, codeAny_builtin entry_remove_loop (by
    rw [Around.under_plainId plain_remove_loop _]
    exact hrec)⟩
end
section
variable {X : Cx} {c : AC X.K} {k : Nat} {ps : List Str} {H : Hp} {σ : L2.St} {pins : List (Addr × Obj)}
def fAt (ts : List T) (t : T) (i : Nat) : Bool := match ts[i]? with
  | some u => decide (u = t)
  | none => false
theorem any_fAt (ts : List T) (t : T) : (List.range ts.length).any (fAt ts t) = decide (t ∈ ts) := by
  rw [Bool.eq_iff_iff, List.any_eq_true, decide_eq_true_iff]
  constructor
  · rintro ⟨i, hi, h⟩
    have hl := List.mem_range.mp hi
    unfold fAt at h
    rw [List.getElem?_eq_getElem hl] at h
    rw [← of_decide_eq_true h]
    exact List.getElem_mem hl
  · intro h
    obtain ⟨i, hl, e⟩ := List.getElem_of_mem h
    refine ⟨i, List.mem_range.mpr hl, ?_⟩
    unfold fAt
    rw [List.getElem?_eq_getElem hl]
    exact decide_eq_true e
theorem one_trees (M : MEq X k ps) {ts : List T} {t : T} {p : Addr} {vs : List V} {x : V} {u : Value} (sb : Sub X (k + 2 + 1) X.A) (e1 : H p = some (.lst vs)) (rs : RepL c H (ts.map D.tree) vs) (rx : RelV x u) (rt : Rep c H (.tree t) x) :
    OneL X.prog X.w X.A X.xe p u ts.length (fAt ts t) (fun s' => Inv X pins σ H s') := fun s0 I0 => by
  obtain ⟨z, us, n1, r1, k1⟩ := I0.hok p _ e1
  have hl : us.toArray.size = ts.length := by rw [List.size_toArray, ← r1.length, rs.len, List.length_map]
  refine ⟨us.toArray, n1, k1, hl, fun i h1 => ?_⟩
  have hi : i < ts.length := by omega
  have g1 : (ts.map D.tree)[i]? = some (.tree ts[i]) := by simp [hi]
  obtain ⟨x1, x2, x3⟩ := rs.get g1
  obtain ⟨u1, u2, u3⟩ := r1.get x2
  have q1 : us.toArray[i] = u1 := by
    have j3 : i < us.length := by simpa using h1
    rw [List.getElem?_eq_getElem j3] at u2
    simpa using u2
  rw [q1]
  have hf : fAt ts t i = decide (ts[i] = t) := by
    unfold fAt
    rw [List.getElem?_eq_getElem hi]
  rw [hf]
  exact eq_run M 0 _ _ _ (Nat.zero_le _) rfl (sub_in1 sb) I0 u3 rx x3 rt
def rInF (c : AC X.K) (neg : Bool) : R2 := fun x y H Q => ∃ (p : Addr) (vs : List V) (ts : List T) (t : T), y = .ref p ∧ H p = some (.lst vs) ∧ RepL c H (ts.map D.tree) vs ∧ Rep c H (.tree t) x ∧ Q (.bl (neg ^^ decide (t ∈ ts))) H
theorem op_inF (M : MEq X k ps) (neg : Bool) (hr : Room (k + 3) X.A) : OpR X (compareOp (if neg then .NotIn else .In)) (rInF c neg) := by
  intro pins s σ H x y v u Q I rx ry h
  obtain ⟨p, vs, ts, t, rfl, e1, rs, rt, q⟩ := h
  cases ry
  obtain ⟨z, us0, n1, r1, k1⟩ := I.hok p _ e1
  have sb : Sub X (k + 2 + 1) X.A := ⟨hr, rfl⟩
  have tw := one_trees (pins := pins) (σ := σ) M sb e1 rs rx rt
  have fin : ∀ {s1 : Shared} {b : Bool}, Inv X pins σ H s1 → b = (List.range ts.length).any (fAt ts t) → EP X pins σ Q (.bool (neg ^^ b)) s1 := fun I1 e => by
    rw [any_fAt] at e
    subst e
    exact ⟨.bl _, H, I1, rfl, q⟩
  cases neg with
  | false =>
    show wpAny (model X.prog X.w) X.A (do return Value.bool (← contains (.ref p) v)) (EP X pins σ Q) X.xe s
    refine wpAny_bind (wpAny_contains_slot ⟨_, k1, rfl⟩ PySem.F.slot_list_contains (wpAny_mono (GQ.call_here (Q := fun r s' => ∃ b, r = .bool b ∧ EP X pins σ Q (.bool b) s') PySem.F.slot_list_contains ⟨_, k1, rfl⟩ PySem.F.entry_list_contains (PySem.F.args_list_contains_2 _ _)
      (contains_any p v ts.length (fAt ts t) _ tw (fun s1 b I1 e => ⟨b, rfl, by simpa using fin I1 e⟩) I)) (fun r s' hv => ?_) fun _ _ e => e))
    obtain ⟨b, rfl, hq⟩ := hv
    exact wpAny_truthy_bool (wpAny_pure hq)
  | true =>
    show wpAny (model X.prog X.w) X.A (do return Value.bool (!(← contains (.ref p) v))) (EP X pins σ Q) X.xe s
    refine wpAny_bind (wpAny_contains_slot ⟨_, k1, rfl⟩ PySem.F.slot_list_contains (wpAny_mono (GQ.call_here (Q := fun r s' => ∃ b, r = .bool b ∧ EP X pins σ Q (.bool (!b)) s') PySem.F.slot_list_contains ⟨_, k1, rfl⟩ PySem.F.entry_list_contains (PySem.F.args_list_contains_2 _ _)
      (contains_any p v ts.length (fAt ts t) _ tw (fun s1 b I1 e => ⟨b, rfl, by simpa using fin I1 e⟩) I)) (fun r s' hv => ?_) fun _ _ e => e))
    obtain ⟨b, rfl, hq⟩ := hv
    exact wpAny_truthy_bool (wpAny_pure hq)
theorem erase_mapD {α β : Type} (f : α → β) : ∀ (l : List α) (j : Nat), (l.map f).eraseIdx j = (l.eraseIdx j).map f
  | [], j => by simp
  | a :: r, 0 => by simp
  | a :: r, j + 1 => by
    have ih := erase_mapD f r j
    simp [ih]
def rRemF {K : PySem.W.Frag} (c : AC K) : V → List V → Hp → VK → Prop := fun x xs H Q => ∃ (p : Addr) (vs : List V) (ts : List T) (t : T) (y : V) (j : Nat), x = .ref p ∧ xs = [y] ∧ H p = some (.lst vs) ∧ RepL c H (ts.map D.tree) vs ∧ Rep c H (.tree t) y ∧ ts[j]? = some t ∧ (∀ i, i < j → ts[i]? ≠ some t) ∧ Q .non (upd H p (.lst (vs.eraseIdx j)))
theorem mt_removeF (M : MEq X k ps) (hr : Room (k + 3) X.A) : MtR X "list.remove" (rRemF c) := by
  intro pins s σ H x xs v us Q I rx rxs h
  obtain ⟨p, vs, ts, t, y, j, rfl, rfl, e1, rs, rt, hj, hno, q⟩ := h
  cases rx
  obtain ⟨u, rfl, ru⟩ := rxs.one
  obtain ⟨z, us0, n1, r1, k1⟩ := I.hok p _ e1
  have sb : Sub X (k + 2 + 1) X.A := ⟨hr, rfl⟩
  have tw := one_trees (pins := pins) (σ := σ) M sb e1 rs ru rt
  have hlv : vs.length = ts.length := by rw [rs.len, List.length_map]
  have hjl : j < ts.length := (List.getElem?_eq_some_iff.mp hj).1
  refine GQ.call_here PySem.F.slot_list_remove ⟨_, k1, rfl⟩ PySem.F.entry_list_remove (PySem.F.args_list_remove_2 _ _)
    (remove_any p u ts.length (fAt ts t) _ tw (by rw [← hlv]; exact z) j hjl ?_ ?_ (fun s1 I1 => ?_) I)
  · unfold fAt
    rw [hj]
    exact decide_eq_true rfl
  · intro i hi
    have hil : i < ts.length := by omega
    unfold fAt
    rw [List.getElem?_eq_getElem hil]
    refine decide_eq_false fun e => hno i hi ?_
    rw [List.getElem?_eq_getElem hil, e]
  · obtain ⟨z1, its, n, r, e⟩ := I1.hok p _ e1
    refine ⟨.non, _, I1.lset (its' := its.eraseIdx j) (t' := s1.toks) e1 e ?_ (r.eraseIdx j) ?_, rfl, q⟩
    · show its.toArray.eraseIdxIfInBounds j = (its.eraseIdx j).toArray
      rw [List.eraseIdxIfInBounds_toArray]
    · rw [List.length_eraseIdx]
      split <;> omega
def inFD (neg : Bool) : D → D → Store → AQ → Prop
  | .tree t, .ref p, L, Q => ∃ ts : List T, L p = some (.lst (ts.map D.tree)) ∧ Q (.bl (neg ^^ decide (t ∈ ts))) L
  | _, _, _, _ => False
def rmFD : D → List D → Store → AQ → Prop
  | .ref p, [.tree t], L, Q => ∃ (ts : List T) (j : Nat), L p = some (.lst (ts.map D.tree)) ∧ ts[j]? = some t ∧ (∀ i, i < j → ts[i]? ≠ some t) ∧ Q .non (sput L p (.lst ((ts.eraseIdx j).map D.tree)))
  | _, _, _, _ => False
theorem aop_notInF (M : MEq X k ps) (hr : Room (k + 3) X.A) : AOp X c (compareOp .NotIn) (inFD true) := by
  refine .mk' (op_inF (c := c) M true hr) fun x y H Q d e L R rx ry g h pq => ?_
  unfold inFD at h
  split at h
  · rename_i t p
    obtain ⟨ts, e0, h⟩ := h
    obtain ⟨vs, e1, rs⟩ := good_lst g e0
    exact ⟨p, vs, ts, t, rep_ref.mp ry, e1, rs, rx, pq.here h g (rep_bl.mpr rfl)⟩
  · exact h.elim
theorem low_removeF {K : PySem.W.Frag} {c : AC K} : LowM c (rRemF c) rmFD := fun x vs H Q d ds L R rx rv g h pq => by
  unfold rmFD at h
  split at h
  · rename_i p t
    obtain ⟨ts, j, e0, hj, hno, h⟩ := h
    cases rep_ref.mp rx
    obtain ⟨v, rfl, r1⟩ := repL_one rv
    obtain ⟨ws, e1, rs⟩ := good_lst g e0
    have er := erase_mapD D.tree ts j
    refine ⟨p, ws, ts, t, v, j, rfl, rfl, e1, rs, r1, hj, hno, lst_put g pq e0 (rs.eraseIdx j) (rep_non.mpr rfl) ?_⟩
    rw [er]
    exact h
  · exact h.elim
end
end AL
namespace AL
open PySem PySem.Spec PyProof.Rows L2 LamX JW
section
variable {X : Cx} {c : AC X.K} {H : Hp} {σ : L2.St} {pins : List (Addr × Obj)}
end
end AL
namespace AL
open PySem PySem.Spec PyProof.Rows L2 LamX JW
def aRaise1 (x f : Str) (RX : AX) (a : ATE) : ATS := fun _ env L => a env L fun d L1 => ∃ L0, SubS L0 L1 ∧ RX x [(f, d)] L0
def aRaise0 (x : Str) (RX : AX) : ATS := fun _ _ L => ∃ L0, SubS L0 L ∧ RX x [] L0
section
variable {X : Cx} {c : AC X.K} {H0 : Hp} {e : Expr} {a : ATE} {pos p p2 pos2 : Pos} {k : Nat} {ps : List Str} {x f : Str} {RX : AX} {E : XK}
theorem ae_fldB (cl : ClsF X.K X.mg) (he : AE X c H0 e a) (hb : attributeBase e "branches" X.env (eval e X.env) = eval e X.env) : AE X c H0 (.Attribute e "branches" pos) (aProp (fun t => .tup (t.kids.map .tree)) a) := by
  refine (pe_fld he hb).imp fun σ H Q ⟨env, L, R, rl, h, pq⟩ => ?_
  refine ⟨env, L, _, rl, h, fun d L1 x H1 q s1 g1 r1 => ?_⟩
  obtain ⟨t, hf, q⟩ := tree_low (R := fun t => R (.tup (t.kids.map .tree)) L1) r1 q
  obtain ⟨p, dx, b, n, vs, rfl, h1, hb1, hn, hk⟩ := ftn_iff.mp hf
  exact ⟨p, _, dx, _, _, rfl, h1, cl.c, cl.nb, fl_b, (pq.fr s1).here q g1 (rep_tup.mpr ⟨b, vs, rfl, SqT.of hb1, RepL.trees.mpr hk⟩)⟩
theorem as_raise1 (hc : X.calm = true) (tk : Takes X (fun cls d _ H => E cls d H)) (hE : Px c H0 RX E) (D : ErrD X.prog X.w X.K X.mg X.base k x (He.ga X.K x) ps (spErr X.K (He.ga X.K x) f)) (hr : Room (k + 1) X.A) (hg : Gl X x) (he : AE X c H0 e a)
    (hdb : (x == ("__debug__" : Str)) = false := by decide) (hst : starEach [e] X.env = (false, eval e X.env) :: starEach [] X.env := by rfl) (hpl : (backTo pos (starEach [] X.env)).any (·.1) = false := by rfl) :
    AS X c H0 (.Raise (some (.Call (.Name x p) [e] [] pos)) none pos2) (aRaise1 x f RX a) := by
  refine (ps_raise hc tk (pmk_err D hr hg he hdb hst hpl)).imp fun D σ H ⟨env, L, R, rl, h, er⟩ => ?_
  refine ⟨env, L, _, rl, h, fun d L1 v H1 ⟨L0, sb, q⟩ s1 g1 r1 => fun dd H' s' nd hd => ?_⟩
  have e' : LamX.ExtN H1 H' := .of s'
  exact hE x [(f, d)] L0 H' (some dd) q ((rl.fr.trans s1).trans (.extN e')) ((g1.extN (Tabs.same g1.tabs s') e').sub sb) (.inr ⟨f, d, dd, v, rfl, rfl, hd, r1.fr (.extN e')⟩)
theorem as_raise0 (hc : X.calm = true) (tk : Takes X (fun cls d _ H => E cls d H)) (hE : Px c H0 RX E) (D : ErrD X.prog X.w X.K X.mg X.base k x (He.ga X.K x) ps (spErr0 X.K (He.ga X.K x))) (hr : Room (k + 1) X.A) (hg : Gl X x) (hdb : (x == ("__debug__" : Str)) = false := by decide) :
    AS X c H0 (.Raise (some (.Call (.Name x p) [] [] pos)) none pos2) (aRaise0 x RX) := by
  refine (ps_raise hc tk (pmk_err0 D hr hg hdb)).imp fun D σ H ⟨env, L, R, rl, h, er⟩ => ?_
  obtain ⟨L0, sb, h⟩ := h
  exact hE x [] L0 H none h rl.fr (rl.good.sub sb) (.inl ⟨rfl, rfl⟩)
end
section
variable {P : Program} {w : World} {K : PySem.W.Frag} {mg : Str → Option Value} {base : Heap} {c : AC K} {m qual : Str} {st : Stmt} {N ps : List Str} {k : Nat} {asp : ASp} {C : Addr}
theorem _root_.JW.MethAt.okAX {a : AX → ATS} (D : MethAt K C m qual st ps) (S : FnScope N ps (defScope st)) (hl : ∀ ds L R RX, asp ds L R RX → ds.length = ps.length)
    (body : ∀ (f : Addr) (cdv : Value) (A : Around) (outer : List Env) (s : Shared) (H : Hp) (E : XK) (RX : AX), Px c H RX E → Room k (A.deeper (envOfC qual (defScope st) s.heap.objs.size f cdv)) → ASs (cxOf (L2.CX P w) P w K mg base N qual (defScope st) f cdv A outer s H E) c H (defBody st) (a RX))
    (vc : ∀ ds L R RX, asp ds L R RX → a RX (fnEnds R) (startA N ds) L) : MethD P w K mg base (L2.CX P w) (k + 1) C m ps [] (spA c asp) :=
  D.okX S (spA_len hl) fun f cdv A outer s H vs Q E hr ⟨ds, L, R, RX, r, g, h, pq, px⟩ => ⟨_, body f cdv A outer s H E RX px hr, body_low r g pq (vc ds L R RX h)⟩
end
end AL
namespace AL
open PySem PySem.Spec PyProof.Rows L2 LamX JW
structure PassA (X : Cx) (c : AC X.K) (H0 : Hp) (RXe : En → AX) : Prop where
  ex : ∃ E : L2.St → XK, (∀ σ, PassesAt (L2.CX X.prog X.w) X σ (E σ)) ∧ ∀ σ H env L, Rl c H0 σ H env L → Px c H (RXe env) (E σ)
section
variable {X : Cx} {c : AC X.K} {H0 : Hp}
theorem passA_of {RX : AX} {E : XK} (h : Passes (L2.CX X.prog X.w) X E) (k : Px c H0 RX E) : PassA X c H0 fun _ => RX :=
  ⟨fun _ => E, fun σ => passN h σ, fun _ _ _ _ rl => k.fr rl.fr⟩
theorem passA_no : PassA X c H0 fun _ => noX := passA_of (passL (X := X)) px_no
end
def aBinP (asp : ASp) (RXe : En → AX) (a b : ATE) : ATE := fun env L Q => a env L fun d L1 => b env L1 fun e L2 => match d, e with
  | .tree t, .tree u => asp [.tree t, .tree u] L2 (fun z L' => isNonD z = false ∧ Q z L') (RXe env)
  | _, _ => False
section
variable {X : Cx} {CX : CXT} {k : Nat} {f C : Addr} {fd : FuncData} {ps : List Str} {sp : Sp} {dvs : List V} {ds : List Value} {E : L2.St → XK} {x m : Str} {p pos apos : Pos} {e o a b : Expr} {es : List Expr} {ta tb : TE} {t : TA}
end
section
variable {X : Cx} {c : AC X.K} {H0 : Hp} {e o f : Expr} {es : List Expr} {a b : ATE} {as : ATA} {x m : Str} {p p1 p2 pos apos : Pos} {k : Nat} {ps : List Str} {asp : ASp} {RXe : En → AX} {dvs : List V} {dd : List D} {C : Addr}
theorem ae_binP {op : Operator} (cl : ClsF X.K X.mg) (M : MethD X.prog X.w X.K X.mg X.base (L2.CX X.prog X.w) k (cF X.K) (PySem.dunder op.info.2) ps [] (spA c asp)) (hr : Room k X.A) (hp : PassA X c H0 RXe) (ha : AE X c H0 e a) (hb : AE X c H0 f b) : AE X c H0 (.BinOp e op f pos) (aBinP asp RXe a b) := by
  obtain ⟨E, h1, h2⟩ := hp.ex
  refine (pe_binS cl.sf M hr h1 ha hb).imp fun σ H Q ⟨env, L, R, rl, h, pq⟩ => ?_
  refine ⟨env, L, _, rl, h, fun d L1 x H1 q1 s1 g1 rx => ⟨env, L1, _, rl.step s1 g1, q1, fun e L2 y H2 q2 s2 g2 ry => ?_⟩⟩
  cases d with
  | tree t =>
    cases e with
    | tree u =>
      have rx := rx.fr s2
      obtain ⟨p, dx, fs, rfl, e1⟩ := ftn_ins (rep_tree.mp rx)
      obtain ⟨q, dy, gs, rfl, e2⟩ := ftn_ins (rep_tree.mp ry)
      have f12 := s1.trans s2
      exact ⟨p, dx, fs, q, dy, gs, rfl, rfl, e1, e2, _, L2, _, RXe env, .cons rx (.one ry), g2, q2, fun z L' v H' ⟨n, r⟩ s g' rz => ⟨non_low rz n, (pq.fr f12) z L' v H' r s g' rz⟩, (h2 σ H env L rl).fr f12⟩
    | _ => exact q2.elim
  | _ => exact q2.elim
def aCmP (C : Addr) (asp : ASp) (RXe : En → AX) (as : ATA) : ATE := fun env L Q => as env L fun ds L1 => asp (.ref C :: ds) L1 Q (RXe env)
theorem ae_cmP {pl : Sem Bool} (hg : Gl X x) (hm : X.mg x = some (.ref C)) (M : CmD X.prog X.w X.K X.mg X.base (L2.CX X.prog X.w) k C m ps (spA c asp)) (hr : Room k X.A) (hp : PassA X c H0 RXe) (ha : AA X c H0 (e :: es) as) (hdb : (x == ("__debug__" : Str)) = false := by decide)
    (hst : starEach (e :: es) X.env = (false, eval e X.env) :: starEach es X.env := by rfl) (hpl : (backTo pos (starEach es X.env)).any (·.1) = false := by rfl)
    (ht : eval (.Call (.Attribute (.Name x p1) m apos) (e :: es) [] pos) X.env = (do
      let ov ← eval (.Name x p1) X.env
      standAt apos.atName
      let (f, first) ← holding [ov] (getMethod ov m pl)
      callWith pos f first (backTo pos (starEach (e :: es) X.env)) (backToKw pos (keywordEach [] X.env))) := by rfl) : AE X c H0 (.Call (.Attribute (.Name x p1) m apos) (e :: es) [] pos) (aCmP C asp RXe as) := by
  obtain ⟨E, h1, h2⟩ := hp.ex
  refine (pe_cmethS hg hm M hr h1 ha hdb hst hpl ht).imp fun σ H Q ⟨env, L, R, rl, h, pq⟩ => ?_
  exact ⟨env, L, _, rl, h, fun ds L1 vs H1 q s1 g1 r1 => ⟨_, L1, R, RXe env, .cons (rep_ref.mpr rfl) r1, g1, q, pq.fr s1, (h2 σ H env L rl).fr s1⟩⟩
end
section
variable {X : Cx} {CX : CXT} {k : Nat} {f C : Addr} {fd : FuncData} {ps : List Str} {ds : List Value} {dvs : List V} {sp : Sp} {E : L2.St → XK}
end
section
variable {X : Cx} {c : AC X.K} {H0 : Hp} {e f : Expr} {a b : ATE} {pos : Pos} {k : Nat} {ps : List Str} {asp : ASp} {qual : Str} {st : Stmt} {RXe : En → AX}
end
theorem ErrR.fr {K : PySem.W.Frag} {c : AC K} {H H' : Hp} {fs : List (Str × D)} {dd : Option Addr} (h : ErrR c H fs dd) (s : Fr c H H') : ErrR c H' fs dd := by
  rcases h with h | ⟨f, d, a, v, e1, e2, e3, r⟩
  · exact .inl h
  · exact .inr ⟨f, d, a, v, e1, e2, s _ _ e3 trivial, r.fr s⟩
section
variable {X : Cx} {c : AC X.K} {H0 : Hp} {x n : Str} {C : Value} {i : Nat} {body suite : List Stmt} {b₀ : Stmt} {np pos pos' : Pos} {tb : (En → AX) → ATS} {ts : Addr → Str → List (Str × D) → ATS}
theorem EndR.here {H : Hp} {R : AEnds} {D : Ends} {σ : L2.St} {env : En} {L : Store} (er : EndR c H0 H R D) (rl : Rl c H0 σ H env L) : EndR c H H R D :=
  ⟨fun e l s h q f r => er.nx e l s h q f ⟨r.env, r.good, rl.fr.trans r.fr⟩, er.rt, fun e l s h q f r => er.bk e l s h q f ⟨r.env, r.good, rl.fr.trans r.fr⟩, fun e l s h q f r => er.ct e l s h q f ⟨r.env, r.good, rl.fr.trans r.fr⟩⟩
theorem Rl.here {σ : L2.St} {H : Hp} {env : En} {L : Store} (rl : Rl c H0 σ H env L) : Rl c H σ H env L := ⟨rl.env, rl.good, .refl c H⟩
end
section
variable {X : Cx} {c : AC X.K} {H1 : Hp} {a : Addr} {oe : Obj} {cls : Value} {d : Option Addr} {pn : List (Addr × Obj)} {y : Str} {fs : List (Str × D)} {i : Nat} {n z f : Str} {p p1 p2 pos : Pos} {C : Addr}
theorem ErrR.xd {K : PySem.W.Frag} {c : AC K} {H : Hp} {fs : List (Str × D)} {d : Option Addr} (h : ErrR c H fs d) : ∀ dd, d = some dd → ∃ fs, H dd = some (.xd fs) := fun dd e => by
  rcases h with ⟨_, e2⟩ | ⟨f, d, a, v, e1, e2, e3, r⟩
  · rw [e2] at e
    cases e
  · rw [e2] at e
    cases e
    exact ⟨_, e3⟩
end
end AL
namespace JW
open PySem PySem.Spec PyProof.Rows L2
def Calm (A : Around) : Prop := A.guards = some []
theorem Calm.deeper {A : Around} {env : Env} (h : Calm A) : Calm (A.deeper env) := by
  obtain ⟨hd, d, fr, gs, u⟩ := A
  have h : gs = some [] := h
  subst h
  simp [Calm, Around.deeper, Around.over, guardsOf, pushGuards, Code.guards, Code.isGuard]
structure FnOkG (P : Program) (w : World) (K : PySem.W.Frag) (mg : Str → Option Value) (base : Heap) (cx : CXT) (k : Nat) (f : Addr) (fd : FuncData) (ps : List Str) (sp : Sp) : Prop where
  len : ∀ vs H Q E, sp vs H Q E → vs.length = ps.length
  go : ∀ (A : Around) (outs : List Env) (s : Shared) (H : Hp) (args : Args) (us : List Value) (vs : List V) (Q : VK) (E : XK), Calm A → Room k A → Env0 P w K mg base A outs s H → BindsTo s fd args (ps.zip us) → Vals vs us → sp vs H Q E →
    codeAny (model P w) A (.call (.ref f) args) (CR cx outs P w H s Q E) s
structure CallDG (P : Program) (w : World) (K : PySem.W.Frag) (mg : Str → Option Value) (base : Heap) (cx : CXT) (k : Nat) (x : Str) (ps : List Str) (sp : Sp) : Prop where
  ex : ∃ f fd, mg x = some (.ref f) ∧ PySem.W.keepIn K (.ref f) = true ∧ Binds K fd ps [] ∧ FnOkG P w K mg base cx k f fd ps sp
section
variable {P : Program} {w : World} {K : PySem.W.Frag} {mg : Str → Option Value} {base : Heap} {x qual : Str} {params : Arguments} {body : List Stmt} {scope : Scope} {dvs : List V} {kws : List (Str × V)} {f : Addr} {fd : FuncData}
theorem CallDG.mono {cx : CXT} {j k : Nat} {x : Str} {ps : List Str} {sp : Sp} (c : CallDG P w K mg base cx j x ps sp) (h : j ≤ k) : CallDG P w K mg base cx k x ps sp := by
  obtain ⟨f, fd, h1, h2, h3, F⟩ := c.ex
  exact ⟨f, fd, h1, h2, h3, F.len, fun A outs s H args us vs Q E hA hr => F.go A outs s H args us vs Q E hA (hr.mono h)⟩
end
section
variable {X : Cx} {cx : CXT} {k : Nat} {ps : List Str} {sp : Sp} {E : XK} {x : Str} {p pos : Pos} {e : Expr} {es : List Expr} {t : TA}
end
section
variable {P : Program} {w : World} {K : PySem.W.Frag} {mg mb : Str → Option Value} {cx : CXT} {k : Nat} {fa a : Addr} {ts : List (Addr × Addr)} {fd : FuncData} {x : Str} {sp : Sp} {s1 : Shared} {vs : List Value} {ns : List Int}
end
end JW
namespace AL
open PySem PySem.Spec PyProof.Rows L2 LamX JW
section
variable {P : Program} {w : World} {K : PySem.W.Frag} {mg : Str → Option Value} {base : Heap} {c : AC K} {x qual : Str} {st : Stmt} {N ps : List Str} {k : Nat} {asp : ASp}
end
section
variable {X : Cx} {c : AC X.K} {H0 : Hp} {e : Expr} {es : List Expr} {as : ATA} {x : Str} {p pos : Pos} {k : Nat} {ps : List Str} {asp : ASp}
end
end AL
namespace JW
open PySem PySem.Spec PyProof.Rows L2
section
variable {X : Cx} {CX : CXT} {k : Nat} {ps : List Str} {sp : Sp} {E : XK} {C : Addr}
end
end JW
namespace AL
open PySem PySem.Spec PyProof.Rows L2 LamX JW
def tyM : Option MO → Option String
  | some (.lst _) => some "list"
  | some (.dct _) => some "dict"
  | _ => none
def tyN (L : Store) : D → Option String
  | .non => some "NoneType"
  | .bl _ => some "bool"
  | .int _ => some "int"
  | .str _ => some "str"
  | .tup _ => some "tuple"
  | .ref p => tyM (L p)
  | _ => none
def clsD : D → Option Value
  | .ty n => some (.type n)
  | .ref C => some (.ref C)
  | _ => none
def clsDs : List D → Option (List Value)
  | [] => some []
  | d :: ds => match clsD d, clsDs ds with
    | some u, some us => some (u :: us)
    | _, _ => none
def isiA (K : PySem.W.Frag) : List D → Store → AQ → Prop
  | [d, .tup cs], L, Q => ∃ T us b, tyN L d = some T ∧ clsDs cs = some us ∧ PySem.W.kitAny K (.type T) us = some b ∧ Q (.bl b) L
  | [.tree _, .ref C], L, Q => C = cF K ∧ Q (.bl true) L
  | [d, c], L, Q => ∃ T u b, tyN L d = some T ∧ clsD c = some u ∧ PySem.W.kitOne K (.type T) u = some b ∧ Q (.bl b) L
  | _, _, _ => False
section
variable {X : Cx} {c : AC X.K}
theorem tyN_low {L : Store} {H : Hp} {d : D} {v : V} {T : String} (r : Rep c H d v) (g : Good c L H) (h : tyN L d = some T) : TyX X.K H v (.type T) := by
  cases d with
  | non => cases rep_non.mp r; cases h; exact .base .non
  | bl b => cases rep_bl.mp r; cases h; exact .base (.bl b)
  | int i => cases rep_int.mp r; cases h; exact .base (.int i)
  | str s => cases rep_str.mp r; cases h; exact .base (.str s)
  | tup l =>
    obtain ⟨p, vs, rfl, e, rs⟩ := rep_tup.mp r
    cases h
    rcases e with (e | ⟨o, e⟩) | ⟨o, its, n, e, h1, _⟩
    · exact .base (.tup e)
    · exact .fTuple e
    · exact .kTuple e h1
  | ref p =>
    cases rep_ref.mp r
    have h : tyM (L p) = some T := h
    match e : L p, h with
    | some (.lst l), h =>
      cases h
      obtain ⟨vs, e1, _⟩ := good_lst g e
      exact .base (.lst e1)
    | some (.dct l), h =>
      cases h
      obtain ⟨kvs, e1, _⟩ := g.st _ _ e
      exact .base (.dK e1)
    | none, h => cases h
    | some (.ins _ _ _), h => cases h
    | some (.opq _), h => cases h
  | ty n => cases h
  | scr => cases h
  | tree t => cases h
  | obj C ks ds => cases h
theorem clsD_low {H : Hp} {d : D} {v : V} {u : Value} (r : Rep c H d v) (h : clsD d = some u) : ClsV v u := by
  cases d with
  | ty n => cases rep_ty.mp r; cases h; exact .ty n
  | ref p => cases rep_ref.mp r; cases h; exact .own p
  | _ => cases h
theorem clsDs_low {H : Hp} : ∀ {ds : List D} {vs : List V} {us : List Value}, RepL c H ds vs → clsDs ds = some us → Paired ClsV vs us
  | [], vs, us, r, h => by
    cases repL_nil.mp r
    cases h
    exact .nil
  | d :: ds, vs, us, r, h => by
    obtain ⟨v, vr, rfl, r1, r2⟩ := repL_cons.mp r
    unfold clsDs at h
    split at h
    · rename_i u ur e1 e2
      cases h
      exact .cons (clsD_low r1 e1) (clsDs_low r2 e2)
    · cases h
def rIsiF (K : PySem.W.Frag) (xs : List V) (H : Hp) (Q : VK) : Prop := ∃ (x : V) (tp : Addr) (o : Obj) (cs : List V) (t : Value) (us : List Value) (b : Bool), xs = [x, .ref tp] ∧ H tp = some (.frz o (.tup cs)) ∧ Paired ClsV cs us ∧ TyX K H x t ∧ PySem.W.kitAny K t us = some b ∧ Q (.bl b) H
theorem call_isiF : CallR X (.builtin "isinstance") (rIsiF X.K) := by
  intro pins s σ H xs us Q I r h
  obtain ⟨x, tp, o, cs, t, ws, b, rfl, hT, k, ty, e, q⟩ := h
  obtain ⟨u1, u2, rfl, r1, r2⟩ := vals2 r
  cases (show u2 = Value.ref tp from r2)
  obtain ⟨P, Z, p, hx⟩ := kit_of I r1 ty
  obtain ⟨_, _, its, rv, ob, h1, h2, n, h3⟩ := (show ObjOk X.prog X.w H s.heap tp (.frz o (.tup cs)) from I.hok tp _ hT)
  cases ClsV.all k rv
  obtain ⟨oc, od, dt, sl⟩ := ob
  cases h2
  cases h3
  exact PySem.W.kia_tup Z I.kIn p h1 e hx fun tk => ⟨.bl b, H, I.tok tk, rfl, q⟩
theorem acb_isiA {K : PySem.W.Frag} (eK : X.K = K) (cl : ClsF X.K X.mg) : ACB X c (.builtin "isinstance") (isiA K) := by
  subst eK
  refine ACB.mk' (r := fun vs H Q => rIsi X.K vs H Q ∨ (rIsiT X.K vs H Q ∨ (rIsiF X.K vs H Q ∨ rIsiK X.K vs H Q))) (fun pins s σ H xs us Q I rv h => h.elim (call_isi pins s σ H xs us Q I rv) fun h => h.elim (call_isiT pins s σ H xs us Q I rv) fun h => h.elim (call_isiF pins s σ H xs us Q I rv) (call_isiK pins s σ H xs us Q I rv)) fun vs H Q ds L R r g h pq => ?_
  unfold isiA at h
  split at h
  · obtain ⟨T, us, b, e1, e2, e3, h⟩ := h
    obtain ⟨v, w, rfl, r1, r2⟩ := repL_two r
    obtain ⟨p, ws, rfl, e, rs⟩ := rep_tup.mp r2
    rcases e with (e | ⟨o, e⟩) | ⟨o, its, n, e, h1, hz⟩
    · exact .inr (.inl ⟨v, p, ws, _, us, b, rfl, e, clsDs_low rs e2, tyN_low r1 g e1, e3, pq.here h g (rep_bl.mpr rfl)⟩)
    · exact .inr (.inr (.inl ⟨v, p, o, ws, _, us, b, rfl, e, clsDs_low rs e2, tyN_low r1 g e1, e3, pq.here h g (rep_bl.mpr rfl)⟩))
    · obtain ⟨hs, _, rv⟩ := hz
      have eu := ClsV.all (clsDs_low rs e2) rv
      obtain ⟨oc, od, dt, sl⟩ := o
      cases h1
      cases hs
      exact .inr (.inr (.inr ⟨v, p, od, us, n, sl, _, b, rfl, by rw [e, ← eu], tyN_low r1 g e1, e3, pq.here h g (rep_bl.mpr rfl)⟩))
  · obtain ⟨hc, h⟩ := h
    obtain ⟨v, w, rfl, r1, r2⟩ := repL_two r
    cases rep_ref.mp r2
    subst hc
    obtain ⟨a, dx, b, n, vs, rfl, ha, _⟩ := ftn_iff.mp (rep_tree.mp r1)
    exact .inl ⟨_, _, _, _, true, rfl, .own _, cl.ty ha, isi_self, pq.here h g (rep_bl.mpr rfl)⟩
  · obtain ⟨T, u, b, e1, e2, e3, h⟩ := h
    obtain ⟨v, w, rfl, r1, r2⟩ := repL_two r
    exact .inl ⟨_, _, _, _, b, rfl, clsD_low r2 e2, tyN_low r1 g e1, e3, pq.here h g (rep_bl.mpr rfl)⟩
  · exact h.elim
end
section
variable {X : Cx} {c : AC X.K} {k : Nat} {ps : List Str} {asp : ASp} {qual : Str} {st : Stmt}
end
end AL
namespace JW
open PySem PySem.Spec PyProof.Rows L2 Builtin Builtin.Str
end JW
namespace AL
open PySem PySem.Spec PyProof.Rows L2 JW
end AL
namespace JW
open PySem PySem.Spec PyProof.Rows L2
section
variable {X : Cx} {CX : CXT} {k : Nat} {f C : Addr} {fd : FuncData} {ps : List Str} {sp : Sp} {dvs : List V} {ds : List Value} {E : L2.St → XK} {x : Str} {p pos : Pos} {e : Expr} {es : List Expr} {t : TA}
end
end JW
namespace AL
open PySem PySem.Spec PyProof.Rows L2 LamX JW
section
variable {X : Cx} {c : AC X.K} {H0 : Hp} {e : Expr} {es : List Expr} {as : ATA} {x : Str} {p pos : Pos} {k : Nat} {ps : List Str} {asp : ASp} {RXe : En → AX} {dvs : List V} {C : Addr} {sp : Sp}
end
section
variable {X : Cx} {c : AC X.K} {H1 : Hp} {a : Addr} {oe : Obj} {cls : Value} {d : Option Addr} {pn : List (Addr × Obj)} {y : Str} {fs : List (Str × D)} {i : Nat} {n : Str} {p p1 p2 pos : Pos} {es : List Expr} {Cs : List Addr}
end
end AL
namespace AL
open PySem PySem.Spec PyProof.Rows L2 LamX JW
section
variable {X : Cx} {c : AC X.K} {H0 : Hp} {e : Expr} {as : ATA} {p pos tpos : Pos} {elts : List Expr} {kk : Nat}
end
end AL
namespace GK
open PySem PySem.Spec PyProof.Rows L2 LamX JW AL
section
variable {X : Cx} {c : AC X.K} {pins : List (Addr × Obj)} {env : En} {L : Store} {H : Hp} {s : Shared}
end
section
variable {X : Cx} {c : AC X.K} {e f : Expr} {a b : ATE} {as : ATA} {es : List Expr} {t : ATT} {pos p : Pos}
variable {x : Str} {C : Addr} {ps : List Str} {dvs : List V} {sp : Sp} {asp : ASp} {k : Nat}
end
end GK
namespace GK
open PySem PySem.Spec PyProof.Rows L2 LamX JW AL
section
variable {X : Cx} {c : AC X.K} {pins : List (Addr × Obj)} {env : En} {L : Store} {H : Hp} {s : Shared} {R : AQ} {f : Addr} {fd : FuncData} {ps : List Str} {asp : ASp} {k : Nat}
end
section
variable {X : Cx} {c : AC X.K} {e : Expr} {es : List Expr} {as : ATA} {a : ATE} {x : Str} {p pos : Pos} {ps : List Str} {asp : ASp} {k : Nat}
end
end GK
namespace GK
open PySem PySem.Spec PyProof.Rows L2 LamX JW AL
section
variable {P : Program} {w : World} {K : PySem.W.Frag} {mg : Str → Option Value} {base : Heap} {c : AC K} {x qual : Str} {st : Stmt} {N ps : List Str} {k : Nat} {asp : ASp}
end
end GK
namespace GK
open PySem PySem.Spec PyProof.Rows L2 LamX JW AL
section
variable {X : Cx} {c : AC X.K}
end
end GK
namespace GK
open PySem PySem.Spec PyProof.Rows L2 LamX JW AL
section
variable {X : Cx} {c : AC X.K} {pins : List (Addr × Obj)} {env : En} {L : Store} {H : Hp} {s : Shared} {R : AQ} {f : Addr} {fd : FuncData} {ps : List Str} {asp : ASp} {k : Nat}
end
section
variable {X : Cx} {c : AC X.K} {e : Expr} {es : List Expr} {as : ATA} {a : ATE} {x : Str} {p pos : Pos} {ps : List Str} {asp : ASp} {k : Nat}
end
end GK
theorem _root_.JW.CmD.imp {P : PySem.Program} {w : PySem.World} {K : PySem.W.Frag} {mg : PySem.Str → Option PySem.Value} {base : PySem.Heap} {CX : L2.CXT} {k : Nat} {C : PySem.Addr} {m : PySem.Str} {ps : List PySem.Str} {sp sp' : L2.Sp} (M : JW.CmD P w K mg base CX k C m ps sp) (h : ∀ vs H Q E, sp' vs H Q E → sp vs H Q E) : JW.CmD P w K mg base CX k C m ps sp' := by
  obtain ⟨mc, p, f, fd, h1, h2, h3, F⟩ := M.ex
  exact ⟨mc, p, f, fd, h1, h2, h3, F.imp h⟩
namespace GK
open PySem PySem.Spec PyProof.Rows L2 LamX JW AL
section
variable {X : Cx} {c : AC X.K} {e : Expr} {es : List Expr} {as : ATA} {x : Str} {p pos : Pos} {k : Nat} {ps : List Str} {asp : ASp}
end
end GK
namespace GK
open PySem PySem.Spec PyProof.Rows L2 LamX JW AL
section
variable {X : Cx} {c : AC X.K} {pins : List (Addr × Obj)} {env : En} {L : Store} {H : Hp} {s : Shared} {kk : Nat}
end
end GK
namespace GK
open PySem PySem.Spec PyProof.Rows L2 LamX JW AL
section
variable {X : Cx} {c : AC X.K} {pins : List (Addr × Obj)} {env : En} {L : Store} {H : Hp} {s : Shared}
end
section
variable {X : Cx} {c : AC X.K} {e : Expr} {es : List Expr} {as : ATA} {a : ATE} {pos : Pos}
end
end GK
namespace GK
open PySem PySem.Spec PyProof.Rows L2 LamX JW AL
section
variable {X : Cx} {c : AC X.K} {e f : Expr} {a b : ATE} {as : ATA} {es : List Expr} {t : ATT} {pos p : Pos} {x : Str} {C : Addr} {ps : List Str} {dvs : List V} {sp : Sp} {asp : ASp} {k : Nat}
end
end GK
namespace JW
open PySem PySem.Spec PyProof.Rows L2
end JW
namespace AL
open PySem PySem.Spec PyProof.Rows L2 LamX JW
section
variable {X : Cx} {c : AC X.K} {H0 : Hp} {e e2 : Expr} {as : ATA} {dv : ATE} {p pos kp : Pos} {x : Str}
end
end AL
namespace GK
open PySem PySem.Spec PyProof.Rows L2 LamX JW AL
section
variable {P : Program} {w : World} {K : PySem.W.Frag} {mg : Str → Option Value} {base : Heap} {c : AC K} {x qual : Str} {st : Stmt} {N ps : List Str} {k : Nat} {asp : ASp}
end
end GK
namespace AL
open PySem PySem.Spec PyProof.Rows L2 LamX JW
mutual
def dT : T → D
  | .jet => .str (tx .jet)
  | .bas l => .tup (dTL l)
def dTL : List T → List D
  | [] => []
  | t :: l => dT t :: dTL l
end
theorem dTL_map : ∀ l : List T, dTL l = l.map dT
  | [] => rfl
  | t :: l => by
    show dT t :: dTL l = dT t :: l.map dT
    rw [dTL_map l]
theorem dT_bas (l : List T) : dT (.bas l) = .tup (l.map dT) := by
  show D.tup (dTL l) = _
  rw [dTL_map]
theorem dT_jet : dT .jet = .str ("o" : Str) := by
  show D.str (tx .jet) = _
  rw [tx_jet]
mutual
theorem pyF_dT : ∀ t : T, pyF (dT t) = some t.dat
  | .jet => rfl
  | .bas l => by
    show (pyFL (dTL l)).map PyData.tuple = some (.tuple (datL l))
    rw [pyFL_dT l]
    rfl
theorem pyFL_dT : ∀ l : List T, pyFL (dTL l) = some (datL l)
  | [] => rfl
  | t :: l => by
    show (match pyF (dT t), pyFL (dTL l) with | some x, some xs => some (x :: xs) | _, _ => none) = _
    rw [pyF_dT t, pyFL_dT l]
    rfl
end
theorem pyT_dT (L : Store) (t : T) : pyT L (dT t) = some t.dat := by
  cases t with
  | jet => rfl
  | bas l => exact pyF_dT (.bas l)
theorem eqX_tree {neg : Bool} {t u : T} {L : Store} {Q : AQ} (h1 : t.size ≤ 64) (h2 : u.size ≤ 64) (q : Q (.bl (neg ^^ decide (t = u))) L) : eqX neg (dT t) (dT u) L Q :=
  ⟨t.dat, u.dat, pyT_dT L t, pyT_dT L u, dat_shaped h1, dat_shaped h2, by rw [dat_eqv]; exact q⟩
theorem eqD_tree {neg : Bool} {t u : T} {L : Store} {Q : AQ} (h1 : t.size ≤ 64) (h2 : u.size ≤ 64) (q : Q (.bl (neg ^^ decide (t = u))) L) : eqD neg (dT t) (dT u) L Q := by
  cases t with
  | jet => cases u with
    | jet =>
      show Q (.bl (neg ^^ decide (tx T.jet = tx T.jet))) L
      rw [decide_eq_true rfl] at q ⊢
      exact q
    | bas m => exact eqX_tree h1 h2 q
  | bas l => cases u with
    | jet => exact eqX_tree h1 h2 q
    | bas m => exact eqX_tree h1 h2 q
theorem eqD_o {neg : Bool} {t : T} {L : Store} {Q : AQ} (h1 : t.size ≤ 64) (q : Q (.bl (neg ^^ decide (t = .jet))) L) : eqD neg (dT t) (.str ("o" : Str)) L Q := by
  rw [← dT_jet]
  exact eqD_tree h1 (by decide) q
theorem dTs_of {ds : List D} {l : List T} (h : ds = l.map dT) {i : Nat} {d : D} (e : ds[i]? = some d) : ∃ t, l[i]? = some t ∧ d = dT t := by
  subst h
  rw [List.getElem?_map] at e
  cases e2 : l[i]? with
  | none => rw [e2] at e; cases e
  | some t => rw [e2] at e; cases e; exact ⟨t, rfl, rfl⟩
def sackM (g : Addr) : MO := .opq fun o => ∃ a b c : Int, o = .dK (sackD g a b c)
def intsM (ns : List Int) : MO := .lst (ns.map .int)
def SkAt (L : Store) (d g : Addr) : Prop := d ≠ g ∧ L d = some (sackM g) ∧ ∃ ns, L g = some (intsM ns)
def Sk (g : Addr) (L L' : Store) : Prop := ∀ p m, p ≠ g → L p = some m → L' p = some m
section
variable {L L1 L2 : Store} {d g p : Addr} {m : MO} {ns : List Int}
theorem Sk.refl (g : Addr) (L : Store) : Sk g L L := fun _ _ _ h => h
theorem Sk.trans (a : Sk g L L1) (b : Sk g L1 L2) : Sk g L L2 := fun p m n h => b p m n (a p m n h)
theorem Sk.of (s : SubS L L1) : Sk g L L1 := fun p m _ h => s p m h
theorem Sk.new (a : Sk g L L1) (hp : L1 p = none) : Sk g L (sput L1 p m) := fun q n ne h => sput_old (a q n ne h) hp
theorem Sk.at (a : Sk g L L1) : Sk g L (sput L1 g m) := fun q n ne h => by rw [sput_ne ne]; exact a q n ne h
theorem Sk.put (a : Sk g L L1) (hp : L p = none) : Sk g L (sput L1 p m) := fun q n ne h => by
  rw [sput_ne fun e => by rw [e, hp] at h; cases h]
  exact a q n ne h
theorem Sk.nil (a : Sk g L L1) (ne : p ≠ g) (hp : L1 p = none) : L p = none := by
  cases e : L p with
  | none => rfl
  | some m => rw [a p m ne e] at hp; cases hp
theorem SkAt.ne (h : SkAt L d g) (hp : L p = none) : p ≠ d ∧ p ≠ g := by
  obtain ⟨_, h1, ns, h2⟩ := h
  exact ⟨fun e => (by rw [e, h1] at hp; cases hp), fun e => (by rw [e, h2] at hp; cases hp)⟩
theorem SkAt.new (h : SkAt L d g) (hp : L p = none) : SkAt (sput L p m) d g := by
  obtain ⟨n1, n2⟩ := h.ne hp
  obtain ⟨n, h1, ns, h2⟩ := h
  exact ⟨n, by rw [sput_ne n1.symm]; exact h1, ns, by rw [sput_ne n2.symm]; exact h2⟩
theorem SkAt.off (h : SkAt L d g) (n1 : p ≠ d) (n2 : p ≠ g) : SkAt (sput L p m) d g := by
  obtain ⟨n, h1, ns, h2⟩ := h
  exact ⟨n, by rw [sput_ne n1.symm]; exact h1, ns, by rw [sput_ne n2.symm]; exact h2⟩
theorem SkAt.at (h : SkAt L d g) (ns : List Int) : SkAt (sput L g (intsM ns)) d g := by
  obtain ⟨n, h1, _⟩ := h
  exact ⟨n, by rw [sput_ne n]; exact h1, ns, sput_same⟩
theorem Sk.end (a : Sk g L L1) (h : SkAt L1 d g) {R : AQ} {x : D} (r : ∀ ns, R x (sput L g (intsM ns))) : ∃ L0, SubS L0 L1 ∧ R x L0 := by
  obtain ⟨_, _, ns, e⟩ := h
  refine ⟨sput L g (intsM ns), fun p m q => ?_, r ns⟩
  by_cases z : p = g
  · subst z
    rw [sput_same] at q
    cases q
    exact e
  · rw [sput_ne z] at q
    exact a p m z q
theorem Sk.endN (a : Sk g L L1) (h : SkAt L1 d g) (hp : L p = none) (hpg : p ≠ g) (hm : L1 p = some m) {R : AQ} {x : D} (r : ∀ ns, R x (sput (sput L g (intsM ns)) p m)) : ∃ L0, SubS L0 L1 ∧ R x L0 := by
  obtain ⟨_, _, ns, e⟩ := h
  refine ⟨sput (sput L g (intsM ns)) p m, fun q n e2 => ?_, r ns⟩
  by_cases z : q = p
  · subst z
    rw [sput_same] at e2
    cases e2
    exact hm
  · rw [sput_ne z] at e2
    by_cases z2 : q = g
    · subst z2
      rw [sput_same] at e2
      cases e2
      exact e
    · rw [sput_ne z2] at e2
      exact a q n z2 e2
end
section
variable {K : PySem.W.Frag} {c : AC K} {H H' : Hp} {L : Store} {d g : Addr}
theorem ints_low {ns : List Int} {p : Addr} (h : H p = some (.lst (ns.map V.int))) : MRep c H p (intsM ns) := ⟨_, h, RepL.ints.mpr rfl⟩
theorem ints_at {ns : List Int} {p : Addr} (h : MRep c H p (intsM ns)) : H p = some (.lst (ns.map V.int)) := by
  obtain ⟨vs, e, r⟩ := h
  rw [e, RepL.ints.mp r]
theorem sack_at (gd : Good c L H) (h : SkAt L d g) : SackAt H d g := by
  obtain ⟨n, h1, ns, h2⟩ := h
  obtain ⟨o, e, ⟨a, b, x, rfl⟩, _⟩ := gd.st d _ h1
  exact ⟨ns, a, b, x, n, e, ints_at (gd.st g _ h2)⟩
theorem sack_m {ns : List Int} {a b x : Int} (e : H d = some (.dK (sackD g a b x))) : MRep c H d (sackM g) := ⟨_, e, ⟨a, b, x, rfl⟩, fun z => z, fun _ z => (by cases z), fun _ z => (by cases z), fun _ ⟨_, _, _, z⟩ => by cases z⟩
theorem sack_next (gd : Good c L H) (h : SkAt L d g) (h' : SackAt H' d g) (s : Same2 d g H H') : ∃ ns, Good c (sput L g (intsM ns)) H' ∧ Fr c H H' := by
  have hs := sack_at gd h
  obtain ⟨n, h1, ns0, h2⟩ := h
  obtain ⟨ns, a, b, x, _, e1, e2⟩ := h'
  have t := Tabs.sack gd.tabs hs s
  obtain ⟨_, _, _, _, _, q1, q2⟩ := hs
  have fr : Fr c H H' := fun p o e i => by
    refine s p o (fun z => ?_) (fun z => ?_) e
    · subst z
      rw [q1] at e
      cases e
      exact i
    · subst z
      rw [q2] at e
      cases e
      exact i
  refine ⟨ns, ⟨t, fun q m e => ?_, fun y ms e => ⟨(gd.scr y ms e).1, ?_⟩⟩, fr⟩
  · by_cases z : q = g
    · subst z
      rw [sput_same] at e
      cases e
      exact ints_low e2
    · rw [sput_ne z] at e
      by_cases z2 : q = d
      · subst z2
        rw [h1] at e
        cases e
        exact sack_m (ns := ns) e1
      · obtain ⟨o, e3, _⟩ := (gd.st q m e).at
        exact (gd.st q m e).mono ((s q o z2 z e3).trans e3.symm) fr
  · rcases (gd.scr y ms e).2 with ⟨r1, r2⟩ | ⟨o, r⟩ | r
    · have ny : y ≠ g := fun z => by rw [z, h2] at r2; cases r2
      exact .inl ⟨s _ _ (fun z => by rw [z, h1] at r2; cases r2) ny r1, by rw [sput_ne ny]; exact r2⟩
    · exact .inr (.inl ⟨o, fr _ _ r trivial⟩)
    · exact .inr (.inr r)
theorem sack_new (gd : Good c L H) (s : L2.Same H H') (hd : H d = none) (hg : H g = none) (h' : SackAt H' d g) : ∃ ns, d ≠ g ∧ Good c (sput (sput L g (intsM ns)) d (sackM g)) H' := by
  obtain ⟨ns, a, b, x, n, e1, e2⟩ := h'
  have g1 := gd.sameNew s hd (sack_m (c := c) (ns := ns) e1)
  have g2 := gd.sameNew s hg (ints_low (c := c) e2)
  refine ⟨ns, n, g1.tabs, fun q m e => ?_, fun y ms e => ⟨(gd.scr y ms e).1, ?_⟩⟩
  · by_cases z : q = d
    · subst z
      rw [sput_same] at e
      cases e
      exact sack_m (ns := ns) e1
    · rw [sput_ne z] at e
      exact g2.st q m e
  · rcases (gd.scr y ms e).2 with ⟨r1, r2⟩ | ⟨o, r⟩ | r
    · have n1 : y ≠ d := ne_of_none r1 hd
      have n2 : y ≠ g := ne_of_none r1 hg
      exact .inl ⟨s _ _ r1, by rw [sput_ne n1, sput_ne n2]; exact r2⟩
    · exact .inr (.inl ⟨o, s _ _ r⟩)
    · exact .inr (.inr r)
end
theorem skAt_new {L : Store} {d g : Addr} {ns : List Int} (n : d ≠ g) : SkAt (sput (sput L g (intsM ns)) d (sackM g)) d g := ⟨n, sput_same, ns, by rw [sput_ne n.symm]; exact sput_same⟩
theorem repL_sort {K : PySem.W.Frag} {c : AC K} {H : Hp} {f : T → D} {l : List T} {vs ys : List V} (h : RepL c H (l.map f) vs) (k : KeydV (l.map tx) vs ys) : RepL c H ((sortT l).map f) ys := by
  obtain ⟨ps, pm, pw, rfl⟩ := k
  have hlen : vs.length = l.length := by rw [h.len, List.length_map]
  have told : ∀ p ∈ ps, ∃ t, p.1 = tx t ∧ Rep c H (f t) p.2 := fun p hp => by
    obtain ⟨i, hi, e⟩ := List.getElem_of_mem (pm.mem_iff.mp hp)
    have hil : i < l.length := by
      rw [List.length_zip, List.length_map] at hi
      omega
    rw [List.getElem_zip] at e
    obtain ⟨v, e1, r⟩ := h.get (i := i) (d := f l[i]) (by rw [List.getElem?_map, List.getElem?_eq_getElem hil]; rfl)
    rw [List.getElem?_eq_getElem (by omega)] at e1
    refine ⟨l[i], ?_, ?_⟩
    · rw [← e]
      simp
    · rw [← e]
      cases e1
      exact r
  have parts : ∀ ps : List (Str × V), (∀ p ∈ ps, ∃ t, p.1 = tx t ∧ Rep c H (f t) p.2) → ∃ us : List T, us.map tx = ps.map (·.1) ∧ RepL c H (us.map f) (ps.map (·.2)) := by
    intro ps
    induction ps with
    | nil => exact fun _ => ⟨[], rfl, RepL.nil⟩
    | cons p r ih =>
      intro hq
      obtain ⟨us, e1, e2⟩ := ih fun q z => hq q (List.mem_cons_of_mem _ z)
      obtain ⟨t, e3, e4⟩ := hq p List.mem_cons_self
      exact ⟨t :: us, by rw [List.map_cons, List.map_cons, e1, e3], RepL.cons e4 e2⟩
  obtain ⟨us, e1, e2⟩ := parts ps told
  have firsts : ((l.map tx).zip vs).map (·.1) = l.map tx := by rw [List.map_fst_zip (by rw [List.length_map, hlen]; exact Nat.le_refl _)]
  have hp : (us.map tx).Perm (l.map tx) := by
    rw [e1, ← firsts]
    exact pm.map _
  have inj : ∀ a b : List T, a.map tx = b.map tx → a = b := by
    intro a
    induction a with
    | nil => intro b e; cases b with
      | nil => rfl
      | cons => cases e
    | cons x a ih => intro b e; cases b with
      | nil => cases e
      | cons y b =>
        rw [List.map_cons, List.map_cons] at e
        injection e with h1 h2
        rw [tx_inj h1, ih b h2]
  have hs : Srt us := by
    have q1 : (ps.map (·.1)).Pairwise (fun p q : Str => ¬ q.cps.toList < p.cps.toList) := List.pairwise_map.mpr pw
    rw [← e1] at q1
    exact (List.pairwise_map.mp q1).imp fun {a b} z => by
      unfold tle
      simp only [Bool.not_eq_true', decide_eq_false_iff_not]
      exact z
  obtain ⟨us2, p2, e3⟩ := perm_tx hp rfl
  have eq2 := inj _ _ e3
  subst eq2
  have eu : us = sortT l := sortT_eq p2 hs
  rw [← eu]
  exact e2
theorem comp_inv {α : Type} {g : ATG} {a : ATE} {G : Store → Prop} {p : Addr} {env : En} {Q : AQ} (f : α → D) (ws : List α) (I : List α → List D → Store → Prop) (hz : ws.length ≤ sizeLine)
    (hG : ∀ pre acc L, I pre acc L → G L ∧ L p = some (.lst acc) ∧ acc.length = pre.length)
    (step : ∀ (pre : List α) w (rest : List α) acc L (k : AQ), ws = pre ++ w :: rest → I pre acc L → (∀ x L3, L3 p = some (.lst acc) → I (pre ++ [w]) (acc ++ [x]) (sput L3 p (.lst (acc ++ [x]))) → k x L3) → g (f w) env L fun env1 L1 => L1 = L ∧ a env1 L1 k)
    (fin : ∀ acc L, I ws acc L → Q (.ref p) L) : ∀ L, I [] [] L → compA g aYes a G p env Q (ws.map f) [] L := by
  have : ∀ (rest pre : List α) acc, ws = pre ++ rest → ∀ L, I pre acc L → compA g aYes a G p env Q (rest.map f) acc L := by
    intro rest
    induction rest with
    | nil =>
      intro pre acc e L h
      rw [List.append_nil] at e
      obtain ⟨h1, h2, _⟩ := hG _ _ _ h
      exact ⟨h1, h2, fin acc L (by rw [e]; exact h)⟩
    | cons w rest ih =>
      intro pre acc e L h
      obtain ⟨h1, h2, h3⟩ := hG _ _ _ h
      refine ⟨h1, h2, ?_⟩
      have hl : acc.length < sizeLine := by
        have e2 := congrArg List.length e
        rw [List.length_append, List.length_cons] at e2
        omega
      exact step pre w rest acc L _ e h fun x L3 h4 h5 => ⟨hl, h4, ih (pre ++ [w]) (acc ++ [x]) (by rw [List.append_assoc]; exact e) _ h5⟩
  exact this ws [] [] rfl
theorem comp_filt {α : Type} {g : ATG} {t : ATT} {a : ATE} {G : Store → Prop} {p : Addr} {env : En} {Q : AQ} {L0 : Store} (f h : α → D) (kp : α → Bool) (hG : ∀ l, G (sput L0 p (.lst l))) : ∀ (ws : List α) (acc : List D), acc.length + ws.length ≤ sizeLine →
    (∀ w ∈ ws, ∀ (l : List D) (k : Bool → D → Store → Prop), k (kp w) (h w) (sput L0 p (.lst l)) → g (f w) env (sput L0 p (.lst l)) fun env1 L1 => L1 = sput L0 p (.lst l) ∧ t env1 L1 fun b L2 => if b = true then a env1 L2 fun x L3 => k true x L3 else k false (h w) L2) →
    Q (.ref p) (sput L0 p (.lst (acc ++ (ws.filter kp).map h))) → compA g t a G p env Q (ws.map f) acc (sput L0 p (.lst acc))
  | [], acc, hz, hs, q => ⟨hG acc, sput_same, by simpa using q⟩
  | w :: ws, acc, hz, hs, q => by
    refine ⟨hG acc, sput_same, ?_⟩
    rw [List.length_cons] at hz
    have ih := comp_filt (a := a) (t := t) (g := g) (env := env) (Q := Q) f h kp hG ws
    refine hs w List.mem_cons_self acc (fun b x L3 => if b = true then acc.length < sizeLine ∧ L3 p = some (.lst acc) ∧ compA g t a G p env Q (ws.map f) (acc ++ [x]) (sput L3 p (.lst (acc ++ [x]))) else compA g t a G p env Q (ws.map f) acc L3) ?_
    cases hk : kp w with
    | true =>
      rw [if_pos rfl]
      refine ⟨by omega, sput_same, ?_⟩
      rw [sput_sput]
      refine ih (acc ++ [h w]) (by rw [List.length_append]; show acc.length + 1 + ws.length ≤ _; omega) (fun d' h' => hs d' (List.mem_cons_of_mem _ h')) ?_
      rw [List.filter_cons_of_pos hk, List.map_cons] at q
      rw [List.append_assoc]
      exact q
    | false =>
      rw [if_neg Bool.false_ne_true]
      refine ih acc (by omega) (fun d' h' => hs d' (List.mem_cons_of_mem _ h')) ?_
      rw [List.filter_cons_of_neg (by rw [hk]; exact Bool.false_ne_true)] at q
      exact q
theorem atI_neg1 {α : Type} {f : α → D} (init : List α) (tl : α) : atI ((init ++ [tl]).map f) (-1) = some (f tl) := by
  unfold atI
  rw [ix_last (by simp)]
  simp
theorem cutD_init {α : Type} {f : α → D} (a : List α) (x : α) : cutD ((a ++ [x]).map f) none (some (-1)) = a.map f := by
  unfold cutD
  have e1 : HT.sIx ((a ++ [x]).map f).length 0 none = 0 := rfl
  have e2 : HT.sIx ((a ++ [x]).map f).length ((a ++ [x]).map f).length (some (-1)) = a.length := by
    unfold HT.sIx
    simp
    omega
  rw [e1, e2, List.drop_zero, Nat.sub_zero, List.map_append, List.take_left' (by rw [List.length_map])]
end AL
namespace JW
mutual
/-- the pieces on the way to the first jet, without it -/
def wayP : T → List T
  | .jet => []
  | .bas l => .bas l :: wayPL l
def wayPL : List T → List T
  | [] => []
  | t :: l => if t.jts = 0 then wayPL l else wayP t
end
mutual
def cutA (b : T) : T → T
  | .jet => .jet
  | .bas l => if T.bas l = b then .jet else .bas (sortT (cutAL b l))
def cutAL (b : T) : List T → List T
  | [] => []
  | t :: l => cutA b t :: cutAL b l
end
theorem cutAL_map (b : T) : ∀ l : List T, cutAL b l = l.map (cutA b)
  | [] => rfl
  | t :: l => by
    show cutA b t :: cutAL b l = _
    rw [cutAL_map b l]
    rfl
theorem cutA_bas (b : T) (l : List T) : cutA b (.bas l) = if T.bas l = b then .jet else .bas (sortT (l.map (cutA b))) := by
  show (if T.bas l = b then T.jet else .bas (sortT (cutAL b l))) = _
  rw [cutAL_map]
theorem cutA_eq {b : T} (hb : 0 < b.jts) : ∀ t : T, Can t → cutA b t = cutT b t := by
  refine T.ind' (fun _ => by cases b <;> rfl) fun l ih hc => ?_
  rw [cutA_bas]
  have hcl := canL_iff.mp hc.2
  by_cases e : T.bas l = b
  · rw [if_pos e, e, cut_self]
  rw [if_neg e]
  by_cases hj : (T.bas l).jts = 0
  · rw [cut_closed e hj]
    have em : l.map (cutA b) = l.map id := List.map_congr_left fun u hu => by
      have hu0 := jtsL_all hj hu
      rw [ih u hu (hcl u hu), cut_closed (fun z => by rw [z] at hu0; omega) hu0]
      rfl
    rw [em, List.map_id, sortT_of hc.1]
  · rw [cut_open e hj]
    have em : l.map (cutA b) = l.map (cutT b) := List.map_congr_left fun u hu => ih u hu (hcl u hu)
    rw [em]
theorem cutA_size (b : T) : ∀ t : T, (cutA b t).size ≤ t.size := by
  refine T.ind' (Nat.le_refl _) fun l ih => ?_
  rw [cutA_bas]
  split
  · show 1 ≤ 1 + sizeL l
    omega
  · have h := sizeL_map_le (l := l) ih
    show 1 + sizeL (sortT (l.map (cutA b))) ≤ 1 + sizeL l
    rw [sizeL_perm (sortT_perm _)]
    omega
theorem grf_cut {b : T} (hb : 0 < b.jts) : ∀ t : T, Can t → cov b t = true → T.grf b (cutT b t) = t ∧ Can (cutT b t) := by
  refine T.ind' (fun _ h => ?_) fun l ih hc h => ?_
  · have e : T.jet = b := of_decide_eq_true h
    subst e
    exact ⟨rfl, trivial⟩
  have hcl := canL_iff.mp hc.2
  by_cases e : T.bas l = b
  · subst e
    rw [cut_self]
    exact ⟨rfl, trivial⟩
  by_cases hj : (T.bas l).jts = 0
  · rw [cut_closed e hj]
    exact ⟨grf_closed _ _ hc hj, hc⟩
  have hl : covL b l = true := by
    have h2 : (decide (T.bas l = b) || covL b l) = true := h
    rw [decide_eq_false e, Bool.false_or] at h2
    exact h2
  have hu := fun u (hm : u ∈ l) => ih u hm (hcl u hm) (covL_all.mp hl u hm)
  rw [cut_open e hj]
  refine ⟨?_, can_bas (canL_iff.mpr fun u hm => ?_)⟩
  · rw [grf_bas, sortT_congr ((sortT_perm (l.map (cutT b))).map (T.grf b)), List.map_map]
    have em : l.map (T.grf b ∘ cutT b) = l.map id := List.map_congr_left fun u hm => (hu u hm).1
    rw [em, List.map_id, sortT_of hc.1]
  · obtain ⟨v, hv, ev⟩ := List.mem_map.mp hm
    exact ev ▸ (hu v hv).2
theorem way_open {t : T} (h : t.jts ≠ 0) {l : List T} (e : t = .bas l) : ∃ u ∈ l, u.jts ≠ 0 ∧ wayP t = t :: wayP u ∧ ∃ A B, l = A ++ u :: B ∧ ∀ v ∈ A, v.jts = 0 := by
  subst e
  have go : ∀ l : List T, jtsL l ≠ 0 → ∃ u ∈ l, u.jts ≠ 0 ∧ wayPL l = wayP u ∧ ∃ A B, l = A ++ u :: B ∧ ∀ v ∈ A, v.jts = 0 := by
    intro l
    induction l with
    | nil => exact fun h => absurd rfl h
    | cons t l ih =>
      intro h
      by_cases ht : t.jts = 0
      · have h2 : jtsL l ≠ 0 := fun z => h (by show t.jts + jtsL l = 0; omega)
        obtain ⟨u, hu, h3, h4, A, B, h5, h6⟩ := ih h2
        refine ⟨u, List.mem_cons_of_mem _ hu, h3, ?_, t :: A, B, by rw [h5]; rfl, fun v hv => ?_⟩
        · show (if t.jts = 0 then wayPL l else wayP t) = _
          rw [if_pos ht, h4]
        · rcases List.mem_cons.mp hv with e | e
          · exact e ▸ ht
          · exact h6 v e
      · refine ⟨t, List.mem_cons_self, ht, ?_, [], l, rfl, fun v hv => absurd hv List.not_mem_nil⟩
        show (if t.jts = 0 then wayPL l else wayP t) = _
        rw [if_neg ht]
  obtain ⟨u, hu, h3, h4, h5⟩ := go l h
  exact ⟨u, hu, h3, by show T.bas l :: wayPL l = _; rw [h4], h5⟩
theorem way_mem : ∀ t : T, t.jts ≠ 0 → ∀ e ∈ wayP t, e.jts ≠ 0 ∧ e ≠ .jet ∧ e.size ≤ t.size ∧ (Can t → Can e) := by
  refine T.ind' (fun _ e he => absurd he List.not_mem_nil) fun l ih h e he => ?_
  obtain ⟨u, hu, h3, h4, _⟩ := way_open h rfl
  rw [h4] at he
  rcases List.mem_cons.mp he with z | z
  · rw [z]
    exact ⟨h, fun q => (by cases q), Nat.le_refl _, id⟩
  · obtain ⟨q1, q2, q3, q4⟩ := ih u hu h3 e z
    have := size_mem hu
    exact ⟨q1, q2, by omega, fun hc => q4 (canL_iff.mp hc.2 u hu)⟩
theorem way_len : ∀ t : T, t.jts ≠ 0 → (wayP t).length ≤ t.size := by
  refine T.ind' (fun _ => Nat.zero_le _) fun l ih h => ?_
  obtain ⟨u, hu, h3, h4, _⟩ := way_open h rfl
  have := size_mem hu
  have := ih u hu h3
  rw [h4, List.length_cons]
  omega
theorem way_split : ∀ t : T, t.jts ≠ 0 → ∀ p ∈ wayP t, ∃ A B, wayP t = A ++ p :: B ∧ ∀ e ∈ B, e.size < p.size := by
  refine T.ind' (fun _ e he => absurd he List.not_mem_nil) fun l ih h p hp => ?_
  obtain ⟨u, hu, h3, h4, _⟩ := way_open h rfl
  rw [h4] at hp ⊢
  rcases List.mem_cons.mp hp with z | z
  · refine ⟨[], wayP u, by rw [z]; rfl, fun e he => ?_⟩
    have h5 := (way_mem u h3 e he).2.2.1
    have := size_mem hu
    rw [z]
    omega
  · obtain ⟨A, B, e1, e2⟩ := ih u hu h3 p z
    exact ⟨T.bas l :: A, B, by rw [e1]; rfl, e2⟩
theorem way_cov {p : T} (hp : p ≠ .jet) : ∀ t : T, t.jts ≠ 0 → cov p t = true → p ∈ wayP t := by
  refine T.ind' (fun _ h => absurd (of_decide_eq_true h).symm hp) fun l ih h hc => ?_
  obtain ⟨u, hu, h3, h4, _⟩ := way_open h rfl
  rw [h4]
  by_cases e : T.bas l = p
  · rw [e]
    exact List.mem_cons_self
  · have h2 : (decide (T.bas l = p) || covL p l) = true := hc
    rw [decide_eq_false e, Bool.false_or] at h2
    exact List.mem_cons_of_mem _ (ih u hu h3 (covL_all.mp h2 u hu))
theorem last_end {t p : T} {ws : List T} (ht : Op t) (hw : t.word = ws ++ [p]) : Op p ∧ cutT p t = prodT ws ∧ (∀ q ∈ ws, Op q ∧ Prm q) ∧ ∃ A, (wayP t).filter (fun e => cov e t) = A ++ [p] := by
  obtain ⟨h1, h2⟩ := word_prod t ht
  have hp : Op p := h2 p (by rw [hw]; simp)
  have hpm := word_prime t ht p (by rw [hw]; simp)
  have hws : ∀ q ∈ ws, Op q ∧ Prm q := fun q hq => ⟨h2 q (by rw [hw]; simp [hq]), word_prime t ht q (by rw [hw]; simp [hq])⟩
  have hpos : 0 < p.jts := Nat.pos_of_ne_zero hp.2
  have et : T.grf p (prodT ws) = t := by rw [← prod_snoc, ← hw, h1]
  have hcan : Can (prodT ws) := prod_can fun q hq => (hws q hq).1.1
  have hcv : cov p t = true := by rw [← et]; exact cov_grf p _
  have hpj : p ≠ .jet := fun z => by
    rw [z] at hpm
    have : ([] : List T) = [.jet] := hpm
    cases this
  refine ⟨hp, by rw [← et]; exact cut_grf hpos _ hcan, hws, ?_⟩
  obtain ⟨A, B, e1, e2⟩ := way_split t ht.2 p (way_cov hpj t ht.2 hcv)
  have hB : B.filter (fun e => cov e t) = [] := List.filter_eq_nil_iff.mpr fun e he hce => by
    obtain ⟨q1, q2, _, q4⟩ := way_mem t ht.2 e (by rw [e1]; simp [he])
    have hlt := e2 e he
    have hep : 0 < e.jts := Nat.pos_of_ne_zero q1
    obtain ⟨g1, g2⟩ := grf_cut hep t ht.1 hce
    have hx : Op (cutT e t) := ⟨g2, fun z => by
      have h5 := grf_jts e (cutT e t)
      rw [g1, z, Nat.zero_mul] at h5
      exact ht.2 h5⟩
    have he' : Op e := ⟨q4 ht.1, q1⟩
    have hwd := word_grf he' _ hx
    rw [g1, hw] at hwd
    obtain ⟨h6, h7⟩ := word_prod e he'
    have hne : e.word ≠ [] := fun z => by
      rw [z] at h6
      exact q2 h6.symm
    have ed : e.word = e.word.dropLast ++ [e.word.getLast hne] := (List.dropLast_concat_getLast hne).symm
    rw [ed, ← List.append_assoc] at hwd
    have hlast := (List.append_inj' hwd rfl).2
    have hpe : p = e.word.getLast hne := by injection hlast
    rw [← hpe] at ed
    have hv : ∀ q ∈ e.word.dropLast, Op q := fun q hq => h7 q (List.dropLast_subset _ hq)
    have h8 : T.grf p (prodT e.word.dropLast) = e := by rw [← prod_snoc, ← ed, h6]
    have h9 := (grf_ge (p := p) (prod_open fun q hq => (hv q hq).2)).1
    rw [h8] at h9
    omega
  refine ⟨A.filter (fun e => cov e t), ?_⟩
  rw [e1, List.filter_append, List.filter_cons_of_pos (by exact hcv), hB]
theorem word_nil {t : T} (h : Op t) (e : t ≠ .jet) : ∃ ws p, t.word = ws ++ [p] := by
  have hne : t.word ≠ [] := fun z => by
    have := (word_prod t h).1
    rw [z] at this
    exact e this.symm
  exact ⟨t.word.dropLast, t.word.getLast hne, (List.dropLast_concat_getLast hne).symm⟩
end JW
namespace AL
open PySem PySem.Spec PyProof.Rows L2 LamX JW
section
variable {X : Cx} {c : AC X.K} {k : Nat} {ps : List Str} {pins : List (Addr × Obj)} {σ : L2.St} {H : Hp}
end
end AL
namespace AL
open PySem PySem.Spec PyProof.Rows L2 LamX JW
section
variable {X : Cx} {c : AC X.K}
end
end AL
namespace AL
open PySem PySem.Spec PyProof.Rows L2 LamX JW
section
variable {K : PySem.W.Frag} {c : AC K} {H : Hp} {L : Store}
end
section
variable {X : Cx} {c : AC X.K} {H0 : Hp} {e f : Expr} {as : ATA} {p pos tpos : Pos} {elts : List Expr} {kk : Nat}
end
theorem eqG_tup {neg : Bool} {l m : List D} {L : Store} {Q : AQ} (q : eqSq neg l m L Q) : eqG neg (.tup l) (.tup m) L Q := q
theorem ix_nat {n j : Nat} (h : j < n) : ixN n (j : Int) = some j := by
  unfold ixN
  rw [if_pos (by omega), if_pos (by omega)]
  rfl
theorem _root_.JW.word_len (t : T) (h : Op t) : t.word.length ≤ t.size := by
  have go : ∀ (n : Nat) (ws : List T), ws.length = n → (∀ q ∈ ws, Op q ∧ q ≠ .jet) → ws.length ≤ (prodT ws).size := by
    intro n
    induction n with
    | zero =>
      intro ws hn _
      omega
    | succ n ih =>
      intro ws hn hw
      have hne : ws ≠ [] := fun z => by rw [z] at hn; cases hn
      obtain ⟨init, p, rfl⟩ : ∃ init p, ws = init ++ [p] := ⟨ws.dropLast, ws.getLast hne, (List.dropLast_concat_getLast hne).symm⟩
      rw [List.length_append, List.length_singleton] at hn ⊢
      have h1 := ih init (by omega) fun q hq => hw q (by simp [hq])
      rw [prod_snoc]
      have hp := hw p (by simp)
      have h2 := grf_size p (prodT init)
      have h3 := prod_open (l := init) fun q hq => (hw q (by simp [hq])).1.2
      have h4 : 2 ≤ p.size := by
        cases p with
        | jet => exact absurd rfl hp.2
        | bas l =>
          have h5 := hp.1.2
          have h6 : (T.bas l).size = 1 + sizeL l := rfl
          cases l with
          | nil => exact absurd rfl h5
          | cons u l =>
            have h7 : sizeL (u :: l) = u.size + sizeL l := rfl
            have := size_pos u
            omega
      have h5 : (prodT init).jts * 2 ≤ (prodT init).jts * p.size := Nat.mul_le_mul_left _ h4
      omega
  obtain ⟨h1, h2⟩ := word_prod t h
  have := go _ t.word rfl fun q hq => ⟨h2 q hq, fun z => by
    have h3 := word_prime t h q hq
    rw [z] at h3
    have : ([] : List T) = [.jet] := h3
    cases this⟩
  rw [h1] at this
  exact this
end AL
namespace JW
open PySem PySem.Spec PyProof.Rows L2
section
variable {P : Program} {w : World} {K : PySem.W.Frag} {mg : Str → Option Value} {base : Heap}
theorem StarAt.okX {x qual : Str} {st : Stmt} {N ps : List Str} {pv : Str} {k : Nat} {sp : Sp} (D : StarAt K mg x qual st ps pv) (S : FnScope N (ps ++ [pv]) (defScope st))
    (hbody : ∀ (f : Addr) (cdv : Value) (A : Around) (outer : List Env) (s : Shared) (H : Hp) (vs : List V) (Q : VK) (E : XK), Room k (A.deeper (envOfC qual (defScope st) s.heap.objs.size f cdv)) → sp vs H Q E →
      ∃ t, PSs (cxOf (L2.CX P w) P w K mg base N qual (defScope st) f cdv A outer s H E) (defBody st) t ∧ t { nx := fun _ H' => Q .non H', rt := Q } (start N vs) H) : CallS P w K mg base (L2.CX P w) (k + 1) x (starSp ps.length sp) := by
  obtain ⟨f, fd, h1, F, hb⟩ := D.ex
  have hk := F.kp
  obtain ⟨oc, od, dV, kV, doc, pm, an, cdv, ct, osl, rfl, lk, hcd, _, _⟩ := F.ex
  exact ⟨f, h1, hk, StX.fn_star lk hcd S StX.cxUp hb fun A outer s H vs Q E hr h => hbody f cdv A outer s H vs Q E hr h⟩
end
end JW
namespace AL
open PySem PySem.Spec PyProof.Rows L2 LamX JW
section
variable {P : Program} {w : World} {K : PySem.W.Frag} {mg : Str → Option Value} {base : Heap} {c : AC K} {x m qual : Str} {st : Stmt} {N : List Str} {k : Nat} {asp : ASp} {pv : Str}
theorem _root_.JW.StarAt.okAX {a : AX → ATS} (D : StarAt K mg x qual st [] pv) (S : FnScope N [pv] (defScope st))
    (body : ∀ (f : Addr) (cdv : Value) (A : Around) (outer : List Env) (s : Shared) (H : Hp) (E : XK) (RX : AX), Px c H RX E → Room k (A.deeper (envOfC qual (defScope st) s.heap.objs.size f cdv)) → ASs (cxOf (L2.CX P w) P w K mg base N qual (defScope st) f cdv A outer s H E) c H (defBody st) (a RX))
    (vc : ∀ ds L R RX, asp ds L R RX → a RX (fnEnds R) (startA N ds) L) : CallS P w K mg base (L2.CX P w) (k + 1) x (starSp 0 (spA c asp)) :=
  StarAt.okX (ps := []) D S fun f cdv A outer s H vs Q E hr ⟨ds, L, R, RX, r, g, h, pq, px⟩ => ⟨_, body f cdv A outer s H E RX px hr, body_low r g pq (vc ds L R RX h)⟩
end
def aCallSt (asp : ASp) (RX : AX) (as : ATA) : ATE := fun env L Q => as env L fun ds L1 => ds.length ≤ sizeLine ∧ asp [.tup ds] L1 Q RX
section
variable {X : Cx} {c : AC X.K} {H0 : Hp} {e : Expr} {es : List Expr} {as : ATA} {x : Str} {p pos : Pos} {k : Nat} {asp : ASp} {CX : CXT} {E : XK} {RX : AX}
end
end AL
namespace L2
open PySem PySem.Spec PyProof.Rows
section
variable {X : Cx}
end
end L2
namespace AL
open PySem PySem.Spec PyProof.Rows L2 LamX JW
section
variable {X : Cx} {c : AC X.K}
end
end AL
namespace AL
open PySem PySem.Spec PyProof.Rows L2 LamX JW
theorem eqDL_map {α : Type} [DecidableEq α] {g : α → D} (hg : ∀ a b, eqDD (g a) (g b) = some (decide (a = b))) : ∀ l m : List α, ∃ b, eqDL (l.map g) (m.map g) = some b ∧ (b && l.length == m.length) = decide (l = m)
  | [], m => ⟨true, rfl, by cases m <;> simp⟩
  | a :: l, [] => ⟨true, rfl, by simp⟩
  | a :: l, b :: m => by
    obtain ⟨c, h1, h2⟩ := eqDL_map hg l m
    refine ⟨decide (a = b) && c, ?_, ?_⟩
    · show (match eqDD (g a) (g b), eqDL (l.map g) (m.map g) with | some a, some b => some (a && b) | _, _ => none) = _
      rw [hg, h1]
    · have e1 : ((a :: l).length == (b :: m).length) = (l.length == m.length) := by simp
      rw [e1, Bool.and_assoc, h2]
      by_cases ha : a = b
      · subst ha
        simp
      · simp [ha]
theorem eqSq_map {α : Type} [DecidableEq α] {g : α → D} (hg : ∀ a b, eqDD (g a) (g b) = some (decide (a = b))) {neg : Bool} {l m : List α} {L : Store} {Q : AQ} (hd : depDL (l.map g) ≤ 70) (q : Q (.bl (neg ^^ decide (l = m))) L) : eqSq neg (l.map g) (m.map g) L Q := by
  obtain ⟨b, h1, h2⟩ := eqDL_map hg l m
  refine ⟨b, h1, hd, ?_⟩
  rw [List.length_map, List.length_map, h2]
  exact q
theorem tree_eqDD (a b : JW.T) : eqDD (.tree a) (.tree b) = some (decide (a = b)) := rfl
end AL
namespace AL
open PySem PySem.Spec PyProof.Rows L2 LamX JW
def inX (neg : Bool) : D → D → Store → AQ → Prop
  | d, .ref p, L, Q => ∃ (a : PyData) (ds : List PyData), pyT L d = some a ∧ pyT L (.ref p) = some (.list ds) ∧ SeqAt.shaped a = true ∧ SeqAt.shaped (.list ds) = true ∧ Q (.bl (neg ^^ ds.any fun z => PyData.eqv z a)) L
  | _, _, _, _ => False
section
variable {X : Cx} {c : AC X.K}
theorem aop_inX (hu : X.A.units + 65 < cLine) : AOp X c (compareOp .In) (inX false) := by
  refine .mk' (op_inD hu) fun x y H Q d e L R rx ry g h pq => ?_
  unfold inX at h
  split at h
  · obtain ⟨a, ds, h1, h2, h3, h4, h⟩ := h
    rw [Bool.false_xor] at h
    exact ⟨a, ds, dpT_of g rx h1, dpT_of g ry h2, h3, h4, pq.here h g (rep_bl.mpr rfl)⟩
  · exact h.elim
end
theorem datL_any (t : T) : ∀ l : List T, ((datL l).any fun z => PyData.eqv z t.dat) = decide (t ∈ l)
  | [] => rfl
  | u :: l => by
    show (PyData.eqv u.dat t.dat || (datL l).any fun z => PyData.eqv z t.dat) = _
    rw [dat_eqv, datL_any t l]
    by_cases h : u = t
    · subst h
      simp
    · have : ¬ t = u := fun z => h z.symm
      simp [h, this]
theorem datL_shaped {l : List T} (h : ∀ t ∈ l, t.size ≤ 63) : SeqAt.shaped (.list (datL l)) = true := by
  unfold SeqAt.shaped
  have go : ∀ l : List T, (∀ t ∈ l, t.size ≤ 63) → PyData.depthAll (datL l) ≤ 63 := by
    intro l
    induction l with
    | nil => intro _; exact Nat.zero_le _
    | cons t r ih =>
      intro h
      have h1 := h t List.mem_cons_self
      have h2 := ih fun u hu => h u (List.mem_cons_of_mem _ hu)
      have h3 := dat_depth t
      show max t.dat.depth (PyData.depthAll (datL r)) ≤ 63
      omega
  have h1 := go l h
  have h2 : (PyData.list (datL l)).canLay0 = true := datL_lay l
  have h3 : (PyData.list (datL l)).depth = PyData.depthAll (datL l) + 1 := rfl
  rw [h2, decide_eq_true (by rw [h3]; omega)]
  rfl
theorem pyT_list {L : Store} {p : Addr} {l : List T} (h : L p = some (.lst (l.map dT))) : pyT L (.ref p) = some (.list (datL l)) := by
  show (match L p with | some (.lst l) => (pyFL l).map PyData.list | _ => none) = _
  rw [h]
  show (pyFL (l.map dT)).map PyData.list = _
  rw [← dTL_map, pyFL_dT]
  rfl
theorem inX_trees {neg : Bool} {t : T} {l : List T} {p : Addr} {L : Store} {Q : AQ} (hp : L p = some (.lst (l.map dT))) (h1 : t.size ≤ 64) (h2 : ∀ u ∈ l, u.size ≤ 63) (q : Q (.bl (neg ^^ decide (t ∈ l))) L) : inX neg (dT t) (.ref p) L Q :=
  ⟨t.dat, datL l, pyT_dT L t, pyT_list hp, dat_shaped h1, datL_shaped h2, by rw [datL_any]; exact q⟩
theorem units65 {k : Nat} {A : Around} (hr : Room k A) : A.units + 65 < cLine := by
  have := hr.un
  omega
end AL
namespace JW
open PySem PySem.Spec PyProof.Rows
theorem range_split {n i : Nat} {pre rest : List Nat} (e : List.range n = pre ++ i :: rest) : i = pre.length ∧ pre.length < n := by
  have h1 : (List.range n).length = n := List.length_range
  have h2 := h1
  rw [e, List.length_append, List.length_cons] at h2
  have h3 : (List.range n)[pre.length]? = some i := by
    rw [e, List.getElem?_append_right (Nat.le_refl _), Nat.sub_self]
    rfl
  have h4 : pre.length < n := by omega
  rw [List.getElem?_range h4] at h3
  exact ⟨(Option.some.inj h3).symm, h4⟩
section
variable {α : Type} [DecidableEq α]
end
theorem word_dep : ∀ t : T, t.word.length ≤ t.dep := by
  refine T.ind' (Nat.zero_le _) fun l ih => ?_
  show (lcsL (wordsL l)).length + 1 ≤ 1 + depL l
  cases hw : wordsL l with
  | nil =>
    show 0 + 1 ≤ _
    omega
  | cons w r =>
    have hm : w ∈ wordsL l := by rw [hw]; exact List.mem_cons_self
    obtain ⟨t, ht, _, e⟩ := mem_words.mp hm
    have h1 := (lcs_suf hm).length_le
    have h2 := ih t ht
    have h3 : t.dep < 1 + depL l := dep_lt ht
    rw [← hw]
    rw [e] at h2
    omega
theorem mem_prod_le {l : List T} (h : ∀ t ∈ l, Op t) {u : T} (hu : u ∈ l) : u.size ≤ (prodT l).size ∧ u.dep ≤ (prodT l).dep := by
  obtain ⟨a, c, e⟩ := List.append_of_mem hu
  rw [e] at h ⊢
  have p := part_le (a := a) (b := [u]) (c := c) (fun x hx => h x (by simp [hx])) (fun x hx => h x (by rw [List.mem_singleton.mp hx]; simp)) (fun x hx => h x (by simp [hx]))
  have e2 : a ++ [u] ++ c = a ++ u :: c := by simp
  rw [e2] at p
  exact p
end JW
namespace JW
open PySem PySem.Spec PyProof.Rows
def tlT : T → List T
  | .jet => []
  | .bas l => lcsL (wordsL l)
theorem word_bas (l : List T) : (T.bas l).word = cutT (prodT (tlT (.bas l))) (.bas l) :: tlT (.bas l) := rfl
theorem lcs_cat {ws vs : List (List T)} (h1 : ws ≠ []) (h2 : vs ≠ []) : lcsL (ws ++ vs) = lcsL [lcsL ws, lcsL vs] := by
  refine lcs_eq (fun z => h1 (List.append_eq_nil_iff.mp z).1) (fun w hw => ?_) fun x hx => lcs_max (by simp) fun w hw => ?_
  · rcases List.mem_append.mp hw with h | h
    · exact (lcs_suf (ws := [lcsL ws, lcsL vs]) (w := lcsL ws) (by simp)).trans (lcs_suf h)
    · exact (lcs_suf (ws := [lcsL ws, lcsL vs]) (w := lcsL vs) (by simp)).trans (lcs_suf h)
  · simp only [List.mem_cons, List.not_mem_nil, or_false] at hw
    rcases hw with rfl | rfl
    · exact lcs_max h1 fun w hw => hx w (List.mem_append_left _ hw)
    · exact lcs_max h2 fun w hw => hx w (List.mem_append_right _ hw)
theorem lcs_one (w : List T) : lcsL [w] = w := lcs_eq (by simp) (fun v hv => by rw [List.mem_singleton.mp hv]; exact List.suffix_refl _) fun x hx => hx w (by simp)
theorem words_mem_iff {l m : List T} (h : ∀ t, t ∈ l ↔ t ∈ m) (w : List T) : w ∈ wordsL l ↔ w ∈ wordsL m := by
  rw [mem_words, mem_words]
  exact ⟨fun ⟨t, a, b⟩ => ⟨t, (h t).mp a, b⟩, fun ⟨t, a, b⟩ => ⟨t, (h t).mpr a, b⟩⟩
theorem words_app (l m : List T) (w : List T) : w ∈ wordsL (l ++ m) ↔ w ∈ wordsL l ++ wordsL m := by
  rw [List.mem_append, mem_words, mem_words, mem_words]
  constructor
  · rintro ⟨t, a, b⟩
    rcases List.mem_append.mp a with z | z
    · exact .inl ⟨t, z, b⟩
    · exact .inr ⟨t, z, b⟩
  · rintro (⟨t, a, b⟩ | ⟨t, a, b⟩)
    · exact ⟨t, List.mem_append_left _ a, b⟩
    · exact ⟨t, List.mem_append_right _ a, b⟩
theorem jtsL_app (l m : List T) : jtsL (l ++ m) = jtsL l + jtsL m := by
  rw [jtsL_sum, jtsL_sum, jtsL_sum, List.map_append, List.sum_append]
def sumT (la lb : List T) : T := .bas (sortT (la ++ lb))
theorem sum_can {la lb : List T} (ha : Can (.bas la)) (hb : Can (.bas lb)) : Can (sumT la lb) := can_bas (canL_app ha.2 hb.2)
theorem sum_op {la lb : List T} (ha : Op (.bas la)) (hb : Can (.bas lb)) : Op (sumT la lb) := ⟨sum_can ha.1 hb, fun z => by
  have h1 : jtsL (sortT (la ++ lb)) = 0 := z
  rw [jtsL_perm (sortT_perm _), jtsL_app] at h1
  have h2 : jtsL la ≠ 0 := ha.2
  omega⟩
theorem sum_tl {la lb : List T} (ha : Op (.bas la)) (hb : Op (.bas lb)) : tlT (sumT la lb) = lcsL [tlT (.bas la), tlT (.bas lb)] := by
  show lcsL (wordsL (sortT (la ++ lb))) = lcsL [lcsL (wordsL la), lcsL (wordsL lb)]
  rw [← lcs_cat (words_ne ha.2) (words_ne hb.2)]
  refine (lcs_mem (fun z => words_ne ha.2 (List.append_eq_nil_iff.mp z).1) fun w => ?_).symm
  rw [words_mem_iff (fun t => (sortT_perm (la ++ lb)).mem_iff) w, words_app]
theorem sum_tl_shut {la ls : List T} (ha : Op (.bas la)) (hs : jtsL ls = 0) : tlT (sumT la ls) = tlT (.bas la) := by
  show lcsL (wordsL (sortT (la ++ ls))) = lcsL (wordsL la)
  refine (lcs_mem (words_ne ha.2) fun w => ?_).symm
  rw [words_mem_iff (fun t => (sortT_perm (la ++ ls)).mem_iff) w, words_app, List.mem_append]
  refine ⟨.inl, fun h => h.elim id fun z => ?_⟩
  obtain ⟨t, h1, h2, _⟩ := mem_words.mp z
  have h3 : t.jts ≤ jtsL ls := by
    obtain ⟨a, b, e⟩ := List.append_of_mem h1
    rw [e, jtsL_app]
    show t.jts ≤ jtsL a + (t.jts + jtsL b)
    omega
  omega
theorem ne_end {l : List T} (h : Op (.bas l)) {s : List T} (hs : s <:+ tlT (.bas l)) : T.bas l ≠ prodT s := fun z => by
  have hp := word_prime _ h
  have hq := (word_prod _ h).2
  have h1 : (prodT s).word = s := word_of_primes s fun q hqs => by
    have hm : q ∈ (T.bas l).word := by
      rw [word_bas]
      exact List.mem_cons_of_mem _ (hs.subset hqs)
    exact ⟨hq q hm, hp q hm⟩
  rw [← z, word_bas] at h1
  have h2 := congrArg List.length h1
  rw [List.length_cons] at h2
  have h3 := hs.length_le
  omega
theorem end_op {l : List T} (h : Op (.bas l)) {s : List T} (hs : s <:+ tlT (.bas l)) : (∀ q ∈ s, Op q ∧ Prm q) ∧ Op (prodT s) := by
  have hm : ∀ q ∈ s, q ∈ (T.bas l).word := fun q hqs => by
    rw [word_bas]
    exact List.mem_cons_of_mem _ (hs.subset hqs)
  have h1 : ∀ q ∈ s, Op q ∧ Prm q := fun q hqs => ⟨(word_prod _ h).2 q (hm q hqs), word_prime _ h q (hm q hqs)⟩
  exact ⟨h1, prod_op fun q hqs => (h1 q hqs).1⟩
theorem cut_end {l : List T} (h : Op (.bas l)) {s : List T} (hs : s <:+ tlT (.bas l)) : cutT (prodT s) (.bas l) = .bas (sortT (l.map (cutT (prodT s)))) := cut_open (ne_end h hs) h.2
theorem cut_sum {la lb : List T} (ha : Op (.bas la)) (hb : Op (.bas lb)) {s : List T} (hs : s <:+ tlT (sumT la lb)) (hsa : s <:+ tlT (.bas la)) (hsb : s <:+ tlT (.bas lb)) :
    cutT (prodT s) (sumT la lb) = sumT (sortT (la.map (cutT (prodT s)))) (sortT (lb.map (cutT (prodT s)))) := by
  unfold sumT at hs ⊢
  rw [cut_end (sum_op ha hb.1) hs]
  refine congrArg T.bas (sortT_congr ?_)
  refine ((sortT_perm (la ++ lb)).map _).trans ?_
  rw [List.map_append]
  exact ((sortT_perm _).symm).append (sortT_perm _).symm
theorem cut_sum_shut {la ls : List T} (ha : Op (.bas la)) (hs : jtsL ls = 0) (hc : Can (.bas ls)) : cutT (prodT (tlT (.bas la))) (sumT la ls) = sumT (sortT (la.map (cutT (prodT (tlT (.bas la)))))) ls := by
  have hsl : ∀ t ∈ ls, t.jts = 0 := fun t h1 => by
    obtain ⟨a, b, e⟩ := List.append_of_mem h1
    rw [e, jtsL_app] at hs
    have e2 : jtsL (t :: b) = t.jts + jtsL b := rfl
    omega
  have he := (end_op ha (List.suffix_refl _)).2
  have em : ls.map (cutT (prodT (tlT (.bas la)))) = ls := by
    have : ls.map (cutT (prodT (tlT (.bas la)))) = ls.map id := List.map_congr_left fun t ht => cut_closed (fun z => he.2 (by rw [← z]; exact hsl t ht)) (hsl t ht)
    rw [this, List.map_id]
  have ho := sum_op ha hc
  have h1 : tlT (.bas la) <:+ tlT (sumT la ls) := by rw [sum_tl_shut ha hs]; exact List.suffix_refl _
  unfold sumT at h1 ho ⊢
  rw [cut_end ho h1]
  refine congrArg T.bas (sortT_congr ?_)
  refine ((sortT_perm (la ++ ls)).map _).trans ?_
  rw [List.map_append, em]
  exact ((sortT_perm _).symm).append_right ls
theorem cov_suf {t : T} (h : Op t) {s : List T} (hs : s <:+ t.word) : cov (prodT s) t = true := by
  obtain ⟨r, hr⟩ := hs
  obtain ⟨h1, h2⟩ := word_prod t h
  rw [← hr] at h1 h2
  have hr2 : ∀ q ∈ r, Op q := fun q hq => h2 q (List.mem_append_left _ hq)
  have hs2 : ∀ q ∈ s, Op q := fun q hq => h2 q (List.mem_append_right _ hq)
  rw [← h1, prod_app (fun q hq => (hr2 q hq).1) fun q hq => (hs2 q hq).1]
  exact cov_grf _ _
end JW
namespace JW
open PySem PySem.Spec PyProof.Rows
theorem words_snoc (t : T) : ∀ l : List T, wordsL (l ++ [t]) = wordsL l ++ (if t.jts = 0 then [] else [t.word])
  | [] => by
    show (if t.jts = 0 then wordsL [] else t.word :: wordsL []) = [] ++ _
    split <;> rfl
  | u :: l => by
    show (if u.jts = 0 then wordsL (l ++ [t]) else u.word :: wordsL (l ++ [t])) = (if u.jts = 0 then wordsL l else u.word :: wordsL l) ++ _
    rw [words_snoc t l]
    split <;> rfl
theorem lcs_ok {l : List T} (hc : ∀ t ∈ l, Can t) (hn : wordsL l ≠ []) : (∀ q ∈ lcsL (wordsL l), Op q ∧ Prm q) ∧ Op (prodT (lcsL (wordsL l))) ∧ (prodT (lcsL (wordsL l))).word = lcsL (wordsL l) ∧ ∃ t ∈ l, (prodT (lcsL (wordsL l))).size ≤ t.size ∧ (prodT (lcsL (wordsL l))).dep ≤ t.dep := by
  cases hw : wordsL l with
  | nil => exact absurd hw hn
  | cons w r =>
    have hm : w ∈ wordsL l := by rw [hw]; exact List.mem_cons_self
    obtain ⟨t, ht, hj, rfl⟩ := mem_words.mp hm
    have ho : Op t := ⟨hc t ht, hj⟩
    have hs := lcs_suf hm
    rw [hw] at hs
    obtain ⟨z, hz⟩ := hs
    obtain ⟨h1, h2⟩ := word_prod t ho
    have h3 := word_prime t ho
    have hq : ∀ q ∈ lcsL (t.word :: r), Op q ∧ Prm q := fun q hq => ⟨h2 q (by rw [← hz]; exact List.mem_append_right _ hq), h3 q (by rw [← hz]; exact List.mem_append_right _ hq)⟩
    refine ⟨hq, prod_op fun q h => (hq q h).1, word_of_primes _ hq, t, ht, ?_⟩
    have h4 := part_le (a := z) (b := lcsL (t.word :: r)) (c := []) (fun x hx => h2 x (by rw [← hz]; exact List.mem_append_left _ hx)) (fun x hx => (hq x hx).1) (fun x hx => absurd hx List.not_mem_nil)
    rw [List.append_nil, hz, h1] at h4
    exact h4
end JW
namespace JW
open PySem PySem.Spec PyProof.Rows
theorem end_small {l : List T} (h : Op (.bas l)) : (prodT (tlT (.bas l))).size < (T.bas l).size ∧ (prodT (tlT (.bas l))).dep < (T.bas l).dep ∧ Op (prodT (tlT (.bas l))) ∧ (prodT (tlT (.bas l))).word = tlT (.bas l) := by
  obtain ⟨_, h2, h3, t, ht, h4, h5⟩ := lcs_ok (canL_iff.mp h.1.2) (words_ne h.2)
  have h6 := size_mem ht
  have h7 := dep_lt ht
  refine ⟨?_, ?_, h2, h3⟩
  · show (prodT (lcsL (wordsL l))).size < _
    omega
  · show (prodT (lcsL (wordsL l))).dep < _
    omega
theorem depL_app (l m : List T) : depL (l ++ m) = max (depL l) (depL m) := by
  induction l with
  | nil =>
    show depL m = max 0 (depL m)
    omega
  | cons t l ih =>
    show max t.dep (depL (l ++ m)) = max (max t.dep (depL l)) (depL m)
    rw [ih]
    omega
theorem sum_size (la lb : List T) : (sumT la lb).size = 1 + sizeL la + sizeL lb := by
  show 1 + sizeL (sortT (la ++ lb)) = _
  rw [sizeL_perm (sortT_perm _), sizeL_app]
  omega
theorem sum_dep (la lb : List T) : (sumT la lb).dep = 1 + max (depL la) (depL lb) := by
  show 1 + depL (sortT (la ++ lb)) = _
  rw [depL_perm (sortT_perm _), depL_app]
theorem first_ok {l : List T} (h : Op (.bas l)) : Op (cutT (prodT (tlT (.bas l))) (.bas l)) ∧ Prm (cutT (prodT (tlT (.bas l))) (.bas l)) ∧ T.grf (prodT (tlT (.bas l))) (cutT (prodT (tlT (.bas l))) (.bas l)) = .bas l ∧
    (cutT (prodT (tlT (.bas l))) (.bas l)).size ≤ (T.bas l).size ∧ (cutT (prodT (tlT (.bas l))) (.bas l)).dep ≤ (T.bas l).dep ∧ cov (prodT (tlT (.bas l))) (.bas l) = true := by
  obtain ⟨h1, h2, h3, h4⟩ := word_part h
  have hm : cutT (prodT (tlT (.bas l))) (.bas l) ∈ (T.bas l).word := by
    rw [word_bas]
    exact List.mem_cons_self
  have h5 := grf_size_le (prodT (tlT (.bas l))) (cutT (prodT (tlT (.bas l))) (.bas l))
  have h6 := grf_dep_le (prodT (tlT (.bas l))) (cutT (prodT (tlT (.bas l))) (.bas l))
  have h3' : T.grf (prodT (tlT (.bas l))) (cutT (prodT (tlT (.bas l))) (.bas l)) = .bas l := h3
  rw [h3'] at h5 h6
  refine ⟨h2, word_prime _ h _ hm, h3, h5, h6, cov_suf h ?_⟩
  rw [word_bas]
  exact List.suffix_cons _ _
end JW
namespace JW
open PySem PySem.Spec PyProof.Rows
theorem lng_dep : ∀ t : T, t.lng ≤ t.dep := by
  apply T.ind'
  · exact Nat.le_refl _
  · intro l ih
    have hl : ∀ l : List T, (∀ t ∈ l, t.lng ≤ t.dep) → lngL l ≤ depL l := by
      intro l
      induction l with
      | nil => exact fun _ => Nat.le_refl _
      | cons t l ih =>
        intro h
        have h1 := h t List.mem_cons_self
        have h2 := ih fun u hu => h u (List.mem_cons_of_mem _ hu)
        simp only [lngL, depL]
        split <;> omega
    have := hl l ih
    show 1 + lngL l ≤ 1 + depL l
    omega
end JW
namespace AL
open PySem PySem.Spec PyProof.Rows L2 LamX JW
theorem dat_dep : ∀ t : T, t.dat.depth ≤ t.dep := by
  refine T.ind' (Nat.le_refl _) fun l ih => ?_
  show PyData.depthAll (datL l) + 1 ≤ 1 + depL l
  have go : ∀ l : List T, (∀ t ∈ l, t.dat.depth ≤ t.dep) → PyData.depthAll (datL l) ≤ depL l := by
    intro l
    induction l with
    | nil => intro _; exact Nat.le_refl _
    | cons t r ihr =>
      intro h
      have h1 := h t List.mem_cons_self
      have h2 := ihr fun u hu => h u (List.mem_cons_of_mem _ hu)
      show max t.dat.depth (PyData.depthAll (datL r)) ≤ max t.dep (depL r)
      omega
  have := go l ih
  omega
theorem dat_shapedD {t : T} (h : t.dep ≤ 64) : SeqAt.shaped t.dat = true := by
  unfold SeqAt.shaped
  rw [dat_lay t, decide_eq_true (Nat.le_trans (dat_dep t) h)]
  rfl
theorem eqX_treeD {neg : Bool} {t u : T} {L : Store} {Q : AQ} (h1 : t.dep ≤ 64) (h2 : u.dep ≤ 64) (q : Q (.bl (neg ^^ decide (t = u))) L) : eqX neg (dT t) (dT u) L Q :=
  ⟨t.dat, u.dat, pyT_dT L t, pyT_dT L u, dat_shapedD h1, dat_shapedD h2, by rw [dat_eqv]; exact q⟩
theorem eqD_treeD {neg : Bool} {t u : T} {L : Store} {Q : AQ} (h1 : t.dep ≤ 64) (h2 : u.dep ≤ 64) (q : Q (.bl (neg ^^ decide (t = u))) L) : eqD neg (dT t) (dT u) L Q := by
  cases t with
  | jet => cases u with
    | jet =>
      show Q (.bl (neg ^^ decide (tx T.jet = tx T.jet))) L
      rw [decide_eq_true rfl] at q ⊢
      exact q
    | bas m => exact eqX_treeD h1 h2 q
  | bas l => cases u with
    | jet => exact eqX_treeD h1 h2 q
    | bas m => exact eqX_treeD h1 h2 q
theorem eqD_oD {neg : Bool} {t : T} {L : Store} {Q : AQ} (h1 : t.dep ≤ 64) (q : Q (.bl (neg ^^ decide (t = .jet))) L) : eqD neg (dT t) (.str ("o" : Str)) L Q := by
  rw [← dT_jet]
  exact eqD_treeD h1 (by decide) q
end AL
namespace AL
open PySem PySem.Spec PyProof.Rows L2 LamX JW
section
variable {X : Cx} {c : AC X.K} {H0 : Hp} {e : Expr} {es : List Expr} {as : ATA} {x : Str} {p pos : Pos} {k : Nat} {asp : ASp}
theorem ae_callSt (C : CallS X.prog X.w X.K X.mg X.base CX0 k x (starSp 0 (spA c asp))) (hr : Room k X.A) (hg : Gl X x) (ha : AA X c H0 (e :: es) as) (hdb : (x == ("__debug__" : Str)) = false := by decide)
    (he : starEach (e :: es) X.env = (false, eval e X.env) :: starEach es X.env := by rfl) (hpl : (backTo pos (starEach es X.env)).any (·.1) = false := by rfl) : AE X c H0 (.Call (.Name x p) (e :: es) [] pos) (aCallSt asp anyX as) := by
  refine (pe_callSt (E := fun _ _ _ => True) C hr hg pass0 ha hdb he hpl).imp fun σ H Q q => ?_
  obtain ⟨env, L, R, rl, h, pq⟩ := q
  refine ⟨env, L, _, rl, h, fun ds L1 vs H1 q s1 g1 r1 => ?_⟩
  obtain ⟨hz, q⟩ := q
  refine ⟨[], vs, rfl, rfl, by rw [r1.len]; exact hz, fun b hb => ?_⟩
  exact ⟨[.tup ds], L1, R, anyX, .one (rep_tup.mpr ⟨b, vs, rfl, SqT.of upd_same, r1.fr (.new hb)⟩), g1.new hb _, q, pq.fr (s1.trans (.new hb)), px_any⟩
end
end AL
namespace JW
open PySem PySem.Spec PyProof.Rows L2 AL
open He
structure Txt (K : PySem.W.Frag) (mg : Str → Option Value) (base : Heap) : Prop where
  cls : ClsF K mg
  gMOST : ∃ t, mg "MOST" = some (.int (5000) t)
  gDEEPEST : ∃ t, mg "DEEPEST" = some (.int (120) t)
  gJET_TEXT : ∃ t, mg "JET_TEXT" = some (.str ("o") t)
  e_NoBasin : ErrAt K mg "NoBasin" (He.ga K "NoBasin") "NoBasin.__init__" s_NoBasin___init__ ["self"]
  e_Closed : ErrAt K mg "Closed" (He.ga K "Closed") "Closed.__init__" s_Closed___init__ ["self"]
  e_TooLarge : ErrAt K mg "TooLarge" (He.ga K "TooLarge") "TooLarge.__init__" s_TooLarge___init__ ["self", "pieces"]
  na_TooLarge : PySem.W.findIn K (.ref (He.ga K "TooLarge")) "pieces" = some none
  e_TooDeep : ErrAt K mg "TooDeep" (He.ga K "TooDeep") "TooDeep.__init__" s_TooDeep___init__ ["self", "basins"]
  na_TooDeep : PySem.W.findIn K (.ref (He.ga K "TooDeep")) "basins" = some none
  e_NoDifference : ErrAt K mg "NoDifference" (He.ga K "NoDifference") "NoDifference.__init__" s_NoDifference___init__ ["self", "branch"]
  na_NoDifference : PySem.W.findIn K (.ref (He.ga K "NoDifference")) "branch" = some none
  d_check_numbers : DefAt K mg "check_numbers" "check_numbers" s_check_numbers [] ["numbers"]
  d_basin_numbers : DefAt K mg "basin_numbers" "basin_numbers" s_basin_numbers [] ["branches"]
  d_product_numbers : DefAt K mg "product_numbers" "product_numbers" s_product_numbers [] ["one", "other"]
  d_parsed : DefAt K mg "parsed" "parsed" s_parsed [] ["text"]
  d_made : DefAtP K mg "made" "made" s_made ["branches"]
  tb_made : LamX.TabB base mg (He.cT K ("made", none)).1 (He.cT K ("made", none)).2
  d_allowed : DefAt K mg "allowed" "allowed" s_allowed [] ["fountain"]
  d_grafted : DefAt K mg "grafted" "grafted" s_grafted [] ["fountain", "part"]
  d_cut : DefAt K mg "cut" "cut" s_cut [] ["fountain", "part"]
  d_bare_place : DefAt K mg "bare_place" "bare_place" s_bare_place [] ["fountain", "part", "path"]
  d_carries : DefAt K mg "carries" "carries" s_carries [] ["fountain", "part"]
  d_multiplied : DefAt K mg "multiplied" "multiplied" s_multiplied [] ["factors"]
  init : InitAt K mg "Fountain" (cF K) "Fountain.__init__" s_Fountain___init__ [.non] ["self", "text", "branches"]
  c_basin : CmAt K (cF K) "basin" "Fountain.basin" s_Fountain_basin ["cls", "parts"]
  c_spray : CmAt K (cF K) "spray" "Fountain.spray" s_Fountain_spray ["cls", "count"]
  c_product : CmAt K (cF K) "product" "Fountain.product" s_Fountain_product ["cls", "parts"]
  p_text : PropAt K (cF K) "text" "Fountain.text" s_Fountain_text
  p_parts : PropAt K (cF K) "parts" "Fountain.parts" s_Fountain_parts
  p_size : PropAt K (cF K) "size" "Fountain.size" s_Fountain_size
  p_jets : PropAt K (cF K) "jets" "Fountain.jets" s_Fountain_jets
  p_depth : PropAt K (cF K) "depth" "Fountain.depth" s_Fountain_depth
  p_longest : PropAt K (cF K) "longest" "Fountain.longest" s_Fountain_longest
  p_shortest : PropAt K (cF K) "shortest" "Fountain.shortest" s_Fountain_shortest
  p_is_open : PropAt K (cF K) "is_open" "Fountain.is_open" s_Fountain_is_open
  p_is_jet : PropAt K (cF K) "is_jet" "Fountain.is_jet" s_Fountain_is_jet
  m___eq__ : MethAt K (cF K) "__eq__" "Fountain.__eq__" s_Fountain___eq__ ["self", "other"]
  m___repr__ : MethAt K (cF K) "__repr__" "Fountain.__repr__" s_Fountain___repr__ ["self"]
  m___len__ : MethAt K (cF K) "__len__" "Fountain.__len__" s_Fountain___len__ ["self"]
  m___getitem__ : MethAt K (cF K) "__getitem__" "Fountain.__getitem__" s_Fountain___getitem__ ["self", "at"]
  m___contains__ : MethAt K (cF K) "__contains__" "Fountain.__contains__" s_Fountain___contains__ ["self", "part"]
  m___add__ : MethAt K (cF K) "__add__" "Fountain.__add__" s_Fountain___add__ ["self", "other"]
  m___sub__ : MethAt K (cF K) "__sub__" "Fountain.__sub__" s_Fountain___sub__ ["self", "other"]
  m___mul__ : MethAt K (cF K) "__mul__" "Fountain.__mul__" s_Fountain___mul__ ["self", "other"]
  m___floordiv__ : MethAt K (cF K) "__floordiv__" "Fountain.__floordiv__" s_Fountain___floordiv__ ["self", "other"]
  m_at : MethAt K (cF K) "at" "Fountain.at" s_Fountain_at ["self", "path"]
  m_put : MethAt K (cF K) "put" "Fountain.put" s_Fountain_put ["self", "path", "part"]
  d_need_open : StarAt K mg "need_open" "need_open" s_need_open [] "fountains"
  d_shared_tail : DefAt K mg "shared_tail" "shared_tail" s_shared_tail [] ["words"]
  d_open_branches : DefAt K mg "open_branches" "open_branches" s_open_branches [] ["fountain"]
  d_word_and_ends : DefAt K mg "word_and_ends" "word_and_ends" s_word_and_ends [] ["fountain"]
  d_word_of : DefAt K mg "word_of" "word_of" s_word_of [] ["fountain"]
  d_factors : DefAt K mg "factors" "factors" s_factors [] ["a"]
  d_is_prime : DefAt K mg "is_prime" "is_prime" s_is_prime [] ["a"]
  d_common_end : DefAt K mg "common_end" "common_end" s_common_end [] ["a", "b"]
  d__law_sack : DefAt K mg "_law_sack" "_law_sack" s__law_sack [] ["_law_script", "_law_base"]
  d__law_take : DefAt K mg "_law_take" "_law_take" s__law_take [] ["_law_sack_here", "_law_many"]
  d__law_mixed : DefAt K mg "_law_mixed" "_law_mixed" s__law_mixed [] ["_law_sack_here", "_law_some"]
  d__law_text : DefAt K mg "_law_text" "_law_text" s__law_text [] ["_law_tree_here"]
  d__law_basin : DefAt K mg "_law_basin" "_law_basin" s__law_basin [] ["_law_parts"]
  d__law_size : DefAt K mg "_law_size" "_law_size" s__law_size [] ["_law_tree_here"]
  d__law_jets : DefAt K mg "_law_jets" "_law_jets" s__law_jets [] ["_law_tree_here"]
  d__law_tree : DefAt K mg "_law_tree" "_law_tree" s__law_tree [] ["_law_sack_here", "_law_size_here"]
  d__law_open : DefAt K mg "_law_open" "_law_open" s__law_open [] ["_law_sack_here", "_law_size_here"]
  d__law_grafted : DefAt K mg "_law_grafted" "_law_grafted" s__law_grafted [] ["_law_tree_here", "_law_part"]
  d__law_product : DefAt K mg "_law_product" "_law_product" s__law_product [] ["_law_trees"]
  d__law_cut : DefAt K mg "_law_cut" "_law_cut" s__law_cut [] ["_law_tree_here", "_law_part"]
  d__law_bare : DefAt K mg "_law_bare" "_law_bare" s__law_bare [] ["_law_tree_here", "_law_part"]
  d__law_loose : DefAt K mg "_law_loose" "_law_loose" s__law_loose [] ["_law_sack_here", "_law_tree_here"]
  d__law_made : DefAt K mg "_law_made" "_law_made" s__law_made [] ["_law_sack_here", "_law_tree_here"]
  d__law_first_way : DefAt K mg "_law_first_way" "_law_first_way" s__law_first_way [] ["_law_tree_here"]
  d__law_word : DefAt K mg "_law_word" "_law_word" s__law_word [] ["_law_tree_here"]
  d__law_primes : DefAt K mg "_law_primes" "_law_primes" s__law_primes [] ["_law_sack_here", "_law_many"]
  d__law_fits : DefAt K mg "_law_fits" "_law_fits" s__law_fits [] ["_law_word_here"]
  d__law_some_word : DefAt K mg "_law_some_word" "_law_some_word" s__law_some_word [] ["_law_sack_here", "_law_pool_here", "_law_many"]
  d__law_pool : DefAt K mg "_law_pool" "_law_pool" s__law_pool [] ["_law_sack_here"]
  d__law_shut : DefAt K mg "_law_shut" "_law_shut" s__law_shut [] ["_law_sack_here"]
  d__law_end_of : DefAt K mg "_law_end_of" "_law_end_of" s__law_end_of [] ["_law_a"]
  d__law_drawn : DefAt K mg "_law_drawn" "_law_drawn" s__law_drawn [] ["_law_sack_here", "_law_pool_here", "_law_end"]
  d__law_basin_right : DefAt K mg "_law_basin_right" "_law_basin_right" s__law_basin_right [] ["_law_a"]
  d__law_sum_right : DefAt K mg "_law_sum_right" "_law_sum_right" s__law_sum_right [] ["_law_a", "_law_b", "_law_shut_here"]
  d__law_many_right : DefAt K mg "_law_many_right" "_law_many_right" s__law_many_right [] ["_law_sack_here"]
  d_law : DefAt K mg "law" "law" s_law [] ["_law_script"]
  b_JetError : mg "JetError" = some (.ref (He.ga K "JetError")) ∧ InitBy K (He.ga K "JetError")
  b_NoDivision : mg "NoDivision" = some (.ref (He.ga K "NoDivision")) ∧ InitBy K (He.ga K "NoDivision")
  n_NotImplemented : mg "NotImplemented" = none
  n_TypeError : mg "TypeError" = none
  n_abs : mg "abs" = none
  n_all : mg "all" = none
  n_any : mg "any" = none
  n_enumerate : mg "enumerate" = none
  n_int : mg "int" = none
  n_isinstance : mg "isinstance" = none
  n_len : mg "len" = none
  n_list : mg "list" = none
  n_max : mg "max" = none
  n_min : mg "min" = none
  n_range : mg "range" = none
  n_sorted : mg "sorted" = none
  n_sum : mg "sum" = none
  n_tuple : mg "tuple" = none
abbrev TT (K : PySem.W.Frag) : List (Addr × Str) := [((He.cT K ("made", none)).2, ("made.<locals>." : Str) ++ "<lambda>")]
abbrev cA (K : PySem.W.Frag) (scr : Option (Addr × List Int)) : AL.AC K := ⟨TT K, [], scr⟩
section
variable {P : Program} {w : World} {K : PySem.W.Frag} {mg : Str → Option Value} {base : Heap}
def sp__law_sack (K : PySem.W.Frag) : Sp := fun vs H Q _ => ∃ (a : Addr) (ns : List Int) (i : Nat), vs = [.ref a, .int i] ∧ SqL K H a (ns.map V.int) ∧ ns.length ≤ 63 ∧ i ≤ 10 ∧ ∀ H' d g, Same H H' → H d = none → H g = none → SackAt H' d g → Q (.ref d) H'
theorem ok__law_sack (T : Txt K mg base) : CallD P w K mg base CX0 2 "_law_sack" ["_law_script", "_law_base"] [] (sp__law_sack K) := by
  refine T.d__law_sack.ok sc__law_sack (fun vs H Q E h => ?_) (fun f cdv A outer s H vs Q E hr h => ?_)

  · obtain ⟨a, ns, i, rfl, _⟩ := h
    rfl
  · obtain ⟨a, ns, i0, rfl, hS, hn, hi, k⟩ := h
    have cut : ∀ (lo hi : Option Int), ∃ ms : List Int, cutV (ns.map V.int) lo hi = ms.map V.int ∧ ms.length ≤ 63 := fun lo hi => by
      refine ⟨((ns.drop (HT.sIx (ns.map V.int).length 0 lo)).take (HT.sIx (ns.map V.int).length (ns.map V.int).length hi - HT.sIx (ns.map V.int).length 0 lo)), ?_, ?_⟩
      · unfold cutV
        rw [List.map_take, List.map_drop]
      · rw [List.length_take, List.length_drop]
        omega
    refine ⟨_, (pss_cons (ps_set (i := 2) sc__law_sack.nd rfl (by first | exact Or.inl rfl | exact Or.inr rfl) (pe_op op_add pe_int (pe_op op_mul pe_int (pv 1))))
      (pss_cons (ps_for PassesOwn.never rfl (pi_list (pe_slice sl_list (pv 0) po_none (po_some pe_int))) (pg_name (i := 3) sc__law_sack.nd rfl (by first | exact Or.inl rfl | exact Or.inr rfl))
        (pss_one (ps_set (i := 2) sc__law_sack.nd rfl (by first | exact Or.inl rfl | exact Or.inr rfl) (pe_op op_mod (pe_op op_add (pe_op op_add (pe_op op_mul (pv 2) pe_int) (pe_op op_mod (pe_callB call_abs (by rfl) T.n_abs (by decide +kernel) (pa_cons (pv 3) pa_nil)) pe_int)) pe_int) pe_int))))
      (pss_cons (ps_setLc (i := 4) (own := [("_law_cell", 3)]) (g := gName 3) (by rfl) sc__law_sack.nd rfl rfl (sw_true rfl rfl rfl (by decide +kernel)) (pi_list (pe_slice sl_list (pv 0) (po_some (pv 1)) (po_some pe_int))) (blkOk_by (by kernel_rfl)) (fun _ _ _ _ _ => pg_name (i := 3) sc__law_sack.nd rfl (by first | exact Or.inl rfl | exact Or.inr rfl)) (fun _ _ _ _ _ => pts_one (pt_cmpR op_ge (pv 3) (pe_op op_pow pe_int pe_int) (nomark _))) (fun _ _ _ _ _ => (pv 3)))
      (pss_one (ps_ret (pe_disp (pps_cons pe_str (pe_revL (pv 4)) (pps_cons pe_str pe_int (pps_cons pe_str (pe_op op_add (pv 2) pe_int) (pps_cons pe_str pe_int pps_nil)))) (by rfl) (by rfl) (fun z => by cases z) (by decide))))))), ?_⟩
    refine ⟨_, rfl, _, _, rfl, rfl, .inl (by decide), _, _, rfl, rfl, ?_⟩
    refine ⟨_, rfl, _, rfl, a, _, rfl, hS, fun p hp => ?_⟩
    obtain ⟨ms, em, lm⟩ := cut none (some 40)
    rw [em]
    refine ⟨p, rfl, ⟨_, SqL.of upd_same⟩, for_list (K := K) (a := p) (xs := ms.map V.int) (fun _ σ' H' => ∃ (b : Int) (v : Option V), σ' = [some (.ref a), some (.int i0), some (.int b), v, none] ∧ H' = upd H p (.lst (ms.map V.int)))
      ⟨_, none, rfl, rfl⟩ (fun _ _ _ _ ⟨_, _, _, e⟩ => by rw [e]; exact SqL.of upd_same) ?_ ?_⟩
    · rintro i x σ' H' hx ⟨b, v, rfl, rfl⟩
      obtain ⟨z, rfl⟩ : ∃ z, x = V.int z := by
        rw [List.getElem?_map] at hx
        cases e : ms[i]? with
        | none => rw [e] at hx; cases hx
        | some z => rw [e] at hx; exact ⟨z, (Option.some.inj hx).symm⟩
      exact ⟨_, rfl, _, _, rfl, rfl, .inr (by decide), _, rfl, _, rfl, _, _, rfl, rfl, by show (0 : Int) < 2147483629; decide, _, _, rfl, rfl, _, _, rfl, rfl, _, _, rfl, rfl, by show (0 : Int) < 2147483647; decide, _, _, rfl, rfl⟩
    rintro σ' H' ⟨b, v, rfl, rfl⟩
    have s1 : Same H (upd H p (.lst (ms.map V.int))) := (Same.refl H).new hp
    generalize upd H p (.lst (ms.map V.int)) = H1 at s1 ⊢
    refine ⟨_, rfl, _, rfl, _, rfl, _, rfl, a, _, rfl, s1.seq hS, fun p2 hp2 => ?_⟩
    obtain ⟨ms2, em2, lm2⟩ := cut (some (i0 : Int)) (some 40)
    rw [em2]
    refine ⟨p2, rfl, ⟨_, SqL.of upd_same⟩, fun D hD => lc_list (K := K) (a := p2) (xs := ms2.map V.int) (fun i H' => Same H1 H' ∧ H1 D = none ∧ H' p2 = some (.lst (ms2.map V.int)) ∧ ∃ zs : List Int, zs.length ≤ i ∧ H' D = some (.lst (zs.map V.int)))
      ⟨((Same.refl H1).new hp2).new hD, ((Same.refl H1).new hp2).free hD, upd_old upd_same hD, [], Nat.le_refl _, upd_same⟩ (fun _ _ _ h => SqL.of h.2.2.1) ?_ ?_⟩
    · rintro i x H' hx ⟨s2, hD0, hp2', zs, lz, hD'⟩
      have hi63 : i < 63 := by
        have q := (List.getElem?_eq_some_iff.mp hx).1
        rw [List.length_map] at q
        omega
      obtain ⟨z, rfl⟩ : ∃ z, x = V.int z := by
        rw [List.getElem?_map] at hx
        cases e : ms2[i]? with
        | none => rw [e] at hx; cases hx
        | some z => rw [e] at hx; exact ⟨z, (Option.some.inj hx).symm⟩
      refine ⟨rfl, _, rfl, _, _, rfl, rfl, ⟨by decide, by decide, by decide⟩, _, _, rfl, rfl, _, rfl, ite2 (fun _ => ?_) (fun _ => ⟨s2, hD0, hp2', zs, by omega, hD'⟩)⟩
      refine ⟨_, rfl, _, hD', ?_, s2.mine hD0, hD0, ?_, zs ++ [z], ?_, ?_⟩
      · rw [List.length_map]
        exact small1000 (by omega)
      · rw [upd_ne (ne_of_none upd_same hD)]
        exact hp2'
      · rw [List.length_append]
        show zs.length + 1 ≤ i + 1
        omega
      · rw [upd_same, List.map_append]
        rfl
    rintro H' ⟨s2, hD0, hp2', zs, lz, hD'⟩
    refine fun p3 hp3 => ⟨_, rfl, D, _, rfl, SqL.of (upd_old hD' hp3), fun p4 hp4 => ⟨_, rfl, _, _, rfl, rfl, ?_, sackD p4 0 (b + 1) 0, rfl, by show 4 ≤ 15; decide, ?_⟩⟩
    · exact upd_old upd_same hp4
    rw [sack_made]
    have sH := s1.trans s2
    have q3 := sH.free hp3
    have n34 : p3 ≠ p4 := ne_of_none upd_same hp4
    refine k _ p3 p4 (((sH.new hp3).new hp4).mine q3) q3 ((sH.new hp3).free hp4) ⟨zs.reverse, _, _, _, n34, upd_same, ?_⟩
    rw [upd_ne n34.symm, upd_same, List.map_reverse]
def asp__law_sack : ASp
  | [.scr, .int i], L, Q, _ => 0 ≤ i ∧ i ≤ 10 ∧ ∀ d g ns, L d = none → L g = none → d ≠ g → Q (.ref d) (sput (sput L g (intsM ns)) d (sackM g))
  | _, _, _, _ => False
theorem okA__law_sack (T : Txt K mg base) {scr : Option (Addr × List Int)} : CallD P w K mg base CX0 2 "_law_sack" ["_law_script", "_law_base"] [] (spA (cA K scr) asp__law_sack) :=
  (ok__law_sack T).imp fun vs H Q E ⟨ds, L, R, RX, r, g, h, pq, px⟩ => by
    unfold asp__law_sack at h
    split at h
    · rename_i i
      obtain ⟨h1, h2, h⟩ := h
      obtain ⟨v, w, rfl, r1, r2⟩ := repL_two r
      obtain ⟨a, ns, e1, rfl⟩ := rep_scr.mp r1
      cases rep_int.mp r2
      refine ⟨a, ns, i.toNat, by rw [Int.toNat_of_nonneg h1], g.seq e1, (g.scr a ns e1).1, by omega, fun H' d y s' hd hy f' => ?_⟩
      obtain ⟨ms, ndy, g'⟩ := sack_new g s' hd hy f'
      exact pq _ _ _ H' (h d y ms (g.fresh hd) (g.fresh hy) ndy) (.same s') g' (rep_ref.mpr rfl)
    · exact h.elim

def sp__law_take : Sp := fun vs H Q _ => ∃ (d g : Addr) (many : Int), vs = [.ref d, .int many] ∧ SackAt H d g ∧ 0 < many ∧ many < 1073741824 ∧ ∀ (v : Int) H', 0 ≤ v → v < many → SackAt H' d g → Same2 d g H H' → Q (.int v) H'
theorem ok__law_take  (T : Txt K mg base) : CallD P w K mg base CX0 2 "_law_take" ["_law_sack_here", "_law_many"] [] (sp__law_take) := by
  refine T.d__law_take.ok sc__law_take (fun vs H Q E h => ?_) (fun f cdv A outer s H vs Q E hr h => ?_)
  · obtain ⟨d, g, many, rfl, _⟩ := h
    rfl
  · obtain ⟨d, g, many, rfl, ⟨ns, a, b, c, ndg, hd, hg⟩, h0, h1, k⟩ := h
    refine ⟨_, (pss_cons (ps_via (ps_if (PW.pt (pw_and (pt_cmpR op_eq (pe_dget (hu_of hr) (pv 0) pe_str (fun _ _ => rfl)) pe_int (nomark _)) (pw_and1 (pt_cmpR (op_neNilK (K := K) rfl hr.units0) (pe_dget (hu_of hr) (pv 0) pe_str (fun _ _ => rfl)) (pe_lst pa_nil) (nomark _)))))
        (pss_one (ps_dput (hu_of hr) (pv 0) pe_str (pe_bm0 PySem.F.plainAttrs_list PySem.F.slot_list_pop PySem.F.type_list_pop mt_pop (pe_dget (hu_of hr) (pv 0) pe_str (fun _ _ => rfl))) rfl))
        pss_nil))
      (pss_cons (ps_if (pt_cmpR op_gt (pe_dget (hu_of hr) (pv 0) pe_str (fun _ _ => rfl)) pe_int (nomark _))
        (pss_cons (ps_set (i := 2) sc__law_take.nd rfl (by first | exact Or.inl rfl | exact Or.inr rfl) (pe_op op_mod (pe_dget (hu_of hr) (pv 0) pe_str (fun _ _ => rfl)) (pv 1)))
        (pss_cons (ps_dput (hu_of hr) (pv 0) pe_str (pe_op op_fdiv (pe_dget (hu_of hr) (pv 0) pe_str (fun _ _ => rfl)) (pv 1)) rfl)
        (pss_one (ps_ret (pv 2)))))
        pss_nil)
      (pss_cons (ps_dput (hu_of hr) (pv 0) pe_str (pe_op op_add (pe_dget (hu_of hr) (pv 0) pe_str (fun _ _ => rfl)) pe_int) rfl)
      (pss_cons (ps_set (i := 3) sc__law_take.nd rfl (by first | exact Or.inl rfl | exact Or.inr rfl) (pe_op op_mod (pe_op op_mul (pe_op op_mod (pe_op op_add (pe_dget (hu_of hr) (pv 0) pe_str (fun _ _ => rfl)) (pe_op op_mul pe_int (pe_dget (hu_of hr) (pv 0) pe_str (fun _ _ => rfl)))) pe_int) pe_int) pe_int))
      (pss_cons (ps_dput (hu_of hr) (pv 0) pe_str (pe_op op_add (pe_op op_mod (pe_op op_add (pv 3) (pe_op op_mul pe_int (pe_dget (hu_of hr) (pv 0) pe_str (fun _ _ => rfl)))) pe_int) pe_int) rfl)
      (pss_one (ps_ret (pe_op op_mod (pe_op op_fdiv (pe_op op_add (pe_op op_mul (pv 3) pe_int) (pe_dget (hu_of hr) (pv 0) pe_str (fun _ _ => rfl))) pe_int) (pv 1))))))))), ?_⟩
    -- if sack['now'] == 0 and sack['great'] != []: sack['now'] = sack['great'].pop()
    refine ⟨fun σ' H' => ∃ (ns : List Int) (a : Int), σ' = [some (.ref d), some (.int many), none, none] ∧ Same2 d g H H' ∧ H' d = some (.dK (sackD g a b c)) ∧ H' g = some (.lst (ns.map V.int)), ?_, ?_⟩
    · refine ⟨_, rfl, d, _, rfl, dget hd sack_now, rfl, _, rfl, ite2 (fun _ => ?_) (fun _ => iteF ⟨ns, a, rfl, Same2.refl _ _ _, hd, hg⟩)⟩
      refine ⟨_, rfl, d, _, rfl, dget hd sack_great, Nat.zero_le _, fun p hp => ⟨g, p, ns.map V.int, rfl, rfl, SqL.of (upd_old hg hp), SqL.of upd_same, _, rfl, ?_⟩⟩
      have hd1 : upd H p (.lst []) d = some (.dK (sackD g a b c)) := upd_old hd hp
      have hg1 : upd H p (.lst []) g = some (.lst (ns.map V.int)) := upd_old hg hp
      have s1 : Same2 d g H (upd H p (.lst [])) := (Same2.refl d g H).new hp
      generalize upd H p (.lst []) = H1 at hd1 hg1 s1 ⊢
      refine ite2 (fun e => ?_) (fun e => ⟨ns, a, rfl, s1, hd1, hg1⟩)
      obtain ⟨ms, m, rfl⟩ : ∃ ms m, ns = ms ++ [m] := by
        cases hns : ns.reverse with
        | nil =>
          rw [List.reverse_eq_nil_iff.mp hns] at e
          cases e
        | cons m r => exact ⟨r.reverse, m, by rw [← List.reverse_reverse ns, hns, List.reverse_cons]⟩
      refine ⟨_, rfl, d, _, rfl, dget hd1 sack_great, .inl ⟨rfl, _, SqL.of hg1⟩, g, _, .int m, rfl, rfl, hg1, by simp, ?_⟩
      refine ⟨_, rfl, d, _, rfl, dput (H := upd H1 g _) (kvs := sackD g a b c) ?_ sack_len sack_put_now, ⟨ms, m, rfl, s1.putG.putD, upd_same, ?_⟩⟩
      · rw [upd_ne ndg]
        exact hd1
      · rw [upd_ne ndg.symm, upd_same, List.map_append, List.map_singleton, List.dropLast_concat]
    rintro σ' H1 ⟨ns, a, rfl, s1, hd1, hg1⟩
    -- if sack['now'] > 0: ..
    refine ⟨_, rfl, d, _, rfl, dget hd1 sack_now, _, _, rfl, rfl, _, rfl, ite2 (fun e => ?_) (fun _ => ?_)⟩
    · refine ⟨_, rfl, d, _, rfl, dget hd1 sack_now, _, rfl, _, _, rfl, rfl, h0, ?_⟩
      refine ⟨_, rfl, d, _, rfl, dget hd1 sack_now, _, rfl, _, _, rfl, rfl, ⟨h0, h1⟩, _, rfl, d, _, rfl, dput hd1 sack_len sack_put_now, _, rfl, ?_⟩
      exact k _ _ (Int.emod_nonneg _ (by omega)) (Int.emod_lt_of_pos _ h0) ⟨ns, _, b, c, ndg, upd_same, by rw [upd_ne ndg.symm]; exact hg1⟩ s1.putD
    -- sack['turn'] = sack['turn'] + 1 ..
    refine ⟨_, rfl, d, _, rfl, dget hd1 sack_turn, _, _, rfl, rfl, _, rfl, d, _, rfl, dput hd1 sack_len sack_put_turn, ?_⟩
    have hd2 : upd H1 d (.dK (sackD g a b (c + 1))) d = some (.dK (sackD g a b (c + 1))) := upd_same
    have hg2 : upd H1 d (.dK (sackD g a b (c + 1))) g = some (.lst (ns.map V.int)) := by rw [upd_ne ndg.symm]; exact hg1
    have s2 : Same2 d g H (upd H1 d (.dK (sackD g a b (c + 1)))) := s1.putD
    generalize upd H1 d (.dK (sackD g a b (c + 1))) = H2 at hd2 hg2 s2 ⊢
    refine ⟨_, rfl, d, _, rfl, dget hd2 sack_seed, _, rfl, d, _, rfl, dget hd2 sack_turn, _, _, rfl, rfl, .inl (by decide), _, _, rfl, rfl, _, _, rfl, rfl, by show (0 : Int) < 2147483647; decide, _, _, rfl, rfl, .inr (by decide), _, _, rfl, rfl, by show (0 : Int) < 2147483647; decide, ?_⟩
    refine ⟨_, rfl, _, rfl, d, _, rfl, dget hd2 sack_seed, _, _, rfl, rfl, .inl (by decide), _, _, rfl, rfl, _, _, rfl, rfl, by show (0 : Int) < 2147483629; decide, _, _, rfl, rfl, _, rfl, d, _, rfl, dput hd2 sack_len sack_put_seed, ?_⟩
    refine ⟨_, rfl, _, _, rfl, rfl, .inr (by decide), _, rfl, d, _, rfl, dget upd_same sack_seed, _, _, rfl, rfl, _, _, rfl, rfl, ⟨by decide, by decide⟩, _, rfl, _, _, rfl, rfl, h0, ?_⟩
    exact k _ _ (Int.emod_nonneg _ (by omega)) (Int.emod_lt_of_pos _ h0) ⟨ns, a, _, _, ndg, upd_same, by rw [upd_ne ndg.symm]; exact hg2⟩ s2.putD
def asp__law_take : ASp
  | [.ref d, .int n], L, Q, _ => ∃ g, SkAt L d g ∧ 0 < n ∧ n < 1073741824 ∧ ∀ (x : Int) ns, 0 ≤ x → x < n → Q (.int x) (sput L g (intsM ns))
  | _, _, _, _ => False
theorem okA__law_take (T : Txt K mg base) {scr : Option (Addr × List Int)} : CallD P w K mg base CX0 2 "_law_take" ["_law_sack_here", "_law_many"] [] (spA (cA K scr) asp__law_take) :=
  (ok__law_take T).imp fun vs H Q E ⟨ds, L, R, RX, r, g, h, pq, px⟩ => by
    unfold asp__law_take at h
    split at h
    · obtain ⟨y, h1, h2, h3, h⟩ := h
      obtain ⟨v, w, rfl, r1, r2⟩ := repL_two r
      cases rep_ref.mp r1
      cases rep_int.mp r2
      refine ⟨_, y, _, rfl, sack_at g h1, h2, h3, fun x H' x0 x1 f' s' => ?_⟩
      obtain ⟨ns, g', fr⟩ := sack_next g h1 f' s'
      exact pq _ _ _ H' (h x ns x0 x1) fr g' (rep_int.mpr rfl)
    · exact h.elim

def sp_eq (K : PySem.W.Frag) : Sp := fun vs H Q _ => ∃ v t w u, vs = [v, w] ∧ Ftn (cF K) H t v ∧ Ftn (cF K) H u w ∧ Q (.bl (decide (t = u))) H
theorem eq_of {K : PySem.W.Frag} {H : Hp} {Q : VK} {E : XK} {x y : V} {t u : T} {neg : Bool} (hx : Ftn (cF K) H t x) (hy : Ftn (cF K) H u y) (q : Q (.bl (if neg then !decide (t = u) else decide (t = u))) H) : rOwnEq (cF K) (sp_eq K) E neg x y H Q := by
  obtain ⟨a, dx, b, n, vs, rfl, ha, _⟩ := ftn_iff.mp hx
  obtain ⟨a2, dx2, b2, n2, vs2, rfl, ha2, _⟩ := ftn_iff.mp hy
  exact ⟨a, dx, _, a2, dx2, _, rfl, rfl, ha, ha2, _, t, _, u, rfl, hx, hy, _, rfl, q⟩
theorem ok_Fountain___eq__  (T : Txt K mg base) : MethD P w K mg base CX0 1 (cF K) "__eq__" ["self", "other"] [] (sp_eq K) := by
  refine T.m___eq__.ok sc_Fountain___eq__ (fun vs H Q E h => ?_) (fun f cdv A outer s H vs Q E hr h => ?_)
  · obtain ⟨v, t, w, u, rfl, _⟩ := h
    rfl
  · obtain ⟨v, t, w, u, rfl, hv, hw, k⟩ := h
    obtain ⟨a, dx, b, n, vs, rfl, ha, hb, hn, hk⟩ := ftn_iff.mp hv
    obtain ⟨a2, dx2, b2, n2, vs2, rfl, ha2, hb2, hn2, hk2⟩ := ftn_iff.mp hw
    refine ⟨_, (pss_one (ps_ret (pe_and (pe_callB call_isi (by rfl) T.n_isinstance (by decide +kernel) (pa_cons (pv 1) (pa_cons (pe_glob (v := .ref (cF K)) rfl T.cls.g rfl) pa_nil))) (pe_one (pe_cmpR op_eq (pe_fld (pv 0) rfl) (pe_fld (pv 1) rfl) (nomark _)))))), ?_⟩
    refine ⟨.ref a2, rfl, .ref a2, .ref (cF K), _, _, true, rfl, .own _, T.cls.ty ha2, isi_self, true, rfl, ite_t rfl ⟨.ref a, rfl, a, _, dx, _, _, rfl, ha, T.cls.c, T.cls.nw, fl_w, .ref a2, rfl, a2, _, dx2, _, _, rfl, ha2, T.cls.c, T.cls.nw, fl_w, rfl, ?_⟩⟩
    rw [show decide (V.str (tx t) = V.str (tx u)) = decide (t = u) from decide_eq_decide.mpr ⟨fun z => tx_inj (V.str.inj z), fun z => by rw [z]⟩]
    exact k
theorem okF_eq (T : Txt K mg base) : MethD P w K mg base CX0 1 (cF K) "__eq__" ["self", "other"] [] (spEqF K) := (ok_Fountain___eq__ T).imp fun vs H Q E ⟨x, y, t, u, e, h1, h2, q⟩ => ⟨x, t, y, u, e, h1, h2, q⟩

def asp__law_size (n : Nat) : ASp
  | [x], L, Q, _ => ∃ t : JW.T, x = dT t ∧ t.size < n ∧ t.size ≤ 64 ∧ Q (.int (t.size : Nat)) L
  | _, _, _, _ => False
theorem stepA__law_size  (T : Txt K mg base) {scr : Option (Addr × List Int)} (n : Nat) (ih : CallD P w K mg base CX0 (3 + n) "_law_size" ["_law_tree_here"] [] (spA (cA K scr) (asp__law_size n))) : CallD P w K mg base CX0 (3 + n + 1) "_law_size" ["_law_tree_here"] [] (spA (cA K scr) (asp__law_size (n + 1))) := by
  refine T.d__law_size.okA sc__law_size ?len (fun f cdv A outer s H E hr => (as_one (as_ret (ae_if (at_cmp (aop_eq (okF_eq T) (hr.mono (by omega)) hr.units) (av 0) ae_str (nomark _)) ae_int (ae_op aop_add ae_int (ae_b (acb_sum rfl) (by rfl) T.n_sum (by decide +kernel) (aa_cons (ae_lc (own := [("_law_branch", 1)]) (by rfl) sc__law_size.nd (ai_tup (av 0)) (blkOk_by (by kernel_rfl)) (tgOk_name (by decide)) (fun _ _ _ _ _ => pg_name (i := 1) sc__law_size.nd rfl (by first | exact Or.inl rfl | exact Or.inr rfl)) (fun _ _ _ _ _ => (ae_call ih (hr.mono (by omega)) (by rfl) (aa_cons (av 1) aa_nil)))) aa_nil))))))) ?vc
  case len =>
    intro ds L R RX h
    unfold asp__law_size at h
    split at h <;> first | rfl | exact h.elim
  case vc =>
    intro ds L R RX h
    unfold asp__law_size at h
    split at h
    rotate_left
    · exact h.elim
    rename_i x
    obtain ⟨t, rfl, hn, hz, h⟩ := h
    have hsl := sizeLine_eq
    refine eqD_o hz (ite2 (fun e => ?_) (fun e => ?_))
    · have e1 : t = .jet := by simpa using e
      subst e1
      exact ret_of h
    cases t with
    | jet => exact absurd rfl e
    | bas l =>
      have hs : (JW.T.bas l).size = 1 + sizeL l := rfl
      have hll := length_le l
      have hl0 : ([] : List D).length + l.length ≤ sizeLine := by
        show 0 + l.length ≤ _
        omega
      rw [dT_bas]
      refine fun p hp => ?_
      refine comp_mapA dT (fun u => D.int (u.size : Nat)) (fun _ => trivial) l [] hl0 (fun u hu l2 k hk => ?_) ?_
      · have h1 := size_mem hu
        exact ⟨rfl, u, rfl, by omega, by omega, hk⟩
      refine ⟨l.map fun u => ((u.size : Nat) : Int), by rw [sput_same, List.nil_append, List.map_map]; rfl, ?_⟩
      have eS : (l.map fun u => ((u.size : Nat) : Int)).sum = (sizeL l : Nat) := by
        rw [sizeL_sum, ← nI_sum, List.map_map]
        rfl
      rw [eS]
      refine ret_sub (d := D.int (1 + ((sizeL l : Nat) : Int))) ?_ ((SubS.refl L).new hp)
      rw [hs, Int.natCast_add] at h
      exact h
theorem okA__law_size  (T : Txt K mg base) {scr : Option (Addr × List Int)} (n : Nat) : CallD P w K mg base CX0 (3 + n) "_law_size" ["_law_tree_here"] [] (spA (cA K scr) (asp__law_size n)) := callD_rec (sp := fun n => spA (cA K scr) (asp__law_size n)) T.d__law_size (fun vs H Q E ⟨ds, L, R, RX, _, _, h, _⟩ => by
    unfold asp__law_size at h
    split at h
    · obtain ⟨t, _, z, _⟩ := h
      exact absurd z (Nat.not_lt_zero _)
    · exact h.elim
    ) (stepA__law_size T) n
def asp__law_jets (n : Nat) : ASp
  | [x], L, Q, _ => ∃ t : JW.T, x = dT t ∧ t.size < n ∧ t.size ≤ 64 ∧ Q (.int (t.jts : Nat)) L
  | _, _, _, _ => False
theorem stepA__law_jets  (T : Txt K mg base) {scr : Option (Addr × List Int)} (n : Nat) (ih : CallD P w K mg base CX0 (3 + n) "_law_jets" ["_law_tree_here"] [] (spA (cA K scr) (asp__law_jets n))) : CallD P w K mg base CX0 (3 + n + 1) "_law_jets" ["_law_tree_here"] [] (spA (cA K scr) (asp__law_jets (n + 1))) := by
  refine T.d__law_jets.okA sc__law_jets ?len (fun f cdv A outer s H E hr => (as_one (as_ret (ae_if (at_cmp (aop_eq (okF_eq T) (hr.mono (by omega)) hr.units) (av 0) ae_str (nomark _)) ae_int (ae_b (acb_sum rfl) (by rfl) T.n_sum (by decide +kernel) (aa_cons (ae_lc (own := [("_law_branch", 1)]) (by rfl) sc__law_jets.nd (ai_tup (av 0)) (blkOk_by (by kernel_rfl)) (tgOk_name (by decide)) (fun _ _ _ _ _ => pg_name (i := 1) sc__law_jets.nd rfl (by first | exact Or.inl rfl | exact Or.inr rfl)) (fun _ _ _ _ _ => (ae_call ih (hr.mono (by omega)) (by rfl) (aa_cons (av 1) aa_nil)))) aa_nil)))))) ?vc
  case len =>
    intro ds L R RX h
    unfold asp__law_jets at h
    split at h <;> first | rfl | exact h.elim
  case vc =>
    intro ds L R RX h
    unfold asp__law_jets at h
    split at h
    rotate_left
    · exact h.elim
    rename_i x
    obtain ⟨t, rfl, hn, hz, h⟩ := h
    have hsl := sizeLine_eq
    refine eqD_o hz (ite2 (fun e => ?_) (fun e => ?_))
    · have e1 : t = .jet := by simpa using e
      subst e1
      exact ret_of h
    cases t with
    | jet => exact absurd rfl e
    | bas l =>
      have hs : (JW.T.bas l).size = 1 + sizeL l := rfl
      have hll := length_le l
      have hl0 : ([] : List D).length + l.length ≤ sizeLine := by
        show 0 + l.length ≤ _
        omega
      rw [dT_bas]
      refine fun p hp => ?_
      refine comp_mapA dT (fun u => D.int (u.jts : Nat)) (fun _ => trivial) l [] hl0 (fun u hu l2 k hk => ?_) ?_
      · have h1 := size_mem hu
        exact ⟨rfl, u, rfl, by omega, by omega, hk⟩
      refine ⟨l.map fun u => ((u.jts : Nat) : Int), by rw [sput_same, List.nil_append, List.map_map]; rfl, ?_⟩
      have eS : (l.map fun u => ((u.jts : Nat) : Int)).sum = (jtsL l : Nat) := by
        rw [jtsL_sum, ← nI_sum, List.map_map]
        rfl
      rw [eS]
      exact ret_sub h ((SubS.refl L).new hp)
theorem okA__law_jets  (T : Txt K mg base) {scr : Option (Addr × List Int)} (n : Nat) : CallD P w K mg base CX0 (3 + n) "_law_jets" ["_law_tree_here"] [] (spA (cA K scr) (asp__law_jets n)) := callD_rec (sp := fun n => spA (cA K scr) (asp__law_jets n)) T.d__law_jets (fun vs H Q E ⟨ds, L, R, RX, _, _, h, _⟩ => by
    unfold asp__law_jets at h
    split at h
    · obtain ⟨t, _, z, _⟩ := h
      exact absurd z (Nat.not_lt_zero _)
    · exact h.elim
    ) (stepA__law_jets T) n
theorem prod_numI (l : List JW.T) (t : JW.T) : ((prodT (l ++ [t])).size : Int) = ((prodT l).size : Nat) + ((prodT l).jts : Nat) * (((t.size : Nat) : Int) - 1) := by
  rw [prod_snoc]
  exact grf_sizeI t (prodT l)
def asp__law_fits : ASp
  | [.ref p], L, Q, _ => ∃ ts : List JW.T, L p = some (.lst (ts.map dT)) ∧ (∀ t ∈ ts, t.size ≤ 64) ∧ (prodT ts).size ≤ 10000 ∧ Q (.bl (decide ((prodT ts).size ≤ 60))) L
  | _, _, _, _ => False
theorem okA__law_fits  (T : Txt K mg base) {scr : Option (Addr × List Int)} : CallD P w K mg base CX0 71 "_law_fits" ["_law_word_here"] [] (spA (cA K scr) (asp__law_fits)) := by
  refine T.d__law_fits.okA sc__law_fits ?len (fun f cdv A outer s H E hr => (as_cons (as_asg (ae_tup (aa_cons ae_int (aa_cons ae_int aa_nil))) (ag_tup (n := 2) rfl (ags_cons (ag_name (i := 1) sc__law_fits.nd rfl (by first | exact Or.inl rfl | exact Or.inr rfl)) (ags_cons (ag_name (i := 2) sc__law_fits.nd rfl (by first | exact Or.inl rfl | exact Or.inr rfl)) ags_nil)) (fun _ _ _ _ z => agNs_len (js := [1, 2]) z)))
      (as_cons (as_for PassesOwn.never rfl (ai_list (av 0)) (ag_name (i := 3) sc__law_fits.nd rfl (by first | exact Or.inl rfl | exact Or.inr rfl))
        (as_cons (as_set (i := 1) sc__law_fits.nd rfl (by first | exact Or.inl rfl | exact Or.inr rfl) (ae_op aop_add (av 1) (ae_op aop_mul (av 2) (ae_op aop_sub (ae_call (okA__law_size T 65) (hr.mono (by decide)) (by rfl) (aa_cons (av 3) aa_nil)) ae_int))))
        (as_one (as_set (i := 2) sc__law_fits.nd rfl (by first | exact Or.inl rfl | exact Or.inr rfl) (ae_op aop_mul (av 2) (ae_call (okA__law_jets T 65) (hr.mono (by decide)) (by rfl) (aa_cons (av 3) aa_nil)))))))
      (as_one (as_ret (ae_cmp aop_le (av 1) ae_int (nomark _))))))) ?vc
  case len =>
    intro ds L R RX h
    unfold asp__law_fits at h
    split at h <;> first | rfl | exact h.elim
  case vc =>
    intro ds L R RX h
    unfold asp__law_fits at h
    split at h
    · rename_i p
      obtain ⟨ts, hp, ht, hz, h⟩ := h
      have hsl := sizeLine_eq
      refine ⟨by show (2 : Nat) ≤ sizeLine; omega, rfl, _, hp, ?_⟩
      refine loop_map dT ts (fun pre env L' => L' = L ∧ ∃ x : Option D, env = [some (.ref p), some (.int ((prodT pre).size : Nat)), some (.int ((prodT pre).jts : Nat)), x]) (fun _ _ _ ⟨z, _⟩ => by rw [z]; exact hp) ?step ?fin _ _ ⟨rfl, none, rfl⟩
      case fin =>
        rintro env L' ⟨rfl, x, rfl⟩
        refine ret_of ?_
        have e : decide ((((prodT ts).size : Nat) : Int) ≤ 60) = decide ((prodT ts).size ≤ 60) := decide_eq_decide.mpr (by omega)
        show R (.bl (decide ((((prodT ts).size : Nat) : Int) ≤ 60))) L'
        rw [e]
        exact h
      case step =>
        rintro pre t rest nn e kn env L' ⟨rfl, x, rfl⟩
        have h0 := ht t (by rw [e]; simp)
        have h1 := (prod_take_le ts pre.length).1
        have e1 : ts.take pre.length = pre := by rw [e, List.take_left]
        rw [e1] at h1
        have hj := jts_le (prodT pre)
        have hs := size_pos t
        have hj2 := jts_le t
        refine ⟨t, rfl, by omega, h0, .inl (.inl ⟨by omega, by omega⟩), t, rfl, by omega, h0, .inl (.inl ⟨by omega, by omega⟩), kn _ _ ⟨rfl, some (dT t), ?_⟩⟩
        rw [prod_numI, prod_snoc, grf_jts]
        rfl
    · exact h.elim
def asp__law_text (n : Nat) : ASp
  | [x], L, Q, _ => ∃ t : JW.T, x = dT t ∧ t.size < n ∧ t.size ≤ 64 ∧ Q (.str (tx t)) L
  | _, _, _, _ => False
theorem joinedO {l : List JW.T} (h : sizeL l ≤ 5000) : ((l.map tx).map (·.length)).sum + (l.map tx).length * ("" : Str).length ≤ 16777216 := by
  have e : ("" : Str).length = 0 := rfl
  have h1 := codesL_len l
  rw [lens_tx, e]
  omega
theorem joinedOS {l : List JW.T} (h : sizeL l ≤ 5000) : (Txt.join "" (l.map tx)).length ≤ 10000 := by
  have h1 := codesL_len l
  rw [join_tx, SX.S_len]
  omega
theorem stepA__law_text  (T : Txt K mg base) {scr : Option (Addr × List Int)} (n : Nat) (ih : CallD P w K mg base CX0 (3 + n) "_law_text" ["_law_tree_here"] [] (spA (cA K scr) (asp__law_text n))) : CallD P w K mg base CX0 (3 + n + 1) "_law_text" ["_law_tree_here"] [] (spA (cA K scr) (asp__law_text (n + 1))) := by
  refine T.d__law_text.okA sc__law_text ?len (fun f cdv A outer s H E hr => (as_cons (as_if (at_cmp (aop_eq (okF_eq T) (hr.mono (by omega)) hr.units) (av 0) ae_str (nomark _))
        (as_one (as_ret ae_str))
        as_nil)
      (as_one (as_ret (ae_op aop_add (ae_op aop_add ae_str (ae_ms1 PySem.F.slot_str_join PySem.F.type_str_join mt_join low_join ae_str (ae_lc (own := [("_law_branch", 1)]) (by rfl) sc__law_text.nd (ai_tup (av 0)) (blkOk_by (by kernel_rfl)) (tgOk_name (by decide)) (fun _ _ _ _ _ => pg_name (i := 1) sc__law_text.nd rfl (by first | exact Or.inl rfl | exact Or.inr rfl)) (fun _ _ _ _ _ => (ae_call ih (hr.mono (by omega)) (by rfl) (aa_cons (av 1) aa_nil)))))) ae_str))))) ?vc
  case len =>
    intro ds L R RX h
    unfold asp__law_text at h
    split at h <;> first | rfl | exact h.elim
  case vc =>
    intro ds L R RX h
    unfold asp__law_text at h
    split at h
    rotate_left
    · exact h.elim
    rename_i x
    obtain ⟨t, rfl, hn, hz, h⟩ := h
    have hsl := sizeLine_eq
    refine eqD_o hz (ite2 (fun e => ?_) (fun e => ?_))
    · have e1 : t = .jet := by simpa using e
      subst e1
      rw [tx_jet] at h
      exact ret_of h
    cases t with
    | jet => exact absurd rfl e
    | bas l =>
      have hs : (JW.T.bas l).size = 1 + sizeL l := rfl
      have hll := length_le l
      have hl0 : ([] : List D).length + l.length ≤ sizeLine := by
        show 0 + l.length ≤ _
        omega
      rw [dT_bas]
      refine ⟨⟨_, rfl⟩, fun p hp => ?_⟩
      refine comp_mapA dT (fun u => D.str (tx u)) (fun _ => trivial) l [] hl0 (fun u hu l2 k hk => ?_) ?_
      · have h1 := size_mem hu
        exact ⟨rfl, u, rfl, by omega, by omega, hk⟩
      have hj := joinedOS (l := l) (by omega)
      have hl1 : sizeL l ≤ 5000 := by omega
      refine ⟨l.map tx, by rw [sput_same, List.nil_append, List.map_map]; rfl, joinedO hl1, ?_, ?_, ?_⟩
      · show 1 + _ ≤ sizeLine
        omega
      · rw [len_cat]
        show (1 + _) + 1 ≤ sizeLine
        omega
      · rw [tx_bas]
        exact ret_sub h ((SubS.refl L).new hp)
theorem okA__law_text  (T : Txt K mg base) {scr : Option (Addr × List Int)} (n : Nat) : CallD P w K mg base CX0 (3 + n) "_law_text" ["_law_tree_here"] [] (spA (cA K scr) (asp__law_text n)) := callD_rec (sp := fun n => spA (cA K scr) (asp__law_text n)) T.d__law_text (fun vs H Q E ⟨ds, L, R, RX, _, _, h, _⟩ => by
    unfold asp__law_text at h
    split at h
    · obtain ⟨t, _, z, _⟩ := h
      exact absurd z (Nat.not_lt_zero _)
    · exact h.elim
    ) (stepA__law_text T) n
def sp__law_basin {K : PySem.W.Frag} (c : AC K) : Sp := fun vs H Q _ => ∃ q xs l L, vs = [.ref q] ∧ Sq K H q xs ∧ RepL c H (l.map dT) xs ∧ Good c L H ∧ sizeL l ≤ 64 ∧ ∀ p ys H', Fr c H H' → Good c L H' → H' p = some (.tup ys) → RepL c H' ((sortT l).map dT) ys → Q (.ref p) H'
theorem ok__law_basin (T : Txt K mg base) {scr : Option (Addr × List Int)} : CallD P w K mg base CX0 73 "_law_basin" ["_law_parts"] [] (sp__law_basin (cA K scr)) := by
  refine T.d__law_basin.ok sc__law_basin (fun vs H Q E h => ?_) (fun f cdv A outer s H vs Q E hr h => ?_)
  · obtain ⟨q, xs, l, L, rfl, _⟩ := h
    rfl
  · obtain ⟨q, xs, l, L, rfl, hq, hl, hg, hz, k⟩ := h
    refine ⟨_, (pss_one (ps_ret (pe_callTy call_tuple_of (by rfl) T.n_tuple (by decide +kernel) (pa_cons (pe_sortedFn (pv 0) (by rfl) T.n_sorted (by rfl) (okA__law_text T (scr := scr) 65) (hr.mono (by decide))) pa_nil)))), ?_⟩
    refine ⟨.ref q, rfl, q, xs, l.map tx, fun H' => Fr (cA K scr) H H' ∧ Good (cA K scr) L H', rfl, hq, by rw [List.length_map, hl.len, List.length_map], ⟨.refl _ H, hg⟩, fun i x z hx hz' H' s => ?_, fun D H' ys s hD ky => ?_⟩
    · obtain ⟨d, e1, e2⟩ := hl.getV hx
      obtain ⟨t, e3, rfl⟩ := dTs_of rfl e1
      have h1 := len_le (List.mem_of_getElem? e3)
      rw [map_get e3 hz']
      exact ⟨[dT t], L, fun d L' => d = .str (tx t) ∧ L' = L, noX, .one (e2.fr s.1), s.2, ⟨t, rfl, by omega, by omega, rfl, rfl⟩, fun d L' v H2 ⟨q1, q2⟩ f2 g2 r2 => by
        subst q1 q2
        exact ⟨rep_str.mp r2, s.1.trans f2, g2⟩, px_no⟩
    · have f2 : Fr (cA K scr) H' (upd H' D (.lst ys)) := .new hD
      have g2 := s.2.new hD (.lst ys)
      have hs2 := repL_sort (hl.fr (s.1.trans f2)) ky
      refine ⟨D, ys, rfl, .inl ⟨SqL.of upd_same, fun p hp => ?_⟩⟩
      exact k p ys _ ((s.1.trans f2).trans (.new hp)) (g2.new hp _) upd_same (hs2.fr (.new hp))
def asp__law_basin : ASp
  | [.ref p], L, Q, _ => ∃ l : List JW.T, L p = some (.lst (l.map dT)) ∧ sizeL l ≤ 64 ∧ Q (dT (.bas (sortT l))) L
  | _, _, _, _ => False
theorem okA__law_basin (T : Txt K mg base) {scr : Option (Addr × List Int)} : CallD P w K mg base CX0 73 "_law_basin" ["_law_parts"] [] (spA (cA K scr) asp__law_basin) :=
  (ok__law_basin T).imp fun vs H Q E ⟨ds, L, R, RX, r, g, h, pq, px⟩ => by
    unfold asp__law_basin at h
    split at h
    · obtain ⟨l, e0, hz, h⟩ := h
      obtain ⟨v, rfl, r1⟩ := repL_one r
      cases rep_ref.mp r1
      obtain ⟨ws, e1, rs⟩ := good_lst g e0
      exact ⟨_, ws, l, L, rfl, .inl (SqL.of e1), rs, g, hz, fun p ys H' f' g' hp hr => pq _ L _ H' h f' g' (by rw [dT_bas]; exact rep_tup.mpr ⟨p, ys, rfl, SqT.of hp, hr⟩)⟩
    · exact h.elim

def asp__law_tree (n : Nat) : ASp
  | [.ref d, .int s], L, Q, _ => ∃ g, SkAt L d g ∧ ∃ k : Nat, s = (k : Nat) ∧ 1 ≤ k ∧ k < n ∧ k ≤ 60 ∧ ∀ (t : JW.T) ns, Can t → t.size = k → Q (dT t) (sput L g (intsM ns))
  | _, _, _, _ => False
theorem pick3 {α : Type} {a b c : α} {i : Int} (h0 : 0 ≤ i) (h1 : i < 3) : ∃ z, (z = a ∨ z = b ∨ z = c) ∧ atI [a, b, c] i = some z := by
  obtain ⟨k, rfl⟩ := Int.eq_ofNat_of_zero_le h0
  match k, h1 with
  | 0, _ => exact ⟨a, .inl rfl, rfl⟩
  | 1, _ => exact ⟨b, .inr (.inl rfl), rfl⟩
  | 2, _ => exact ⟨c, .inr (.inr rfl), rfl⟩
  | k + 3, h => exact absurd h (by omega)
theorem pick5 {α : Type} {a b c d e : α} {i : Int} (h0 : 0 ≤ i) (h1 : i < 5) : ∃ z, (z = a ∨ z = b ∨ z = c ∨ z = d ∨ z = e) ∧ atI [a, b, c, d, e] i = some z := by
  obtain ⟨k, rfl⟩ := Int.eq_ofNat_of_zero_le h0
  match k, h1 with
  | 0, _ => exact ⟨a, .inl rfl, rfl⟩
  | 1, _ => exact ⟨b, .inr (.inl rfl), rfl⟩
  | 2, _ => exact ⟨c, .inr (.inr (.inl rfl)), rfl⟩
  | 3, _ => exact ⟨d, .inr (.inr (.inr (.inl rfl))), rfl⟩
  | 4, _ => exact ⟨e, .inr (.inr (.inr (.inr rfl))), rfl⟩
  | k + 5, h => exact absurd h (by omega)
theorem stepA__law_tree  (T : Txt K mg base) {scr : Option (Addr × List Int)} (n : Nat) (ih : CallD P w K mg base CX0 (74 + n) "_law_tree" ["_law_sack_here", "_law_size_here"] [] (spA (cA K scr) (asp__law_tree n))) : CallD P w K mg base CX0 (74 + n + 1) "_law_tree" ["_law_sack_here", "_law_size_here"] [] (spA (cA K scr) (asp__law_tree (n + 1))) := by
  refine T.d__law_tree.okA sc__law_tree ?len (fun f cdv A outer s H E hr => (as_cons (as_if (at_cmp (aop_eq (okF_eq T) (hr.mono (by omega)) hr.units) (av 1) ae_int (nomark _))
        (as_one (as_ret (ae_ix (ae_lst (aa_cons ae_str (aa_cons ae_str (aa_cons (ae_tup aa_nil) aa_nil)))) (ae_call (okA__law_take T) (hr.mono (by omega)) (by rfl) (aa_cons (av 0) (aa_cons ae_int aa_nil))) (fun _ _ => rfl))))
        as_nil)
      (as_cons (as_par3 (i := 2) (j := 3) (l := 4) (by rfl) sc__law_tree.nd rfl rfl rfl (by decide) (by decide) (by decide) rfl rfl rfl (aa_cons (ae_op aop_sub (av 1) ae_int) (aa_cons (ae_lst aa_nil) (aa_cons (ae_call (okA__law_take T) (hr.mono (by omega)) (by rfl) (aa_cons (av 0) (aa_cons ae_int aa_nil))) aa_nil))) (by rfl))
      (as_cons (as_while PassesOwn.never (at_cmp aop_gt (av 2) ae_int (nomark _))
        (as_cons (as_via (as_set (i := 5) sc__law_tree.nd rfl (by first | exact Or.inl rfl | exact Or.inr rfl) (ae_ix (ae_lst (aa_cons (ae_op aop_add ae_int (ae_call (okA__law_take T) (hr.mono (by omega)) (by rfl) (aa_cons (av 0) (aa_cons (av 2) aa_nil)))) (aa_cons (av 2) (aa_cons (ae_op aop_add ae_int (ae_call (okA__law_take T) (hr.mono (by omega)) (by rfl) (aa_cons (av 0) (aa_cons (ae_b (acb_min rfl) (by rfl) T.n_min (by decide +kernel) (aa_cons (av 2) (aa_cons ae_int aa_nil))) aa_nil)))) (aa_cons ae_int (aa_cons (ae_op aop_add ae_int (ae_call (okA__law_take T) (hr.mono (by omega)) (by rfl) (aa_cons (av 0) (aa_cons (av 2) aa_nil)))) aa_nil)))))) (av 4) (fun _ _ => rfl))))
        (as_cons (as_if (at_via (AW.pt (aw_and (at_cmp aop_gt (ae_b acb_len (by rfl) T.n_len (by decide +kernel) (aa_cons (av 3) aa_nil)) ae_int (nomark _)) (aw_and (at_cmp aop_le (ae_call (okA__law_size T 65) (hr.mono (by omega)) (by rfl) (aa_cons (ae_ix (av 3) (ae_neg ae_int) (fun _ _ => rfl)) aa_nil)) (av 2) (nomark _)) (aw_and1 (at_cmp (aop_eq (okF_eq T) (hr.mono (by omega)) hr.units) (ae_call (okA__law_take T) (hr.mono (by omega)) (by rfl) (aa_cons (av 0) (aa_cons ae_int aa_nil))) ae_int (nomark _)))))))
          (as_one (as_expr (ae_ml PySem.F.plainAttrs_list PySem.F.slot_list_append PySem.F.type_list_append mt_append low_append (av 3) (aa_cons (ae_ix (av 3) (ae_neg ae_int) (fun _ _ => rfl)) aa_nil))))
          (as_one (as_expr (ae_ml PySem.F.plainAttrs_list PySem.F.slot_list_append PySem.F.type_list_append mt_append low_append (av 3) (aa_cons (ae_call ih (hr.mono (by omega)) (by rfl) (aa_cons (av 0) (aa_cons (av 5) aa_nil))) aa_nil)))))
        (as_one (as_set (i := 2) sc__law_tree.nd rfl (by first | exact Or.inl rfl | exact Or.inr rfl) (ae_op aop_sub (ae_op aop_sub (av 1) ae_int) (ae_b (acb_sum rfl) (by rfl) T.n_sum (by decide +kernel) (aa_cons (ae_lc (own := [("_law_part", 6)]) (by rfl) sc__law_tree.nd (ai_list (av 3)) (blkOk_by (by kernel_rfl)) (tgOk_name (by decide)) (fun _ _ _ _ _ => pg_name (i := 6) sc__law_tree.nd rfl (by first | exact Or.inl rfl | exact Or.inr rfl)) (fun _ _ _ _ _ => (ae_call (okA__law_size T 65) (hr.mono (by omega)) (by rfl) (aa_cons (av 6) aa_nil)))) aa_nil))))))))
      (as_one (as_ret (ae_call (okA__law_basin T) (hr.mono (by omega)) (by rfl) (aa_cons (av 3) aa_nil)))))))) ?vc
  case len =>
    intro ds L R RX h
    unfold asp__law_tree at h
    split at h <;> first | rfl | exact h.elim
  case vc =>
    intro ds L R RX h
    unfold asp__law_tree at h
    split at h
    rotate_left
    · exact h.elim
    rename_i d s
    obtain ⟨g, hS, k, rfl, h1, hn, hz, h⟩ := h
    have hsl := sizeLine_eq
    refine ite2 (fun e => ?_) (fun e => ?_)
    · have ek : k = 1 := by
        have e' : ((k : Nat) : Int) = 1 := by simpa using e
        omega
      subst ek
      refine ⟨Nat.zero_le _, by show (3 : Nat) ≤ sizeLine; omega, fun q hq => ⟨g, hS.new hq, by decide, by decide, fun x ns x0 x1 => ?_⟩⟩
      obtain ⟨nqd, nqg⟩ := hS.ne hq
      obtain ⟨z, hz3, hat⟩ := pick3 (a := D.str ("o" : Str)) (b := D.str ("o" : Str)) (c := D.tup []) x0 x1
      have hzt : ∃ t : JW.T, z = dT t ∧ Can t ∧ t.size = 1 := by
        rcases hz3 with e | e | e
        · exact ⟨.jet, by rw [e, dT_jet], trivial, rfl⟩
        · exact ⟨.jet, by rw [e, dT_jet], trivial, rfl⟩
        · exact ⟨.bas [], by rw [e, dT_bas]; rfl, ⟨List.Pairwise.nil, trivial⟩, rfl⟩
      obtain ⟨t, rfl, tc, ts⟩ := hzt
      refine ⟨_, _, by rw [sput_ne nqg]; exact sput_same, hat, ?_⟩
      exact (((Sk.refl g L).new hq).at (m := intsM ns)).end ((hS.new hq).at ns) fun ns => h t ns tc ts
    have hk2 : 2 ≤ k := by
      have : ¬ (k = 1) := fun z => e (by rw [z]; rfl)
      omega
    refine ⟨Nat.zero_le _, fun P hP => ⟨g, hS.new hP, by decide, by decide, fun form ns0 f0 f1 => ?_⟩⟩
    obtain ⟨nPd, nPg⟩ := hS.ne hP
    have S0 : SkAt (sput (sput L P (.lst [])) g (intsM ns0)) d g := (hS.new hP).at ns0
    have k0 : Sk g L (sput (sput L P (.lst [])) g (intsM ns0)) := ((Sk.refl g L).new hP).at
    have p0 : (sput (sput L P (.lst [])) g (intsM ns0)) P = some (.lst (([] : List JW.T).map dT)) := by rw [sput_ne nPg]; exact sput_same
    show aWhile _ _ _ _ (sput (sput L P (.lst [])) g (intsM ns0))
    generalize sput (sput L P (.lst [])) g (intsM ns0) = L0 at S0 k0 p0 ⊢
    refine ⟨fun m env L1 => ∃ (left : Nat) (parts : List JW.T) (x5 : Option D), env = [some (.ref d), some (.int (k : Nat)), some (.int (left : Nat)), some (.ref P), some (.int form), x5, none] ∧ SkAt L1 d g ∧ Sk g L L1 ∧ L1 P = some (.lst (parts.map dT)) ∧ CanL parts ∧ sizeL parts + left = k - 1 ∧ m = left, ⟨k - 1, k - 1, [], none, ?_, S0, k0, p0, trivial, by show 0 + (k - 1) = k - 1; omega, rfl⟩, ?_⟩
    · show [some (D.ref d), some (D.int (k : Nat)), some (D.int (((k : Nat) : Int) - 1)), some (D.ref P), some (D.int form), none, none] = _
      rw [show (((k : Nat) : Int) - 1) = ((k - 1 : Nat) : Int) by omega]
    rintro m env L1 ⟨left, parts, x5, rfl, S1, k1, p1, hcan, hsum, em⟩
    have hpl := length_le parts
    refine ite2 (fun e1 => ?_) (fun e1 => ?_)
    rotate_left
    · have hl0 : left = 0 := by
        have : ¬ ((0 : Int) < (left : Nat)) := fun z => e1 (decide_eq_true z)
        omega
      subst hl0
      refine ⟨parts, p1, by omega, ?_⟩
      exact k1.end S1 fun ns => h (.bas (sortT parts)) ns (can_bas hcan) (by show 1 + sizeL (sortT parts) = k; rw [sizeL_perm (sortT_perm _)]; omega)
    have hl0 : 0 < left := by
      have := of_decide_eq_true e1
      omega
    refine ⟨fun env' L' => ∃ many : Nat, env' = [some (.ref d), some (.int (k : Nat)), some (.int (left : Nat)), some (.ref P), some (.int form), some (.int (many : Nat)), none] ∧ 1 ≤ many ∧ many ≤ left ∧ SkAt L' d g ∧ Sk g L L' ∧ L' P = some (.lst (parts.map dT)), ?_, ?_⟩
    · refine ⟨g, S1, by omega, by omega, fun v1 ns1 a1 b1 => ⟨g, S1.at ns1, by split <;> omega, by split <;> omega, fun v2 ns2 a2 b2 => ⟨g, (S1.at ns1).at ns2, by omega, by omega, fun v3 ns3 a3 b3 => ⟨by show (5 : Nat) ≤ sizeLine; omega, fun q hq => ?_⟩⟩⟩⟩
      have S2 := ((S1.at ns1).at ns2).at ns3
      have k2 := ((k1.at (m := intsM ns1)).at (m := intsM ns2)).at (m := intsM ns3)
      have p2 : (sput (sput (sput L1 g (intsM ns1)) g (intsM ns2)) g (intsM ns3)) P = some (.lst (parts.map dT)) := by
        rw [sput_ne nPg, sput_ne nPg, sput_ne nPg]
        exact p1
      generalize sput (sput (sput L1 g (intsM ns1)) g (intsM ns2)) g (intsM ns3) = L2 at S2 k2 p2 hq ⊢
      obtain ⟨z, hz5, hat⟩ := pick5 (a := D.int (1 + v1)) (b := D.int (left : Nat)) (c := D.int (1 + v2)) (d := D.int 1) (e := D.int (1 + v3)) f0 f1
      have hzm : ∃ many : Nat, z = D.int (many : Nat) ∧ 1 ≤ many ∧ many ≤ left := by
        have b2' : v2 < left := by
          split at b2 <;> omega
        rcases hz5 with e | e | e | e | e
        · exact ⟨(1 + v1).toNat, by rw [e, Int.toNat_of_nonneg (by omega)], by omega, by omega⟩
        · exact ⟨left, e, by omega, by omega⟩
        · exact ⟨(1 + v2).toNat, by rw [e, Int.toNat_of_nonneg (by omega)], by omega, by omega⟩
        · exact ⟨1, e, by omega, by omega⟩
        · exact ⟨(1 + v3).toNat, by rw [e, Int.toNat_of_nonneg (by omega)], by omega, by omega⟩
      obtain ⟨many, rfl, m1, m2⟩ := hzm
      exact ⟨_, _, sput_same, hat, many, rfl, m1, m2, S2.new hq, k2.new hq, sput_old p2 hq⟩
    rintro env' L2 ⟨many, rfl, m1, m2, S2, k2, p2⟩
    -- the sizes again
    have fin : ∀ (parts' : List JW.T) (L3 : Store), SkAt L3 d g → Sk g L L3 → L3 P = some (.lst (parts'.map dT)) → CanL parts' → sizeL parts < sizeL parts' → sizeL parts' ≤ k - 1 →
        aAsg (aOp subD (aOp subD (aVar 1) (aC (D.int 1))) (aB sumD (aCons (aLc (aiList (aVar 3)) (agName 6) aYes (aCall (asp__law_size 65) (aCons (aVar 6) aNil)) (List.map (fun x => x.snd) [(Str.ofString "_law_part", 6)])) aNil))) (agName 2)
          { nx := fun e l => ∃ m', m' < m ∧ ∃ (left : Nat) (parts : List JW.T) (x5 : Option D), e = [some (.ref d), some (.int (k : Nat)), some (.int (left : Nat)), some (.ref P), some (.int form), x5, none] ∧ SkAt l d g ∧ Sk g L l ∧ l P = some (.lst (parts.map dT)) ∧ CanL parts ∧ sizeL parts + left = k - 1 ∧ m' = left, rt := (fnEnds R).rt }
          [some (.ref d), some (.int (k : Nat)), some (.int (left : Nat)), some (.ref P), some (.int form), some (.int (many : Nat)), none] L3 := by
      intro parts' L3 S3 k3 p3 hcan3 hlt hle
      have hpl3 := length_le parts'
      refine ⟨_, p3, fun B hB => ?_⟩
      refine comp_mapA dT (fun u => D.int (u.size : Nat)) (fun _ => sput_old p3 hB) parts' [] (by show 0 + parts'.length ≤ _; omega) (fun u hu l2 kk hkk => ?_) ?_
      · have hul := len_le hu
        exact ⟨rfl, u, rfl, by omega, by omega, hkk⟩
      refine ⟨parts'.map fun u => ((u.size : Nat) : Int), by rw [sput_same, List.nil_append, List.map_map]; rfl, ?_⟩
      have eS : (parts'.map fun u => ((u.size : Nat) : Int)).sum = (sizeL parts' : Nat) := by
        rw [sizeL_sum, ← nI_sum, List.map_map]
        rfl
      rw [eS]
      have eV : ((k : Nat) : Int) - 1 - ((sizeL parts' : Nat) : Int) = ((k - 1 - sizeL parts' : Nat) : Int) := by omega
      refine ⟨k - 1 - sizeL parts', by omega, k - 1 - sizeL parts', parts', some (.int (many : Nat)), ?_, S3.new hB, k3.new hB, sput_old p3 hB, hcan3, by omega, rfl⟩
      show [some (D.ref d), some (D.int (k : Nat)), some (D.int (((k : Nat) : Int) - 1 - ((sizeL parts' : Nat) : Int))), _, _, _, _] = _
      rw [eV]
    refine ⟨fun b L' => SkAt L' d g ∧ Sk g L L' ∧ L' P = some (.lst (parts.map dT)) ∧ (b = true → ∃ init tl, parts = init ++ [tl] ∧ tl.size ≤ left), ?_, ?_⟩
    · refine ⟨_, p2, ite2 (fun e2 => ?_) (fun e2 => ⟨S2, k2, p2, fun z => by cases z⟩)⟩
      have e2 := of_decide_eq_true e2
      rw [List.length_map] at e2
      obtain ⟨init, tl, rfl⟩ : ∃ init tl, parts = init ++ [tl] := ⟨parts.dropLast, parts.getLast (fun z => by rw [z] at e2; simp at e2), (List.dropLast_concat_getLast _).symm⟩
      have htl := len_le (l := init ++ [tl]) (t := tl) (by simp)
      refine ⟨_, _, p2, atI_neg1 init tl, tl, rfl, by omega, by omega, ite2 (fun e3 => ?_) (fun e3 => ⟨S2, k2, p2, fun z => by cases z⟩)⟩
      have e3 := of_decide_eq_true e3
      refine ⟨g, S2, by decide, by decide, fun x ns x0 x1 => ⟨S2.at ns, k2.at, by rw [sput_ne nPg]; exact p2, fun _ => ⟨init, tl, rfl, by omega⟩⟩⟩
    rintro b L3 ⟨S3, k3, p3, hb⟩
    refine ite2 (fun e2 => ?_) (fun e2 => ?_)
    · obtain ⟨init, tl, rfl, htl⟩ := hb e2
      refine ⟨⟨P, _, rfl, p3⟩, _, _, p3, atI_neg1 init tl, _, p3, by rw [List.length_map]; omega, ?_⟩
      have sz := size_pos tl
      have es : sizeL (init ++ [tl] ++ [tl]) = sizeL (init ++ [tl]) + tl.size := by
        rw [sizeL_app (init ++ [tl])]
        show _ + (tl.size + 0) = _
        rw [Nat.add_zero]
      exact fin (init ++ [tl] ++ [tl]) _ (S3.off nPd nPg) (k3.put hP) (by rw [sput_same, List.map_append (l₁ := init ++ [tl])]; rfl) (canL_app hcan ⟨canL_iff.mp hcan tl (by simp), trivial⟩) (by omega) (by omega)
    · refine ⟨⟨P, _, rfl, p3⟩, g, S3, many, rfl, by omega, by omega, by omega, fun t ns tc ts => ?_⟩
      have p4 : sput L3 g (intsM ns) P = some (.lst (parts.map dT)) := by rw [sput_ne nPg]; exact p3
      refine ⟨_, p4, by rw [List.length_map]; omega, ?_⟩
      have es : sizeL (parts ++ [t]) = sizeL parts + t.size := by
        rw [sizeL_app]
        show _ + (t.size + 0) = _
        rw [Nat.add_zero]
      exact fin (parts ++ [t]) _ ((S3.at ns).off nPd nPg) ((k3.at).put hP) (by rw [sput_same, List.map_append]; rfl) (canL_app hcan ⟨tc, trivial⟩) (by omega) (by omega)
theorem okA__law_tree  (T : Txt K mg base) {scr : Option (Addr × List Int)} (n : Nat) : CallD P w K mg base CX0 (74 + n) "_law_tree" ["_law_sack_here", "_law_size_here"] [] (spA (cA K scr) (asp__law_tree n)) := callD_rec (sp := fun n => spA (cA K scr) (asp__law_tree n)) T.d__law_tree (fun vs H Q E ⟨ds, L, R, RX, _, _, h, _⟩ => by
    unfold asp__law_tree at h
    split at h
    · obtain ⟨g, _, k, _, _, z, _⟩ := h
      exact absurd z (Nat.not_lt_zero _)
    · exact h.elim
    ) (stepA__law_tree T) n
def asp__law_open : ASp
  | [.ref d, .int s], L, Q, _ => ∃ g, SkAt L d g ∧ ∃ k : Nat, s = (k : Nat) ∧ 1 ≤ k ∧ k ≤ 60 ∧ ∀ (t : JW.T) ns, Can t → 0 < t.jts → t.size ≤ k → Q (dT t) (sput L g (intsM ns))
  | _, _, _, _ => False
theorem okA__law_open  (T : Txt K mg base) {scr : Option (Addr × List Int)} : CallD P w K mg base CX0 146 "_law_open" ["_law_sack_here", "_law_size_here"] [] (spA (cA K scr) (asp__law_open)) := by
  refine T.d__law_open.okA sc__law_open ?len (fun f cdv A outer s H E hr => (as_cons (as_set (i := 2) sc__law_open.nd rfl (by first | exact Or.inl rfl | exact Or.inr rfl) (ae_call (okA__law_tree T 61) (hr.mono (by decide)) (by rfl) (aa_cons (av 0) (aa_cons (av 1) aa_nil))))
      (as_cons (as_if (at_cmp aop_gt (ae_call (okA__law_jets T 65) (hr.mono (by decide)) (by rfl) (aa_cons (av 2) aa_nil)) ae_int (nomark _))
        (as_one (as_ret (av 2)))
        as_nil)
      (as_one (as_ret (ae_if (at_cmp (aop_eq (okF_eq T) (hr.mono (by decide)) hr.units) (av 2) (ae_tup aa_nil) (nomark _)) ae_str (ae_call (okA__law_basin T) (hr.mono (by decide)) (by rfl) (aa_cons (ae_op aop_add (ae_ty acb_list (by rfl) T.n_list (by decide +kernel) (aa_cons (ae_sl (av 2) (ao_some ae_int) ao_none) aa_nil)) (ae_lst (aa_cons ae_str aa_nil))) aa_nil)))))))) ?vc
  case len =>
    intro ds L R RX h
    unfold asp__law_open at h
    split at h <;> first | rfl | exact h.elim
  case vc =>
    intro ds L R RX h
    unfold asp__law_open at h
    split at h
    · rename_i d s
      obtain ⟨g, hS, k, rfl, h1, hz, h⟩ := h
      have hsl := sizeLine_eq
      refine ⟨g, hS, k, rfl, h1, by omega, hz, fun t ns tc ts => ⟨t, rfl, by omega, by omega, ite2 (fun e => ?_) (fun e => ?_)⟩⟩
      · have hj := of_decide_eq_true e
        exact ret_of (h t ns tc (by omega) (by omega))
      have hj0 : t.jts = 0 := by
        have : ¬ ((0 : Int) < (t.jts : Nat)) := fun z => e (decide_eq_true z)
        omega
      cases t with
      | jet => exact absurd hj0 (by decide)
      | bas l =>
        have hs : 1 + sizeL l = k := ts
        have hll := length_le l
        refine ⟨Nat.zero_le _, ?_⟩
        refine eqD_tree (u := .bas []) (by show 1 + sizeL l ≤ 64; omega) (by decide) (ite2 (fun e2 => ?_) (fun e2 => ?_))
        · refine ret_of ?_
          have := h .jet ns trivial (by decide) h1
          rw [dT_jet] at this
          exact this
        · cases l with
          | nil => exact absurd (by simp) e2
          | cons t0 r =>
            have hs2 : 1 + (t0.size + sizeL r) = k := hs
            have ht0 := size_pos t0
            have hrl := length_le r
            rw [dT_bas]
            refine fun p hp => ⟨by show (1 : Nat) ≤ sizeLine; omega, fun q hq => ?_⟩
            have ec : AL.cutD ((t0 :: r).map dT) (some 1) none = r.map dT := (cutD_drop (f := dT) (l := t0 :: r) (i := 1) (k := 1) rfl).trans rfl
            have p1 := sput_old (n := .lst [.str ("o" : Str)]) (sput_same (L := sput L g (intsM ns)) (p := p) (m := .lst (AL.cutD ((t0 :: r).map dT) (some 1) none))) hq
            refine ⟨_, _, p1, sput_same, ?_, fun w hw => ?_⟩
            · rw [ec, List.length_map]
              show r.length + 1 ≤ sizeLine
              omega
            have eq : AL.cutD ((t0 :: r).map dT) (some 1) none ++ [.str ("o" : Str)] = (r ++ [JW.T.jet]).map dT := by
              rw [ec, List.map_append, List.map_cons, dT_jet]
              rfl
            refine ⟨r ++ [.jet], by rw [sput_same, eq], by rw [sizeL_app]; show sizeL r + 1 ≤ 64; omega, ?_⟩
            have hcl : CanL (t0 :: r) := tc.2
            refine ret_sub (h (.bas (sortT (r ++ [.jet]))) ns (can_bas (canL_app (b := [.jet]) hcl.2 ⟨trivial, trivial⟩)) ?_ ?_) ((((SubS.refl _).new hp).new hq).new hw)
            · show 0 < jtsL (sortT (r ++ [.jet]))
              rw [jtsL_perm (sortT_perm _), jtsL_sum, List.map_append, List.sum_append]
              show 0 < _ + 1
              omega
            · show 1 + sizeL (sortT (r ++ [.jet])) ≤ k
              rw [sizeL_perm (sortT_perm _), sizeL_app]
              show 1 + (sizeL r + 1) ≤ k
              omega
    · exact h.elim
def asp__law_first_way : ASp
  | [x], L, Q, _ => ∃ t : JW.T, x = dT t ∧ t.jts ≠ 0 ∧ t.size ≤ 64 ∧ ∀ r, L r = none → Q (.ref r) (sput L r (.lst ((wayP t ++ [JW.T.jet]).map dT)))
  | _, _, _, _ => False
theorem okA__law_first_way  (T : Txt K mg base) {scr : Option (Addr × List Int)} : CallD P w K mg base CX0 77 "_law_first_way" ["_law_tree_here"] [] (spA (cA K scr) (asp__law_first_way)) := by
  refine T.d__law_first_way.okA sc__law_first_way ?len (fun f cdv A outer s H E hr => (as_cons (as_set (i := 1) sc__law_first_way.nd rfl (by first | exact Or.inl rfl | exact Or.inr rfl) (ae_lst (aa_cons (av 0) aa_nil)))
      (as_cons (as_while PassesOwn.never (at_cmp (aop_ne T.cls (okF_eq T) (hr.mono (by decide)) hr.units) (ae_ix (av 1) (ae_neg ae_int) (fun _ _ => rfl)) ae_str (nomark _))
        (as_one (as_expr (ae_ml PySem.F.plainAttrs_list PySem.F.slot_list_append PySem.F.type_list_append mt_append low_append (av 1) (aa_cons (ae_ix (ae_lcIf (own := [("_law_branch", 2)]) (by rfl) sc__law_first_way.nd (ai_tup (ae_ix (av 1) (ae_neg ae_int) (fun _ _ => rfl))) (blkOk_by (by kernel_rfl)) (tgOk_name (by decide)) (fun _ _ _ _ _ => pg_name (i := 2) sc__law_first_way.nd rfl (by first | exact Or.inl rfl | exact Or.inr rfl)) (fun _ _ _ _ _ => (at_cmp aop_gt (ae_call (okA__law_jets T 65) (hr.mono (by decide)) (by rfl) (aa_cons (av 2) aa_nil)) ae_int (nomark _))) (fun _ _ _ _ _ => (av 2))) ae_int (fun _ _ => rfl)) aa_nil)))))
      (as_one (as_ret (av 1)))))) ?vc
  case len =>
    intro ds L R RX h
    unfold asp__law_first_way at h
    split at h <;> first | rfl | exact h.elim
  case vc =>
    intro ds L R RX h
    unfold asp__law_first_way at h
    split at h
    · rename_i x
      obtain ⟨t, rfl, ht, hz, h⟩ := h
      have hsl := sizeLine_eq
      refine ⟨by show (1 : Nat) ≤ sizeLine; omega, fun P hP => ?_⟩
      refine ⟨fun m env L1 => ∃ (A : List JW.T) (u : JW.T) (x2 : Option D), env = [some (dT t), some (.ref P), x2] ∧ L1 P = some (.lst ((A ++ [u]).map dT)) ∧ SubS L L1 ∧ u.jts ≠ 0 ∧ A.length + u.size ≤ t.size ∧ wayP t ++ [JW.T.jet] = A ++ (wayP u ++ [JW.T.jet]) ∧ m = u.size, ⟨_, [], t, none, rfl, sput_same, (SubS.refl L).new hP, ht, by simp, rfl, rfl⟩, ?_⟩
      rintro m env L1 ⟨A, u, x2, rfl, p1, sb, hu, hsz, hw, em⟩
      refine ⟨_, _, p1, atI_neg1 A u, eqD_o (by omega) (ite2 (fun e => ?_) (fun e => ?_))⟩
      rotate_left
      · have eu : u = .jet := by simpa using e
        subst eu
        have e2 : wayP t ++ [JW.T.jet] = A ++ [JW.T.jet] := hw
        refine ret_sub (h P hP) ?_
        rw [e2]
        exact sb.mine p1
      have nj : u ≠ .jet := by simpa using e
      obtain ⟨l, el⟩ : ∃ l, u = .bas l := by
        cases u with
        | jet => exact absurd rfl nj
        | bas l => exact ⟨l, rfl⟩
      obtain ⟨v, hv, hvj, hvw, C, B, hl, hC⟩ := way_open hu el
      subst el
      have hs : (JW.T.bas l).size = 1 + sizeL l := rfl
      have hll := length_le l
      have hvs := size_mem hv
      refine ⟨⟨P, _, rfl, p1⟩, _, _, p1, atI_neg1 A (.bas l), ?_⟩
      rw [dT_bas]
      refine fun D hD => ?_
      have hl0 : ([] : List AL.D).length + l.length ≤ sizeLine := by
        show 0 + l.length ≤ _
        omega
      refine comp_filt dT dT (fun b => decide (0 < b.jts)) (fun _ => trivial) l [] hl0 (fun b hb l2 k hk => ?_) ?_
      · have h1 := size_mem hb
        refine ⟨rfl, b, rfl, by omega, by omega, ?_⟩
        refine ite2 (fun e2 => ?_) (fun e2 => ?_)
        · have : 0 < b.jts := by
            have := of_decide_eq_true e2
            omega
          rw [decide_eq_true this] at hk
          exact hk
        · have : ¬ 0 < b.jts := fun z => e2 (decide_eq_true (by omega))
          rw [decide_eq_false this] at hk
          exact hk
      have hf : (l.filter fun b => decide (0 < b.jts)) = v :: B.filter fun b => decide (0 < b.jts) := by
        rw [hl, List.filter_append, List.filter_eq_nil_iff.mpr fun c hc => by rw [hC c hc]; decide, List.filter_cons_of_pos (by rw [decide_eq_true (Nat.pos_of_ne_zero hvj)])]
        rfl
      refine ⟨_, dT v, sput_same, by rw [List.nil_append, hf]; exact atI_nat (j := 0) rfl, _, sput_old p1 hD, by rw [List.length_map, List.length_append]; show A.length + 1 < sizeLine; omega, ?_⟩
      refine ⟨v.size, by omega, A ++ [JW.T.bas l], v, x2, rfl, by rw [sput_same, List.map_append (l₂ := [v])]; rfl, (sb.new hD).put hP, hvj, by rw [List.length_append]; show A.length + 1 + _ ≤ _; omega, ?_, rfl⟩
      rw [hw, hvw, List.append_assoc]
      rfl
    · exact h.elim
mutual
/-- the least path of a jet that no piece that is b covers -/
def baT (b : T) : T → Option (List Nat)
  | .jet => if T.jet = b then none else some []
  | .bas l => if T.bas l = b then none else baL b 0 l
def baL (b : T) (i : Nat) : List T → Option (List Nat)
  | [] => none
  | t :: l => match baT b t with
    | some p => some (i :: p)
    | none => baL b (i + 1) l
end
theorem baT_eq (b t : JW.T) : baT b t = if t = b then none else if t = .jet then some [] else baL b 0 t.kids := by
  cases t with
  | jet => rfl
  | bas l =>
    show (if JW.T.bas l = b then none else baL b 0 l) = _
    rw [if_neg (show ¬ (JW.T.bas l = .jet) from fun z => by cases z)]
    rfl
theorem baL_none {b : JW.T} : ∀ (l : List JW.T) (i : Nat), (∀ t ∈ l, baT b t = none ↔ cov b t = true) → (baL b i l = none ↔ covL b l = true)
  | [], _, _ => ⟨fun _ => rfl, fun _ => rfl⟩
  | t :: l, i, h => by
    have h1 := h t List.mem_cons_self
    have h2 := baL_none l (i + 1) fun u hu => h u (List.mem_cons_of_mem _ hu)
    show (match baT b t with | some p => some (i :: p) | none => baL b (i + 1) l) = none ↔ (cov b t && covL b l) = true
    cases e : baT b t with
    | none =>
      rw [h1.mp e, Bool.true_and]
      exact h2
    | some p =>
      have : cov b t = false := by
        cases z : cov b t with
        | false => rfl
        | true => rw [h1.mpr z] at e; cases e
      rw [this]
      exact ⟨fun z => (by cases z), fun z => (by cases z)⟩
theorem ba_cov (b : JW.T) : ∀ t : JW.T, baT b t = none ↔ cov b t = true := by
  refine T.ind' ?_ fun l ih => ?_
  · show (if JW.T.jet = b then none else some []) = none ↔ decide (JW.T.jet = b) = true
    by_cases e : JW.T.jet = b
    · rw [if_pos e, decide_eq_true e]
      exact ⟨fun _ => rfl, fun _ => rfl⟩
    · rw [if_neg e, decide_eq_false e]
      exact ⟨fun z => (by cases z), fun z => (by cases z)⟩
  · show (if JW.T.bas l = b then none else baL b 0 l) = none ↔ (decide (JW.T.bas l = b) || covL b l) = true
    by_cases e : JW.T.bas l = b
    · rw [if_pos e, decide_eq_true e]
      exact ⟨fun _ => rfl, fun _ => rfl⟩
    · rw [if_neg e, decide_eq_false e, Bool.false_or]
      exact baL_none l 0 ih
def bareD : Option (List Nat) → D
  | none => .non
  | some p => .tup (p.map fun i => .int (i : Nat))
def asp__law_bare (n : Nat) : ASp
  | [x, y], L, Q, _ => ∃ t b : JW.T, x = dT t ∧ y = dT b ∧ t.size < n ∧ t.size ≤ 64 ∧ b.size ≤ 64 ∧ Q (bareD (baT b t)) L
  | _, _, _, _ => False
theorem baT_len (b : JW.T) : ∀ (t : JW.T) (p : List Nat), baT b t = some p → p.length ≤ t.size := by
  refine T.ind' (fun p h => ?_) fun l ih p h => ?_
  · rw [baT_eq] at h
    split at h
    · cases h
    · cases h
      exact Nat.zero_le _
  · have go : ∀ (l : List JW.T) (i : Nat) (p : List Nat), (∀ t ∈ l, ∀ p, baT b t = some p → p.length ≤ t.size) → baL b i l = some p → p.length ≤ 1 + sizeL l := by
      intro l
      induction l with
      | nil => intro i p _ h; cases h
      | cons t l ih2 =>
        intro i p ht h
        have h' : (match baT b t with | some p => some (i :: p) | none => baL b (i + 1) l) = some p := h
        have e : sizeL (t :: l) = t.size + sizeL l := rfl
        cases eb : baT b t with
        | none =>
          rw [eb] at h'
          have := ih2 (i + 1) p (fun u hu => ht u (List.mem_cons_of_mem _ hu)) h'
          omega
        | some q =>
          rw [eb] at h'
          cases h'
          have := ht t List.mem_cons_self q eb
          rw [List.length_cons]
          omega
    rw [baT_eq] at h
    split at h
    · cases h
    · rw [if_neg (fun z => by cases z)] at h
      exact go l 0 p ih h
theorem stepA__law_bare  (T : Txt K mg base) {scr : Option (Addr × List Int)} (n : Nat) (ih : CallD P w K mg base CX0 (4 + n) "_law_bare" ["_law_tree_here", "_law_part"] [] (spA (cA K scr) (asp__law_bare n))) : CallD P w K mg base CX0 (4 + n + 1) "_law_bare" ["_law_tree_here", "_law_part"] [] (spA (cA K scr) (asp__law_bare (n + 1))) := by
  refine T.d__law_bare.okA sc__law_bare ?len (fun f cdv A outer s H E hr => (as_cons (as_if (at_cmp (aop_eq (okF_eq T) (hr.mono (by omega)) hr.units) (av 0) (av 1) (nomark _))
        (as_one (as_ret ae_non))
        as_nil)
      (as_cons (as_if (at_cmp (aop_eq (okF_eq T) (hr.mono (by omega)) hr.units) (av 0) ae_str (nomark _))
        (as_one (as_ret (ae_tup aa_nil)))
        as_nil)
      (as_cons (as_for PassesOwn.never rfl (ai_enumT (by rfl) T.n_enumerate (aa_cons (av 0) aa_nil)) (ag_tup (n := 2) rfl (ags_cons (ag_name (i := 2) sc__law_bare.nd rfl (by first | exact Or.inl rfl | exact Or.inr rfl)) (ags_cons (ag_name (i := 3) sc__law_bare.nd rfl (by first | exact Or.inl rfl | exact Or.inr rfl)) ags_nil)) (fun _ _ _ _ z => agNs_len (js := [2, 3]) z))
        (as_cons (as_set (i := 4) sc__law_bare.nd rfl (by first | exact Or.inl rfl | exact Or.inr rfl) (ae_call ih (hr.mono (by omega)) (by rfl) (aa_cons (av 3) (aa_cons (av 1) aa_nil))))
        (as_one (as_if (at_cmp aop_isnot (av 4) ae_non (nomark _))
          (as_one (as_ret (ae_op aop_add (ae_tup (aa_cons (av 2) aa_nil)) (av 4))))
          as_nil))))
      (as_one (as_ret ae_non)))))) ?vc
  case len =>
    intro ds L R RX h
    unfold asp__law_bare at h
    split at h <;> first | rfl | exact h.elim
  case vc =>
    intro ds L R RX h
    unfold asp__law_bare at h
    split at h
    rotate_left
    · exact h.elim
    obtain ⟨t, b, rfl, rfl, hn, hz, hb, h⟩ := h
    rw [baT_eq] at h
    have hsl := sizeLine_eq
    refine eqD_tree hz hb (ite2 (fun e => ?_) (fun e => ?_))
    · rw [if_pos (by simpa using e)] at h
      exact ret_of h
    rw [if_neg (by simpa using e)] at h
    refine eqD_o hz (ite2 (fun e2 => ?_) (fun e2 => ?_))
    · rw [if_pos (by simpa using e2)] at h
      exact ⟨Nat.zero_le _, ret_of h⟩
    have ne : t ≠ .jet := by simpa using e2
    rw [if_neg ne] at h
    cases t with
    | jet => exact absurd rfl ne
    | bas l =>
      have hs : (JW.T.bas l).size = 1 + sizeL l := rfl
      have hll := length_le l
      rw [dT_bas]
      have hkz : (l.map dT).length = l.length := List.length_map _
      refine loop_k (enumD (l.map dT)) (fun i env L' => L' = L ∧ baL b 0 l = baL b i (l.drop i) ∧ ∃ x2 x3 x4 : Option D, env = [some (.tup (l.map dT)), some (dT b), x2, x3, x4]) (fun _ _ _ _ _ => trivial) ?step ?fin _ _ ⟨rfl, rfl, _, _, _, rfl⟩
      case fin =>
        rintro env L' ⟨rfl, eb, x3, x4, x5, rfl⟩
        have h2 : R (bareD (baL b 0 l)) L' := h
        rw [eb, enumD_len, hkz, List.drop_length] at h2
        exact ret_of h2
      case step =>
        rintro i d env L' nn hi kn ⟨rfl, eb, x2, x3, x4, rfl⟩
        have hil : i < l.length := by
          have := (List.getElem?_eq_some_iff.mp hi).1
          rwa [enumD_len, hkz] at this
        have ed : d = .tup [.int (i : Nat), dT l[i]] := by
          have e3 := enumD_get (l := l.map dT) (i := i) (d := dT l[i]) (by rw [List.getElem?_map, List.getElem?_eq_getElem hil]; rfl)
          rw [hi] at e3
          exact Option.some.inj e3
        subst ed
        have hku := size_mem (List.getElem_mem hil)
        rw [List.drop_eq_getElem_cons hil] at eb
        have eb2 : baL b i (l[i] :: l.drop (i + 1)) = match baT b l[i] with | some p => some (i :: p) | none => baL b (i + 1) (l.drop (i + 1)) := rfl
        rw [eb2] at eb
        have h2 : R (bareD (baL b 0 l)) L' := h
        refine ⟨rfl, l[i], b, rfl, rfl, by omega, by omega, hb, ?_⟩
        cases eq : baT b l[i] with
        | none =>
          rw [eq] at eb
          exact ite_f (A := True) rfl (kn _ _ ⟨rfl, eb, _, _, _, rfl⟩)
        | some p =>
          rw [eq] at eb
          rw [eb] at h2
          have hp := baT_len b _ _ eq
          refine ite_t (B := True) rfl ⟨by show (1 : Nat) ≤ sizeLine; omega, ?_, ret_of ?_⟩
          · show 1 + (p.map _).length ≤ sizeLine
            rw [List.length_map]
            omega
          · exact h2
theorem okA__law_bare  (T : Txt K mg base) {scr : Option (Addr × List Int)} (n : Nat) : CallD P w K mg base CX0 (4 + n) "_law_bare" ["_law_tree_here", "_law_part"] [] (spA (cA K scr) (asp__law_bare n)) := callD_rec (sp := fun n => spA (cA K scr) (asp__law_bare n)) T.d__law_bare (fun vs H Q E ⟨ds, L, R, RX, _, _, h, _⟩ => by
    unfold asp__law_bare at h
    split at h
    · obtain ⟨t, b, _, _, z, _⟩ := h
      exact absurd z (Nat.not_lt_zero _)
    · exact h.elim
    ) (stepA__law_bare T) n
def asp__law_cut (n : Nat) : ASp
  | [x, y], L, Q, _ => ∃ t b : JW.T, x = dT t ∧ y = dT b ∧ t.size < n ∧ t.size ≤ 64 ∧ b.size ≤ 64 ∧ Q (dT (cutA b t)) L
  | _, _, _, _ => False
theorem cutA_self (b : JW.T) : cutA b b = .jet := by
  cases b with
  | jet => rfl
  | bas l => rw [cutA_bas, if_pos rfl]
theorem stepA__law_cut  (T : Txt K mg base) {scr : Option (Addr × List Int)} (n : Nat) (ih : CallD P w K mg base CX0 (74 + n) "_law_cut" ["_law_tree_here", "_law_part"] [] (spA (cA K scr) (asp__law_cut n))) : CallD P w K mg base CX0 (74 + n + 1) "_law_cut" ["_law_tree_here", "_law_part"] [] (spA (cA K scr) (asp__law_cut (n + 1))) := by
  refine T.d__law_cut.okA sc__law_cut ?len (fun f cdv A outer s H E hr => (as_cons (as_if (at_via (AW.pt (aw_or (at_cmp (aop_eq (okF_eq T) (hr.mono (by omega)) hr.units) (av 0) (av 1) (nomark _)) (aw_or1 (at_cmp (aop_eq (okF_eq T) (hr.mono (by omega)) hr.units) (av 0) ae_str (nomark _))))))
        (as_one (as_ret ae_str))
        as_nil)
      (as_one (as_ret (ae_call (okA__law_basin T) (hr.mono (by omega)) (by rfl) (aa_cons (ae_lc (own := [("_law_branch", 2)]) (by rfl) sc__law_cut.nd (ai_tup (av 0)) (blkOk_by (by kernel_rfl)) (tgOk_name (by decide)) (fun _ _ _ _ _ => pg_name (i := 2) sc__law_cut.nd rfl (by first | exact Or.inl rfl | exact Or.inr rfl)) (fun _ _ _ _ _ => (ae_call ih (hr.mono (by omega)) (by rfl) (aa_cons (av 2) (aa_cons (av 1) aa_nil))))) aa_nil)))))) ?vc
  case len =>
    intro ds L R RX h
    unfold asp__law_cut at h
    split at h <;> first | rfl | exact h.elim
  case vc =>
    intro ds L R RX h
    unfold asp__law_cut at h
    split at h
    rotate_left
    · exact h.elim
    obtain ⟨t, b, rfl, rfl, hn, hz, hb, h⟩ := h
    have hsl := sizeLine_eq
    refine ⟨fun k L2 => L2 = L ∧ k = decide (t = b ∨ t = .jet), eqD_tree hz hb (ite2 (fun e => ⟨rfl, ?_⟩) (fun e => eqD_o hz ⟨rfl, ?_⟩)), fun k L2 ⟨e1, e2⟩ => ?_⟩
    · have e' : t = b := by simpa using e
      rw [decide_eq_true (.inl e')]
    · have e' : t ≠ b := by simpa using e
      rw [Bool.false_xor]
      exact decide_eq_decide.mpr ⟨.inr, fun z => z.resolve_left e'⟩
    subst e1
    refine ite2 (fun e => ?_) (fun e => ?_)
    · rw [e2] at e
      have e3 : cutA b t = .jet := by
        rcases of_decide_eq_true e with z | z
        · rw [z, cutA_self]
        · rw [z]
          rfl
      rw [e3, dT_jet] at h
      exact ret_of h
    rw [e2] at e
    have hne : ¬ (t = b ∨ t = .jet) := fun z => e (decide_eq_true z)
    cases t with
    | jet => exact absurd (.inr rfl) hne
    | bas l =>
      have hs : (JW.T.bas l).size = 1 + sizeL l := rfl
      have hll := length_le l
      rw [cutA_bas, if_neg fun z => hne (.inl z)] at h
      rw [dT_bas]
      refine fun p hp => ?_
      have hl0 : ([] : List D).length + l.length ≤ sizeLine := by
        show 0 + l.length ≤ _
        omega
      refine comp_mapA dT (fun u => dT (cutA b u)) (fun _ => trivial) l [] hl0 (fun u hu l2 k hk => ?_) ?_
      · have h1 := size_mem hu
        exact ⟨rfl, u, b, rfl, rfl, by omega, by omega, hb, hk⟩
      have hsm := sizeL_map_le (l := l) (f := cutA b) fun u _ => cutA_size b u
      refine ⟨l.map (cutA b), by rw [sput_same, List.nil_append, List.map_map]; rfl, by omega, ?_⟩
      exact ret_sub h ((SubS.refl _).new hp)
theorem okA__law_cut  (T : Txt K mg base) {scr : Option (Addr × List Int)} (n : Nat) : CallD P w K mg base CX0 (74 + n) "_law_cut" ["_law_tree_here", "_law_part"] [] (spA (cA K scr) (asp__law_cut n)) := callD_rec (sp := fun n => spA (cA K scr) (asp__law_cut n)) T.d__law_cut (fun vs H Q E ⟨ds, L, R, RX, _, _, h, _⟩ => by
    unfold asp__law_cut at h
    split at h
    · obtain ⟨t, b, _, _, z, _⟩ := h
      exact absurd z (Nat.not_lt_zero _)
    · exact h.elim
    ) (stepA__law_cut T) n
def asp__law_word : ASp
  | [x], L, Q, _ => ∃ t : JW.T, x = dT t ∧ Op t ∧ t.size ≤ 64 ∧ ∀ r, L r = none → Q (.ref r) (sput L r (.lst (t.word.map dT)))
  | _, _, _, _ => False
theorem okA__law_word  (T : Txt K mg base) {scr : Option (Addr × List Int)} : CallD P w K mg base CX0 151 "_law_word" ["_law_tree_here"] [] (spA (cA K scr) (asp__law_word)) := by
  refine T.d__law_word.okA sc__law_word ?len (fun f cdv A outer s H E hr => (as_cons (as_set (i := 1) sc__law_word.nd rfl (by first | exact Or.inl rfl | exact Or.inr rfl) (ae_lst aa_nil))
      (as_cons (as_while PassesOwn.never (at_cmp (aop_ne T.cls (okF_eq T) (hr.mono (by decide)) hr.units) (av 0) ae_str (nomark _))
        (as_cons (as_setLcIf (own := [("_law_piece", 3)]) (i := 2) (by rfl) sc__law_word.nd rfl rfl (sw_true rfl rfl rfl (by decide +kernel)) (ai_list (ae_sl (ae_call (okA__law_first_way T) (hr.mono (by decide)) (by rfl) (aa_cons (av 0) aa_nil)) ao_none (ao_some (ae_neg ae_int)))) (blkOk_by (by kernel_rfl)) (tgOk_name (by decide)) (fun _ _ _ _ _ => pg_name (i := 3) sc__law_word.nd rfl (by first | exact Or.inl rfl | exact Or.inr rfl)) (fun _ _ _ _ _ => (at_cmp aop_is (ae_call (okA__law_bare T 65) (hr.mono (by decide)) (by rfl) (aa_cons (av 0) (aa_cons (av 3) aa_nil))) ae_non (nomark _))) (fun _ _ _ _ _ => (av 3)))
        (as_cons (as_set (i := 1) sc__law_word.nd rfl (by first | exact Or.inl rfl | exact Or.inr rfl) (ae_op aop_add (ae_lst (aa_cons (ae_ix (av 2) (ae_neg ae_int) (fun _ _ => rfl)) aa_nil)) (av 1)))
        (as_one (as_set (i := 0) sc__law_word.nd rfl (by first | exact Or.inl rfl | exact Or.inr rfl) (ae_call (okA__law_cut T 65) (hr.mono (by decide)) (by rfl) (aa_cons (av 0) (aa_cons (ae_ix (av 2) (ae_neg ae_int) (fun _ _ => rfl)) aa_nil))))))))
      (as_one (as_ret (av 1)))))) ?vc
  case len =>
    intro ds L R RX h
    unfold asp__law_word at h
    split at h <;> first | rfl | exact h.elim
  case vc =>
    intro ds L R RX h
    unfold asp__law_word at h
    split at h
    · rename_i x
      obtain ⟨t, rfl, ht, hz, h⟩ := h
      have hsl := sizeLine_eq
      refine ⟨Nat.zero_le _, fun F hF => ?_⟩
      refine ⟨fun m env L1 => ∃ (u : JW.T) (es : List JW.T) (F : Addr) (x2 x3 : Option D), env = [some (dT u), some (.ref F), x2, x3] ∧ L1 F = some (.lst (es.map dT)) ∧ SubS L L1 ∧ L F = none ∧ Op u ∧ u.size ≤ 64 ∧ t.word = u.word ++ es ∧ es.length + u.size ≤ 64 ∧ m = u.word.length, ⟨_, t, [], F, none, none, rfl, sput_same, (SubS.refl L).new hF, hF, ht, hz, by rw [List.append_nil], by simpa using hz, rfl⟩, ?_⟩
      rintro m env L1 ⟨u, es, F, x2, x3, rfl, f1, sb, f0, hu, huz, hw, hes, em⟩
      refine eqD_o huz (ite2 (fun e => ?_) (fun e => ?_))
      rotate_left
      · have eu : u = .jet := by simpa using e
        subst eu
        have e2 : t.word = es := hw
        refine ret_sub (h F f0) ?_
        rw [e2]
        exact sb.mine f1
      have nj : u ≠ .jet := by simpa using e
      obtain ⟨ws, p, hup⟩ := word_nil hu nj
      obtain ⟨hp, hcut, hws, A, hA⟩ := last_end hu hup
      have hpz : p.size ≤ u.size := by
        have : p ∈ (wayP u).filter fun e => cov e u := by rw [hA]; simp
        exact (way_mem u hu.2 p (List.mem_filter.mp this).1).2.2.1
      refine ⟨u, rfl, hu.2, huz, fun B hB => ?_⟩
      refine ⟨_, sput_same, fun C hC => ?_⟩
      rw [cutD_init]
      refine ⟨_, sput_same, fun D hD => ?_⟩
      have hwl := way_len u hu.2
      refine comp_filt dT dT (fun e => cov e u) (fun _ => sput_old sput_same hD) (wayP u) [] (by show 0 + (wayP u).length ≤ _; omega) (fun b hb l2 k hk => ?_) ?_
      · obtain ⟨b1, b2, b3, b4⟩ := way_mem u hu.2 b hb
        refine ⟨rfl, u, b, rfl, rfl, by omega, huz, by omega, ?_⟩
        cases hc : cov b u with
        | true =>
          rw [hc] at hk
          rw [(ba_cov b u).mpr hc]
          exact ite_t (B := True) rfl hk
        | false =>
          rw [hc] at hk
          cases eb : baT b u with
          | none => rw [(ba_cov b u).mp eb] at hc; cases hc
          | some q => exact ite_f (A := True) rfl hk
      rw [hA, List.nil_append]
      have f2 := sput_old (n := .lst ((A ++ [p]).map dT)) (sput_old (n := .lst ((wayP u).map dT)) (sput_old (n := .lst ((wayP u ++ [JW.T.jet]).map dT)) f1 hB) hC) hD
      have sb2 := ((sb.new (m := .lst ((wayP u ++ [JW.T.jet]).map dT)) hB).new (m := .lst ((wayP u).map dT)) hC).new (m := .lst ((A ++ [p]).map dT)) hD
      have d2 : sput (sput (sput L1 B (.lst ((wayP u ++ [JW.T.jet]).map dT))) C (.lst ((wayP u).map dT))) D (.lst ((A ++ [p]).map dT)) D = some (.lst ((A ++ [p]).map dT)) := sput_same
      generalize sput (sput (sput L1 B (.lst ((wayP u ++ [JW.T.jet]).map dT))) C (.lst ((wayP u).map dT))) D (.lst ((A ++ [p]).map dT)) = L2 at f2 sb2 d2 ⊢
      have hwo : ∀ q ∈ ws, Op q := fun q hq => (hws q hq).1
      have hwp : (prodT ws).word = ws := word_of_primes ws hws
      have hpj : 2 ≤ p.size := by
        have h1 := size_pos p
        have h2 := word_prime u hu p (by rw [hup]; simp)
        cases p with
        | jet =>
          have : ([] : List JW.T) = [.jet] := h2
          cases this
        | bas l =>
          have h3 : (JW.T.bas l).size = 1 + sizeL l := rfl
          have h4 : jtsL l ≠ 0 := hp.2
          have h5 : l ≠ [] := fun z => by rw [z] at h4; exact h4 rfl
          have h6 := length_le l
          have h7 := List.length_pos_iff.mpr h5
          omega
      have hz2 : (prodT ws).size + 1 ≤ u.size := by
        have h1 : JW.T.grf p (prodT ws) = u := by rw [← prod_snoc, ← hup, (word_prod u hu).1]
        have h2 := grf_size p (prodT ws)
        have h3 := Nat.pos_of_ne_zero (prod_open fun q hq => (hwo q hq).2)
        rw [h1] at h2
        have h4 : (prodT ws).jts * 2 ≤ (prodT ws).jts * p.size := Nat.mul_le_mul_left _ hpj
        omega
      refine ⟨_, _, d2, atI_neg1 A p, by show (1 : Nat) ≤ sizeLine; omega, fun G hG => ⟨_, _, sput_same, sput_old f2 hG, by show 1 + (es.map dT).length ≤ sizeLine; rw [List.length_map]; omega, fun r hr => ?_⟩⟩
      have d3 := sput_old (n := .lst ([dT p] ++ es.map dT)) (sput_old (n := .lst [dT p]) d2 hG) hr
      have sb3 := (sb2.new (m := .lst [dT p]) hG).new (m := .lst ([dT p] ++ es.map dT)) hr
      refine ⟨_, _, d3, atI_neg1 A p, u, p, rfl, rfl, by omega, huz, by omega, ?_⟩
      rw [cutA_eq (Nat.pos_of_ne_zero hp.2) u hu.1, hcut]
      refine ⟨ws.length, by rw [em, hup, List.length_append]; show ws.length < ws.length + 1; omega, prodT ws, p :: es, r, _, _, rfl, sput_same, sb3, sb2.none ?_, prod_op hwo, by omega, ?_, ?_, by rw [hwp]⟩
      · rw [sput_ne (fun z => by rw [← z, sput_same] at hr; cases hr)] at hr
        exact hr
      · rw [hw, hup, hwp, List.append_assoc]
        rfl
      · rw [List.length_cons]
        omega
    · exact h.elim
theorem prm_len {t : JW.T} (h : Op t) (hj : t ≠ .jet) (hl : t.word.length ≤ 1) : Prm t := by
  obtain ⟨ws, p, e⟩ := word_nil h hj
  have h1 : ws = [] := by
    rw [e, List.length_append, List.length_singleton] at hl
    exact List.length_eq_zero_iff.mp (by omega)
  subst h1
  have h2 := (word_prod t h).1
  rw [e] at h2
  have h3 : p = t := h2
  show t.word = [t]
  rw [e, h3]
  rfl
theorem word_jet_branch {l : List JW.T} (hj : JW.T.jet ∈ l) : (JW.T.bas l).word.length ≤ 1 := by
  show (lcsL (wordsL l)).length + 1 ≤ 1
  have h1 : ([] : List JW.T) ∈ wordsL l := mem_words.mpr ⟨.jet, hj, by decide, rfl⟩
  have h2 := (lcs_suf h1).length_le
  have h3 : ([] : List JW.T).length = 0 := rfl
  omega
def PW (t : JW.T) : Prop := Op t ∧ Prm t ∧ t.size ≤ 17
def inB (k : Nat) : List JW.T := [.jet] ++ List.replicate (k + 1) (.bas []) ++ List.replicate (k + 2) (.bas [.bas [.jet]])
theorem inB_size (k : Nat) : sizeL (inB k) = 1 + (k + 1) + 3 * (k + 2) := by
  have go : ∀ (t : JW.T) (n : Nat), sizeL (List.replicate n t) = t.size * n := by
    intro t n
    induction n with
    | zero => rfl
    | succ n ih =>
      rw [List.replicate_succ]
      show t.size + sizeL (List.replicate n t) = _
      rw [ih, Nat.mul_succ]
      omega
  unfold inB
  rw [sizeL_app, sizeL_app, go, go]
  have e1 : (JW.T.bas []).size = 1 := rfl
  have e2 : (JW.T.bas [JW.T.bas [JW.T.jet]]).size = 3 := rfl
  have e3 : sizeL [JW.T.jet] = 1 := rfl
  rw [e1, e2, e3]
  omega
theorem inB_pw {k : Nat} (hk : k ≤ 2) : PW (.bas (sortT (inB k))) := by
  have hc : CanL (inB k) := canL_iff.mpr fun t ht => by
    unfold inB at ht
    rcases List.mem_append.mp ht with h | h
    · rcases List.mem_append.mp h with h | h
      · rw [List.mem_singleton.mp h]
        trivial
      · rw [(List.mem_replicate.mp h).2]
        exact ⟨by decide, trivial⟩
    · rw [(List.mem_replicate.mp h).2]
      exact ⟨by decide, ⟨by decide, trivial, trivial⟩, trivial⟩
  have hjm : JW.T.jet ∈ sortT (inB k) := (sortT_perm _).mem_iff.mpr (by unfold inB; simp)
  have hj : (JW.T.bas (sortT (inB k))).jts ≠ 0 := by
    show jtsL (sortT (inB k)) ≠ 0
    rw [jtsL_perm (sortT_perm _)]
    unfold inB
    show 1 + _ ≠ 0
    omega
  have op : Op (.bas (sortT (inB k))) := ⟨can_bas hc, hj⟩
  refine ⟨op, prm_len op (fun z => by cases z) (word_jet_branch hjm), ?_⟩
  show 1 + sizeL (sortT (inB k)) ≤ 17
  rw [sizeL_perm (sortT_perm _), inB_size]
  omega
def asp__law_primes : ASp
  | [.ref d, .int m], L, Q, _ => ∃ g, SkAt L d g ∧ 0 ≤ m ∧ m ≤ 3 ∧ ∀ (ts : List JW.T) r ns, (∀ t ∈ ts, PW t) → (ts.length : Int) = m → L r = none → r ≠ g → Q (.ref r) (sput (sput L g (intsM ns)) r (.lst (ts.map dT)))
  | _, _, _, _ => False
theorem okA__law_primes  (T : Txt K mg base) {scr : Option (Addr × List Int)} : CallD P w K mg base CX0 152 "_law_primes" ["_law_sack_here", "_law_many"] [] (spA (cA K scr) (asp__law_primes)) := by
  refine T.d__law_primes.okA sc__law_primes ?len (fun f cdv A outer s H E hr => (as_cons (as_set (i := 2) sc__law_primes.nd rfl (by first | exact Or.inl rfl | exact Or.inr rfl) (ae_lst aa_nil))
      (as_cons (as_for PassesOwn.never rfl (ai_rng1 (by rfl) T.n_range (aa_cons (av 1) aa_nil)) (ag_name (i := 3) sc__law_primes.nd rfl (by first | exact Or.inl rfl | exact Or.inr rfl))
        (as_cons (as_set (i := 4) sc__law_primes.nd rfl (by first | exact Or.inl rfl | exact Or.inr rfl) (ae_call (okA__law_open T) (hr.mono (by decide)) (by rfl) (aa_cons (av 0) (aa_cons (ae_op aop_add ae_int (ae_call (okA__law_take T) (hr.mono (by decide)) (by rfl) (aa_cons (av 0) (aa_cons ae_int aa_nil)))) aa_nil))))
        (as_cons (as_if (at_via (AW.pt (aw_or (at_cmp (aop_eq (okF_eq T) (hr.mono (by decide)) hr.units) (av 4) ae_str (nomark _)) (aw_or (at_cmp aop_gt (ae_b acb_len (by rfl) T.n_len (by decide +kernel) (aa_cons (ae_call (okA__law_word T) (hr.mono (by decide)) (by rfl) (aa_cons (av 4) aa_nil)) aa_nil)) ae_int (nomark _)) (aw_or1 (at_cmp (aop_inX (units65 hr)) (av 4) (av 2) (by rfl)))))))
          (as_one (as_set (i := 4) sc__law_primes.nd rfl (by first | exact Or.inl rfl | exact Or.inr rfl) (ae_call (okA__law_basin T) (hr.mono (by decide)) (by rfl) (aa_cons (ae_op aop_add (ae_op aop_add (ae_lst (aa_cons ae_str aa_nil)) (ae_op aop_mul (ae_lst (aa_cons (ae_tup aa_nil) aa_nil)) (ae_op aop_add (av 3) ae_int))) (ae_op aop_mul (ae_lst (aa_cons (ae_tup (aa_cons (ae_tup (aa_cons ae_str aa_nil)) aa_nil)) aa_nil)) (ae_op aop_add (av 3) ae_int))) aa_nil))))
          as_nil)
        (as_one (as_expr (ae_ml PySem.F.plainAttrs_list PySem.F.slot_list_append PySem.F.type_list_append mt_append low_append (av 2) (aa_cons (av 4) aa_nil)))))))
      (as_one (as_ret (av 2)))))) ?vc
  case len =>
    intro ds L R RX h
    unfold asp__law_primes at h
    split at h <;> first | rfl | exact h.elim
  case vc =>
    intro ds L R RX h
    unfold asp__law_primes at h
    split at h
    · rename_i d m
      obtain ⟨g, hS, m0, m3, h⟩ := h
      have hsl := sizeLine_eq
      refine ⟨Nat.zero_le _, fun F hF => ?_⟩
      obtain ⟨nFd, nFg⟩ := hS.ne hF
      refine ⟨by omega, by omega, ?_⟩
      refine loop_map (fun i : Nat => D.int (0 + (i : Nat))) (List.range m.toNat) (fun pre env L1 => ∃ (ts : List JW.T) (x3 x4 : Option D), env = [some (.ref d), some (.int m), some (.ref F), x3, x4] ∧ L1 F = some (.lst (ts.map dT)) ∧ SkAt L1 d g ∧ Sk g L L1 ∧ (∀ t ∈ ts, PW t) ∧ ts.length = pre.length) (fun _ _ _ _ => trivial) ?step ?fin _ _ ⟨[], none, none, rfl, sput_same, hS.new hF, (Sk.refl g L).new hF, fun _ z => absurd z List.not_mem_nil, rfl⟩
      case fin =>
        rintro env L1 ⟨ts, x3, x4, rfl, hF1, S1, sk, hp, hl⟩
        rw [List.length_range] at hl
        exact sk.endN S1 hF nFg hF1 fun ns => h ts F ns hp (by omega) hF nFg
      case step =>
        rintro pre i rest nn e kn env L1 ⟨ts, x3, x4, rfl, hF1, S1, sk, hp, hl⟩
        obtain ⟨ei, hi⟩ := range_split e
        subst ei
        refine ⟨g, S1, by omega, by omega, fun v m1 a1 b1 => ⟨g, S1.at m1, (1 + v).toNat, by omega, by omega, by omega, fun t m2 tc tj tz => ?_⟩⟩
        have S2 := (S1.at m1).at m2
        have k2 : Sk g L (sput (sput L1 g (intsM m1)) g (intsM m2)) := sk.at.at
        have hF2 : sput (sput L1 g (intsM m1)) g (intsM m2) F = some (.lst (ts.map dT)) := by rw [sput_ne nFg, sput_ne nFg]; exact hF1
        generalize sput (sput L1 g (intsM m1)) g (intsM m2) = L2 at S2 k2 hF2 ⊢
        have op : Op t := ⟨tc, by omega⟩
        refine ⟨fun b L3 => SkAt L3 d g ∧ Sk g L L3 ∧ L3 F = some (.lst (ts.map dT)) ∧ (b = false → PW t), ?_, ?_⟩
        · refine eqD_o (by omega) (ite2 (fun e1 => ?_) (fun e1 => ?_))
          · exact ⟨S2, k2, hF2, fun z => by cases z⟩
          have ntj : t ≠ .jet := by simpa using e1
          refine ⟨t, rfl, op, by omega, fun W hW => ?_⟩
          have hF3 := sput_old (n := .lst (t.word.map dT)) hF2 hW
          refine ⟨_, sput_same, ?_⟩
          refine ite2 (fun e2 => ?_) (fun e2 => ?_)
          · exact ⟨S2.new hW, k2.new hW, hF3, fun z => by cases z⟩
          have hwl : t.word.length ≤ 1 := by
            have h9 : ¬ (((t.word.map dT).length : Nat) : Int) > 1 := fun z => e2 (decide_eq_true z)
            rw [List.length_map] at h9
            omega
          refine inX_trees (neg := false) (t := t) (l := ts) (Q := fun x L4 => blD x fun b => SkAt L4 d g ∧ Sk g L L4 ∧ L4 F = some (.lst (ts.map dT)) ∧ (b = false → PW t)) hF3 (by omega) (fun u hu => by have := (hp u hu).2.2; omega) ?_
          exact ⟨S2.new hW, k2.new hW, hF3, fun z => ⟨op, prm_len op ntj hwl, by omega⟩⟩
        · rintro b L3 ⟨S3, k3, f3, hb⟩
          have fin : ∀ (u : JW.T) (L4 : Store), SkAt L4 d g → Sk g L L4 → L4 F = some (.lst (ts.map dT)) → PW u → isLst (.ref F) L4 ∧ ∃ l, L4 F = some (.lst l) ∧ l.length < sizeLine ∧ nn [some (.ref d), some (.int m), some (.ref F), some (.int (0 + (pre.length : Nat))), some (dT u)] (sput L4 F (.lst (l ++ [dT u]))) := fun u L4 S4 k4 f4 hu => by
            refine ⟨⟨F, _, rfl, f4⟩, _, f4, by rw [List.length_map]; omega, kn _ _ ⟨ts ++ [u], _, _, rfl, by rw [sput_same, List.map_append]; rfl, S4.off nFd nFg, k4.put hF, fun w hw => ?_, by rw [List.length_append, List.length_append, hl]; rfl⟩⟩
            rcases List.mem_append.mp hw with h1 | h1
            · exact hp w h1
            · rw [List.mem_singleton.mp h1]
              exact hu
          cases b with
          | false => exact ite_f rfl (fin t L3 S3 k3 f3 (hb rfl))
          | true =>
            refine ite_t rfl ?_
            have one : (1 : Nat) ≤ sizeLine := by omega
            have hz : m.toNat ≤ 3 := by omega
            have f7 : ∀ (x : D) (k : Nat), (List.replicate k [x]).flatten = List.replicate k x := fun x k => List.flatten_replicate_singleton
            refine ⟨one, fun B1 h1 => ⟨Nat.zero_le _, one, fun B2 h2 => ⟨_, sput_same, by omega, by omega, ?_, fun B3 h3 => ?_⟩⟩⟩
            · show 1 * (0 + (pre.length : Int) + 1).toNat ≤ sizeLine
              omega
            rw [f7]
            have e3 : (0 + (pre.length : Int) + 1).toNat = pre.length + 1 := by omega
            have e6 : (0 + (pre.length : Int) + 2).toNat = pre.length + 2 := by omega
            rw [e3]
            have q1 := sput_old (n := .lst (List.replicate (pre.length + 1) (.tup []))) (sput_old (n := .lst [.tup []]) (sput_same (L := L3) (p := B1) (m := .lst [.str ("o" : Str)])) h2) h3
            refine ⟨_, _, q1, sput_same, by rw [List.length_replicate]; show 1 + (pre.length + 1) ≤ sizeLine; omega, fun B4 h4 => ⟨one, one, one, fun B5 h5 => ⟨_, sput_same, by omega, by omega, ?_, fun B6 h6 => ?_⟩⟩⟩
            · show 1 * (0 + (pre.length : Int) + 2).toNat ≤ sizeLine
              omega
            rw [f7, e6]
            have q4 := sput_old (n := .lst (List.replicate (pre.length + 2) (.tup [.tup [.str ("o" : Str)]]))) (sput_old (n := .lst [.tup [.tup [.str ("o" : Str)]]]) (sput_same (L := sput (sput (sput L3 B1 (.lst [.str ("o" : Str)])) B2 (.lst [.tup []])) B3 (.lst (List.replicate (pre.length + 1) (.tup [])))) (p := B4) (m := .lst ([.str ("o" : Str)] ++ List.replicate (pre.length + 1) (.tup [])))) h5) h6
            refine ⟨_, _, q4, sput_same, by rw [List.length_append, List.length_replicate, List.length_replicate]; show 1 + (pre.length + 1) + (pre.length + 2) ≤ sizeLine; omega, fun B7 h7 => ?_⟩
            have ei : ([.str ("o" : Str)] ++ List.replicate (pre.length + 1) (.tup [])) ++ List.replicate (pre.length + 2) (.tup [.tup [.str ("o" : Str)]]) = (inB pre.length).map dT := by
              unfold inB
              rw [List.map_append, List.map_append, List.map_replicate, List.map_replicate, List.map_singleton, dT_bas, dT_bas, dT_jet, List.map_singleton, dT_bas, List.map_singleton, dT_jet]
              rfl
            have S7 := ((((((S3.new (m := .lst [.str ("o" : Str)]) h1).new (m := .lst [.tup []]) h2).new (m := .lst (List.replicate (pre.length + 1) (.tup []))) h3).new (m := .lst ([.str ("o" : Str)] ++ List.replicate (pre.length + 1) (.tup []))) h4).new (m := .lst [.tup [.tup [.str ("o" : Str)]]]) h5).new (m := .lst (List.replicate (pre.length + 2) (.tup [.tup [.str ("o" : Str)]]))) h6).new (m := .lst (([.str ("o" : Str)] ++ List.replicate (pre.length + 1) (.tup [])) ++ List.replicate (pre.length + 2) (.tup [.tup [.str ("o" : Str)]]))) h7
            have k7 := ((((((k3.new (m := .lst [.str ("o" : Str)]) h1).new (m := .lst [.tup []]) h2).new (m := .lst (List.replicate (pre.length + 1) (.tup []))) h3).new (m := .lst ([.str ("o" : Str)] ++ List.replicate (pre.length + 1) (.tup []))) h4).new (m := .lst [.tup [.tup [.str ("o" : Str)]]]) h5).new (m := .lst (List.replicate (pre.length + 2) (.tup [.tup [.str ("o" : Str)]]))) h6).new (m := .lst (([.str ("o" : Str)] ++ List.replicate (pre.length + 1) (.tup [])) ++ List.replicate (pre.length + 2) (.tup [.tup [.str ("o" : Str)]]))) h7
            have q7 := sput_old (n := .lst (([.str ("o" : Str)] ++ List.replicate (pre.length + 1) (.tup [])) ++ List.replicate (pre.length + 2) (.tup [.tup [.str ("o" : Str)]]))) (sput_old (n := .lst (List.replicate (pre.length + 2) (.tup [.tup [.str ("o" : Str)]]))) (sput_old (n := .lst [.tup [.tup [.str ("o" : Str)]]]) (sput_old (n := .lst ([.str ("o" : Str)] ++ List.replicate (pre.length + 1) (.tup []))) (sput_old (n := .lst (List.replicate (pre.length + 1) (.tup []))) (sput_old (n := .lst [.tup []]) (sput_old (n := .lst [.str ("o" : Str)]) f3 h1) h2) h3) h4) h5) h6) h7
            refine ⟨inB pre.length, by rw [sput_same, ei], by rw [inB_size]; omega, fin _ _ S7 k7 q7 (inB_pw (by omega))⟩
    · exact h.elim
def WW (ts : List JW.T) : Prop := (∀ t ∈ ts, PW t) ∧ (prodT ts).size ≤ 60
theorem ww_nil : WW [] := ⟨fun _ z => absurd z List.not_mem_nil, by decide⟩
theorem ww_len {ts : List JW.T} (h : WW ts) : ts.length ≤ 60 := by
  have op := prod_op fun t ht => (h.1 t ht).1
  have h1 := word_len (prodT ts) op
  rw [word_of_primes ts fun t ht => ⟨(h.1 t ht).1, (h.1 t ht).2.1⟩] at h1
  have := h.2
  omega
theorem prod_app_size {a b : List JW.T} (ha : ∀ t ∈ a, Op t) (hb : ∀ t ∈ b, Op t) : (prodT (a ++ b)).size ≤ (prodT a).size * (prodT b).size := by
  rw [prod_app (fun t ht => (ha t ht).1) fun t ht => (hb t ht).1]
  have h1 := grf_size (prodT b) (prodT a)
  have h2 := jts_le (prodT a)
  have h3 := size_pos (prodT b)
  have h4 := size_pos (prodT a)
  obtain ⟨c, hc⟩ : ∃ c, (prodT b).size = c + 1 := ⟨(prodT b).size - 1, by omega⟩
  rw [hc] at h1 ⊢
  have h5 : (prodT a).jts * c ≤ (prodT a).size * c := Nat.mul_le_mul_right _ h2
  rw [Nat.mul_add, Nat.mul_one] at h1
  rw [Nat.mul_add, Nat.mul_one]
  omega
def asp__law_some_word : ASp
  | [.ref d, .ref p, .int m], L, Q, _ => ∃ g, SkAt L d g ∧ p ≠ g ∧ (∃ ps : List JW.T, L p = some (.lst (ps.map dT)) ∧ (∀ t ∈ ps, PW t) ∧ 1 ≤ ps.length ∧ ps.length ≤ 1000) ∧ 0 ≤ m ∧ m ≤ 100 ∧ ∀ (ts : List JW.T) r ns, WW ts → L r = none → r ≠ g → Q (.ref r) (sput (sput L g (intsM ns)) r (.lst (ts.map dT)))
  | _, _, _, _ => False
theorem okA__law_some_word  (T : Txt K mg base) {scr : Option (Addr × List Int)} : CallD P w K mg base CX0 81 "_law_some_word" ["_law_sack_here", "_law_pool_here", "_law_many"] [] (spA (cA K scr) (asp__law_some_word)) := by
  refine T.d__law_some_word.okA sc__law_some_word ?len (fun f cdv A outer s H E hr => (as_cons (as_set (i := 3) sc__law_some_word.nd rfl (by first | exact Or.inl rfl | exact Or.inr rfl) (ae_lst aa_nil))
      (as_cons (as_for PassesOwn.never rfl (ai_rng1 (by rfl) T.n_range (aa_cons (ae_call (okA__law_take T) (hr.mono (by decide)) (by rfl) (aa_cons (av 0) (aa_cons (ae_op aop_add (av 2) ae_int) aa_nil))) aa_nil)) (ag_name (i := 4) sc__law_some_word.nd rfl (by first | exact Or.inl rfl | exact Or.inr rfl))
        (as_cons (as_set (i := 5) sc__law_some_word.nd rfl (by first | exact Or.inl rfl | exact Or.inr rfl) (ae_op aop_add (av 3) (ae_lst (aa_cons (ae_ix (av 1) (ae_call (okA__law_take T) (hr.mono (by decide)) (by rfl) (aa_cons (av 0) (aa_cons (ae_b acb_len (by rfl) T.n_len (by decide +kernel) (aa_cons (av 1) aa_nil)) aa_nil))) (fun _ _ => rfl)) aa_nil))))
        (as_one (as_if (at_bl (ae_call (okA__law_fits T) (hr.mono (by decide)) (by rfl) (aa_cons (av 5) aa_nil)))
          (as_one (as_set (i := 3) sc__law_some_word.nd rfl (by first | exact Or.inl rfl | exact Or.inr rfl) (av 5)))
          as_nil))))
      (as_one (as_ret (av 3)))))) ?vc
  case len =>
    intro ds L R RX h
    unfold asp__law_some_word at h
    split at h <;> first | rfl | exact h.elim
  case vc =>
    intro ds L R RX h
    unfold asp__law_some_word at h
    split at h
    · rename_i d p m
      obtain ⟨g, hS, npg, ⟨ps, hp, hps, hp1, hp2⟩, m0, m3, h⟩ := h
      have hsl := sizeLine_eq
      refine ⟨Nat.zero_le _, fun F hF => ?_⟩
      obtain ⟨nFd, nFg⟩ := hS.ne hF
      refine ⟨g, hS.new hF, by omega, by omega, fun v m1 a1 b1 => ?_⟩
      refine ⟨by omega, by omega, ?_⟩
      refine loop_map (fun i : Nat => D.int (0 + (i : Nat))) (List.range v.toNat) (fun pre env L1 => ∃ (ts : List JW.T) (F : Addr) (x4 x5 : Option D), env = [some (.ref d), some (.ref p), some (.int m), some (.ref F), x4, x5] ∧ L1 F = some (.lst (ts.map dT)) ∧ L F = none ∧ F ≠ g ∧ SkAt L1 d g ∧ Sk g L L1 ∧ WW ts) (fun _ _ _ _ => trivial) ?step ?fin _ _ ⟨[], F, none, none, rfl, by rw [sput_ne nFg]; exact sput_same, hF, nFg, (hS.new hF).at m1, ((Sk.refl g L).new hF).at, ww_nil⟩
      case fin =>
        rintro env L1 ⟨ts, F, x4, x5, rfl, hF1, hF0, nFg, S1, sk, hw⟩
        exact sk.endN S1 hF0 nFg hF1 fun ns => h ts F ns hw hF0 nFg
      case step =>
        rintro pre i rest nn e kn env L1 ⟨ts, F, x4, x5, rfl, hF1, hF0, nFg, S1, sk, hw⟩
        have hp1' := sk p _ npg hp
        refine ⟨_, hp1', g, S1, by rw [List.length_map]; omega, by rw [List.length_map]; omega, fun a m2 a0 a1 => ?_⟩
        rw [List.length_map] at a1
        obtain ⟨an, rfl⟩ := Int.eq_ofNat_of_zero_le a0
        obtain ⟨q, hq⟩ : ∃ q, ps[an]? = some q := ⟨_, List.getElem?_eq_getElem (by omega)⟩
        have p2 : sput L1 g (intsM m2) p = some (.lst (ps.map dT)) := by rw [sput_ne npg]; exact hp1'
        have S2 := S1.at m2
        have k2 : Sk g L (sput L1 g (intsM m2)) := sk.at
        have f2 : sput L1 g (intsM m2) F = some (.lst (ts.map dT)) := by rw [sput_ne nFg]; exact hF1
        generalize sput L1 g (intsM m2) = L2 at S2 k2 p2 f2 ⊢
        refine ⟨_, _, p2, atI_nat (xs := ps.map dT) (v := dT q) (by rw [List.getElem?_map, hq]; rfl), ?_⟩
        have hpq := hps q (List.mem_of_getElem? hq)
        have hl := ww_len hw
        refine ⟨by show (1 : Nat) ≤ sizeLine; omega, fun B hB => ⟨_, _, sput_old f2 hB, sput_same, ?_, fun C hC => ?_⟩⟩
        · rw [List.length_map]
          show ts.length + 1 ≤ sizeLine
          omega
        have ea : ts.map dT ++ [dT q] = (ts ++ [q]).map dT := by rw [List.map_append]; rfl
        rw [ea]
        have hC2 : L2 C = none := by
          rw [sput_ne (fun z => by rw [z, sput_same] at hC; cases hC)] at hC
          exact hC
        obtain ⟨nCd, nCg⟩ := S2.ne hC2
        have S3 := (S2.new (m := .lst [dT q]) hB).new (m := .lst ((ts ++ [q]).map dT)) hC
        have k3 := (k2.new (m := .lst [dT q]) hB).new (m := .lst ((ts ++ [q]).map dT)) hC
        have f3 := sput_old (n := .lst ((ts ++ [q]).map dT)) (sput_old (n := .lst [dT q]) f2 hB) hC
        have hpw : ∀ t ∈ ts ++ [q], PW t := fun t ht => (List.mem_append.mp ht).elim (hw.1 t) fun z => by rw [List.mem_singleton.mp z]; exact hpq
        have hz : (prodT (ts ++ [q])).size ≤ 10000 := by
          have h1 := prod_app_size (fun t ht => (hw.1 t ht).1) (b := [q]) fun t ht => (hpw t (List.mem_append_right _ ht)).1
          have h3 : (prodT [q]).size = q.size := rfl
          have h2 : (prodT ts).size * (prodT [q]).size ≤ 60 * 17 := Nat.mul_le_mul hw.2 (by rw [h3]; exact hpq.2.2)
          omega
        refine ⟨ts ++ [q], sput_same, fun t ht => by have := (hpw t ht).2.2; omega, hz, ite2 (fun e1 => ?_) (fun e1 => ?_)⟩
        · exact kn _ _ ⟨ts ++ [q], C, _, _, rfl, sput_same, k2.nil nCg hC2, nCg, S3, k3, hpw, of_decide_eq_true e1⟩
        · exact kn _ _ ⟨ts, F, _, _, rfl, f3, hF0, nFg, S3, k3, hw⟩
    · exact h.elim
def asp__law_grafted (n : Nat) : ASp
  | [x, y], L, Q, _ => ∃ t b : JW.T, x = dT t ∧ y = dT b ∧ t.size < n ∧ t.size ≤ 64 ∧ (JW.T.grf b t).size ≤ 64 ∧ Q (dT (JW.T.grf b t)) L
  | _, _, _, _ => False
theorem stepA__law_grafted  (T : Txt K mg base) {scr : Option (Addr × List Int)} (n : Nat) (ih : CallD P w K mg base CX0 (74 + n) "_law_grafted" ["_law_tree_here", "_law_part"] [] (spA (cA K scr) (asp__law_grafted n))) : CallD P w K mg base CX0 (74 + n + 1) "_law_grafted" ["_law_tree_here", "_law_part"] [] (spA (cA K scr) (asp__law_grafted (n + 1))) := by
  refine T.d__law_grafted.okA sc__law_grafted ?len (fun f cdv A outer s H E hr => (as_cons (as_if (at_cmp (aop_eq (okF_eq T) (hr.mono (by omega)) hr.units) (av 0) ae_str (nomark _))
        (as_one (as_ret (av 1)))
        as_nil)
      (as_one (as_ret (ae_call (okA__law_basin T) (hr.mono (by omega)) (by rfl) (aa_cons (ae_lc (own := [("_law_branch", 2)]) (by rfl) sc__law_grafted.nd (ai_tup (av 0)) (blkOk_by (by kernel_rfl)) (tgOk_name (by decide)) (fun _ _ _ _ _ => pg_name (i := 2) sc__law_grafted.nd rfl (by first | exact Or.inl rfl | exact Or.inr rfl)) (fun _ _ _ _ _ => (ae_call ih (hr.mono (by omega)) (by rfl) (aa_cons (av 2) (aa_cons (av 1) aa_nil))))) aa_nil)))))) ?vc
  case len =>
    intro ds L R RX h
    unfold asp__law_grafted at h
    split at h <;> first | rfl | exact h.elim
  case vc =>
    intro ds L R RX h
    unfold asp__law_grafted at h
    split at h
    rotate_left
    · exact h.elim
    obtain ⟨t, b, rfl, rfl, hn, hz, hg, h⟩ := h
    have hsl := sizeLine_eq
    refine eqD_o hz (ite2 (fun e => ?_) (fun e => ?_))
    · have e1 : t = .jet := by simpa using e
      subst e1
      exact ret_of h
    cases t with
    | jet => exact absurd rfl e
    | bas l =>
      have hs : (JW.T.bas l).size = 1 + sizeL l := rfl
      have hll := length_le l
      rw [grf_bas] at h hg
      have hg2 : 1 + sizeL (sortT (l.map (JW.T.grf b))) ≤ 64 := hg
      rw [sizeL_perm (sortT_perm _)] at hg2
      rw [dT_bas]
      refine fun p hp => ?_
      have hl0 : ([] : List D).length + l.length ≤ sizeLine := by
        show 0 + l.length ≤ _
        omega
      refine comp_mapA dT (fun u => dT (JW.T.grf b u)) (fun _ => trivial) l [] hl0 (fun u hu l2 k hk => ?_) ?_
      · have h1 := size_mem hu
        have h2 := len_le (List.mem_map_of_mem (f := JW.T.grf b) hu)
        exact ⟨rfl, u, b, rfl, rfl, by omega, by omega, by omega, hk⟩
      refine ⟨l.map (JW.T.grf b), by rw [sput_same, List.nil_append, List.map_map]; rfl, by omega, ?_⟩
      exact ret_sub h ((SubS.refl _).new hp)
theorem okA__law_grafted  (T : Txt K mg base) {scr : Option (Addr × List Int)} (n : Nat) : CallD P w K mg base CX0 (74 + n) "_law_grafted" ["_law_tree_here", "_law_part"] [] (spA (cA K scr) (asp__law_grafted n)) := callD_rec (sp := fun n => spA (cA K scr) (asp__law_grafted n)) T.d__law_grafted (fun vs H Q E ⟨ds, L, R, RX, _, _, h, _⟩ => by
    unfold asp__law_grafted at h
    split at h
    · obtain ⟨t, b, _, _, z, _⟩ := h
      exact absurd z (Nat.not_lt_zero _)
    · exact h.elim
    ) (stepA__law_grafted T) n
def asp__law_product : ASp
  | [.ref p], L, Q, _ => ∃ ts : List JW.T, L p = some (.lst (ts.map dT)) ∧ (prodT ts).size ≤ 64 ∧ Q (dT (prodT ts)) L
  | _, _, _, _ => False
theorem okA__law_product  (T : Txt K mg base) {scr : Option (Addr × List Int)} : CallD P w K mg base CX0 141 "_law_product" ["_law_trees"] [] (spA (cA K scr) (asp__law_product)) := by
  refine T.d__law_product.okA sc__law_product ?len (fun f cdv A outer s H E hr => (as_cons (as_set (i := 1) sc__law_product.nd rfl (by first | exact Or.inl rfl | exact Or.inr rfl) ae_str)
      (as_cons (as_for PassesOwn.never rfl (ai_list (av 0)) (ag_name (i := 2) sc__law_product.nd rfl (by first | exact Or.inl rfl | exact Or.inr rfl))
        (as_one (as_set (i := 1) sc__law_product.nd rfl (by first | exact Or.inl rfl | exact Or.inr rfl) (ae_call (okA__law_grafted T 65) (hr.mono (by decide)) (by rfl) (aa_cons (av 1) (aa_cons (av 2) aa_nil))))))
      (as_one (as_ret (av 1)))))) ?vc
  case len =>
    intro ds L R RX h
    unfold asp__law_product at h
    split at h <;> first | rfl | exact h.elim
  case vc =>
    intro ds L R RX h
    unfold asp__law_product at h
    split at h
    · rename_i p
      obtain ⟨ts, hp, hz, h⟩ := h
      have hsl := sizeLine_eq
      refine ⟨_, hp, ?_⟩
      refine loop_map dT ts (fun pre env L' => L' = L ∧ ∃ x2 : Option D, env = [some (.ref p), some (dT (prodT pre)), x2]) (fun _ _ _ ⟨z, _⟩ => by rw [z]; exact hp) ?step ?fin _ _ ⟨rfl, none, by rw [show prodT [] = JW.T.jet from rfl, dT_jet]; rfl⟩
      case fin =>
        rintro env L' ⟨rfl, x2, rfl⟩
        exact ret_of h
      case step =>
        rintro pre t rest nn e kn env L' ⟨rfl, x2, rfl⟩
        have h1 := prod_take_le ts pre.length
        have h2 := prod_take_le ts (pre.length + 1)
        have e1 : ts.take pre.length = pre := by rw [e, List.take_left]
        have e2 : ts.take (pre.length + 1) = pre ++ [t] := by
          rw [e, List.take_append, List.take_of_length_le (by omega)]
          simp
        rw [e1] at h1
        rw [e2, prod_snoc] at h2
        refine ⟨prodT pre, t, rfl, rfl, by omega, by omega, by omega, kn _ _ ⟨rfl, some (dT t), ?_⟩⟩
        rw [prod_snoc]
        rfl
    · exact h.elim
theorem grf_plug (t : JW.T) : (JW.T.grf (.bas []) t).jts = 0 ∧ (JW.T.grf (.bas []) t).size = t.size := by
  refine ⟨?_, ?_⟩
  · rw [grf_jts]
    rfl
  · have h := grf_size (.bas []) t
    have h1 : (JW.T.bas []).size = 1 := rfl
    rw [h1, Nat.mul_one] at h
    omega
def asp__law_shut : ASp
  | [.ref d], L, Q, _ => ∃ g, SkAt L d g ∧ ∀ (t : JW.T) ns, Can t → t.jts = 0 → t.size ≤ 5 → Q (dT t) (sput L g (intsM ns))
  | _, _, _, _ => False
theorem okA__law_shut  (T : Txt K mg base) {scr : Option (Addr × List Int)} : CallD P w K mg base CX0 146 "_law_shut" ["_law_sack_here"] [] (spA (cA K scr) (asp__law_shut)) := by
  refine T.d__law_shut.okA sc__law_shut ?len (fun f cdv A outer s H E hr => (as_one (as_ret (ae_call (okA__law_grafted T 65) (hr.mono (by decide)) (by rfl) (aa_cons (ae_call (okA__law_tree T 61) (hr.mono (by decide)) (by rfl) (aa_cons (av 0) (aa_cons (ae_op aop_add ae_int (ae_call (okA__law_take T) (hr.mono (by decide)) (by rfl) (aa_cons (av 0) (aa_cons ae_int aa_nil)))) aa_nil))) (aa_cons (ae_tup aa_nil) aa_nil)))))) ?vc
  case len =>
    intro ds L R RX h
    unfold asp__law_shut at h
    split at h <;> first | rfl | exact h.elim
  case vc =>
    intro ds L R RX h
    unfold asp__law_shut at h
    split at h
    · rename_i d
      obtain ⟨g, hS, h⟩ := h
      refine ⟨g, hS, by omega, by omega, fun v1 m1 a1 b1 => ⟨g, hS.at m1, (1 + v1).toNat, by omega, by omega, by omega, by omega, fun t m2 tc ts => ?_⟩⟩
      obtain ⟨e1, e2⟩ := grf_plug t
      refine ⟨Nat.zero_le _, t, .bas [], rfl, rfl, by omega, by omega, by omega, ?_⟩
      refine ret_of ?_
      rw [sput_sput]
      exact h _ m2 (grf_can (show Can (JW.T.bas []) from ⟨by decide, trivial⟩) t) e1 (by omega)
    · exact h.elim
def DrawnOk (t : JW.T) : Prop := ∃ l : List JW.T, t = .bas l ∧ Op t ∧ t.size ≤ 60
theorem ww_prod_app {a b : List JW.T} (ha : WW a) (hb : WW b) : (∀ t ∈ a ++ b, PW t) ∧ (prodT (a ++ b)).size ≤ 10000 := by
  refine ⟨fun t ht => (List.mem_append.mp ht).elim (ha.1 t) (hb.1 t), ?_⟩
  have h1 := prod_app_size (fun t ht => (ha.1 t ht).1) fun t ht => (hb.1 t ht).1
  have h2 : (prodT a).size * (prodT b).size ≤ 60 * 60 := Nat.mul_le_mul ha.2 hb.2
  omega
theorem sizeL_le {n : Nat} : ∀ {l : List JW.T}, (∀ t ∈ l, t.size ≤ n) → sizeL l ≤ n * l.length
  | [], _ => Nat.le_refl _
  | t :: l, h => by
    have h1 := h t List.mem_cons_self
    have h2 := sizeL_le fun u hu => h u (List.mem_cons_of_mem _ hu)
    show t.size + sizeL l ≤ n * (l.length + 1)
    rw [Nat.mul_add, Nat.mul_one]
    omega
def asp__law_drawn : ASp
  | [.ref d, .ref p, .ref q], L, Q, _ => ∃ (g : Addr) (ps es : List JW.T), SkAt L d g ∧ p ≠ g ∧ q ≠ g ∧ L p = some (.lst (ps.map dT)) ∧ L q = some (.lst (es.map dT)) ∧ (∀ t ∈ ps, PW t) ∧ 1 ≤ ps.length ∧ ps.length ≤ 1000 ∧ WW es ∧ ∀ (t : JW.T) ns, DrawnOk t → Q (dT t) (sput L g (intsM ns))
  | _, _, _, _ => False
theorem okA__law_drawn  (T : Txt K mg base) {scr : Option (Addr × List Int)} : CallD P w K mg base CX0 151 "_law_drawn" ["_law_sack_here", "_law_pool_here", "_law_end"] [] (spA (cA K scr) (asp__law_drawn)) := by
  refine T.d__law_drawn.okA sc__law_drawn ?len (fun f cdv A outer s H E hr => (as_cons (as_set (i := 3) sc__law_drawn.nd rfl (by first | exact Or.inl rfl | exact Or.inr rfl) (ae_lst aa_nil))
      (as_cons (as_for PassesOwn.never rfl (ai_rng1 (by rfl) T.n_range (aa_cons (ae_op aop_add ae_int (ae_call (okA__law_take T) (hr.mono (by decide)) (by rfl) (aa_cons (av 0) (aa_cons ae_int aa_nil)))) aa_nil)) (ag_name (i := 4) sc__law_drawn.nd rfl (by first | exact Or.inl rfl | exact Or.inr rfl))
        (as_cons (as_set (i := 5) sc__law_drawn.nd rfl (by first | exact Or.inl rfl | exact Or.inr rfl) (ae_op aop_add (ae_call (okA__law_some_word T) (hr.mono (by decide)) (by rfl) (aa_cons (av 0) (aa_cons (av 1) (aa_cons ae_int aa_nil)))) (av 2)))
        (as_cons (as_set (i := 6) sc__law_drawn.nd rfl (by first | exact Or.inl rfl | exact Or.inr rfl) (ae_call (okA__law_product T) (hr.mono (by decide)) (by rfl) (aa_cons (ae_ix (ae_lst (aa_cons (av 5) (aa_cons (av 2) aa_nil))) (ae_ty acb_int (by rfl) T.n_int (by decide +kernel) (aa_cons (ae_not (ae_call (okA__law_fits T) (hr.mono (by decide)) (by rfl) (aa_cons (av 5) aa_nil))) aa_nil)) (fun _ _ => rfl)) aa_nil)))
        (as_one (as_expr (ae_ml PySem.F.plainAttrs_list PySem.F.slot_list_append PySem.F.type_list_append mt_append low_append (av 3) (aa_cons (ae_ix (ae_lst (aa_cons ae_str (aa_cons (av 6) aa_nil))) (ae_ty acb_int (by rfl) T.n_int (by decide +kernel) (aa_cons (ae_cmp aop_lt (ae_call (okA__law_size T 65) (hr.mono (by decide)) (by rfl) (aa_cons (av 6) aa_nil)) ae_int (nomark _)) aa_nil)) (fun _ _ => rfl)) aa_nil)))))))
      (as_one (as_ret (ae_call (okA__law_basin T) (hr.mono (by decide)) (by rfl) (aa_cons (ae_op aop_add (av 3) (ae_op aop_mul (ae_lst (aa_cons (ae_call (okA__law_shut T) (hr.mono (by decide)) (by rfl) (aa_cons (av 0) aa_nil)) aa_nil)) (ae_call (okA__law_take T) (hr.mono (by decide)) (by rfl) (aa_cons (av 0) (aa_cons ae_int aa_nil))))) aa_nil))))))) ?vc
  case len =>
    intro ds L R RX h
    unfold asp__law_drawn at h
    split at h <;> first | rfl | exact h.elim
  case vc =>
    intro ds L R RX h
    unfold asp__law_drawn at h
    split at h
    · rename_i d p q
      obtain ⟨g, ps, es, hS, npg, nqg, hp, hq, hps, hp1, hp2, hes, h⟩ := h
      have hsl := sizeLine_eq
      have one : (1 : Nat) ≤ sizeLine := by omega
      have two : (2 : Nat) ≤ sizeLine := by omega
      have hel := ww_len hes
      refine ⟨Nat.zero_le _, fun F hF => ?_⟩
      obtain ⟨nFd, nFg⟩ := hS.ne hF
      refine ⟨g, hS.new hF, by decide, by decide, fun v m1 v0 v1 => ⟨by omega, by omega, ?_⟩⟩
      refine loop_map (fun i : Nat => D.int (0 + (i : Nat))) (List.range (1 + v).toNat) (fun pre env L1 => ∃ (bs : List JW.T) (x4 x5 x6 : Option D), env = [some (.ref d), some (.ref p), some (.ref q), some (.ref F), x4, x5, x6] ∧ L1 F = some (.lst (bs.map dT)) ∧ SkAt L1 d g ∧ Sk g L L1 ∧ (∀ t ∈ bs, Op t ∧ t.size ≤ 16) ∧ bs.length = pre.length) (fun _ _ _ _ => trivial) ?step ?fin _ _ ⟨[], none, none, none, rfl, by rw [sput_ne nFg]; exact sput_same, (hS.new hF).at m1, ((Sk.refl g L).new hF).at, fun _ z => absurd z List.not_mem_nil, rfl⟩
      case step =>
        rintro pre i rest nn e kn env L1 ⟨bs, x4, x5, x6, rfl, f1, S1, k1, hbs, hbl⟩
        obtain ⟨_, hi⟩ := range_split e
        have p1 := k1 p _ npg hp
        have q1 := k1 q _ nqg hq
        refine ⟨g, S1, npg, ⟨ps, p1, hps, hp1, hp2⟩, by decide, by decide, fun ws W m2 hws hW nWg => ?_⟩
        have k2 : Sk g L1 (sput (sput L1 g (intsM m2)) W (.lst (ws.map dT))) := ((Sk.refl g L1).at).put hW
        have S2 := (S1.at m2).off (m := .lst (ws.map dT)) (S1.ne hW).1 nWg
        have f2 := k2 F _ nFg f1
        have q2 := k2 q _ nqg q1
        have w2 : sput (sput L1 g (intsM m2)) W (.lst (ws.map dT)) W = some (.lst (ws.map dT)) := sput_same
        have kk := k1.trans k2
        generalize sput (sput L1 g (intsM m2)) W (.lst (ws.map dT)) = L2 at S2 f2 q2 w2 kk ⊢
        have hwl := ww_len hws
        refine ⟨_, _, w2, q2, by rw [List.length_map, List.length_map]; omega, fun B hB => ?_⟩
        rw [← List.map_append]
        have S3 := S2.new (m := .lst ((ws ++ es).map dT)) hB
        have k3 := kk.new (m := .lst ((ws ++ es).map dT)) hB
        have f3 := sput_old (n := .lst ((ws ++ es).map dT)) f2 hB
        have q3 := sput_old (n := .lst ((ws ++ es).map dT)) q2 hB
        have b3 : sput L2 B (.lst ((ws ++ es).map dT)) B = some (.lst ((ws ++ es).map dT)) := sput_same
        generalize sput L2 B (.lst ((ws ++ es).map dT)) = L3 at S3 k3 f3 q3 b3 ⊢
        obtain ⟨hpw, hz⟩ := ww_prod_app hws hes
        refine ⟨two, fun C hC => ?_⟩
        have S4 := S3.new (m := .lst [.ref B, .ref q]) hC
        have k4 := k3.new (m := .lst [.ref B, .ref q]) hC
        have f4 := sput_old (n := .lst [.ref B, .ref q]) f3 hC
        have q4 := sput_old (n := .lst [.ref B, .ref q]) q3 hC
        have b4 := sput_old (n := .lst [.ref B, .ref q]) b3 hC
        have c4 : sput L3 C (.lst [.ref B, .ref q]) C = some (.lst [.ref B, .ref q]) := sput_same
        generalize sput L3 C (.lst [.ref B, .ref q]) = L4 at S4 k4 f4 q4 b4 c4 ⊢
        refine ⟨ws ++ es, b4, fun t ht => by have := (hpw t ht).2.2; omega, hz, ?_⟩
        obtain ⟨X, ts, ex, tX, hts⟩ : ∃ (X : Addr) (ts : List JW.T), atI [D.ref B, D.ref q] (if (!decide ((prodT (ws ++ es)).size ≤ 60)) = true then 1 else 0) = some (.ref X) ∧ L4 X = some (.lst (ts.map dT)) ∧ WW ts := by
          cases hd : decide ((prodT (ws ++ es)).size ≤ 60) with
          | true => exact ⟨B, ws ++ es, rfl, b4, hpw, of_decide_eq_true hd⟩
          | false => exact ⟨q, es, rfl, q4, hes⟩
        have hzt := hts.2
        refine ⟨_, _, c4, ex, ts, tX, by omega, ?_⟩
        have ob := prod_op fun t ht => (hts.1 t ht).1
        generalize prodT ts = b at hzt ob ⊢
        refine ⟨⟨F, _, rfl, f4⟩, two, fun E' hE' => ?_⟩
        refine ⟨b, rfl, by omega, by omega, ?_⟩
        obtain ⟨y, ey, oy, zy⟩ : ∃ y : JW.T, atI [D.str ("o" : Str), dT b] (if decide (((b.size : Nat) : Int) < 17) = true then 1 else 0) = some (dT y) ∧ Op y ∧ y.size ≤ 16 := by
          cases hd : decide (((b.size : Nat) : Int) < 17) with
          | true =>
            have := of_decide_eq_true hd
            exact ⟨b, rfl, ob, by omega⟩
          | false => exact ⟨.jet, by rw [dT_jet]; rfl, ⟨trivial, by decide⟩, by decide⟩
        refine ⟨_, _, sput_same, ey, _, sput_old f4 hE', by rw [List.length_map, hbl]; omega, ?_⟩
        refine kn _ _ ⟨bs ++ [y], _, _, _, rfl, by rw [sput_same, List.map_append]; rfl, (S4.new hE').off nFd nFg, (k4.new hE').put hF, fun t ht => ?_, by rw [List.length_append, List.length_append, hbl]; rfl⟩
        rcases List.mem_append.mp ht with z | z
        · exact hbs t z
        · rw [List.mem_singleton.mp z]
          exact ⟨oy, zy⟩
      case fin =>
      rintro env L1 ⟨bs, x4, x5, x6, rfl, f1, S1, k1, hbs, hbl⟩
      rw [List.length_range] at hbl
      refine ⟨g, S1, fun s m2 sc sj sz => ⟨one, fun B hB => ?_⟩⟩
      obtain ⟨nBd, nBg⟩ := (S1.at m2).ne hB
      have S2 := (S1.at m2).new (m := .lst [dT s]) hB
      have k2 : Sk g L (sput (sput L1 g (intsM m2)) B (.lst [dT s])) := k1.at.new hB
      have f2 : sput (sput L1 g (intsM m2)) B (.lst [dT s]) F = some (.lst (bs.map dT)) := sput_old (by rw [sput_ne nFg]; exact f1) hB
      have b2 : sput (sput L1 g (intsM m2)) B (.lst [dT s]) B = some (.lst [dT s]) := sput_same
      generalize sput (sput L1 g (intsM m2)) B (.lst [dT s]) = L2 at S2 k2 f2 b2 ⊢
      refine ⟨g, S2, by decide, by decide, fun w m3 w0 w1 => ?_⟩
      have S3 := S2.at m3
      have k3 : Sk g L (sput L2 g (intsM m3)) := k2.at
      have f3 : sput L2 g (intsM m3) F = some (.lst (bs.map dT)) := by rw [sput_ne nFg]; exact f2
      have b3 : sput L2 g (intsM m3) B = some (.lst [dT s]) := by rw [sput_ne nBg]; exact b2
      generalize sput L2 g (intsM m3) = L3 at S3 k3 f3 b3 ⊢
      refine ⟨_, b3, by omega, by omega, ?_, fun C hC => ?_⟩
      · show 1 * w.toNat ≤ sizeLine
        omega
      have f7 : ∀ (x : D) (k : Nat), (List.replicate k [x]).flatten = List.replicate k x := fun x k => List.flatten_replicate_singleton
      rw [f7]
      refine ⟨_, _, sput_old f3 hC, sput_same, by rw [List.length_map, List.length_replicate]; omega, fun E hE => ?_⟩
      have ea : bs.map dT ++ List.replicate w.toNat (dT s) = (bs ++ List.replicate w.toNat s).map dT := by rw [List.map_append, List.map_replicate]
      rw [ea]
      have z1 := sizeL_le fun t ht => (hbs t ht).2
      have z2 : sizeL (List.replicate w.toNat s) ≤ 5 * (List.replicate w.toNat s).length := sizeL_le fun t ht => by rw [(List.mem_replicate.mp ht).2]; exact sz
      rw [List.length_replicate] at z2
      have z3 : sizeL (bs ++ List.replicate w.toNat s) ≤ 53 := by
        rw [sizeL_app]
        omega
      refine ⟨_, sput_same, by omega, ?_⟩
      have S4 := (S3.new (m := .lst (List.replicate w.toNat (dT s))) hC).new (m := .lst ((bs ++ List.replicate w.toNat s).map dT)) hE
      have k4 := (k3.new (m := .lst (List.replicate w.toNat (dT s))) hC).new (m := .lst ((bs ++ List.replicate w.toNat s).map dT)) hE
      refine k4.end S4 fun ns => h _ ns ⟨_, rfl, ⟨can_bas (canL_iff.mpr fun t ht => ?_), fun z => ?_⟩, ?_⟩
      · rcases List.mem_append.mp ht with q1 | q1
        · exact (hbs t q1).1.1
        · rw [(List.mem_replicate.mp q1).2]
          exact sc
      · have z' : jtsL (sortT (bs ++ List.replicate w.toNat s)) = 0 := z
        rw [jtsL_perm (sortT_perm _), jtsL_app] at z'
        cases hb : bs with
        | nil =>
          rw [hb] at hbl
          have h9 : (0 : Nat) = (1 + v).toNat := hbl
          omega
        | cons c cs =>
          have hc := (hbs c (by rw [hb]; exact List.mem_cons_self)).1.2
          rw [hb] at z'
          have e9 : jtsL (c :: cs) = c.jts + jtsL cs := rfl
          omega
      · show 1 + sizeL (sortT (bs ++ List.replicate w.toNat s)) ≤ 60
        rw [sizeL_perm (sortT_perm _)]
        omega
    · exact h.elim
def asp__law_text_d (n : Nat) : ASp
  | [x], L, Q, _ => ∃ t : JW.T, x = dT t ∧ t.dep < n ∧ t.dep ≤ 60 ∧ t.size ≤ 400 ∧ Q (.str (tx t)) L
  | _, _, _, _ => False
theorem stepA__law_text_d  (T : Txt K mg base) {scr : Option (Addr × List Int)} (n : Nat) (ih : CallD P w K mg base CX0 (3 + n) "_law_text" ["_law_tree_here"] [] (spA (cA K scr) (asp__law_text_d n))) : CallD P w K mg base CX0 (3 + n + 1) "_law_text" ["_law_tree_here"] [] (spA (cA K scr) (asp__law_text_d (n + 1))) := by
  refine T.d__law_text.okA sc__law_text ?len (fun f cdv A outer s H E hr => (as_cons (as_if (at_cmp (aop_eq (okF_eq T) (hr.mono (by omega)) hr.units) (av 0) ae_str (nomark _))
        (as_one (as_ret ae_str))
        as_nil)
      (as_one (as_ret (ae_op aop_add (ae_op aop_add ae_str (ae_ms1 PySem.F.slot_str_join PySem.F.type_str_join mt_join low_join ae_str (ae_lc (own := [("_law_branch", 1)]) (by rfl) sc__law_text.nd (ai_tup (av 0)) (blkOk_by (by kernel_rfl)) (tgOk_name (by decide)) (fun _ _ _ _ _ => pg_name (i := 1) sc__law_text.nd rfl (by first | exact Or.inl rfl | exact Or.inr rfl)) (fun _ _ _ _ _ => (ae_call ih (hr.mono (by omega)) (by rfl) (aa_cons (av 1) aa_nil)))))) ae_str))))) ?vc
  case len =>
    intro ds L R RX h
    unfold asp__law_text_d at h
    split at h <;> first | rfl | exact h.elim
  case vc =>
    intro ds L R RX h
    unfold asp__law_text_d at h
    split at h
    rotate_left
    · exact h.elim
    rename_i x
    obtain ⟨t, rfl, hn, hdp, hz, h⟩ := h
    have hsl := sizeLine_eq
    refine eqD_oD (by omega) (ite2 (fun e => ?_) (fun e => ?_))
    · have e1 : t = .jet := by simpa using e
      subst e1
      rw [tx_jet] at h
      exact ret_of h
    cases t with
    | jet => exact absurd rfl e
    | bas l =>
      have hs : (JW.T.bas l).size = 1 + sizeL l := rfl
      have hsd : (JW.T.bas l).dep = 1 + depL l := rfl
      have hll := length_le l
      have hl0 : ([] : List D).length + l.length ≤ sizeLine := by
        show 0 + l.length ≤ _
        omega
      rw [dT_bas]
      refine ⟨⟨_, rfl⟩, fun p hp => ?_⟩
      refine comp_mapA dT (fun u => D.str (tx u)) (fun _ => trivial) l [] hl0 (fun u hu l2 k hk => ?_) ?_
      · have h1 := size_mem hu
        have h1d := dep_lt hu
        exact ⟨rfl, u, rfl, by omega, by omega, by omega, hk⟩
      have hj := joinedOS (l := l) (by omega)
      have hl1 : sizeL l ≤ 5000 := by omega
      refine ⟨l.map tx, by rw [sput_same, List.nil_append, List.map_map]; rfl, joinedO hl1, ?_, ?_, ?_⟩
      · show 1 + _ ≤ sizeLine
        omega
      · rw [len_cat]
        show (1 + _) + 1 ≤ sizeLine
        omega
      · rw [tx_bas]
        exact ret_sub h ((SubS.refl L).new hp)
theorem okA__law_text_d  (T : Txt K mg base) {scr : Option (Addr × List Int)} (n : Nat) : CallD P w K mg base CX0 (3 + n) "_law_text" ["_law_tree_here"] [] (spA (cA K scr) (asp__law_text_d n)) := callD_rec (sp := fun n => spA (cA K scr) (asp__law_text_d n)) T.d__law_text (fun vs H Q E ⟨ds, L, R, RX, _, _, h, _⟩ => by
    unfold asp__law_text_d at h
    split at h
    · obtain ⟨t, _, z, _⟩ := h
      exact absurd z (Nat.not_lt_zero _)
    · exact h.elim
    ) (stepA__law_text_d T) n
def sp__law_basin_d {K : PySem.W.Frag} (c : AC K) : Sp := fun vs H Q _ => ∃ q xs l L, vs = [.ref q] ∧ Sq K H q xs ∧ RepL c H (l.map dT) xs ∧ Good c L H ∧ sizeL l ≤ 390 ∧ depL l ≤ 58 ∧ ∀ p ys H', Fr c H H' → Good c L H' → H' p = some (.tup ys) → RepL c H' ((sortT l).map dT) ys → Q (.ref p) H'
theorem ok__law_basin_d (T : Txt K mg base) {scr : Option (Addr × List Int)} : CallD P w K mg base CX0 73 "_law_basin" ["_law_parts"] [] (sp__law_basin_d (cA K scr)) := by
  refine T.d__law_basin.ok sc__law_basin (fun vs H Q E h => ?_) (fun f cdv A outer s H vs Q E hr h => ?_)
  · obtain ⟨q, xs, l, L, rfl, _⟩ := h
    rfl
  · obtain ⟨q, xs, l, L, rfl, hq, hl, hg, hz, hdl, k⟩ := h
    refine ⟨_, (pss_one (ps_ret (pe_callTy call_tuple_of (by rfl) T.n_tuple (by decide +kernel) (pa_cons (pe_sortedFn (pv 0) (by rfl) T.n_sorted (by rfl) (okA__law_text_d T (scr := scr) 61) (hr.mono (by decide))) pa_nil)))), ?_⟩
    refine ⟨.ref q, rfl, q, xs, l.map tx, fun H' => Fr (cA K scr) H H' ∧ Good (cA K scr) L H', rfl, hq, by rw [List.length_map, hl.len, List.length_map], ⟨.refl _ H, hg⟩, fun i x z hx hz' H' s => ?_, fun D H' ys s hD ky => ?_⟩
    · obtain ⟨d, e1, e2⟩ := hl.getV hx
      obtain ⟨t, e3, rfl⟩ := dTs_of rfl e1
      have h1 := len_le (List.mem_of_getElem? e3)
      have h1d := dep_lt (List.mem_of_getElem? e3)
      have h1e : (JW.T.bas l).dep = 1 + depL l := rfl
      rw [map_get e3 hz']
      exact ⟨[dT t], L, fun d L' => d = .str (tx t) ∧ L' = L, noX, .one (e2.fr s.1), s.2, ⟨t, rfl, by omega, by omega, by omega, rfl, rfl⟩, fun d L' v H2 ⟨q1, q2⟩ f2 g2 r2 => by
        subst q1 q2
        exact ⟨rep_str.mp r2, s.1.trans f2, g2⟩, px_no⟩
    · have f2 : Fr (cA K scr) H' (upd H' D (.lst ys)) := .new hD
      have g2 := s.2.new hD (.lst ys)
      have hs2 := repL_sort (hl.fr (s.1.trans f2)) ky
      refine ⟨D, ys, rfl, .inl ⟨SqL.of upd_same, fun p hp => ?_⟩⟩
      exact k p ys _ ((s.1.trans f2).trans (.new hp)) (g2.new hp _) upd_same (hs2.fr (.new hp))
def asp__law_basin_d_d : ASp
  | [.ref p], L, Q, _ => ∃ l : List JW.T, L p = some (.lst (l.map dT)) ∧ sizeL l ≤ 390 ∧ depL l ≤ 58 ∧ Q (dT (.bas (sortT l))) L
  | _, _, _, _ => False
theorem okA__law_basin_d (T : Txt K mg base) {scr : Option (Addr × List Int)} : CallD P w K mg base CX0 73 "_law_basin" ["_law_parts"] [] (spA (cA K scr) asp__law_basin_d_d) :=
  (ok__law_basin_d T).imp fun vs H Q E ⟨ds, L, R, RX, r, g, h, pq, px⟩ => by
    unfold asp__law_basin_d_d at h
    split at h
    · obtain ⟨l, e0, hz, hdl, h⟩ := h
      obtain ⟨v, rfl, r1⟩ := repL_one r
      cases rep_ref.mp r1
      obtain ⟨ws, e1, rs⟩ := good_lst g e0
      exact ⟨_, ws, l, L, rfl, .inl (SqL.of e1), rs, g, hz, hdl, fun p ys H' f' g' hp hr => pq _ L _ H' h f' g' (by rw [dT_bas]; exact rep_tup.mpr ⟨p, ys, rfl, SqT.of hp, hr⟩)⟩
    · exact h.elim

theorem listD_of {x : D} {l : List D} {L : Store} {Q : AQ} (h : x = .tup l ∨ ∃ p, x = .ref p ∧ L p = some (.lst l)) (q : ∀ r, L r = none → Q (.ref r) (sput L r (.lst l))) : listD [x] L Q := by
  rcases h with e | ⟨p, e, hp⟩
  · subst e
    exact q
  · subst e
    exact ⟨l, hp, q⟩
def asp__law_mixed : ASp
  | [.ref d, x], L, Q, _ => ∃ g, SkAt L d g ∧ ∃ l : List D, (x = .tup l ∨ ∃ p, x = .ref p ∧ L p = some (.lst l)) ∧ l.length ≤ 1000 ∧ ∀ (m : List D) r ns, m.Perm l → L r = none → r ≠ g → Q (.ref r) (sput (sput L g (intsM ns)) r (.lst m))
  | _, _, _, _ => False
theorem okA__law_mixed  (T : Txt K mg base) {scr : Option (Addr × List Int)} : CallD P w K mg base CX0 4 "_law_mixed" ["_law_sack_here", "_law_some"] [] (spA (cA K scr) (asp__law_mixed)) := by
  refine T.d__law_mixed.okA sc__law_mixed ?len (fun f cdv A outer s H E hr => (as_cons (as_par (i := 2) (j := 3) (by rfl) sc__law_mixed.nd rfl rfl (by decide) rfl rfl (aa_cons (ae_ty acb_list (by rfl) T.n_list (by decide +kernel) (aa_cons (av 1) aa_nil)) (aa_cons (ae_lst aa_nil) aa_nil)) (by rfl))
      (as_cons (as_for PassesOwn.never rfl (ai_rng1 (by rfl) T.n_range (aa_cons (ae_b acb_len (by rfl) T.n_len (by decide +kernel) (aa_cons (av 2) aa_nil)) aa_nil)) (ag_name (i := 4) sc__law_mixed.nd rfl (by first | exact Or.inl rfl | exact Or.inr rfl))
        (as_one (as_expr (ae_ml PySem.F.plainAttrs_list PySem.F.slot_list_append PySem.F.type_list_append mt_append low_append (av 3) (aa_cons (ae_ml PySem.F.plainAttrs_list PySem.F.slot_list_pop PySem.F.type_list_pop mt_popAt low_popAt (av 2) (aa_cons (ae_call (okA__law_take T) (hr.mono (by decide)) (by rfl) (aa_cons (av 0) (aa_cons (ae_b acb_len (by rfl) T.n_len (by decide +kernel) (aa_cons (av 2) aa_nil)) aa_nil))) aa_nil)) aa_nil)))))
      (as_one (as_ret (av 3)))))) ?vc
  case len =>
    intro ds L R RX h
    unfold asp__law_mixed at h
    split at h <;> first | rfl | exact h.elim
  case vc =>
    intro ds L R RX h
    unfold asp__law_mixed at h
    split at h
    · rename_i d x
      obtain ⟨g, hS, l, hx, hz, h⟩ := h
      have hsl := sizeLine_eq
      refine listD_of hx fun P hP => ⟨Nat.zero_le _, fun F hF => ?_⟩
      have hPF : P ≠ F := fun e => by rw [e, sput_same] at hF; cases hF
      have hF0 : L F = none := by
        rw [sput_ne (Ne.symm hPF)] at hF
        exact hF
      obtain ⟨nPd, nPg⟩ := hS.ne hP
      obtain ⟨nFd, nFg⟩ := hS.ne hF0
      refine ⟨l, sput_old sput_same hF, by omega, by omega, ?_⟩
      refine loop_map (fun i : Nat => D.int (0 + (i : Nat))) (List.range ((l.length : Nat) : Int).toNat) (fun pre env L1 => ∃ (xs fs : List D) (x4 : Option D), env = [some (.ref d), some x, some (.ref P), some (.ref F), x4] ∧ L1 P = some (.lst xs) ∧ L1 F = some (.lst fs) ∧ SkAt L1 d g ∧ Sk g L L1 ∧ (fs ++ xs).Perm l ∧ fs.length = pre.length) (fun _ _ _ _ => trivial) ?step ?fin _ _ ⟨l, [], none, rfl, sput_old sput_same hF, sput_same, (hS.new hP).new hF, ((Sk.refl g L).new hP).new hF, List.Perm.refl _, rfl⟩
      case fin =>
        rintro env L1 ⟨xs, fs, x4, rfl, hP1, hF1, S1, sk, pm, hl⟩
        have hlen := pm.length_eq
        rw [List.length_append, hl, List.length_range, Int.toNat_natCast] at hlen
        have : xs = [] := List.length_eq_zero_iff.mp (by omega)
        subst this
        rw [List.append_nil] at pm
        exact sk.endN S1 hF0 nFg hF1 fun ns => h fs F ns pm hF0 nFg
      case step =>
        rintro pre i rest nn e kn env L1 ⟨xs, fs, x4, rfl, hP1, hF1, S1, sk, pm, hl⟩
        have hlen := pm.length_eq
        rw [List.length_append] at hlen
        have hpl : pre.length < l.length := by
          have e2 := congrArg List.length e
          rw [List.length_range, Int.toNat_natCast, List.length_append, List.length_cons] at e2
          omega
        refine ⟨⟨F, _, rfl, hF1⟩, ⟨P, _, rfl, hP1⟩, xs, hP1, g, S1, by omega, by omega, fun v ns v0 v1 => ?_⟩
        have hP2 : sput L1 g (intsM ns) P = some (.lst xs) := by rw [sput_ne nPg]; exact hP1
        have hF2 : sput L1 g (intsM ns) F = some (.lst fs) := by rw [sput_ne nFg]; exact hF1
        have S2 := S1.at ns
        have sk2 := sk.at (m := intsM ns)
        generalize sput L1 g (intsM ns) = L2 at hP2 hF2 S2 sk2
        have hv : v.toNat < xs.length := by omega
        refine ⟨_, v.toNat, xs[v.toNat], hP2, by omega, by omega, seqIndex_nat v0 v1, by simp [hv], _, by rw [sput_ne (Ne.symm hPF)]; exact hF2, by omega, ?_⟩
        refine kn _ _ ⟨xs.eraseIdx v.toNat, fs ++ [xs[v.toNat]], _, rfl, by rw [sput_ne hPF, sput_same], sput_same, (S2.off nPd nPg).off nFd nFg, (sk2.put hP).put hF0, ?_, ?_⟩
        · refine List.Perm.trans ?_ pm
          rw [List.append_assoc]
          exact List.Perm.append_left fs (eraseIdx_perm hv)
        · rw [List.length_append, List.length_append, hl]
          rfl
    · exact h.elim
def asp__law_loose (n : Nat) : ASp
  | [.ref d, x], L, Q, _ => ∃ g, SkAt L d g ∧ ∃ t : JW.T, x = dT t ∧ t.size < n ∧ t.size ≤ 64 ∧ ∀ (u : JW.T) ns, u.canon = t.canon → Q (.str (tx u)) (sput L g (intsM ns))
  | _, _, _, _ => False
theorem stepA__law_loose  (T : Txt K mg base) {scr : Option (Addr × List Int)} (n : Nat) (ih : CallD P w K mg base CX0 (4 + n) "_law_loose" ["_law_sack_here", "_law_tree_here"] [] (spA (cA K scr) (asp__law_loose n))) : CallD P w K mg base CX0 (4 + n + 1) "_law_loose" ["_law_sack_here", "_law_tree_here"] [] (spA (cA K scr) (asp__law_loose (n + 1))) := by
  refine T.d__law_loose.okA sc__law_loose ?len (fun f cdv A outer s H E hr => (as_cons (as_if (at_cmp (aop_eq (okF_eq T) (hr.mono (by omega)) hr.units) (av 1) ae_str (nomark _))
        (as_one (as_ret ae_str))
        as_nil)
      (as_one (as_ret (ae_op aop_add (ae_op aop_add ae_str (ae_ms1 PySem.F.slot_str_join PySem.F.type_str_join mt_join low_join ae_str (ae_lc (own := [("_law_branch", 2)]) (by rfl) sc__law_loose.nd (ai_list (ae_call (okA__law_mixed T) (hr.mono (by omega)) (by rfl) (aa_cons (av 0) (aa_cons (av 1) aa_nil)))) (blkOk_by (by kernel_rfl)) (tgOk_name (by decide)) (fun _ _ _ _ _ => pg_name (i := 2) sc__law_loose.nd rfl (by first | exact Or.inl rfl | exact Or.inr rfl)) (fun _ _ _ _ _ => (ae_call ih (hr.mono (by omega)) (by rfl) (aa_cons (av 0) (aa_cons (av 2) aa_nil))))))) ae_str))))) ?vc
  case len =>
    intro ds L R RX h
    unfold asp__law_loose at h
    split at h <;> first | rfl | exact h.elim
  case vc =>
    intro ds L R RX h
    unfold asp__law_loose at h
    split at h
    rotate_left
    · exact h.elim
    rename_i d x
    obtain ⟨g, hS, t, rfl, hn, hz, h⟩ := h
    have hsl := sizeLine_eq
    refine eqD_o hz (ite2 (fun e => ?_) (fun e => ?_))
    · have e1 : t = .jet := by simpa using e
      subst e1
      have e2 : ("o" : Str) = tx .jet := tx_jet.symm
      show ∃ L0, SubS L0 L ∧ R (.str ("o" : Str)) L0
      rw [e2]
      exact (Sk.refl g L).end hS fun ns => h .jet ns rfl
    cases t with
    | jet => exact absurd rfl e
    | bas l =>
      have hs : (JW.T.bas l).size = 1 + sizeL l := rfl
      have hll := length_le l
      rw [dT_bas]
      refine ⟨⟨_, rfl⟩, g, hS, l.map dT, .inl rfl, by rw [List.length_map]; omega, fun m r ns pm hr nrg => ?_⟩
      obtain ⟨us, pu, rfl⟩ := perm_mapD pm rfl
      have S1 := (hS.at ns).new (m := .lst (us.map dT)) (by rw [sput_ne nrg]; exact hr)
      have k1 : Sk g L (sput (sput L g (intsM ns)) r (.lst (us.map dT))) := ((Sk.refl g L).at).put hr
      have p1 : sput (sput L g (intsM ns)) r (.lst (us.map dT)) r = some (.lst (us.map dT)) := sput_same
      have nrd := (hS.ne hr).1
      refine ⟨_, p1, fun B hB => ?_⟩
      generalize sput (sput L g (intsM ns)) r (.lst (us.map dT)) = L1 at S1 k1 p1 hB ⊢
      have hul : us.length = l.length := pu.length_eq
      have nBr : B ≠ r := fun z => by rw [z, p1] at hB; cases hB
      obtain ⟨nBd, nBg⟩ := S1.ne hB
      have hB0 : L B = none := k1.nil nBg hB
      refine comp_inv dT us (fun pre acc L' => ∃ zs : List JW.T, acc = zs.map dtx ∧ zs.map JW.T.canon = pre.map JW.T.canon ∧ SkAt L' d g ∧ Sk g L L' ∧ L' r = some (.lst (us.map dT)) ∧ L' B = some (.lst acc)) (by omega) ?hG ?step ?fin _ ⟨[], rfl, rfl, S1.new hB, k1.new hB, sput_old p1 hB, sput_same⟩
      case hG =>
        rintro pre acc L' ⟨zs, rfl, ez, S2, k2, r2, b2⟩
        refine ⟨r2, b2, ?_⟩
        have := congrArg List.length ez
        rw [List.length_map, List.length_map] at this
        rw [List.length_map]
        exact this
      case step =>
        rintro pre u rest acc L' kk e ⟨zs, rfl, ez, S2, k2, r2, b2⟩ hk
        have hu : u ∈ l := pu.subset (by rw [e]; simp)
        have hus := size_mem hu
        refine ⟨rfl, g, S2, u, rfl, by omega, by omega, fun v ns2 cv => ?_⟩
        have b3 : sput L' g (intsM ns2) B = some (.lst (zs.map dtx)) := by rw [sput_ne nBg]; exact b2
        refine hk _ _ b3 ⟨zs ++ [v], by rw [List.map_append]; rfl, by rw [List.map_append, List.map_append, ez]; exact congrArg _ (congrArg (fun x => [x]) cv), (S2.at ns2).off nBd nBg, k2.at.put hB0, ?_, sput_same⟩
        rw [sput_ne (Ne.symm nBr), sput_ne nrg]
        exact r2
      case fin =>
        rintro acc L' ⟨zs, rfl, ez, S2, k2, r2, b2⟩
        have hzs : sizeL zs = sizeL l := by rw [← sizeL_canon zs, ez, sizeL_canon, sizeL_perm pu]
        have hl1 : sizeL zs ≤ 5000 := by omega
        have hj := joinedOS hl1
        refine ⟨zs.map tx, by rw [b2, dtx_map], joinedO hl1, ?_, ?_, ?_⟩
        · show 1 + _ ≤ sizeLine
          omega
        · rw [len_cat]
          show (1 + _) + 1 ≤ sizeLine
          omega
        · rw [tx_bas]
          refine k2.end S2 fun ns => h (.bas zs) ns ?_
          rw [canon_bas, canon_bas, ez, sortT_congr (pu.map JW.T.canon)]
theorem okA__law_loose  (T : Txt K mg base) {scr : Option (Addr × List Int)} (n : Nat) : CallD P w K mg base CX0 (4 + n) "_law_loose" ["_law_sack_here", "_law_tree_here"] [] (spA (cA K scr) (asp__law_loose n)) := callD_rec (sp := fun n => spA (cA K scr) (asp__law_loose n)) T.d__law_loose (fun vs H Q E ⟨ds, L, R, RX, _, _, h, _⟩ => by
    unfold asp__law_loose at h
    split at h
    · obtain ⟨g, _, t, _, z, _⟩ := h
      exact absurd z (Nat.not_lt_zero _)
    · exact h.elim
    ) (stepA__law_loose T) n
def asp__law_loose_d (n : Nat) : ASp
  | [.ref d, x], L, Q, _ => ∃ g, SkAt L d g ∧ ∃ t : JW.T, x = dT t ∧ t.dep < n ∧ t.dep ≤ 60 ∧ t.size ≤ 400 ∧ ∀ (u : JW.T) ns, u.canon = t.canon → Q (.str (tx u)) (sput L g (intsM ns))
  | _, _, _, _ => False
theorem stepA__law_loose_d  (T : Txt K mg base) {scr : Option (Addr × List Int)} (n : Nat) (ih : CallD P w K mg base CX0 (4 + n) "_law_loose" ["_law_sack_here", "_law_tree_here"] [] (spA (cA K scr) (asp__law_loose_d n))) : CallD P w K mg base CX0 (4 + n + 1) "_law_loose" ["_law_sack_here", "_law_tree_here"] [] (spA (cA K scr) (asp__law_loose_d (n + 1))) := by
  refine T.d__law_loose.okA sc__law_loose ?len (fun f cdv A outer s H E hr => (as_cons (as_if (at_cmp (aop_eq (okF_eq T) (hr.mono (by omega)) hr.units) (av 1) ae_str (nomark _))
        (as_one (as_ret ae_str))
        as_nil)
      (as_one (as_ret (ae_op aop_add (ae_op aop_add ae_str (ae_ms1 PySem.F.slot_str_join PySem.F.type_str_join mt_join low_join ae_str (ae_lc (own := [("_law_branch", 2)]) (by rfl) sc__law_loose.nd (ai_list (ae_call (okA__law_mixed T) (hr.mono (by omega)) (by rfl) (aa_cons (av 0) (aa_cons (av 1) aa_nil)))) (blkOk_by (by kernel_rfl)) (tgOk_name (by decide)) (fun _ _ _ _ _ => pg_name (i := 2) sc__law_loose.nd rfl (by first | exact Or.inl rfl | exact Or.inr rfl)) (fun _ _ _ _ _ => (ae_call ih (hr.mono (by omega)) (by rfl) (aa_cons (av 0) (aa_cons (av 2) aa_nil))))))) ae_str))))) ?vc
  case len =>
    intro ds L R RX h
    unfold asp__law_loose_d at h
    split at h <;> first | rfl | exact h.elim
  case vc =>
    intro ds L R RX h
    unfold asp__law_loose_d at h
    split at h
    rotate_left
    · exact h.elim
    rename_i d x
    obtain ⟨g, hS, t, rfl, hn, hdp, hz, h⟩ := h
    have hsl := sizeLine_eq
    refine eqD_oD (by omega) (ite2 (fun e => ?_) (fun e => ?_))
    · have e1 : t = .jet := by simpa using e
      subst e1
      have e2 : ("o" : Str) = tx .jet := tx_jet.symm
      show ∃ L0, SubS L0 L ∧ R (.str ("o" : Str)) L0
      rw [e2]
      exact (Sk.refl g L).end hS fun ns => h .jet ns rfl
    cases t with
    | jet => exact absurd rfl e
    | bas l =>
      have hs : (JW.T.bas l).size = 1 + sizeL l := rfl
      have hsd : (JW.T.bas l).dep = 1 + depL l := rfl
      have hll := length_le l
      rw [dT_bas]
      refine ⟨⟨_, rfl⟩, g, hS, l.map dT, .inl rfl, by rw [List.length_map]; omega, fun m r ns pm hr nrg => ?_⟩
      obtain ⟨us, pu, rfl⟩ := perm_mapD pm rfl
      have S1 := (hS.at ns).new (m := .lst (us.map dT)) (by rw [sput_ne nrg]; exact hr)
      have k1 : Sk g L (sput (sput L g (intsM ns)) r (.lst (us.map dT))) := ((Sk.refl g L).at).put hr
      have p1 : sput (sput L g (intsM ns)) r (.lst (us.map dT)) r = some (.lst (us.map dT)) := sput_same
      have nrd := (hS.ne hr).1
      refine ⟨_, p1, fun B hB => ?_⟩
      generalize sput (sput L g (intsM ns)) r (.lst (us.map dT)) = L1 at S1 k1 p1 hB ⊢
      have hul : us.length = l.length := pu.length_eq
      have nBr : B ≠ r := fun z => by rw [z, p1] at hB; cases hB
      obtain ⟨nBd, nBg⟩ := S1.ne hB
      have hB0 : L B = none := k1.nil nBg hB
      refine comp_inv dT us (fun pre acc L' => ∃ zs : List JW.T, acc = zs.map dtx ∧ zs.map JW.T.canon = pre.map JW.T.canon ∧ SkAt L' d g ∧ Sk g L L' ∧ L' r = some (.lst (us.map dT)) ∧ L' B = some (.lst acc)) (by omega) ?hG ?step ?fin _ ⟨[], rfl, rfl, S1.new hB, k1.new hB, sput_old p1 hB, sput_same⟩
      case hG =>
        rintro pre acc L' ⟨zs, rfl, ez, S2, k2, r2, b2⟩
        refine ⟨r2, b2, ?_⟩
        have := congrArg List.length ez
        rw [List.length_map, List.length_map] at this
        rw [List.length_map]
        exact this
      case step =>
        rintro pre u rest acc L' kk e ⟨zs, rfl, ez, S2, k2, r2, b2⟩ hk
        have hu : u ∈ l := pu.subset (by rw [e]; simp)
        have hus := size_mem hu
        have hud := dep_lt hu
        refine ⟨rfl, g, S2, u, rfl, by omega, by omega, by omega, fun v ns2 cv => ?_⟩
        have b3 : sput L' g (intsM ns2) B = some (.lst (zs.map dtx)) := by rw [sput_ne nBg]; exact b2
        refine hk _ _ b3 ⟨zs ++ [v], by rw [List.map_append]; rfl, by rw [List.map_append, List.map_append, ez]; exact congrArg _ (congrArg (fun x => [x]) cv), (S2.at ns2).off nBd nBg, k2.at.put hB0, ?_, sput_same⟩
        rw [sput_ne (Ne.symm nBr), sput_ne nrg]
        exact r2
      case fin =>
        rintro acc L' ⟨zs, rfl, ez, S2, k2, r2, b2⟩
        have hzs : sizeL zs = sizeL l := by rw [← sizeL_canon zs, ez, sizeL_canon, sizeL_perm pu]
        have hl1 : sizeL zs ≤ 5000 := by omega
        have hj := joinedOS hl1
        refine ⟨zs.map tx, by rw [b2, dtx_map], joinedO hl1, ?_, ?_, ?_⟩
        · show 1 + _ ≤ sizeLine
          omega
        · rw [len_cat]
          show (1 + _) + 1 ≤ sizeLine
          omega
        · rw [tx_bas]
          refine k2.end S2 fun ns => h (.bas zs) ns ?_
          rw [canon_bas, canon_bas, ez, sortT_congr (pu.map JW.T.canon)]
theorem okA__law_loose_d  (T : Txt K mg base) {scr : Option (Addr × List Int)} (n : Nat) : CallD P w K mg base CX0 (4 + n) "_law_loose" ["_law_sack_here", "_law_tree_here"] [] (spA (cA K scr) (asp__law_loose_d n)) := callD_rec (sp := fun n => spA (cA K scr) (asp__law_loose_d n)) T.d__law_loose (fun vs H Q E ⟨ds, L, R, RX, _, _, h, _⟩ => by
    unfold asp__law_loose_d at h
    split at h
    · obtain ⟨g, _, t, _, z, _⟩ := h
      exact absurd z (Nat.not_lt_zero _)
    · exact h.elim
    ) (stepA__law_loose_d T) n
def sp_check_numbers (K : PySem.W.Frag) : Sp := fun vs H Q _ => ∃ n t, vs = [.ref n] ∧ H n = some (.tup (nums t)) ∧ t.size ≤ 5000 ∧ t.dep ≤ 120 ∧ Q .non H
theorem ok_check_numbers  (T : Txt K mg base) : CallD P w K mg base CX0 1 "check_numbers" ["numbers"] [] (sp_check_numbers K) := by
  refine T.d_check_numbers.ok sc_check_numbers (fun vs H Q E h => ?_) (fun f cdv A outer s H vs Q E hr h => ?_)
  · obtain ⟨n, t, rfl, _⟩ := h
    rfl
  · obtain ⟨n, t, rfl, hn, h1, h2, k⟩ := h
    refine ⟨_, (pss_cons (ps_if (pt_cmpR op_gt (pe_ix ix_tup (pv 0) pe_int (fun _ _ => rfl)) (pe_gint rfl T.gMOST) (nomark _))
        pss_never
        pss_nil)
      (pss_one (ps_if (pt_cmpR op_gt (pe_ix ix_tup (pv 0) pe_int (fun _ _ => rfl)) (pe_gint rfl T.gDEEPEST) (nomark _))
        pss_never
        pss_nil))), ?_⟩
    exact ⟨.ref n, rfl, n, _, _, _, rfl, rfl, SqT.of hn, rfl, _, _, rfl, rfl, _, rfl, ite_f (decide_eq_false (by omega)) ⟨.ref n, rfl, n, _, _, _, rfl, rfl, SqT.of hn, rfl, _, _, rfl, rfl, _, rfl, ite_f (decide_eq_false (by omega)) k⟩⟩
theorem ok_Fountain_size  (T : Txt K mg base) : PropD P w K mg base CX0 1 (cF K) "size" (spV K fun t => .int (t.size : Nat)) := by
  refine T.p_size.ok sc_Fountain_size (fun vs H Q E h => ?_) (fun f cdv A outer s H vs Q E hr h => ?_)
  · obtain ⟨v, t, rfl, _⟩ := h
    rfl
  · obtain ⟨v, t, rfl, hf, k⟩ := h
    obtain ⟨a, dx, b, n, vs, rfl, ha, hb, hn, hk⟩ := ftn_iff.mp hf
    refine ⟨_, (pss_one (ps_ret (pe_ix ix_tup (pe_fld (pv 0) rfl) pe_int (fun _ _ => rfl)))), ?_⟩
    exact ⟨.ref a, rfl, a, _, dx, _, _, rfl, ha, T.cls.c, T.cls.nn, fl_n, n, _, _, _, rfl, rfl, SqT.of hn, rfl, k⟩
theorem ok_Fountain_jets  (T : Txt K mg base) : PropD P w K mg base CX0 1 (cF K) "jets" (spV K fun t => .int (t.jts : Nat)) := by
  refine T.p_jets.ok sc_Fountain_jets (fun vs H Q E h => ?_) (fun f cdv A outer s H vs Q E hr h => ?_)
  · obtain ⟨v, t, rfl, _⟩ := h
    rfl
  · obtain ⟨v, t, rfl, hf, k⟩ := h
    obtain ⟨a, dx, b, n, vs, rfl, ha, hb, hn, hk⟩ := ftn_iff.mp hf
    refine ⟨_, (pss_one (ps_ret (pe_ix ix_tup (pe_fld (pv 0) rfl) pe_int (fun _ _ => rfl)))), ?_⟩
    exact ⟨.ref a, rfl, a, _, dx, _, _, rfl, ha, T.cls.c, T.cls.nn, fl_n, n, _, _, _, rfl, rfl, SqT.of hn, rfl, k⟩
theorem ok_Fountain_depth  (T : Txt K mg base) : PropD P w K mg base CX0 1 (cF K) "depth" (spV K fun t => .int (t.dep : Nat)) := by
  refine T.p_depth.ok sc_Fountain_depth (fun vs H Q E h => ?_) (fun f cdv A outer s H vs Q E hr h => ?_)
  · obtain ⟨v, t, rfl, _⟩ := h
    rfl
  · obtain ⟨v, t, rfl, hf, k⟩ := h
    obtain ⟨a, dx, b, n, vs, rfl, ha, hb, hn, hk⟩ := ftn_iff.mp hf
    refine ⟨_, (pss_one (ps_ret (pe_ix ix_tup (pe_fld (pv 0) rfl) pe_int (fun _ _ => rfl)))), ?_⟩
    exact ⟨.ref a, rfl, a, _, dx, _, _, rfl, ha, T.cls.c, T.cls.nn, fl_n, n, _, _, _, rfl, rfl, SqT.of hn, rfl, k⟩
theorem ok_Fountain_longest  (T : Txt K mg base) : PropD P w K mg base CX0 1 (cF K) "longest" (spV K fun t => if t.jts = 0 then .non else .int (t.lng : Nat)) := by
  refine T.p_longest.ok sc_Fountain_longest (fun vs H Q E h => ?_) (fun f cdv A outer s H vs Q E hr h => ?_)
  · obtain ⟨v, t, rfl, _⟩ := h
    rfl
  · obtain ⟨v, t, rfl, hf, k⟩ := h
    obtain ⟨a, dx, b, n, vs, rfl, ha, hb, hn, hk⟩ := ftn_iff.mp hf
    refine ⟨_, (pss_one (ps_ret (pe_ix ix_tup (pe_fld (pv 0) rfl) pe_int (fun _ _ => rfl)))), ?_⟩
    exact ⟨.ref a, rfl, a, _, dx, _, _, rfl, ha, T.cls.c, T.cls.nn, fl_n, n, _, _, _, rfl, rfl, SqT.of hn, rfl, k⟩
theorem ok_Fountain_shortest  (T : Txt K mg base) : PropD P w K mg base CX0 1 (cF K) "shortest" (spV K fun t => if t.jts = 0 then .non else .int (t.sht : Nat)) := by
  refine T.p_shortest.ok sc_Fountain_shortest (fun vs H Q E h => ?_) (fun f cdv A outer s H vs Q E hr h => ?_)
  · obtain ⟨v, t, rfl, _⟩ := h
    rfl
  · obtain ⟨v, t, rfl, hf, k⟩ := h
    obtain ⟨a, dx, b, n, vs, rfl, ha, hb, hn, hk⟩ := ftn_iff.mp hf
    refine ⟨_, (pss_one (ps_ret (pe_ix ix_tup (pe_fld (pv 0) rfl) pe_int (fun _ _ => rfl)))), ?_⟩
    exact ⟨.ref a, rfl, a, _, dx, _, _, rfl, ha, T.cls.c, T.cls.nn, fl_n, n, _, _, _, rfl, rfl, SqT.of hn, rfl, k⟩
theorem ok_Fountain_is_open  (T : Txt K mg base) : PropD P w K mg base CX0 1 (cF K) "is_open" (spV K fun t => .bl (decide (0 < t.jts))) := by
  refine T.p_is_open.ok sc_Fountain_is_open (fun vs H Q E h => ?_) (fun f cdv A outer s H vs Q E hr h => ?_)
  · obtain ⟨v, t, rfl, _⟩ := h
    rfl
  · obtain ⟨v, t, rfl, hf, k⟩ := h
    obtain ⟨a, dx, b, n, vs, rfl, ha, hb, hn, hk⟩ := ftn_iff.mp hf
    refine ⟨_, (pss_one (ps_ret (pe_cmpR op_gt (pe_ix ix_tup (pe_fld (pv 0) rfl) pe_int (fun _ _ => rfl)) pe_int (nomark _)))), ?_⟩
    refine ⟨.ref a, rfl, a, _, dx, _, _, rfl, ha, T.cls.c, T.cls.nn, fl_n, n, _, _, _, rfl, rfl, SqT.of hn, rfl, _, _, rfl, rfl, ?_⟩
    show Q (V.bl (decide ((0 : Int) < (t.jts : Nat)))) H
    rw [show decide ((0 : Int) < (t.jts : Nat)) = decide (0 < t.jts) from decide_eq_decide.mpr (by omega)]
    exact k
def sp_basin_numbers (K : PySem.W.Frag) : Sp := fun vs H Q _ => ∃ b xs l, vs = [.ref b] ∧ H b = some (.tup xs) ∧ FtnL (cF K) H l xs ∧ xs.length < sizeLine ∧ ∀ H' p, Same H H' → H' p = some (.tup (nums (.bas l))) → Q (.ref p) H'
theorem ok_basin_numbers  (T : Txt K mg base) : CallD P w K mg base CX0 3 "basin_numbers" ["branches"] [] (sp_basin_numbers K) := by
  refine T.d_basin_numbers.ok sc_basin_numbers (fun vs H Q E h => ?_) (fun f cdv A outer s H vs Q E hr h => ?_)
  · obtain ⟨b, xs, l, rfl, _⟩ := h
    rfl
  · obtain ⟨b, xs, l, rfl, hb, hl, hz, k⟩ := h
    refine ⟨_, (pss_cons (ps_set (i := 1) sc_basin_numbers.nd rfl (by first | exact Or.inl rfl | exact Or.inr rfl) (pe_op op_add pe_int (pe_callB (cr_sum rfl) (by rfl) T.n_sum (by decide +kernel) (pa_cons (pe_lc (own := [("branch", 6)]) (g := gName 6) (tt := tYes) (by rfl) sc_basin_numbers.nd (pi_tup (pv 0)) (blkOk_by (by kernel_rfl)) (fun _ _ _ _ _ => pg_name (i := 6) sc_basin_numbers.nd rfl (by first | exact Or.inl rfl | exact Or.inr rfl)) (fun _ _ _ _ _ => pts_nil) (fun _ _ _ _ _ => (pe_propD T.cls.c (ok_Fountain_size T) (hr.mono (by decide)) pass0 (pv 6) rfl))) pa_nil))))
      (pss_cons (ps_set (i := 2) sc_basin_numbers.nd rfl (by first | exact Or.inl rfl | exact Or.inr rfl) (pe_callB (cr_sum rfl) (by rfl) T.n_sum (by decide +kernel) (pa_cons (pe_lc (own := [("branch", 6)]) (g := gName 6) (tt := tYes) (by rfl) sc_basin_numbers.nd (pi_tup (pv 0)) (blkOk_by (by kernel_rfl)) (fun _ _ _ _ _ => pg_name (i := 6) sc_basin_numbers.nd rfl (by first | exact Or.inl rfl | exact Or.inr rfl)) (fun _ _ _ _ _ => pts_nil) (fun _ _ _ _ _ => (pe_propD T.cls.c (ok_Fountain_jets T) (hr.mono (by decide)) pass0 (pv 6) rfl))) pa_nil)))
      (pss_cons (ps_set (i := 3) sc_basin_numbers.nd rfl (by first | exact Or.inl rfl | exact Or.inr rfl) (pe_op op_add pe_int (pe_callBK (cr_maxDf rfl (hu_of hr)) (by rfl) T.n_max (by decide +kernel) (pa_cons (pe_lc (own := [("branch", 6)]) (g := gName 6) (tt := tYes) (by rfl) sc_basin_numbers.nd (pi_tup (pv 0)) (blkOk_by (by kernel_rfl)) (fun _ _ _ _ _ => pg_name (i := 6) sc_basin_numbers.nd rfl (by first | exact Or.inl rfl | exact Or.inr rfl)) (fun _ _ _ _ _ => pts_nil) (fun _ _ _ _ _ => (pe_propD T.cls.c (ok_Fountain_depth T) (hr.mono (by decide)) pass0 (pv 6) rfl))) pa_nil) (pk_cons pe_int pk_nil))))
      (pss_cons (ps_setLc (i := 4) (own := [("branch", 6)]) (g := gName 6) (by rfl) sc_basin_numbers.nd rfl rfl (sw_true rfl rfl rfl (by decide +kernel)) (pi_tup (pv 0)) (blkOk_by (by kernel_rfl)) (fun _ _ _ _ _ => pg_name (i := 6) sc_basin_numbers.nd rfl (by first | exact Or.inl rfl | exact Or.inr rfl)) (fun _ _ _ _ _ => pts_one (pt_val (pe_propD T.cls.c (ok_Fountain_is_open T) (hr.mono (by decide)) pass0 (pv 6) rfl))) (fun _ _ _ _ _ => (pv 6)))
      (pss_cons (ps_if (pt_cmpR op_eq (pe_callB call_len (by rfl) T.n_len (by decide +kernel) (pa_cons (pv 4) pa_nil)) pe_int (nomark _))
        (pss_one (ps_ret (pe_tup (pa_cons (pv 1) (pa_cons (pv 2) (pa_cons (pv 3) (pa_cons pe_non (pa_cons pe_non pa_nil))))))))
        pss_nil)
      (pss_cons (ps_set (i := 5) sc_basin_numbers.nd rfl (by first | exact Or.inl rfl | exact Or.inr rfl) (pe_op op_add pe_int (pe_callB (cr_max rfl) (by rfl) T.n_max (by decide +kernel) (pa_cons (pe_lc (own := [("branch", 6)]) (g := gName 6) (tt := tYes) (by rfl) sc_basin_numbers.nd (pi_list (pv 4)) (blkOk_by (by kernel_rfl)) (fun _ _ _ _ _ => pg_name (i := 6) sc_basin_numbers.nd rfl (by first | exact Or.inl rfl | exact Or.inr rfl)) (fun _ _ _ _ _ => pts_nil) (fun _ _ _ _ _ => (pe_propD T.cls.c (ok_Fountain_longest T) (hr.mono (by decide)) pass0 (pv 6) rfl))) pa_nil))))
      (pss_one (ps_ret (pe_tup (pa_cons (pv 1) (pa_cons (pv 2) (pa_cons (pv 3) (pa_cons (pv 5) (pa_cons (pe_op op_add pe_int (pe_callB (cr_min rfl) (by rfl) T.n_min (by decide +kernel) (pa_cons (pe_lc (own := [("branch", 6)]) (g := gName 6) (tt := tYes) (by rfl) sc_basin_numbers.nd (pi_list (pv 4)) (blkOk_by (by kernel_rfl)) (fun _ _ _ _ _ => pg_name (i := 6) sc_basin_numbers.nd rfl (by first | exact Or.inl rfl | exact Or.inr rfl)) (fun _ _ _ _ _ => pts_nil) (fun _ _ _ _ _ => (pe_propD T.cls.c (ok_Fountain_shortest T) (hr.mono (by decide)) pass0 (pv 6) rfl))) pa_nil))) pa_nil)))))))))))))), ?_⟩
    refine ⟨.ref b, rfl, b, rfl, ⟨xs, SqT.of hb⟩, fun D1 hD1 => lc_propT hD1 (SqT.of hb) hl hz (fun _ => rfl) (fun _ => rfl) fun H1 s1 e1 => ?_⟩
    refine ⟨D1, l.map fun t => (t.size : Int), rfl, SqL.of (by rw [e1, List.map_map]; rfl), _, _, rfl, rfl, ?_⟩
    have hb1 := s1 _ _ hb
    have hl1 := hl.same s1
    refine ⟨.ref b, rfl, b, rfl, ⟨xs, SqT.of hb1⟩, fun D2 hD2 => lc_propT hD2 (SqT.of hb1) hl1 hz (fun _ => rfl) (fun _ => rfl) fun H2 s2 e2 => ?_⟩
    refine ⟨D2, l.map fun t => (t.jts : Int), rfl, SqL.of (by rw [e2, List.map_map]; rfl), ?_⟩
    have hb2 := s2 _ _ hb1
    have hl2 := hl1.same s2
    refine ⟨.ref b, rfl, b, rfl, ⟨xs, SqT.of hb2⟩, fun D3 hD3 => lc_propT hD3 (SqT.of hb2) hl2 hz (fun _ => rfl) (fun _ => rfl) fun H3 s3 e3 => ?_⟩
    have hb3 := s3 _ _ hb2
    have hl3 := hl2.same s3
    refine ⟨D3, l.map fun t => (t.dep : Int), _, rfl, rfl, SqL.of (by rw [e3, List.map_map]; rfl), fun m hm => ?_⟩
    have em : m = (depL l : Nat) := by
      rcases hm with ⟨hn, e⟩ | ⟨n, r, hn, e⟩
      · rw [e]
        cases l with
        | nil => rfl
        | cons t q => cases hn
      · rw [e]
        exact dep_fold hn
    subst em
    refine ⟨_, _, rfl, rfl, ?_⟩
    refine ⟨.ref b, rfl, b, rfl, ⟨xs, SqT.of hb3⟩, fun D4 hD4 => lc_someT (bs := l.map opn) hD4 (SqT.of hb3) hz (by rw [List.length_map, hl.len]) (fun _ => rfl) (fun i x b H Q hx hb s q => ?_) (fun i x H Q hx s q => ⟨x, rfl, q H (Same.refl H)⟩) fun H4 s4 e4 => ?_⟩
    · obtain ⟨t, e1, e2⟩ := hl3.get hx
      rw [map_get e1 hb] at q
      exact ⟨x, rfl, ev_prop (e2.same s) ⟨_, rfl, q H (Same.refl H)⟩⟩
    have hl4 : FtnL (cF K) H4 (l.filter opn) _ := FtnL.filter (p := opn) (hl3.same s4)
    have hlen := hl4.len
    have hle : (l.filter opn).length ≤ l.length := List.length_filter_le _ _
    have hxl := hl.len
    have eS : (l.map fun t => (t.size : Int)).sum = (sizeL l : Nat) := by
      rw [sizeL_sum, ← nI_sum, List.map_map]
      rfl
    have eJ : (l.map fun t => (t.jts : Int)).sum = (jtsL l : Nat) := by
      rw [jtsL_sum, ← nI_sum, List.map_map]
      rfl
    have sAll : Same H H4 := (s1.trans s2).trans (s3.trans s4)
    refine ⟨.ref D4, rfl, .ref D4, _, rfl, .inl ⟨_, SqL.of e4, rfl⟩, rfl, _, rfl, ite2 (fun e => ?_) fun e => ?_⟩
    · have e0 : jtsL l = 0 := by
        refine jtsL_zero.mpr (List.eq_nil_of_length_eq_zero ?_)
        have := of_decide_eq_true e
        injection this with this
        omega
      refine ⟨_, rfl, _, rfl, _, rfl, sz5, fun p hp => ?_⟩
      refine k _ p (Same.new sAll hp) ?_
      rw [upd_same, eS, eJ, e0]
      show some (HO.tup [V.int (1 + (sizeL l : Nat)), V.int ((0 : Nat) : Int), V.int (1 + (depL l : Nat)), V.non, V.non]) = some (HO.tup [V.int ((1 + sizeL l : Nat) : Int), V.int (jtsL l : Nat), V.int ((1 + depL l : Nat) : Int), if jtsL l = 0 then V.non else V.int ((1 + lngL l : Nat) : Int), if jtsL l = 0 then V.non else V.int ((1 + shtL l : Nat) : Int)])
      rw [if_pos e0, if_pos e0, e0, Int.natCast_add, Int.natCast_add]
      rfl
    · have e0 : jtsL l ≠ 0 := fun z => by
        refine e (decide_eq_true ?_)
        rw [hlen, jtsL_zero.mp z]
        rfl
      have hne : (l.filter opn).length ≠ 0 := fun z => e0 (jtsL_zero.mpr (List.eq_nil_of_length_eq_zero z))
      have hz4 : (((xs.zip (l.map opn)).filter (·.2)).map (·.1)).length < sizeLine := by omega
      have hD4' : H4 D4 = some (HO.lst (((xs.zip (l.map opn)).filter (·.2)).map (·.1))) := e4
      refine ⟨.ref D4, rfl, D4, rfl, ⟨_, SqL.of hD4'⟩, fun D5 hD5 => lc_propL hD5 (SqL.of hD4') hl4 hz4 (fun _ => rfl) (fun _ => rfl) fun H5 s5 e5 => ?_⟩
      have eL : ∀ t ∈ l.filter opn, (if t.jts = 0 then V.non else V.int (t.lng : Nat)) = V.int (t.lng : Nat) ∧ (if t.jts = 0 then V.non else V.int (t.sht : Nat)) = V.int (t.sht : Nat) := fun t ht => by
        have h1 := (List.mem_filter.mp ht).2
        unfold opn at h1
        have h2 := of_decide_eq_true h1
        exact ⟨if_neg (by omega), if_neg (by omega)⟩
      refine ⟨D5, (l.filter opn).map fun t => (t.lng : Int), rfl, SqL.of (by rw [e5, List.map_map, List.map_congr_left fun t ht => (eL t ht).1]; rfl), by rw [List.length_map]; omega, fun m h1 h2 => ⟨_, _, rfl, rfl, ?_⟩⟩
      rw [lng_max e0 h1 h2]
      have hD5' := s5 _ _ hD4'
      refine ⟨_, rfl, _, rfl, _, rfl, _, rfl, .ref D4, rfl, D4, rfl, ⟨_, SqL.of hD5'⟩, fun D6 hD6 => lc_propL hD6 (SqL.of hD5') (hl4.same s5) hz4 (fun _ => rfl) (fun _ => rfl) fun H6 s6 e6 => ?_⟩
      refine ⟨D6, (l.filter opn).map fun t => (t.sht : Int), rfl, SqL.of (by rw [e6, List.map_map, List.map_congr_left fun t ht => (eL t ht).2]; rfl), by rw [List.length_map]; omega, fun m h1 h2 => ⟨_, _, rfl, rfl, ?_⟩⟩
      rw [sht_min e0 h1 h2]
      refine ⟨sz5, fun p hp => ?_⟩
      refine k _ p (Same.new (sAll.trans (s5.trans s6)) hp) ?_
      rw [upd_same, eS, eJ]
      show some (HO.tup [V.int (1 + (sizeL l : Nat)), V.int (jtsL l : Nat), V.int (1 + (depL l : Nat)), V.int (1 + (lngL l : Nat)), V.int (1 + (shtL l : Nat))]) = some (HO.tup [V.int ((1 + sizeL l : Nat) : Int), V.int (jtsL l : Nat), V.int ((1 + depL l : Nat) : Int), if jtsL l = 0 then V.non else V.int ((1 + lngL l : Nat) : Int), if jtsL l = 0 then V.non else V.int ((1 + shtL l : Nat) : Int)])
      rw [if_neg e0, if_neg e0, Int.natCast_add, Int.natCast_add, Int.natCast_add, Int.natCast_add]
      rfl
theorem ok_Fountain_text  (T : Txt K mg base) : PropD P w K mg base CX0 1 (cF K) "text" (spV K fun t => .str (tx t)) := by
  refine T.p_text.ok sc_Fountain_text (fun vs H Q E h => ?_) (fun f cdv A outer s H vs Q E hr h => ?_)
  · obtain ⟨v, t, rfl, _⟩ := h
    rfl
  · obtain ⟨v, t, rfl, hf, k⟩ := h
    obtain ⟨a, dx, b, n, vs, rfl, ha, hb, hn, hk⟩ := ftn_iff.mp hf
    refine ⟨_, (pss_one (ps_ret (pe_fld (pv 0) rfl))), ?_⟩
    exact ⟨.ref a, rfl, a, _, dx, _, _, rfl, ha, T.cls.c, T.cls.nw, fl_w, k⟩
def sp_init (K : PySem.W.Frag) : Sp := fun vs H Q _ => ∃ x dx t b xs H0, vs = [.ref x, .str (tx t), .ref b] ∧ H0 x = none ∧ Same H0 H ∧ H x = some (.ins (cF K) dx []) ∧ H0 b = some (.tup xs) ∧ FtnL (cF K) H0 t.kids xs ∧ xs.length < sizeLine ∧
  ∀ H', Same H0 H' → Ftn (cF K) H' t (.ref x) → Q .non H'
theorem mk_jet {K : PySem.W.Frag} {H : Hp} {Q : VK} {E : XK} (q : ∀ v H', Same H H' → Ftn (cF K) H' .jet v → Q v H') : ([] : List V).length ≤ sizeLine ∧ ∀ p, H p = none → ∀ x dx, upd H p (.tup []) x = none → upd H p (.tup []) dx = none → dx ≠ x →
    sp_init K (V.ref x :: ([V.str "o", V.ref p] ++ [])) (upd (upd (upd H p (.tup [])) dx (.own x)) x (.ins (cF K) dx [])) (fun v H2 => v = .non ∧ Q (.ref x) H2) E := by
  refine ⟨Nat.zero_le _, fun p hp x dx hx hdx hne => ?_⟩
  have sQ : Same H (upd H p (.tup [])) := Same.new (Same.refl H) hp
  exact ⟨x, dx, .jet, p, [], upd H p (.tup []), by rw [tx_jet]; rfl, hx, Same.new (Same.new (Same.refl _) hdx) (by rw [upd_ne (Ne.symm hne)]; exact hx), upd_same, upd_same, rfl, by rw [sizeLine_eq]; decide, fun H5 s5 f5 => ⟨rfl, q _ _ (sQ.trans s5) f5⟩⟩
theorem ok_Fountain___init__  (T : Txt K mg base) : MakeD P w K mg base CX0 4 "Fountain" (cF K) ["self", "text", "branches"] [] (sp_init K) := by
  refine T.init.ok 1 (by decide) sc_Fountain___init__ (fun vs H Q E h => ?_) (fun f cdv A outer s H vs Q E hr h => ?_)
  · obtain ⟨x, dx, t, b, xs, H0, rfl, _⟩ := h
    rfl
  · obtain ⟨x, dx, t, b, xs, H0, rfl, hx0, s0, hx, hb, hk, hz, k⟩ := h
    refine ⟨_, (pss_cons (ps_set (i := 3) sc_Fountain___init__.nd rfl (by first | exact Or.inl rfl | exact Or.inr rfl) (pe_cmpR op_isN (pv 2) pe_non (nomark _)))
      (pss_cons (ps_if (pt_val (pv 3))
        pss_never
        pss_nil)
      (pss_cons (ps_fld (pv 0) (pv 1) (by rfl))
      (pss_cons (ps_fld (pv 0) (pv 2) (by rfl))
      (pss_cons (ps_fld (pv 0) (pe_via (pe_ifExp (pt_cmpR op_eq (pv 1) (pe_gstr rfl T.gJET_TEXT) (nomark _)) (pe_tup (pa_cons pe_int (pa_cons pe_int (pa_cons pe_int (pa_cons pe_int (pa_cons pe_int pa_nil)))))) (pe_callD (ok_basin_numbers T) (hr.mono (by decide)) (by rfl) pass0 (pa_cons (pv 2) pa_nil)))) (by rfl))
      (pss_one (ps_if (pt_val (pv 3))
        pss_never
        pss_nil))))))), ?_⟩
    have nx : ∀ {a : Addr} {o : HO}, H0 a = some o → a ≠ x := fun e => ne_of_none e hx0
    refine ⟨.ref b, rfl, rfl, _, rfl, _, rfl, ite_f (decide_eq_false (fun z => by cases z)) ⟨.str (tx t), rfl, .ref x, rfl, x, _, dx, _, rfl, hx, T.cls.c, T.cls.nw, by decide, .ref b, rfl, .ref x, rfl, x, _, dx, _, rfl, upd_same, T.cls.c, T.cls.nb, fl_l1,
      fun v H' => ∃ n, v = .ref n ∧ Same H0 H' ∧ H' x = some (.ins (cF K) dx (putF "branches" (.ref b) (putF "written" (.str (tx t)) []))) ∧ H' n = some (.tup (nums t)), ⟨_, rfl, rfl, _, rfl, ite2 (fun e => ?_) fun e => ?_⟩, fun v H' hv => ?_⟩⟩
    · have et : t = .jet := tx_inj ((V.str.inj (of_decide_eq_true e)).trans tx_jet.symm)
      subst et
      refine ⟨sz5, fun p hp => ⟨p, rfl, Same.new ?_ hp, ?_, ?_⟩⟩
      · exact fun a o e => by rw [upd_ne (nx e), upd_ne (nx e)]; exact s0 a o e
      · exact upd_old upd_same hp
      · rw [upd_same]
        rfl
    · cases t with
      | jet => exact absurd (decide_eq_true (by rw [tx_jet])) e
      | bas l =>
        have sH : ∀ o1 o2 : HO, Same H0 (upd (upd H x o1) x o2) := fun o1 o2 a o e => by rw [upd_ne (nx e), upd_ne (nx e)]; exact s0 a o e
        exact ⟨.ref b, rfl, b, xs, l, rfl, sH _ _ _ _ hb, FtnL.same hk (sH _ _), hz, fun H' p s e => ⟨p, rfl, (sH _ _).trans s, s _ _ upd_same, e⟩⟩
    · obtain ⟨n, rfl, s1, e1, e2⟩ := hv
      refine ⟨.ref x, rfl, x, _, dx, _, rfl, e1, T.cls.c, T.cls.nn, fl_l2, _, rfl, _, rfl, ite_f (decide_eq_false (fun z => by cases z)) (k _ ?_ ?_)⟩
      · exact fun a o e => by rw [upd_ne (nx e)]; exact s1 a o e
      · have sF : Same H0 (upd H' x (.ins (cF K) dx (putF "numbers" (.ref n) (putF "branches" (.ref b) (putF "written" (.str (tx t)) []))))) := fun a o e => by rw [upd_ne (nx e)]; exact s1 a o e
        have nn : n ≠ x := fun z => by
          subst z
          rw [e1] at e2
          cases e2
        exact ftn_iff.mpr ⟨x, dx, b, n, xs, rfl, by rw [upd_same, fl_put], sF _ _ hb, by rw [upd_ne nn]; exact e2, hk.same sF⟩
def sp_made (K : PySem.W.Frag) : Sp := fun vs H Q _ => ∃ v xs l, vs = [.ref v] ∧ Sq K H v xs ∧ FtnL (cF K) H l xs ∧ sizeL l ≤ 1048576 ∧ LamX.Tabs (TT K) H ∧ ∀ w H', LamX.ExtN H H' → LamX.Tabs (TT K) H' → Ftn (cF K) H' (.bas (sortT l)) w → Q w H'
theorem ok_made  (T : Txt K mg base) : CallD P w K mg base CX0 6 "made" ["branches"] [] (sp_made K) := by
  refine T.d_made.okC sc_made (fun vs H Q E h => ?_) (fun A outer s H vs Q E hr h => ?_)
  · obtain ⟨v, xs, l, rfl, _⟩ := h
    rfl
  · obtain ⟨v, xs, l, rfl, hq, hl, hsz, hT, k⟩ := h
    have hlen := hl.len
    have hll := length_le l
    have hzl : xs.length < sizeLine := by rw [sizeLine_eq]; omega
    refine ⟨_, (pss_cons (ps_set (i := 1) sc_made.nd rfl (by first | exact Or.inl rfl | exact Or.inr rfl) (pe_sortedKey (N := ["branch"]) (k := 2) (pv 0) (by rfl) T.n_sorted T.tb_made rfl (List.mem_singleton.mpr rfl) (fun q hq _ => by rw [List.mem_singleton.mp hq]) (hr.mono (by decide)) ⟨rfl, rfl, rfl, by decide +kernel, rfl, by decide +kernel, by decide +kernel⟩ (fun _ _ _ _ _ => rfl) (fun A outer s H f cd hr => (pe_propD T.cls.c (ok_Fountain_text T) (hr.mono (by decide)) pass0 (pv 0) rfl))))
      (pss_one (ps_ret (pe_makeD (ok_Fountain___init__ T) (hr.mono (by decide)) (by rfl) pass0 (pa_cons (pe_op op_add_str (pe_op op_add_str pe_str (pe_join pe_str (pe_lc (own := [("branch", 2)]) (g := gName 2) (tt := tYes) (by rfl) sc_made.nd (pi_list (pv 1)) (blkOk_by (by kernel_rfl)) (fun _ _ _ _ _ => pg_name (i := 2) sc_made.nd rfl (by first | exact Or.inl rfl | exact Or.inr rfl)) (fun _ _ _ _ _ => pts_nil) (fun _ _ _ _ _ => (pe_propD T.cls.c (ok_Fountain_text T) (hr.mono (by decide)) pass0 (pv 2) rfl))))) pe_str) (pa_cons (pe_callTy call_tuple_of (by rfl) T.n_tuple (by decide +kernel) (pa_cons (pv 1) pa_nil)) pa_nil)))))), ?_⟩
    refine ⟨.ref v, rfl, v, xs, l.map tx, rfl, hq, by rw [List.length_map, hlen], hT, fun H2 hE hT2 => ⟨fun H' => LamX.ExtN H2 H' ∧ LamX.Tabs (TT K) H', ⟨LamX.ExtN.refl H2, hT2⟩, fun H' z => z.1, fun i x z hx hz H' hR => ?_, fun D H' ys hR hD ky => ?_⟩⟩
    · obtain ⟨t, e1, e2⟩ := hl.get hx
      rw [map_get e1 hz]
      exact ⟨x, rfl, ev_prop (e2.ext (hE.trans hR.1)) ⟨rfl, hR⟩⟩
    have hlS : sizeL (sortT l) = sizeL l := sizeL_perm (sortT_perm l)
    have hl3 : FtnL (cF K) (upd H' D (.lst ys)) (sortT l) ys := (ftnL_sort (hl.ext (hE.trans hR.1)) ky).same (Same.new (Same.refl H') hD)
    have sD : Same H' (upd H' D (.lst ys)) := Same.new (Same.refl H') hD
    have eD : upd H' D (.lst ys) D = some (.lst ys) := upd_same
    generalize upd H' D (.lst ys) = H3 at hl3 sD eD ⊢
    have hz : ys.length < sizeLine := by
      rw [hl3.len, (sortT_perm l).length_eq]
      omega
    have hcl := codesL_len (sortT l)
    have hjl : (Txt.join "" ((sortT l).map tx)).length = (codesL (sortT l)).length := by rw [join_tx, SX.S_len]
    have hop : (("(" : Str)).length = 1 := by decide +kernel
    have hcp : ((")" : Str)).length = 1 := by decide +kernel
    have hem : (("" : Str)).length = 0 := by decide +kernel
    have hsl := sizeLine_eq
    refine ⟨⟨_, rfl⟩, .ref D, rfl, D, rfl, ⟨ys, SqL.of eD⟩, fun D2 hD2 => lc_propL hD2 (SqL.of eD) hl3 hz (fun _ => rfl) (fun _ => rfl) fun H4 s4 e4 => ⟨_, D2, (sortT l).map tx, rfl, rfl, .inl (SqL.of (by rw [e4, List.map_map]; rfl)), ?_, _, _, rfl, rfl, ?_, _, _, rfl, rfl, ?_, .ref D, rfl, D, ys, rfl, .inl ⟨SqL.of (s4 _ _ eD), fun p hp x dx hx hdx hne => ?_⟩⟩⟩
    · rw [lens_tx, hem]
      omega
    · rw [hop, hjl]
      omega
    · show (("(" : Str) ++ Txt.join "" ((sortT l).map tx)).length + ((")" : Str)).length ≤ sizeLine
      rw [join_tx, op_S, SX.S_cat, SX.S_len, hcp, List.length_append, List.length_singleton]
      omega
    have sP : Same H' (upd H4 p (.tup ys)) := Same.new (sD.trans s4) hp
    refine ⟨x, dx, .bas (sortT l), p, ys, upd H4 p (.tup ys), by rw [← tx_bas]; rfl, hx, Same.new (Same.new (Same.refl _) hdx) (by rw [upd_ne (Ne.symm hne)]; exact hx), upd_same, upd_same, FtnL.same (hl3.same s4) (Same.new (Same.refl H4) hp), hz, fun H5 s5 f5 => ⟨rfl, k _ H5 ?_ ?_ f5⟩⟩
    · exact (hE.trans hR.1).trans (.of (sP.trans s5))
    · exact LamX.Tabs.ext hR.2 (sP.trans s5)
def asp_made : ASp
  | [.ref p], L, Q, _ => ∃ ts : List T, L p = some (.lst (ts.map .tree)) ∧ sizeL ts ≤ 1048576 ∧ Q (.tree (.bas (sortT ts))) L
  | _, _, _, _ => False
theorem okA_made (T : Txt K mg base) {scr : Option (Addr × List Int)} : CallD P w K mg base CX0 6 "made" ["branches"] [] (spA (cA K scr) asp_made) :=
  (ok_made T).imp fun vs H Q E ⟨ds, L, R, RX, r, g, h, pq, px⟩ => by
    unfold asp_made at h
    split at h
    · rename_i p
      obtain ⟨ts, e0, hz, h⟩ := h
      obtain ⟨v, rfl, r1⟩ := repL_one r
      cases rep_ref.mp r1
      obtain ⟨ws, e1, rs⟩ := good_lst g e0
      exact ⟨p, ws, ts, rfl, .inl (SqL.of e1), RepL.trees.mp rs, hz, g.tabs, fun w H' e' T' hf => pq _ L _ H' h (.extN e') (g.extN T' e') (rep_tree.mpr hf)⟩
    · exact h.elim

theorem ok_Fountain_parts  (T : Txt K mg base) : PropD P w K mg base CX0 1 (cF K) "parts" (spKids K) := by
  refine T.p_parts.ok sc_Fountain_parts (fun vs H Q E h => ?_) (fun f cdv A outer s H vs Q E hr h => ?_)
  · obtain ⟨v, t, rfl, _⟩ := h
    rfl
  · obtain ⟨v, t, rfl, hf, k⟩ := h
    obtain ⟨a, dx, b, n, vs, rfl, ha, hb, hn, hk⟩ := ftn_iff.mp hf
    refine ⟨_, (pss_one (ps_ret (pe_fld (pv 0) rfl))), ?_⟩
    exact ⟨.ref a, rfl, a, _, dx, _, _, rfl, ha, T.cls.c, T.cls.nb, fl_b, k b vs hb hk⟩
def sp_parsed (K : PySem.W.Frag) : Sp := fun vs H Q _ => ∃ u : JW.T, vs = [.str (tx u)] ∧ u.size ≤ 500000 ∧ LamX.Tabs (TT K) H ∧ ∀ b xs H', LamX.ExtN H H' → LamX.Tabs (TT K) H' → H' b = some (.tup xs) → FtnL (cF K) H' u.canon.kids xs → Q (.ref b) H'
def PInv (K : PySem.W.Frag) (u : JW.T) (H : Hp) (i : Nat) (σ : L2.St) (H' : Hp) : Prop := ∃ D b qs st fd v4 v5 v6, σ = [some (.str (tx u)), some (.ref D), some (.ref b), some (.bl (Option.isSome fd)), v4, v5, v6] ∧ H D = none ∧ LamX.ExtN H H' ∧ LamX.Tabs (TT K) H' ∧ H' D = some (.lst (List.reverse qs)) ∧
  PendR (cF K) H' st qs ∧ (∃ xs, H' b = some (.tup xs) ∧ ∀ t, fd = some t → FtnL (cF K) H' (T.kids t) xs) ∧ prun (u.codes.drop i) (st, fd) = some ([], some u.canon) ∧ wtS (st, fd) ≤ i
theorem pinvA {K : PySem.W.Frag} {u : JW.T} {H H2 H3 : Hp} {i : Nat} {D a b q : Addr} {ws xs bx : List V} {p2 : List JW.T} {r2 : List (List JW.T)} {t : JW.T} {v : V} {v4 v5 v6 : Option V} (hD0 : H D = none) (hE : LamX.ExtN H H2) (hT : LamX.Tabs (TT K) H2) (s : Same H2 H3) (hD : H2 D = some (.lst (V.ref a :: ws).reverse))
    (hf : FtnL (cF K) H2 p2 xs) (hr : PendR (cF K) H2 r2 ws) (ht : Ftn (cF K) H2 t v) (hq : H3 q = some (.tup (xs ++ [v]))) (hb : H2 b = some (.tup bx)) (hrun : prun (u.codes.drop (i + 1)) ((p2 ++ [t]) :: r2, none) = some ([], some u.canon)) (hw : wtS ((p2 ++ [t]) :: r2, none) ≤ i + 1) :
    PInv K u H (i + 1) [some (.str (tx u)), some (.ref D), some (.ref b), some (.bl false), v4, v5, v6] (upd H3 D (.lst (V.ref q :: ws).reverse)) := by
  have hD3 := s _ _ hD
  have hT3 := Tabs.same hT s
  have nq : q ≠ D := ne_of hq hD3 fun z => by cases z
  have nb : b ≠ D := ne_of hb hD fun z => by cases z
  have hx : ExtD D H3 (upd H3 D (.lst (V.ref q :: ws).reverse)) := ExtD.put (ExtD.refl D H3)
  refine ⟨D, b, V.ref q :: ws, (p2 ++ [t]) :: r2, none, v4, v5, v6, rfl, hD0, fun c o e n => ?_, Tabs.put hT3 hD3, upd_same, ?_, ⟨bx, by rw [upd_ne nb]; exact s _ _ hb, fun t z => by cases z⟩, hrun, hw⟩
  · rw [upd_ne (ne_of_none e hD0)]
    exact s _ _ (hE _ _ e n)
  · exact ⟨q, xs ++ [v], ws, rfl, by rw [upd_ne nq]; exact hq, ftnL_extD hD3 hx _ _ ((hf.same s).app (FtnL.one (ht.same s))), PendR.extD hD3 hx (hr.ext (.of s))⟩
theorem pinvN {K : PySem.W.Frag} {u : JW.T} {H H2 H3 : Hp} {i : Nat} {D b q : Addr} {qs bx : List V} {st : List (List JW.T)} {v4 v5 v6 : Option V} (hD0 : H D = none) (hE : LamX.ExtN H H2) (hT : LamX.Tabs (TT K) H2) (s : Same H2 H3) (hD : H2 D = some (.lst qs.reverse))
    (hr : PendR (cF K) H2 st qs) (hq : H3 q = some (.tup [])) (hb : H2 b = some (.tup bx)) (hrun : prun (u.codes.drop (i + 1)) ([] :: st, none) = some ([], some u.canon)) (hw : wtS ([] :: st, none) ≤ i + 1) :
    PInv K u H (i + 1) [some (.str (tx u)), some (.ref D), some (.ref b), some (.bl false), v4, v5, v6] (upd H3 D (.lst (qs.reverse ++ [V.ref q]))) := by
  have hD3 := s _ _ hD
  have hT3 := Tabs.same hT s
  have nq : q ≠ D := ne_of hq hD3 fun z => by cases z
  have nb : b ≠ D := ne_of hb hD fun z => by cases z
  have hx : ExtD D H3 (upd H3 D (.lst (qs.reverse ++ [V.ref q]))) := ExtD.put (ExtD.refl D H3)
  refine ⟨D, b, V.ref q :: qs, [] :: st, none, v4, v5, v6, rfl, hD0, fun c o e n => ?_, Tabs.put hT3 hD3, by rw [upd_same, List.reverse_cons], ?_, ⟨bx, by rw [upd_ne nb]; exact s _ _ hb, fun t z => by cases z⟩, hrun, hw⟩
  · rw [upd_ne (ne_of_none e hD0)]
    exact s _ _ (hE _ _ e n)
  · exact ⟨q, [], qs, rfl, by rw [upd_ne nq]; exact hq, rfl, PendR.extD hD3 hx (hr.ext (.of s))⟩
theorem ok_parsed  (T : Txt K mg base) : CallD P w K mg base CX0 7 "parsed" ["text"] [] (sp_parsed K) := by
  refine T.d_parsed.ok sc_parsed (fun vs H Q E h => ?_) (fun f cdv A outer s H vs Q E hr h => ?_)
  · obtain ⟨u, rfl, _⟩ := h
    rfl
  · obtain ⟨u, rfl, hsz, hT, k⟩ := h
    have hcl := (codes_len u).1
    have hsl := sizeLine_eq
    have hcz : (tx u).cps.size = u.codes.length := by
      show (u.codes.toArray).size = _
      rw [List.size_toArray]
    refine ⟨_, (pss_cons (ps_set (i := 1) sc_parsed.nd rfl (by first | exact Or.inl rfl | exact Or.inr rfl) (pe_lst pa_nil))
      (pss_cons (ps_asg (pe_tup (pa_cons (pe_tup pa_nil) (pa_cons pe_bl pa_nil))) (pg_tup rfl (pgs_cons (pg_name (i := 2) sc_parsed.nd rfl (by first | exact Or.inl rfl | exact Or.inr rfl)) (pgs_cons (pg_name (i := 3) sc_parsed.nd rfl (by first | exact Or.inl rfl | exact Or.inr rfl)) pgs_nil))))
      (pss_cons (ps_for PassesOwn.never rfl (pi_enumS (by rfl) T.n_enumerate (pa_cons (pv 0) pa_nil)) (pg_tup rfl (pgs_cons (pg_name (i := 4) sc_parsed.nd rfl (by first | exact Or.inl rfl | exact Or.inr rfl)) (pgs_cons (pg_name (i := 5) sc_parsed.nd rfl (by first | exact Or.inl rfl | exact Or.inr rfl)) pgs_nil)))
        (pss_cons (ps_if (PW.pt (pw_or (pt_val (pv 3)) (pw_or (pt_cmpR op_notin_str (pv 5) pe_str (by rfl)) (pw_or1 (PW.pt (pw_and (pt_cmpR op_eq (pv 5) pe_str (nomark _)) (pw_and1 (pt_cmpR op_eq (pe_callB call_len (by rfl) T.n_len (by decide +kernel) (pa_cons (pv 1) pa_nil)) pe_int (nomark _)))))))))
          pss_never
          pss_nil)
        (pss_one (ps_via (ps_if (pt_cmpR op_eq (pv 5) pe_str (nomark _))
          (pss_one (ps_expr (pe_bm PySem.F.plainAttrs_list PySem.F.slot_list_append PySem.F.type_list_append mt_append (pv 1) (pa_cons (pe_tup pa_nil) pa_nil))))
          (pss_cons (ps_set (i := 6) sc_parsed.nd rfl (by first | exact Or.inl rfl | exact Or.inr rfl) (pe_via (pe_ifExp (pt_cmpR op_eq (pv 5) (pe_gstr rfl T.gJET_TEXT) (nomark _)) (pe_makeD (ok_Fountain___init__ T) (hr.mono (by decide)) (by rfl) pass0 (pa_cons (pe_gstr rfl T.gJET_TEXT) (pa_cons (pe_tup pa_nil) pa_nil))) (pe_callD (ok_made T) (hr.mono (by decide)) (by rfl) pass0 (pa_cons (pe_bm0 PySem.F.plainAttrs_list PySem.F.slot_list_pop PySem.F.type_list_pop mt_pop (pv 1)) pa_nil)))))
          (pss_one (ps_via (ps_if (pt_cmpR op_gt (pe_callB call_len (by rfl) T.n_len (by decide +kernel) (pa_cons (pv 1) pa_nil)) pe_int (nomark _))
            (pss_one (ps_asg (pe_op op_catA (pe_ix ix_list (pv 1) (pe_un un_neg pe_int) (fun _ _ => rfl)) (pe_tup (pa_cons (pv 6) pa_nil))) (pg_sub (pv 1) (pe_un un_neg pe_int) set_list)))
            (pss_one (ps_par (i := 2) (j := 3) (by rfl) sc_parsed.nd rfl rfl (by decide) rfl rfl (pa_cons (pe_propD T.cls.c (ok_Fountain_parts T) (hr.mono (by decide)) pass0 (pv 6) rfl) (pa_cons pe_bl pa_nil)) (by rfl))))))))))))
      (pss_cons (ps_if (pt_not (pt_val (pv 3)))
        pss_never
        pss_nil)
      (pss_one (ps_ret (pv 2))))))), ?_⟩
    refine ⟨by decide, fun D hD => ⟨by decide, fun b hb => ⟨sz2, fun p hp => ⟨p, _, rfl, SqT.of upd_same, rfl, _, _, rfl, _, _, rfl, rfl, .str (tx u), rfl, _, rfl, ?_⟩⟩⟩⟩
    refine for_enumS (PInv K u H) ?_ (fun i c σ H' Tp hc hP hTp => ?_) fun σ H' hP => ?_
    · have s3 : Same H (upd (upd (upd H D (.lst [])) b (.tup [])) p (.tup [.ref b, .bl false])) := Same.new (Same.new (Same.new (Same.refl H) hD) hb) hp
      exact ⟨D, b, [], [], none, none, none, none, rfl, hD, .of s3, Tabs.same hT s3, upd_old (upd_old upd_same hb) hp, rfl, ⟨[], upd_old upd_same hp, fun t z => by cases z⟩, prun_all u, Nat.le_refl _⟩
    · obtain ⟨D, b, qs, st, fd, v4, v5, v6, rfl, hD0, hE, hT', hDq, hp', ⟨bx, hbx, hfd⟩, hrun, hwt⟩ := hP
      have hc' : u.codes[i]? = some c := by
        have : (u.codes.toArray)[i]? = some c := hc
        rw [List.getElem?_toArray] at this
        exact this
      have hi : i < u.codes.length := (List.getElem?_eq_some_iff.mp hc').1
      obtain ⟨⟨st', fd'⟩, hst, hrun'⟩ := prun_step hc' hrun
      have hwt2 : wtS (st', fd') ≤ i + 1 := Nat.le_trans (pstep_wt hst) (Nat.succ_le_succ hwt)
      have hql := hp'.len
      have hsl2 := wtL_len st
      have hwl : wtL st ≤ i := Nat.le_trans (Nat.le_add_right _ _) hwt
      obtain ⟨rfl, hcs⟩ := pstep_cases hst
      have sT : Same H' (upd H' Tp (.tup [.int (i : Nat), .str ⟨#[c]⟩])) := Same.new (Same.refl H') hTp
      generalize hH1 : upd H' Tp (.tup [.int (i : Nat), .str ⟨#[c]⟩]) = H1 at sT ⊢
      have eT : H1 Tp = some (.tup [.int (i : Nat), .str ⟨#[c]⟩]) := by rw [← hH1, upd_same]
      have hE1 : LamX.ExtN H H1 := hE.trans (.of sT)
      have hT1 := Tabs.same hT' sT
      have hD1 := sT _ _ hDq
      have hp1 : PendR (cF K) H1 st qs := hp'.ext (.of sT)
      have hb1 := sT _ _ hbx
      refine ⟨Tp, _, rfl, SqT.of eT, rfl, _, _, rfl, _, _, rfl, rfl, .bl false, rfl, _, rfl, ite_f rfl ⟨.str ⟨#[c]⟩, rfl, _, _, rfl, rfl, _, rfl, ite_f ?_ ⟨.str ⟨#[c]⟩, rfl, rfl, _, rfl, ite2 (fun e => ?_) fun e => ite_f rfl ?_⟩⟩⟩
      · rcases hcs with ⟨rfl, _⟩ | ⟨rfl, _⟩ | ⟨rfl, _⟩ <;> decide +kernel
      · -- a closing sign: something is open
        have ec : c = 41 := by
          rcases hcs with ⟨rfl, _⟩ | ⟨rfl, _⟩ | ⟨rfl, _⟩
          · exact absurd e (by decide +kernel)
          · exact absurd e (by decide +kernel)
          · rfl
        subst ec
        rcases hcs with ⟨z, _⟩ | ⟨z, _⟩ | ⟨_, pp, r, rfl, hs'⟩
        · cases z
        · cases z
        have hql2 : qs.reverse.length = r.length + 1 := by rw [List.length_reverse, hql]; rfl
        refine ⟨.ref D, rfl, .ref D, _, rfl, .inl ⟨_, SqL.of hD1, rfl⟩, rfl, _, rfl, ite_f (decide_eq_false fun z => ?_) ⟨PInv K u H (i + 1), ⟨.str ⟨#[41]⟩, rfl, rfl, _, rfl, ite_f (by decide +kernel) ?_⟩, fun _ _ z => z⟩⟩
        · have z2 := V.int.inj z
          omega
        -- the piece is made
        obtain ⟨a, xs, ws, rfl, ha, hfp, hpr⟩ := (show ∃ a xs ws, qs = .ref a :: ws ∧ H1 a = some (.tup xs) ∧ FtnL (cF K) H1 pp xs ∧ PendR (cF K) H1 r ws from hp1)
        have hx : ExtD D H1 (upd H1 D (.lst ws.reverse)) := ExtD.put (ExtD.refl D H1)
        have hwp : sizeL pp ≤ i := by
          have : 1 + sizeL pp + wtL r ≤ i := hwl
          omega
        refine ⟨fun v H2 => H2 D = some (.lst ws.reverse) ∧ PendR (cF K) H2 r ws ∧ Ftn (cF K) H2 (.bas (sortT pp)) v ∧ LamX.ExtN H H2 ∧ LamX.Tabs (TT K) H2 ∧ H2 b = some (.tup bx), ⟨.str ⟨#[41]⟩, rfl, rfl, _, rfl, ite_f (by decide +kernel) ⟨.ref D, rfl, tyL hD1, D, _, .ref a, rfl, rfl, hD1, sq_last _ _, ?_⟩⟩, fun v H2 ⟨hD2, hp2, hv, hE2, hT2, hb2⟩ => ?_⟩
        · rw [sq_butlast]
          refine ⟨a, xs, pp, rfl, .inr (SqT.of (by rw [upd_ne (ne_of ha hD1 fun z => by cases z)]; exact ha)), ftnL_extD hD1 hx _ _ hfp, by omega, Tabs.put hT1 hD1, fun w H' e1 e2 e3 => ⟨e1 _ _ upd_same (fun ps z => by cases z), (PendR.extD hD1 hx hpr).ext e1, e3, fun c o ec n => e1 _ _ (by rw [upd_ne (ne_of_none ec hD0)]; exact hE1 _ _ ec n) n, e2, e1 _ _ (by rw [upd_ne (ne_of hb1 hD1 fun z => by cases z)]; exact hb1) (fun ps z => by cases z)⟩⟩
        · have hl2 := hp2.len
          refine ⟨PInv K u H (i + 1), ⟨.ref D, rfl, .ref D, _, rfl, .inl ⟨_, SqL.of hD2, rfl⟩, _, _, rfl, rfl, _, rfl, ite2 (fun e => ?_) fun e => ?_⟩, fun _ _ z => z⟩
          · cases r with
            | nil =>
              rw [List.length_reverse, hl2] at e
              exact absurd (of_decide_eq_true e) (by show ¬ ((0 : Int) < ((0 : Nat) : Int)); decide)
            | cons p2 r2 =>
              obtain ⟨a2, ys, ws2, rfl, ha2, hf2, hr2⟩ := (show ∃ a xs zs, ws = .ref a :: zs ∧ H2 a = some (.tup xs) ∧ FtnL (cF K) H2 p2 xs ∧ PendR (cF K) H2 r2 zs from hp2)
              have hs2 : st' = (p2 ++ [.bas (sortT pp)]) :: r2 ∧ fd' = none := by
                have e3 : (st', fd') = ((p2 ++ [.bas (sortT pp)]) :: r2, none) := hs'
                exact Prod.mk.inj e3
              obtain ⟨rfl, rfl⟩ := hs2
              have hyl : ys.length + 1 ≤ sizeLine := by
                have h1 := hf2.len
                have h2 := length_le p2
                have h3 : 1 + sizeL (p2 ++ [.bas (sortT pp)]) + wtL r2 + 0 ≤ i + 1 := hwt2
                rw [sizeL_app] at h3
                omega
              refine ⟨.ref D, rfl, 1, rfl, D, _, _, _, rfl, rfl, SqL.of hD2, at_last _ _, v, rfl, sz1, fun q hq => ⟨a2, q, ys, [v], rfl, rfl, SqT.of (upd_old ha2 hq), SqT.of upd_same, hyl, fun hy => ⟨.ref D, rfl, 1, rfl, D, _, _, _, rfl, rfl, upd_old hD2 hq, ix_last (by simp), ?_⟩, fun _ z => absurd z (by simp), fun _ _ q2 hq2 => ⟨.ref D, rfl, 1, rfl, D, _, _, _, rfl, rfl, upd_old (upd_old hD2 hq) hq2, ix_last (by simp), ?_⟩⟩⟩
              · subst hy
                rw [set_last]
                exact pinvA hD0 hE2 hT2 (Same.new (Same.refl H2) hq) hD2 hf2 hr2 hv (by rw [upd_same]; rfl) hb2 hrun' hwt2
              · rw [set_last]
                exact pinvA hD0 hE2 hT2 (Same.new (Same.new (Same.refl H2) hq) hq2) hD2 hf2 hr2 hv upd_same hb2 hrun' hwt2
          · cases r with
            | cons p2 r2 =>
              refine absurd (decide_eq_true ?_) e
              rw [List.length_reverse, hl2]
              show (0 : Int) < ((r2.length + 1 : Nat) : Int)
              omega
            | nil =>
              have hs2 : st' = [] ∧ fd' = some (.bas (sortT pp)) := Prod.mk.inj hs'
              obtain ⟨rfl, rfl⟩ := hs2
              refine ⟨v, rfl, ev_kids hv fun b' xs' hb' hk' => ⟨_, _, rfl, ?_⟩⟩
              exact ⟨D, b', ws, [], some (.bas (sortT pp)), _, _, _, rfl, hD0, hE2, hT2, hD2, hp2, ⟨xs', hb', fun t' z => by cases z; exact hk'⟩, hrun', hwt2⟩
      · -- no closing sign
        rcases hcs with ⟨rfl, hs'⟩ | ⟨rfl, hs'⟩ | ⟨rfl, _⟩
        · obtain ⟨rfl, rfl⟩ := Prod.mk.inj hs'
          refine ⟨PInv K u H (i + 1), ⟨.str ⟨#[40]⟩, rfl, rfl, _, rfl, ite_t (by decide +kernel) ⟨.ref D, rfl, tyL hD1, by decide, fun q hq => ⟨D, _, .ref q, rfl, rfl, upd_old hD1 hq, ?_, ?_⟩⟩⟩, fun _ _ z => z⟩
          · rw [List.length_reverse]
            omega
          · exact pinvN hD0 hE1 hT1 (Same.new (Same.refl H1) hq) hD1 hp1 upd_same hb1 hrun' hwt2
        · generalize hr0 : st = r at *
          generalize hq0 : qs = ws at *
          refine ⟨PInv K u H (i + 1), ⟨.str ⟨#[111]⟩, rfl, rfl, _, rfl, ite_f (by decide +kernel) ?_⟩, fun _ _ z => z⟩
          refine ⟨fun v H2 => H2 D = some (.lst ws.reverse) ∧ PendR (cF K) H2 r ws ∧ Ftn (cF K) H2 .jet v ∧ LamX.ExtN H H2 ∧ LamX.Tabs (TT K) H2 ∧ H2 b = some (.tup bx), ⟨.str ⟨#[111]⟩, rfl, rfl, _, rfl, ite_t (by decide +kernel) ⟨by decide, fun q hq x dx hx hdx hne => ?_⟩⟩, fun v H2 ⟨hD2, hp2, hv, hE2, hT2, hb2⟩ => ?_⟩
          · have sQ : Same H1 (upd H1 q (.tup [])) := Same.new (Same.refl H1) hq
            refine ⟨x, dx, .jet, q, [], upd H1 q (.tup []), by rw [tx_jet]; rfl, hx, Same.new (Same.new (Same.refl _) hdx) (by rw [upd_ne (Ne.symm hne)]; exact hx), upd_same, upd_same, rfl, by show 0 < sizeLine; omega, fun H5 s5 f5 => ⟨rfl, ?_⟩⟩
            have s6 : Same H1 H5 := sQ.trans s5
            exact ⟨s6 _ _ hD1, hp1.ext (.of s6), f5, hE1.trans (.of s6), Tabs.same hT1 s6, s6 _ _ hb1⟩
          · have hl2 := hp2.len
            refine ⟨PInv K u H (i + 1), ⟨.ref D, rfl, .ref D, _, rfl, .inl ⟨_, SqL.of hD2, rfl⟩, _, _, rfl, rfl, _, rfl, ite2 (fun e => ?_) fun e => ?_⟩, fun _ _ z => z⟩
            · cases r with
              | nil =>
                rw [List.length_reverse, hl2] at e
                exact absurd (of_decide_eq_true e) (by show ¬ ((0 : Int) < ((0 : Nat) : Int)); decide)
              | cons p2 r2 =>
                obtain ⟨a2, ys, ws2, rfl, ha2, hf2, hr2⟩ := (show ∃ a xs zs, ws = .ref a :: zs ∧ H2 a = some (.tup xs) ∧ FtnL (cF K) H2 p2 xs ∧ PendR (cF K) H2 r2 zs from hp2)
                have hs2 : st' = (p2 ++ [.jet]) :: r2 ∧ fd' = none := by
                  have e3 : (st', fd') = ((p2 ++ [.jet]) :: r2, none) := hs'
                  exact Prod.mk.inj e3
                obtain ⟨rfl, rfl⟩ := hs2
                have hyl : ys.length + 1 ≤ sizeLine := by
                  have h1 := hf2.len
                  have h2 := length_le p2
                  have h3 : 1 + sizeL (p2 ++ [.jet]) + wtL r2 + 0 ≤ i + 1 := hwt2
                  rw [sizeL_app] at h3
                  omega
                refine ⟨.ref D, rfl, 1, rfl, D, _, _, _, rfl, rfl, SqL.of hD2, at_last _ _, v, rfl, sz1, fun q hq => ⟨a2, q, ys, [v], rfl, rfl, SqT.of (upd_old ha2 hq), SqT.of upd_same, hyl, fun hy => ⟨.ref D, rfl, 1, rfl, D, _, _, _, rfl, rfl, upd_old hD2 hq, ix_last (by simp), ?_⟩, fun _ z => absurd z (by simp), fun _ _ q2 hq2 => ⟨.ref D, rfl, 1, rfl, D, _, _, _, rfl, rfl, upd_old (upd_old hD2 hq) hq2, ix_last (by simp), ?_⟩⟩⟩
                · subst hy
                  rw [set_last]
                  exact pinvA hD0 hE2 hT2 (Same.new (Same.refl H2) hq) hD2 hf2 hr2 hv (by rw [upd_same]; rfl) hb2 hrun' hwt2
                · rw [set_last]
                  exact pinvA hD0 hE2 hT2 (Same.new (Same.new (Same.refl H2) hq) hq2) hD2 hf2 hr2 hv upd_same hb2 hrun' hwt2
            · cases r with
              | cons p2 r2 =>
                refine absurd (decide_eq_true ?_) e
                rw [List.length_reverse, hl2]
                show (0 : Int) < ((r2.length + 1 : Nat) : Int)
                omega
              | nil =>
                have hs2 : st' = [] ∧ fd' = some (.jet) := Prod.mk.inj hs'
                obtain ⟨rfl, rfl⟩ := hs2
                refine ⟨v, rfl, ev_kids hv fun b' xs' hb' hk' => ⟨_, _, rfl, ?_⟩⟩
                exact ⟨D, b', ws, [], some (.jet), _, _, _, rfl, hD0, hE2, hT2, hD2, hp2, ⟨xs', hb', fun t' z => by cases z; exact hk'⟩, hrun', hwt2⟩
        · exact absurd (by decide +kernel) e
    · obtain ⟨D, b, qs, st, fd, v4, v5, v6, rfl, hD0, hE, hT', hDq, hp', ⟨bx, hbx, hfd⟩, hrun, hwt⟩ := hP
      rw [hcz, List.drop_length] at hrun
      have e : (st, fd) = ([], some u.canon) := Option.some.inj hrun
      obtain ⟨rfl, rfl⟩ := Prod.mk.inj e
      exact ⟨.bl true, rfl, true, rfl, ite_f rfl ⟨.ref b, rfl, k b bx H' hE hT' hbx (hfd _ rfl)⟩⟩
def sp_init_read (K : PySem.W.Frag) : Sp := fun vs H Q _ => ∃ x dx u H0, vs = [.ref x, .str (tx u), .non] ∧ u.size ≤ 5000 ∧ u.dep ≤ 120 ∧ H0 x = none ∧ Same H0 H ∧ H x = some (.ins (cF K) dx []) ∧ LamX.Tabs (TT K) H ∧
  ∀ H', LamX.ExtN H0 H' → LamX.Tabs (TT K) H' → Ftn (cF K) H' u.canon (.ref x) → Q .non H'
theorem ok_Fountain___init___read  (T : Txt K mg base) : MakeD P w K mg base CX0 8 "Fountain" (cF K) ["self", "text", "branches"] [.non] (sp_init_read K) := by
  refine T.init.ok 0 (by decide) sc_Fountain___init__ (fun vs H Q E h => ?_) (fun f cdv A outer s H vs Q E hr h => ?_)
  · obtain ⟨x, dx, u, H0, rfl, _⟩ := h
    rfl
  · obtain ⟨x, dx, u, H0, rfl, h5, h12, hx0, s0, hx, hT, k⟩ := h
    have hcs := canon_size u
    have hcd := canon_dep u
    have hks := kids_size u.canon
    have hcc := canon_can u
    have nx : ∀ {a : Addr} {o : HO}, H0 a = some o → a ≠ x := fun e => ne_of_none e hx0
    refine ⟨_, (pss_cons (ps_set (i := 3) sc_Fountain___init__.nd rfl (by first | exact Or.inl rfl | exact Or.inr rfl) (pe_cmpR op_isN (pv 2) pe_non (nomark _)))
      (pss_cons (ps_via (ps_if (pt_val (pv 3))
        (pss_cons (ps_set (i := 2) sc_Fountain___init__.nd rfl (by first | exact Or.inl rfl | exact Or.inr rfl) (pe_callD (ok_parsed T) (hr.mono (by decide)) (by rfl) pass0 (pa_cons (pv 1) pa_nil)))
        (pss_one (ps_set (i := 1) sc_Fountain___init__.nd rfl (by first | exact Or.inl rfl | exact Or.inr rfl) (pe_via (pe_ifExp (pt_cmpR op_eq (pv 1) (pe_gstr rfl T.gJET_TEXT) (nomark _)) (pe_gstr rfl T.gJET_TEXT) (pe_propD T.cls.c (ok_Fountain_text T) (hr.mono (by decide)) pass0 (pe_callD (ok_made T) (hr.mono (by decide)) (by rfl) pass0 (pa_cons (pv 2) pa_nil)) rfl))))))
        pss_nil))
      (pss_cons (ps_fld (pv 0) (pv 1) (by rfl))
      (pss_cons (ps_fld (pv 0) (pv 2) (by rfl))
      (pss_cons (ps_fld (pv 0) (pe_via (pe_ifExp (pt_cmpR op_eq (pv 1) (pe_gstr rfl T.gJET_TEXT) (nomark _)) (pe_tup (pa_cons pe_int (pa_cons pe_int (pa_cons pe_int (pa_cons pe_int (pa_cons pe_int pa_nil)))))) (pe_callD (ok_basin_numbers T) (hr.mono (by decide)) (by rfl) pass0 (pa_cons (pv 2) pa_nil)))) (by rfl))
      (pss_one (ps_via (ps_if (pt_val (pv 3))
        (pss_one (ps_expr (pe_callD (ok_check_numbers T) (hr.mono (by decide)) (by rfl) pass0 (pa_cons (pe_fld (pv 0) rfl) pa_nil))))
        pss_nil)))))))), ?_⟩
    refine ⟨.non, rfl, rfl, fun σ' H1 => ∃ b xs, σ' = [some (.ref x), some (.str (tx u.canon)), some (.ref b), some (.bl true)] ∧ LamX.ExtN H H1 ∧ LamX.Tabs (TT K) H1 ∧ H1 x = some (.ins (cF K) dx []) ∧ H1 b = some (.tup xs) ∧ FtnL (cF K) H1 u.canon.kids xs,
      ⟨_, rfl, _, rfl, ite_t rfl ⟨.str (tx u), rfl, u, rfl, by omega, hT, fun b xs H1 hE hT1 hb hk => ?_⟩⟩, fun σ' H1 hR => ?_⟩
    · refine ⟨fun v H2 => v = .str (tx u.canon) ∧ LamX.ExtN H1 H2 ∧ LamX.Tabs (TT K) H2, ⟨.str (tx u), rfl, rfl, _, rfl, ite2 (fun e => ?_) fun e => ?_⟩, fun v H2 ⟨ev, e2, hT2⟩ => ?_⟩
      · have et : u = .jet := tx_inj ((V.str.inj (of_decide_eq_true e)).trans tx_jet.symm)
        subst et
        exact ⟨by rw [← tx_jet]; rfl, LamX.ExtN.refl _, hT1⟩
      · refine ⟨.ref b, rfl, b, xs, u.canon.kids, rfl, .inr (SqT.of hb), hk, by omega, hT1, fun w H2 e1 e2 e3 => ev_prop e3 ⟨?_, e1, e2⟩⟩
        cases u with
        | jet => exact absurd (decide_eq_true (by rw [tx_jet])) e
        | bas l =>
          have ec : (JW.T.bas l).canon = .bas (sortT (l.map JW.T.canon)) := canon_bas l
          rw [ec]
          show V.str (tx (.bas (sortT (sortT (l.map JW.T.canon))))) = _
          rw [sortT_of (sortT_srt _)]
      · subst ev
        exact ⟨b, xs, rfl, hE.trans e2, hT2, e2 _ _ (hE _ _ hx fun ps z => by cases z) (fun ps z => by cases z), e2 _ _ hb (fun ps z => by cases z), hk.ext e2⟩
    obtain ⟨b, xs, rfl, hE1, hT1, hx1, hb1, hk1⟩ := hR
    have nbx : b ≠ x := ne_of hb1 hx1 fun z => by cases z
    have hl1 := hk1.len
    have hll := length_le u.canon.kids
    have hsl := sizeLine_eq
    have hD2 : ∀ o1 o2 : HO, ExtD x H1 (upd (upd H1 x o1) x o2) := fun o1 o2 => ExtD.put (ExtD.put (ExtD.refl x H1))
    have tT2 : ∀ (d1 d2 : Addr) (f1 f2 : List (Str × V)), LamX.Tabs (TT K) (upd (upd H1 x (.ins (cF K) d1 f1)) x (.ins (cF K) d2 f2)) := fun d1 d2 f1 f2 => Tabs.putI (Tabs.putI hT1 hx1) upd_same
    refine ⟨.str (tx u.canon), rfl, .ref x, rfl, x, _, dx, _, rfl, hx1, T.cls.c, T.cls.nw, by decide, .ref b, rfl, .ref x, rfl, x, _, dx, _, rfl, upd_same, T.cls.c, T.cls.nb, fl_l1,
      fun v H' => ∃ n, v = .ref n ∧ ExtD x H1 H' ∧ LamX.Tabs (TT K) H' ∧ H' x = some (.ins (cF K) dx (putF "branches" (.ref b) (putF "written" (.str (tx u.canon)) []))) ∧ H' n = some (.tup (nums u.canon)), ⟨_, rfl, rfl, _, rfl, ite2 (fun e => ?_) fun e => ?_⟩, fun v H' hv => ?_⟩
    · have et : u.canon = .jet := tx_inj ((V.str.inj (of_decide_eq_true e)).trans tx_jet.symm)
      refine ⟨sz5, fun p hp => ⟨p, rfl, ExtD.trans (hD2 _ _) (.of (.of (Same.new (Same.refl _) hp))), Tabs.same (tT2 _ _ _ _) (Same.new (Same.refl _) hp), upd_old upd_same hp, ?_⟩⟩
      rw [upd_same, et]
      rfl
    · cases hu : u.canon with
      | jet => exact absurd (decide_eq_true (by rw [hu, tx_jet])) e
      | bas l =>
        rw [hu] at hk1 hl1 hll hks hcs
        refine ⟨.ref b, rfl, b, xs, l, rfl, hD2 _ _ _ _ nbx hb1 (fun ps z => by cases z), ftnL_extX hx1 (by decide) (hD2 _ _) _ _ hk1, ?_, fun H' p s e => ⟨p, rfl, ExtD.trans (hD2 _ _) (.of (.of s)), Tabs.same (tT2 _ _ _ _) s, s _ _ upd_same, e⟩⟩
        have h1 : xs.length = l.length := hl1
        have h2 : l.length ≤ sizeL l := hll
        have h3 : sizeL l ≤ (JW.T.bas l).size := hks
        omega
    · obtain ⟨n, rfl, eD, tT, e1, e2⟩ := hv
      have nn : n ≠ x := ne_of e2 e1 fun z => by cases z
      refine ⟨.ref x, rfl, x, _, dx, _, rfl, e1, T.cls.c, T.cls.nn, fl_l2, fun _ HF => HF = upd H' x (.ins (cF K) dx (putF "numbers" (.ref n) (putF "branches" (.ref b) (putF "written" (.str (tx u.canon)) [])))), ⟨.bl true, rfl, _, rfl, ite_t rfl ⟨.ref x, rfl, x, _, dx, _, _, rfl, upd_same, T.cls.c, T.cls.nn, by rw [fl_put]; exact fl_n, n, u.canon, rfl, by rw [upd_ne nn]; exact e2, by omega, by omega, rfl⟩⟩, fun _ HF eF => ?_⟩
      subst eF
      refine k _ (fun a o e nt => ?_) (Tabs.putI tT e1) (ftn_iff.mpr ⟨x, dx, b, n, xs, rfl, by rw [upd_same, fl_put], ?_, by rw [upd_ne nn]; exact e2, ftnL_extX hx1 (by decide) (ExtD.put eD) _ _ hk1⟩)
      · rw [upd_ne (nx e)]
        exact eD _ _ (nx e) (hE1 _ _ (s0 _ _ e) nt) nt
      · rw [upd_ne nbx]
        exact eD _ _ nbx hb1 (fun ps z => by cases z)
def aspRead : ASp
  | [.str z], L, Q, _ => ∃ u : T, z = tx u ∧ u.size ≤ 5000 ∧ u.dep ≤ 120 ∧ Q (.tree u.canon) L
  | _, _, _, _ => False
theorem mkA_read {K : PySem.W.Frag} {scr : Option (Addr × List Int)} : ∀ ds vs H L R Q, RepL (cA K scr) H ds vs → Good (cA K scr) L H → aspRead ds L R anyX → Pq (cA K scr) H R Q → ∀ x dx, H x = none → H dx = none → dx ≠ x →
    sp_init_read K (.ref x :: (vs ++ [.non])) (upd (upd H dx (.own x)) x (.ins (cF K) dx [])) (fun v H2 => v = .non ∧ Q (.ref x) H2) (fun _ _ _ => True) := fun ds vs H L R Q r g h pq x dx hx hdx ne => by
  unfold aspRead at h
  split at h
  · obtain ⟨u, rfl, h1, h2, h⟩ := h
    obtain ⟨v, rfl, r1⟩ := repL_one r
    cases rep_str.mp r1
    have s : Same H (upd (upd H dx (.own x)) x (.ins (cF K) dx [])) := Same.new (Same.new (Same.refl H) hdx) (by rw [upd_ne (Ne.symm ne)]; exact hx)
    exact ⟨x, dx, u, H, rfl, h1, h2, hx, s, upd_same, Tabs.same g.tabs s, fun H' e' T' hf => ⟨rfl, pq _ _ _ H' h (.extN e') (g.extN T' e') (rep_tree.mpr hf)⟩⟩
  · exact h.elim

def asp__law_made_d : ASp
  | [.ref d, x], L, Q, _ => ∃ g, SkAt L d g ∧ ∃ t : JW.T, x = dT t ∧ Can t ∧ t.dep ≤ 60 ∧ t.size ≤ 400 ∧ ∀ ns, Q (.tree t) (sput L g (intsM ns))
  | _, _, _, _ => False
theorem okA__law_made_d  (T : Txt K mg base) {scr : Option (Addr × List Int)} : CallD P w K mg base CX0 81 "_law_made" ["_law_sack_here", "_law_tree_here"] [] (spA (cA K scr) (asp__law_made_d)) := by
  refine T.d__law_made.okA sc__law_made ?len (fun f cdv A outer s H E hr => (as_one (as_ret (ae_make (dd := []) (asp := aspRead) (ok_Fountain___init___read T) (hr.mono (by decide)) (by rfl) (aa_cons (ae_ix (ae_lst (aa_cons (ae_call (okA__law_text_d T 61) (hr.mono (by decide)) (by rfl) (aa_cons (av 1) aa_nil)) (aa_cons (ae_call (okA__law_loose_d T 61) (hr.mono (by decide)) (by rfl) (aa_cons (av 0) (aa_cons (av 1) aa_nil))) aa_nil))) (ae_call (okA__law_take T) (hr.mono (by decide)) (by rfl) (aa_cons (av 0) (aa_cons ae_int aa_nil))) (fun _ _ => rfl)) aa_nil) mkA_read)))) ?vc
  case len =>
    intro ds L R RX h
    unfold asp__law_made_d at h
    split at h <;> first | rfl | exact h.elim
  case vc =>
    intro ds L R RX h
    unfold asp__law_made_d at h
    split at h
    · rename_i d x
      obtain ⟨g, hS, t, rfl, hc, hdp, hz, h⟩ := h
      refine ⟨t, rfl, by omega, hdp, hz, g, hS, t, rfl, by omega, hdp, hz, fun u ns cu => ⟨by show (2 : Nat) ≤ sizeLine; decide, fun q hq => ?_⟩⟩
      have S1 := (hS.at ns).new (m := .lst [.str (tx t), .str (tx u)]) hq
      have k1 : Sk g L (sput (sput L g (intsM ns)) q (.lst [.str (tx t), .str (tx u)])) := ((Sk.refl g L).at).new hq
      have q1 : sput (sput L g (intsM ns)) q (.lst [.str (tx t), .str (tx u)]) q = some (.lst [.str (tx t), .str (tx u)]) := sput_same
      obtain ⟨nqd, nqg⟩ := (hS.at ns).ne hq
      generalize sput (sput L g (intsM ns)) q (.lst [.str (tx t), .str (tx u)]) = L1 at S1 k1 q1 ⊢
      refine ⟨g, S1, by decide, by decide, fun x ns2 x0 x1 => ?_⟩
      have q2 : sput L1 g (intsM ns2) q = some (.lst [.str (tx t), .str (tx u)]) := by rw [sput_ne nqg]; exact q1
      have hsz : u.size = t.size := by rw [← canon_size u, cu, canon_size]
      obtain ⟨z, ez, cz, sz⟩ : ∃ z : JW.T, atI [D.str (tx t), D.str (tx u)] x = some (.str (tx z)) ∧ z.canon = t ∧ z.size = t.size := by
        have hx : x = 0 ∨ x = 1 := by omega
        rcases hx with rfl | rfl
        · exact ⟨t, rfl, can_canon t hc, rfl⟩
        · exact ⟨u, rfl, by rw [cu, can_canon t hc], hsz⟩
      have hdz : z.dep = t.dep := by rw [← cz, canon_dep]
      refine ⟨_, _, q2, ez, z, rfl, by omega, by omega, ?_⟩
      rw [cz]
      exact k1.at.end (S1.at ns2) fun ns => h ns
    · exact h.elim
def asp__law_jets_d (n : Nat) : ASp
  | [x], L, Q, _ => ∃ t : JW.T, x = dT t ∧ t.dep < n ∧ t.dep ≤ 60 ∧ t.size ≤ 400 ∧ Q (.int (t.jts : Nat)) L
  | _, _, _, _ => False
theorem stepA__law_jets_d  (T : Txt K mg base) {scr : Option (Addr × List Int)} (n : Nat) (ih : CallD P w K mg base CX0 (3 + n) "_law_jets" ["_law_tree_here"] [] (spA (cA K scr) (asp__law_jets_d n))) : CallD P w K mg base CX0 (3 + n + 1) "_law_jets" ["_law_tree_here"] [] (spA (cA K scr) (asp__law_jets_d (n + 1))) := by
  refine T.d__law_jets.okA sc__law_jets ?len (fun f cdv A outer s H E hr => (as_one (as_ret (ae_if (at_cmp (aop_eq (okF_eq T) (hr.mono (by omega)) hr.units) (av 0) ae_str (nomark _)) ae_int (ae_b (acb_sum rfl) (by rfl) T.n_sum (by decide +kernel) (aa_cons (ae_lc (own := [("_law_branch", 1)]) (by rfl) sc__law_jets.nd (ai_tup (av 0)) (blkOk_by (by kernel_rfl)) (tgOk_name (by decide)) (fun _ _ _ _ _ => pg_name (i := 1) sc__law_jets.nd rfl (by first | exact Or.inl rfl | exact Or.inr rfl)) (fun _ _ _ _ _ => (ae_call ih (hr.mono (by omega)) (by rfl) (aa_cons (av 1) aa_nil)))) aa_nil)))))) ?vc
  case len =>
    intro ds L R RX h
    unfold asp__law_jets_d at h
    split at h <;> first | rfl | exact h.elim
  case vc =>
    intro ds L R RX h
    unfold asp__law_jets_d at h
    split at h
    rotate_left
    · exact h.elim
    rename_i x
    obtain ⟨t, rfl, hn, hdp, hz, h⟩ := h
    have hsl := sizeLine_eq
    refine eqD_oD (by omega) (ite2 (fun e => ?_) (fun e => ?_))
    · have e1 : t = .jet := by simpa using e
      subst e1
      exact ret_of h
    cases t with
    | jet => exact absurd rfl e
    | bas l =>
      have hs : (JW.T.bas l).size = 1 + sizeL l := rfl
      have hsd : (JW.T.bas l).dep = 1 + depL l := rfl
      have hll := length_le l
      have hl0 : ([] : List D).length + l.length ≤ sizeLine := by
        show 0 + l.length ≤ _
        omega
      rw [dT_bas]
      refine fun p hp => ?_
      refine comp_mapA dT (fun u => D.int (u.jts : Nat)) (fun _ => trivial) l [] hl0 (fun u hu l2 k hk => ?_) ?_
      · have h1 := size_mem hu
        have h1d := dep_lt hu
        exact ⟨rfl, u, rfl, by omega, by omega, by omega, hk⟩
      refine ⟨l.map fun u => ((u.jts : Nat) : Int), by rw [sput_same, List.nil_append, List.map_map]; rfl, ?_⟩
      have eS : (l.map fun u => ((u.jts : Nat) : Int)).sum = (jtsL l : Nat) := by
        rw [jtsL_sum, ← nI_sum, List.map_map]
        rfl
      rw [eS]
      exact ret_sub h ((SubS.refl L).new hp)
theorem okA__law_jets_d  (T : Txt K mg base) {scr : Option (Addr × List Int)} (n : Nat) : CallD P w K mg base CX0 (3 + n) "_law_jets" ["_law_tree_here"] [] (spA (cA K scr) (asp__law_jets_d n)) := callD_rec (sp := fun n => spA (cA K scr) (asp__law_jets_d n)) T.d__law_jets (fun vs H Q E ⟨ds, L, R, RX, _, _, h, _⟩ => by
    unfold asp__law_jets_d at h
    split at h
    · obtain ⟨t, _, z, _⟩ := h
      exact absurd z (Nat.not_lt_zero _)
    · exact h.elim
    ) (stepA__law_jets_d T) n
def asp__law_first_way_d : ASp
  | [x], L, Q, _ => ∃ t : JW.T, x = dT t ∧ t.jts ≠ 0 ∧ t.dep ≤ 60 ∧ t.size ≤ 400 ∧ ∀ r, L r = none → Q (.ref r) (sput L r (.lst ((wayP t ++ [JW.T.jet]).map dT)))
  | _, _, _, _ => False
theorem okA__law_first_way_d  (T : Txt K mg base) {scr : Option (Addr × List Int)} : CallD P w K mg base CX0 77 "_law_first_way" ["_law_tree_here"] [] (spA (cA K scr) (asp__law_first_way_d)) := by
  refine T.d__law_first_way.okA sc__law_first_way ?len (fun f cdv A outer s H E hr => (as_cons (as_set (i := 1) sc__law_first_way.nd rfl (by first | exact Or.inl rfl | exact Or.inr rfl) (ae_lst (aa_cons (av 0) aa_nil)))
      (as_cons (as_while PassesOwn.never (at_cmp (aop_ne T.cls (okF_eq T) (hr.mono (by decide)) hr.units) (ae_ix (av 1) (ae_neg ae_int) (fun _ _ => rfl)) ae_str (nomark _))
        (as_one (as_expr (ae_ml PySem.F.plainAttrs_list PySem.F.slot_list_append PySem.F.type_list_append mt_append low_append (av 1) (aa_cons (ae_ix (ae_lcIf (own := [("_law_branch", 2)]) (by rfl) sc__law_first_way.nd (ai_tup (ae_ix (av 1) (ae_neg ae_int) (fun _ _ => rfl))) (blkOk_by (by kernel_rfl)) (tgOk_name (by decide)) (fun _ _ _ _ _ => pg_name (i := 2) sc__law_first_way.nd rfl (by first | exact Or.inl rfl | exact Or.inr rfl)) (fun _ _ _ _ _ => (at_cmp aop_gt (ae_call (okA__law_jets_d T 61) (hr.mono (by decide)) (by rfl) (aa_cons (av 2) aa_nil)) ae_int (nomark _))) (fun _ _ _ _ _ => (av 2))) ae_int (fun _ _ => rfl)) aa_nil)))))
      (as_one (as_ret (av 1)))))) ?vc
  case len =>
    intro ds L R RX h
    unfold asp__law_first_way_d at h
    split at h <;> first | rfl | exact h.elim
  case vc =>
    intro ds L R RX h
    unfold asp__law_first_way_d at h
    split at h
    · rename_i x
      obtain ⟨t, rfl, ht, hdp, hz, h⟩ := h
      have hsl := sizeLine_eq
      refine ⟨by show (1 : Nat) ≤ sizeLine; omega, fun P hP => ?_⟩
      refine ⟨fun m env L1 => ∃ (A : List JW.T) (u : JW.T) (x2 : Option D), env = [some (dT t), some (.ref P), x2] ∧ L1 P = some (.lst ((A ++ [u]).map dT)) ∧ SubS L L1 ∧ u.jts ≠ 0 ∧ A.length + u.size ≤ t.size ∧ u.dep ≤ t.dep ∧ wayP t ++ [JW.T.jet] = A ++ (wayP u ++ [JW.T.jet]) ∧ m = u.size, ⟨_, [], t, none, rfl, sput_same, (SubS.refl L).new hP, ht, by simp, Nat.le_refl _, rfl, rfl⟩, ?_⟩
      rintro m env L1 ⟨A, u, x2, rfl, p1, sb, hu, hsz, hud, hw, em⟩
      refine ⟨_, _, p1, atI_neg1 A u, eqD_oD (by omega) (ite2 (fun e => ?_) (fun e => ?_))⟩
      rotate_left
      · have eu : u = .jet := by simpa using e
        subst eu
        have e2 : wayP t ++ [JW.T.jet] = A ++ [JW.T.jet] := hw
        refine ret_sub (h P hP) ?_
        rw [e2]
        exact sb.mine p1
      have nj : u ≠ .jet := by simpa using e
      obtain ⟨l, el⟩ : ∃ l, u = .bas l := by
        cases u with
        | jet => exact absurd rfl nj
        | bas l => exact ⟨l, rfl⟩
      obtain ⟨v, hv, hvj, hvw, C, B, hl, hC⟩ := way_open hu el
      subst el
      have hs : (JW.T.bas l).size = 1 + sizeL l := rfl
      have hll := length_le l
      have hvs := size_mem hv
      refine ⟨⟨P, _, rfl, p1⟩, _, _, p1, atI_neg1 A (.bas l), ?_⟩
      rw [dT_bas]
      refine fun D hD => ?_
      have hl0 : ([] : List AL.D).length + l.length ≤ sizeLine := by
        show 0 + l.length ≤ _
        omega
      refine comp_filt dT dT (fun b => decide (0 < b.jts)) (fun _ => trivial) l [] hl0 (fun b hb l2 k hk => ?_) ?_
      · have h1 := size_mem hb
        have h1d := dep_lt hb
        refine ⟨rfl, b, rfl, by omega, by omega, by omega, ?_⟩
        refine ite2 (fun e2 => ?_) (fun e2 => ?_)
        · have : 0 < b.jts := by
            have := of_decide_eq_true e2
            omega
          rw [decide_eq_true this] at hk
          exact hk
        · have : ¬ 0 < b.jts := fun z => e2 (decide_eq_true (by omega))
          rw [decide_eq_false this] at hk
          exact hk
      have hf : (l.filter fun b => decide (0 < b.jts)) = v :: B.filter fun b => decide (0 < b.jts) := by
        rw [hl, List.filter_append, List.filter_eq_nil_iff.mpr fun c hc => by rw [hC c hc]; decide, List.filter_cons_of_pos (by rw [decide_eq_true (Nat.pos_of_ne_zero hvj)])]
        rfl
      refine ⟨_, dT v, sput_same, by rw [List.nil_append, hf]; exact atI_nat (j := 0) rfl, _, sput_old p1 hD, by rw [List.length_map, List.length_append]; show A.length + 1 < sizeLine; omega, ?_⟩
      refine ⟨v.size, by omega, A ++ [JW.T.bas l], v, x2, rfl, by rw [sput_same, List.map_append (l₂ := [v])]; rfl, (sb.new hD).put hP, hvj, by rw [List.length_append]; show A.length + 1 + _ ≤ _; omega, by have := dep_lt hv; omega, ?_, rfl⟩
      rw [hw, hvw, List.append_assoc]
      rfl
    · exact h.elim
def asp__law_bare_d (n : Nat) : ASp
  | [x, y], L, Q, _ => ∃ t b : JW.T, x = dT t ∧ y = dT b ∧ t.dep < n ∧ t.dep ≤ 60 ∧ t.size ≤ 400 ∧ b.dep ≤ 60 ∧ Q (bareD (baT b t)) L
  | _, _, _, _ => False
theorem stepA__law_bare_d  (T : Txt K mg base) {scr : Option (Addr × List Int)} (n : Nat) (ih : CallD P w K mg base CX0 (4 + n) "_law_bare" ["_law_tree_here", "_law_part"] [] (spA (cA K scr) (asp__law_bare_d n))) : CallD P w K mg base CX0 (4 + n + 1) "_law_bare" ["_law_tree_here", "_law_part"] [] (spA (cA K scr) (asp__law_bare_d (n + 1))) := by
  refine T.d__law_bare.okA sc__law_bare ?len (fun f cdv A outer s H E hr => (as_cons (as_if (at_cmp (aop_eq (okF_eq T) (hr.mono (by omega)) hr.units) (av 0) (av 1) (nomark _))
        (as_one (as_ret ae_non))
        as_nil)
      (as_cons (as_if (at_cmp (aop_eq (okF_eq T) (hr.mono (by omega)) hr.units) (av 0) ae_str (nomark _))
        (as_one (as_ret (ae_tup aa_nil)))
        as_nil)
      (as_cons (as_for PassesOwn.never rfl (ai_enumT (by rfl) T.n_enumerate (aa_cons (av 0) aa_nil)) (ag_tup (n := 2) rfl (ags_cons (ag_name (i := 2) sc__law_bare.nd rfl (by first | exact Or.inl rfl | exact Or.inr rfl)) (ags_cons (ag_name (i := 3) sc__law_bare.nd rfl (by first | exact Or.inl rfl | exact Or.inr rfl)) ags_nil)) (fun _ _ _ _ z => agNs_len (js := [2, 3]) z))
        (as_cons (as_set (i := 4) sc__law_bare.nd rfl (by first | exact Or.inl rfl | exact Or.inr rfl) (ae_call ih (hr.mono (by omega)) (by rfl) (aa_cons (av 3) (aa_cons (av 1) aa_nil))))
        (as_one (as_if (at_cmp aop_isnot (av 4) ae_non (nomark _))
          (as_one (as_ret (ae_op aop_add (ae_tup (aa_cons (av 2) aa_nil)) (av 4))))
          as_nil))))
      (as_one (as_ret ae_non)))))) ?vc
  case len =>
    intro ds L R RX h
    unfold asp__law_bare_d at h
    split at h <;> first | rfl | exact h.elim
  case vc =>
    intro ds L R RX h
    unfold asp__law_bare_d at h
    split at h
    rotate_left
    · exact h.elim
    obtain ⟨t, b, rfl, rfl, hn, hdp, hz, hb, h⟩ := h
    rw [baT_eq] at h
    have hsl := sizeLine_eq
    refine eqD_treeD (by omega) (by omega) (ite2 (fun e => ?_) (fun e => ?_))
    · rw [if_pos (by simpa using e)] at h
      exact ret_of h
    rw [if_neg (by simpa using e)] at h
    refine eqD_oD (by omega) (ite2 (fun e2 => ?_) (fun e2 => ?_))
    · rw [if_pos (by simpa using e2)] at h
      exact ⟨Nat.zero_le _, ret_of h⟩
    have ne : t ≠ .jet := by simpa using e2
    rw [if_neg ne] at h
    cases t with
    | jet => exact absurd rfl ne
    | bas l =>
      have hs : (JW.T.bas l).size = 1 + sizeL l := rfl
      have hsd : (JW.T.bas l).dep = 1 + depL l := rfl
      have hll := length_le l
      rw [dT_bas]
      have hkz : (l.map dT).length = l.length := List.length_map _
      refine loop_k (enumD (l.map dT)) (fun i env L' => L' = L ∧ baL b 0 l = baL b i (l.drop i) ∧ ∃ x2 x3 x4 : Option D, env = [some (.tup (l.map dT)), some (dT b), x2, x3, x4]) (fun _ _ _ _ _ => trivial) ?step ?fin _ _ ⟨rfl, rfl, _, _, _, rfl⟩
      case fin =>
        rintro env L' ⟨rfl, eb, x3, x4, x5, rfl⟩
        have h2 : R (bareD (baL b 0 l)) L' := h
        rw [eb, enumD_len, hkz, List.drop_length] at h2
        exact ret_of h2
      case step =>
        rintro i d env L' nn hi kn ⟨rfl, eb, x2, x3, x4, rfl⟩
        have hil : i < l.length := by
          have := (List.getElem?_eq_some_iff.mp hi).1
          rwa [enumD_len, hkz] at this
        have ed : d = .tup [.int (i : Nat), dT l[i]] := by
          have e3 := enumD_get (l := l.map dT) (i := i) (d := dT l[i]) (by rw [List.getElem?_map, List.getElem?_eq_getElem hil]; rfl)
          rw [hi] at e3
          exact Option.some.inj e3
        subst ed
        have hku := size_mem (List.getElem_mem hil)
        have hkd := dep_lt (List.getElem_mem hil)
        rw [List.drop_eq_getElem_cons hil] at eb
        have eb2 : baL b i (l[i] :: l.drop (i + 1)) = match baT b l[i] with | some p => some (i :: p) | none => baL b (i + 1) (l.drop (i + 1)) := rfl
        rw [eb2] at eb
        have h2 : R (bareD (baL b 0 l)) L' := h
        refine ⟨rfl, l[i], b, rfl, rfl, by omega, by omega, by omega, hb, ?_⟩
        cases eq : baT b l[i] with
        | none =>
          rw [eq] at eb
          exact ite_f (A := True) rfl (kn _ _ ⟨rfl, eb, _, _, _, rfl⟩)
        | some p =>
          rw [eq] at eb
          rw [eb] at h2
          have hp := baT_len b _ _ eq
          refine ite_t (B := True) rfl ⟨by show (1 : Nat) ≤ sizeLine; omega, ?_, ret_of ?_⟩
          · show 1 + (p.map _).length ≤ sizeLine
            rw [List.length_map]
            omega
          · exact h2
theorem okA__law_bare_d  (T : Txt K mg base) {scr : Option (Addr × List Int)} (n : Nat) : CallD P w K mg base CX0 (4 + n) "_law_bare" ["_law_tree_here", "_law_part"] [] (spA (cA K scr) (asp__law_bare_d n)) := callD_rec (sp := fun n => spA (cA K scr) (asp__law_bare_d n)) T.d__law_bare (fun vs H Q E ⟨ds, L, R, RX, _, _, h, _⟩ => by
    unfold asp__law_bare_d at h
    split at h
    · obtain ⟨t, b, _, _, z, _⟩ := h
      exact absurd z (Nat.not_lt_zero _)
    · exact h.elim
    ) (stepA__law_bare_d T) n
def asp__law_cut_d (n : Nat) : ASp
  | [x, y], L, Q, _ => ∃ t b : JW.T, x = dT t ∧ y = dT b ∧ t.dep < n ∧ t.dep ≤ 59 ∧ t.size ≤ 390 ∧ b.dep ≤ 60 ∧ Q (dT (cutA b t)) L
  | _, _, _, _ => False
theorem cutA_dep (b : JW.T) : ∀ t : JW.T, (cutA b t).dep ≤ t.dep := by
  refine T.ind' ?_ fun l ih => ?_
  · show (cutA b .jet).dep ≤ 0
    have : cutA b .jet = .jet := by cases b <;> rfl
    rw [this]
    exact Nat.le_refl _
  · rw [cutA_bas]
    split
    · exact Nat.zero_le _
    · show 1 + depL (sortT (l.map (cutA b))) ≤ 1 + depL l
      rw [depL_perm (sortT_perm _)]
      have go : ∀ l : List JW.T, (∀ t ∈ l, (cutA b t).dep ≤ t.dep) → depL (l.map (cutA b)) ≤ depL l := by
        intro l
        induction l with
        | nil => exact fun _ => Nat.le_refl _
        | cons t l ih =>
          intro h
          have h1 := h t List.mem_cons_self
          have h2 := ih fun u hu => h u (List.mem_cons_of_mem _ hu)
          show max (cutA b t).dep (depL (l.map (cutA b))) ≤ max t.dep (depL l)
          omega
      have := go l ih
      omega
theorem cutAL_dep (b : JW.T) : ∀ l : List JW.T, depL (l.map (cutA b)) ≤ depL l
  | [] => Nat.le_refl _
  | t :: l => by
    have h1 := cutA_dep b t
    have h2 := cutAL_dep b l
    show max (cutA b t).dep (depL (l.map (cutA b))) ≤ max t.dep (depL l)
    omega
theorem stepA__law_cut_d  (T : Txt K mg base) {scr : Option (Addr × List Int)} (n : Nat) (ih : CallD P w K mg base CX0 (74 + n) "_law_cut" ["_law_tree_here", "_law_part"] [] (spA (cA K scr) (asp__law_cut_d n))) : CallD P w K mg base CX0 (74 + n + 1) "_law_cut" ["_law_tree_here", "_law_part"] [] (spA (cA K scr) (asp__law_cut_d (n + 1))) := by
  refine T.d__law_cut.okA sc__law_cut ?len (fun f cdv A outer s H E hr => (as_cons (as_if (at_via (AW.pt (aw_or (at_cmp (aop_eq (okF_eq T) (hr.mono (by omega)) hr.units) (av 0) (av 1) (nomark _)) (aw_or1 (at_cmp (aop_eq (okF_eq T) (hr.mono (by omega)) hr.units) (av 0) ae_str (nomark _))))))
        (as_one (as_ret ae_str))
        as_nil)
      (as_one (as_ret (ae_call (okA__law_basin_d T) (hr.mono (by omega)) (by rfl) (aa_cons (ae_lc (own := [("_law_branch", 2)]) (by rfl) sc__law_cut.nd (ai_tup (av 0)) (blkOk_by (by kernel_rfl)) (tgOk_name (by decide)) (fun _ _ _ _ _ => pg_name (i := 2) sc__law_cut.nd rfl (by first | exact Or.inl rfl | exact Or.inr rfl)) (fun _ _ _ _ _ => (ae_call ih (hr.mono (by omega)) (by rfl) (aa_cons (av 2) (aa_cons (av 1) aa_nil))))) aa_nil)))))) ?vc
  case len =>
    intro ds L R RX h
    unfold asp__law_cut_d at h
    split at h <;> first | rfl | exact h.elim
  case vc =>
    intro ds L R RX h
    unfold asp__law_cut_d at h
    split at h
    rotate_left
    · exact h.elim
    obtain ⟨t, b, rfl, rfl, hn, hdp, hz, hb, h⟩ := h
    have hsl := sizeLine_eq
    refine ⟨fun k L2 => L2 = L ∧ k = decide (t = b ∨ t = .jet), eqD_treeD (by omega) (by omega) (ite2 (fun e => ⟨rfl, ?_⟩) (fun e => eqD_oD (by omega) ⟨rfl, ?_⟩)), fun k L2 ⟨e1, e2⟩ => ?_⟩
    · have e' : t = b := by simpa using e
      rw [decide_eq_true (.inl e')]
    · have e' : t ≠ b := by simpa using e
      rw [Bool.false_xor]
      exact decide_eq_decide.mpr ⟨.inr, fun z => z.resolve_left e'⟩
    subst e1
    refine ite2 (fun e => ?_) (fun e => ?_)
    · rw [e2] at e
      have e3 : cutA b t = .jet := by
        rcases of_decide_eq_true e with z | z
        · rw [z, cutA_self]
        · rw [z]
          rfl
      rw [e3, dT_jet] at h
      exact ret_of h
    rw [e2] at e
    have hne : ¬ (t = b ∨ t = .jet) := fun z => e (decide_eq_true z)
    cases t with
    | jet => exact absurd (.inr rfl) hne
    | bas l =>
      have hs : (JW.T.bas l).size = 1 + sizeL l := rfl
      have hsd : (JW.T.bas l).dep = 1 + depL l := rfl
      have hll := length_le l
      rw [cutA_bas, if_neg fun z => hne (.inl z)] at h
      rw [dT_bas]
      refine fun p hp => ?_
      have hl0 : ([] : List D).length + l.length ≤ sizeLine := by
        show 0 + l.length ≤ _
        omega
      refine comp_mapA dT (fun u => dT (cutA b u)) (fun _ => trivial) l [] hl0 (fun u hu l2 k hk => ?_) ?_
      · have h1 := size_mem hu
        have h1d := dep_lt hu
        exact ⟨rfl, u, b, rfl, rfl, by omega, by omega, by omega, hb, hk⟩
      have hsm := sizeL_map_le (l := l) (f := cutA b) fun u _ => cutA_size b u
      have hcd := cutAL_dep b l
      refine ⟨l.map (cutA b), by rw [sput_same, List.nil_append, List.map_map]; rfl, by omega, by omega, ?_⟩
      exact ret_sub h ((SubS.refl _).new hp)
theorem okA__law_cut_d  (T : Txt K mg base) {scr : Option (Addr × List Int)} (n : Nat) : CallD P w K mg base CX0 (74 + n) "_law_cut" ["_law_tree_here", "_law_part"] [] (spA (cA K scr) (asp__law_cut_d n)) := callD_rec (sp := fun n => spA (cA K scr) (asp__law_cut_d n)) T.d__law_cut (fun vs H Q E ⟨ds, L, R, RX, _, _, h, _⟩ => by
    unfold asp__law_cut_d at h
    split at h
    · obtain ⟨t, b, _, _, z, _⟩ := h
      exact absurd z (Nat.not_lt_zero _)
    · exact h.elim
    ) (stepA__law_cut_d T) n
theorem way_dep : ∀ t : JW.T, t.jts ≠ 0 → ∀ e ∈ wayP t, e.dep ≤ t.dep := by
  refine T.ind' (fun _ e he => absurd he List.not_mem_nil) fun l ih h e he => ?_
  obtain ⟨u, hu, h3, h4, _⟩ := way_open h rfl
  rw [h4] at he
  rcases List.mem_cons.mp he with z | z
  · rw [z]
    exact Nat.le_refl _
  · have q := ih u hu h3 e z
    have := dep_lt hu
    omega
def asp__law_word_d : ASp
  | [x], L, Q, _ => ∃ t : JW.T, x = dT t ∧ Op t ∧ t.dep ≤ 58 ∧ t.size ≤ 390 ∧ ∀ r, L r = none → Q (.ref r) (sput L r (.lst (t.word.map dT)))
  | _, _, _, _ => False
theorem okA__law_word_d  (T : Txt K mg base) {scr : Option (Addr × List Int)} : CallD P w K mg base CX0 151 "_law_word" ["_law_tree_here"] [] (spA (cA K scr) (asp__law_word_d)) := by
  refine T.d__law_word.okA sc__law_word ?len (fun f cdv A outer s H E hr => (as_cons (as_set (i := 1) sc__law_word.nd rfl (by first | exact Or.inl rfl | exact Or.inr rfl) (ae_lst aa_nil))
      (as_cons (as_while PassesOwn.never (at_cmp (aop_ne T.cls (okF_eq T) (hr.mono (by decide)) hr.units) (av 0) ae_str (nomark _))
        (as_cons (as_setLcIf (own := [("_law_piece", 3)]) (i := 2) (by rfl) sc__law_word.nd rfl rfl (sw_true rfl rfl rfl (by decide +kernel)) (ai_list (ae_sl (ae_call (okA__law_first_way_d T) (hr.mono (by decide)) (by rfl) (aa_cons (av 0) aa_nil)) ao_none (ao_some (ae_neg ae_int)))) (blkOk_by (by kernel_rfl)) (tgOk_name (by decide)) (fun _ _ _ _ _ => pg_name (i := 3) sc__law_word.nd rfl (by first | exact Or.inl rfl | exact Or.inr rfl)) (fun _ _ _ _ _ => (at_cmp aop_is (ae_call (okA__law_bare_d T 61) (hr.mono (by decide)) (by rfl) (aa_cons (av 0) (aa_cons (av 3) aa_nil))) ae_non (nomark _))) (fun _ _ _ _ _ => (av 3)))
        (as_cons (as_set (i := 1) sc__law_word.nd rfl (by first | exact Or.inl rfl | exact Or.inr rfl) (ae_op aop_add (ae_lst (aa_cons (ae_ix (av 2) (ae_neg ae_int) (fun _ _ => rfl)) aa_nil)) (av 1)))
        (as_one (as_set (i := 0) sc__law_word.nd rfl (by first | exact Or.inl rfl | exact Or.inr rfl) (ae_call (okA__law_cut_d T 61) (hr.mono (by decide)) (by rfl) (aa_cons (av 0) (aa_cons (ae_ix (av 2) (ae_neg ae_int) (fun _ _ => rfl)) aa_nil))))))))
      (as_one (as_ret (av 1)))))) ?vc
  case len =>
    intro ds L R RX h
    unfold asp__law_word_d at h
    split at h <;> first | rfl | exact h.elim
  case vc =>
    intro ds L R RX h
    unfold asp__law_word_d at h
    split at h
    · rename_i x
      obtain ⟨t, rfl, ht, hdp, hz, h⟩ := h
      have hsl := sizeLine_eq
      refine ⟨Nat.zero_le _, fun F hF => ?_⟩
      refine ⟨fun m env L1 => ∃ (u : JW.T) (es : List JW.T) (F : Addr) (x2 x3 : Option D), env = [some (dT u), some (.ref F), x2, x3] ∧ L1 F = some (.lst (es.map dT)) ∧ SubS L L1 ∧ L F = none ∧ Op u ∧ u.dep ≤ 58 ∧ u.size ≤ 390 ∧ t.word = u.word ++ es ∧ es.length + u.size ≤ 390 ∧ m = u.word.length, ⟨_, t, [], F, none, none, rfl, sput_same, (SubS.refl L).new hF, hF, ht, hdp, hz, by rw [List.append_nil], by simpa using hz, rfl⟩, ?_⟩
      rintro m env L1 ⟨u, es, F, x2, x3, rfl, f1, sb, f0, hu, hud, huz, hw, hes, em⟩
      refine eqD_oD (by omega) (ite2 (fun e => ?_) (fun e => ?_))
      rotate_left
      · have eu : u = .jet := by simpa using e
        subst eu
        have e2 : t.word = es := hw
        refine ret_sub (h F f0) ?_
        rw [e2]
        exact sb.mine f1
      have nj : u ≠ .jet := by simpa using e
      obtain ⟨ws, p, hup⟩ := word_nil hu nj
      obtain ⟨hp, hcut, hws, A, hA⟩ := last_end hu hup
      have hpz : p.size ≤ u.size := by
        have : p ∈ (wayP u).filter fun e => cov e u := by rw [hA]; simp
        exact (way_mem u hu.2 p (List.mem_filter.mp this).1).2.2.1
      have hpd : p.dep ≤ u.dep := by
        have : p ∈ (wayP u).filter fun e => cov e u := by rw [hA]; simp
        exact way_dep u hu.2 p (List.mem_filter.mp this).1
      have hwd : (prodT ws).dep ≤ u.dep := by
        have h1 : JW.T.grf p (prodT ws) = u := by rw [← prod_snoc, ← hup, (word_prod u hu).1]
        have h2 := grf_dep_le p (prodT ws)
        rw [h1] at h2
        exact h2
      refine ⟨u, rfl, hu.2, by omega, by omega, fun B hB => ?_⟩
      refine ⟨_, sput_same, fun C hC => ?_⟩
      rw [cutD_init]
      refine ⟨_, sput_same, fun D hD => ?_⟩
      have hwl := way_len u hu.2
      refine comp_filt dT dT (fun e => cov e u) (fun _ => sput_old sput_same hD) (wayP u) [] (by show 0 + (wayP u).length ≤ _; omega) (fun b hb l2 k hk => ?_) ?_
      · obtain ⟨b1, b2, b3, b4⟩ := way_mem u hu.2 b hb
        have b5 := way_dep u hu.2 b hb
        refine ⟨rfl, u, b, rfl, rfl, by omega, by omega, by omega, by omega, ?_⟩
        cases hc : cov b u with
        | true =>
          rw [hc] at hk
          rw [(ba_cov b u).mpr hc]
          exact ite_t (B := True) rfl hk
        | false =>
          rw [hc] at hk
          cases eb : baT b u with
          | none => rw [(ba_cov b u).mp eb] at hc; cases hc
          | some q => exact ite_f (A := True) rfl hk
      rw [hA, List.nil_append]
      have f2 := sput_old (n := .lst ((A ++ [p]).map dT)) (sput_old (n := .lst ((wayP u).map dT)) (sput_old (n := .lst ((wayP u ++ [JW.T.jet]).map dT)) f1 hB) hC) hD
      have sb2 := ((sb.new (m := .lst ((wayP u ++ [JW.T.jet]).map dT)) hB).new (m := .lst ((wayP u).map dT)) hC).new (m := .lst ((A ++ [p]).map dT)) hD
      have d2 : sput (sput (sput L1 B (.lst ((wayP u ++ [JW.T.jet]).map dT))) C (.lst ((wayP u).map dT))) D (.lst ((A ++ [p]).map dT)) D = some (.lst ((A ++ [p]).map dT)) := sput_same
      generalize sput (sput (sput L1 B (.lst ((wayP u ++ [JW.T.jet]).map dT))) C (.lst ((wayP u).map dT))) D (.lst ((A ++ [p]).map dT)) = L2 at f2 sb2 d2 ⊢
      have hwo : ∀ q ∈ ws, Op q := fun q hq => (hws q hq).1
      have hwp : (prodT ws).word = ws := word_of_primes ws hws
      have hpj : 2 ≤ p.size := by
        have h1 := size_pos p
        have h2 := word_prime u hu p (by rw [hup]; simp)
        cases p with
        | jet =>
          have : ([] : List JW.T) = [.jet] := h2
          cases this
        | bas l =>
          have h3 : (JW.T.bas l).size = 1 + sizeL l := rfl
          have h4 : jtsL l ≠ 0 := hp.2
          have h5 : l ≠ [] := fun z => by rw [z] at h4; exact h4 rfl
          have h6 := length_le l
          have h7 := List.length_pos_iff.mpr h5
          omega
      have hz2 : (prodT ws).size + 1 ≤ u.size := by
        have h1 : JW.T.grf p (prodT ws) = u := by rw [← prod_snoc, ← hup, (word_prod u hu).1]
        have h2 := grf_size p (prodT ws)
        have h3 := Nat.pos_of_ne_zero (prod_open fun q hq => (hwo q hq).2)
        rw [h1] at h2
        have h4 : (prodT ws).jts * 2 ≤ (prodT ws).jts * p.size := Nat.mul_le_mul_left _ hpj
        omega
      refine ⟨_, _, d2, atI_neg1 A p, by show (1 : Nat) ≤ sizeLine; omega, fun G hG => ⟨_, _, sput_same, sput_old f2 hG, by show 1 + (es.map dT).length ≤ sizeLine; rw [List.length_map]; omega, fun r hr => ?_⟩⟩
      have d3 := sput_old (n := .lst ([dT p] ++ es.map dT)) (sput_old (n := .lst [dT p]) d2 hG) hr
      have sb3 := (sb2.new (m := .lst [dT p]) hG).new (m := .lst ([dT p] ++ es.map dT)) hr
      refine ⟨_, _, d3, atI_neg1 A p, u, p, rfl, rfl, by omega, by omega, by omega, by omega, ?_⟩
      rw [cutA_eq (Nat.pos_of_ne_zero hp.2) u hu.1, hcut]
      refine ⟨ws.length, by rw [em, hup, List.length_append]; show ws.length < ws.length + 1; omega, prodT ws, p :: es, r, _, _, rfl, sput_same, sb3, sb2.none ?_, prod_op hwo, by omega, by omega, ?_, ?_, by rw [hwp]⟩
      · rw [sput_ne (fun z => by rw [← z, sput_same] at hr; cases hr)] at hr
        exact hr
      · rw [hw, hup, hwp, List.append_assoc]
        rfl
      · rw [List.length_cons]
        omega
    · exact h.elim
def sp_need_open (K : PySem.W.Frag) : Sp := fun vs H Q _ => ∃ p xs l, vs = [.ref p] ∧ SqT K H p xs ∧ FtnL (cF K) H l xs ∧ (∀ t ∈ l, t.jts ≠ 0) ∧ Q .non H
theorem ok_need_open  (T : Txt K mg base) : CallS P w K mg base CX0 3 "need_open" (starSp 0 (sp_need_open K)) := by
  refine T.d_need_open.ok sc_need_open (fun f cdv A outer s H vs Q E hr h => ?_)
  · obtain ⟨p, xs, l, rfl, hs, hl, ho, k⟩ := h
    refine ⟨_, (pss_one (ps_for PassesOwn.never rfl (pi_tup (pv 0)) (pg_name (i := 1) sc_need_open.nd rfl (by first | exact Or.inl rfl | exact Or.inr rfl))
        (pss_one (ps_if (pt_not (pt_val (pe_propD T.cls.c (ok_Fountain_is_open T) (hr.mono (by decide)) pass0 (pv 1) rfl)))
          pss_never
          pss_nil)))), ?_⟩
    refine ⟨.ref p, rfl, p, rfl, ⟨_, hs⟩, for_tup (xs := xs) (fun i σ' H' => ∃ v1 : Option V, σ' = [some (.ref p), v1] ∧ H' = H) ⟨none, rfl, rfl⟩ (fun i σ' H' _ hP => by
      obtain ⟨_, _, e⟩ := hP
      rw [e]
      exact hs) ?_ fun σ' H' hP => by
      obtain ⟨_, _, e⟩ := hP
      rw [e]
      exact k⟩
    rintro i x σ' H' hx ⟨v1, rfl, rfl⟩
    obtain ⟨t, e1, e2⟩ := hl.get hx
    exact ⟨x, rfl, ev_prop e2 ⟨_, rfl, ite_f (by rw [decide_eq_true (Nat.pos_of_ne_zero (ho t (List.mem_of_getElem? e1)))]; rfl) ⟨_, rfl, rfl⟩⟩⟩
def asp_need_open : ASp
  | [.tup ds], L, Q, _ => ∃ ts : List T, ds = ts.map .tree ∧ (∀ t ∈ ts, t.jts ≠ 0) ∧ Q .non L
  | _, _, _, _ => False
theorem okA_need_open (T : Txt K mg base) {scr : Option (Addr × List Int)} : CallS P w K mg base CX0 3 "need_open" (starSp 0 (spA (cA K scr) asp_need_open)) := by
  obtain ⟨f, h1, h2, F⟩ := (ok_need_open T).ex
  refine ⟨f, h1, h2, fun A outer s H us vs Q E hr e0 r hsp => F A outer s H us vs Q E hr e0 r ?_⟩
  obtain ⟨ws, rest, e1, e2, e3, e4⟩ := hsp
  refine ⟨ws, rest, e1, e2, e3, fun p hp => ?_⟩
  obtain ⟨ds, L, R, RX, r1, g, h, pq, px⟩ := e4 p hp
  have ew : ws = [] := List.length_eq_zero_iff.mp e2
  subst ew
  unfold asp_need_open at h
  split at h
  · obtain ⟨ts, rfl, h3, h⟩ := h
    obtain ⟨v, ev, r2⟩ := repL_one r1
    obtain ⟨q, xs, rfl, e5, r3⟩ := rep_tup.mp r2
    exact ⟨q, xs, ts, ev, e5, RepL.trees.mp r3, h3, pq.here h g (rep_non.mpr rfl)⟩
  · exact h.elim

theorem ok_Fountain_is_jet  (T : Txt K mg base) : PropD P w K mg base CX0 1 (cF K) "is_jet" (spV K fun t => .bl (decide (t = .jet))) := by
  refine T.p_is_jet.ok sc_Fountain_is_jet (fun vs H Q E h => ?_) (fun f cdv A outer s H vs Q E hr h => ?_)
  · obtain ⟨v, t, rfl, _⟩ := h
    rfl
  · obtain ⟨v, t, rfl, hf, k⟩ := h
    obtain ⟨a, dx, b, n, vs, rfl, ha, hb, hn, hk⟩ := ftn_iff.mp hf
    refine ⟨_, (pss_one (ps_ret (pe_cmpR op_eq (pe_fld (pv 0) rfl) (pe_gstr rfl T.gJET_TEXT) (nomark _)))), ?_⟩
    refine ⟨.ref a, rfl, a, _, dx, _, _, rfl, ha, T.cls.c, T.cls.nw, fl_w, rfl, ?_⟩
    show Q (V.bl (decide (V.str (tx t) = V.str "o"))) H
    rw [show decide (V.str (tx t) = V.str "o") = decide (t = .jet) from decide_eq_decide.mpr ⟨fun z => tx_inj ((V.str.inj z).trans tx_jet.symm), fun z => by rw [z, tx_jet]⟩]
    exact k
def sp_open_branches (K : PySem.W.Frag) : Sp := fun vs H Q _ => ∃ v l, vs = [v] ∧ Ftn (cF K) H (.bas l) v ∧ sizeL l ≤ 1048576 ∧ ∀ D ys H', H D = none → Same H H' → H' D = some (.lst ys) → FtnL (cF K) H' (opB l) ys → Q (.ref D) H'
theorem ok_open_branches  (T : Txt K mg base) : CallD P w K mg base CX0 5 "open_branches" ["fountain"] [] (sp_open_branches K) := by
  refine T.d_open_branches.ok sc_open_branches (fun vs H Q E h => ?_) (fun f cdv A outer s H vs Q E hr h => ?_)
  · obtain ⟨v, l, rfl, _⟩ := h
    rfl
  · obtain ⟨v, l, rfl, hv, hz, k⟩ := h
    have hsl := sizeLine_eq
    have hll := length_le l
    refine ⟨_, (pss_cons (ps_set (i := 1) sc_open_branches.nd rfl (by first | exact Or.inl rfl | exact Or.inr rfl) (pe_propD T.cls.c (ok_Fountain_parts T) (hr.mono (by decide)) pass0 (pv 0) rfl))
      (pss_one (ps_ret (pe_lc (own := [("index", 2), ("part", 3)]) (g := gTup K 2 (gCons (gName 2) (gCons (gName 3) gNil))) (by rfl) sc_open_branches.nd (pi_enumT (by rfl) T.n_enumerate (pa_cons (pv 1) pa_nil)) (blkOk_by (by kernel_rfl)) (fun _ _ _ _ _ => pg_tupK (K := K) rfl rfl (pgs_cons (pg_name (i := 2) sc_open_branches.nd rfl (by first | exact Or.inl rfl | exact Or.inr rfl)) (pgs_cons (pg_name (i := 3) sc_open_branches.nd rfl (by first | exact Or.inl rfl | exact Or.inr rfl)) pgs_nil))) (fun _ _ _ _ _ => pts_one (PW.pt (pw_and (pt_val (pe_propD T.cls.c (ok_Fountain_is_open T) (hr.mono (by decide)) pass0 (pv 3) rfl)) (pw_and1 (PW.pt (pw_or (pt_cmpR op_eq (pv 2) pe_int (nomark _)) (pw_or1 (pt_cmpR (op_own_ne T.cls.hne T.cls.hob (ok_Fountain___eq__ T) (hr.mono (by decide)) pass0) (pe_ix (ix_tupK (K := K) rfl ) (pv 1) (pe_op op_sub (pv 2) pe_int) (fun _ _ => rfl)) (pv 3) (nomark _))))))))) (fun _ _ _ _ _ => (pv 3)))))), ?_⟩
    refine ⟨v, rfl, ev_kids hv fun b xs hb hk => ⟨_, rfl, b, xs, rfl, SqT.of hb, fun D hD => ?_⟩⟩
    have hk : FtnL (cF K) H l xs := hk
    have hlen := hk.len
    refine lc_enumT (xs := xs) (fun i H' => Same H H' ∧ ∃ ys, H' D = some (.lst ys) ∧ FtnL (cF K) H (opN l i) ys) ⟨Same.new (Same.refl H) hD, [], upd_same, rfl⟩ (fun i H' _ hP => SqT.of (hP.1 _ _ hb)) (fun i x H' T' hx hP hT' => ?_) fun H' hP => ?_
    · obtain ⟨s, ys, hy, hf⟩ := hP
      obtain ⟨t, e1, e2⟩ := hk.get hx
      have hxl := (List.getElem?_eq_some_iff.mp hx).1
      have s1 : Same H (upd H' T' (.tup [.int (i : Nat), x])) := Same.new s hT'
      have eT : upd H' T' (.tup [.int (i : Nat), x]) T' = some (.tup [.int (i : Nat), x]) := upd_same
      have hy1 : upd H' T' (.tup [.int (i : Nat), x]) D = some (.lst ys) := upd_old hy hT'
      generalize upd H' T' (.tup [.int (i : Nat), x]) = H1 at s1 eT hy1 ⊢
      have hlz : ys.length < sizeLine := by
        have h1 := opN_len l i
        have h2 := hf.len
        omega
      have put : opN l (i + 1) = opN l i ++ [t] → ∃ acc, H1 D = some (.lst acc) ∧ acc.length < sizeLine ∧ Same H (upd H1 D (.lst (acc ++ [x]))) ∧ ∃ ys, upd H1 D (.lst (acc ++ [x])) D = some (.lst ys) ∧ FtnL (cF K) H (opN l (i + 1)) ys := fun e => by
        refine ⟨ys, hy1, hlz, fun c o ec => ?_, _, upd_same, ?_⟩
        · rw [upd_ne (ne_of_none ec hD)]
          exact s1 _ _ ec
        · rw [e]
          exact hf.app (FtnL.one e2)
      refine ⟨T', _, rfl, SqT.of eT, rfl, _, _, rfl, _, _, rfl, rfl, rfl, x, rfl, ev_prop (e2.same s1) ⟨_, rfl, ?_⟩⟩
      by_cases hj : t.jts = 0
      · refine ite_f (decide_eq_false (by omega)) ?_
        refine ite_f rfl ⟨s1, ys, hy1, ?_⟩
        rw [opN_no e1 fun z => z.1 hj]
        exact hf
      refine ite_t (decide_eq_true (Nat.pos_of_ne_zero hj)) ?_
      refine ⟨_, rfl, rfl, _, rfl, ?_⟩
      cases i with
      | zero => exact ite_t rfl (ite_t rfl ⟨_, rfl, put (opN_yes e1 ⟨hj, .inl rfl⟩)⟩)
      | succ i =>
        refine ite_f (decide_eq_false fun z => by have := V.int.inj z; omega) ?_
        have hxi : xs[i]? = some xs[i] := List.getElem?_eq_getElem (by omega)
        obtain ⟨u, f1, f2⟩ := hk.get hxi
        refine ⟨_, rfl, _, rfl, _, _, rfl, rfl, b, xs, (i : Int), xs[i], rfl, by rw [Int.natCast_add]; show V.int _ = _; rw [show ((i : Nat) : Int) + ((1 : Nat) : Int) - 1 = (i : Int) by omega], SqT.of (s1 _ _ hb), atI_nat hxi, x, rfl, eq_of (f2.same s1) (e2.same s1) ⟨_, rfl, ?_⟩⟩
        by_cases hu : u = t
        · rw [decide_eq_true hu]
          refine ite_f rfl ⟨s1, ys, hy1, ?_⟩
          rw [opN_no e1 fun z => z.2.elim (fun q => by omega) fun q => q (by rw [Nat.add_sub_cancel, f1, hu])]
          exact hf
        · rw [decide_eq_false hu]
          exact ite_t rfl ⟨_, rfl, put (opN_yes e1 ⟨hj, .inr fun q => hu (by rw [Nat.add_sub_cancel, f1] at q; exact Option.some.inj q)⟩)⟩
    · obtain ⟨s, ys, hy, hf⟩ := hP
      refine k D ys H' hD s hy ?_
      rw [hlen] at hf
      exact hf.same s
def Wds (K : PySem.W.Frag) (H : Hp) (wl : List (List T)) (ws : List V) : Prop := ws.length = wl.length ∧ ∀ (i : Nat) (x : V), ws[i]? = some x → ∃ w b xs, wl[i]? = some w ∧ x = .ref b ∧ SqT K H b xs ∧ FtnL (cF K) H w xs
theorem Wds.same {K : PySem.W.Frag} {H H' : Hp} {wl : List (List T)} {ws : List V} (h : Wds K H wl ws) (s : Same H H') : Wds K H' wl ws := by
  refine ⟨h.1, fun i x hx => ?_⟩
  obtain ⟨w, b, xs, h1, h2, h3, h4⟩ := h.2 i x hx
  exact ⟨w, b, xs, h1, h2, seqTN h3 (.of s), h4.same s⟩
theorem suf_more {s w : List T} (h : s <:+ w) (hl : s.length < w.length) : ∃ b, w[w.length - 1 - s.length]? = some b ∧ b :: s <:+ w := by
  obtain ⟨t, rfl⟩ := h
  rcases List.eq_nil_or_concat t with rfl | ⟨L, b, rfl⟩
  · rw [List.nil_append] at hl
    omega
  · refine ⟨b, ?_, L, by rw [List.concat_eq_append, List.append_assoc]; rfl⟩
    rw [List.concat_eq_append, List.append_assoc, List.length_append, List.length_append, List.length_singleton, List.getElem?_append_right (by omega), show L.length + (1 + s.length) - 1 - s.length - L.length = 0 by omega]
    rfl
theorem atI_neg {α : Type} {xs : List α} {c : Nat} (h : c < xs.length) : atI xs (-1 - (c : Int)) = xs[xs.length - 1 - c]? := by
  unfold atI ixN
  rw [if_neg (by omega), if_pos (by omega)]
  show xs[(-1 - (c : Int) + (xs.length : Int)).toNat]? = _
  rw [show (-1 - (c : Int) + (xs.length : Int)).toNat = xs.length - 1 - c by omega]
theorem ftnL_drop {C : Addr} {H : Hp} : ∀ (n : Nat) {l : List T} {vs : List V}, FtnL C H l vs → FtnL C H (l.drop n) (vs.drop n)
  | 0, _, _, h => h
  | n + 1, [], vs, h => by
    have e : vs = [] := h
    subst e
    exact rfl
  | n + 1, t :: r, vs, h => by
    obtain ⟨v, q, rfl, h1, h2⟩ := (show ∃ v r', vs = v :: r' ∧ Ftn C H t v ∧ FtnL C H r r' from h)
    exact ftnL_drop n h2
theorem fin_whole {sf w1 : List T} {n c : Nat} (h : sf <:+ w1) (hn : n = w1.length) (hc : sf.length = c) (hs : HT.sIx n 0 (some ((n : Int) - (c : Int))) = 0) : sf = w1 := by
  have h1 := h.length_le
  have h2 : min ((n : Int) - (c : Int)).toNat n = 0 := by
    have h3 : HT.sIx n 0 (some ((n : Int) - (c : Int))) = min ((n : Int) - (c : Int)).toNat n := by
      show (if (n : Int) - (c : Int) < 0 then _ else _) = _
      rw [if_neg (by omega)]
    rw [← h3]
    exact hs
  exact h.eq_of_length (by omega)
theorem fin_cut {C : Addr} {H : Hp} {sf w1 : List T} {xs : List V} {c : Nat} (h : sf <:+ w1) (hf : FtnL C H w1 xs) (hc : sf.length = c) : FtnL C H sf (cutV xs (some ((xs.length : Int) - (c : Int))) none) := by
  have h1 := h.length_le
  have hl := hf.len
  have h3 : HT.sIx xs.length 0 (some ((xs.length : Int) - (c : Int))) = w1.length - sf.length := by
    show (if (xs.length : Int) - (c : Int) < 0 then _ else min ((xs.length : Int) - (c : Int)).toNat xs.length) = _
    rw [if_neg (by omega)]
    omega
  have h4 : HT.sIx xs.length xs.length none = xs.length := rfl
  unfold cutV
  rw [h3, h4, List.take_of_length_le (by rw [List.length_drop]; exact Nat.le_refl _)]
  have e := List.suffix_iff_eq_drop.mp h
  have h5 := ftnL_drop (w1.length - sf.length) hf
  rw [← e] at h5
  exact h5
def sp_shared_tail (K : PySem.W.Frag) : Sp := fun vs H Q _ => ∃ a ws wl, vs = [.ref a] ∧ SqL K H a ws ∧ Wds K H wl ws ∧ wl ≠ [] ∧ wl.length ≤ 1048576 ∧ (∀ w ∈ wl, w.length ≤ 1048576) ∧
  ∀ q zs H', Same H H' → SqT K H' q zs → FtnL (cF K) H' (lcsL wl) zs → Q (.ref q) H'
theorem ok_shared_tail  (T : Txt K mg base) : CallD P w K mg base CX0 5 "shared_tail" ["words"] [] (sp_shared_tail K) := by
  refine T.d_shared_tail.ok sc_shared_tail (fun vs H Q E h => ?_) (fun f cdv A outer s H vs Q E hr h => ?_)
  · obtain ⟨a, ws, wl, rfl, _⟩ := h
    rfl
  · obtain ⟨a, ws, wl, rfl, hs, hw, hne, hz, hzw, k⟩ := h
    have hsl := sizeLine_eq
    refine ⟨_, (pss_cons (ps_set (i := 1) sc_shared_tail.nd rfl (by first | exact Or.inl rfl | exact Or.inr rfl) (pe_callB (cr_min rfl) (by rfl) T.n_min (by decide +kernel) (pa_cons (pe_lc (own := [("word", 3)]) (g := gName 3) (tt := tYes) (by rfl) sc_shared_tail.nd (pi_list (pv 0)) (blkOk_by (by kernel_rfl)) (fun _ _ _ _ _ => pg_name (i := 3) sc_shared_tail.nd rfl (by first | exact Or.inl rfl | exact Or.inr rfl)) (fun _ _ _ _ _ => pts_nil) (fun _ _ _ _ _ => (pe_callB (call_lenK (K := K) rfl ) (by rfl) T.n_len (by decide +kernel) (pa_cons (pv 3) pa_nil)))) pa_nil)))
      (pss_cons (ps_set (i := 2) sc_shared_tail.nd rfl (by first | exact Or.inl rfl | exact Or.inr rfl) pe_int)
      (pss_cons (ps_while PassesOwn.never (PW.pt (pw_and (pt_cmpR op_lt (pv 2) (pv 1) (nomark _)) (pw_and1 (pt_val (pe_callB (cr_all rfl) (by rfl) T.n_all (by decide +kernel) (pa_cons (pe_lc (own := [("word", 3)]) (g := gName 3) (tt := tYes) (by rfl) sc_shared_tail.nd (pi_list (pv 0)) (blkOk_by (by kernel_rfl)) (fun _ _ _ _ _ => pg_name (i := 3) sc_shared_tail.nd rfl (by first | exact Or.inl rfl | exact Or.inr rfl)) (fun _ _ _ _ _ => pts_nil) (fun _ _ _ _ _ => (pe_cmpR (op_own_eq (ok_Fountain___eq__ T) (hr.mono (by decide)) pass0) (pe_ix (ix_tupK (K := K) rfl ) (pv 3) (pe_op op_sub (pe_un un_neg pe_int) (pv 2)) (fun _ _ => rfl)) (pe_ix (ix_tupK (K := K) rfl ) (pe_ix (ix_listK (K := K) rfl ) (pv 0) pe_int (fun _ _ => rfl)) (pe_op op_sub (pe_un un_neg pe_int) (pv 2)) (fun _ _ => rfl)) (nomark _)))) pa_nil))))))
        (pss_one (ps_aug (i := 2) sc_shared_tail.nd rfl (by first | exact Or.inl rfl | exact Or.inr rfl) pe_int ip_add)))
      (pss_one (ps_ret (pe_slice sl_tupA (pe_ix ix_list (pv 0) pe_int (fun _ _ => rfl)) (po_some (pe_op op_sub (pe_callB call_len (by rfl) T.n_len (by decide +kernel) (pa_cons (pe_ix ix_list (pv 0) pe_int (fun _ _ => rfl)) pa_nil)) (pv 2))) po_none)))))), ?_⟩
    have hwl := hw.1
    refine ⟨.ref a, rfl, a, rfl, ⟨ws, hs⟩, fun D hD => lc_eachL (ys := wl.map fun w => V.int (w.length : Nat)) hD hs (by omega) (by rw [List.length_map, hwl]) (fun _ => rfl) (fun i x y H' Q' hx hy s hDn q => ?_) fun H1 s1 e1 => ?_⟩
    · obtain ⟨w, b, xs, h1, rfl, h3, h4⟩ := hw.2 i x hx
      rw [List.getElem?_map, h1] at hy
      obtain rfl := Option.some.inj hy
      refine ⟨_, rfl, .ref b, xs.length, rfl, .inr ⟨xs, seqTN h3 (.of s), rfl⟩, ?_⟩
      rw [h4.len]
      exact q _ (Same.refl _)
    refine ⟨D, wl.map fun w => (w.length : Int), rfl, SqL.of (by rw [e1, List.map_map]; rfl), by rw [List.length_map]; exact List.length_pos_iff.mpr hne, fun m h1 h2 => ?_⟩
    obtain ⟨w0, hw0, rfl⟩ := List.mem_map.mp h1
    have hle : ∀ w ∈ wl, w0.length ≤ w.length := fun w hw => by
      have := h2 _ (List.mem_map_of_mem (f := fun w => ((w : List JW.T).length : Int)) hw)
      omega
    have hwz : wl[0]? = some (wl.head hne) := by
      cases wl with
      | nil => exact absurd rfl hne
      | cons w r => rfl
    obtain ⟨w1, b1, xs1, g1, g2, g3, g4⟩ := hw.2 0 (ws[0]'(by have := List.length_pos_iff.mpr hne; omega)) (List.getElem?_eq_getElem _)
    have hws0 : ws[0]? = some (.ref b1) := by rw [List.getElem?_eq_getElem (by have := List.length_pos_iff.mpr hne; omega), g2]
    have hw1 : w1 ∈ wl := List.mem_of_getElem? g1
    refine ⟨fun m σ' H' => ∃ (c : Nat) (v3 : Option V) (s : List JW.T), m = w0.length - c ∧ σ' = [some (.ref a), some (.int (w0.length : Nat)), some (.int (c : Nat)), v3] ∧ s.length = c ∧ c ≤ w0.length ∧ (∀ w ∈ wl, s <:+ w) ∧ Same H H', ⟨_, 0, none, [], rfl, rfl, rfl, Nat.zero_le _, fun w _ => List.nil_suffix, s1⟩, ?_⟩
    rintro m σ' H2 ⟨c, v3, sf, rfl, rfl, hc, hcl, hsf, s2⟩
    have fin1 : c = w0.length → lcsL wl = sf := fun e => by
      have e0 : sf = w0 := (hsf w0 hw0).eq_of_length (by omega)
      exact lcs_eq hne hsf fun x hx => e0 ▸ hx w0 hw0
    refine ⟨_, rfl, _, rfl, _, _, rfl, rfl, _, rfl, ?_⟩
    by_cases hlt : c < w0.length
    case neg =>
      refine ite_f (decide_eq_false (by omega)) ?_
      refine ite_f rfl ?_
      · have el : lcsL wl = sf := fin1 (by omega)
        refine ⟨.ref a, rfl, a, ws, 0, .ref b1, rfl, rfl, seqN hs (.of s2), atI_nat (j := 0) hws0, .ref a, rfl, a, ws, 0, .ref b1, rfl, rfl, seqN hs (.of s2), atI_nat (j := 0) hws0, .ref b1, xs1.length, rfl, .inr ⟨xs1, seqTN g3 (.of s2), rfl⟩, _, rfl, _, _, rfl, rfl, _, rfl, b1, xs1, rfl, seqTN g3 (.of s2), fun hwh => ?_, fun hnw p hp => ?_⟩
        · refine k b1 xs1 _ s2 (seqTN g3 (.of s2)) ?_
          rw [el, fin_whole (hsf w1 hw1) g4.len hc hwh.1]
          exact g4.same s2
        · refine k p _ _ (Same.new s2 hp) (SqT.of upd_same) ?_
          rw [el]
          exact fin_cut (hsf w1 hw1) (g4.same (Same.new s2 hp)) hc
    refine ite_t (decide_eq_true (by omega)) ?_
    obtain ⟨u1, hu1, hsu1⟩ := suf_more (hsf w1 hw1) (by have := hle w1 hw1; omega)
    rw [hc] at hu1
    have hl1 := g4.len
    have hc1 := hle w1 hw1
    have hx1 : xs1[xs1.length - 1 - c]? = some (xs1[xs1.length - 1 - c]'(by omega)) := List.getElem?_eq_getElem (by omega)
    obtain ⟨u1', hu1', fu1⟩ := g4.get hx1
    rw [hl1, hu1] at hu1'
    obtain rfl := Option.some.inj hu1'
    have hs2 := seqN hs (.of s2)
    refine ⟨.ref a, rfl, a, rfl, ⟨ws, hs2⟩, fun D3 hD3 => lc_eachL (ys := wl.map fun w => V.bl (decide (w[w.length - 1 - c]? = some u1))) hD3 hs2 (by omega) (by rw [List.length_map, hwl]) (fun _ => rfl) (fun i x y H' Q' hx hy s' hDn q => ?_) fun H4 s4' e4 => ?_⟩
    · obtain ⟨w, b, xs, h1, rfl, h3, h4⟩ := hw.2 i x hx
      rw [List.getElem?_map, h1] at hy
      obtain rfl := Option.some.inj hy
      have hwm := List.mem_of_getElem? h1
      have hlw := h4.len
      have hcw := hle w hwm
      have hxw : xs[xs.length - 1 - c]? = some (xs[xs.length - 1 - c]'(by omega)) := List.getElem?_eq_getElem (by omega)
      obtain ⟨t, ht, ft⟩ := h4.get hxw
      rw [hlw] at ht
      have sA : Same H H' := s2.trans s'
      refine ⟨.ref b, rfl, _, rfl, _, rfl, _, _, rfl, rfl, b, xs, _, _, rfl, rfl, seqTN h3 (.of sA), (atI_neg (by omega)).trans hxw, .ref a, rfl, a, ws, 0, .ref b1, rfl, rfl, seqN hs (.of sA), atI_nat (j := 0) hws0, _, rfl, _, rfl, _, _, rfl, rfl, b1, xs1, _, _, rfl, rfl, seqTN g3 (.of sA), (atI_neg (by omega)).trans hx1, eq_of (ft.same sA) (fu1.same sA) ?_⟩
      have e5 : decide (w[w.length - 1 - c]? = some u1) = decide (t = u1) := by
        rw [ht]
        exact decide_eq_decide.mpr ⟨fun z => Option.some.inj z, fun z => by rw [z]⟩
      have q2 : Q' (V.bl (decide (w[w.length - 1 - c]? = some u1))) H' := q _ (Same.refl _)
      rw [e5] at q2
      exact q2
    have s4 : Same H H4 := s2.trans s4'
    refine ⟨D3, wl.map fun w => decide (w[w.length - 1 - c]? = some u1), rfl, SqL.of (by rw [e4, List.map_map]; rfl), _, rfl, ?_⟩
    by_cases hall : ∀ w ∈ wl, w[w.length - 1 - c]? = some u1
    case pos =>
      refine ite_t (List.all_eq_true.mpr fun z hz => ?_) ⟨fun σ' H' => σ' = [some (.ref a), some (.int (w0.length : Nat)), some (.int ((c + 1 : Nat) : Int)), v3] ∧ Same H H', ?_, ?_⟩
      · obtain ⟨w, hw', rfl⟩ := List.mem_map.mp hz
        exact decide_eq_true (hall w hw')
      · rintro σ' H' ⟨rfl, s5⟩
        refine ⟨w0.length - (c + 1), by omega, c + 1, v3, u1 :: sf, rfl, rfl, by rw [List.length_cons, hc], by omega, fun w hw' => ?_, s5⟩
        obtain ⟨b, hb, hsb⟩ := suf_more (hsf w hw') (by have := hle w hw'; omega)
        rw [hc, hall w hw'] at hb
        rw [Option.some.inj hb]
        exact hsb
      · exact ⟨_, rfl, _, _, rfl, rfl, rfl, s4⟩
    have fin2 : lcsL wl = sf := by
      refine lcs_eq hne hsf fun x hx => ?_
      by_cases hlx : x.length ≤ sf.length
      · exact List.suffix_of_suffix_length_le (hx w1 hw1) (hsf w1 hw1) hlx
      · refine absurd (fun w hw' => ?_) hall
        obtain ⟨b, hb, hsb⟩ := suf_more (hsf w hw') (by have := hle w hw'; omega)
        have h6 : u1 :: sf <:+ x := List.suffix_of_suffix_length_le hsu1 (hx w1 hw1) (by rw [List.length_cons]; omega)
        have h7 : b :: sf <:+ x := List.suffix_of_suffix_length_le hsb (hx w hw') (by rw [List.length_cons]; omega)
        have h8 : u1 :: sf = b :: sf := suf_anti (List.suffix_of_suffix_length_le h6 h7 (by simp)) (List.suffix_of_suffix_length_le h7 h6 (by simp))
        rw [hc] at hb
        rw [hb, (List.cons.inj h8).1]
    refine ite_f ?_ ?_
    · refine Bool.eq_false_iff.mpr fun z => hall fun w hw' => ?_
      have h9 := List.all_eq_true.mp z _ (List.mem_map_of_mem (f := fun w => decide ((w : List JW.T)[w.length - 1 - c]? = some u1)) hw')
      exact of_decide_eq_true h9
    · have el : lcsL wl = sf := fin2
      refine ⟨.ref a, rfl, a, ws, 0, .ref b1, rfl, rfl, seqN hs (.of s4), atI_nat (j := 0) hws0, .ref a, rfl, a, ws, 0, .ref b1, rfl, rfl, seqN hs (.of s4), atI_nat (j := 0) hws0, .ref b1, xs1.length, rfl, .inr ⟨xs1, seqTN g3 (.of s4), rfl⟩, _, rfl, _, _, rfl, rfl, _, rfl, b1, xs1, rfl, seqTN g3 (.of s4), fun hwh => ?_, fun hnw p hp => ?_⟩
      · refine k b1 xs1 _ s4 (seqTN g3 (.of s4)) ?_
        rw [el, fin_whole (hsf w1 hw1) g4.len hc hwh.1]
        exact g4.same s4
      · refine k p _ _ (Same.new s4 hp) (SqT.of upd_same) ?_
        rw [el]
        exact fin_cut (hsf w1 hw1) (g4.same (Same.new s4 hp)) hc
def asp_shared_tail : ASp
  | [.ref p], L, Q, _ => ∃ wl : List (List T), L p = some (.lst (wl.map fun w => .tup (w.map .tree))) ∧ wl ≠ [] ∧ wl.length ≤ 1048576 ∧ (∀ w ∈ wl, w.length ≤ 1048576) ∧ Q (.tup ((lcsL wl).map .tree)) L
  | _, _, _, _ => False
theorem okA_shared_tail (T : Txt K mg base) {scr : Option (Addr × List Int)} : CallD P w K mg base CX0 5 "shared_tail" ["words"] [] (spA (cA K scr) asp_shared_tail) :=
  (ok_shared_tail T).imp fun vs H Q E ⟨ds, L, R, RX, r, g, h, pq, px⟩ => by
    unfold asp_shared_tail at h
    split at h
    · obtain ⟨wl, e0, h1, h2, h3, h⟩ := h
      obtain ⟨v, rfl, r1⟩ := repL_one r
      cases rep_ref.mp r1
      obtain ⟨ws, e1, rs⟩ := good_lst g e0
      refine ⟨_, ws, wl, rfl, SqL.of e1, ⟨by rw [rs.len, List.length_map], fun i x hx => ?_⟩, h1, h2, h3, fun q zs H' s hs hf => pq _ L _ H' h (.same s) (g.same s) (rep_tup.mpr ⟨q, zs, rfl, hs, RepL.trees.mpr hf⟩)⟩
      obtain ⟨d, e2, e3⟩ := rs.getV hx
      rw [List.getElem?_map] at e2
      cases e4 : wl[i]? with
      | none => rw [e4] at e2; cases e2
      | some w =>
        rw [e4] at e2
        cases e2
        obtain ⟨b, xs, rfl, e5, r3⟩ := rep_tup.mp e3
        exact ⟨w, b, xs, rfl, rfl, e5, RepL.trees.mp r3⟩
    · exact h.elim

def sp_bare (K : PySem.W.Frag) (n : Nat) : Sp := fun vs H Q _ => ∃ v t b u q ps, vs = [v, u, .ref q] ∧ Ftn (cF K) H t v ∧ Ftn (cF K) H b u ∧ H q = some (.tup ps) ∧ ps.length + t.dep ≤ 10000 ∧ t.dep < n ∧ cov b t = true ∧ ∀ H', Same H H' → Q .non H'
theorem step_bare_place  (T : Txt K mg base) (n : Nat) (ih : CallD P w K mg base CX0 (3 + n) "bare_place" ["fountain", "part", "path"] [] (sp_bare K n)) : CallD P w K mg base CX0 (3 + n + 1) "bare_place" ["fountain", "part", "path"] [] (sp_bare K (n + 1)) := by
  refine T.d_bare_place.ok sc_bare_place (fun vs H Q E h => ?_) (fun f cdv A outer s H vs Q E hr h => ?_)
  · obtain ⟨v, t, b, u, q, ps, rfl, _⟩ := h
    rfl
  · obtain ⟨v, t, b, u, q, ps, rfl, hv, hu, hq, hps, hn, hc, k⟩ := h
    obtain ⟨av, dv, bv, nv, xv, rfl, hav, hbv, hnv, hkv⟩ := ftn_iff.mp hv
    obtain ⟨au, du, bu, nu, xu, rfl, hau, hbu, hnu, hku⟩ := ftn_iff.mp hu
    have hsl := sizeLine_eq
    refine ⟨_, (pss_cons (ps_if (pt_cmpR (op_own_eq (ok_Fountain___eq__ T) (hr.mono (by omega)) pass0) (pv 0) (pv 1) (nomark _))
        (pss_one (ps_ret pe_non))
        pss_nil)
      (pss_cons (ps_if (pt_val (pe_propD T.cls.c (ok_Fountain_is_jet T) (hr.mono (by omega)) pass0 (pv 0) rfl))
        pss_never
        pss_nil)
      (pss_cons (ps_for PassesOwn.never rfl (pi_enumT (by rfl) T.n_enumerate (pa_cons (pe_propD T.cls.c (ok_Fountain_parts T) (hr.mono (by omega)) pass0 (pv 0) rfl) pa_nil)) (pg_tup rfl (pgs_cons (pg_name (i := 3) sc_bare_place.nd rfl (by first | exact Or.inl rfl | exact Or.inr rfl)) (pgs_cons (pg_name (i := 4) sc_bare_place.nd rfl (by first | exact Or.inl rfl | exact Or.inr rfl)) pgs_nil)))
        (pss_cons (ps_set (i := 5) sc_bare_place.nd rfl (by first | exact Or.inl rfl | exact Or.inr rfl) (pe_callD ih (hr.mono (by omega)) (by rfl) pass0 (pa_cons (pv 4) (pa_cons (pv 1) (pa_cons (pe_op op_catA (pv 2) (pe_tup (pa_cons (pv 3) pa_nil))) pa_nil)))))
        (pss_one (ps_if (pt_cmpR op_notN (pv 5) pe_non (nomark _))
          pss_never
          pss_nil))))
      (pss_one (ps_ret pe_non))))), ?_⟩
    refine ⟨.ref av, rfl, .ref au, rfl, av, dv, _, au, du, _, rfl, rfl, hav, hau, ⟨_, t, _, b, rfl, hv, hu, _, rfl, _, rfl, ite2 (fun e => k _ (Same.refl H)) fun e => ?_⟩⟩
    have hne : t ≠ b := fun z => e (decide_eq_true z)
    cases t with
    | jet =>
      have h2 : decide (JW.T.jet = b) = true := hc
      exact absurd (of_decide_eq_true h2) hne
    | bas l =>
      have hcl : covL b l = true := by
        have h2 : (decide (JW.T.bas l = b) || covL b l) = true := hc
        rw [decide_eq_false hne, Bool.false_or] at h2
        exact h2
      refine ⟨.ref av, rfl, ev_prop hv ⟨_, rfl, ite_f (decide_eq_false fun z => by cases z) ⟨.ref av, rfl, ev_kids hv fun b' xs' hb' hk' => ⟨b', xs', rfl, SqT.of hb', ?_⟩⟩⟩⟩
      refine for_enumT (xs := xs') (fun i σ H' => ∃ v3 v4 v5 : Option V, σ = [some (.ref av), some (.ref au), some (.ref q), v3, v4, v5] ∧ Same H H') ⟨none, none, none, rfl, Same.refl H⟩ (fun i σ H' _ p => ?_) (fun i x σ H' T' hx p hT' => ?_) fun σ H' p => ?_
      · obtain ⟨_, _, _, _, s⟩ := p
        exact SqT.of (s _ _ hb')
      · obtain ⟨v3, v4, v5, rfl, s⟩ := p
        have hk2 : FtnL (cF K) H l xs' := hk'
        obtain ⟨t', e1, e2⟩ := hk2.get hx
        have hm := List.mem_of_getElem? e1
        have h1 := dep_lt hm
        have s1 : Same H (upd H' T' (.tup [.int (i : Nat), x])) := Same.new s hT'
        have eT : upd H' T' (.tup [.int (i : Nat), x]) T' = some (.tup [.int (i : Nat), x]) := upd_same
        generalize upd H' T' (.tup [.int (i : Nat), x]) = H1 at s1 eT ⊢
        have hq1 : H1 q = some (.tup ps) := s1 _ _ hq
        refine ⟨T', _, rfl, SqT.of eT, rfl, _, _, rfl, _, _, rfl, rfl, x, rfl, .ref au, rfl, .ref q, rfl, .int i, rfl, sz1, fun q1 hn1 => ⟨q, q1, ps, [.int i], rfl, rfl, SqT.of (upd_old hq1 hn1), SqT.of upd_same, ?_, fun hp0 => ?_, fun _ z => absurd z (by simp), fun _ _ q2 hn2 => ?_⟩⟩
        · show ps.length + 1 ≤ sizeLine
          omega
        · have s3 : Same H1 (upd H1 q1 (.tup [.int (i : Nat)])) := Same.new (Same.refl H1) hn1
          exact ⟨x, t', b, .ref au, q1, [.int i], rfl, e2.same (s1.trans s3), hu.same (s1.trans s3), upd_same, by show 1 + t'.dep ≤ _; omega, by omega, covL_all.mp hcl t' hm, fun H4 s4 => ⟨.non, rfl, rfl, _, rfl, ite_f rfl ⟨_, _, _, rfl, (s1.trans s3).trans s4⟩⟩⟩
        · have s3 : Same H1 (upd (upd H1 q1 (.tup [.int (i : Nat)])) q2 (.tup (ps ++ [.int (i : Nat)]))) := Same.new (Same.new (Same.refl H1) hn1) hn2
          exact ⟨x, t', b, .ref au, q2, ps ++ [.int i], rfl, e2.same (s1.trans s3), hu.same (s1.trans s3), upd_same, by rw [List.length_append, List.length_singleton]; omega, by omega, covL_all.mp hcl t' hm, fun H4 s4 => ⟨.non, rfl, rfl, _, rfl, ite_f rfl ⟨_, _, _, rfl, (s1.trans s3).trans s4⟩⟩⟩
      · obtain ⟨v3, v4, v5, rfl, s⟩ := p
        exact k _ s
theorem ok_bare_place  (T : Txt K mg base) (n : Nat) : CallD P w K mg base CX0 (3 + n) "bare_place" ["fountain", "part", "path"] [] (sp_bare K n) := callD_rec (sp := sp_bare K) T.d_bare_place (by
    rintro vs H Q E ⟨v, t, b, u, q, ps, _, _, _, _, _, z, _⟩
    exact absurd z (Nat.not_lt_zero _)
    ) (step_bare_place T) n
def sp_cut (K : PySem.W.Frag) (n : Nat) : Sp := fun vs H Q _ => ∃ v t b u, vs = [v, u] ∧ Ftn (cF K) H t v ∧ Ftn (cF K) H b u ∧ t.dep < n ∧ t.size ≤ 1048576 ∧ LamX.Tabs (TT K) H ∧ ∀ w H', LamX.ExtN H H' → LamX.Tabs (TT K) H' → Ftn (cF K) H' (cutT b t) w → Q w H'
theorem step_cut  (T : Txt K mg base) (n : Nat) (ih : CallD P w K mg base CX0 (6 + n) "cut" ["fountain", "part"] [] (sp_cut K n)) : CallD P w K mg base CX0 (6 + n + 1) "cut" ["fountain", "part"] [] (sp_cut K (n + 1)) := by
  refine T.d_cut.ok sc_cut (fun vs H Q E h => ?_) (fun f cdv A outer s H vs Q E hr h => ?_)
  · obtain ⟨v, t, b, u, rfl, _⟩ := h
    rfl
  · obtain ⟨v, t, b, u, rfl, hv, hu, hn, hsz, hT, k⟩ := h
    obtain ⟨av, dv, bv, nv, xv, rfl, hav, hbv, hnv, hkv⟩ := ftn_iff.mp hv
    obtain ⟨au, du, bu, nu, xu, rfl, hau, hbu, hnu, hku⟩ := ftn_iff.mp hu
    have hks := kids_size t
    have hsl := sizeLine_eq
    refine ⟨_, (pss_cons (ps_if (pt_cmpR (op_own_eq (ok_Fountain___eq__ T) (hr.mono (by omega)) pass0) (pv 0) (pv 1) (nomark _))
        (pss_one (ps_ret (pe_makeD (ok_Fountain___init__ T) (hr.mono (by omega)) (by rfl) pass0 (pa_cons (pe_gstr rfl T.gJET_TEXT) (pa_cons (pe_tup pa_nil) pa_nil)))))
        pss_nil)
      (pss_cons (ps_if (PW.pt (pw_or (pt_not (pt_val (pe_propD T.cls.c (ok_Fountain_is_open T) (hr.mono (by omega)) pass0 (pv 0) rfl))) (pw_or1 (pt_val (pe_propD T.cls.c (ok_Fountain_is_jet T) (hr.mono (by omega)) pass0 (pv 0) rfl)))))
        (pss_one (ps_ret (pv 0)))
        pss_nil)
      (pss_one (ps_ret (pe_callD (ok_made T) (hr.mono (by omega)) (by rfl) pass0 (pa_cons (pe_lc (own := [("branch", 2)]) (g := gName 2) (tt := tYes) (by rfl) sc_cut.nd (pi_tup (pe_propD T.cls.c (ok_Fountain_parts T) (hr.mono (by omega)) pass0 (pv 0) rfl)) (blkOk_by (by kernel_rfl)) (fun _ _ _ _ _ => pg_name (i := 2) sc_cut.nd rfl (by first | exact Or.inl rfl | exact Or.inr rfl)) (fun _ _ _ _ _ => pts_nil) (fun _ _ _ _ _ => (pe_callD ih (hr.mono (by omega)) (by rfl) pass0 (pa_cons (pv 2) (pa_cons (pv 1) pa_nil))))) pa_nil)))))), ?_⟩
    refine ⟨.ref av, rfl, .ref au, rfl, av, dv, _, au, du, _, rfl, rfl, hav, hau, ⟨_, t, _, b, rfl, hv, hu, _, rfl, _, rfl, ite2 (fun e => ?_) fun e => ?_⟩⟩
    · have e' : t = b := of_decide_eq_true e
      subst e'
      rw [cut_self] at k
      exact mk_jet fun v H' s f => k v H' (.of s) (Tabs.same hT s) f
    have hne : t ≠ b := fun z => e (decide_eq_true z)
    refine ⟨.ref av, rfl, ev_prop hv ⟨_, rfl, ite2 (fun e1 => ite_t rfl ⟨.ref av, rfl, ?_⟩) fun e1 => ⟨.ref av, rfl, ev_prop hv ⟨_, rfl, ite2 (fun e2 => ⟨.ref av, rfl, ?_⟩) fun e2 => ?_⟩⟩⟩⟩
    · refine k _ _ (LamX.ExtN.refl H) hT ?_
      rw [cut_closed hne (by simpa using e1)]
      exact hv
    · have e' : t = .jet := of_decide_eq_true e2
      subst e'
      exact k _ _ (LamX.ExtN.refl H) hT hv
    have hj : t.jts ≠ 0 := fun z => e1 (by rw [z]; rfl)
    cases t with
    | jet => exact absurd (decide_eq_true rfl) e2
    | bas l =>
      rw [cut_open hne hj] at k
      have hks2 : sizeL l ≤ (JW.T.bas l).size := hks
      refine ⟨.ref av, rfl, ev_kids hv fun b' xs' hb' hk' => ⟨b', rfl, ⟨xs', SqT.of hb'⟩, fun D hD => lc_ftnT (l := l) (g := cutT b) hD (SqT.of hb') hk' ?_ hT (fun _ => rfl) (fun x t' H' Q' ht' hx' hE' hT' q' => ?_) (fun H' ys hE hT2 hy hfy => ?_)⟩⟩
      · have h1 : xs'.length = l.length := hk'.len
        have h2 := length_le l
        omega
      · have h1 := dep_lt ht'
        have h2 := size_mem ht'
        exact ⟨x, rfl, .ref au, rfl, x, t', b, .ref au, rfl, hx', hu.ext hE', by omega, by omega, hT', q'⟩
      · have h1 := sizeL_map_le (l := l) fun t _ => cut_size b t
        exact ⟨D, ys, l.map (cutT b), rfl, .inl (SqL.of hy), hfy, by omega, hT2, fun w H'' e1 e2 e3 => k w H'' (hE.trans e1) e2 e3⟩
theorem ok_cut  (T : Txt K mg base) (n : Nat) : CallD P w K mg base CX0 (6 + n) "cut" ["fountain", "part"] [] (sp_cut K n) := callD_rec (sp := sp_cut K) T.d_cut (by
    rintro vs H Q E ⟨v, t, b, u, _, _, _, z, _⟩
    exact absurd z (Nat.not_lt_zero _)
    ) (step_cut T) n
def sp_fdiv (K : PySem.W.Frag) (n : Nat) : Sp := fun vs H Q _ => ∃ v t b u, vs = [v, u] ∧ Ftn (cF K) H t v ∧ Ftn (cF K) H b u ∧ 0 < b.jts ∧ cov b t = true ∧ t.dep < n ∧ t.dep < 121 ∧ t.size ≤ 1048576 ∧ LamX.Tabs (TT K) H ∧ ∀ w H', LamX.ExtN H H' → LamX.Tabs (TT K) H' → Ftn (cF K) H' (cutT b t) w → Q w H'
theorem ok_Fountain___floordiv__ (n : Nat) (T : Txt K mg base) : MethD P w K mg base CX0 (n + 9 + 1) (cF K) "__floordiv__" ["self", "other"] [] (sp_fdiv K n) := by
  refine T.m___floordiv__.ok sc_Fountain___floordiv__ (fun vs H Q E h => ?_) (fun f cdv A outer s H vs Q E hr h => ?_)
  · obtain ⟨v, t, b, u, rfl, _⟩ := h
    rfl
  · obtain ⟨v, t, b, u, rfl, hv, hu, hj, hc, hdn, hd, hsz, hT, k⟩ := h
    obtain ⟨av, dv, bv, nv, xv, rfl, hav, hbv, hnv, hkv⟩ := ftn_iff.mp hv
    obtain ⟨au, du, bu, nu, xu, rfl, hau, hbu, hnu, hku⟩ := ftn_iff.mp hu
    refine ⟨_, (pss_cons (ps_if (pt_not (pt_val (pe_callB call_isi (by rfl) T.n_isinstance (by decide +kernel) (pa_cons (pv 1) (pa_cons (pe_glob (v := .ref (cF K)) rfl T.cls.g rfl) pa_nil)))))
        pss_never
        pss_nil)
      (pss_cons (ps_if (pt_not (pt_val (pe_propD T.cls.c (ok_Fountain_is_open T) (hr.mono (by omega)) pass0 (pv 1) rfl)))
        pss_never
        pss_nil)
      (pss_cons (ps_set (i := 2) sc_Fountain___floordiv__.nd rfl (by first | exact Or.inl rfl | exact Or.inr rfl) (pe_callD (ok_bare_place T n) (hr.mono (by omega)) (by rfl) pass0 (pa_cons (pv 0) (pa_cons (pv 1) (pa_cons (pe_tup pa_nil) pa_nil)))))
      (pss_cons (ps_if (pt_cmpR op_notN (pv 2) pe_non (nomark _))
        pss_never
        pss_nil)
      (pss_one (ps_ret (pe_callD (ok_cut T n) (hr.mono (by omega)) (by rfl) pass0 (pa_cons (pv 0) (pa_cons (pv 1) pa_nil))))))))), ?_⟩
    refine ⟨.ref au, rfl, .ref au, .ref (cF K), _, _, true, rfl, .own _, T.cls.ty hau, isi_self, _, rfl, ite_f rfl ⟨.ref au, rfl, ev_prop hu ⟨_, rfl, ite_f (by rw [decide_eq_true hj]; rfl) ⟨.ref av, rfl, .ref au, rfl, Nat.zero_le _, fun q hq => ⟨.ref av, t, b, .ref au, q, [], rfl, hv.same (Same.new (Same.refl H) hq), hu.same (Same.new (Same.refl H) hq), upd_same, by show 0 + t.dep ≤ _; omega, hdn, hc, fun H1 s1 => ?_⟩⟩⟩⟩⟩
    have sH : Same H H1 := (Same.new (Same.refl H) hq).trans s1
    exact ⟨.non, rfl, rfl, _, rfl, ite_f rfl ⟨.ref av, rfl, .ref au, rfl, .ref av, t, b, .ref au, rfl, hv.same sH, hu.same sH, hdn, hsz, Tabs.same hT sH, fun w H' e1 e2 e3 => k w H' ((LamX.ExtN.of sH).trans e1) e2 e3⟩⟩
def asp_Fountain___floordiv__ : ASp
  | [.tree t, .tree b], L, Q, _ => 0 < b.jts ∧ cov b t = true ∧ t.dep < 121 ∧ t.size ≤ 1048576 ∧ Q (.tree (cutT b t)) L
  | _, _, _, _ => False
theorem okA_Fountain___floordiv__ (T : Txt K mg base) {scr : Option (Addr × List Int)} : MethD P w K mg base CX0 131 (cF K) "__floordiv__" ["self", "other"] [] (spA (cA K scr) asp_Fountain___floordiv__) :=
  (ok_Fountain___floordiv__ 121 T).imp fun vs H Q E ⟨ds, L, R, RX, r, g, h, pq, px⟩ => by
    unfold asp_Fountain___floordiv__ at h
    split at h
    · obtain ⟨h1, h2, h3, h4, h⟩ := h
      obtain ⟨v, w, rfl, r1, r2⟩ := repL_two r
      exact ⟨v, _, _, w, rfl, rep_tree.mp r1, rep_tree.mp r2, h1, h2, h3, h3, h4, g.tabs, fun z H' e' T' hf => pq _ L _ H' h (.extN e') (g.extN T' e') (rep_tree.mpr hf)⟩
    · exact h.elim

def WE (K : PySem.W.Frag) (H : Hp) (t : T) (y : V) : Prop := ∃ q b1 b2 ws es, y = .ref q ∧ SqT K H q [.ref b1, .ref b2] ∧ SqT K H b1 ws ∧ FtnL (cF K) H t.word ws ∧ SqT K H b2 es ∧ FtnL (cF K) H (endsW t.word) es
theorem WE.ext {K : PySem.W.Frag} {H H' : Hp} {t : T} {y : V} (h : WE K H t y) (e : LamX.ExtN H H') : WE K H' t y := by
  obtain ⟨q, b1, b2, ws, es, h1, h2, h3, h4, h5, h6⟩ := h
  exact ⟨q, b1, b2, ws, es, h1, seqTN h2 e, seqTN h3 e, h4.ext e, seqTN h5 e, h6.ext e⟩
theorem sqT_put {K : PySem.W.Frag} {H : Hp} {D a : Addr} {xs ys zs : List V} (hD : H D = some (.lst ys)) (h : SqT K H a xs) : SqT K (upd H D (.lst zs)) a xs := by
  have ne : ∀ o, H a = some o → o ≠ .lst ys → a ≠ D := fun o e n z => by
    rw [z, hD] at e
    exact n (Option.some.inj e).symm
  rcases h with (h | ⟨o, h⟩) | h
  · exact .inl (.inl (by rw [upd_ne (ne _ h (by intro z; cases z))]; exact h))
  · exact .inl (.inr ⟨o, by rw [upd_ne (ne _ h (by intro z; cases z))]; exact h⟩)
  · exact .inr h
theorem WE.put {K : PySem.W.Frag} {H : Hp} {D : Addr} {ys zs : List V} {t : T} {y : V} (hD : H D = some (.lst ys)) (h : WE K H t y) : WE K (upd H D (.lst zs)) t y := by
  obtain ⟨q, b1, b2, ws, es, h1, h2, h3, h4, h5, h6⟩ := h
  exact ⟨q, b1, b2, ws, es, h1, sqT_put hD h2, sqT_put hD h3, ftnL_extD hD (ExtD.put (ExtD.refl D H)) _ _ h4, sqT_put hD h5, ftnL_extD hD (ExtD.put (ExtD.refl D H)) _ _ h6⟩
def WEL (K : PySem.W.Frag) (H : Hp) (l : List T) (ys : List V) : Prop := ys.length = l.length ∧ ∀ (i : Nat) (y : V), ys[i]? = some y → ∃ t, l[i]? = some t ∧ WE K H t y
theorem lc_weL {K : PySem.W.Frag} {TT : List (Addr × Str)} {a : Addr} {xs : List V} {l : List T} {j : Nat} {te : TE} {σ : L2.St} {H1 : Hp} {D : Addr} {Qd : Hp → Prop} (hD : H1 D = none) (hl : SqL K H1 a xs) (hf : FtnL (cF K) H1 l xs) (hz : xs.length < sizeLine) (hT : LamX.Tabs TT H1)
    (hw : ∀ x : V, wipe ((wipe σ [j]).set j (some x)) [j] = wipe σ [j]) (hs : ∀ (x : V) (t : T) (H : Hp) (Q : VK), t ∈ l → Ftn (cF K) H t x → LamX.ExtN H1 H → LamX.Tabs TT H → (∀ y H', LamX.ExtN H H' → LamX.Tabs TT H' → WE K H' t y → Q y H') → te ((wipe σ [j]).set j (some x)) H Q)
    (hd : ∀ H ys, LamX.ExtN H1 H → LamX.Tabs TT H → H D = some (.lst ys) → WEL K H l ys → Qd H) : ∃ W : Nat → Nat → Hp → Prop, (∃ m, W 0 m (upd H1 D (.lst []))) ∧ ∀ i m H, W i m H →
      ((Itl K a).stop i H ∧ Qd H) ∨ ((Itl K a).go i H ∧ ∃ Nx : Hp → Prop, (∀ H', Nx H' → ∃ m', m' < m ∧ W (i + 1) m' H') ∧ ∀ x H', (Itl K a).yld i H x H' → gName j x (wipe σ [j]) H' fun σ2 H2 => wipe σ2 [j] = wipe σ [j] ∧ tYes σ2 H2 fun b H3 =>
        if b = true then te σ2 H3 fun y H4 => ∃ acc, H4 D = some (.lst acc) ∧ acc.length < sizeLine ∧ Nx (upd H4 D (.lst (acc ++ [y]))) else Nx H3) := by
  have hlen := hf.len
  refine lc_list (fun i H => LamX.ExtN H1 H ∧ LamX.Tabs TT H ∧ ∃ ys, H D = some (.lst ys) ∧ WEL K H (l.take i) ys) ⟨.of (Same.new (Same.refl H1) hD), Tabs.same hT (Same.new (Same.refl H1) hD), [], upd_same, by rw [List.take_zero]; exact ⟨rfl, fun i y h => by cases h⟩⟩ (fun i H _ p => seqN hl p.1) (fun i x H hx p => ?_) fun H p => ?_
  · obtain ⟨hE, hT2, ys, hy, hfl, hfy⟩ := p
    obtain ⟨t, e1, e2⟩ := hf.get hx
    have hi : i < l.length := (List.getElem?_eq_some_iff.mp e1).1
    have hyl : ys.length = i := by rw [hfl, List.length_take]; omega
    refine ⟨hw x, ?_⟩
    show te _ H _
    refine hs x t H _ (List.mem_of_getElem? e1) (e2.ext hE) hE hT2 fun y H' hE' hT' hy' => ⟨ys, hE' _ _ hy (fun ps z => by cases z), by omega, ?_, ?_, ys ++ [y], upd_same, ?_, fun k z hz => ?_⟩
    · exact fun c o ec n => by rw [upd_ne (ne_of_none ec hD)]; exact hE' _ _ (hE _ _ ec n) n
    · exact Tabs.put hT' (hE' _ _ hy (fun ps z => by cases z))
    · rw [List.length_append, List.length_singleton, List.length_take]
      omega
    · have hDy := hE' _ _ hy (fun ps z => by cases z)
      by_cases hk : k < ys.length
      · rw [List.getElem?_append_left hk] at hz
        obtain ⟨u, f1, f2⟩ := hfy k z hz
        refine ⟨u, ?_, (f2.ext hE').put hDy⟩
        rw [List.getElem?_take] at f1 ⊢
        rw [if_pos (by omega)] at f1
        rw [if_pos (by omega)]
        exact f1
      · have hk2 : k < (ys ++ [y]).length := (List.getElem?_eq_some_iff.mp hz).1
        rw [List.length_append, List.length_singleton] at hk2
        have hk3 : k = ys.length := by omega
        subst hk3
        rw [List.getElem?_append_right (Nat.le_refl _), Nat.sub_self] at hz
        have hz2 : y = z := Option.some.inj hz
        subst hz2
        refine ⟨t, ?_, hy'.put hDy⟩
        rw [List.getElem?_take, if_pos (by omega), hyl]
        exact e1
  · obtain ⟨hE, hT2, ys, hy, hfy⟩ := p
    rw [hlen, List.take_length] at hfy
    exact hd H ys hE hT2 hy hfy
theorem word_len0 : ∀ t : T, t.word.length ≤ t.size := by
  refine T.ind' (Nat.zero_le _) fun l ih => ?_
  show (lcsL (wordsL l)).length + 1 ≤ 1 + sizeL l
  cases hw : wordsL l with
  | nil =>
    show 0 + 1 ≤ _
    omega
  | cons w r =>
    have hm : w ∈ wordsL l := by rw [hw]; exact List.mem_cons_self
    obtain ⟨t, ht, _, e⟩ := mem_words.mp hm
    have h1 := (lcs_suf hm).length_le
    have h2 := ih t ht
    have h3 : t.size < 1 + sizeL l := size_mem ht
    rw [← hw]
    rw [e] at h2
    omega
theorem ftnL_take {C : Addr} {H : Hp} : ∀ (n : Nat) {l : List T} {vs : List V}, FtnL C H l vs → FtnL C H (l.take n) (vs.take n)
  | 0, _, _, _ => rfl
  | n + 1, [], vs, h => by
    have e : vs = [] := h
    subst e
    exact rfl
  | n + 1, t :: r, vs, h => by
    obtain ⟨v, q, rfl, h1, h2⟩ := (show ∃ v r', vs = v :: r' ∧ Ftn C H t v ∧ FtnL C H r r' from h)
    exact ⟨v, q.take n, rfl, h1, ftnL_take n h2⟩
theorem cut_ends {xs : List V} (m : Nat) : cutV xs none (some ((m : Int) + 1)) = xs.take (m + 1) := by
  unfold cutV
  have h3 : HT.sIx xs.length xs.length (some ((m : Int) + 1)) = min (m + 1) xs.length := by
    show (if (m : Int) + 1 < 0 then ((m : Int) + 1 + (xs.length : Int)).toNat else min ((m : Int) + 1).toNat xs.length) = _
    rw [if_neg (by omega), show ((m : Int) + 1).toNat = m + 1 by omega]
  have h4 : HT.sIx xs.length 0 none = 0 := rfl
  rw [h3, h4, List.drop_zero, Nat.sub_zero]
  exact List.take_eq_take_min.symm
def sp_wae (K : PySem.W.Frag) (n : Nat) : Sp := fun vs H Q _ => ∃ v t, vs = [v] ∧ Ftn (cF K) H t v ∧ Op t ∧ t.dep < n ∧ t.dep < 121 ∧ t.size ≤ 1048576 ∧ LamX.Tabs (TT K) H ∧ ∀ y H', LamX.ExtN H H' → LamX.Tabs (TT K) H' → WE K H' t y → Q y H'
theorem step_word_and_ends  (T : Txt K mg base) (n : Nat) (ih : CallD P w K mg base CX0 (12 + n) "word_and_ends" ["fountain"] [] (sp_wae K n)) : CallD P w K mg base CX0 (12 + n + 1) "word_and_ends" ["fountain"] [] (sp_wae K (n + 1)) := by
  refine T.d_word_and_ends.ok sc_word_and_ends (fun vs H Q E h => ?_) (fun f cdv A outer s H vs Q E hr h => ?_)
  · obtain ⟨v, t, rfl, _⟩ := h
    rfl
  · obtain ⟨v, t, rfl, hv, ho, hn, hd, hz, hT, k⟩ := h
    have hsl := sizeLine_eq
    refine ⟨_, (pss_cons (ps_if (pt_val (pe_propD T.cls.c (ok_Fountain_is_jet T) (hr.mono (by omega)) pass0 (pv 0) rfl))
        (pss_one (ps_ret (pe_tup (pa_cons (pe_tup pa_nil) (pa_cons (pe_tup (pa_cons (pv 0) pa_nil)) pa_nil)))))
        pss_nil)
      (pss_cons (ps_setLc (i := 1) (own := [("branch", 4)]) (g := gName 4) (tt := tYes) (by rfl) sc_word_and_ends.nd rfl rfl (sw_true rfl rfl rfl (by decide +kernel)) (pi_list (pe_callD (ok_open_branches T) (hr.mono (by omega)) (by rfl) pass0 (pa_cons (pv 0) pa_nil))) (blkOk_by (by kernel_rfl)) (fun _ _ _ _ _ => pg_name (i := 4) sc_word_and_ends.nd rfl (by first | exact Or.inl rfl | exact Or.inr rfl)) (fun _ _ _ _ _ => pts_nil) (fun _ _ _ _ _ => (pe_callD ih (hr.mono (by omega)) (by rfl) pass0 (pa_cons (pv 4) pa_nil))))
      (pss_cons (ps_set (i := 3) sc_word_and_ends.nd rfl (by first | exact Or.inl rfl | exact Or.inr rfl) (pe_callD (ok_shared_tail T) (hr.mono (by omega)) (by rfl) pass0 (pa_cons (pe_lc (own := [("word", 5), ("ends", 2)]) (g := gTup K 2 (gCons (gName 5) (gCons (gName 2) gNil))) (tt := tYes) (by rfl) sc_word_and_ends.nd (pi_list (pv 1)) (blkOk_by (by kernel_rfl)) (fun _ _ _ _ _ => pg_tupK (K := K) rfl rfl (pgs_cons (pg_name (i := 5) sc_word_and_ends.nd rfl (by first | exact Or.inl rfl | exact Or.inr rfl)) (pgs_cons (pg_name (i := 2) sc_word_and_ends.nd rfl (by first | exact Or.inl rfl | exact Or.inr rfl)) pgs_nil))) (fun _ _ _ _ _ => pts_nil) (fun _ _ _ _ _ => (pv 5))) pa_nil)))
      (pss_cons (ps_set (i := 2) sc_word_and_ends.nd rfl (by first | exact Or.inl rfl | exact Or.inr rfl) (pe_via (pe_slice sl_tupA (pe_ix ix_tup (pe_ix ix_list (pv 1) pe_int (fun _ _ => rfl)) pe_int (fun _ _ => rfl)) po_none (po_some (pe_op op_add (pe_callB call_len (by rfl) T.n_len (by decide +kernel) (pa_cons (pv 3) pa_nil)) pe_int)))))
      (pss_one (ps_ret (pe_tup (pa_cons (pe_via (pe_op op_catA (pe_tup (pa_cons (pe_op (op_own (op := .FloorDiv) T.cls.sf (ok_Fountain___floordiv__ (n + 1) T) (hr.mono (by omega)) pass0) (pv 0) (pe_ix ix_tup (pv 2) (pe_un un_neg pe_int) (fun _ _ => rfl))) pa_nil)) (pv 3))) (pa_cons (pe_op op_catA (pv 2) (pe_tup (pa_cons (pv 0) pa_nil))) pa_nil))))))))), ?_⟩
    cases t with
    | jet =>
      refine ⟨v, rfl, ev_prop hv ⟨_, rfl, ite_t (decide_eq_true rfl) ⟨Nat.zero_le _, fun b1 hb1 => ⟨v, rfl, sz1, fun b2 hb2 => ⟨sz2, fun q hq => ?_⟩⟩⟩⟩⟩
      have s1 : Same H (upd (upd (upd H b1 (.tup [])) b2 (.tup [v])) q (.tup [.ref b1, .ref b2])) := Same.new (Same.new (Same.new (Same.refl H) hb1) hb2) hq
      exact k _ _ (.of s1) (Tabs.same hT s1) ⟨q, b1, b2, [], [v], rfl, SqT.of upd_same, SqT.of (upd_old (upd_old upd_same hb2) hq), rfl, SqT.of (upd_old upd_same hq), ⟨_, _, rfl, hv.same s1, rfl⟩⟩
    | bas l =>
      have hwp := word_part ho
      have hcl := canL_iff.mp ho.1.2
      refine ⟨v, rfl, ev_prop hv ⟨_, rfl, ite_f (decide_eq_false fun z => by cases z) ?_⟩⟩
      have hzl : 1 + sizeL l ≤ 1048576 := hz
      refine ⟨v, rfl, v, l, rfl, hv, by omega, fun D ys H1 hD s1 h1 hf1 => ⟨D, rfl, ⟨ys, SqL.of h1⟩, fun D2 hD2 => lc_weL hD2 (SqL.of h1) hf1 ?_ (Tabs.same hT s1) (fun _ => rfl) (fun x t H' Q' ht hx e' T' q => ?_) fun H2 ws e2 T2 h2 hW2 => ?_⟩⟩
      · have h3 := opN_len l l.length
        have h4 := length_le l
        have h5 : ys.length = (opN l l.length).length := hf1.len
        omega
      · obtain ⟨hm, hj⟩ := opB_mem.mp ht
        have h3 := dep_lt hm
        have h4 := size_mem hm
        exact ⟨x, rfl, x, t, rfl, hx, ⟨hcl t hm, hj⟩, by omega, by omega, by omega, T', q⟩
      have hob : (opB l).length ≤ l.length := opN_len l l.length
      have hll := length_le l
      refine ⟨.ref D2, rfl, D2, rfl, ⟨ws, SqL.of h2⟩, fun D3 hD3 => lc_list (fun i H' => Same H2 H' ∧ ∃ zs, H' D3 = some (.lst zs) ∧ Wds K H2 (((opB l).take i).map JW.T.word) zs) ⟨Same.new (Same.refl H2) hD3, [], upd_same, by rw [List.take_zero]; exact ⟨rfl, fun i y h => by cases h⟩⟩ (fun i H' _ p => SqL.of (p.1 _ _ h2)) (fun i x H' hx p => ?_) fun H3 p => ?_⟩
      · obtain ⟨s', zs, hy, hl', hf'⟩ := p
        obtain ⟨t, e1, q, b1, b2, xs1, xs2, rfl, g1, g2, g3, g4, g5⟩ := hW2.2 i x hx
        have hi : i < (opB l).length := (List.getElem?_eq_some_iff.mp e1).1
        have hzs : zs.length = i := by rw [hl', List.length_map, List.length_take]; omega
        refine ⟨q, _, rfl, seqTN g1 (.of s'), rfl, _, _, rfl, _, _, rfl, rfl, rfl, ?_⟩
        refine ⟨.ref b1, rfl, zs, hy, by omega, fun c o ec => by rw [upd_ne (ne_of_none ec hD3)]; exact s' _ _ ec, zs ++ [.ref b1], upd_same, ?_, fun k z hz => ?_⟩
        · rw [List.length_append, List.length_singleton, List.length_map, List.length_take]
          omega
        · by_cases hk : k < zs.length
          · rw [List.getElem?_append_left hk] at hz
            obtain ⟨w, b, xs, f1, f2⟩ := hf' k z hz
            refine ⟨w, b, xs, ?_, f2⟩
            rw [List.getElem?_map, List.getElem?_take] at f1 ⊢
            rw [if_pos (by omega)] at f1
            rw [if_pos (by omega)]
            exact f1
          · have hk2 : k < (zs ++ [V.ref b1]).length := (List.getElem?_eq_some_iff.mp hz).1
            rw [List.length_append, List.length_singleton] at hk2
            have hk3 : k = zs.length := by omega
            subst hk3
            rw [List.getElem?_append_right (Nat.le_refl _), Nat.sub_self] at hz
            have hz2 : V.ref b1 = z := Option.some.inj hz
            subst hz2
            refine ⟨t.word, b1, xs1, ?_, rfl, g2, g3⟩
            rw [List.getElem?_map, List.getElem?_take, if_pos (by omega), hzs, e1]
            rfl
      obtain ⟨s3, zs, h3, hW3⟩ := p
      rw [hW2.1, List.take_length] at hW3
      have hx5 : lcsL ((opB l).map JW.T.word) = lcsL (wordsL l) := opB_words ho.2
      have T3 := Tabs.same T2 s3
      refine ⟨D3, zs, (opB l).map JW.T.word, rfl, SqL.of h3, hW3.same s3, fun z => opB_ne ho.2 (List.map_eq_nil_iff.mp z), by rw [List.length_map]; omega, fun w hw => ?_, fun q5 ts H4 s4 g5 f5 => ?_⟩
      · obtain ⟨t, ht, rfl⟩ := List.mem_map.mp hw
        have h6 := word_len0 t
        have h7 := size_mem (opB_mem.mp ht).1
        omega
      rw [hx5] at f5
      have T4 := Tabs.same T3 s4
      have h4 : H4 D2 = some (.lst ws) := s4 _ _ (s3 _ _ h2)
      obtain ⟨t0, ht0⟩ : ∃ t0, (opB l)[0]? = some t0 := by
        cases hb : opB l with
        | nil => exact absurd hb (opB_ne ho.2)
        | cons t r => exact ⟨t, rfl⟩
      have hw0 : ws[0]? = some (ws[0]'(by have := List.length_pos_iff.mpr (opB_ne ho.2); have := hW2.1; omega)) := List.getElem?_eq_getElem _
      obtain ⟨t0', e0, q0, b1, b2, xs1, xs2, ew0, g1, g2, g3, g4, g6⟩ := hW2.2 0 _ hw0
      rw [ht0] at e0
      obtain rfl := Option.some.inj e0
      rw [ew0] at hw0
      have s24 : Same H2 H4 := s3.trans s4
      have hsuf : lcsL (wordsL l) <:+ t0.word := lcs_suf (mem_words.mpr ⟨t0, (opB_mem.mp (List.mem_of_getElem? ht0)).1, (opB_mem.mp (List.mem_of_getElem? ht0)).2, rfl⟩)
      have hts : ts.length = (lcsL (wordsL l)).length := f5.len
      have hx6 := g6.len
      have f6 := ftnL_take ((lcsL (wordsL l)).length + 1) (g6.same s24)
      rw [endsW_take hsuf] at f6
      refine ⟨fun v' H5 => ∃ be xe, v' = .ref be ∧ Same H4 H5 ∧ SqT K H5 be xe ∧ FtnL (cF K) H5 (endsW (lcsL (wordsL l))) xe, ?_, ?_⟩
      · refine ⟨.ref D2, rfl, D2, ws, 0, .ref q0, rfl, rfl, SqL.of h4, atI_nat (j := 0) hw0, q0, [.ref b1, .ref b2], 1, .ref b2, rfl, rfl, seqTN g1 (.of s24), atI_nat (j := 1) rfl, .ref q5, rfl, .ref q5, ts.length, rfl, .inr ⟨ts, g5, rfl⟩, _, _, rfl, rfl, _, rfl, b2, xs2, rfl, seqTN g4 (.of s24), fun hwh => ⟨b2, xs2, rfl, Same.refl _, seqTN g4 (.of s24), ?_⟩, fun hnw p hp => ⟨p, _, rfl, Same.new (Same.refl H4) hp, SqT.of upd_same, ?_⟩⟩
        · have h8 : min (((ts.length : Nat) : Int) + 1).toNat xs2.length = xs2.length := by
            have h9 : HT.sIx xs2.length xs2.length (some (((ts.length : Nat) : Int) + 1)) = min (((ts.length : Nat) : Int) + 1).toNat xs2.length := by
              show (if ((ts.length : Nat) : Int) + 1 < 0 then (((ts.length : Nat) : Int) + 1 + (xs2.length : Int)).toNat else min (((ts.length : Nat) : Int) + 1).toNat xs2.length) = _
              rw [if_neg (by omega)]
            rw [← h9]
            exact hwh.2
          rw [List.take_of_length_le (by omega)] at f6
          exact f6
        · have h8 := cut_ends (xs := xs2) ts.length
          rw [hts] at h8
          show FtnL (cF K) _ _ (cutV xs2 none (some (((ts.length : Nat) : Int) + 1)))
          rw [hts, h8]
          exact f6.same (Same.new (Same.refl H4) hp)
      rintro v' H5 ⟨be, xe, rfl, s5, g7, f7⟩
      have s45 : Same H2 H5 := s24.trans s5
      have x5 : LamX.ExtN H H5 := ((LamX.ExtN.of s1).trans e2).trans (.of s45)
      have T5 := Tabs.same T4 s5
      have hv5 := hv.ext x5
      have hE : Op (prodT (lcsL (wordsL l))) := ⟨prod_can fun q hq => (hwp.1 q hq).1, prod_open fun q hq => (hwp.1 q hq).2⟩
      have hxl := f7.len
      have hel := endsW_len (lcsL (wordsL l))
      have hxe : xe[xe.length - 1]? = some (xe[xe.length - 1]'(by omega)) := List.getElem?_eq_getElem (by omega)
      obtain ⟨tE, htE, fE⟩ := f7.get hxe
      rw [hxl, endsW_last] at htE
      obtain rfl := Option.some.inj htE
      have hat : atI xe (-1) = some (xe[xe.length - 1]'(by omega)) := (atI_neg (c := 0) (by omega)).trans hxe
      have hcov : cov (prodT (lcsL (wordsL l))) (.bas l) = true := by
        rw [← hwp.2.2.1]
        exact cov_grf _ _
      have g5' := seqTN g5 (.of s5)
      have f5' := f5.same s5
      have hww : (JW.T.bas l).word = cutT (prodT (lcsL (wordsL l))) (.bas l) :: lcsL (wordsL l) := rfl
      refine ⟨fun v' H7 => ∃ bw xw, v' = .ref bw ∧ LamX.ExtN H5 H7 ∧ LamX.Tabs (TT K) H7 ∧ SqT K H7 bw xw ∧ FtnL (cF K) H7 (JW.T.bas l).word xw, ?_, ?_⟩
      · refine ⟨v, rfl, .ref be, rfl, _, rfl, be, xe, -1, _, rfl, rfl, g7, hat, own_of (sp := sp_fdiv K (n + 1)) (E := E0) hv5 fE ⟨v, .bas l, _, _, rfl, hv5, fE, Nat.pos_of_ne_zero hE.2, hcov, by omega, by omega, by omega, T5, fun wq H6 e6 T6 fq => ⟨fq.ne, sz1, fun p6 hp6 => ?_⟩⟩⟩
        have s6 : Same H6 (upd H6 p6 (.tup [wq])) := Same.new (Same.refl H6) hp6
        have h6 : upd H6 p6 (.tup [wq]) p6 = some (.tup [wq]) := upd_same
        have T6' := Tabs.same T6 s6
        have e6' : LamX.ExtN H5 (upd H6 p6 (.tup [wq])) := e6.trans (.of s6)
        have fq6 := fq.same s6
        generalize upd H6 p6 (.tup [wq]) = H7 at s6 h6 T6' e6' fq6 ⊢
        refine ⟨_, rfl, p6, q5, [wq], ts, rfl, rfl, SqT.of h6, seqTN g5' e6', ?_, fun z => absurd z (by simp), fun _ z => ?_, fun _ _ p7 hp7 => ?_⟩
        · show 1 + ts.length ≤ sizeLine
          have := word_len0 (.bas l)
          rw [hww, List.length_cons] at this
          omega
        · refine ⟨p6, [wq], rfl, e6', T6', SqT.of h6, ?_⟩
          rw [hww]
          have z2 : lcsL (wordsL l) = [] := List.eq_nil_of_length_eq_zero (by rw [← hts, z]; rfl)
          rw [z2] at fq6 ⊢
          exact FtnL.one fq6
        · have s7 : Same H7 (upd H7 p7 (.tup ([wq] ++ ts))) := Same.new (Same.refl H7) hp7
          refine ⟨p7, _, rfl, e6'.trans (.of s7), Tabs.same T6' s7, SqT.of upd_same, ?_⟩
          rw [hww]
          exact ⟨_, _, rfl, fq6.same s7, (f5'.ext e6').same s7⟩
      rintro v' H7 ⟨bw, xw, rfl, e7, T7, g8, f8⟩
      refine ⟨.ref be, rfl, v, rfl, sz1, fun p8 hp8 => ?_⟩
      have s8 : Same H7 (upd H7 p8 (.tup [v])) := Same.new (Same.refl H7) hp8
      have h8 : upd H7 p8 (.tup [v]) p8 = some (.tup [v]) := upd_same
      have T8 := Tabs.same T7 s8
      generalize upd H7 p8 (.tup [v]) = H8 at s8 h8 T8 ⊢
      have e8 : LamX.ExtN H5 H8 := e7.trans (.of s8)
      refine ⟨be, p8, xe, [v], rfl, rfl, seqTN g7 e8, SqT.of h8, ?_, fun z => ?_, fun _ z => absurd z (by simp), fun _ _ p9 hp9 => ⟨sz2, fun pq hpq => ?_⟩⟩
      · show xe.length + 1 ≤ sizeLine
        have := word_len0 (.bas l)
        rw [hww, List.length_cons] at this
        omega
      · rw [z] at hxl
        rw [hel] at hxl
        cases hxl
      · have s9 : Same H8 (upd (upd H8 p9 (.tup (xe ++ [v]))) pq (.tup [.ref bw, .ref p9])) := Same.new (Same.new (Same.refl H8) hp9) hpq
        refine k _ _ ((x5.trans e8).trans (.of s9)) (Tabs.same T8 s9) ⟨pq, bw, p9, xw, xe ++ [v], rfl, SqT.of upd_same, seqTN g8 ((LamX.ExtN.of s8).trans (.of s9)), (f8.same s8).same s9, SqT.of (upd_old upd_same hpq), ?_⟩
        rw [hww, endsW_cons, ← hww, (word_prod _ ho).1]
        exact ((f7.ext e8).same s9).app (FtnL.one (hv5.ext (e8.trans (.of s9))))
theorem ok_word_and_ends  (T : Txt K mg base) (n : Nat) : CallD P w K mg base CX0 (12 + n) "word_and_ends" ["fountain"] [] (sp_wae K n) := callD_rec (sp := sp_wae K) T.d_word_and_ends (by
    rintro vs H Q E ⟨v, t, _, _, _, z, _⟩
    exact absurd z (Nat.not_lt_zero _)
    ) (step_word_and_ends T) n
def sp_word_of (K : PySem.W.Frag) : Sp := fun vs H Q _ => ∃ v t, vs = [v] ∧ Ftn (cF K) H t v ∧ Op t ∧ t.dep < 121 ∧ t.size ≤ 1048576 ∧ LamX.Tabs (TT K) H ∧ ∀ q ws H', LamX.ExtN H H' → LamX.Tabs (TT K) H' → SqT K H' q ws → FtnL (cF K) H' t.word ws → Q (.ref q) H'
theorem ok_word_of  (T : Txt K mg base) : CallD P w K mg base CX0 134 "word_of" ["fountain"] [] (sp_word_of K) := by
  refine T.d_word_of.ok sc_word_of (fun vs H Q E h => ?_) (fun f cdv A outer s H vs Q E hr h => ?_)
  · obtain ⟨v, t, rfl, _⟩ := h
    rfl
  · obtain ⟨v, t, rfl, hv, ho, hd, hz, hT, k⟩ := h
    refine ⟨_, (pss_one (ps_ret (pe_ix ix_tup (pe_callD (ok_word_and_ends T 121) (hr.mono (by decide)) (by rfl) pass0 (pa_cons (pv 0) pa_nil)) pe_int (fun _ _ => rfl)))), ?_⟩
    refine ⟨v, rfl, v, t, rfl, hv, ho, hd, by omega, hz, hT, fun y H' e' T' hy => ?_⟩
    obtain ⟨q, b1, b2, ws, es, rfl, g1, g2, g3, g4, g5⟩ := hy
    exact ⟨q, [.ref b1, .ref b2], 0, .ref b1, rfl, rfl, g1, atI_nat (j := 0) rfl, k b1 ws H' e' T' g2 g3⟩
def asp_word_of : ASp
  | [.tree t], L, Q, _ => Op t ∧ t.dep < 121 ∧ t.size ≤ 1048576 ∧ Q (.tup (t.word.map .tree)) L
  | _, _, _, _ => False
theorem okA_word_of (T : Txt K mg base) {scr : Option (Addr × List Int)} : CallD P w K mg base CX0 134 "word_of" ["fountain"] [] (spA (cA K scr) asp_word_of) :=
  (ok_word_of T).imp fun vs H Q E ⟨ds, L, R, RX, r, g, h, pq, px⟩ => by
    unfold asp_word_of at h
    split at h
    · obtain ⟨h1, h2, h3, h⟩ := h
      obtain ⟨v, rfl, r1⟩ := repL_one r
      exact ⟨v, _, rfl, rep_tree.mp r1, h1, h2, h3, g.tabs, fun q ws H' e' T' hs hf => pq _ L _ H' h (.extN e') (g.extN T' e') (rep_tup.mpr ⟨q, ws, rfl, hs, RepL.trees.mpr hf⟩)⟩
    · exact h.elim

theorem ok_TooLarge___init__ (T : Txt K mg base) : ErrD P w K mg base 2 "TooLarge" (He.ga K "TooLarge") ["self", "pieces"] (spErr K (He.ga K "TooLarge") "pieces") := by
  refine T.e_TooLarge.ok sc_TooLarge___init__ (fun vs H Q E h => ?_) (fun f cdv A outer s H vs Q E hr h => ?_)
  · obtain ⟨a, v, rfl, _⟩ := h
    rfl
  · obtain ⟨a, v, rfl, ha, k⟩ := h
    refine ⟨_, (pss_cons (ps_expr (pe_cinit (by rfl) T.b_JetError.1 T.b_JetError.2 (pa_cons (pv 0) (pa_cons pe_str pa_nil))))
      (pss_one (ps_ost (pv 0) (pv 1)))), ?_⟩
    exact ⟨.ref a, rfl, a, He.ga K "TooLarge", [.str "TooLarge"], rfl, by show 1 ≤ 1000; decide, T.e_TooLarge.c.o, ha, v, rfl, .ref a, rfl, a, He.ga K "TooLarge", rfl, T.e_TooLarge.c.o, T.na_TooLarge, .inl ⟨ha, fun dx nd ne => k dx nd ne⟩⟩
theorem ok_TooDeep___init__ (T : Txt K mg base) : ErrD P w K mg base 2 "TooDeep" (He.ga K "TooDeep") ["self", "basins"] (spErr K (He.ga K "TooDeep") "basins") := by
  refine T.e_TooDeep.ok sc_TooDeep___init__ (fun vs H Q E h => ?_) (fun f cdv A outer s H vs Q E hr h => ?_)
  · obtain ⟨a, v, rfl, _⟩ := h
    rfl
  · obtain ⟨a, v, rfl, ha, k⟩ := h
    refine ⟨_, (pss_cons (ps_expr (pe_cinit (by rfl) T.b_JetError.1 T.b_JetError.2 (pa_cons (pv 0) (pa_cons pe_str pa_nil))))
      (pss_one (ps_ost (pv 0) (pv 1)))), ?_⟩
    exact ⟨.ref a, rfl, a, He.ga K "TooDeep", [.str "TooDeep"], rfl, by show 1 ≤ 1000; decide, T.e_TooDeep.c.o, ha, v, rfl, .ref a, rfl, a, He.ga K "TooDeep", rfl, T.e_TooDeep.c.o, T.na_TooDeep, .inl ⟨ha, fun dx nd ne => k dx nd ne⟩⟩
def OutN (K : PySem.W.Frag) (t : T) (H : Hp) (E : XK) (k : Prop) : Prop :=
  (5000 < t.size → ∀ d H', Same H H' → H' d = some (.xd [("pieces", .int (t.size : Nat))]) → E (.ref (He.ga K "TooLarge")) (some d) H') ∧
  (t.size ≤ 5000 → 120 < t.dep → ∀ d H', Same H H' → H' d = some (.xd [("basins", .int (t.dep : Nat))]) → E (.ref (He.ga K "TooDeep")) (some d) H') ∧ (t.size ≤ 5000 → t.dep ≤ 120 → k)
def sp_check_numbers_x (K : PySem.W.Frag) : Sp := fun vs H Q E => ∃ n t, vs = [.ref n] ∧ H n = some (.tup (nums t)) ∧ OutN K t H E (Q .non H)
theorem ok_check_numbers_x  (T : Txt K mg base) : CallD P w K mg base (L2.CX P w) 4 "check_numbers" ["numbers"] [] (sp_check_numbers_x K) := by
  refine T.d_check_numbers.okX sc_check_numbers (fun vs H Q E h => ?_) (fun f cdv A outer s H vs Q E hr h => ?_)
  · obtain ⟨n, t, rfl, _⟩ := h
    rfl
  · obtain ⟨n, t, rfl, hn, k1, k2, k3⟩ := h
    refine ⟨_, (pss_cons (ps_if (pt_cmpR op_gt (pe_ix ix_tup (pv 0) pe_int (fun _ _ => rfl)) (pe_gint rfl T.gMOST) (nomark _))
        (pss_one (ps_raise rfl (takes_of rfl rfl rfl rfl) (pmk_err (ok_TooLarge___init__ T) (hr.mono (by decide)) (by rfl) (pe_ix ix_tup (pv 0) pe_int (fun _ _ => rfl)))))
        pss_nil)
      (pss_one (ps_if (pt_cmpR op_gt (pe_ix ix_tup (pv 0) pe_int (fun _ _ => rfl)) (pe_gint rfl T.gDEEPEST) (nomark _))
        (pss_one (ps_raise rfl (takes_of rfl rfl rfl rfl) (pmk_err (ok_TooDeep___init__ T) (hr.mono (by decide)) (by rfl) (pe_ix ix_tup (pv 0) pe_int (fun _ _ => rfl)))))
        pss_nil))), ?_⟩
    refine ⟨.ref n, rfl, n, _, _, _, rfl, rfl, SqT.of hn, rfl, _, _, rfl, rfl, _, rfl, ite2 (fun e => ?_) fun e => ⟨.ref n, rfl, n, _, _, _, rfl, rfl, SqT.of hn, rfl, _, _, rfl, rfl, _, rfl, ite2 (fun e2 => ?_) fun e2 => ?_⟩⟩
    · have h1 := of_decide_eq_true e
      exact ⟨.ref n, rfl, n, _, _, _, rfl, rfl, SqT.of hn, rfl, fun d H' s _ z => k1 (by omega) d H' s z⟩
    · have h1 : ¬ ((5000 : Int) < (t.size : Nat)) := fun z => e (decide_eq_true z)
      have h2 := of_decide_eq_true e2
      exact ⟨.ref n, rfl, n, _, _, _, rfl, rfl, SqT.of hn, rfl, fun d H' s _ z => k2 (by omega) (by omega) d H' s z⟩
    · have h1 : ¬ ((5000 : Int) < (t.size : Nat)) := fun z => e (decide_eq_true z)
      have h2 : ¬ ((120 : Int) < (t.dep : Nat)) := fun z => e2 (decide_eq_true z)
      exact k3 (by omega) (by omega)
def OutF (K : PySem.W.Frag) (t : T) (H : Hp) (Q : VK) (E : XK) : Prop :=
  (5000 < t.size → ∀ d H', LamX.ExtN H H' → LamX.Tabs (TT K) H' → H' d = some (.xd [("pieces", .int (t.size : Nat))]) → E (.ref (He.ga K "TooLarge")) (some d) H') ∧
  (t.size ≤ 5000 → 120 < t.dep → ∀ d H', LamX.ExtN H H' → LamX.Tabs (TT K) H' → H' d = some (.xd [("basins", .int (t.dep : Nat))]) → E (.ref (He.ga K "TooDeep")) (some d) H') ∧
  (t.size ≤ 5000 → t.dep ≤ 120 → ∀ w H', LamX.ExtN H H' → LamX.Tabs (TT K) H' → Ftn (cF K) H' t w → Q w H')
theorem OutF.from {K : PySem.W.Frag} {t : T} {H H1 : Hp} {Q : VK} {E : XK} (o : OutF K t H Q E) (e : LamX.ExtN H H1) : OutF K t H1 Q E :=
  ⟨fun h d H' e' => o.1 h d H' (e.trans e'), fun h h2 d H' e' => o.2.1 h h2 d H' (e.trans e'), fun h h2 w H' e' => o.2.2 h h2 w H' (e.trans e')⟩
theorem OutF.nums {K : PySem.W.Frag} {t : T} {H : Hp} {Q : VK} {E : XK} {k : Prop} (o : OutF K t H Q E) (hT : LamX.Tabs (TT K) H) (h : t.size ≤ 5000 → t.dep ≤ 120 → k) : OutN K t H E k :=
  ⟨fun h d H' s => o.1 h d H' (.of s) (Tabs.same hT s), fun h h2 d H' s => o.2.1 h h2 d H' (.of s) (Tabs.same hT s), h⟩
def sp_allowed (K : PySem.W.Frag) : Sp := fun vs H Q E => ∃ v t, vs = [v] ∧ Ftn (cF K) H t v ∧ LamX.Tabs (TT K) H ∧ OutF K t H Q E
theorem ok_allowed  (T : Txt K mg base) : CallD P w K mg base (L2.CX P w) 5 "allowed" ["fountain"] [] (sp_allowed K) := by
  refine T.d_allowed.okX sc_allowed (fun vs H Q E h => ?_) (fun f cdv A outer s H vs Q E hr h => ?_)
  · obtain ⟨v, t, rfl, _⟩ := h
    rfl
  · obtain ⟨v, t, rfl, hf, hT, k⟩ := h
    obtain ⟨a, dx, b, n, vs, rfl, ha, hb, hn, hk⟩ := ftn_iff.mp hf
    refine ⟨_, (pss_cons (ps_expr (pe_callD (ok_check_numbers_x T) (hr.mono (by decide)) (by rfl) (passE rfl rfl rfl rfl) (pa_cons (pe_fld (pv 0) rfl) pa_nil)))
      (pss_one (ps_ret (pv 0)))), ?_⟩
    exact ⟨.ref a, rfl, a, _, dx, _, _, rfl, ha, T.cls.c, T.cls.nn, fl_n, n, t, rfl, hn, k.nums hT fun h1 h2 => ⟨.ref a, rfl, k.2.2 h1 h2 _ H (LamX.ExtN.refl H) hT hf⟩⟩
theorem out_low {K : PySem.W.Frag} {scr : Option (Addr × List Int)} {t : T} {H : Hp} {L : Store} {R : AQ} {RX : AX} {Q : VK} {E : XK} (h : outD t L R RX) (g : Good (cA K scr) L H) (pq : Pq (cA K scr) H R Q) (px : Px (cA K scr) H RX E) : OutF K t H Q E := by
  refine ⟨fun h5 d H' e' T' hd => ?_, fun h5 h12 d H' e' T' hd => ?_, fun h5 h12 w H' e' T' hf => pq _ L _ H' (h.2.2 h5 h12) (.extN e') (g.extN T' e') (rep_tree.mpr hf)⟩
  · exact px "TooLarge" _ L H' (some d) (h.1 h5) (.extN e') (g.extN T' e') (.inr ⟨"pieces", _, d, _, rfl, rfl, hd, rep_int.mpr rfl⟩)
  · exact px "TooDeep" _ L H' (some d) (h.2.1 h5 h12) (.extN e') (g.extN T' e') (.inr ⟨"basins", _, d, _, rfl, rfl, hd, rep_int.mpr rfl⟩)

def sp_product_numbers (K : PySem.W.Frag) : Sp := fun vs H Q _ => ∃ n m a b, vs = [.ref n, .ref m] ∧ H n = some (.tup (nums a)) ∧ H m = some (.tup (nums b)) ∧ Can a ∧ (a.jts < 18446744073709551616 ∨ b.size < 18446744073709551616) ∧ ∀ p H', Same H H' → H' p = some (.tup (nums (JW.T.grf b a))) → Q (.ref p) H'
theorem ok_product_numbers  (T : Txt K mg base) : CallD P w K mg base CX0 1 "product_numbers" ["one", "other"] [] (sp_product_numbers K) := by
  refine T.d_product_numbers.ok sc_product_numbers (fun vs H Q E h => ?_) (fun f cdv A outer s H vs Q E hr h => ?_)
  · obtain ⟨n, m, a, b, rfl, _⟩ := h
    rfl
  · obtain ⟨n, m, a, b, rfl, hn, hm, hc, hj, k⟩ := h
    have hjb := jts_le b
    have cmA : CMul ((a.jts : Nat) : Int) ((b.size : Nat) - 1 : Int) := hj.elim (fun h => .inl ⟨by omega, by omega⟩) fun h => .inr ⟨by omega, by omega⟩
    have cmB : CMul ((a.jts : Nat) : Int) ((b.jts : Nat) : Int) := hj.elim (fun h => .inl ⟨by omega, by omega⟩) fun h => .inr ⟨by omega, by omega⟩
    have hgs := grf_sizeI b a
    have hgj := grf_jts b a
    have hgd := grf_dep b a
    refine ⟨_, (pss_cons (ps_if (pt_cmpR op_eq (pe_ix ix_tup (pv 0) pe_int (fun _ _ => rfl)) pe_int (nomark _))
        (pss_one (ps_ret (pv 0)))
        pss_nil)
      (pss_cons (ps_set (i := 2) sc_product_numbers.nd rfl (by first | exact Or.inl rfl | exact Or.inr rfl) (pe_callB (call_max2 rfl) (by rfl) T.n_max (by decide +kernel) (pa_cons (pe_ix ix_tup (pv 0) pe_int (fun _ _ => rfl)) (pa_cons (pe_op op_add (pe_ix ix_tup (pv 0) pe_int (fun _ _ => rfl)) (pe_ix ix_tup (pv 1) pe_int (fun _ _ => rfl))) pa_nil))))
      (pss_cons (ps_par (i := 3) (j := 4) (by rfl) sc_product_numbers.nd rfl rfl (by decide) rfl rfl (pa_cons (pe_op op_add (pe_ix ix_tup (pv 0) pe_int (fun _ _ => rfl)) (pe_op op_mul (pe_ix ix_tup (pv 0) pe_int (fun _ _ => rfl)) (pe_op op_sub (pe_ix ix_tup (pv 1) pe_int (fun _ _ => rfl)) pe_int))) (pa_cons (pe_op op_mul (pe_ix ix_tup (pv 0) pe_int (fun _ _ => rfl)) (pe_ix ix_tup (pv 1) pe_int (fun _ _ => rfl))) pa_nil)) (by rfl))
      (pss_cons (ps_if (pt_cmpR op_eq (pv 4) pe_int (nomark _))
        (pss_one (ps_ret (pe_tup (pa_cons (pv 3) (pa_cons (pv 4) (pa_cons (pv 2) (pa_cons pe_non (pa_cons pe_non pa_nil))))))))
        pss_nil)
      (pss_one (ps_ret (pe_tup (pa_cons (pv 3) (pa_cons (pv 4) (pa_cons (pv 2) (pa_cons (pe_op op_add (pe_ix ix_tup (pv 0) pe_int (fun _ _ => rfl)) (pe_ix ix_tup (pv 1) pe_int (fun _ _ => rfl))) (pa_cons (pe_op op_add (pe_ix ix_tup (pv 0) pe_int (fun _ _ => rfl)) (pe_ix ix_tup (pv 1) pe_int (fun _ _ => rfl))) pa_nil)))))))))))), ?_⟩
    refine ⟨.ref n, rfl, n, _, _, _, rfl, rfl, SqT.of hn, rfl, rfl, _, rfl, ite2 (fun e => ⟨.ref n, rfl, ?_⟩) fun e => ?_⟩
    · have e0 := of_decide_eq_true e
      have e1 : ((a.jts : Nat) : Int) = 0 := V.int.inj e0
      refine k n H (Same.refl H) ?_
      rw [grf_closed b a hc (by omega)]
      exact hn
    have hj0 : a.jts ≠ 0 := fun z => e (decide_eq_true (by rw [z]; rfl))
    have na : nums a = [.int (a.size : Nat), .int (a.jts : Nat), .int (a.dep : Nat), .int (a.lng : Nat), .int (a.sht : Nat)] := by
      unfold nums
      rw [if_neg hj0, if_neg hj0]
    rw [if_neg hj0] at hgd
    rw [na] at hn
    have hmx : ∀ i j : Nat, (if ((j : Nat) : Int) > (i : Nat) then ((j : Nat) : Int) else (i : Nat)) = ((max i j : Nat) : Int) := fun i j => by
      split <;> omega
    have hdd : ((a.lng : Nat) : Int) + (b.dep : Nat) = ((a.lng + b.dep : Nat) : Int) := by omega
    refine ⟨.ref n, rfl, n, _, _, _, rfl, rfl, SqT.of hn, rfl, .ref n, rfl, n, _, _, _, rfl, rfl, SqT.of hn, rfl, .ref m, rfl, m, _, _, _, rfl, rfl, SqT.of hm, rfl, _, _, rfl, rfl, _, _, rfl, .ref n, rfl, n, _, _, _, rfl, rfl, SqT.of hn, rfl, .ref n, rfl, n, _, _, _, rfl, rfl, SqT.of hn, rfl, .ref m, rfl, m, _, _, _, rfl, rfl, SqT.of hm, rfl, _, _, rfl, rfl, _, _, rfl, rfl, cmA, _, _, rfl, rfl, .ref n, rfl, n, _, _, _, rfl, rfl, SqT.of hn, rfl, .ref m, rfl, m, _, _, _, rfl, rfl, SqT.of hm, rfl, _, _, rfl, rfl, cmB, _, _, rfl, _, rfl, rfl, _, rfl, ite2 (fun e2 => ?_) fun e2 => ?_⟩
    · have e3 := V.int.inj (of_decide_eq_true e2)
      have hz : (JW.T.grf b a).jts = 0 := by
        rw [hgj]
        have := Int.mul_eq_zero.mp e3
        rcases this with h | h
        · exact absurd (by omega) hj0
        · rw [show b.jts = 0 by omega, Nat.mul_zero]
      refine ⟨_, rfl, _, rfl, _, rfl, sz5, fun p hp => k p _ (Same.new (Same.refl H) hp) ?_⟩
      rw [upd_same, hdd, hmx, ← hgd]
      dsimp only
      rw [e3]
      unfold nums
      rw [if_pos hz, if_pos hz, hgs, hz]
      rfl
    · have hb0 : b.jts ≠ 0 := fun z => e2 (decide_eq_true (show V.int (((a.jts : Nat) : Int) * ((b.jts : Nat) : Int)) = V.int 0 from by rw [z]; exact congrArg V.int (Int.mul_zero _)))
      have hz : (JW.T.grf b a).jts ≠ 0 := by
        rw [hgj]
        exact fun z => hj0 ((mul_zero_iff hb0).mp z)
      have nb : nums b = [.int (b.size : Nat), .int (b.jts : Nat), .int (b.dep : Nat), .int (b.lng : Nat), .int (b.sht : Nat)] := by
        unfold nums
        rw [if_neg hb0, if_neg hb0]
      rw [nb] at hm
      refine ⟨_, rfl, _, rfl, _, rfl, .ref n, rfl, n, _, _, _, rfl, rfl, SqT.of hn, rfl, .ref m, rfl, m, _, _, _, rfl, rfl, SqT.of hm, rfl, _, _, rfl, rfl, .ref n, rfl, n, _, _, _, rfl, rfl, SqT.of hn, rfl, .ref m, rfl, m, _, _, _, rfl, rfl, SqT.of hm, rfl, _, _, rfl, rfl, sz5, fun p hp => k p _ (Same.new (Same.refl H) hp) ?_⟩
      rw [upd_same, hdd, hmx, ← hgd]
      unfold nums
      rw [if_neg hz, if_neg hz, hgs, hgj, grf_lng hb0 a hj0, grf_sht hb0 a hj0]
      simp only [Int.natCast_add, Int.natCast_mul]
def sp_grafted (K : PySem.W.Frag) (n : Nat) : Sp := fun vs H Q _ => ∃ v t b u, vs = [v, u] ∧ Ftn (cF K) H t v ∧ Ftn (cF K) H b u ∧ Can t ∧ t.dep < n ∧ (JW.T.grf b t).size ≤ 1048576 ∧ LamX.Tabs (TT K) H ∧ ∀ w H', LamX.ExtN H H' → LamX.Tabs (TT K) H' → Ftn (cF K) H' (JW.T.grf b t) w → Q w H'
theorem sizeL_map_mem {f : T → T} {l : List T} {t : T} (h : t ∈ l) : (f t).size ≤ sizeL (l.map f) := len_le (List.mem_map.mpr ⟨t, h, rfl⟩)
theorem step_grafted  (T : Txt K mg base) (n : Nat) (ih : CallD P w K mg base CX0 (6 + n) "grafted" ["fountain", "part"] [] (sp_grafted K n)) : CallD P w K mg base CX0 (6 + n + 1) "grafted" ["fountain", "part"] [] (sp_grafted K (n + 1)) := by
  refine T.d_grafted.ok sc_grafted (fun vs H Q E h => ?_) (fun f cdv A outer s H vs Q E hr h => ?_)
  · obtain ⟨v, t, b, u, rfl, _⟩ := h
    rfl
  · obtain ⟨v, t, b, u, rfl, hv, hu, hc, hn, hsz, hT, k⟩ := h
    obtain ⟨av, dv, bv, nv, xv, rfl, hav, hbv, hnv, hkv⟩ := ftn_iff.mp hv
    obtain ⟨au, du, bu, nu, xu, rfl, hau, hbu, hnu, hku⟩ := ftn_iff.mp hu
    have hsl := sizeLine_eq
    refine ⟨_, (pss_cons (ps_if (pt_val (pe_propD T.cls.c (ok_Fountain_is_jet T) (hr.mono (by omega)) pass0 (pv 0) rfl))
        (pss_one (ps_ret (pv 1)))
        pss_nil)
      (pss_cons (ps_if (pt_not (pt_val (pe_propD T.cls.c (ok_Fountain_is_open T) (hr.mono (by omega)) pass0 (pv 0) rfl)))
        (pss_one (ps_ret (pv 0)))
        pss_nil)
      (pss_one (ps_ret (pe_callD (ok_made T) (hr.mono (by omega)) (by rfl) pass0 (pa_cons (pe_lc (own := [("branch", 2)]) (g := gName 2) (tt := tYes) (by rfl) sc_grafted.nd (pi_tup (pe_propD T.cls.c (ok_Fountain_parts T) (hr.mono (by omega)) pass0 (pv 0) rfl)) (blkOk_by (by kernel_rfl)) (fun _ _ _ _ _ => pg_name (i := 2) sc_grafted.nd rfl (by first | exact Or.inl rfl | exact Or.inr rfl)) (fun _ _ _ _ _ => pts_nil) (fun _ _ _ _ _ => (pe_callD ih (hr.mono (by omega)) (by rfl) pass0 (pa_cons (pv 2) (pa_cons (pv 1) pa_nil))))) pa_nil)))))), ?_⟩
    refine ⟨.ref av, rfl, ev_prop hv ⟨_, rfl, ite2 (fun e => ⟨.ref au, rfl, ?_⟩) fun e => ⟨.ref av, rfl, ev_prop hv ⟨_, rfl, ite2 (fun e1 => ⟨.ref av, rfl, ?_⟩) fun e1 => ?_⟩⟩⟩⟩
    · have e' : t = .jet := of_decide_eq_true e
      subst e'
      exact k _ _ (LamX.ExtN.refl H) hT hu
    · refine k _ _ (LamX.ExtN.refl H) hT ?_
      rw [grf_closed b t hc (by simpa using e1)]
      exact hv
    have hj : t.jts ≠ 0 := fun z => e1 (by rw [z]; rfl)
    cases t with
    | jet => exact absurd (decide_eq_true rfl) e
    | bas l =>
      rw [grf_bas] at k hsz
      have hs2 : 1 + sizeL (sortT (l.map (JW.T.grf b))) ≤ 1048576 := hsz
      rw [sizeL_perm (sortT_perm _)] at hs2
      have hll := length_le (l.map (JW.T.grf b))
      rw [List.length_map] at hll
      refine ⟨.ref av, rfl, ev_kids hv fun b' xs' hb' hk' => ⟨b', rfl, ⟨xs', SqT.of hb'⟩, fun D hD => lc_ftnT (l := l) (g := JW.T.grf b) hD (SqT.of hb') hk' ?_ hT (fun _ => rfl) (fun x t' H' Q' ht' hx' hE' hT' q' => ?_) (fun H' ys hE hT2 hy hfy => ?_)⟩⟩
      · have h1 : xs'.length = l.length := hk'.len
        omega
      · have h1 := dep_lt ht'
        have h2 := sizeL_map_mem (f := JW.T.grf b) ht'
        exact ⟨x, rfl, .ref au, rfl, x, t', b, .ref au, rfl, hx', hu.ext hE', canL_iff.mp hc.2 t' ht', by omega, by omega, hT', q'⟩
      · exact ⟨D, ys, l.map (JW.T.grf b), rfl, .inl (SqL.of hy), hfy, by omega, hT2, fun w H'' e1 e2 e3 => k w H'' (hE.trans e1) e2 e3⟩
theorem ok_grafted  (T : Txt K mg base) (n : Nat) : CallD P w K mg base CX0 (6 + n) "grafted" ["fountain", "part"] [] (sp_grafted K n) := callD_rec (sp := sp_grafted K) T.d_grafted (by
    rintro vs H Q E ⟨v, t, b, u, _, _, _, _, z, _⟩
    exact absurd z (Nat.not_lt_zero _)
    ) (step_grafted T) n
def sp_multiplied (K : PySem.W.Frag) : Sp := fun vs H Q E => ∃ v xs ts, vs = [.ref v] ∧ SqL K H v xs ∧ FtnL (cF K) H ts xs ∧ (∀ t ∈ ts, Can t) ∧ ((∀ i, (prodT (ts.take i)).jts < 18446744073709551616) ∨ ∀ t ∈ ts, t.size < 18446744073709551616) ∧ LamX.Tabs (TT K) H ∧ OutF K (prodT ts) H Q E
theorem ok_multiplied  (T : Txt K mg base) : CallD P w K mg base (L2.CX P w) 129 "multiplied" ["factors"] [] (sp_multiplied K) := by
  refine T.d_multiplied.okX sc_multiplied (fun vs H Q E h => ?_) (fun f cdv A outer s H vs Q E hr h => ?_)
  · obtain ⟨v, xs, ts, rfl, _⟩ := h
    rfl
  · obtain ⟨v, xs, ts, rfl, hS, hf, hc, hj, hT, o⟩ := h
    have hlen := hf.len
    refine ⟨_, (pss_cons (ps_set (i := 1) sc_multiplied.nd rfl (by first | exact Or.inl rfl | exact Or.inr rfl) (pe_fld (pe_via (pe_makeD (ok_Fountain___init__ T) (hr.mono (by decide)) (by rfl) pass0 (pa_cons (pe_gstr rfl T.gJET_TEXT) (pa_cons (pe_tup pa_nil) pa_nil)))) rfl))
      (pss_cons (ps_for (passes_of rfl) rfl (pi_list (pv 0)) (pg_name (i := 2) sc_multiplied.nd rfl (by first | exact Or.inl rfl | exact Or.inr rfl))
        (pss_one (ps_set (i := 1) sc_multiplied.nd rfl (by first | exact Or.inl rfl | exact Or.inr rfl) (pe_callD (ok_product_numbers T) (hr.mono (by decide)) (by rfl) pass0 (pa_cons (pv 1) (pa_cons (pe_fld (pv 2) rfl) pa_nil))))))
      (pss_cons (ps_expr (pe_callD (ok_check_numbers_x T) (hr.mono (by decide)) (by rfl) (passE rfl rfl rfl rfl) (pa_cons (pv 1) pa_nil)))
      (pss_cons (ps_set (i := 3) sc_multiplied.nd rfl (by first | exact Or.inl rfl | exact Or.inr rfl) (pe_via (pe_makeD (ok_Fountain___init__ T) (hr.mono (by decide)) (by rfl) pass0 (pa_cons (pe_gstr rfl T.gJET_TEXT) (pa_cons (pe_tup pa_nil) pa_nil)))))
      (pss_cons (ps_for (passes_of rfl) rfl (pi_list (pv 0)) (pg_name (i := 2) sc_multiplied.nd rfl (by first | exact Or.inl rfl | exact Or.inr rfl))
        (pss_one (ps_set (i := 3) sc_multiplied.nd rfl (by first | exact Or.inl rfl | exact Or.inr rfl) (pe_callD (ok_grafted T 121) (hr.mono (by decide)) (by rfl) pass0 (pa_cons (pv 3) (pa_cons (pv 2) pa_nil))))))
      (pss_one (ps_ret (pv 3)))))))), ?_⟩
    refine ⟨fun v H' => Same H H' ∧ Ftn (cF K) H' .jet v, mk_jet (K := K) (H := H) (Q := fun v H' => Same H H' ∧ Ftn (cF K) H' .jet v) (E := E0) fun v H' s f => ⟨s, f⟩, fun v0 H1 ⟨s1, f0⟩ => ?_⟩
    obtain ⟨a0, d0, b0, n0, x0, rfl, ha0, hb0, hn0, hk0⟩ := ftn_iff.mp f0
    have hlt : ∀ {i : Nat} {x : V}, xs[i]? = some x → i < ts.length := fun h => by
      have := (List.getElem?_eq_some_iff.mp h).1
      omega
    have tk : ∀ {i : Nat} {t : JW.T}, ts[i]? = some t → prodT (ts.take (i + 1)) = JW.T.grf t (prodT (ts.take i)) := fun h => by
      rw [List.take_succ, h]
      exact prod_snoc _ _
    have ct : ∀ i, Can (prodT (ts.take i)) := fun i => prod_can fun t ht => hc t (List.mem_of_mem_take ht)
    refine ⟨a0, _, d0, _, _, rfl, ha0, T.cls.c, T.cls.nn, fl_n, .ref v, rfl, v, rfl, ⟨_, s1.seq hS⟩, for_list (K := K) (a := v) (xs := xs) (fun i σ' H' => ∃ n v2, σ' = [some (.ref v), some (.ref n), v2, none] ∧ Same H H' ∧ H' n = some (.tup (nums (prodT (ts.take i))))) ⟨n0, none, rfl, s1, hn0⟩ (fun i σ' H' _ ⟨_, _, _, s, _⟩ => s.seq hS) ?_ ?_⟩
    · rintro i x σ' H2 hx ⟨n, v2, rfl, s2, hn2⟩
      obtain ⟨t, e1, e2⟩ := hf.get hx
      obtain ⟨ax, dx, bx, nx, yx, rfl, hax, hbx, hnx, hkx⟩ := ftn_iff.mp (e2.same s2)
      refine ⟨.ref n, rfl, .ref ax, rfl, ax, _, dx, _, _, rfl, hax, T.cls.c, T.cls.nn, fl_n, n, nx, prodT (ts.take i), t, rfl, hn2, hnx, ct i, hj.elim (fun h => .inl (h i)) (fun h => .inr (h t (List.mem_of_getElem? e1))), fun p H3 s3 hp => ⟨p, some (.ref ax), rfl, s2.trans s3, ?_⟩⟩
      rw [tk e1]
      exact hp
    rintro σ' H2 ⟨n, v2, rfl, s2, hn2⟩
    rw [hlen, List.take_length] at hn2
    have T2 := Tabs.same hT s2
    refine ⟨.ref n, rfl, n, prodT ts, rfl, hn2, (o.from (.of s2)).nums T2 fun h5 h12 => ?_⟩
    refine ⟨fun v H' => Same H2 H' ∧ Ftn (cF K) H' .jet v, mk_jet (K := K) (H := H2) (Q := fun v H' => Same H2 H' ∧ Ftn (cF K) H' .jet v) (E := E0) fun v H' s f => ⟨s, f⟩, fun v3 H3 ⟨s3, f3⟩ => ?_⟩
    have s23 := s2.trans s3
    refine ⟨.ref v, rfl, v, rfl, ⟨_, s23.seq hS⟩, for_list (K := K) (a := v) (xs := xs) (fun i σ' H' => ∃ w v2, σ' = [some (.ref v), some (.ref n), v2, some w] ∧ LamX.ExtN H H' ∧ LamX.Tabs (TT K) H' ∧ Ftn (cF K) H' (prodT (ts.take i)) w) ⟨v3, _, rfl, .of s23, Tabs.same T2 s3, f3⟩ (fun i σ' H' _ ⟨_, _, _, e, _⟩ => seqN hS e) ?_ ?_⟩
    · rintro i x σ' H4 hx ⟨w, v2, rfl, e4, T4, f4⟩
      obtain ⟨t, e1, e2⟩ := hf.get hx
      have hle := prod_take_le ts i
      have hle2 := prod_take_le ts (i + 1)
      rw [tk e1] at hle2
      refine ⟨w, rfl, x, rfl, w, prodT (ts.take i), t, x, rfl, f4, e2.ext e4, ct i, by omega, by omega, T4, fun w' H5 e5 T5 f5 => ⟨w', some x, rfl, e4.trans e5, T5, ?_⟩⟩
      rw [tk e1]
      exact f5
    rintro σ' H4 ⟨w, v2, rfl, e4, T4, f4⟩
    rw [hlen, List.take_length] at f4
    exact ⟨w, rfl, o.2.2 h5 h12 w H4 e4 T4 f4⟩
def sp_product (K : PySem.W.Frag) : Sp := fun vs H Q E => ∃ (C v : Addr) (xs : List V) (ts : List T), vs = [.ref C, .ref v] ∧ (SqL K H v xs ∨ SqT K H v xs) ∧ FtnL (cF K) H ts xs ∧ (∀ t ∈ ts, Can t) ∧ ((∀ i, (prodT (ts.take i)).jts < 18446744073709551616) ∨ ∀ t ∈ ts, t.size < 18446744073709551616) ∧ LamX.Tabs (TT K) H ∧ OutF K (prodT ts) H Q E
theorem ok_Fountain_product  (T : Txt K mg base) : CmD P w K mg base (L2.CX P w) 131 (cF K) "product" ["cls", "parts"] (sp_product K) := by
  refine T.c_product.okX sc_Fountain_product (fun vs H Q E h => ?_) (fun f cdv A outer s H vs Q E hr h => ?_)
  · obtain ⟨C, v, xs, ts, rfl, _⟩ := h
    rfl
  · obtain ⟨C, v, xs, ts, rfl, hq, hl, hc, hj, hT, o⟩ := h
    refine ⟨_, (pss_one (ps_ret (pe_callD (ok_multiplied T) (hr.mono (by decide)) (by rfl) (passE rfl rfl rfl rfl) (pa_cons (pe_callTy call_list_of (by rfl) T.n_list (by decide +kernel) (pa_cons (pv 1) pa_nil)) pa_nil)))), ?_⟩
    refine ⟨.ref v, rfl, v, xs, rfl, hq, fun p hp => ?_⟩
    have s1 : Same H (upd H p (.lst xs)) := Same.new (Same.refl H) hp
    exact ⟨p, xs, ts, rfl, SqL.of upd_same, hl.same s1, hc, hj, Tabs.same hT s1, o.from (.of s1)⟩
def asp_Fountain_product : ASp
  | [.ref _, x], L, Q, RX => ∃ ts : List T, (x = .tup (ts.map D.tree) ∨ ∃ p, x = .ref p ∧ L p = some (.lst (ts.map D.tree))) ∧ (∀ t ∈ ts, Can t) ∧ (∀ t ∈ ts, t.size ≤ 5000) ∧ outD (prodT ts) L Q RX
  | _, _, _, _ => False
theorem okA_Fountain_product (T : Txt K mg base) {scr : Option (Addr × List Int)} : CmD P w K mg base (L2.CX P w) 131 (cF K) "product" ["cls", "parts"] (spA (cA K scr) asp_Fountain_product) :=
  (ok_Fountain_product T).imp fun vs H Q E ⟨ds, L, R, RX, r, g, h, pq, px⟩ => by
    unfold asp_Fountain_product at h
    split at h
    · obtain ⟨ts, h1, h2, h3, h⟩ := h
      obtain ⟨v, w, rfl, r1, r2⟩ := repL_two r
      cases rep_ref.mp r1
      rcases h1 with e | ⟨p, e, hp⟩
      · subst e
        obtain ⟨p, vs, rfl, e1, rs⟩ := rep_tup.mp r2
        exact ⟨_, _, vs, ts, rfl, .inr e1, RepL.trees.mp rs, h2, .inr fun t ht => by have := h3 t ht; omega, g.tabs, out_low h g pq px⟩
      · subst e
        cases rep_ref.mp r2
        obtain ⟨vs, e1, rs⟩ := good_lst g hp
        exact ⟨_, _, vs, ts, rfl, .inl (SqL.of e1), RepL.trees.mp rs, h2, .inr fun t ht => by have := h3 t ht; omega, g.tabs, out_low h g pq px⟩
    · exact h.elim

def asp_common_end : ASp
  | [.tree t, .tree u], L, Q, _ => Op t ∧ Op u ∧ t.dep < 121 ∧ u.dep < 121 ∧ t.size ≤ 5000 ∧ u.size ≤ 5000 ∧ Q (.tree (prodT (lcsL [t.word, u.word]))) L
  | _, _, _, _ => False
theorem okA_common_end  (T : Txt K mg base) {scr : Option (Addr × List Int)} : CallD P w K mg base CX0 141 "common_end" ["a", "b"] [] (spA (cA K scr) (asp_common_end)) := by
  refine T.d_common_end.okA sc_common_end ?len (fun f cdv A outer s H E hr => (as_cons (as_expr (ae_callSt (okA_need_open T) (hr.mono (by decide)) (by rfl) (aa_cons (av 0) (aa_cons (av 1) aa_nil))))
      (as_one (as_ret (ae_cmP (by rfl) T.cls.g (okA_Fountain_product T) (hr.mono (by decide)) passA_no (aa_cons (ae_call (okA_shared_tail T) (hr.mono (by decide)) (by rfl) (aa_cons (ae_lst (aa_cons (ae_call (okA_word_of T) (hr.mono (by decide)) (by rfl) (aa_cons (av 0) aa_nil)) (aa_cons (ae_call (okA_word_of T) (hr.mono (by decide)) (by rfl) (aa_cons (av 1) aa_nil)) aa_nil))) aa_nil)) aa_nil)))))) ?vc
  case len =>
    intro ds L R RX h
    unfold asp_common_end at h
    split at h <;> first | rfl | exact h.elim
  case vc =>
    intro ds L R RX h
    unfold asp_common_end at h
    split at h
    · rename_i t u
      obtain ⟨ot, ou, dt, du, zt, zu, h⟩ := h
      have hsl := sizeLine_eq
      refine ⟨by show (2 : Nat) ≤ sizeLine; omega, [t, u], rfl, fun x hx => ?_, ?_⟩
      · simp only [List.mem_cons, List.not_mem_nil, or_false] at hx
        rcases hx with rfl | rfl
        · exact ot.2
        · exact ou.2
      have ht := word_dep t
      have hu := word_dep u
      refine ⟨ot, dt, by omega, ou, du, by omega, by show (2 : Nat) ≤ sizeLine; omega, fun P hP => ?_⟩
      have hs : lcsL [t.word, u.word] <:+ t.word := lcs_suf (by simp)
      obtain ⟨hp, hq⟩ := word_prod t ot
      obtain ⟨r, hr⟩ := hs
      have hops : ∀ x ∈ lcsL [t.word, u.word], Op x := fun x hx => hq x (by rw [← hr]; exact List.mem_append_right _ hx)
      have hle : (prodT (lcsL [t.word, u.word])).size ≤ t.size ∧ (prodT (lcsL [t.word, u.word])).dep ≤ t.dep := by
        have h1 := part_le (a := r) (b := lcsL [t.word, u.word]) (c := []) (fun x hx => hq x (by rw [← hr]; exact List.mem_append_left _ hx)) hops (fun x hx => absurd hx List.not_mem_nil)
        rw [List.append_nil, hr, hp] at h1
        exact h1
      refine ⟨[t.word, u.word], sput_same, by simp, by show (2 : Nat) ≤ 1048576; decide, fun w hw => ?_, ?_⟩
      · simp only [List.mem_cons, List.not_mem_nil, or_false] at hw
        rcases hw with rfl | rfl <;> omega
      refine ⟨_, .inl rfl, fun x hx => (hops x hx).1, fun x hx => ?_, fun z => by omega, fun _ z => by omega, fun _ _ => ret_sub h ((SubS.refl L).new hP)⟩
      have := (mem_prod_le hops hx).1
      omega
    · exact h.elim
def asp__law_end_of : ASp
  | [.tree t], L, Q, _ => ∃ l : List JW.T, t = .bas l ∧ Op t ∧ t.dep < 121 ∧ t.size ≤ 5000 ∧ Q (.tree (prodT (tlT t))) L
  | _, _, _, _ => False
def foundD (l : List JW.T) : D := if wordsL l = [] then .non else .tree (prodT (lcsL (wordsL l)))
theorem okA__law_end_of  (T : Txt K mg base) {scr : Option (Addr × List Int)} : CallD P w K mg base CX0 143 "_law_end_of" ["_law_a"] [] (spA (cA K scr) (asp__law_end_of)) := by
  refine T.d__law_end_of.okA sc__law_end_of ?len (fun f cdv A outer s H E hr => (as_cons (as_set (i := 1) sc__law_end_of.nd rfl (by first | exact Or.inl rfl | exact Or.inr rfl) ae_non)
      (as_cons (as_for PassesOwn.never rfl (ai_tup (ae_kids T.cls.c (ok_Fountain_parts T) (hr.mono (by decide)) (av 0) rfl)) (ag_name (i := 2) sc__law_end_of.nd rfl (by first | exact Or.inl rfl | exact Or.inr rfl))
        (as_one (as_if (at_bl (ae_propG (fun t => .bl (decide (0 < t.jts))) (fun _ _ => rep_bl.mpr rfl) T.cls.c (ok_Fountain_is_open T) (hr.mono (by decide)) (av 2) rfl))
          (as_one (as_via (as_set (i := 1) sc__law_end_of.nd rfl (by first | exact Or.inl rfl | exact Or.inr rfl) (ae_if (at_cmp aop_is (av 1) ae_non (nomark _)) (av 2) (ae_call (okA_common_end T) (hr.mono (by decide)) (by rfl) (aa_cons (av 1) (aa_cons (av 2) aa_nil)))))))
          as_nil)))
      (as_one (as_ret (av 1)))))) ?vc
  case len =>
    intro ds L R RX h
    unfold asp__law_end_of at h
    split at h <;> first | rfl | exact h.elim
  case vc =>
    intro ds L R RX h
    unfold asp__law_end_of at h
    split at h
    · rename_i t
      obtain ⟨l, rfl, op, hd, hz, h⟩ := h
      have hcl := canL_iff.mp op.1.2
      have hsz : (JW.T.bas l).size = 1 + sizeL l := rfl
      have hdp : (JW.T.bas l).dep = 1 + depL l := rfl
      refine loop_map D.tree l (fun pre env L' => SubS L L' ∧ ∃ x : Option D, env = [some (.tree (.bas l)), some (foundD pre), x]) (fun _ _ _ _ => trivial) ?step ?fin _ _ ⟨SubS.refl L, none, rfl⟩
      case fin =>
        rintro env L' ⟨sb, x, rfl⟩
        have e : foundD l = .tree (prodT (tlT (.bas l))) := by
          unfold foundD
          rw [if_neg (words_ne op.2)]
          rfl
        rw [← e] at h
        exact ret_sub h sb
      case step =>
        rintro pre t rest nn e kn env L' ⟨sb, x, rfl⟩
        have htm : t ∈ l := by rw [e]; simp
        have hts := size_mem htm
        have htd := dep_lt htm
        refine ite2 (fun e1 => ?_) (fun e1 => ?_)
        rotate_left
        · have hj : t.jts = 0 := by
            have : ¬ 0 < t.jts := by simpa using e1
            omega
          refine kn _ _ ⟨sb, some (.tree t), ?_⟩
          have e2 : foundD (pre ++ [t]) = foundD pre := by
            unfold foundD
            rw [words_snoc, if_pos hj, List.append_nil]
          rw [e2]
          rfl
        have hj : t.jts ≠ 0 := by
          have : 0 < t.jts := of_decide_eq_true e1
          omega
        have ot : Op t := ⟨hcl t htm, hj⟩
        have ew : wordsL (pre ++ [t]) = wordsL pre ++ [t.word] := by rw [words_snoc, if_neg hj]
        have ef : foundD (pre ++ [t]) = .tree (prodT (lcsL (wordsL pre ++ [t.word]))) := by
          unfold foundD
          rw [ew, if_neg (by simp)]
        refine ⟨fun env L2 => SubS L' L2 ∧ ∃ x : Option D, env = [some (.tree (.bas l)), some (foundD (pre ++ [t])), x], ?_, ?_⟩
        rotate_left
        · rintro env L2 ⟨sb2, x2, rfl⟩
          exact kn _ _ ⟨sb.trans sb2, x2, rfl⟩
        by_cases hn : wordsL pre = []
        · have e3 : foundD pre = .non := by unfold foundD; rw [if_pos hn]
          rw [e3]
          have e4 : foundD (pre ++ [t]) = .tree t := by
            rw [ef, hn, List.nil_append, lcs_one, (word_prod t ot).1]
          rw [e4]
          exact ⟨SubS.refl L', _, rfl⟩
        · have e3 : foundD pre = .tree (prodT (lcsL (wordsL pre))) := by unfold foundD; rw [if_neg hn]
          obtain ⟨c1, c2, c3, u, hu, c4, c5⟩ := lcs_ok (fun u hu => hcl u (by rw [e]; exact List.mem_append_left _ hu)) hn
          have hum : u ∈ l := by rw [e]; exact List.mem_append_left _ hu
          have hus := size_mem hum
          have hud := dep_lt hum
          rw [e3]
          refine ⟨c2, ot, by omega, by omega, by omega, by omega, ?_⟩
          rw [c3]
          have e4 : foundD (pre ++ [t]) = .tree (prodT (lcsL [lcsL (wordsL pre), t.word])) := by
            rw [ef, lcs_cat hn (by simp), lcs_one]
          rw [e4]
          exact ⟨SubS.refl L', _, rfl⟩
    · exact h.elim
def sp_is_prime (K : PySem.W.Frag) : Sp := fun vs H Q _ => ∃ v t, vs = [v] ∧ Ftn (cF K) H t v ∧ Op t ∧ t.dep < 121 ∧ t.size ≤ 1048576 ∧ LamX.Tabs (TT K) H ∧ ∀ H', LamX.ExtN H H' → LamX.Tabs (TT K) H' → Q (.bl (decide (t.word.length = 1))) H'
theorem ok_is_prime  (T : Txt K mg base) : CallD P w K mg base CX0 135 "is_prime" ["a"] [] (sp_is_prime K) := by
  refine T.d_is_prime.ok sc_is_prime (fun vs H Q E h => ?_) (fun f cdv A outer s H vs Q E hr h => ?_)
  · obtain ⟨v, t, rfl, _⟩ := h
    rfl
  · obtain ⟨v, t, rfl, hv, ho, hd, hz, hT, k⟩ := h
    refine ⟨_, (pss_one (ps_ret (pe_and (pe_propD T.cls.c (ok_Fountain_is_open T) (hr.mono (by decide)) pass0 (pv 0) rfl) (pe_one (pe_cmpR op_eq (pe_callB call_len (by rfl) T.n_len (by decide +kernel) (pa_cons (pe_callD (ok_word_of T) (hr.mono (by decide)) (by rfl) pass0 (pa_cons (pv 0) pa_nil)) pa_nil)) pe_int (nomark _)))))), ?_⟩
    refine ⟨v, rfl, ev_prop hv ⟨_, rfl, ite_t (decide_eq_true (Nat.pos_of_ne_zero ho.2)) ⟨v, rfl, v, t, rfl, hv, ho, hd, hz, hT, fun q ws H' e' T' g1 g2 => ⟨.ref q, ws.length, rfl, .inr ⟨ws, g1, rfl⟩, rfl, ?_⟩⟩⟩⟩
    rw [show decide (V.int ((ws.length : Nat) : Int) = V.int 1) = decide (t.word.length = 1) from decide_eq_decide.mpr ⟨fun z => by have := V.int.inj z; have := g2.len; omega, fun z => by rw [g2.len, z]; rfl⟩]
    exact k H' e' T'
def asp_is_prime : ASp
  | [.tree t], L, Q, _ => Op t ∧ t.dep < 121 ∧ t.size ≤ 1048576 ∧ Q (.bl (decide (t.word.length = 1))) L
  | _, _, _, _ => False
theorem okA_is_prime (T : Txt K mg base) {scr : Option (Addr × List Int)} : CallD P w K mg base CX0 135 "is_prime" ["a"] [] (spA (cA K scr) asp_is_prime) :=
  (ok_is_prime T).imp fun vs H Q E ⟨ds, L, R, RX, r, g, h, pq, px⟩ => by
    unfold asp_is_prime at h
    split at h
    · obtain ⟨h1, h2, h3, h⟩ := h
      obtain ⟨v, rfl, r1⟩ := repL_one r
      exact ⟨v, _, rfl, rep_tree.mp r1, h1, h2, h3, g.tabs, fun H' e' T' => pq _ L _ H' h (.extN e') (g.extN T' e') (rep_bl.mpr rfl)⟩
    · exact h.elim

def sp_factors (K : PySem.W.Frag) : Sp := fun vs H Q _ => ∃ v t, vs = [v] ∧ Ftn (cF K) H t v ∧ Op t ∧ t.dep < 121 ∧ t.size ≤ 1048576 ∧ LamX.Tabs (TT K) H ∧ ∀ q ws H', LamX.ExtN H H' → LamX.Tabs (TT K) H' → SqT K H' q ws → FtnL (cF K) H' t.word ws → Q (.ref q) H'
theorem ok_factors  (T : Txt K mg base) : CallD P w K mg base CX0 135 "factors" ["a"] [] (sp_factors K) := by
  refine T.d_factors.ok sc_factors (fun vs H Q E h => ?_) (fun f cdv A outer s H vs Q E hr h => ?_)
  · obtain ⟨v, t, rfl, _⟩ := h
    rfl
  · obtain ⟨v, t, rfl, hv, ho, hd, hz, hT, k⟩ := h
    refine ⟨_, (pss_cons (ps_expr (pe_callSt (ok_need_open T) (hr.mono (by decide)) (by rfl) pass0 (pa_cons (pv 0) pa_nil)))
      (pss_one (ps_ret (pe_callD (ok_word_of T) (hr.mono (by decide)) (by rfl) pass0 (pa_cons (pv 0) pa_nil))))), ?_⟩
    refine ⟨v, rfl, [], [v], rfl, rfl, by rw [sizeLine_eq]; show 1 ≤ 16777216; decide, fun p hp => ?_⟩
    have s1 : Same H (upd H p (.tup [v])) := Same.new (Same.refl H) hp
    refine ⟨p, [v], [t], rfl, SqT.of upd_same, FtnL.one (hv.same s1), fun u hu => by rw [List.mem_singleton.mp hu]; exact ho.2, v, rfl, v, t, rfl, hv.same s1, ho, hd, hz, Tabs.same hT s1, fun q ws H' e' T' g1 g2 => k q ws H' ((LamX.ExtN.of s1).trans e') T' g1 g2⟩
def asp_factors : ASp
  | [.tree t], L, Q, _ => Op t ∧ t.dep < 121 ∧ t.size ≤ 1048576 ∧ Q (.tup (t.word.map .tree)) L
  | _, _, _, _ => False
theorem okA_factors (T : Txt K mg base) {scr : Option (Addr × List Int)} : CallD P w K mg base CX0 135 "factors" ["a"] [] (spA (cA K scr) asp_factors) :=
  (ok_factors T).imp fun vs H Q E ⟨ds, L, R, RX, r, g, h, pq, px⟩ => by
    unfold asp_factors at h
    split at h
    · obtain ⟨h1, h2, h3, h⟩ := h
      obtain ⟨v, rfl, r1⟩ := repL_one r
      exact ⟨v, _, rfl, rep_tree.mp r1, h1, h2, h3, g.tabs, fun q ws H' e' T' hs hf => pq _ L _ H' h (.extN e') (g.extN T' e') (rep_tup.mpr ⟨q, ws, rfl, hs, RepL.trees.mpr hf⟩)⟩
    · exact h.elim

def sp_mul (K : PySem.W.Frag) : Sp := fun vs H Q E => ∃ v t b u, vs = [v, u] ∧ Ftn (cF K) H t v ∧ Ftn (cF K) H b u ∧ Can t ∧ Can b ∧ t.jts < 18446744073709551616 ∧ t.jts * b.jts < 18446744073709551616 ∧ LamX.Tabs (TT K) H ∧ OutF K (T.grf b t) H Q E
theorem ok_Fountain___mul__  (T : Txt K mg base) : MethD P w K mg base (L2.CX P w) 130 (cF K) "__mul__" ["self", "other"] [] (sp_mul K) := by
  refine T.m___mul__.okX sc_Fountain___mul__ (fun vs H Q E h => ?_) (fun f cdv A outer s H vs Q E hr h => ?_)
  · obtain ⟨v, t, b, u, rfl, _⟩ := h
    rfl
  · obtain ⟨v, t, b, u, rfl, hv, hu, hct, hcb, hj1, hj2, hT, o⟩ := h
    obtain ⟨au, du, bu, nu, xu, rfl, hau, hbu, hnu, hku⟩ := ftn_iff.mp hu
    refine ⟨_, (pss_cons (ps_if (pt_not (pt_val (pe_callB call_isi (by rfl) T.n_isinstance (by decide +kernel) (pa_cons (pv 1) (pa_cons (pe_glob (v := .ref (cF K)) rfl T.cls.g rfl) pa_nil)))))
        pss_never
        pss_nil)
      (pss_one (ps_ret (pe_callD (ok_multiplied T) (hr.mono (by decide)) (by rfl) (passE rfl rfl rfl rfl) (pa_cons (pe_lst (pa_cons (pv 0) (pa_cons (pv 1) pa_nil))) pa_nil))))), ?_⟩
    refine ⟨.ref au, rfl, .ref au, .ref (cF K), _, _, true, rfl, .own _, T.cls.ty hau, isi_self, _, rfl, ite_f rfl ⟨v, rfl, .ref au, rfl, sz2, fun p hp => ?_⟩⟩
    have s1 : Same H (upd H p (.lst [v, .ref au])) := Same.new (Same.refl H) hp
    refine ⟨p, [v, .ref au], [t, b], rfl, SqL.of upd_same, ⟨v, [.ref au], rfl, hv.same s1, .ref au, [], rfl, hu.same s1, rfl⟩, fun x hx => ?_, .inl fun i => ?_, Tabs.same hT s1, o.from (.of s1)⟩
    · rcases List.mem_cons.mp hx with e | e
      · rw [e]
        exact hct
      · rw [List.mem_singleton.mp e]
        exact hcb
    · match i with
      | 0 => show (1 : Nat) < _; decide
      | 1 => exact hj1
      | i + 2 =>
        rw [List.take_of_length_le (by show 2 ≤ i + 2; omega), prod_two, grf_jts]
        exact hj2
def asp_Fountain___mul__ : ASp
  | [.tree t, .tree u], L, Q, RX => Can t ∧ Can u ∧ t.jts < 18446744073709551616 ∧ t.jts * u.jts < 18446744073709551616 ∧ outD (T.grf u t) L Q RX
  | _, _, _, _ => False
theorem okA_Fountain___mul__ (T : Txt K mg base) {scr : Option (Addr × List Int)} : MethD P w K mg base (L2.CX P w) 130 (cF K) "__mul__" ["self", "other"] [] (spA (cA K scr) asp_Fountain___mul__) :=
  (ok_Fountain___mul__ T).imp fun vs H Q E ⟨ds, L, R, RX, r, g, h, pq, px⟩ => by
    unfold asp_Fountain___mul__ at h
    split at h
    · obtain ⟨h1, h2, h3, h4, h⟩ := h
      obtain ⟨v, w, rfl, r1, r2⟩ := repL_two r
      exact ⟨v, _, _, w, rfl, rep_tree.mp r1, rep_tree.mp r2, h1, h2, h3, h4, g.tabs, out_low h g pq px⟩
    · exact h.elim

def asp__law_basin_right : ASp
  | [.tree t], L, Q, _ => ∃ l : List JW.T, t = .bas l ∧ Op t ∧ t.dep < 61 ∧ t.size ≤ 5000 ∧ Q (.bl true) L
  | _, _, _, _ => False
theorem okA__law_basin_right  (T : Txt K mg base) {scr : Option (Addr × List Int)} : CallD P w K mg base CX0 201 "_law_basin_right" ["_law_a"] [] (spA (cA K scr) (asp__law_basin_right)) := by
  refine T.d__law_basin_right.okA sc__law_basin_right ?len (fun f cdv A outer s H E hr => (as_cons (as_set (i := 1) sc__law_basin_right.nd rfl (by first | exact Or.inl rfl | exact Or.inr rfl) (ae_call (okA__law_end_of T) (hr.mono (by decide)) (by rfl) (aa_cons (av 0) aa_nil)))
      (as_cons (as_set (i := 2) sc__law_basin_right.nd rfl (by first | exact Or.inl rfl | exact Or.inr rfl) (ae_op (aop_own (op := .FloorDiv) T.cls (okA_Fountain___floordiv__ T) (hr.mono (by decide))) (av 0) (av 1)))
      (as_cons (as_if (at_via (AW.pt (aw_or (at_not (at_bl (ae_call (okA_is_prime T) (hr.mono (by decide)) (by rfl) (aa_cons (av 2) aa_nil)))) (aw_or (at_cmp (aop_neG T.cls (okF_eq T) (hr.mono (by decide)) hr.units) (ae_binP (op := .Mult) T.cls (okA_Fountain___mul__ T) (hr.mono (by decide)) passA_no (av 2) (av 1)) (av 0) (nomark _)) (aw_or1 (at_cmp (aop_neG T.cls (okF_eq T) (hr.mono (by decide)) hr.units) (ae_call (okA_factors T) (hr.mono (by decide)) (by rfl) (aa_cons (av 0) aa_nil)) (ae_op aop_add (ae_tup (aa_cons (av 2) aa_nil)) (ae_call (okA_factors T) (hr.mono (by decide)) (by rfl) (aa_cons (av 1) aa_nil))) (nomark _)))))))
        (as_one (as_ret ae_bl))
        as_nil)
      (as_one (as_ret (ae_cmp (aop_eqG (okF_eq T) (hr.mono (by decide)) hr.units) (ae_call (okA_is_prime T) (hr.mono (by decide)) (by rfl) (aa_cons (av 0) aa_nil)) (ae_propG (fun t => .bl (decide (t = .jet))) (fun _ _ => rep_bl.mpr rfl) T.cls.c (ok_Fountain_is_jet T) (hr.mono (by decide)) (av 1) rfl) (nomark _)))))))) ?vc
  case len =>
    intro ds L R RX h
    unfold asp__law_basin_right at h
    split at h <;> first | rfl | exact h.elim
  case vc =>
    intro ds L R RX h
    unfold asp__law_basin_right at h
    split at h
    · rename_i t
      obtain ⟨l, rfl, op, hd, hz, h⟩ := h
      obtain ⟨s1, s2, s3, s4⟩ := end_small op
      obtain ⟨f1, f2, f3, f4, f5, f6⟩ := first_ok op
      have hj1 := jts_le (cutT (prodT (tlT (.bas l))) (.bas l))
      have hj2 := jts_le (prodT (tlT (.bas l)))
      have hw : (JW.T.bas l).word = cutT (prodT (tlT (.bas l))) (.bas l) :: tlT (.bas l) := rfl
      have hwl := word_dep (.bas l)
      generalize ee : prodT (tlT (.bas l)) = en at *
      generalize ef : cutT en (.bas l) = fi at *
      refine ⟨l, rfl, op, by omega, hz, ?_⟩
      rw [ee]
      have hsl := sizeLine_eq
      have hjj : fi.jts * en.jts < 18446744073709551616 := by
        have : fi.jts * en.jts ≤ 5000 * 5000 := Nat.mul_le_mul (by omega) (by omega)
        omega
      refine ⟨Nat.pos_of_ne_zero s3.2, f6, by omega, by omega, ?_⟩
      rw [ef]
      refine ⟨rfl, fun b L2 => b = false ∧ L2 = L, ?_, ?_⟩
      · refine ⟨f1, by omega, by omega, ?_⟩
        have e1 : decide (fi.word.length = 1) = true := by
          have : fi.word = [fi] := f2
          rw [this]
          rfl
        rw [e1]
        refine ite_f (A := True) rfl ?_
        refine ⟨f1.1, s3.1, by omega, hjj, ?_⟩
        rw [f3]
        refine ⟨fun z => by omega, fun _ z => by omega, fun _ _ => ⟨rfl, ?_⟩⟩
        refine ite2 (fun e => ?_) (fun _ => ?_)
        · simp at e
        refine ⟨op, by omega, by omega, by show (1 : Nat) ≤ sizeLine; omega, s3, by omega, by omega, ?_⟩
        have hwe := word_dep en
        refine ⟨by rw [List.length_map]; show 1 + en.word.length ≤ sizeLine; omega, ?_⟩
        show eqG true (.tup ((JW.T.bas l).word.map D.tree)) (.tup ((fi :: en.word).map D.tree)) L (fun d L1 => blD d fun b => b = false ∧ L1 = L)
        refine AL.eqG_tup (neg := true) (l := (JW.T.bas l).word.map D.tree) (m := (fi :: en.word).map D.tree) (eqSq_map tree_eqDD (by rw [depDL_map fun _ => rfl]; exact Nat.zero_le _) ?_)
        rw [hw, s4, decide_eq_true rfl]
        exact ⟨rfl, rfl⟩
      · rintro b L2 ⟨rfl, rfl⟩
        refine ite_f rfl ?_
        refine ⟨op, by omega, by omega, ?_⟩
        have e2 : decide ((JW.T.bas l).word.length = 1) = decide (en = .jet) := by
          refine decide_eq_decide.mpr ⟨fun z => ?_, fun z => ?_⟩
          · rw [hw, List.length_cons] at z
            have : tlT (JW.T.bas l) = [] := List.length_eq_zero_iff.mp (by omega)
            rw [← ee, this]
            rfl
          · rw [hw, ← s4, z]
            rfl
        show ∃ L0, SubS L0 L2 ∧ R (.bl (false ^^ decide (decide ((JW.T.bas l).word.length = 1) = decide (en = .jet)))) L0
        rw [e2, decide_eq_true rfl]
        exact ret_of h
    · exact h.elim
theorem enumD_map (es : List JW.T) : enumD (es.map dT) = (List.range es.length).map fun i => D.tup [.int (i : Nat), dT (es.getD i .jet)] := by
  refine List.ext_getElem? fun i => ?_
  by_cases h : i < es.length
  · rw [enumD_get (l := es.map dT) (i := i) (d := dT es[i]) (by rw [List.getElem?_map, List.getElem?_eq_getElem h]; rfl), List.getElem?_map, List.getElem?_range h]
    simp [List.getD, List.getElem?_eq_getElem h]
  · rw [List.getElem?_eq_none (by rw [enumD_len, List.length_map]; omega), List.getElem?_eq_none (by rw [List.length_map, List.length_range]; omega)]
def plugs (k : Nat) : List JW.T := .jet :: List.replicate k (.bas [])
def EndOk (e : JW.T) : Prop := Op e ∧ e.size ≤ 3 ∧ e.dep ≤ 1
def branchT (k : Nat) (e : JW.T) : JW.T := T.grf e (.bas (sortT (plugs k)))
theorem plugs_size (k : Nat) : sizeL (plugs k) = 1 + k := by
  have go : ∀ n : Nat, sizeL (List.replicate n (JW.T.bas [])) = n := by
    intro n
    induction n with
    | zero => rfl
    | succ n ih =>
      rw [List.replicate_succ]
      show 1 + sizeL (List.replicate n (JW.T.bas [])) = _
      omega
  show 1 + sizeL (List.replicate k (JW.T.bas [])) = _
  rw [go]
theorem plugs_dep (k : Nat) : depL (plugs k) ≤ 1 := by
  have go : ∀ n : Nat, depL (List.replicate n (JW.T.bas [])) ≤ 1 := by
    intro n
    induction n with
    | zero => exact Nat.zero_le _
    | succ n ih =>
      rw [List.replicate_succ]
      show max 1 (depL (List.replicate n (JW.T.bas []))) ≤ 1
      omega
  show max 0 (depL (List.replicate k (JW.T.bas []))) ≤ 1
  have := go k
  omega
theorem plugs_jts (k : Nat) : jtsL (plugs k) = 1 := by
  have go : ∀ n : Nat, jtsL (List.replicate n (JW.T.bas [])) = 0 := by
    intro n
    induction n with
    | zero => rfl
    | succ n ih =>
      rw [List.replicate_succ]
      show 0 + jtsL (List.replicate n (JW.T.bas [])) = 0
      omega
  show 1 + jtsL (List.replicate k (JW.T.bas [])) = 1
  rw [go]
theorem branch_ok {k : Nat} {e : JW.T} (he : EndOk e) : Op (branchT k e) ∧ (branchT k e).size ≤ k + 4 ∧ (branchT k e).dep ≤ 4 := by
  have hj : (JW.T.bas (sortT (plugs k))).jts = 1 := by
    show jtsL (sortT (plugs k)) = 1
    rw [jtsL_perm (sortT_perm _), plugs_jts]
  have hs : (JW.T.bas (sortT (plugs k))).size = 2 + k := by
    show 1 + sizeL (sortT (plugs k)) = _
    rw [sizeL_perm (sortT_perm _), plugs_size]
    omega
  have hd : (JW.T.bas (sortT (plugs k))).dep ≤ 2 := by
    show 1 + depL (sortT (plugs k)) ≤ 2
    rw [depL_perm (sortT_perm _)]
    have := plugs_dep k
    omega
  obtain ⟨e1, e2, e3⟩ := he
  refine ⟨⟨grf_can e1.1 _, ?_⟩, ?_, ?_⟩
  · unfold branchT
    rw [grf_jts, hj, Nat.one_mul]
    exact e1.2
  · have h := grf_size e (.bas (sortT (plugs k)))
    rw [hj, hs] at h
    unfold branchT
    omega
  · have h1 := lng_dep (.bas (sortT (plugs k)))
    unfold branchT
    rw [grf_dep]
    split <;> omega
theorem depL_le {n : Nat} : ∀ {l : List JW.T}, (∀ t ∈ l, t.dep ≤ n) → depL l ≤ n
  | [], _ => Nat.zero_le _
  | t :: l, h => by
    have h1 := h t List.mem_cons_self
    have h2 := depL_le fun u hu => h u (List.mem_cons_of_mem _ hu)
    show max t.dep (depL l) ≤ n
    omega
theorem jtsL_mem {l : List JW.T} {t : JW.T} (h : t ∈ l) : t.jts ≤ jtsL l := by
  obtain ⟨a, b, e⟩ := List.append_of_mem h
  rw [e, jtsL_app]
  show t.jts ≤ jtsL a + (t.jts + jtsL b)
  omega
def asp__law_many_right : ASp
  | [.ref d], L, Q, _ => ∃ g, SkAt L d g ∧ ∀ ns, Q (.bl true) (sput L g (intsM ns))
  | _, _, _, _ => False
theorem okA__law_many_right  (T : Txt K mg base) {scr : Option (Addr × List Int)} : CallD P w K mg base CX0 203 "_law_many_right" ["_law_sack_here"] [] (spA (cA K scr) (asp__law_many_right)) := by
  refine T.d__law_many_right.okA sc__law_many_right ?len (fun f cdv A outer s H E hr => (as_cons (as_set (i := 1) sc__law_many_right.nd rfl (by first | exact Or.inl rfl | exact Or.inr rfl) (ae_op aop_mul (ae_lst (aa_cons (ae_ix (ae_lst (aa_cons ae_str (aa_cons (ae_tup (aa_cons ae_str aa_nil)) aa_nil))) (ae_call (okA__law_take T) (hr.mono (by decide)) (by rfl) (aa_cons (av 0) (aa_cons ae_int aa_nil))) (fun _ _ => rfl)) aa_nil)) ae_int))
      (as_cons (as_via (as_if (at_cmp (aop_eqG (okF_eq T) (hr.mono (by decide)) hr.units) (ae_call (okA__law_take T) (hr.mono (by decide)) (by rfl) (aa_cons (av 0) (aa_cons ae_int aa_nil))) ae_int (nomark _))
        (as_one (as_asg (ae_tup (aa_cons ae_str (aa_cons ae_str aa_nil))) (ag_sub (av 1) (ae_ix (ae_lst (aa_cons ae_int (aa_cons (ae_call (okA__law_take T) (hr.mono (by decide)) (by rfl) (aa_cons (av 0) (aa_cons ae_int aa_nil))) aa_nil))) (ae_call (okA__law_take T) (hr.mono (by decide)) (by rfl) (aa_cons (av 0) (aa_cons ae_int aa_nil))) (fun _ _ => rfl)))))
        as_nil))
      (as_cons (as_setLc (own := [("_law_k", 5), ("_law_end", 6)]) (i := 2) (by rfl) sc__law_many_right.nd rfl rfl (sw_true rfl rfl rfl (by decide +kernel)) (ai_enumL (by rfl) T.n_enumerate (aa_cons (av 1) aa_nil)) (blkOk_by (by kernel_rfl)) (tgOk_tup (js := [5, 6]) rfl (by decide)) (fun _ _ _ _ _ => pg_tupK (K := K) rfl rfl (pgs_cons (pg_name (i := 5) sc__law_many_right.nd rfl (by first | exact Or.inl rfl | exact Or.inr rfl)) (pgs_cons (pg_name (i := 6) sc__law_many_right.nd rfl (by first | exact Or.inl rfl | exact Or.inr rfl)) pgs_nil))) (fun _ _ _ _ _ => (ae_call (okA__law_grafted T 65) (hr.mono (by decide)) (by rfl) (aa_cons (ae_call (okA__law_basin_d T) (hr.mono (by decide)) (by rfl) (aa_cons (ae_op aop_add (ae_lst (aa_cons ae_str aa_nil)) (ae_op aop_mul (ae_lst (aa_cons (ae_tup aa_nil) aa_nil)) (av 5))) aa_nil)) (aa_cons (av 6) aa_nil)))))
      (as_cons (as_set (i := 3) sc__law_many_right.nd rfl (by first | exact Or.inl rfl | exact Or.inr rfl) (ae_call (okA__law_basin_d T) (hr.mono (by decide)) (by rfl) (aa_cons (av 2) aa_nil)))
      (as_cons (as_set (i := 4) sc__law_many_right.nd rfl (by first | exact Or.inl rfl | exact Or.inr rfl) (ae_call (okA__law_made_d T) (hr.mono (by decide)) (by rfl) (aa_cons (av 0) (aa_cons (av 3) aa_nil))))
      (as_one (as_ret (ae_and (ae_call (okA__law_basin_right T) (hr.mono (by decide)) (by rfl) (aa_cons (av 4) aa_nil)) (ae_one (ae_cmp (aop_eqG (okF_eq T) (hr.mono (by decide)) hr.units) (ae_call (okA_factors T) (hr.mono (by decide)) (by rfl) (aa_cons (av 4) aa_nil)) (ae_ty acb_tup (by rfl) T.n_tuple (by decide +kernel) (aa_cons (ae_lc (own := [("_law_prime", 7)]) (by rfl) sc__law_many_right.nd (ai_list (ae_call (okA__law_word_d T) (hr.mono (by decide)) (by rfl) (aa_cons (av 3) aa_nil))) (blkOk_by (by kernel_rfl)) (tgOk_name (by decide)) (fun _ _ _ _ _ => pg_name (i := 7) sc__law_many_right.nd rfl (by first | exact Or.inl rfl | exact Or.inr rfl)) (fun _ _ _ _ _ => (ae_make (dd := []) (asp := aspRead) (ok_Fountain___init___read T) (hr.mono (by decide)) (by rfl) (aa_cons (ae_call (okA__law_text_d T 61) (hr.mono (by decide)) (by rfl) (aa_cons (av 7) aa_nil)) aa_nil) mkA_read))) aa_nil)) (nomark _)))))))))))) ?vc
  case len =>
    intro ds L R RX h
    unfold asp__law_many_right at h
    split at h <;> first | rfl | exact h.elim
  case vc =>
    intro ds L R RX h
    unfold asp__law_many_right at h
    split at h
    · rename_i d
      obtain ⟨g, hS, h⟩ := h
      have hsl := sizeLine_eq
      have one : (1 : Nat) ≤ sizeLine := by omega
      have two : (2 : Nat) ≤ sizeLine := by omega
      refine ⟨one, two, fun B hB => ?_⟩
      obtain ⟨nBd, nBg⟩ := hS.ne hB
      refine ⟨g, hS.new hB, by decide, by decide, fun v m1 v0 v1 => ?_⟩
      have S1 := (hS.new (m := .lst [.str ("o" : Str), .tup [.str ("o" : Str)]]) hB).at m1
      have k1 : Sk g L (sput (sput L B (.lst [.str ("o" : Str), .tup [.str ("o" : Str)]])) g (intsM m1)) := ((Sk.refl g L).new hB).at
      have b1 : sput (sput L B (.lst [.str ("o" : Str), .tup [.str ("o" : Str)]])) g (intsM m1) B = some (.lst [.str ("o" : Str), .tup [.str ("o" : Str)]]) := by rw [sput_ne nBg]; exact sput_same
      generalize sput (sput L B (.lst [.str ("o" : Str), .tup [.str ("o" : Str)]])) g (intsM m1) = L1 at S1 k1 b1 ⊢
      obtain ⟨e0, he0, ee0⟩ : ∃ e0 : JW.T, EndOk e0 ∧ atI [D.str ("o" : Str), D.tup [.str ("o" : Str)]] v = some (dT e0) := by
        have hv : v = 0 ∨ v = 1 := by omega
        rcases hv with rfl | rfl
        · exact ⟨.jet, ⟨⟨trivial, by decide⟩, by decide, by decide⟩, by rw [dT_jet]; rfl⟩
        · exact ⟨.bas [.jet], ⟨⟨⟨by decide, trivial, trivial⟩, by decide⟩, by decide, by decide⟩, by rw [dT_bas, List.map_singleton, dT_jet]; rfl⟩
      refine ⟨_, _, b1, ee0, one, fun C hC => ⟨_, sput_same, by omega, by omega, ?_, fun E hE => ?_⟩⟩
      · show 1 * (16 : Int).toNat ≤ sizeLine
        omega
      have f7 : ∀ (x : D) (k : Nat), (List.replicate k [x]).flatten = List.replicate k x := fun x k => List.flatten_replicate_singleton
      rw [f7]
      have e16 : (16 : Int).toNat = 16 := rfl
      rw [e16]
      have hE1 : L1 E = none := by
        rw [sput_ne (fun z => by rw [z, sput_same] at hE; cases hE)] at hE
        exact hE
      obtain ⟨nEd, nEg⟩ := S1.ne hE1
      have S2 := (S1.new (m := .lst [dT e0]) hC).new (m := .lst (List.replicate 16 (dT e0))) hE
      have k2 := (k1.new (m := .lst [dT e0]) hC).new (m := .lst (List.replicate 16 (dT e0))) hE
      have e2 : sput (sput L1 C (.lst [dT e0])) E (.lst (List.replicate 16 (dT e0))) E = some (.lst ((List.replicate 16 e0).map dT)) := by rw [sput_same, List.map_replicate]
      generalize sput (sput L1 C (.lst [dT e0])) E (.lst (List.replicate 16 (dT e0))) = L2 at S2 k2 e2 ⊢
      -- one end may be another one
      refine ⟨fun env L5 => ∃ es : List JW.T, env = [some (.ref d), some (.ref E), none, none, none, none, none, none] ∧ SkAt L5 d g ∧ Sk g L L5 ∧ L5 E = some (.lst (es.map dT)) ∧ (∀ e ∈ es, EndOk e) ∧ es.length = 16, ?_, ?_⟩
      · refine ⟨g, S2, by decide, by decide, fun w m2 w0 w1 => ite2 (fun _ => ?_) (fun _ => ?_)⟩
        rotate_left
        · exact ⟨List.replicate 16 e0, rfl, S2.at m2, k2.at, by rw [sput_ne nEg]; exact e2, fun e he => by rw [(List.mem_replicate.mp he).2]; exact he0, List.length_replicate⟩
        have S3 := S2.at m2
        have k3 : Sk g L (sput L2 g (intsM m2)) := k2.at
        have e3 : sput L2 g (intsM m2) E = some (.lst ((List.replicate 16 e0).map dT)) := by rw [sput_ne nEg]; exact e2
        generalize sput L2 g (intsM m2) = L3 at S3 k3 e3 ⊢
        refine ⟨two, g, S3, by decide, by decide, fun a m3 a0 a1 => ⟨two, fun G hG => ?_⟩⟩
        obtain ⟨nGd, nGg⟩ := (S3.at m3).ne hG
        have S4 := (S3.at m3).new (m := .lst [.int 15, .int a]) hG
        have k4 : Sk g L (sput (sput L3 g (intsM m3)) G (.lst [.int 15, .int a])) := k3.at.new hG
        have e4 : sput (sput L3 g (intsM m3)) G (.lst [.int 15, .int a]) E = some (.lst ((List.replicate 16 e0).map dT)) := sput_old (by rw [sput_ne nEg]; exact e3) hG
        have g4 : sput (sput L3 g (intsM m3)) G (.lst [.int 15, .int a]) G = some (.lst [.int 15, .int a]) := sput_same
        generalize sput (sput L3 g (intsM m3)) G (.lst [.int 15, .int a]) = L4 at S4 k4 e4 g4 ⊢
        refine ⟨g, S4, by decide, by decide, fun c m4 c0 c1 => ?_⟩
        have S5 := S4.at m4
        have k5 : Sk g L (sput L4 g (intsM m4)) := k4.at
        have e5 : sput L4 g (intsM m4) E = some (.lst ((List.replicate 16 e0).map dT)) := by rw [sput_ne nEg]; exact e4
        have g5 : sput L4 g (intsM m4) G = some (.lst [.int 15, .int a]) := by rw [sput_ne nGg]; exact g4
        generalize sput L4 g (intsM m4) = L5 at S5 k5 e5 g5 ⊢
        obtain ⟨j, hj, ej⟩ : ∃ j : Nat, j < 16 ∧ atI [D.int 15, D.int a] c = some (.int (j : Nat)) := by
          obtain ⟨an, rfl⟩ := Int.eq_ofNat_of_zero_le a0
          have hc : c = 0 ∨ c = 1 := by omega
          rcases hc with rfl | rfl
          · exact ⟨15, by decide, rfl⟩
          · exact ⟨an, by omega, rfl⟩
        refine ⟨_, _, g5, ej, _, j, e5, by rw [List.length_map, List.length_replicate]; exact ix_nat hj, (List.replicate 16 e0).set j (.bas [.jet, .jet]), rfl, S5.off nEd nEg, k5.put (k1.nil nEg hE1), ?_, fun x hx => ?_, by rw [List.length_set, List.length_replicate]⟩
        · rw [sput_same, List.map_set, dT_bas, List.map_cons, List.map_singleton, dT_jet]
        · rcases List.mem_or_eq_of_mem_set hx with z | z
          · rw [(List.mem_replicate.mp z).2]
            exact he0
          · rw [z]
            exact ⟨⟨⟨by decide, trivial, trivial, trivial⟩, by decide⟩, by decide, by decide⟩
      rintro env L5 ⟨es, rfl, S5, k5, e5, hes, hel⟩
      -- the branches
      refine ⟨_, e5, fun P hP => ?_⟩
      obtain ⟨nPd, nPg⟩ := S5.ne hP
      have nPE : P ≠ E := fun z => by rw [z, e5] at hP; cases hP
      rw [enumD_map, hel]
      refine comp_inv (fun i : Nat => D.tup [.int (i : Nat), dT (es.getD i .jet)]) (List.range 16) (fun pre acc L' => acc = pre.map (fun i => dT (branchT i (es.getD i .jet))) ∧ SkAt L' d g ∧ Sk g L5 L' ∧ L' P = some (.lst acc)) (by rw [List.length_range]; omega) ?hG ?step ?fin _ ⟨rfl, S5.new hP, (Sk.refl g L5).new hP, sput_same⟩
      case hG =>
        rintro pre acc L' ⟨rfl, S6, k6, p6⟩
        exact ⟨k6 E _ nEg e5, p6, by rw [List.length_map]⟩
      case step =>
        rintro pre i rest acc L' kk e ⟨rfl, S6, k6, p6⟩ hk
        obtain ⟨ei, hi⟩ := range_split e
        have hi16 : i < 16 := by omega
        have hei : EndOk (es.getD i .jet) := by
          have hx : i < es.length := by omega
          have e9 : es.getD i .jet = es[i] := by simp [List.getD, List.getElem?_eq_getElem hx]
          rw [e9]
          exact hes _ (List.getElem_mem hx)
        obtain ⟨o1, o2, o3⟩ := branch_ok (k := i) hei
        have hz9 : (JW.T.bas (sortT (plugs i))).size = 2 + i := by
          show 1 + sizeL (sortT (plugs i)) = _
          rw [sizeL_perm (sortT_perm _), plugs_size]
          omega
        have hpd := plugs_dep i
        refine ⟨rfl, rfl, one, fun B1 h1 => ⟨Nat.zero_le _, one, fun B2 h2 => ⟨_, sput_same, by omega, by omega, ?_, fun B3 h3 => ?_⟩⟩⟩
        · show 1 * ((i : Nat) : Int).toNat ≤ sizeLine
          omega
        rw [f7, Int.toNat_natCast]
        refine ⟨_, _, sput_old (sput_old sput_same h2) h3, sput_same, by rw [List.length_replicate]; show 1 + i ≤ sizeLine; omega, fun B4 h4 => ?_⟩
        refine ⟨plugs i, ?_, by rw [plugs_size]; omega, by omega, .bas (sortT (plugs i)), es.getD i .jet, rfl, rfl, by omega, by omega, ?_, ?_⟩
        · rw [sput_same]
          unfold plugs
          rw [List.map_cons, List.map_replicate, dT_jet, dT_bas]
          rfl
        · have e9 : JW.T.grf (es.getD i .jet) (.bas (sortT (plugs i))) = branchT i (es.getD i .jet) := rfl
          rw [e9]
          omega
        refine hk _ _ (sput_old (sput_old (sput_old (sput_old p6 h1) h2) h3) h4) ⟨by rw [List.map_append]; rfl, ((((S6.new h1).new h2).new h3).new h4).off nPd nPg, ((((k6.new h1).new h2).new h3).new h4).put hP, sput_same⟩
      case fin =>
      rintro acc L6 ⟨rfl, S6, k6, p6⟩
      obtain ⟨bl, ebl⟩ : ∃ bl : List JW.T, bl = (List.range 16).map fun i => branchT i (es.getD i .jet) := ⟨_, rfl⟩
      have hbl : ∀ t ∈ bl, Op t ∧ t.size ≤ 19 ∧ t.dep ≤ 4 := fun t ht => by
        rw [ebl] at ht
        obtain ⟨i, hi, rfl⟩ := List.mem_map.mp ht
        have hi16 : i < 16 := List.mem_range.mp hi
        have hx : i < es.length := by omega
        have e9 : es.getD i .jet = es[i] := by simp [List.getD, List.getElem?_eq_getElem hx]
        have hei : EndOk (es.getD i .jet) := by
          rw [e9]
          exact hes _ (List.getElem_mem hx)
        obtain ⟨o1, o2, o3⟩ := branch_ok (k := i) hei
        exact ⟨o1, by omega, o3⟩
      have hbll : bl.length = 16 := by rw [ebl, List.length_map, List.length_range]
      have pb : L6 P = some (.lst (bl.map dT)) := by rw [p6, ebl, List.map_map]; rfl
      have z1 := sizeL_le fun t ht => (hbl t ht).2.1
      have z2 := depL_le fun t ht => (hbl t ht).2.2
      have kk := k5.trans k6
      have op : Op (.bas (sortT bl)) := ⟨can_bas (canL_iff.mpr fun t ht => (hbl t ht).1.1), fun z => by
        have z' : jtsL (sortT bl) = 0 := z
        rw [jtsL_perm (sortT_perm _)] at z'
        obtain ⟨t, ht⟩ : ∃ t, t ∈ bl := ⟨bl[0]'(by omega), List.getElem_mem _⟩
        have h1 := jtsL_mem ht
        have h2 := (hbl t ht).1.2
        omega⟩
      have hsz : (JW.T.bas (sortT bl)).size ≤ 305 := by
        show 1 + sizeL (sortT bl) ≤ 305
        rw [sizeL_perm (sortT_perm _)]
        omega
      have hdp : (JW.T.bas (sortT bl)).dep ≤ 5 := by
        show 1 + depL (sortT bl) ≤ 5
        rw [depL_perm (sortT_perm _)]
        omega
      clear p6 k6 k5 ebl
      refine ⟨bl, pb, by omega, by omega, ?_⟩
      refine ⟨g, S6, .bas (sortT bl), rfl, op.1, by omega, by omega, fun m9 => ?_⟩
      refine ⟨sortT bl, rfl, op, by omega, by omega, ?_⟩
      generalize JW.T.bas (sortT bl) = tt at op hsz hdp ⊢
      refine ⟨op, by omega, by omega, ?_⟩
      refine ⟨tt, rfl, op, by omega, by omega, fun W hW => ?_⟩
      have S7 := (S6.at m9).new (m := .lst (tt.word.map dT)) hW
      have k7 : Sk g L (sput (sput L6 g (intsM m9)) W (.lst (tt.word.map dT))) := kk.at.new hW
      have w7 : sput (sput L6 g (intsM m9)) W (.lst (tt.word.map dT)) W = some (.lst (tt.word.map dT)) := sput_same
      generalize sput (sput L6 g (intsM m9)) W (.lst (tt.word.map dT)) = L7 at S7 k7 w7 ⊢
      refine ⟨_, w7, fun G hG => ?_⟩
      obtain ⟨hwp, hwq⟩ := word_prod tt op
      have hwl := word_dep tt
      refine comp_mapA dT D.tree (fun _ => sput_old w7 hG) tt.word [] (by show 0 + tt.word.length ≤ _; omega) (fun p hp l2 k hk => ?_) ?_
      · have h1 := mem_prod_le hwq hp
        rw [hwp] at h1
        refine ⟨rfl, p, rfl, by omega, by omega, by omega, p, rfl, by omega, by omega, ?_⟩
        rw [can_canon p (hwq p hp).1]
        exact hk
      rw [List.nil_append]
      refine ⟨_, sput_same, ?_⟩
      refine AL.eqG_tup (neg := false) (l := tt.word.map D.tree) (m := tt.word.map D.tree) (eqSq_map tree_eqDD (by rw [depDL_map fun _ => rfl]; exact Nat.zero_le _) ?_)
      rw [decide_eq_true rfl]
      exact (k7.new hG).end (S7.new hG) h
    · exact h.elim
def stemT : JW.T := .bas [.jet]
theorem stem_pw : PW stemT := by
  have op : Op stemT := ⟨⟨by decide, trivial, trivial⟩, by decide⟩
  exact ⟨op, prm_len op (fun z => by cases z) (word_jet_branch List.mem_cons_self), by decide⟩
def asp__law_pool : ASp
  | [.ref d], L, Q, _ => ∃ g, SkAt L d g ∧ ∀ (ts : List JW.T) r ns, (∀ t ∈ ts, PW t) → 1 ≤ ts.length → ts.length ≤ 4 → L r = none → r ≠ g → Q (.ref r) (sput (sput L g (intsM ns)) r (.lst (ts.map dT)))
  | _, _, _, _ => False
theorem okA__law_pool  (T : Txt K mg base) {scr : Option (Addr × List Int)} : CallD P w K mg base CX0 153 "_law_pool" ["_law_sack_here"] [] (spA (cA K scr) (asp__law_pool)) := by
  refine T.d__law_pool.okA sc__law_pool ?len (fun f cdv A outer s H E hr => (as_one (as_ret (ae_op aop_add (ae_call (okA__law_primes T) (hr.mono (by decide)) (by rfl) (aa_cons (av 0) (aa_cons (ae_op aop_add ae_int (ae_call (okA__law_take T) (hr.mono (by decide)) (by rfl) (aa_cons (av 0) (aa_cons ae_int aa_nil)))) aa_nil))) (ae_op aop_mul (ae_lst (aa_cons (ae_tup (aa_cons ae_str aa_nil)) aa_nil)) (ae_call (okA__law_take T) (hr.mono (by decide)) (by rfl) (aa_cons (av 0) (aa_cons ae_int aa_nil)))))))) ?vc
  case len =>
    intro ds L R RX h
    unfold asp__law_pool at h
    split at h <;> first | rfl | exact h.elim
  case vc =>
    intro ds L R RX h
    unfold asp__law_pool at h
    split at h
    · rename_i d
      obtain ⟨g, hS, h⟩ := h
      have hsl := sizeLine_eq
      refine ⟨g, hS, by omega, by omega, fun v m1 a1 b1 => ⟨g, hS.at m1, by omega, by omega, fun ts P m2 hts hl hP nPg => ?_⟩⟩
      have hP0 : L P = none := by
        rw [sput_ne nPg] at hP
        exact hP
      obtain ⟨nPd, _⟩ := hS.ne hP0
      have S2 := ((hS.at m1).at m2).new (m := .lst (ts.map dT)) (p := P) (by rw [sput_ne nPg]; exact hP)
      have k2 : Sk g L (sput (sput (sput L g (intsM m1)) g (intsM m2)) P (.lst (ts.map dT))) := (((Sk.refl g L).at).at).put hP0
      have p2 : sput (sput (sput L g (intsM m1)) g (intsM m2)) P (.lst (ts.map dT)) P = some (.lst (ts.map dT)) := sput_same
      generalize sput (sput (sput L g (intsM m1)) g (intsM m2)) P (.lst (ts.map dT)) = L2 at S2 k2 p2 ⊢
      have one : (1 : Nat) ≤ sizeLine := by omega
      refine ⟨one, one, fun B hB => ?_⟩
      obtain ⟨nBd, nBg⟩ := S2.ne hB
      have S3 := S2.new (m := .lst [.tup [.str ("o" : Str)]]) hB
      have k3 := k2.new (m := .lst [.tup [.str ("o" : Str)]]) hB
      have p3 := sput_old (n := .lst [.tup [.str ("o" : Str)]]) p2 hB
      have b3 : sput L2 B (.lst [.tup [.str ("o" : Str)]]) B = some (.lst [.tup [.str ("o" : Str)]]) := sput_same
      generalize sput L2 B (.lst [.tup [.str ("o" : Str)]]) = L3 at S3 k3 p3 b3 ⊢
      refine ⟨g, S3, by decide, by decide, fun w m3 w0 w1 => ?_⟩
      have S4 := S3.at m3
      have k4 : Sk g L (sput L3 g (intsM m3)) := k3.at
      have p4 : sput L3 g (intsM m3) P = some (.lst (ts.map dT)) := by rw [sput_ne nPg]; exact p3
      have b4 : sput L3 g (intsM m3) B = some (.lst [.tup [.str ("o" : Str)]]) := by rw [sput_ne nBg]; exact b3
      generalize sput L3 g (intsM m3) = L4 at S4 k4 p4 b4 ⊢
      refine ⟨_, b4, by omega, by omega, ?_, fun C hC => ?_⟩
      · show 1 * w.toNat ≤ sizeLine
        omega
      have f7 : ∀ (x : D) (k : Nat), (List.replicate k [x]).flatten = List.replicate k x := fun x k => List.flatten_replicate_singleton
      rw [f7]
      refine ⟨_, _, sput_old p4 hC, sput_same, ?_, fun E hE => ?_⟩
      · rw [List.length_map, List.length_replicate]
        omega
      have ei : ts.map dT ++ List.replicate w.toNat (.tup [.str ("o" : Str)]) = (ts ++ List.replicate w.toNat stemT).map dT := by
        rw [List.map_append, List.map_replicate]
        unfold stemT
        rw [dT_bas, List.map_singleton, dT_jet]
      have S5 := (S4.new (m := .lst (List.replicate w.toNat (.tup [.str ("o" : Str)]))) hC).new (m := .lst (ts.map dT ++ List.replicate w.toNat (.tup [.str ("o" : Str)]))) hE
      have k5 := (k4.new (m := .lst (List.replicate w.toNat (.tup [.str ("o" : Str)]))) hC).new (m := .lst (ts.map dT ++ List.replicate w.toNat (.tup [.str ("o" : Str)]))) hE
      have hE4 : L4 E = none := by
        rw [sput_ne (fun z => by rw [z, sput_same] at hE; cases hE)] at hE
        exact hE
      obtain ⟨nEd, nEg⟩ := S4.ne hE4
      have hE0 := k4.nil nEg hE4
      refine k5.endN (m := .lst ((ts ++ List.replicate w.toNat stemT).map dT)) S5 hE0 nEg (by rw [sput_same, ei]) fun ns => h _ E ns (fun t ht => ?_) ?_ ?_ hE0 nEg
      · rcases List.mem_append.mp ht with z | z
        · exact hts t z
        · rw [(List.mem_replicate.mp z).2]
          exact stem_pw
      · rw [List.length_append]
        omega
      · rw [List.length_append, List.length_replicate]
        omega
    · exact h.elim
def asp__law_made : ASp
  | [.ref d, x], L, Q, _ => ∃ g, SkAt L d g ∧ ∃ t : JW.T, x = dT t ∧ Can t ∧ t.size ≤ 64 ∧ ∀ ns, Q (.tree t) (sput L g (intsM ns))
  | _, _, _, _ => False
theorem okA__law_made  (T : Txt K mg base) {scr : Option (Addr × List Int)} : CallD P w K mg base CX0 81 "_law_made" ["_law_sack_here", "_law_tree_here"] [] (spA (cA K scr) (asp__law_made)) := by
  refine T.d__law_made.okA sc__law_made ?len (fun f cdv A outer s H E hr => (as_one (as_ret (ae_make (dd := []) (asp := aspRead) (ok_Fountain___init___read T) (hr.mono (by decide)) (by rfl) (aa_cons (ae_ix (ae_lst (aa_cons (ae_call (okA__law_text T 65) (hr.mono (by decide)) (by rfl) (aa_cons (av 1) aa_nil)) (aa_cons (ae_call (okA__law_loose T 65) (hr.mono (by decide)) (by rfl) (aa_cons (av 0) (aa_cons (av 1) aa_nil))) aa_nil))) (ae_call (okA__law_take T) (hr.mono (by decide)) (by rfl) (aa_cons (av 0) (aa_cons ae_int aa_nil))) (fun _ _ => rfl)) aa_nil) mkA_read)))) ?vc
  case len =>
    intro ds L R RX h
    unfold asp__law_made at h
    split at h <;> first | rfl | exact h.elim
  case vc =>
    intro ds L R RX h
    unfold asp__law_made at h
    split at h
    · rename_i d x
      obtain ⟨g, hS, t, rfl, hc, hz, h⟩ := h
      refine ⟨t, rfl, by omega, hz, g, hS, t, rfl, by omega, hz, fun u ns cu => ⟨by show (2 : Nat) ≤ sizeLine; decide, fun q hq => ?_⟩⟩
      have S1 := (hS.at ns).new (m := .lst [.str (tx t), .str (tx u)]) hq
      have k1 : Sk g L (sput (sput L g (intsM ns)) q (.lst [.str (tx t), .str (tx u)])) := ((Sk.refl g L).at).new hq
      have q1 : sput (sput L g (intsM ns)) q (.lst [.str (tx t), .str (tx u)]) q = some (.lst [.str (tx t), .str (tx u)]) := sput_same
      obtain ⟨nqd, nqg⟩ := (hS.at ns).ne hq
      generalize sput (sput L g (intsM ns)) q (.lst [.str (tx t), .str (tx u)]) = L1 at S1 k1 q1 ⊢
      refine ⟨g, S1, by decide, by decide, fun x ns2 x0 x1 => ?_⟩
      have q2 : sput L1 g (intsM ns2) q = some (.lst [.str (tx t), .str (tx u)]) := by rw [sput_ne nqg]; exact q1
      have hsz : u.size = t.size := by rw [← canon_size u, cu, canon_size]
      obtain ⟨z, ez, cz, sz⟩ : ∃ z : JW.T, atI [D.str (tx t), D.str (tx u)] x = some (.str (tx z)) ∧ z.canon = t ∧ z.size = t.size := by
        have hx : x = 0 ∨ x = 1 := by omega
        rcases hx with rfl | rfl
        · exact ⟨t, rfl, can_canon t hc, rfl⟩
        · exact ⟨u, rfl, by rw [cu, can_canon t hc], hsz⟩
      have hdz := dep_le_size z
      refine ⟨_, _, q2, ez, z, rfl, by omega, by omega, ?_⟩
      rw [cz]
      exact k1.at.end (S1.at ns2) fun ns => h ns
    · exact h.elim
def sp_add (K : PySem.W.Frag) : Sp := fun vs H Q E => ∃ v u la lb, vs = [v, u] ∧ Ftn (cF K) H (.bas la) v ∧ Ftn (cF K) H (.bas lb) u ∧ sizeL la + sizeL lb ≤ 1048576 ∧ LamX.Tabs (TT K) H ∧ OutF K (.bas (sortT (la ++ lb))) H Q E
theorem ok_Fountain___add__  (T : Txt K mg base) : MethD P w K mg base (L2.CX P w) 8 (cF K) "__add__" ["self", "other"] [] (sp_add K) := by
  refine T.m___add__.okX sc_Fountain___add__ (fun vs H Q E h => ?_) (fun f cdv A outer s H vs Q E hr h => ?_)
  · obtain ⟨v, u, la, lb, rfl, _⟩ := h
    rfl
  · obtain ⟨v, u, la, lb, rfl, hv, hu, hz, hT, o⟩ := h
    obtain ⟨av, dv, bv, nv, xv, rfl, hav, hbv, hnv, hkv⟩ := ftn_iff.mp hv
    obtain ⟨au, du, bu, nu, xu, rfl, hau, hbu, hnu, hku⟩ := ftn_iff.mp hu
    have hsl := sizeLine_eq
    have h1 := hkv.len
    have h2 := hku.len
    have h3 := length_le la
    have h4 := length_le lb
    refine ⟨_, (pss_cons (ps_if (pt_not (pt_val (pe_callB call_isi (by rfl) T.n_isinstance (by decide +kernel) (pa_cons (pv 1) (pa_cons (pe_glob (v := .ref (cF K)) rfl T.cls.g rfl) pa_nil)))))
        pss_never
        pss_nil)
      (pss_cons (ps_if (PW.pt (pw_or (pt_val (pe_propD T.cls.c (ok_Fountain_is_jet T) (hr.mono (by decide)) pass0 (pv 0) rfl)) (pw_or1 (pt_val (pe_propD T.cls.c (ok_Fountain_is_jet T) (hr.mono (by decide)) pass0 (pv 1) rfl)))))
        pss_never
        pss_nil)
      (pss_one (ps_ret (pe_callD (ok_allowed T) (hr.mono (by decide)) (by rfl) (passE rfl rfl rfl rfl) (pa_cons (pe_callD (ok_made T) (hr.mono (by decide)) (by rfl) pass0 (pa_cons (pe_op op_cat (pe_callTy call_list_of (by rfl) T.n_list (by decide +kernel) (pa_cons (pe_fld (pv 0) rfl) pa_nil)) (pe_callTy call_list_of (by rfl) T.n_list (by decide +kernel) (pa_cons (pe_fld (pv 1) rfl) pa_nil))) pa_nil)) pa_nil)))))), ?_⟩
    have nj : ∀ l : List JW.T, decide (JW.T.bas l = JW.T.jet) = false := fun l => decide_eq_false fun z => by cases z
    refine ⟨.ref au, rfl, .ref au, .ref (cF K), _, _, true, rfl, .own _, T.cls.ty hau, isi_self, _, rfl, ite_f rfl ⟨.ref av, rfl, ev_prop hv ⟨_, rfl, ite_f (nj la) ⟨.ref au, rfl, ev_prop hu ⟨_, rfl, ite_f (nj lb) ?_⟩⟩⟩⟩⟩
    refine ⟨.ref av, rfl, av, _, dv, _, _, rfl, hav, T.cls.c, T.cls.nb, fl_b, bv, xv, rfl, .inr (SqT.of hbv), fun l1 hl1 => ?_⟩
    have s1 : Same H (upd H l1 (.lst xv)) := Same.new (Same.refl H) hl1
    have e1 : upd H l1 (.lst xv) l1 = some (.lst xv) := upd_same
    generalize upd H l1 (.lst xv) = H1 at s1 e1 ⊢
    refine ⟨.ref au, rfl, au, _, du, _, _, rfl, s1 _ _ hau, T.cls.c, T.cls.nb, fl_b, bu, xu, rfl, .inr (SqT.of (s1 _ _ hbu)), fun l2 hl2 => ?_⟩
    have s2 : Same H1 (upd H1 l2 (.lst xu)) := Same.new (Same.refl H1) hl2
    refine ⟨l1, l2, xv, xu, rfl, rfl, s2 _ _ e1, upd_same, ?_, fun p hp => ?_⟩
    · have h5 : xv.length = la.length := h1
      have h6 : xu.length = lb.length := h2
      omega
    have s3 : Same H (upd (upd H1 l2 (.lst xu)) p (.lst (xv ++ xu))) := (s1.trans s2).trans (Same.new (Same.refl _) hp)
    refine ⟨p, xv ++ xu, la ++ lb, rfl, .inl (SqL.of upd_same), FtnL.app (FtnL.same hkv s3) (FtnL.same hku s3), by rw [sizeL_app]; exact hz, Tabs.same hT s3, fun w H' e4 T4 f4 => ⟨w, _, rfl, f4, T4, o.from ((LamX.ExtN.of s3).trans e4)⟩⟩
def asp_Fountain___add__ : ASp
  | [.tree t, .tree u], L, Q, RX => ∃ la lb, t = .bas la ∧ u = .bas lb ∧ sizeL la + sizeL lb ≤ 1048576 ∧ outD (.bas (sortT (la ++ lb))) L Q RX
  | _, _, _, _ => False
theorem okA_Fountain___add__ (T : Txt K mg base) {scr : Option (Addr × List Int)} : MethD P w K mg base (L2.CX P w) 8 (cF K) "__add__" ["self", "other"] [] (spA (cA K scr) asp_Fountain___add__) :=
  (ok_Fountain___add__ T).imp fun vs H Q E ⟨ds, L, R, RX, r, g, h, pq, px⟩ => by
    unfold asp_Fountain___add__ at h
    split at h
    · obtain ⟨la, lb, rfl, rfl, hz, h⟩ := h
      obtain ⟨v, w, rfl, r1, r2⟩ := repL_two r
      exact ⟨v, w, la, lb, rfl, rep_tree.mp r1, rep_tree.mp r2, hz, g.tabs, out_low h g pq px⟩
    · exact h.elim

theorem ok_NoBasin___init__ (T : Txt K mg base) : ErrD P w K mg base 2 "NoBasin" (He.ga K "NoBasin") ["self"] (spErr0 K (He.ga K "NoBasin")) := by
  refine T.e_NoBasin.ok sc_NoBasin___init__ (fun vs H Q E h => ?_) (fun f cdv A outer s H vs Q E hr h => ?_)
  · obtain ⟨a, rfl, _⟩ := h
    rfl
  · obtain ⟨a, rfl, ha, k⟩ := h
    refine ⟨_, (pss_one (ps_expr (pe_cinit (by rfl) T.b_JetError.1 T.b_JetError.2 (pa_cons (pv 0) (pa_cons pe_str pa_nil))))), ?_⟩
    exact ⟨.ref a, rfl, a, He.ga K "NoBasin", [.str "NoBasin"], rfl, by show 1 ≤ 1000; decide, T.e_NoBasin.c.o, ha, k⟩
theorem ok_NoDifference___init__ (T : Txt K mg base) : ErrD P w K mg base 2 "NoDifference" (He.ga K "NoDifference") ["self", "branch"] (spErr K (He.ga K "NoDifference") "branch") := by
  refine T.e_NoDifference.ok sc_NoDifference___init__ (fun vs H Q E h => ?_) (fun f cdv A outer s H vs Q E hr h => ?_)
  · obtain ⟨a, v, rfl, _⟩ := h
    rfl
  · obtain ⟨a, v, rfl, ha, k⟩ := h
    refine ⟨_, (pss_cons (ps_expr (pe_cinit (by rfl) T.b_NoDivision.1 T.b_NoDivision.2 (pa_cons (pv 0) (pa_cons pe_str pa_nil))))
      (pss_one (ps_ost (pv 0) (pv 1)))), ?_⟩
    exact ⟨.ref a, rfl, a, He.ga K "NoDifference", [.str "NoDifference"], rfl, by show 1 ≤ 1000; decide, T.e_NoDifference.c.o, ha, v, rfl, .ref a, rfl, a, He.ga K "NoDifference", rfl, T.e_NoDifference.c.o, T.na_NoDifference, .inl ⟨ha, fun dx nd ne => k dx nd ne⟩⟩
def subE : List T → List T → Except T (List T)
  | l, [] => .ok l
  | l, b :: bs => if b ∈ l then subE (l.erase b) bs else .error b
theorem first_of {l : List T} {b : T} (h : b ∈ l) : ∃ j : Nat, l[j]? = some b ∧ (∀ i, i < j → l[i]? ≠ some b) ∧ l.eraseIdx j = l.erase b := by
  induction l with
  | nil => cases h
  | cons a l ih =>
    by_cases e : a = b
    · subst e
      exact ⟨0, rfl, fun i hi => absurd hi (Nat.not_lt_zero _), by simp⟩
    · have hb : b ∈ l := (List.mem_cons.mp h).resolve_left fun z => e z.symm
      obtain ⟨j, h1, h2, h3⟩ := ih hb
      refine ⟨j + 1, h1, fun i hi => ?_, ?_⟩
      · match i, hi with
        | 0, _ => exact fun z => e (Option.some.inj z)
        | i + 1, hi => exact h2 i (by omega)
      · rw [List.eraseIdx_cons_succ, h3, List.erase_cons_tail (by simpa using e)]
theorem sizeL_erase (l : List T) (b : T) : sizeL (l.erase b) ≤ sizeL l := by
  by_cases h : b ∈ l
  · have := sizeL_perm (List.perm_cons_erase h)
    have e : sizeL (b :: l.erase b) = b.size + sizeL (l.erase b) := rfl
    omega
  · rw [List.erase_of_not_mem h]
    exact Nat.le_refl _
def asp_Fountain___sub__ : ASp
  | [.tree t, .tree u], L, Q, RX => t.size ≤ 5000 ∧ (t = .jet ∨ u = .jet → RX "NoBasin" [] L) ∧ ∀ la lb, t = .bas la → u = .bas lb → (∀ l, subE la lb = .ok l → Q (.tree (.bas (sortT l))) L) ∧ (∀ b, subE la lb = .error b → RX "NoDifference" [("branch", .str (tx b))] L)
  | _, _, _, _ => False
theorem okA_Fountain___sub__  (T : Txt K mg base) {scr : Option (Addr × List Int)} : MethD P w K mg base (L2.CX P w) 8 (cF K) "__sub__" ["self", "other"] [] (spA (cA K scr) (asp_Fountain___sub__)) := by
  refine T.m___sub__.okAX sc_Fountain___sub__ ?len (fun f cdv A outer s H E RX hE hr => (as_cons (as_if (at_not (at_bl (ae_b (acb_isiA (K := K) rfl T.cls) (by rfl) T.n_isinstance (by decide +kernel) (aa_cons (av 1) (aa_cons (ae_c (d := .ref (cF K)) (pe_glob (v := .ref (cF K)) rfl T.cls.g rfl) (fun _ => rep_ref.mpr rfl)) aa_nil)))))
        ass_never
        as_nil)
      (as_cons (as_if (at_via (AW.pt (aw_or (at_bl (ae_propG (fun t => .bl (decide (t = .jet))) (fun _ _ => rep_bl.mpr rfl) T.cls.c (ok_Fountain_is_jet T) (hr.mono (by decide)) (av 0) rfl)) (aw_or1 (at_bl (ae_propG (fun t => .bl (decide (t = .jet))) (fun _ _ => rep_bl.mpr rfl) T.cls.c (ok_Fountain_is_jet T) (hr.mono (by decide)) (av 1) rfl))))))
        (as_one (as_raise0 rfl (takes_of rfl rfl rfl rfl) hE (ok_NoBasin___init__ T) (hr.mono (by decide)) (by rfl)))
        as_nil)
      (as_cons (as_set (i := 2) sc_Fountain___sub__.nd rfl (by first | exact Or.inl rfl | exact Or.inr rfl) (ae_ty acb_list (by rfl) T.n_list (by decide +kernel) (aa_cons (ae_fldB T.cls (av 0) rfl) aa_nil)))
      (as_cons (as_for (passes_of rfl) rfl (ai_tup (ae_fldB T.cls (av 1) rfl)) (ag_name (i := 3) sc_Fountain___sub__.nd rfl (by first | exact Or.inl rfl | exact Or.inr rfl))
        (as_cons (as_if (at_cmp (aop_notInF (okF_eq T) (hr.mono (by decide))) (av 3) (av 2) (by rfl))
          (as_one (as_raise1 rfl (takes_of rfl rfl rfl rfl) hE (ok_NoDifference___init__ T) (hr.mono (by decide)) (by rfl) (ae_propG (fun t => .str (tx t)) (fun _ _ => rep_str.mpr rfl) T.cls.c (ok_Fountain_text T) (hr.mono (by decide)) (av 3) rfl)))
          as_nil)
        (as_one (as_expr (ae_ml PySem.F.plainAttrs_list PySem.F.slot_list_remove PySem.F.type_list_remove (mt_removeF (okF_eq T) (hr.mono (by decide))) low_removeF (av 2) (aa_cons (av 3) aa_nil))))))
      (as_one (as_ret (ae_call (okA_made T) (hr.mono (by decide)) (by rfl) (aa_cons (av 2) aa_nil))))))))) ?vc
  case len =>
    intro ds L R RX h
    unfold asp_Fountain___sub__ at h
    split at h <;> first | rfl | exact h.elim
  case vc =>
    intro ds L R RX h
    unfold asp_Fountain___sub__ at h
    split at h
    · rename_i t u
      obtain ⟨hz, hE, hO⟩ := h
      have hsl := sizeLine_eq
      have nj : ∀ l : List JW.T, decide (JW.T.bas l = JW.T.jet) = false := fun l => decide_eq_false fun z => by cases z
      refine ⟨rfl, ite_f (A := True) rfl ?_⟩
      match t, u, hz, hE, hO with
      | .jet, u, hz, hE, hO =>
        refine ⟨fun k L2 => k = true ∧ L2 = L, ite_t (B := True) rfl ⟨rfl, rfl⟩, fun k L2 ⟨e1, e2⟩ => ?_⟩
        subst e2
        exact ite_t e1 ⟨L2, SubS.refl L2, hE (.inl rfl)⟩
      | .bas la, .jet, hz, hE, hO =>
        refine ⟨fun k L2 => k = true ∧ L2 = L, ite_f (A := True) (nj la) ⟨rfl, rfl⟩, fun k L2 ⟨e1, e2⟩ => ?_⟩
        subst e2
        exact ite_t e1 ⟨L2, SubS.refl L2, hE (.inr rfl)⟩
      | .bas la, .bas lb, hz, hE, hO =>
        have z1 : (JW.T.bas la).size = 1 + sizeL la := rfl
        obtain ⟨hok, herr⟩ := hO la lb rfl rfl
        refine ⟨fun k L2 => k = false ∧ L2 = L, ite_f (A := True) (nj la) ⟨nj lb, rfl⟩, fun k L2 ⟨e1, e2⟩ => ?_⟩
        subst e2
        refine ite_f e1 (fun p hp => ?_)
        have key : ∀ (rest left : List JW.T) (x3 : Option D) (L' : Store), L' p = some (.lst (left.map D.tree)) → SubS L2 L' → sizeL left ≤ 5000 → (∀ l, subE left rest = .ok l → R (.tree (.bas (sortT l))) L2) → (∀ b, subE left rest = .error b → RX "NoDifference" [("branch", .str (tx b))] L2) →
            loopA (agName 3) (aSeq (aIfS (aBl (aOp (inFD true) (aVar 3) (aVar 2))) (aRaise1 (Str.ofString "NoDifference") (Str.ofString "branch") RX (aProp (fun t => D.str (tx t)) (aVar 3))) aNext) (aDrop (aMl rmFD (aVar 2) (aCons (aVar 3) aNil)))) { nx := aRet (aCall asp_made (aCons (aVar 2) aNil)) (fnEnds R), rt := (fnEnds R).rt, bk := (fnEnds R).bk, ct := (fnEnds R).ct } yes (rest.map D.tree) [some (.tree (.bas la)), some (.tree (.bas lb)), some (.ref p), x3] L' := by
          intro rest
          induction rest with
          | nil =>
            intro left x3 L' h1 sb h2 h3 h4
            exact ⟨trivial, left, h1, by omega, ret_sub (h3 left rfl) sb⟩
          | cons b bs ih =>
            intro left x3 L' h1 sb h2 h3 h4
            refine ⟨trivial, left, h1, ?_⟩
            by_cases hb : b ∈ left
            · obtain ⟨j, hj, hno, he⟩ := first_of hb
              refine ite_f (by rw [decide_eq_true hb]; rfl) ⟨⟨p, _, rfl, h1⟩, left, j, h1, hj, hno, ?_⟩
              rw [he]
              have hs : subE left (b :: bs) = subE (left.erase b) bs := by rw [subE, if_pos hb]
              rw [hs] at h3 h4
              exact ih (left.erase b) _ _ sput_same (sb.put hp) (Nat.le_trans (sizeL_erase left b) h2) h3 h4
            · refine ite_t (by rw [decide_eq_false hb]; rfl) ⟨L2, sb, h4 b (by rw [subE, if_neg hb])⟩
        exact key lb la none _ sput_same ((SubS.refl L2).new hp) (by omega) hok herr
    · exact h.elim
theorem subE_perm : ∀ (bs l r : List JW.T), l.Perm (bs ++ r) → ∃ r', subE l bs = .ok r' ∧ r'.Perm r
  | [], l, r, h => ⟨l, by unfold subE; rfl, h⟩
  | b :: bs, l, r, h => by
    have hm : b ∈ l := h.mem_iff.mpr (by simp)
    have h2 : (l.erase b).Perm (bs ++ r) := by
      have := h.erase b
      rwa [List.cons_append, List.erase_cons_head] at this
    obtain ⟨r', h3, h4⟩ := subE_perm bs (l.erase b) r h2
    exact ⟨r', by unfold subE; rw [if_pos hm]; exact h3, h4⟩
theorem add_ok {la lb : List JW.T} {L : Store} {Q : AQ} (hz : sizeL la + sizeL lb ≤ 4000) (hd : depL la ≤ 100) (hd2 : depL lb ≤ 100) (q : Q (.tree (sumT la lb)) L) : asp_Fountain___add__ [.tree (.bas la), .tree (.bas lb)] L (fun z L' => isNonD z = false ∧ Q z L') noX := by
  have h1 := sum_size la lb
  have h2 := sum_dep la lb
  refine ⟨la, lb, rfl, rfl, by omega, fun z => ?_, fun _ z => ?_, fun _ _ => ⟨rfl, q⟩⟩
  · have z' : 5000 < (sumT la lb).size := z
    omega
  · have z' : 120 < (sumT la lb).dep := z
    omega
def asp__law_sum_right : ASp
  | [.tree a, .tree b, .tree s], L, Q, _ => ∃ la lb ls : List JW.T, a = .bas la ∧ b = .bas lb ∧ s = .bas ls ∧ Op a ∧ Op b ∧ Can s ∧ jtsL ls = 0 ∧ a.dep < 62 ∧ b.dep < 62 ∧ s.dep < 62 ∧ a.size ≤ 200 ∧ b.size ≤ 200 ∧ s.size ≤ 200 ∧ Q (.bl true) L
  | _, _, _, _ => False
theorem okA__law_sum_right  (T : Txt K mg base) {scr : Option (Addr × List Int)} : CallD P w K mg base CX0 201 "_law_sum_right" ["_law_a", "_law_b", "_law_shut_here"] [] (spA (cA K scr) (asp__law_sum_right)) := by
  refine T.d__law_sum_right.okA sc__law_sum_right ?len (fun f cdv A outer s H E hr => (as_cons (as_set (i := 3) sc__law_sum_right.nd rfl (by first | exact Or.inl rfl | exact Or.inr rfl) (ae_call (okA_common_end T) (hr.mono (by decide)) (by rfl) (aa_cons (ae_call (okA__law_end_of T) (hr.mono (by decide)) (by rfl) (aa_cons (av 0) aa_nil)) (aa_cons (ae_call (okA__law_end_of T) (hr.mono (by decide)) (by rfl) (aa_cons (av 1) aa_nil)) aa_nil))))
      (as_cons (as_if (at_via (AW.pt (aw_or (at_cmp (aop_neG T.cls (okF_eq T) (hr.mono (by decide)) hr.units) (ae_call (okA__law_end_of T) (hr.mono (by decide)) (by rfl) (aa_cons (ae_binP (op := .Add) T.cls (okA_Fountain___add__ T) (hr.mono (by decide)) passA_no (av 0) (av 1)) aa_nil)) (av 3) (nomark _)) (aw_or (at_cmp (aop_neG T.cls (okF_eq T) (hr.mono (by decide)) hr.units) (ae_sl (ae_call (okA_factors T) (hr.mono (by decide)) (by rfl) (aa_cons (ae_binP (op := .Add) T.cls (okA_Fountain___add__ T) (hr.mono (by decide)) passA_no (av 0) (av 1)) aa_nil)) (ao_some ae_int) ao_none) (ae_call (okA_factors T) (hr.mono (by decide)) (by rfl) (aa_cons (av 3) aa_nil)) (nomark _)) (aw_or1 (at_cmp (aop_neG T.cls (okF_eq T) (hr.mono (by decide)) hr.units) (ae_binP (op := .Sub) T.cls (okA_Fountain___sub__ T) (hr.mono (by decide)) passA_no (ae_binP (op := .Add) T.cls (okA_Fountain___add__ T) (hr.mono (by decide)) passA_no (av 0) (av 1)) (av 1)) (av 0) (nomark _)))))))
        (as_one (as_ret ae_bl))
        as_nil)
      (as_cons (as_if (at_cmp (aop_neG T.cls (okF_eq T) (hr.mono (by decide)) hr.units) (ae_op (aop_own (op := .FloorDiv) T.cls (okA_Fountain___floordiv__ T) (hr.mono (by decide))) (ae_binP (op := .Add) T.cls (okA_Fountain___add__ T) (hr.mono (by decide)) passA_no (av 0) (av 1)) (av 3)) (ae_binP (op := .Add) T.cls (okA_Fountain___add__ T) (hr.mono (by decide)) passA_no (ae_op (aop_own (op := .FloorDiv) T.cls (okA_Fountain___floordiv__ T) (hr.mono (by decide))) (av 0) (av 3)) (ae_op (aop_own (op := .FloorDiv) T.cls (okA_Fountain___floordiv__ T) (hr.mono (by decide))) (av 1) (av 3))) (nomark _))
        (as_one (as_ret ae_bl))
        as_nil)
      (as_one (as_ret (ae_and (ae_cmp (aop_eqG (okF_eq T) (hr.mono (by decide)) hr.units) (ae_sl (ae_call (okA_factors T) (hr.mono (by decide)) (by rfl) (aa_cons (ae_binP (op := .Add) T.cls (okA_Fountain___add__ T) (hr.mono (by decide)) passA_no (av 0) (av 2)) aa_nil)) (ao_some ae_int) ao_none) (ae_sl (ae_call (okA_factors T) (hr.mono (by decide)) (by rfl) (aa_cons (av 0) aa_nil)) (ao_some ae_int) ao_none) (nomark _)) (ae_one (ae_cmp (aop_eqG (okF_eq T) (hr.mono (by decide)) hr.units) (ae_ix (ae_call (okA_factors T) (hr.mono (by decide)) (by rfl) (aa_cons (ae_binP (op := .Add) T.cls (okA_Fountain___add__ T) (hr.mono (by decide)) passA_no (av 0) (av 2)) aa_nil)) ae_int (fun _ _ => rfl)) (ae_binP (op := .Add) T.cls (okA_Fountain___add__ T) (hr.mono (by decide)) passA_no (ae_ix (ae_call (okA_factors T) (hr.mono (by decide)) (by rfl) (aa_cons (av 0) aa_nil)) ae_int (fun _ _ => rfl)) (av 2)) (nomark _)))))))))) ?vc
  case len =>
    intro ds L R RX h
    unfold asp__law_sum_right at h
    split at h <;> first | rfl | exact h.elim
  case vc =>
    intro ds L R RX h
    unfold asp__law_sum_right at h
    split at h
    · rename_i a b s
      obtain ⟨la, lb, ls, rfl, rfl, rfl, oa, ob, cs, js, da, db, ds, za, zb, zs, h⟩ := h
      have hsl := sizeLine_eq
      have one : (1 : Nat) ≤ sizeLine := by omega
      obtain ⟨a1, a2, a3, wa⟩ := end_small oa
      obtain ⟨b1, b2, b3, wb⟩ := end_small ob
      have so := sum_op oa ob.1
      have stl := sum_tl oa ob
      have ssz := sum_size la lb
      have sdp := sum_dep la lb
      have za' : (JW.T.bas la).size = 1 + sizeL la := rfl
      have zb' : (JW.T.bas lb).size = 1 + sizeL lb := rfl
      have zs' : (JW.T.bas ls).size = 1 + sizeL ls := rfl
      have da' : (JW.T.bas la).dep = 1 + depL la := rfl
      have db' : (JW.T.bas lb).dep = 1 + depL lb := rfl
      have ds' : (JW.T.bas ls).dep = 1 + depL ls := rfl
      have hsa : tlT (sumT la lb) <:+ tlT (.bas la) := by rw [stl]; exact lcs_suf (by simp)
      have hsb : tlT (sumT la lb) <:+ tlT (.bas lb) := by rw [stl]; exact lcs_suf (by simp)
      obtain ⟨e1, e2, e3, we⟩ := end_small (l := sortT (la ++ lb)) so
      have ecut := cut_sum oa ob (List.suffix_refl _) hsa hsb
      have ea := cut_end oa hsa
      have eb := cut_end ob hsb
      have cva : cov (prodT (tlT (sumT la lb))) (.bas la) = true := cov_suf oa (by rw [word_bas]; exact hsa.trans (List.suffix_cons _ _))
      have cvb : cov (prodT (tlT (sumT la lb))) (.bas lb) = true := cov_suf ob (by rw [word_bas]; exact hsb.trans (List.suffix_cons _ _))
      have cvs : cov (prodT (tlT (sumT la lb))) (sumT la lb) = true := (first_ok (l := sortT (la ++ lb)) so).2.2.2.2.2
      have wlen := word_dep (sumT la lb)
      refine ⟨la, rfl, oa, by omega, by omega, lb, rfl, ob, by omega, by omega, a3, b3, by omega, by omega, by omega, by omega, ?_⟩
      rw [wa, wb, ← stl]
      have e1 : (prodT (tlT (sumT la lb))).size < (sumT la lb).size := e1
      have e2 : (prodT (tlT (sumT la lb))).dep < (sumT la lb).dep := e2
      have e3 : Op (prodT (tlT (sumT la lb))) := e3
      have we : (prodT (tlT (sumT la lb))).word = tlT (sumT la lb) := we
      have hws : (sumT la lb).word = cutT (prodT (tlT (sumT la lb))) (sumT la lb) :: tlT (sumT la lb) := rfl
      have cuts : ∀ t : JW.T, Can t → cov (prodT (tlT (sumT la lb))) t = true → (cutT (prodT (tlT (sumT la lb))) t).size ≤ t.size ∧ (cutT (prodT (tlT (sumT la lb))) t).dep ≤ t.dep := fun t hc hv => by
        have h1 := (grf_cut (Nat.pos_of_ne_zero e3.2) t hc hv).1
        have h2 := grf_size_le (prodT (tlT (sumT la lb))) (cutT (prodT (tlT (sumT la lb))) t)
        have h3 := grf_dep_le (prodT (tlT (sumT la lb))) (cutT (prodT (tlT (sumT la lb))) t)
        rw [h1] at h2 h3
        exact ⟨h2, h3⟩
      have ca := cuts _ oa.1 cva
      have cb := cuts _ ob.1 cvb
      generalize een : prodT (tlT (sumT la lb)) = en at *
      refine ⟨fun b L2 => b = false ∧ L2 = L, ?_, ?_⟩
      · refine add_ok (by omega) (by omega) (by omega) ?_
        refine ⟨sortT (la ++ lb), rfl, so, by omega, by omega, ?_⟩
        rw [een]
        refine ite2 (fun e => ?_) (fun _ => ?_)
        · simp at e
        refine add_ok (by omega) (by omega) (by omega) ?_
        refine ⟨so, by omega, by omega, e3, by omega, by omega, ?_⟩
        show eqG true (.tup (AL.cutD ((sumT la lb).word.map D.tree) (some 1) none)) (.tup (en.word.map D.tree)) L _
        rw [cutD_drop (f := D.tree) (l := (sumT la lb).word) (i := 1) (k := 1) rfl, hws, we, List.drop_one, List.tail_cons]
        refine AL.eqG_tup (neg := true) (l := (tlT (sumT la lb)).map D.tree) (m := (tlT (sumT la lb)).map D.tree) (eqSq_map tree_eqDD (by rw [depDL_map fun _ => rfl]; exact Nat.zero_le _) ?_)
        rw [decide_eq_true rfl]
        refine ite_f (A := True) rfl ?_
        refine add_ok (by omega) (by omega) (by omega) ?_
        refine ⟨by omega, fun z => ?_, fun la' lb' h1 h2 => ?_⟩
        · rcases z with z | z <;> cases z
        obtain rfl := JW.T.bas.inj h1
        obtain rfl := JW.T.bas.inj h2
        obtain ⟨r', h3, h4⟩ := subE_perm lb (sortT (la ++ lb)) la ((sortT_perm _).trans List.perm_append_comm)
        refine ⟨fun l hl => ?_, fun b hb => ?_⟩
        · rw [h3] at hl
          cases hl
          rw [sortT_congr h4, sortT_of oa.1.1]
          refine ⟨rfl, ?_⟩
          show (true ^^ decide (JW.T.bas la = JW.T.bas la)) = false ∧ L = L
          exact ⟨by simp, rfl⟩
        · rw [h3] at hb
          cases hb
      · rintro b L2 ⟨rfl, rfl⟩
        refine ite_f rfl ?_
        refine add_ok (by omega) (by omega) (by omega) ?_
        have pj := Nat.pos_of_ne_zero e3.2
        refine ⟨pj, cvs, by omega, by omega, rfl, pj, cva, by omega, by omega, rfl, pj, cvb, by omega, by omega, rfl, ?_⟩
        rw [ecut]
        rw [ea] at ca ⊢
        rw [eb] at cb ⊢
        have y1 : (JW.T.bas (sortT (la.map (cutT en)))).size = 1 + sizeL (sortT (la.map (cutT en))) := rfl
        have y2 : (JW.T.bas (sortT (lb.map (cutT en)))).size = 1 + sizeL (sortT (lb.map (cutT en))) := rfl
        have y3 : (JW.T.bas (sortT (la.map (cutT en)))).dep = 1 + depL (sortT (la.map (cutT en))) := rfl
        have y4 : (JW.T.bas (sortT (lb.map (cutT en)))).dep = 1 + depL (sortT (lb.map (cutT en))) := rfl
        refine add_ok (by omega) (by omega) (by omega) ?_
        refine ite2 (fun e => ?_) (fun _ => ?_)
        · simp at e
        have os := sum_op oa cs
        have ots := sum_tl_shut oa js
        have osz := sum_size la ls
        have osd := sum_dep la ls
        have owl := word_dep (sumT la ls)
        have awl := word_dep (.bas la)
        have hwo : (sumT la ls).word = cutT (prodT (tlT (sumT la ls))) (sumT la ls) :: tlT (sumT la ls) := rfl
        have hwa : (JW.T.bas la).word = cutT (prodT (tlT (.bas la))) (.bas la) :: tlT (.bas la) := rfl
        refine add_ok (by omega) (by omega) (by omega) ?_
        refine ⟨os, by omega, by omega, oa, by omega, by omega, ?_⟩
        simp only [aoSome, aoNone, aC, AL.intD, slD]
        rw [cutD_drop (f := D.tree) (l := (sumT la ls).word) (i := 1) (k := 1) rfl, cutD_drop (f := D.tree) (l := (JW.T.bas la).word) (i := 1) (k := 1) rfl, hwo, hwa, ots, List.drop_one, List.drop_one, List.tail_cons, List.tail_cons]
        refine AL.eqG_tup (neg := false) (l := (tlT (.bas la)).map D.tree) (m := (tlT (.bas la)).map D.tree) (eqSq_map tree_eqDD (by rw [depDL_map fun _ => rfl]; exact Nat.zero_le _) ?_)
        rw [decide_eq_true rfl]
        refine add_ok (by omega) (by omega) (by omega) ?_
        obtain ⟨f1, f2, f3, f4, f5, f6⟩ := first_ok oa
        rw [cut_end oa (List.suffix_refl _)] at f4 f5
        refine ⟨os, by omega, by omega, .tree (cutT (prodT (tlT (sumT la ls))) (sumT la ls)), by rw [hwo]; exact atI_nat (j := 0) rfl, oa, by omega, by omega, .tree (cutT (prodT (tlT (.bas la))) (.bas la)), by rw [hwa]; exact atI_nat (j := 0) rfl, ?_⟩
        rw [ots, cut_sum_shut oa js cs, cut_end oa (List.suffix_refl _)]
        have y5 : (JW.T.bas (sortT (la.map (cutT (prodT (tlT (.bas la))))))).size = 1 + sizeL (sortT (la.map (cutT (prodT (tlT (.bas la)))))) := rfl
        have y6 : (JW.T.bas (sortT (la.map (cutT (prodT (tlT (.bas la))))))).dep = 1 + depL (sortT (la.map (cutT (prodT (tlT (.bas la)))))) := rfl
        refine add_ok (by omega) (by omega) (by omega) ?_
        show ∃ L0, SubS L0 L2 ∧ R (.bl (false ^^ decide (sumT (sortT (la.map (cutT (prodT (tlT (.bas la)))))) ls = sumT (sortT (la.map (cutT (prodT (tlT (.bas la)))))) ls))) L0
        rw [decide_eq_true rfl]
        exact ret_of h
    · exact h.elim
def agLst (gs : ATGs) : ATG := fun d env L Q => match d with
  | .ref p => ∃ l, L p = some (.lst l) ∧ gs l env L Q
  | _ => False
section
variable {X : Cx} {c : AC X.K} {H0 : Hp} {tgs : List Expr} {gs : ATGs} {pos : Pos}
theorem ag_lst {k : Nat} {n : Nat} (hc : X.calm = true) (h : AGs X c H0 tgs gs) (hl : ∀ ds env L R, gs ds env L R → ds.length = n) (hn : (assignEach tgs X.env).length = n := by rfl) (hst : (assignEach tgs X.env).findIdx? (·.1) = none := by rfl) : AG X c H0 (.Tuple tgs k pos) (agLst gs) := by
  refine (pg_lst hc h hn hst).imp fun v σ H Q ⟨d, env, L, R, r, rl, h, pq⟩ => ?_
  cases d with
  | ref p =>
    obtain ⟨l, e0, h⟩ := h
    obtain ⟨vs, e1, rs⟩ := good_lst rl.good e0
    cases rep_ref.mp r
    exact ⟨p, vs, rfl, SqL.of e1, by rw [rs.len]; exact hl l env L R h, l, env, L, R, rs, rl, h, pq⟩
  | _ => exact h.elim
end
theorem blD_f {R : Bool → Prop} (h : R false) : blD (D.bl (true ^^ true)) R := h
def sp_law (K : PySem.W.Frag) : Sp := fun vs H Q _ => ∃ (a : Addr) (ns : List Int), vs = [.ref a] ∧ SqL K H a (ns.map V.int) ∧ ns.length ≤ 63 ∧ LamX.Tabs (TT K) H ∧ ∀ H', Q (.bl true) H'
theorem fn_law (T : Txt K mg base) {f : Addr} {fd : FuncData} (F : FunD K "law" "law" (defArgs s_law) (defBody s_law) (defScope s_law) [] [] f fd) : FnOk P w K mg base CX0 206 f fd ["_law_script"] (sp_law K) := by
  refine okF F sc_law (fun vs H Q E h => ?_) (fun cdv A outer s H vs Q E hr h => ?_)
  · obtain ⟨a, ns, rfl, _⟩ := h
    rfl
  · obtain ⟨a, ns, rfl, hS, hlen, hT, k⟩ := h
    have hb : ASs (cxOf CX0 P w K mg base ["_law_script", "_law_base", "_law_sack_here", "_law_pool_here", "_law_end", "_law_trees", "_law_a", "_law_b", "_law_c", "_law_shut_here", "_law_one", "_law_other", "_law_tree_here", "_law_prime"] "law" (defScope s_law) f cdv A outer s H E).nox (cA K (some (a, ns))) H (defBody s_law) _ := (as_cons (as_for PassesOwn.never rfl (ai_rng1 (by rfl) T.n_range (aa_cons ae_int aa_nil)) (ag_name (i := 1) sc_law.nd rfl (by first | exact Or.inl rfl | exact Or.inr rfl))
        (as_cons (as_set (i := 2) sc_law.nd rfl (by first | exact Or.inl rfl | exact Or.inr rfl) (ae_call (okA__law_sack T) (hr.mono (by decide)) (by rfl) (aa_cons (av 0) (aa_cons (av 1) aa_nil))))
        (as_cons (as_if (at_via (AW.pt (aw_and (at_cmp (aop_eqG (okF_eq T) (hr.mono (by decide)) hr.units) (av 1) ae_int (nomark _)) (aw_and1 (at_not (at_bl (ae_call (okA__law_many_right T) (hr.mono (by decide)) (by rfl) (aa_cons (av 2) aa_nil))))))))
          (as_one (as_ret ae_bl))
          as_nil)
        (as_cons (as_set (i := 3) sc_law.nd rfl (by first | exact Or.inl rfl | exact Or.inr rfl) (ae_call (okA__law_pool T) (hr.mono (by decide)) (by rfl) (aa_cons (av 2) aa_nil)))
        (as_cons (as_set (i := 4) sc_law.nd rfl (by first | exact Or.inl rfl | exact Or.inr rfl) (ae_call (okA__law_some_word T) (hr.mono (by decide)) (by rfl) (aa_cons (av 2) (aa_cons (av 3) (aa_cons ae_int aa_nil)))))
        (as_cons (as_set (i := 5) sc_law.nd rfl (by first | exact Or.inl rfl | exact Or.inr rfl) (ae_lst (aa_cons (ae_call (okA__law_drawn T) (hr.mono (by decide)) (by rfl) (aa_cons (av 2) (aa_cons (av 3) (aa_cons (av 4) aa_nil)))) (aa_cons (ae_call (okA__law_drawn T) (hr.mono (by decide)) (by rfl) (aa_cons (av 2) (aa_cons (av 3) (aa_cons (av 4) aa_nil)))) (aa_cons (ae_call (okA__law_drawn T) (hr.mono (by decide)) (by rfl) (aa_cons (av 2) (aa_cons (av 3) (aa_cons (ae_lst aa_nil) aa_nil)))) aa_nil)))))
        (as_cons (as_asg (ae_lc (own := [("_law_tree_here", 12)]) (by rfl) sc_law.nd (ai_list (av 5)) (blkOk_by (by kernel_rfl)) (tgOk_name (by decide)) (fun _ _ _ _ _ => pg_name (i := 12) sc_law.nd rfl (by first | exact Or.inl rfl | exact Or.inr rfl)) (fun _ _ _ _ _ => (ae_call (okA__law_made T) (hr.mono (by decide)) (by rfl) (aa_cons (av 2) (aa_cons (av 12) aa_nil))))) (ag_lst (n := 3) rfl (ags_cons (ag_name (i := 6) sc_law.nd rfl (by first | exact Or.inl rfl | exact Or.inr rfl)) (ags_cons (ag_name (i := 7) sc_law.nd rfl (by first | exact Or.inl rfl | exact Or.inr rfl)) (ags_cons (ag_name (i := 8) sc_law.nd rfl (by first | exact Or.inl rfl | exact Or.inr rfl)) ags_nil))) (fun _ _ _ _ z => agNs_len (js := [6, 7, 8]) z)))
        (as_cons (as_set (i := 9) sc_law.nd rfl (by first | exact Or.inl rfl | exact Or.inr rfl) (ae_call (okA__law_made T) (hr.mono (by decide)) (by rfl) (aa_cons (av 2) (aa_cons (ae_call (okA__law_shut T) (hr.mono (by decide)) (by rfl) (aa_cons (av 2) aa_nil)) aa_nil))))
        (as_cons (as_for PassesOwn.never rfl (ai_tup (ae_tup (aa_cons (av 6) (aa_cons (av 7) (aa_cons (av 8) (aa_cons (ae_binP (op := .Add) T.cls (okA_Fountain___add__ T) (hr.mono (by decide)) passA_no (av 6) (av 7)) (aa_cons (ae_binP (op := .Add) T.cls (okA_Fountain___add__ T) (hr.mono (by decide)) passA_no (av 7) (av 8)) aa_nil))))))) (ag_name (i := 10) sc_law.nd rfl (by first | exact Or.inl rfl | exact Or.inr rfl))
          (as_one (as_if (at_not (at_bl (ae_call (okA__law_basin_right T) (hr.mono (by decide)) (by rfl) (aa_cons (av 10) aa_nil))))
            (as_one (as_ret ae_bl))
            as_nil)))
        (as_cons (as_if (at_cmp (aop_neG T.cls (okF_eq T) (hr.mono (by decide)) hr.units) (ae_call (okA_factors T) (hr.mono (by decide)) (by rfl) (aa_cons (av 6) aa_nil)) (ae_ty acb_tup (by rfl) T.n_tuple (by decide +kernel) (aa_cons (ae_lc (own := [("_law_prime", 13)]) (by rfl) sc_law.nd (ai_list (ae_call (okA__law_word T) (hr.mono (by decide)) (by rfl) (aa_cons (ae_ix (av 5) ae_int (fun _ _ => rfl)) aa_nil))) (blkOk_by (by kernel_rfl)) (tgOk_name (by decide)) (fun _ _ _ _ _ => pg_name (i := 13) sc_law.nd rfl (by first | exact Or.inl rfl | exact Or.inr rfl)) (fun _ _ _ _ _ => (ae_make (dd := []) (asp := aspRead) (ok_Fountain___init___read T) (hr.mono (by decide)) (by rfl) (aa_cons (ae_call (okA__law_text T 65) (hr.mono (by decide)) (by rfl) (aa_cons (av 13) aa_nil)) aa_nil) mkA_read))) aa_nil)) (nomark _))
          (as_one (as_ret ae_bl))
          as_nil)
        (as_one (as_for PassesOwn.never rfl (ai_tup (ae_tup (aa_cons (ae_tup (aa_cons (av 6) (aa_cons (av 7) aa_nil))) (aa_cons (ae_tup (aa_cons (av 7) (aa_cons (av 8) aa_nil))) (aa_cons (ae_tup (aa_cons (av 6) (aa_cons (av 6) aa_nil))) (aa_cons (ae_tup (aa_cons (av 8) (aa_cons (av 6) aa_nil))) aa_nil)))))) (ag_tup (n := 2) rfl (ags_cons (ag_name (i := 10) sc_law.nd rfl (by first | exact Or.inl rfl | exact Or.inr rfl)) (ags_cons (ag_name (i := 11) sc_law.nd rfl (by first | exact Or.inl rfl | exact Or.inr rfl)) ags_nil)) (fun _ _ _ _ z => agNs_len (js := [10, 11]) z))
          (as_one (as_if (at_not (at_bl (ae_call (okA__law_sum_right T) (hr.mono (by decide)) (by rfl) (aa_cons (av 10) (aa_cons (av 11) (aa_cons (av 9) aa_nil))))))
            (as_one (as_ret ae_bl))
            as_nil))))))))))))))
      (as_one (as_ret ae_bl)))
    refine ⟨_, hb, ?_⟩
    refine law_low (c := cA K (some (a, ns))) rfl hlen hS hT (fun H' => k H') ?_
    clear hb
    have hsl := sizeLine_eq
    have one : (1 : Nat) ≤ sizeLine := by omega
    refine ⟨by decide, by decide, ?_⟩
    refine loop_map (fun i : Nat => D.int (0 + (i : Nat))) (List.range (3 : Int).toNat) (fun _ env _ => ∃ x1 x2 x3 x4 x5 x6 x7 x8 x9 x10 x11 x12 x13 : Option D, env = [some D.scr, x1, x2, x3, x4, x5, x6, x7, x8, x9, x10, x11, x12, x13]) (fun _ _ _ _ => trivial) ?step1 ?fin1 _ _ ⟨_, _, _, _, _, _, _, _, _, _, _, _, _, rfl⟩
    case fin1 => exact fun env L _ => (ret_of (R := fun d _ => d = D.bl true) (L := L) rfl : ∃ L0, SubS L0 L ∧ D.bl true = D.bl true)
    intro pre i rest nn e kn env L ⟨x1, x2, x3, x4, x5, x6, x7, x8, x9, x10, x11, x12, x13, ee⟩
    subst ee
    have two : (2 : Nat) ≤ sizeLine := by omega
    have three : (3 : Nat) ≤ sizeLine := by omega
    have hi : i < 3 := by
      have : i ∈ List.range (3 : Int).toNat := by
        rw [e]
        simp
      exact List.mem_range.mp this
    refine ⟨by omega, by omega, fun d g ns hd hg ne => ?_⟩
    have S0 := skAt_new (L := L) (ns := ns) ne
    generalize sput (sput L g (intsM ns)) d (sackM g) = L0 at S0 ⊢
    refine ⟨fun b L' => b = false ∧ SkAt L' d g, ?_, ?_⟩
    · exact ite2 (fun e1 => ⟨g, S0, fun m => ⟨rfl, S0.at m⟩⟩) (fun e1 => ⟨rfl, S0⟩)
    rintro b L1 ⟨rfl, S1⟩
    refine ite_f rfl ?_
    refine ⟨g, S1, fun ps P m1 hps hp1 hp2 hP nPg => ?_⟩
    have S2 := (S1.at m1).off (m := .lst (ps.map dT)) (S1.ne hP).1 nPg
    have p2 : sput (sput L1 g (intsM m1)) P (.lst (ps.map dT)) P = some (.lst (ps.map dT)) := sput_same
    generalize sput (sput L1 g (intsM m1)) P (.lst (ps.map dT)) = L2 at S2 p2 ⊢
    refine ⟨g, S2, nPg, ⟨ps, p2, hps, hp1, by omega⟩, by decide, by decide, fun es W m2 hes hW nWg => ?_⟩
    have k3 : Sk g L2 (sput (sput L2 g (intsM m2)) W (.lst (es.map dT))) := ((Sk.refl g L2).at).put hW
    have S3 := (S2.at m2).off (m := .lst (es.map dT)) (S2.ne hW).1 nWg
    have p3 := k3 P _ nPg p2
    have w3 : sput (sput L2 g (intsM m2)) W (.lst (es.map dT)) W = some (.lst (es.map dT)) := sput_same
    generalize sput (sput L2 g (intsM m2)) W (.lst (es.map dT)) = L3 at S3 p3 w3 ⊢
    clear k3
    have at_ : ∀ (L' : Store) (m : List Int) (Q : Addr) (x : MO), Q ≠ g → L' Q = some x → sput L' g (intsM m) Q = some x := fun L' m Q x n h => by rw [sput_ne n]; exact h
    refine ⟨g, ps, es, S3, nPg, nWg, p3, w3, hps, hp1, by omega, hes, fun t1 m3 ok1 => ?_⟩
    refine ⟨g, ps, es, S3.at m3, nPg, nWg, at_ _ _ _ _ nPg p3, at_ _ _ _ _ nWg w3, hps, hp1, by omega, hes, fun t2 m4 ok2 => ?_⟩
    refine ⟨Nat.zero_le _, fun Z hZ => ?_⟩
    have S5 := ((S3.at m3).at m4).new (m := .lst []) hZ
    have p5 := sput_old (n := .lst []) (at_ _ m4 _ _ nPg (at_ _ m3 _ _ nPg p3)) hZ
    obtain ⟨nZd, nZg⟩ := ((S3.at m3).at m4).ne hZ
    have z5 : sput (sput (sput L3 g (intsM m3)) g (intsM m4)) Z (.lst []) Z = some (.lst (([] : List JW.T).map dT)) := sput_same
    generalize sput (sput (sput L3 g (intsM m3)) g (intsM m4)) Z (.lst []) = L5 at S5 p5 z5 ⊢
    refine ⟨g, ps, [], S5, nPg, nZg, p5, z5, hps, hp1, by omega, ww_nil, fun t3 m5 ok3 => ⟨three, fun R hR => ?_⟩⟩
    obtain ⟨nRd, nRg⟩ := (S5.at m5).ne hR
    have S6 := (S5.at m5).new (m := .lst [dT t1, dT t2, dT t3]) hR
    have r6 : sput (sput L5 g (intsM m5)) R (.lst [dT t1, dT t2, dT t3]) R = some (.lst ([t1, t2, t3].map dT)) := sput_same
    generalize sput (sput L5 g (intsM m5)) R (.lst [dT t1, dT t2, dT t3]) = L6 at S6 r6 ⊢
    have oks : ∀ t ∈ [t1, t2, t3], DrawnOk t := fun t ht => by
      simp only [List.mem_cons, List.not_mem_nil, or_false] at ht
      rcases ht with rfl | rfl | rfl
      · exact ok1
      · exact ok2
      · exact ok3
    -- the fountains
    refine ⟨_, r6, fun G hG => ?_⟩
    obtain ⟨nGd, nGg⟩ := S6.ne hG
    refine comp_inv dT [t1, t2, t3] (fun pre acc L' => acc = pre.map D.tree ∧ SkAt L' d g ∧ Sk g L6 L' ∧ L' G = some (.lst acc)) (by show (3 : Nat) ≤ sizeLine; omega) ?hG ?step ?fin _ ⟨rfl, S6.new hG, (Sk.refl g L6).new hG, sput_same⟩
    case hG =>
      rintro pre acc L' ⟨rfl, S7, k7, g7⟩
      exact ⟨k7 R _ nRg r6, g7, by rw [List.length_map]⟩
    case step =>
      rintro pre t rest acc L' kk e2 ⟨rfl, S7, k7, g7⟩ hk
      obtain ⟨l, el, ot, zt⟩ := oks t (by rw [e2]; simp)
      refine ⟨rfl, g, S7, t, rfl, ot.1, by omega, fun m => ?_⟩
      have g8 := at_ _ m _ _ nGg g7
      exact hk _ _ g8 ⟨by rw [List.map_append]; rfl, (S7.at m).off nGd nGg, k7.at.put hG, sput_same⟩
    case fin =>
    rintro acc L7 ⟨rfl, S7, k7, g7⟩
    have r7 := k7 R _ nRg r6
    obtain ⟨l1, rfl, o1, z1⟩ := ok1
    obtain ⟨l2, rfl, o2, z2⟩ := ok2
    obtain ⟨l3, rfl, o3, z3⟩ := ok3
    clear oks
    refine ⟨_, g7, rfl, ?_⟩
    refine ⟨g, S7, fun s m6 sc sj sz => ⟨g, S7.at m6, s, rfl, sc, by omega, fun m7 => ?_⟩⟩
    have S8 := (S7.at m6).at m7
    have r8 : sput (sput L7 g (intsM m6)) g (intsM m7) R = some (.lst ([JW.T.bas l1, JW.T.bas l2, JW.T.bas l3].map dT)) := at_ _ _ _ _ nRg (at_ _ _ _ _ nRg r7)
    generalize sput (sput L7 g (intsM m6)) g (intsM m7) = L8 at S8 r8 ⊢
    have y1 : (JW.T.bas l1).size = 1 + sizeL l1 := rfl
    have y2 : (JW.T.bas l2).size = 1 + sizeL l2 := rfl
    have y3 : (JW.T.bas l3).size = 1 + sizeL l3 := rfl
    have w1 : (JW.T.bas l1).dep = 1 + depL l1 := rfl
    have w2 : (JW.T.bas l2).dep = 1 + depL l2 := rfl
    have w3' : (JW.T.bas l3).dep = 1 + depL l3 := rfl
    have d1 := dep_le_size (.bas l1)
    have d2 := dep_le_size (.bas l2)
    have d3 := dep_le_size (.bas l3)
    have q1 := sum_size l1 l2
    have q2 := sum_size l2 l3
    have q3 := sum_dep l1 l2
    have q4 := sum_dep l2 l3
    have sds := dep_le_size s
    obtain ⟨ls, rfl⟩ : ∃ ls, s = .bas ls := by
      cases s with
      | jet => cases sj
      | bas ls => exact ⟨ls, rfl⟩
    have js : jtsL ls = 0 := sj
    refine add_ok (by omega) (by omega) (by omega) ?_
    refine add_ok (by omega) (by omega) (by omega) ?_
    refine ⟨by show (5 : Nat) ≤ sizeLine; omega, ?_⟩
    refine loop_map D.tree [JW.T.bas l1, JW.T.bas l2, JW.T.bas l3, sumT l1 l2, sumT l2 l3] (fun _ env L' => L' = L8 ∧ ∃ x10 x11 x12 x13 : Option D, env = [some D.scr, some (.int (0 + (i : Nat))), some (.ref d), some (.ref P), some (.ref W), some (.ref R), some (.tree (.bas l1)), some (.tree (.bas l2)), some (.tree (.bas l3)), some (.tree (.bas ls)), x10, x11, x12, x13]) (fun _ _ _ _ => trivial) ?step2 ?fin2 _ _ ⟨rfl, _, _, _, _, rfl⟩
    case step2 =>
      rintro pre2 t rest2 n2 ex kn2 env L' ⟨rfl, x10, x11, x12, x13, rfl⟩
      have ht : t ∈ [JW.T.bas l1, JW.T.bas l2, JW.T.bas l3, sumT l1 l2, sumT l2 l3] := by rw [ex]; simp
      obtain ⟨l, el, ot, dt, zt⟩ : ∃ l, t = .bas l ∧ Op t ∧ t.dep < 61 ∧ t.size ≤ 5000 := by
        simp only [List.mem_cons, List.not_mem_nil, or_false] at ht
        rcases ht with rfl | rfl | rfl | rfl | rfl
        · exact ⟨_, rfl, o1, by omega, by omega⟩
        · exact ⟨_, rfl, o2, by omega, by omega⟩
        · exact ⟨_, rfl, o3, by omega, by omega⟩
        · exact ⟨_, rfl, sum_op o1 o2.1, by omega, by omega⟩
        · exact ⟨_, rfl, sum_op o2 o3.1, by omega, by omega⟩
      exact ⟨l, el, ot, dt, zt, ite_f (A := True) rfl (kn2 _ _ ⟨rfl, _, _, _, _, rfl⟩)⟩
    case fin2 =>
    rintro env L' ⟨rfl, x10, x11, x12, x13, rfl⟩
    generalize ett : JW.T.bas l1 = tt at o1 z1 d1 r8 ⊢
    obtain ⟨hwp, hwq⟩ := word_prod _ o1
    have hwl := word_dep tt
    refine ⟨o1, by omega, by omega, _, _, r8, rfl, tt, rfl, o1, by omega, fun W2 hW2 => ?_⟩
    have S9 := S8.new (m := .lst (tt.word.map dT)) hW2
    have w9 : sput L' W2 (.lst (tt.word.map dT)) W2 = some (.lst (tt.word.map dT)) := sput_same
    generalize sput L' W2 (.lst (tt.word.map dT)) = L9 at S9 w9 ⊢
    refine ⟨_, w9, fun G2 hG2 => ?_⟩
    refine comp_mapA dT D.tree (fun _ => sput_old w9 hG2) tt.word [] (by show 0 + tt.word.length ≤ _; omega) (fun p hp l4 k hk => ?_) ?_
    · have h1 := mem_prod_le hwq hp
      rw [hwp] at h1
      have h2 := dep_le_size p
      refine ⟨rfl, p, rfl, by omega, by omega, p, rfl, by omega, by omega, ?_⟩
      rw [can_canon p (hwq p hp).1]
      exact hk
    rw [List.nil_append]
    refine ⟨_, sput_same, ?_⟩
    refine AL.eqG_tup (neg := true) (l := tt.word.map D.tree) (m := tt.word.map D.tree) (eqSq_map tree_eqDD (by rw [depDL_map fun _ => rfl]; exact Nat.zero_le _) ?_)
    rw [decide_eq_true rfl]
    refine blD_f ?_
    refine ite_f rfl ?_
    have S10 := S9.new (m := .lst (tt.word.map D.tree)) hG2
    generalize sput L9 G2 (.lst (tt.word.map D.tree)) = L10 at S10 ⊢
    clear hwp hwq hwl r8 w9 hG2 hW2
    subst ett
    refine ⟨two, two, two, two, by show (4 : Nat) ≤ sizeLine; omega, ?_⟩
    refine loop_map (fun q : List JW.T × List JW.T => D.tup [.tree (.bas q.1), .tree (.bas q.2)]) [(l1, l2), (l2, l3), (l1, l1), (l3, l1)] (fun _ env L' => L' = L10 ∧ ∃ x10 x11 x12 x13 : Option D, env = [some D.scr, some (.int (0 + (i : Nat))), some (.ref d), some (.ref P), some (.ref W), some (.ref R), some (.tree (.bas l1)), some (.tree (.bas l2)), some (.tree (.bas l3)), some (.tree (.bas ls)), x10, x11, x12, x13]) (fun _ _ _ _ => trivial) ?step4 ?fin4 _ _ ⟨rfl, _, _, _, _, rfl⟩
    case fin4 =>
      rintro env L' ⟨rfl, x10, x11, x12, x13, rfl⟩
      exact kn _ _ ⟨_, _, _, _, _, _, _, _, _, _, _, _, _, rfl⟩
    case step4 =>
      rintro pre4 q rest4 n4 ex kn4 env L' ⟨rfl, x10, x11, x12, x13, rfl⟩
      have hq : q ∈ [(l1, l2), (l2, l3), (l1, l1), (l3, l1)] := by rw [ex]; simp
      have key : Op (.bas q.1) ∧ Op (.bas q.2) ∧ (JW.T.bas q.1).size ≤ 60 ∧ (JW.T.bas q.2).size ≤ 60 := by
        simp only [List.mem_cons, List.not_mem_nil, or_false] at hq
        rcases hq with rfl | rfl | rfl | rfl
        · exact ⟨o1, o2, z1, z2⟩
        · exact ⟨o2, o3, z2, z3⟩
        · exact ⟨o1, o1, z1, z1⟩
        · exact ⟨o3, o1, z3, z1⟩
      obtain ⟨v1, v2, v3, v4⟩ := key
      clear q1 q2 q3 q4 y1 y2 y3 w1 w2 w3' d1 d2 d3
      have u1 := dep_le_size (.bas q.1)
      have u2 := dep_le_size (.bas q.2)
      exact ⟨rfl, q.1, q.2, ls, rfl, rfl, rfl, v1, v2, sc, js, by omega, by omega, by omega, by omega, by omega, by omega, ite_f (A := True) rfl (kn4 _ _ ⟨rfl, _, _, _, _, rfl⟩)⟩
end
theorem txt_of {K : PySem.W.Frag} {h h0 base : Heap} {mg : Str → Option Value} (X : K.In h) (G : h.Ns mainGlobals mg) (c : SaysE fa fn tf ex fx h0 K) (TB : ∀ p ∈ tf.map (cT K), LamX.TabB base mg p.1 p.2) : Txt K mg base where
  cls := clsF_of (glo_ok X G (c.d.fact 0 (f := .glo "Fountain") rfl)) (cls_ok (c.d.fact 1 (f := .cls "Fountain") rfl)) (noat_ok (c.d.fact 2 (f := .noat "Fountain" "written") rfl)) (noat_ok (c.d.fact 3 (f := .noat "Fountain" "branches") rfl)) (noat_ok (c.d.fact 4 (f := .noat "Fountain" "numbers") rfl)) (exs c).1
  gMOST := int_ok X G (c.d.fact 5 (f := .int "MOST" 5000) rfl)
  gDEEPEST := int_ok X G (c.d.fact 6 (f := .int "DEEPEST" 120) rfl)
  gJET_TEXT := str_ok X G (c.d.fact 7 (f := .str "JET_TEXT" "o") rfl)
  e_NoBasin := by
    obtain ⟨fd, F⟩ := c.d.def_ 0 (d := dfn "NoBasin" (some "__init__") "__init__" "NoBasin.__init__" s_NoBasin___init__ [] []) rfl
    exact ⟨glo_ok X G (c.d.fact 8 (f := .glo "NoBasin") rfl), (errB_ok (all_at (exs c).2.2.2.1 0 (a := "NoBasin") rfl)).1, _, fd, (errB_ok (all_at (exs c).2.2.2.1 0 (a := "NoBasin") rfl)).2.1, (errB_ok (all_at (exs c).2.2.2.1 0 (a := "NoBasin") rfl)).2.2, F, F.bindsN fun _ _ _ _ _ _ us hl => match us, hl with | [_], _ => rfl⟩
  e_Closed := by
    obtain ⟨fd, F⟩ := c.d.def_ 1 (d := dfn "Closed" (some "__init__") "__init__" "Closed.__init__" s_Closed___init__ [] []) rfl
    exact ⟨glo_ok X G (c.d.fact 9 (f := .glo "Closed") rfl), (errB_ok (all_at (exs c).2.2.2.1 1 (a := "Closed") rfl)).1, _, fd, (errB_ok (all_at (exs c).2.2.2.1 1 (a := "Closed") rfl)).2.1, (errB_ok (all_at (exs c).2.2.2.1 1 (a := "Closed") rfl)).2.2, F, F.bindsN fun _ _ _ _ _ _ us hl => match us, hl with | [_], _ => rfl⟩
  e_TooLarge := by
    obtain ⟨fd, F⟩ := c.d.def_ 2 (d := dfn "TooLarge" (some "__init__") "__init__" "TooLarge.__init__" s_TooLarge___init__ [] []) rfl
    exact ⟨glo_ok X G (c.d.fact 10 (f := .glo "TooLarge") rfl), (errB_ok (all_at (exs c).2.2.2.1 2 (a := "TooLarge") rfl)).1, _, fd, (errB_ok (all_at (exs c).2.2.2.1 2 (a := "TooLarge") rfl)).2.1, (errB_ok (all_at (exs c).2.2.2.1 2 (a := "TooLarge") rfl)).2.2, F, F.bindsN fun _ _ _ _ _ _ us hl => match us, hl with | [_, _], _ => rfl⟩
  na_TooLarge := noat_ok (c.d.fact 11 (f := .noat "TooLarge" "pieces") rfl)
  e_TooDeep := by
    obtain ⟨fd, F⟩ := c.d.def_ 3 (d := dfn "TooDeep" (some "__init__") "__init__" "TooDeep.__init__" s_TooDeep___init__ [] []) rfl
    exact ⟨glo_ok X G (c.d.fact 12 (f := .glo "TooDeep") rfl), (errB_ok (all_at (exs c).2.2.2.1 3 (a := "TooDeep") rfl)).1, _, fd, (errB_ok (all_at (exs c).2.2.2.1 3 (a := "TooDeep") rfl)).2.1, (errB_ok (all_at (exs c).2.2.2.1 3 (a := "TooDeep") rfl)).2.2, F, F.bindsN fun _ _ _ _ _ _ us hl => match us, hl with | [_, _], _ => rfl⟩
  na_TooDeep := noat_ok (c.d.fact 13 (f := .noat "TooDeep" "basins") rfl)
  e_NoDifference := by
    obtain ⟨fd, F⟩ := c.d.def_ 4 (d := dfn "NoDifference" (some "__init__") "__init__" "NoDifference.__init__" s_NoDifference___init__ [] []) rfl
    exact ⟨glo_ok X G (c.d.fact 14 (f := .glo "NoDifference") rfl), (errB_ok (all_at (exs c).2.2.2.1 4 (a := "NoDifference") rfl)).1, _, fd, (errB_ok (all_at (exs c).2.2.2.1 4 (a := "NoDifference") rfl)).2.1, (errB_ok (all_at (exs c).2.2.2.1 4 (a := "NoDifference") rfl)).2.2, F, F.bindsN fun _ _ _ _ _ _ us hl => match us, hl with | [_, _], _ => rfl⟩
  na_NoDifference := noat_ok (c.d.fact 15 (f := .noat "NoDifference" "branch") rfl)
  d_check_numbers := by
    obtain ⟨fd, F⟩ := c.d.def_ 5 (d := dfn "check_numbers" none "check_numbers" "check_numbers" s_check_numbers [] []) rfl
    exact ⟨_, fd, glo_ok X G (c.d.fact 16 (f := .glo "check_numbers") rfl), F, F.bindsN fun _ _ _ _ _ _ us hl => match us, hl with | [_], _ => rfl⟩
  d_basin_numbers := by
    obtain ⟨fd, F⟩ := c.d.def_ 6 (d := dfn "basin_numbers" none "basin_numbers" "basin_numbers" s_basin_numbers [] []) rfl
    exact ⟨_, fd, glo_ok X G (c.d.fact 17 (f := .glo "basin_numbers") rfl), F, F.bindsN fun _ _ _ _ _ _ us hl => match us, hl with | [_], _ => rfl⟩
  d_product_numbers := by
    obtain ⟨fd, F⟩ := c.d.def_ 7 (d := dfn "product_numbers" none "product_numbers" "product_numbers" s_product_numbers [] []) rfl
    exact ⟨_, fd, glo_ok X G (c.d.fact 18 (f := .glo "product_numbers") rfl), F, F.bindsN fun _ _ _ _ _ _ us hl => match us, hl with | [_, _], _ => rfl⟩
  d_parsed := by
    obtain ⟨fd, F⟩ := c.d.def_ 8 (d := dfn "parsed" none "parsed" "parsed" s_parsed [] []) rfl
    exact ⟨_, fd, glo_ok X G (c.d.fact 19 (f := .glo "parsed") rfl), F, F.bindsN fun _ _ _ _ _ _ us hl => match us, hl with | [_], _ => rfl⟩
  d_made := by
    obtain ⟨fd, F⟩ := c.d.def_ 9 (d := dfn "made" none "made" "made" s_made [] []) rfl
    exact ⟨glo_ok X G (c.d.fact 20 (f := .glo "made") rfl), fd, F, F.bindsN fun _ _ _ _ _ _ us hl => match us, hl with | [_], _ => rfl⟩
  tb_made := TB _ (List.mem_map.mpr ⟨("made", none), List.mem_of_getElem? (i := 0) rfl, rfl⟩)
  d_allowed := by
    obtain ⟨fd, F⟩ := c.d.def_ 10 (d := dfn "allowed" none "allowed" "allowed" s_allowed [] []) rfl
    exact ⟨_, fd, glo_ok X G (c.d.fact 21 (f := .glo "allowed") rfl), F, F.bindsN fun _ _ _ _ _ _ us hl => match us, hl with | [_], _ => rfl⟩
  d_grafted := by
    obtain ⟨fd, F⟩ := c.d.def_ 11 (d := dfn "grafted" none "grafted" "grafted" s_grafted [] []) rfl
    exact ⟨_, fd, glo_ok X G (c.d.fact 22 (f := .glo "grafted") rfl), F, F.bindsN fun _ _ _ _ _ _ us hl => match us, hl with | [_, _], _ => rfl⟩
  d_cut := by
    obtain ⟨fd, F⟩ := c.d.def_ 12 (d := dfn "cut" none "cut" "cut" s_cut [] []) rfl
    exact ⟨_, fd, glo_ok X G (c.d.fact 23 (f := .glo "cut") rfl), F, F.bindsN fun _ _ _ _ _ _ us hl => match us, hl with | [_, _], _ => rfl⟩
  d_bare_place := by
    obtain ⟨fd, F⟩ := c.d.def_ 13 (d := dfn "bare_place" none "bare_place" "bare_place" s_bare_place [] []) rfl
    exact ⟨_, fd, glo_ok X G (c.d.fact 24 (f := .glo "bare_place") rfl), F, F.bindsN fun _ _ _ _ _ _ us hl => match us, hl with | [_, _, _], _ => rfl⟩
  d_carries := by
    obtain ⟨fd, F⟩ := c.d.def_ 14 (d := dfn "carries" none "carries" "carries" s_carries [] []) rfl
    exact ⟨_, fd, glo_ok X G (c.d.fact 25 (f := .glo "carries") rfl), F, F.bindsN fun _ _ _ _ _ _ us hl => match us, hl with | [_, _], _ => rfl⟩
  d_multiplied := by
    obtain ⟨fd, F⟩ := c.d.def_ 15 (d := dfn "multiplied" none "multiplied" "multiplied" s_multiplied [] []) rfl
    exact ⟨_, fd, glo_ok X G (c.d.fact 26 (f := .glo "multiplied") rfl), F, F.bindsN fun _ _ _ _ _ _ us hl => match us, hl with | [_], _ => rfl⟩
  init := by
    obtain ⟨fd, F⟩ := c.d.def_ 16 (d := dfn "Fountain" (some "__init__") "__init__" "Fountain.__init__" s_Fountain___init__ [.non] []) rfl
    refine ⟨_, fd, glo_ok X G (c.d.fact 0 (f := .glo "Fountain") rfl), mkr_ok (c.d.fact 27 (f := .mkr "Fountain") rfl), F, fun j hj => ?_⟩
    have e : j = 0 ∨ j = 1 := by
      have h : j ≤ 1 := hj
      omega
    rcases e with rfl | rfl
    · exact F.binds1 2 0 (List.cons_ne_nil _ _) rfl fun _ _ _ _ _ _ _ us its l1 l2 => match us, its, l1, l2 with | [_, _], [_], _, _ => ⟨_, rfl, rfl⟩
    · exact F.binds1 3 1 (List.cons_ne_nil _ _) rfl fun T kV doc pm an cdv ct us its l1 l2 => match us, its, l1, l2 with | [_, _, _], [_], _, _ => ⟨_, rfl, rfl⟩
  c_basin := by
    obtain ⟨fd, F⟩ := c.fxAt 0 (d := ⟨fun K => cgAd K ("Fountain", "basin"), "basin", "Fountain.basin", defArgs s_Fountain_basin, defBody s_Fountain_basin, defScope s_Fountain_basin⟩) rfl
    exact ⟨_, _, _, fd, (cmB_ok (all_at (exs c).2.2.1 0 (a := ("Fountain", "basin")) rfl)).1, (cmB_ok (all_at (exs c).2.2.1 0 (a := ("Fountain", "basin")) rfl)).2, F, F.bindsN fun _ _ _ _ _ _ us hl => match us, hl with | [_, _], _ => rfl⟩
  c_spray := by
    obtain ⟨fd, F⟩ := c.fxAt 1 (d := ⟨fun K => cgAd K ("Fountain", "spray"), "spray", "Fountain.spray", defArgs s_Fountain_spray, defBody s_Fountain_spray, defScope s_Fountain_spray⟩) rfl
    exact ⟨_, _, _, fd, (cmB_ok (all_at (exs c).2.2.1 1 (a := ("Fountain", "spray")) rfl)).1, (cmB_ok (all_at (exs c).2.2.1 1 (a := ("Fountain", "spray")) rfl)).2, F, F.bindsN fun _ _ _ _ _ _ us hl => match us, hl with | [_, _], _ => rfl⟩
  c_product := by
    obtain ⟨fd, F⟩ := c.fxAt 2 (d := ⟨fun K => cgAd K ("Fountain", "product"), "product", "Fountain.product", defArgs s_Fountain_product, defBody s_Fountain_product, defScope s_Fountain_product⟩) rfl
    exact ⟨_, _, _, fd, (cmB_ok (all_at (exs c).2.2.1 2 (a := ("Fountain", "product")) rfl)).1, (cmB_ok (all_at (exs c).2.2.1 2 (a := ("Fountain", "product")) rfl)).2, F, F.bindsN fun _ _ _ _ _ _ us hl => match us, hl with | [_, _], _ => rfl⟩
  p_text := by
    obtain ⟨fd, F⟩ := c.fxAt 3 (d := ⟨fun K => gAd K ("Fountain", "text"), "text", "Fountain.text", defArgs s_Fountain_text, defBody s_Fountain_text, defScope s_Fountain_text⟩) rfl
    exact ⟨_, _, fd, (propB_ok (all_at (exs c).2.1 0 (a := ("Fountain", "text")) rfl)), F, F.bindsN fun _ _ _ _ _ _ us hl => match us, hl with | [_], _ => rfl⟩
  p_parts := by
    obtain ⟨fd, F⟩ := c.fxAt 4 (d := ⟨fun K => gAd K ("Fountain", "parts"), "parts", "Fountain.parts", defArgs s_Fountain_parts, defBody s_Fountain_parts, defScope s_Fountain_parts⟩) rfl
    exact ⟨_, _, fd, (propB_ok (all_at (exs c).2.1 1 (a := ("Fountain", "parts")) rfl)), F, F.bindsN fun _ _ _ _ _ _ us hl => match us, hl with | [_], _ => rfl⟩
  p_size := by
    obtain ⟨fd, F⟩ := c.fxAt 5 (d := ⟨fun K => gAd K ("Fountain", "size"), "size", "Fountain.size", defArgs s_Fountain_size, defBody s_Fountain_size, defScope s_Fountain_size⟩) rfl
    exact ⟨_, _, fd, (propB_ok (all_at (exs c).2.1 2 (a := ("Fountain", "size")) rfl)), F, F.bindsN fun _ _ _ _ _ _ us hl => match us, hl with | [_], _ => rfl⟩
  p_jets := by
    obtain ⟨fd, F⟩ := c.fxAt 6 (d := ⟨fun K => gAd K ("Fountain", "jets"), "jets", "Fountain.jets", defArgs s_Fountain_jets, defBody s_Fountain_jets, defScope s_Fountain_jets⟩) rfl
    exact ⟨_, _, fd, (propB_ok (all_at (exs c).2.1 3 (a := ("Fountain", "jets")) rfl)), F, F.bindsN fun _ _ _ _ _ _ us hl => match us, hl with | [_], _ => rfl⟩
  p_depth := by
    obtain ⟨fd, F⟩ := c.fxAt 7 (d := ⟨fun K => gAd K ("Fountain", "depth"), "depth", "Fountain.depth", defArgs s_Fountain_depth, defBody s_Fountain_depth, defScope s_Fountain_depth⟩) rfl
    exact ⟨_, _, fd, (propB_ok (all_at (exs c).2.1 4 (a := ("Fountain", "depth")) rfl)), F, F.bindsN fun _ _ _ _ _ _ us hl => match us, hl with | [_], _ => rfl⟩
  p_longest := by
    obtain ⟨fd, F⟩ := c.fxAt 8 (d := ⟨fun K => gAd K ("Fountain", "longest"), "longest", "Fountain.longest", defArgs s_Fountain_longest, defBody s_Fountain_longest, defScope s_Fountain_longest⟩) rfl
    exact ⟨_, _, fd, (propB_ok (all_at (exs c).2.1 5 (a := ("Fountain", "longest")) rfl)), F, F.bindsN fun _ _ _ _ _ _ us hl => match us, hl with | [_], _ => rfl⟩
  p_shortest := by
    obtain ⟨fd, F⟩ := c.fxAt 9 (d := ⟨fun K => gAd K ("Fountain", "shortest"), "shortest", "Fountain.shortest", defArgs s_Fountain_shortest, defBody s_Fountain_shortest, defScope s_Fountain_shortest⟩) rfl
    exact ⟨_, _, fd, (propB_ok (all_at (exs c).2.1 6 (a := ("Fountain", "shortest")) rfl)), F, F.bindsN fun _ _ _ _ _ _ us hl => match us, hl with | [_], _ => rfl⟩
  p_is_open := by
    obtain ⟨fd, F⟩ := c.fxAt 10 (d := ⟨fun K => gAd K ("Fountain", "is_open"), "is_open", "Fountain.is_open", defArgs s_Fountain_is_open, defBody s_Fountain_is_open, defScope s_Fountain_is_open⟩) rfl
    exact ⟨_, _, fd, (propB_ok (all_at (exs c).2.1 7 (a := ("Fountain", "is_open")) rfl)), F, F.bindsN fun _ _ _ _ _ _ us hl => match us, hl with | [_], _ => rfl⟩
  p_is_jet := by
    obtain ⟨fd, F⟩ := c.fxAt 11 (d := ⟨fun K => gAd K ("Fountain", "is_jet"), "is_jet", "Fountain.is_jet", defArgs s_Fountain_is_jet, defBody s_Fountain_is_jet, defScope s_Fountain_is_jet⟩) rfl
    exact ⟨_, _, fd, (propB_ok (all_at (exs c).2.1 8 (a := ("Fountain", "is_jet")) rfl)), F, F.bindsN fun _ _ _ _ _ _ us hl => match us, hl with | [_], _ => rfl⟩
  m___eq__ := by
    obtain ⟨fd, F⟩ := c.d.def_ 17 (d := dfn "Fountain" (some "__eq__") "__eq__" "Fountain.__eq__" s_Fountain___eq__ [] []) rfl
    exact ⟨_, fd, meth_ok (c.d.fact 28 (f := .meth "Fountain" "__eq__") rfl), F, F.bindsN fun _ _ _ _ _ _ us hl => match us, hl with | [_, _], _ => rfl⟩
  m___repr__ := by
    obtain ⟨fd, F⟩ := c.d.def_ 18 (d := dfn "Fountain" (some "__repr__") "__repr__" "Fountain.__repr__" s_Fountain___repr__ [] []) rfl
    exact ⟨_, fd, meth_ok (c.d.fact 29 (f := .meth "Fountain" "__repr__") rfl), F, F.bindsN fun _ _ _ _ _ _ us hl => match us, hl with | [_], _ => rfl⟩
  m___len__ := by
    obtain ⟨fd, F⟩ := c.d.def_ 19 (d := dfn "Fountain" (some "__len__") "__len__" "Fountain.__len__" s_Fountain___len__ [] []) rfl
    exact ⟨_, fd, meth_ok (c.d.fact 30 (f := .meth "Fountain" "__len__") rfl), F, F.bindsN fun _ _ _ _ _ _ us hl => match us, hl with | [_], _ => rfl⟩
  m___getitem__ := by
    obtain ⟨fd, F⟩ := c.d.def_ 20 (d := dfn "Fountain" (some "__getitem__") "__getitem__" "Fountain.__getitem__" s_Fountain___getitem__ [] []) rfl
    exact ⟨_, fd, meth_ok (c.d.fact 31 (f := .meth "Fountain" "__getitem__") rfl), F, F.bindsN fun _ _ _ _ _ _ us hl => match us, hl with | [_, _], _ => rfl⟩
  m___contains__ := by
    obtain ⟨fd, F⟩ := c.d.def_ 21 (d := dfn "Fountain" (some "__contains__") "__contains__" "Fountain.__contains__" s_Fountain___contains__ [] []) rfl
    exact ⟨_, fd, meth_ok (c.d.fact 32 (f := .meth "Fountain" "__contains__") rfl), F, F.bindsN fun _ _ _ _ _ _ us hl => match us, hl with | [_, _], _ => rfl⟩
  m___add__ := by
    obtain ⟨fd, F⟩ := c.d.def_ 22 (d := dfn "Fountain" (some "__add__") "__add__" "Fountain.__add__" s_Fountain___add__ [] []) rfl
    exact ⟨_, fd, meth_ok (c.d.fact 33 (f := .meth "Fountain" "__add__") rfl), F, F.bindsN fun _ _ _ _ _ _ us hl => match us, hl with | [_, _], _ => rfl⟩
  m___sub__ := by
    obtain ⟨fd, F⟩ := c.d.def_ 23 (d := dfn "Fountain" (some "__sub__") "__sub__" "Fountain.__sub__" s_Fountain___sub__ [] []) rfl
    exact ⟨_, fd, meth_ok (c.d.fact 34 (f := .meth "Fountain" "__sub__") rfl), F, F.bindsN fun _ _ _ _ _ _ us hl => match us, hl with | [_, _], _ => rfl⟩
  m___mul__ := by
    obtain ⟨fd, F⟩ := c.d.def_ 24 (d := dfn "Fountain" (some "__mul__") "__mul__" "Fountain.__mul__" s_Fountain___mul__ [] []) rfl
    exact ⟨_, fd, meth_ok (c.d.fact 35 (f := .meth "Fountain" "__mul__") rfl), F, F.bindsN fun _ _ _ _ _ _ us hl => match us, hl with | [_, _], _ => rfl⟩
  m___floordiv__ := by
    obtain ⟨fd, F⟩ := c.d.def_ 25 (d := dfn "Fountain" (some "__floordiv__") "__floordiv__" "Fountain.__floordiv__" s_Fountain___floordiv__ [] []) rfl
    exact ⟨_, fd, meth_ok (c.d.fact 36 (f := .meth "Fountain" "__floordiv__") rfl), F, F.bindsN fun _ _ _ _ _ _ us hl => match us, hl with | [_, _], _ => rfl⟩
  m_at := by
    obtain ⟨fd, F⟩ := c.d.def_ 26 (d := dfn "Fountain" (some "at") "at" "Fountain.at" s_Fountain_at [] []) rfl
    exact ⟨_, fd, meth_ok (c.d.fact 37 (f := .meth "Fountain" "at") rfl), F, F.bindsN fun _ _ _ _ _ _ us hl => match us, hl with | [_, _], _ => rfl⟩
  m_put := by
    obtain ⟨fd, F⟩ := c.d.def_ 27 (d := dfn "Fountain" (some "put") "put" "Fountain.put" s_Fountain_put [] []) rfl
    exact ⟨_, fd, meth_ok (c.d.fact 38 (f := .meth "Fountain" "put") rfl), F, F.bindsN fun _ _ _ _ _ _ us hl => match us, hl with | [_, _, _], _ => rfl⟩
  d_need_open := by
    obtain ⟨fd, F⟩ := c.d.def_ 28 (d := dfn "need_open" none "need_open" "need_open" s_need_open [] []) rfl
    refine ⟨_, fd, glo_ok X G (c.d.fact 39 (f := .glo "need_open") rfl), F, ?_⟩
    obtain ⟨oc, od, dV, kV, doc, pm, an, cdv, ct, osl, rfl, _, _, hD, _⟩ := F.ex
    have hdv : dV = .none := hD.elim (fun z => z.2) fun z => absurd rfl z.1
    subst hdv
    exact fun us rest hl => match us, hl with | [], _ => bindStar1 (by rfl) (by rfl) (by rfl) (by rfl) (by rfl) (by rfl) (by rfl) rest
  d_shared_tail := by
    obtain ⟨fd, F⟩ := c.d.def_ 29 (d := dfn "shared_tail" none "shared_tail" "shared_tail" s_shared_tail [] []) rfl
    exact ⟨_, fd, glo_ok X G (c.d.fact 40 (f := .glo "shared_tail") rfl), F, F.bindsN fun _ _ _ _ _ _ us hl => match us, hl with | [_], _ => rfl⟩
  d_open_branches := by
    obtain ⟨fd, F⟩ := c.d.def_ 30 (d := dfn "open_branches" none "open_branches" "open_branches" s_open_branches [] []) rfl
    exact ⟨_, fd, glo_ok X G (c.d.fact 41 (f := .glo "open_branches") rfl), F, F.bindsN fun _ _ _ _ _ _ us hl => match us, hl with | [_], _ => rfl⟩
  d_word_and_ends := by
    obtain ⟨fd, F⟩ := c.d.def_ 31 (d := dfn "word_and_ends" none "word_and_ends" "word_and_ends" s_word_and_ends [] []) rfl
    exact ⟨_, fd, glo_ok X G (c.d.fact 42 (f := .glo "word_and_ends") rfl), F, F.bindsN fun _ _ _ _ _ _ us hl => match us, hl with | [_], _ => rfl⟩
  d_word_of := by
    obtain ⟨fd, F⟩ := c.d.def_ 32 (d := dfn "word_of" none "word_of" "word_of" s_word_of [] []) rfl
    exact ⟨_, fd, glo_ok X G (c.d.fact 43 (f := .glo "word_of") rfl), F, F.bindsN fun _ _ _ _ _ _ us hl => match us, hl with | [_], _ => rfl⟩
  d_factors := by
    obtain ⟨fd, F⟩ := c.d.def_ 33 (d := dfn "factors" none "factors" "factors" s_factors [] []) rfl
    exact ⟨_, fd, glo_ok X G (c.d.fact 44 (f := .glo "factors") rfl), F, F.bindsN fun _ _ _ _ _ _ us hl => match us, hl with | [_], _ => rfl⟩
  d_is_prime := by
    obtain ⟨fd, F⟩ := c.d.def_ 34 (d := dfn "is_prime" none "is_prime" "is_prime" s_is_prime [] []) rfl
    exact ⟨_, fd, glo_ok X G (c.d.fact 45 (f := .glo "is_prime") rfl), F, F.bindsN fun _ _ _ _ _ _ us hl => match us, hl with | [_], _ => rfl⟩
  d_common_end := by
    obtain ⟨fd, F⟩ := c.d.def_ 35 (d := dfn "common_end" none "common_end" "common_end" s_common_end [] []) rfl
    exact ⟨_, fd, glo_ok X G (c.d.fact 46 (f := .glo "common_end") rfl), F, F.bindsN fun _ _ _ _ _ _ us hl => match us, hl with | [_, _], _ => rfl⟩
  d__law_sack := by
    obtain ⟨fd, F⟩ := c.d.def_ 36 (d := dfn "_law_sack" none "_law_sack" "_law_sack" s__law_sack [] []) rfl
    exact ⟨_, fd, glo_ok X G (c.d.fact 47 (f := .glo "_law_sack") rfl), F, F.bindsN fun _ _ _ _ _ _ us hl => match us, hl with | [_, _], _ => rfl⟩
  d__law_take := by
    obtain ⟨fd, F⟩ := c.d.def_ 37 (d := dfn "_law_take" none "_law_take" "_law_take" s__law_take [] []) rfl
    exact ⟨_, fd, glo_ok X G (c.d.fact 48 (f := .glo "_law_take") rfl), F, F.bindsN fun _ _ _ _ _ _ us hl => match us, hl with | [_, _], _ => rfl⟩
  d__law_mixed := by
    obtain ⟨fd, F⟩ := c.d.def_ 38 (d := dfn "_law_mixed" none "_law_mixed" "_law_mixed" s__law_mixed [] []) rfl
    exact ⟨_, fd, glo_ok X G (c.d.fact 49 (f := .glo "_law_mixed") rfl), F, F.bindsN fun _ _ _ _ _ _ us hl => match us, hl with | [_, _], _ => rfl⟩
  d__law_text := by
    obtain ⟨fd, F⟩ := c.d.def_ 39 (d := dfn "_law_text" none "_law_text" "_law_text" s__law_text [] []) rfl
    exact ⟨_, fd, glo_ok X G (c.d.fact 50 (f := .glo "_law_text") rfl), F, F.bindsN fun _ _ _ _ _ _ us hl => match us, hl with | [_], _ => rfl⟩
  d__law_basin := by
    obtain ⟨fd, F⟩ := c.d.def_ 40 (d := dfn "_law_basin" none "_law_basin" "_law_basin" s__law_basin [] []) rfl
    exact ⟨_, fd, glo_ok X G (c.d.fact 51 (f := .glo "_law_basin") rfl), F, F.bindsN fun _ _ _ _ _ _ us hl => match us, hl with | [_], _ => rfl⟩
  d__law_size := by
    obtain ⟨fd, F⟩ := c.d.def_ 41 (d := dfn "_law_size" none "_law_size" "_law_size" s__law_size [] []) rfl
    exact ⟨_, fd, glo_ok X G (c.d.fact 52 (f := .glo "_law_size") rfl), F, F.bindsN fun _ _ _ _ _ _ us hl => match us, hl with | [_], _ => rfl⟩
  d__law_jets := by
    obtain ⟨fd, F⟩ := c.d.def_ 42 (d := dfn "_law_jets" none "_law_jets" "_law_jets" s__law_jets [] []) rfl
    exact ⟨_, fd, glo_ok X G (c.d.fact 53 (f := .glo "_law_jets") rfl), F, F.bindsN fun _ _ _ _ _ _ us hl => match us, hl with | [_], _ => rfl⟩
  d__law_tree := by
    obtain ⟨fd, F⟩ := c.d.def_ 43 (d := dfn "_law_tree" none "_law_tree" "_law_tree" s__law_tree [] []) rfl
    exact ⟨_, fd, glo_ok X G (c.d.fact 54 (f := .glo "_law_tree") rfl), F, F.bindsN fun _ _ _ _ _ _ us hl => match us, hl with | [_, _], _ => rfl⟩
  d__law_open := by
    obtain ⟨fd, F⟩ := c.d.def_ 44 (d := dfn "_law_open" none "_law_open" "_law_open" s__law_open [] []) rfl
    exact ⟨_, fd, glo_ok X G (c.d.fact 55 (f := .glo "_law_open") rfl), F, F.bindsN fun _ _ _ _ _ _ us hl => match us, hl with | [_, _], _ => rfl⟩
  d__law_grafted := by
    obtain ⟨fd, F⟩ := c.d.def_ 45 (d := dfn "_law_grafted" none "_law_grafted" "_law_grafted" s__law_grafted [] []) rfl
    exact ⟨_, fd, glo_ok X G (c.d.fact 56 (f := .glo "_law_grafted") rfl), F, F.bindsN fun _ _ _ _ _ _ us hl => match us, hl with | [_, _], _ => rfl⟩
  d__law_product := by
    obtain ⟨fd, F⟩ := c.d.def_ 46 (d := dfn "_law_product" none "_law_product" "_law_product" s__law_product [] []) rfl
    exact ⟨_, fd, glo_ok X G (c.d.fact 57 (f := .glo "_law_product") rfl), F, F.bindsN fun _ _ _ _ _ _ us hl => match us, hl with | [_], _ => rfl⟩
  d__law_cut := by
    obtain ⟨fd, F⟩ := c.d.def_ 47 (d := dfn "_law_cut" none "_law_cut" "_law_cut" s__law_cut [] []) rfl
    exact ⟨_, fd, glo_ok X G (c.d.fact 58 (f := .glo "_law_cut") rfl), F, F.bindsN fun _ _ _ _ _ _ us hl => match us, hl with | [_, _], _ => rfl⟩
  d__law_bare := by
    obtain ⟨fd, F⟩ := c.d.def_ 48 (d := dfn "_law_bare" none "_law_bare" "_law_bare" s__law_bare [] []) rfl
    exact ⟨_, fd, glo_ok X G (c.d.fact 59 (f := .glo "_law_bare") rfl), F, F.bindsN fun _ _ _ _ _ _ us hl => match us, hl with | [_, _], _ => rfl⟩
  d__law_loose := by
    obtain ⟨fd, F⟩ := c.d.def_ 49 (d := dfn "_law_loose" none "_law_loose" "_law_loose" s__law_loose [] []) rfl
    exact ⟨_, fd, glo_ok X G (c.d.fact 60 (f := .glo "_law_loose") rfl), F, F.bindsN fun _ _ _ _ _ _ us hl => match us, hl with | [_, _], _ => rfl⟩
  d__law_made := by
    obtain ⟨fd, F⟩ := c.d.def_ 50 (d := dfn "_law_made" none "_law_made" "_law_made" s__law_made [] []) rfl
    exact ⟨_, fd, glo_ok X G (c.d.fact 61 (f := .glo "_law_made") rfl), F, F.bindsN fun _ _ _ _ _ _ us hl => match us, hl with | [_, _], _ => rfl⟩
  d__law_first_way := by
    obtain ⟨fd, F⟩ := c.d.def_ 51 (d := dfn "_law_first_way" none "_law_first_way" "_law_first_way" s__law_first_way [] []) rfl
    exact ⟨_, fd, glo_ok X G (c.d.fact 62 (f := .glo "_law_first_way") rfl), F, F.bindsN fun _ _ _ _ _ _ us hl => match us, hl with | [_], _ => rfl⟩
  d__law_word := by
    obtain ⟨fd, F⟩ := c.d.def_ 52 (d := dfn "_law_word" none "_law_word" "_law_word" s__law_word [] []) rfl
    exact ⟨_, fd, glo_ok X G (c.d.fact 63 (f := .glo "_law_word") rfl), F, F.bindsN fun _ _ _ _ _ _ us hl => match us, hl with | [_], _ => rfl⟩
  d__law_primes := by
    obtain ⟨fd, F⟩ := c.d.def_ 53 (d := dfn "_law_primes" none "_law_primes" "_law_primes" s__law_primes [] []) rfl
    exact ⟨_, fd, glo_ok X G (c.d.fact 64 (f := .glo "_law_primes") rfl), F, F.bindsN fun _ _ _ _ _ _ us hl => match us, hl with | [_, _], _ => rfl⟩
  d__law_fits := by
    obtain ⟨fd, F⟩ := c.d.def_ 54 (d := dfn "_law_fits" none "_law_fits" "_law_fits" s__law_fits [] []) rfl
    exact ⟨_, fd, glo_ok X G (c.d.fact 65 (f := .glo "_law_fits") rfl), F, F.bindsN fun _ _ _ _ _ _ us hl => match us, hl with | [_], _ => rfl⟩
  d__law_some_word := by
    obtain ⟨fd, F⟩ := c.d.def_ 55 (d := dfn "_law_some_word" none "_law_some_word" "_law_some_word" s__law_some_word [] []) rfl
    exact ⟨_, fd, glo_ok X G (c.d.fact 66 (f := .glo "_law_some_word") rfl), F, F.bindsN fun _ _ _ _ _ _ us hl => match us, hl with | [_, _, _], _ => rfl⟩
  d__law_pool := by
    obtain ⟨fd, F⟩ := c.d.def_ 56 (d := dfn "_law_pool" none "_law_pool" "_law_pool" s__law_pool [] []) rfl
    exact ⟨_, fd, glo_ok X G (c.d.fact 67 (f := .glo "_law_pool") rfl), F, F.bindsN fun _ _ _ _ _ _ us hl => match us, hl with | [_], _ => rfl⟩
  d__law_shut := by
    obtain ⟨fd, F⟩ := c.d.def_ 57 (d := dfn "_law_shut" none "_law_shut" "_law_shut" s__law_shut [] []) rfl
    exact ⟨_, fd, glo_ok X G (c.d.fact 68 (f := .glo "_law_shut") rfl), F, F.bindsN fun _ _ _ _ _ _ us hl => match us, hl with | [_], _ => rfl⟩
  d__law_end_of := by
    obtain ⟨fd, F⟩ := c.d.def_ 58 (d := dfn "_law_end_of" none "_law_end_of" "_law_end_of" s__law_end_of [] []) rfl
    exact ⟨_, fd, glo_ok X G (c.d.fact 69 (f := .glo "_law_end_of") rfl), F, F.bindsN fun _ _ _ _ _ _ us hl => match us, hl with | [_], _ => rfl⟩
  d__law_drawn := by
    obtain ⟨fd, F⟩ := c.d.def_ 59 (d := dfn "_law_drawn" none "_law_drawn" "_law_drawn" s__law_drawn [] []) rfl
    exact ⟨_, fd, glo_ok X G (c.d.fact 70 (f := .glo "_law_drawn") rfl), F, F.bindsN fun _ _ _ _ _ _ us hl => match us, hl with | [_, _, _], _ => rfl⟩
  d__law_basin_right := by
    obtain ⟨fd, F⟩ := c.d.def_ 60 (d := dfn "_law_basin_right" none "_law_basin_right" "_law_basin_right" s__law_basin_right [] []) rfl
    exact ⟨_, fd, glo_ok X G (c.d.fact 71 (f := .glo "_law_basin_right") rfl), F, F.bindsN fun _ _ _ _ _ _ us hl => match us, hl with | [_], _ => rfl⟩
  d__law_sum_right := by
    obtain ⟨fd, F⟩ := c.d.def_ 61 (d := dfn "_law_sum_right" none "_law_sum_right" "_law_sum_right" s__law_sum_right [] []) rfl
    exact ⟨_, fd, glo_ok X G (c.d.fact 72 (f := .glo "_law_sum_right") rfl), F, F.bindsN fun _ _ _ _ _ _ us hl => match us, hl with | [_, _, _], _ => rfl⟩
  d__law_many_right := by
    obtain ⟨fd, F⟩ := c.d.def_ 62 (d := dfn "_law_many_right" none "_law_many_right" "_law_many_right" s__law_many_right [] []) rfl
    exact ⟨_, fd, glo_ok X G (c.d.fact 73 (f := .glo "_law_many_right") rfl), F, F.bindsN fun _ _ _ _ _ _ us hl => match us, hl with | [_], _ => rfl⟩
  d_law := by
    obtain ⟨fd, F⟩ := c.d.def_ 63 (d := dfn "law" none "law" "law" s_law [] []) rfl
    exact ⟨_, fd, glo_ok X G (c.d.fact 74 (f := .glo "law") rfl), F, F.bindsN fun _ _ _ _ _ _ us hl => match us, hl with | [_], _ => rfl⟩
  b_JetError := ⟨glo_ok X G (c.d.fact 75 (f := .glo "JetError") rfl), baseB_ok (all_at (exs c).2.2.2.2.1 0 (a := "JetError") rfl)⟩
  b_NoDivision := ⟨glo_ok X G (c.d.fact 76 (f := .glo "NoDivision") rfl), baseB_ok (all_at (exs c).2.2.2.2.1 1 (a := "NoDivision") rfl)⟩
  n_NotImplemented := free_ok X G (c.d.fact 77 (f := .free "NotImplemented") rfl)
  n_TypeError := free_ok X G (c.d.fact 78 (f := .free "TypeError") rfl)
  n_abs := free_ok X G (c.d.fact 79 (f := .free "abs") rfl)
  n_all := free_ok X G (c.d.fact 80 (f := .free "all") rfl)
  n_any := free_ok X G (c.d.fact 81 (f := .free "any") rfl)
  n_enumerate := free_ok X G (c.d.fact 82 (f := .free "enumerate") rfl)
  n_int := free_ok X G (c.d.fact 83 (f := .free "int") rfl)
  n_isinstance := free_ok X G (c.d.fact 84 (f := .free "isinstance") rfl)
  n_len := free_ok X G (c.d.fact 85 (f := .free "len") rfl)
  n_list := free_ok X G (c.d.fact 86 (f := .free "list") rfl)
  n_max := free_ok X G (c.d.fact 87 (f := .free "max") rfl)
  n_min := free_ok X G (c.d.fact 88 (f := .free "min") rfl)
  n_range := free_ok X G (c.d.fact 89 (f := .free "range") rfl)
  n_sorted := free_ok X G (c.d.fact 90 (f := .free "sorted") rfl)
  n_sum := free_ok X G (c.d.fact 91 (f := .free "sum") rfl)
  n_tuple := free_ok X G (c.d.fact 92 (f := .free "tuple") rfl)
theorem tabs_of {K : PySem.W.Frag} {H : Hp} (hH : ∀ p ∈ tf.map (cT K), H p.2 = some (.tbl #[])) : LamX.Tabs (TT K) H := fun q hq => by
  rcases List.mem_cons.mp hq with e | hq
  · subst e
    exact LamX.TabS.nil (hH _ (List.mem_map.mpr ⟨("made", none), List.mem_of_getElem? (i := 0) rfl, rfl⟩))
  · exact absurd hq (by simp)
theorem facts {w : World} {K : PySem.W.Frag} {h : Heap} {mg : Str → Option Value} {f : Addr} (X : K.In h) (G : h.Ns mainGlobals mg) (hfa : mg ("law" : Str) = some (.ref f)) (c : SaysE fa fn tf ex fx h K) :
    LamX.LawAtS PySem.Challenge.rw_jetworks_k68_whole_sums_divided_and_fact w K CX0 206 63 "_law_script" mg f h := by
  obtain ⟨fd, F⟩ := c.d.def_ 63 (d := dfn "law" none "law" "law" s_law [] []) rfl
  have e := hfa.symm.trans (glo_ok X G (c.d.fact 74 (f := .glo "law") rfl))
  cases e
  refine ⟨fd, tf.map (cT K), sp_law K, fun p hp => ?_, fun p hp => ?_, fun p hp => ?_, fun s v => FunD.bindsA (ps := ["_law_script"]) F (fun _ _ _ _ _ _ us hl => match us, hl with | [_], _ => rfl) s [v] rfl, fun H a ns hl _ hH hS => ⟨a, ns, rfl, hS, hl, tabs_of hH, fun _ => rfl⟩, fun base kb nb TB => fn_law (txt_of kb nb c TB) F⟩
  · obtain ⟨q, hq, rfl⟩ := List.mem_map.mp hp
    exact c.empty q hq
  · obtain ⟨q, hq, rfl⟩ := List.mem_map.mp hp
    exact c.out q hq
  · obtain ⟨q, hq, rfl⟩ := List.mem_map.mp hp
    exact PySem.W.codeHd_of_K X (c.hd q hq)

end JW
open PySem PySem.W PySem.Calls PyProof.Rows
set_option maxRecDepth 100000 in
set_option maxHeartbeats 0 in
theorem PySem.Challenge.cw_jetworks_k68_whole_sums_divided_and_fact_holds : PySem.Challenge.rw_jetworks_k68_whole_sums_divided_and_fact.Holds := by
  w_on; o_law
  refine HandSHeadRun.head_any (r := OpenLaw.row PySem.Challenge.rw_jetworks_k68_whole_sums_divided_and_fact) (q := view (OpenLaw.row PySem.Challenge.rw_jetworks_k68_whole_sums_divided_and_fact).prog [67]) (H := JW.hk) (ob := JW.ob) (M := 200000) (loose := JW.loose) (d := HandSHeadRun.topDef (OpenLaw.row PySem.Challenge.rw_jetworks_k68_whole_sums_divided_and_fact).prog 67) (kwd := []) JW.ob_eq
    (by kernel_rfl) (fun s => by kernel_rfl) JW.run (by kernel_rfl) (by kernel_rfl) (by kernel_rfl) (by rfl) (by first | assumption | decide +kernel) (by decide +kernel) ⟨rfl, rfl, rfl, rfl, rfl, by decide +kernel⟩ ?hw ?hc
  case hw => w_witness2
  case hc =>
    refine LamX.walk_ofTsE (l := PySem.Challenge.rw_jetworks_k68_whole_sums_divided_and_fact) (n := 63) (k := 206) (x := "_law_script") (CX := fun _ => L2.CX0) rfl (by decide) (by kernel_rfl) ⟨rfl, by decide, by decide⟩ ?F (fun _ _ _ _ _ z => z)
    intro w mg fa h Y G hmg0
    obtain ⟨K, KX, c⟩ := Y
    have hmg : mg ("law" : PySem.Str) = some (.ref fa) := by
      have e : (HandSHeadRun.topDef (OpenLaw.row PySem.Challenge.rw_jetworks_k68_whole_sums_divided_and_fact).prog 67).name = ("law" : PySem.Str) := by kernel_rfl
      rw [← e]
      exact hmg0
    exact ⟨K, KX, JW.facts KX G hmg c⟩

