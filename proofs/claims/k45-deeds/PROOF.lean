import PyProof.Rows.All
import Wide.All
import OpenK.AllK
import Wide.FinOn
import KE.KStateDown
import Lean
import HandS.ForMost
import HandS.More
import HandS.Exc
import HandS.WordsExc
import HandS.Defaults
import HandS.Flow
import HandS.Style
import HandS.Wide
import HandS.IsInst
import HandS.Head0
import HandS.Head1
import HandS.Head2
import HandS.HeadEnd
import HandS.HeadHook1
import HandS.HeadHook2
import PyProof.NeKinds
import PyProof.InstNe
import OpenK.KMeth
import HandS.Property
import HandS.ClsMeth
import HandS.OwnEq
import KE.KSortKeyAny
import KE.KLam
import HandS.Lambda
import HandS.SortKw
import PyProof.Rows.SortShellAny
import KE.DataMinMax
import HandS.HeadHook4
import HandS.HeadWalk
import HandS.EndTab
import HandS.TupAny
import HandS.ExcInit
import HandS.ExcField
import HandS.ExcIs
import KE.KExcIs
import HandS.ExcOwn
import HandS.TryOnly
import HandS.TupMul
import HandS.Star
import HandS.ReplaceLit
import HandS.Walk
import HandS.ReplaceDef
import HandS.ReplaceList
import HandS.GenList
import HandS.Conv
import HandS.FStr
import HandS.Zip
import HandS.Deep
import HandS.MakeKwOnly
import HandS.HotCalls
import PySem.Challenge.RW_jetworks_k45_deeds
set_option Elab.async false
set_option linter.all false
set_option maxRecDepth 100000
set_option exponentiation.threshold 100000
set_option maxHeartbeats 4000000
set_option pp.maxSteps 700
namespace JW
inductive T where
  | jet
  | bas (l : List T)
mutual
def T.codes : T → List Nat
  | .jet => [111]
  | .bas l => 40 :: (codesL l ++ [41])
def codesL : List T → List Nat
  | [] => []
  | t :: r => t.codes ++ codesL r
end
mutual
theorem T.ind' {P : T → Prop} (hj : P .jet) (hb : ∀ l, (∀ t ∈ l, P t) → P (.bas l)) : ∀ t, P t
  | .jet => hj
  | .bas l => hb l (indL' hj hb l)
theorem indL' {P : T → Prop} (hj : P .jet) (hb : ∀ l, (∀ t ∈ l, P t) → P (.bas l)) : ∀ l : List T, ∀ t ∈ l, P t
  | [], _, h => nomatch h
  | u :: r, t, h => by
    rcases List.mem_cons.mp h with e | e
    · exact e ▸ T.ind' hj hb u
    · exact indL' hj hb r t e
end
theorem codes_head : ∀ t : T, (∃ r, t.codes = 111 :: r) ∨ ∃ r, t.codes = 40 :: r
  | .jet => .inl ⟨[], rfl⟩
  | .bas l => .inr ⟨_, rfl⟩
mutual
theorem codes_pre : ∀ (t u : T) (r s : List Nat), t.codes ++ r = u.codes ++ s → t = u ∧ r = s
  | .jet, .jet, r, s, h => ⟨rfl, List.cons.inj h |>.2⟩
  | .jet, .bas l, r, s, h => by
    have h1 : (111 : Nat) = 40 := (List.cons.inj h).1
    cases h1
  | .bas l, .jet, r, s, h => by
    have h1 : (40 : Nat) = 111 := (List.cons.inj h).1
    cases h1
  | .bas l, .bas m, r, s, h => by
    have h1 : codesL l ++ [41] ++ r = codesL m ++ [41] ++ s := (List.cons.inj h).2
    rw [List.append_assoc, List.append_assoc] at h1
    obtain ⟨e1, e2⟩ := codesL_pre l m r s h1
    exact ⟨by rw [e1], e2⟩
theorem codesL_pre : ∀ (l m : List T) (r s : List Nat), codesL l ++ ([41] ++ r) = codesL m ++ ([41] ++ s) → l = m ∧ r = s
  | [], [], r, s, h => ⟨rfl, (List.cons.inj h).2⟩
  | [], u :: m, r, s, h => by
    have h1 : 41 :: r = u.codes ++ (codesL m ++ ([41] ++ s)) := by
      have h2 : codesL (u :: m) ++ ([41] ++ s) = u.codes ++ (codesL m ++ ([41] ++ s)) := List.append_assoc _ _ _
      rw [← h2]
      exact h
    rcases codes_head u with ⟨q, e⟩ | ⟨q, e⟩
    · rw [e] at h1
      cases (List.cons.inj h1).1
    · rw [e] at h1
      cases (List.cons.inj h1).1
  | t :: l, [], r, s, h => by
    have h1 : t.codes ++ (codesL l ++ ([41] ++ r)) = 41 :: s := by
      have h2 : codesL (t :: l) ++ ([41] ++ r) = t.codes ++ (codesL l ++ ([41] ++ r)) := List.append_assoc _ _ _
      rw [← h2]
      exact h
    rcases codes_head t with ⟨q, e⟩ | ⟨q, e⟩
    · rw [e] at h1
      cases (List.cons.inj h1).1
    · rw [e] at h1
      cases (List.cons.inj h1).1
  | t :: l, u :: m, r, s, h => by
    have h1 : t.codes ++ (codesL l ++ ([41] ++ r)) = u.codes ++ (codesL m ++ ([41] ++ s)) := by
      have h2 : codesL (t :: l) ++ ([41] ++ r) = t.codes ++ (codesL l ++ ([41] ++ r)) := List.append_assoc _ _ _
      have h3 : codesL (u :: m) ++ ([41] ++ s) = u.codes ++ (codesL m ++ ([41] ++ s)) := List.append_assoc _ _ _
      rw [← h2, ← h3]
      exact h
    obtain ⟨e1, e2⟩ := codes_pre t u _ _ h1
    obtain ⟨e3, e4⟩ := codesL_pre l m r s e2
    exact ⟨by rw [e1, e3], e4⟩
end
theorem codes_inj {t u : T} (h : t.codes = u.codes) : t = u := (codes_pre t u [] [] (by rw [h])).1
instance : DecidableEq T := fun a b => if h : a.codes = b.codes then isTrue (codes_inj h) else isFalse fun e => h (e ▸ rfl)
def tle (a b : T) : Bool := !decide (b.codes < a.codes)
theorem tle_trans (a b c : T) (h1 : tle a b = true) (h2 : tle b c = true) : tle a c = true := by
  unfold tle at *
  simp only [Bool.not_eq_true', decide_eq_false_iff_not] at *
  exact fun h => h1 (List.lt_of_le_of_lt (List.not_lt.mp h2) h)
theorem tle_total (a b : T) : (tle a b || tle b a) = true := by
  unfold tle
  by_cases h : b.codes < a.codes
  · have h2 : ¬ a.codes < b.codes := List.lt_asymm h
    simp [h2]
  · simp [h]
theorem tle_anti {a b : T} (h1 : tle a b = true) (h2 : tle b a = true) : a = b := by
  unfold tle at *
  simp only [Bool.not_eq_true', decide_eq_false_iff_not] at *
  exact codes_inj (List.le_antisymm (List.not_lt.mp h1) (List.not_lt.mp h2))
abbrev Srt (l : List T) : Prop := l.Pairwise fun a b => tle a b = true
def sortT (l : List T) : List T := l.mergeSort tle
theorem sortT_perm (l : List T) : (sortT l).Perm l := List.mergeSort_perm l tle
theorem sortT_srt (l : List T) : Srt (sortT l) := List.pairwise_mergeSort tle_trans tle_total l
theorem srt_unique : ∀ {a b : List T}, a.Perm b → Srt a → Srt b → a = b
  | [], b, p, _, _ => (List.nil_perm.mp p).symm ▸ rfl
  | x :: a, [], p, _, _ => absurd p.length_eq (by simp)
  | x :: a, y :: b, p, ha, hb => by
    have hx := List.pairwise_cons.mp ha
    have hy := List.pairwise_cons.mp hb
    have exy : x = y := by
      have h1 : x ∈ y :: b := p.mem_iff.mp List.mem_cons_self
      have h2 : y ∈ x :: a := p.mem_iff.mpr List.mem_cons_self
      rcases List.mem_cons.mp h1 with e | h1
      · exact e
      · rcases List.mem_cons.mp h2 with e | h2
        · exact e.symm
        · exact tle_anti (hx.1 y h2) (hy.1 x h1)
    subst exy
    rw [srt_unique (List.Perm.cons_inv p) hx.2 hy.2]
theorem sortT_eq {a b : List T} (p : a.Perm b) (h : Srt a) : a = sortT b := srt_unique (p.trans (sortT_perm b).symm) h (sortT_srt b)
theorem sortT_congr {a b : List T} (p : a.Perm b) : sortT a = sortT b := srt_unique ((sortT_perm a).trans (p.trans (sortT_perm b).symm)) (sortT_srt a) (sortT_srt b)
theorem sortT_of {a : List T} (h : Srt a) : sortT a = a := (sortT_eq (List.Perm.refl a) h).symm
mutual
def T.canon : T → T
  | .jet => .jet
  | .bas l => .bas (sortT (canonL l))
def canonL : List T → List T
  | [] => []
  | t :: r => t.canon :: canonL r
end
theorem canonL_map : ∀ l : List T, canonL l = l.map T.canon
  | [] => rfl
  | t :: r => by
    show t.canon :: canonL r = t.canon :: r.map T.canon
    rw [canonL_map r]
theorem canon_bas (l : List T) : (T.bas l).canon = .bas (sortT (l.map T.canon)) := by
  show T.bas (sortT (canonL l)) = _
  rw [canonL_map]
mutual
def Can : T → Prop
  | .jet => True
  | .bas l => Srt l ∧ CanL l
def CanL : List T → Prop
  | [] => True
  | t :: r => Can t ∧ CanL r
end
theorem canL_iff : ∀ {l : List T}, CanL l ↔ ∀ t ∈ l, Can t
  | [] => ⟨fun _ _ h => (nomatch h), fun _ => trivial⟩
  | t :: r => by
    constructor
    · intro h u hu
      have h1 : Can t := h.1
      have h2 : CanL r := h.2
      rcases List.mem_cons.mp hu with e | e
      · exact e ▸ h1
      · exact canL_iff.mp h2 u e
    · exact fun h => ⟨h t List.mem_cons_self, canL_iff.mpr fun u hu => h u (List.mem_cons_of_mem _ hu)⟩
theorem can_canon : ∀ t : T, Can t → t.canon = t := by
  refine T.ind' (fun _ => rfl) fun l ih h => ?_
  rw [canon_bas]
  have e : l.map T.canon = l := by
    rw [show l.map T.canon = l.map id from List.map_congr_left fun t ht => ih t ht (canL_iff.mp h.2 t ht), List.map_id]
  rw [e, sortT_of h.1]
theorem canL_sort {l : List T} (h : CanL l) : CanL (sortT l) := canL_iff.mpr fun t ht => canL_iff.mp h t ((sortT_perm l).mem_iff.mp ht)
theorem can_bas {l : List T} (h : CanL l) : Can (.bas (sortT l)) := ⟨sortT_srt l, canL_sort h⟩
theorem canon_can : ∀ t : T, Can t.canon := by
  refine T.ind' trivial fun l ih => ?_
  rw [canon_bas]
  refine can_bas (canL_iff.mpr fun t ht => ?_)
  obtain ⟨u, hu, e⟩ := List.mem_map.mp ht
  exact e ▸ ih u hu
mutual
def T.size : T → Nat
  | .jet => 1
  | .bas l => 1 + sizeL l
def sizeL : List T → Nat
  | [] => 0
  | t :: r => t.size + sizeL r
end
mutual
def T.jts : T → Nat
  | .jet => 1
  | .bas l => jtsL l
def jtsL : List T → Nat
  | [] => 0
  | t :: r => t.jts + jtsL r
end
mutual
def T.dep : T → Nat
  | .jet => 0
  | .bas l => 1 + depL l
def depL : List T → Nat
  | [] => 0
  | t :: r => max t.dep (depL r)
end
mutual
def T.lng : T → Nat
  | .jet => 0
  | .bas l => 1 + lngL l
def lngL : List T → Nat
  | [] => 0
  | t :: r => if t.jts = 0 then lngL r else max t.lng (lngL r)
end
mutual
def T.sht : T → Nat
  | .jet => 0
  | .bas l => 1 + shtL l
def shtL : List T → Nat
  | [] => 0
  | t :: r => if t.jts = 0 then shtL r else if jtsL r = 0 then t.sht else min t.sht (shtL r)
end
theorem sizeL_sum : ∀ l : List T, sizeL l = (l.map T.size).sum
  | [] => rfl
  | t :: r => by
    show t.size + sizeL r = _
    rw [sizeL_sum r, List.map_cons, List.sum_cons]
theorem jtsL_sum : ∀ l : List T, jtsL l = (l.map T.jts).sum
  | [] => rfl
  | t :: r => by
    show t.jts + jtsL r = _
    rw [jtsL_sum r, List.map_cons, List.sum_cons]
theorem sizeL_perm {a b : List T} (p : a.Perm b) : sizeL a = sizeL b := by rw [sizeL_sum, sizeL_sum, (p.map T.size).sum_nat]
theorem jtsL_perm {a b : List T} (p : a.Perm b) : jtsL a = jtsL b := by rw [jtsL_sum, jtsL_sum, (p.map T.jts).sum_nat]
theorem depL_perm {a b : List T} (p : a.Perm b) : depL a = depL b := by
  induction p with
  | nil => rfl
  | cons x _ ih => show max _ _ = max _ _; rw [ih]
  | swap x y l => show max _ (max _ _) = max _ (max _ _); omega
  | trans _ _ h1 h2 => exact h1.trans h2
theorem lngL_perm {a b : List T} (p : a.Perm b) : lngL a = lngL b := by
  induction p with
  | nil => rfl
  | cons x _ ih => show ite _ _ _ = ite _ _ _; rw [ih]
  | swap x y l =>
    show ite _ (ite _ _ _) (max _ (ite _ _ _)) = ite _ (ite _ _ _) (max _ (ite _ _ _))
    split <;> split <;> omega
  | trans _ _ h1 h2 => exact h1.trans h2
theorem shtL_perm {a b : List T} (p : a.Perm b) : shtL a = shtL b := by
  induction p with
  | nil => rfl
  | @cons x l1 l2 p ih =>
    show ite _ _ (ite _ _ _) = ite _ _ (ite _ _ _)
    rw [ih, jtsL_perm p]
  | swap x y l =>
    show ite (y.jts = 0) (ite (x.jts = 0) _ (ite _ _ _)) (ite (x.jts + jtsL l = 0) _ (min _ (ite (x.jts = 0) _ (ite _ _ _)))) = ite (x.jts = 0) (ite (y.jts = 0) _ (ite _ _ _)) (ite (y.jts + jtsL l = 0) _ (min _ (ite (y.jts = 0) _ (ite _ _ _))))
    by_cases h1 : x.jts = 0 <;> by_cases h2 : y.jts = 0 <;> by_cases h3 : jtsL l = 0 <;> simp [h1, h2, h3] <;> omega
  | trans _ _ h1 h2 => exact h1.trans h2
theorem size_pos : ∀ t : T, 0 < t.size
  | .jet => Nat.zero_lt_one
  | .bas l => by show 0 < 1 + sizeL l; omega
theorem canon_size : ∀ t : T, t.canon.size = t.size := by
  refine T.ind' rfl fun l ih => ?_
  rw [canon_bas]
  show 1 + sizeL (sortT (l.map T.canon)) = 1 + sizeL l
  rw [sizeL_perm (sortT_perm _), sizeL_sum, sizeL_sum, List.map_map, List.map_congr_left (f := T.size ∘ T.canon) fun t ht => ih t ht]
theorem depL_congr {f : T → T} : ∀ {l : List T}, (∀ t ∈ l, (f t).dep = t.dep) → depL (l.map f) = depL l
  | [], _ => rfl
  | t :: r, h => by
    show max _ _ = max _ _
    rw [h t List.mem_cons_self, depL_congr fun u hu => h u (List.mem_cons_of_mem _ hu)]
theorem canon_dep : ∀ t : T, t.canon.dep = t.dep := by
  refine T.ind' rfl fun l ih => ?_
  rw [canon_bas]
  show 1 + depL (sortT (l.map T.canon)) = 1 + depL l
  rw [depL_perm (sortT_perm _), depL_congr ih]
theorem codes_len : ∀ t : T, t.codes.length + t.jts = 2 * t.size ∧ 1 ≤ t.codes.length := by
  refine T.ind' ⟨rfl, Nat.le_refl _⟩ fun l ih => ?_
  have e : ∀ l : List T, (∀ t ∈ l, t.codes.length + t.jts = 2 * t.size ∧ 1 ≤ t.codes.length) → (codesL l).length + jtsL l = 2 * sizeL l := by
    intro l
    induction l with
    | nil => intro _; rfl
    | cons t r ihr =>
      intro h
      have h1 := (h t List.mem_cons_self).1
      have h2 := ihr fun u hu => h u (List.mem_cons_of_mem _ hu)
      show (t.codes ++ codesL r).length + (t.jts + jtsL r) = 2 * (t.size + sizeL r)
      rw [List.length_append]
      omega
  have h := e l ih
  show (40 :: (codesL l ++ [41])).length + jtsL l = 2 * (1 + sizeL l) ∧ 1 ≤ (40 :: (codesL l ++ [41])).length
  rw [List.length_cons, List.length_append, List.length_singleton]
  omega
theorem len_le {t : T} {l : List T} (h : t ∈ l) : t.size ≤ sizeL l := by
  induction l with
  | nil => cases h
  | cons u r ih =>
    show _ ≤ u.size + sizeL r
    rcases List.mem_cons.mp h with e | e
    · subst e; omega
    · have := ih e; omega
theorem length_le : ∀ l : List T, l.length ≤ sizeL l
  | [] => Nat.le_refl _
  | t :: r => by
    have := length_le r
    have := size_pos t
    show r.length + 1 ≤ t.size + sizeL r
    omega
theorem dep_le_size : ∀ t : T, t.dep + 1 ≤ t.size + 1 := by
  refine T.ind' (by decide) fun l ih => ?_
  have e : ∀ l : List T, (∀ t ∈ l, t.dep + 1 ≤ t.size + 1) → depL l ≤ sizeL l := by
    intro l
    induction l with
    | nil => intro _; exact Nat.le_refl _
    | cons t r ihr =>
      intro h
      have h1 := h t List.mem_cons_self
      have h2 := ihr fun u hu => h u (List.mem_cons_of_mem _ hu)
      show max t.dep (depL r) ≤ t.size + sizeL r
      omega
  have := e l ih
  show 1 + depL l + 1 ≤ 1 + sizeL l + 1
  omega
abbrev PSt := List (List T) × Option T
def pput (t : T) : List (List T) → PSt
  | [] => ([], some t)
  | p :: r => ((p ++ [t]) :: r, none)
def pstep (s : PSt) (c : Nat) : Option PSt := match s.2 with
  | some _ => none
  | none => if c = 40 then some ([] :: s.1, none) else if c = 111 then some (pput .jet s.1) else if c = 41 then
      (match s.1 with
      | [] => none
      | p :: r => some (pput (.bas (sortT p)) r)) else none
def prun : List Nat → PSt → Option PSt
  | [], s => some s
  | c :: r, s => (pstep s c).bind (prun r)
mutual
theorem prun_codes : ∀ (t : T) (k : List Nat) (st : List (List T)), prun (t.codes ++ k) (st, none) = prun k (pput t.canon st)
  | .jet, k, st => rfl
  | .bas l, k, st => by
    show prun (codesL l ++ [41] ++ k) ([] :: st, none) = _
    rw [List.append_assoc, prun_codesL l ([41] ++ k) [] st, List.nil_append]
    show prun k (pput (.bas (sortT (canonL l))) st) = _
    rfl
theorem prun_codesL : ∀ (l : List T) (k : List Nat) (p : List T) (st : List (List T)), prun (codesL l ++ k) (p :: st, none) = prun k ((p ++ canonL l) :: st, none)
  | [], k, p, st => by
    show prun k _ = prun k ((p ++ []) :: st, none)
    rw [List.append_nil]
  | t :: r, k, p, st => by
    show prun (t.codes ++ codesL r ++ k) _ = prun k ((p ++ (t.canon :: canonL r)) :: st, none)
    rw [List.append_assoc, prun_codes t (codesL r ++ k) (p :: st)]
    show prun (codesL r ++ k) ((p ++ [t.canon]) :: st, none) = _
    rw [prun_codesL r k (p ++ [t.canon]) st, List.append_assoc]
    rfl
end
theorem prun_all (t : T) : prun t.codes ([], none) = some ([], some t.canon) := by
  have h := prun_codes t [] []
  rw [List.append_nil] at h
  exact h
def opn (t : T) : Bool := decide (0 < t.jts)
theorem jtsL_zero : ∀ {l : List T}, jtsL l = 0 ↔ l.filter opn = []
  | [] => ⟨fun _ => rfl, fun _ => rfl⟩
  | t :: r => by
    have ih := jtsL_zero (l := r)
    show t.jts + jtsL r = 0 ↔ _
    rw [List.filter_cons]
    unfold opn at *
    by_cases h : 0 < t.jts
    · simp [h]; omega
    · simp only [h, decide_false]
      simp only [Bool.false_eq_true, if_false]
      rw [← ih]
      omega
theorem lngL_in : ∀ {l : List T}, jtsL l ≠ 0 → lngL l ∈ (l.filter opn).map T.lng
  | [], h => absurd rfl h
  | t :: r, h => by
    have ih := lngL_in (l := r)
    have h2 : t.jts + jtsL r ≠ 0 := h
    show ite _ _ _ ∈ _
    rw [List.filter_cons]
    by_cases ht : t.jts = 0
    · have e : opn t = false := by unfold opn; simp [ht]
      rw [if_pos ht, e]
      simp only [Bool.false_eq_true, if_false]
      exact ih (by omega)
    · have e : opn t = true := by unfold opn; simp; omega
      rw [if_neg ht, e, if_pos rfl, List.map_cons]
      by_cases hr : jtsL r = 0
      · have e2 : lngL r = 0 := by
          have e3 : ∀ l : List T, jtsL l = 0 → lngL l = 0 := by
            intro l
            induction l with
            | nil => intro _; rfl
            | cons u q ihq =>
              intro hq
              have h3 : u.jts + jtsL q = 0 := hq
              show ite _ _ _ = 0
              rw [if_pos (by omega)]
              exact ihq (by omega)
          exact e3 r hr
        rw [e2, Nat.max_eq_left (Nat.zero_le _)]
        exact List.mem_cons_self
      · by_cases hm : t.lng ≤ lngL r
        · rw [Nat.max_eq_right hm]
          exact List.mem_cons_of_mem _ (ih hr)
        · rw [Nat.max_eq_left (by omega)]
          exact List.mem_cons_self
theorem lngL_le : ∀ {l : List T} {t : T}, t ∈ l.filter opn → t.lng ≤ lngL l
  | [], t, h => by cases h
  | u :: r, t, h => by
    show _ ≤ ite _ _ _
    rw [List.filter_cons] at h
    by_cases ht : u.jts = 0
    · have e : opn u = false := by unfold opn; simp [ht]
      rw [e] at h
      rw [if_pos ht]
      exact lngL_le h
    · have e : opn u = true := by unfold opn; simp; omega
      rw [e, if_pos rfl] at h
      rw [if_neg ht]
      rcases List.mem_cons.mp h with z | z
      · subst z; omega
      · have := lngL_le z; omega
theorem shtL_in : ∀ {l : List T}, jtsL l ≠ 0 → shtL l ∈ (l.filter opn).map T.sht
  | [], h => absurd rfl h
  | t :: r, h => by
    have ih := shtL_in (l := r)
    have h2 : t.jts + jtsL r ≠ 0 := h
    show ite _ _ (ite _ _ _) ∈ _
    rw [List.filter_cons]
    by_cases ht : t.jts = 0
    · have e : opn t = false := by unfold opn; simp [ht]
      rw [if_pos ht, e]
      simp only [Bool.false_eq_true, if_false]
      exact ih (by omega)
    · have e : opn t = true := by unfold opn; simp; omega
      rw [if_neg ht, e, if_pos rfl, List.map_cons]
      by_cases hr : jtsL r = 0
      · rw [if_pos hr]
        exact List.mem_cons_self
      · rw [if_neg hr]
        by_cases hm : t.sht ≤ shtL r
        · rw [Nat.min_eq_left hm]
          exact List.mem_cons_self
        · rw [Nat.min_eq_right (by omega)]
          exact List.mem_cons_of_mem _ (ih hr)
theorem shtL_le : ∀ {l : List T} {t : T}, t ∈ l.filter opn → shtL l ≤ t.sht
  | [], t, h => by cases h
  | u :: r, t, h => by
    show ite _ _ (ite _ _ _) ≤ _
    rw [List.filter_cons] at h
    by_cases ht : u.jts = 0
    · have e : opn u = false := by unfold opn; simp [ht]
      rw [e] at h
      rw [if_pos ht]
      exact shtL_le h
    · have e : opn u = true := by unfold opn; simp; omega
      rw [e, if_pos rfl] at h
      rw [if_neg ht]
      rcases List.mem_cons.mp h with z | z
      · subst z; split <;> omega
      · have h1 := shtL_le z
        have h2 : jtsL r ≠ 0 := fun q => by
          rw [jtsL_zero.mp q] at z
          cases z
        rw [if_neg h2]
        omega
theorem lng_max {l : List T} {m : Int} (h : jtsL l ≠ 0) (h1 : m ∈ (l.filter opn).map fun t => (t.lng : Int)) (h2 : ∀ y ∈ (l.filter opn).map (fun t => (t.lng : Int)), y ≤ m) : m = (lngL l : Nat) := by
  obtain ⟨t, ht, e⟩ := List.mem_map.mp h1
  have a := lngL_le ht
  obtain ⟨u, hu, e2⟩ := List.mem_map.mp (lngL_in h)
  have b := h2 _ (List.mem_map.mpr ⟨u, hu, rfl⟩)
  omega
theorem sht_min {l : List T} {m : Int} (h : jtsL l ≠ 0) (h1 : m ∈ (l.filter opn).map fun t => (t.sht : Int)) (h2 : ∀ y ∈ (l.filter opn).map (fun t => (t.sht : Int)), m ≤ y) : m = (shtL l : Nat) := by
  obtain ⟨t, ht, e⟩ := List.mem_map.mp h1
  have a := shtL_le ht
  obtain ⟨u, hu, e2⟩ := List.mem_map.mp (shtL_in h)
  have b := h2 _ (List.mem_map.mpr ⟨u, hu, rfl⟩)
  omega
theorem dep_fold {l : List T} {n : Int} {r : List Int} (h : (l.map fun t => (t.dep : Int)) = n :: r) : r.foldl max n = (depL l : Nat) := by
  have go : ∀ (l : List T) (n : Int), 0 ≤ n → (l.map fun t => (t.dep : Int)).foldl max n = max n (depL l : Nat) := by
    intro l
    induction l with
    | nil =>
      intro n hn
      show n = max n (0 : Nat)
      omega
    | cons t q ih =>
      intro n hn
      rw [List.map_cons, List.foldl_cons, ih _ (by omega)]
      show max (max n (t.dep : Int)) (depL q : Nat) = max n ((max t.dep (depL q) : Nat) : Int)
      omega
  cases l with
  | nil => cases h
  | cons t q =>
    rw [List.map_cons] at h
    injection h with h1 h2
    subst h1 h2
    rw [go q _ (by omega)]
    show max (t.dep : Int) (depL q : Nat) = ((max t.dep (depL q) : Nat) : Int)
    omega
def wtL : List (List T) → Nat
  | [] => 0
  | p :: r => 1 + sizeL p + wtL r
def wtS (s : PSt) : Nat := wtL s.1 + (match s.2 with
  | some t => t.size
  | none => 0)
theorem sizeL_app (a b : List T) : sizeL (a ++ b) = sizeL a + sizeL b := by
  rw [sizeL_sum, sizeL_sum, sizeL_sum, List.map_append, List.sum_append]
theorem pput_wt (t : T) (st : List (List T)) : wtS (pput t st) = wtL st + t.size := by
  cases st with
  | nil => rfl
  | cons p r =>
    show 1 + sizeL (p ++ [t]) + wtL r + 0 = 1 + sizeL p + wtL r + t.size
    rw [sizeL_app]
    show 1 + (sizeL p + (t.size + 0)) + wtL r + 0 = _
    omega
theorem pstep_wt {s s' : PSt} {c : Nat} (h : pstep s c = some s') : wtS s' ≤ wtS s + 1 := by
  obtain ⟨st, fd⟩ := s
  unfold pstep at h
  cases fd with
  | some t => cases h
  | none =>
    simp only at h
    split at h
    · cases h
      show 1 + 0 + wtL st + 0 ≤ wtL st + 0 + 1
      omega
    · split at h
      · cases h
        rw [pput_wt]
        show wtL st + 1 ≤ wtL st + 0 + 1
        omega
      · split at h
        · cases st with
          | nil => cases h
          | cons p r =>
            cases h
            rw [pput_wt]
            show wtL r + (1 + sizeL (sortT p)) ≤ 1 + sizeL p + wtL r + 0 + 1
            rw [sizeL_perm (sortT_perm p)]
            omega
        · cases h
theorem wtL_len : ∀ st : List (List T), st.length ≤ wtL st
  | [] => Nat.le_refl _
  | p :: r => by
    have := wtL_len r
    show r.length + 1 ≤ 1 + sizeL p + wtL r
    omega
theorem prun_step {l : List Nat} {i c : Nat} {s e : PSt} (hc : l[i]? = some c) (h : prun (l.drop i) s = some e) : ∃ s', pstep s c = some s' ∧ prun (l.drop (i + 1)) s' = some e := by
  have hi : i < l.length := (List.getElem?_eq_some_iff.mp hc).1
  rw [List.drop_eq_getElem_cons hi] at h
  have e1 : l[i] = c := (List.getElem?_eq_some_iff.mp hc).2
  rw [e1] at h
  have h2 : (pstep s c).bind (prun (l.drop (i + 1))) = some e := h
  exact Option.bind_eq_some_iff.mp h2
theorem pstep_cases {st : List (List T)} {fd : Option T} {c : Nat} {s' : PSt} (h : pstep (st, fd) c = some s') : fd = none ∧ ((c = 40 ∧ s' = ([] :: st, none)) ∨ (c = 111 ∧ s' = pput .jet st) ∨ (c = 41 ∧ ∃ p r, st = p :: r ∧ s' = pput (.bas (sortT p)) r)) := by
  unfold pstep at h
  cases fd with
  | some t => cases h
  | none =>
    refine ⟨rfl, ?_⟩
    simp only at h
    split at h
    · rename_i e
      cases h
      exact .inl ⟨e, rfl⟩
    · split at h
      · rename_i e
        cases h
        exact .inr (.inl ⟨e, rfl⟩)
      · split at h
        · rename_i e
          cases st with
          | nil => cases h
          | cons p r =>
            cases h
            exact .inr (.inr ⟨e, p, r, rfl, rfl⟩)
        · cases h
end JW
namespace JW
mutual
def T.grf (p : T) : T → T
  | .jet => p
  | .bas l => .bas (sortT (grfL p l))
def grfL (p : T) : List T → List T
  | [] => []
  | t :: r => T.grf p t :: grfL p r
end
theorem grfL_map (p : T) : ∀ l : List T, grfL p l = l.map (T.grf p)
  | [] => rfl
  | t :: r => by
    show T.grf p t :: grfL p r = T.grf p t :: r.map (T.grf p)
    rw [grfL_map p r]
theorem grf_bas (p : T) (l : List T) : T.grf p (.bas l) = .bas (sortT (l.map (T.grf p))) := by
  show T.bas (sortT (grfL p l)) = _
  rw [grfL_map]
theorem grf_can {p : T} (hp : Can p) : ∀ t : T, Can (T.grf p t) := by
  refine T.ind' hp fun l ih => ?_
  rw [grf_bas]
  refine can_bas (canL_iff.mpr fun t ht => ?_)
  obtain ⟨u, hu, e⟩ := List.mem_map.mp ht
  exact e ▸ ih u hu
theorem grf_jts (p : T) : ∀ t : T, (T.grf p t).jts = t.jts * p.jts := by
  refine T.ind' (Nat.one_mul _).symm fun l ih => ?_
  rw [grf_bas]
  show jtsL (sortT (l.map (T.grf p))) = jtsL l * p.jts
  rw [jtsL_perm (sortT_perm _)]
  have go : ∀ l : List T, (∀ t ∈ l, (T.grf p t).jts = t.jts * p.jts) → jtsL (l.map (T.grf p)) = jtsL l * p.jts := by
    intro l
    induction l with
    | nil => intro _; exact (Nat.zero_mul _).symm
    | cons t r ihr =>
      intro h
      show (T.grf p t).jts + jtsL (r.map (T.grf p)) = (t.jts + jtsL r) * p.jts
      rw [h t List.mem_cons_self, ihr fun u hu => h u (List.mem_cons_of_mem _ hu), Nat.add_mul]
  exact go l ih
theorem grf_size (p : T) : ∀ t : T, (T.grf p t).size + t.jts = t.size + t.jts * p.size := by
  refine T.ind' ?_ fun l ih => ?_
  · show p.size + 1 = 1 + 1 * p.size
    omega
  rw [grf_bas]
  show 1 + sizeL (sortT (l.map (T.grf p))) + jtsL l = 1 + sizeL l + jtsL l * p.size
  rw [sizeL_perm (sortT_perm _)]
  have go : ∀ l : List T, (∀ t ∈ l, (T.grf p t).size + t.jts = t.size + t.jts * p.size) → sizeL (l.map (T.grf p)) + jtsL l = sizeL l + jtsL l * p.size := by
    intro l
    induction l with
    | nil =>
      intro _
      show 0 + 0 = 0 + 0 * p.size
      omega
    | cons t r ihr =>
      intro h
      have h1 := h t List.mem_cons_self
      have h2 := ihr fun u hu => h u (List.mem_cons_of_mem _ hu)
      show (T.grf p t).size + sizeL (r.map (T.grf p)) + (t.jts + jtsL r) = t.size + sizeL r + (t.jts + jtsL r) * p.size
      rw [Nat.add_mul]
      omega
  have := go l ih
  omega
theorem jtsL_all {l : List T} (h : jtsL l = 0) {t : T} (ht : t ∈ l) : t.jts = 0 := by
  induction l with
  | nil => cases ht
  | cons u r ih =>
    have h2 : u.jts + jtsL r = 0 := h
    rcases List.mem_cons.mp ht with e | e
    · subst e; omega
    · exact ih (by omega) e
theorem grf_closed (p : T) : ∀ t : T, Can t → t.jts = 0 → T.grf p t = t := by
  refine T.ind' (fun _ h => absurd h (by decide)) fun l ih hc h => ?_
  rw [grf_bas]
  have e : l.map (T.grf p) = l := by
    rw [show l.map (T.grf p) = l.map id from List.map_congr_left fun t ht => ih t ht (canL_iff.mp hc.2 t ht) (jtsL_all h ht), List.map_id]
  rw [e, sortT_of hc.1]
mutual
def cutT (b : T) : T → T
  | .jet => .jet
  | .bas l => if T.bas l = b then .jet else if jtsL l = 0 then .bas l else .bas (sortT (cutL b l))
def cutL (b : T) : List T → List T
  | [] => []
  | t :: r => cutT b t :: cutL b r
end
theorem cutL_map (b : T) : ∀ l : List T, cutL b l = l.map (cutT b)
  | [] => rfl
  | t :: r => by
    show cutT b t :: cutL b r = cutT b t :: r.map (cutT b)
    rw [cutL_map b r]
theorem cut_bas (b : T) (l : List T) : cutT b (.bas l) = if T.bas l = b then .jet else if jtsL l = 0 then .bas l else .bas (sortT (l.map (cutT b))) := by
  show (if T.bas l = b then T.jet else if jtsL l = 0 then .bas l else .bas (sortT (cutL b l))) = _
  rw [cutL_map]
theorem cut_self (b : T) : cutT b b = .jet := by
  cases b with
  | jet => rfl
  | bas l => rw [cut_bas, if_pos rfl]
mutual
def cov (b : T) : T → Bool
  | .jet => decide (T.jet = b)
  | .bas l => decide (T.bas l = b) || covL b l
def covL (b : T) : List T → Bool
  | [] => true
  | t :: r => cov b t && covL b r
end
theorem covL_all {b : T} : ∀ {l : List T}, covL b l = true ↔ ∀ t ∈ l, cov b t = true
  | [] => ⟨fun _ _ h => (nomatch h), fun _ => rfl⟩
  | t :: r => by
    constructor
    · intro h u hu
      have h2 : (cov b t && covL b r) = true := h
      obtain ⟨h3, h4⟩ := Bool.and_eq_true_iff.mp h2
      rcases List.mem_cons.mp hu with e | e
      · exact e ▸ h3
      · exact covL_all.mp h4 u e
    · intro h
      show (cov b t && covL b r) = true
      rw [h t List.mem_cons_self, covL_all.mpr fun u hu => h u (List.mem_cons_of_mem _ hu)]
      rfl
theorem cov_self (b : T) : cov b b = true := by
  cases b with
  | jet => rfl
  | bas l =>
    show (decide (T.bas l = .bas l) || covL (.bas l) l) = true
    rw [decide_eq_true rfl]
    rfl
theorem cut_size (b : T) : ∀ t : T, (cutT b t).size ≤ t.size := by
  refine T.ind' (Nat.le_refl _) fun l ih => ?_
  rw [cut_bas]
  split
  · exact size_pos (.bas l)
  split
  · exact Nat.le_refl _
  · show 1 + sizeL (sortT (l.map (cutT b))) ≤ 1 + sizeL l
    rw [sizeL_perm (sortT_perm _)]
    have go : ∀ l : List T, (∀ t ∈ l, (cutT b t).size ≤ t.size) → sizeL (l.map (cutT b)) ≤ sizeL l := by
      intro l
      induction l with
      | nil => intro _; exact Nat.le_refl _
      | cons t r ihr =>
        intro h
        have h1 := h t List.mem_cons_self
        have h2 := ihr fun u hu => h u (List.mem_cons_of_mem _ hu)
        show (cutT b t).size + sizeL (r.map (cutT b)) ≤ t.size + sizeL r
        omega
    have := go l ih
    omega
theorem dep_lt {t : T} {l : List T} (h : t ∈ l) : t.dep < (T.bas l).dep := by
  have go : ∀ l : List T, t ∈ l → t.dep ≤ depL l := by
    intro l
    induction l with
    | nil => intro h; cases h
    | cons u r ih =>
      intro h
      show t.dep ≤ max u.dep (depL r)
      rcases List.mem_cons.mp h with e | e
      · subst e; omega
      · have := ih e; omega
  have := go l h
  show t.dep < 1 + depL l
  omega
theorem cut_closed {b t : T} (h : t ≠ b) (hj : t.jts = 0) : cutT b t = t := by
  cases t with
  | jet => rfl
  | bas l =>
    have hz : jtsL l = 0 := hj
    rw [cut_bas, if_neg h, if_pos hz]
theorem cut_open {b : T} {l : List T} (h : T.bas l ≠ b) (hj : (T.bas l).jts ≠ 0) : cutT b (.bas l) = .bas (sortT (l.map (cutT b))) := by
  have hz : ¬ jtsL l = 0 := hj
  rw [cut_bas, if_neg h, if_neg hz]
theorem sizeL_map_le {f : T → T} : ∀ {l : List T}, (∀ t ∈ l, (f t).size ≤ t.size) → sizeL (l.map f) ≤ sizeL l
  | [], _ => Nat.le_refl _
  | t :: r, h => by
    have h1 := h t List.mem_cons_self
    have h2 := sizeL_map_le (l := r) fun u hu => h u (List.mem_cons_of_mem _ hu)
    show (f t).size + sizeL (r.map f) ≤ t.size + sizeL r
    omega
theorem size_mem {t : T} {l : List T} (h : t ∈ l) : t.size < (T.bas l).size := by
  have := len_le h
  show t.size < 1 + sizeL l
  omega
theorem jts_le : ∀ t : T, t.jts ≤ t.size := by
  refine T.ind' (Nat.le_refl _) fun l ih => ?_
  have go : ∀ l : List T, (∀ t ∈ l, t.jts ≤ t.size) → jtsL l ≤ sizeL l := by
    intro l
    induction l with
    | nil => intro _; exact Nat.le_refl _
    | cons t r ihr =>
      intro h
      have h1 := h t List.mem_cons_self
      have h2 := ihr fun u hu => h u (List.mem_cons_of_mem _ hu)
      show t.jts + jtsL r ≤ t.size + sizeL r
      omega
  have := go l ih
  show jtsL l ≤ 1 + sizeL l
  omega
theorem grf_sizeI (p t : T) : ((T.grf p t).size : Int) = (t.size : Nat) + (t.jts : Nat) * (((p.size : Nat) : Int) - 1) := by
  have h := grf_size p t
  rw [Int.mul_sub, Int.mul_one, ← Int.natCast_mul]
  omega
end JW
namespace JW
open PySem PySem.Spec PyProof.Rows L2
structure DefAt (K : PySem.W.Frag) (mg : Str → Option Value) (x qual : Str) (st : Stmt) (dvs : List V) (ps : List Str) : Prop where
  ex : ∃ f fd, mg x = some (.ref f) ∧ FunD K x qual (defArgs st) (defBody st) (defScope st) dvs [] f fd ∧ Binds K fd ps []
structure CallD (P : Program) (w : World) (K : PySem.W.Frag) (mg : Str → Option Value) (base : Heap) (CX : CXT) (k : Nat) (x : Str) (ps : List Str) (dvs : List V) (sp : Sp) : Prop where
  ex : ∃ f fd ds, mg x = some (.ref f) ∧ PySem.W.keepIn K (.ref f) = true ∧ Binds K fd ps ds ∧ Vals dvs ds ∧ FnOk P w K mg base CX k f fd ps sp
section
variable {P : Program} {w : World} {K : PySem.W.Frag} {mg : Str → Option Value} {base : Heap} {CX : CXT}
theorem CallD.mono {j k : Nat} {x : Str} {ps : List Str} {dvs : List V} {sp : Sp} (c : CallD P w K mg base CX j x ps dvs sp) (h : j ≤ k) : CallD P w K mg base CX k x ps dvs sp := by
  obtain ⟨f, fd, ds, h1, h2, h3, h4, F⟩ := c.ex
  exact ⟨f, fd, ds, h1, h2, h3, h4, F.mono h⟩
theorem okF {x qual : Str} {params : Arguments} {body : List Stmt} {scope : Scope} {kws : List (Str × V)} {f : Addr} {fd : FuncData} {N ps : List Str} {k : Nat} {sp : Sp} {dvs : List V} (F : FunD K x qual params body scope dvs kws f fd) (S : FnScope N ps scope)
    (len : ∀ vs H Q E, sp vs H Q E → vs.length = ps.length)
    (hbody : ∀ (cdv : Value) (A : Around) (outer : List Env) (s : Shared) (H : Hp) (vs : List V) (Q : VK) (E : XK), Room k (A.deeper (envOfC qual scope s.heap.objs.size f cdv)) → sp vs H Q E →
      ∃ t, PSs (cxOf CX P w K mg base N qual scope f cdv A outer s H E).nox body t ∧ t { nx := fun _ H' => Q .non H', rt := Q } (start N vs) H) : FnOk P w K mg base CX (k + 1) f fd ps sp :=
  F.ok S len fun cdv A outer s H vs Q E hr h => by
    obtain ⟨t, h, q⟩ := hbody cdv A outer s H vs Q E hr h
    exact ⟨t, h.nox, q⟩
theorem DefAt.ok {x qual : Str} {st : Stmt} {N ps : List Str} {k : Nat} {sp : Sp} {dvs : List V} (D : DefAt K mg x qual st dvs ps) (S : FnScope N ps (defScope st)) (len : ∀ vs H Q E, sp vs H Q E → vs.length = ps.length)
    (hbody : ∀ (f : Addr) (cdv : Value) (A : Around) (outer : List Env) (s : Shared) (H : Hp) (vs : List V) (Q : VK) (E : XK), Room k (A.deeper (envOfC qual (defScope st) s.heap.objs.size f cdv)) → sp vs H Q E →
      ∃ t, PSs (cxOf CX P w K mg base N qual (defScope st) f cdv A outer s H E).nox (defBody st) t ∧ t { nx := fun _ H' => Q .non H', rt := Q } (start N vs) H) : CallD P w K mg base CX (k + 1) x ps [] sp := by
  obtain ⟨f, fd, h1, F, b⟩ := D.ex
  refine ⟨f, fd, [], h1, F.kp, b, .nil, F.ok S len fun cdv A outer s H vs Q E hr h => ?_⟩
  obtain ⟨t, h, q⟩ := hbody f cdv A outer s H vs Q E hr h
  exact ⟨t, h.nox, q⟩
end
section
variable {X : Cx} {CX : CXT} {k : Nat} {ps : List Str} {sp : Sp} {dvs : List V} {E : XK} {x : Str} {p pos : Pos} {e : Expr} {es : List Expr} {t : TA}
theorem pe_callD (C : CallD X.prog X.w X.K X.mg X.base CX k x ps dvs sp) (hr : Room k X.A) (hg : Gl X x) (hx : Passes CX X E) (ha : PA X (e :: es) t) (hdb : (x == ("__debug__" : Str)) = false := by decide)
    (he : starEach (e :: es) X.env = (false, eval e X.env) :: starEach es X.env := by rfl) (hpl : (backTo pos (starEach es X.env)).any (·.1) = false := by rfl) : PE X (.Call (.Name x p) (e :: es) [] pos) (tCall sp dvs E t) := by
  obtain ⟨f, fd, ds, h1, h2, h3, h4, F⟩ := C.ex
  exact pe_call F hr hg h1 h2 h3 h4 hx ha hdb he hpl
end
section
variable {X : Cx} {e : Expr} {st : Stmt}
theorem ep_mono {pins : List (Addr × Obj)} {σ : L2.St} {Q Q' : VK} {u : Value} {s' : Shared} (h : EP X pins σ Q u s') (k : ∀ v H, Q v H → Q' v H) : EP X pins σ Q' u s' := by
  obtain ⟨v, H, I, r, q⟩ := h
  exact ⟨v, H, I, r, k v H q⟩
def tVia (t : TE) : TE := fun σ H Q => ∃ R : VK, t σ H R ∧ ∀ v H', R v H' → Q v H'
theorem pe_via {t : TE} (h : PE X e t) : PE X e (tVia t) := ⟨fun pins s σ H Q I ⟨R, hw, q⟩ => thn (h.run pins s σ H _ I hw) fun _ _ z => ep_mono z q⟩
def tsVia (t : TS) : TS := fun D σ H => ∃ R : L2.St → Hp → Prop, t { D with nx := R } σ H ∧ ∀ σ' H', R σ' H' → D.nx σ' H'
theorem ps_via {t : TS} (h : PS X st t) : PS X st (tsVia t) := ⟨fun pins s σ H D I ⟨R, hw, q⟩ =>
  thn (h.run pins s σ H _ I hw) fun f s' z => by
    cases f with
    | next =>
      obtain ⟨σ', H', I', r⟩ := z
      exact ⟨σ', H', I', q σ' H' r⟩
    | brk => exact z
    | cont => exact z
    | ret u => exact z⟩
end
def nI (x : Nat) : V := .int (x : Nat)
theorem nI_sum : ∀ xs : List Nat, (xs.map fun x : Nat => (x : Int)).sum = ((xs.sum : Nat) : Int)
  | [] => rfl
  | x :: r => by rw [List.map_cons, List.sum_cons, List.sum_cons, nI_sum r]; omega
theorem eraseIdx_perm {α : Type} : ∀ {l : List α} {i : Nat} (h : i < l.length), (l[i] :: l.eraseIdx i).Perm l
  | [], _, h => absurd h (Nat.not_lt_zero _)
  | a :: l, 0, _ => List.Perm.refl _
  | a :: l, i + 1, h => by
    have hi : i < l.length := Nat.lt_of_succ_lt_succ h
    exact (List.Perm.swap a l[i] (l.eraseIdx i)).trans ((eraseIdx_perm hi).cons a)
theorem sz1 : 1 ≤ sizeLine := by decide
theorem sz2 : 2 ≤ sizeLine := by decide
theorem sz5 : 5 ≤ sizeLine := by decide
end JW
namespace L2
open PySem PySem.Spec PyProof.Rows
section
variable {H H' H1 H2 : Hp} {a b p : Addr} {o u : HO}
theorem Same.new (s : Same H H') (hp : H' p = none) : Same H (upd H' p o) := fun c w e => by
  rw [upd_ne (ne_of_none (s _ _ e) hp)]
  exact s _ _ e
theorem Same.mine (s : Same H H') (hp : H p = none) : Same H (upd H' p o) := fun c w e => by
  rw [upd_ne (ne_of_none e hp)]
  exact s _ _ e
theorem upd_old (h : H a = some o) (hp : H p = none) : upd H p u a = some o := by
  rw [upd_ne (ne_of_none h hp)]
  exact h
end
end L2
namespace JW
open PySem PySem.Spec PyProof.Rows L2
section
variable {X : Cx} {K : PySem.W.Frag} {e : Expr} {te : TE} {tg : Expr} {pos : Pos}
end
end JW
namespace JW
open PySem PySem.Spec PyProof.Rows L2
section
variable {X : Cx} {K : PySem.W.Frag}
end
theorem seqIndex_nat {v : Int} {n : Nat} (h0 : 0 ≤ v) (h1 : v < (n : Nat)) : seqIndex? v n = some v.toNat := PyProof.Rows.seqIndex_at h0 h1
theorem dget {H : Hp} {a : Addr} {kvs : List (Key × V)} {k : Str} {v : V} (e : H a = some (.dK kvs)) (h : valV kvs (.inr k) = some v) : DGet H a (.str k) (some v) := by
  have z := DGet.k (k := Sum.inr k) e
  rw [h] at z
  exact z
def Same2 (d g : Addr) (H H' : Hp) : Prop := ∀ b o, b ≠ d → b ≠ g → H b = some o → H' b = some o
theorem Same2.refl (d g : Addr) (H : Hp) : Same2 d g H H := fun _ _ _ _ h => h
theorem Same2.trans {d g : Addr} {H H1 H2 : Hp} (a : Same2 d g H H1) (b : Same2 d g H1 H2) : Same2 d g H H2 := fun c o h1 h2 h => b c o h1 h2 (a c o h1 h2 h)
theorem Same2.new {d g p : Addr} {H H1 : Hp} {o : HO} (a : Same2 d g H H1) (hp : H1 p = none) : Same2 d g H (upd H1 p o) := fun c u h1 h2 h => by rw [upd_ne (ne_of_none (a c u h1 h2 h) hp)]; exact a c u h1 h2 h
theorem Same2.same {d g : Addr} {H H1 H2 : Hp} (a : Same2 d g H H1) (b : Same H1 H2) : Same2 d g H H2 := fun c o h1 h2 h => b c o (a c o h1 h2 h)
theorem Same2.of {d g : Addr} {H H1 : Hp} (a : Same H H1) : Same2 d g H H1 := fun c o _ _ h => a c o h
theorem Same2.mine {d g : Addr} {H0 H H' : Hp} (a : Same H0 H) (hd : H0 d = none) (hg : H0 g = none) (b : Same2 d g H H') : Same H0 H' := fun c o h => b c o (ne_of_none h hd) (ne_of_none h hg) (a c o h)
def sackD (g : Addr) (a b c : Int) : List (Key × V) := [(.inr "great", .ref g), (.inr "now", .int a), (.inr "seed", .int b), (.inr "turn", .int c)]
def SackAt (H : Hp) (d g : Addr) : Prop := ∃ (ns : List Int) (a b c : Int), d ≠ g ∧ H d = some (.dK (sackD g a b c)) ∧ H g = some (.lst (ns.map V.int))
theorem SackAt.same {H H' : Hp} {d g : Addr} (h : SackAt H d g) (s : Same H H') : SackAt H' d g := by
  obtain ⟨ns, a, b, c, n, e1, e2⟩ := h
  exact ⟨ns, a, b, c, n, s _ _ e1, s _ _ e2⟩
theorem SackAt.ne {H : Hp} {d g p : Addr} (h : SackAt H d g) (hp : H p = none) : p ≠ d ∧ p ≠ g := by
  obtain ⟨ns, a, b, c, n, e1, e2⟩ := h
  exact ⟨(ne_of_none e1 hp).symm, (ne_of_none e2 hp).symm⟩
end JW
namespace JW
open PySem PySem.Spec PyProof.Rows L2
section
variable {prog : Program} {w : World} {A : Around} {E : Value → Shared → Prop} {s : Shared} {K : PySem.W.Frag} {x C f : Addr} {ox : Obj} {od : Option Obj} {b tb : Value}
theorem ne_own {Q : Value → Shared → Prop} (hu : A.units + 1 < cLine) (X : K.In s.heap) (I : PySem.W.InstAt s.heap x ox C od) (hb : PySem.W.Looks (model prog w) s.heap (typeOf b) tb) (hn : PySem.W.notFirst K C tb = true)
    (hne : PySem.W.findIn K (.ref C) "__ne__" = some (some (.builtin "object.__ne__"))) (heq : PySem.W.findIn K (.ref C) "__eq__" = some (some (.ref f))) (hf : PySem.W.isFn K (.ref f) = true) (hob : PySem.W.subIn K (.ref C) (.type "object") = some true)
    (h : wpAny (model prog w) A.in1 (call (.ref f) [.ref x, b]) (fun v s' => ∃ k, v = .bool k ∧ Q (.bool (!k)) s') E s) : wpAny (model prog w) A (richCompare .NotEq (.ref x) b) Q E s := by
  have one : wpAny (model prog w) A (tryCompare (.ref x) (cmpInfo .NotEq).2.1 b) (fun r s' => ∃ v, r = some v ∧ Q v s') E s := by
    unfold tryCompare
    have hc : wpAny (model prog w) A (call (.builtin "object.__ne__") [.ref x, b]) (fun v s' => ∃ k, v = .bool (!k) ∧ Q (.bool (!k)) s') E s := by
      refine wpAny_call (codeAny_call_builtin F.cmp_object.ne.plain F.cmpEntry_ne ?_)
      refine PySem.W.check_slot F.cmpKind_ne F.cmpSplit_ne (I.type.andThen (PySem.W.looks_subIn X hob)) (F.cmpArgs_ne _ _) ?_
      unfold Builtin.«object.__ne__»
      repeat (first
        | with_reducible refine wpAny_cRoomFor hu ?_
        | (refine wpAny_bind (m := callSpecialIfBound? (.ref x) (Str.ofString "__eq__") [b])
            (PySem.W.ifBound_K X I heq hf (wpAny_mono h (fun r s' hr => by
              obtain ⟨k, rfl, hq⟩ := hr
              repeat (first | exact ⟨k, rfl, hq⟩ | exact wpAny_pure ⟨k, rfl, hq⟩ | exact wpAny_truthy_bool ⟨k, rfl, hq⟩ | (refine wpAny_bind (m := truthy (.bool _)) (wpAny_truthy_bool ?_)) | wp_step)) fun _ _ e => e)))
        | wp_step)
    refine wpAny_bind ?_
    simp only [callSpecialIfBound?, bindSpecialIfBound?]
    refine wpAny_holding (wpAny_bind (wpAny_bind (wpAny_bind (I.type.here ((PySem.W.looks_findIn X hne).here ?_)))))
    have fin : ∀ R : Option Value → Shared → Prop, (∀ k s', Q (.bool (!k)) s' → R (some (.bool (!k))) s') → wpAny (model prog w) A (call (.builtin "object.__ne__") ([.ref x] ++ [b]) >>= fun v => pure (some v)) R E s := fun R hR => by
      refine wpAny_bind (wpAny_mono hc (fun v s' h' => wpAny_pure ?_) fun _ _ h' => h')
      obtain ⟨k, rfl, hq⟩ := h'
      exact hR k s' hq
    refine wpAny_bind (wpAny_askSetting (wpAny_ite ?_))
    split
    · rw [F.cmp_object.ne.bind]
      exact wpAny_bind (wpAny_pure (wpAny_pure (by exact fin _ fun k s' hq => wpAny_pure ⟨_, rfl, hq⟩)))
    · rw [F.cmp_object.ne.bind]
      exact wpAny_tryCatch (wpAny_bind (wpAny_pure (wpAny_pure (by exact fin _ fun k s' hq => wpAny_pure ⟨_, rfl, hq⟩))))
  unfold richCompare
  simp only [oneThing_ref]
  refine wpAny_holding (wpAny_bind (wpAny_cRoomFor (Nat.lt_of_succ_lt hu) ?_))
  refine wpAny_bind (I.type.here (wpAny_bind (hb.here ?_)))
  split
  · rename_i q
    have e : PySem.W.subIn K tb (.ref C) = some false := by
      rcases Bool.or_eq_true_iff.mp hn with e | e
      · rw [beq_iff_eq.mp e] at q; simp at q
      · exact beq_iff_eq.mp e
    refine wpAny_bind ((PySem.W.looks_subIn X e).here ?_)
    simp only [Bool.false_eq_true, if_false]
    refine wpAny_bind (wpAny_mono one (fun r s' z => ?_) fun _ _ e => e)
    obtain ⟨v, rfl, hq⟩ := z
    exact wpAny_pure hq
  · refine wpAny_bind (wpAny_pure ?_)
    simp only [Bool.false_eq_true, if_false]
    refine wpAny_bind (wpAny_mono one (fun r s' z => ?_) fun _ _ e => e)
    obtain ⟨v, rfl, hq⟩ := z
    exact wpAny_pure hq
end
structure MethD (P : Program) (w : World) (K : PySem.W.Frag) (mg : Str → Option Value) (base : Heap) (CX : CXT) (k : Nat) (C : Addr) (m : Str) (ps : List Str) (dvs : List V) (sp : Sp) : Prop where
  ex : ∃ f fd ds, Meth K C m f ∧ Binds K fd ps ds ∧ Vals dvs ds ∧ FnOk P w K mg base CX k f fd ps sp
structure MethAt (K : PySem.W.Frag) (C : Addr) (m qual : Str) (st : Stmt) (ps : List Str) : Prop where
  ex : ∃ f fd, Meth K C m f ∧ FunD K m qual (defArgs st) (defBody st) (defScope st) [] [] f fd ∧ Binds K fd ps []
section
variable {P : Program} {w : World} {K : PySem.W.Frag} {mg : Str → Option Value} {base : Heap} {CX : CXT} {C : Addr}
theorem MethD.mono {j k : Nat} {m : Str} {ps : List Str} {dvs : List V} {sp : Sp} (c : MethD P w K mg base CX j C m ps dvs sp) (h : j ≤ k) : MethD P w K mg base CX k C m ps dvs sp := by
  obtain ⟨f, fd, ds, h1, h2, h3, F⟩ := c.ex
  exact ⟨f, fd, ds, h1, h2, h3, F.mono h⟩
theorem MethAt.ok {m qual : Str} {st : Stmt} {N ps : List Str} {k : Nat} {sp : Sp} (D : MethAt K C m qual st ps) (S : FnScope N ps (defScope st)) (len : ∀ vs H Q E, sp vs H Q E → vs.length = ps.length)
    (hbody : ∀ (f : Addr) (cdv : Value) (A : Around) (outer : List Env) (s : Shared) (H : Hp) (vs : List V) (Q : VK) (E : XK), Room k (A.deeper (envOfC qual (defScope st) s.heap.objs.size f cdv)) → sp vs H Q E →
      ∃ t, PSs (cxOf CX P w K mg base N qual (defScope st) f cdv A outer s H E).nox (defBody st) t ∧ t { nx := fun _ H' => Q .non H', rt := Q } (start N vs) H) : MethD P w K mg base CX (k + 1) C m ps [] sp := by
  obtain ⟨f, fd, h1, F, b⟩ := D.ex
  exact ⟨f, fd, [], h1, b, .nil, okF F S len fun cdv A outer s H vs Q E hr h => hbody f cdv A outer s H vs Q E hr h⟩
end
section
variable {X : Cx} {CX : CXT} {k : Nat} {C : Addr} {ps : List Str} {sp : Sp} {dvs : List V} {E : XK} {m : Str} {pos apos : Pos} {o e : Expr} {es : List Expr} {t : TA} {ta : TE}
theorem pe_methD {pl : Sem Bool} (c : Cls X.K C) (M : MethD X.prog X.w X.K X.mg X.base CX k C m ps dvs sp) (hr : Room k X.A) (hx : Passes CX X E) (he : PE X o ta) (ha : PA X (e :: es) t)
    (hst : starEach (e :: es) X.env = (false, eval e X.env) :: starEach es X.env := by rfl) (hpl : (backTo pos (starEach es X.env)).any (·.1) = false := by rfl)
    (ht : eval (.Call (.Attribute o m apos) (e :: es) [] pos) X.env = (do
      let ov ← eval o X.env
      standAt apos.atName
      let (f, first) ← holding [ov] (getMethod ov m pl)
      callWith pos f first (backTo pos (starEach (e :: es) X.env)) (backToKw pos (keywordEach [] X.env))) := by rfl) : PE X (.Call (.Attribute o m apos) (e :: es) [] pos) (tMeth C m sp dvs E ta t) := by
  obtain ⟨f, fd, ds, h1, h2, h3, F⟩ := M.ex
  exact pe_meth he c h1 F hr h2 h3 hx ha hst hpl ht
theorem pe_methD0 {pl : Sem Bool} (c : Cls X.K C) (M : MethD X.prog X.w X.K X.mg X.base CX k C m ps dvs sp) (hr : Room k X.A) (hx : Passes CX X E) (he : PE X o ta)
    (ht : eval (.Call (.Attribute o m apos) [] [] pos) X.env = (do
      let ov ← eval o X.env
      standAt apos.atName
      let (f, first) ← holding [ov] (getMethod ov m pl)
      callWith pos f first (backTo pos (starEach [] X.env)) (backToKw pos (keywordEach [] X.env))) := by rfl) : PE X (.Call (.Attribute o m apos) [] [] pos) (tMeth C m sp dvs E ta tNil) := by
  obtain ⟨f, fd, ds, h1, h2, h3, F⟩ := M.ex
  exact pe_meth0 he c h1 F hr h2 h3 hx ht
def rOwn (C : Addr) (sp : Sp) (E : XK) : R2 := fun x y H Q => ∃ a dx fs b dy gs, x = .ref a ∧ y = .ref b ∧ H a = some (.ins C dx fs) ∧ H b = some (.ins C dy gs) ∧ sp [x, y] H (fun v H' => v ≠ .non ∧ Q v H') E
theorem relV_back {v : V} {u : Value} {s : Shared} {Q : Value → Shared → Prop} (r : RelV v u) (h : Q u s) : PySem.W.CmpBack Q u s := by
  cases v with
  | non => cases r; exact h
  | bl _ => cases r; exact h
  | int _ => obtain ⟨t, rfl⟩ := r; exact h
  | str _ => obtain ⟨t, rfl⟩ := r; exact h
  | byt _ => obtain ⟨t, rfl⟩ := r; exact h
  | flt _ => obtain ⟨t, rfl⟩ := r; exact h
  | ref _ => cases r; exact h
  | ty _ => cases r; exact h
def rOwnEq (C : Addr) (sp : Sp) (E : XK) (neg : Bool) : R2 := fun x y H Q => ∃ a dx fs b dy gs, x = .ref a ∧ y = .ref b ∧ H a = some (.ins C dx fs) ∧ H b = some (.ins C dy gs) ∧
  sp [x, y] H (fun v H' => ∃ k, v = .bl k ∧ Q (.bl (if neg then !k else k)) H') E
theorem op_own_eq (M : MethD X.prog X.w X.K X.mg X.base CX k C "__eq__" ps [] sp) (hr : Room k X.A) (hx : Passes CX X E) : OpR X (compareOp .Eq) (rOwnEq C sp E false) := by
  intro pins s σ H x y v u Q I rx ry h
  obtain ⟨a, dx, fs, b, dy, gs, rfl, rfl, ha, hb, q⟩ := h
  cases rx
  cases ry
  obtain ⟨f, fd, ds, hm, hbd, hd, F⟩ := M.ex
  cases hd
  obtain ⟨mA, J, _⟩ := ins_get I.hok ha
  obtain ⟨mB, J', _⟩ := ins_get I.hok hb
  obtain ⟨od, J, _⟩ := J.look
  obtain ⟨od', J', _⟩ := J'.look
  obtain ⟨m, hF⟩ := I.fr
  refine PySem.W.cmp_K (op := .Eq) (tb := .ref C) hr.units0 hF I.ok.mod.kin J J'.type (by simp [PySem.W.notFirst]) hm.at_ hm.fn ?_
  refine wpAny_mono (run_fn (us := [.ref a, .ref b]) (vs := [.ref a, .ref b]) F hr hbd .nil hx I (.cons rfl (.cons rfl .nil)) q) (fun v s' z => ?_) fun _ _ z => z
  obtain ⟨v', H', I', r, k, rfl, q'⟩ := z
  exact relV_back r ⟨_, H', I', r, q'⟩
theorem op_own_ne (hne : PySem.W.findIn X.K (.ref C) "__ne__" = some (some (.builtin "object.__ne__"))) (hob : PySem.W.subIn X.K (.ref C) (.type "object") = some true) (M : MethD X.prog X.w X.K X.mg X.base CX k C "__eq__" ps [] sp) (hr : Room (k + 1) X.A) (hx : Passes CX X.nox E) : OpR X (compareOp .NotEq) (rOwnEq C sp E true) := by
  intro pins s σ H x y v u Q I rx ry h
  obtain ⟨a, dx, fs, b, dy, gs, rfl, rfl, ha, hb, q⟩ := h
  cases rx
  cases ry
  obtain ⟨f, fd, ds, hm, hbd, hd, F⟩ := M.ex
  cases hd
  obtain ⟨mA, J, _⟩ := ins_get I.hok ha
  obtain ⟨mB, J', _⟩ := ins_get I.hok hb
  obtain ⟨od, J, _⟩ := J.look
  obtain ⟨od', J', _⟩ := J'.look
  refine ne_own (tb := .ref C) (hu_of hr) I.kIn J J'.type (by simp [PySem.W.notFirst]) hne hm.at_ hm.fn hob ?_
  have hl : ([Value.ref a, Value.ref b] ++ []).length = ps.length := by
    rw [← F.len _ _ _ _ q]
    rfl
  refine wpAny_call (codeAny_mono (F.run X.A.in1 X.stack s H ⟨[.ref a, .ref b], []⟩ [.ref a, .ref b] [.ref a, .ref b] _ E hr.in1 I.env0.in1 (by
    have := hbd s [.ref a, .ref b] I.kIn hl
    simpa using this) (.cons rfl (.cons rfl .nil)) q) fun r s' hq => ?_)
  cases r with
  | error er => exact False.elim (hx pins σ H s er s' (I.wish _) hq)
  | ok fl =>
    cases fl with
    | ret u =>
      obtain ⟨v', H', I', r, k, rfl, q'⟩ := I.after hq
      cases r
      exact ⟨k, rfl, .bl (!k), H', I', rfl, q'⟩
    | next => exact False.elim hq
    | brk => exact False.elim hq
    | cont => exact False.elim hq
structure PropD (P : Program) (w : World) (K : PySem.W.Frag) (mg : Str → Option Value) (base : Heap) (CX : CXT) (k : Nat) (C : Addr) (f : Str) (sp : Sp) : Prop where
  ex : ∃ p g fd, PropOf K C f p g ∧ Binds K fd ["self"] [] ∧ FnOk P w K mg base CX k g fd ["self"] sp
structure PropAt (K : PySem.W.Frag) (C : Addr) (m qual : Str) (st : Stmt) : Prop where
  ex : ∃ p g fd, PropOf K C m p g ∧ FunD K m qual (defArgs st) (defBody st) (defScope st) [] [] g fd ∧ Binds K fd ["self"] []
theorem pe_propD {f : Str} (c : Cls X.K C) (M : PropD X.prog X.w X.K X.mg X.base CX k C f sp) (hr : Room (k + 1) X.A) (hx : Passes CX X.nox E) (he : PE X e ta) (hab : attributeBase e f X.env (eval e X.env) = eval e X.env) : PE X (.Attribute e f pos) (tProp C sp [] E ta) := by
  obtain ⟨p, g, fd, hp, hb, F⟩ := M.ex
  exact pe_prop he c hp F hr hb .nil hx hab
end
end JW
namespace JW
open PySem PySem.Spec PyProof.Rows L2
section
variable {X : Cx} {pins : List (Addr × Obj)} {σ : L2.St} {H : Hp} {s : Shared}
theorem repin {q : Addr} {o o' : Obj} {h' : Heap} {t' : Nat} (I : Inv X ((q, o) :: pins) σ H s) (hs : X.s_0.heap.objs.size ≤ q) (hp : ∀ p ∈ X.pn ++ pins, p.1 ≠ q)
    (k : ∀ b u, b ≠ q → s.heap.get? b = some u → h'.get? b = some u) (hq : h'.get? q = some o') (hc : ∀ v, o'.data ≠ .cell v) : Inv X ((q, o') :: pins) σ H { s with heap := h', toks := t' } := by
  have hpin := I.pin (q, o) (List.mem_append_right _ List.mem_cons_self)
  have I1 := (ClX.unpin I).turned (t' := t') k hpin.2.1 hpin.2.2.1 (.inr hs) (fun x c e z => by
    obtain ⟨v, o2, ho, hdat⟩ := I.cell x c e
    rw [z] at ho
    have h2 : s.heap.get? q = some o := hpin.1
    rw [h2] at ho
    cases ho
    exact hpin.2.2.2.2 v hdat) hp
  refine I1.pins_of fun p hp' => ?_
  rcases List.mem_cons.mp hp' with e | e
  · subst e
    exact ⟨hq, hpin.2.1, hpin.2.2.1, hpin.2.2.2.1, hc⟩
  · exact I1.pin p (List.mem_append_right _ e)
theorem track {a : Addr} {o : Obj} {u : HO} (I : Inv X ((a, o) :: pins) σ H s) (hs : X.s_0.heap.objs.size ≤ a) (hp : ∀ p ∈ X.pn ++ pins, p.1 ≠ a) (new : ObjOk X.prog X.w (upd H a u) s.heap a u) : Inv X pins σ (upd H a u) s := by
  have hpin := I.pin (a, o) (List.mem_append_right _ List.mem_cons_self)
  have hn : H a = none := hpin.2.1
  have I0 := ClX.unpin I
  have ne : ∀ b w, H b = some w → b ≠ a := fun b w e => ne_of_none e hn
  refine ⟨I0.ok, I0.os, I0.bare, ⟨I0.base.keep, I0.base.slot, fun b w e n hx => ?_, I0.base.there, fun b xs e => ?_, fun b w xs e => ?_, fun b ps e => ?_⟩, I0.loc, I0.cell, ?_, fun x c e => ?_, fun p hp' => ?_, fun b w e => ?_, I0.len⟩
  · rw [upd_ne (Nat.ne_of_lt (Nat.lt_of_lt_of_le (Heap.lt_size e) hs))]
    exact I0.base.free b w e n hx
  · have q := I0.base.tups b xs e
    rw [upd_ne (ne b _ q)]
    exact q
  · have q := I0.base.frzs b w xs e
    rw [upd_ne (ne b _ q)]
    exact q
  · obtain ⟨more, q⟩ := I0.base.tbls b ps e
    exact ⟨more, by rw [upd_ne (ne b _ q)]; exact q⟩
  · rw [upd_ne (Ne.symm hpin.2.2.1)]
    exact I0.free
  · rw [upd_ne (fun z => by
      obtain ⟨v, o2, ho, hdat⟩ := I0.cell x c e
      rw [z] at ho
      have h2 : s.heap.get? a = some o := hpin.1
      rw [h2] at ho
      cases ho
      exact hpin.2.2.2.2 v hdat)]
    exact I0.freeC x c e
  · obtain ⟨h1, h2, h3⟩ := I0.pin p hp'
    exact ⟨h1, by rw [upd_ne (hp p hp')]; exact h2, h3⟩
  · by_cases hb : b = a
    · rw [hb, upd_same] at e
      cases e
      rw [hb]
      exact new
    · rw [upd_ne hb] at e
      exact (I0.hok b w e).stay (fun c v _ q => q) (fun c q => by rw [upd_ne (ne c _ q)]; exact q) fun c xs q => by rw [upd_ne (ne c _ q)]; exact q
end
theorem strs_snoc {z : Str} {t : Tok} : ∀ {vs : List Value} {ss : List Str}, StrsAre vs ss → StrsAre (vs ++ [.str z t]) (ss ++ [z])
  | _, _, .nil => .cons z t .nil
  | _, _, .cons x u h => .cons x u (strs_snoc h)
theorem zip_mapL {α β γ : Type} (f : α → γ) : ∀ (xs : List α) (ys : List β), (xs.map f).zip ys = (xs.zip ys).map fun p => (f p.1, p.2)
  | [], _ => rfl
  | _ :: _, [] => rfl
  | x :: xs, y :: ys => by rw [List.map_cons, List.zip_cons_cons, List.zip_cons_cons, List.map_cons, zip_mapL f xs ys]
def Keyd (zs : List Str) (vs out : List Value) : Prop := ∃ ps : List (Str × Value), ps.Perm (zs.zip vs) ∧ ps.Pairwise (fun p q => ¬ q.1.cps.toList < p.1.cps.toList) ∧ out = ps.map (·.2)
theorem key_out {keys : Array Value} {vs : List Value} {zs : List Str} (hk : StrsAre keys.toList zs) {xs : Array Keyed} (hp : xs.Perm (keys.zip vs.toArray)) (hs : SortedToK strKind xs xs.size) : Keyd zs vs (xs.map (·.2)).toList := by
  have hl : xs.toList.Perm (keys.toList.zip vs) := by rw [← PyProof.Rows.ksk_zip]; exact Array.perm_iff_toList_perm.mp hp
  have hmem : ∀ p, p ∈ xs.toList → ∃ z t, p.1 = .str z t := fun p hp' => hk.all p.1 (List.of_mem_zip (hl.mem_iff.mp hp')).1
  refine ⟨xs.toList.map fun p => (strOf p.1, p.2), ?_, ?_, by rw [Array.toList_map, List.map_map]; rfl⟩
  · have h1 := hl.map fun p : Value × Value => (strOf p.1, p.2)
    have e : (keys.toList.zip vs).map (fun p : Value × Value => (strOf p.1, p.2)) = zs.zip vs := by
      rw [← hk.strs, zip_mapL]
    rw [e] at h1
    exact h1
  · rw [List.pairwise_iff_getElem]
    intro i j hi hj hij
    have hi' : i < xs.size := by simpa using hi
    have hj' : j < xs.size := by simpa using hj
    have h1 := hs i j (Nat.le_of_lt hij) hj'
    obtain ⟨x, t, ex⟩ := hmem xs[i] (by simp)
    obtain ⟨y, u, ey⟩ := hmem xs[j] (by simp)
    rw [KK_str hi' (x := x) (t := t) (q := xs[i].2) (Prod.ext ex rfl), KK_str hj' (x := y) (t := u) (q := xs[j].2) (Prod.ext ey rfl)] at h1
    have h2 : decide (y.cps.toList < x.cps.toList) = false := h1
    simp only [List.getElem_map, Array.getElem_toList]
    rw [show strOf xs[i].1 = x by rw [ex]; rfl, show strOf xs[j].1 = y by rw [ey]; rfl]
    exact of_decide_eq_false h2

section
variable {X : Cx} {pins : List (Addr × Obj)} {σ : L2.St} {A : Around} {E : Value → Shared → Prop} {a kS : Addr} {vs : List Value} {xs : List V} {zs : List Str} {R : Hp → Prop} {e1 : Nat} {P : PySem.Fin → Shared → Prop}
structure Own2 (X : Cx) (pins : List (Addr × Obj)) (a kS : Addr) : Prop where
  sk : X.s_0.heap.objs.size ≤ kS
  sa : X.s_0.heap.objs.size ≤ a
  ka : kS ≠ a
  pk : ∀ p ∈ X.pn ++ pins, p.1 ≠ kS
  pa : ∀ p ∈ X.pn ++ pins, p.1 ≠ a
theorem Own2.pk' {o : Obj} (O : Own2 X pins a kS) : ∀ p ∈ X.pn ++ ((a, o) :: pins), p.1 ≠ kS := fun p hp => by
  rcases List.mem_append.mp hp with h | h
  · exact O.pk p (List.mem_append_left _ h)
  · rcases List.mem_cons.mp h with h | h
    · rw [h]
      exact O.ka.symm
    · exact O.pk p (List.mem_append_right _ h)
theorem noCell (ys : Array Value) (n : Nat) : ∀ v, (seqObj "list" ys n).data ≠ .cell v := fun v z => by cases z
theorem key_tail {keys : Array Value} {e : Nat} {H : Hp} {s : Shared} {st : SortSt} (O : Own2 X pins a kS) (I : Inv X ((kS, seqObj "list" keys e) :: (a, seqObj "list" #[] e1) :: pins) σ H s) (hR : R H) (hk : StrsAre keys.toList zs) (hlen : zs.length = vs.length) (hZ : vs.length ≤ sizeLine)
    (hp : (arrOf st).Perm (keys.zip vs.toArray)) (hs : SortedToK strKind (arrOf st) (arrOf st).size) (hfl : failedOf st = none)
    (h : ∀ s' out c, Inv X ((a, seqObj "list" out c) :: pins) σ H s' → R H → Keyd zs vs out.toList → P (.done (.ret .none)) s') :
    wpAny (model X.prog X.w) A (ksk_tail a false e1 (.ref kS) st) P E s := by
  have hZ2 := hZ
  rw [sizeLine_eq] at hZ2
  have hsz : keys.size = vs.length := by
    have h1 := hk.length
    rw [Array.length_toList] at h1
    omega
  have hsz2 : (arrOf st).size = vs.length := by rw [hp.size_eq, Array.size_zip, hsz, List.size_toArray, Nat.min_self]
  have nk : s.heap.get? kS = some (seqObj "list" keys e) := (I.pin (kS, _) (List.mem_append_right _ List.mem_cons_self)).1
  have na : s.heap.get? a = some (seqObj "list" #[] e1) := (I.pin (a, _) (List.mem_append_right _ (List.mem_cons_of_mem _ List.mem_cons_self))).1
  have s1 := Heap.SameBut.update s.heap kS (Obj.mapSeq fun _ => (#[] : Array Value))
  have na1 : (s.heap.update kS (Obj.mapSeq fun _ => (#[] : Array Value))).get? a = some (seqObj "list" #[] e1) := (s1.2 a O.ka.symm).trans na
  obtain ⟨c1, hc1⟩ : ∃ c1, (s.heap.update kS (Obj.mapSeq fun _ => (#[] : Array Value))).get? kS = some (seqObj "list" #[] c1) := ⟨_, get?_update_seq nk fun _ => #[]⟩
  have s2 := Heap.SameBut.update (s.heap.update kS (Obj.mapSeq fun _ => (#[] : Array Value))) a (Obj.mapSeq fun _ => (arrOf st).map (·.2))
  obtain ⟨c2, hc2⟩ : ∃ c2, ((s.heap.update kS (Obj.mapSeq fun _ => (#[] : Array Value))).update a (Obj.mapSeq fun _ => (arrOf st).map (·.2))).get? a = some (seqObj "list" ((arrOf st).map (·.2)) c2) := ⟨_, get?_update_seq na1 fun _ => (arrOf st).map (·.2)⟩
  unfold ksk_tail
  try dsimp only
  refine wpAny_bind (listUpdate_at nk rfl ?_ (by rw [hsz, sizeLine_eq]; omega) (Nat.zero_le _))
  refine wpAny_bind (wpAny_letGo ?_)
  refine wpAny_bind (seqEpoch_at na1 rfl ?_)
  simp only [Bool.false_eq_true, if_false]
  refine wpAny_bind (listUpdate_at na1 rfl ?_ (Nat.zero_le _) (by rw [Array.size_map, hsz2, sizeLine_eq]; omega))
  rw [hfl]
  simp only [bne_self_eq_false, Bool.false_eq_true, if_false]
  have I1 := repin (t' := s.toks) I O.sk O.pk' (fun b u hb q => (s1.2 b hb).trans q) hc1 (noCell _ _)
  have I2 := repin (t' := s.toks) (ClX.unpin I1) O.sa O.pa (fun b u hb q => (s2.2 b hb).trans q) hc2 (noCell _ _)
  exact wpAny_pure (h _ _ c2 I2 hR (key_out hk hp hs))
theorem key_end {keys : Array Value} {e : Nat} {H : Hp} {s : Shared} (O : Own2 X pins a kS) (I : Inv X ((kS, seqObj "list" keys e) :: (a, seqObj "list" #[] e1) :: pins) σ H s) (hR : R H) (hk : StrsAre keys.toList zs) (hlen : zs.length = vs.length) (hZ : vs.length ≤ sizeLine)
    (h : ∀ s' out c, Inv X ((a, seqObj "list" out c) :: pins) σ H s' → R H → Keyd zs vs out.toList → P (.done (.ret .none)) s') :
    wpAny (model X.prog X.w) A (ksk_end a false vs.toArray e1 (.ref kS) keys) P E s := by
  have hZ2 := hZ
  rw [sizeLine_eq] at hZ2
  have hsz : keys.size = vs.length := by
    have h1 := hk.length
    rw [Array.length_toList] at h1
    omega
  have hzs : (keys.zip vs.toArray).size = vs.length := by rw [Array.size_zip, hsz, List.size_toArray, Nat.min_self]
  have kO : KeysOf strKind (keys.zip vs.toArray) := fun p hp => by
    rw [PyProof.Rows.ksk_zip] at hp
    obtain ⟨z, t, e⟩ := hk.all p.1 (List.of_mem_zip hp).1
    exact ⟨z.cps.toList, by rw [e]⟩
  unfold ksk_end
  simp only [Bool.false_eq_true, if_false]
  by_cases h2 : vs.toArray.size < 2
  · rw [if_pos h2, if_pos h2]
    refine wpAny_bind (wpAny_pure ?_)
    rw [StateT.run_pure]
    refine wpAny_bind (wpAny_pure ?_)
    try dsimp only
    refine key_tail (st := SortSt.mk' general' (keys.zip vs.toArray) #[] 7 none) O I hR hk hlen hZ (Array.Perm.refl _) ?_ rfl h
    intro i j hij hj
    have hj2 : j < (keys.zip vs.toArray).size := hj
    rw [hzs] at hj2
    rw [List.size_toArray] at h2
    have : i = j := by omega
    subst this
    exact KeyOrd.kle_refl _
  · rw [if_neg h2, if_neg h2]
    rw [List.size_toArray] at h2
    have kk : keyKind' keys = pure oneType' := by
      match hv : keys.toList, hk with
      | [], _ => rw [← Array.length_toList, hv] at hsz; simp at hsz; omega
      | [_], _ => rw [← Array.length_toList, hv] at hsz; simp at hsz; omega
      | v1 :: v2 :: r, hk' =>
        have e : keys = (v1 :: v2 :: r).toArray := by rw [← hv]
        rw [e]
        exact keyKind_strs hk'
    rw [kk]
    refine wpAny_bind (wpAny_pure ?_)
    refine wpAny_bind (wpAny_mono (wpS_sortRunsAny (κ := strKind) (a₀ := keys.zip vs.toArray) (st := SortSt.mk' oneType' (keys.zip vs.toArray) #[] 7 none)
      (Q := fun _ st' => (arrOf st').Perm (keys.zip vs.toArray) ∧ failedOf st' = none ∧ SortedToK strKind (arrOf st') (keys.zip vs.toArray).size)
      strKind_oneLt kO ⟨Array.Perm.refl _, rfl, rfl⟩ rfl (by rw [hzs]; omega) fun st' a1 a2 a3 => ⟨a1, a2, a3⟩) ?_ fun _ _ e => e)
    rintro ⟨⟨⟩, st'⟩ s' ⟨rfl, hp, hf, hs⟩
    try dsimp only
    exact key_tail O I hR hk hlen hZ hp (by rw [hp.size_eq]; exact hs) hf h
theorem key_rest {f : Value} {H : Hp} {s : Shared} (O : Own2 X pins a kS) (I : Inv X ((kS, seqObj "list" #[] 0) :: (a, seqObj "list" #[] e1) :: pins) σ H s) (hR : R H) (rv : Vals xs vs) (hlen : zs.length = vs.length) (hZ : vs.length ≤ sizeLine)
    (turn : ∀ (i : Nat) (x : V) (z : Str), xs[i]? = some x → zs[i]? = some z → ∀ (pn : List (Addr × Obj)) (s' : Shared) (H' : Hp) (u : Value), Inv X (pn ++ pins) σ H' s' → R H' → RelV x u →
      wpAny (model X.prog X.w) A (call f [u]) (EP X (pn ++ pins) σ fun v H2 => v = .str z ∧ R H2) (fun _ _ => False) s')
    (h : ∀ s' H' out c, Inv X ((a, seqObj "list" out c) :: pins) σ H' s' → R H' → Keyd zs vs out.toList → P (.done (.ret .none)) s') :
    wpAny (model X.prog X.w) A (ksk_rest a f false vs.toArray e1 (.ref kS)) P E s := by
  have hZ2 := hZ
  rw [sizeLine_eq] at hZ2
  unfold ksk_rest
  refine wpAny_bind (wpAny_rule ?_)
  first
    | rw [List.forIn_toArray]
    | (rw [← Array.forIn_toList]; simp only [List.toList_toArray])
    | rw [← Array.forIn_toList]
  refine wpAny_bind (ksk_fold (fun i s' => ∃ H' kA e, Inv X ((kS, seqObj "list" kA e) :: (a, seqObj "list" #[] e1) :: pins) σ H' s' ∧ R H' ∧ StrsAre kA.toList (zs.take i)) vs 0 s
    ⟨H, #[], 0, I, hR, by simpa using StrsAre.nil⟩ ?step ?done)
  case step =>
    rintro j u s' hx ⟨H', kA, e, I', hR', hk⟩
    simp only [Nat.zero_add] at hk ⊢
    have hj : j < vs.length := (List.getElem?_eq_some_iff.mp hx).1
    obtain ⟨z, hzj⟩ : ∃ z, zs[j]? = some z := ⟨_, List.getElem?_eq_getElem (by omega)⟩
    have hz : kA.size ≤ vs.length := by
      have h1 := hk.length
      rw [Array.length_toList, List.length_take] at h1
      omega
    obtain ⟨x, hxj, rx⟩ : ∃ x, xs[j]? = some x ∧ RelV x u := by
      have hjx : j < xs.length := by rw [rv.length]; exact hj
      obtain ⟨u', hu', r'⟩ := rv.get (List.getElem?_eq_getElem hjx)
      rw [hx] at hu'
      cases hu'
      exact ⟨_, List.getElem?_eq_getElem hjx, r'⟩
    refine wpAny_bind (wpAny_attempt (wpAny_mono (turn j x z hxj hzj [(kS, seqObj "list" kA e), (a, seqObj "list" #[] e1)] s' H' u I' hR' rx) (fun v s'' he => ?_) fun _ _ hF => hF.elim))
    obtain ⟨y, H2, I2, ry, rfl, hR2⟩ := he
    obtain ⟨t2, rfl⟩ := ry
    try dsimp only
    have I2' : Inv X ((kS, seqObj "list" kA e) :: (a, seqObj "list" #[] e1) :: pins) σ H2 s'' := I2
    have nk : s''.heap.get? kS = some (seqObj "list" kA e) := (I2'.pin (kS, _) (List.mem_append_right _ List.mem_cons_self)).1
    have s1 := Heap.SameBut.update s''.heap kS (Obj.mapSeq (·.push (.str z t2)))
    obtain ⟨c2, hc2⟩ : ∃ c2, (s''.heap.update kS (Obj.mapSeq (·.push (.str z t2)))).get? kS = some (seqObj "list" (kA.push (.str z t2)) c2) := ⟨_, get?_update_seq nk (·.push (.str z t2))⟩
    have ek : zs.take (j + 1) = zs.take j ++ [z] := by rw [List.take_add_one, hzj]; simp
    have ea : (kA.push (Value.str z t2)).toList = kA.toList ++ [Value.str z t2] := by simp
    refine wpAny_bind (listUpdate_at nk rfl ?_ (by rw [sizeLine_eq]; omega) (Nat.le_trans (Nat.le_of_eq (Array.size_push ..)) (by rw [sizeLine_eq]; omega)))
    refine wpAny_pure ⟨rfl, H2, kA.push (.str z t2), c2, repin (t' := s''.toks) I2' O.sk O.pk' (fun b u hb q => (s1.2 b hb).trans q) hc2 (noCell _ _), hR2, ?_⟩
    rw [ea, ek]
    exact strs_snoc hk
  case done =>
    rintro s' ⟨H', kA, e, I', hR', hk⟩
    have hk' : StrsAre kA.toList zs := by
      have e3 : zs.take (0 + vs.length) = zs := List.take_of_length_le (by omega)
      rw [e3] at hk
      exact hk
    have nk : s'.heap.get? kS = some (seqObj "list" kA e) := (I'.pin (kS, _) (List.mem_append_right _ List.mem_cons_self)).1
    try dsimp only
    refine wpAny_bind (listItems_at nk rfl ?_)
    exact key_end O I' hR' hk' hlen hZ fun s2 out c I2 hR2 k2 => h s2 H' out c I2 hR2 k2
end
section
variable {X : Cx} {pins : List (Addr × Obj)} {σ : L2.St} {E : Value → Shared → Prop} {xs : List V} {zs : List Str} {R : Hp → Prop}
def KeydV (zs : List Str) (xs out : List V) : Prop := ∃ ps : List (Str × V), ps.Perm (zs.zip xs) ∧ ps.Pairwise (fun p q => ¬ q.1.cps.toList < p.1.cps.toList) ∧ out = ps.map (·.2)
theorem keyd_vals {vs out : List Value} (rv : Vals xs vs) (hlen : zs.length = xs.length) (k : Keyd zs vs out) : ∃ ys, Vals ys out ∧ KeydV zs xs ys := by
  obtain ⟨ps, pm, pw, rfl⟩ := k
  -- the places
  have go : ∀ {ps qs : List (Str × Value)}, ps.Perm qs → ∀ ws : List (Str × V), Paired (fun (p : Str × V) (q : Str × Value) => p.1 = q.1 ∧ RelV p.2 q.2) ws qs → ∃ rs : List (Str × V), rs.Perm ws ∧ Paired (fun (p : Str × V) (q : Str × Value) => p.1 = q.1 ∧ RelV p.2 q.2) rs ps := by
    intro ps qs pm
    induction pm with
    | nil =>
      intro ws h
      cases h
      exact ⟨[], List.Perm.refl _, .nil⟩
    | cons x _ ih =>
      intro ws h
      cases h with
      | cons r t =>
        obtain ⟨rs, p1, p2⟩ := ih _ t
        exact ⟨_ :: rs, p1.cons _, .cons r p2⟩
    | swap x y l =>
      intro ws h
      cases h with
      | cons r t =>
        cases t with
        | cons r2 t2 => exact ⟨_ :: _ :: _, List.Perm.swap _ _ _, .cons r2 (.cons r t2)⟩
    | trans _ _ ih1 ih2 =>
      intro ws h
      obtain ⟨rs, p1, p2⟩ := ih2 _ h
      obtain ⟨rs', p3, p4⟩ := ih1 _ p2
      exact ⟨rs', p3.trans p1, p4⟩
  have zp : ∀ {xs : List V} {vs : List Value} (zs : List Str), Vals xs vs → Paired (fun (p : Str × V) (q : Str × Value) => p.1 = q.1 ∧ RelV p.2 q.2) (zs.zip xs) (zs.zip vs) := by
    intro xs vs zs r
    induction r generalizing zs with
    | nil => cases zs <;> exact .nil
    | cons r t ih =>
      cases zs with
      | nil => exact .nil
      | cons z zs => exact .cons ⟨rfl, r⟩ (ih zs)
  obtain ⟨rs, p1, p2⟩ := go pm _ (zp zs rv)
  have m2 : ∀ {rs : List (Str × V)} {ps : List (Str × Value)}, Paired (fun (p : Str × V) (q : Str × Value) => p.1 = q.1 ∧ RelV p.2 q.2) rs ps → Vals (rs.map (·.2)) (ps.map (·.2)) ∧ rs.map (·.1) = ps.map (·.1) := by
    intro rs ps h
    induction h with
    | nil => exact ⟨.nil, rfl⟩
    | cons r t ih => exact ⟨.cons r.2 ih.1, by rw [List.map_cons, List.map_cons, ih.2, r.1]⟩
  refine ⟨rs.map (·.2), (m2 p2).1, rs, p1, ?_, rfl⟩
  have e := (m2 p2).2
  have q1 : (ps.map (·.1)).Pairwise (fun p q : Str => ¬ q.cps.toList < p.cps.toList) := List.pairwise_map.mpr pw
  rw [← e] at q1
  exact List.pairwise_map.mp q1
theorem collect_seq {prog : Program} {w : World} {A : Around} {E : Value → Shared → Prop} {s : Shared} {l : Addr} {vs : List Value} {Q : List Value → Shared → Prop} {T : String} (hl : ∃ o n, s.heap.get? l = some o ∧ o.cls = .type T ∧ o.data = .seq vs.toArray n) (hT : T = "list" ∨ T = "tuple")
    (h : Q vs { s with heap := (s.heap.push (seqObj "list" #[] 0)).update s.heap.objs.size (Obj.mapSeq (· ++ vs.toArray)) }) (hsz : vs.length ≤ sizeLine) :
    wpAny (model prog w) A (collect (.ref l)) Q E s := by
  obtain ⟨o, n, ho, hc, hd⟩ := id hl
  unfold collect
  refine wpAny_bind (wpAny_runValue (codeAny_builtin entry_proto_collect' ?_))
  show wpAny _ _ (do again (.builtin "list.__iadd__" ⟨[← newList [], .ref l], []⟩)) _ _ s
  refine wpAny_bind (wpAny_newList (wpAny_pure ⟨Code.quiet_builtin _ (by decide +kernel), codeAny_builtin entry_list_iadd' ?_⟩))
  show wpAny _ _ (Builtin.List.listExtendWith (.ref s.heap.objs.size) (.ref l) (.ref s.heap.objs.size)) _ _ { s with heap := s.heap.push (seqObj "list" #[] 0) }
  unfold Builtin.List.listExtendWith
  have ho' : (s.heap.push (seqObj "list" #[] 0)).get? l = some o := Heap.get?_push_of_some _ ho
  refine wpAny_bind (wpAny_typeOf (T := T) ⟨o, ho', hc⟩ ?_)
  have t1 : (Value.type "list" == Value.type "list") = true := by rfl
  have t2 : (Value.type "tuple" == Value.type "tuple") = true := by rfl
  rw [if_pos (by
    rcases hT with e | e
    · subst e
      rw [t1]
      simp
    · subst e
      rw [t2]
      simp)]
  refine wpAny_bind (listItems_at ho' hd ?_)
  refine wpAny_bind (listItems_at (xs := #[]) (n := 0) (Heap.get?_push_size _ rfl) rfl ?_)
  rw [if_neg (by simp)]
  refine wpAny_bind (listUpdate_at (xs := #[]) (n := 0) (Heap.get?_push_size _ rfl) rfl ?_ (Nat.zero_le _) (by show (#[] ++ vs.toArray).size ≤ sizeLine + 1; simp only [Array.size_append, List.size_toArray, List.length_nil]; omega))
  refine wpAny_pure ?_
  show wpAny (model prog w) A (do
      let o ← load s.heap.objs.size
      match o.data with
      | .seq xs _ => pure xs.toList
      | _ => unsupported "internal:collect") Q E { s with heap := (s.heap.push (seqObj "list" #[] 0)).update s.heap.objs.size (Obj.mapSeq (· ++ vs.toArray)) }
  refine wpAny_bind (wpAny_load (get?_update_seq (Heap.get?_push_size _ rfl) _) ?_)
  show wpAny _ _ (pure ((#[] : Array Value) ++ vs.toArray).toList) Q E _
  rw [show ((#[] : Array Value) ++ vs.toArray).toList = vs by simp]
  exact wpAny_pure h
def Sq (K : PySem.W.Frag) (H : Hp) (a : Addr) (xs : List V) : Prop := SqL K H a xs ∨ SqT K H a xs
theorem sq_at {H : Hp} {s : Shared} {a : Addr} {xs : List V} (I : Inv X pins σ H s) (h : Sq X.K H a xs) : ∃ its : List Value, Vals xs its ∧ xs.length ≤ sizeLine ∧ ∃ T : String, (T = "list" ∨ T = "tuple") ∧ ∃ o n, s.heap.get? a = some o ∧ o.cls = .type T ∧ o.data = .seq its.toArray n := by
  rcases h with h | h
  · obtain ⟨its, r, ⟨o, n, e, c, _, d⟩, z⟩ := I.list h
    exact ⟨its, r, z, _, .inl rfl, o, n, e, c, d⟩
  · obtain ⟨its, r, ⟨o, e, c, n, d⟩, z⟩ := I.tuple h
    exact ⟨its, r, z, _, .inr rfl, o, n, e, c, d⟩
theorem sorted_key {f : Addr} {l : Addr} {H : Hp} {s : Shared} {Q : Value → Shared → Prop} (I : Inv X pins σ H s) (hR : R H) (hl : Sq X.K H l xs) (hlen : zs.length = xs.length)
    (turn : ∀ (i : Nat) (x : V) (z : Str), xs[i]? = some x → zs[i]? = some z → ∀ (pn : List (Addr × Obj)) (s' : Shared) (H' : Hp) (u : Value), Inv X (pn ++ pins) σ H' s' → R H' → RelV x u →
      wpAny (model X.prog X.w) X.A.in1.in1 (call (.ref f) [u]) (EP X (pn ++ pins) σ fun v H2 => v = .str z ∧ R H2) (fun _ _ => False) s')
    (h : ∀ (D : Addr) (s' : Shared) (H' : Hp) (ys : List V), Inv X pins σ (upd H' D (.lst ys)) s' → H' D = none → R H' → KeydV zs xs ys → Q (.ref D) s') :
    wpAny (model X.prog X.w) X.A (call (.builtin "sorted") [.ref l] [(Str.ofString "key", .ref f)]) Q E s := by
  obtain ⟨vs, rv, hz, T, hT, pl⟩ := sq_at I hl
  have hlv := rv.length
  have hZ : vs.length ≤ sizeLine := by omega
  have hZ2 := hZ
  rw [sizeLine_eq] at hZ2
  refine call_function_entry_kw kind_sorted plain_sorted entry_sorted (PyProof.Rows.ksk_s1 _ _) ?_
  unfold Builtin.«sorted»
  refine wpAny_bind (m := checkCount "sorted" 1 1 _) (wpAny_pure ?_)
  refine wpAny_bind (collect_seq pl hT ?_ (by rw [sizeLine_eq]; omega))
  refine wpAny_bind (wpAny_newList ?_ (by rw [sizeLine_eq]; omega))
  have hsz : ((s.heap.push (seqObj "list" #[] 0)).update s.heap.objs.size (Obj.mapSeq (· ++ vs.toArray))).objs.size = s.heap.objs.size + 1 := by
    rw [Heap.size_update, size_push']
  have hoL : (((s.heap.push (seqObj "list" #[] 0)).update s.heap.objs.size (Obj.mapSeq (· ++ vs.toArray))).push (seqObj "list" vs.toArray 0)).get? (s.heap.objs.size + 1) = some (seqObj "list" vs.toArray 0) := by
    rw [← hsz]; exact Heap.get?_push_size _ rfl
  have keep : ∀ b o, s.heap.get? b = some o → (((s.heap.push (seqObj "list" #[] 0)).update s.heap.objs.size (Obj.mapSeq (· ++ vs.toArray))).push (seqObj "list" vs.toArray 0)).get? b = some o := fun b o q => by
    have hlt : b < s.heap.objs.size := Heap.lt_size q
    rw [Heap.get?_push_ne _ _ _ (by rw [hsz]; exact Nat.ne_of_lt (Nat.lt_succ_of_lt hlt)), Heap.get?_update_ne _ _ _ _ (Nat.ne_of_lt hlt), Heap.get?_push_ne _ _ _ (Nat.ne_of_lt hlt)]
    exact q
  have szA : (((s.heap.push (seqObj "list" #[] 0)).update s.heap.objs.size (Obj.mapSeq (· ++ vs.toArray))).push (seqObj "list" vs.toArray 0)).objs.size = s.heap.objs.size + 2 := by rw [size_push', hsz]
  generalize (((s.heap.push (seqObj "list" #[] 0)).update s.heap.objs.size (Obj.mapSeq (· ++ vs.toArray))).push (seqObj "list" vs.toArray 0)) = hA at hoL keep szA
  show wpAny _ _ _ _ _ { s with heap := hA }
  rw [hsz]
  refine wpAny_bind (wpAny_holding (wpAny_call_entry_kw slot_list_sort ⟨_, hoL, rfl⟩ entry_list_sort ?body (PyProof.Rows.ksk_l1 _ _)))
  case body =>
    show wpAny (model X.prog X.w) X.A.in1.in1 (Builtin.«list.sort» ⟨[.ref (s.heap.objs.size + 1)], [(Str.ofString "key", .ref f)]⟩) _ _ _
    rw [PyProof.Rows.ksk_t1]
    -- the sort's own lists
    have s1 := Heap.SameBut.update hA (s.heap.objs.size + 1) (Obj.mapSeq fun _ => (#[] : Array Value))
    obtain ⟨e1, ho1⟩ : ∃ e1, (hA.update (s.heap.objs.size + 1) (Obj.mapSeq fun _ => (#[] : Array Value))).get? (s.heap.objs.size + 1) = some (seqObj "list" #[] e1) := ⟨_, get?_update_seq hoL fun _ => #[]⟩
    have keep2 : ∀ b o, s.heap.get? b = some o → (((hA.update (s.heap.objs.size + 1) (Obj.mapSeq fun _ => (#[] : Array Value))).push (seqObj "tuple" vs.toArray 0)).push (seqObj "list" #[] 0)).get? b = some o := fun b o q => by
      have hlt : b < s.heap.objs.size := Heap.lt_size q
      exact Heap.get?_push_of_some _ (Heap.get?_push_of_some _ ((s1.2 b (Nat.ne_of_lt (Nat.lt_succ_of_lt hlt))).trans (keep b o q)))
    have hkS : ((hA.update (s.heap.objs.size + 1) (Obj.mapSeq fun _ => (#[] : Array Value))).push (seqObj "tuple" vs.toArray 0)).objs.size = s.heap.objs.size + 3 := by rw [size_push', Heap.size_update, szA]
    have ltp : ∀ p ∈ X.pn ++ pins, p.1 < s.heap.objs.size := fun p hp => Heap.lt_size (I.pin p hp).1
    unfold ksk_tree
    refine wpAny_bind (listItems_at hoL rfl ?_)
    refine wpAny_bind (listUpdate_at hoL rfl ?_ (by rw [List.size_toArray, sizeLine_eq]; omega) (Nat.zero_le _))
    refine wpAny_bind (seqEpoch_at ho1 rfl ?_)
    refine wpAny_bind (wpAny_newTuple ?_ (by show vs.length ≤ _; rw [sizeLine_eq]; omega))
    refine wpAny_bind (wpAny_newList ?_ (Nat.zero_le _))
    refine wpAny_holding ?_
    have O : Own2 X pins (s.heap.objs.size + 1) (s.heap.objs.size + 3) := ⟨Nat.le_trans I.sz (Nat.le_add_right _ _), Nat.le_trans I.sz (Nat.le_add_right _ _), Nat.ne_of_gt (Nat.add_lt_add_left (by decide : 1 < 3) s.heap.objs.size), fun p hp => Nat.ne_of_lt (Nat.lt_of_lt_of_le (ltp p hp) (Nat.le_add_right _ _)), fun p hp => Nat.ne_of_lt (Nat.lt_of_lt_of_le (ltp p hp) (Nat.le_add_right _ _))⟩
    have Ia : Inv X ((s.heap.objs.size + 1, seqObj "list" #[] e1) :: pins) σ H { s with heap := ((hA.update (s.heap.objs.size + 1) (Obj.mapSeq fun _ => (#[] : Array Value))).push (seqObj "tuple" vs.toArray 0)).push (seqObj "list" #[] 0) } :=
      ClX.pin_new (t' := s.toks) I keep2 (Nat.le_succ _) (Heap.get?_push_of_some _ (Heap.get?_push_of_some _ ho1)) (noCell _ _)
    have Ik : Inv X ((s.heap.objs.size + 3, seqObj "list" #[] 0) :: (s.heap.objs.size + 1, seqObj "list" #[] e1) :: pins) σ H { s with heap := ((hA.update (s.heap.objs.size + 1) (Obj.mapSeq fun _ => (#[] : Array Value))).push (seqObj "tuple" vs.toArray 0)).push (seqObj "list" #[] 0) } := by
      refine Ia.pins_of fun p hp => ?_
      rcases List.mem_cons.mp hp with e | e
      · subst e
        refine ⟨?_, I.hok.fresh (Nat.le_add_right s.heap.objs.size 3), Nat.ne_of_gt (Nat.lt_of_lt_of_le I.lt (Nat.le_add_right s.heap.objs.size 3)), I.nofs (Nat.le_add_right s.heap.objs.size 3), noCell _ _⟩
        show Heap.get? _ (s.heap.objs.size + 3) = _
        rw [← hkS]
        exact Heap.get?_push_size _ rfl
      · exact Ia.pin p (List.mem_append_right _ e)
    rw [hkS]
    refine key_rest (R := R) O Ik hR rv (by omega) hZ turn fun s2 H2 out c I2 hR2 k2 => ⟨_, rfl, ?_⟩
    refine wpAny_pure ⟨_, rfl, ?_⟩
    obtain ⟨ys, ry, ky⟩ := keyd_vals rv hlen k2
    have hD : H2 (s.heap.objs.size + 1) = none := ClX.pin_un I2
    have ly : ys.length = xs.length := by
      obtain ⟨ps, pm, _, e⟩ := ky
      rw [e, List.length_map, pm.length_eq, List.length_zip, hlen, Nat.min_self]
    refine h _ s2 H2 ys (track I2 O.sa O.pa ⟨by omega, out.toList, c, ry, ?_⟩) hD hR2 ky
    have := ClX.pin_at I2
    simpa using this
end
end JW
namespace JW
open PySem PySem.Spec PyProof.Rows L2 LamX
theorem lam_run {P : Program} {w : World} {K : PySem.W.Frag} {mg : Str → Option Value} {base : Heap} {CX : CXT} {N ps : List Str} {k : Nat} {nm qual : Str} {params : Arguments} {body : Expr} {scope : Scope} {f c' : Addr} {pm ctv : Value} {A : Around} {outer : List Env} {s : Shared} {H : Hp} {Q : VK} {E : XK}
    {us : List Value} {vs : List V} {t : TE} (ho : s.heap.get? f = some (PySem.W.kla_obj nm qual params body scope [] pm c' ctv)) (hcd : s.heap.CodeRec (.ref c') qual) (S : FnScope N ps scope) (hr : Room (k + 1) A) (e0 : Env0 P w K mg base A outer s H)
    (hb : BindsTo s (PySem.W.kla_fn nm qual params body scope [] pm (.ref c') ctv) ⟨us, []⟩ (ps.zip us)) (hl : vs.length = ps.length) (r : Vals vs us)
    (hbody : PE (cxOf CX P w K mg base N qual scope f (.ref c') A outer s H E).nox body t) (h : t (start N vs) H Q) :
    codeAny (model P w) A (.call (.ref f) ⟨us, []⟩) (CR CX outer P w H s Q E) s := by
  have lim : s.heap.NoLimit := e0.mod.nolimit.keeps fun b o e => (e0.bs b o e).1
  have hkind : ∀ y ∈ ps.zip us, scope.names.lookup y.1 = some .local ∨ (scope.names.lookup y.1 = some .cell ∧ ((cellsFrom (s.heap.objs.size + 1) scope.names []).lookup y.1).isSome = true) := fun ⟨n, v⟩ hy => by
    rcases S.par n (List.of_mem_zip hy).1 with q | q
    · exact .inl q
    · exact .inr ⟨q, PySem.W.cellsFrom_some _ _ _ (.inl q)⟩
  refine PySem.W.kla_callFunE hr.depth ho rfl S.co S.gen rfl hcd (hb _ _ _ _ ?_)
  refine wpAny_newFunctionEnv_cells S.kind hkind fun env he s1 x => ?_
  subst he
  refine ⟨lim.keeps x.toInCall.keep, ?_⟩
  have I : Inv (cxOf CX P w K mg base N qual scope f (.ref c') A outer s H E) [] (start N vs) H s1 := inv_start S hr.hd e0 hl r x
  refine PySem.W.kla_codeExpr (wpAny_mono (hbody.nox.run [] s1 (start N vs) H Q I h) (fun v s' hq => ?_) fun e s' hs => hs)
  obtain ⟨v', H', J, rv, q⟩ := hq
  exact ⟨v', H', J.os, J.bare, J.base, J.hok, rv, q⟩
def tSortKey (K : PySem.W.Frag) (T : List (Addr × Str)) (te : TE) (N : List Str) (tb : TE) : TE := fun σ H Q => te σ H fun x H1 => ∃ (l : Addr) (xs : List V) (zs : List Str), x = .ref l ∧ Sq K H1 l xs ∧ zs.length = xs.length ∧ Tabs T H1 ∧
  ∀ H2, ExtN H1 H2 → Tabs T H2 → ∃ R : Hp → Prop, R H2 ∧ (∀ H', R H' → ExtN H2 H') ∧
    (∀ (i : Nat) (x : V) (z : Str), xs[i]? = some x → zs[i]? = some z → ∀ H', R H' → tb (start N [x]) H' fun v H3 => v = .str z ∧ R H3) ∧
    ∀ (D : Addr) (H' : Hp) (ys : List V), R H' → H' D = none → KeydV zs xs ys → Q (.ref D) (upd H' D (.lst ys))
section
variable {X : Cx} {e : Expr} {te tb : TE} {T : List (Addr × Str)} {c P : Addr} {params : Arguments} {body : Expr} {scope : Scope} {p pos lpos kpos : Pos} {N : List Str} {y : Str} {k : Nat}
theorem pe_sortedKey (he : PE X e te) (hg : Gl X "sorted") (hm : X.mg "sorted" = none) (TB : TabB X.base X.mg c P) (hcode : X.env.code = .ref c) (hT : (P, X.env.qual ++ "<lambda>") ∈ T) (hu : ∀ q ∈ T, q.1 = P → q.2 = X.env.qual ++ "<lambda>") (hr : Room (k + 3) X.A)
    (S : FnScope N [y] scope) (hbd : ∀ (q : Str) (pm cdv ctv u : Value), bindArgs (PySem.W.kla_fn "<lambda>" q params body scope [] pm cdv ctv) ⟨[u], []⟩ = pure [(y, u)])
    (hbody : ∀ (A : Around) (outer : List Env) (s : Shared) (H : Hp) (f : Addr) (cd : Value), Room k (A.deeper (envOfC (X.env.qual ++ "<lambda>") scope s.heap.objs.size f cd)) → PE (cxOf CX0 X.prog X.w X.K X.mg X.base N (X.env.qual ++ "<lambda>") scope f cd A outer s H E0).nox body tb)
    (hdef : defaultsOf params X.env = ([], []) := by rfl) (hclo : cloFrom X.env.cells scope.names [] = [] := by rfl)
    (hst : backTo pos (starEach [e] X.env) = [(false, eval e X.env)] := by rfl) : PE X (.Call (.Name "sorted" p) [e] [⟨some "key", .Lambda params body scope lpos, kpos⟩] pos) (tSortKey X.K T te N tb) := by
  refine ⟨fun pins s σ H Q I h => ?_⟩
  have hfree : ∀ y ∈ scope.names, y.2 = .free → ∃ c, X.env.cells.lookup y.1 = some c := fun y hy e => absurd e (S.nofree y hy)
  refine wpAny_Call_Name_kw (ld_blt I hg hm (by decide +kernel : bootBuiltins "sorted" = some (.builtin "sorted")) ?_ (by decide) (by decide))
  refine PyProof.Rows.callWith_kw (e := e) (rest := []) ?_ hst (by rw [hst]; rfl) (by rfl) (by rfl)
  rw [hst]
  refine Calls.spliced_cons (thn (he.run pins s σ H _ I h) fun u s1 ⟨x, H1, I1, r1, q1⟩ => Calls.spliced_nil ?_)
  obtain ⟨l, xs, zs, rfl, hl, hlen, hTb, q⟩ := q1
  cases r1
  show wpAny _ _ (evalAll [(do let v ← eval (.Lambda params body scope lpos) X.env; standAt pos; pure v)]) _ _ s1
  refine wpAny_evalAll_cons (wpAny_bind ?_)
  refine LamX.lam_make2 I1 TB hcode hT hu hTb hdef hfree fun f c' pm ctv H2 s2 I2 hE hTb2 hf hfn hfr hco => ?_
  rw [hclo] at hf
  refine wpAny_bind (wpAny_standAt (wpAny_pure (wpAny_evalAll_nil ?_)))
  show wpAny (model X.prog X.w) X.A (call (.builtin "sorted") [.ref l] [(Str.ofString "key", .ref f)]) _ _ _
  have fne : f ≠ X.env.locals := fun z => by
    obtain ⟨m, ⟨o, es, ep, ho, hd, _⟩, _⟩ := I2.loc
    rw [← z, hf] at ho
    cases ho
    cases hd
  have ffs : f ∉ X.fs := fun z => hfr (by
    rcases I2.ok.stk with e | ⟨e, _⟩
    · rw [e]
      exact z
    · rw [e]
      obtain ⟨o, ho, he'⟩ := List.mem_filterMap.mp z
      exact List.mem_filterMap.mpr ⟨o, List.mem_cons_of_mem _ ho, he'⟩)
  have I3 : Inv X ((f, PySem.W.kla_obj "<lambda>" (X.env.qual ++ "<lambda>") params body scope [] pm c' ctv) :: pins) σ H2 s2 := by
    refine I2.pins_of fun p hp => ?_
    rcases List.mem_cons.mp hp with e | e
    · subst e
      exact ⟨hf, hfn, fne, ffs, fun v z => by cases z⟩
    · exact I2.pin p (List.mem_append_right _ e)
  obtain ⟨R, hR, hRE, turn, fin⟩ := q H2 hE hTb2
  have hl2 : Sq X.K H2 l xs := by
    rcases hl with ((h | ⟨o, h⟩) | h) | ((h | ⟨o, h⟩) | h)
    · exact .inl (.inl (.inl (hE _ _ h fun ps z => by cases z)))
    · exact .inl (.inl (.inr ⟨o, hE _ _ h fun ps z => by cases z⟩))
    · exact .inl (.inr h)
    · exact .inr (.inl (.inl (hE _ _ h fun ps z => by cases z)))
    · exact .inr (.inl (.inr ⟨o, hE _ _ h fun ps z => by cases z⟩))
    · exact .inr (.inr h)
  refine sorted_key (R := R) I3 hR hl2 hlen (fun i x z hx hz pn s' H' u I' hR' rx => ?_) fun D s' H' ys I' hD hR' ky => ⟨.ref D, _, ClX.unpin I', rfl, fin D H' ys hR' hD ky⟩
  have hf' : s'.heap.get? f = some (PySem.W.kla_obj "<lambda>" (X.env.qual ++ "<lambda>") params body scope [] pm c' ctv) := (I'.pin (f, _) (List.mem_append_right _ (List.mem_append_right _ List.mem_cons_self))).1
  have hco' := hRE H' hR' c' _ hco LamX.codeO_ne
  obtain ⟨⟨oc, vs, t, hoc, hdc, hvc⟩, _, _⟩ := I'.hok c' _ hco'
  have hbi : BindsTo s' (PySem.W.kla_fn "<lambda>" (X.env.qual ++ "<lambda>") params body scope [] pm (.ref c') ctv) ⟨[u], []⟩ ([y].zip [u]) := .of_eq (hbd _ _ _ _ _)
  have hr2 : Room (k + 1) X.A.in1.in1 := hr.in1.in1
  refine wpAny_call (codeAny_mono (lam_run (CX := CX0) (E := E0) (N := N) hf' ⟨c', oc, vs, t, rfl, hoc, hdc, hvc⟩ S hr2 I'.env0.in1.in1 hbi rfl (.cons rx .nil) (hbody _ _ s' H' f _ (hr2.deeper _)) (turn i x z hx hz H' hR')) fun r s'' hq => ?_)
  cases r with
  | error er => exact False.elim hq
  | ok fl =>
    cases fl with
    | ret w' => exact I'.after hq
    | next => exact False.elim hq
    | brk => exact False.elim hq
    | cont => exact False.elim hq
end
end JW
namespace JW
open PySem PySem.Spec PyProof.Rows L2
theorem ints_reads {h : Heap} : ∀ {ns : List Int} {us : List Value}, Vals (ns.map V.int) us → ReadsAll h us (ns.map PyData.int) []
  | [], us, r => by
    cases r
    exact .nil
  | n :: ns, us, r => by
    rw [List.map_cons] at r
    cases r with
    | cons r1 r2 =>
      obtain ⟨t, rfl⟩ := r1
      exact ReadsAll.cons (as := []) (bs := []) (.int n t) (ints_reads r2)
theorem ints_alike (ns : List Int) : PySem.W.AlikeAll (ns.map PyData.int) := ⟨fun x hx y hy => by
  obtain ⟨i, _, rfl⟩ := List.mem_map.mp hx
  obtain ⟨j, _, rfl⟩ := List.mem_map.mp hy
  rfl, fun x hx => by
  obtain ⟨i, _, rfl⟩ := List.mem_map.mp hx
  exact fun z => by cases z⟩
theorem ints_depth : ∀ ns : List Int, PyData.depthAll (ns.map PyData.int) = 0
  | [] => rfl
  | n :: r => by
    rw [List.map_cons]
    show max (PyData.depth (.int n)) (PyData.depthAll (r.map PyData.int)) = 0
    rw [ints_depth r]
    rfl
def rMaxDf (K : PySem.W.Frag) : List V → List V → Hp → VK → Prop := fun vs zs H Q => ∃ (a : Addr) (ns : List Int) (d : Int), vs = [V.ref a] ∧ zs = [.int d] ∧ SqL K H a (ns.map V.int) ∧
  ∀ m : Int, ((ns = [] ∧ m = d) ∨ ∃ n r, ns = n :: r ∧ m = r.foldl max n) → Q (.int m) H
theorem cr_maxDf {X : Cx} (hc : X.calm = true) (hu : X.A.units + 1 < cLine) : CallRK X (.builtin "max") [Str.ofString "default"] (rMaxDf X.K) := by
  intro pins s σ H vs zs us ws Q I r rz h
  obtain ⟨a, ns, d, rfl, rfl, hs, q⟩ := h
  obtain ⟨its, rv, hl, _⟩ := I.list hs
  rw [Vals.ref1 r]
  obtain ⟨w1, rfl, rd⟩ := vals1 rz
  refine PySem.W.max_list_default (vs := its.toArray) (I.ok.hd hc) hl.isList (xs := ns.map PyData.int) (as := []) (ints_reads rv) (ints_alike ns) (by rw [ints_depth]; exact hu) (fun hn h' tk hk => ?_) fun y ys i v h' tk bs he hv hr hk => ?_
  · exact ⟨.int d, H, I.kept hk, rd, q d (.inl ⟨List.map_eq_nil_iff.mp hn, rfl⟩)⟩
  · cases ns with
    | nil => cases he
    | cons n r =>
      rw [List.map_cons] at he
      injection he with e1 e2
      subst e1
      subst e2
      rw [PySem.W.maxD_ints] at hr
      cases hr with
      | int _ t => exact ⟨.int _, H, I.kept hk, ⟨t, rfl⟩, q _ (.inr ⟨n, r, rfl, rfl⟩)⟩
end JW
namespace JW
open PySem PySem.Spec PyProof.Rows L2
theorem draws_str {prog : Program} {w : World} {A : Around} (hh : A.handled = none) (it : Addr) (x : Str) (t : Tok) :
    Draws prog w A it [it] x.cps.size (fun i v => ∃ c u, x.cps[i]? = some c ∧ v = .str ⟨#[c]⟩ u) (fun i h => h.IsStrIter it (strIterType x) x t i) := by
  cases ha : x.cps.all (· < 128)
  · have e : strIterType x = "str_iterator" := by simp [strIterType, ha]
    rw [e]
    exact Draws.strWide hh it x t
  · have e : strIterType x = "str_ascii_iterator" := by simp [strIterType, ha]
    rw [e]
    exact Draws.strAscii hh it x t
def Ites (x : Str) : It :=
  ⟨fun i _ => i < x.cps.size, fun i H v H' => ∃ T c, v = .ref T ∧ H T = none ∧ H' = upd H T (.tup [.int (i : Nat), .str ⟨#[c]⟩]) ∧ x.cps[i]? = some c, fun i _ => i = x.cps.size⟩
theorem turn_enumS {P : Program} {w : World} {K : PySem.W.Frag} {elts : List Expr} {kk : Nat} {tpos : Pos} (x : Str) (t : Tok) (e it : Addr) :
    Turn P w K (.Tuple elts kk tpos) (Ites x) [e, it] e (fun i h => (∃ old, IsEnum h e it ((i : Nat) : Int) old) ∧ h.IsStrIter it (strIterType x) x t i ∧ e ≠ it) where
  mem := by simp
  obj := fun i h st b hb => by
    obtain ⟨⟨old, he⟩, ⟨o, ho, hc, hd⟩, _⟩ := st
    have e' : b = e ∨ b = it := by simpa using hb
    rcases e' with z | z
    · rw [z]; exact ⟨_, he, fun v q => nomatch q⟩
    · rw [z]; exact ⟨o, ho, fun v q => by rw [hd] at q; cases q⟩
  keep := fun i h h' st k => by
    obtain ⟨⟨old, he⟩, ⟨o, ho, r⟩, hne⟩ := st
    exact ⟨⟨old, k e (by simp) _ he⟩, ⟨o, k it (by simp) o ho, r⟩, hne⟩
  item := by
    intro X hP hw hK hc i pins s σ H E I hf st hg
    subst hP hw hK
    obtain ⟨⟨old, he⟩, hit, hne⟩ := st
    have hlt : i < x.cps.size := hg
    have hel : e < s.heap.objs.size := Heap.lt_size he
    have hil : it < s.heap.objs.size := by obtain ⟨_, q, _⟩ := hit; exact Heap.lt_size q
    refine wpAny_pyNext_enum_itemD (draws_str (A := X.A.in1) (I.ok.hd hc) it x t) he hit hlt hne (by simpa using hne) fun y h' tk hy ho hit' hT hsz hk => ?_
    obtain ⟨c, u, hcx, rfl⟩ := hy
    refine ⟨_, rfl, wpAny_letOwnedTupleGo_enum (s := { s with heap := h', toks := tk + 1 }) ho fun h'' he' sb => ?_⟩
    have hT2 : h''.get? s.heap.objs.size = some { cls := .type "tuple", data := .seq #[.int i tk, .str ⟨#[c]⟩ u] } := (sb.2 _ (Nat.ne_of_gt hel)).trans hT
    have new : ObjOk X.prog X.w (upd H s.heap.objs.size (.tup [.int (i : Nat), .str ⟨#[c]⟩])) h'' s.heap.objs.size (.tup [.int (i : Nat), .str ⟨#[c]⟩]) :=
      ⟨by show 2 ≤ sizeLine; decide, [.int i tk, .str ⟨#[c]⟩ u], .cons ⟨_, rfl⟩ (.cons ⟨_, rfl⟩ .nil), ⟨_, hT2, rfl, _, rfl⟩⟩
    have I1 : Inv X pins σ (upd H s.heap.objs.size (.tup [.int (i : Nat), .str ⟨#[c]⟩])) { s with heap := h'', toks := tk + 1 } :=
      I.turnedNew (ch := [e, it]) (fun b ob hb q => (sb.2 b (fun z => hb (by simp [z]))).trans (hk b ob (fun z => hb (by simp [z])) (fun z => hb (by simp [z])) q)) hf (Nat.le_refl _) new
    refine ⟨.ref s.heap.objs.size, _, I1, rfl, ⟨_, c, rfl, I.hok.fresh (Nat.le_refl _), rfl, hcx⟩, ⟨⟨.str ⟨#[c]⟩ u, ?_⟩, ?_, hne⟩, fun b hb => ?_⟩
    · have e1 : ((i + 1 : Nat) : Int) = (i : Int) + 1 := by omega
      rw [e1]; exact he'
    · obtain ⟨o, q, r⟩ := hit'
      exact ⟨o, (sb.2 it (Ne.symm hne)).trans q, r⟩
    · have hb' : b < s.heap.objs.size := by
        have e' : b = e ∨ b = it := by simpa using hb
        rcases e' with z | z
        · rw [z]; exact hel
        · rw [z]; exact hil
      rw [upd_ne (Nat.ne_of_lt hb')]
      exact (hf b hb).1
  done := by
    intro X hP hw hK hc i pins s σ H E I hf st hg
    subst hP hw hK
    obtain ⟨⟨old, he⟩, hit, hne⟩ := st
    have hge : i = x.cps.size := hg
    subst hge
    obtain ⟨f0, f1, f2, f3, f4, f5⟩ := hf it (by simp)
    refine wpAny_pyNext_enum_endD (draws_str (A := X.A.in1) (I.ok.hd hc) it x t) he hit fun h' eb => ⟨rfl, I.turned (t' := s.toks) (fun b o hb q => eb b o hb q) f0 f1 f3 f4 f5⟩
  self := fun A i s Q E st h => let ⟨⟨_, he⟩, _⟩ := st; wpAny_pyIter_enum he h
def iEnumS (ta : TA) : TI := fun σ H R => ta σ H fun vs H1 => ∃ x, vs = [.str x] ∧ R (Ites x) H1
theorem pi_enumS {X : Cx} {e : Expr} {ta : TA} {p pos tpos : Pos} {elts : List Expr} {kk : Nat} (hg : Gl X "enumerate") (hm : X.mg "enumerate" = none) (ha : PA X [e] ta) (hs : starEach [e] X.env = [(false, eval e X.env)] := by rfl) :
    PI X (.Tuple elts kk tpos) (.Call (.Name "enumerate" p) [e] [] pos) (iEnumS ta) := by
  refine ⟨fun pins s σ H R I h => ?_⟩
  refine Call_ (ld_blt I hg hm boot_enumerate (PyProof.Rows.callWith_type1 (thn (ha.run pos pins s σ H _ I h) fun us s1 ⟨vs, H1, I1, r1, q1⟩ => ?_) hs rfl))
  obtain ⟨x, ex, q⟩ := q1
  subst ex
  cases r1 with
  | cons r rr =>
    cases rr
    obtain ⟨t, rfl⟩ := r
    refine call_enumerate_str fun h' he hit hsz hk => wpAny_pyIter_enum he ?_
    have I2 : Inv X pins σ H1 { s1 with heap := h' } := I1.kept (t' := s1.toks) hk
    refine ⟨s1.heap.objs.size + 1, [s1.heap.objs.size + 1, s1.heap.objs.size], _, _, H1, rfl, I2, turn_enumS x t (s1.heap.objs.size + 1) s1.heap.objs.size, ⟨⟨.none, he⟩, hit, Nat.succ_ne_self _⟩, fun b hb => ?_, q⟩
    have e' : b = s1.heap.objs.size + 1 ∨ b = s1.heap.objs.size := by simpa using hb
    have hle : s1.heap.objs.size ≤ b := by
      rcases e' with z | z
      · rw [z]; exact Nat.le_add_right _ _
      · rw [z]; exact Nat.le_refl _
    exact I1.fpOk hle (I1.hok.fresh hle)
theorem for_enumS {x : Str} {g : TG} {tb : TS} {D : Ends} {σ : L2.St} {H : Hp} (Pv : Nat → L2.St → Hp → Prop) (h0 : Pv 0 σ H)
    (hs : ∀ i c σ H T, x.cps[i]? = some c → Pv i σ H → H T = none → g (.ref T) σ (upd H T (.tup [.int (i : Nat), .str ⟨#[c]⟩])) fun σ2 H2 => tb { D with nx := Pv (i + 1), ct := Pv (i + 1), bk := D.nx } σ2 H2) (hd : ∀ σ H, Pv x.cps.size σ H → D.nx σ H) :
    ∃ W : Nat → Nat → L2.St → Hp → Prop, (∃ m, W 0 m σ H) ∧ ∀ i m σ H, W i m σ H →
      ((Ites x).stop i H ∧ D.nx σ H) ∨ ((Ites x).go i H ∧ ∃ N : L2.St → Hp → Prop, (∀ σ' H', N σ' H' → ∃ m', m' < m ∧ W (i + 1) m' σ' H') ∧ ∀ v H', (Ites x).yld i H v H' → g v σ H' fun σ2 H2 => tb { D with nx := N, ct := N, bk := D.nx } σ2 H2) := by
  refine ⟨fun i m σ H => m = x.cps.size - i ∧ i ≤ x.cps.size ∧ Pv i σ H, ⟨x.cps.size, rfl, Nat.zero_le _, h0⟩, ?_⟩
  rintro i m σ H ⟨rfl, hi, p⟩
  by_cases hlt : i < x.cps.size
  · refine .inr ⟨hlt, Pv (i + 1), fun σ' H' p' => ⟨x.cps.size - (i + 1), by omega, rfl, hlt, p'⟩, fun v H' hy => ?_⟩
    obtain ⟨T, c, rfl, hT, rfl, hc⟩ := hy
    exact hs i c σ H T hc p hT
  · have e : i = x.cps.size := by omega
    subst e
    exact .inl ⟨rfl, hd σ H p⟩
end JW
namespace JW
open PySem PySem.Spec PyProof.Rows L2 LamX
abbrev cF (K : PySem.W.Frag) : Addr := He.ga K "Fountain"
def tx (t : T) : Str := ⟨t.codes.toArray⟩
theorem tx_inj {t u : T} (h : tx t = tx u) : t = u := codes_inj (by
  have e : t.codes.toArray = u.codes.toArray := congrArg Str.cps h
  exact congrArg Array.toList e)
theorem tx_jet : tx .jet = "o" := by decide +kernel
def T.kids : T → List T
  | .jet => []
  | .bas l => l
def nums (t : T) : List V := [.int (t.size : Nat), .int (t.jts : Nat), .int (t.dep : Nat), if t.jts = 0 then .non else .int (t.lng : Nat), if t.jts = 0 then .non else .int (t.sht : Nat)]
def flds (t : T) (b n : Addr) : List (Str × V) := [("written", .str (tx t)), ("branches", .ref b), ("numbers", .ref n)]
theorem fl_w {t : T} {b n : Addr} : (flds t b n).lookup ("written" : Str) = some (.str (tx t)) := by kernel_rfl
theorem fl_b {t : T} {b n : Addr} : (flds t b n).lookup ("branches" : Str) = some (.ref b) := by kernel_rfl
theorem fl_n {t : T} {b n : Addr} : (flds t b n).lookup ("numbers" : Str) = some (.ref n) := by kernel_rfl
theorem fl_put {t : T} {b n : Addr} : putF "numbers" (.ref n) (putF "branches" (.ref b) (putF "written" (.str (tx t)) [])) = flds t b n := by kernel_rfl
theorem fl_l1 {v : V} : (putF ("written" : Str) v []).length < 1000 := by
  have e : putF ("written" : Str) v [] = [(("written" : Str), v)] := by kernel_rfl
  rw [e]
  show 1 < 1000
  decide
theorem fl_l2 {v w : V} : (putF ("branches" : Str) w (putF ("written" : Str) v [])).length < 1000 := by
  have e : putF ("branches" : Str) w (putF ("written" : Str) v []) = [(("written" : Str), v), (("branches" : Str), w)] := by kernel_rfl
  rw [e]
  show 2 < 1000
  decide
mutual
def Ftn (C : Addr) (H : Hp) : T → V → Prop
  | .jet, v => ∃ a dx b n, v = .ref a ∧ H a = some (.ins C dx (flds .jet b n)) ∧ H b = some (.tup []) ∧ H n = some (.tup (nums .jet))
  | .bas l, v => ∃ a dx b n vs, v = .ref a ∧ H a = some (.ins C dx (flds (.bas l) b n)) ∧ H b = some (.tup vs) ∧ H n = some (.tup (nums (.bas l))) ∧ FtnL C H l vs
def FtnL (C : Addr) (H : Hp) : List T → List V → Prop
  | [], vs => vs = []
  | t :: ts, vs => ∃ v r, vs = v :: r ∧ Ftn C H t v ∧ FtnL C H ts r
end
section
variable {C : Addr} {H H' : Hp}
theorem ftn_iff {t : T} {v : V} : Ftn C H t v ↔ ∃ a dx b n vs, v = .ref a ∧ H a = some (.ins C dx (flds t b n)) ∧ H b = some (.tup vs) ∧ H n = some (.tup (nums t)) ∧ FtnL C H t.kids vs := by
  cases t with
  | jet =>
    constructor
    · intro h
      have h2 : ∃ a dx b n, v = .ref a ∧ H a = some (.ins C dx (flds .jet b n)) ∧ H b = some (.tup []) ∧ H n = some (.tup (nums .jet)) := h
      obtain ⟨a, dx, b, n, e, h1, h2, h3⟩ := h2
      exact ⟨a, dx, b, n, [], e, h1, h2, h3, rfl⟩
    · intro ⟨a, dx, b, n, vs, e, h1, h2, h3, h4⟩
      have e4 : vs = [] := h4
      subst e4
      exact ⟨a, dx, b, n, e, h1, h2, h3⟩
  | bas l => exact ⟨fun h => h, fun h => h⟩
theorem Same.extN (s : L2.Same H H') : ExtN H H' := ExtN.of s
mutual
theorem ftn_ext (e : ExtN H H') : ∀ (t : T) (v : V), Ftn C H t v → Ftn C H' t v
  | .jet, v, h => by
    have h2 : ∃ a dx b n, v = .ref a ∧ H a = some (.ins C dx (flds .jet b n)) ∧ H b = some (.tup []) ∧ H n = some (.tup (nums .jet)) := h
    obtain ⟨a, dx, b, n, ev, h1, h2, h3⟩ := h2
    exact ⟨a, dx, b, n, ev, e _ _ h1 (fun ps z => by cases z), e _ _ h2 (fun ps z => by cases z), e _ _ h3 (fun ps z => by cases z)⟩
  | .bas l, v, h => by
    have h2 : ∃ a dx b n vs, v = .ref a ∧ H a = some (.ins C dx (flds (.bas l) b n)) ∧ H b = some (.tup vs) ∧ H n = some (.tup (nums (.bas l))) ∧ FtnL C H l vs := h
    obtain ⟨a, dx, b, n, vs, ev, h1, h2, h3, h4⟩ := h2
    exact ⟨a, dx, b, n, vs, ev, e _ _ h1 (fun ps z => by cases z), e _ _ h2 (fun ps z => by cases z), e _ _ h3 (fun ps z => by cases z), ftnL_ext e l vs h4⟩
theorem ftnL_ext (e : ExtN H H') : ∀ (l : List T) (vs : List V), FtnL C H l vs → FtnL C H' l vs
  | [], vs, h => h
  | t :: ts, vs, h => by
    have h2 : ∃ v r, vs = v :: r ∧ Ftn C H t v ∧ FtnL C H ts r := h
    obtain ⟨v, r, ev, h1, h2⟩ := h2
    exact ⟨v, r, ev, ftn_ext e t v h1, ftnL_ext e ts r h2⟩
end
theorem Ftn.ext {t : T} {v : V} (h : Ftn C H t v) (e : ExtN H H') : Ftn C H' t v := ftn_ext e t v h
theorem FtnL.ext {l : List T} {vs : List V} (h : FtnL C H l vs) (e : ExtN H H') : FtnL C H' l vs := ftnL_ext e l vs h
theorem Ftn.same {t : T} {v : V} (h : Ftn C H t v) (e : L2.Same H H') : Ftn C H' t v := h.ext (.of e)
theorem FtnL.same {l : List T} {vs : List V} (h : FtnL C H l vs) (e : L2.Same H H') : FtnL C H' l vs := h.ext (.of e)
theorem FtnL.len : ∀ {l : List T} {vs : List V}, FtnL C H l vs → vs.length = l.length
  | [], vs, h => by
    have e : vs = [] := h
    rw [e] <;> rfl
  | t :: ts, vs, h => by
    obtain ⟨v, r, rfl, _, h2⟩ := (show ∃ v r, vs = v :: r ∧ Ftn C H t v ∧ FtnL C H ts r from h)
    rw [List.length_cons, List.length_cons, h2.len]
theorem FtnL.get : ∀ {l : List T} {vs : List V} {i : Nat} {v : V}, FtnL C H l vs → vs[i]? = some v → ∃ t, l[i]? = some t ∧ Ftn C H t v
  | [], vs, i, v, h, e => by
    have e2 : vs = [] := h
    rw [e2] at e
    simp at e
  | t :: ts, vs, i, v, h, e => by
    obtain ⟨u, r, rfl, h1, h2⟩ := (show ∃ v r, vs = v :: r ∧ Ftn C H t v ∧ FtnL C H ts r from h)
    cases i with
    | zero =>
      have e3 : u = v := by simpa using e
      exact ⟨t, rfl, e3 ▸ h1⟩
    | succ i =>
      obtain ⟨t', e1, e2⟩ := h2.get (i := i) (v := v) (by simpa using e)
      exact ⟨t', by simpa using e1, e2⟩
theorem FtnL.app : ∀ {l m : List T} {vs ws : List V}, FtnL C H l vs → FtnL C H m ws → FtnL C H (l ++ m) (vs ++ ws)
  | [], m, vs, ws, h, h' => by
    have e : vs = [] := h
    rw [e]
    exact h'
  | t :: ts, m, vs, ws, h, h' => by
    obtain ⟨u, r, rfl, h1, h2⟩ := (show ∃ v r, vs = v :: r ∧ Ftn C H t v ∧ FtnL C H ts r from h)
    exact ⟨u, r ++ ws, rfl, h1, h2.app h'⟩
theorem FtnL.one {t : T} {v : V} (h : Ftn C H t v) : FtnL C H [t] [v] := ⟨v, [], rfl, h, rfl⟩
theorem FtnL.zip : ∀ {l : List T} {vs : List V}, FtnL C H l vs → ∀ p ∈ (l.map tx).zip vs, ∃ t, p.1 = tx t ∧ Ftn C H t p.2
  | [], vs, _, p, hp => by
    rw [List.map_nil, List.zip_nil_left] at hp
    cases hp
  | t :: ts, vs, h, p, hp => by
    obtain ⟨u, r, rfl, h1, h2⟩ := (show ∃ v r, vs = v :: r ∧ Ftn C H t v ∧ FtnL C H ts r from h)
    rw [List.map_cons, List.zip_cons_cons] at hp
    rcases List.mem_cons.mp hp with e | e
    · exact ⟨t, by rw [e], by rw [e]; exact h1⟩
    · exact FtnL.zip h2 p e
theorem ftnL_sort {l : List T} {vs ys : List V} (h : FtnL C H l vs) (k : KeydV (l.map tx) vs ys) : FtnL C H (sortT l) ys := by
  obtain ⟨ps, pm, pw, rfl⟩ := k
  have hall : ∀ p ∈ ps, ∃ t, p.1 = tx t ∧ Ftn C H t p.2 := fun p hp => h.zip p (pm.mem_iff.mp hp)
  have go : ∀ ps : List (Str × V), (∀ p ∈ ps, ∃ t, p.1 = tx t ∧ Ftn C H t p.2) → ∃ us : List T, us.map tx = ps.map (·.1) ∧ FtnL C H us (ps.map (·.2)) := by
    intro ps
    induction ps with
    | nil => exact fun _ => ⟨[], rfl, rfl⟩
    | cons p r ih =>
      intro hp
      obtain ⟨us, e1, e2⟩ := ih fun q hq => hp q (List.mem_cons_of_mem _ hq)
      obtain ⟨t, e3, e4⟩ := hp p List.mem_cons_self
      exact ⟨t :: us, by rw [List.map_cons, List.map_cons, e1, e3], p.2, r.map (·.2), rfl, e4, e2⟩
  obtain ⟨us, e1, e2⟩ := go ps hall
  have hs : Srt us := by
    have q1 : (ps.map (·.1)).Pairwise (fun p q : Str => ¬ q.cps.toList < p.cps.toList) := List.pairwise_map.mpr pw
    rw [← e1] at q1
    refine (List.pairwise_map.mp q1).imp fun {a b} z => ?_
    unfold tle
    simp only [Bool.not_eq_true', decide_eq_false_iff_not]
    exact z
  have hfst : ((l.map tx).zip vs).map (·.1) = l.map tx := by
    rw [List.map_fst_zip]
    rw [List.length_map, h.len]
    exact Nat.le_refl _
  have hp : (us.map tx).Perm (l.map tx) := by
    rw [e1, ← hfst]
    exact pm.map _
  have un : ∃ g : Str → T, ∀ t, g (tx t) = t := by
    classical
    refine ⟨fun z => if e : ∃ t, tx t = z then e.choose else .jet, fun t => ?_⟩
    have e : ∃ u, tx u = tx t := ⟨t, rfl⟩
    show (if e : ∃ u, tx u = tx t then e.choose else T.jet) = t
    rw [dif_pos e]
    exact tx_inj e.choose_spec
  obtain ⟨g, hg⟩ := un
  have hp2 := hp.map g
  rw [List.map_map, List.map_map] at hp2
  have eid : (g ∘ tx) = id := funext hg
  rw [eid, List.map_id, List.map_id] at hp2
  rw [← sortT_eq hp2 hs]
  exact e2
end
structure ClsF (K : PySem.W.Frag) (mg : Str → Option Value) : Prop where
  g : mg "Fountain" = some (.ref (cF K))
  c : Cls K (cF K)
  nw : NoAttr K (cF K) "written"
  nb : NoAttr K (cF K) "branches"
  nn : NoAttr K (cF K) "numbers"
  hcl : PySem.W.findIn K (.ref (cF K)) "__class__" = some (some (.builtin "object.__class__"))
  hgs : PySem.W.specialIn K (.builtin "object.__class__") "__get__" = some (some (.builtin "getset_descriptor.__get__"))
  htk : PySem.W.takesIn K (.builtin "object.__class__") = some true
  hmro : PySem.W.mroIn K (cF K) (.type "object") = some true
  hne : PySem.W.findIn K (.ref (cF K)) "__ne__" = some (some (.builtin "object.__ne__"))
  hob : PySem.W.subIn K (.ref (cF K)) (.type "object") = some true
  sf : PySem.W.selfFirst K (cF K) = true
theorem ClsF.ty {K : PySem.W.Frag} {mg : Str → Option Value} (c : ClsF K mg) {H : Hp} {a dx : Addr} {fs : List (Str × V)} (e : H a = some (.ins (cF K) dx fs)) : TyX K H (.ref a) (.ref (cF K)) := .base (.ins e c.c c.hcl c.hgs c.htk c.hmro)
theorem isi_self {K : PySem.W.Frag} : PySem.W.kitOne K (.ref (cF K)) (.ref (cF K)) = some true := by
  unfold PySem.W.kitOne
  exact if_pos (by simp)
structure MakeD (P : Program) (w : World) (K : PySem.W.Frag) (mg : Str → Option Value) (base : Heap) (CX : CXT) (k : Nat) (x : Str) (C : Addr) (ps : List Str) (dvs : List V) (sp : Sp) : Prop where
  ex : ∃ f fd ds, mg x = some (.ref C) ∧ Mk K C f ∧ Binds K fd ps ds ∧ Vals dvs ds ∧ FnOk P w K mg base CX k f fd ps sp
structure InitAt (K : PySem.W.Frag) (mg : Str → Option Value) (x : Str) (C : Addr) (qual : Str) (st : Stmt) (dvs : List V) (ps : List Str) : Prop where
  ex : ∃ f fd, mg x = some (.ref C) ∧ Mk K C f ∧ FunD K "__init__" qual (defArgs st) (defBody st) (defScope st) dvs [] f fd ∧ ∀ j, j ≤ dvs.length → ∃ ds, Vals (dvs.drop j) ds ∧ Binds K fd ps ds
section
variable {P : Program} {w : World} {K : PySem.W.Frag} {mg : Str → Option Value} {base : Heap} {CX : CXT} {C : Addr} {x : Str}
theorem MakeD.mono {j k : Nat} {ps : List Str} {dvs : List V} {sp : Sp} (c : MakeD P w K mg base CX j x C ps dvs sp) (h : j ≤ k) : MakeD P w K mg base CX k x C ps dvs sp := by
  obtain ⟨f, fd, ds, h1, h2, h3, h4, F⟩ := c.ex
  exact ⟨f, fd, ds, h1, h2, h3, h4, F.mono h⟩
theorem InitAt.ok {qual : Str} {st : Stmt} {N ps : List Str} {k : Nat} {sp : Sp} {dvs : List V} (D : InitAt K mg x C qual st dvs ps) (j : Nat) (hj : j ≤ dvs.length) (S : FnScope N ps (defScope st)) (len : ∀ vs H Q E, sp vs H Q E → vs.length = ps.length)
    (hbody : ∀ (f : Addr) (cdv : Value) (A : Around) (outer : List Env) (s : Shared) (H : Hp) (vs : List V) (Q : VK) (E : XK), Room k (A.deeper (envOfC qual (defScope st) s.heap.objs.size f cdv)) → sp vs H Q E →
      ∃ t, PSs (cxOf CX P w K mg base N qual (defScope st) f cdv A outer s H E).nox (defBody st) t ∧ t { nx := fun _ H' => Q .non H', rt := Q } (start N vs) H) : MakeD P w K mg base CX (k + 1) x C ps (dvs.drop j) sp := by
  obtain ⟨f, fd, h1, h2, F, b⟩ := D.ex
  obtain ⟨ds, r, hb⟩ := b j hj
  exact ⟨f, fd, ds, h1, h2, hb, r, okF F S len fun cdv A outer s H vs Q E hr h => hbody f cdv A outer s H vs Q E hr h⟩
end
section
variable {X : Cx} {CX : CXT} {k : Nat} {C : Addr} {ps : List Str} {sp : Sp} {dvs : List V} {E : XK} {x : Str} {p pos : Pos} {e : Expr} {es : List Expr} {t : TA}
theorem pe_makeD (M : MakeD X.prog X.w X.K X.mg X.base CX k x C ps dvs sp) (hr : Room (k + 1) X.A) (hg : Gl X x) (hx : Passes CX X E) (ha : PA X (e :: es) t) (hdb : (x == ("__debug__" : Str)) = false := by decide)
    (he : starEach (e :: es) X.env = (false, eval e X.env) :: starEach es X.env := by rfl) (hpl : (backTo pos (starEach es X.env)).any (·.1) = false := by rfl) : PE X (.Call (.Name x p) (e :: es) [] pos) (tMake C sp dvs E t) := by
  obtain ⟨f, fd, ds, h1, h2, h3, h4, F⟩ := M.ex
  exact pe_make h2 F hr hg h1 h3 h4 hx ha hdb he hpl
end
theorem okC {P : Program} {w : World} {K : PySem.W.Frag} {mg : Str → Option Value} {base : Heap} {CX : CXT} {x qual : Str} {params : Arguments} {body : List Stmt} {scope : Scope} {kws : List (Str × V)} {fd : FuncData} {N ps : List Str} {k : Nat} {sp : Sp} {dvs : List V} {p : Str × Option Str}
    (F : FunD K x qual params body scope dvs kws (He.fAd K p) fd) (S : FnScope N ps scope) (len : ∀ vs H Q E, sp vs H Q E → vs.length = ps.length)
    (hbody : ∀ (A : Around) (outer : List Env) (s : Shared) (H : Hp) (vs : List V) (Q : VK) (E : XK), Room k (A.deeper (envOfC qual scope s.heap.objs.size (He.fAd K p) (.ref (He.codeOf K p)))) → sp vs H Q E →
      ∃ t, PSs (cxOf CX P w K mg base N qual scope (He.fAd K p) (.ref (He.codeOf K p)) A outer s H E).nox body t ∧ t { nx := fun _ H' => Q .non H', rt := Q } (start N vs) H) : FnOk P w K mg base CX (k + 1) (He.fAd K p) fd ps sp := by
  obtain ⟨oc, od, dV, kV, doc, pm, an, cdv, ct, osl, rfl, lk, hcd, _, _⟩ := F.ex
  obtain ⟨c, rfl⟩ := He.codeIn_ref hcd
  have ec : He.codeOf K p = c := He.codeOf_eq lk rfl
  subst ec
  exact fn_of lk hcd S len fun A outer s H vs Q E hr h => by
    obtain ⟨t, h, q⟩ := hbody A outer s H vs Q E hr h
    exact ⟨t, h.nox, q⟩
structure DefAtP (K : PySem.W.Frag) (mg : Str → Option Value) (x qual : Str) (st : Stmt) (ps : List Str) : Prop where
  g : mg x = some (.ref (He.fAd K (x, none)))
  f : ∃ fd, FunD K x qual (defArgs st) (defBody st) (defScope st) [] [] (He.fAd K (x, none)) fd ∧ Binds K fd ps []
theorem DefAtP.at {K : PySem.W.Frag} {mg : Str → Option Value} {x qual : Str} {st : Stmt} {ps : List Str} (d : DefAtP K mg x qual st ps) : DefAt K mg x qual st [] ps := by
  obtain ⟨fd, F, b⟩ := d.f
  exact ⟨_, fd, d.g, F, b⟩
theorem DefAtP.okC {P : Program} {w : World} {K : PySem.W.Frag} {mg : Str → Option Value} {base : Heap} {CX : CXT} {x qual : Str} {st : Stmt} {N ps : List Str} {k : Nat} {sp : Sp} (D : DefAtP K mg x qual st ps) (S : FnScope N ps (defScope st)) (len : ∀ vs H Q E, sp vs H Q E → vs.length = ps.length)
    (hbody : ∀ (A : Around) (outer : List Env) (s : Shared) (H : Hp) (vs : List V) (Q : VK) (E : XK), Room k (A.deeper (envOfC qual (defScope st) s.heap.objs.size (He.fAd K (x, none)) (.ref (He.codeOf K (x, none))))) → sp vs H Q E →
      ∃ t, PSs (cxOf CX P w K mg base N qual (defScope st) (He.fAd K (x, none)) (.ref (He.codeOf K (x, none))) A outer s H E).nox (defBody st) t ∧ t { nx := fun _ H' => Q .non H', rt := Q } (start N vs) H) : CallD P w K mg base CX (k + 1) x ps [] sp := by
  obtain ⟨fd, F, b⟩ := D.f
  exact ⟨_, fd, [], D.g, F.kp, b, .nil, JW.okC F S len hbody⟩
def spV (K : PySem.W.Frag) (f : T → V) : Sp := fun vs H Q _ => ∃ v t, vs = [v] ∧ Ftn (cF K) H t v ∧ Q (f t) H
theorem ev_prop {K : PySem.W.Frag} {f : T → V} {H : Hp} {t : T} {v : V} {Q : VK} {E : XK} (h : Ftn (cF K) H t v) (q : Q (f t) H) : ∃ a dx fs, v = .ref a ∧ H a = some (.ins (cF K) dx fs) ∧ spV K f (.ref a :: []) H Q E := by
  obtain ⟨a, dx, b, n, vs, rfl, h1, _⟩ := ftn_iff.mp h
  exact ⟨a, dx, _, rfl, h1, _, t, rfl, h, q⟩
def spKids (K : PySem.W.Frag) : Sp := fun vs H Q _ => ∃ v t, vs = [v] ∧ Ftn (cF K) H t v ∧ ∀ b xs, H b = some (.tup xs) → FtnL (cF K) H t.kids xs → Q (.ref b) H
theorem ev_kids {K : PySem.W.Frag} {H : Hp} {t : T} {v : V} {Q : VK} {E : XK} (h : Ftn (cF K) H t v) (q : ∀ b xs, H b = some (.tup xs) → FtnL (cF K) H t.kids xs → Q (.ref b) H) : ∃ a dx fs, v = .ref a ∧ H a = some (.ins (cF K) dx fs) ∧ spKids K (.ref a :: []) H Q E := by
  obtain ⟨a, dx, b, n, vs, rfl, h1, _⟩ := ftn_iff.mp h
  exact ⟨a, dx, _, rfl, h1, _, t, rfl, h, q⟩
theorem lc_eachL {K : PySem.W.Frag} {a : Addr} {xs ys : List V} {j : Nat} {te : TE} {σ : L2.St} {H1 : Hp} {D : Addr} {Qd : Hp → Prop} (hD : H1 D = none) (hl : SqL K H1 a xs) (hz : xs.length < sizeLine) (hy : ys.length = xs.length)
    (hw : ∀ x : V, wipe ((wipe σ [j]).set j (some x)) [j] = wipe σ [j]) (hs : ∀ (i : Nat) (x y : V) (H : Hp) (Q : VK), xs[i]? = some x → ys[i]? = some y → L2.Same H1 H → H D ≠ none → (∀ H', L2.Same H H' → Q y H') → te ((wipe σ [j]).set j (some x)) H Q)
    (hd : ∀ H, L2.Same H1 H → H D = some (.lst ys) → Qd H) : ∃ W : Nat → Nat → Hp → Prop, (∃ m, W 0 m (upd H1 D (.lst []))) ∧ ∀ i m H, W i m H →
      ((Itl K a).stop i H ∧ Qd H) ∨ ((Itl K a).go i H ∧ ∃ Nx : Hp → Prop, (∀ H', Nx H' → ∃ m', m' < m ∧ W (i + 1) m' H') ∧ ∀ x H', (Itl K a).yld i H x H' → gName j x (wipe σ [j]) H' fun σ2 H2 => wipe σ2 [j] = wipe σ [j] ∧ tYes σ2 H2 fun b H3 =>
        if b = true then te σ2 H3 fun y H4 => ∃ acc, H4 D = some (.lst acc) ∧ acc.length < sizeLine ∧ Nx (upd H4 D (.lst (acc ++ [y]))) else Nx H3) := by
  have slq : ∀ H, L2.Same H1 H → SqL K H a xs := fun H s => by
    rcases hl with (h | ⟨o, h⟩) | h
    · exact .inl (.inl (s _ _ h))
    · exact .inl (.inr ⟨o, s _ _ h⟩)
    · exact .inr h
  refine lc_list (fun i H => L2.Same H1 H ∧ H D = some (.lst (ys.take i))) ⟨L2.Same.new (L2.Same.refl H1) hD, by rw [upd_same, List.take_zero]⟩ (fun i H _ p => slq H p.1) (fun i x H hx p => ?_) fun H p => hd H p.1 (by rw [p.2, ← hy, List.take_length])
  have hi : i < xs.length := (List.getElem?_eq_some_iff.mp hx).1
  have hyi : ys[i]? = some ys[i] := List.getElem?_eq_getElem (by omega)
  refine ⟨hw x, ?_⟩
  show te _ H _
  refine hs i x ys[i] H _ hx hyi p.1 (by rw [p.2]; exact fun z => by cases z) fun H' s' => ⟨_, s' _ _ p.2, ?_, ?_, ?_⟩
  · rw [List.length_take]; omega
  · exact L2.Same.mine (p.1.trans s') hD
  · rw [upd_same, List.take_succ, hyi]
    rfl
theorem lc_eachT {K : PySem.W.Frag} {a : Addr} {xs ys : List V} {j : Nat} {te : TE} {σ : L2.St} {H1 : Hp} {D : Addr} {Qd : Hp → Prop} (hD : H1 D = none) (hl : SqT K H1 a xs) (hz : xs.length < sizeLine) (hy : ys.length = xs.length)
    (hw : ∀ x : V, wipe ((wipe σ [j]).set j (some x)) [j] = wipe σ [j]) (hs : ∀ (i : Nat) (x y : V) (H : Hp) (Q : VK), xs[i]? = some x → ys[i]? = some y → L2.Same H1 H → H D ≠ none → (∀ H', L2.Same H H' → Q y H') → te ((wipe σ [j]).set j (some x)) H Q)
    (hd : ∀ H, L2.Same H1 H → H D = some (.lst ys) → Qd H) : ∃ W : Nat → Nat → Hp → Prop, (∃ m, W 0 m (upd H1 D (.lst []))) ∧ ∀ i m H, W i m H →
      ((Itt K a).stop i H ∧ Qd H) ∨ ((Itt K a).go i H ∧ ∃ Nx : Hp → Prop, (∀ H', Nx H' → ∃ m', m' < m ∧ W (i + 1) m' H') ∧ ∀ x H', (Itt K a).yld i H x H' → gName j x (wipe σ [j]) H' fun σ2 H2 => wipe σ2 [j] = wipe σ [j] ∧ tYes σ2 H2 fun b H3 =>
        if b = true then te σ2 H3 fun y H4 => ∃ acc, H4 D = some (.lst acc) ∧ acc.length < sizeLine ∧ Nx (upd H4 D (.lst (acc ++ [y]))) else Nx H3) := by
  have slq : ∀ H, L2.Same H1 H → SqT K H a xs := fun H s => by
    rcases hl with (h | ⟨o, h⟩) | h
    · exact .inl (.inl (s _ _ h))
    · exact .inl (.inr ⟨o, s _ _ h⟩)
    · exact .inr h
  refine lc_tup (fun i H => L2.Same H1 H ∧ H D = some (.lst (ys.take i))) ⟨L2.Same.new (L2.Same.refl H1) hD, by rw [upd_same, List.take_zero]⟩ (fun i H _ p => slq H p.1) (fun i x H hx p => ?_) fun H p => hd H p.1 (by rw [p.2, ← hy, List.take_length])
  have hi : i < xs.length := (List.getElem?_eq_some_iff.mp hx).1
  have hyi : ys[i]? = some ys[i] := List.getElem?_eq_getElem (by omega)
  refine ⟨hw x, ?_⟩
  show te _ H _
  refine hs i x ys[i] H _ hx hyi p.1 (by rw [p.2]; exact fun z => by cases z) fun H' s' => ⟨_, s' _ _ p.2, ?_, ?_, ?_⟩
  · rw [List.length_take]; omega
  · exact L2.Same.mine (p.1.trans s') hD
  · rw [upd_same, List.take_succ, hyi]
    rfl
theorem lc_someT {K : PySem.W.Frag} {a : Addr} {xs : List V} {bs : List Bool} {j : Nat} {tt : TT} {te : TE} {σ : L2.St} {H1 : Hp} {D : Addr} {Qd : Hp → Prop} (hD : H1 D = none) (hl : SqT K H1 a xs) (hz : xs.length < sizeLine) (hy : bs.length = xs.length)
    (hw : ∀ x : V, wipe ((wipe σ [j]).set j (some x)) [j] = wipe σ [j]) (ht : ∀ (i : Nat) (x : V) (b : Bool) (H : Hp) (Q : Bool → Hp → Prop), xs[i]? = some x → bs[i]? = some b → L2.Same H1 H → (∀ H', L2.Same H H' → Q b H') → tt ((wipe σ [j]).set j (some x)) H Q)
    (hs : ∀ (i : Nat) (x : V) (H : Hp) (Q : VK), xs[i]? = some x → L2.Same H1 H → (∀ H', L2.Same H H' → Q x H') → te ((wipe σ [j]).set j (some x)) H Q)
    (hd : ∀ H, L2.Same H1 H → H D = some (.lst (((xs.zip bs).filter (·.2)).map (·.1))) → Qd H) : ∃ W : Nat → Nat → Hp → Prop, (∃ m, W 0 m (upd H1 D (.lst []))) ∧ ∀ i m H, W i m H →
      ((Itt K a).stop i H ∧ Qd H) ∨ ((Itt K a).go i H ∧ ∃ Nx : Hp → Prop, (∀ H', Nx H' → ∃ m', m' < m ∧ W (i + 1) m' H') ∧ ∀ x H', (Itt K a).yld i H x H' → gName j x (wipe σ [j]) H' fun σ2 H2 => wipe σ2 [j] = wipe σ [j] ∧ tt σ2 H2 fun b H3 =>
        if b = true then te σ2 H3 fun y H4 => ∃ acc, H4 D = some (.lst acc) ∧ acc.length < sizeLine ∧ Nx (upd H4 D (.lst (acc ++ [y]))) else Nx H3) := by
  have slq : ∀ H, L2.Same H1 H → SqT K H a xs := fun H s => by
    rcases hl with (h | ⟨o, h⟩) | h
    · exact .inl (.inl (s _ _ h))
    · exact .inl (.inr ⟨o, s _ _ h⟩)
    · exact .inr h
  have hzl : (xs.zip bs).length = xs.length := by rw [List.length_zip, hy, Nat.min_self]
  refine lc_tup (fun i H => L2.Same H1 H ∧ H D = some (.lst ((((xs.zip bs).take i).filter (·.2)).map (·.1)))) ⟨L2.Same.new (L2.Same.refl H1) hD, by rw [upd_same, List.take_zero]; rfl⟩ (fun i H _ p => slq H p.1) (fun i x H hx p => ?_) fun H p => hd H p.1 (by rw [p.2, ← hzl, List.take_length])
  have hi : i < xs.length := (List.getElem?_eq_some_iff.mp hx).1
  have hyi : bs[i]? = some bs[i] := List.getElem?_eq_getElem (by omega)
  have hzi : (xs.zip bs)[i]? = some (x, bs[i]) := by
    rw [List.getElem?_zip_eq_some]
    exact ⟨hx, hyi⟩
  refine ⟨hw x, ht i x bs[i] H _ hx hyi p.1 fun H' s' => ?_⟩
  cases hb : bs[i] with
  | true =>
    rw [if_pos rfl]
    refine hs i x H' _ hx (p.1.trans s') fun H2 s2 => ⟨_, s2 _ _ (s' _ _ p.2), ?_, ?_, ?_⟩
    · rw [List.length_map]
      refine Nat.lt_of_le_of_lt (List.length_filter_le _ _) ?_
      rw [List.length_take]
      omega
    · exact L2.Same.mine (p.1.trans (s'.trans s2)) hD
    · rw [upd_same, List.take_succ, hzi, hb]
      rw [List.filter_append, List.map_append]
      rfl
  | false =>
    rw [if_neg (by simp)]
    refine ⟨p.1.trans s', ?_⟩
    rw [s' _ _ p.2, List.take_succ, hzi, hb, List.filter_append, List.map_append]
    show _ = some (HO.lst (_ ++ []))
    rw [List.append_nil]
theorem pe_gint {X : Cx} {x : Str} {i : Int} {pos : Pos} (hg : Gl X x) (h : ∃ t, X.mg x = some (.int i t)) (hd : (x == ("__debug__" : Str)) = false := by decide) : PE X (.Name x pos) (tC (.int i)) := by
  obtain ⟨t, e⟩ := h
  exact pe_glob hg e ⟨t, rfl⟩ hd
theorem pe_gstr {X : Cx} {x z : Str} {pos : Pos} (hg : Gl X x) (h : ∃ t, X.mg x = some (.str z t)) (hd : (x == ("__debug__" : Str)) = false := by decide) : PE X (.Name x pos) (tC (.str z)) := by
  obtain ⟨t, e⟩ := h
  exact pe_glob hg e ⟨t, rfl⟩ hd
theorem PropAt.ok {P : Program} {w : World} {K : PySem.W.Frag} {mg : Str → Option Value} {base : Heap} {CX : CXT} {C : Addr} {m qual : Str} {st : Stmt} {N : List Str} {k : Nat} {sp : Sp} (D : PropAt K C m qual st) (S : FnScope N ["self"] (defScope st)) (len : ∀ vs H Q E, sp vs H Q E → vs.length = (["self"] : List Str).length)
    (hbody : ∀ (f : Addr) (cdv : Value) (A : Around) (outer : List Env) (s : Shared) (H : Hp) (vs : List V) (Q : VK) (E : XK), Room k (A.deeper (envOfC qual (defScope st) s.heap.objs.size f cdv)) → sp vs H Q E →
      ∃ t, PSs (cxOf CX P w K mg base N qual (defScope st) f cdv A outer s H E).nox (defBody st) t ∧ t { nx := fun _ H' => Q .non H', rt := Q } (start N vs) H) : PropD P w K mg base CX (k + 1) C m sp := by
  obtain ⟨p, g, fd, h1, F, b⟩ := D.ex
  exact ⟨p, g, fd, h1, b, okF F S len fun cdv A outer s H vs Q E hr h => hbody g cdv A outer s H vs Q E hr h⟩
theorem PropD.mono {P : Program} {w : World} {K : PySem.W.Frag} {mg : Str → Option Value} {base : Heap} {CX : CXT} {C : Addr} {f : Str} {sp : Sp} {j k : Nat} (c : PropD P w K mg base CX j C f sp) (h : j ≤ k) : PropD P w K mg base CX k C f sp := by
  obtain ⟨p, g, fd, h1, h2, F⟩ := c.ex
  exact ⟨p, g, fd, h1, h2, F.mono h⟩
theorem map_get {α β : Type} {l : List α} {f : α → β} {i : Nat} {t : α} {y : β} (h1 : l[i]? = some t) (h2 : (l.map f)[i]? = some y) : y = f t := by
  rw [List.getElem?_map, h1] at h2
  exact (Option.some.inj h2).symm
theorem lc_propT {K : PySem.W.Frag} {a : Addr} {xs : List V} {l : List T} {f : T → V} {j : Nat} {E : XK} {σ : L2.St} {H1 : Hp} {D : Addr} {Qd : Hp → Prop} (hD : H1 D = none) (hl : SqT K H1 a xs) (hf : FtnL (cF K) H1 l xs) (hz : xs.length < sizeLine)
    (hw : ∀ x : V, wipe ((wipe σ [j]).set j (some x)) [j] = wipe σ [j]) (hv : ∀ x : V, ((wipe σ [j]).set j (some x))[j]? = some (some x)) (hd : ∀ H, L2.Same H1 H → H D = some (.lst (l.map f)) → Qd H) : ∃ W : Nat → Nat → Hp → Prop, (∃ m, W 0 m (upd H1 D (.lst []))) ∧ ∀ i m H, W i m H →
      ((Itt K a).stop i H ∧ Qd H) ∨ ((Itt K a).go i H ∧ ∃ Nx : Hp → Prop, (∀ H', Nx H' → ∃ m', m' < m ∧ W (i + 1) m' H') ∧ ∀ x H', (Itt K a).yld i H x H' → gName j x (wipe σ [j]) H' fun σ2 H2 => wipe σ2 [j] = wipe σ [j] ∧ tYes σ2 H2 fun b H3 =>
        if b = true then tProp (cF K) (spV K f) [] E (tVar j) σ2 H3 fun y H4 => ∃ acc, H4 D = some (.lst acc) ∧ acc.length < sizeLine ∧ Nx (upd H4 D (.lst (acc ++ [y]))) else Nx H3) :=
  lc_eachT (ys := l.map f) hD hl hz (by rw [List.length_map, hf.len]) hw (fun i x y H Q hx hy s _ q => by
    obtain ⟨t, e1, e2⟩ := hf.get hx
    rw [map_get e1 hy] at q
    exact ⟨x, hv x, ev_prop (e2.same s) (q H (L2.Same.refl H))⟩) hd
theorem lc_propL {K : PySem.W.Frag} {a : Addr} {xs : List V} {l : List T} {f : T → V} {j : Nat} {E : XK} {σ : L2.St} {H1 : Hp} {D : Addr} {Qd : Hp → Prop} (hD : H1 D = none) (hl : SqL K H1 a xs) (hf : FtnL (cF K) H1 l xs) (hz : xs.length < sizeLine)
    (hw : ∀ x : V, wipe ((wipe σ [j]).set j (some x)) [j] = wipe σ [j]) (hv : ∀ x : V, ((wipe σ [j]).set j (some x))[j]? = some (some x)) (hd : ∀ H, L2.Same H1 H → H D = some (.lst (l.map f)) → Qd H) : ∃ W : Nat → Nat → Hp → Prop, (∃ m, W 0 m (upd H1 D (.lst []))) ∧ ∀ i m H, W i m H →
      ((Itl K a).stop i H ∧ Qd H) ∨ ((Itl K a).go i H ∧ ∃ Nx : Hp → Prop, (∀ H', Nx H' → ∃ m', m' < m ∧ W (i + 1) m' H') ∧ ∀ x H', (Itl K a).yld i H x H' → gName j x (wipe σ [j]) H' fun σ2 H2 => wipe σ2 [j] = wipe σ [j] ∧ tYes σ2 H2 fun b H3 =>
        if b = true then tProp (cF K) (spV K f) [] E (tVar j) σ2 H3 fun y H4 => ∃ acc, H4 D = some (.lst acc) ∧ acc.length < sizeLine ∧ Nx (upd H4 D (.lst (acc ++ [y]))) else Nx H3) :=
  lc_eachL (ys := l.map f) hD hl hz (by rw [List.length_map, hf.len]) hw (fun i x y H Q hx hy s _ q => by
    obtain ⟨t, e1, e2⟩ := hf.get hx
    rw [map_get e1 hy] at q
    exact ⟨x, hv x, ev_prop (e2.same s) (q H (L2.Same.refl H))⟩) hd
theorem FtnL.filter {C : Addr} {H : Hp} {p : T → Bool} : ∀ {l : List T} {vs : List V}, FtnL C H l vs → FtnL C H (l.filter p) (((vs.zip (l.map p)).filter (·.2)).map (·.1))
  | [], vs, h => by
    have e : vs = [] := h
    subst e
    exact rfl
  | t :: ts, vs, h => by
    obtain ⟨v, r, rfl, h1, h2⟩ := (show ∃ v r, vs = v :: r ∧ Ftn C H t v ∧ FtnL C H ts r from h)
    rw [List.map_cons, List.zip_cons_cons, List.filter_cons, List.filter_cons]
    cases hp : p t with
    | true => exact ⟨v, _, rfl, h1, FtnL.filter h2⟩
    | false =>
      simp only [Bool.false_eq_true, if_false]
      exact FtnL.filter h2
theorem ite_f {b : Bool} {A B : Prop} (h : b = false) (x : B) : if b = true then A else B := by
  subst h
  exact x
theorem ite_t {b : Bool} {A B : Prop} (h : b = true) (x : A) : if b = true then A else B := by
  subst h
  exact x
theorem joinL_nil : ∀ ys : List (List Nat), TL.joinL [] ys = ys.flatten
  | [] => rfl
  | [x] => by
    show x = x ++ []
    rw [List.append_nil]
  | x :: y :: r => by
    show x ++ ([] ++ TL.joinL [] (y :: r)) = x ++ (y :: r).flatten
    rw [List.nil_append, joinL_nil (y :: r)]
theorem codesL_flat : ∀ l : List T, codesL l = (l.map T.codes).flatten
  | [] => rfl
  | t :: r => by
    show t.codes ++ codesL r = t.codes ++ (r.map T.codes).flatten
    rw [codesL_flat r]
theorem nil_S : ("" : Str) = SX.S [] := by decide +kernel
theorem op_S : ("(" : Str) = SX.S [40] := by decide +kernel
theorem cl_S : (")" : Str) = SX.S [41] := by decide +kernel
theorem o_S : ("o" : Str) = SX.S [111] := by decide +kernel
theorem join_tx (l : List T) : Txt.join "" (l.map tx) = SX.S (codesL l) := by
  have e : l.map tx = (l.map T.codes).map SX.S := by
    rw [List.map_map]
    rfl
  rw [e, nil_S, SX.join_S, joinL_nil, codesL_flat]
theorem tx_bas (l : List T) : (("(" : Str) ++ Txt.join "" (l.map tx)) ++ (")" : Str) = tx (.bas l) := by
  rw [join_tx, op_S, cl_S, SX.S_cat, SX.S_cat]
  rfl
theorem codesL_len (l : List T) : (codesL l).length ≤ 2 * sizeL l := by
  have h := (codes_len (.bas l)).1
  have h2 : (40 :: (codesL l ++ [41])).length + jtsL l = 2 * (1 + sizeL l) := h
  rw [List.length_cons, List.length_append, List.length_singleton] at h2
  omega
theorem lens_tx (l : List T) : ((l.map tx).map (·.length)).sum = (codesL l).length := by
  rw [codesL_flat, List.length_flatten, List.map_map, List.map_map]
  exact congrArg List.sum (List.map_congr_left fun t _ => SX.S_len t.codes)
def PendR (C : Addr) (H : Hp) : List (List T) → List V → Prop
  | [], vs => vs = []
  | p :: r, vs => ∃ a xs ws, vs = .ref a :: ws ∧ H a = some (.tup xs) ∧ FtnL C H p xs ∧ PendR C H r ws
theorem PendR.ext {C : Addr} {H H' : Hp} (e : ExtN H H') : ∀ {st : List (List T)} {vs : List V}, PendR C H st vs → PendR C H' st vs
  | [], _, h => h
  | p :: r, vs, h => by
    obtain ⟨a, xs, ws, rfl, h1, h2, h3⟩ := (show ∃ a xs ws, vs = .ref a :: ws ∧ H a = some (.tup xs) ∧ FtnL C H p xs ∧ PendR C H r ws from h)
    exact ⟨a, xs, ws, rfl, e _ _ h1 (fun ps z => by cases z), h2.ext e, PendR.ext e h3⟩
theorem PendR.len {C : Addr} {H : Hp} : ∀ {st : List (List T)} {vs : List V}, PendR C H st vs → vs.length = st.length
  | [], _, h => by
    rw [show _ = [] from h] <;> rfl
  | p :: r, vs, h => by
    obtain ⟨a, xs, ws, rfl, h1, h2, h3⟩ := (show ∃ a xs ws, vs = .ref a :: ws ∧ H a = some (.tup xs) ∧ FtnL C H p xs ∧ PendR C H r ws from h)
    rw [List.length_cons, List.length_cons, h3.len]
def ExtD (D : Addr) (H H' : Hp) : Prop := ∀ b o, b ≠ D → H b = some o → (∀ ps, o ≠ .tbl ps) → H' b = some o
theorem ExtD.of {D : Addr} {H H' : Hp} (e : ExtN H H') : ExtD D H H' := fun b o _ h n => e b o h n
theorem ExtD.trans {D : Addr} {H H1 H2 : Hp} (a : ExtD D H H1) (b : ExtD D H1 H2) : ExtD D H H2 := fun c o hc h n => b c o hc (a c o hc h n) n
theorem ExtD.put {D : Addr} {H H1 : Hp} {o : HO} (a : ExtD D H H1) : ExtD D H (upd H1 D o) := fun c u hc h n => by rw [upd_ne hc]; exact a c u hc h n
theorem ExtD.refl (D : Addr) (H : Hp) : ExtD D H H := fun _ _ _ h _ => h
section
variable {C D : Addr} {H H' : Hp} {xs : List V}
mutual
theorem ftn_extD (hd : H D = some (.lst xs)) (e : ExtD D H H') : ∀ (t : T) (v : V), Ftn C H t v → Ftn C H' t v
  | .jet, v, h => by
    have h2 : ∃ a dx b n, v = .ref a ∧ H a = some (.ins C dx (flds .jet b n)) ∧ H b = some (.tup []) ∧ H n = some (.tup (nums .jet)) := h
    obtain ⟨a, dx, b, n, ev, h1, h2, h3⟩ := h2
    exact ⟨a, dx, b, n, ev, e _ _ (ne_of h1 hd fun z => by cases z) h1 (fun ps z => by cases z), e _ _ (ne_of h2 hd fun z => by cases z) h2 (fun ps z => by cases z), e _ _ (ne_of h3 hd fun z => by cases z) h3 (fun ps z => by cases z)⟩
  | .bas l, v, h => by
    have h2 : ∃ a dx b n vs, v = .ref a ∧ H a = some (.ins C dx (flds (.bas l) b n)) ∧ H b = some (.tup vs) ∧ H n = some (.tup (nums (.bas l))) ∧ FtnL C H l vs := h
    obtain ⟨a, dx, b, n, vs, ev, h1, h2, h3, h4⟩ := h2
    exact ⟨a, dx, b, n, vs, ev, e _ _ (ne_of h1 hd fun z => by cases z) h1 (fun ps z => by cases z), e _ _ (ne_of h2 hd fun z => by cases z) h2 (fun ps z => by cases z), e _ _ (ne_of h3 hd fun z => by cases z) h3 (fun ps z => by cases z), ftnL_extD hd e l vs h4⟩
theorem ftnL_extD (hd : H D = some (.lst xs)) (e : ExtD D H H') : ∀ (l : List T) (vs : List V), FtnL C H l vs → FtnL C H' l vs
  | [], vs, h => h
  | t :: ts, vs, h => by
    have h2 : ∃ v r, vs = v :: r ∧ Ftn C H t v ∧ FtnL C H ts r := h
    obtain ⟨v, r, ev, h1, h2⟩ := h2
    exact ⟨v, r, ev, ftn_extD hd e t v h1, ftnL_extD hd e ts r h2⟩
end
theorem PendR.extD (hd : H D = some (.lst xs)) (e : ExtD D H H') : ∀ {st : List (List T)} {vs : List V}, PendR C H st vs → PendR C H' st vs
  | [], _, h => h
  | p :: r, vs, h => by
    obtain ⟨a, ys, ws, rfl, h1, h2, h3⟩ := (show ∃ a xs ws, vs = .ref a :: ws ∧ H a = some (.tup xs) ∧ FtnL C H p xs ∧ PendR C H r ws from h)
    exact ⟨a, ys, ws, rfl, e _ _ (ne_of h1 hd fun z => by cases z) h1 (fun ps z => by cases z), ftnL_extD hd e p ys h2, PendR.extD hd e h3⟩
end
theorem Tabs.put {TT : List (Addr × Str)} {H : Hp} {D : Addr} {xs ys : List V} (t : LamX.Tabs TT H) (hd : H D = some (.lst xs)) : LamX.Tabs TT (upd H D (.lst ys)) := fun p hp => by
  obtain ⟨ps, h1, h2, h3⟩ := t p hp
  refine ⟨ps, by rw [upd_ne (ne_of h1 hd fun z => by cases z)]; exact h1, h2, fun pos cv hc => ?_⟩
  obtain ⟨c, e1, e2⟩ := h3 pos cv hc
  exact ⟨c, e1, by rw [upd_ne (ne_of e2 hd fun z => by unfold LamX.CodeO at z; cases z)]; exact e2⟩
theorem Tabs.same {TT : List (Addr × Str)} {H H' : Hp} (t : LamX.Tabs TT H) (s : L2.Same H H') : LamX.Tabs TT H' := LamX.Tabs.ext t s
theorem sq_last {α : Type} (v : α) (r : List α) : ((v :: r).reverse)[(v :: r).reverse.length - 1]? = some v := by
  rw [List.reverse_cons]
  simp
theorem sq_butlast {α : Type} (v : α) (r : List α) : (v :: r).reverse.dropLast = r.reverse := by
  rw [List.reverse_cons, List.dropLast_concat]
theorem ix_last {n : Nat} (h : 0 < n) : ixN n (-1) = some (n - 1) := by
  unfold ixN
  rw [if_neg (by omega), if_pos (by omega)]
  exact congrArg some (by omega)
theorem at_last (v : V) (r : List V) : atI (v :: r).reverse (-1) = some v := by
  unfold atI
  rw [ix_last (by simp)]
  exact sq_last v r
theorem set_last (v w : V) (r : List V) : (v :: r).reverse.set ((v :: r).reverse.length - 1) w = (w :: r).reverse := by
  rw [List.reverse_cons, List.reverse_cons, List.length_append, List.length_singleton]
  simp
theorem tyL {K : PySem.W.Frag} {H : Hp} {D : Addr} {xs : List V} (h : H D = some (.lst xs)) : tyV K "list" (.ref D) H := .inl ⟨rfl, _, SqL.of h⟩
section
variable {C C' D dx' : Addr} {H H' : Hp} {fs : List (Str × V)}
mutual
theorem ftn_extX (hd : H D = some (.ins C' dx' fs)) (hf : fs.length ≠ 3) (e : ExtD D H H') : ∀ (t : T) (v : V), Ftn C H t v → Ftn C H' t v
  | .jet, v, h => by
    have h2 : ∃ a dx b n, v = .ref a ∧ H a = some (.ins C dx (flds .jet b n)) ∧ H b = some (.tup []) ∧ H n = some (.tup (nums .jet)) := h
    obtain ⟨a, dx, b, n, ev, h1, h2, h3⟩ := h2
    exact ⟨a, dx, b, n, ev, e _ _ (ne_of h1 hd fun z => by cases z; exact hf rfl) h1 (fun ps z => by cases z), e _ _ (ne_of h2 hd fun z => by cases z) h2 (fun ps z => by cases z), e _ _ (ne_of h3 hd fun z => by cases z) h3 (fun ps z => by cases z)⟩
  | .bas l, v, h => by
    have h2 : ∃ a dx b n vs, v = .ref a ∧ H a = some (.ins C dx (flds (.bas l) b n)) ∧ H b = some (.tup vs) ∧ H n = some (.tup (nums (.bas l))) ∧ FtnL C H l vs := h
    obtain ⟨a, dx, b, n, vs, ev, h1, h2, h3, h4⟩ := h2
    exact ⟨a, dx, b, n, vs, ev, e _ _ (ne_of h1 hd fun z => by cases z; exact hf rfl) h1 (fun ps z => by cases z), e _ _ (ne_of h2 hd fun z => by cases z) h2 (fun ps z => by cases z), e _ _ (ne_of h3 hd fun z => by cases z) h3 (fun ps z => by cases z), ftnL_extX hd hf e l vs h4⟩
theorem ftnL_extX (hd : H D = some (.ins C' dx' fs)) (hf : fs.length ≠ 3) (e : ExtD D H H') : ∀ (l : List T) (vs : List V), FtnL C H l vs → FtnL C H' l vs
  | [], vs, h => h
  | t :: ts, vs, h => by
    have h2 : ∃ v r, vs = v :: r ∧ Ftn C H t v ∧ FtnL C H ts r := h
    obtain ⟨v, r, ev, h1, h2⟩ := h2
    exact ⟨v, r, ev, ftn_extX hd hf e t v h1, ftnL_extX hd hf e ts r h2⟩
end
end
theorem Tabs.putI {TT : List (Addr × Str)} {H : Hp} {D C C' dx dx' : Addr} {fs gs : List (Str × V)} (t : LamX.Tabs TT H) (hd : H D = some (.ins C dx fs)) : LamX.Tabs TT (upd H D (.ins C' dx' gs)) := fun p hp => by
  obtain ⟨ps, h1, h2, h3⟩ := t p hp
  refine ⟨ps, by rw [upd_ne (ne_of h1 hd fun z => by cases z)]; exact h1, h2, fun pos cv hc => ?_⟩
  obtain ⟨c, e1, e2⟩ := h3 pos cv hc
  exact ⟨c, e1, by rw [upd_ne (ne_of e2 hd fun z => by unfold LamX.CodeO at z; cases z)]; exact e2⟩
theorem kids_size (t : T) : sizeL t.kids ≤ t.size := by
  cases t with
  | jet => exact Nat.zero_le _
  | bas l => show sizeL l ≤ 1 + sizeL l; omega
theorem Ftn.ne {C : Addr} {H : Hp} {t : T} {v : V} (h : Ftn C H t v) : v ≠ .non := by
  obtain ⟨a, _, _, _, _, rfl, _⟩ := ftn_iff.mp h
  exact fun z => by cases z
end JW
namespace JW
open PySem PySem.Spec PyProof.Rows L2 He
def gAd (K : PySem.W.Frag) (p : Str × Str) : Addr := match PySem.W.recIn K (ma K (ga K p.1) p.2) "property" with
  | some (.ref g :: _) => g
  | _ => 0
structure PrD where
  at_ : Str × Str
  name : Str
  qual : Str
  params : Arguments
  body : List Stmt
  scope : Scope
def fnWa (K : PySem.W.Frag) (a : Addr) : FnW := match K.lookup a with
  | some ⟨_, _, .func fd, _⟩ => some (fd.name, fd.qualname, fd.params, fd.body, fd.scope, fd.globals, fd.closure, fd.builtins)
  | _ => none
def PrD.val (d : PrD) : FnW := some (d.name, d.qual, d.params, .stmts d.body, d.scope, mainGlobals, [], builtinsNs)
def PrD.okP (K : PySem.W.Frag) (d : PrD) : Bool := eqO (PySem.W.findIn K (.ref (ga K d.at_.1)) d.at_.2) (some (some (.ref (ma K (ga K d.at_.1) d.at_.2)))) &&
  (eqO (PySem.W.specialIn K (.ref (ma K (ga K d.at_.1) d.at_.2)) "__get__") (some (some (.builtin "property.__get__"))) && (decide (PySem.W.takesIn K (.ref (ma K (ga K d.at_.1) d.at_.2)) = some true) &&
  (match PySem.W.recIn K (ma K (ga K d.at_.1) d.at_.2) "property" with
  | some (.ref _ :: _) => true
  | _ => false)))
def PrD.okF (K : PySem.W.Frag) (d : PrD) : Bool := PySem.W.keepIn K (.ref (gAd K d.at_)) && (match K.lookup (gAd K d.at_) with
  | some ⟨_, _, .func fd, _⟩ => PySem.W.codeIn K fd.code d.qual && (dflB K fd.defaults [] && kwdB K fd.kwdefaults [])
  | _ => false)
def PrD.ok (K : PySem.W.Frag) (d : PrD) : Bool := d.okP K && d.okF K
theorem PrD.propOf {K : PySem.W.Frag} {d : PrD} (h : d.okP K = true) : PropOf K (ga K d.at_.1) d.at_.2 (ma K (ga K d.at_.1) d.at_.2) (gAd K d.at_) := by
  obtain ⟨h1, h2⟩ := ba h
  obtain ⟨h3, h4⟩ := ba h2
  obtain ⟨h5, h6⟩ := ba h4
  refine ⟨eqO_ok h1, eqO_ok h3, of_decide_eq_true h5, ?_⟩
  unfold gAd
  generalize PySem.W.recIn K (ma K (ga K d.at_.1) d.at_.2) "property" = r at h6 ⊢
  cases r with
  | none => cases h6
  | some l =>
    cases l with
    | nil => cases h6
    | cons v rest =>
      cases v with
      | ref g => exact ⟨rest, rfl⟩
      | _ => cases h6
theorem PrD.funD {K : PySem.W.Frag} {d : PrD} (e : fnWa K (gAd K d.at_) = d.val) (c : d.okF K = true) : ∃ fd, FunD K d.name d.qual d.params d.body d.scope [] [] (gAd K d.at_) fd := by
  obtain ⟨kp, c2⟩ := ba c
  unfold fnWa at e
  cases q : K.lookup (gAd K d.at_) with
  | none =>
    rw [q] at c2
    cases c2
  | some o =>
    obtain ⟨oc, od, dt, osl⟩ := o
    rw [q] at c2 e
    cases dt with
    | func fd =>
      obtain ⟨n1, n2, n3, n4, n5, n6, n7, n8, n9, n10, n11, n12, n13, n14, n15⟩ := fd
      have e2 : (some (n1, n2, n3, n4, n5, n6, n7, n15) : FnW) = some (d.name, d.qual, d.params, .stmts d.body, d.scope, mainGlobals, [], builtinsNs) := e
      simp only [Option.some.injEq, Prod.mk.injEq] at e2
      obtain ⟨h1, h2, h3, h4, h5, h6, h7, h8⟩ := e2
      subst h1 h2 h3 h4 h5 h6 h7 h8
      have c3 : (PySem.W.codeIn K n13 d.qual && (dflB K n8 [] && kwdB K n9 [])) = true := c2
      obtain ⟨k1, k2⟩ := ba c3
      obtain ⟨k3, k4⟩ := ba k2
      exact ⟨_, ⟨oc, od, n8, n9, n10, n11, n12, n13, n14, osl, rfl, q, k1, dflB_ok k3, kwdB_ok k4⟩, kp⟩
    | _ => cases c2
def clsX (K : PySem.W.Frag) (x : Str) : Bool := eqO (PySem.W.findIn K (.ref (ga K x)) "__class__") (some (some (.builtin "object.__class__"))) &&
  (eqO (PySem.W.specialIn K (.builtin "object.__class__") "__get__") (some (some (.builtin "getset_descriptor.__get__"))) && (decide (PySem.W.takesIn K (.builtin "object.__class__") = some true) &&
  (decide (PySem.W.mroIn K (ga K x) (.type "object") = some true) && (eqO (PySem.W.findIn K (.ref (ga K x)) "__ne__") (some (some (.builtin "object.__ne__"))) && PySem.W.selfFirst K (ga K x)))))
theorem clsF_of {K : PySem.W.Frag} {mg : Str → Option Value} (g : mg "Fountain" = some (.ref (cF K))) (c : Cls K (cF K)) (nw : NoAttr K (cF K) "written") (nb : NoAttr K (cF K) "branches") (nn : NoAttr K (cF K) "numbers") (h : clsX K "Fountain" = true) : ClsF K mg := by
  obtain ⟨h1, h2⟩ := ba h
  obtain ⟨h3, h4⟩ := ba h2
  obtain ⟨h5, h6⟩ := ba h4
  obtain ⟨h7, h8⟩ := ba h6
  obtain ⟨h9, h10⟩ := ba h8
  exact ⟨g, c, nw, nb, nn, eqO_ok h1, eqO_ok h3, of_decide_eq_true h5, of_decide_eq_true h7, eqO_ok h9, of_decide_eq_true h7, h10⟩
structure SaysJ (fa : List Fa) (fn : List DefD) (tf : List Defn) (ex : PySem.W.Frag → Bool) (pr : List PrD) (w : World) (h : Heap) (K : PySem.W.Frag) : Prop where
  x : SaysX fa fn [] tf ex w h K
  p : pr.map (fun d => fnWa K (gAd K d.at_)) = pr.map PrD.val
  ok : (pr.all fun d => d.ok K) = true
section
variable {fa : List Fa} {fn : List DefD} {tf : List Defn} {ex : PySem.W.Frag → Bool} {pr : List PrD} {w : World} {h : Heap} {K : PySem.W.Frag}
theorem SaysJ.d (c : SaysJ fa fn tf ex pr w h K) : SaysD fa fn K := congrArg (fun z : AlT => z.1) c.x.t
end
end JW
namespace JW
open PySem PySem.Spec PyProof.Rows L2
def feedD (a b c : Int) : List (Key × V) := [(.inr "digits", .int a), (.inr "seed", .int b), (.inr "turn", .int c)]
def FeedAt (H : Hp) (d : Addr) : Prop := ∃ a b c : Int, H d = some (.dK (feedD a b c))
theorem FeedAt.same {H H' : Hp} {d : Addr} (h : FeedAt H d) (s : L2.Same H H') : FeedAt H' d := by
  obtain ⟨a, b, c, e⟩ := h
  exact ⟨a, b, c, s _ _ e⟩
theorem FeedAt.ne {H : Hp} {d p : Addr} (h : FeedAt H d) (hp : H p = none) : p ≠ d := by
  obtain ⟨a, b, c, e⟩ := h
  exact (ne_of_none e hp).symm
def SamD (d : Addr) (H H' : Hp) : Prop := ∀ b o, b ≠ d → H b = some o → H' b = some o
theorem SamD.refl (d : Addr) (H : Hp) : SamD d H H := fun _ _ _ h => h
theorem SamD.trans {d : Addr} {H H1 H2 : Hp} (a : SamD d H H1) (b : SamD d H1 H2) : SamD d H H2 := fun c o h1 h => b c o h1 (a c o h1 h)
theorem SamD.put {d : Addr} {H H1 : Hp} {o : HO} (a : SamD d H H1) : SamD d H (upd H1 d o) := fun c u h1 h => by rw [upd_ne h1]; exact a c u h1 h
theorem SamD.new {d p : Addr} {H H1 : Hp} {o : HO} (a : SamD d H H1) (hp : H1 p = none) : SamD d H (upd H1 p o) := fun c u h1 h => by rw [upd_ne (ne_of_none (a c u h1 h) hp)]; exact a c u h1 h
theorem SamD.mine {d p : Addr} {H H1 : Hp} {o : HO} (a : SamD d H H1) (hp : H p = none) : SamD d H (upd H1 p o) := fun c u h1 h => by rw [upd_ne (ne_of_none h hp)]; exact a c u h1 h
theorem SamD.of {d : Addr} {H H1 : Hp} (a : L2.Same H H1) : SamD d H H1 := fun c o _ h => a c o h
theorem SamD.same {d : Addr} {H H1 H2 : Hp} (a : SamD d H H1) (b : L2.Same H1 H2) : SamD d H H2 := fun c o h1 h => b c o (a c o h1 h)
section
variable {C d : Addr} {H H' : Hp}
end
end JW
namespace PySem
open Sem (wp)
open Builtin Builtin.Str
open AutoSeq1 (wpAny_loadPart')
section
variable {prog : Program} {w : World} {A : Around} {E : Value → Shared → Prop} {s : Shared}
theorem jw_next_tup {it t : Addr} {i : Nat} {items} {x : Value} {Q : Value → Shared → Prop} (hit : s.heap.IsTupleIter it t i) (ht : s.heap.IsTuple t items) (hx : items[i]? = some x)
    (hQ : ∀ h', h'.IsTupleIter it t (i + 1) → Heap.SameBut it s.heap h' → Q x { s with heap := h' }) : wpAny (model prog w) A (Builtin.SmallTypes.nextOf (.ref it)) Q E s := by
  obtain ⟨o, ho, hc, hd⟩ := id hit
  obtain ⟨ol, hol, _, nl, hdl⟩ := ht
  unfold Builtin.SmallTypes.nextOf
  refine wpAny_bind (wpAny_callSpecial?_slot (name := Str.ofString "__next__") hit.typeIs F.slot_tuple_iterator_next
    (wpAny_call_entry F.slot_tuple_iterator_next hit.typeIs F.entry_tuple_iterator_next ?_ (F.args_tuple_iterator_next_1 _)))
  show wpAny _ _ (field (.ref it) 0 >>= _) _ _ s
  refine wpAny_bind (wpAny_field ho hd (x := .ref t) rfl ?_)
  show wpAny _ _ (if (Value.ref t == Value.none) = true then _ else _) _ _ s
  rw [if_neg (show ¬ ((Value.ref t == Value.none) = true) from Bool.false_ne_true)]
  show wpAny _ _ (field (.ref it) 1 >>= _) _ _ s
  refine wpAny_bind (wpAny_field ho hd (x := .int i 0) rfl ?_)
  show wpAny _ _ (seqItems? (.ref t) >>= _) _ _ s
  refine wpAny_bind (wpAny_seqItems hol hdl ?_)
  simp only [Int.toNat_natCast, hx]
  refine wpAny_bind (wpAny_setField ho hd (by simp) (wpAny_pure ⟨x, rfl, wpAny_pure (hQ _ ?_ (Heap.SameBut.update ..))⟩))
  exact ⟨_, Heap.get?_update_self _ ho (Obj.isFreed_of_fields (Obj.data_mapFields hd _)), (Obj.cls_mapFields ..).trans hc, by
    rw [Obj.data_mapFields hd]; simp [rawInt]⟩
theorem jw_next_tup_end {it t : Addr} {i : Nat} {items} {Q : Value → Shared → Prop} (hh : A.handled = none) (hit : s.heap.IsTupleIter it t i) (ht : s.heap.IsTuple t items) (hx : items[i]? = none)
    (hE : ∀ h' e, Heap.ExtBut it s.heap h' → (∃ o, h'.get? e = some o ∧ o.cls = .type "StopIteration") → E (.ref e) { s with heap := h' }) : wpAny (model prog w) A (Builtin.SmallTypes.nextOf (.ref it)) Q E s := by
  obtain ⟨o, ho, hc, hd⟩ := id hit
  obtain ⟨ol, hol, _, nl, hdl⟩ := ht
  unfold Builtin.SmallTypes.nextOf
  refine wpAny_bind (wpAny_callSpecial?_slot (name := Str.ofString "__next__") hit.typeIs F.slot_tuple_iterator_next
    (wpAny_call_entry F.slot_tuple_iterator_next hit.typeIs F.entry_tuple_iterator_next ?_ (F.args_tuple_iterator_next_1 _)))
  show wpAny _ _ (field (.ref it) 0 >>= _) _ _ s
  refine wpAny_bind (wpAny_field ho hd (x := .ref t) rfl ?_)
  show wpAny _ _ (if (Value.ref t == Value.none) = true then _ else _) _ _ s
  rw [if_neg (show ¬ ((Value.ref t == Value.none) = true) from Bool.false_ne_true)]
  show wpAny _ _ (field (.ref it) 1 >>= _) _ _ s
  refine wpAny_bind (wpAny_field ho hd (x := .int i 0) rfl ?_)
  show wpAny _ _ (seqItems? (.ref t) >>= _) _ _ s
  refine wpAny_bind (wpAny_seqItems hol hdl ?_)
  simp only [Int.toNat_natCast, hx]
  refine wpAny_bind (wpAny_rule (wpAny_bind (wpAny_setField ho hd (by simp) ?_)))
  show wpAny _ _ (newExc (.type "StopIteration") [] >>= _) _ _ _
  refine wpAny_bind ?_
  simp only [newExc, newTuple]
  refine wpAny_bind (wpAny_newObj_type ?_ (by size_fits))
  refine wpAny_bind (m := firstArgMember _ _) (wpAny_of_eq (a := Value.none) (by first | rfl | (simp only [firstArgMember]; rfl)) ?_)
  refine wpAny_newObj_type ?_ (by size_fits)
  simp only [raiseNew]
  refine wpAny_bind (wpAny_handled ?_)
  first | rw [show A.in1.handled = none from hh] | rw [hh]
  refine wpAny_bind (wpAny_pure (wpAny_throw ?_))
  exact hE _ _ (((Heap.SameBut.update ..).extBut.push _).push _) ⟨_, Heap.get?_push_size _ rfl, rfl⟩
end
theorem jw_draws_tup {prog : Program} {w : World} {A : Around} (hh : A.handled = none) (it l : Addr) (hne : l ≠ it) (items : Array Value) :
    Draws prog w A it [it, l] items.size (fun i v => items[i]? = some v) (fun i h => h.IsTupleIter it l i ∧ h.IsTuple l items) where
  live := fun _ _ st => let ⟨o, ho, _⟩ := st.1; ⟨o, ho⟩
  frame := fun _ _ _ st hk => by
    obtain ⟨⟨o, ho, r⟩, o2, ho2, r2⟩ := st
    exact ⟨⟨o, hk it (by simp) o ho, r⟩, o2, hk l (by simp) o2 ho2, r2⟩
  item := fun i s Q E hi st hQ => by
    refine jw_next_tup st.1 st.2 (x := items[i]) (by simp [hi]) fun h' hit' hs' => ?_
    exact hQ _ h' s.toks (by simp [hi]) ⟨hit', st.2.extBut hs'.extBut hne⟩ hs'
  done := fun s Q E st hE => jw_next_tup_end hh st.1 st.2 (by simp) hE
set_option maxHeartbeats 4000000 in
theorem jw_enum_newT (l : Addr) (items : Array Value) (n : Nat) (dct : Option Addr) (sl : Array (Option Value)) :
    Meets (Builtin.«enumerate.__new__» ⟨[.type "enumerate", .ref l], []⟩) (fun _ R s => s.heap.get? l = some { cls := .type "tuple", dict := dct, data := .seq items n, slots := sl } ∧
      R (.ok (.ret (.ref (s.heap.push { cls := .type "tuple_iterator", data := .fields #[.ref l, .int 0 0] }).objs.size)))
        { s with heap := (s.heap.push { cls := .type "tuple_iterator", data := .fields #[.ref l, .int 0 0] }).push { cls := .type "enumerate", data := .fields #[.none, .bool false, .ref s.heap.objs.size, rawInt 0, .none, .none] } }) :=
  .of_wp fun prog w A R s h => by
    obtain ⟨hp, g, d, tk, os⟩ := s; obtain ⟨hl, h⟩ := h
    have hsub := sub_enumerate
    have hL : Heap.IsTuple (Shared.heap ⟨hp, g, d, tk, os⟩) l items := ⟨_, hl, rfl, n, rfl⟩
    wp_walk using wpAny_loadPart' hl
    refine wpAny_stack_any fun st => wpAny_pure ?_
    split
    · rename_i c _ _ _ _ _
      cases (c == Value.type "enumerate")
      · wp_walk using wpAny_loadPart' hl, wpAny_pyIter_tuple hL
        exact ⟨_, rfl, h⟩
      · wp_walk using wpAny_loadPart' hl, wpAny_pyIter_tuple hL
        exact ⟨_, rfl, h⟩
    · wp_walk using wpAny_loadPart' hl, wpAny_pyIter_tuple hL
      exact ⟨_, rfl, h⟩
section
variable {prog : Program} {w : World} {A : Around} {E : Value → Shared → Prop} {s : Shared}
theorem jw_call_enumT {l : Addr} {items : Array Value} {Q : Value → Shared → Prop} (hL : s.heap.IsTuple l items)
    (h : ∀ h', IsEnum h' (s.heap.objs.size + 1) s.heap.objs.size 0 .none → h'.IsTupleIter s.heap.objs.size l 0 → h'.objs.size = s.heap.objs.size + 2 →
      (∀ b o, s.heap.get? b = some o → h'.get? b = some o) → Q (.ref (s.heap.objs.size + 1)) { s with heap := h' }) :
    wpAny (model prog w) A (call (.type "enumerate") [.ref l]) Q E s := by
  obtain ⟨⟨c, dct, dt, sl⟩, hl, hc, n, hd⟩ := hL
  replace hc : c = .type "tuple" := hc
  replace hd : dt = .seq items n := hd
  subst hc hd
  refine callType_new F.called_enumerate (by decide) (F.typeCall_enumerate_1 _) (F.newCall_enumerate_1 _) (fun obj => F.args_object_init_2 obj _) F.entry_enumerate_new
    (jw_enum_newT l items n dct sl) ⟨hl, ?_⟩
  have hz : (s.heap.push { cls := .type "tuple_iterator", data := .fields #[.ref l, .int 0 0] }).objs.size = s.heap.objs.size + 1 := Heap.size_push ..
  show _ ∧ _
  rw [hz]
  have he : IsEnum ((s.heap.push { cls := .type "tuple_iterator", data := .fields #[.ref l, .int 0 0] }).push
      { cls := .type "enumerate", data := .fields #[.none, .bool false, .ref s.heap.objs.size, rawInt 0, .none, .none] }) (s.heap.objs.size + 1) s.heap.objs.size 0 .none := by
    have := Heap.get?_push_size (s.heap.push { cls := .type "tuple_iterator", data := .fields #[.ref l, .int 0 0] })
      (o := { cls := .type "enumerate", data := .fields #[.none, .bool false, .ref s.heap.objs.size, rawInt 0, .none, .none] }) rfl
    rw [hz] at this; exact this
  refine ⟨⟨_, he, rfl⟩, h _ he ⟨_, Heap.get?_push_of_some _ (Heap.get?_push_size _ rfl), rfl, rfl⟩ (by rw [Heap.size_push, hz]) fun b o x => Heap.get?_push_of_some _ (Heap.get?_push_of_some _ x)⟩
end
end PySem
namespace JW
open PySem PySem.Spec PyProof.Rows L2
def Itet (K : PySem.W.Frag) (a : Addr) : It :=
  ⟨fun i H => ∃ (xs : List V) (x : V), SqT K H a xs ∧ xs[i]? = some x, fun i H v H' => ∃ T x, v = .ref T ∧ H T = none ∧ H' = upd H T (.tup [.int (i : Nat), x]) ∧ ∀ xs, SqT K H a xs → xs[i]? = some x, fun i H => ∃ xs : List V, SqT K H a xs ∧ xs.length = i⟩
theorem turn_enumT {P : Program} {w : World} {K : PySem.W.Frag} {elts : List Expr} {kk : Nat} {tpos : Pos} (a e it : Addr) (hai : a ≠ it) (hae : a ≠ e) :
    Turn P w K (.Tuple elts kk tpos) (Itet K a) [e, it] e (fun i h => (∃ old, IsEnum h e it ((i : Nat) : Int) old) ∧ h.IsTupleIter it a i ∧ e ≠ it) where
  mem := by simp
  obj := fun i h st b hb => by
    obtain ⟨⟨old, he⟩, ⟨o, ho, hc, hd⟩, _⟩ := st
    have e' : b = e ∨ b = it := by simpa using hb
    rcases e' with z | z
    · rw [z]; exact ⟨_, he, fun v q => nomatch q⟩
    · rw [z]; exact ⟨o, ho, fun v q => by rw [hd] at q; cases q⟩
  keep := fun i h h' st k => by
    obtain ⟨⟨old, he⟩, ⟨o, ho, r⟩, hne⟩ := st
    exact ⟨⟨old, k e (by simp) _ he⟩, ⟨o, k it (by simp) o ho, r⟩, hne⟩
  item := by
    intro X hP hw hK hc i pins s σ H E I hf st hg
    subst hP hw hK
    obtain ⟨⟨old, he⟩, hit, hne⟩ := st
    obtain ⟨xs, x, hq, hx⟩ := hg
    obtain ⟨its, rv, p, hz⟩ := I.tuple hq
    obtain ⟨u, hu, ru⟩ := rv.get hx
    have hel : e < s.heap.objs.size := Heap.lt_size he
    have hil : it < s.heap.objs.size := by obtain ⟨_, q, _⟩ := hit; exact Heap.lt_size q
    have hlt : i < its.toArray.size := by
      have := (List.getElem?_eq_some_iff.mp hu).1
      simpa using this
    refine wpAny_pyNext_enum_itemD (jw_draws_tup (A := X.A.in1) (I.ok.hd hc) it a hai its.toArray) he ⟨hit, show s.heap.IsTuple a its.toArray from p⟩ hlt hne (by simp [hne, Ne.symm hae]) fun y h' tk hy ho hit' hT hsz hk => ?_
    obtain rfl : y = u := by
      have e1 : its.toArray[i]? = some u := by simpa using hu
      rw [e1] at hy
      exact (Option.some.inj hy).symm
    refine ⟨_, rfl, wpAny_letOwnedTupleGo_enum (s := { s with heap := h', toks := tk + 1 }) ho fun h'' he' sb => ?_⟩
    have hT2 : h''.get? s.heap.objs.size = some { cls := .type "tuple", data := .seq #[.int i tk, y] } := (sb.2 _ (Nat.ne_of_gt hel)).trans hT
    have new : ObjOk X.prog X.w (upd H s.heap.objs.size (.tup [.int (i : Nat), x])) h'' s.heap.objs.size (.tup [.int (i : Nat), x]) :=
      ⟨by show 2 ≤ sizeLine; decide, [.int i tk, y], .cons ⟨_, rfl⟩ (.cons ru .nil), ⟨_, hT2, rfl, _, rfl⟩⟩
    have I1 : Inv X pins σ (upd H s.heap.objs.size (.tup [.int (i : Nat), x])) { s with heap := h'', toks := tk + 1 } :=
      I.turnedNew (ch := [e, it]) (fun b ob hb q => (sb.2 b (fun z => hb (by simp [z]))).trans (hk b ob (fun z => hb (by simp [z])) (fun z => hb (by simp [z])) q)) hf (Nat.le_refl _) new
    refine ⟨.ref s.heap.objs.size, _, I1, rfl, ⟨_, x, rfl, I.hok.fresh (Nat.le_refl _), rfl, fun ys hy2 => by rw [I.tuple_inj hy2 hq]; exact hx⟩, ⟨⟨y, ?_⟩, ?_, hne⟩, fun b hb => ?_⟩
    · have e1 : ((i + 1 : Nat) : Int) = (i : Int) + 1 := by omega
      rw [e1]; exact he'
    · obtain ⟨⟨o, q, r⟩, _⟩ := hit'
      exact ⟨o, (sb.2 it (Ne.symm hne)).trans q, r⟩
    · have hb' : b < s.heap.objs.size := by
        have e' : b = e ∨ b = it := by simpa using hb
        rcases e' with z | z
        · rw [z]; exact hel
        · rw [z]; exact hil
      rw [upd_ne (Nat.ne_of_lt hb')]
      exact (hf b hb).1
  done := by
    intro X hP hw hK hc i pins s σ H E I hf st hg
    subst hP hw hK
    obtain ⟨⟨old, he⟩, hit, hne⟩ := st
    obtain ⟨xs, hq, hx⟩ := hg
    obtain ⟨its, rv, p, hz⟩ := I.tuple hq
    have hl : i = its.toArray.size := by
      rw [← hx, rv.length, List.size_toArray]
    subst hl
    obtain ⟨f0, f1, f2, f3, f4, f5⟩ := hf it (by simp)
    exact wpAny_pyNext_enum_endD (jw_draws_tup (A := X.A.in1) (I.ok.hd hc) it a hai its.toArray) he ⟨hit, show s.heap.IsTuple a its.toArray from p⟩ fun h' eb => ⟨rfl, I.turned (t' := s.toks) (fun b o hb q => eb b o hb q) f0 f1 f3 f4 f5⟩
  self := fun A i s Q E st h => let ⟨⟨_, he⟩, _⟩ := st; wpAny_pyIter_enum he h
def iEnumT (K : PySem.W.Frag) (ta : TA) : TI := fun σ H R => ta σ H fun vs H1 => ∃ a xs, vs = [.ref a] ∧ SqT K H1 a xs ∧ R (Itet K a) H1
theorem pi_enumT {X : Cx} {e : Expr} {ta : TA} {p pos tpos : Pos} {elts : List Expr} {kk : Nat} (hg : Gl X "enumerate") (hm : X.mg "enumerate" = none) (ha : PA X [e] ta) (hs : starEach [e] X.env = [(false, eval e X.env)] := by rfl) :
    PI X (.Tuple elts kk tpos) (.Call (.Name "enumerate" p) [e] [] pos) (iEnumT X.K ta) := by
  refine ⟨fun pins s σ H R I h => ?_⟩
  refine Call_ (ld_blt I hg hm boot_enumerate (PyProof.Rows.callWith_type1 (thn (ha.run pos pins s σ H _ I h) fun us s1 ⟨vs, H1, I1, r1, q1⟩ => ?_) hs rfl))
  obtain ⟨a, xs, ex, hq, q⟩ := q1
  subst ex
  cases r1 with
  | cons r rr =>
    cases rr
    cases r
    obtain ⟨its, rv, p', hz⟩ := I1.tuple hq
    have hlt : a < s1.heap.objs.size := by
      obtain ⟨o, q2, _⟩ := p'
      exact Heap.lt_size q2
    refine jw_call_enumT (show s1.heap.IsTuple a its.toArray from p') fun h' he hit hsz hk => wpAny_pyIter_enum he ?_
    have I2 : Inv X pins σ H1 { s1 with heap := h' } := I1.kept (t' := s1.toks) hk
    refine ⟨s1.heap.objs.size + 1, [s1.heap.objs.size + 1, s1.heap.objs.size], _, _, H1, rfl, I2, turn_enumT a (s1.heap.objs.size + 1) s1.heap.objs.size (Nat.ne_of_lt hlt) (Nat.ne_of_lt (Nat.lt_succ_of_lt hlt)), ⟨⟨.none, he⟩, hit, Nat.succ_ne_self _⟩, fun b hb => ?_, q⟩
    have e' : b = s1.heap.objs.size + 1 ∨ b = s1.heap.objs.size := by simpa using hb
    have hle : s1.heap.objs.size ≤ b := by
      rcases e' with z | z
      · rw [z]; exact Nat.le_add_right _ _
      · rw [z]; exact Nat.le_refl _
    exact I1.fpOk hle (I1.hok.fresh hle)
end JW
namespace JW
open PySem PySem.Spec PyProof.Rows L2 LamX
theorem DefAt.none {P : Program} {w : World} {K : PySem.W.Frag} {mg : Str → Option Value} {base : Heap} {CX : CXT} {x qual : Str} {st : Stmt} {ps : List Str} {k : Nat} {sp : Sp} (D : DefAt K mg x qual st [] ps) (h : ∀ vs H Q E, ¬ sp vs H Q E) : CallD P w K mg base CX k x ps [] sp := by
  obtain ⟨f, fd, h1, F, b⟩ := D.ex
  exact ⟨f, fd, [], h1, F.kp, b, .nil, ⟨fun vs H Q E z => absurd z (h _ _ _ _), fun A outer s H args us vs Q E hr e0 hb r z => absurd z (h _ _ _ _)⟩⟩
theorem callD_rec {P : Program} {w : World} {K : PySem.W.Frag} {mg : Str → Option Value} {base : Heap} {CX : CXT} {x qual : Str} {st : Stmt} {ps : List Str} {L : Nat} {sp : Nat → Sp} (D : DefAt K mg x qual st [] ps) (h0 : ∀ vs H Q E, ¬ sp 0 vs H Q E)
    (step : ∀ n, CallD P w K mg base CX (L + n) x ps [] (sp n) → CallD P w K mg base CX (L + n + 1) x ps [] (sp (n + 1))) : ∀ n, CallD P w K mg base CX (L + n) x ps [] (sp n)
  | 0 => D.none h0
  | n + 1 => step n (callD_rec D h0 step n)
theorem lc_ftnT {K : PySem.W.Frag} {TT : List (Addr × Str)} {a : Addr} {xs : List V} {l : List T} {g : T → T} {j : Nat} {te : TE} {σ : L2.St} {H1 : Hp} {D : Addr} {Qd : Hp → Prop} (hD : H1 D = none) (hl : SqT K H1 a xs) (hf : FtnL (cF K) H1 l xs) (hz : xs.length < sizeLine) (hT : Tabs TT H1)
    (hw : ∀ x : V, wipe ((wipe σ [j]).set j (some x)) [j] = wipe σ [j]) (hs : ∀ (x : V) (t : T) (H : Hp) (Q : VK), t ∈ l → Ftn (cF K) H t x → ExtN H1 H → Tabs TT H → (∀ y H', ExtN H H' → Tabs TT H' → Ftn (cF K) H' (g t) y → Q y H') → te ((wipe σ [j]).set j (some x)) H Q)
    (hd : ∀ H ys, ExtN H1 H → Tabs TT H → H D = some (.lst ys) → FtnL (cF K) H (l.map g) ys → Qd H) : ∃ W : Nat → Nat → Hp → Prop, (∃ m, W 0 m (upd H1 D (.lst []))) ∧ ∀ i m H, W i m H →
      ((Itt K a).stop i H ∧ Qd H) ∨ ((Itt K a).go i H ∧ ∃ Nx : Hp → Prop, (∀ H', Nx H' → ∃ m', m' < m ∧ W (i + 1) m' H') ∧ ∀ x H', (Itt K a).yld i H x H' → gName j x (wipe σ [j]) H' fun σ2 H2 => wipe σ2 [j] = wipe σ [j] ∧ tYes σ2 H2 fun b H3 =>
        if b = true then te σ2 H3 fun y H4 => ∃ acc, H4 D = some (.lst acc) ∧ acc.length < sizeLine ∧ Nx (upd H4 D (.lst (acc ++ [y]))) else Nx H3) := by
  have slq : ∀ H, ExtN H1 H → SqT K H a xs := fun H s => by
    rcases hl with (h | ⟨o, h⟩) | h
    · exact .inl (.inl (s _ _ h fun ps z => by cases z))
    · exact .inl (.inr ⟨o, s _ _ h fun ps z => by cases z⟩)
    · exact .inr h
  have hlen := hf.len
  refine lc_tup (fun i H => ExtN H1 H ∧ Tabs TT H ∧ ∃ ys, H D = some (.lst ys) ∧ FtnL (cF K) H ((l.take i).map g) ys) ⟨.of (Same.new (Same.refl H1) hD), Tabs.same hT (Same.new (Same.refl H1) hD), [], upd_same, by rw [List.take_zero]; rfl⟩ (fun i H _ p => slq H p.1) (fun i x H hx p => ?_) fun H p => ?_
  · obtain ⟨hE, hT2, ys, hy, hfy⟩ := p
    obtain ⟨t, e1, e2⟩ := hf.get hx
    have hi : i < l.length := (List.getElem?_eq_some_iff.mp e1).1
    refine ⟨hw x, ?_⟩
    show te _ H _
    refine hs x t H _ (List.mem_of_getElem? e1) (e2.ext hE) hE hT2 fun y H' hE' hT' hy' => ⟨ys, hE' _ _ hy (fun ps z => by cases z), ?_, ?_, ?_, ys ++ [y], upd_same, ?_⟩
    · rw [hfy.len, List.length_map, List.length_take]
      omega
    · exact fun c o ec n => by rw [upd_ne (ne_of_none ec hD)]; exact hE' _ _ (hE _ _ ec n) n
    · exact Tabs.put hT' (hE' _ _ hy (fun ps z => by cases z))
    · have hDy := hE' _ _ hy (fun ps z => by cases z)
      rw [List.take_succ, e1, Option.toList_some, List.map_append, List.map_singleton]
      exact ftnL_extD hDy (ExtD.put (ExtD.refl D H')) _ _ ((hfy.ext hE').app (FtnL.one hy'))
  · obtain ⟨hE, hT2, ys, hy, hfy⟩ := p
    rw [hlen, List.take_length] at hfy
    exact hd H ys hE hT2 hy hfy
structure DefAtK (K : PySem.W.Frag) (mg : Str → Option Value) (x qual : Str) (st : Stmt) (kws : List (Str × V)) (ps : List Str) : Prop where
  ex : ∃ f fd, mg x = some (.ref f) ∧ FunD K x qual (defArgs st) (defBody st) (defScope st) [] kws f fd ∧ ∃ ds, Vals (kws.map (·.2)) ds ∧ Binds K fd ps ds
theorem DefAtK.ok {P : Program} {w : World} {K : PySem.W.Frag} {mg : Str → Option Value} {base : Heap} {CX : CXT} {x qual : Str} {st : Stmt} {N ps : List Str} {kws : List (Str × V)} {k : Nat} {sp : Sp} (D : DefAtK K mg x qual st kws ps) (S : FnScope N ps (defScope st)) (len : ∀ vs H Q E, sp vs H Q E → vs.length = ps.length)
    (hbody : ∀ (f : Addr) (cdv : Value) (A : Around) (outer : List Env) (s : Shared) (H : Hp) (vs : List V) (Q : VK) (E : XK), Room k (A.deeper (envOfC qual (defScope st) s.heap.objs.size f cdv)) → sp vs H Q E →
      ∃ t, PSs (cxOf CX P w K mg base N qual (defScope st) f cdv A outer s H E).nox (defBody st) t ∧ t { nx := fun _ H' => Q .non H', rt := Q } (start N vs) H) : CallD P w K mg base CX (k + 1) x ps (kws.map (·.2)) sp := by
  obtain ⟨f, fd, h1, F, ds, r, b⟩ := D.ex
  exact ⟨f, fd, ds, h1, F.kp, b, r, JW.okF F S len fun cdv A outer s H vs Q E hr h => hbody f cdv A outer s H vs Q E hr h⟩
end JW
namespace JW
open PySem PySem.Spec PyProof.Rows L2
mutual
def PT (H : Hp) : T → V → Prop
  | .jet, v => v = .str (tx .jet)
  | .bas l, v => ∃ a vs, v = .ref a ∧ H a = some (.tup vs) ∧ PTL H l vs
def PTL (H : Hp) : List T → List V → Prop
  | [], vs => vs = []
  | t :: ts, vs => ∃ v r, vs = v :: r ∧ PT H t v ∧ PTL H ts r
end
section
variable {H H' : Hp}
def TupS (H H' : Hp) : Prop := ∀ a xs, H a = some (.tup xs) → H' a = some (.tup xs)
theorem TupS.of (s : L2.Same H H') : TupS H H' := fun a _ e => s a _ e
theorem TupS.ext (e : LamX.ExtN H H') : TupS H H' := fun a _ h => e a _ h fun ps z => by cases z
theorem TupS.refl (H : Hp) : TupS H H := fun _ _ h => h
theorem TupS.trans {H1 : Hp} (a : TupS H H1) (b : TupS H1 H') : TupS H H' := fun c xs h => b c xs (a c xs h)
mutual
theorem pt_tup (s : TupS H H') : ∀ (t : T) (v : V), PT H t v → PT H' t v
  | .jet, v, h => h
  | .bas l, v, h => by
    obtain ⟨a, vs, ev, e, h2⟩ := (show ∃ a vs, v = .ref a ∧ H a = some (.tup vs) ∧ PTL H l vs from h)
    exact ⟨a, vs, ev, s _ _ e, ptl_tup s l vs h2⟩
theorem ptl_tup (s : TupS H H') : ∀ (l : List T) (vs : List V), PTL H l vs → PTL H' l vs
  | [], vs, h => h
  | t :: ts, vs, h => by
    obtain ⟨v, r, ev, h1, h2⟩ := (show ∃ v r, vs = v :: r ∧ PT H t v ∧ PTL H ts r from h)
    exact ⟨v, r, ev, pt_tup s t v h1, ptl_tup s ts r h2⟩
end
theorem PT.keep {t : T} {v : V} (h : PT H t v) (s : TupS H H') : PT H' t v := pt_tup s t v h
theorem PTL.keep {l : List T} {vs : List V} (h : PTL H l vs) (s : TupS H H') : PTL H' l vs := ptl_tup s l vs h
theorem PTL.len : ∀ {l : List T} {vs : List V}, PTL H l vs → vs.length = l.length
  | [], vs, h => by
    have e : vs = [] := h
    rw [e] <;> rfl
  | t :: ts, vs, h => by
    obtain ⟨v, r, rfl, _, h2⟩ := (show ∃ v r, vs = v :: r ∧ PT H t v ∧ PTL H ts r from h)
    rw [List.length_cons, List.length_cons, PTL.len h2]
theorem PTL.get : ∀ {l : List T} {vs : List V} {i : Nat} {v : V}, PTL H l vs → vs[i]? = some v → ∃ t, l[i]? = some t ∧ PT H t v
  | [], vs, i, v, h, e => by
    have e2 : vs = [] := h
    rw [e2] at e
    simp at e
  | t :: ts, vs, i, v, h, e => by
    obtain ⟨u, r, rfl, h1, h2⟩ := (show ∃ v r, vs = v :: r ∧ PT H t v ∧ PTL H ts r from h)
    cases i with
    | zero =>
      have e3 : u = v := by simpa using e
      exact ⟨t, rfl, e3 ▸ h1⟩
    | succ i =>
      obtain ⟨t', e1, e2⟩ := PTL.get h2 (i := i) (v := v) (by simpa using e)
      exact ⟨t', by simpa using e1, e2⟩
theorem PTL.app : ∀ {l m : List T} {vs ws : List V}, PTL H l vs → PTL H m ws → PTL H (l ++ m) (vs ++ ws)
  | [], m, vs, ws, h, h' => by
    have e : vs = [] := h
    rw [e]
    exact h'
  | t :: ts, m, vs, ws, h, h' => by
    obtain ⟨u, r, rfl, h1, h2⟩ := (show ∃ v r, vs = v :: r ∧ PT H t v ∧ PTL H ts r from h)
    exact ⟨u, r ++ ws, rfl, h1, PTL.app h2 h'⟩
theorem PTL.one {t : T} {v : V} (h : PT H t v) : PTL H [t] [v] := ⟨v, [], rfl, h, rfl⟩
end
section
variable {K : PySem.W.Frag} {H : Hp}
end
theorem PTL.zip {H : Hp} : ∀ {l : List T} {vs : List V}, PTL H l vs → ∀ p ∈ (l.map tx).zip vs, ∃ t, p.1 = tx t ∧ PT H t p.2
  | [], vs, _, p, hp => by
    rw [List.map_nil, List.zip_nil_left] at hp
    cases hp
  | t :: ts, vs, h, p, hp => by
    obtain ⟨u, r, rfl, h1, h2⟩ := (show ∃ v r, vs = v :: r ∧ PT H t v ∧ PTL H ts r from h)
    rw [List.map_cons, List.zip_cons_cons] at hp
    rcases List.mem_cons.mp hp with e | e
    · exact ⟨t, by rw [e], by rw [e]; exact h1⟩
    · exact PTL.zip h2 p e
theorem PTL.push {H : Hp} {l : List T} {vs : List V} {t : T} {v : V} {P : Addr} (h : PTL H l vs) (hv : PT H t v) (hP : H P = some (.lst vs)) : PTL (upd H P (.lst (vs ++ [v]))) (l ++ [t]) (vs ++ [v]) := by
  have kp : TupS H (upd H P (.lst (vs ++ [v]))) := fun c zs ec => by rw [upd_ne (ne_of ec hP fun z => by cases z)]; exact ec
  exact PTL.keep (PTL.app h (PTL.one hv)) kp
theorem sIx_one (n : Nat) : HT.sIx (n + 1) 0 (some 1) = 1 := by
  unfold HT.sIx
  first
    | rfl
    | (simp; omega)
    | (dsimp only; omega)
theorem sIx_none (n : Nat) : HT.sIx n n none = n := rfl
theorem cut_tail (x : V) (r : List V) : cutV (x :: r) (some 1) none = r := by
  unfold cutV
  rw [List.length_cons, sIx_one, sIx_none]
  show List.take (r.length + 1 - 1) r = r
  rw [Nat.add_sub_cancel, List.take_length]
end JW
namespace JW
open PySem PySem.Spec PyProof.Rows L2 LamX
def ExtS (d g : Addr) (H H' : Hp) : Prop := ∀ b o, b ≠ d → b ≠ g → H b = some o → (∀ ps, o ≠ .tbl ps) → H' b = some o
section
variable {d g : Addr} {H H1 H' : Hp}
theorem ExtS.refl (d g : Addr) (H : Hp) : ExtS d g H H := fun _ _ _ _ h _ => h
theorem ExtS.trans (a : ExtS d g H H1) (b : ExtS d g H1 H') : ExtS d g H H' := fun c o h1 h2 h n => b c o h1 h2 (a c o h1 h2 h n) n
theorem SackAt.extN (h : SackAt H d g) (e : ExtN H H') : SackAt H' d g := by
  obtain ⟨ns, a, b, c, n, e1, e2⟩ := h
  exact ⟨ns, a, b, c, n, e _ _ e1 (fun ps z => by cases z), e _ _ e2 (fun ps z => by cases z)⟩
variable {C : Addr}
end
theorem ExtS.mine {d g : Addr} {H0 H H' : Hp} (a : L2.Same H0 H) (hd : H0 d = none) (hg : H0 g = none) (b : ExtS d g H H') : LamX.ExtN H0 H' := fun c o h n => b c o (ne_of_none h hd) (ne_of_none h hg) (a c o h) n
theorem seqN {K : PySem.W.Frag} {H H' : Hp} {a : Addr} {xs : List V} (h : SqL K H a xs) (e : LamX.ExtN H H') : SqL K H' a xs := by
  rcases h with (h | ⟨o, h⟩) | h
  · exact .inl (.inl (e _ _ h fun ps z => by cases z))
  · exact .inl (.inr ⟨o, e _ _ h fun ps z => by cases z⟩)
  · exact .inr h
end JW
namespace JW
open PySem PySem.Spec PyProof.Rows L2
section
variable {P : Program} {w : World} {K : PySem.W.Frag} {mg : Str → Option Value} {base : Heap} {C : Addr}
theorem DefAt.okX {x qual : Str} {st : Stmt} {N ps : List Str} {k : Nat} {sp : Sp} {dvs : List V} (D : DefAt K mg x qual st dvs ps) (S : FnScope N ps (defScope st)) (len : ∀ vs H Q E, sp vs H Q E → vs.length = ps.length)
    (hbody : ∀ (f : Addr) (cdv : Value) (A : Around) (outer : List Env) (s : Shared) (H : Hp) (vs : List V) (Q : VK) (E : XK), Room k (A.deeper (envOfC qual (defScope st) s.heap.objs.size f cdv)) → sp vs H Q E →
      ∃ t, PSs (cxOf (L2N.CX P w) P w K mg base N qual (defScope st) f cdv A outer s H E) (defBody st) t ∧ t { nx := fun _ H' => Q .non H', rt := Q } (start N vs) H) : CallD P w K mg base (L2N.CX P w) (k + 1) x ps [] sp := by
  obtain ⟨f, fd, h1, F, b⟩ := D.ex
  exact ⟨f, fd, [], h1, F.kp, b, .nil, F.ok S len fun cdv A outer s H vs Q E hr h => hbody f cdv A outer s H vs Q E hr h⟩
theorem MethAt.okX {m qual : Str} {st : Stmt} {N ps : List Str} {k : Nat} {sp : Sp} (D : MethAt K C m qual st ps) (S : FnScope N ps (defScope st)) (len : ∀ vs H Q E, sp vs H Q E → vs.length = ps.length)
    (hbody : ∀ (f : Addr) (cdv : Value) (A : Around) (outer : List Env) (s : Shared) (H : Hp) (vs : List V) (Q : VK) (E : XK), Room k (A.deeper (envOfC qual (defScope st) s.heap.objs.size f cdv)) → sp vs H Q E →
      ∃ t, PSs (cxOf (L2N.CX P w) P w K mg base N qual (defScope st) f cdv A outer s H E) (defBody st) t ∧ t { nx := fun _ H' => Q .non H', rt := Q } (start N vs) H) : MethD P w K mg base (L2N.CX P w) (k + 1) C m ps [] sp := by
  obtain ⟨f, fd, h1, F, b⟩ := D.ex
  exact ⟨f, fd, [], h1, b, .nil, F.ok S len fun cdv A outer s H vs Q E hr h => hbody f cdv A outer s H vs Q E hr h⟩
theorem InitAt.okX {x qual : Str} {st : Stmt} {N ps : List Str} {k : Nat} {sp : Sp} {dvs : List V} (D : InitAt K mg x C qual st dvs ps) (j : Nat) (hj : j ≤ dvs.length) (S : FnScope N ps (defScope st)) (len : ∀ vs H Q E, sp vs H Q E → vs.length = ps.length)
    (hbody : ∀ (f : Addr) (cdv : Value) (A : Around) (outer : List Env) (s : Shared) (H : Hp) (vs : List V) (Q : VK) (E : XK), Room k (A.deeper (envOfC qual (defScope st) s.heap.objs.size f cdv)) → sp vs H Q E →
      ∃ t, PSs (cxOf (L2N.CX P w) P w K mg base N qual (defScope st) f cdv A outer s H E) (defBody st) t ∧ t { nx := fun _ H' => Q .non H', rt := Q } (start N vs) H) : MakeD P w K mg base (L2N.CX P w) (k + 1) x C ps (dvs.drop j) sp := by
  obtain ⟨f, fd, h1, h2, F, b⟩ := D.ex
  obtain ⟨ds, r, hb⟩ := b j hj
  exact ⟨f, fd, ds, h1, h2, hb, r, F.ok S len fun cdv A outer s H vs Q E hr h => hbody f cdv A outer s H vs Q E hr h⟩
end
theorem passE {X : Cx} {E : XK} {E₁ : Value → Shared → Prop} (hs : X.stack = X.env :: X.outer) (hf : X.env.frame = some X.env.locals) (hex : X.ex = [])
    (hx : X.xe = fun e s' => wpAny (model X.prog X.w) X.A (leaving X.env e) (fun _ s'' => L2N.CX X.prog X.w X.outer X.H_0 X.s_0 E e s'') E₁ s') : Passes (L2N.CX X.prog X.w) X E :=
  L2N.passes_call (L2N.takes_of hs hf hex hx) fun _ _ _ _ h => h
section
variable {X : Cx} {CX : CXT} {k : Nat} {f C : Addr} {fd : FuncData} {ps : List Str} {sp : Sp} {dvs : List V} {ds : List Value} {E : L2.St → XK} {x m : Str} {p pos apos : Pos} {e o a b : Expr} {es : List Expr} {ta tb : TE} {t : TA}
theorem run_fnS2 {pins : List (Addr × Obj)} {σ : L2.St} {H : Hp} {s : Shared} {Q : VK} {us : List Value} {vs : List V} (F : FnOk X.prog X.w X.K X.mg X.base CX k f fd ps sp) (hr : Room k X.A) (hb : Binds X.K fd ps ds) (hd : Vals dvs ds) (hx : PassesAt CX X σ (E σ))
    (I : Inv X pins σ H s) (r : Vals vs us) (h : sp (vs ++ dvs) H Q (E σ)) : wpAny (model X.prog X.w) X.A (call (.ref f) us) (EP X pins σ Q) X.xe s := by
  have r2 : Vals (vs ++ dvs) (us ++ ds) := r.append hd
  have hl : (us ++ ds).length = ps.length := by rw [← r2.length]; exact F.len _ _ _ _ h
  refine wpAny_call (codeAny_mono (F.run X.A X.stack s H ⟨us, []⟩ (us ++ ds) (vs ++ dvs) Q (E σ) hr I.env0 (hb s us I.kIn hl) r2 h) fun r s' hq => ?_)
  cases r with
  | error e => exact hx pins H s e s' I hq
  | ok fl =>
    cases fl with
    | ret u => exact I.after hq
    | next => exact False.elim hq
    | brk => exact False.elim hq
    | cont => exact False.elim hq
def tCallS2 (sp : Sp) (dvs : List V) (E : L2.St → XK) (t : TA) : TE := fun σ H Q => t σ H fun vs H1 => sp (vs ++ dvs) H1 Q (E σ)
theorem pe_callDS (c : CallD X.prog X.w X.K X.mg X.base CX k x ps dvs sp) (hr : Room k X.A) (hg : Gl X x) (hx : ∀ σ, PassesAt CX X σ (E σ)) (ha : PA X (e :: es) t) (hdb : (x == ("__debug__" : Str)) = false := by decide)
    (he : starEach (e :: es) X.env = (false, eval e X.env) :: starEach es X.env := by rfl) (hpl : (backTo pos (starEach es X.env)).any (·.1) = false := by rfl) : PE X (.Call (.Name x p) (e :: es) [] pos) (tCallS2 sp dvs E t) := by
  obtain ⟨f, fd, ds, h1, h2, h3, h4, F⟩ := c.ex
  refine ⟨fun pins s σ H Q I h => ?_⟩
  refine wpAny_Call_Name_kw (ld_glob I hg h1 ?_ hdb)
  refine PySem.W.callWith_K (h₀ := X.base) I.ok.mod.kin h2 (thn (ha.run pos pins s σ H _ I h) fun us s1 ⟨vs, H1, I1, r, q⟩ => ⟨I1.kIn, ?_⟩) he hpl
  exact run_fnS2 F hr h3 h4 (hx σ) I1 r q
def tMethS (C : Addr) (m : Str) (sp : Sp) (dvs : List V) (E : L2.St → XK) (ta : TE) (t : TA) : TE := fun σ H Q => ta σ H fun x H1 => ∃ a dx fs, x = .ref a ∧ H1 a = some (.ins C dx fs) ∧ fs.lookup m = none ∧ t σ H1 fun vs H2 => sp (.ref a :: (vs ++ dvs)) H2 Q (E σ)
theorem pe_methDS {pl : Sem Bool} (c : Cls X.K C) (M : MethD X.prog X.w X.K X.mg X.base CX k C m ps dvs sp) (hr : Room k X.A) (hx : ∀ σ, PassesAt CX X σ (E σ)) (he : PE X o ta) (ha : PA X (e :: es) t)
    (hst : starEach (e :: es) X.env = (false, eval e X.env) :: starEach es X.env := by rfl) (hpl : (backTo pos (starEach es X.env)).any (·.1) = false := by rfl)
    (ht : eval (.Call (.Attribute o m apos) (e :: es) [] pos) X.env = (do
      let ov ← eval o X.env
      standAt apos.atName
      let (f, first) ← holding [ov] (getMethod ov m pl)
      callWith pos f first (backTo pos (starEach (e :: es) X.env)) (backToKw pos (keywordEach [] X.env))) := by rfl) : PE X (.Call (.Attribute o m apos) (e :: es) [] pos) (tMethS C m sp dvs E ta t) := by
  obtain ⟨f, fd, ds, h1, h2, h3, F⟩ := M.ex
  refine ⟨fun pins s σ H Q I h => ?_⟩
  refine PySem.W.methodCall_KW (pl := pl) (thn (he.run pins s σ H _ I h) fun u s1 ⟨x, H1, I1, rx, a, dx, fs, ex, ea, l, q⟩ => ?_) ht
  subst ex
  obtain rfl : u = Value.ref a := rx
  refine getmeth_ok I1 ea c h1 l ?_
  refine PySem.W.callWith_K (first := [.ref a]) (h₀ := X.base) I.ok.mod.kin h1.kp (thn (ha.run pos pins s1 σ H1 _ I1 q) fun us s2 ⟨vs, H2, I2, r, q2⟩ => ⟨I2.kIn, ?_⟩) hst hpl
  exact run_fnS2 (us := .ref a :: us) (vs := .ref a :: vs) F hr h2 h3 (hx σ) I2 (.cons rfl r) q2
def tBinS (C : Addr) (sp : Sp) (E : L2.St → XK) (ta tb : TE) : TE := fun σ H Q => ta σ H fun x H1 => tb σ H1 fun y H2 => rOwn C sp (E σ) x y H2 Q
theorem pe_binS {op : Operator} (hc : PySem.W.selfFirst X.K C = true) (M : MethD X.prog X.w X.K X.mg X.base CX k C (PySem.dunder op.info.2) ps [] sp) (hr : Room k X.A) (hx : ∀ σ, PassesAt CX X σ (E σ)) (ha : PE X a ta) (hb : PE X b tb) : PE X (.BinOp a op b pos) (tBinS C sp E ta tb) := by
  refine ⟨fun pins s σ H Q I h => ?_⟩
  refine wpAny_BinOp (thn (ha.run pins s σ H _ I h) fun v s1 ⟨x, H1, I1, rx, q1⟩ => thn (hb.run pins s1 σ H1 _ I1 q1) fun u s2 ⟨y, H2, I2, ry, q2⟩ => ?_)
  obtain ⟨a, dx, fs, b, dy, gs, rfl, rfl, ha, hb, q⟩ := q2
  cases rx
  cases ry
  obtain ⟨f, fd, ds, hm, hbd, hd, F⟩ := M.ex
  cases hd
  obtain ⟨mA, J, _⟩ := ins_get I2.hok ha
  obtain ⟨mB, J', _⟩ := ins_get I2.hok hb
  obtain ⟨od, J, _⟩ := J.look
  obtain ⟨od', J', _⟩ := J'.look
  obtain ⟨m, hF⟩ := I2.fr
  refine PySem.W.binop_K hF I2.ok.mod.kin J J'.type hc hm.at_ hm.fn ?_
  refine wpAny_mono (run_fnS2 (us := [.ref a, .ref b]) (vs := [.ref a, .ref b]) F hr hbd .nil (hx σ) I2 (.cons rfl (.cons rfl .nil)) q) (fun v s' z => ?_) fun _ _ z => z
  obtain ⟨v', H', I', r, _, q'⟩ := z
  exact relV_back r ⟨v', H', I', r, q'⟩
end
section
variable {X : Cx} {o e : Expr} {es : List Expr} {ta : TA} {x : Str} {p p' p1 p2 pos : Pos} {D : Addr} {mc : Value}
structure InitBy (K : PySem.W.Frag) (D : Addr) : Prop where
  ex : ∃ mc, ClX.CRead K D mc ∧ PySem.W.findCls K (.ref D) mc "__init__" = some (.val (.builtin "ValueError.__init__"))
theorem pe_cinit {pl : Sem Bool} (hg : Gl X x) (hm : X.mg x = some (.ref D)) (B : InitBy X.K D) (ha : PA X (e :: es) ta) (hdb : (x == ("__debug__" : Str)) = false := by decide)
    (hc : eval (.Call (.Attribute (.Name x p1) "__init__" p2) (e :: es) [] pos) X.env = (do
      let ov ← eval (.Name x p1) X.env
      standAt p2.atName
      let (f, first) ← holding [ov] (getMethod ov "__init__" pl)
      callWith pos f first (backTo pos (starEach (e :: es) X.env)) (backToKw pos (keywordEach [] X.env))) := by rfl)
    (he : starEach (e :: es) X.env = (false, eval e X.env) :: starEach es X.env := by rfl) (hpl : (backTo pos (starEach es X.env)).any (·.1) = false := by rfl) :
    PE X (.Call (.Attribute (.Name x p1) "__init__" p2) (e :: es) [] pos) (tVeI X.K ta) := by
  obtain ⟨mc, r, k⟩ := B.ex
  refine ⟨fun pins s σ H Q I h => ?_⟩
  refine PySem.W.methodCall_KW (ld_glob I hg hm ?_ hdb) hc
  refine PySem.W.method_cls I.kIn r.ga (PySem.W.cls_value I.kIn r.rd k (by decide +kernel) ?_)
  show wpAny _ _ (callWith pos (Value.builtin "ValueError.__init__") [] (backTo pos (starEach (e :: es) X.env)) []) _ _ _
  refine PyProof.Rows.callWith_method1 (thn (ha.run pos pins _ σ H _ (I.tok _) h) fun us s1 ⟨vs, H1, I1, r1, a, C, ws, ev, hl, T, ea, q⟩ => ?_) he hpl
  subst ev
  cases r1 with
  | @cons _ u0 _ ur ra rw' =>
    obtain rfl : u0 = Value.ref a := ra
    have hlen : ur.length ≤ sizeLine := by
      rw [← Paired.length rw', sizeLine_eq]
      omega
    exact oinit_ok T I1 ea hlen fun s' J => ⟨.non, H1, J, rfl, q⟩
end
structure ErrC (K : PySem.W.Frag) (C : Addr) : Prop where
  o : OexC K C
  xf : XfC K C
  ex : ExcC K C
structure ErrAt (K : PySem.W.Frag) (mg : Str → Option Value) (x : Str) (C : Addr) (qual : Str) (st : Stmt) (ps : List Str) : Prop where
  g : mg x = some (.ref C)
  c : ErrC K C
  ex : ∃ f fd, PySem.W.findIn K (.ref C) "__init__" = some (some (.ref f)) ∧ PySem.W.typeIn K (.ref f) = some (.type "function") ∧ FunD K "__init__" qual (defArgs st) (defBody st) (defScope st) [] [] f fd ∧ Binds K fd ps []
structure ErrD (P : Program) (w : World) (K : PySem.W.Frag) (mg : Str → Option Value) (base : Heap) (k : Nat) (x : Str) (C : Addr) (ps : List Str) (sp : Sp) : Prop where
  g : mg x = some (.ref C)
  c : ErrC K C
  ex : ∃ f fd, PySem.W.findIn K (.ref C) "__init__" = some (some (.ref f)) ∧ PySem.W.typeIn K (.ref f) = some (.type "function") ∧ Binds K fd ps [] ∧ FnOk P w K mg base CX0 k f fd ps sp
def spErr (K : PySem.W.Frag) (C : Addr) (f : Str) : Sp := fun vs H Q _ => ∃ a v, vs = [.ref a, v] ∧ H a = some (exo a C none) ∧ ∀ d, H d = none → d ≠ a → Q .non (upd (upd H d (exd d [(f, v)])) a (exo a C (some d)))
section
variable {P : Program} {w : World} {K : PySem.W.Frag} {mg : Str → Option Value} {base : Heap} {C : Addr} {x : Str}
theorem ErrAt.ok {qual : Str} {st : Stmt} {N ps : List Str} {k : Nat} {sp : Sp} (D : ErrAt K mg x C qual st ps) (S : FnScope N ps (defScope st)) (len : ∀ vs H Q E, sp vs H Q E → vs.length = ps.length)
    (hbody : ∀ (f : Addr) (cdv : Value) (A : Around) (outer : List Env) (s : Shared) (H : Hp) (vs : List V) (Q : VK) (E : XK), Room k (A.deeper (envOfC qual (defScope st) s.heap.objs.size f cdv)) → sp vs H Q E →
      ∃ t, PSs (cxOf CX0 P w K mg base N qual (defScope st) f cdv A outer s H E).nox (defBody st) t ∧ t { nx := fun _ H' => Q .non H', rt := Q } (start N vs) H) : ErrD P w K mg base (k + 1) x C ps sp := by
  obtain ⟨f, fd, h1, h2, F, b⟩ := D.ex
  exact ⟨D.g, D.c, f, fd, h1, h2, b, okF F S len fun cdv A outer s H vs Q E hr h => hbody f cdv A outer s H vs Q E hr h⟩
end
def tRaiseE (C : Addr) (f : Str) (ta : TE) : L2.St → Hp → XK → Prop := fun σ H Q => ta σ H fun v H1 => ∀ d H', L2.Same H1 H' → H1 d = none → H' d = some (.xd [(f, v)]) → Q (.ref C) (some d) H'
section
variable {X : Cx} {e : Expr} {te : TE} {p pos : Pos} {x f : Str} {C : Addr} {k : Nat} {ps : List Str}
end
def rIsX (K : PySem.W.Frag) (cls : Value) (d : Option Addr) (a : Addr) : List V → Hp → VK → Prop := fun xs H Q => ∃ (C : Addr) (c : V) (cv : Value) (b : Bool), cls = .ref C ∧ ExcC K C ∧ xs = [.ref a, c] ∧ (∀ u, RelV c u → u = cv) ∧ PySem.W.kitOne K (.ref C) cv = some b ∧ (∀ dd, d = some dd → ∃ fs, H dd = some (.xd fs)) ∧ Q (.bl b) H
end JW
namespace JW
open PySem PySem.Spec PyProof.Rows L2
structure BaseAt (mg : Str → Option Value) (x : Str) (C : Addr) : Prop where
  g : mg x = some (.ref C)
structure CmAt (K : PySem.W.Frag) (C : Addr) (m qual : Str) (st : Stmt) (ps : List Str) : Prop where
  ex : ∃ mc p f fd, ClX.CRead K C mc ∧ ClX.CMet K C mc m p f ∧ FunD K m qual (defArgs st) (defBody st) (defScope st) [] [] f fd ∧ Binds K fd ps []
structure CmD (P : Program) (w : World) (K : PySem.W.Frag) (mg : Str → Option Value) (base : Heap) (CX : CXT) (k : Nat) (C : Addr) (m : Str) (ps : List Str) (sp : Sp) : Prop where
  ex : ∃ mc p f fd, ClX.CRead K C mc ∧ ClX.CMet K C mc m p f ∧ Binds K fd ps [] ∧ FnOk P w K mg base CX k f fd ps sp
section
variable {P : Program} {w : World} {K : PySem.W.Frag} {mg : Str → Option Value} {base : Heap} {C : Addr}
theorem CmAt.okX {m qual : Str} {st : Stmt} {N ps : List Str} {k : Nat} {sp : Sp} (D : CmAt K C m qual st ps) (S : FnScope N ps (defScope st)) (len : ∀ vs H Q E, sp vs H Q E → vs.length = ps.length)
    (hbody : ∀ (f : Addr) (cdv : Value) (A : Around) (outer : List Env) (s : Shared) (H : Hp) (vs : List V) (Q : VK) (E : XK), Room k (A.deeper (envOfC qual (defScope st) s.heap.objs.size f cdv)) → sp vs H Q E →
      ∃ t, PSs (cxOf (L2N.CX P w) P w K mg base N qual (defScope st) f cdv A outer s H E) (defBody st) t ∧ t { nx := fun _ H' => Q .non H', rt := Q } (start N vs) H) : CmD P w K mg base (L2N.CX P w) (k + 1) C m ps sp := by
  obtain ⟨mc, p, f, fd, h1, h2, F, b⟩ := D.ex
  exact ⟨mc, p, f, fd, h1, h2, b, F.ok S len fun cdv A outer s H vs Q E hr h => hbody f cdv A outer s H vs Q E hr h⟩
theorem CmAt.ok {m qual : Str} {st : Stmt} {N ps : List Str} {k : Nat} {sp : Sp} {CX : CXT} (D : CmAt K C m qual st ps) (S : FnScope N ps (defScope st)) (len : ∀ vs H Q E, sp vs H Q E → vs.length = ps.length)
    (hbody : ∀ (f : Addr) (cdv : Value) (A : Around) (outer : List Env) (s : Shared) (H : Hp) (vs : List V) (Q : VK) (E : XK), Room k (A.deeper (envOfC qual (defScope st) s.heap.objs.size f cdv)) → sp vs H Q E →
      ∃ t, PSs (cxOf CX P w K mg base N qual (defScope st) f cdv A outer s H E).nox (defBody st) t ∧ t { nx := fun _ H' => Q .non H', rt := Q } (start N vs) H) : CmD P w K mg base CX (k + 1) C m ps sp := by
  obtain ⟨mc, p, f, fd, h1, h2, F, b⟩ := D.ex
  exact ⟨mc, p, f, fd, h1, h2, b, okF F S len fun cdv A outer s H vs Q E hr h => hbody f cdv A outer s H vs Q E hr h⟩
end
section
variable {X : Cx} {CX : CXT} {k : Nat} {C : Addr} {ps : List Str} {sp : Sp} {E : L2.St → XK} {x m : Str} {p1 apos pos : Pos} {e : Expr} {es : List Expr} {t : TA}
theorem seqTN {K : PySem.W.Frag} {H H' : Hp} {a : Addr} {xs : List V} (h : SqT K H a xs) (e : LamX.ExtN H H') : SqT K H' a xs := by
  rcases h with (h | ⟨o, h⟩) | h
  · exact .inl (.inl (e _ _ h fun ps z => by cases z))
  · exact .inl (.inr ⟨o, e _ _ h fun ps z => by cases z⟩)
  · exact .inr h
theorem passN {E : XK} (h : Passes CX X E) : ∀ σ : L2.St, PassesAt CX X σ ((fun _ => E) σ) := fun σ pins H s e s' I c => h pins σ H s e s' I c
end
end JW
namespace JW
theorem lngL_closed : ∀ {l : List T}, jtsL l = 0 → lngL l = 0
  | [], _ => rfl
  | t :: r, h => by
    have h2 : t.jts + jtsL r = 0 := h
    show ite _ _ _ = 0
    rw [if_pos (by omega)]
    exact lngL_closed (by omega)
theorem grfL_jts (p : T) (l : List T) : jtsL (l.map (T.grf p)) = jtsL l * p.jts := by
  have h := grf_jts p (.bas l)
  rw [grf_bas] at h
  have h2 : jtsL (sortT (l.map (T.grf p))) = jtsL l * p.jts := h
  rw [jtsL_perm (sortT_perm _)] at h2
  exact h2
theorem grf_dep (p : T) : ∀ t : T, (T.grf p t).dep = if t.jts = 0 then t.dep else max t.dep (t.lng + p.dep) := by
  refine T.ind' ?_ fun l ih => ?_
  · show p.dep = ite ((1 : Nat) = 0) 0 (max 0 (0 + p.dep))
    rw [if_neg (by decide)]
    omega
  rw [grf_bas]
  show 1 + depL (sortT (l.map (T.grf p))) = ite (jtsL l = 0) (1 + depL l) (max (1 + depL l) (1 + lngL l + p.dep))
  rw [depL_perm (sortT_perm _)]
  have go : ∀ l : List T, (∀ t ∈ l, (T.grf p t).dep = if t.jts = 0 then t.dep else max t.dep (t.lng + p.dep)) → depL (l.map (T.grf p)) = if jtsL l = 0 then depL l else max (depL l) (lngL l + p.dep) := by
    intro l
    induction l with
    | nil => intro _; rfl
    | cons t r ihr =>
      intro h
      have h1 := h t List.mem_cons_self
      have h2 := ihr fun u hu => h u (List.mem_cons_of_mem _ hu)
      show max (T.grf p t).dep (depL (r.map (T.grf p))) = ite (t.jts + jtsL r = 0) (max t.dep (depL r)) (max (max t.dep (depL r)) ((if t.jts = 0 then lngL r else max t.lng (lngL r)) + p.dep))
      rw [h1, h2]
      by_cases ht : t.jts = 0 <;> by_cases hr : jtsL r = 0
      · simp [ht, hr]
      · simp [ht, hr] <;> omega
      · rw [lngL_closed hr]; simp [ht, hr] <;> omega
      · simp [ht, hr] <;> omega
  rw [go l ih]
  by_cases h : jtsL l = 0
  · simp [h]
  · simp [h]; omega
theorem mul_zero_iff {a b : Nat} (hb : b ≠ 0) : a * b = 0 ↔ a = 0 := ⟨fun h => (Nat.mul_eq_zero.mp h).resolve_right hb, fun h => by rw [h, Nat.zero_mul]⟩
theorem grf_lng {p : T} (hp : p.jts ≠ 0) : ∀ t : T, t.jts ≠ 0 → (T.grf p t).lng = t.lng + p.lng := by
  refine T.ind' (fun _ => (Nat.zero_add _).symm) fun l ih h => ?_
  rw [grf_bas]
  show 1 + lngL (sortT (l.map (T.grf p))) = 1 + lngL l + p.lng
  rw [lngL_perm (sortT_perm _)]
  have go : ∀ l : List T, (∀ t ∈ l, t.jts ≠ 0 → (T.grf p t).lng = t.lng + p.lng) → jtsL l ≠ 0 → lngL (l.map (T.grf p)) = lngL l + p.lng := by
    intro l
    induction l with
    | nil => intro _ h; exact absurd rfl h
    | cons t r ihr =>
      intro h hl
      have hl2 : t.jts + jtsL r ≠ 0 := hl
      have h1 := h t List.mem_cons_self
      have h2 := ihr fun u hu => h u (List.mem_cons_of_mem _ hu)
      have e1 : (T.grf p t).jts = 0 ↔ t.jts = 0 := by rw [grf_jts]; exact mul_zero_iff hp
      show ite ((T.grf p t).jts = 0) _ (max (T.grf p t).lng (lngL (r.map (T.grf p)))) = ite (t.jts = 0) (lngL r) (max t.lng (lngL r)) + p.lng
      by_cases ht : t.jts = 0
      · rw [if_pos (e1.mpr ht), if_pos ht]
        exact h2 (by omega)
      · rw [if_neg (fun z => ht (e1.mp z)), if_neg ht, h1 ht]
        by_cases hr : jtsL r = 0
        · rw [lngL_closed hr, lngL_closed (by rw [grfL_jts, hr, Nat.zero_mul])]
          omega
        · rw [h2 hr]
          omega
  rw [go l ih h]
  omega
theorem grf_sht {p : T} (hp : p.jts ≠ 0) : ∀ t : T, t.jts ≠ 0 → (T.grf p t).sht = t.sht + p.sht := by
  refine T.ind' (fun _ => (Nat.zero_add _).symm) fun l ih h => ?_
  rw [grf_bas]
  show 1 + shtL (sortT (l.map (T.grf p))) = 1 + shtL l + p.sht
  rw [shtL_perm (sortT_perm _)]
  have go : ∀ l : List T, (∀ t ∈ l, t.jts ≠ 0 → (T.grf p t).sht = t.sht + p.sht) → jtsL l ≠ 0 → shtL (l.map (T.grf p)) = shtL l + p.sht := by
    intro l
    induction l with
    | nil => intro _ h; exact absurd rfl h
    | cons t r ihr =>
      intro h hl
      have hl2 : t.jts + jtsL r ≠ 0 := hl
      have h1 := h t List.mem_cons_self
      have h2 := ihr fun u hu => h u (List.mem_cons_of_mem _ hu)
      have e1 : (T.grf p t).jts = 0 ↔ t.jts = 0 := by rw [grf_jts]; exact mul_zero_iff hp
      have e2 : jtsL (r.map (T.grf p)) = 0 ↔ jtsL r = 0 := by rw [grfL_jts]; exact mul_zero_iff hp
      show ite ((T.grf p t).jts = 0) _ (ite (jtsL (r.map (T.grf p)) = 0) (T.grf p t).sht (min (T.grf p t).sht (shtL (r.map (T.grf p))))) = ite (t.jts = 0) (shtL r) (ite (jtsL r = 0) t.sht (min t.sht (shtL r))) + p.sht
      by_cases ht : t.jts = 0
      · rw [if_pos (e1.mpr ht), if_pos ht]
        exact h2 (by omega)
      · rw [if_neg (fun z => ht (e1.mp z)), if_neg ht, h1 ht]
        by_cases hr : jtsL r = 0
        · rw [if_pos (e2.mpr hr), if_pos hr]
        · rw [if_neg (fun z => hr (e2.mp z)), if_neg hr, h2 hr]
          omega
  rw [go l ih h]
  omega
theorem grf_size_le (p t : T) : t.size ≤ (T.grf p t).size := by
  have h := grf_size p t
  have h2 := size_pos p
  have h3 : t.jts * 1 ≤ t.jts * p.size := Nat.mul_le_mul_left _ h2
  omega
theorem grf_dep_le (p t : T) : t.dep ≤ (T.grf p t).dep := by
  rw [grf_dep]
  split <;> omega
def prodT : List T → T := List.foldl (fun f t => T.grf t f) .jet
theorem prod_snoc (l : List T) (t : T) : prodT (l ++ [t]) = T.grf t (prodT l) := by
  unfold prodT
  rw [List.foldl_append] <;> rfl
theorem fold_le : ∀ (r : List T) (f : T), f.size ≤ (r.foldl (fun f t => T.grf t f) f).size ∧ f.dep ≤ (r.foldl (fun f t => T.grf t f) f).dep
  | [], f => ⟨Nat.le_refl _, Nat.le_refl _⟩
  | t :: r, f => by
    obtain ⟨h1, h2⟩ := fold_le r (T.grf t f)
    exact ⟨Nat.le_trans (grf_size_le t f) h1, Nat.le_trans (grf_dep_le t f) h2⟩
theorem prod_take_le (l : List T) (i : Nat) : (prodT (l.take i)).size ≤ (prodT l).size ∧ (prodT (l.take i)).dep ≤ (prodT l).dep := by
  have e : prodT l = (l.drop i).foldl (fun f t => T.grf t f) (prodT (l.take i)) := by
    unfold prodT
    rw [← List.foldl_append, List.take_append_drop]
  rw [e]
  exact fold_le _ _
theorem prod_can {l : List T} (h : ∀ t ∈ l, Can t) : Can (prodT l) := by
  have go : ∀ (l : List T) (f : T), Can f → (∀ t ∈ l, Can t) → Can (l.foldl (fun f t => T.grf t f) f) := by
    intro l
    induction l with
    | nil => intro f hf _; exact hf
    | cons t r ih => intro f hf hl; exact ih _ (grf_can (hl t List.mem_cons_self) f) fun u hu => hl u (List.mem_cons_of_mem _ hu)
  exact go l .jet trivial h
theorem prod_two (a b : T) : prodT [a, b] = T.grf b a := rfl
def T.kd : T → List T
  | .jet => []
  | .bas l => l
def subT : List Nat → T → Option T
  | [], t => some t
  | i :: r, t => (t.kd[i]?).bind (subT r)
def repT (p : T) : List Nat → T → T
  | [], _ => p
  | i :: r, t => .bas (sortT (t.kd.set i (repT p r (t.kd.getD i .jet))))
theorem sizeL_set : ∀ {l : List T} {i : Nat} {t : T} (x : T), l[i]? = some t → sizeL (l.set i x) + t.size = sizeL l + x.size
  | u :: r, 0, t, x, h => by
    have e : u = t := by simpa using h
    show x.size + sizeL r + t.size = u.size + sizeL r + x.size
    rw [e]; omega
  | u :: r, i + 1, t, x, h => by
    have ih := sizeL_set (l := r) (i := i) x (by simpa using h)
    show u.size + sizeL (r.set i x) + t.size = u.size + sizeL r + x.size
    omega
theorem kd_get {t u : T} {i : Nat} (h : t.kd[i]? = some u) : t.kd.getD i .jet = u := by
  rw [List.getD_eq_getElem?_getD, h] <;> rfl
theorem kd_size {t u : T} {i : Nat} (h : t.kd[i]? = some u) : t = .bas t.kd := by
  cases t with
  | jet => cases h
  | bas l => rfl
theorem rep_size (p : T) : ∀ (path : List Nat) (t u : T), subT path t = some u → (repT p path t).size + u.size = t.size + p.size
  | [], t, u, h => by
    have e : t = u := Option.some.inj h
    show p.size + u.size = t.size + p.size
    rw [e]; omega
  | i :: r, t, u, h => by
    have h2 : (t.kd[i]?).bind (subT r) = some u := h
    obtain ⟨k, e1, e2⟩ := Option.bind_eq_some_iff.mp h2
    have ih := rep_size p r k u e2
    show 1 + sizeL (sortT (t.kd.set i (repT p r (t.kd.getD i .jet)))) + u.size = t.size + p.size
    rw [sizeL_perm (sortT_perm _), kd_get e1]
    have h3 := sizeL_set (repT p r k) e1
    have h4 : t.size = 1 + sizeL t.kd := by rw [kd_size e1]; rfl
    omega
theorem rep_can {p : T} (hp : Can p) : ∀ (path : List Nat) (t : T), Can t → Can (repT p path t)
  | [], t, _ => hp
  | i :: r, t, h => by
    have hk : CanL t.kd := by
      cases t with
      | jet => exact trivial
      | bas l => exact h.2
    have hg : Can (t.kd.getD i .jet) := by
      rw [List.getD_eq_getElem?_getD]
      cases e : t.kd[i]? with
      | none => exact trivial
      | some u => exact canL_iff.mp hk u (List.mem_of_getElem? e)
    refine can_bas (canL_iff.mpr fun u hu => ?_)
    rcases List.mem_or_eq_of_mem_set hu with e | e
    · exact canL_iff.mp hk u e
    · rw [e]
      exact rep_can hp r _ hg
theorem sub_dep : ∀ (path : List Nat) (t u : T), subT path t = some u → path.length ≤ t.dep
  | [], t, u, _ => Nat.zero_le _
  | i :: r, t, u, h => by
    have h2 : (t.kd[i]?).bind (subT r) = some u := h
    obtain ⟨k, e1, e2⟩ := Option.bind_eq_some_iff.mp h2
    have ih := sub_dep r k u e2
    have h3 : k.dep < t.dep := by
      rw [kd_size e1]
      exact dep_lt (List.mem_of_getElem? e1)
    show r.length + 1 ≤ t.dep
    omega
end JW
namespace JW
open PySem PySem.Spec PyProof.Rows L2
theorem rep_cps (c : Nat) : ∀ (n : Nat) (a : Array Nat), (List.replicate n #[c]).foldl (· ++ ·) a = a ++ (List.replicate n c).toArray
  | 0, a => by simp
  | n + 1, a => by
    rw [List.replicate_succ, List.foldl_cons, rep_cps c n, List.replicate_succ]
    apply Array.ext'
    simp
def rRepS : R2 := fun x y H Q => ∃ (c n : Nat), x = .str (SX.S [c]) ∧ y = .int n ∧ 1 ≤ n ∧ n ≤ 100000 ∧ Q (.str (SX.S (List.replicate n c))) H
theorem op_rep_str {X : Cx} : OpR X (binaryOp .Mult) rRepS := by
  intro pins s σ H x y v u Q I rx ry h
  obtain ⟨c, n, rfl, rfl, h1, h2, q⟩ := h
  obtain ⟨t, rfl⟩ := rx
  obtain ⟨t2, rfl⟩ := ry
  have hl1 : (SX.S [c]).length = 1 := rfl
  refine PySem.P.mul_str (by rw [decide_eq_false (by omega), decide_eq_false (by omega)]; rfl) (fun _ _ => ?_) (fun _ _ => ?_) ?_
  · rw [hl1]
    have h3 : (1 : Int) ≤ (2 ^ 63 - 1) / (n : Int) := by
      rw [Int.le_ediv_iff_mul_le (by omega)]
      omega
    show ¬ (((1 : Nat) : Int) > _)
    omega
  · rw [hl1]
    exact decide_eq_false (show ¬ (1 * ((n : Nat) : Int).toNat > sizeLine) by rw [sizeLine_eq]; omega)
  · rw [if_neg (by omega)]
    by_cases e : n = 1
    · subst e
      rw [if_pos (show (((1 : Nat) : Int) == 1 || (SX.S [c]).length == 0) = true from rfl)]
      exact ⟨.str (SX.S [c]), H, I, ⟨t, rfl⟩, q⟩
    · rw [if_neg (by rw [hl1]; simp; omega)]
      have e2 : (⟨(List.replicate ((n : Nat) : Int).toNat (SX.S [c]).cps).foldl (· ++ ·) #[]⟩ : Str) = SX.S (List.replicate n c) := by
        show (⟨(List.replicate n #[c]).foldl (· ++ ·) #[]⟩ : Str) = ⟨(List.replicate n c).toArray⟩
        rw [rep_cps]
        simp
      rw [e2]
      exact ⟨by rw [SX.S_len, List.length_replicate, sizeLine_eq]; omega, .str (SX.S (List.replicate n c)), H, I.tok _, ⟨_, rfl⟩, q⟩
end JW
namespace JW
open PySem PySem.Spec PyProof.Rows L2 LamX
def ExtF (d : Addr) (H H' : Hp) : Prop := ∀ b o, b ≠ d → H b = some o → (∀ ps, o ≠ .tbl ps) → H' b = some o
section
variable {d : Addr} {H H1 H' : Hp} {C : Addr}
theorem ExtF.refl (d : Addr) (H : Hp) : ExtF d H H := fun _ _ _ h _ => h
theorem ExtF.trans (a : ExtF d H H1) (b : ExtF d H1 H') : ExtF d H H' := fun c o h1 h n => b c o h1 (a c o h1 h n) n
theorem FeedAt.extN (h : FeedAt H d) (e : ExtN H H') : FeedAt H' d := by
  obtain ⟨a, b, c, z⟩ := h
  exact ⟨a, b, c, e _ _ z fun ps q => by cases q⟩
theorem ExtF.mine {H0 : Hp} (a : L2.Same H0 H) (hd : H0 d = none) (b : ExtF d H H') : ExtN H0 H' := fun c o h n => b c o (ne_of_none h hd) (a c o h) n
mutual
theorem ftn_extF (f : FeedAt H d) (s : ExtF d H H') : ∀ (t : T) (v : V), Ftn C H t v → Ftn C H' t v
  | .jet, v, h => by
    have h2 : ∃ a dx b n, v = .ref a ∧ H a = some (.ins C dx (flds .jet b n)) ∧ H b = some (.tup []) ∧ H n = some (.tup (nums .jet)) := h
    obtain ⟨a, dx, b, n, ev, h1, h2, h3⟩ := h2
    obtain ⟨x, y, z, e⟩ := f
    exact ⟨a, dx, b, n, ev, s _ _ (ne_of h1 e fun z => by cases z) h1 (fun ps z => by cases z), s _ _ (ne_of h2 e fun z => by cases z) h2 (fun ps z => by cases z), s _ _ (ne_of h3 e fun z => by cases z) h3 (fun ps z => by cases z)⟩
  | .bas l, v, h => by
    have h2 : ∃ a dx b n vs, v = .ref a ∧ H a = some (.ins C dx (flds (.bas l) b n)) ∧ H b = some (.tup vs) ∧ H n = some (.tup (nums (.bas l))) ∧ FtnL C H l vs := h
    obtain ⟨a, dx, b, n, vs, ev, h1, h2, h3, h4⟩ := h2
    have h4' := ftnL_extF f s l vs h4
    obtain ⟨x, y, z, e⟩ := f
    exact ⟨a, dx, b, n, vs, ev, s _ _ (ne_of h1 e fun z => by cases z) h1 (fun ps z => by cases z), s _ _ (ne_of h2 e fun z => by cases z) h2 (fun ps z => by cases z), s _ _ (ne_of h3 e fun z => by cases z) h3 (fun ps z => by cases z), h4'⟩
theorem ftnL_extF (f : FeedAt H d) (s : ExtF d H H') : ∀ (l : List T) (vs : List V), FtnL C H l vs → FtnL C H' l vs
  | [], vs, h => h
  | t :: ts, vs, h => by
    have h2 : ∃ v r, vs = v :: r ∧ Ftn C H t v ∧ FtnL C H ts r := h
    obtain ⟨v, r, ev, h1, h2⟩ := h2
    exact ⟨v, r, ev, ftn_extF f s t v h1, ftnL_extF f s ts r h2⟩
end
theorem Ftn.fx {t : T} {v : V} (h : Ftn C H t v) (f : FeedAt H d) (s : ExtF d H H') : Ftn C H' t v := ftn_extF f s t v h
end
end JW
namespace JW
open PySem PySem.Spec PyProof.Rows L2 He
def seenN (vis a : Nat) : Bool := Nat.beq (Nat.mod (Nat.shiftRight vis a) 2) 1
def addF {β : Type} : List Addr → Nat → List Addr → (Nat → List Addr → β) → β
  | [], vis, acc, k => k vis acc
  | a :: r, vis, acc, k => match seenN vis a with
    | true => addF r vis acc k
    | false => HandSHeadRun.frNat (Nat.lor vis (Nat.shiftLeft 1 a)) fun v => addF r v (a :: acc) k
def expandF {β : Type} (g : Addr → Option Obj) : List Addr → Nat → List Addr → (Nat → List Addr → β) → β
  | [], vis, acc, k => k vis acc
  | a :: r, vis, acc, k => match g a with
    | some o => addF (refsD o) vis acc fun v acc => expandF g r v acc k
    | none => expandF g r vis acc k
def levelsF (g : Addr → Option Obj) : Nat → List Addr → List Addr → Nat → List Addr
  | 0, all, fr, _ => all ++ fr
  | n + 1, all, fr, vis => expandF g fr vis [] fun v nf => levelsF g n (all ++ fr) nf v
def asE (g : Addr → Option Obj) (n : Nat) : List Addr := levelsF g n [] [mainGlobals] (Nat.shiftLeft 1 mainGlobals) ++ [PySem.cStatics]
structure FxD where
  adr : PySem.W.Frag → Addr
  name : Str
  qual : Str
  params : Arguments
  body : List Stmt
  scope : Scope
def FxD.val (d : FxD) : FnW := some (d.name, d.qual, d.params, .stmts d.body, d.scope, mainGlobals, [], builtinsNs)
def FxD.okF (K : PySem.W.Frag) (d : FxD) : Bool := PySem.W.keepIn K (.ref (d.adr K)) && (match K.lookup (d.adr K) with
  | some ⟨_, _, .func fd, _⟩ => PySem.W.codeIn K fd.code d.qual && (dflB K fd.defaults [] && kwdB K fd.kwdefaults [])
  | _ => false)
theorem FxD.funD {K : PySem.W.Frag} {d : FxD} (e : fnWa K (d.adr K) = d.val) (c : d.okF K = true) : ∃ fd, FunD K d.name d.qual d.params d.body d.scope [] [] (d.adr K) fd := by
  obtain ⟨kp, c2⟩ := ba c
  unfold fnWa at e
  cases q : K.lookup (d.adr K) with
  | none =>
    rw [q] at c2
    cases c2
  | some o =>
    obtain ⟨oc, od, dt, osl⟩ := o
    rw [q] at c2 e
    cases dt with
    | func fd =>
      obtain ⟨m1, m2, m3, m4, m5, m6, m7, m8, m9, m10, m11, m12, m13, m14, m15⟩ := fd
      have e2 : (some (m1, m2, m3, m4, m5, m6, m7, m15) : FnW) = some (d.name, d.qual, d.params, .stmts d.body, d.scope, mainGlobals, [], builtinsNs) := e
      simp only [Option.some.injEq, Prod.mk.injEq] at e2
      obtain ⟨h1, h2, h3, h4, h5, h6, h7, h8⟩ := e2
      subst h1 h2 h3 h4 h5 h6 h7 h8
      have c3 : (PySem.W.codeIn K m13 d.qual && (dflB K m8 [] && kwdB K m9 [])) = true := c2
      obtain ⟨k1, k2⟩ := ba c3
      obtain ⟨k3, k4⟩ := ba k2
      exact ⟨_, ⟨oc, od, m8, m9, m10, m11, m12, m13, m14, osl, rfl, q, k1, dflB_ok k3, kwdB_ok k4⟩, kp⟩
    | _ => cases c2
def propB (K : PySem.W.Frag) (p : Str × Str) : Bool := PrD.okP K ⟨p, "", "", defArgs (.Pass ⟨0, 0, 0, 0⟩), [], defScope (.Pass ⟨0, 0, 0, 0⟩)⟩
theorem propB_ok {K : PySem.W.Frag} {p : Str × Str} (h : propB K p = true) : PropOf K (ga K p.1) p.2 (ma K (ga K p.1) p.2) (gAd K p) := PrD.propOf (d := ⟨p, "", "", defArgs (.Pass ⟨0, 0, 0, 0⟩), [], defScope (.Pass ⟨0, 0, 0, 0⟩)⟩) h
def cmAd (K : PySem.W.Frag) (p : Str × Str) : Addr := match PySem.W.findCls K (.ref (ga K p.1)) (.type "type") p.2 with
  | some (.get _ (.ref q) _ _) => q
  | _ => 0
def cgAd (K : PySem.W.Frag) (p : Str × Str) : Addr := match PySem.W.recIn K (cmAd K p) "classmethod" with
  | some (.ref g :: _) => g
  | _ => 0
def readB (K : PySem.W.Frag) (C : Addr) : Bool := PySem.W.readsIn K C (.type "type") && eqO (PySem.W.specialIn K (.ref C) "__getattribute__") (some (some (.builtin "type.__getattribute__")))
theorem readB_ok {K : PySem.W.Frag} {C : Addr} (h : readB K C = true) : ClX.CRead K C (.type "type") := by
  obtain ⟨h1, h2⟩ := ba h
  exact ⟨h1, eqO_ok h2⟩
def cmB (K : PySem.W.Frag) (p : Str × Str) : Bool := readB K (ga K p.1) && ((match PySem.W.findCls K (.ref (ga K p.1)) (.type "type") p.2 with
  | some (.get (.builtin i) (.ref _) .none (.ref c)) => decide (i = "classmethod.__get__") && decide (c = ga K p.1)
  | _ => false) && ((match PySem.W.recIn K (cmAd K p) "classmethod" with
  | some (.ref _ :: _) => true
  | _ => false) && PySem.W.fnIn K (cgAd K p)))
theorem cmB_ok {K : PySem.W.Frag} {p : Str × Str} (h : cmB K p = true) : ClX.CRead K (ga K p.1) (.type "type") ∧ ClX.CMet K (ga K p.1) (.type "type") p.2 (cmAd K p) (cgAd K p) := by
  obtain ⟨h1, h⟩ := ba h
  obtain ⟨h2, h⟩ := ba h
  obtain ⟨h3, h4⟩ := ba h
  refine ⟨readB_ok h1, ?_, ?_, h4⟩
  · unfold cmAd
    generalize PySem.W.findCls K (.ref (ga K p.1)) (.type "type") p.2 = r at h2 ⊢
    cases r with
    | none => cases h2
    | some f =>
      cases f with
      | val v => cases h2
      | get g a o t =>
        cases g with
        | builtin i =>
          cases a with
          | ref q =>
            cases o with
            | none =>
              cases t with
              | ref c =>
                obtain ⟨z1, z2⟩ := ba (show (decide (i = "classmethod.__get__") && decide (c = ga K p.1)) = true from h2)
                rw [of_decide_eq_true z1, of_decide_eq_true z2]
              | _ => cases h2
            | _ => cases h2
          | _ => cases h2
        | _ => cases h2
  · unfold cgAd
    generalize PySem.W.recIn K (cmAd K p) "classmethod" = r at h3 ⊢
    cases r with
    | none => cases h3
    | some l =>
      cases l with
      | nil => cases h3
      | cons v rest =>
        cases v with
        | ref g => exact ⟨rest, rfl⟩
        | _ => cases h3
def oexB (K : PySem.W.Frag) (C : Addr) : Bool := (match K.lookup C with
  | some ⟨.type t, _, .cls cd, sl⟩ => decide (t = "type") && (match cd.mro, sl.toList with
    | .ref c :: bm, [_, _, _, _, some (.builtin n), _] => decide (c = C) && (decide (n = "ValueError.__new__") && (!cd.hasDel && (cd.hasDict && PySem.HandSPX.refsVE bm)))
    | _, _ => false)
  | _ => false) && (eqO (PySem.W.findIn K (.ref C) "__setattr__") (some (some (.builtin "object.__setattr__"))) && (decide (PySem.W.subIn K (.ref C) (.type "BaseException") = some true) && (decide (PySem.W.typeIn K (.ref C) = some (.type "type")) && PySem.W.keepIn K (.ref C))))
theorem oexB_ok {K : PySem.W.Frag} {C : Addr} (h : oexB K C = true) : OexC K C := by
  obtain ⟨h1, h⟩ := ba h
  obtain ⟨h2, h⟩ := ba h
  obtain ⟨h3, h⟩ := ba h
  obtain ⟨h4, h5⟩ := ba h
  refine ⟨?_, eqO_ok h2, of_decide_eq_true h3, of_decide_eq_true h4, h5⟩
  cases q : K.lookup C with
  | none =>
    rw [q] at h1
    cases h1
  | some o =>
    obtain ⟨oc, od, dt, sl⟩ := o
    rw [q] at h1
    cases oc with
    | type t =>
      cases dt with
      | cls cd =>
        obtain ⟨z1, z2⟩ := ba h1
        obtain ⟨nm, bs, mro, ns, qn, hd, sn, sub, ab, col, del⟩ := cd
        dsimp only at z2
        cases mro with
        | nil => cases z2
        | cons v bm =>
          cases v with
          | ref c =>
            obtain ⟨sl⟩ := sl
            match sl, z2 with
            | [k0, k1, k2, k3, some (.builtin n), k5], z2 =>
              obtain ⟨y1, y⟩ := ba (show (decide (c = C) && (decide (n = "ValueError.__new__") && (!del && (hd && PySem.HandSPX.refsVE bm)))) = true from z2)
              obtain ⟨y2, y⟩ := ba y
              obtain ⟨y3, y⟩ := ba y
              obtain ⟨y4, y5⟩ := ba y
              have ec := of_decide_eq_true y1
              have en := of_decide_eq_true y2
              have ed : del = false := by simpa using y3
              have et := of_decide_eq_true z1
              subst ec en ed et y4
              exact ⟨nm, qn, ns, bs, bm, sn, sub, ab, col, od, k0, k1, k2, k3, k5, rfl, y5⟩
          | _ => cases z2
      | _ => cases h1
    | _ => cases h1
def excB (K : PySem.W.Frag) (D : Addr) : Bool := eqO (PySem.W.findIn K (.ref D) "__getattribute__") (some (some (.builtin "BaseException.__getattribute__"))) && (eqO (PySem.W.findIn K (.ref D) "__getattr__") (some none) &&
  (decide (PySem.W.subIn K (.ref D) (.type "BaseException") = some true) && (PySem.W.hasDictIn K D && (eqO (PySem.W.findIn K (.ref D) "__class__") (some (some (.builtin "object.__class__"))) &&
  (eqO (PySem.W.specialIn K (.builtin "object.__class__") "__get__") (some (some (.builtin "getset_descriptor.__get__"))) && (decide (PySem.W.takesIn K (.builtin "object.__class__") = some true) && decide (PySem.W.mroIn K D (.type "object") = some true)))))))
theorem excB_ok {K : PySem.W.Frag} {D : Addr} (h : excB K D = true) : ExcC K D := by
  obtain ⟨h1, h⟩ := ba h
  obtain ⟨h2, h⟩ := ba h
  obtain ⟨h3, h⟩ := ba h
  obtain ⟨h4, h⟩ := ba h
  obtain ⟨h5, h⟩ := ba h
  obtain ⟨h6, h⟩ := ba h
  obtain ⟨h7, h8⟩ := ba h
  exact ⟨eqO_ok h1, eqO_ok h2, of_decide_eq_true h3, h4, eqO_ok h5, eqO_ok h6, of_decide_eq_true h7, of_decide_eq_true h8⟩
def errB (K : PySem.W.Frag) (x : Str) : Bool := oexB K (ga K x) && (xfB K (ga K x) && (excB K (ga K x) && (eqO (PySem.W.findIn K (.ref (ga K x)) "__init__") (some (some (.ref (ma K (ga K x) "__init__")))) && decide (PySem.W.typeIn K (.ref (ma K (ga K x) "__init__")) = some (.type "function")))))
theorem errB_ok {K : PySem.W.Frag} {x : Str} (h : errB K x = true) : ErrC K (ga K x) ∧ PySem.W.findIn K (.ref (ga K x)) "__init__" = some (some (.ref (ma K (ga K x) "__init__"))) ∧ PySem.W.typeIn K (.ref (ma K (ga K x) "__init__")) = some (.type "function") := by
  obtain ⟨h1, h⟩ := ba h
  obtain ⟨h2, h⟩ := ba h
  obtain ⟨h3, h⟩ := ba h
  obtain ⟨h4, h5⟩ := ba h
  exact ⟨⟨oexB_ok h1, xfB_ok h2, excB_ok h3⟩, eqO_ok h4, of_decide_eq_true h5⟩
def baseB (K : PySem.W.Frag) (x : Str) : Bool := readB K (ga K x) && (match PySem.W.findCls K (.ref (ga K x)) (.type "type") "__init__" with
  | some (.val (.builtin i)) => decide (i = "ValueError.__init__")
  | _ => false)
theorem baseB_ok {K : PySem.W.Frag} {x : Str} (h : baseB K x = true) : InitBy K (ga K x) := by
  obtain ⟨h1, h2⟩ := ba h
  refine ⟨.type "type", readB_ok h1, ?_⟩
  generalize PySem.W.findCls K (.ref (ga K x)) (.type "type") "__init__" = r at h2 ⊢
  cases r with
  | none => cases h2
  | some f =>
    cases f with
    | get g a o t => cases h2
    | val v =>
      cases v with
      | builtin i => rw [of_decide_eq_true h2]
      | _ => cases h2
def kitB (K : PySem.W.Frag) (q : Str × Str × Bool) : Bool := decide (PySem.W.kitOne K (.ref (ga K q.1)) (.ref (ga K q.2.1)) = some q.2.2)
def exmB (K : PySem.W.Frag) (q : Str × Str × Bool) : Bool := decide (PySem.W.exmOne K (.ref (ga K q.1)) (.ref (ga K q.2.1)) = some q.2.2)
structure SaysE (fa : List Fa) (fn : List DefD) (tf : List Defn) (ex : PySem.W.Frag → Bool) (fx : List FxD) (h : Heap) (K : PySem.W.Frag) : Prop where
  d : SaysD fa fn K
  more : ex K = true
  hd : ∀ p ∈ tf, PySem.W.codeHdIn K (cT K p).1 (cT K p).2 = true
  out : ∀ p ∈ tf, K.lookup (cT K p).2 = none
  empty : ∀ p ∈ tf, h.get? (cT K p).2 = some { cls := .none, data := .fields #[] }
  p : fx.map (fun d => fnWa K (d.adr K)) = fx.map FxD.val
  ok : (fx.all fun d => d.okF K) = true
abbrev AlE : Type := AlD × Bool × List FnW × Bool
def obsE' (fa : List Fa) (fn : List DefD) (tf : List Defn) (ex : PySem.W.Frag → Bool) (fx : List FxD) (g : Addr → Option Obj) (K : PySem.W.Frag) : AlE :=
  (obsD fa fn K, ex K && tabsB g tf K, fx.map (fun d => fnWa K (d.adr K)), fx.all fun d => d.okF K)
def obsE (n : Nat) (fa : List Fa) (fn : List DefD) (tf : List Defn) (ex : PySem.W.Frag → Bool) (fx : List FxD) (g : Addr → Option Obj) : AlE := obsE' fa fn tf ex fx g (frT g (asE g n))
def valE (fn : List DefD) (fx : List FxD) : AlE := (valD fn, true, fx.map FxD.val, true)
theorem saysE_of {n : Nat} {fa : List Fa} {fn : List DefD} {tf : List Defn} {ex : PySem.W.Frag → Bool} {fx : List FxD} {h : Heap} (e : obsE n fa fn tf ex fx h.get? = valE fn fx) : SaysE fa fn tf ex fx h (frT h.get? (asE h.get? n)) := by
  unfold obsE at e
  have z1 := congrArg (fun z : AlE => z.1) e
  have z2 := congrArg (fun z : AlE => z.2.1) e
  have z3 := congrArg (fun z : AlE => z.2.2.1) e
  have z4 := congrArg (fun z : AlE => z.2.2.2) e
  have inK : ∀ {a : Addr} {o : Obj}, h.get? a = some o → emptyTab o = true → (frT h.get? (asE h.get? n)).lookup a = none := fun q z => frT_none q z
  generalize frT h.get? (asE h.get? n) = K at z1 z2 z3 z4 inK ⊢
  obtain ⟨y1, y2⟩ := ba (show (ex K && tabsB h.get? tf K) = true from z2)
  have key : ∀ p ∈ tf, PySem.W.codeHdIn K (cT K p).1 (cT K p).2 = true ∧ ∃ o, h.get? (cT K p).2 = some o ∧ emptyTab o = true := fun p hp => by
    obtain ⟨w1, w2⟩ := ba (List.all_eq_true.mp y2 p hp)
    refine ⟨w1, ?_⟩
    cases q : h.get? (cT K p).2 with
    | none =>
      rw [q] at w2
      cases w2
    | some o =>
      rw [q] at w2
      exact ⟨o, rfl, w2⟩
  refine ⟨z1, y1, fun p hp => (key p hp).1, fun p hp => ?_, fun p hp => ?_, z3, z4⟩
  · obtain ⟨_, o, q, z⟩ := key p hp
    exact inK q z
  · obtain ⟨_, o, q, z⟩ := key p hp
    rw [q, emptyTab_eq z]
def hookE (n : Nat) (fa : List Fa) (fn : List DefD) (tf : List Defn) (ex : PySem.W.Frag → Bool) (fx : List FxD) : PySem.W.Hook where
  α := AlE
  obs := fun s => obsE n fa fn tf ex fx s.heap.get?
  val := fun _ => valE fn fx
  says := fun _ h => ∃ K : PySem.W.Frag, K.In h ∧ SaysE fa fn tf ex fx h K
  of := fun _ _ e => ⟨_, frT_in, saysE_of e⟩
  keeps := fun _ _ _ ⟨K, hK, c⟩ k => ⟨K, PySem.W.Frag.In.keeps hK k, ⟨c.d, c.more, c.hd, c.out, fun p hp => k _ _ (c.empty p hp), c.p, c.ok⟩⟩
theorem obsE_eq {n : Nat} {fa : List Fa} {fn : List DefD} {tf : List Defn} {ex : PySem.W.Frag → Bool} {fx : List FxD} {g : Addr → Option Obj} {s : Shared} (h : ∀ a, g a = s.heap.get? a) : obsE n fa fn tf ex fx g = (hookE n fa fn tf ex fx).obs s := by
  have e : g = s.heap.get? := funext h
  rw [e] <;> rfl
section
variable {fa : List Fa} {fn : List DefD} {tf : List Defn} {ex : PySem.W.Frag → Bool} {fx : List FxD} {h : Heap} {K : PySem.W.Frag}
theorem SaysE.fxAt (c : SaysE fa fn tf ex fx h K) (i : Nat) {d : FxD} (hi : fx[i]? = some d) : ∃ fd, FunD K d.name d.qual d.params d.body d.scope [] [] (d.adr K) fd := by
  refine FxD.funD ?_ (List.all_eq_true.mp c.ok d (List.mem_of_getElem? hi))
  have e2 : (fx.map fun d => fnWa K (d.adr K))[i]? = (fx.map FxD.val)[i]? := by rw [c.p]
  rw [List.getElem?_map, List.getElem?_map, hi] at e2
  exact Option.some.inj e2
theorem all_at {α : Type} {l : List α} {f : α → Bool} (h : l.all f = true) (i : Nat) {a : α} (hi : l[i]? = some a) : f a = true := List.all_eq_true.mp h a (List.mem_of_getElem? hi)
end
end JW
namespace AL
end AL
namespace JW
open PySem PySem.Spec PyProof.Rows L2 AL
def top (i : Nat) : Stmt := PySem.Challenge.pw_jetworks_k45_deeds.main.body.getD i (.Pass ⟨0, 0, 0, 0⟩)
abbrev s_Closed___init__ : Stmt := inClass (top 7) 0
theorem sc_Closed___init__ : FnScope ["self"] ["self"] (defScope s_Closed___init__) := ⟨rfl, rfl, rfl, by decide +kernel, rfl, by decide +kernel, by decide +kernel⟩
abbrev s_TooLarge___init__ : Stmt := inClass (top 8) 0
theorem sc_TooLarge___init__ : FnScope ["self", "pieces"] ["self", "pieces"] (defScope s_TooLarge___init__) := ⟨rfl, rfl, rfl, by decide +kernel, rfl, by decide +kernel, by decide +kernel⟩
abbrev s_TooDeep___init__ : Stmt := inClass (top 9) 0
theorem sc_TooDeep___init__ : FnScope ["self", "basins"] ["self", "basins"] (defScope s_TooDeep___init__) := ⟨rfl, rfl, rfl, by decide +kernel, rfl, by decide +kernel, by decide +kernel⟩
abbrev s_Nested___init__ : Stmt := inClass (top 11) 0
theorem sc_Nested___init__ : FnScope ["self"] ["self"] (defScope s_Nested___init__) := ⟨rfl, rfl, rfl, by decide +kernel, rfl, by decide +kernel, by decide +kernel⟩
abbrev s_NoQuotient___init__ : Stmt := inClass (top 15) 0
theorem sc_NoQuotient___init__ : FnScope ["self", "place"] ["self", "place"] (defScope s_NoQuotient___init__) := ⟨rfl, rfl, rfl, by decide +kernel, rfl, by decide +kernel, by decide +kernel⟩
abbrev s_check_numbers : Stmt := top 20
theorem sc_check_numbers : FnScope ["numbers"] ["numbers"] (defScope s_check_numbers) := ⟨rfl, rfl, rfl, by decide +kernel, rfl, by decide +kernel, by decide +kernel⟩
abbrev s_basin_numbers : Stmt := top 21
theorem sc_basin_numbers : FnScope ["branches", "size", "jets", "depth", "opened", "longest", "branch"] ["branches"] (defScope s_basin_numbers) := ⟨rfl, rfl, rfl, by decide +kernel, rfl, by decide +kernel, by decide +kernel⟩
abbrev s_product_numbers : Stmt := top 22
theorem sc_product_numbers : FnScope ["one", "other", "depth", "size", "jets"] ["one", "other"] (defScope s_product_numbers) := ⟨rfl, rfl, rfl, by decide +kernel, rfl, by decide +kernel, by decide +kernel⟩
abbrev s_parsed : Stmt := top 23
theorem sc_parsed : FnScope ["text", "pending", "found", "is_complete", "at", "sign", "part"] ["text"] (defScope s_parsed) := ⟨rfl, rfl, rfl, by decide +kernel, rfl, by decide +kernel, by decide +kernel⟩
abbrev s_made : Stmt := top 24
theorem sc_made : FnScope ["branches", "ordered", "branch"] ["branches"] (defScope s_made) := ⟨rfl, rfl, rfl, by decide +kernel, rfl, by decide +kernel, by decide +kernel⟩
abbrev s_allowed : Stmt := top 25
theorem sc_allowed : FnScope ["fountain"] ["fountain"] (defScope s_allowed) := ⟨rfl, rfl, rfl, by decide +kernel, rfl, by decide +kernel, by decide +kernel⟩
abbrev s_grafted : Stmt := top 26
theorem sc_grafted : FnScope ["fountain", "part", "branch"] ["fountain", "part"] (defScope s_grafted) := ⟨rfl, rfl, rfl, by decide +kernel, rfl, by decide +kernel, by decide +kernel⟩
abbrev s_cut : Stmt := top 27
theorem sc_cut : FnScope ["fountain", "part", "branch"] ["fountain", "part"] (defScope s_cut) := ⟨rfl, rfl, rfl, by decide +kernel, rfl, by decide +kernel, by decide +kernel⟩
abbrev s_bare_place : Stmt := top 28
theorem sc_bare_place : FnScope ["fountain", "part", "path", "index", "branch", "found"] ["fountain", "part", "path"] (defScope s_bare_place) := ⟨rfl, rfl, rfl, by decide +kernel, rfl, by decide +kernel, by decide +kernel⟩
abbrev s_carries : Stmt := top 29
abbrev s_replaced : Stmt := top 30
theorem sc_replaced : FnScope ["fountain", "path", "part", "branches"] ["fountain", "path", "part"] (defScope s_replaced) := ⟨rfl, rfl, rfl, by decide +kernel, rfl, by decide +kernel, by decide +kernel⟩
abbrev s_multiplied : Stmt := top 32
theorem sc_multiplied : FnScope ["factors", "numbers", "factor", "found"] ["factors"] (defScope s_multiplied) := ⟨rfl, rfl, rfl, by decide +kernel, rfl, by decide +kernel, by decide +kernel⟩
abbrev s_Fountain___init__ : Stmt := inClass (top 33) 0
theorem sc_Fountain___init__ : FnScope ["self", "text", "branches", "is_read"] ["self", "text", "branches"] (defScope s_Fountain___init__) := ⟨rfl, rfl, rfl, by decide +kernel, rfl, by decide +kernel, by decide +kernel⟩
abbrev s_Fountain_basin : Stmt := inClass (top 33) 1
abbrev s_Fountain_spray : Stmt := inClass (top 33) 2
abbrev s_Fountain_product : Stmt := inClass (top 33) 3
abbrev s_Fountain_text : Stmt := inClass (top 33) 4
theorem sc_Fountain_text : FnScope ["self"] ["self"] (defScope s_Fountain_text) := ⟨rfl, rfl, rfl, by decide +kernel, rfl, by decide +kernel, by decide +kernel⟩
abbrev s_Fountain_parts : Stmt := inClass (top 33) 5
theorem sc_Fountain_parts : FnScope ["self"] ["self"] (defScope s_Fountain_parts) := ⟨rfl, rfl, rfl, by decide +kernel, rfl, by decide +kernel, by decide +kernel⟩
abbrev s_Fountain_size : Stmt := inClass (top 33) 6
theorem sc_Fountain_size : FnScope ["self"] ["self"] (defScope s_Fountain_size) := ⟨rfl, rfl, rfl, by decide +kernel, rfl, by decide +kernel, by decide +kernel⟩
abbrev s_Fountain_jets : Stmt := inClass (top 33) 7
theorem sc_Fountain_jets : FnScope ["self"] ["self"] (defScope s_Fountain_jets) := ⟨rfl, rfl, rfl, by decide +kernel, rfl, by decide +kernel, by decide +kernel⟩
abbrev s_Fountain_depth : Stmt := inClass (top 33) 8
theorem sc_Fountain_depth : FnScope ["self"] ["self"] (defScope s_Fountain_depth) := ⟨rfl, rfl, rfl, by decide +kernel, rfl, by decide +kernel, by decide +kernel⟩
abbrev s_Fountain_longest : Stmt := inClass (top 33) 9
theorem sc_Fountain_longest : FnScope ["self"] ["self"] (defScope s_Fountain_longest) := ⟨rfl, rfl, rfl, by decide +kernel, rfl, by decide +kernel, by decide +kernel⟩
abbrev s_Fountain_shortest : Stmt := inClass (top 33) 10
theorem sc_Fountain_shortest : FnScope ["self"] ["self"] (defScope s_Fountain_shortest) := ⟨rfl, rfl, rfl, by decide +kernel, rfl, by decide +kernel, by decide +kernel⟩
abbrev s_Fountain_is_open : Stmt := inClass (top 33) 11
theorem sc_Fountain_is_open : FnScope ["self"] ["self"] (defScope s_Fountain_is_open) := ⟨rfl, rfl, rfl, by decide +kernel, rfl, by decide +kernel, by decide +kernel⟩
abbrev s_Fountain_is_jet : Stmt := inClass (top 33) 12
theorem sc_Fountain_is_jet : FnScope ["self"] ["self"] (defScope s_Fountain_is_jet) := ⟨rfl, rfl, rfl, by decide +kernel, rfl, by decide +kernel, by decide +kernel⟩
abbrev s_Fountain___eq__ : Stmt := inClass (top 33) 13
theorem sc_Fountain___eq__ : FnScope ["self", "other"] ["self", "other"] (defScope s_Fountain___eq__) := ⟨rfl, rfl, rfl, by decide +kernel, rfl, by decide +kernel, by decide +kernel⟩
abbrev s_Fountain___repr__ : Stmt := inClass (top 33) 14
abbrev s_Fountain___len__ : Stmt := inClass (top 33) 15
abbrev s_Fountain___getitem__ : Stmt := inClass (top 33) 17
abbrev s_Fountain___contains__ : Stmt := inClass (top 33) 18
abbrev s_Fountain___add__ : Stmt := inClass (top 33) 19
abbrev s_Fountain___sub__ : Stmt := inClass (top 33) 20
abbrev s_Fountain___mul__ : Stmt := inClass (top 33) 21
theorem sc_Fountain___mul__ : FnScope ["self", "other"] ["self", "other"] (defScope s_Fountain___mul__) := ⟨rfl, rfl, rfl, by decide +kernel, rfl, by decide +kernel, by decide +kernel⟩
abbrev s_Fountain___floordiv__ : Stmt := inClass (top 33) 23
theorem sc_Fountain___floordiv__ : FnScope ["self", "other", "place"] ["self", "other"] (defScope s_Fountain___floordiv__) := ⟨rfl, rfl, rfl, by decide +kernel, rfl, by decide +kernel, by decide +kernel⟩
abbrev s_Fountain_at : Stmt := inClass (top 33) 24
theorem sc_Fountain_at : FnScope ["self", "path", "here", "step", "index"] ["self", "path"] (defScope s_Fountain_at) := ⟨rfl, rfl, rfl, by decide +kernel, rfl, by decide +kernel, by decide +kernel⟩
abbrev s_Fountain_put : Stmt := inClass (top 33) 26
theorem sc_Fountain_put : FnScope ["self", "path", "part"] ["self", "path", "part"] (defScope s_Fountain_put) := ⟨rfl, rfl, rfl, by decide +kernel, rfl, by decide +kernel, by decide +kernel⟩
abbrev s_placed : Stmt := top 36
theorem sc_placed : FnScope ["fountain", "pairs", "branches", "index", "branch", "path", "part"] ["fountain", "pairs"] (defScope s_placed) := ⟨rfl, rfl, rfl, by decide +kernel, rfl, by decide +kernel, by decide +kernel⟩
abbrev s_Yard___init__ : Stmt := inClass (top 40) 0
theorem sc_Yard___init__ : FnScope ["self", "fountain"] ["self", "fountain"] (defScope s_Yard___init__) := ⟨rfl, rfl, rfl, by decide +kernel, rfl, by decide +kernel, by decide +kernel⟩
abbrev s_Yard_now : Stmt := inClass (top 40) 1
theorem sc_Yard_now : FnScope ["self"] ["self"] (defScope s_Yard_now) := ⟨rfl, rfl, rfl, by decide +kernel, rfl, by decide +kernel, by decide +kernel⟩
abbrev s_Yard___len__ : Stmt := inClass (top 40) 2
theorem sc_Yard___len__ : FnScope ["self"] ["self"] (defScope s_Yard___len__) := ⟨rfl, rfl, rfl, by decide +kernel, rfl, by decide +kernel, by decide +kernel⟩
abbrev s_Yard___eq__ : Stmt := inClass (top 40) 3
abbrev s_Yard_check : Stmt := inClass (top 40) 4
theorem sc_Yard_check : FnScope ["self", "fountain"] ["self", "fountain"] (defScope s_Yard_check) := ⟨rfl, rfl, rfl, by decide +kernel, rfl, by decide +kernel, by decide +kernel⟩
abbrev s_Yard_hold : Stmt := inClass (top 40) 5
theorem sc_Yard_hold : FnScope ["self", "deed", "fountain"] ["self", "deed", "fountain"] (defScope s_Yard_hold) := ⟨rfl, rfl, rfl, by decide +kernel, rfl, by decide +kernel, by decide +kernel⟩
abbrev s_Yard_put : Stmt := inClass (top 40) 6
theorem sc_Yard_put : FnScope ["self", "path", "part", "old"] ["self", "path", "part"] (defScope s_Yard_put) := ⟨rfl, rfl, rfl, by decide +kernel, rfl, by decide +kernel, by decide +kernel⟩
abbrev s_Yard_exchange : Stmt := inClass (top 40) 7
theorem sc_Yard_exchange : FnScope ["self", "path", "other", "one", "two", "first", "second", "least"] ["self", "path", "other"] (defScope s_Yard_exchange) := ⟨rfl, rfl, rfl, by decide +kernel, rfl, by decide +kernel, by decide +kernel⟩
abbrev s_Yard_grow : Stmt := inClass (top 40) 8
theorem sc_Yard_grow : FnScope ["self", "part"] ["self", "part"] (defScope s_Yard_grow) := ⟨rfl, rfl, rfl, by decide +kernel, rfl, by decide +kernel, by decide +kernel⟩
abbrev s_Yard_trim : Stmt := inClass (top 40) 9
theorem sc_Yard_trim : FnScope ["self", "part"] ["self", "part"] (defScope s_Yard_trim) := ⟨rfl, rfl, rfl, by decide +kernel, rfl, by decide +kernel, by decide +kernel⟩
abbrev s_Yard_undo : Stmt := inClass (top 40) 10
theorem sc_Yard_undo : FnScope ["self", "deed", "fountain"] ["self"] (defScope s_Yard_undo) := ⟨rfl, rfl, rfl, by decide +kernel, rfl, by decide +kernel, by decide +kernel⟩
abbrev s_Yard_log : Stmt := inClass (top 40) 11
theorem sc_Yard_log : FnScope ["self", "deed", "fountain"] ["self"] (defScope s_Yard_log) := ⟨rfl, rfl, rfl, by decide +kernel, rfl, by decide +kernel, by decide +kernel⟩
abbrev s_Yard_copied : Stmt := inClass (top 40) 17
abbrev s__law_box : Stmt := top 42
theorem sc__law_box : FnScope ["_law_script", "_law_k", "_law_cell", "_law_seed"] ["_law_script", "_law_k"] (defScope s__law_box) := ⟨rfl, rfl, rfl, by decide +kernel, rfl, by decide +kernel, by decide +kernel⟩
abbrev s__law_take : Stmt := top 43
theorem sc__law_take : FnScope ["_law_box_here", "_law_many", "_law_digit", "_law_one"] ["_law_box_here", "_law_many"] (defScope s__law_take) := ⟨rfl, rfl, rfl, by decide +kernel, rfl, by decide +kernel, by decide +kernel⟩
abbrev s__law_pick : Stmt := top 44
theorem sc__law_pick : FnScope ["_law_box_here", "_law_items"] ["_law_box_here", "_law_items"] (defScope s__law_pick) := ⟨rfl, rfl, rfl, by decide +kernel, rfl, by decide +kernel, by decide +kernel⟩
abbrev s__law_parts : Stmt := top 45
theorem sc__law_parts : FnScope ["_law_text", "_law_found", "_law_level", "_law_begin", "_law_at_here"] ["_law_text"] (defScope s__law_parts) := ⟨rfl, rfl, rfl, by decide +kernel, rfl, by decide +kernel, by decide +kernel⟩
abbrev s__law_basin : Stmt := top 46
theorem sc__law_basin : FnScope ["_law_parts_here"] ["_law_parts_here"] (defScope s__law_basin) := ⟨rfl, rfl, rfl, by decide +kernel, rfl, by decide +kernel, by decide +kernel⟩
abbrev s__law_size : Stmt := top 47
theorem sc__law_size : FnScope ["_law_text"] ["_law_text"] (defScope s__law_size) := ⟨rfl, rfl, rfl, by decide +kernel, rfl, by decide +kernel, by decide +kernel⟩
abbrev s__law_tree : Stmt := top 48
theorem sc__law_tree : FnScope ["_law_box_here", "_law_size_here", "_law_parts_here", "_law_left", "_law_form", "_law_many", "_law_part"] ["_law_box_here", "_law_size_here"] (defScope s__law_tree) := ⟨rfl, rfl, rfl, by decide +kernel, rfl, by decide +kernel, by decide +kernel⟩
abbrev s__law_any : Stmt := top 49
theorem sc__law_any : FnScope ["_law_box_here", "_law_most"] ["_law_box_here", "_law_most"] (defScope s__law_any) := ⟨rfl, rfl, rfl, by decide +kernel, rfl, by decide +kernel, by decide +kernel⟩
abbrev s__law_open : Stmt := top 50
theorem sc__law_open : FnScope ["_law_box_here", "_law_most", "_law_text"] ["_law_box_here", "_law_most"] (defScope s__law_open) := ⟨rfl, rfl, rfl, by decide +kernel, rfl, by decide +kernel, by decide +kernel⟩
abbrev s__law_times : Stmt := top 51
theorem sc__law_times : FnScope ["_law_one", "_law_other", "_law_part"] ["_law_one", "_law_other"] (defScope s__law_times) := ⟨rfl, rfl, rfl, by decide +kernel, rfl, by decide +kernel, by decide +kernel⟩
abbrev s__law_composed : Stmt := top 52
theorem sc__law_composed : FnScope ["_law_box_here", "_law_most", "_law_text", "_law_turn", "_law_one"] ["_law_box_here", "_law_most"] (defScope s__law_composed) := ⟨rfl, rfl, rfl, by decide +kernel, rfl, by decide +kernel, by decide +kernel⟩
abbrev s__law_mixed : Stmt := top 53
theorem sc__law_mixed : FnScope ["_law_box_here", "_law_items", "_law_left", "_law_found"] ["_law_box_here", "_law_items"] (defScope s__law_mixed) := ⟨rfl, rfl, rfl, by decide +kernel, rfl, by decide +kernel, by decide +kernel⟩
abbrev s__law_written : Stmt := top 54
theorem sc__law_written : FnScope ["_law_box_here", "_law_text", "_law_part"] ["_law_box_here", "_law_text"] (defScope s__law_written) := ⟨rfl, rfl, rfl, by decide +kernel, rfl, by decide +kernel, by decide +kernel⟩
abbrev s__law_pieces : Stmt := top 55
theorem sc__law_pieces : FnScope ["_law_text", "_law_path", "_law_found", "_law_index", "_law_part"] ["_law_text", "_law_path"] (defScope s__law_pieces) := ⟨rfl, rfl, rfl, by decide +kernel, rfl, by decide +kernel, by decide +kernel⟩
abbrev s__law_put : Stmt := top 56
theorem sc__law_put : FnScope ["_law_text", "_law_path", "_law_part", "_law_parts_here"] ["_law_text", "_law_path", "_law_part"] (defScope s__law_put) := ⟨rfl, rfl, rfl, by decide +kernel, rfl, by decide +kernel, by decide +kernel⟩
abbrev s__law_step : Stmt := top 57
theorem sc__law_step : FnScope ["_law_text", "_law_path", "_law_step_here", "_law_index", "_law_parts_here"] ["_law_text", "_law_path"] (defScope s__law_step) := ⟨rfl, rfl, rfl, by decide +kernel, rfl, by decide +kernel, by decide +kernel⟩
abbrev s__law_at : Stmt := top 58
theorem sc__law_at : FnScope ["_law_text", "_law_path", "_law_index"] ["_law_text", "_law_path"] (defScope s__law_at) := ⟨rfl, rfl, rfl, by decide +kernel, rfl, by decide +kernel, by decide +kernel⟩
abbrev s__law_over : Stmt := top 59
theorem sc__law_over : FnScope ["_law_text", "_law_end", "_law_parts_here", "_law_part"] ["_law_text", "_law_end"] (defScope s__law_over) := ⟨rfl, rfl, rfl, by decide +kernel, rfl, by decide +kernel, by decide +kernel⟩
abbrev s__law_bare : Stmt := top 60
theorem sc__law_bare : FnScope ["_law_text", "_law_end", "_law_path", "_law_index", "_law_part", "_law_place"] ["_law_text", "_law_end", "_law_path"] (defScope s__law_bare) := ⟨rfl, rfl, rfl, by decide +kernel, rfl, by decide +kernel, by decide +kernel⟩
abbrev s__law_alike : Stmt := top 61
theorem sc__law_alike : FnScope ["_law_one", "_law_other", "_law_x", "_law_y"] ["_law_one", "_law_other"] (defScope s__law_alike) := ⟨rfl, rfl, rfl, by decide +kernel, rfl, by decide +kernel, by decide +kernel⟩
abbrev s__law_depth : Stmt := top 62
theorem sc__law_depth : FnScope ["_law_text", "_law_found", "_law_level", "_law_sign"] ["_law_text"] (defScope s__law_depth) := ⟨rfl, rfl, rfl, by decide +kernel, rfl, by decide +kernel, by decide +kernel⟩
abbrev s__law_jet_depth : Stmt := top 63
theorem sc__law_jet_depth : FnScope ["_law_text", "_law_found", "_law_level", "_law_sign"] ["_law_text"] (defScope s__law_jet_depth) := ⟨rfl, rfl, rfl, by decide +kernel, rfl, by decide +kernel, by decide +kernel⟩
abbrev s__law_swapped : Stmt := top 64
theorem sc__law_swapped : FnScope ["_law_text", "_law_pairs", "_law_found", "_law_index", "_law_part", "_law_path", "_law_more"] ["_law_text", "_law_pairs"] (defScope s__law_swapped) := ⟨rfl, rfl, rfl, by decide +kernel, rfl, by decide +kernel, by decide +kernel⟩
abbrev s__law_limits : Stmt := top 65
theorem sc__law_limits : FnScope ["_law_pieces_here", "_law_basins"] ["_law_pieces_here", "_law_basins"] (defScope s__law_limits) := ⟨rfl, rfl, rfl, by decide +kernel, rfl, by decide +kernel, by decide +kernel⟩
abbrev s__law_exchanged : Stmt := top 66
theorem sc__law_exchanged : FnScope ["_law_text", "_law_one", "_law_other", "_law_path", "_law_step_here", "_law_least", "_law_found"] ["_law_text", "_law_one", "_law_other"] (defScope s__law_exchanged) := ⟨rfl, rfl, rfl, by decide +kernel, rfl, by decide +kernel, by decide +kernel⟩
abbrev s__law_grown : Stmt := top 67
theorem sc__law_grown : FnScope ["_law_text", "_law_part", "_law_pieces_here", "_law_word"] ["_law_text", "_law_part"] (defScope s__law_grown) := ⟨rfl, rfl, rfl, by decide +kernel, rfl, by decide +kernel, by decide +kernel⟩
abbrev s__law_next : Stmt := top 68
theorem sc__law_next : FnScope ["_law_text", "_law_deed_here", "_law_word", "_law_part", "_law_step_here", "_law_found", "_law_wrong"] ["_law_text", "_law_deed_here"] (defScope s__law_next) := ⟨rfl, rfl, rfl, by decide +kernel, rfl, by decide +kernel, by decide +kernel⟩
abbrev s__law_model : Stmt := top 69
theorem sc__law_model : FnScope ["_law_text"] ["_law_text"] (defScope s__law_model) := ⟨rfl, rfl, rfl, by decide +kernel, rfl, by decide +kernel, by decide +kernel⟩
abbrev s__law_do : Stmt := top 70
theorem sc__law_do : FnScope ["_law_mine", "_law_deed_here", "_law_due", "_law_text"] ["_law_mine", "_law_deed_here"] (defScope s__law_do) := ⟨rfl, rfl, rfl, by decide +kernel, rfl, by decide +kernel, by decide +kernel⟩
abbrev s__law_undo : Stmt := top 71
theorem sc__law_undo : FnScope ["_law_mine"] ["_law_mine"] (defScope s__law_undo) := ⟨rfl, rfl, rfl, by decide +kernel, rfl, by decide +kernel, by decide +kernel⟩
abbrev s__law_refusal : Stmt := top 72
theorem sc__law_refusal : FnScope ["_law_e", "_law_words", "_law_word", "_law_is_so"] ["_law_e"] (defScope s__law_refusal) := ⟨rfl, rfl, rfl, by decide +kernel, rfl, by decide +kernel, by decide +kernel⟩
abbrev s__law_does : Stmt := top 73
theorem sc__law_does : FnScope ["_law_box_here", "_law_yard", "_law_deed_here", "_law_word", "_law_found", "_law_paths", "_law_part", "_law_e", "_law_path"] ["_law_box_here", "_law_yard", "_law_deed_here"] (defScope s__law_does) := ⟨rfl, rfl, rfl, by decide +kernel, rfl, by decide +kernel, by decide +kernel⟩
abbrev s__law_deed : Stmt := top 74
theorem sc__law_deed : FnScope ["_law_box_here", "_law_text", "_law_pieces_here", "_law_form", "_law_one", "_law_other", "_law_ends", "_law_path", "_law_piece"] ["_law_box_here", "_law_text"] (defScope s__law_deed) := ⟨rfl, rfl, rfl, by decide +kernel, rfl, by decide +kernel, by decide +kernel⟩
abbrev s__law_stands : Stmt := top 75
theorem sc__law_stands : FnScope ["_law_yard", "_law_mine", "_law_log", "_law_deed_here", "_law_text"] ["_law_yard", "_law_mine"] (defScope s__law_stands) := ⟨rfl, rfl, rfl, by decide +kernel, rfl, by decide +kernel, by decide +kernel⟩
abbrev s_law : Stmt := top 76
theorem sc_law : FnScope ["_law_script", "_law_k", "_law_box_here", "_law_text", "_law_yard", "_law_mine", "_law_turn", "_law_deed_here"] ["_law_script"] (defScope s_law) := ⟨rfl, rfl, rfl, by decide +kernel, rfl, by decide +kernel, by decide +kernel⟩
open He
def dfn (x : Str) (m : Option Str) (nm q : Str) (s : Stmt) (dv : List Dv) (kw : List (Str × Dv)) : DefD := ⟨(x, m), nm, q, defArgs s, defBody s, defScope s, dv, kw⟩
def fn : List DefD := ([dfn "Closed" (some "__init__") "__init__" "Closed.__init__" s_Closed___init__ [] [], dfn "TooLarge" (some "__init__") "__init__" "TooLarge.__init__" s_TooLarge___init__ [] [], dfn "TooDeep" (some "__init__") "__init__" "TooDeep.__init__" s_TooDeep___init__ [] [], dfn "Nested" (some "__init__") "__init__" "Nested.__init__" s_Nested___init__ [] [], dfn "NoQuotient" (some "__init__") "__init__" "NoQuotient.__init__" s_NoQuotient___init__ [] [], dfn "check_numbers" none "check_numbers" "check_numbers" s_check_numbers [] [], dfn "basin_numbers" none "basin_numbers" "basin_numbers" s_basin_numbers [] [], dfn "product_numbers" none "product_numbers" "product_numbers" s_product_numbers [] [], dfn "parsed" none "parsed" "parsed" s_parsed [] [], dfn "made" none "made" "made" s_made [] [], dfn "allowed" none "allowed" "allowed" s_allowed [] [], dfn "grafted" none "grafted" "grafted" s_grafted [] [], dfn "cut" none "cut" "cut" s_cut [] [], dfn "bare_place" none "bare_place" "bare_place" s_bare_place [] [], dfn "carries" none "carries" "carries" s_carries [] [], dfn "replaced" none "replaced" "replaced" s_replaced [] [], dfn "multiplied" none "multiplied" "multiplied" s_multiplied [] [], dfn "Fountain" (some "__init__") "__init__" "Fountain.__init__" s_Fountain___init__ [.non] [], dfn "Fountain" (some "__eq__") "__eq__" "Fountain.__eq__" s_Fountain___eq__ [] [], dfn "Fountain" (some "__repr__") "__repr__" "Fountain.__repr__" s_Fountain___repr__ [] [], dfn "Fountain" (some "__len__") "__len__" "Fountain.__len__" s_Fountain___len__ [] [], dfn "Fountain" (some "__getitem__") "__getitem__" "Fountain.__getitem__" s_Fountain___getitem__ [] [], dfn "Fountain" (some "__contains__") "__contains__" "Fountain.__contains__" s_Fountain___contains__ [] [], dfn "Fountain" (some "__add__") "__add__" "Fountain.__add__" s_Fountain___add__ [] [], dfn "Fountain" (some "__sub__") "__sub__" "Fountain.__sub__" s_Fountain___sub__ [] [], dfn "Fountain" (some "__mul__") "__mul__" "Fountain.__mul__" s_Fountain___mul__ [] [], dfn "Fountain" (some "__floordiv__") "__floordiv__" "Fountain.__floordiv__" s_Fountain___floordiv__ [] [], dfn "Fountain" (some "at") "at" "Fountain.at" s_Fountain_at [] [], dfn "Fountain" (some "put") "put" "Fountain.put" s_Fountain_put [] [], dfn "placed" none "placed" "placed" s_placed [] []] : List DefD) ++ ([dfn "Yard" (some "__init__") "__init__" "Yard.__init__" s_Yard___init__ [] [], dfn "Yard" (some "__len__") "__len__" "Yard.__len__" s_Yard___len__ [] [], dfn "Yard" (some "__eq__") "__eq__" "Yard.__eq__" s_Yard___eq__ [] [], dfn "Yard" (some "check") "check" "Yard.check" s_Yard_check [] [], dfn "Yard" (some "hold") "hold" "Yard.hold" s_Yard_hold [] [], dfn "Yard" (some "put") "put" "Yard.put" s_Yard_put [] [], dfn "Yard" (some "exchange") "exchange" "Yard.exchange" s_Yard_exchange [] [], dfn "Yard" (some "grow") "grow" "Yard.grow" s_Yard_grow [] [], dfn "Yard" (some "trim") "trim" "Yard.trim" s_Yard_trim [] [], dfn "Yard" (some "undo") "undo" "Yard.undo" s_Yard_undo [] [], dfn "Yard" (some "log") "log" "Yard.log" s_Yard_log [] [], dfn "Yard" (some "copied") "copied" "Yard.copied" s_Yard_copied [] [], dfn "_law_box" none "_law_box" "_law_box" s__law_box [] [], dfn "_law_take" none "_law_take" "_law_take" s__law_take [] [], dfn "_law_pick" none "_law_pick" "_law_pick" s__law_pick [] [], dfn "_law_parts" none "_law_parts" "_law_parts" s__law_parts [] [], dfn "_law_basin" none "_law_basin" "_law_basin" s__law_basin [] [], dfn "_law_size" none "_law_size" "_law_size" s__law_size [] [], dfn "_law_tree" none "_law_tree" "_law_tree" s__law_tree [] [], dfn "_law_any" none "_law_any" "_law_any" s__law_any [] [], dfn "_law_open" none "_law_open" "_law_open" s__law_open [] [], dfn "_law_times" none "_law_times" "_law_times" s__law_times [] [], dfn "_law_composed" none "_law_composed" "_law_composed" s__law_composed [] [], dfn "_law_mixed" none "_law_mixed" "_law_mixed" s__law_mixed [] [], dfn "_law_written" none "_law_written" "_law_written" s__law_written [] [], dfn "_law_pieces" none "_law_pieces" "_law_pieces" s__law_pieces [] [], dfn "_law_put" none "_law_put" "_law_put" s__law_put [] [], dfn "_law_step" none "_law_step" "_law_step" s__law_step [] [], dfn "_law_at" none "_law_at" "_law_at" s__law_at [] [], dfn "_law_over" none "_law_over" "_law_over" s__law_over [] []] : List DefD) ++ ([dfn "_law_bare" none "_law_bare" "_law_bare" s__law_bare [] [], dfn "_law_alike" none "_law_alike" "_law_alike" s__law_alike [] [], dfn "_law_depth" none "_law_depth" "_law_depth" s__law_depth [] [], dfn "_law_jet_depth" none "_law_jet_depth" "_law_jet_depth" s__law_jet_depth [] [], dfn "_law_swapped" none "_law_swapped" "_law_swapped" s__law_swapped [] [], dfn "_law_limits" none "_law_limits" "_law_limits" s__law_limits [] [], dfn "_law_exchanged" none "_law_exchanged" "_law_exchanged" s__law_exchanged [] [], dfn "_law_grown" none "_law_grown" "_law_grown" s__law_grown [] [], dfn "_law_next" none "_law_next" "_law_next" s__law_next [] [], dfn "_law_model" none "_law_model" "_law_model" s__law_model [] [], dfn "_law_do" none "_law_do" "_law_do" s__law_do [] [], dfn "_law_undo" none "_law_undo" "_law_undo" s__law_undo [] [], dfn "_law_refusal" none "_law_refusal" "_law_refusal" s__law_refusal [] [], dfn "_law_does" none "_law_does" "_law_does" s__law_does [] [], dfn "_law_deed" none "_law_deed" "_law_deed" s__law_deed [] [], dfn "_law_stands" none "_law_stands" "_law_stands" s__law_stands [] [], dfn "law" none "law" "law" s_law [] []] : List DefD)
def fa : List Fa := ([.glo "Fountain", .cls "Fountain", .noat "Fountain" "written", .noat "Fountain" "branches", .noat "Fountain" "numbers", .glo "Yard", .cls "Yard", .noat "Yard" "state", .int "MOST" 5000, .int "DEEPEST" 120, .str "JET_TEXT" "o", .glo "Closed", .glo "TooLarge", .noat "TooLarge" "pieces", .glo "TooDeep", .noat "TooDeep" "basins", .glo "Nested", .glo "NoQuotient", .noat "NoQuotient" "place", .glo "check_numbers", .glo "basin_numbers", .glo "product_numbers", .glo "parsed", .glo "made", .glo "allowed", .glo "grafted", .glo "cut", .glo "bare_place", .glo "carries", .glo "replaced"] : List Fa) ++ ([.glo "multiplied", .mkr "Fountain", .meth "Fountain" "__eq__", .meth "Fountain" "__repr__", .meth "Fountain" "__len__", .meth "Fountain" "__getitem__", .meth "Fountain" "__contains__", .meth "Fountain" "__add__", .meth "Fountain" "__sub__", .meth "Fountain" "__mul__", .meth "Fountain" "__floordiv__", .meth "Fountain" "at", .meth "Fountain" "put", .glo "placed", .mkr "Yard", .meth "Yard" "__len__", .meth "Yard" "__eq__", .meth "Yard" "check", .meth "Yard" "hold", .meth "Yard" "put", .meth "Yard" "exchange", .meth "Yard" "grow", .meth "Yard" "trim", .meth "Yard" "undo", .meth "Yard" "log", .meth "Yard" "copied", .glo "_law_box", .glo "_law_take", .glo "_law_pick", .glo "_law_parts"] : List Fa) ++ ([.glo "_law_basin", .glo "_law_size", .glo "_law_tree", .glo "_law_any", .glo "_law_open", .glo "_law_times", .glo "_law_composed", .glo "_law_mixed", .glo "_law_written", .glo "_law_pieces", .glo "_law_put", .glo "_law_step", .glo "_law_at", .glo "_law_over", .glo "_law_bare", .glo "_law_alike", .glo "_law_depth", .glo "_law_jet_depth", .glo "_law_swapped", .glo "_law_limits", .glo "_law_exchanged", .glo "_law_grown", .glo "_law_next", .glo "_law_model", .glo "_law_do", .glo "_law_undo", .glo "_law_refusal", .glo "_law_does", .glo "_law_deed", .glo "_law_stands"] : List Fa) ++ ([.glo "law", .glo "JetError", .glo "NoDivision", .glo "NoPlace", .glo "NotKind", .free "NotImplemented", .free "TypeError", .free "all", .free "any", .free "bool", .free "enumerate", .free "int", .free "isinstance", .free "len", .free "list", .free "max", .free "min", .free "range", .free "sorted", .free "str", .free "sum", .free "tuple", .free "zip"] : List Fa)
def tf : List Defn := ([("made", none)] : List Defn)
def fx : List FxD := ([⟨fun K => cgAd K ("Fountain", "basin"), "basin", "Fountain.basin", defArgs s_Fountain_basin, defBody s_Fountain_basin, defScope s_Fountain_basin⟩, ⟨fun K => cgAd K ("Fountain", "spray"), "spray", "Fountain.spray", defArgs s_Fountain_spray, defBody s_Fountain_spray, defScope s_Fountain_spray⟩, ⟨fun K => cgAd K ("Fountain", "product"), "product", "Fountain.product", defArgs s_Fountain_product, defBody s_Fountain_product, defScope s_Fountain_product⟩, ⟨fun K => gAd K ("Fountain", "text"), "text", "Fountain.text", defArgs s_Fountain_text, defBody s_Fountain_text, defScope s_Fountain_text⟩, ⟨fun K => gAd K ("Fountain", "parts"), "parts", "Fountain.parts", defArgs s_Fountain_parts, defBody s_Fountain_parts, defScope s_Fountain_parts⟩, ⟨fun K => gAd K ("Fountain", "size"), "size", "Fountain.size", defArgs s_Fountain_size, defBody s_Fountain_size, defScope s_Fountain_size⟩, ⟨fun K => gAd K ("Fountain", "jets"), "jets", "Fountain.jets", defArgs s_Fountain_jets, defBody s_Fountain_jets, defScope s_Fountain_jets⟩, ⟨fun K => gAd K ("Fountain", "depth"), "depth", "Fountain.depth", defArgs s_Fountain_depth, defBody s_Fountain_depth, defScope s_Fountain_depth⟩, ⟨fun K => gAd K ("Fountain", "longest"), "longest", "Fountain.longest", defArgs s_Fountain_longest, defBody s_Fountain_longest, defScope s_Fountain_longest⟩, ⟨fun K => gAd K ("Fountain", "shortest"), "shortest", "Fountain.shortest", defArgs s_Fountain_shortest, defBody s_Fountain_shortest, defScope s_Fountain_shortest⟩, ⟨fun K => gAd K ("Fountain", "is_open"), "is_open", "Fountain.is_open", defArgs s_Fountain_is_open, defBody s_Fountain_is_open, defScope s_Fountain_is_open⟩, ⟨fun K => gAd K ("Fountain", "is_jet"), "is_jet", "Fountain.is_jet", defArgs s_Fountain_is_jet, defBody s_Fountain_is_jet, defScope s_Fountain_is_jet⟩, ⟨fun K => gAd K ("Yard", "now"), "now", "Yard.now", defArgs s_Yard_now, defBody s_Yard_now, defScope s_Yard_now⟩] : List FxD)
def prL : List (Str × Str) := ([("Fountain", "text"), ("Fountain", "parts"), ("Fountain", "size"), ("Fountain", "jets"), ("Fountain", "depth"), ("Fountain", "longest"), ("Fountain", "shortest"), ("Fountain", "is_open"), ("Fountain", "is_jet"), ("Yard", "now")] : List (Str × Str))
def cmL : List (Str × Str) := ([("Fountain", "basin"), ("Fountain", "spray"), ("Fountain", "product")] : List (Str × Str))
def erL : List Str := (["Closed", "TooLarge", "TooDeep", "Nested", "NoQuotient"] : List Str)
def bsL : List Str := (["JetError", "NoDivision"] : List Str)
def ktL : List (Str × Str × Bool) := ([("Closed", "NoPlace", false), ("Closed", "NoQuotient", false), ("Closed", "TooLarge", false), ("Closed", "TooDeep", false), ("Closed", "Nested", false), ("Closed", "Closed", true), ("Closed", "NotKind", false), ("NoQuotient", "NoPlace", false), ("NoQuotient", "NoQuotient", true), ("NoQuotient", "TooLarge", false), ("NoQuotient", "TooDeep", false), ("NoQuotient", "Nested", false), ("NoQuotient", "Closed", false), ("NoQuotient", "NotKind", false), ("Nested", "NoPlace", false), ("Nested", "NoQuotient", false), ("Nested", "TooLarge", false), ("Nested", "TooDeep", false), ("Nested", "Nested", true), ("Nested", "Closed", false), ("Nested", "NotKind", false)] : List (Str × Str × Bool))
def emL : List (Str × Str × Bool) := ([("Closed", "JetError", true), ("NoQuotient", "JetError", true), ("Nested", "JetError", true)] : List (Str × Str × Bool))
def xtL : List (PySem.W.Frag → Bool) := [fun K => decide (¬ (He.ga K "Yard" = He.ga K "Fountain")), fun K => decide (clsX K "Yard" = true)]
def ex (K : PySem.W.Frag) : Bool := (xtL.all fun f => f K) && ((clsX K "Fountain" && ((prL.all fun p => propB K p) && ((cmL.all fun p => cmB K p) && ((erL.all fun x => errB K x) && ((bsL.all fun x => baseB K x) && ((ktL.all fun q => kitB K q) && (emL.all fun q => exmB K q))))))))
theorem exs {K : PySem.W.Frag} {h : Heap} (c : SaysE fa fn tf ex fx h K) : clsX K "Fountain" = true ∧ (prL.all fun p => propB K p) = true ∧ (cmL.all fun p => cmB K p) = true ∧ (erL.all fun x => errB K x) = true ∧ (bsL.all fun x => baseB K x) = true ∧ (ktL.all fun q => kitB K q) = true ∧ (emL.all fun q => exmB K q) = true := by
  have more := (ba c.more).2
  obtain ⟨z1, z⟩ := ba more
  obtain ⟨z2, z⟩ := ba z
  obtain ⟨z3, z⟩ := ba z
  obtain ⟨z4, z⟩ := ba z
  obtain ⟨z5, z⟩ := ba z
  obtain ⟨z6, z7⟩ := ba z
  exact ⟨z1, z2, z3, z4, z5, z6, z7⟩
abbrev R : PySem.W.OpenRow := PySem.W.OpenLaw.row PySem.Challenge.rw_jetworks_k45_deeds
abbrev hk : PySem.W.Hook := hookE 5 fa fn tf ex fx
def ob (s : PySem.W.SharedT) : AlE := obsE 5 fa fn tf ex fx (HandSHeadRun.getT s)
theorem ob_eq (s : PySem.W.SharedT) : ob s = hk.obs s.abs := obsE_eq (HandSHeadRun.getT_eq s)
def loose : List Str := (["_wall", "__name__", "JetError", "NoText", "NoBasin", "NoBranch", "NoPlace", "Closed", "TooLarge", "TooDeep", "NotKind", "Nested", "Rejected", "NoDivision", "NoDifference", "NoQuotient", "MOST", "DEEPEST", "JET_TEXT", "check_numbers", "basin_numbers", "product_numbers", "parsed", "made", "allowed", "grafted", "cut", "bare_place", "carries", "replaced"] : List Str) ++ (["power", "multiplied", "Fountain", "DEEDS", "placed", "is_path", "sort_of", "form_of", "Yard", "_law_box", "_law_take", "_law_pick", "_law_parts", "_law_basin", "_law_size", "_law_tree", "_law_any", "_law_open", "_law_times", "_law_composed", "_law_mixed", "_law_written", "_law_pieces", "_law_put", "_law_step", "_law_at", "_law_over", "_law_bare", "_law_alike", "_law_depth"] : List Str) ++ (["_law_jet_depth", "_law_swapped", "_law_limits", "_law_exchanged", "_law_grown", "_law_next", "_law_model", "_law_do", "_law_undo", "_law_refusal", "_law_does", "_law_deed", "_law_stands"] : List Str)
def wset (w : World) (b : Bool) : World := { w with params := { w.params with followText := fun row => match decide (row = "special-get-raises") with | true => b | false => w.params.followText row } }
theorem wset_eq (w : World) : wset w (w.params.followText "special-get-raises") = w := by
  have e : (fun row => match decide (row = "special-get-raises") with | true => w.params.followText "special-get-raises" | false => w.params.followText row) = w.params.followText := by
    funext row
    by_cases h : row = "special-get-raises"
    · rw [decide_eq_true h, h]
    · rw [decide_eq_false h]
  unfold wset
  rw [e]
theorem runwt (w : World) : HandSHeadRun.RunEq R (PySem.W.view R.prog [76]) hk ob 200000 loose (wset w true) := by
  intro os
  kernel_rfl
theorem runwf (w : World) : HandSHeadRun.RunEq R (PySem.W.view R.prog [76]) hk ob 200000 loose (wset w false) := by
  intro os
  kernel_rfl
theorem run (w : World) : HandSHeadRun.RunEq R (PySem.W.view R.prog [76]) hk ob 200000 loose w := by
  have e := wset_eq w
  cases h : w.params.followText "special-get-raises" with
  | true =>
    rw [h] at e
    rw [← e]
    exact runwt w
  | false =>
    rw [h] at e
    rw [← e]
    exact runwf w
end JW
namespace JW
end JW
namespace JW
open PySem PySem.Spec PyProof.Rows L2
structure CallS (P : Program) (w : World) (K : PySem.W.Frag) (mg : Str → Option Value) (base : Heap) (CX : CXT) (k : Nat) (x : Str) (sp : Sp) : Prop where
  ex : ∃ f, mg x = some (.ref f) ∧ PySem.W.keepIn K (.ref f) = true ∧ FnR P w K mg base CX k f sp
structure StarAt (K : PySem.W.Frag) (mg : Str → Option Value) (x qual : Str) (st : Stmt) (ps : List Str) (pv : Str) : Prop where
  ex : ∃ f fd, mg x = some (.ref f) ∧ FunD K x qual (defArgs st) (defBody st) (defScope st) [] [] f fd ∧ ∀ us rest : List Value, us.length = ps.length → bindArgs fd ⟨us ++ rest, []⟩ = (newTuple rest >>= fun t => pure (ps.zip us ++ [(pv, t)]))
def starSp (n : Nat) (sp : Sp) : Sp := fun vs H Q E => ∃ ws rest, vs = ws ++ rest ∧ ws.length = n ∧ rest.length ≤ sizeLine ∧ ∀ p, H p = Option.none → sp (ws ++ [V.ref p]) (upd H p (.tup rest)) Q E
section
variable {P : Program} {w : World} {K : PySem.W.Frag} {mg : Str → Option Value} {base : Heap}
theorem StarAt.ok {x qual : Str} {st : Stmt} {N ps : List Str} {pv : Str} {k : Nat} {sp : Sp} (D : StarAt K mg x qual st ps pv) (S : FnScope N (ps ++ [pv]) (defScope st))
    (hbody : ∀ (f : Addr) (cdv : Value) (A : Around) (outer : List Env) (s : Shared) (H : Hp) (vs : List V) (Q : VK) (E : XK), Room k (A.deeper (envOfC qual (defScope st) s.heap.objs.size f cdv)) → sp vs H Q E →
      ∃ t, PSs (cxOf CX0 P w K mg base N qual (defScope st) f cdv A outer s H E).nox (defBody st) t ∧ t { nx := fun _ H' => Q .non H', rt := Q } (start N vs) H) : CallS P w K mg base CX0 (k + 1) x (starSp ps.length sp) := by
  obtain ⟨f, fd, h1, F, hb⟩ := D.ex
  have hk := F.kp
  obtain ⟨oc, od, dV, kV, doc, pm, an, cdv, ct, osl, rfl, lk, hcd, _, _⟩ := F.ex
  refine ⟨f, h1, hk, StX.fn_star lk hcd S StX.cxUp_none hb fun A outer s H vs Q E hr h => ?_⟩
  obtain ⟨t, h, q⟩ := hbody f cdv A outer s H vs Q E hr h
  exact ⟨t, h.nox, q⟩
end
section
variable {X : Cx} {CX : CXT} {k : Nat} {sp : Sp} {E : XK} {x : Str} {p pos : Pos} {e : Expr} {es : List Expr} {t : TA}
end
end JW
namespace JW
open PySem PySem.Spec PyProof.Rows L2
theorem pg_tupK {X : Cx} {K : PySem.W.Frag} (hk : X.K = K) {es : List Expr} {k : Nat} {t : TGs} {n : Nat} {pos : Pos} (hc : X.calm = true) (h : PGs X es t)
    (hn : (assignEach es X.env).length = n := by rfl) (hst : (assignEach es X.env).findIdx? (·.1) = none := by rfl) : PG X (.Tuple es k pos) (gTup K n t) := hk ▸ pg_tup hc h hn hst
def opK (l : List T) (n : Nat) (t : T) : Prop := t.jts ≠ 0 ∧ (n = 0 ∨ l[n - 1]? ≠ some t)
instance (l : List T) (n : Nat) (t : T) : Decidable (opK l n t) := by unfold opK; exact inferInstance
end JW
namespace JW
end JW
namespace AL
open PySem PySem.Spec PyProof.Rows L2 LamX JW
inductive D where
  | non | bl (b : Bool) | int (i : Int) | str (s : Str) | ref (p : Addr) | ty (n : String) | scr | tree (t : T)
  | tup (l : List D) | obj (C : Addr) (ks : List Str) (ds : List D) | err (C : Addr) (ks : List Str) (ds : List D)
inductive MO where
  | lst (l : List D) | dct (l : List (Key × D)) | ins (C : Addr) (ks : List Str) (ds : List D) | opq (P : HO → Prop) | lsq (P : List D → Prop)
abbrev Store := Addr → Option MO
def sput (L : Store) (p : Addr) (m : MO) : Store := fun q => if q = p then some m else L q
theorem sput_same {L : Store} {p : Addr} {m : MO} : sput L p m p = some m := by unfold sput; rw [if_pos rfl]
theorem sput_ne {L : Store} {p q : Addr} {m : MO} (h : q ≠ p) : sput L p m q = L q := by unfold sput; rw [if_neg h]
theorem sput_sput {L : Store} {p : Addr} {m n : MO} : sput (sput L p m) p n = sput L p n := by
  funext q; unfold sput; split <;> rfl
theorem sput_old {L : Store} {p q : Addr} {m n : MO} (h : L q = some m) (hp : L p = none) : sput L p n q = some m := by
  rw [sput_ne fun e => by rw [e, hp] at h; cases h]
  exact h
structure AC (K : PySem.W.Frag) where
  TT : List (Addr × Str)
  imm : List Str
  scr : Option (Addr × List Int)
def IC {K : PySem.W.Frag} (c : AC K) (C : Addr) : Prop := C = cF K ∨ ∃ x ∈ c.imm, C = He.ga K x
def Imm {K : PySem.W.Frag} (c : AC K) : HO → Prop
  | .tup _ => True
  | .ins C _ _ => IC c C
  | .frz _ _ => True
  | .xd _ => True
  | .ext _ => True
  | _ => False
def Fr {K : PySem.W.Frag} (c : AC K) (H H' : Hp) : Prop := ∀ a o, H a = some o → Imm c o → H' a = some o
section
variable {K : PySem.W.Frag} {c : AC K} {H H1 H' : Hp}
theorem Fr.refl (c : AC K) (H : Hp) : Fr c H H := fun _ _ h _ => h
theorem Fr.trans (a : Fr c H H1) (b : Fr c H1 H') : Fr c H H' := fun p o h i => b p o (a p o h i) i
theorem Fr.same (s : L2.Same H H') : Fr c H H' := fun p o h _ => s p o h
theorem Fr.new {p : Addr} {o : HO} (hp : H p = none) : Fr c H (upd H p o) := fun q u h _ => by
  rw [upd_ne (ne_of_none h hp)]
  exact h
theorem Fr.put {p : Addr} {o u : HO} (hp : H p = some u) (n : ¬ Imm c u) : Fr c H (upd H p o) := fun q v h i => by
  rw [upd_ne fun e => by subst e; rw [hp] at h; cases h; exact n i]
  exact h
theorem Fr.extN (s : ExtN H H') : Fr c H H' := fun p o h i => s p o h fun ps z => by subst z; exact i.elim
end
def ErrO (H : Hp) (a C : Addr) (fs : List (Str × V)) : Prop := ∃ (d : Option Addr) (φ : Heap → Prop), H a = some (.ext φ) ∧ (∀ h, φ h → ∃ o, h.get? a = some o ∧ o.cls = .ref C ∧ o.dict = d ∧ ∃ vs, o.data = .fields vs) ∧
  ((d = none ∧ fs = []) ∨ ∃ dd, d = some dd ∧ (H dd = some (.xd fs) ∨ H dd = some (exd dd fs)))
theorem ErrO.fr {K : PySem.W.Frag} {c : AC K} {H H' : Hp} {a C : Addr} {fs : List (Str × V)} (h : ErrO H a C fs) (s : Fr c H H') : ErrO H' a C fs := by
  obtain ⟨d, φ, e1, e2, e3⟩ := h
  refine ⟨d, φ, s _ _ e1 trivial, e2, ?_⟩
  rcases e3 with e | ⟨dd, e, e4 | e4⟩
  · exact .inl e
  · exact .inr ⟨dd, e, .inl (s _ _ e4 trivial)⟩
  · exact .inr ⟨dd, e, .inr (s _ _ e4 trivial)⟩
mutual
def RepC {K : PySem.W.Frag} (c : AC K) (H : Hp) : D → V → Prop
  | .non, v => v = .non
  | .bl b, v => v = .bl b
  | .int i, v => v = .int i
  | .str s, v => v = .str s
  | .ref p, v => v = .ref p
  | .ty n, v => v = .ty n
  | .scr, v => ∃ a ns, c.scr = some (a, ns) ∧ v = .ref a
  | .tree t, v => Ftn (cF K) H t v
  | .tup l, v => ∃ a vs, v = .ref a ∧ SqT K H a vs ∧ RepCL c H l vs
  | .obj C ks ds, v => ∃ a dx vs, v = .ref a ∧ H a = some (.ins C dx (ks.zip vs)) ∧ IC c C ∧ ks.length = ds.length ∧ RepCL c H ds vs
  | .err C ks ds, v => ∃ a vs, v = .ref a ∧ ErrO H a C (ks.zip vs) ∧ ks.length = ds.length ∧ RepCL c H ds vs
def RepCL {K : PySem.W.Frag} (c : AC K) (H : Hp) : List D → List V → Prop
  | [], vs => vs = []
  | d :: ds, vs => ∃ v r, vs = v :: r ∧ RepC c H d v ∧ RepCL c H ds r
end
structure Rep {K : PySem.W.Frag} (c : AC K) (H : Hp) (d : D) (v : V) : Prop where
  core : RepC c H d v
structure RepL {K : PySem.W.Frag} (c : AC K) (H : Hp) (l : List D) (vs : List V) : Prop where
  core : RepCL c H l vs
section
variable {K : PySem.W.Frag} {c : AC K} {H H1 H' : Hp}
theorem repL_nil {vs : List V} : RepL c H [] vs ↔ vs = [] := ⟨fun h => by have := h.core; simpa only [RepCL] using this, fun h => ⟨by simpa only [RepCL] using h⟩⟩
theorem repL_cons {d : D} {ds : List D} {vs : List V} : RepL c H (d :: ds) vs ↔ ∃ v r, vs = v :: r ∧ Rep c H d v ∧ RepL c H ds r := by
  constructor
  · rintro ⟨h⟩
    have h2 : ∃ v r, vs = v :: r ∧ RepC c H d v ∧ RepCL c H ds r := by simpa only [RepCL] using h
    obtain ⟨v, r, e, h1, h3⟩ := h2
    exact ⟨v, r, e, ⟨h1⟩, ⟨h3⟩⟩
  · rintro ⟨v, r, e, ⟨h1⟩, ⟨h3⟩⟩
    refine ⟨?_⟩
    simp only [RepCL]
    exact ⟨v, r, e, h1, h3⟩
theorem rep_tree {t : T} {v : V} : Rep c H (.tree t) v ↔ Ftn (cF K) H t v := ⟨fun h => by have := h.core; simpa only [RepC] using this, fun h => ⟨by simpa only [RepC] using h⟩⟩
theorem rep_tup {l : List D} {v : V} : Rep c H (.tup l) v ↔ ∃ a vs, v = .ref a ∧ SqT K H a vs ∧ RepL c H l vs := by
  constructor
  · rintro ⟨h⟩
    have h2 : ∃ a vs, v = .ref a ∧ SqT K H a vs ∧ RepCL c H l vs := by simpa only [RepC] using h
    obtain ⟨a, vs, e, h1, h3⟩ := h2
    exact ⟨a, vs, e, h1, ⟨h3⟩⟩
  · rintro ⟨a, vs, e, h1, ⟨h3⟩⟩
    refine ⟨?_⟩
    simp only [RepC]
    exact ⟨a, vs, e, h1, h3⟩
theorem rep_obj {C : Addr} {ks : List Str} {ds : List D} {v : V} : Rep c H (.obj C ks ds) v ↔ ∃ a dx vs, v = .ref a ∧ H a = some (.ins C dx (ks.zip vs)) ∧ IC c C ∧ ks.length = ds.length ∧ RepL c H ds vs := by
  constructor
  · rintro ⟨h⟩
    have h2 : ∃ a dx vs, v = .ref a ∧ H a = some (.ins C dx (ks.zip vs)) ∧ IC c C ∧ ks.length = ds.length ∧ RepCL c H ds vs := by simpa only [RepC] using h
    obtain ⟨a, dx, vs, e, h1, h2, h4, h3⟩ := h2
    exact ⟨a, dx, vs, e, h1, h2, h4, ⟨h3⟩⟩
  · rintro ⟨a, dx, vs, e, h1, h2, h4, ⟨h3⟩⟩
    refine ⟨?_⟩
    simp only [RepC]
    exact ⟨a, dx, vs, e, h1, h2, h4, h3⟩
theorem rep_err {C : Addr} {ks : List Str} {ds : List D} {v : V} : Rep c H (.err C ks ds) v ↔ ∃ a vs, v = .ref a ∧ ErrO H a C (ks.zip vs) ∧ ks.length = ds.length ∧ RepL c H ds vs := by
  constructor
  · rintro ⟨h⟩
    have h2 : ∃ a vs, v = .ref a ∧ ErrO H a C (ks.zip vs) ∧ ks.length = ds.length ∧ RepCL c H ds vs := by simpa only [RepC] using h
    obtain ⟨a, vs, e, h1, h2, h3⟩ := h2
    exact ⟨a, vs, e, h1, h2, ⟨h3⟩⟩
  · rintro ⟨a, vs, e, h1, h2, ⟨h3⟩⟩
    refine ⟨?_⟩
    simp only [RepC]
    exact ⟨a, vs, e, h1, h2, h3⟩
theorem rep_non {v : V} : Rep c H .non v ↔ v = .non := ⟨fun h => by have := h.core; simpa only [RepC] using this, fun h => ⟨by simpa only [RepC] using h⟩⟩
theorem rep_bl {b : Bool} {v : V} : Rep c H (.bl b) v ↔ v = .bl b := ⟨fun h => by have := h.core; simpa only [RepC] using this, fun h => ⟨by simpa only [RepC] using h⟩⟩
theorem rep_int {i : Int} {v : V} : Rep c H (.int i) v ↔ v = .int i := ⟨fun h => by have := h.core; simpa only [RepC] using this, fun h => ⟨by simpa only [RepC] using h⟩⟩
theorem rep_str {z : Str} {v : V} : Rep c H (.str z) v ↔ v = .str z := ⟨fun h => by have := h.core; simpa only [RepC] using this, fun h => ⟨by simpa only [RepC] using h⟩⟩
theorem rep_ref {p : Addr} {v : V} : Rep c H (.ref p) v ↔ v = .ref p := ⟨fun h => by have := h.core; simpa only [RepC] using this, fun h => ⟨by simpa only [RepC] using h⟩⟩
theorem rep_ty {n : String} {v : V} : Rep c H (.ty n) v ↔ v = .ty n := ⟨fun h => by have := h.core; simpa only [RepC] using this, fun h => ⟨by simpa only [RepC] using h⟩⟩
theorem rep_scr {v : V} : Rep c H .scr v ↔ ∃ a ns, c.scr = some (a, ns) ∧ v = .ref a := ⟨fun h => by have := h.core; simpa only [RepC] using this, fun h => ⟨by simpa only [RepC] using h⟩⟩
mutual
theorem ftn_fr (s : Fr c H H') : ∀ (t : T) (v : V), Ftn (cF K) H t v → Ftn (cF K) H' t v
  | .jet, v, h => by
    have h2 : ∃ a dx b n, v = .ref a ∧ H a = some (.ins (cF K) dx (flds .jet b n)) ∧ H b = some (.tup []) ∧ H n = some (.tup (nums .jet)) := h
    obtain ⟨a, dx, b, n, ev, h1, h2, h3⟩ := h2
    exact ⟨a, dx, b, n, ev, s _ _ h1 (.inl rfl), s _ _ h2 trivial, s _ _ h3 trivial⟩
  | .bas l, v, h => by
    have h2 : ∃ a dx b n vs, v = .ref a ∧ H a = some (.ins (cF K) dx (flds (.bas l) b n)) ∧ H b = some (.tup vs) ∧ H n = some (.tup (nums (.bas l))) ∧ FtnL (cF K) H l vs := h
    obtain ⟨a, dx, b, n, vs, ev, h1, h2, h3, h4⟩ := h2
    exact ⟨a, dx, b, n, vs, ev, s _ _ h1 (.inl rfl), s _ _ h2 trivial, s _ _ h3 trivial, ftnL_fr s l vs h4⟩
theorem ftnL_fr (s : Fr c H H') : ∀ (l : List T) (vs : List V), FtnL (cF K) H l vs → FtnL (cF K) H' l vs
  | [], vs, h => h
  | t :: ts, vs, h => by
    have h2 : ∃ v r, vs = v :: r ∧ Ftn (cF K) H t v ∧ FtnL (cF K) H ts r := h
    obtain ⟨v, r, ev, h1, h2⟩ := h2
    exact ⟨v, r, ev, ftn_fr s t v h1, ftnL_fr s ts r h2⟩
end
theorem sqT_fr (s : Fr c H H') {a : Addr} {vs : List V} (h : SqT K H a vs) : SqT K H' a vs := by
  rcases h with (h | ⟨o, h⟩) | h
  · exact .inl (.inl (s _ _ h trivial))
  · exact .inl (.inr ⟨o, s _ _ h trivial⟩)
  · exact .inr h
mutual
theorem rep_fr (s : Fr c H H') : ∀ (d : D) (v : V), Rep c H d v → Rep c H' d v
  | .non, v, h => rep_non.mpr (rep_non.mp h)
  | .bl _, v, h => rep_bl.mpr (rep_bl.mp h)
  | .int _, v, h => rep_int.mpr (rep_int.mp h)
  | .str _, v, h => rep_str.mpr (rep_str.mp h)
  | .ref _, v, h => rep_ref.mpr (rep_ref.mp h)
  | .ty _, v, h => rep_ty.mpr (rep_ty.mp h)
  | .scr, v, h => rep_scr.mpr (rep_scr.mp h)
  | .tree t, v, h => rep_tree.mpr (ftn_fr s t v (rep_tree.mp h))
  | .tup l, v, h => by
    obtain ⟨a, vs, e, h1, h3⟩ := rep_tup.mp h
    exact rep_tup.mpr ⟨a, vs, e, sqT_fr s h1, repL_fr s l vs h3⟩
  | .obj C ks ds, v, h => by
    obtain ⟨a, dx, vs, e, h1, h4, h5, h3⟩ := rep_obj.mp h
    exact rep_obj.mpr ⟨a, dx, vs, e, s _ _ h1 h4, h4, h5, repL_fr s ds vs h3⟩
  | .err C ks ds, v, h => by
    obtain ⟨a, vs, e, h1, h5, h3⟩ := rep_err.mp h
    exact rep_err.mpr ⟨a, vs, e, h1.fr s, h5, repL_fr s ds vs h3⟩
theorem repL_fr (s : Fr c H H') : ∀ (l : List D) (vs : List V), RepL c H l vs → RepL c H' l vs
  | [], vs, h => repL_nil.mpr (repL_nil.mp h)
  | d :: ds, vs, h => by
    obtain ⟨v, r, e, h1, h3⟩ := repL_cons.mp h
    exact repL_cons.mpr ⟨v, r, e, rep_fr s d v h1, repL_fr s ds r h3⟩
end
theorem Rep.fr {d : D} {v : V} (h : Rep c H d v) (s : Fr c H H') : Rep c H' d v := rep_fr s d v h
theorem RepL.fr {l : List D} {vs : List V} (h : RepL c H l vs) (s : Fr c H H') : RepL c H' l vs := repL_fr s l vs h
theorem RepL.len : ∀ {l : List D} {vs : List V}, RepL c H l vs → vs.length = l.length
  | [], vs, h => by rw [repL_nil.mp h]; rfl
  | d :: ds, vs, h => by
    obtain ⟨v, r, rfl, _, h2⟩ := repL_cons.mp h
    show r.length + 1 = ds.length + 1
    rw [h2.len]
theorem RepL.get : ∀ {l : List D} {vs : List V} {i : Nat} {d : D}, RepL c H l vs → l[i]? = some d → ∃ v, vs[i]? = some v ∧ Rep c H d v
  | [], vs, i, d, h, e => by simp at e
  | x :: ds, vs, 0, d, h, e => by
    obtain ⟨v, r, rfl, h1, h2⟩ := repL_cons.mp h
    simp at e
    subst e
    exact ⟨v, rfl, h1⟩
  | x :: ds, vs, i + 1, d, h, e => by
    obtain ⟨v, r, rfl, h1, h2⟩ := repL_cons.mp h
    obtain ⟨u, e1, e2⟩ := h2.get (by simpa using e)
    exact ⟨u, by simpa using e1, e2⟩
theorem RepL.getV {l : List D} {vs : List V} {i : Nat} {v : V} (h : RepL c H l vs) (e : vs[i]? = some v) : ∃ d, l[i]? = some d ∧ Rep c H d v := by
  have hi : i < l.length := by
    rw [← h.len]
    exact (List.getElem?_eq_some_iff.mp e).1
  obtain ⟨u, e1, r⟩ := h.get (List.getElem?_eq_getElem hi)
  rw [e] at e1
  cases e1
  exact ⟨_, List.getElem?_eq_getElem hi, r⟩
theorem RepL.app : ∀ {l m : List D} {vs ws : List V}, RepL c H l vs → RepL c H m ws → RepL c H (l ++ m) (vs ++ ws)
  | [], m, vs, ws, h, g => by
    rw [repL_nil.mp h]
    exact g
  | d :: ds, m, vs, ws, h, g => by
    obtain ⟨v, r, rfl, h1, h2⟩ := repL_cons.mp h
    exact repL_cons.mpr ⟨v, r ++ ws, rfl, h1, h2.app g⟩
theorem RepL.one {d : D} {v : V} (h : Rep c H d v) : RepL c H [d] [v] := repL_cons.mpr ⟨v, [], rfl, h, repL_nil.mpr rfl⟩
theorem RepL.cons {d : D} {v : V} {l : List D} {vs : List V} (h : Rep c H d v) (g : RepL c H l vs) : RepL c H (d :: l) (v :: vs) := repL_cons.mpr ⟨v, vs, rfl, h, g⟩
theorem RepL.nil : RepL c H [] [] := repL_nil.mpr rfl
theorem RepL.drop : ∀ {l : List D} {vs : List V} (n : Nat), RepL c H l vs → RepL c H (l.drop n) (vs.drop n)
  | l, vs, 0, h => by simpa using h
  | [], vs, n + 1, h => by
    rw [repL_nil.mp h]
    exact RepL.nil
  | d :: ds, vs, n + 1, h => by
    obtain ⟨v, r, rfl, h1, h2⟩ := repL_cons.mp h
    simpa using h2.drop n
theorem RepL.take : ∀ {l : List D} {vs : List V} (n : Nat), RepL c H l vs → RepL c H (l.take n) (vs.take n)
  | l, vs, 0, h => by simpa using RepL.nil
  | [], vs, n + 1, h => by
    rw [repL_nil.mp h]
    simpa using RepL.nil
  | d :: ds, vs, n + 1, h => by
    obtain ⟨v, r, rfl, h1, h2⟩ := repL_cons.mp h
    simpa using RepL.cons h1 (h2.take n)
theorem RepL.set : ∀ {l : List D} {vs : List V} {d : D} {v : V} (n : Nat), RepL c H l vs → Rep c H d v → RepL c H (l.set n d) (vs.set n v)
  | [], vs, d, v, n, h, g => by
    rw [repL_nil.mp h]
    exact RepL.nil
  | x :: ds, vs, d, v, 0, h, g => by
    obtain ⟨y, r, rfl, h1, h2⟩ := repL_cons.mp h
    exact RepL.cons g h2
  | x :: ds, vs, d, v, n + 1, h, g => by
    obtain ⟨y, r, rfl, h1, h2⟩ := repL_cons.mp h
    exact RepL.cons h1 (h2.set n g)
theorem RepL.eraseIdx : ∀ {l : List D} {vs : List V} (n : Nat), RepL c H l vs → RepL c H (l.eraseIdx n) (vs.eraseIdx n)
  | [], vs, n, h => by
    rw [repL_nil.mp h]
    exact RepL.nil
  | x :: ds, vs, 0, h => by
    obtain ⟨y, r, rfl, h1, h2⟩ := repL_cons.mp h
    exact h2
  | x :: ds, vs, n + 1, h => by
    obtain ⟨y, r, rfl, h1, h2⟩ := repL_cons.mp h
    exact RepL.cons h1 (h2.eraseIdx n)
theorem RepL.ints : ∀ {l : List Int} {vs : List V}, RepL c H (l.map D.int) vs ↔ vs = l.map V.int
  | [], vs => repL_nil
  | i :: l, vs => by
    rw [List.map_cons, List.map_cons, repL_cons]
    constructor
    · rintro ⟨v, r, rfl, h1, h2⟩
      rw [rep_int.mp h1, RepL.ints.mp h2]
    · rintro rfl
      exact ⟨_, _, rfl, rep_int.mpr rfl, RepL.ints.mpr rfl⟩
theorem RepL.strs : ∀ {l : List Str} {vs : List V}, RepL c H (l.map D.str) vs ↔ vs = l.map V.str
  | [], vs => repL_nil
  | i :: l, vs => by
    rw [List.map_cons, List.map_cons, repL_cons]
    constructor
    · rintro ⟨v, r, rfl, h1, h2⟩
      rw [rep_str.mp h1, RepL.strs.mp h2]
    · rintro rfl
      exact ⟨_, _, rfl, rep_str.mpr rfl, RepL.strs.mpr rfl⟩
theorem RepL.bls : ∀ {l : List Bool} {vs : List V}, RepL c H (l.map D.bl) vs ↔ vs = l.map V.bl
  | [], vs => repL_nil
  | i :: l, vs => by
    rw [List.map_cons, List.map_cons, repL_cons]
    constructor
    · rintro ⟨v, r, rfl, h1, h2⟩
      rw [rep_bl.mp h1, RepL.bls.mp h2]
    · rintro rfl
      exact ⟨_, _, rfl, rep_bl.mpr rfl, RepL.bls.mpr rfl⟩
theorem RepL.trees : ∀ {l : List T} {vs : List V}, RepL c H (l.map D.tree) vs ↔ FtnL (cF K) H l vs
  | [], vs => repL_nil
  | t :: l, vs => by
    rw [List.map_cons, repL_cons]
    constructor
    · rintro ⟨v, r, rfl, h1, h2⟩
      exact ⟨v, r, rfl, rep_tree.mp h1, RepL.trees.mp h2⟩
    · rintro ⟨v, r, rfl, h1, h2⟩
      exact ⟨v, r, rfl, rep_tree.mpr h1, RepL.trees.mpr h2⟩
end
def MRep {K : PySem.W.Frag} (c : AC K) (H : Hp) (p : Addr) : MO → Prop
  | .lst l => ∃ vs, H p = some (.lst vs) ∧ RepL c H l vs
  | .dct l => ∃ kvs, H p = some (.dK kvs) ∧ kvs.map (·.1) = l.map (·.1) ∧ RepL c H (l.map (·.2)) (kvs.map (·.2))
  | .ins C ks ds => ∃ dx vs, H p = some (.ins C dx (ks.zip vs)) ∧ ¬ IC c C ∧ ks.length = ds.length ∧ RepL c H ds vs
  | .lsq P => ∃ vs l, H p = some (.lst vs) ∧ RepL c H l vs ∧ P l
  | .opq P => ∃ o, H p = some o ∧ P o ∧ ¬ Imm c o ∧ (∀ ps, o ≠ .tbl ps) ∧ (∀ φ, o ≠ .ext φ) ∧ ∀ xs, ¬ P (.lst xs)
def ScrOk {K : PySem.W.Frag} (c : AC K) (L : Store) (H : Hp) : Prop := ∀ a ns, c.scr = some (a, ns) → ns.length ≤ 63 ∧
  ((H a = some (.lst (ns.map V.int)) ∧ L a = none) ∨ (∃ o, H a = some (.frz o (.lst (ns.map V.int)))) ∨ (∃ (o : Obj) (its : Array Value) (n : Nat), K.lookup a = some o ∧ o.cls = .type "list" ∧ o.dict = none ∧ o.data = .seq its n ∧ its.size ≤ sizeLine ∧ Vals (ns.map V.int) its.toList))
structure Good {K : PySem.W.Frag} (c : AC K) (L : Store) (H : Hp) : Prop where
  tabs : Tabs c.TT H
  st : ∀ p m, L p = some m → MRep c H p m
  scr : ScrOk c L H
section
variable {K : PySem.W.Frag} {c : AC K} {H H1 H' : Hp} {L : Store} {p : Addr} {m : MO}
theorem MRep.at (h : MRep c H p m) : ∃ o, H p = some o ∧ ¬ Imm c o ∧ (∀ ps, o ≠ .tbl ps) ∧ ∀ φ, o ≠ .ext φ := by
  cases m with
  | lst l => obtain ⟨vs, e, _⟩ := h; exact ⟨_, e, fun z => z, fun _ z => (by cases z), fun _ z => (by cases z)⟩
  | dct l => obtain ⟨vs, e, _⟩ := h; exact ⟨_, e, fun z => z, fun _ z => (by cases z), fun _ z => (by cases z)⟩
  | ins C ks ds => obtain ⟨dx, vs, e, n, _⟩ := h; exact ⟨_, e, n, fun _ z => (by cases z), fun _ z => (by cases z)⟩
  | lsq P => obtain ⟨vs, l, e, _⟩ := h; exact ⟨_, e, fun z => z, fun _ z => (by cases z), fun _ z => (by cases z)⟩
  | opq P => obtain ⟨o, e, _, r1, r2, r3, _⟩ := h; exact ⟨o, e, r1, r2, r3⟩
theorem MRep.mono (h : MRep c H p m) (e : H' p = H p) (s : Fr c H H') : MRep c H' p m := by
  cases m with
  | lst l => obtain ⟨vs, e1, r⟩ := h; exact ⟨vs, e.trans e1, r.fr s⟩
  | dct l => obtain ⟨vs, e1, k, r⟩ := h; exact ⟨vs, e.trans e1, k, r.fr s⟩
  | ins C ks ds => obtain ⟨dx, vs, e1, n, k, r⟩ := h; exact ⟨dx, vs, e.trans e1, n, k, r.fr s⟩
  | lsq P => obtain ⟨vs, l, e1, r, q⟩ := h; exact ⟨vs, l, e.trans e1, r.fr s, q⟩
  | opq P => obtain ⟨o, e1, r⟩ := h; exact ⟨o, e.trans e1, r⟩
theorem Good.fresh (g : Good c L H) (h : H p = none) : L p = none := by
  cases e : L p with
  | none => rfl
  | some m =>
    obtain ⟨o, e2, _⟩ := (g.st p m e).at
    rw [h] at e2
    cases e2
theorem tabs_upd {TT : List (Addr × Str)} {o u : HO} (t : Tabs TT H) (hd : ∀ v, H p = some v → (∀ ps, v ≠ .tbl ps) ∧ ∀ φ, v ≠ .ext φ) : Tabs TT (upd H p u) := fun q hq => by
  obtain ⟨ps, h1, h2, h3⟩ := t q hq
  have ne1 : q.1 ≠ p := fun e => (hd _ (e ▸ h1)).1 ps rfl
  refine ⟨ps, by rw [upd_ne ne1]; exact h1, h2, fun pos cv hc => ?_⟩
  obtain ⟨k, e1, e2⟩ := h3 pos cv hc
  have ne2 : k ≠ p := fun e => (hd _ (e ▸ e2)).2 _ rfl
  exact ⟨k, e1, by rw [upd_ne ne2]; exact e2⟩
theorem Good.alloc (g : Good c L H) (hp : H p = none) (o : HO) (hm : MRep c (upd H p o) p m) : Good c (sput L p m) (upd H p o) := by
  have s : Fr c H (upd H p o) := .new hp
  refine ⟨tabs_upd (o := o) g.tabs fun v e => (by rw [hp] at e; cases e), fun q n e => ?_, fun a ns e => ?_⟩
  · by_cases hq : q = p
    · subst hq
      rw [sput_same] at e
      cases e
      exact hm
    · rw [sput_ne hq] at e
      exact (g.st q n e).mono (upd_ne hq) s
  · refine ⟨(g.scr a ns e).1, ?_⟩
    rcases (g.scr a ns e).2 with ⟨h1, h2⟩ | ⟨o', h⟩ | h
    · have ne : a ≠ p := fun z => by subst z; rw [hp] at h1; cases h1
      exact .inl ⟨by rw [upd_ne ne]; exact h1, by rw [sput_ne ne]; exact h2⟩
    · have ne : a ≠ p := fun z => by subst z; rw [hp] at h; cases h
      exact .inr (.inl ⟨o', by rw [upd_ne ne]; exact h⟩)
    · exact .inr (.inr h)
theorem Good.new (g : Good c L H) (hp : H p = none) (o : HO) : Good c L (upd H p o) := by
  have s : Fr c H (upd H p o) := .new hp
  refine ⟨tabs_upd (o := o) g.tabs fun v e => (by rw [hp] at e; cases e), fun q n e => ?_, fun a ns e => ?_⟩
  · have hq : q ≠ p := fun z => by subst z; rw [g.fresh hp] at e; cases e
    exact (g.st q n e).mono (upd_ne hq) s
  · refine ⟨(g.scr a ns e).1, ?_⟩
    rcases (g.scr a ns e).2 with ⟨h1, h2⟩ | ⟨o', h⟩ | h
    · have ne : a ≠ p := fun z => by subst z; rw [hp] at h1; cases h1
      exact .inl ⟨by rw [upd_ne ne]; exact h1, h2⟩
    · have ne : a ≠ p := fun z => by subst z; rw [hp] at h; cases h
      exact .inr (.inl ⟨o', by rw [upd_ne ne]; exact h⟩)
    · exact .inr (.inr h)
theorem Good.put {m' : MO} (g : Good c L H) (hp : L p = some m) (o : HO) (hm : MRep c (upd H p o) p m') : Good c (sput L p m') (upd H p o) ∧ Fr c H (upd H p o) := by
  obtain ⟨u, e0, n0, n1, n2⟩ := (g.st p m hp).at
  have s : Fr c H (upd H p o) := .put e0 n0
  refine ⟨⟨tabs_upd (o := o) g.tabs fun v e => by rw [e0] at e; cases e; exact ⟨n1, n2⟩, fun q n e => ?_, fun a ns e => ?_⟩, s⟩
  · by_cases hq : q = p
    · subst hq
      rw [sput_same] at e
      cases e
      exact hm
    · rw [sput_ne hq] at e
      exact (g.st q n e).mono (upd_ne hq) s
  · refine ⟨(g.scr a ns e).1, ?_⟩
    rcases (g.scr a ns e).2 with ⟨h1, h2⟩ | ⟨o', h⟩ | h
    · have ne : a ≠ p := fun z => by subst z; rw [hp] at h2; cases h2
      exact .inl ⟨by rw [upd_ne ne]; exact h1, by rw [sput_ne ne]; exact h2⟩
    · have ne : a ≠ p := fun z => by subst z; rw [e0] at h; cases h; exact n0 trivial
      exact .inr (.inl ⟨o', by rw [upd_ne ne]; exact h⟩)
    · exact .inr (.inr h)
theorem Good.keep (g : Good c L H) (t : Tabs c.TT H') (s : Fr c H H') (k : ∀ q n, L q = some n → H' q = H q) (hs : ∀ a ns, c.scr = some (a, ns) → H a = some (.lst (ns.map V.int)) → H' a = H a) : Good c L H' := by
  refine ⟨t, fun q n e => (g.st q n e).mono (k q n e) s, fun a ns e => ?_⟩
  refine ⟨(g.scr a ns e).1, ?_⟩
  rcases (g.scr a ns e).2 with ⟨h1, h2⟩ | ⟨o', h⟩ | h
  · exact .inl ⟨(hs a ns e h1).trans h1, h2⟩
  · exact .inr (.inl ⟨o', s _ _ h trivial⟩)
  · exact .inr (.inr h)
theorem Good.extN (g : Good c L H) (t : Tabs c.TT H') (s : ExtN H H') : Good c L H' := by
  refine g.keep t (.extN s) (fun q n e => ?_) fun a ns e h => ?_
  · obtain ⟨o, e0, _, n1, _⟩ := (g.st q n e).at
    rw [s _ _ e0 n1, e0]
  · rw [s _ _ h (fun ps z => by cases z), h]
theorem Good.same (g : Good c L H) (s : L2.Same H H') : Good c L H' := g.extN (JW.Tabs.same g.tabs s) (.of s)
end
section
variable {K : PySem.W.Frag} {c : AC K} {H H1 H' : Hp} {L : Store}
theorem Good.seq (g : Good c L H) {a : Addr} {ns : List Int} (e : c.scr = some (a, ns)) : SqL K H a (ns.map V.int) := by
  rcases (g.scr a ns e).2 with ⟨h, _⟩ | ⟨o, h⟩ | h
  · exact .inl (.inl h)
  · exact .inl (.inr ⟨o, h⟩)
  · exact .inr h
def law0 : Store := fun _ => none
theorem good_law {a : Addr} {ns : List Int} (hs : c.scr = some (a, ns)) (hl : ns.length ≤ 63) (h : SqL K H a (ns.map V.int)) (t : Tabs c.TT H) : Good c law0 H := by
  refine ⟨t, fun q n e => (by cases e), fun b ms e => ?_⟩
  rw [hs] at e
  cases e
  refine ⟨hl, ?_⟩
  rcases h with (h | ⟨o, h⟩) | h
  · exact .inl ⟨h, rfl⟩
  · exact .inr (.inl ⟨o, h⟩)
  · exact .inr (.inr h)
theorem Good.sameNew {d : Addr} {m : MO} (g : Good c L H) (s : L2.Same H H') (hd : H d = none) (hm : MRep c H' d m) : Good c (sput L d m) H' := by
  have g' := g.same s
  refine ⟨g'.tabs, fun q n e => ?_, fun a ns e => ?_⟩
  · by_cases hq : q = d
    · subst hq
      rw [sput_same] at e
      cases e
      exact hm
    · rw [sput_ne hq] at e
      exact g'.st q n e
  · refine ⟨(g.scr a ns e).1, ?_⟩
    rcases (g.scr a ns e).2 with ⟨h1, h2⟩ | ⟨o, h⟩ | h
    · exact .inl ⟨s _ _ h1, by rw [sput_ne (ne_of_none h1 hd)]; exact h2⟩
    · exact .inr (.inl ⟨o, s _ _ h⟩)
    · exact .inr (.inr h)
def SubS (L0 L : Store) : Prop := ∀ p m, L0 p = some m → L p = some m
theorem SubS.refl (L : Store) : SubS L L := fun _ _ h => h
theorem SubS.trans {L0 L1 L2 : Store} (a : SubS L0 L1) (b : SubS L1 L2) : SubS L0 L2 := fun p m h => b p m (a p m h)
theorem SubS.new {L0 L : Store} {p : Addr} {m : MO} (a : SubS L0 L) (hp : L p = none) : SubS L0 (sput L p m) := fun q n h => sput_old (a q n h) hp
theorem SubS.put {L0 L : Store} {p : Addr} {m : MO} (a : SubS L0 L) (hp : L0 p = none) : SubS L0 (sput L p m) := fun q n h => by
  rw [sput_ne fun e => by rw [e, hp] at h; cases h]
  exact a q n h
theorem SubS.none {L0 L : Store} {p : Addr} (a : SubS L0 L) (hp : L p = none) : L0 p = none := by
  cases e : L0 p with
  | none => rfl
  | some m => rw [a p m e] at hp; cases hp
theorem SubS.mine {L0 L : Store} {p : Addr} {m : MO} (a : SubS L0 L) (hp : L p = some m) : SubS (sput L0 p m) L := fun q n h => by
  by_cases e : q = p
  · subst e
    rw [sput_same] at h
    cases h
    exact hp
  · rw [sput_ne e] at h
    exact a q n h
theorem Good.sub {L0 : Store} (g : Good c L H) (s : SubS L0 L) : Good c L0 H := by
  refine ⟨g.tabs, fun q n e => g.st q n (s q n e), fun a ns e => ⟨(g.scr a ns e).1, ?_⟩⟩
  rcases (g.scr a ns e).2 with ⟨h1, h2⟩ | h
  · exact .inl ⟨h1, s.none h2⟩
  · exact .inr h
end
end AL
namespace AL
open PySem PySem.Spec PyProof.Rows L2 LamX JW
abbrev En := List (Option D)
abbrev AQ := D → Store → Prop
abbrev AX := Str → List (Str × D) → Store → Prop
abbrev ATE := En → Store → AQ → Prop
abbrev ATT := En → Store → (Bool → Store → Prop) → Prop
abbrev ATA := En → Store → (List D → Store → Prop) → Prop
structure AEnds where
  nx : En → Store → Prop
  rt : AQ
  bk : En → Store → Prop := fun _ _ => False
  ct : En → Store → Prop := fun _ _ => False
abbrev ATS := AEnds → En → Store → Prop
abbrev ATG := D → En → Store → (En → Store → Prop) → Prop
abbrev ATGs := List D → En → Store → (En → Store → Prop) → Prop
abbrev ATI := En → Store → (List D → (Store → Prop) → Store → Prop) → Prop
abbrev ASp := List D → Store → AQ → AX → Prop
def anyX : AX := fun _ _ _ => True
section
variable {K : PySem.W.Frag}
structure EnvR (c : AC K) (H : Hp) (σ : L2.St) (env : En) : Prop where
  len : σ.length = env.length
  get : ∀ (i : Nat) (d : D), env[i]? = some (some d) → ∃ v : V, σ[i]? = some (some v) ∧ Rep c H d v
structure Rl (c : AC K) (H0 : Hp) (σ : L2.St) (H : Hp) (env : En) (L : Store) : Prop where
  env : EnvR c H σ env
  good : Good c L H
  fr : Fr c H0 H
def Pq (c : AC K) (H : Hp) (R : AQ) (Q : VK) : Prop := ∀ d L' v H', R d L' → Fr c H H' → Good c L' H' → Rep c H' d v → Q v H'
def ErrR (c : AC K) (H : Hp) (fs : List (Str × D)) (dd : Option Addr) : Prop := (fs = [] ∧ dd = none) ∨ ∃ f d a v, fs = [(f, d)] ∧ dd = some a ∧ H a = some (.xd [(f, v)]) ∧ Rep c H d v
def Px (c : AC K) (H : Hp) (R : AX) (E : XK) : Prop := ∀ x fs L' H' dd, R x fs L' → Fr c H H' → Good c L' H' → ErrR c H' fs dd → E (.ref (He.ga K x)) dd H'
end
section
variable {K : PySem.W.Frag} {c : AC K} {H0 H H1 H' : Hp} {σ : L2.St} {env : En} {L L1 : Store} {Q : VK} {R : AQ} {d : D} {v : V}
theorem EnvR.fr (h : EnvR c H σ env) (s : Fr c H H1) : EnvR c H1 σ env := ⟨h.len, fun i d e => by
  obtain ⟨v, e1, r⟩ := h.get i d e
  exact ⟨v, e1, r.fr s⟩⟩
theorem EnvR.set (h : EnvR c H σ env) (i : Nat) (r : Rep c H d v) : EnvR c H (σ.set i (some v)) (env.set i (some d)) := by
  refine ⟨by rw [List.length_set, List.length_set, h.len], fun j e hj => ?_⟩
  by_cases hi : i = j
  · subst hi
    have lt : i < env.length := by
      rcases Nat.lt_or_ge i env.length with z | z
      · exact z
      · rw [List.getElem?_eq_none (by simpa using z)] at hj
        cases hj
    rw [List.getElem?_set_self lt] at hj
    cases hj
    exact ⟨v, List.getElem?_set_self (by rw [h.len]; exact lt), r⟩
  · rw [List.getElem?_set_ne hi] at hj
    obtain ⟨u, e1, r1⟩ := h.get j e hj
    exact ⟨u, by rw [List.getElem?_set_ne hi]; exact e1, r1⟩
theorem Rl.step (h : Rl c H0 σ H env L) (s : Fr c H H1) (g : Good c L1 H1) : Rl c H0 σ H1 env L1 := ⟨h.env.fr s, g, h.fr.trans s⟩
theorem Pq.fr (h : Pq c H R Q) (s : Fr c H H1) : Pq c H1 R Q := fun d L' v H' r f g p => h d L' v H' r (s.trans f) g p
theorem Pq.here (h : Pq c H R Q) (r : R d L) (g : Good c L H) (p : Rep c H d v) : Q v H := h d L v H r (.refl c H) g p
theorem Pq.new (h : Pq c H R Q) {p : Addr} {o : HO} (hp : H p = none) (r : R d L) (g : Good c L H) (q : Rep c (upd H p o) d v) : Q v (upd H p o) := h d L v _ r (.new hp) (g.new hp o) q
theorem Pq.alloc (h : Pq c H R Q) {p : Addr} {o : HO} {m : MO} (hp : H p = none) (r : R (.ref p) (sput L p m)) (g : Good c L H) (q : MRep c (upd H p o) p m) : Q (.ref p) (upd H p o) :=
  h (.ref p) _ _ _ r (.new hp) (g.alloc hp o q) (rep_ref.mpr rfl)
theorem Px.fr {RX : AX} {E : XK} (h : Px c H RX E) (s : Fr c H H1) : Px c H1 RX E := fun x fs L' H' dd r f g p => h x fs L' H' dd r (s.trans f) g p
end
section
variable {K : PySem.W.Frag}
def lowE (c : AC K) (H0 : Hp) (a : ATE) : TE := fun σ H Q => ∃ env L R, Rl c H0 σ H env L ∧ a env L R ∧ Pq c H R Q
def lowT (c : AC K) (H0 : Hp) (a : ATT) : TT := fun σ H Q => ∃ env L R, Rl c H0 σ H env L ∧ a env L R ∧ ∀ b L' H', R b L' → Fr c H H' → Good c L' H' → Q b H'
def lowA (c : AC K) (H0 : Hp) (a : ATA) : TA := fun σ H Q => ∃ env L R, Rl c H0 σ H env L ∧ a env L R ∧ ∀ ds L' vs H', R ds L' → Fr c H H' → Good c L' H' → RepL c H' ds vs → Q vs H'
structure EndR (c : AC K) (H0 : Hp) (H : Hp) (R : AEnds) (D : Ends) : Prop where
  nx : ∀ env' L' σ' H', R.nx env' L' → Fr c H H' → Rl c H0 σ' H' env' L' → D.nx σ' H'
  rt : ∀ d L' v H', R.rt d L' → Fr c H H' → Good c L' H' → Rep c H' d v → D.rt v H'
  bk : ∀ env' L' σ' H', R.bk env' L' → Fr c H H' → Rl c H0 σ' H' env' L' → D.bk σ' H'
  ct : ∀ env' L' σ' H', R.ct env' L' → Fr c H H' → Rl c H0 σ' H' env' L' → D.ct σ' H'
def lowS (c : AC K) (H0 : Hp) (a : ATS) : TS := fun D σ H => ∃ env L R, Rl c H0 σ H env L ∧ a R env L ∧ EndR c H0 H R D
def lowG (c : AC K) (H0 : Hp) (a : ATG) : TG := fun v σ H Q => ∃ d env L R, Rep c H d v ∧ Rl c H0 σ H env L ∧ a d env L R ∧ ∀ env' L' σ' H', R env' L' → Fr c H H' → Rl c H0 σ' H' env' L' → Q σ' H'
def lowGs (c : AC K) (H0 : Hp) (a : ATGs) : TGs := fun vs σ H Q => ∃ ds env L R, RepL c H ds vs ∧ Rl c H0 σ H env L ∧ a ds env L R ∧ ∀ env' L' σ' H', R env' L' → Fr c H H' → Rl c H0 σ' H' env' L' → Q σ' H'
structure WalkA (c : AC K) (J : It) (items : List D) (G : Store → Prop) (H : Hp) : Prop where
  ex : ∃ GH : Hp → Prop, Walk J items.length GH (fun i H x H' => Fr c H H' ∧ (∀ L, Good c L H → Good c L H') ∧ ∃ d, items[i]? = some d ∧ Rep c H' d x) ∧ ∀ L H', Fr c H H' → Good c L H' → G L → GH H'
def lowI (c : AC K) (H0 : Hp) (a : ATI) : TI := fun σ H Q => ∃ env L R, Rl c H0 σ H env L ∧ a env L R ∧ ∀ items G L' J H', R items G L' → Fr c H H' → Good c L' H' → WalkA c J items G H' → Q J H'
def spA (c : AC K) (asp : ASp) : Sp := fun vs H Q E => ∃ ds L R RX, RepL c H ds vs ∧ Good c L H ∧ asp ds L R RX ∧ Pq c H R Q ∧ Px c H RX E
end
theorem EndR.fr {K : PySem.W.Frag} {c : AC K} {H0 H H1 : Hp} {R : AEnds} {D : Ends} (h : EndR c H0 H R D) (s : Fr c H H1) : EndR c H0 H1 R D :=
  ⟨fun e l σ h' r f => h.nx e l σ h' r (s.trans f), fun d l v h' r f => h.rt d l v h' r (s.trans f), fun e l σ h' r f => h.bk e l σ h' r (s.trans f), fun e l σ h' r f => h.ct e l σ h' r (s.trans f)⟩
section
variable (X : Cx) (c : AC X.K) (H0 : Hp)
def AE (e : Expr) (a : ATE) : Prop := PE X e (lowE c H0 a)
def AT (e : Expr) (a : ATT) : Prop := PT X e (lowT c H0 a)
def AW (e : Expr) (a : ATT) : Prop := PW X e (lowT c H0 a)
def AA (es : List Expr) (a : ATA) : Prop := PA X es (lowA c H0 a)
def AS (st : Stmt) (a : ATS) : Prop := PS X st (lowS c H0 a)
def ASs (st : List Stmt) (a : ATS) : Prop := PSs X st (lowS c H0 a)
def AG (tg : Expr) (a : ATG) : Prop := PG X tg (lowG c H0 a)
def AGs (tg : List Expr) (a : ATGs) : Prop := PGs X tg (lowGs c H0 a)
def AI (tg it : Expr) (a : ATI) : Prop := PI X tg it (lowI c H0 a)
end
section
variable {X : Cx}
theorem _root_.L2.PE.imp {e : Expr} {t t' : TE} (h : PE X e t) (k : ∀ σ H Q, t' σ H Q → t σ H Q) : PE X e t' := ⟨fun pins s σ H Q I q => h.run pins s σ H Q I (k σ H Q q)⟩
theorem _root_.L2.PT.imp {e : Expr} {t t' : TT} (h : PT X e t) (k : ∀ σ H Q, t' σ H Q → t σ H Q) : PT X e t' := ⟨fun pins s σ H Q I q => h.run pins s σ H Q I (k σ H Q q)⟩
theorem _root_.L2.PW.imp {e : Expr} {t t' : TT} (h : PW X e t) (k : ∀ σ H Q, t' σ H Q → t σ H Q) : PW X e t' := ⟨fun wh pins s σ H Q I q => h.run wh pins s σ H Q I (k σ H Q q)⟩
theorem _root_.L2.PA.imp {es : List Expr} {t t' : TA} (h : PA X es t) (k : ∀ σ H Q, t' σ H Q → t σ H Q) : PA X es t' := ⟨fun pos pins s σ H Q I q => h.run pos pins s σ H Q I (k σ H Q q)⟩
theorem _root_.L2.PS.imp {st : Stmt} {t t' : TS} (h : PS X st t) (k : ∀ D σ H, t' D σ H → t D σ H) : PS X st t' := ⟨fun pins s σ H D I q => h.run pins s σ H D I (k D σ H q)⟩
theorem _root_.L2.PSs.imp {st : List Stmt} {t t' : TS} (h : PSs X st t) (k : ∀ D σ H, t' D σ H → t D σ H) : PSs X st t' := ⟨fun pins s σ H D I q => h.run pins s σ H D I (k D σ H q)⟩
theorem _root_.L2.PG.imp {e : Expr} {t t' : TG} (h : PG X e t) (k : ∀ v σ H Q, t' v σ H Q → t v σ H Q) : PG X e t' := ⟨fun pins s σ H v u Q I r q => h.run pins s σ H v u Q I r (k v σ H Q q)⟩
theorem _root_.L2.PGs.imp {es : List Expr} {t t' : TGs} (h : PGs X es t) (k : ∀ v σ H Q, t' v σ H Q → t v σ H Q) : PGs X es t' := ⟨fun pins s σ H v u Q I r q => h.run pins s σ H v u Q I r (k v σ H Q q)⟩
theorem _root_.L2.PI.imp {tg it : Expr} {t t' : TI} (h : PI X tg it t) (k : ∀ σ H R, t' σ H R → t σ H R) : PI X tg it t' := ⟨fun pins s σ H R I q => h.run pins s σ H R I (k σ H R q)⟩
theorem _root_.L2.OpR.imp {f : Value → Value → Sem Value} {r r' : R2} (h : OpR X f r) (k : ∀ x y H Q, r' x y H Q → r x y H Q) : OpR X f r' := fun pins s σ H x y v u Q I rx ry q => h pins s σ H x y v u Q I rx ry (k x y H Q q)
theorem _root_.L2.CallR.imp {f : Value} {r r' : List V → Hp → VK → Prop} (h : CallR X f r) (k : ∀ vs H Q, r' vs H Q → r vs H Q) : CallR X f r' := fun pins s σ H vs us Q I rv q => h pins s σ H vs us Q I rv (k vs H Q q)
end
def aVar (i : Nat) : ATE := fun env L Q => match env[i]? with
  | some (some d) => Q d L
  | _ => False
def aC (d : D) : ATE := fun _ L Q => Q d L
def aOp (f : D → D → Store → AQ → Prop) (a b : ATE) : ATE := fun env L Q => a env L fun d L1 => b env L1 fun e L2 => f d e L2 Q
def aUn (f : D → Store → AQ → Prop) (a : ATE) : ATE := fun env L Q => a env L fun d L1 => f d L1 Q
def aNil : ATA := fun _ L Q => Q [] L
def aCons (a : ATE) (as : ATA) : ATA := fun env L Q => a env L fun d L1 => as env L1 fun ds L2 => Q (d :: ds) L2
def aTup (as : ATA) : ATE := fun env L Q => as env L fun ds L1 => ds.length ≤ sizeLine ∧ Q (.tup ds) L1
def aLst (as : ATA) : ATE := fun env L Q => as env L fun ds L1 => ds.length ≤ sizeLine ∧ ∀ p, L1 p = none → Q (.ref p) (sput L1 p (.lst ds))
def aIf (t : ATT) (a b : ATE) : ATE := fun env L Q => t env L fun k L1 => if k = true then a env L1 Q else b env L1 Q
section
variable {X : Cx} {c : AC X.K} {H0 : Hp} {e f g : Expr} {es : List Expr} {a b : ATE} {as : ATA} {pos : Pos} {t u : ATT}
theorem ae_var {i : Nat} {x : Str} (hN : X.N[i]? = some x) (hv : Vis X.env.scope x) (hd : (x == ("__debug__" : Str)) = false := by decide) (hcd : (x == ("__classdict__" : Str)) = false := by decide) : AE X c H0 (.Name x pos) (aVar i) := by
  refine (pe_var hN hv hd hcd).imp fun σ H Q ⟨env, L, R, rl, h, pq⟩ => ?_
  unfold aVar at h
  split at h
  · rename_i d e
    obtain ⟨v, e1, r⟩ := rl.env.get i d e
    exact ⟨v, e1, pq.here h rl.good r⟩
  · exact h.elim
theorem ae_c {d : D} {v : V} (h : PE X e (tC v)) (r : ∀ H, Rep c H d v) : AE X c H0 e (aC d) := h.imp fun _ H _ ⟨_, _, _, rl, h, pq⟩ => pq.here h rl.good (r H)
theorem ae_int {i : Int} {j} : AE X c H0 (.Constant (.int i) j pos) (aC (.int i)) := ae_c pe_int fun _ => rep_int.mpr rfl
theorem ae_bl {i : Bool} {j} : AE X c H0 (.Constant (.bool i) j pos) (aC (.bl i)) := ae_c pe_bl fun _ => rep_bl.mpr rfl
theorem ae_non {j} : AE X c H0 (.Constant .none j pos) (aC .non) := ae_c pe_non fun _ => rep_non.mpr rfl
theorem ae_str {x : Str} {j} : AE X c H0 (.Constant (.str x) j pos) (aC (.str x)) := ae_c pe_str fun _ => rep_str.mpr rfl
def LowR2 {K : PySem.W.Frag} (c : AC K) (r : R2) (f : D → D → Store → AQ → Prop) : Prop := ∀ x y H Q d e L R, Rep c H d x → Rep c H e y → Good c L H → f d e L R → Pq c H R Q → r x y H Q
structure AOp (X : Cx) (c : AC X.K) (g : Value → Value → Sem Value) (f : D → D → Store → AQ → Prop) : Prop where
  ex : ∃ r, OpR X g r ∧ LowR2 c r f
theorem low_op {r : R2} {f : D → D → Store → AQ → Prop} (h : LowR2 c r f) {σ : L2.St} {H : Hp} {Q : VK} (q : lowE c H0 (aOp f a b) σ H Q) : tOp r (lowE c H0 a) (lowE c H0 b) σ H Q := by
  obtain ⟨env, L, R, rl, ha, pq⟩ := q
  refine ⟨env, L, _, rl, ha, fun d L1 x H1 hb s1 g1 r1 => ?_⟩
  refine ⟨env, L1, _, rl.step s1 g1, hb, fun e L2 y H2 hf s2 g2 r2 => ?_⟩
  exact h x y H2 Q d e L2 R (r1.fr s2) r2 g2 hf (pq.fr (s1.trans s2))
theorem ae_op {op : Operator} {f' : D → D → Store → AQ → Prop} (h : AOp X c (binaryOp op) f') (ha : AE X c H0 e a) (hb : AE X c H0 f b) : AE X c H0 (.BinOp e op f pos) (aOp f' a b) := by
  obtain ⟨r, h1, h2⟩ := h.ex
  exact (pe_op h1 ha hb).imp fun _ _ _ q => low_op h2 q
theorem ae_cmp {op : CmpOp} {f' : D → D → Store → AQ → Prop} (h : AOp X c (compareOp op) f') (ha : AE X c H0 e a) (hb : AE X c H0 f b) (hm : behindInMarks op f = false) : AE X c H0 (.Compare e [op] [f] pos) (aOp f' a b) := by
  obtain ⟨r, h1, h2⟩ := h.ex
  exact (pe_cmpR h1 ha hb hm).imp fun _ _ _ q => low_op h2 q
theorem ae_un {op : UnaryOp} {r : V → Hp → VK → Prop} {f' : D → Store → AQ → Prop} (h : UnR X (unaryOp op) r) (k : ∀ x H Q d L R, Rep c H d x → Good c L H → f' d L R → Pq c H R Q → r x H Q) (ha : AE X c H0 e a) : AE X c H0 (.UnaryOp op e pos) (aUn f' a) :=
  (pe_un h ha).imp fun σ H Q ⟨env, L, R, rl, ha, pq⟩ => ⟨env, L, _, rl, ha, fun d L1 x H1 hf s1 g1 r1 => k x H1 Q d L1 R r1 g1 hf (pq.fr s1)⟩
theorem aa_nil : AA X c H0 [] aNil := pa_nil.imp fun _ H _ ⟨_, _, _, rl, h, pq⟩ => pq _ _ _ _ h (.refl c H) rl.good RepL.nil
theorem aa_cons (ha : AE X c H0 e a) (hr : AA X c H0 es as) (hs : starEach (e :: es) X.env = (false, eval e X.env) :: starEach es X.env := by rfl) : AA X c H0 (e :: es) (aCons a as) := by
  refine (pa_cons ha hr hs).imp fun σ H Q ⟨env, L, R, rl, h, pq⟩ => ?_
  refine ⟨env, L, _, rl, h, fun d L1 x H1 hb s1 g1 r1 => ?_⟩
  exact ⟨env, L1, _, rl.step s1 g1, hb, fun ds L2 xs H2 q s2 g2 r2 => pq _ _ _ _ q (s1.trans s2) g2 (RepL.cons (r1.fr s2) r2)⟩
theorem ae_tup {x1} (h : AA X c H0 es as) : AE X c H0 (.Tuple es x1 pos) (aTup as) := by
  refine (pe_tup h).imp fun σ H Q ⟨env, L, R, rl, h, pq⟩ => ?_
  refine ⟨env, L, _, rl, h, fun ds L1 xs H1 ⟨hz, q⟩ s1 g1 r1 => ⟨by rw [r1.len]; exact hz, fun p hp => ?_⟩⟩
  exact (pq.fr s1).new hp q g1 (rep_tup.mpr ⟨p, xs, rfl, SqT.of upd_same, r1.fr (.new hp)⟩)
theorem ae_lst (h : AA X c H0 es as) : AE X c H0 (.List es pos) (aLst as) := by
  refine (pe_lst h).imp fun σ H Q ⟨env, L, R, rl, h, pq⟩ => ?_
  refine ⟨env, L, _, rl, h, fun ds L1 xs H1 ⟨hz, q⟩ s1 g1 r1 => ⟨by rw [r1.len]; exact hz, fun p hp => ?_⟩⟩
  exact (pq.fr s1).alloc hp (q p (g1.fresh hp)) g1 ⟨xs, upd_same, r1.fr (.new hp)⟩
theorem ae_if (hc : AT X c H0 e t) (ha : AE X c H0 f a) (hb : AE X c H0 g b) : AE X c H0 (.IfExp e f g pos) (aIf t a b) := by
  refine (pe_ifExp hc ha hb).imp fun σ H Q ⟨env, L, R, rl, h, pq⟩ => ?_
  refine ⟨env, L, _, rl, h, fun k L1 H1 q s1 g1 => ?_⟩
  cases k with
  | true => exact ⟨env, L1, R, rl.step s1 g1, q, pq.fr s1⟩
  | false => exact ⟨env, L1, R, rl.step s1 g1, q, pq.fr s1⟩
end
def truM : Option MO → (Bool → Prop) → Prop
  | some (.lst l), Q => Q (!l.isEmpty)
  | some (.dct l), Q => Q (!l.isEmpty)
  | _, _ => False
def tru : D → Store → (Bool → Store → Prop) → Prop
  | .non, L, Q => Q false L
  | .bl b, L, Q => Q b L
  | .int i, L, Q => Q (i != 0) L
  | .str s, L, Q => s.length ≤ sizeLine ∧ Q ((s.length : Int) != 0) L
  | .tup l, L, Q => Q (!l.isEmpty) L
  | .ref p, L, Q => truM (L p) fun b => Q b L
  | _, _, _ => False
theorem RepL.isEmpty {K : PySem.W.Frag} {c : AC K} {H : Hp} {l : List D} {vs : List V} (h : RepL c H l vs) : vs.isEmpty = l.isEmpty := by
  have := h.len
  cases l <;> cases vs <;> simp_all
theorem tru_low {K : PySem.W.Frag} {c : AC K} {H : Hp} {d : D} {v : V} {L : Store} {R : Bool → Store → Prop} (r : Rep c H d v) (g : Good c L H) (h : tru d L R) : ∃ k, TruV K v H k ∧ R k L := by
  cases d with
  | non => cases rep_non.mp r; exact ⟨false, rfl, h⟩
  | bl b => cases rep_bl.mp r; exact ⟨b, rfl, h⟩
  | int i => cases rep_int.mp r; exact ⟨_, rfl, h⟩
  | str s => cases rep_str.mp r; exact ⟨_, ⟨h.1, rfl⟩, h.2⟩
  | tup l =>
    obtain ⟨p, vs, rfl, e, rs⟩ := rep_tup.mp r
    exact ⟨_, .inr (.inl ⟨vs, e, rfl⟩), by rw [rs.isEmpty]; exact h⟩
  | ref p =>
    cases rep_ref.mp r
    have h : truM (L p) fun b => R b L := h
    match e : L p, h with
    | some (.lst l), h =>
      obtain ⟨vs, e1, rs⟩ := g.st _ _ e
      exact ⟨_, .inl ⟨vs, SqL.of e1, rfl⟩, by rw [rs.isEmpty]; exact h⟩
    | some (.dct l), h =>
      obtain ⟨kvs, e1, ek, rs⟩ := g.st _ _ e
      refine ⟨_, .inr (.inr ⟨kvs, e1, rfl⟩), ?_⟩
      have : kvs.isEmpty = l.isEmpty := by
        have := congrArg List.length ek
        cases l <;> cases kvs <;> simp_all
      rw [this]
      exact h
    | none, h => exact h.elim
    | some (.ins _ _ _), h => exact h.elim
    | some (.opq _), h => exact h.elim
    | some (.lsq _), h => exact h.elim
  | ty n => exact h.elim
  | scr => exact h.elim
  | tree t => exact h.elim
  | obj C ks ds => exact h.elim
  | err C ks ds => exact h.elim
def blD : D → (Bool → Prop) → Prop
  | .bl b, Q => Q b
  | _, _ => False
def aBl (a : ATE) : ATT := fun env L Q => a env L fun d L1 => blD d fun b => Q b L1
def aAnd (t u : ATT) : ATT := fun env L Q => t env L fun k L1 => if k = true then u env L1 Q else Q false L1
def aOr (t u : ATT) : ATT := fun env L Q => t env L fun k L1 => if k = true then Q true L1 else u env L1 Q
def aNot (t : ATT) : ATT := fun env L Q => t env L fun k L1 => Q (!k) L1
section
variable {X : Cx} {c : AC X.K} {H0 : Hp} {e f g : Expr} {es : List Expr} {a b a' : ATE} {as : ATA} {pos : Pos} {t u : ATT}
theorem bl_low {K : PySem.W.Frag} {c : AC K} {H : Hp} {d : D} {v : V} {R : Bool → Prop} (r : Rep c H d v) (h : blD d R) : ∃ k, v = .bl k ∧ R k := by
  cases d with
  | bl b => exact ⟨b, rep_bl.mp r, h⟩
  | _ => exact h.elim
theorem at_bl (ha : AE X c H0 e a) (he : ∀ whole, isTrue e X.env whole = (do let v ← whole; standAt e.pos; holding [v] (truthy v)) := by intro _; rfl) : AT X c H0 e (aBl a) := by
  refine (pt_val ha he).imp fun σ H Q ⟨env, L, R, rl, h, pq⟩ => ?_
  refine ⟨env, L, _, rl, h, fun d L1 x H1 q s1 g1 r1 => ?_⟩
  obtain ⟨k, e1, e2⟩ := bl_low (R := fun b => R b L1) r1 q
  exact ⟨k, e1, pq k L1 H1 e2 s1 g1⟩
theorem low_test {t : TE} {σ : L2.St} {H : Hp} {Q : Bool → Hp → Prop} (k : ∀ σ H Q, lowE c H0 a σ H Q → t σ H Q) (q : lowT c H0 (aBl a) σ H Q) : tTest t σ H Q := by
  obtain ⟨env, L, R, rl, h, pq⟩ := q
  refine k _ _ _ ⟨env, L, _, rl, h, fun d L1 x H1 q s1 g1 r1 => ?_⟩
  obtain ⟨k, e1, e2⟩ := bl_low (R := fun b => R b L1) r1 q
  exact ⟨k, e1, pq k L1 H1 e2 s1 g1⟩
theorem at_cmp {op : CmpOp} {f' : D → D → Store → AQ → Prop} (h : AOp X c (compareOp op) f') (ha : AE X c H0 e a) (hb : AE X c H0 f b) (hm : behindInMarks op f = false) : AT X c H0 (.Compare e [op] [f] pos) (aBl (aOp f' a b)) := by
  obtain ⟨r, h1, h2⟩ := h.ex
  exact (pt_cmpR h1 ha hb hm).imp fun _ _ _ q => low_test (fun _ _ _ z => low_op h2 z) q
def aChain (f f' : D → D → Store → AQ → Prop) (a b a' : ATE) : ATE := fun env L Q => a env L fun d L1 => b env L1 fun e L2 => f d e L2 fun z L3 => blD z fun k => if k = true then a' env L3 fun g L4 => f' e g L4 Q else Q (.bl false) L3
theorem low_chain {r r' : R2} {f1 f2 : D → D → Store → AQ → Prop} (h : LowR2 c r f1) (h' : LowR2 c r' f2) {σ : L2.St} {H : Hp} {Q : VK} (q : lowE c H0 (aChain f1 f2 a b a') σ H Q) : tChain r r' (lowE c H0 a) (lowE c H0 b) (lowE c H0 a') σ H Q := by
  obtain ⟨env, L, R, rl, ha, pq⟩ := q
  refine ⟨env, L, _, rl, ha, fun d L1 x H1 hb s1 g1 r1 => ?_⟩
  refine ⟨env, L1, _, rl.step s1 g1, hb, fun e L2 y H2 hf s2 g2 r2 => ?_⟩
  refine h x y H2 _ d e L2 _ (r1.fr s2) r2 g2 hf fun z L3 w H3 hz s3 g3 r3 => ?_
  obtain ⟨k, e1, e2⟩ := bl_low (R := fun k => if k = true then a' env L3 fun g L4 => f2 e g L4 R else R (.bl false) L3) r3 hz
  refine ⟨k, e1, ?_⟩
  cases k with
  | true => exact ⟨env, L3, _, rl.step ((s1.trans s2).trans s3) g3, e2, fun g L4 w4 H4 hg s4 g4 r4 => h' y w4 H4 Q e g L4 R ((r2.fr s3).fr s4) r4 g4 hg (pq.fr (((s1.trans s2).trans s3).trans s4))⟩
  | false => exact (pq.fr ((s1.trans s2).trans s3)).here e2 g3 (rep_bl.mpr rfl)
theorem at_chain {op op' : CmpOp} {f1 f2 : D → D → Store → AQ → Prop} (h : AOp X c (compareOp op) f1) (h' : AOp X c (compareOp op') f2) (ha : AE X c H0 e a) (hb : AE X c H0 f b) (hc : AE X c H0 g a')
    (hm : lastMarks [op, op'] [f, g] = false := by with_unfolding_all rfl) : AT X c H0 (.Compare e [op, op'] [f, g] pos) (aBl (aChain f1 f2 a b a')) := by
  obtain ⟨r, h1, h2⟩ := h.ex
  obtain ⟨r', h1', h2'⟩ := h'.ex
  exact (pt_chain h1 h1' ha hb hc hm).imp fun _ _ _ q => low_test (fun _ _ _ z => low_chain h2 h2' z) q
theorem AW.pt (h : AW X c H0 e t) : AT X c H0 e t := PW.pt h
theorem aw_and1 (h : AT X c H0 e t) : AW X c H0 (.BoolOp .And [e] pos) t := pw_and1 h
theorem aw_or1 (h : AT X c H0 e t) : AW X c H0 (.BoolOp .Or [e] pos) t := pw_or1 h
theorem aw_and (ha : AT X c H0 e t) (hb : AW X c H0 (.BoolOp .And (f :: es) pos) u) : AW X c H0 (.BoolOp .And (e :: f :: es) pos) (aAnd t u) := by
  refine (pw_and ha hb).imp fun σ H Q ⟨env, L, R, rl, h, pq⟩ => ?_
  refine ⟨env, L, _, rl, h, fun k L1 H1 q s1 g1 => ?_⟩
  cases k with
  | true => exact ⟨env, L1, R, rl.step s1 g1, q, fun b L' H' r s => pq b L' H' r (s1.trans s)⟩
  | false => exact pq _ _ _ q s1 g1
theorem aw_or (ha : AT X c H0 e t) (hb : AW X c H0 (.BoolOp .Or (f :: es) pos) u) : AW X c H0 (.BoolOp .Or (e :: f :: es) pos) (aOr t u) := by
  refine (pw_or ha hb).imp fun σ H Q ⟨env, L, R, rl, h, pq⟩ => ?_
  refine ⟨env, L, _, rl, h, fun k L1 H1 q s1 g1 => ?_⟩
  cases k with
  | true => exact pq _ _ _ q s1 g1
  | false => exact ⟨env, L1, R, rl.step s1 g1, q, fun b L' H' r s => pq b L' H' r (s1.trans s)⟩
theorem at_not (ha : AT X c H0 e t) : AT X c H0 (.UnaryOp .Not e pos) (aNot t) := by
  refine (pt_not ha).imp fun σ H Q ⟨env, L, R, rl, h, pq⟩ => ?_
  exact ⟨env, L, _, rl, h, fun k L1 H1 q s1 g1 => pq _ _ _ q s1 g1⟩
def aAndV (a b : ATE) : ATE := fun env L Q => a env L fun d L1 => tru d L1 fun k L2 => if k = true then b env L2 Q else Q d L2
def aNotV (a : ATE) : ATE := fun env L Q => a env L fun d L1 => tru d L1 fun k L2 => Q (.bl (!k)) L2
theorem ae_one {op} (h : AE X c H0 e a) : AE X c H0 (.BoolOp op [e] pos) a := pe_one h
theorem ae_and (ha : AE X c H0 e a) (hb : AE X c H0 (.BoolOp .And (f :: es) pos) b) : AE X c H0 (.BoolOp .And (e :: f :: es) pos) (aAndV a b) := by
  refine (pe_andT ha hb).imp fun σ H Q ⟨env, L, R, rl, h, pq⟩ => ?_
  refine ⟨env, L, _, rl, h, fun d L1 x H1 q s1 g1 r1 => ?_⟩
  obtain ⟨k, e1, e2⟩ := tru_low r1 g1 q
  refine ⟨k, e1, ?_⟩
  cases k with
  | true => exact ⟨env, L1, R, rl.step s1 g1, e2, pq.fr s1⟩
  | false => exact (pq.fr s1).here e2 g1 r1
theorem ae_not (ha : AE X c H0 e a) : AE X c H0 (.UnaryOp .Not e pos) (aNotV a) := by
  refine (pe_notT ha).imp fun σ H Q ⟨env, L, R, rl, h, pq⟩ => ?_
  refine ⟨env, L, _, rl, h, fun d L1 x H1 q s1 g1 r1 => ?_⟩
  obtain ⟨k, e1, e2⟩ := tru_low r1 g1 q
  exact ⟨k, e1, (pq.fr s1).here e2 g1 (rep_bl.mpr rfl)⟩
end
def aSeq (a b : ATS) : ATS := fun D env L => a { D with nx := b D } env L
def aNext : ATS := fun D env L => D.nx env L
def aDrop (a : ATE) : ATS := fun D env L => a env L fun _ L1 => D.nx env L1
def aRet (a : ATE) : ATS := fun D env L => a env L D.rt
def aIfS (t : ATT) (a b : ATS) : ATS := fun D env L => t env L fun k L1 => if k = true then a D env L1 else b D env L1
def aNever : ATS := fun _ _ _ => False
def aAsg (a : ATE) (g : ATG) : ATS := fun D env L => a env L fun d L1 => g d env L1 D.nx
def agName (i : Nat) : ATG := fun d env L Q => Q (env.set i (some d)) L
def agNil : ATGs := fun ds env L Q => ds = [] ∧ Q env L
def agCons (g : ATG) (gs : ATGs) : ATGs := fun ds env L Q => match ds with
  | d :: r => g d env L fun env1 L1 => gs r env1 L1 Q
  | [] => False
def agTup (gs : ATGs) : ATG := fun d env L Q => match d with
  | .tup l => gs l env L Q
  | _ => False
def aWhile (t : ATT) (b : ATS) : ATS := fun D env L => ∃ W : Nat → En → Store → Prop, (∃ m, W m env L) ∧ ∀ m env L, W m env L →
  t env L fun k L1 => if k = true then b { D with nx := fun e l => ∃ m', m' < m ∧ W m' e l, ct := fun e l => ∃ m', m' < m ∧ W m' e l, bk := D.nx } env L1 else D.nx env L1
def loopA (g : ATG) (b : ATS) (N : AEnds) (G : Store → Prop) : List D → En → Store → Prop
  | [], env, L => G L ∧ N.nx env L
  | d :: ds, env, L => G L ∧ g d env L fun env1 L1 => b { N with nx := loopA g b N G ds, ct := loopA g b N G ds, bk := N.nx } env1 L1
def aFor (ai : ATI) (g : ATG) (b : ATS) : ATS := fun D env L => ai env L fun items G L1 => loopA g b D G items env L1
section
variable {X : Cx} {c : AC X.K} {H0 : Hp} {e f tg : Expr} {es tgs : List Expr} {a b a' : ATE} {pos : Pos} {t : ATT} {st : Stmt} {rest sts sts' : List Stmt} {s1 s2 : ATS} {g : ATG} {gs : ATGs}
theorem as_nil : ASs X c H0 [] aNext := pss_nil.imp fun D σ H ⟨env, L, R, rl, h, er⟩ => er.nx env L σ H h (.refl c H) rl
theorem as_cons (h1 : AS X c H0 st s1) (h2 : ASs X c H0 rest s2) : ASs X c H0 (st :: rest) (aSeq s1 s2) := by
  refine (pss_cons h1 h2).imp fun D σ H ⟨env, L, R, rl, h, er⟩ => ?_
  exact ⟨env, L, _, rl, h, ⟨fun env' L' σ' H' r s rl' => ⟨env', L', R, rl', r, er.fr s⟩, er.rt, er.bk, er.ct⟩⟩
theorem as_one (h1 : AS X c H0 st s1) : ASs X c H0 [st] s1 := pss_one h1
theorem as_pass : AS X c H0 (.Pass pos) aNext := ps_pass.imp fun D σ H ⟨env, L, R, rl, h, er⟩ => er.nx env L σ H h (.refl c H) rl
theorem as_expr (he : AE X c H0 e a) (hs : swapsWith e none pos.line X.env = pure false := by rfl) : AS X c H0 (.Expr e pos) (aDrop a) := by
  refine (ps_expr he hs).imp fun D σ H ⟨env, L, R, rl, h, er⟩ => ?_
  exact ⟨env, L, _, rl, h, fun d L1 v H1 q s g r => er.nx env L1 σ H1 q s (rl.step s g)⟩
theorem as_ret (he : AE X c H0 e a) : AS X c H0 (.Return (some e) pos) (aRet a) := by
  refine (ps_ret he).imp fun D σ H ⟨env, L, R, rl, h, er⟩ => ?_
  exact ⟨env, L, _, rl, h, fun d L1 v H1 q s g r => er.rt d L1 v H1 q s g r⟩
theorem as_if (hc : AT X c H0 e t) (ha : ASs X c H0 sts s1) (hb : ASs X c H0 sts' s2) : AS X c H0 (.If e sts sts' pos) (aIfS t s1 s2) := by
  refine (ps_if hc ha hb).imp fun D σ H ⟨env, L, R, rl, h, er⟩ => ?_
  refine ⟨env, L, _, rl, h, fun k L1 H1 q s g => ?_⟩
  cases k with
  | true => exact ⟨env, L1, R, rl.step s g, q, er.fr s⟩
  | false => exact ⟨env, L1, R, rl.step s g, q, er.fr s⟩
theorem as_never : AS X c H0 st aNever := ps_never.imp fun D σ H ⟨_, _, _, _, h, _⟩ => h
theorem ass_never : ASs X c H0 sts aNever := pss_never.imp fun D σ H ⟨_, _, _, _, h, _⟩ => h
theorem ag_name {i : Nat} {x : Str} (hN : X.N.Nodup) (hi : X.N[i]? = some x) (hx : Loc X.env.scope x) (hf : X.fn x = true ∨ X.env.scope.names.lookup x = some .local := by first | exact .inl rfl | exact .inr rfl | assumption) : AG X c H0 (.Name x pos) (agName i) := by
  refine (pg_name hN hi hx hf).imp fun v σ H Q ⟨d, env, L, R, r, rl, h, pq⟩ => ?_
  exact pq _ L _ H h (.refl c H) ⟨rl.env.set i r, rl.good, rl.fr⟩
theorem ags_nil : AGs X c H0 [] agNil := pgs_nil.imp fun vs σ H Q ⟨ds, env, L, R, r, rl, h, pq⟩ => by
  obtain ⟨rfl, h⟩ := h
  exact ⟨repL_nil.mp r, pq _ L _ H h (.refl c H) rl⟩
theorem ags_cons (h1 : AG X c H0 tg g) (h2 : AGs X c H0 tgs gs) (hs : (assignEach (tg :: tgs) X.env).map (·.2) = assign tg X.env :: (assignEach tgs X.env).map (·.2) := by rfl) : AGs X c H0 (tg :: tgs) (agCons g gs) := by
  refine (pgs_cons h1 h2 hs).imp fun vs σ H Q ⟨ds, env, L, R, r, rl, h, pq⟩ => ?_
  cases ds with
  | nil => exact h.elim
  | cons d ds =>
    obtain ⟨v, rs, rfl, r1, r2⟩ := repL_cons.mp r
    exact ⟨v, rs, rfl, d, env, L, _, r1, rl, h, fun env' L' σ' H' q s rl' => ⟨ds, env', L', R, r2.fr s, rl', q, fun env2 L2 σ2 H2 q2 s2 => pq env2 L2 σ2 H2 q2 (s.trans s2)⟩⟩
theorem ag_tup {k : Nat} {n : Nat} (hc : X.calm = true) (h : AGs X c H0 tgs gs) (hl : ∀ ds env L R, gs ds env L R → ds.length = n) (hn : (assignEach tgs X.env).length = n := by rfl) (hst : (assignEach tgs X.env).findIdx? (·.1) = none := by rfl) : AG X c H0 (.Tuple tgs k pos) (agTup gs) := by
  refine (pg_tup hc h hn hst).imp fun v σ H Q ⟨d, env, L, R, r, rl, h, pq⟩ => ?_
  cases d with
  | tup l =>
    obtain ⟨p, vs, rfl, e, rs⟩ := rep_tup.mp r
    exact ⟨p, vs, rfl, e, by rw [rs.len]; exact hl l env L R h, l, env, L, R, rs, rl, h, pq⟩
  | _ => exact h.elim
theorem as_asg (he : AE X c H0 e a) (hg : AG X c H0 tg g) (hs : swapsWithSole [tg] e pos.line X.env = pure false := by rfl) (hw : swappedStores [tg] e X.env = pure none := by rfl)
    (h1 : (assignEach [tg] X.env).map (·.2) = [assign tg X.env] := by rfl) : AS X c H0 (.Assign [tg] e pos) (aAsg a g) := by
  refine (ps_asg he hg hs hw h1).imp fun D σ H ⟨env, L, R, rl, h, er⟩ => ?_
  exact ⟨env, L, _, rl, h, fun d L1 v H1 q s g1 r => ⟨d, env, L1, _, r, rl.step s g1, q, fun env' L' σ' H' q s' rl' => er.nx env' L' σ' H' q (s.trans s') rl'⟩⟩
theorem as_set {i : Nat} {x : Str} {pos' : Pos} (hN : X.N.Nodup) (hi : X.N[i]? = some x) (hx : Loc X.env.scope x) (he : AE X c H0 e a) (hs : swapsWith e (some (.Name x pos')) pos.line X.env = pure false := by rfl)
    (hf : X.fn x = true ∨ X.env.scope.names.lookup x = some .local := by first | exact .inl rfl | exact .inr rfl | assumption) : AS X c H0 (.Assign [.Name x pos'] e pos) (aAsg a (agName i)) := by
  refine (ps_set hN hi hx he hs hf).imp fun D σ H ⟨env, L, R, rl, h, er⟩ => ?_
  exact ⟨env, L, _, rl, h, fun d L1 v H1 q s g1 r => er.nx _ L1 _ H1 q s ⟨(rl.env.fr s).set i r, g1, rl.fr.trans s⟩⟩
def aPar (i j : Nat) (as : ATA) : ATS := fun D env L => as env L fun ds L1 => match ds with
  | [d, e] => D.nx ((env.set i (some d)).set j (some e)) L1
  | _ => False
theorem as_par {i j : Nat} {x y : Str} {as : ATA} {px py pt : Pos} {kt k2 pt2} (hc : X.calm = true) (hN : X.N.Nodup) (hi : X.N[i]? = some x) (hj : X.N[j]? = some y) (hij : i ≠ j)
    (hx : X.env.scope.names.lookup x = some .local) (hy : X.env.scope.names.lookup y = some .local) (ha : AA X c H0 [e, f] as)
    (hw : swappedStores [.Tuple [.Name x px, .Name y py] kt pt] (.Tuple [e, f] k2 pt2) X.env = pure (some [x, y]))
    (hs : swapsWithSole [.Tuple [.Name x px, .Name y py] kt pt] (.Tuple [e, f] k2 pt2) pos.line X.env = pure false := by rfl) :
    AS X c H0 (.Assign [.Tuple [.Name x px, .Name y py] kt pt] (.Tuple [e, f] k2 pt2) pos) (aPar i j as) := by
  refine (ps_par hc hN hi hj hij hx hy ha hw hs).imp fun D σ H ⟨env, L, R, rl, h, er⟩ => ?_
  refine ⟨env, L, _, rl, h, fun ds L1 vs H1 q s g1 r => ?_⟩
  match ds, q, r with
  | [d1, d2], q, r =>
    obtain ⟨v, rs, rfl, r1, r2⟩ := repL_cons.mp r
    obtain ⟨w, rs2, rfl, r3, r4⟩ := repL_cons.mp r2
    cases repL_nil.mp r4
    exact ⟨v, w, rfl, er.nx _ L1 _ H1 q s ⟨((rl.env.fr s).set i r1).set j r3, g1, rl.fr.trans s⟩⟩
  | [], q, _ => exact q.elim
  | [_], q, _ => exact q.elim
  | _ :: _ :: _ :: _, q, _ => exact q.elim
theorem as_while (hp : PassesOwn (model X.prog X.w) X.A X.env X.xe) (hc : AT X c H0 e t) (hb : ASs X c H0 sts s1) : AS X c H0 (.While e sts [] pos) (aWhile t s1) := by
  refine (ps_while hp hc hb).imp fun D σ H ⟨env, L, R, rl, ⟨W, ⟨m0, w0⟩, turn⟩, er⟩ => ?_
  refine ⟨fun m σ' H' => Fr c H H' ∧ ∃ env' L', Rl c H0 σ' H' env' L' ∧ W m env' L', ⟨m0, .refl c H, env, L, rl, w0⟩, ?_⟩
  rintro m σ1 H1 ⟨f1, env1, L1, rl1, w1⟩
  refine ⟨env1, L1, _, rl1, turn m env1 L1 w1, fun k L2 H2 q s g => ?_⟩
  cases k with
  | true =>
    refine ⟨fun σ' H' => Fr c H H' ∧ ∃ env' L', Rl c H0 σ' H' env' L' ∧ ∃ m', m' < m ∧ W m' env' L', fun σ' H' ⟨f', env', L', rl', m', hm, w'⟩ => ⟨m', hm, f', env', L', rl', w'⟩, ?_⟩
    refine ⟨env1, L2, _, rl1.step s g, q, ⟨fun env' L' σ' H' q' s' rl' => ⟨(f1.trans s).trans s', env', L', rl', q'⟩, fun d L' v H' q' s' => er.rt d L' v H' q' ((f1.trans s).trans s'), fun env' L' σ' H' q' s' rl' => er.nx env' L' σ' H' q' ((f1.trans s).trans s') rl', fun env' L' σ' H' q' s' rl' => ⟨(f1.trans s).trans s', env', L', rl', q'⟩⟩⟩
  | false => exact er.nx env1 L2 σ1 H2 q (f1.trans s) (rl1.step s g)
theorem as_for {iter : Expr} {ai : ATI} (hp : PassesOwn (model X.prog X.w) X.A X.env X.xe) (hc : X.calm = true) (hi : AI X c H0 tg iter ai) (hg : AG X c H0 tg g) (hb : ASs X c H0 sts s1)
    (hs : ∀ x, foldedSetIterable iter X.env x = pure x := by intro _; rfl) : AS X c H0 (.For tg iter sts [] pos) (aFor ai g s1) := by
  refine (ps_for hp hc hi hg hb hs).imp fun D σ H ⟨env, L, R, rl, h, er⟩ => ?_
  refine ⟨env, L, _, rl, h, fun items G L1 J H1 q s g1 wa => ?_⟩
  obtain ⟨GH, wk, hG⟩ := wa.ex
  have hd : ∀ {i : Nat}, i < items.length → ∃ d, items[i]? = some d ∧ items.drop i = d :: items.drop (i + 1) := fun {i} hi => ⟨items[i], List.getElem?_eq_getElem hi, List.drop_eq_getElem_cons hi⟩
  have hGl : ∀ {ds : List AL.D} {env' : En} {L' : Store}, loopA g s1 R G ds env' L' → G L' := fun {ds env' L'} z => by
    cases ds with
    | nil => exact z.1
    | cons d ds => exact z.1
  refine for_it wk (fun i σ' H' => Fr c H1 H' ∧ ∃ env' L', Rl c H0 σ' H' env' L' ∧ loopA g s1 R G (items.drop i) env' L') ⟨.refl c H1, env, L1, rl.step s g1, q⟩ (fun i σ' H' _ ⟨f, env', L', rl', z⟩ => hG L' H' f rl'.good (hGl z)) ?_ ?_
  · rintro i x σ' H2 H3 hi ⟨f, env', L', rl', z⟩ ⟨s2, k2, d, e1, r⟩
    obtain ⟨d', e2, e3⟩ := hd hi
    rw [e1] at e2
    cases e2
    rw [e3] at z
    refine ⟨d, env', L', _, r, rl'.step s2 (k2 L' rl'.good), z.2, fun env2 L2 σ2 H4 q2 s3 rl2 => ?_⟩
    refine ⟨env2, L2, _, rl2, q2, ⟨fun env3 L3 σ3 H5 q3 s4 rl3 => ⟨((f.trans s2).trans s3).trans s4, env3, L3, rl3, q3⟩, fun d L' v H' q' s' => er.rt d L' v H' q' ((((s.trans f).trans s2).trans s3).trans s'), fun env' L' σ' H' q' s' rl' => er.nx env' L' σ' H' q' ((((s.trans f).trans s2).trans s3).trans s') rl', fun env3 L3 σ3 H5 q3 s4 rl3 => ⟨((f.trans s2).trans s3).trans s4, env3, L3, rl3, q3⟩⟩⟩
  · rintro σ' H2 ⟨f, env', L', rl', z⟩
    rw [List.drop_length] at z
    exact er.nx env' L' σ' H2 z.2 (s.trans f) rl'
end
end AL
namespace AL
open PySem PySem.Spec PyProof.Rows L2 LamX JW
theorem AOp.mk' {X : Cx} {c : AC X.K} {g : Value → Value → Sem Value} {f : D → D → Store → AQ → Prop} {r : R2} (h : OpR X g r) (k : LowR2 c r f) : AOp X c g f := ⟨r, h, k⟩
def addD : D → D → Store → AQ → Prop
  | .int i, .int j, L, Q => Q (.int (i + j)) L
  | .int i, .bl k, L, Q => Q (.int (i + b2i k)) L
  | .str a, .str b, L, Q => a.length + b.length ≤ sizeLine ∧ Q (.str (a ++ b)) L
  | .tup a, .tup b, L, Q => a.length + b.length ≤ sizeLine ∧ Q (.tup (a ++ b)) L
  | .ref p, .ref q, L, Q => ∃ xs ys, L p = some (.lst xs) ∧ L q = some (.lst ys) ∧ xs.length + ys.length ≤ sizeLine ∧ ∀ r, L r = none → Q (.ref r) (sput L r (.lst (xs ++ ys)))
  | _, _, _, _ => False
def subD : D → D → Store → AQ → Prop
  | .int i, .int j, L, Q => Q (.int (i - j)) L
  | _, _, _, _ => False
def MulOk (i j : Int) : Prop := CMul i j ∨ CMulW i j
def mulD : D → D → Store → AQ → Prop
  | .int i, .int j, L, Q => MulOk i j ∧ Q (.int (i * j)) L
  | .ref p, .int k, L, Q => ∃ xs, L p = some (.lst xs) ∧ -(2 ^ 63) ≤ k ∧ k < 2 ^ 63 ∧ xs.length * k.toNat ≤ sizeLine ∧ ∀ r, L r = none → Q (.ref r) (sput L r (.lst (List.replicate k.toNat xs).flatten))
  | .str z, .int k, L, Q => ∃ (c n : Nat), z = SX.S [c] ∧ k = n ∧ 1 ≤ n ∧ n ≤ 100000 ∧ Q (.str (SX.S (List.replicate n c))) L
  | _, _, _, _ => False
def fdivD : D → D → Store → AQ → Prop
  | .int i, .int j, L, Q => (0 < j ∧ j.natAbs.log2 < 9000) ∧ Q (.int (i / j)) L
  | _, _, _, _ => False
def modD : D → D → Store → AQ → Prop
  | .int i, .int j, L, Q => 0 < j ∧ Q (.int (i % j)) L
  | _, _, _, _ => False
def ltD : D → D → Store → AQ → Prop
  | .int i, .int j, L, Q => Q (.bl (decide (i < j))) L
  | .str a, .str b, L, Q => Q (.bl (decide (a.cps.toList < b.cps.toList))) L
  | _, _, _, _ => False
def leD : D → D → Store → AQ → Prop
  | .int i, .int j, L, Q => Q (.bl (decide (i ≤ j))) L
  | .str a, .str b, L, Q => Q (.bl (!decide (b.cps.toList < a.cps.toList))) L
  | _, _, _, _ => False
def gtD : D → D → Store → AQ → Prop
  | .int i, .int j, L, Q => Q (.bl (decide (j < i))) L
  | .str a, .str b, L, Q => Q (.bl (decide (b.cps.toList < a.cps.toList))) L
  | _, _, _, _ => False
def geD : D → D → Store → AQ → Prop
  | .int i, .int j, L, Q => Q (.bl (decide (j ≤ i))) L
  | .str a, .str b, L, Q => Q (.bl (!decide (a.cps.toList < b.cps.toList))) L
  | _, _, _, _ => False
def isNonD : D → Bool
  | .non => true
  | _ => false
def isD (neg : Bool) : D → D → Store → AQ → Prop
  | d, .non, L, Q => Q (.bl (neg ^^ isNonD d)) L
  | _, _, _, _ => False
section
variable {K : PySem.W.Frag} {c : AC K} {H : Hp} {L : Store}
theorem good_lst (g : Good c L H) {p : Addr} {l : List D} (e : L p = some (.lst l)) : ∃ vs, H p = some (.lst vs) ∧ RepL c H l vs := g.st p _ e
theorem isNon_low {d : D} {v : V} (r : Rep c H d v) : decide (v = .non) = isNonD d := by
  cases d with
  | non => cases rep_non.mp r; rfl
  | bl b => cases rep_bl.mp r; rfl
  | int i => cases rep_int.mp r; rfl
  | str s => cases rep_str.mp r; rfl
  | ref p => cases rep_ref.mp r; rfl
  | ty n => cases rep_ty.mp r; rfl
  | scr => obtain ⟨a, ns, _, rfl⟩ := rep_scr.mp r; rfl
  | tree t => exact decide_eq_false (Ftn.ne (rep_tree.mp r))
  | tup l => obtain ⟨a, vs, rfl, _⟩ := rep_tup.mp r; rfl
  | obj C ks ds => obtain ⟨a, dx, vs, rfl, _⟩ := rep_obj.mp r; rfl
  | err C ks ds => obtain ⟨a, vs, rfl, _⟩ := rep_err.mp r; rfl
end
section
variable {X : Cx} {c : AC X.K}
theorem aop_add : AOp X c (binaryOp .Add) addD := by
  refine .mk' ((op_add.or op_add_ib).or (op_add_str.or (op_catA.or op_cat))) fun x y H Q d e L R rx ry g h pq => ?_
  unfold addD at h
  split at h
  · rename_i i j
    exact .inl (.inl ⟨i, j, rep_int.mp rx, rep_int.mp ry, pq.here h g (rep_int.mpr rfl)⟩)
  · rename_i i j
    exact .inl (.inr ⟨i, j, rep_int.mp rx, rep_bl.mp ry, pq.here h g (rep_int.mpr rfl)⟩)
  · rename_i a b
    exact .inr (.inl ⟨a, b, rep_str.mp rx, rep_str.mp ry, h.1, pq.here h.2 g (rep_str.mpr rfl)⟩)
  · rename_i a b
    obtain ⟨hz, h⟩ := h
    obtain ⟨p, vs, rfl, e1, r1⟩ := rep_tup.mp rx
    obtain ⟨q, ws, rfl, e2, r2⟩ := rep_tup.mp ry
    refine .inr (.inr (.inl ⟨p, q, vs, ws, rfl, rfl, e1, e2, by rw [r1.len, r2.len]; exact hz, fun z => ?_, fun _ z => ?_, fun _ _ r hr => ?_⟩))
    · subst z
      have : a = [] := List.eq_nil_of_length_eq_zero (by rw [← r1.len]; rfl)
      subst this
      exact pq.here h g (rep_tup.mpr ⟨q, ws, rfl, e2, r2⟩)
    · subst z
      have : b = [] := List.eq_nil_of_length_eq_zero (by rw [← r2.len]; rfl)
      subst this
      rw [List.append_nil] at h
      exact pq.here h g (rep_tup.mpr ⟨p, vs, rfl, e1, r1⟩)
    · exact pq.new hr h g (rep_tup.mpr ⟨r, _, rfl, SqT.of upd_same, (r1.app r2).fr (.new hr)⟩)
  · rename_i p q
    obtain ⟨xs, ys, h1, h2, hz, h⟩ := h
    obtain ⟨vs, e1, r1⟩ := good_lst g h1
    obtain ⟨ws, e2, r2⟩ := good_lst g h2
    cases rep_ref.mp rx
    cases rep_ref.mp ry
    exact .inr (.inr (.inr ⟨p, q, vs, ws, rfl, rfl, e1, e2, by rw [r1.len, r2.len]; exact hz, fun r hr => pq.alloc hr (h r (g.fresh hr)) g ⟨_, upd_same, (r1.app r2).fr (.new hr)⟩⟩))
  · exact h.elim
theorem aop_sub : AOp X c (binaryOp .Sub) subD := by
  refine .mk' op_sub fun x y H Q d e L R rx ry g h pq => ?_
  unfold subD at h
  split at h
  · rename_i i j
    exact ⟨i, j, rep_int.mp rx, rep_int.mp ry, pq.here h g (rep_int.mpr rfl)⟩
  · exact h.elim
theorem aop_mul : AOp X c (binaryOp .Mult) mulD := by
  refine .mk' ((op_mul.or op_mulW).or (op_rep.or op_rep_str)) fun x y H Q d e L R rx ry g h pq => ?_
  unfold mulD at h
  split at h
  · rename_i i j
    obtain ⟨k, h⟩ := h
    rcases k with k | k
    · exact .inl (.inl ⟨i, j, rep_int.mp rx, rep_int.mp ry, k, pq.here h g (rep_int.mpr rfl)⟩)
    · exact .inl (.inr ⟨i, j, rep_int.mp rx, rep_int.mp ry, k, pq.here h g (rep_int.mpr rfl)⟩)
  · rename_i p k
    obtain ⟨xs, h1, k1, k2, hz, h⟩ := h
    obtain ⟨vs, e1, r1⟩ := good_lst g h1
    cases rep_ref.mp rx
    refine .inr (.inl ⟨p, k, vs, rfl, rep_int.mp ry, e1, k1, k2, by rw [r1.len]; exact hz, fun r hr => pq.alloc hr (h r (g.fresh hr)) g ⟨_, upd_same, ?_⟩⟩)
    have : ∀ n : Nat, RepL c (upd H r (.lst (List.replicate k.toNat vs).flatten)) (List.replicate n xs).flatten (List.replicate n vs).flatten := fun n => by
      induction n with
      | zero => exact RepL.nil
      | succ n ih =>
        rw [List.replicate_succ, List.replicate_succ, List.flatten_cons, List.flatten_cons]
        exact (r1.fr (.new hr)).app ih
    exact this _
  · rename_i z k
    obtain ⟨a, n, h1, h2, h3, h4, h⟩ := h
    subst h1 h2
    exact .inr (.inr ⟨a, n, rep_str.mp rx, rep_int.mp ry, h3, h4, pq.here h g (rep_str.mpr rfl)⟩)
  · exact h.elim
theorem aop_fdiv : AOp X c (binaryOp .FloorDiv) fdivD := by
  refine .mk' op_fdivW fun x y H Q d e L R rx ry g h pq => ?_
  unfold fdivD at h
  split at h
  · rename_i i j
    exact ⟨i, j, rep_int.mp rx, rep_int.mp ry, h.1, pq.here h.2 g (rep_int.mpr rfl)⟩
  · exact h.elim
theorem aop_mod : AOp X c (binaryOp .Mod) modD := by
  refine .mk' op_mod fun x y H Q d e L R rx ry g h pq => ?_
  unfold modD at h
  split at h
  · rename_i i j
    exact ⟨i, j, rep_int.mp rx, rep_int.mp ry, h.1, pq.here h.2 g (rep_int.mpr rfl)⟩
  · exact h.elim
theorem aop_lt : AOp X c (compareOp .Lt) ltD := by
  refine .mk' (op_lt.or op_lt_str) fun x y H Q d e L R rx ry g h pq => ?_
  unfold ltD at h
  split at h
  · rename_i i j
    exact .inl ⟨i, j, rep_int.mp rx, rep_int.mp ry, pq.here h g (rep_bl.mpr rfl)⟩
  · rename_i i j
    exact .inr ⟨i, j, rep_str.mp rx, rep_str.mp ry, pq.here h g (rep_bl.mpr rfl)⟩
  · exact h.elim
theorem aop_le : AOp X c (compareOp .LtE) leD := by
  refine .mk' (op_le.or op_le_str) fun x y H Q d e L R rx ry g h pq => ?_
  unfold leD at h
  split at h
  · rename_i i j
    exact .inl ⟨i, j, rep_int.mp rx, rep_int.mp ry, pq.here h g (rep_bl.mpr rfl)⟩
  · rename_i i j
    exact .inr ⟨i, j, rep_str.mp rx, rep_str.mp ry, pq.here h g (rep_bl.mpr rfl)⟩
  · exact h.elim
theorem aop_gt : AOp X c (compareOp .Gt) gtD := by
  refine .mk' (op_gt.or op_gt_str) fun x y H Q d e L R rx ry g h pq => ?_
  unfold gtD at h
  split at h
  · rename_i i j
    exact .inl ⟨i, j, rep_int.mp rx, rep_int.mp ry, pq.here h g (rep_bl.mpr rfl)⟩
  · rename_i i j
    exact .inr ⟨i, j, rep_str.mp rx, rep_str.mp ry, pq.here h g (rep_bl.mpr rfl)⟩
  · exact h.elim
theorem aop_ge : AOp X c (compareOp .GtE) geD := by
  refine .mk' (op_ge.or op_ge_str) fun x y H Q d e L R rx ry g h pq => ?_
  unfold geD at h
  split at h
  · rename_i i j
    exact .inl ⟨i, j, rep_int.mp rx, rep_int.mp ry, pq.here h g (rep_bl.mpr rfl)⟩
  · rename_i i j
    exact .inr ⟨i, j, rep_str.mp rx, rep_str.mp ry, pq.here h g (rep_bl.mpr rfl)⟩
  · exact h.elim
theorem aop_isnot : AOp X c (compareOp .IsNot) (isD true) := by
  refine .mk' op_notN fun x y H Q d e L R rx ry g h pq => ?_
  cases e with
  | non => exact ⟨rep_non.mp ry, by rw [isNon_low rx]; exact pq.here h g (rep_bl.mpr (by rw [Bool.true_xor]))⟩
  | _ => exact h.elim
end
mutual
def pyF : D → Option PyData
  | .non => some .none
  | .bl b => some (.bool b)
  | .int i => some (.int i)
  | .str s => some (.str s)
  | .tup l => (pyFL l).map .tuple
  | _ => none
def pyFL : List D → Option (List PyData)
  | [] => some []
  | d :: ds => match pyF d, pyFL ds with
    | some x, some xs => some (x :: xs)
    | _, _ => none
end
def pyT (L : Store) : D → Option PyData
  | .ref p => match L p with
    | some (.lst l) => (pyFL l).map .list
    | _ => none
  | d => pyF d
section
variable {K : PySem.W.Frag} {c : AC K} {H : Hp} {L : Store}
mutual
theorem dp_of : ∀ (d : D) (v : V) (x : PyData), Rep c H d v → pyF d = some x → Dp K H v x
  | .non, v, x, r, e => by
    cases rep_non.mp r
    simp only [pyF, Option.some.injEq] at e
    subst e
    exact .non
  | .bl b, v, x, r, e => by
    cases rep_bl.mp r
    simp only [pyF, Option.some.injEq] at e
    subst e
    exact .bl b
  | .int i, v, x, r, e => by
    cases rep_int.mp r
    simp only [pyF, Option.some.injEq] at e
    subst e
    exact .int i
  | .str z, v, x, r, e => by
    cases rep_str.mp r
    simp only [pyF, Option.some.injEq] at e
    subst e
    exact .str z
  | .tup l, v, x, r, e => by
    obtain ⟨a, vs, rfl, e1, rs⟩ := rep_tup.mp r
    simp only [pyF, Option.map_eq_some_iff] at e
    obtain ⟨xs, e2, rfl⟩ := e
    exact .tup (e1) (dpL_of l vs xs rs e2)
  | .ref _, v, x, r, e => by simp [pyF] at e
  | .ty _, v, x, r, e => by simp [pyF] at e
  | .scr, v, x, r, e => by simp [pyF] at e
  | .tree _, v, x, r, e => by simp [pyF] at e
  | .obj _ _ _, v, x, r, e => by simp [pyF] at e
  | .err _ _ _, v, x, r, e => by simp [pyF] at e
theorem dpL_of : ∀ (l : List D) (vs : List V) (xs : List PyData), RepL c H l vs → pyFL l = some xs → DpAll K H vs xs
  | [], vs, xs, r, e => by
    cases repL_nil.mp r
    simp only [pyFL, Option.some.injEq] at e
    subst e
    exact .nil
  | d :: ds, vs, xs, r, e => by
    obtain ⟨v, ws, rfl, r1, r2⟩ := repL_cons.mp r
    simp only [pyFL] at e
    split at e
    · rename_i x ys e1 e2
      simp only [Option.some.injEq] at e
      subst e
      exact .cons (dp_of d v x r1 e1) (dpL_of ds ws ys r2 e2)
    · cases e
end
theorem dpT_of (g : Good c L H) {d : D} {v : V} {x : PyData} (r : Rep c H d v) (e : pyT L d = some x) : Dp K H v x := by
  cases d with
  | ref p =>
    cases rep_ref.mp r
    unfold pyT at e
    simp only at e
    split at e
    · rename_i l e1
      obtain ⟨vs, e2, rs⟩ := good_lst g e1
      obtain ⟨xs, e3, rfl⟩ := Option.map_eq_some_iff.mp e
      exact .lst (SqL.of e2) (dpL_of l vs xs rs e3)
    · cases e
  | _ => exact dp_of _ v x r e
end
def eqX (neg : Bool) (d e : D) (L : Store) (Q : AQ) : Prop := ∃ x y, pyT L d = some x ∧ pyT L e = some y ∧ SeqAt.shaped x = true ∧ SeqAt.shaped y = true ∧ Q (.bl (neg ^^ PyData.eqv x y)) L
def eqD (neg : Bool) : D → D → Store → AQ → Prop
  | .int i, .int j, L, Q => Q (.bl (neg ^^ decide (i = j))) L
  | .str i, .str j, L, Q => Q (.bl (neg ^^ decide (i = j))) L
  | .bl i, .bl j, L, Q => Q (.bl (neg ^^ decide (i = j))) L
  | .tree t, .tree u, L, Q => Q (.bl (neg ^^ decide (t = u))) L
  | d, e, L, Q => eqX neg d e L Q
def spEqF (K : PySem.W.Frag) : Sp := fun vs H Q _ => ∃ x y t u, vs = [x, y] ∧ Ftn (cF K) H t x ∧ Ftn (cF K) H u y ∧ Q (.bl (decide (t = u))) H
section
variable {X : Cx} {c : AC X.K} {CX : CXT} {k : Nat} {ps : List Str} {E : XK}
theorem eq_low {neg : Bool} {rS rD rO : R2} (hS : ∀ x y H Q, scal x y = true → Q (.bl (neg ^^ decide (x = y))) H → rS x y H Q)
    (hD : ∀ x y H Q d e, Dp X.K H x d → Dp X.K H y e → SeqAt.shaped d = true → SeqAt.shaped e = true → Q (.bl (neg ^^ PyData.eqv d e)) H → rD x y H Q)
    (hO : ∀ x y H Q t u, Ftn (cF X.K) H t x → Ftn (cF X.K) H u y → Q (.bl (neg ^^ decide (t = u))) H → rO x y H Q) : LowR2 c (fun x y H Q => rS x y H Q ∨ (rD x y H Q ∨ rO x y H Q)) (eqD neg) := by
  intro x y H Q d e L R rx ry g h pq
  have gen : eqX neg d e L R → (rS x y H Q ∨ (rD x y H Q ∨ rO x y H Q)) := fun ⟨a, b, e1, e2, s1, s2, q⟩ =>
    .inr (.inl (hD x y H Q a b (dpT_of g rx e1) (dpT_of g ry e2) s1 s2 (pq.here q g (rep_bl.mpr rfl))))
  unfold eqD at h
  split at h
  · rename_i i j
    cases rep_int.mp rx
    cases rep_int.mp ry
    refine .inl (hS _ _ H Q rfl ?_)
    have : decide (V.int i = V.int j) = decide (i = j) := by
      by_cases z : i = j
      · subst z; simp
      · rw [decide_eq_false z, decide_eq_false fun q => z (V.int.inj q)]
    rw [this]
    exact pq.here h g (rep_bl.mpr rfl)
  · rename_i i j
    cases rep_str.mp rx
    cases rep_str.mp ry
    refine .inl (hS _ _ H Q rfl ?_)
    have : decide (V.str i = V.str j) = decide (i = j) := by
      by_cases z : i = j
      · subst z; simp
      · rw [decide_eq_false z, decide_eq_false fun q => z (V.str.inj q)]
    rw [this]
    exact pq.here h g (rep_bl.mpr rfl)
  · rename_i i j
    cases rep_bl.mp rx
    cases rep_bl.mp ry
    refine .inl (hS _ _ H Q rfl ?_)
    have : decide (V.bl i = V.bl j) = decide (i = j) := by
      by_cases z : i = j
      · subst z; simp
      · rw [decide_eq_false z, decide_eq_false fun q => z (V.bl.inj q)]
    rw [this]
    exact pq.here h g (rep_bl.mpr rfl)
  · rename_i t u
    exact .inr (.inr (hO x y H Q t u (rep_tree.mp rx) (rep_tree.mp ry) (pq.here h g (rep_bl.mpr rfl))))
  · exact gen h
theorem ftn_ins {H : Hp} {t : T} {x : V} (h : Ftn (cF X.K) H t x) : ∃ a dx fs, x = .ref a ∧ H a = some (.ins (cF X.K) dx fs) := by
  obtain ⟨a, dx, b, n, vs, rfl, h1, _⟩ := ftn_iff.mp h
  exact ⟨a, dx, _, rfl, h1⟩
theorem aop_eq (M : MethD X.prog X.w X.K X.mg X.base CX0 k (cF X.K) "__eq__" ps [] (spEqF X.K)) (hr : Room (k + 1) X.A) (hu : X.A.units + 64 < cLine) : AOp X c (compareOp .Eq) (eqD false) := by
  refine .mk' (op_eq.or ((op_eqD hu).or (op_own_eq (E := fun _ _ _ => True) M (hr.mono (Nat.le_succ k)) pass0))) (eq_low (fun x y H Q s q => ⟨s, by rw [Bool.false_xor] at q; exact q⟩) (fun x y H Q d e h1 h2 s1 s2 q => ⟨d, e, h1, h2, s1, s2, by rw [Bool.false_xor] at q; exact q⟩) fun x y H Q t u h1 h2 q => ?_)
  obtain ⟨a, dx, fs, rfl, e1⟩ := ftn_ins h1
  obtain ⟨b, dy, gs, rfl, e2⟩ := ftn_ins h2
  exact ⟨a, dx, fs, b, dy, gs, rfl, rfl, e1, e2, _, _, t, u, rfl, h1, h2, _, rfl, by rw [Bool.false_xor] at q; simpa using q⟩
theorem aop_ne (cl : ClsF X.K X.mg) (M : MethD X.prog X.w X.K X.mg X.base CX0 k (cF X.K) "__eq__" ps [] (spEqF X.K)) (hr : Room (k + 1) X.A) (hu : X.A.units + 64 < cLine) : AOp X c (compareOp .NotEq) (eqD true) := by
  refine .mk' (op_ne.or ((op_neD hu).or (op_own_ne (E := fun _ _ _ => True) cl.hne cl.hob M hr pass0))) (eq_low (fun x y H Q s q => ⟨s, by rw [Bool.true_xor] at q; exact q⟩) (fun x y H Q d e h1 h2 s1 s2 q => ⟨d, e, h1, h2, s1, s2, by rw [Bool.true_xor] at q; exact q⟩) fun x y H Q t u h1 h2 q => ?_)
  obtain ⟨a, dx, fs, rfl, e1⟩ := ftn_ins h1
  obtain ⟨b, dy, gs, rfl, e2⟩ := ftn_ins h2
  exact ⟨a, dx, fs, b, dy, gs, rfl, rfl, e1, e2, _, _, t, u, rfl, h1, h2, _, rfl, by rw [Bool.true_xor] at q; simpa using q⟩
end
def flatB : D → Bool
  | .non | .bl _ | .int _ | .str _ => true
  | _ => false
def vD : D → V
  | .bl b => .bl b
  | .int i => .int i
  | .str s => .str s
  | _ => .non
def inL (d : D) (l : List D) : Bool := l.any fun y => eqV (vD y) (vD d)
def inD (neg : Bool) : D → D → Store → AQ → Prop
  | .str a, .str b, L, Q => Q (.bl (neg ^^ !(Builtin.Str.occurrences b a 0 b.length 1).isEmpty)) L
  | d, .tup l, L, Q => flatB d = true ∧ l.all flatB = true ∧ Q (.bl (neg ^^ inL d l)) L
  | d, .ref p, L, Q => ∃ l, L p = some (.lst l) ∧ flatB d = true ∧ l.all flatB = true ∧ Q (.bl (neg ^^ inL d l)) L
  | _, _, _, _ => False
section
variable {K : PySem.W.Frag} {c : AC K} {H : Hp} {L : Store}
theorem flat_low {d : D} {v : V} (r : Rep c H d v) (h : flatB d = true) : v = vD d ∧ flatV v = true := by
  cases d with
  | non => cases rep_non.mp r; exact ⟨rfl, rfl⟩
  | bl b => cases rep_bl.mp r; exact ⟨rfl, rfl⟩
  | int i => cases rep_int.mp r; exact ⟨rfl, rfl⟩
  | str s => cases rep_str.mp r; exact ⟨rfl, rfl⟩
  | _ => cases h
theorem flatL_low : ∀ {l : List D} {vs : List V}, RepL c H l vs → l.all flatB = true → vs = l.map vD ∧ vs.all flatV = true
  | [], vs, r, _ => by cases repL_nil.mp r; exact ⟨rfl, rfl⟩
  | d :: ds, vs, r, h => by
    obtain ⟨v, ws, rfl, r1, r2⟩ := repL_cons.mp r
    rw [List.all_cons, Bool.and_eq_true] at h
    obtain ⟨e1, f1⟩ := flat_low r1 h.1
    obtain ⟨e2, f2⟩ := flatL_low r2 h.2
    subst e1 e2
    exact ⟨rfl, by rw [List.all_cons, f1, f2]; rfl⟩
theorem in_low {d : D} {x : V} {l : List D} {vs : List V} (rx : Rep c H d x) (rs : RepL c H l vs) (h1 : flatB d = true) (h2 : l.all flatB = true) : flatV x = true ∧ vs.all flatV = true ∧ inV x vs = inL d l := by
  obtain ⟨e1, f1⟩ := flat_low rx h1
  obtain ⟨e2, f2⟩ := flatL_low rs h2
  refine ⟨f1, f2, ?_⟩
  rw [e1, e2]
  unfold inV inL
  rw [List.any_map]
  rfl
end
section
variable {X : Cx} {c : AC X.K}
theorem aop_in : AOp X c (compareOp .In) (inD false) := by
  refine .mk' (op_in_str.or op_in_seq) fun x y H Q d e L R rx ry g h pq => ?_
  unfold inD at h
  split at h
  · exact .inl ⟨_, _, rep_str.mp rx, rep_str.mp ry, by rw [Bool.false_xor] at h; exact pq.here h g (rep_bl.mpr rfl)⟩
  · rename_i l
    obtain ⟨p, vs, rfl, e1, rs⟩ := rep_tup.mp ry
    obtain ⟨f1, f2, f3⟩ := in_low rx rs h.1 h.2.1
    exact .inr ⟨p, vs, rfl, .inr (e1), f1, f2, pq.here (by simpa [f3] using h.2.2) g (rep_bl.mpr (by simp [f3]))⟩
  · rename_i p
    obtain ⟨l, e1, h1, h2, h⟩ := h
    obtain ⟨vs, e2, rs⟩ := good_lst g e1
    cases rep_ref.mp ry
    obtain ⟨f1, f2, f3⟩ := in_low rx rs h1 h2
    exact .inr ⟨p, vs, rfl, .inl (SqL.of e2), f1, f2, pq.here (by simpa [f3] using h) g (rep_bl.mpr (by simp [f3]))⟩
  · exact h.elim
theorem aop_notin : AOp X c (compareOp .NotIn) (inD true) := by
  refine .mk' (op_notIn_str.or op_notIn_seq) fun x y H Q d e L R rx ry g h pq => ?_
  unfold inD at h
  split at h
  · exact .inl ⟨_, _, rep_str.mp rx, rep_str.mp ry, by rw [Bool.true_xor] at h; exact pq.here h g (rep_bl.mpr rfl)⟩
  · rename_i l
    obtain ⟨p, vs, rfl, e1, rs⟩ := rep_tup.mp ry
    obtain ⟨f1, f2, f3⟩ := in_low rx rs h.1 h.2.1
    exact .inr ⟨p, vs, rfl, .inr (e1), f1, f2, pq.here (by simpa [f3] using h.2.2) g (rep_bl.mpr (by simp [f3]))⟩
  · rename_i p
    obtain ⟨l, e1, h1, h2, h⟩ := h
    obtain ⟨vs, e2, rs⟩ := good_lst g e1
    cases rep_ref.mp ry
    obtain ⟨f1, f2, f3⟩ := in_low rx rs h1 h2
    exact .inr ⟨p, vs, rfl, .inl (SqL.of e2), f1, f2, pq.here (by simpa [f3] using h) g (rep_bl.mpr (by simp [f3]))⟩
  · exact h.elim
end
def ixD : D → D → Store → AQ → Prop
  | .tup l, .int i, L, Q => ∃ d, atI l i = some d ∧ Q d L
  | .ref p, .int i, L, Q => ∃ l d, L p = some (.lst l) ∧ atI l i = some d ∧ Q d L
  | .str z, .int i, L, Q => z.length ≤ sizeLine ∧ ∃ c, atI z.cps.toList i = some c ∧ Q (.str ⟨#[c]⟩) L
  | _, _, _, _ => False
theorem atI_low {K : PySem.W.Frag} {c : AC K} {H : Hp} {l : List D} {vs : List V} {i : Int} {d : D} (rs : RepL c H l vs) (h : atI l i = some d) : ∃ v, atI vs i = some v ∧ Rep c H d v := by
  unfold atI at h ⊢
  rw [rs.len]
  cases e : ixN l.length i with
  | none => rw [e] at h; cases h
  | some j =>
    rw [e] at h
    exact rs.get h
section
variable {X : Cx} {c : AC X.K} {H0 : Hp} {e f : Expr} {a b : ATE} {pos p2 : Pos}
theorem ae_ix (ha : AE X c H0 e a) (hb : AE X c H0 f b) (hs : PlainIx f) : AE X c H0 (.Subscript e f pos) (aOp ixD a b) := by
  refine (pe_ix ix_seq ha hb hs).imp fun σ H Q q => low_op (fun x y H Q d e L R rx ry g h pq => ?_) q
  unfold ixD at h
  split at h
  · rename_i l i
    obtain ⟨d, h1, h⟩ := h
    obtain ⟨p, vs, rfl, e1, rs⟩ := rep_tup.mp rx
    obtain ⟨v, e2, r⟩ := atI_low rs h1
    exact .inr (.inl ⟨p, vs, i, v, rfl, rep_int.mp ry, e1, e2, pq.here h g r⟩)
  · rename_i p i
    obtain ⟨l, d, h0, h1, h⟩ := h
    obtain ⟨vs, e1, rs⟩ := good_lst g h0
    cases rep_ref.mp rx
    obtain ⟨v, e2, r⟩ := atI_low rs h1
    exact .inl ⟨p, vs, i, v, rfl, rep_int.mp ry, SqL.of e1, e2, pq.here h g r⟩
  · rename_i z i
    obtain ⟨hz, k, h1, h⟩ := h
    exact .inr (.inr ⟨z, i, k, rep_str.mp rx, rep_int.mp ry, hz, h1, pq.here h g (rep_str.mpr rfl)⟩)
  · exact h.elim
end
abbrev ATO := En → Store → (Option Int → Store → Prop) → Prop
def lowO {K : PySem.W.Frag} (c : AC K) (H0 : Hp) (a : ATO) : TO := fun σ H Q => ∃ env L R, Rl c H0 σ H env L ∧ a env L R ∧ ∀ b L' H', R b L' → Fr c H H' → Good c L' H' → Q b H'
def AO (X : Cx) (c : AC X.K) (H0 : Hp) (e : Option Expr) (a : ATO) : Prop := PO X e (lowO c H0 a)
def aoNone : ATO := fun _ L Q => Q none L
def intD : D → (Int → Prop) → Prop
  | .int i, Q => Q i
  | _, _ => False
def aoSome (a : ATE) : ATO := fun env L Q => a env L fun d L1 => intD d fun i => Q (some i) L1
theorem int_low {K : PySem.W.Frag} {c : AC K} {H : Hp} {d : D} {v : V} {R : Int → Prop} (r : Rep c H d v) (h : intD d R) : ∃ k, v = .int k ∧ R k := by
  cases d with
  | int b => exact ⟨b, rep_int.mp r, h⟩
  | _ => exact h.elim
def cutD (l : List D) (lo hi : Option Int) : List D := (l.drop (HT.sIx l.length 0 lo)).take (HT.sIx l.length l.length hi - HT.sIx l.length 0 lo)
def slD : D → Option Int → Option Int → Store → AQ → Prop
  | .tup l, lo, hi, L, Q => Q (.tup (cutD l lo hi)) L
  | .ref p, lo, hi, L, Q => ∃ l, L p = some (.lst l) ∧ ∀ q, L q = none → Q (.ref q) (sput L q (.lst (cutD l lo hi)))
  | .str z, lo, hi, L, Q => z.length ≤ sizeLine ∧ Q (.str (cutS z lo hi)) L
  | _, _, _, _, _ => False
def aSl (a : ATE) (lo hi : ATO) : ATE := fun env L Q => a env L fun d L1 => lo env L1 fun l L2 => hi env L2 fun h L3 => slD d l h L3 Q
theorem cut_low {K : PySem.W.Frag} {c : AC K} {H : Hp} {l : List D} {vs : List V} {lo hi : Option Int} (rs : RepL c H l vs) : RepL c H (cutD l lo hi) (cutV vs lo hi) := by
  unfold cutD cutV
  rw [rs.len]
  exact (rs.drop _).take _
section
variable {X : Cx} {c : AC X.K} {H0 : Hp} {e : Expr} {lo hi : Option Expr} {a : ATE} {ol oh : ATO} {pos p2 : Pos}
theorem ao_none : AO X c H0 none aoNone := ⟨fun pins s σ H Q I h => po_none.run pins s σ H Q I (by
  obtain ⟨env, L, R, rl, h, pq⟩ := h
  exact pq none L H h (.refl c H) rl.good)⟩
theorem ao_some (h : AE X c H0 e a) : AO X c H0 (some e) (aoSome a) := ⟨fun pins s σ H Q I q => (po_some h).run pins s σ H Q I (by
  obtain ⟨env, L, R, rl, h, pq⟩ := q
  refine ⟨env, L, _, rl, h, fun d L1 x H1 q s1 g1 r1 => ?_⟩
  obtain ⟨k, e1, e2⟩ := int_low (R := fun i => R (some i) L1) r1 q
  exact ⟨k, e1, pq _ L1 H1 e2 s1 g1⟩)⟩
theorem ae_sl (he : AE X c H0 e a) (hl : AO X c H0 lo ol) (hh : AO X c H0 hi oh) : AE X c H0 (.Subscript e (.Slice lo hi none p2) pos) (aSl a ol oh) := by
  refine (pe_slice (sl_list.or (sl_tupA.or sl_str)) he hl hh).imp fun σ H Q ⟨env, L, R, rl, h, pq⟩ => ?_
  refine ⟨env, L, _, rl, h, fun d L1 x H1 q s1 g1 r1 => ?_⟩
  refine ⟨env, L1, _, rl.step s1 g1, q, fun l L2 H2 q2 s2 g2 => ?_⟩
  refine ⟨env, L2, _, rl.step (s1.trans s2) g2, q2, fun u L3 H3 q3 s3 g3 => ?_⟩
  have pq3 := pq.fr ((s1.trans s2).trans s3)
  have rx := r1.fr (s2.trans s3)
  unfold slD at q3
  split at q3
  · rename_i ds
    obtain ⟨p, vs, rfl, e1, rs⟩ := rep_tup.mp rx
    refine .inr (.inl ⟨p, vs, rfl, e1, fun hw => ?_, fun _ r hr => pq3.new hr q3 g3 (rep_tup.mpr ⟨r, _, rfl, SqT.of upd_same, (cut_low rs).fr (.new hr)⟩)⟩)
    have ec : cutD ds l u = ds := by
      unfold cutD
      have h1 := hw.1
      have h2 := hw.2
      rw [rs.len] at h1 h2
      rw [h1, h2, List.drop_zero, Nat.sub_zero, List.take_length]
    have q3 : R (.tup (cutD ds l u)) L3 := q3
    rw [ec] at q3
    exact pq3.here q3 g3 rx
  · rename_i p
    obtain ⟨ds, e0, q3⟩ := q3
    obtain ⟨vs, e1, rs⟩ := good_lst g3 e0
    cases rep_ref.mp rx
    exact .inl ⟨p, vs, rfl, SqL.of e1, fun r hr => pq3.alloc hr (q3 r (g3.fresh hr)) g3 ⟨_, upd_same, (cut_low rs).fr (.new hr)⟩⟩
  · rename_i z
    exact .inr (.inr ⟨z, rep_str.mp rx, q3.1, pq3.here q3.2 g3 (rep_str.mpr rfl)⟩)
  · exact q3.elim
end
def aCall (asp : ASp) (as : ATA) : ATE := fun env L Q => as env L fun ds L1 => asp ds L1 Q anyX
def aCallX (asp : ASp) (RX : AX) (as : ATA) : ATE := fun env L Q => as env L fun ds L1 => asp ds L1 Q RX
def withD (dd : List D) (asp : ASp) : ASp := fun ds L Q RX => asp (ds ++ dd) L Q RX
section
variable {X : Cx} {c : AC X.K} {H0 : Hp} {e o : Expr} {es : List Expr} {a : ATE} {as : ATA} {x m : Str} {p pos apos : Pos} {k : Nat} {ps : List Str} {asp : ASp} {CX : CXT} {E : XK} {RX : AX} {dvs : List V} {dd : List D} {C : Addr}
theorem low_call {σ : L2.St} {H : Hp} {Q : VK} (hd : ∀ H, RepL c H dd dvs) (q : lowE c H0 (aCallX (withD dd asp) RX as) σ H Q) (hE : ∀ H1, Fr c H H1 → Px c H1 RX E) : tCall (spA c asp) dvs E (lowA c H0 as) σ H Q := by
  obtain ⟨env, L, R, rl, h, pq⟩ := q
  exact ⟨env, L, _, rl, h, fun ds L1 vs H1 q s1 g1 r1 => ⟨ds ++ dd, L1, R, RX, r1.app (hd H1), g1, q, pq.fr s1, hE H1 s1⟩⟩
theorem px_any {H : Hp} : Px c H anyX (fun _ _ _ => True) := fun _ _ _ _ _ _ _ _ _ => trivial
theorem ae_call (C : CallD X.prog X.w X.K X.mg X.base CX0 k x ps [] (spA c asp)) (hr : Room k X.A) (hg : Gl X x) (ha : AA X c H0 (e :: es) as) (hdb : (x == ("__debug__" : Str)) = false := by decide)
    (he : starEach (e :: es) X.env = (false, eval e X.env) :: starEach es X.env := by rfl) (hpl : (backTo pos (starEach es X.env)).any (·.1) = false := by rfl) : AE X c H0 (.Call (.Name x p) (e :: es) [] pos) (aCall asp as) := by
  refine (pe_callD (E := fun _ _ _ => True) C hr hg pass0 ha hdb he hpl).imp fun σ H Q q => low_call (dd := []) (RX := anyX) (fun _ => RepL.nil) ?_ fun _ _ => px_any
  obtain ⟨env, L, R, rl, h, pq⟩ := q
  refine ⟨env, L, R, rl, ?_, pq⟩
  have h : as env L fun ds L1 => asp ds L1 R anyX := h
  unfold aCallX withD
  simpa using h
end
def LowC {K : PySem.W.Frag} (c : AC K) (r : List V → Hp → VK → Prop) (f : List D → Store → AQ → Prop) : Prop := ∀ vs H Q ds L R, RepL c H ds vs → Good c L H → f ds L R → Pq c H R Q → r vs H Q
structure ACB (X : Cx) (c : AC X.K) (g : Value) (f : List D → Store → AQ → Prop) : Prop where
  ex : ∃ r, CallR X g r ∧ LowC c r f
def aB (f : List D → Store → AQ → Prop) (as : ATA) : ATE := fun env L Q => as env L fun ds L1 => f ds L1 Q
section
variable {X : Cx} {c : AC X.K} {H0 : Hp} {e o : Expr} {es : List Expr} {a : ATE} {as : ATA} {x m : Str} {p pos apos : Pos} {id T : String} {f : List D → Store → AQ → Prop}
theorem ACB.mk' {g : Value} {r : List V → Hp → VK → Prop} (h : CallR X g r) (k : LowC c r f) : ACB X c g f := ⟨r, h, k⟩
theorem low_cb {r : List V → Hp → VK → Prop} (h : LowC c r f) {σ : L2.St} {H : Hp} {Q : VK} (q : lowE c H0 (aB f as) σ H Q) : tCB r (lowA c H0 as) σ H Q := by
  obtain ⟨env, L, R, rl, k, pq⟩ := q
  exact ⟨env, L, _, rl, k, fun ds L1 vs H1 q s1 g1 r1 => h vs H1 Q ds L1 R r1 g1 q (pq.fr s1)⟩
theorem ae_b (hc : ACB X c (.builtin id) f) (hg : Gl X x) (hm : X.mg x = none) (hv : bootBuiltins x = some (.builtin id)) (ha : AA X c H0 (e :: es) as) (hn : x ≠ "__name__" := by decide) (hdb : (x == ("__debug__" : Str)) = false := by decide)
    (he : starEach (e :: es) X.env = (false, eval e X.env) :: starEach es X.env := by rfl) (hpl : (backTo pos (starEach es X.env)).any (·.1) = false := by rfl) : AE X c H0 (.Call (.Name x p) (e :: es) [] pos) (aB f as) := by
  obtain ⟨r, h1, h2⟩ := hc.ex
  exact (pe_callB h1 hg hm hv ha hn hdb he hpl).imp fun _ _ _ q => low_cb h2 q
theorem ae_ty (hc : ACB X c (.type T) f) (hg : Gl X x) (hm : X.mg x = none) (hv : bootBuiltins x = some (.type T)) (ha : AA X c H0 (e :: es) as) (hn : x ≠ "__name__" := by decide) (hdb : (x == ("__debug__" : Str)) = false := by decide)
    (he : starEach (e :: es) X.env = (false, eval e X.env) :: starEach es X.env := by rfl) (hpl : (backTo pos (starEach es X.env)).any (·.1) = false := by rfl) : AE X c H0 (.Call (.Name x p) (e :: es) [] pos) (aB f as) := by
  obtain ⟨r, h1, h2⟩ := hc.ex
  exact (pe_callTy h1 hg hm hv ha hn hdb he hpl).imp fun _ _ _ q => low_cb h2 q
end
def lenD : List D → Store → AQ → Prop
  | [.str z], L, Q => z.length ≤ sizeLine ∧ Q (.int z.length) L
  | [.tup l], L, Q => Q (.int l.length) L
  | [.ref p], L, Q => ∃ l, L p = some (.lst l) ∧ Q (.int l.length) L
  | [.scr], L, Q => ∀ n : Nat, n ≤ 63 → Q (.int n) L
  | _, _, _ => False
def maxD : List D → Store → AQ → Prop
  | [.ref p], L, Q => ∃ ns : List Int, L p = some (.lst (ns.map D.int)) ∧ 0 < ns.length ∧ ∀ m, m ∈ ns → (∀ y, y ∈ ns → y ≤ m) → Q (.int m) L
  | [.int i, .int j], L, Q => Q (.int (if j > i then j else i)) L
  | _, _, _ => False
def minD : List D → Store → AQ → Prop
  | [.ref p], L, Q => ∃ ns : List Int, L p = some (.lst (ns.map D.int)) ∧ 0 < ns.length ∧ ∀ m, m ∈ ns → (∀ y, y ∈ ns → m ≤ y) → Q (.int m) L
  | [.int i, .int j], L, Q => Q (.int (if j < i then j else i)) L
  | _, _, _ => False
def allD : List D → Store → AQ → Prop
  | [.ref p], L, Q => ∃ bs : List Bool, L p = some (.lst (bs.map D.bl)) ∧ Q (.bl (bs.all id)) L
  | _, _, _ => False
def listD : List D → Store → AQ → Prop
  | [.tup l], L, Q => ∀ r, L r = none → Q (.ref r) (sput L r (.lst l))
  | [.ref p], L, Q => ∃ l, L p = some (.lst l) ∧ ∀ r, L r = none → Q (.ref r) (sput L r (.lst l))
  | _, _, _ => False
def tupD : List D → Store → AQ → Prop
  | [.tup l], L, Q => Q (.tup l) L
  | [.ref p], L, Q => ∃ l, L p = some (.lst l) ∧ Q (.tup l) L
  | _, _, _ => False
section
variable {K : PySem.W.Frag} {c : AC K}
theorem repL_one {H : Hp} {d : D} {vs : List V} (r : RepL c H [d] vs) : ∃ v, vs = [v] ∧ Rep c H d v := by
  obtain ⟨v, ws, rfl, r1, r2⟩ := repL_cons.mp r
  cases repL_nil.mp r2
  exact ⟨v, rfl, r1⟩
theorem repL_two {H : Hp} {d e : D} {vs : List V} (r : RepL c H [d, e] vs) : ∃ v w, vs = [v, w] ∧ Rep c H d v ∧ Rep c H e w := by
  obtain ⟨v, ws, rfl, r1, r2⟩ := repL_cons.mp r
  obtain ⟨w, rfl, r3⟩ := repL_one r2
  exact ⟨v, w, rfl, r1, r3⟩
end
section
variable {X : Cx} {c : AC X.K}
theorem acb_len : ACB X c (.builtin "len") lenD := by
  refine .mk' call_len fun vs H Q ds L R r g h pq => ?_
  unfold lenD at h
  split at h
  · rename_i z
    obtain ⟨v, rfl, r1⟩ := repL_one r
    cases rep_str.mp r1
    exact ⟨_, _, rfl, ⟨h.1, rfl⟩, pq.here h.2 g (rep_int.mpr rfl)⟩
  · rename_i l
    obtain ⟨v, rfl, r1⟩ := repL_one r
    obtain ⟨p, ws, rfl, e1, rs⟩ := rep_tup.mp r1
    exact ⟨_, l.length, rfl, .inr ⟨ws, e1, rs.len.symm⟩, pq.here h g (rep_int.mpr rfl)⟩
  · rename_i p
    obtain ⟨l, e0, h⟩ := h
    obtain ⟨v, rfl, r1⟩ := repL_one r
    cases rep_ref.mp r1
    obtain ⟨ws, e1, rs⟩ := good_lst g e0
    exact ⟨_, l.length, rfl, .inl ⟨ws, SqL.of e1, rs.len.symm⟩, pq.here h g (rep_int.mpr rfl)⟩
  · obtain ⟨v, rfl, r1⟩ := repL_one r
    obtain ⟨a, ns, e1, rfl⟩ := rep_scr.mp r1
    exact ⟨_, ns.length, rfl, .inl ⟨_, g.seq e1, by rw [List.length_map]⟩, pq.here (h ns.length (g.scr a ns e1).1) g (rep_int.mpr rfl)⟩
  · exact h.elim
theorem acb_max (hc : X.calm = true) : ACB X c (.builtin "max") maxD := by
  refine .mk' ((cr_max hc).or (call_max2 hc)) fun vs H Q ds L R r g h pq => ?_
  unfold maxD at h
  split at h
  · rename_i p
    obtain ⟨ns, e0, hl, h⟩ := h
    obtain ⟨v, rfl, r1⟩ := repL_one r
    cases rep_ref.mp r1
    obtain ⟨ws, e1, rs⟩ := good_lst g e0
    rw [RepL.ints.mp rs] at e1
    exact .inl ⟨p, ns, rfl, SqL.of e1, hl, fun m h1 h2 => pq.here (h m h1 h2) g (rep_int.mpr rfl)⟩
  · rename_i i j
    obtain ⟨v, w, rfl, r1, r2⟩ := repL_two r
    cases rep_int.mp r1
    cases rep_int.mp r2
    exact .inr ⟨i, j, rfl, pq.here h g (rep_int.mpr rfl)⟩
  · exact h.elim
theorem acb_min (hc : X.calm = true) : ACB X c (.builtin "min") minD := by
  refine .mk' ((cr_min hc).or (call_min2 hc)) fun vs H Q ds L R r g h pq => ?_
  unfold minD at h
  split at h
  · rename_i p
    obtain ⟨ns, e0, hl, h⟩ := h
    obtain ⟨v, rfl, r1⟩ := repL_one r
    cases rep_ref.mp r1
    obtain ⟨ws, e1, rs⟩ := good_lst g e0
    rw [RepL.ints.mp rs] at e1
    exact .inl ⟨p, ns, rfl, SqL.of e1, hl, fun m h1 h2 => pq.here (h m h1 h2) g (rep_int.mpr rfl)⟩
  · rename_i i j
    obtain ⟨v, w, rfl, r1, r2⟩ := repL_two r
    cases rep_int.mp r1
    cases rep_int.mp r2
    exact .inr ⟨i, j, rfl, pq.here h g (rep_int.mpr rfl)⟩
  · exact h.elim
theorem acb_all (hc : X.calm = true) : ACB X c (.builtin "all") allD := by
  refine .mk' (cr_all hc) fun vs H Q ds L R r g h pq => ?_
  unfold allD at h
  split at h
  · rename_i p
    obtain ⟨ns, e0, h⟩ := h
    obtain ⟨v, rfl, r1⟩ := repL_one r
    cases rep_ref.mp r1
    obtain ⟨ws, e1, rs⟩ := good_lst g e0
    rw [RepL.bls.mp rs] at e1
    exact ⟨p, ns, rfl, SqL.of e1, pq.here h g (rep_bl.mpr rfl)⟩
  · exact h.elim
theorem acb_list : ACB X c (.type "list") listD := by
  refine .mk' call_list_of fun vs H Q ds L R r g h pq => ?_
  unfold listD at h
  split at h
  · rename_i l
    obtain ⟨v, rfl, r1⟩ := repL_one r
    obtain ⟨p, ws, rfl, e1, rs⟩ := rep_tup.mp r1
    exact ⟨p, ws, rfl, .inr (e1), fun q hq => pq.alloc hq (h q (g.fresh hq)) g ⟨ws, upd_same, rs.fr (.new hq)⟩⟩
  · rename_i p
    obtain ⟨l, e0, h⟩ := h
    obtain ⟨v, rfl, r1⟩ := repL_one r
    cases rep_ref.mp r1
    obtain ⟨ws, e1, rs⟩ := good_lst g e0
    exact ⟨p, ws, rfl, .inl (SqL.of e1), fun q hq => pq.alloc hq (h q (g.fresh hq)) g ⟨ws, upd_same, rs.fr (.new hq)⟩⟩
  · exact h.elim
theorem acb_tup : ACB X c (.type "tuple") tupD := by
  refine .mk' call_tuple_of fun vs H Q ds L R r g h pq => ?_
  unfold tupD at h
  split at h
  · rename_i l
    obtain ⟨v, rfl, r1⟩ := repL_one r
    obtain ⟨p, ws, rfl, e1, rs⟩ := rep_tup.mp r1
    exact ⟨p, ws, rfl, .inr ⟨e1, pq.here h g r1⟩⟩
  · rename_i p
    obtain ⟨l, e0, h⟩ := h
    obtain ⟨v, rfl, r1⟩ := repL_one r
    cases rep_ref.mp r1
    obtain ⟨ws, e1, rs⟩ := good_lst g e0
    exact ⟨p, ws, rfl, .inl ⟨SqL.of e1, fun q hq => pq.new hq h g (rep_tup.mpr ⟨q, ws, rfl, SqT.of upd_same, rs.fr (.new hq)⟩)⟩⟩
  · exact h.elim
end
end AL
namespace AL
open PySem PySem.Spec PyProof.Rows L2 LamX JW
def treeD : D → (T → Prop) → Prop
  | .tree t, Q => Q t
  | _, _ => False
def aProp (g : T → D) (a : ATE) : ATE := fun env L Q => a env L fun d L1 => treeD d fun t => Q (g t) L1
theorem tree_low {K : PySem.W.Frag} {c : AC K} {H : Hp} {d : D} {v : V} {R : T → Prop} (r : Rep c H d v) (h : treeD d R) : ∃ t, Ftn (cF K) H t v ∧ R t := by
  cases d with
  | tree t => exact ⟨t, rep_tree.mp r, h⟩
  | _ => exact h.elim
theorem _root_.JW.CallD.imp {P : Program} {w : World} {K : PySem.W.Frag} {mg : Str → Option Value} {base : Heap} {CX : CXT} {k : Nat} {x : Str} {ps : List Str} {dvs : List V} {sp sp' : Sp} (C : CallD P w K mg base CX k x ps dvs sp) (h : ∀ vs H Q E, sp' vs H Q E → sp vs H Q E) : CallD P w K mg base CX k x ps dvs sp' := by
  obtain ⟨f, fd, ds, h1, h2, h3, h4, F⟩ := C.ex
  exact ⟨f, fd, ds, h1, h2, h3, h4, F.imp h⟩
theorem _root_.JW.MethD.imp {P : Program} {w : World} {K : PySem.W.Frag} {mg : Str → Option Value} {base : Heap} {CX : CXT} {k : Nat} {C : Addr} {x : Str} {ps : List Str} {dvs : List V} {sp sp' : Sp} (M : MethD P w K mg base CX k C x ps dvs sp) (h : ∀ vs H Q E, sp' vs H Q E → sp vs H Q E) : MethD P w K mg base CX k C x ps dvs sp' := by
  obtain ⟨f, fd, ds, h1, h2, h3, F⟩ := M.ex
  exact ⟨f, fd, ds, h1, h2, h3, F.imp h⟩
theorem _root_.JW.MakeD.imp {P : Program} {w : World} {K : PySem.W.Frag} {mg : Str → Option Value} {base : Heap} {CX : CXT} {k : Nat} {C : Addr} {x : Str} {ps : List Str} {dvs : List V} {sp sp' : Sp} (M : MakeD P w K mg base CX k x C ps dvs sp) (h : ∀ vs H Q E, sp' vs H Q E → sp vs H Q E) : MakeD P w K mg base CX k x C ps dvs sp' := by
  obtain ⟨f, fd, ds, h1, h2, h3, h4, F⟩ := M.ex
  exact ⟨f, fd, ds, h1, h2, h3, h4, F.imp h⟩
section
variable {X : Cx} {c : AC X.K} {H0 : Hp} {e o : Expr} {es : List Expr} {a b : ATE} {as : ATA} {x m f : Str} {p pos apos : Pos} {k : Nat} {ps : List Str} {asp : ASp} {CX : CXT} {E : XK} {RX : AX}
theorem ae_prop {g : T → D} {fV : T → V} (cl : Cls X.K (cF X.K)) (M : PropD X.prog X.w X.K X.mg X.base CX0 k (cF X.K) f (spV X.K fV)) (hg : ∀ H t, Rep c H (g t) (fV t)) (hr : Room (k + 1) X.A) (he : AE X c H0 e a) (hab : attributeBase e f X.env (eval e X.env) = eval e X.env) : AE X c H0 (.Attribute e f pos) (aProp g a) := by
  refine (pe_propD (E := fun _ _ _ => True) cl M hr pass0 he hab).imp fun σ H Q ⟨env, L, R, rl, h, pq⟩ => ?_
  refine ⟨env, L, _, rl, h, fun d L1 x H1 q s1 g1 r1 => ?_⟩
  obtain ⟨t, hf, q⟩ := tree_low (R := fun t => R (g t) L1) r1 q
  obtain ⟨p, dx, b, n, vs, rfl, h1, _⟩ := ftn_iff.mp hf
  exact ⟨p, dx, _, rfl, h1, _, t, rfl, hf, (pq.fr s1).here q g1 (hg H1 t)⟩
theorem ae_kids (cl : Cls X.K (cF X.K)) (M : PropD X.prog X.w X.K X.mg X.base CX0 k (cF X.K) f (spKids X.K)) (hr : Room (k + 1) X.A) (he : AE X c H0 e a) (hab : attributeBase e f X.env (eval e X.env) = eval e X.env) : AE X c H0 (.Attribute e f pos) (aProp (fun t => .tup (t.kids.map .tree)) a) := by
  refine (pe_propD (E := fun _ _ _ => True) cl M hr pass0 he hab).imp fun σ H Q ⟨env, L, R, rl, h, pq⟩ => ?_
  refine ⟨env, L, _, rl, h, fun d L1 x H1 q s1 g1 r1 => ?_⟩
  obtain ⟨t, hf, q⟩ := tree_low (R := fun t => R (.tup (t.kids.map .tree)) L1) r1 q
  obtain ⟨p, dx, b, n, vs, rfl, h1, _⟩ := ftn_iff.mp hf
  exact ⟨p, dx, _, rfl, h1, _, t, rfl, hf, fun b' xs hb hk => (pq.fr s1).here q g1 (rep_tup.mpr ⟨b', xs, rfl, SqT.of hb, RepL.trees.mpr hk⟩)⟩
theorem non_low {d : D} {v : V} {H : Hp} (r : Rep c H d v) (h : isNonD d = false) : v ≠ .non := by
  have := isNon_low r
  rw [h] at this
  exact of_decide_eq_false this
def aMethF (asp : ASp) (RX : AX) (a : ATE) (as : ATA) : ATE := fun env L Q => a env L fun d L1 => treeD d fun t => as env L1 fun ds L2 => asp (.tree t :: ds) L2 Q RX
theorem ae_meth {pl : Sem Bool} (cl : Cls X.K (cF X.K)) (M : MethD X.prog X.w X.K X.mg X.base CX0 k (cF X.K) m ps [] (spA c asp)) (hn : ∀ t b n, (flds t b n).lookup m = none) (hr : Room k X.A) (he : AE X c H0 o a) (ha : AA X c H0 (e :: es) as)
    (hst : starEach (e :: es) X.env = (false, eval e X.env) :: starEach es X.env := by rfl) (hpl : (backTo pos (starEach es X.env)).any (·.1) = false := by rfl)
    (ht : eval (.Call (.Attribute o m apos) (e :: es) [] pos) X.env = (do
      let ov ← eval o X.env
      standAt apos.atName
      let (f, first) ← holding [ov] (getMethod ov m pl)
      callWith pos f first (backTo pos (starEach (e :: es) X.env)) (backToKw pos (keywordEach [] X.env))) := by rfl) : AE X c H0 (.Call (.Attribute o m apos) (e :: es) [] pos) (aMethF asp anyX a as) := by
  refine (pe_methD (E := fun _ _ _ => True) cl M hr pass0 he ha hst hpl ht).imp fun σ H Q ⟨env, L, R, rl, h, pq⟩ => ?_
  refine ⟨env, L, _, rl, h, fun d L1 x H1 q s1 g1 r1 => ?_⟩
  obtain ⟨t, hf, q⟩ := tree_low (R := fun t => as env L1 fun ds L2 => asp (.tree t :: ds) L2 R anyX) r1 q
  obtain ⟨p, dx, b, n, vs, rfl, h1, _⟩ := ftn_iff.mp hf
  refine ⟨p, dx, _, rfl, h1, hn t b n, env, L1, _, rl.step s1 g1, q, fun ds L2 us H2 q2 s2 g2 r2 => ?_⟩
  show spA c asp (V.ref p :: (us ++ [])) H2 Q fun _ _ _ => True
  rw [List.append_nil]
  exact ⟨_, L2, R, anyX, .cons ((rep_tree.mpr hf).fr s2) r2, g2, q2, pq.fr (s1.trans s2), px_any⟩
theorem ae_make {C : Addr} {dvs : List V} {sp : Sp} {dd : List D} (M : MakeD X.prog X.w X.K X.mg X.base CX0 k x C ps dvs sp) (hr : Room (k + 1) X.A) (hg : Gl X x) (ha : AA X c H0 (e :: es) as)
    (hsp : ∀ ds vs H L R Q, RepL c H ds vs → Good c L H → asp ds L R anyX → Pq c H R Q → ∀ x dx, H x = none → H dx = none → dx ≠ x → sp (.ref x :: (vs ++ dvs)) (upd (upd H dx (.own x)) x (.ins C dx [])) (fun v H2 => v = .non ∧ Q (.ref x) H2) (fun _ _ _ => True))
    (hdb : (x == ("__debug__" : Str)) = false := by decide) (he : starEach (e :: es) X.env = (false, eval e X.env) :: starEach es X.env := by rfl) (hpl : (backTo pos (starEach es X.env)).any (·.1) = false := by rfl) : AE X c H0 (.Call (.Name x p) (e :: es) [] pos) (aCall asp as) := by
  refine (pe_makeD (E := fun _ _ _ => True) M hr hg pass0 ha hdb he hpl).imp fun σ H Q ⟨env, L, R, rl, h, pq⟩ => ?_
  exact ⟨env, L, _, rl, h, fun ds L1 vs H1 q s1 g1 r1 x dx hx hdx ne => hsp ds vs H1 L1 R Q r1 g1 q (pq.fr s1) x dx hx hdx ne⟩
end
def LowM {K : PySem.W.Frag} (c : AC K) (r : V → List V → Hp → VK → Prop) (f : D → List D → Store → AQ → Prop) : Prop := ∀ x vs H Q d ds L R, Rep c H d x → RepL c H ds vs → Good c L H → f d ds L R → Pq c H R Q → r x vs H Q
def isLst (d : D) (L : Store) : Prop := ∃ p l, d = .ref p ∧ L p = some (.lst l)
def isStr (d : D) : Prop := ∃ z, d = .str z
def aMl (f : D → List D → Store → AQ → Prop) (a : ATE) (as : ATA) : ATE := fun env L Q => a env L fun d L1 => isLst d L1 ∧ as env L1 fun ds L2 => f d ds L2 Q
def aMs (f : D → List D → Store → AQ → Prop) (a : ATE) (as : ATA) : ATE := fun env L Q => a env L fun d L1 => isStr d ∧ as env L1 fun ds L2 => f d ds L2 Q
def appendD : D → List D → Store → AQ → Prop
  | .ref p, [d], L, Q => ∃ l, L p = some (.lst l) ∧ l.length < sizeLine ∧ Q .non (sput L p (.lst (l ++ [d])))
  | _, _, _, _ => False
def popAtD : D → List D → Store → AQ → Prop
  | .ref p, [.int i], L, Q => ∃ l k d, L p = some (.lst l) ∧ -(2 ^ 63) ≤ i ∧ i < 2 ^ 63 ∧ seqIndex? i l.length = some k ∧ l[k]? = some d ∧ Q d (sput L p (.lst (l.eraseIdx k)))
  | _, _, _, _ => False
def joinD : D → List D → Store → AQ → Prop
  | .str z, [.ref p], L, Q => ∃ ys : List Str, L p = some (.lst (ys.map D.str)) ∧ (ys.map (·.length)).sum + ys.length * z.length ≤ 16777216 ∧ Q (.str (Txt.join z ys)) L
  | .str z, [.tup l], L, Q => ∃ ys : List Str, l = ys.map D.str ∧ (ys.map (·.length)).sum + ys.length * z.length ≤ 16777216 ∧ Q (.str (Txt.join z ys)) L
  | _, _, _, _ => False
def countD : D → List D → Store → AQ → Prop
  | .str a, [.str b], L, Q => Q (.int (Txt.count a b)) L
  | _, _, _, _ => False
section
variable {X : Cx} {c : AC X.K} {H0 : Hp} {o e : Expr} {es : List Expr} {a b : ATE} {as : ATA} {name : Str} {apos cpos pos : Pos} {id : String} {r : V → List V → Hp → VK → Prop} {f : D → List D → Store → AQ → Prop}
theorem ty_lst {H : Hp} {L : Store} {d : D} {v : V} (r : Rep c H d v) (g : Good c L H) (h : isLst d L) : tyV X.K "list" v H := by
  obtain ⟨p, l, rfl, e1⟩ := h
  cases rep_ref.mp r
  obtain ⟨vs, e2, _⟩ := good_lst g e1
  exact .inl ⟨rfl, vs, SqL.of e2⟩
theorem ae_ml (pa : PlainAttrs "list") (slot : Slot "list" name id) (hty : typeOf (.builtin id) = pure (.type "method_descriptor")) (hm : MtR X id r) (k : LowM c r f) (ho : AE X c H0 o a) (ha : AA X c H0 (e :: es) as)
    (hbase : attributeBase o name X.env (eval o X.env) = eval o X.env := by rfl)
    (hfew : ((backTo cpos (starEach (e :: es) X.env)).all (fun x => !x.1) && (backToKw cpos (keywordEach [] X.env)).all (fun x => x.1.isSome)
      && decide ((e :: es).length + ([] : List Keyword).length + (if ([] : List Keyword).isEmpty then 0 else 1) < 30)) = true := by rfl)
    (hline : (apos.endLine == cpos.line) = true := by rfl) (hs : starEach (e :: es) X.env = (false, eval e X.env) :: starEach es X.env := by rfl) (hplain : (backTo cpos (starEach es X.env)).any (·.1) = false := by rfl) :
    AE X c H0 (.Call (.Attribute o name apos) (e :: es) [] cpos) (aMl f a as) := by
  refine (pe_bm pa slot hty hm ho ha hbase hfew hline hs hplain).imp fun σ H Q ⟨env, L, R, rl, h, pq⟩ => ?_
  refine ⟨env, L, _, rl, h, fun d L1 x H1 ⟨hl, q⟩ s1 g1 r1 => ⟨ty_lst r1 g1 hl, env, L1, _, rl.step s1 g1, q, fun ds L2 vs H2 q2 s2 g2 r2 => ?_⟩⟩
  exact k x vs H2 Q d ds L2 R (r1.fr s2) r2 g2 q2 (pq.fr (s1.trans s2))
theorem ae_ms1 (slot : Slot "str" name id) (ty : typeOf (.builtin id) = pure (.type "method_descriptor")) (hm : MtR X id r) (k : LowM c r f) (ho : AE X c H0 o a) (he : AE X c H0 e b)
    (hs : starEach [e] X.env = [(false, eval e X.env)] := by rfl) (hbase : attributeBase o name X.env (eval o X.env) = eval o X.env := by rfl) (hline : (apos.endLine == pos.line) = true := by rfl) :
    AE X c H0 (.Call (.Attribute o name apos) [e] [] pos) (aMs f a (aCons b aNil)) := by
  refine (pe_m1 slot ty hm ho he hs hbase hline).imp fun σ H Q ⟨env, L, R, rl, h, pq⟩ => ?_
  refine ⟨env, L, _, rl, h, fun d L1 x H1 ⟨⟨z, hz⟩, q⟩ s1 g1 r1 => ?_⟩
  subst hz
  refine ⟨⟨z, rep_str.mp r1⟩, env, L1, _, rl.step s1 g1, q, fun d2 L2 y H2 q2 s2 g2 r2 => ?_⟩
  exact k x [y] H2 Q _ [d2] L2 R (r1.fr s2) (.one r2) g2 q2 (pq.fr (s1.trans s2))
end
section
variable {K : PySem.W.Frag} {c : AC K}
theorem lst_put {H : Hp} {L : Store} {R : AQ} {Q : VK} {p : Addr} {l l' : List D} {vs' : List V} {d : D} {v : V} (g : Good c L H) (pq : Pq c H R Q) (e : L p = some (.lst l)) (rs : RepL c H l' vs') (rd : Rep c H d v) (q : R d (sput L p (.lst l'))) : Q v (upd H p (.lst vs')) := by
  obtain ⟨vs, e1, _⟩ := good_lst g e
  have s : Fr c H (upd H p (.lst vs')) := .put e1 fun z => z
  obtain ⟨g', _⟩ := g.put (m' := .lst l') e (.lst vs') ⟨vs', upd_same, rs.fr s⟩
  exact pq d _ v _ q s g' (rd.fr s)
theorem low_append : LowM c rAppend appendD := fun x vs H Q d ds L R rx rv g h pq => by
  unfold appendD at h
  split at h
  · rename_i p d
    obtain ⟨l, e, hz, h⟩ := h
    cases rep_ref.mp rx
    obtain ⟨v, rfl, r1⟩ := repL_one rv
    obtain ⟨ws, e1, rs⟩ := good_lst g e
    exact ⟨p, ws, v, rfl, rfl, e1, by rw [rs.len]; exact hz, lst_put g pq e (rs.app (.one r1)) (rep_non.mpr rfl) h⟩
  · exact h.elim
theorem low_popAt : LowM c rPopAt popAtD := fun x vs H Q d ds L R rx rv g h pq => by
  unfold popAtD at h
  split at h
  · rename_i p i
    obtain ⟨l, k, d, e, h1, h2, h3, e2, h⟩ := h
    cases rep_ref.mp rx
    obtain ⟨v, rfl, r1⟩ := repL_one rv
    cases rep_int.mp r1
    obtain ⟨ws, e1, rs⟩ := good_lst g e
    obtain ⟨v, e3, r⟩ := rs.get e2
    exact ⟨p, ws, i, k, v, rfl, rfl, e1, h1, h2, by rw [rs.len]; exact h3, e3, lst_put g pq e (rs.eraseIdx k) r h⟩
  · exact h.elim
theorem low_join : LowM c (fun x xs H Q => ∃ a p, ∃ ys : List Str, x = .str a ∧ xs = [.ref p] ∧ (SqL K H p (ys.map V.str) ∨ SqT K H p (ys.map V.str)) ∧
    (ys.map (·.length)).sum + ys.length * a.length ≤ 16777216 ∧ Q (.str (Txt.join a ys)) H) joinD := fun x vs H Q d ds L R rx rv g h pq => by
  unfold joinD at h
  split at h
  · rename_i z p
    obtain ⟨ys, e, hz, h⟩ := h
    obtain ⟨v, rfl, r1⟩ := repL_one rv
    cases rep_ref.mp r1
    obtain ⟨ws, e1, rs⟩ := good_lst g e
    rw [RepL.strs.mp rs] at e1
    exact ⟨z, p, ys, rep_str.mp rx, rfl, .inl (SqL.of e1), hz, pq.here h g (rep_str.mpr rfl)⟩
  · rename_i z l
    obtain ⟨ys, e, hz, h⟩ := h
    subst e
    obtain ⟨v, rfl, r1⟩ := repL_one rv
    obtain ⟨p, ws, rfl, e1, rs⟩ := rep_tup.mp r1
    rw [RepL.strs.mp rs] at e1
    exact ⟨z, p, ys, rep_str.mp rx, rfl, .inr e1, hz, pq.here h g (rep_str.mpr rfl)⟩
  · exact h.elim
theorem low_count : LowM c (fun x xs H Q => ∃ a b, x = .str a ∧ xs = [.str b] ∧ Q (.int (Txt.count a b)) H) countD := fun x vs H Q d ds L R rx rv g h pq => by
  unfold countD at h
  split at h
  · rename_i z y
    obtain ⟨v, rfl, r1⟩ := repL_one rv
    cases rep_str.mp r1
    exact ⟨z, y, rep_str.mp rx, rfl, pq.here h g (rep_int.mpr rfl)⟩
  · exact h.elim
end
def refD : D → (Addr → Prop) → Prop
  | .ref p, Q => Q p
  | _, _ => False
def tupE : D → (List D → Prop) → Prop
  | .tup l, Q => Q l
  | _, _ => False
def strE : D → (Str → Prop) → Prop
  | .str z, Q => Q z
  | _, _ => False
theorem ref_low {K : PySem.W.Frag} {c : AC K} {H : Hp} {d : D} {v : V} {R : Addr → Prop} (r : Rep c H d v) (h : refD d R) : ∃ p, v = .ref p ∧ R p := by
  cases d with
  | ref p => exact ⟨p, rep_ref.mp r, h⟩
  | _ => exact h.elim
theorem tup_low {K : PySem.W.Frag} {c : AC K} {H : Hp} {d : D} {v : V} {R : List D → Prop} (r : Rep c H d v) (h : tupE d R) : ∃ p vs l, v = .ref p ∧ SqT K H p vs ∧ RepL c H l vs ∧ R l := by
  cases d with
  | tup l =>
    obtain ⟨p, vs, e, e1, rs⟩ := rep_tup.mp r
    exact ⟨p, vs, l, e, e1, rs, h⟩
  | _ => exact h.elim
theorem str_low {K : PySem.W.Frag} {c : AC K} {H : Hp} {d : D} {v : V} {R : Str → Prop} (r : Rep c H d v) (h : strE d R) : ∃ z, v = .str z ∧ R z := by
  cases d with
  | str z => exact ⟨z, rep_str.mp r, h⟩
  | _ => exact h.elim
def lstAt (p : Addr) (l : List D) : Store → Prop := fun L => L p = some (.lst l)
def yes : Store → Prop := fun _ => True
def aiList (a : ATE) : ATI := fun env L Q => a env L fun d L1 => refD d fun p => ∃ l, L1 p = some (.lst l) ∧ Q l (lstAt p l) L1
def aiTup (a : ATE) : ATI := fun env L Q => a env L fun d L1 => tupE d fun l => Q l yes L1
def aiStr (a : ATE) : ATI := fun env L Q => a env L fun d L1 => strE d fun z => Q (z.cps.toList.map fun k => .str ⟨#[k]⟩) yes L1
def rngD (lo : Int) (n : Nat) : List D := (List.range n).map fun i => .int (lo + (i : Nat))
def aiRng1 (as : ATA) : ATI := fun env L Q => as env L fun ds L1 => match ds with
  | [.int j] => -(2 ^ 62) ≤ j ∧ j < 2 ^ 62 ∧ Q (rngD 0 j.toNat) yes L1
  | _ => False
def aiRng2 (as : ATA) : ATI := fun env L Q => as env L fun ds L1 => match ds with
  | [.int i, .int j] => (-(2 ^ 62) ≤ i ∧ i < 2 ^ 62 ∧ -(2 ^ 62) ≤ j ∧ j < 2 ^ 62) ∧ Q (rngD i (j - i).toNat) yes L1
  | _ => False
def enumD (l : List D) : List D := (List.range l.length).zipWith (fun i d => .tup [.int (i : Nat), d]) l
def aiEnumL (as : ATA) : ATI := fun env L Q => as env L fun ds L1 => match ds with
  | [.ref p] => ∃ l, L1 p = some (.lst l) ∧ Q (enumD l) (lstAt p l) L1
  | _ => False
def aiEnumT (as : ATA) : ATI := fun env L Q => as env L fun ds L1 => match ds with
  | [.tup l] => Q (enumD l) yes L1
  | _ => False
def zipD (l m : List D) : List D := List.zipWith (fun a b => .tup [a, b]) l m
section
variable {K : PySem.W.Frag} {c : AC K} {H H1 H' : Hp} {L : Store}
theorem walkA_list {p : Addr} {l : List D} (g : Good c L H) (e : L p = some (.lst l)) : WalkA c (Itl K p) l (lstAt p l) H := by
  obtain ⟨vs, e1, rs⟩ := good_lst g e
  refine ⟨fun H' => Fr c H H' ∧ ∃ ws, H' p = some (.lst ws) ∧ RepL c H' l ws, ?_, fun L' H' s g' e' => ⟨s, good_lst g' e'⟩⟩
  refine ⟨fun i H' hi ⟨_, ws, e2, r2⟩ => ⟨ws, ws[i]'(by rw [r2.len]; exact hi), SqL.of e2, List.getElem?_eq_getElem (by rw [r2.len]; exact hi)⟩, fun H' ⟨_, ws, e2, r2⟩ => ⟨ws, SqL.of e2, by rw [r2.len]; exact Nat.le_refl _⟩, fun i H1 x H2 hi ⟨s, ws, e2, r2⟩ y => ?_⟩
  obtain ⟨rfl, y⟩ := y
  obtain ⟨d, e3, r⟩ := r2.getV (y ws (SqL.of e2))
  exact ⟨.refl c _, fun L g => g, d, e3, r⟩
theorem walkA_tup {p : Addr} {l : List D} {vs : List V} (e : SqT K H p vs) (rs : RepL c H l vs) : WalkA c (Itt K p) l yes H := by
  refine ⟨fun H' => Fr c H H', ?_, fun L' H' s g' e' => s⟩
  have at_ : ∀ {H'}, Fr c H H' → SqT K H' p vs := fun s => sqT_fr s e
  refine ⟨fun i H' hi s => ⟨vs, vs[i]'(by rw [rs.len]; exact hi), at_ s, List.getElem?_eq_getElem (by rw [rs.len]; exact hi)⟩, fun H' s => ⟨vs, at_ s, by rw [rs.len]; exact Nat.le_refl _⟩, fun i H1 x H2 hi s y => ?_⟩
  obtain ⟨rfl, y⟩ := y
  obtain ⟨d, e3, r⟩ := (rs.fr s).getV (y vs (at_ s))
  exact ⟨.refl c _, fun L g => g, d, e3, r⟩
theorem rngD_get {lo : Int} {n i : Nat} (h : i < n) : (rngD lo n)[i]? = some (.int (lo + (i : Nat))) := by
  unfold rngD
  rw [List.getElem?_map, List.getElem?_range h]
  rfl
theorem rngD_len {lo : Int} {n : Nat} : (rngD lo n).length = n := by
  unfold rngD
  rw [List.length_map, List.length_range]
theorem walkA_rng {lo : Int} {n : Nat} : WalkA c (Itr lo n) (rngD lo n) yes H := by
  refine ⟨fun _ => True, ?_, fun _ _ _ _ _ => trivial⟩
  rw [rngD_len]
  refine walk_range.mono (fun _ _ => trivial) fun i H1 x H2 hi _ y => ?_
  obtain ⟨rfl, rfl⟩ := y
  exact ⟨.refl c _, fun L g => g, _, rngD_get hi, rep_int.mpr rfl⟩
theorem walkA_str {z : Str} : WalkA c (Its z) (z.cps.toList.map fun k => .str ⟨#[k]⟩) yes H := by
  refine ⟨fun _ => True, ?_, fun _ _ _ _ _ => trivial⟩
  rw [List.length_map, Array.length_toList]
  refine walk_str.mono (fun _ _ => trivial) fun i H1 x H2 hi _ y => ?_
  obtain ⟨rfl, k, e, rfl⟩ := y
  exact ⟨.refl c _, fun L g => g, .str ⟨#[k]⟩, by rw [List.getElem?_map, Array.getElem?_toList, e]; rfl, rep_str.mpr rfl⟩
theorem pair_new {p : Addr} {x y : V} {d e : D} {H : Hp} (hp : H p = none) (r1 : Rep c H d x) (r2 : Rep c H e y) : Fr c H (upd H p (.tup [x, y])) ∧ (∀ L, Good c L H → Good c L (upd H p (.tup [x, y]))) ∧ Rep c (upd H p (.tup [x, y])) (.tup [d, e]) (.ref p) :=
  ⟨.new hp, fun L g => g.new hp _, rep_tup.mpr ⟨p, _, rfl, SqT.of upd_same, .cons (r1.fr (.new hp)) (.one (r2.fr (.new hp)))⟩⟩
theorem enumD_get {l : List D} {i : Nat} {d : D} (h : l[i]? = some d) : (enumD l)[i]? = some (.tup [.int (i : Nat), d]) := by
  have hi : i < l.length := (List.getElem?_eq_some_iff.mp h).1
  unfold enumD
  rw [List.getElem?_zipWith, List.getElem?_range hi, h]
theorem enumD_len {l : List D} : (enumD l).length = l.length := by
  unfold enumD
  rw [List.length_zipWith, List.length_range, Nat.min_self]
theorem walkA_enumL {p : Addr} {l : List D} (g : Good c L H) (e : L p = some (.lst l)) : WalkA c (Ite K p) (enumD l) (lstAt p l) H := by
  refine ⟨fun H' => Fr c H H' ∧ ∃ ws, H' p = some (.lst ws) ∧ RepL c H' l ws, ?_, fun L' H' s g' e' => ⟨s, good_lst g' e'⟩⟩
  rw [enumD_len]
  refine ⟨fun i H' hi ⟨_, ws, e2, r2⟩ => ⟨ws, ws[i]'(by rw [r2.len]; exact hi), SqL.of e2, List.getElem?_eq_getElem (by rw [r2.len]; exact hi)⟩, fun H' ⟨_, ws, e2, r2⟩ => ⟨ws, SqL.of e2, by rw [r2.len]; exact Nat.le_refl _⟩, fun i H1 x H2 hi ⟨s, ws, e2, r2⟩ y => ?_⟩
  obtain ⟨T, v, rfl, hT, rfl, y⟩ := y
  obtain ⟨d, e3, r⟩ := r2.getV (y ws (SqL.of e2))
  obtain ⟨f1, f2, f3⟩ := pair_new (d := .int (i : Nat)) hT (rep_int.mpr rfl) r
  exact ⟨f1, f2, _, enumD_get e3, f3⟩
theorem walkA_enumT {p : Addr} {l : List D} {vs : List V} (e : SqT K H p vs) (rs : RepL c H l vs) : WalkA c (Itet K p) (enumD l) yes H := by
  refine ⟨fun H' => Fr c H H', ?_, fun L' H' s g' e' => s⟩
  have at_ : ∀ {H'}, Fr c H H' → SqT K H' p vs := fun s => sqT_fr s e
  rw [enumD_len]
  refine ⟨fun i H' hi s => ⟨vs, vs[i]'(by rw [rs.len]; exact hi), at_ s, List.getElem?_eq_getElem (by rw [rs.len]; exact hi)⟩, fun H' s => ⟨vs, at_ s, by rw [rs.len]⟩, fun i H1 x H2 hi s y => ?_⟩
  obtain ⟨T, v, rfl, hT, rfl, y⟩ := y
  obtain ⟨d, e3, r⟩ := (rs.fr s).getV (y vs (at_ s))
  obtain ⟨f1, f2, f3⟩ := pair_new (d := .int (i : Nat)) hT (rep_int.mpr rfl) r
  exact ⟨f1, f2, _, enumD_get e3, f3⟩
theorem zipD_get {l m : List D} {i : Nat} {d e : D} (h : l[i]? = some d) (h' : m[i]? = some e) : (zipD l m)[i]? = some (.tup [d, e]) := by
  unfold zipD
  rw [List.getElem?_zipWith, h, h']
theorem walkA_zip {p q : Addr} {l m : List D} (g : Good c L H) (e : L p = some (.lst l)) (e' : L q = some (.lst m)) : WalkA c (Itz K p q) (zipD l m) (fun L => L p = some (.lst l) ∧ L q = some (.lst m)) H := by
  refine ⟨fun H' => Fr c H H' ∧ (∃ ws, H' p = some (.lst ws) ∧ RepL c H' l ws) ∧ ∃ us, H' q = some (.lst us) ∧ RepL c H' m us, ?_, fun L' H' s g' e' => ⟨s, good_lst g' e'.1, good_lst g' e'.2⟩⟩
  have hl : (zipD l m).length = min l.length m.length := by
    unfold zipD
    rw [List.length_zipWith]
  rw [hl]
  refine ⟨fun i H' hi ⟨_, ⟨ws, e2, r2⟩, us, e3, r3⟩ => ?_, fun H' ⟨_, ⟨ws, e2, r2⟩, us, e3, r3⟩ => ⟨ws, us, SqL.of e2, SqL.of e3, by rw [r2.len, r3.len]; omega⟩, fun i H1 x H2 hi ⟨s, ⟨ws, e2, r2⟩, us, e3, r3⟩ y => ?_⟩
  · have h1 : i < ws.length := by rw [r2.len]; omega
    have h2 : i < us.length := by rw [r3.len]; omega
    exact ⟨ws, us, ws[i], us[i], SqL.of e2, SqL.of e3, List.getElem?_eq_getElem h1, List.getElem?_eq_getElem h2⟩
  · obtain ⟨T, v, w, rfl, hT, rfl, y1, y2⟩ := y
    obtain ⟨d, e4, r⟩ := r2.getV (y1 ws (SqL.of e2))
    obtain ⟨d2, e5, r5⟩ := r3.getV (y2 us (SqL.of e3))
    obtain ⟨f1, f2, f3⟩ := pair_new hT r r5
    exact ⟨f1, f2, _, zipD_get e4 e5, f3⟩
end
section
variable {X : Cx} {c : AC X.K} {H0 : Hp} {tg e f : Expr} {a : ATE} {as : ATA} {p pos tpos : Pos} {elts : List Expr} {kk : Nat}
theorem ai_list (h : AE X c H0 e a) : AI X c H0 tg e (aiList a) := by
  refine (pi_list h).imp fun σ H Q ⟨env, L, R, rl, h, pq⟩ => ?_
  refine ⟨env, L, _, rl, h, fun d L1 x H1 q s1 g1 r1 => ?_⟩
  obtain ⟨p, rfl, l, e, q⟩ := ref_low r1 q
  obtain ⟨vs, e1, rs⟩ := good_lst g1 e
  exact ⟨p, rfl, ⟨vs, SqL.of e1⟩, pq _ _ L1 _ H1 q s1 g1 (walkA_list g1 e)⟩
theorem ai_tup (h : AE X c H0 e a) : AI X c H0 tg e (aiTup a) := by
  refine (pi_tup h).imp fun σ H Q ⟨env, L, R, rl, h, pq⟩ => ?_
  refine ⟨env, L, _, rl, h, fun d L1 x H1 q s1 g1 r1 => ?_⟩
  obtain ⟨p, vs, l, rfl, e1, rs, q⟩ := tup_low r1 q
  exact ⟨p, rfl, ⟨vs, e1⟩, pq _ _ L1 _ H1 q s1 g1 (walkA_tup e1 rs)⟩
theorem ai_str (h : AE X c H0 e a) : AI X c H0 tg e (aiStr a) := by
  refine (pi_str h).imp fun σ H Q ⟨env, L, R, rl, h, pq⟩ => ?_
  refine ⟨env, L, _, rl, h, fun d L1 x H1 q s1 g1 r1 => ?_⟩
  obtain ⟨z, rfl, q⟩ := str_low r1 q
  exact ⟨z, rfl, pq _ _ L1 _ H1 q s1 g1 walkA_str⟩
theorem ai_rng1 (hg : Gl X "range") (hm : X.mg "range" = none) (ha : AA X c H0 [e] as) (hs : starEach [e] X.env = [(false, eval e X.env)] := by rfl) : AI X c H0 tg (.Call (.Name "range" p) [e] [] pos) (aiRng1 as) := by
  refine (pi_range1 hg hm ha hs).imp fun σ H Q ⟨env, L, R, rl, h, pq⟩ => ?_
  refine ⟨env, L, _, rl, h, fun ds L1 vs H1 q s1 g1 r1 => ?_⟩
  split at q
  · rename_i j
    obtain ⟨h1, h2, q⟩ := q
    obtain ⟨v, rfl, r2⟩ := repL_one r1
    cases rep_int.mp r2
    exact ⟨j, rfl, h1, h2, pq _ _ L1 _ H1 q s1 g1 walkA_rng⟩
  · exact q.elim
theorem ai_rng2 (hg : Gl X "range") (hm : X.mg "range" = none) (ha : AA X c H0 [e, f] as) (hs : starEach [e, f] X.env = [(false, eval e X.env), (false, eval f X.env)] := by rfl) (hs2 : starEach [f] X.env = [(false, eval f X.env)] := by rfl) : AI X c H0 tg (.Call (.Name "range" p) [e, f] [] pos) (aiRng2 as) := by
  refine (pi_range2 hg hm ha hs hs2).imp fun σ H Q ⟨env, L, R, rl, h, pq⟩ => ?_
  refine ⟨env, L, _, rl, h, fun ds L1 vs H1 q s1 g1 r1 => ?_⟩
  split at q
  · rename_i i j
    obtain ⟨h1, q⟩ := q
    obtain ⟨v, w, rfl, r2, r3⟩ := repL_two r1
    cases rep_int.mp r2
    cases rep_int.mp r3
    exact ⟨i, j, rfl, h1, pq _ _ L1 _ H1 q s1 g1 walkA_rng⟩
  · exact q.elim
theorem ai_enumL (hg : Gl X "enumerate") (hm : X.mg "enumerate" = none) (ha : AA X c H0 [e] as) (hs : starEach [e] X.env = [(false, eval e X.env)] := by rfl) : AI X c H0 (.Tuple elts kk tpos) (.Call (.Name "enumerate" p) [e] [] pos) (aiEnumL as) := by
  refine (pi_enum hg hm ha hs).imp fun σ H Q ⟨env, L, R, rl, h, pq⟩ => ?_
  refine ⟨env, L, _, rl, h, fun ds L1 vs H1 q s1 g1 r1 => ?_⟩
  split at q
  · rename_i q
    obtain ⟨l, e1, q⟩ := q
    obtain ⟨v, rfl, r2⟩ := repL_one r1
    cases rep_ref.mp r2
    obtain ⟨ws, e2, rs⟩ := good_lst g1 e1
    exact ⟨_, ws, rfl, SqL.of e2, pq _ _ L1 _ H1 q s1 g1 (walkA_enumL g1 e1)⟩
  · exact q.elim
theorem ai_enumT (hg : Gl X "enumerate") (hm : X.mg "enumerate" = none) (ha : AA X c H0 [e] as) (hs : starEach [e] X.env = [(false, eval e X.env)] := by rfl) : AI X c H0 (.Tuple elts kk tpos) (.Call (.Name "enumerate" p) [e] [] pos) (aiEnumT as) := by
  refine (pi_enumT hg hm ha hs).imp fun σ H Q ⟨env, L, R, rl, h, pq⟩ => ?_
  refine ⟨env, L, _, rl, h, fun ds L1 vs H1 q s1 g1 r1 => ?_⟩
  split at q
  · rename_i l
    obtain ⟨v, rfl, r2⟩ := repL_one r1
    obtain ⟨p, vs, rfl, e1, rs⟩ := rep_tup.mp r2
    exact ⟨p, vs, rfl, e1, pq _ _ L1 _ H1 q s1 g1 (walkA_enumT e1 rs)⟩
  · exact q.elim
end
end AL
namespace AL
open PySem PySem.Spec PyProof.Rows L2 LamX JW
def wipeA (env : En) : List Nat → En
  | [] => env
  | v :: vs => (wipeA env vs).set v none
theorem set_twice {α : Type} (l : List α) (i : Nat) (a b : α) : (l.set i a).set i b = l.set i b := by rw [List.set_set]
theorem wipe_set (σ : L2.St) (j : Nat) (x : Option V) : ∀ vs : List Nat, (∀ y, (wipe (σ.set j x) vs).set j y = (wipe σ vs).set j y) ∧ (j ∈ vs → wipe (σ.set j x) vs = wipe σ vs)
  | [] => ⟨fun y => set_twice _ _ _ _, fun h => absurd h (by simp)⟩
  | v :: vs => by
    obtain ⟨h1, h2⟩ := wipe_set σ j x vs
    by_cases e : v = j
    · subst e
      refine ⟨fun y => ?_, fun _ => h1 none⟩
      show ((wipe (σ.set v x) vs).set v none).set v y = ((wipe σ vs).set v none).set v y
      rw [h1 none]
    · refine ⟨fun y => ?_, fun h => ?_⟩
      · show ((wipe (σ.set j x) vs).set v none).set j y = ((wipe σ vs).set v none).set j y
        rw [List.set_comm _ _ e, h1 y, List.set_comm _ _ (Ne.symm e)]
      · have hj : j ∈ vs := (List.mem_cons.mp h).resolve_left (Ne.symm e)
        show (wipe (σ.set j x) vs).set v none = (wipe σ vs).set v none
        rw [h2 hj]
theorem wipe_idem (σ : L2.St) : ∀ vs : List Nat, wipe (wipe σ vs) vs = wipe σ vs
  | [] => rfl
  | v :: vs => by
    show (wipe ((wipe σ vs).set v none) vs).set v none = (wipe σ vs).set v none
    rw [(wipe_set (wipe σ vs) v none vs).1, wipe_idem σ vs]
section
variable {K : PySem.W.Frag} {c : AC K} {H : Hp} {σ : L2.St} {env : En}
theorem EnvR.unset (h : EnvR c H σ env) (i : Nat) : EnvR c H (σ.set i none) (env.set i none) := by
  refine ⟨by rw [List.length_set, List.length_set, h.len], fun j e hj => ?_⟩
  by_cases hi : i = j
  · subst hi
    rcases Nat.lt_or_ge i env.length with z | z
    · rw [List.getElem?_set_self z] at hj
      cases hj
    · rw [List.getElem?_eq_none (by simpa using z)] at hj
      cases hj
  · rw [List.getElem?_set_ne hi] at hj
    obtain ⟨u, e1, r1⟩ := h.get j e hj
    exact ⟨u, by rw [List.getElem?_set_ne hi]; exact e1, r1⟩
theorem EnvR.wipe (h : EnvR c H σ env) : ∀ vs : List Nat, EnvR c H (L2.wipe σ vs) (wipeA env vs)
  | [] => h
  | v :: vs => (h.wipe vs).unset v
end
def TgOk {K : PySem.W.Frag} (c : AC K) (g : TG) (ag : ATG) (vs : List Nat) : Prop := ∀ d x env L R σ H (P : L2.St → Hp → Prop), Rep c H d x → EnvR c H σ env → ag d env L R →
  (∀ env1 σ1, R env1 L → EnvR c H σ1 env1 → wipe σ1 vs = wipe σ vs → P σ1 H) → g x σ H P
def gNs : List Nat → TGs
  | [] => gNil
  | j :: js => gCons (gName j) (gNs js)
def agNs : List Nat → ATGs
  | [] => agNil
  | j :: js => agCons (agName j) (agNs js)
section
variable {K : PySem.W.Frag} {c : AC K}
theorem tgOk_name {j : Nat} {vs : List Nat} (hj : j ∈ vs) : TgOk c (gName j) (agName j) vs := fun d x env L R σ H P r er h k => k _ _ h (er.set j r) ((wipe_set σ j _ vs).2 hj)
theorem gNs_low {vs : List Nat} : ∀ {js : List Nat} {l : List D} {xs : List V} {env : En} {L : Store} {R : En → Store → Prop} {σ : L2.St} {H : Hp} {P : L2.St → Hp → Prop}, (∀ j ∈ js, j ∈ vs) → RepL c H l xs → EnvR c H σ env → agNs js l env L R →
    (∀ env1 σ1, R env1 L → EnvR c H σ1 env1 → wipe σ1 vs = wipe σ vs → P σ1 H) → gNs js xs σ H P
  | [], l, xs, env, L, R, σ, H, P, _, r, er, h, k => by
    obtain ⟨rfl, h⟩ := h
    exact ⟨repL_nil.mp r, k env σ h er rfl⟩
  | j :: js, l, xs, env, L, R, σ, H, P, hj, r, er, h, k => by
    cases l with
    | nil => exact h.elim
    | cons d l =>
      obtain ⟨v, ws, rfl, r1, r2⟩ := repL_cons.mp r
      refine ⟨v, ws, rfl, ?_⟩
      refine gNs_low (js := js) (fun j' h' => hj j' (List.mem_cons_of_mem _ h')) r2 (er.set j r1) h fun env1 σ1 h1 h2 h3 => k env1 σ1 h1 h2 ?_
      rw [h3]
      exact (wipe_set σ j _ vs).2 (hj j List.mem_cons_self)
theorem agNs_len : ∀ {js : List Nat} {l : List D} {env : En} {L : Store} {R : En → Store → Prop}, agNs js l env L R → l.length = js.length
  | [], l, env, L, R, h => by rw [h.1]; rfl
  | j :: js, l, env, L, R, h => by
    cases l with
    | nil => exact h.elim
    | cons d l => rw [List.length_cons, List.length_cons, agNs_len (js := js) h]
theorem tgOk_tup {js : List Nat} {n : Nat} {vs : List Nat} (hn : n = js.length) (hj : ∀ j ∈ js, j ∈ vs) : TgOk c (gTup K n (gNs js)) (agTup (agNs js)) vs := fun d x env L R σ H P r er h k => by
  cases d with
  | tup l =>
    obtain ⟨p, ws, rfl, e1, rs⟩ := rep_tup.mp r
    exact ⟨p, ws, rfl, e1, by rw [rs.len, hn]; exact agNs_len h, gNs_low hj rs er h k⟩
  | _ => exact h.elim
end
def compA (g : ATG) (t : ATT) (a : ATE) (G : Store → Prop) (p : Addr) (env : En) (Q : AQ) : List D → List D → Store → Prop
  | [], acc, L => G L ∧ L p = some (.lst acc) ∧ Q (.ref p) L
  | d :: ds, acc, L => G L ∧ L p = some (.lst acc) ∧ g d env L fun env1 L1 => L1 = L ∧ t env1 L1 fun b L2 => if b = true then a env1 L2 fun x L3 => acc.length < sizeLine ∧ L3 p = some (.lst acc) ∧ compA g t a G p env Q ds (acc ++ [x]) (sput L3 p (.lst (acc ++ [x]))) else compA g t a G p env Q ds acc L2
def aYes : ATT := fun _ L Q => Q true L
def aLc (ai : ATI) (g : ATG) (t : ATT) (a : ATE) (vs : List Nat) : ATE := fun env L Q => ai env L fun items G L1 => ∀ p, L1 p = none → compA g t a G p (wipeA env vs) Q items [] (sput L1 p (.lst []))
section
variable {X : Cx} {c : AC X.K} {H0 : Hp}
theorem low_lc {ai : ATI} {g : TG} {ag : ATG} {t : ATT} {tt : TT} {a : ATE} {vs : List Nat} (tg : TgOk c g ag vs) (ht : ∀ σ H Q, lowT c H0 t σ H Q → tt σ H Q) {σ : L2.St} {H : Hp} {Q : VK} (q : lowE c H0 (aLc ai ag t a vs) σ H Q) :
    tLc (lowI c H0 ai) g tt (lowE c H0 a) vs σ H Q := by
  obtain ⟨env, L, R, rl, h, pq⟩ := q
  refine ⟨env, L, _, rl, h, fun items G L1 J H1 q s1 g1 wa D hD => ?_⟩
  have q := q D (g1.fresh hD)
  obtain ⟨GH, wk, hG⟩ := wa.ex
  have f0 : Fr c H1 (upd H1 D (.lst [])) := .new hD
  have hg0 : Good c (sput L1 D (.lst [])) (upd H1 D (.lst [])) := g1.alloc hD _ ⟨[], upd_same, RepL.nil⟩
  have hGl : ∀ {ds acc : List AL.D} {L' : Store}, compA ag t a G D (wipeA env vs) R ds acc L' → G L' := fun {ds acc L'} z => by
    cases ds with
    | nil => exact z.1
    | cons d ds => exact z.1
  refine lc_it wk (fun i H' => Fr c H1 H' ∧ ∃ acc L', Good c L' H' ∧ compA ag t a G D (wipeA env vs) R (items.drop i) acc L') ⟨f0, [], _, hg0, q⟩ (fun i H' _ ⟨f, acc, L', g', z⟩ => hG L' H' f g' (hGl z)) ?_ ?_
  · rintro i x H2 H3 hi ⟨f, acc, L', g', z⟩ ⟨s2, k2, d, e1, r⟩
    have e2 : items.drop i = d :: items.drop (i + 1) := by
      have hh := List.drop_eq_getElem_cons hi
      rw [List.getElem?_eq_getElem hi] at e1
      rw [hh, Option.some.inj e1]
    rw [e2] at z
    obtain ⟨_, hp, z⟩ := z
    have er : EnvR c H3 (wipe σ vs) (wipeA env vs) := ((rl.env.fr s1).fr (f.trans s2)).wipe vs
    refine tg d x _ L' _ _ H3 _ r er z fun env1 σ1 ⟨_, h1⟩ h2 h3 => ⟨by rw [h3, wipe_idem], ?_⟩
    have fr3 : Fr c H0 H3 := (rl.fr.trans s1).trans (f.trans s2)
    refine ht _ _ _ ⟨env1, L', _, ⟨h2, k2 _ g', fr3⟩, h1, fun b L2 H4 hb s4 g4 => ?_⟩
    cases b with
    | true =>
      refine ⟨env1, L2, _, ⟨h2.fr s4, g4, fr3.trans s4⟩, hb, fun y L3 v H5 ⟨hz, hp3, hc⟩ s5 g5 r5 => ?_⟩
      obtain ⟨ws, e5, rs⟩ := good_lst g5 hp3
      obtain ⟨g6, f6⟩ := g5.put (m' := .lst (acc ++ [y])) hp3 (.lst (ws ++ [v])) ⟨ws ++ [v], upd_same, (rs.app (.one r5)).fr (.put e5 fun z => z)⟩
      exact ⟨ws, e5, by rw [rs.len]; exact hz, (((f.trans s2).trans s4).trans s5).trans f6, _, _, g6, hc⟩
    | false => exact ⟨(f.trans s2).trans s4, acc, L2, g4, hb⟩
  · rintro H2 ⟨f, acc, L', g', z⟩
    rw [List.drop_length] at z
    exact pq _ L' _ H2 z.2.2 (s1.trans f) g' (rep_ref.mpr rfl)
theorem ae_lc {elt tg iter : Expr} {scope : Scope} {own : List (Str × Nat)} {pos : Pos} {ai : ATI} {g : TG} {ag : ATG} {a : ATE} (hc : X.calm = true) (hN : X.N.Nodup) (hi : AI X c H0 tg iter ai) (ok : BlkOk X.N X.env.scope scope own) (hk : TgOk c g ag (own.map (·.2)))
    (hg : ∀ (s : Shared) (H : Hp) (C : Addr) (cl : List (Str × Addr)) (fp : List Addr), PG (X.blk s H scope (compEnvC scope cl C X.env) fp) tg g)
    (he : ∀ (s : Shared) (H : Hp) (C : Addr) (cl : List (Str × Addr)) (fp : List Addr), AE (X.blk s H scope (compEnvC scope cl C X.env) fp) c H0 elt a) (hs : ∀ x, foldedSetIterable iter X.env x = pure x := by intro _; rfl) :
    AE X c H0 (.ListComp elt [⟨tg, iter, [], 0⟩] scope pos) (aLc ai ag aYes a (own.map (·.2))) :=
  (pe_lc (te := lowE (K := X.K) c H0 a) hc hN hi ok hg (fun _ _ _ _ _ => pts_nil) he hs).imp fun σ H Q q => low_lc hk (fun σ H Q ⟨env, L, R, rl, h, k⟩ => k true L H h (.refl c H) rl.good) q
theorem ae_lcIf {elt tg iter cond : Expr} {scope : Scope} {own : List (Str × Nat)} {pos : Pos} {ai : ATI} {g : TG} {ag : ATG} {a : ATE} {t : ATT} (hc : X.calm = true) (hN : X.N.Nodup) (hi : AI X c H0 tg iter ai) (ok : BlkOk X.N X.env.scope scope own) (hk : TgOk c g ag (own.map (·.2)))
    (hg : ∀ (s : Shared) (H : Hp) (C : Addr) (cl : List (Str × Addr)) (fp : List Addr), PG (X.blk s H scope (compEnvC scope cl C X.env) fp) tg g)
    (ht : ∀ (s : Shared) (H : Hp) (C : Addr) (cl : List (Str × Addr)) (fp : List Addr), AT (X.blk s H scope (compEnvC scope cl C X.env) fp) c H0 cond t)
    (he : ∀ (s : Shared) (H : Hp) (C : Addr) (cl : List (Str × Addr)) (fp : List Addr), AE (X.blk s H scope (compEnvC scope cl C X.env) fp) c H0 elt a) (hs : ∀ x, foldedSetIterable iter X.env x = pure x := by intro _; rfl) :
    AE X c H0 (.ListComp elt [⟨tg, iter, [cond], 0⟩] scope pos) (aLc ai ag t a (own.map (·.2))) :=
  (pe_lc (tt := lowT (K := X.K) c H0 t) (te := lowE (K := X.K) c H0 a) hc hN hi ok hg (fun s H C cl fp => pts_one (ht s H C cl fp)) he hs).imp fun σ H Q q => low_lc hk (fun _ _ _ z => z) q
theorem low_asgLc {te : TE} {a : ATE} {i : Nat} (k : ∀ σ H Q, lowE c H0 a σ H Q → te σ H Q) {D : Ends} {σ : L2.St} {H : Hp} (q : lowS c H0 (aAsg a (agName i)) D σ H) : tAsg te (gName i) D σ H := by
  obtain ⟨env, L, R, rl, h, er⟩ := q
  exact k _ _ _ ⟨env, L, _, rl, h, fun d L1 v H1 q s g1 r => er.nx _ L1 _ H1 q s ⟨(rl.env.fr s).set i r, g1, rl.fr.trans s⟩⟩
theorem as_setLc {i : Nat} {y : Str} {py : Pos} {elt tg iter : Expr} {scope : Scope} {own : List (Str × Nat)} {pos spos : Pos} {ai : ATI} {g : TG} {ag : ATG} {a : ATE} (hc : X.calm = true) (hN : X.N.Nodup) (hy : X.N[i]? = some y) (hyl : X.env.scope.names.lookup y = some .local)
    (hsw : swapsWith (.ListComp elt [⟨tg, iter, [], 0⟩] scope pos) (some (.Name y py)) spos.line X.env = pure true) (hi : AI X c H0 tg iter ai) (ok : BlkOk X.N X.env.scope scope own) (hk : TgOk c g ag (own.map (·.2)))
    (hg : ∀ (s : Shared) (H : Hp) (C : Addr) (cl : List (Str × Addr)) (fp : List Addr), PG (X.blk s H scope (compEnvC scope cl C X.env) fp) tg g)
    (he : ∀ (s : Shared) (H : Hp) (C : Addr) (cl : List (Str × Addr)) (fp : List Addr), AE (X.blk s H scope (compEnvC scope cl C X.env) fp) c H0 elt a) (hs : ∀ x, foldedSetIterable iter X.env x = pure x := by intro _; rfl) :
    AS X c H0 (.Assign [.Name y py] (.ListComp elt [⟨tg, iter, [], 0⟩] scope pos) spos) (aAsg (aLc ai ag aYes a (own.map (·.2))) (agName i)) :=
  (ps_setLc (te := lowE (K := X.K) c H0 a) hc hN hy hyl hsw hi ok hg (fun _ _ _ _ _ => pts_nil) he hs).imp fun D σ H q => low_asgLc (fun σ H Q q => low_lc hk (fun σ H Q ⟨env, L, R, rl, h, k⟩ => k true L H h (.refl c H) rl.good) q) q
theorem as_setLcIf {i : Nat} {y : Str} {py : Pos} {elt tg iter cond : Expr} {scope : Scope} {own : List (Str × Nat)} {pos spos : Pos} {ai : ATI} {g : TG} {ag : ATG} {a : ATE} {t : ATT} (hc : X.calm = true) (hN : X.N.Nodup) (hy : X.N[i]? = some y) (hyl : X.env.scope.names.lookup y = some .local)
    (hsw : swapsWith (.ListComp elt [⟨tg, iter, [cond], 0⟩] scope pos) (some (.Name y py)) spos.line X.env = pure true) (hi : AI X c H0 tg iter ai) (ok : BlkOk X.N X.env.scope scope own) (hk : TgOk c g ag (own.map (·.2)))
    (hg : ∀ (s : Shared) (H : Hp) (C : Addr) (cl : List (Str × Addr)) (fp : List Addr), PG (X.blk s H scope (compEnvC scope cl C X.env) fp) tg g)
    (ht : ∀ (s : Shared) (H : Hp) (C : Addr) (cl : List (Str × Addr)) (fp : List Addr), AT (X.blk s H scope (compEnvC scope cl C X.env) fp) c H0 cond t)
    (he : ∀ (s : Shared) (H : Hp) (C : Addr) (cl : List (Str × Addr)) (fp : List Addr), AE (X.blk s H scope (compEnvC scope cl C X.env) fp) c H0 elt a) (hs : ∀ x, foldedSetIterable iter X.env x = pure x := by intro _; rfl) :
    AS X c H0 (.Assign [.Name y py] (.ListComp elt [⟨tg, iter, [cond], 0⟩] scope pos) spos) (aAsg (aLc ai ag t a (own.map (·.2))) (agName i)) :=
  (ps_setLc (tt := lowT (K := X.K) c H0 t) (te := lowE (K := X.K) c H0 a) hc hN hy hyl hsw hi ok hg (fun s H C cl fp => pts_one (ht s H C cl fp)) he hs).imp fun D σ H q => low_asgLc (fun σ H Q q => low_lc hk (fun _ _ _ z => z) q) q
end
theorem comp_pure {ai : ATI} {g : ATG} {t : ATT} {a : ATE} {G : Store → Prop} {p : Addr} {env : En} {Q : AQ} {L0 : Store} (kp : D → Bool) (f : D → D) (hG : ∀ l, G (sput L0 p (.lst l))) : ∀ (ds acc : List D), acc.length + ds.length ≤ sizeLine →
    (∀ d ∈ ds, ∀ (L : Store) (k : Bool → D → Store → Prop), (∃ l, L = sput L0 p (.lst l)) → (k (kp d) (f d) L) → g d env L fun env1 L1 => L1 = L ∧ t env1 L1 fun b L2 => if b = true then a env1 L2 fun x L3 => k true x L3 else k false (f d) L2) →
    Q (.ref p) (sput L0 p (.lst (acc ++ (ds.filter kp).map f))) → compA g t a G p env Q ds acc (sput L0 p (.lst acc))
  | [], acc, hz, hs, q => ⟨hG acc, sput_same, by simpa using q⟩
  | d :: ds, acc, hz, hs, q => by
    refine ⟨hG acc, sput_same, ?_⟩
    rw [List.length_cons] at hz
    have ih := comp_pure (ai := ai) (g := g) (t := t) (a := a) (G := G) (p := p) (env := env) (Q := Q) kp f hG ds
    refine hs d List.mem_cons_self _ (fun b x L3 => if b = true then acc.length < sizeLine ∧ L3 p = some (.lst acc) ∧ compA g t a G p env Q ds (acc ++ [x]) (sput L3 p (.lst (acc ++ [x]))) else compA g t a G p env Q ds acc L3) ⟨acc, rfl⟩ ?_
    cases hk : kp d with
    | true =>
      rw [if_pos rfl]
      refine ⟨by omega, sput_same, ?_⟩
      rw [sput_sput]
      refine ih (acc ++ [f d]) (by rw [List.length_append]; show acc.length + 1 + ds.length ≤ _; omega) (fun d' h' => hs d' (List.mem_cons_of_mem _ h')) ?_
      rw [List.filter_cons_of_pos hk, List.map_cons] at q
      rw [List.append_assoc]
      exact q
    | false =>
      rw [if_neg Bool.false_ne_true]
      refine ih acc (by omega) (fun d' h' => hs d' (List.mem_cons_of_mem _ h')) ?_
      rw [List.filter_cons_of_neg (by rw [hk]; exact Bool.false_ne_true)] at q
      exact q
def startA (N : List Str) (ds : List D) : En := ds.map some ++ List.replicate (N.length - ds.length) none
def fnEnds (R : AQ) : AEnds := { nx := fun _ L => ∃ L0, SubS L0 L ∧ R .non L0, rt := fun d L => ∃ L0, SubS L0 L ∧ R d L0 }
theorem ret_of {R : AQ} {d : D} {L : Store} (h : R d L) : ∃ L0, SubS L0 L ∧ R d L0 := ⟨L, .refl L, h⟩
theorem ret_sub {R : AQ} {d : D} {L L0 : Store} (h : R d L0) (s : SubS L0 L) : ∃ L0, SubS L0 L ∧ R d L0 := ⟨L0, s, h⟩
section
variable {K : PySem.W.Frag} {c : AC K}
theorem start_low {N : List Str} {ds : List D} {vs : List V} {H : Hp} (r : RepL c H ds vs) : EnvR c H (L2.start N vs) (startA N ds) := by
  unfold L2.start startA
  refine ⟨by simp [r.len], fun i d e => ?_⟩
  by_cases hi : i < ds.length
  · rw [List.getElem?_append_left (by simpa using hi), List.getElem?_map] at e
    rw [List.getElem?_append_left (by simpa [r.len] using hi), List.getElem?_map]
    cases e1 : ds[i]? with
    | none => rw [e1] at e; cases e
    | some d' =>
      rw [e1] at e
      cases e
      obtain ⟨v, e2, r2⟩ := r.get e1
      exact ⟨v, by rw [e2]; rfl, r2⟩
  · rw [List.getElem?_append_right (by simpa using hi), List.getElem?_replicate] at e
    split at e <;> cases e
theorem body_low {N : List Str} {H : Hp} {a : ATS} {ds : List D} {vs : List V} {L : Store} {R : AQ} {Q : VK} (r : RepL c H ds vs) (g : Good c L H) (pq : Pq c H R Q) (vc : a (fnEnds R) (startA N ds) L) : lowS c H a { nx := fun _ H' => Q .non H', rt := Q } (L2.start N vs) H :=
  ⟨startA N ds, L, fnEnds R, ⟨start_low r, g, .refl c H⟩, vc, ⟨fun env' L' σ' H' ⟨L0, sb, h⟩ s rl => pq .non L0 .non H' h s (rl.good.sub sb) (rep_non.mpr rfl), fun d L' v H' ⟨L0, sb, h⟩ s g' r' => pq d L0 v H' h s (g'.sub sb) r', fun _ _ _ _ h => h.elim, fun _ _ _ _ h => h.elim⟩⟩
end
section
variable {P : Program} {w : World} {K : PySem.W.Frag} {mg : Str → Option Value} {base : Heap} {c : AC K} {x m qual : Str} {st : Stmt} {N ps : List Str} {k : Nat} {asp : ASp} {C : Addr}
theorem spA_len {n : Nat} (hl : ∀ ds L R RX, asp ds L R RX → ds.length = n) : ∀ vs H Q E, spA c asp vs H Q E → vs.length = n := fun vs H Q E ⟨ds, L, R, RX, r, _, h, _⟩ => by rw [r.len]; exact hl ds L R RX h
theorem _root_.JW.DefAt.okA {a : ATS} (D : DefAt K mg x qual st [] ps) (S : FnScope N ps (defScope st)) (hl : ∀ ds L R RX, asp ds L R RX → ds.length = ps.length)
    (body : ∀ (f : Addr) (cdv : Value) (A : Around) (outer : List Env) (s : Shared) (H : Hp) (E : XK), Room k (A.deeper (envOfC qual (defScope st) s.heap.objs.size f cdv)) → ASs (cxOf CX0 P w K mg base N qual (defScope st) f cdv A outer s H E).nox c H (defBody st) a)
    (vc : ∀ ds L R RX, asp ds L R RX → a (fnEnds R) (startA N ds) L) : CallD P w K mg base CX0 (k + 1) x ps [] (spA c asp) :=
  D.ok S (spA_len hl) fun f cdv A outer s H vs Q E hr ⟨ds, L, R, RX, r, g, h, pq, px⟩ => ⟨_, body f cdv A outer s H E hr, body_low r g pq (vc ds L R RX h)⟩
theorem _root_.JW.DefAt.okAX {a : AX → ATS} (D : DefAt K mg x qual st [] ps) (S : FnScope N ps (defScope st)) (hl : ∀ ds L R RX, asp ds L R RX → ds.length = ps.length)
    (body : ∀ (f : Addr) (cdv : Value) (A : Around) (outer : List Env) (s : Shared) (H : Hp) (E : XK) (RX : AX), Px c H RX E → Room k (A.deeper (envOfC qual (defScope st) s.heap.objs.size f cdv)) → ASs (cxOf (L2N.CX P w) P w K mg base N qual (defScope st) f cdv A outer s H E) c H (defBody st) (a RX))
    (vc : ∀ ds L R RX, asp ds L R RX → a RX (fnEnds R) (startA N ds) L) : CallD P w K mg base (L2N.CX P w) (k + 1) x ps [] (spA c asp) :=
  D.okX S (spA_len hl) fun f cdv A outer s H vs Q E hr ⟨ds, L, R, RX, r, g, h, pq, px⟩ => ⟨_, body f cdv A outer s H E RX px hr, body_low r g pq (vc ds L R RX h)⟩
theorem _root_.JW.MethAt.okA {a : ATS} (D : MethAt K C m qual st ps) (S : FnScope N ps (defScope st)) (hl : ∀ ds L R RX, asp ds L R RX → ds.length = ps.length)
    (body : ∀ (f : Addr) (cdv : Value) (A : Around) (outer : List Env) (s : Shared) (H : Hp) (E : XK), Room k (A.deeper (envOfC qual (defScope st) s.heap.objs.size f cdv)) → ASs (cxOf CX0 P w K mg base N qual (defScope st) f cdv A outer s H E).nox c H (defBody st) a)
    (vc : ∀ ds L R RX, asp ds L R RX → a (fnEnds R) (startA N ds) L) : MethD P w K mg base CX0 (k + 1) C m ps [] (spA c asp) :=
  D.ok S (spA_len hl) fun f cdv A outer s H vs Q E hr ⟨ds, L, R, RX, r, g, h, pq, px⟩ => ⟨_, body f cdv A outer s H E hr, body_low r g pq (vc ds L R RX h)⟩
end
end AL
namespace AL
open PySem PySem.Spec PyProof.Rows L2 LamX JW
section
open PySem.SeqAt AutoSeq1 MeetsSeq MeetsSeq2 MeetsSeq3
variable {prog : Program} {w : World} {A : Around} {R : Result → Shared → Prop}
def TwoL (prog : Program) (w : World) (A : Around) (E : Value → Shared → Prop) (p q : Addr) (m : Nat) (f : Nat → Bool) (J : Shared → Prop) : Prop :=
  ∀ s0, J s0 → ∃ (xs ys : Array Value) (c1 c2 : Nat), s0.heap.get? p = some { cls := .type "list", data := .seq xs c1 } ∧ s0.heap.get? q = some { cls := .type "list", data := .seq ys c2 } ∧ xs.size = m ∧ ys.size = m ∧
    ∀ (i : Nat) (h1 : i < xs.size) (h2 : i < ys.size), wpAny (model prog w) A.in1 (eqBool xs[i] ys[i]) (fun r s' => r = f i ∧ J s') E s0
def opC (neg : Bool) : Int := if neg then 3 else 2
theorem loop_any (p q : Addr) (m : Nat) (f : Nat → Bool) (neg : Bool) (J : Shared → Prop) (tw : TwoL prog w A (fun e s' => R (.error e) s') p q m f J)
    (fin : ∀ s0 b, J s0 → b = (neg ^^ (List.range m).all f) → R (.ok (.ret (.bool b))) s0) (j : Nat) :
    ∀ i : Nat, m - i = j → i ≤ m → ((List.range m).all f = ((List.range m).drop i).all f) → ∀ s0, J s0 →
      wpAny (model prog w) A.in1 (Builtin.«list.__eq__.loop» ⟨[.ref p, .ref q, rawInt i, rawInt (opC neg)], []⟩) (GQ.FinOf prog w A R) (fun e s' => R (.error e) s') s0 := by
  induction j with
  | zero =>
    intro i hj hi ha s0 hJ
    obtain ⟨xs, ys, c1, c2, k1, k2, z1, z2, _⟩ := tw _ hJ
    have im : i = m := by omega
    subst im
    have hR := fin s0 (!neg) hJ (by rw [ha, List.drop_of_length_le (by simp)]; cases neg <;> rfl)
    obtain ⟨hp, g, d, tk, os⟩ := s0
    cases neg <;>
    · show wpAny _ _ (Builtin.«list.__eq__.loop» ⟨[.ref p, .ref q, rawInt i, rawInt _], []⟩) _ _ _
      simp only [opC] at *
      wp_walk using wpAny_loadPart' k1, wpAny_loadPart' k2
      have e1 : xs[((i : Nat) : Int).toNat]? = none := by simp [z1]
      have e2 : ys[((i : Nat) : Int).toNat]? = none := by simp [z2]
      rw [e1, e2]
      wp_walk using wpAny_loadPart' k1, wpAny_loadPart' k2
      first
        | show R (.ok (.ret (.bool (xs.size == ys.size)))) _
        | show R (.ok (.ret (.bool (xs.size != ys.size)))) _
      rw [z1, z2]
      simpa using hR
  | succ j ih =>
    intro i hj hi ha s0 hJ
    obtain ⟨xs, ys, c1, c2, k1, k2, z1, z2, turn⟩ := tw _ hJ
    have l1 : i < xs.size := by omega
    have l2 : i < ys.size := by omega
    have ht := turn i l1 l2
    have e1 : xs[((i : Nat) : Int).toNat]? = some xs[i] := by simp [l1]
    have e2 : ys[((i : Nat) : Int).toNat]? = some ys[i] := by simp [l2]
    have ec : ((i : Int) + 1) = ((i + 1 : Nat) : Int) := by omega
    have ed : (List.range m).drop i = i :: (List.range m).drop (i + 1) := by
      have l3 : i < (List.range m).length := by simp; omega
      have := List.drop_eq_getElem_cons l3
      simpa using this
    obtain ⟨hp, g, d, tk, os⟩ := s0
    cases neg <;>
    · simp only [opC] at *
      wp_walk using wpAny_loadPart' k1, wpAny_loadPart' k2
      rw [e1, e2]
      refine wpAny_bind (wpAny_mono ht (fun r s1 h1 => ?_) fun _ _ z => z)
      obtain ⟨hr, h1⟩ := h1
      subst hr
      cases hf : f i with
      | true =>
        have hrec := ih (i + 1) (by omega) (by omega) (by rw [ha, ed, List.all_cons, hf, Bool.true_and]) s1 h1
        obtain ⟨hp2, g2, d2, tk2, os2⟩ := s1
        wp_walk
        rw [ec]
        exact ⟨plainId_quiet plain_eq_loop _, codeAny_builtin entry_eq_loop (by
          rw [Around.under_plainId plain_eq_loop _]
          exact hrec)⟩
      | false =>
        obtain ⟨us, vs, d1, d2', k3, k4, z3, z4, _⟩ := tw _ h1
        have hR := fin s1 _ h1 rfl
        rw [ha, ed, List.all_cons, hf, Bool.false_and] at hR
        obtain ⟨hp2, g2, d2, tk2, os2⟩ := s1
        have l3 : i < us.size := by omega
        have l4 : i < vs.size := by omega
        have e3 : us[((i : Nat) : Int).toNat]? = some us[i] := by simp [l3]
        have e4 : vs[((i : Nat) : Int).toNat]? = some vs[i] := by simp [l4]
        wp_walk using wpAny_loadPart' k3, wpAny_loadPart' k4
        rw [e3, e4]
        wp_walk
        simpa using hR
theorem list_any (p q : Addr) (m : Nat) (f : Nat → Bool) (neg : Bool) (J : Shared → Prop) (tw : TwoL prog w A (fun e s' => R (.error e) s') p q m f J)
    (fin : ∀ s0 b, J s0 → b = (neg ^^ (List.range m).all f) → R (.ok (.ret (.bool b))) s0) {s0 : Shared} (hJ : J s0) :
    wpAny (model prog w) A.in1 ((if neg then Builtin.«list.__ne__» else Builtin.«list.__eq__») ⟨[.ref p, .ref q], []⟩) (GQ.FinOf prog w A R) (fun e s' => R (.error e) s') s0 := by
  obtain ⟨xs, ys, c1, c2, k1, k2, z1, z2, _⟩ := tw _ hJ
  have hrec := loop_any (A := A) (R := R) p q m f neg J tw fin _ 0 rfl (Nat.zero_le _) (by rw [List.drop_zero]) s0 hJ
  obtain ⟨hp, g, d, tk, os⟩ := s0
  have f3 := AutoSeq1.sub_list_list
  have hne : ¬ (xs.size != ys.size) = true := by simp [z1, z2]
  cases neg with
  | false =>
    rw [if_neg Bool.false_ne_true]
    wp_walk using wpAny_loadPart' k1, wpAny_loadPart' k2
    exact ⟨plainId_quiet plain_eq_loop _, codeAny_builtin entry_eq_loop (by
      rw [Around.under_plainId plain_eq_loop _]
      exact hrec)⟩
  | true =>
    rw [if_pos rfl]
    wp_walk using wpAny_loadPart' k1, wpAny_loadPart' k2
    exact ⟨plainId_quiet plain_eq_loop _, codeAny_builtin entry_eq_loop (by
      rw [Around.under_plainId plain_eq_loop _]
      exact hrec)⟩
theorem tup_any (p q : Addr) (xs ys : Array Value) (c1 c2 : Nat) (o1 o2 : Option Addr) (b1 b2 : Array (Option Value)) (f : Nat → Bool) (neg : Bool) (J : Shared → Prop)
    (turn : ∀ (i : Nat) (h1 : i < xs.size) (h2 : i < ys.size) s0, J s0 → wpAny (model prog w) A.in1 (eqBool xs[i] ys[i]) (fun r s' => r = f i ∧ J s') (fun e s' => R (.error e) s') s0)
    (fin : ∀ s0 b, J s0 → b = (neg ^^ ((List.range (min xs.size ys.size)).all f && xs.size == ys.size)) → R (.ok (.ret (.bool b))) s0) {s0 : Shared}
    (k1 : s0.heap.get? p = some { cls := .type "tuple", dict := o1, data := .seq xs c1, slots := b1 }) (k2 : s0.heap.get? q = some { cls := .type "tuple", dict := o2, data := .seq ys c2, slots := b2 }) (hJ : J s0) :
    wpAny (model prog w) A.in1 ((if neg then Builtin.«tuple.__ne__» else Builtin.«tuple.__eq__») ⟨[.ref p, .ref q], []⟩) (GQ.FinOf prog w A R) (fun e s' => R (.error e) s') s0 := by
  have f2 := AutoSeq1.sub_tuple_tuple
  have hZ : (xs.toList.zip ys.toList).length = min xs.size ys.size := by simp
  have hJ0 := hJ
  obtain ⟨hp, g, d, tk, os⟩ := s0
  cases neg
  case' false => rw [if_neg Bool.false_ne_true]
  case' true => rw [if_pos rfl]
  all_goals
    wp_walk using wpAny_loadPart' k1, wpAny_loadPart' k2, wpAny_forIn_list _ (fun rest b s' => b.1 = none ∧ J s' ∧ ∃ i, rest = (xs.toList.zip ys.toList).drop i ∧ i ≤ min xs.size ys.size ∧
      (List.range (min xs.size ys.size)).all f = ((List.range (min xs.size ys.size)).drop i).all f) _
    case turn =>
      rintro ⟨y, x⟩ rest b s' ⟨hb, hJ', i, hz, hi, ha⟩
      have lt : i < (xs.toList.zip ys.toList).length := by
        rcases Nat.lt_or_ge i (xs.toList.zip ys.toList).length with z | z
        · exact z
        · rw [List.drop_of_length_le z] at hz
          cases hz
      have h0 : i < min xs.size ys.size := hZ ▸ lt
      have h1 : i < xs.size := by omega
      have h2 : i < ys.size := by omega
      have hz' := hz.trans (List.drop_eq_getElem_cons lt)
      injection hz' with e1 e2
      have ey : y = xs[i] := by simpa using congrArg Prod.fst e1
      have ex : x = ys[i] := by simpa using congrArg Prod.snd e1
      subst ey ex
      have ed : (List.range (min xs.size ys.size)).drop i = i :: (List.range (min xs.size ys.size)).drop (i + 1) := by
        have l3 : i < (List.range (min xs.size ys.size)).length := by simpa using h0
        simpa using List.drop_eq_getElem_cons l3
      rw [ed, List.all_cons] at ha
      refine wpAny_bind (wpAny_mono (turn i h1 h2 s' hJ') (fun r s1 q1 => ?_) fun _ _ z => z)
      obtain ⟨hr, q1⟩ := q1
      subst hr
      cases hf : f i with
      | true =>
        rw [hf, Bool.true_and] at ha
        wp_walk
        exact ⟨rfl, q1, i + 1, e2, h0, ha⟩
      | false =>
        rw [hf, Bool.false_and] at ha
        wp_walk
        exact fin _ _ q1 (by rw [ha]; rfl)
    case fin =>
      rintro ⟨r1, r2⟩ s' ⟨hb, hJ', i, hz, hi, ha⟩
      simp only at hb
      subst hb
      have hge : min xs.size ys.size ≤ i := by
        rcases Nat.lt_or_ge i (xs.toList.zip ys.toList).length with z | z
        · have hz' := hz.trans (List.drop_eq_getElem_cons z)
          cases hz'
        · exact hZ ▸ z
      rw [List.drop_of_length_le (by simpa using hge)] at ha
      have hR := fin s' _ hJ' rfl
      rw [ha] at hR
      wp_walk
      simpa [Builtin.Tuple.tupleCompareSizes, bne] using hR
    case h =>
      exact ⟨rfl, hJ0, 0, rfl, Nat.zero_le _, rfl⟩
end
section
variable {prog : Program} {w : World} {A : Around} {E : Value → Shared → Prop} {s0 : Shared} {Q : Value → Shared → Prop}
theorem rc_list_any {p q : Addr} (m : Nat) (f : Nat → Bool) (neg : Bool) (J : Shared → Prop) (hu : A.units < cLine) (tw : TwoL prog w A E p q m f J) (fin : ∀ s1 b, J s1 → b = (neg ^^ (List.range m).all f) → Q (.bool b) s1) (hJ : J s0) :
    wpAny (model prog w) A (richCompare (if neg then .NotEq else .Eq) (.ref p) (.ref q)) Q E s0 := by
  obtain ⟨xs, ys, c1, c2, k1, k2, _, _, _⟩ := tw _ hJ
  have go := list_any (R := wants (fun v s' => v ≠ .notImplemented ∧ Q v s') E) p q m f neg J tw (fun s1 b h1 h2 => ⟨(fun z => nomatch z), fin s1 b h1 h2⟩) hJ
  cases neg with
  | false => exact wpAny_richCompare_same_room (op := .Eq) ⟨_, k1, rfl⟩ ⟨_, k2, rfl⟩ F.slot_list_eq (GQ.call_here F.slot_list_eq ⟨_, k1, rfl⟩ F.entry_list_eq (F.args_list_eq_2 _ _) go) hu
  | true => exact wpAny_richCompare_same_room (op := .NotEq) ⟨_, k1, rfl⟩ ⟨_, k2, rfl⟩ F.slot_list_ne (GQ.call_here F.slot_list_ne ⟨_, k1, rfl⟩ F.entry_list_ne (F.args_list_ne_2 _ _) go) hu
theorem rc_tup_any {p q : Addr} {xs ys : Array Value} (f : Nat → Bool) (neg : Bool) (J : Shared → Prop) (hu : A.units < cLine) (h1 : s0.heap.IsTuple p xs) (h2 : s0.heap.IsTuple q ys)
    (turn : ∀ (i : Nat) (h1 : i < xs.size) (h2 : i < ys.size) s1, J s1 → wpAny (model prog w) A.in1 (eqBool xs[i] ys[i]) (fun r s' => r = f i ∧ J s') E s1)
    (fin : ∀ s1 b, J s1 → b = (neg ^^ ((List.range (min xs.size ys.size)).all f && xs.size == ys.size)) → Q (.bool b) s1) (hJ : J s0) :
    wpAny (model prog w) A (richCompare (if neg then .NotEq else .Eq) (.ref p) (.ref q)) Q E s0 := by
  obtain ⟨⟨t1, o1, a1, b1⟩, k1, e1, n1, e2⟩ := id h1
  obtain ⟨⟨t2, o2, a2, b2⟩, k2, e3, n2, e4⟩ := id h2
  simp only at e1 e2 e3 e4
  subst e1 e2 e3 e4
  have go := tup_any (R := wants (fun v s' => v ≠ .notImplemented ∧ Q v s') E) p q xs ys n1 n2 o1 o2 b1 b2 f neg J turn (fun s1 b h1 h2 => ⟨(fun z => nomatch z), fin s1 b h1 h2⟩) k1 k2 hJ
  cases neg with
  | false => exact wpAny_richCompare_same_room (op := .Eq) ⟨_, k1, rfl⟩ ⟨_, k2, rfl⟩ F.slot_tuple_eq (GQ.call_here F.slot_tuple_eq ⟨_, k1, rfl⟩ F.entry_tuple_eq (F.args_tuple_eq_2 _ _) go) hu
  | true => exact wpAny_richCompare_same_room (op := .NotEq) ⟨_, k1, rfl⟩ ⟨_, k2, rfl⟩ F.slot_tuple_ne (GQ.call_here F.slot_tuple_ne ⟨_, k1, rfl⟩ F.entry_tuple_ne (F.args_tuple_ne_2 _ _) go) hu
end
end AL
namespace AL
open PySem PySem.Spec PyProof.Rows L2 LamX JW
mutual
def eqDD : D → D → Option Bool
  | .tup l, .tup m => (eqDL l m).map fun b => b && l.length == m.length
  | .tree t, .tree u => some (decide (t = u))
  | d, e => if flatB d && flatB e then some (eqV (vD d) (vD e)) else none
/-- item by item, as far as both go -/
def eqDL : List D → List D → Option Bool
  | d :: ds, e :: es => match eqDD d e, eqDL ds es with
    | some a, some b => some (a && b)
    | _, _ => none
  | _, _ => some true
end
mutual
def depD : D → Nat
  | .tup l => depDL l + 1
  | _ => 0
def depDL : List D → Nat
  | [] => 0
  | d :: ds => max (depD d) (depDL ds)
end
theorem eqDL_get : ∀ {l m : List D} {b : Bool}, eqDL l m = some b → ∃ f : Nat → Bool, (∀ (i : Nat) d e, l[i]? = some d → m[i]? = some e → eqDD d e = some (f i)) ∧ b = (List.range (min l.length m.length)).all f
  | [], m, b, h => by
    simp only [eqDL, Option.some.injEq] at h
    exact ⟨fun _ => true, fun i d e h1 => by simp at h1, by simp [← h]⟩
  | d :: ds, [], b, h => by
    simp only [eqDL, Option.some.injEq] at h
    exact ⟨fun _ => true, fun i d e _ h2 => by simp at h2, by simp [← h]⟩
  | d :: ds, e :: es, b, h => by
    simp only [eqDL] at h
    split at h
    · rename_i a b' h1 h2
      obtain ⟨f, hf, hb⟩ := eqDL_get h2
      refine ⟨fun i => match i with | 0 => a | i + 1 => f i, fun i d' e' g1 g2 => ?_, ?_⟩
      · cases i with
        | zero =>
          simp at g1 g2
          subst g1 g2
          exact h1
        | succ i =>
          simp at g1 g2
          exact hf i d' e' g1 g2
      · have := Option.some.inj h
        subst this
        rw [List.length_cons, List.length_cons, Nat.add_min_add_right, List.range_succ_eq_map, List.all_cons, List.all_map, hb]
        rfl
    · cases h
theorem depDL_get : ∀ {l : List D} {i : Nat} {d : D}, l[i]? = some d → depD d ≤ depDL l
  | [], i, d, h => by simp at h
  | x :: xs, 0, d, h => by
    simp at h
    subst h
    simp only [depDL]
    omega
  | x :: xs, i + 1, d, h => by
    have := depDL_get (l := xs) (i := i) (by simpa using h)
    simp only [depDL]
    omega
theorem ftn_fun {C : Addr} {H : Hp} {t u : T} {v : V} (h1 : Ftn C H t v) (h2 : Ftn C H u v) : t = u := by
  obtain ⟨a, dx, b, n, vs, rfl, e1, _⟩ := ftn_iff.mp h1
  obtain ⟨a2, dx2, b2, n2, vs2, ea, e2, _⟩ := ftn_iff.mp h2
  cases ea
  rw [e1] at e2
  have e3 := HO.ins.inj (Option.some.inj e2)
  have e4 : some (V.str (tx t)) = some (V.str (tx u)) := by rw [← fl_w (t := t) (b := b) (n := n), ← fl_w (t := u) (b := b2) (n := n2), e3.2.2]
  exact tx_inj (V.str.inj (Option.some.inj e4))
theorem eqV_self : ∀ {x : V}, flatV x = true → eqV x x = true
  | .non, _ => rfl
  | .bl b, _ => by simp [eqV]
  | .int i, _ => by simp [eqV]
  | .str z, _ => by simp [eqV]
  | .byt _, h => by cases h
  | .flt _, h => by cases h
  | .ref _, h => by cases h
  | .ty _, h => by cases h
section
variable {X : Cx} {c : AC X.K} {H : Hp} {pins : List (Addr × Obj)} {σ : L2.St} {s : Shared}
mutual
theorem eq_same (I : L2.Inv X pins σ H s) : ∀ (d e : D) (v : V) (b : Bool), Rep c H d v → Rep c H e v → eqDD d e = some b → b = true
  | .tup l, .tup m, v, b, r1, r2, h => by
    obtain ⟨p, vs, rfl, e1, rs⟩ := rep_tup.mp r1
    obtain ⟨q, ws, e, e2, rs2⟩ := rep_tup.mp r2
    cases e
    have : vs = ws := I.tuple_inj e1 e2
    subst this
    simp only [eqDD, Option.map_eq_some_iff] at h
    obtain ⟨b', h1, rfl⟩ := h
    have hl : l.length = m.length := by rw [← rs.len, ← rs2.len]
    rw [eqL_same I l m vs b' rs rs2 h1, hl]
    simp
  | .tree t, .tree u, v, b, r1, r2, h => by
    simp only [eqDD, Option.some.injEq] at h
    rw [← h, ftn_fun (rep_tree.mp r1) (rep_tree.mp r2)]
    simp
  | d, e, v, b, r1, r2, h => by
    by_cases hf : (flatB d && flatB e) = true
    · have hf' := Bool.and_eq_true_iff.mp hf
      obtain ⟨e1, f1⟩ := flat_low r1 hf'.1
      obtain ⟨e2, f2⟩ := flat_low r2 hf'.2
      have hs := eqV_self f1
      have hb : eqDD d e = some (eqV (vD d) (vD e)) := by
        unfold eqDD
        split
        · cases hf'.1
        · cases hf'.1
        · rw [if_pos hf]
      rw [hb, ← e1, ← e2] at h
      rw [hs] at h
      exact (Option.some.inj h).symm
    · have hn : ∀ l m, ¬ (d = .tup l ∧ e = .tup m) ∨ True := fun _ _ => .inr trivial
      cases d <;> cases e <;> first
        | (simp [eqDD, flatB] at h; done)
        | (exact absurd rfl hf)
        | (obtain ⟨p, vs, rfl, e1, rs⟩ := rep_tup.mp r1
           obtain ⟨q, ws, e, e2, rs2⟩ := rep_tup.mp r2
           cases e
           have : vs = ws := I.tuple_inj e1 e2
           subst this
           simp only [eqDD, Option.map_eq_some_iff] at h
           obtain ⟨b', h1, rfl⟩ := h
           rw [eqL_same I _ _ vs b' rs rs2 h1, ← rs.len, ← rs2.len]
           simp)
        | (simp only [eqDD, Option.some.injEq] at h
           rw [← h, ftn_fun (rep_tree.mp r1) (rep_tree.mp r2)]
           simp)
theorem eqL_same (I : L2.Inv X pins σ H s) : ∀ (l m : List D) (vs : List V) (b : Bool), RepL c H l vs → RepL c H m vs → eqDL l m = some b → b = true
  | [], m, vs, b, _, _, h => by simpa [eqDL] using h.symm
  | d :: ds, [], vs, b, _, _, h => by simpa [eqDL] using h.symm
  | d :: ds, e :: es, vs, b, r1, r2, h => by
    obtain ⟨v, ws, rfl, a1, a2⟩ := repL_cons.mp r1
    obtain ⟨v', ws', e1, b1, b2⟩ := repL_cons.mp r2
    injection e1 with e1 e2
    subst e1 e2
    simp only [eqDL] at h
    split at h
    · rename_i x y h1 h2
      have := Option.some.inj h
      rw [← this, eq_same I d e v x a1 b1 h1, eqL_same I ds es ws y a2 b2 h2]
      rfl
    · cases h
end
end
section
variable {X : Cx} {c : AC X.K} {k : Nat} {ps : List Str} {H : Hp} {σ : L2.St} {pins : List (Addr × Obj)}
abbrev MEq (X : Cx) (k : Nat) (ps : List Str) : Prop := MethD X.prog X.w X.K X.mg X.base CX0 k (cF X.K) "__eq__" ps [] (spEqF X.K)
theorem rcF_run (M : MEq X k ps) {A : Around} {s : Shared} {t u : T} {x y : V} {v w : Value} (sb : Sub X k A) (I : Inv X pins σ H s) (rx : RelV x v) (ry : RelV y w) (h1 : Ftn (cF X.K) H t x) (h2 : Ftn (cF X.K) H u y) :
    wpAny (model X.prog X.w) A (richCompare .Eq v w) (fun r s' => r = .bool (decide (t = u)) ∧ Inv X pins σ H s') X.xe s := by
  obtain ⟨a, dx, fs, rfl, ha⟩ := ftn_ins h1
  obtain ⟨b, dy, gs, rfl, hb⟩ := ftn_ins h2
  cases rx
  cases ry
  obtain ⟨f, fd, ds, hm, hbd, hd, F⟩ := M.ex
  cases hd
  obtain ⟨mA, J, _⟩ := ins_get I.hok ha
  obtain ⟨mB, J', _⟩ := ins_get I.hok hb
  obtain ⟨od, J, _⟩ := J.look
  obtain ⟨od', J', _⟩ := J'.look
  obtain ⟨m, hF⟩ := I.fr
  refine PySem.W.cmp_K (op := .Eq) (tb := .ref (cF X.K)) sb.room.units0 hF I.ok.mod.kin J J'.type (by simp [PySem.W.notFirst]) hm.at_ hm.fn ?_
  have hsp : spEqF X.K [.ref a, .ref b] H (fun v H' => v = .bl (decide (t = u)) ∧ H' = H) (fun _ _ _ => True) := ⟨_, _, t, u, rfl, h1, h2, rfl, rfl⟩
  have e0 : Env0 X.prog X.w X.K X.mg X.base A X.stack s H := by
    have e := I.env0
    exact ⟨sb.fr.trans e.frames, e.mod, e.bs, e.bsz, e.funs, e.frf, e.hok, e.bare⟩
  have hl : ([Value.ref a, Value.ref b] ++ []).length = ps.length := by
    rw [← F.len _ _ _ _ hsp]
    rfl
  refine wpAny_call (codeAny_mono (F.run A X.stack s H ⟨[.ref a, .ref b], []⟩ [.ref a, .ref b] [.ref a, .ref b] _ (fun _ _ _ => True) sb.room e0 (by
    have := hbd s [.ref a, .ref b] I.kIn hl
    simpa using this) (.cons rfl (.cons rfl .nil)) hsp) fun r s' hq => ?_)
  cases r with
  | error er => exact False.elim hq
  | ok fl =>
    cases fl with
    | ret z =>
      obtain ⟨x', H', I', rz, ez, eh⟩ := I.after hq
      subst ez eh
      cases rz
      exact ⟨rfl, I'⟩
    | next => exact False.elim hq
    | brk => exact False.elim hq
    | cont => exact False.elim hq
theorem sub_in1 {n : Nat} {A : Around} (s : Sub X (n + 1) A) : Sub X n A.in1 := s.in1
theorem eq_run (M : MEq X k ps) : ∀ (n : Nat) (d e : D) (b : Bool), depD d ≤ n → eqDD d e = some b → ∀ {A : Around} {s : Shared} {x y : V} {v w : Value}, Sub X (k + 2 + n) A → Inv X pins σ H s → RelV x v → RelV y w → Rep c H d x → Rep c H e y →
    wpAny (model X.prog X.w) A (eqBool v w) (fun r s' => r = b ∧ Inv X pins σ H s') X.xe s := by
  intro n
  induction n with
  | zero =>
    intro d e b hd h A s x y v w sb I rx ry r1 r2
    by_cases hf : (flatB d && flatB e) = true
    · have hf' := Bool.and_eq_true_iff.mp hf
      obtain ⟨e1, f1⟩ := flat_low r1 hf'.1
      obtain ⟨e2, f2⟩ := flat_low r2 hf'.2
      have hb : eqDD d e = some (eqV (vD d) (vD e)) := by
        unfold eqDD
        split
        · cases hf'.1
        · cases hf'.1
        · rw [if_pos hf]
      rw [hb] at h
      have hv := eqAt_V (A := A) (s := s) rx ry f1 f2
      rw [e1, e2, Option.some.inj h] at hv
      exact hv X.prog X.w X.xe _ ⟨rfl, I⟩
    · unfold eqDD at h
      split at h
      · simp only [depD] at hd
        omega
      · rename_i t u
        have h1 := rep_tree.mp r1
        have h2 := rep_tree.mp r2
        have hb := Option.some.inj h
        obtain ⟨p, dx, fs, rfl, _⟩ := ftn_ins h1
        obtain ⟨q, dy, gs, rfl, _⟩ := ftn_ins h2
        cases rx
        cases ry
        by_cases hpq : p = q
        · subst hpq
          have : t = u := ftn_fun h1 h2
          exact SeqAt.EqAt.same (A := A) (s := s) (.ref p) X.prog X.w X.xe _ ⟨by rw [← hb]; simp [this], I⟩
        · refine GQ.eqBool_refG hpq (wpAny_mono (rcF_run (x := .ref p) (y := .ref q) M (sb.mono (by omega)) I rfl rfl h1 h2) (fun r s' z => ?_) fun _ _ z => z)
          obtain ⟨er, I'⟩ := z
          exact ⟨_, er, hb, I'⟩
      · rw [if_neg hf] at h
        cases h
  | succ n ih =>
    intro d e b hd h A s x y v w sb I rx ry r1 r2
    by_cases h0 : depD d ≤ n
    · exact ih d e b h0 h (sb.mono (by omega)) I rx ry r1 r2
    · cases d with
      | tup l =>
        cases e with
        | tup m =>
          obtain ⟨p, vs, rfl, e1, rs⟩ := rep_tup.mp r1
          obtain ⟨q, ws, rfl, e2, rs2⟩ := rep_tup.mp r2
          cases rx
          cases ry
          by_cases hpq : p = q
          · subst hpq
            exact SeqAt.EqAt.same (A := A) (s := s) (.ref p) X.prog X.w X.xe _ ⟨(eq_same I _ _ _ b r1 r2 h).symm, I⟩
          · refine GQ.eqBool_refG hpq ?_
            simp only [eqDD, Option.map_eq_some_iff] at h
            obtain ⟨b', h1, hb⟩ := h
            obtain ⟨f, hf, hb'⟩ := eqDL_get h1
            obtain ⟨its, rv, t1, _⟩ := I.tuple e1
            obtain ⟨its2, rv2, t2, _⟩ := I.tuple e2
            have z1 : its.toArray.size = l.length := by rw [List.size_toArray, ← rv.length, rs.len]
            have z2 : its2.toArray.size = m.length := by rw [List.size_toArray, ← rv2.length, rs2.len]
            have hd' : depDL l ≤ n := by
              simp only [depD] at hd
              omega
            refine rc_tup_any f false (fun s' => Inv X pins σ H s') sb.room.units0 t1 t2 (fun i i1 i2 s1 I1 => ?_) (fun s1 b1 I1 eb => ⟨b1, rfl, ?_, I1⟩) I
            · have j1 : i < l.length := by omega
              have j2 : i < m.length := by omega
              have g1 := List.getElem?_eq_getElem j1
              have g2 := List.getElem?_eq_getElem j2
              obtain ⟨x1, x2, x3⟩ := rs.get g1
              obtain ⟨y1, y2, y3⟩ := rs2.get g2
              obtain ⟨u1, u2, u3⟩ := rv.get x2
              obtain ⟨w1, w2, w3⟩ := rv2.get y2
              have q1 : its.toArray[i] = u1 := by
                have j3 : i < its.length := by simpa using i1
                rw [List.getElem?_eq_getElem j3] at u2
                simpa using u2
              have q2 : its2.toArray[i] = w1 := by
                have j3 : i < its2.length := by simpa using i2
                rw [List.getElem?_eq_getElem j3] at w2
                simpa using w2
              rw [q1, q2]
              exact ih _ _ _ (Nat.le_trans (depDL_get g1) hd') (hf i _ _ g1 g2) (sub_in1 sb) I1 u3 w3 x3 y3
            · rw [eb, z1, z2, ← hb, hb', Bool.false_xor]
        | _ => simp [eqDD, flatB] at h
      | _ => exact absurd (Nat.zero_le _) h0
theorem items_run (M : MEq X k ps) {n : Nat} {l m : List D} (hd : depDL l ≤ n) {f : Nat → Bool} (hf : ∀ (i : Nat) d e, l[i]? = some d → m[i]? = some e → eqDD d e = some (f i)) {A : Around} (sb : Sub X (k + 2 + (n + 1)) A) {vs ws : List V} {its its2 : List Value}
    (rs : RepL c H l vs) (rs2 : RepL c H m ws) (rv : Vals vs its) (rv2 : Vals ws its2) (i : Nat) (i1 : i < its.toArray.size) (i2 : i < its2.toArray.size) {s1 : Shared} (I1 : Inv X pins σ H s1) :
    wpAny (model X.prog X.w) A.in1 (eqBool its.toArray[i] its2.toArray[i]) (fun r s' => r = f i ∧ Inv X pins σ H s') X.xe s1 := by
  have j1 : i < l.length := by
    have := i1
    rw [List.size_toArray, ← rv.length, rs.len] at this
    exact this
  have j2 : i < m.length := by
    have := i2
    rw [List.size_toArray, ← rv2.length, rs2.len] at this
    exact this
  have g1 := List.getElem?_eq_getElem j1
  have g2 := List.getElem?_eq_getElem j2
  obtain ⟨x1, x2, x3⟩ := rs.get g1
  obtain ⟨y1, y2, y3⟩ := rs2.get g2
  obtain ⟨u1, u2, u3⟩ := rv.get x2
  obtain ⟨w1, w2, w3⟩ := rv2.get y2
  have q1 : its.toArray[i] = u1 := by
    have j3 : i < its.length := by simpa using i1
    rw [List.getElem?_eq_getElem j3] at u2
    simpa using u2
  have q2 : its2.toArray[i] = w1 := by
    have j3 : i < its2.length := by simpa using i2
    rw [List.getElem?_eq_getElem j3] at w2
    simpa using w2
  rw [q1, q2]
  exact eq_run M n _ _ _ (Nat.le_trans (depDL_get g1) hd) (hf i _ _ g1 g2) (sub_in1 sb) I1 u3 w3 x3 y3
def eqSq (neg : Bool) (l m : List D) (L : Store) (Q : AQ) : Prop := ∃ b, eqDL l m = some b ∧ depDL l ≤ 70 ∧ Q (.bl (neg ^^ (b && l.length == m.length))) L
def eqG (neg : Bool) : D → D → Store → AQ → Prop
  | .ref p, .ref q, L, Q => ∃ l m, L p = some (.lst l) ∧ L q = some (.lst m) ∧ eqSq neg l m L Q
  | .tup l, .tup m, L, Q => eqSq neg l m L Q
  | d, e, L, Q => eqD neg d e L Q
def rSq (neg : Bool) (c : AC X.K) : R2 := fun x y H Q => ∃ p q vs ws l m b, x = .ref p ∧ y = .ref q ∧ RepL c H l vs ∧ RepL c H m ws ∧ eqDL l m = some b ∧ depDL l ≤ 70 ∧ ((H p = some (.lst vs) ∧ H q = some (.lst ws)) ∨ (SqT X.K H p vs ∧ SqT X.K H q ws)) ∧ Q (.bl (neg ^^ (b && l.length == m.length))) H
theorem op_sq (M : MEq X k ps) (neg : Bool) (hr : Room (k + 73) X.A) : OpR X (fun a b => richCompare (if neg then .NotEq else .Eq) a b) (rSq neg c) := by
  intro pins s σ H x y v u Q I rx ry h
  obtain ⟨p, q, vs, ws, l, m, b, rfl, rfl, rs, rs2, h1, hd, ho, hq⟩ := h
  cases rx
  cases ry
  obtain ⟨f, hf, hb⟩ := eqDL_get h1
  have sb : Sub X (k + 2 + (70 + 1)) X.A := ⟨hr, rfl⟩
  have fin : ∀ {s1 : Shared} {b1 : Bool}, Inv X pins σ H s1 → b1 = (neg ^^ (b && l.length == m.length)) → EP X pins σ Q (.bool b1) s1 := fun I1 e => by
    subst e
    exact ⟨.bl _, H, I1, rfl, hq⟩
  rcases ho with ⟨e1, e2⟩ | ⟨e1, e2⟩
  · obtain ⟨its, rv, ⟨o1, c1, o2, o3, o4, o5⟩, _⟩ := I.list (SqL.of e1)
    obtain ⟨its2, rv2, _, _⟩ := I.list (SqL.of e2)
    by_cases hlm : l.length = m.length
    · refine rc_list_any l.length f neg (fun s' => Inv X pins σ H s') sb.room.units0 (fun s0 I0 => ?_) (fun s1 b1 I1 eb => fin I1 ?_) I
      · obtain ⟨z, us, n1, r1, k1⟩ := I0.hok p _ e1
        obtain ⟨z2, us2, n2, r2, k2⟩ := I0.hok q _ e2
        exact ⟨us.toArray, us2.toArray, n1, n2, k1, k2, by rw [List.size_toArray, ← r1.length, rs.len], by rw [List.size_toArray, ← r2.length, rs2.len, hlm], fun i i1 i2 => items_run M hd hf sb rs rs2 r1 r2 i i1 i2 I0⟩
      · rw [eb, hb, hlm, Nat.min_self]
        simp
    · obtain ⟨z, us, n1, r1, k1⟩ := I.hok p _ e1
      obtain ⟨z2, us2, n2, r2, k2⟩ := I.hok q _ e2
      have hne : (us.toArray.size != us2.toArray.size) = true := by
        rw [List.size_toArray, List.size_toArray, ← r1.length, ← r2.length, rs.len, rs2.len]
        simpa using hlm
      have hf0 : (l.length == m.length) = false := by simpa using hlm
      cases neg with
      | false => exact SeqAt.RcAt.lists_lengths ⟨_, k1, rfl, n1, rfl⟩ ⟨_, k2, rfl, n2, rfl⟩ hne sb.room.units0 _ _ _ _ (fin I (by rw [hf0]; simp))
      | true => exact SeqAt.RcNeAt.lists_lengths ⟨_, k1, rfl, n1, rfl⟩ ⟨_, k2, rfl, n2, rfl⟩ hne sb.room.units0 _ _ _ _ (fin I (by rw [hf0]; simp))
  · obtain ⟨its, rv, t1, _⟩ := I.tuple e1
    obtain ⟨its2, rv2, t2, _⟩ := I.tuple e2
    have z1 : its.toArray.size = l.length := by rw [List.size_toArray, ← rv.length, rs.len]
    have z2 : its2.toArray.size = m.length := by rw [List.size_toArray, ← rv2.length, rs2.len]
    refine rc_tup_any f neg (fun s' => Inv X pins σ H s') sb.room.units0 t1 t2 (fun i i1 i2 s1 I1 => items_run M hd hf sb rs rs2 rv rv2 i i1 i2 I1) (fun s1 b1 I1 eb => fin I1 ?_) I
    rw [eb, z1, z2, hb]
theorem eqG_low {neg : Bool} {r1 : R2} (h1 : LowR2 c r1 (eqD neg)) : LowR2 c (fun x y H Q => r1 x y H Q ∨ rSq neg c x y H Q) (eqG neg) := by
  intro x y H Q d e L R rx ry g h pq
  unfold eqG at h
  split at h
  · obtain ⟨l, m, e1, e2, b, h2, h3, h4⟩ := h
    obtain ⟨vs, e3, rs⟩ := good_lst g e1
    obtain ⟨ws, e4, rs2⟩ := good_lst g e2
    exact .inr ⟨_, _, vs, ws, l, m, b, rep_ref.mp rx, rep_ref.mp ry, rs, rs2, h2, h3, .inl ⟨e3, e4⟩, pq.here h4 g (rep_bl.mpr rfl)⟩
  · obtain ⟨b, h2, h3, h4⟩ := h
    obtain ⟨p, vs, rfl, e3, rs⟩ := rep_tup.mp rx
    obtain ⟨q, ws, rfl, e4, rs2⟩ := rep_tup.mp ry
    exact .inr ⟨p, q, vs, ws, _, _, b, rfl, rfl, rs, rs2, h2, h3, .inr ⟨e3, e4⟩, pq.here h4 g (rep_bl.mpr rfl)⟩
  · exact .inl (h1 x y H Q d e L R rx ry g h pq)
theorem aop_eqG (M : MEq X k ps) (hr : Room (k + 73) X.A) (hu : X.A.units + 64 < cLine) : AOp X c (compareOp .Eq) (eqG false) := by
  obtain ⟨r, h1, h2⟩ := (aop_eq (c := c) M (hr.mono (by omega)) hu).ex
  exact .mk' (h1.or (op_sq M false hr)) (eqG_low h2)
theorem aop_neG (cl : ClsF X.K X.mg) (M : MEq X k ps) (hr : Room (k + 73) X.A) (hu : X.A.units + 64 < cLine) : AOp X c (compareOp .NotEq) (eqG true) := by
  obtain ⟨r, h1, h2⟩ := (aop_ne (c := c) cl M (hr.mono (by omega)) hu).ex
  exact .mk' (h1.or (op_sq M true hr)) (eqG_low h2)
end
end AL
namespace AL
open PySem PySem.Spec PyProof.Rows L2 LamX JW
section
variable {X : Cx} {c : AC X.K} {H0 : Hp} {e : Expr} {a : ATE} {pos : Pos} {k : Nat} {f : Str}
theorem av (i : Nat) {x : Str} (hN : X.N[i]? = some x := by rfl) (hv : Vis X.env.scope x := by first | exact Or.inl rfl | exact Or.inr (Or.inl rfl) | exact Or.inr (Or.inr rfl)) (hd : (x == ("__debug__" : Str)) = false := by decide) (hcd : (x == ("__classdict__" : Str)) = false := by decide) : AE X c H0 (.Name x pos) (aVar i) := ae_var hN hv hd hcd
theorem ae_propG (g : T → D) {fV : T → V} (hg : ∀ H t, Rep c H (g t) (fV t)) (cl : Cls X.K (cF X.K)) (M : PropD X.prog X.w X.K X.mg X.base CX0 k (cF X.K) f (spV X.K fV)) (hr : Room (k + 1) X.A) (he : AE X c H0 e a) (hab : attributeBase e f X.env (eval e X.env) = eval e X.env) : AE X c H0 (.Attribute e f pos) (aProp g a) := ae_prop cl M hg hr he hab
def asVia (t : ATS) : ATS := fun D env L => ∃ R : En → Store → Prop, t { D with nx := R } env L ∧ ∀ e l, R e l → D.nx e l
theorem as_via {st : Stmt} {t : ATS} (h : AS X c H0 st t) : AS X c H0 st (asVia t) := by
  refine h.imp fun D σ H ⟨env, L, R, rl, ⟨N, h1, h2⟩, er⟩ => ?_
  exact ⟨env, L, { R with nx := N }, rl, h1, ⟨fun e l σ' H' r s rl' => er.nx e l σ' H' (h2 e l r) s rl', er.rt, er.bk, er.ct⟩⟩
def aPar3 (i j l : Nat) (as : ATA) : ATS := fun D env L => as env L fun ds L1 => match ds with
  | [d, e, f] => D.nx (((env.set i (some d)).set j (some e)).set l (some f)) L1
  | _ => False
def agSub (a b : ATE) : ATG := fun d env L Q => a env L fun x L1 => b env L1 fun i L2 => refD x fun p => intD i fun k => ∃ l j, L2 p = some (.lst l) ∧ ixN l.length k = some j ∧ Q env (sput L2 p (.lst (l.set j d)))
theorem ag_sub {o i : Expr} {ao ai : ATE} (ho : AE X c H0 o ao) (hi : AE X c H0 i ai)
    (ha : ∀ v, assign (.Subscript o i pos) X.env v = (do
      let ov ← holding [v] (eval o X.env)
      let iv ← holding [v, ov] (eval i X.env)
      standAt pos
      holding [v, ov, iv] (setItem ov iv v)
      release [v, ov, iv] []) := by intro _; rfl) : AG X c H0 (.Subscript o i pos) (agSub ao ai) := by
  refine (pg_sub ho hi set_list ha).imp fun v σ H Q ⟨d, env, L, R, r, rl, h, pq⟩ => ?_
  refine ⟨env, L, _, rl, h, fun x L1 y H1 q1 s1 g1 r1 => ⟨env, L1, _, rl.step s1 g1, q1, fun z L2 w H2 q2 s2 g2 r2 => ?_⟩⟩
  obtain ⟨p, rfl, q2⟩ := ref_low (r1.fr s2) q2
  obtain ⟨k, rfl, l, j, e1, e2, q2⟩ := int_low r2 q2
  obtain ⟨ws, e3, rs⟩ := good_lst g2 e1
  have f3 : Fr c H2 (upd H2 p (.lst (ws.set j v))) := .put e3 fun z => z
  obtain ⟨g3, _⟩ := g2.put (m' := .lst (l.set j d)) e1 (.lst (ws.set j v)) ⟨_, upd_same, (rs.set j (r.fr (s1.trans s2))).fr f3⟩
  exact ⟨p, ws, k, j, rfl, rfl, e3, by rw [rs.len]; exact e2, pq env _ σ _ q2 ((s1.trans s2).trans f3) (rl.step ((s1.trans s2).trans f3) g3)⟩
end
section
variable {X : Cx} {c : AC X.K} {H0 : Hp} {e f g : Expr} {a : ATE} {as : ATA} {pos : Pos}
theorem as_par3 {i j l : Nat} {x y z : Str} {px py pz pt pos : Pos} {kt k2 pt2} (hc : X.calm = true) (hN : X.N.Nodup) (hi : X.N[i]? = some x) (hj : X.N[j]? = some y) (hl : X.N[l]? = some z) (hij : i ≠ j) (hil : i ≠ l) (hjl : j ≠ l)
    (hx : X.env.scope.names.lookup x = some .local) (hy : X.env.scope.names.lookup y = some .local) (hz : X.env.scope.names.lookup z = some .local) (ha : AA X c H0 [e, f, g] as)
    (hw : swappedStores [.Tuple [.Name x px, .Name y py, .Name z pz] kt pt] (.Tuple [e, f, g] k2 pt2) X.env = pure (some [x, y, z]))
    (hs : swapsWithSole [.Tuple [.Name x px, .Name y py, .Name z pz] kt pt] (.Tuple [e, f, g] k2 pt2) pos.line X.env = pure false := by rfl) :
    AS X c H0 (.Assign [.Tuple [.Name x px, .Name y py, .Name z pz] kt pt] (.Tuple [e, f, g] k2 pt2) pos) (aPar3 i j l as) := by
  refine (ps_par3 hc hN hi hj hl hij hil hjl hx hy hz ha hw hs).imp fun D σ H ⟨env, L, R, rl, h, er⟩ => ?_
  refine ⟨env, L, _, rl, h, fun ds L1 vs H1 q s g1 r => ?_⟩
  split at q
  · rename_i d1 d2 d3
    obtain ⟨u, rs, rfl, r1, r2⟩ := repL_cons.mp r
    obtain ⟨v, w, rfl, r3, r4⟩ := repL_two r2
    exact ⟨u, v, w, rfl, er.nx _ L1 _ H1 q s ⟨(((rl.env.fr s).set i r1).set j r3).set l r4, g1, rl.fr.trans s⟩⟩
  · exact q.elim
def negD : D → Store → AQ → Prop
  | .int i, L, Q => Q (.int (-i)) L
  | _, _, _ => False
theorem ae_neg (h : AE X c H0 e a) : AE X c H0 (.UnaryOp .USub e pos) (aUn negD a) := by
  refine ae_un (f' := negD) un_neg (fun x H Q d L R rx g q pq => ?_) h
  unfold negD at q
  split at q
  · rename_i i
    exact ⟨i, rep_int.mp rx, pq.here q g (rep_int.mpr rfl)⟩
  · exact q.elim
end
theorem law_low {K : PySem.W.Frag} {c : AC K} {H : Hp} {a : ATS} {p : Addr} {ns : List Int} {N : List Str} {Q : VK} (hs : c.scr = some (p, ns)) (hl : ns.length ≤ 63) (hS : SqL K H p (ns.map V.int)) (hT : Tabs c.TT H) (k : ∀ H', Q (.bl true) H')
    (vc : a (fnEnds fun d _ => d = .bl true) (startA N [.scr]) law0) : lowS c H a { nx := fun _ H' => Q .non H', rt := Q } (L2.start N [.ref p]) H :=
  body_low (.one (rep_scr.mpr ⟨p, ns, hs, rfl⟩)) (good_law hs hl hS hT) (fun d L' v H' e s g r => by
    subst e
    rw [rep_bl.mp r]
    exact k H') vc
def outD (t : T) (L : Store) (Q : AQ) (RX : AX) : Prop :=
  (5000 < t.size → RX "TooLarge" [("pieces", .int (t.size : Nat))] L) ∧ (t.size ≤ 5000 → 120 < t.dep → RX "TooDeep" [("basins", .int (t.dep : Nat))] L) ∧ (t.size ≤ 5000 → t.dep ≤ 120 → Q (.tree t) L)
def noX : AX := fun _ _ _ => False
theorem px_no {K : PySem.W.Frag} {c : AC K} {H : Hp} {E : XK} : Px c H noX E := fun _ _ _ _ _ h => h.elim
end AL
namespace AL
open PySem PySem.Spec PyProof.Rows L2 LamX JW
theorem perm_tx : ∀ {ys zs : List Str}, ys.Perm zs → ∀ {l : List T}, zs = l.map tx → ∃ us : List T, us.Perm l ∧ ys = us.map tx := by
  intro ys zs p
  induction p with
  | nil =>
    intro l e
    cases l with
    | nil => exact ⟨[], .refl _, rfl⟩
    | cons t r => cases e
  | cons x p ih =>
    intro l e
    cases l with
    | nil => cases e
    | cons t r =>
      cases e
      obtain ⟨us, p1, e1⟩ := ih rfl
      exact ⟨t :: us, p1.cons t, by rw [e1]; rfl⟩
  | swap x y zs =>
    intro l e
    match l, e with
    | t :: u :: r, e =>
      cases e
      exact ⟨u :: t :: r, .swap t u r, rfl⟩
  | trans p q ih1 ih2 =>
    intro l e
    obtain ⟨us, p1, e1⟩ := ih2 e
    obtain ⟨vs, p2, e2⟩ := ih1 e1
    exact ⟨vs, p2.trans p1, e2⟩
theorem rising_srt : ∀ (l : List T) (t : T), risingS (tx t) (l.map tx) = true → Srt (t :: l)
  | [], t, _ => List.pairwise_cons.mpr ⟨fun _ h => absurd h List.not_mem_nil, List.Pairwise.nil⟩
  | u :: l, t, h => by
    have h' : (!ltCps (tx u).cps.toList (tx t).cps.toList && risingS (tx u) (l.map tx)) = true := h
    rw [Bool.and_eq_true, Bool.not_eq_true', ltCps_eq] at h'
    have r := rising_srt l u h'.2
    have hu : tle t u = true := by
      unfold tle
      have e1 : (tx u).cps.toList = u.codes := by unfold tx; rfl
      have e2 : (tx t).cps.toList = t.codes := by unfold tx; rfl
      rw [← e1, ← e2, h'.1]
      rfl
    refine List.pairwise_cons.mpr ⟨fun v hv => ?_, r⟩
    rcases List.mem_cons.mp hv with e | e
    · rw [e]; exact hu
    · exact tle_trans _ _ _ hu ((List.pairwise_cons.mp r).1 v e)
theorem sorted_tx {l : List T} {ys : List Str} (p : ys.Perm (l.map tx)) (h : sortedS ys = true) : ys = (sortT l).map tx := by
  obtain ⟨us, p1, rfl⟩ := perm_tx p rfl
  have : Srt us := by
    cases us with
    | nil => exact List.Pairwise.nil
    | cons t r => exact rising_srt r t h
  rw [sortT_eq p1 this]
def dtx (t : T) : D := .str (tx t)
theorem dtx_map (l : List T) : l.map dtx = (l.map tx).map D.str := by rw [List.map_map]; rfl
theorem joined {l : List T} (h : sizeL l ≤ 5000) : (((sortT l).map tx).map (·.length)).sum + ((sortT l).map tx).length * ("" : Str).length ≤ 16777216 := by
  have e : ("" : Str).length = 0 := rfl
  have h1 := codesL_len (sortT l)
  rw [sizeL_perm (sortT_perm l)] at h1
  rw [lens_tx, e]
  omega
theorem joinedS {l : List T} (h : sizeL l ≤ 5000) : (Txt.join "" ((sortT l).map tx)).length ≤ 10000 := by
  have h1 := codesL_len (sortT l)
  rw [sizeL_perm (sortT_perm l)] at h1
  rw [join_tx, SX.S_len]
  omega
theorem sizeL_canon (l : List T) : sizeL (l.map T.canon) = sizeL l := by
  rw [sizeL_sum, sizeL_sum, List.map_map, List.map_congr_left (f := T.size ∘ T.canon) fun t _ => canon_size t]
theorem depDL_map {α : Type} {f : α → D} (h : ∀ a, depD (f a) = 0) : ∀ l : List α, depDL (l.map f) = 0
  | [] => rfl
  | a :: l => by
    show max (depD (f a)) (depDL (l.map f)) = 0
    rw [h a, depDL_map h l]
    rfl
theorem eqDL_nil : ∀ l : List D, eqDL l [] = some true
  | [] => by simp [eqDL]
  | _ :: _ => by simp [eqDL]
theorem eqSq_nil {neg : Bool} {l : List D} {L : Store} {Q : AQ} (h : depDL l ≤ 70) (q : Q (.bl (neg ^^ (l.length == 0))) L) : eqSq neg l [] L Q :=
  ⟨true, eqDL_nil l, h, by rw [Bool.true_and]; exact q⟩
theorem cutD_take {α : Type} {f : α → D} {l : List α} {i : Int} {k : Nat} (h : i = (k : Nat)) : cutD (l.map f) none (some i) = (l.take k).map f := by
  subst h
  unfold cutD
  rw [HT.sIx_nat, HT.sIx_none, List.drop_zero, Nat.sub_zero, List.map_take, List.take_eq_take_iff]
  omega
theorem cutD_drop {α : Type} {f : α → D} {l : List α} {i : Int} {k : Nat} (h : i = (k : Nat)) : cutD (l.map f) (some i) none = (l.drop k).map f := by
  subst h
  unfold cutD
  rw [HT.sIx_nat, HT.sIx_none, List.map_drop]
  by_cases e : k ≤ (l.map f).length
  · rw [Nat.min_eq_left e]
    exact List.take_of_length_le (by rw [List.length_drop]; omega)
  · rw [Nat.min_eq_right (by omega), List.drop_of_length_le (Nat.le_refl _), List.drop_of_length_le (by omega)]
    simp
def atVia (t : ATT) : ATT := fun env L Q => ∃ R : Bool → Store → Prop, t env L R ∧ ∀ k l, R k l → Q k l
section
variable {X : Cx} {c : AC X.K} {H0 : Hp} {e : Expr} {t : ATT}
theorem at_via (ha : AT X c H0 e t) : AT X c H0 e (atVia t) := by
  refine ha.imp fun σ H Q ⟨env, L, R, rl, ⟨N, h1, h2⟩, pq⟩ => ?_
  exact ⟨env, L, N, rl, h1, fun k L1 H1 q s1 g1 => pq _ _ _ (h2 k L1 q) s1 g1⟩
end
end AL
namespace L2
open PySem PySem.Spec PyProof.Rows JW
section
variable {X : Cx} {CX : CXT} {k : Nat} {ps : List Str} {sp : Sp} {dvs : List V} {E : XK} {x : Str} {p pos : Pos} {e : Expr} {es : List Expr} {t : TA} {a b : Expr} {ta tb : TE} {tA : TT}
theorem PSsT.nox {st : List Stmt} {t : TS} (h : PSsT X.nox st t) : PSsT X st t := fun pins s σ H D h0 I hw =>
  wpAny_mono (h pins s σ H D h0 (I.wish _) hw) (fun _ _ q => q.unwish) fun _ _ z => False.elim z
end
end L2
namespace AL
open PySem PySem.Spec PyProof.Rows L2 LamX JW
section
variable (X : Cx) (c : AC X.K) (H0 : Hp)
end
section
variable {X : Cx} {c : AC X.K} {H0 : Hp} {e f g : Expr} {es : List Expr} {a b : ATE} {as : ATA} {pos p : Pos} {t : ATT} {st : Stmt} {rest : List Stmt} {s1 s2 : ATS} {k : Nat} {ps : List Str} {x : Str} {asp : ASp}
end
section
variable {P : Program} {w : World} {K : PySem.W.Frag} {mg : Str → Option Value} {base : Heap} {c : AC K} {x m qual : Str} {st : Stmt} {N ps : List Str} {k : Nat} {asp : ASp}
end
end AL
namespace JW
open PySem PySem.Spec PyProof.Rows
theorem jts_mem : ∀ {t : T}, decide (111 ∈ t.codes) = decide (0 < t.jts) := by
  intro t
  revert t
  apply T.ind'
  · decide
  · intro l ih
    have hl : ∀ l : List T, (∀ t ∈ l, decide (111 ∈ t.codes) = decide (0 < t.jts)) → (111 ∈ codesL l ↔ 0 < jtsL l) := by
      intro l
      induction l with
      | nil => exact fun _ => ⟨fun h => absurd h List.not_mem_nil, fun h => absurd h (Nat.lt_irrefl 0)⟩
      | cons t l ih =>
        intro h
        have h1 : 111 ∈ t.codes ↔ 0 < t.jts := by simpa using h t List.mem_cons_self
        have h2 := ih fun u hu => h u (List.mem_cons_of_mem _ hu)
        show 111 ∈ t.codes ++ codesL l ↔ 0 < t.jts + jtsL l
        rw [List.mem_append, h1, h2]
        omega
    have h := hl l ih
    have e : 111 ∈ (T.bas l).codes ↔ 111 ∈ codesL l := by
      show 111 ∈ 40 :: (codesL l ++ [41]) ↔ _
      simp
    show decide (111 ∈ (T.bas l).codes) = decide (0 < jtsL l)
    exact decide_eq_decide.mpr (e.trans h)
theorem jts_of_mem {t : T} {l : List T} (h : jtsL l = 0) (ht : t ∈ l) : t.jts = 0 := by
  induction l with
  | nil => cases ht
  | cons u l ih =>
    have e : u.jts + jtsL l = 0 := h
    rcases List.mem_cons.mp ht with e1 | e1
    · rw [e1]; omega
    · exact ih (by omega) e1
theorem in_o (t : T) : (!(Builtin.Str.occurrences (tx t) ("o" : Str) 0 (tx t).length 1).isEmpty) = opn t := by
  have e2 : ("o" : Str) = ⟨#[111]⟩ := by decide +kernel
  have e3 : (tx t).cps.toList = t.codes := by unfold tx; rfl
  rw [e2, StrLaws.found_one, e3]
  exact jts_mem
end JW
namespace JW
open PySem PySem.Spec PyProof.Rows L2
section
variable {X : Cx} {CX : CXT} {k : Nat} {f : Addr} {fd : FuncData} {ps : List Str} {ds : List Value} {dvs : List V} {sp : Sp} {E : XK} {C : Addr}
theorem run_fn1 {pins : List (Addr × Obj)} {σ : L2.St} {H : Hp} {s : Shared} {Q : VK} {us : List Value} {vs : List V} (F : FnOk X.prog X.w X.K X.mg X.base CX k f fd ps sp) (hr : Room (k + 1) X.A) (hb : Binds X.K fd ps ds) (hd : Vals dvs ds) (hx : Passes CX X E)
    (I : Inv X pins σ H s) (r : Vals vs us) (h : sp (vs ++ dvs) H Q E) : wpAny (model X.prog X.w) X.A.in1 (call (.ref f) us) (EP X pins σ Q) X.xe s := by
  have r2 : Vals (vs ++ dvs) (us ++ ds) := r.append hd
  have hl : (us ++ ds).length = ps.length := by rw [← r2.length]; exact F.len _ _ _ _ h
  refine wpAny_call (codeAny_mono (F.run X.A.in1 X.stack s H ⟨us, []⟩ (us ++ ds) (vs ++ dvs) Q E hr.in1 I.env0.in1 (hb s us I.kIn hl) r2 h) fun r s' hq => ?_)
  cases r with
  | error e => exact hx pins σ H s e s' I hq
  | ok fl =>
    cases fl with
    | ret u => exact I.after hq
    | next => exact False.elim hq
    | brk => exact False.elim hq
    | cont => exact False.elim hq
end
end JW
namespace AL
open PySem PySem.Spec PyProof.Rows L2 LamX JW
section
variable {X : Cx} {c : AC X.K} {H0 : Hp} {e f : Expr} {a b : ATE} {pos : Pos} {k : Nat} {ps : List Str} {asp : ASp} {qual : Str} {st : Stmt}
end
end AL
namespace JW
end JW
namespace JW
open PySem PySem.Spec PyProof.Rows L2
end JW
namespace GK
open PySem PySem.Spec PyProof.Rows L2 LamX JW AL
def GdV (n : Nat) (u : Value) : Prop := ∀ y t, u = .str y t → t ≠ 0 ∧ t < n
def GdVs (n : Nat) (us : List Value) : Prop := ∀ u ∈ us, GdV n u
theorem GdV.mono {n m : Nat} {u : Value} (h : GdV n u) (k : n ≤ m) : GdV m u := fun y t e => ⟨(h y t e).1, Nat.lt_of_lt_of_le (h y t e).2 k⟩
theorem GdVs.mono {n m : Nat} {us : List Value} (h : GdVs n us) (k : n ≤ m) : GdVs m us := fun u hu => (h u hu).mono k
theorem GdVs.nil {n : Nat} : GdVs n [] := fun _ h => absurd h List.not_mem_nil
theorem GdVs.cons {n : Nat} {u : Value} {us : List Value} (h : GdV n u) (k : GdVs n us) : GdVs n (u :: us) := fun v hv => (List.mem_cons.mp hv).elim (fun e => e ▸ h) (k v)
theorem GdVs.app {n : Nat} {us vs : List Value} (h : GdVs n us) (k : GdVs n vs) : GdVs n (us ++ vs) := fun v hv => (List.mem_append.mp hv).elim (h v) (k v)
def GdL (H : Hp) (s : Shared) : Prop := ∀ p xs o its k, H p = some (.lst xs) → s.heap.get? p = some o → o.data = .seq its k → GdVs s.toks its.toList
def noSt (X : Cx) : L2.St := List.replicate X.N.length none
def FrG (X : Cx) (c : AC X.K) (env : En) (H : Hp) (n : Nat) (m : Str → Option Value) : Prop := ∀ (i : Nat) (d : D), env[i]? = some (some d) → ∃ x v u, X.N[i]? = some x ∧ m x = some u ∧ RelV v u ∧ Rep c H d v ∧ GdV n u
structure SG (X : Cx) (c : AC X.K) (pins : List (Addr × Obj)) (env : En) (L : Store) (H : Hp) (s : Shared) : Prop where
  inv : Inv X pins (noSt X) H s
  fr : ∃ m, s.heap.Ns X.env.locals m ∧ FrG X c env H s.toks m
  len : env.length = X.N.length
  good : Good c L H
  lst : GdL H s
  tk : 1 ≤ s.toks
section
variable {X : Cx} {c : AC X.K} {pins : List (Addr × Obj)} {env : En} {L L' : Store} {H H' : Hp} {s s' : Shared}
theorem FrG.fr {n n' : Nat} {m : Str → Option Value} (h : FrG X c env H n m) (f : AL.Fr c H H') (k : n ≤ n') : FrG X c env H' n' m := fun i d e => by
  obtain ⟨x, v, u, h1, h2, h3, h4, h5⟩ := h i d e
  exact ⟨x, v, u, h1, h2, h3, h4.fr f, h5.mono k⟩
theorem SG.to (S : SG X c pins env L H s) (I : Inv X pins (noSt X) H' s') (hf : ∀ m, s.heap.Ns X.env.locals m → s'.heap.Ns X.env.locals m) (ht : s.toks ≤ s'.toks) (f : AL.Fr c H H') (g : Good c L' H') (l : GdL H' s') : SG X c pins env L' H' s' := by
  obtain ⟨m, h1, h2⟩ := S.fr
  exact ⟨I, ⟨m, hf m h1, h2.fr f ht⟩, S.len, g, l, Nat.le_trans S.tk ht⟩
theorem ns_kept {h h' : Heap} {a : Addr} (k : ∀ b o, h.get? b = some o → h'.get? b = some o) : ∀ m, h.Ns a m → h'.Ns a m := fun m hn => hn.keeps k
theorem gdl_kept {h' : Heap} {t' : Nat} (l : GdL H s) (hk : HOk X.prog X.w H s.heap) (k : ∀ b o, s.heap.get? b = some o → h'.get? b = some o) (ht : s.toks ≤ t') : GdL H { s with heap := h', toks := t' } := fun p xs o its n e1 e2 e3 => by
  obtain ⟨z, us, n', _, e4⟩ := hk p _ e1
  have e5 : h'.get? p = some o := e2
  rw [k _ _ e4] at e5
  cases e5
  exact (l p xs _ its n e1 e4 e3).mono ht
theorem SG.kept {h' : Heap} {t' : Nat} (S : SG X c pins env L H s) (k : ∀ b o, s.heap.get? b = some o → h'.get? b = some o) (ht : s.toks ≤ t') : SG X c pins env L H { s with heap := h', toks := t' } :=
  S.to (S.inv.kept k) (ns_kept k) ht (.refl c H) S.good (gdl_kept S.lst S.inv.hok k ht)
theorem SG.tok {t' : Nat} (S : SG X c pins env L H s) (ht : s.toks ≤ t') : SG X c pins env L H { s with toks := t' } := S.kept (fun _ _ e => e) ht
theorem SG.put {t' : Nat} {l : Addr} {xs ys : List V} {its its' : List Value} {n : Nat} {f : Array Value → Array Value} {ds es : List D} (S : SG X c pins env L H s) (hH : H l = some (.lst xs)) (hL : L l = some (.lst ds)) (e : s.heap.get? l = some { cls := .type "list", data := .seq its.toArray n })
    (hf : f its.toArray = its'.toArray) (hv : Vals ys its') (hz : ys.length ≤ sizeLine) (ht : s.toks ≤ t') (gd : GdVs t' its') (rs : RepL c H es ys) : SG X c pins env (sput L l (.lst es)) (upd H l (.lst ys)) { s with heap := s.heap.update l (Obj.mapSeq f), toks := t' } := by
  have hF : AL.Fr c H (upd H l (.lst ys)) := .put hH fun z => z
  obtain ⟨g, _⟩ := S.good.put (m' := .lst es) hL (.lst ys) ⟨ys, upd_same, rs.fr hF⟩
  have hne : l ≠ X.env.locals := fun z => by
    rw [z, S.inv.free] at hH
    cases hH
  have q := PySem.IsL.update e f
  refine S.to (S.inv.lset hH e hf hv hz) (fun m hm => ?_) ht hF g (fun p zs o us n' e1 e2 e3 => ?_)
  · obtain ⟨o, es', ep, h1, h2⟩ := hm
    exact ⟨o, es', ep, (Heap.get?_update_other s.heap (Obj.mapSeq f) hne).trans h1, h2⟩
  · have e2 : (s.heap.update l (Obj.mapSeq f)).get? p = some o := e2
    by_cases hp : p = l
    · subst hp
      rw [q] at e2
      cases e2
      cases e3
      rw [hf]
      simpa using gd
    · rw [upd_ne hp] at e1
      rw [Heap.get?_update_other s.heap (Obj.mapSeq f) (Ne.symm hp)] at e2
      exact (S.lst p zs o us n' e1 e2 e3).mono ht
theorem SG.list {p : Addr} {ds : List D} (S : SG X c pins env L H s) (h : L p = some (.lst ds)) : ∃ (vs : List V) (its : List Value) (n : Nat), H p = some (.lst vs) ∧ RepL c H ds vs ∧ Vals vs its ∧ vs.length ≤ sizeLine ∧ s.heap.get? p = some { cls := .type "list", data := .seq its.toArray n } ∧ GdVs s.toks its := by
  obtain ⟨vs, e1, rs⟩ := good_lst S.good h
  obtain ⟨z, its, n, r, e⟩ := S.inv.hok p _ e1
  exact ⟨vs, its, n, e1, rs, r, z, e, by simpa using S.lst p vs _ _ n e1 e rfl⟩
end
end GK
namespace GK
open PySem PySem.Spec PyProof.Rows L2 LamX JW AL
section
variable (X : Cx) (c : AC X.K) (pins : List (Addr × Obj)) (env : En) (H : Hp)
def EG (R : AQ) (u : Value) (s' : Shared) : Prop := ∃ d v H' L', SG X c pins env L' H' s' ∧ AL.Fr c H H' ∧ Rep c H' d v ∧ RelV v u ∧ GdV s'.toks u ∧ R d L'
def TGd (R : Bool → Store → Prop) (b : Bool) (s' : Shared) : Prop := ∃ H' L', SG X c pins env L' H' s' ∧ AL.Fr c H H' ∧ R b L'
end
section
variable (X : Cx) (c : AC X.K)
def XE (e : Expr) (a : ATE) : Prop := ∀ pins s env L H R, SG X c pins env L H s → a env L R → wpAny (model X.prog X.w) X.A (eval e X.env) (EG X c pins env H R) X.xe s
def XT (e : Expr) (t : ATT) : Prop := ∀ pins s env L H R, SG X c pins env L H s → t env L R → wpAny (model X.prog X.w) X.A (isTrue e X.env (eval e X.env)) (TGd X c pins env H R) X.xe s
def XW (e : Expr) (t : ATT) : Prop := ∀ whole pins s env L H R, SG X c pins env L H s → t env L R → wpAny (model X.prog X.w) X.A (isTrue e X.env whole) (TGd X c pins env H R) X.xe s
end
section
variable {X : Cx} {c : AC X.K} {pins : List (Addr × Obj)} {env : En} {L : Store} {H H1 : Hp} {s : Shared} {R : AQ} {e f g : Expr} {a b : ATE} {as : ATA} {es : List Expr} {pos : Pos} {t u' : ATT} {x : Str} {p : Pos}
theorem EG.fr {u : Value} (h : EG X c pins env H1 R u s) (k : AL.Fr c H H1) : EG X c pins env H R u s := by
  obtain ⟨d, v, H', L', S, f, r⟩ := h
  exact ⟨d, v, H', L', S, k.trans f, r⟩
theorem TGd.fr {R : Bool → Store → Prop} {b : Bool} (h : TGd X c pins env H1 R b s) (k : AL.Fr c H H1) : TGd X c pins env H R b s := by
  obtain ⟨H', L', S, f, r⟩ := h
  exact ⟨H', L', S, k.trans f, r⟩
theorem SG.eg {d : D} {v : V} {u : Value} (S : SG X c pins env L H s) (r : Rep c H d v) (q : RelV v u) (g : GdV s.toks u) (h : R d L) : EG X c pins env H R u s := ⟨d, v, H, L, S, .refl c H, r, q, g, h⟩
theorem xv (i : Nat) {x : Str} (hN : X.N[i]? = some x := by rfl) (hk : X.env.kindOf x = some .local := by rfl) (hd : (x == ("__debug__" : Str)) = false := by decide) : XE X c (.Name x pos) (aVar i) := by
  intro pins s env L H R S h
  unfold aVar at h
  split at h
  · rename_i d e1
    obtain ⟨m, hn, hf⟩ := S.fr
    obtain ⟨y, v, u, h1, h2, h3, h4, h5⟩ := hf i d e1
    rw [hN] at h1
    cases h1
    exact wpAny_Name (wpAny_loadName_local S.inv.ok.kind hk hn h2 (S.eg h4 h3 h5 h)) hd
  · exact h.elim
theorem XW.pt (h : XW X c e t) : XT X c e t := h _
end
section
variable {X : Cx} {c : AC X.K}
end
end GK
namespace GK
open PySem PySem.Spec PyProof.Rows L2 LamX JW AL
section
variable {X : Cx} {c : AC X.K} {e f g o : Expr} {a b : ATE} {as : ATA} {es : List Expr} {pos apos cpos p p2 : Pos} {x name : Str} {id : String}
end
end GK
namespace GK
open PySem PySem.Spec PyProof.Rows L2 LamX JW AL
section
variable (X : Cx) (c : AC X.K)
end
section
variable {X : Cx} {c : AC X.K} {e f g o : Expr} {a b : ATE} {as : ATA} {es : List Expr} {pos apos cpos p p2 : Pos} {x name : Str} {id : String} {k' : D → List D → Store → AQ → Prop}
end
end GK
namespace GK
open PySem PySem.Spec PyProof.Rows L2 LamX JW AL
def Zc {K : PySem.W.Frag} (c : AC K) (a : Addr) : Prop := ∃ ns, c.scr = some (a, ns)
def Hd {K : PySem.W.Frag} (c : AC K) (H : Hp) (a : Addr) : Prop := (∃ xs, H a = some (.lst xs)) ∧ ¬ Zc c a
open Classical in
noncomputable def hid {K : PySem.W.Frag} (c : AC K) (H : Hp) : Hp := fun a => if Hd c H a then none else H a
open Classical in
noncomputable def resD {K : PySem.W.Frag} (c : AC K) (H H1 : Hp) : Hp := fun a => if Hd c H a then H a else H1 a
def hidS (L : Store) : Store := fun p => match L p with
  | some (.lst _) => none
  | some (.lsq _) => none
  | m => m
section
variable {K : PySem.W.Frag} {c : AC K} {H H1 : Hp} {a : Addr} {o : HO}
theorem hid_of (h : H a = some o) (n : ¬ Hd c H a) : hid c H a = some o := by
  unfold hid
  rw [if_neg n]
  exact h
theorem hid_nl (h : H a = some o) (n : ∀ xs, o ≠ .lst xs) : hid c H a = some o := hid_of h fun ⟨⟨xs, e⟩, _⟩ => by
  rw [h] at e
  cases e
  exact n xs rfl
theorem hid_none (h : H a = none) : hid c H a = none := by
  unfold hid
  split
  · rfl
  · exact h
theorem hid_hd (h : Hd c H a) : hid c H a = none := by
  unfold hid
  rw [if_pos h]
theorem hidS_of {L : Store} {p : Addr} {m : MO} (h : L p = some m) (n : ∀ l, m ≠ .lst l) (n2 : ∀ P, m ≠ .lsq P) : hidS L p = some m := by
  unfold hidS
  rw [h]
  cases m with
  | lst xs => exact absurd rfl (n xs)
  | lsq P => exact absurd rfl (n2 P)
  | _ => rfl
end
section
variable {K : PySem.W.Frag} {c : AC K} {H H1 : Hp} {L : Store}
theorem imm_nl {o : HO} (h : Imm c o) : ∀ xs, o ≠ .lst xs := fun xs e => by
  subst e
  exact h
theorem fr_hid : AL.Fr c H (hid c H) := fun a o h i => hid_nl h (imm_nl i)
end
section
variable {P : Program} {w : World} {K : PySem.W.Frag} {c : AC K} {L : Store} {H H1 : Hp} {h h' : Heap} {fs : List Addr}
theorem hd_there (hok : HOk P w H h) (hfs : ∀ b ∈ fs, H b = none) (U : Un fs [] (hid c H) H1 h h') {a : Addr} (z : Hd c H a) : ∃ o, h.get? a = some o ∧ H1 a = none ∧ h'.get? a = some o := by
  obtain ⟨⟨xs, e⟩, _⟩ := id z
  obtain ⟨_, its, n, r, e2⟩ := hok a _ e
  refine ⟨_, e2, U.free a _ e2 (hid_hd z) (by simp), U.keep a _ e2 (hid_hd z) (fun hm => ?_) (by simp)⟩
  rw [hfs a hm] at e
  cases e
structure Back (c : AC K) (H H1 H' : Hp) : Prop where
  hd : ∀ a, Hd c H a → H' a = H a
  nl : ∀ a o, H1 a = some o → (∀ xs, o ≠ .lst xs) → H' a = some o
  at_ : ∀ a o, H' a = some o → (Hd c H a ∧ H a = some o) ∨ (¬ Hd c H a ∧ H1 a = some o)
  scr : ∀ a, Zc c a → H' a = H1 a
variable {H' : Hp}
theorem Back.fr1 (B : Back c H H1 H') : AL.Fr c H1 H' := fun a o e i => B.nl a o e (imm_nl i)
theorem Back.un (B : Back c H H1 H') (U : Un fs [] (hid c H) H1 h h') : Un fs [] H H' h h' := by
  refine ⟨fun b o e n hb hx => U.keep b o e (hid_none n) hb hx, fun b o e n hb hx => U.slot b o e (hid_none n) hb hx, fun b o e n hx => ?_, U.there, fun b xs e => ?_, fun b o u e => ?_, fun b ps e => ?_⟩
  · cases e2 : H' b with
    | none => rfl
    | some v =>
      rcases B.at_ b v e2 with ⟨_, z⟩ | ⟨_, z⟩
      · rw [n] at z
        cases z
      · rw [U.free b o e (hid_none n) hx] at z
        cases z
  · exact B.nl _ _ (U.tups b xs (hid_nl e (fun _ z => nomatch z))) (fun _ z => nomatch z)
  · exact B.nl _ _ (U.frzs b o u (hid_nl e (fun _ z => nomatch z))) (fun _ z => nomatch z)
  · obtain ⟨more, e1⟩ := U.tbls b ps (hid_nl e (fun _ z => nomatch z))
    exact ⟨more, B.nl _ _ e1 (fun _ z => nomatch z)⟩
theorem Back.hok (B : Back c H H1 H') (hok : HOk P w H h) (hfs : ∀ b ∈ fs, H b = none) (U : Un fs [] (hid c H) H1 h h') (hk : HOk P w H1 h') : HOk P w H' h' := fun a o e => by
  rcases B.at_ a o e with ⟨z, e1⟩ | ⟨_, e1⟩
  · obtain ⟨⟨xs, e2⟩, _⟩ := id z
    rw [e1] at e2
    cases e2
    obtain ⟨zz, its, n, r, e3⟩ := hok a _ e1
    obtain ⟨o, e4, _, e5⟩ := hd_there hok hfs U z
    rw [e3] at e4
    cases e4
    exact ⟨zz, its, n, r, e5⟩
  · exact (hk a o e1).stay (fun _ _ _ q => q) (fun b q => B.nl _ _ q (fun _ z => nomatch z)) fun b xs q => B.nl _ _ q (fun _ z => nomatch z)
theorem Back.good (B : Back c H H1 H') (hK : ∀ a o, K.lookup a = some o → H a = none) (g0 : Good c L H) (f : AL.Fr c (hid c H) H1) (g : Good c (hidS L) H1) : Good c L H' := by
  have f1 : AL.Fr c H H' := fr_hid.trans (f.trans B.fr1)
  refine ⟨fun q hq => ?_, fun p m e => ?_, fun a ns e => ?_⟩
  · obtain ⟨ps, h1, h2, h3⟩ := g.tabs q hq
    refine ⟨ps, B.nl _ _ h1 (fun _ z => nomatch z), h2, fun pos cv hc => ?_⟩
    obtain ⟨k, e1, e2⟩ := h3 pos cv hc
    exact ⟨k, e1, B.nl _ _ e2 (fun _ z => nomatch z)⟩
  · cases m with
    | lst l =>
      obtain ⟨vs, e1, rs⟩ := good_lst g0 e
      have hz : Hd c H p := ⟨⟨vs, e1⟩, fun ⟨ns, z⟩ => by
        rcases (g0.scr p ns z).2 with ⟨_, h2⟩ | ⟨o, h2⟩ | ⟨o, its, n, h2, _⟩
        · rw [e] at h2
          cases h2
        · rw [e1] at h2
          cases h2
        · rw [hK _ _ h2] at e1
          cases e1⟩
      exact ⟨vs, (B.hd p hz).trans e1, rs.fr f1⟩
    | lsq P =>
      obtain ⟨vs, l, e1, rs, q⟩ := g0.st p _ e
      have hz : Hd c H p := ⟨⟨vs, e1⟩, fun ⟨ns, z⟩ => by
        rcases (g0.scr p ns z).2 with ⟨_, h2⟩ | ⟨o, h2⟩ | ⟨o, its, n, h2, _⟩
        · rw [e] at h2
          cases h2
        · rw [e1] at h2
          cases h2
        · rw [hK _ _ h2] at e1
          cases e1⟩
      exact ⟨vs, l, (B.hd p hz).trans e1, rs.fr f1, q⟩
    | dct l => obtain ⟨vs, e2, k, rs⟩ := g.st p _ (hidS_of e (fun _ z => nomatch z) (fun _ z => nomatch z)); exact ⟨vs, B.nl _ _ e2 (fun _ z => nomatch z), k, rs.fr B.fr1⟩
    | ins C ks ds => obtain ⟨dx, vs, e2, n, k, rs⟩ := g.st p _ (hidS_of e (fun _ z => nomatch z) (fun _ z => nomatch z)); exact ⟨dx, vs, B.nl _ _ e2 (fun _ z => nomatch z), n, k, rs.fr B.fr1⟩
    | opq Q =>
      obtain ⟨o, e2, hp, r1, r2, r3, r4⟩ := g.st p _ (hidS_of e (fun _ z => nomatch z) (fun _ z => nomatch z))
      exact ⟨o, B.nl _ _ e2 (fun xs z => r4 xs (by rw [← z]; exact hp)), hp, r1, r2, r3, r4⟩
  · refine ⟨(g0.scr a ns e).1, ?_⟩
    have hs := B.scr a ⟨ns, e⟩
    rcases (g0.scr a ns e).2 with ⟨h1, h2⟩ | ⟨o, h1⟩ | h1
    · rcases (g.scr a ns e).2 with ⟨k1, _⟩ | ⟨o, k1⟩ | k1
      · exact .inl ⟨hs.trans k1, h2⟩
      · exact .inr (.inl ⟨o, hs.trans k1⟩)
      · exact .inr (.inr k1)
    · exact .inr (.inl ⟨o, f1 a _ h1 trivial⟩)
    · exact .inr (.inr h1)
end
section
variable {X : Cx} {c : AC X.K} {pins : List (Addr × Obj)} {env : En} {L : Store} {H H1 : Hp} {s s' : Shared}
section
variable {e : Expr} {es : List Expr} {as : ATA} {x : Str} {p pos : Pos} {k : Nat} {ps : List Str} {asp : ASp}
end
end
end GK
namespace GK
open PySem PySem.Spec PyProof.Rows L2 LamX JW AL
section
variable (X : Cx) (c : AC X.K)
def SGd (pins : List (Addr × Obj)) (H : Hp) (D : AEnds) (f : Flow) (s' : Shared) : Prop :=
  match f with
  | .next => ∃ env' H' L', SG X c pins env' L' H' s' ∧ AL.Fr c H H' ∧ D.nx env' L'
  | .brk => ∃ env' H' L', SG X c pins env' L' H' s' ∧ AL.Fr c H H' ∧ D.bk env' L'
  | .cont => ∃ env' H' L', SG X c pins env' L' H' s' ∧ AL.Fr c H H' ∧ D.ct env' L'
  | .ret u => ∃ env' d v H' L', SG X c pins env' L' H' s' ∧ AL.Fr c H H' ∧ Rep c H' d v ∧ RelV v u ∧ GdV s'.toks u ∧ D.rt d L'
end
section
variable {X : Cx} {c : AC X.K} {pins : List (Addr × Obj)} {env : En} {L : Store} {H H1 : Hp} {s : Shared} {DD : AEnds}
theorem SGd.fr {f : Flow} (h : SGd X c pins H1 DD f s) (k : AL.Fr c H H1) : SGd X c pins H DD f s := by
  cases f with
  | next => obtain ⟨a, b, d, S, f, r⟩ := h; exact ⟨a, b, d, S, k.trans f, r⟩
  | brk => obtain ⟨a, b, d, S, f, r⟩ := h; exact ⟨a, b, d, S, k.trans f, r⟩
  | cont => obtain ⟨a, b, d, S, f, r⟩ := h; exact ⟨a, b, d, S, k.trans f, r⟩
  | ret u => obtain ⟨a, b, v, d, e, S, f, r⟩ := h; exact ⟨a, b, v, d, e, S, k.trans f, r⟩
end
section
variable {X : Cx} {c : AC X.K} {e f tg : Expr} {a b : ATE} {as : ATA} {pos : Pos} {t : ATT} {st : Stmt} {rest sts sts' : List Stmt} {s1 s2 : ATS}
theorem SG.turn {pins : List (Addr × Obj)} {env : En} {L : Store} {H : Hp} {s : Shared} {it : Addr} {h' : Heap} {tk : Nat} (S : SG X c pins env L H s) (hf : FpOk X pins H it) (k : ∀ b o, b ≠ it → s.heap.get? b = some o → h'.get? b = some o) (ht : s.toks ≤ tk) : SG X c pins env L H { s with heap := h', toks := tk } := by
  obtain ⟨f0, f1, f2, f3, f4, f5⟩ := hf
  refine S.to (S.inv.turned k f0 f1 f3 f4 f5) (fun m ⟨o, es, ep, h1, h2⟩ => ⟨o, es, ep, k _ o (Ne.symm f1) h1, h2⟩) ht (.refl c H) S.good (fun p xs o its n e1 e2 e3 => ?_)
  have hp : p ≠ it := fun z => by
    rw [z, f0] at e1
    cases e1
  obtain ⟨_, us, n', _, e4⟩ := S.inv.hok p _ e1
  have e5 : h'.get? p = some o := e2
  rw [k _ _ hp e4] at e5
  cases e5
  exact (S.lst p xs _ its n e1 e4 e3).mono ht
end
end GK
namespace GK
open PySem PySem.Spec PyProof.Rows L2 LamX JW AL
section
variable {X : Cx} {c : AC X.K} {e o tg : Expr} {a b : ATE} {as : ATA} {es : List Expr} {pos p apos : Pos}
end
end GK
namespace GK
open PySem PySem.Spec PyProof.Rows L2 LamX JW AL
section
variable {X : Cx} {c : AC X.K} {e : Expr} {es : List Expr} {as : ATA} {x : Str} {p pos : Pos} {k : Nat} {ps : List Str} {asp : ASp}
end
section
variable {P : Program} {w : World} {K : PySem.W.Frag} {mg : Str → Option Value} {base : Heap} {c : AC K} {x qual : Str} {st : Stmt} {N ps : List Str} {k : Nat} {asp : ASp}
end
end GK
namespace JW
open PySem PySem.Spec PyProof.Rows
end JW
namespace AL
open PySem PySem.Spec PyProof.Rows L2 LamX JW
theorem loop_k {g : ATG} {b : ATS} {N : AEnds} {G : Store → Prop} (items : List D) (I : Nat → En → Store → Prop) (hG : ∀ i env L, i ≤ items.length → I i env L → G L)
    (hs : ∀ i d env L (n : En → Store → Prop), items[i]? = some d → (∀ e l, I (i + 1) e l → n e l) → I i env L → g d env L fun env1 L1 => b { N with nx := n, ct := n, bk := N.nx } env1 L1) (hd : ∀ env L, I items.length env L → N.nx env L) : ∀ env L, I 0 env L → loopA g b N G items env L := by
  have : ∀ (k i : Nat), i + k = items.length → ∀ env L, I i env L → loopA g b N G (items.drop i) env L := by
    intro k
    induction k with
    | zero =>
      intro i hi env L h
      have e : i = items.length := by omega
      subst e
      rw [List.drop_length]
      exact ⟨hG _ _ _ (Nat.le_refl _) h, hd _ _ h⟩
    | succ k ih =>
      intro i hi env L h
      have hlt : i < items.length := by omega
      rw [List.drop_eq_getElem_cons hlt]
      exact ⟨hG i _ _ (Nat.le_of_lt hlt) h, hs i _ env L _ (List.getElem?_eq_getElem hlt) (fun e l z => ih (i + 1) (by omega) e l z) h⟩
  intro env L h
  exact this items.length 0 (by omega) env L h
theorem loop_map {α : Type} {g : ATG} {b : ATS} {N : AEnds} {G : Store → Prop} (f : α → D) (ts : List α) (I : List α → En → Store → Prop) (hG : ∀ p e l, I p e l → G l)
    (step : ∀ (pre : List α) t (rest : List α) (n : En → Store → Prop), ts = pre ++ t :: rest → (∀ e l, I (pre ++ [t]) e l → n e l) → ∀ env L, I pre env L → g (f t) env L fun env1 L1 => b { N with nx := n, ct := n, bk := N.nx } env1 L1)
    (hd : ∀ env L, I ts env L → N.nx env L) : ∀ env L, I [] env L → loopA g b N G (ts.map f) env L := by
  have : ∀ (rest pre : List α), ts = pre ++ rest → ∀ env L, I pre env L → loopA g b N G (rest.map f) env L := by
    intro rest
    induction rest with
    | nil => exact fun pre e env L h => ⟨hG _ _ _ h, hd _ _ (by rw [e, List.append_nil]; exact h)⟩
    | cons t rest ih => exact fun pre e env L h => ⟨hG _ _ _ h, step pre t rest _ e (fun env1 L1 h1 => ih (pre ++ [t]) (by rw [List.append_assoc]; exact e) env1 L1 h1) env L h⟩
  exact this ts [] rfl
end AL
namespace AL
open PySem PySem.Spec PyProof.Rows L2 LamX JW
section
variable {X : Cx} {c : AC X.K}
end
end AL
namespace JW
open PySem PySem.Spec PyProof.Rows L2 He
end JW
namespace L2
open PySem PySem.Spec PyProof.Rows
section
variable {X : Cx}
def rSortedB (K : PySem.W.Frag) : List V → Hp → VK → Prop := fun vs H Q => ∃ (a : Addr) (xs : List Str), vs = [V.ref a] ∧ SqL K H a (xs.map V.str) ∧ xs.length ≤ 10000 ∧
  ∀ (ys : List Str) (p : Addr), ys.Perm xs → sortedS ys = true → H p = none → Q (.ref p) (upd H p (.lst (ys.map V.str)))
theorem cr_sortedB : CallR X (.builtin "sorted") (rSortedB X.K) := by
  intro pins s σ H vs us Q I r h
  obtain ⟨a, xs, rfl, hs, h64, q⟩ := h
  obtain ⟨its, rv, hl, _⟩ := I.list hs
  rw [Vals.ref1 r]
  have hlen0 := rv.length
  rw [List.length_map] at hlen0
  refine PyProof.Rows.sorted_strsAny hl.isList rv.strs (by rw [← hlen0, sizeLine_eq]; omega) fun out ys h1 h2 h3 => ?_
  obtain ⟨ep, he'⟩ := PyProof.Rows.sortedAll_at s.heap its out
  have hlen : (ys.map V.str).length ≤ sizeLine := by rw [List.length_map, h2.length_eq, sizeLine_eq]; omega
  exact ⟨.ref _, upd H (s.heap.objs.size + 1) (.lst (ys.map V.str)), I.laid (t' := s.toks) (fun _ _ => PyProof.Rows.sortedAll_old) (Nat.le_succ _) ⟨hlen, out.toList, ep, vals_of_strs h1, he'⟩, rfl, q ys _ h2 h3 (I.hok.fresh (Nat.le_succ _))⟩
end
end L2
namespace JW
open PySem PySem.Spec PyProof.Rows L2
section
variable {X : Cx} {CX : CXT} {k : Nat} {ps : List Str} {sp : Sp} {E : XK} {C : Addr}
theorem cr_lenOwn {qual : Str} {st : Stmt} (D : MethAt X.K C "__len__" qual st ps) (M : MethD X.prog X.w X.K X.mg X.base CX k C "__len__" ps [] sp) (hr : Room (k + 1) X.A) (hx : Passes CX X E) :
    CallR X (.builtin "len") (fun xs H Q => ∃ a dx fs, xs = [.ref a] ∧ H a = some (.ins C dx fs) ∧ sp [.ref a] H (fun v H' => ∃ n : Int, v = .int n ∧ 0 ≤ n ∧ n < 2 ^ 63 ∧ Q (.int n) H') E) := by
  intro pins s σ H vs us Q I r h
  obtain ⟨a, dx, fs, rfl, hA, q⟩ := h
  rw [Vals.ref1 r]
  obtain ⟨f, fd, ds, hm, hbd, hd, F⟩ := M.ex
  cases hd
  obtain ⟨f', fd', hm', FD, _⟩ := D.ex
  have ef : f' = f := by
    have e := hm'.at_.symm.trans hm.at_
    simpa using e
  subst ef
  obtain ⟨mA, J, _⟩ := ins_get I.hok hA
  obtain ⟨od', J, _⟩ := J.look
  refine Calls.call_function_entry kind_len plain_len entry_len (args_len1 _) ?_
  unfold Builtin.«len»
  refine wpAny_bind (m := oneArg "len" _) (wpAny_pure ?_)
  refine wpAny_bind (m := callSpecial? (.ref a) (Str.ofString "__len__")) (PySem.W.special_fn I.kIn J hm.at_ (by have := hm.fn; exact beq_iff_eq.mp this) ?_)
  refine wpAny_mono (run_fn1 (us := [.ref a]) (vs := [.ref a]) F hr hbd .nil hx I (.cons rfl .nil) q) (fun v s' z => ?_) fun _ _ z => z
  obtain ⟨x, H', I', rx, n, rfl, h0, h1, q'⟩ := z
  obtain ⟨t, rfl⟩ := rx
  refine wpAny_bind (wpAny_holding (wpAny_pure ?_))
  refine wpAny_bind (wpAny_letGo ?_)
  show wpAny _ _ (if n < 0 then _ else _) _ _ _
  rw [if_neg (by omega)]
  show wpAny _ _ (if n ≥ 2 ^ 63 then _ else _) _ _ _
  rw [if_neg (by omega)]
  exact wpAny_bind (wpAny_mkInt (wpAny_pure ⟨_, rfl, .int n, H', I'.tok _, ⟨_, rfl⟩, q'⟩))
end
end JW
namespace AL
open PySem PySem.Spec PyProof.Rows L2 LamX JW
def sortedB : List D → Store → AQ → Prop
  | [.ref p], L, Q => ∃ ss : List Str, L p = some (.lst (ss.map D.str)) ∧ ss.length ≤ 10000 ∧ ∀ (ys : List Str) (r : Addr), ys.Perm ss → sortedS ys = true → L r = none → Q (.ref r) (sput L r (.lst (ys.map D.str)))
  | _, _, _ => False
section
variable {X : Cx} {c : AC X.K} {H0 : Hp} {e : Expr} {a : ATE} {pos p p2 : Pos} {k : Nat} {ps : List Str} {qual : Str} {st : Stmt}
theorem acb_sortedB : ACB X c (.builtin "sorted") sortedB := by
  refine .mk' cr_sortedB fun vs H Q ds L R r g h pq => ?_
  unfold sortedB at h
  split at h
  · rename_i p
    obtain ⟨v, rfl, r1⟩ := repL_one r
    cases rep_ref.mp r1
    obtain ⟨ss, e0, hz, h⟩ := h
    obtain ⟨ws, e1, rs⟩ := good_lst g e0
    rw [RepL.strs.mp rs] at e1
    exact ⟨p, ss, rfl, SqL.of e1, hz, fun ys q h1 h2 hq => pq.alloc hq (h ys q h1 h2 (g.fresh hq)) g ⟨_, upd_same, RepL.strs.mpr rfl⟩⟩
  · exact h.elim
end
end AL
namespace JW
open PySem PySem.Spec PyProof.Rows L2
def spErr0 (K : PySem.W.Frag) (C : Addr) : Sp := fun vs H Q _ => ∃ a, vs = [.ref a] ∧ H a = some (exo a C none) ∧ Q .non H
theorem mk_end00 {X : Cx} {pins : List (Addr × Obj)} {σ : L2.St} {H1 H2 : Hp} {hp hp2 h2 : Heap} {g1 g2 : Array GenState} {d1 d2 : Drawn} {t1 t2 : Nat} {os1 os2 : OsState} {a C : Addr} (I1 : Inv X pins σ H1 ⟨hp, g1, d1, t1, os1⟩)
    (ha : hp.objs.size ≤ a) (k : ∀ b o, hp.get? b = some o → hp2.get? b = some o) (un : Un (frs X.stack) [] (upd H1 a (exo a C none)) H2 hp2 h2) (hok : HOk X.prog X.w H2 h2) (ho : os2 = os1) (hb : AllBare g2)
    (ea : H2 a = some (exo a C none)) :
    ∃ (t0 : Addr) (G : Heap), Inv X pins σ (del H2 a) ⟨G, g2, d2, t2, os2⟩ ∧ (∀ b o, G.get? b = some o → h2.get? b = some o) ∧ G.get? a = none ∧
      h2.get? a = some ({ cls := .ref C, dict := none, data := .fields #[.ref t0, .none, .none, .none, .bool false, .none] } : Obj) ∧ (del H2 a) a = none := by
  obtain ⟨t0, hoe⟩ := exo_at hok ea
  have hn : H1 a = none := I1.hok.fresh ha
  obtain ⟨G, g1', g2'⟩ := restrict h2 fun b => decide (b ≠ a)
  have gk : ∀ b, b ≠ a → G.get? b = h2.get? b := fun b hb => g1' b (decide_eq_true hb)
  have ge : G.get? a = none := g2' a (by simp)
  have nha : ∀ {b : Addr} {o : Obj}, hp.get? b = some o → b ≠ a := fun {b o} z => Nat.ne_of_lt (Nat.lt_of_lt_of_le (Heap.lt_size z) ha)
  have up : ∀ {b : Addr}, b ≠ a → H1 b = none → upd H1 a (exo a C none) b = none := fun {b} hb n => by rw [upd_ne hb]; exact n
  have U : Un (frs X.stack) [] H1 (del H2 a) hp G := {
    keep := fun b o z n hf hx => by
      rw [gk b (nha z)]
      exact un.keep b o (k b o z) (up (nha z) n) hf hx
    slot := fun b o z n hf hx => by
      rw [gk b (nha z)]
      exact un.slot b o (k b o z) (up (nha z) n) hf hx
    free := fun b o z n hx => by
      rw [del_ne (nha z)]
      exact un.free b o (k b o z) (up (nha z) n) hx
    there := fun b o z hx => by
      rw [gk b (nha z)]
      exact un.there b o (k b o z) hx
    tups := fun b xs z => by
      rw [del_ne (ne_of_none z hn)]
      exact un.tups b xs (by rw [upd_ne (ne_of_none z hn)]; exact z)
    frzs := fun b o v z => by
      rw [del_ne (ne_of_none z hn)]
      exact un.frzs b o v (by rw [upd_ne (ne_of_none z hn)]; exact z)
    tbls := fun b ps z => by
      rw [del_ne (ne_of_none z hn)]
      exact un.tbls b ps (by rw [upd_ne (ne_of_none z hn)]; exact z) }
  have hok3 : HOk X.prog X.w (del H2 a) G := fun b o z => by
    have hba : b ≠ a := fun e => by
      rw [e, del_same] at z
      cases z
    rw [del_ne hba] at z
    have noa : ∀ {c : Addr}, H2 c = some (.own b) → c ≠ a := fun {c} hc => at_ne ea hc exo_own
    exact (hok b o z).stay (fun c v hc y => by
        have hca : c ≠ a := by
          rcases hc with hc | hc
          · rw [hc]
            exact hba
          · exact noa hc
        rw [gk c hca]
        exact y)
      (fun c hc => by rw [del_ne (noa hc)]; exact hc) (fun c xs hc => by rw [del_ne (at_ne ea hc exo_tup)]; exact hc)
  have J : Inv X pins σ (del H2 a) ⟨G, g2, d2, t2, os2⟩ := I1.call' (ch := []) ho U hok3 hb (fun b z => absurd z (by simp))
  refine ⟨t0, G, J, fun b o z => ?_, ge, hoe, del_same⟩
  by_cases hba : b = a
  · rw [hba, ge] at z
    cases z
  · exact (gk b hba).symm.trans z
def tRaise0 (C : Addr) : L2.St → Hp → XK → Prop := fun _ H Q => Q (.ref C) none H
section
variable {X : Cx} {p pos : Pos} {x : Str} {C : Addr} {k : Nat} {ps : List Str}
theorem pmk_err0N (D : ErrD X.prog X.w X.K X.mg X.base k x C ps (spErr0 X.K C)) (hr : Room (k + 1) X.A) (hg : Gl X x) (hdb : (x == ("__debug__" : Str)) = false := by decide) : L2N.PMk X (.Call (.Name x p) [] [] pos) (tRaise0 C) := by
  obtain ⟨fI, fd, iC, tI, hb, F1⟩ := D.ex
  have T := D.c.o
  intro pins s σ H Q I h
  obtain ⟨nm, q, N, bs, bm, sn, sub, ab, col, dd, k0, k1, k2, k3, k5, hC, hbm⟩ := T.cls
  refine wpAny_Call_Name_kw (ld_glob I hg D.g ?_ hdb)
  refine PySem.W.callWith_K0 I.kIn T.kC ?_
  show wpAny _ _ (call (.ref C) []) _ _ _
  obtain ⟨hp, g, dr, tk, os⟩ := s
  have hsz : hp.objs.size ≤ hp.objs.size + 1 := Nat.le_succ _
  have hn : H (hp.objs.size + 1) = none := I.hok.fresh hsz
  have kk : ∀ b o, hp.get? b = some o → ((hp.push (PySem.W.kdv_tup [])).push (PySem.HandSPX.excO C hp.objs.size)).get? b = some o := fun b o e => Heap.get?_push_of_some _ (Heap.get?_push_of_some _ e)
  have hget : ((hp.push (PySem.W.kdv_tup [])).push (PySem.HandSPX.excO C hp.objs.size)).get? (hp.objs.size + 1) = some (PySem.HandSPX.excO C hp.objs.size) := by heap_get
  have I2 : Inv X pins σ (upd H (hp.objs.size + 1) (exo (hp.objs.size + 1) C none)) ⟨(hp.push (PySem.W.kdv_tup [])).push (PySem.HandSPX.excO C hp.objs.size), g, dr, tk, os⟩ :=
    I.laid (t' := tk) (a := hp.objs.size + 1) (o := exo (hp.objs.size + 1) C none) (h' := (hp.push (PySem.W.kdv_tup [])).push (PySem.HandSPX.excO C hp.objs.size)) kk hsz (exo_ok hget)
  have r2 : Vals [V.ref (hp.objs.size + 1)] [Value.ref (hp.objs.size + 1)] := .cons rfl .nil
  have hq : spErr0 X.K C [V.ref (hp.objs.size + 1)] (upd H (hp.objs.size + 1) (exo (hp.objs.size + 1) C none)) (fun v H2 => v = .non ∧ H2 = upd H (hp.objs.size + 1) (exo (hp.objs.size + 1) C none)) (fun _ _ _ => False) := ⟨_, rfl, upd_same, rfl, rfl⟩
  have hl : [Value.ref (hp.objs.size + 1)].length = ps.length := F1.len _ _ _ _ hq
  refine wpAny_call (PySem.HandSPX.call_own F.excBase_ValueError (fun Y => PySem.HandSPX.refsVE_contains Y bm hbm) (I.kIn _ _ hC) (PySem.W.looks_findIn I.kIn iC) (fun self => PySem.W.bind_fn I.kIn self tI) (by rw [sizeLine_eq]; decide)
    (codeAny_mono (F1.run _ X.stack _ _ ⟨[Value.ref (hp.objs.size + 1)], []⟩ [Value.ref (hp.objs.size + 1)] _ _ (fun _ _ _ => False) (hr.make C [] []) (I2.env0.make C [] []) (hb _ [Value.ref (hp.objs.size + 1)] I2.kIn hl) r2 hq) fun r s' hq' => ?_))
  cases r with
  | error er => exact pass0 (X := X) pins σ _ _ er s' I2 hq'
  | ok fl =>
    cases fl with
    | ret u =>
      obtain ⟨v, H2, os2, bare2, un2, hok2, rv, ev, eH⟩ := hq'
      subst ev
      subst eH
      obtain ⟨h2, g2, d2, t2, os'⟩ := s'
      refine ⟨rv, ?_⟩
      obtain ⟨t0, G, J, kG, ge, hoe, na⟩ := mk_end00 (d2 := d2) (t2 := t2) I hsz kk un2 hok2 os2 bare2 upd_same
      have eD : del (upd H (hp.objs.size + 1) (exo (hp.objs.size + 1) C none)) (hp.objs.size + 1) = H := by
        funext b
        by_cases e : b = hp.objs.size + 1
        · rw [e, del_same, hn]
        · rw [del_ne e, upd_ne e]
      rw [eD] at J
      exact ⟨hp.objs.size + 1, _, _, ⟨G, g2, d2, t2, os'⟩, _, .ref C, none, rfl, J, kG, ge, hoe, ⟨rfl, rfl, fun vs e => by cases e; rfl⟩, rfl, rfl, hn, rfl, bare2, raises_own T.exC T.tyC, h⟩
    | next => exact False.elim hq'
    | brk => exact False.elim hq'
    | cont => exact False.elim hq'
theorem pmk_errN {e : Expr} {te : TE} {f : Str} (D : ErrD X.prog X.w X.K X.mg X.base k x C ps (spErr X.K C f)) (hr : Room (k + 1) X.A) (hg : Gl X x) (he : PE X e te) (hdb : (x == ("__debug__" : Str)) = false := by decide)
    (hst : starEach [e] X.env = (false, eval e X.env) :: starEach [] X.env := by rfl) (hpl : (backTo pos (starEach [] X.env)).any (·.1) = false := by rfl) : L2N.PMk X (.Call (.Name x p) [e] [] pos) (tRaiseE C f te) := by
  obtain ⟨fI, fd, iC, tI, hb, F1⟩ := D.ex
  have T := D.c.o
  intro pins s σ H Q I h
  obtain ⟨nm, q, N, bs, bm, sn, sub, ab, col, dd, k0, k1, k2, k3, k5, hC, hbm⟩ := T.cls
  refine wpAny_Call_Name_kw (ld_glob I hg D.g ?_ hdb)
  refine PySem.W.callWith_K (h₀ := X.base) I.ok.mod.kin T.kC (thn ((pa_cons (pe_via he) pa_nil hst).run pos pins s σ H (fun vs H1 => ∃ v, vs = [v] ∧ ∀ d H', L2.Same H1 H' → H1 d = none → H' d = some (.xd [(f, v)]) → Q (.ref C) (some d) H') I ⟨_, h, fun v H1 r => ⟨v, rfl, r⟩⟩) fun us s1 ⟨vs, H1, I1, r1, v, ev, r⟩ => ⟨I1.kIn, ?_⟩) hst hpl
  subst ev
  cases r1 with
  | cons rv rr =>
    cases rr
    rename_i u _
    show wpAny _ _ (call (.ref C) [u]) _ _ _
    obtain ⟨hp, g, dr, tk, os⟩ := s1
    have hsz : hp.objs.size ≤ hp.objs.size + 1 := Nat.le_succ _
    have hn : H1 (hp.objs.size + 1) = none := I1.hok.fresh hsz
    have kk : ∀ b o, hp.get? b = some o → ((hp.push (PySem.W.kdv_tup [u])).push (PySem.HandSPX.excO C hp.objs.size)).get? b = some o := fun b o e => Heap.get?_push_of_some _ (Heap.get?_push_of_some _ e)
    have hget : ((hp.push (PySem.W.kdv_tup [u])).push (PySem.HandSPX.excO C hp.objs.size)).get? (hp.objs.size + 1) = some (PySem.HandSPX.excO C hp.objs.size) := by heap_get
    have I2 : Inv X pins σ (upd H1 (hp.objs.size + 1) (exo (hp.objs.size + 1) C none)) ⟨(hp.push (PySem.W.kdv_tup [u])).push (PySem.HandSPX.excO C hp.objs.size), g, dr, tk, os⟩ :=
      I1.laid (t' := tk) (a := hp.objs.size + 1) (o := exo (hp.objs.size + 1) C none) (h' := (hp.push (PySem.W.kdv_tup [u])).push (PySem.HandSPX.excO C hp.objs.size)) kk hsz (exo_ok hget)
    have r2 : Vals [V.ref (hp.objs.size + 1), v] [Value.ref (hp.objs.size + 1), u] := .cons rfl (.cons rv .nil)
    have hq : spErr X.K C f [V.ref (hp.objs.size + 1), v] (upd H1 (hp.objs.size + 1) (exo (hp.objs.size + 1) C none)) (fun z H2 => z = .non ∧ ∃ d, H1 d = none ∧ d ≠ hp.objs.size + 1 ∧ H2 = upd (upd (upd H1 (hp.objs.size + 1) (exo (hp.objs.size + 1) C none)) d (exd d [(f, v)])) (hp.objs.size + 1) (exo (hp.objs.size + 1) C (some d))) (fun _ _ _ => False) :=
      ⟨_, v, rfl, upd_same, fun d nd da => ⟨rfl, d, by rw [upd_ne da] at nd; exact nd, da, rfl⟩⟩
    have hl : [Value.ref (hp.objs.size + 1), u].length = ps.length := F1.len _ _ _ _ hq
    refine wpAny_call (PySem.HandSPX.call_own F.excBase_ValueError (fun Y => PySem.HandSPX.refsVE_contains Y bm hbm) (I1.kIn _ _ hC) (PySem.W.looks_findIn I1.kIn iC) (fun self => PySem.W.bind_fn I1.kIn self tI) (by rw [sizeLine_eq]; show 1 ≤ _; decide)
      (codeAny_mono (F1.run _ X.stack _ _ ⟨[Value.ref (hp.objs.size + 1), u], []⟩ [Value.ref (hp.objs.size + 1), u] _ _ (fun _ _ _ => False) (hr.make C [u] []) (I2.env0.make C [u] []) (hb _ [Value.ref (hp.objs.size + 1), u] I2.kIn hl) r2 hq) fun r s' hq' => ?_))
    cases r with
    | error er => exact pass0 (X := X) pins σ _ _ er s' I2 hq'
    | ok fl =>
      cases fl with
      | ret u2 =>
        obtain ⟨v2, H2, os2, bare2, un2, hok2, rv2, ev, d, nd, da, eH⟩ := hq'
        subst ev
        obtain ⟨h2, g2, d2, t2, os'⟩ := s'
        refine ⟨rv2, ?_⟩
        have ea : H2 (hp.objs.size + 1) = some (exo (hp.objs.size + 1) C (some d)) := by rw [eH, upd_same]
        have ed : H2 d = some (exd d [(f, v)]) := by rw [eH, upd_ne da, upd_same]
        obtain ⟨t0, G, J, kG, ge, hoe, na⟩ := mk_end0 (d2 := d2) (t2 := t2) I1 hsz kk un2 hok2 os2 bare2 ea ed nd
        refine ⟨hp.objs.size + 1, _, _, ⟨G, g2, d2, t2, os'⟩, _, .ref C, some d, rfl, J, kG, ge, hoe, ⟨rfl, rfl, fun vs e => by cases e; rfl⟩, rfl, rfl, na, rfl, bare2, raises_own T.exC T.tyC, r d _ (fun b o e => ?_) nd upd_same⟩
        have n1 : b ≠ hp.objs.size + 1 := ne_of_none e hn
        have n2 : b ≠ d := ne_of_none e nd
        rw [upd_ne n2, del_ne n1, eH, upd_ne n1, upd_ne n2, upd_ne n1]
        exact e
      | next => exact False.elim hq'
      | brk => exact False.elim hq'
      | cont => exact False.elim hq'
theorem passLN {X : Cx} : Passes (L2N.CX X.prog X.w) X E0 := fun _ _ _ _ _ _ _ h => by
  obtain ⟨_, _, _, _, _, _, _, _, _, _, _, _, z⟩ := h
  exact z.elim
theorem cxUpN {P : Program} {w : World} : StX.CXUp (L2N.CX P w) := by
  rintro outer s H s2 H2 E e s' un kp ho ⟨a, B, H', cls, d, ea, fl, hok, ub, na, os, ag, he⟩
  have hn : ∀ b : Addr, b ∉ ([] : List Addr) := fun b => by simp
  refine ⟨a, B, H', cls, d, ea, fl, hok, ?_, na, os.trans ho, ag, he⟩
  constructor
  · exact fun b o q n hb => ub.keep b o (kp b o q) (un.free b o q n (hn b)) hb
  · exact fun b o q hb => ub.slot b o (kp b o q) hb
  · exact fun b o q n => ub.free b o (kp b o q) (un.free b o q n (hn b))
  · exact fun b o q hb => ub.there b o (kp b o q) hb
  · exact fun b xs q => ub.tups b xs (un.tups b xs q)
  · exact fun b o xs q => ub.frzs b o xs (un.frzs b o xs q)
  · intro b ps q
    obtain ⟨m1, e1⟩ := un.tbls b ps q
    obtain ⟨m2, e2⟩ := ub.tbls b _ e1
    exact ⟨m1 ++ m2, by rw [e2, Array.append_assoc]⟩
theorem takes0N {X : Cx} : L2N.Takes X (fun _ _ _ _ => False) := fun _ _ ⟨_, _, _, _, _, _, _, _, _, _, _, _, _, _, _, _, w⟩ => w.elim
end
end JW
namespace AL
open PySem PySem.Spec PyProof.Rows L2 JW
theorem comp_mapA {α : Type} {g : ATG} {a : ATE} {G : Store → Prop} {p : Addr} {env : En} {Q : AQ} {L0 : Store} (f h : α → D) (hG : ∀ l, G (sput L0 p (.lst l))) : ∀ (ws : List α) (acc : List D), acc.length + ws.length ≤ sizeLine →
    (∀ w ∈ ws, ∀ (l : List D) (k : AQ), k (h w) (sput L0 p (.lst l)) → g (f w) env (sput L0 p (.lst l)) fun env1 L1 => L1 = sput L0 p (.lst l) ∧ a env1 L1 k) →
    Q (.ref p) (sput L0 p (.lst (acc ++ ws.map h))) → compA g aYes a G p env Q (ws.map f) acc (sput L0 p (.lst acc))
  | [], acc, hz, hs, q => ⟨hG acc, sput_same, by rw [List.map_nil, List.append_nil] at q; exact q⟩
  | w :: ws, acc, hz, hs, q => by
    rw [List.length_cons] at hz
    refine ⟨hG acc, sput_same, hs w List.mem_cons_self acc _ ?_⟩
    refine ⟨by omega, sput_same, ?_⟩
    rw [sput_sput]
    refine comp_mapA f h hG ws (acc ++ [h w]) (by rw [List.length_append, List.length_singleton]; omega) (fun d' h' => hs d' (List.mem_cons_of_mem _ h')) ?_
    rw [List.append_assoc]
    exact q
theorem perm_mapD {α β : Type} {f : α → β} : ∀ {ys zs : List β}, ys.Perm zs → ∀ {l : List α}, zs = l.map f → ∃ us : List α, us.Perm l ∧ ys = us.map f := by
  intro ys zs p
  induction p with
  | nil => exact fun {l} e => ⟨l, .refl _, e⟩
  | cons x p ih =>
    intro l e
    match l, e with
    | a :: l, e =>
      obtain ⟨e1, e2⟩ := List.cons.inj e
      obtain ⟨us, pu, e3⟩ := ih e2
      exact ⟨a :: us, pu.cons a, by rw [e1, e3]; rfl⟩
  | swap x y p =>
    intro l e
    match l, e with
    | a :: b :: l, e =>
      obtain ⟨e1, e2⟩ := List.cons.inj e
      obtain ⟨e3, e4⟩ := List.cons.inj e2
      exact ⟨b :: a :: l, .swap a b l, by rw [e1, e3, e4]; rfl⟩
  | trans p q ih1 ih2 =>
    intro l e
    obtain ⟨us, pu, e1⟩ := ih2 e
    obtain ⟨vs, pv, e2⟩ := ih1 e1
    exact ⟨vs, pv.trans pu, e2⟩
end AL
namespace AL
open PySem PySem.Spec PyProof.Rows L2 LamX JW
section
open PySem.SeqAt AutoSeq1 MeetsSeq MeetsSeq2 MeetsSeq3
variable {prog : Program} {w : World} {A : Around} {R : Result → Shared → Prop}
end
section
variable {X : Cx} {c : AC X.K} {k : Nat} {ps : List Str} {H : Hp} {σ : L2.St} {pins : List (Addr × Obj)}
end
end AL
namespace AL
open PySem PySem.Spec PyProof.Rows L2 LamX JW
section
variable {X : Cx} {c : AC X.K} {H : Hp} {σ : L2.St} {pins : List (Addr × Obj)}
end
end AL
namespace AL
open PySem PySem.Spec PyProof.Rows L2 LamX JW
def aRaise1 (x f : Str) (RX : AX) (a : ATE) : ATS := fun _ env L => a env L fun d L1 => ∃ L0, SubS L0 L1 ∧ RX x [(f, d)] L0
def aRaise0 (x : Str) (RX : AX) : ATS := fun _ _ L => ∃ L0, SubS L0 L ∧ RX x [] L0
section
variable {X : Cx} {c : AC X.K} {H0 : Hp} {e : Expr} {a : ATE} {pos p p2 pos2 : Pos} {k : Nat} {ps : List Str} {x f : Str} {RX : AX} {E : XK}
theorem as_raise1 (hc : X.calm = true) (tk : L2N.Takes X (fun cls d _ H => E cls d H)) (hE : Px c H0 RX E) (D : ErrD X.prog X.w X.K X.mg X.base k x (He.ga X.K x) ps (spErr X.K (He.ga X.K x) f)) (hr : Room (k + 1) X.A) (hg : Gl X x) (he : AE X c H0 e a)
    (hdb : (x == ("__debug__" : Str)) = false := by decide) (hst : starEach [e] X.env = (false, eval e X.env) :: starEach [] X.env := by rfl) (hpl : (backTo pos (starEach [] X.env)).any (·.1) = false := by rfl) :
    AS X c H0 (.Raise (some (.Call (.Name x p) [e] [] pos)) none pos2) (aRaise1 x f RX a) := by
  refine (L2N.ps_raise hc tk (pmk_errN D hr hg he hdb hst hpl)).imp fun D σ H ⟨env, L, R, rl, h, er⟩ => ?_
  refine ⟨env, L, _, rl, h, fun d L1 v H1 ⟨L0, sb, q⟩ s1 g1 r1 => fun dd H' s' nd hd => ?_⟩
  have e' : LamX.ExtN H1 H' := .of s'
  exact hE x [(f, d)] L0 H' (some dd) q ((rl.fr.trans s1).trans (.extN e')) ((g1.extN (Tabs.same g1.tabs s') e').sub sb) (.inr ⟨f, d, dd, v, rfl, rfl, hd, r1.fr (.extN e')⟩)
theorem as_raise0 (hc : X.calm = true) (tk : L2N.Takes X (fun cls d _ H => E cls d H)) (hE : Px c H0 RX E) (D : ErrD X.prog X.w X.K X.mg X.base k x (He.ga X.K x) ps (spErr0 X.K (He.ga X.K x))) (hr : Room (k + 1) X.A) (hg : Gl X x) (hdb : (x == ("__debug__" : Str)) = false := by decide) :
    AS X c H0 (.Raise (some (.Call (.Name x p) [] [] pos)) none pos2) (aRaise0 x RX) := by
  refine (L2N.ps_raise hc tk (pmk_err0N D hr hg hdb)).imp fun D σ H ⟨env, L, R, rl, h, er⟩ => ?_
  obtain ⟨L0, sb, h⟩ := h
  exact hE x [] L0 H none h rl.fr (rl.good.sub sb) (.inl ⟨rfl, rfl⟩)
end
section
variable {P : Program} {w : World} {K : PySem.W.Frag} {mg : Str → Option Value} {base : Heap} {c : AC K} {m qual : Str} {st : Stmt} {N ps : List Str} {k : Nat} {asp : ASp} {C : Addr}
theorem _root_.JW.MethAt.okAX {a : AX → ATS} (D : MethAt K C m qual st ps) (S : FnScope N ps (defScope st)) (hl : ∀ ds L R RX, asp ds L R RX → ds.length = ps.length)
    (body : ∀ (f : Addr) (cdv : Value) (A : Around) (outer : List Env) (s : Shared) (H : Hp) (E : XK) (RX : AX), Px c H RX E → Room k (A.deeper (envOfC qual (defScope st) s.heap.objs.size f cdv)) → ASs (cxOf (L2N.CX P w) P w K mg base N qual (defScope st) f cdv A outer s H E) c H (defBody st) (a RX))
    (vc : ∀ ds L R RX, asp ds L R RX → a RX (fnEnds R) (startA N ds) L) : MethD P w K mg base (L2N.CX P w) (k + 1) C m ps [] (spA c asp) :=
  D.okX S (spA_len hl) fun f cdv A outer s H vs Q E hr ⟨ds, L, R, RX, r, g, h, pq, px⟩ => ⟨_, body f cdv A outer s H E RX px hr, body_low r g pq (vc ds L R RX h)⟩
end
end AL
namespace AL
open PySem PySem.Spec PyProof.Rows L2 LamX JW
structure PassA (X : Cx) (c : AC X.K) (H0 : Hp) (RXe : En → AX) : Prop where
  ex : ∃ E : L2.St → XK, (∀ σ, PassesAt (L2N.CX X.prog X.w) X σ (E σ)) ∧ ∀ σ H env L, Rl c H0 σ H env L → Px c H (RXe env) (E σ)
section
variable {X : Cx} {c : AC X.K} {H0 : Hp}
theorem passA_of {RX : AX} {E : XK} (h : Passes (L2N.CX X.prog X.w) X E) (k : Px c H0 RX E) : PassA X c H0 fun _ => RX :=
  ⟨fun _ => E, fun σ => passN h σ, fun _ _ _ _ rl => k.fr rl.fr⟩
theorem passA_no : PassA X c H0 fun _ => noX := passA_of (JW.passLN (X := X)) px_no
end
def aCallP (asp : ASp) (RXe : En → AX) (as : ATA) : ATE := fun env L Q => as env L fun ds L1 => asp ds L1 Q (RXe env)
def recv (K : PySem.W.Frag) (C : Addr) (m : Str) : D → Store → Prop
  | .tree _, _ => C = cF K ∧ m ∉ [("written" : Str), "branches", "numbers"]
  | .obj C' ks _, _ => C' = C ∧ m ∉ ks
  | .ref p, L => ∃ ks ds, L p = some (.ins C ks ds) ∧ m ∉ ks
  | _, _ => False
theorem zip_lookup {ks : List Str} {m : Str} (h : m ∉ ks) : ∀ vs : List V, (ks.zip vs).lookup m = none := by
  induction ks with
  | nil => intro vs; rfl
  | cons k ks ih =>
    intro vs
    cases vs with
    | nil => rfl
    | cons v vs =>
      have h1 : (m == k) = false := beq_eq_false_iff_ne.mpr fun e => h (e ▸ List.mem_cons_self)
      show (match m == k with | true => some v | false => (ks.zip vs).lookup m) = none
      rw [h1]
      exact ih (fun z => h (List.mem_cons_of_mem _ z)) vs
theorem flds_lookup {m : Str} (h : m ∉ [("written" : Str), "branches", "numbers"]) (t : T) (b n : Addr) : (flds t b n).lookup m = none := by
  have e : flds t b n = [("written" : Str), "branches", "numbers"].zip ((flds t b n).map (·.2)) := rfl
  rw [e]
  exact zip_lookup h _
theorem recv_low {K : PySem.W.Frag} {c : AC K} {C : Addr} {m : Str} {d : D} {v : V} {L : Store} {H : Hp} (r : Rep c H d v) (g : Good c L H) (h : recv K C m d L) : ∃ p dx fs, v = .ref p ∧ H p = some (.ins C dx fs) ∧ fs.lookup m = none := by
  unfold recv at h
  split at h
  · obtain ⟨rfl, hm⟩ := h
    obtain ⟨p, dx, b, n, vs, rfl, h1, _⟩ := ftn_iff.mp (rep_tree.mp r)
    exact ⟨p, dx, _, rfl, h1, flds_lookup hm _ _ _⟩
  · obtain ⟨rfl, hm⟩ := h
    obtain ⟨p, dx, vs, rfl, h1, _⟩ := rep_obj.mp r
    exact ⟨p, dx, _, rfl, h1, zip_lookup hm _⟩
  · obtain ⟨ks, ds, h1, hm⟩ := h
    cases rep_ref.mp r
    obtain ⟨dx, vs, e, _⟩ := g.st _ _ h1
    exact ⟨_, dx, _, rfl, e, zip_lookup hm _⟩
  · exact h.elim
def aMethP (K : PySem.W.Frag) (C : Addr) (m : Str) (asp : ASp) (RXe : En → AX) (a : ATE) (as : ATA) : ATE := fun env L Q => a env L fun d L1 => recv K C m d L1 ∧ as env L1 fun ds L2 => asp (d :: ds) L2 Q (RXe env)
def aBinP (asp : ASp) (RXe : En → AX) (a b : ATE) : ATE := fun env L Q => a env L fun d L1 => b env L1 fun e L2 => match d, e with
  | .tree t, .tree u => asp [.tree t, .tree u] L2 (fun z L' => isNonD z = false ∧ Q z L') (RXe env)
  | _, _ => False
section
variable {X : Cx} {CX : CXT} {k : Nat} {f C : Addr} {fd : FuncData} {ps : List Str} {sp : Sp} {dvs : List V} {ds : List Value} {E : L2.St → XK} {x m : Str} {p pos apos : Pos} {e o a b : Expr} {es : List Expr} {ta tb : TE} {t : TA}
end
section
variable {X : Cx} {c : AC X.K} {H0 : Hp} {e o f : Expr} {es : List Expr} {a b : ATE} {as : ATA} {x m : Str} {p p1 p2 pos apos : Pos} {k : Nat} {ps : List Str} {asp : ASp} {RXe : En → AX} {dvs : List V} {dd : List D} {C : Addr}
theorem ae_callP (C : CallD X.prog X.w X.K X.mg X.base (L2N.CX X.prog X.w) k x ps [] (spA c asp)) (hr : Room k X.A) (hg : Gl X x) (hp : PassA X c H0 RXe) (ha : AA X c H0 (e :: es) as) (hdb : (x == ("__debug__" : Str)) = false := by decide)
    (he : starEach (e :: es) X.env = (false, eval e X.env) :: starEach es X.env := by rfl) (hpl : (backTo pos (starEach es X.env)).any (·.1) = false := by rfl) : AE X c H0 (.Call (.Name x p) (e :: es) [] pos) (aCallP asp RXe as) := by
  obtain ⟨E, h1, h2⟩ := hp.ex
  refine (pe_callDS C hr hg h1 ha hdb he hpl).imp fun σ H Q ⟨env, L, R, rl, h, pq⟩ => ?_
  refine ⟨env, L, _, rl, h, fun ds L1 vs H1 q s1 g1 r1 => ?_⟩
  show spA c asp (vs ++ []) H1 Q (E σ)
  rw [List.append_nil]
  exact ⟨ds, L1, R, RXe env, r1, g1, q, pq.fr s1, (h2 σ H env L rl).fr s1⟩
theorem ae_binP {op : Operator} (cl : ClsF X.K X.mg) (M : MethD X.prog X.w X.K X.mg X.base (L2N.CX X.prog X.w) k (cF X.K) (PySem.dunder op.info.2) ps [] (spA c asp)) (hr : Room k X.A) (hp : PassA X c H0 RXe) (ha : AE X c H0 e a) (hb : AE X c H0 f b) : AE X c H0 (.BinOp e op f pos) (aBinP asp RXe a b) := by
  obtain ⟨E, h1, h2⟩ := hp.ex
  refine (pe_binS cl.sf M hr h1 ha hb).imp fun σ H Q ⟨env, L, R, rl, h, pq⟩ => ?_
  refine ⟨env, L, _, rl, h, fun d L1 x H1 q1 s1 g1 rx => ⟨env, L1, _, rl.step s1 g1, q1, fun e L2 y H2 q2 s2 g2 ry => ?_⟩⟩
  cases d with
  | tree t =>
    cases e with
    | tree u =>
      have rx := rx.fr s2
      obtain ⟨p, dx, fs, rfl, e1⟩ := ftn_ins (rep_tree.mp rx)
      obtain ⟨q, dy, gs, rfl, e2⟩ := ftn_ins (rep_tree.mp ry)
      have f12 := s1.trans s2
      exact ⟨p, dx, fs, q, dy, gs, rfl, rfl, e1, e2, _, L2, _, RXe env, .cons rx (.one ry), g2, q2, fun z L' v H' ⟨n, r⟩ s g' rz => ⟨non_low rz n, (pq.fr f12) z L' v H' r s g' rz⟩, (h2 σ H env L rl).fr f12⟩
    | _ => exact q2.elim
  | _ => exact q2.elim
theorem ae_methP {pl : Sem Bool} {K : PySem.W.Frag} (eK : X.K = K) (cl : Cls X.K C) (M : MethD X.prog X.w X.K X.mg X.base (L2N.CX X.prog X.w) k C m ps [] (spA c asp)) (hr : Room k X.A) (hp : PassA X c H0 RXe) (he : AE X c H0 o a) (ha : AA X c H0 (e :: es) as)
    (hst : starEach (e :: es) X.env = (false, eval e X.env) :: starEach es X.env := by rfl) (hpl : (backTo pos (starEach es X.env)).any (·.1) = false := by rfl)
    (ht : eval (.Call (.Attribute o m apos) (e :: es) [] pos) X.env = (do
      let ov ← eval o X.env
      standAt apos.atName
      let (f, first) ← holding [ov] (getMethod ov m pl)
      callWith pos f first (backTo pos (starEach (e :: es) X.env)) (backToKw pos (keywordEach [] X.env))) := by rfl) : AE X c H0 (.Call (.Attribute o m apos) (e :: es) [] pos) (aMethP K C m asp RXe a as) := by
  subst eK
  obtain ⟨E, h1, h2⟩ := hp.ex
  refine (pe_methDS cl M hr h1 he ha hst hpl ht).imp fun σ H Q ⟨env, L, R, rl, h, pq⟩ => ?_
  refine ⟨env, L, _, rl, h, fun d L1 x H1 ⟨qr, q⟩ s1 g1 r1 => ?_⟩
  obtain ⟨p, dx, fs, rfl, e1, e2⟩ := recv_low r1 g1 qr
  refine ⟨p, dx, fs, rfl, e1, e2, env, L1, _, rl.step s1 g1, q, fun ds L2 us H2 q2 s2 g2 r2 => ?_⟩
  show spA c asp (V.ref p :: (us ++ [])) H2 Q (E σ)
  rw [List.append_nil]
  exact ⟨_, L2, R, RXe env, .cons (r1.fr s2) r2, g2, q2, pq.fr (s1.trans s2), (h2 σ H env L rl).fr (s1.trans s2)⟩
end
section
variable {X : Cx} {CX : CXT} {k : Nat} {f C : Addr} {fd : FuncData} {ps : List Str} {ds : List Value} {dvs : List V} {sp : Sp} {E : L2.St → XK}
end
section
variable {X : Cx} {c : AC X.K} {H0 : Hp} {e f : Expr} {a b : ATE} {pos : Pos} {k : Nat} {ps : List Str} {asp : ASp} {qual : Str} {st : Stmt} {RXe : En → AX}
end
theorem ErrR.fr {K : PySem.W.Frag} {c : AC K} {H H' : Hp} {fs : List (Str × D)} {dd : Option Addr} (h : ErrR c H fs dd) (s : Fr c H H') : ErrR c H' fs dd := by
  rcases h with h | ⟨f, d, a, v, e1, e2, e3, r⟩
  · exact .inl h
  · exact .inr ⟨f, d, a, v, e1, e2, s _ _ e3 trivial, r.fr s⟩
def untry (i : Nat) (D : AEnds) : AEnds := { nx := fun e l => D.nx (e.set i none) l, rt := D.rt, bk := fun e l => D.bk (e.set i none) l, ct := fun e l => D.ct (e.set i none) l }
def aTryAs (K : PySem.W.Frag) (C : Value) (i : Nat) (tb : (En → AX) → ATS) (ts : Addr → Str → List (Str × D) → ATS) : ATS := fun D env L =>
  tb (fun env' x fs L' => PySem.W.exmOne K (.ref (He.ga K x)) C = some true ∧ ∀ a, ts a x fs (untry i D) (env'.set i (some (.ref a))) L') D env L
section
variable {X : Cx} {c : AC X.K} {H0 : Hp} {x n : Str} {C : Value} {i : Nat} {body suite : List Stmt} {b₀ : Stmt} {np pos pos' : Pos} {tb : (En → AX) → ATS} {ts : Addr → Str → List (Str × D) → ATS}
theorem EndR.here {H : Hp} {R : AEnds} {D : Ends} {σ : L2.St} {env : En} {L : Store} (er : EndR c H0 H R D) (rl : Rl c H0 σ H env L) : EndR c H H R D :=
  ⟨fun e l s h q f r => er.nx e l s h q f ⟨r.env, r.good, rl.fr.trans r.fr⟩, er.rt, fun e l s h q f r => er.bk e l s h q f ⟨r.env, r.good, rl.fr.trans r.fr⟩, fun e l s h q f r => er.ct e l s h q f ⟨r.env, r.good, rl.fr.trans r.fr⟩⟩
theorem Rl.here {σ : L2.St} {H : Hp} {env : En} {L : Store} (rl : Rl c H0 σ H env L) : Rl c H σ H env L := ⟨rl.env, rl.good, .refl c H⟩
theorem as_tryAs {K : PySem.W.Frag} (eK : X.K = K) (hs : X.stack = X.env :: X.outer) (hf : X.env.frame = some X.env.locals) (hN : X.N.Nodup) (hi : X.N[i]? = some n) (hln : X.env.kindOf n = some .local) (hc : Names X x C)
    (hb : ∀ (pn : List (Addr × Obj)) (xe : Value → Shared → Prop) (RXe : En → AX) (H1 : Hp), PassA (X.tr pn xe) c H1 RXe → PassesOwn (model X.prog X.w) X.A X.env xe → ASs (X.tr pn xe) c H1 body (tb RXe))
    (hsu : ∀ (a : Addr) (oe : Obj) (cls : Value) (d : Option Addr) (pn : List (Addr × Obj)) (y : Str) (fs : List (Str × D)) (H1 : Hp), L2N.Zn cls d oe → (∃ vs, oe.data = .fields vs) → cls = .ref (He.ga X.K y) → ErrR c H1 fs d → ASs (X.suite a ((a, oe) :: pn)) c H1 (b₀ :: suite) (ts a y fs)) :
    AS X c H0 (.Try body [.ExceptHandler (some (.Name x np)) (some n) (b₀ :: suite) pos'] [] [] pos) (aTryAs K C i tb ts) := by
  subst eK
  refine (L2N.ps_try_as (Wout := fun _ _ _ _ => False)
    (tb := fun W D σ H => ∃ RXe H1, (∀ σ' H' env' L', Rl c H1 σ' H' env' L' → Px c H' (RXe env') (WE W σ')) ∧ lowS c H1 (tb RXe) D σ H)
    (ts := fun a cls d D σ H => ∃ y fs H1, cls = .ref (He.ga X.K y) ∧ ErrR c H1 fs d ∧ lowS c H1 (ts a y fs) D σ H)
    hs hf hN hi hln hc JW.takes0N (fun W pn xe tk po => ⟨fun pins s σ H D I ⟨RXe, H1, hp, q⟩ => (hb pn xe RXe H1 ⟨WE W, fun σ => L2N.passAt tk σ, hp⟩ po).run pins s σ H D I q⟩)
    (fun a oe cls d pn hz hfl => ⟨fun pins s σ H D I ⟨y, fs, H1, e, er, q⟩ => (hsu a oe cls d pn y fs H1 hz hfl e er).run pins s σ H D I q⟩)).imp fun D σ H ⟨env, L, R, rl, h, er⟩ => ?_
  refine ⟨_, H, fun σ' H' env' L' rl' y fs L2 H2 dd ⟨e1, e2⟩ f2 g2 er2 => ?_, env, L, R, rl.here, h, er.here rl⟩
  refine ⟨true, e1, fun _ a na => ⟨y, fs, H2, rfl, er2, _, _, _, ⟨(rl'.env.fr f2).set i (rep_ref.mpr rfl), g2, .refl c H2⟩, e2 a, ?_⟩, fun z => Bool.noConfusion z⟩
  have f3 := rl'.fr.trans f2
  have go : ∀ {σ3 : List (Option V)} {H3 : Hp} {env3 : En} {L3 : Store}, Rl c H2 σ3 H3 env3 L3 → Rl c H0 (σ3.set i none) H3 (env3.set i none) L3 := fun {σ3 H3 env3 L3} r => ⟨r.env.unset i, r.good, rl.fr.trans (f3.trans r.fr)⟩
  exact ⟨fun e l s h q f r => er.nx _ l _ h q (f3.trans f) (go r), fun d l v h q f => er.rt d l v h q (f3.trans f), fun e l s h q f r => er.bk _ l _ h q (f3.trans f) (go r), fun e l s h q f r => er.ct _ l _ h q (f3.trans f) (go r)⟩
end
def aIsX (K : PySem.W.Frag) (a : Addr) (y : Str) (C : Addr) (i : Nat) : ATE := fun env L Q => env[i]? = some (some (.ref a)) ∧ ∃ b, PySem.W.kitOne K (.ref (He.ga K y)) (.ref C) = some b ∧ ExcC K (He.ga K y) ∧ Q (.bl b) L
def aXf (K : PySem.W.Frag) (a : Addr) (y : Str) (fs : List (Str × D)) (f : Str) (i : Nat) : ATE := fun env L Q => env[i]? = some (some (.ref a)) ∧ XfC K (He.ga K y) ∧ PySem.W.findIn K (.ref (He.ga K y)) f = some none ∧ ∃ d, fs = [(f, d)] ∧ Q d L
section
variable {X : Cx} {c : AC X.K} {H1 : Hp} {a : Addr} {oe : Obj} {cls : Value} {d : Option Addr} {pn : List (Addr × Obj)} {y : Str} {fs : List (Str × D)} {i : Nat} {n z f : Str} {p p1 p2 pos : Pos} {C : Addr}
theorem ErrR.xd {K : PySem.W.Frag} {c : AC K} {H : Hp} {fs : List (Str × D)} {d : Option Addr} (h : ErrR c H fs d) : ∀ dd, d = some dd → ∃ fs, H dd = some (.xd fs) := fun dd e => by
  rcases h with ⟨_, e2⟩ | ⟨f, d, a, v, e1, e2, e3, r⟩
  · rw [e2] at e
    cases e
  · rw [e2] at e
    cases e
    exact ⟨_, e3⟩
end
end AL
namespace JW
open PySem PySem.Spec PyProof.Rows L2
def Calm (A : Around) : Prop := A.guards = some []
theorem Calm.deeper {A : Around} {env : Env} (h : Calm A) : Calm (A.deeper env) := by
  obtain ⟨hd, d, fr, gs, u⟩ := A
  have h : gs = some [] := h
  subst h
  simp [Calm, Around.deeper, Around.over, guardsOf, pushGuards, Code.guards, Code.isGuard]
structure FnOkG (P : Program) (w : World) (K : PySem.W.Frag) (mg : Str → Option Value) (base : Heap) (cx : CXT) (k : Nat) (f : Addr) (fd : FuncData) (ps : List Str) (sp : Sp) : Prop where
  len : ∀ vs H Q E, sp vs H Q E → vs.length = ps.length
  go : ∀ (A : Around) (outs : List Env) (s : Shared) (H : Hp) (args : Args) (us : List Value) (vs : List V) (Q : VK) (E : XK), Calm A → Room k A → Env0 P w K mg base A outs s H → BindsTo s fd args (ps.zip us) → Vals vs us → sp vs H Q E →
    codeAny (model P w) A (.call (.ref f) args) (CR cx outs P w H s Q E) s
structure CallDG (P : Program) (w : World) (K : PySem.W.Frag) (mg : Str → Option Value) (base : Heap) (cx : CXT) (k : Nat) (x : Str) (ps : List Str) (sp : Sp) : Prop where
  ex : ∃ f fd, mg x = some (.ref f) ∧ PySem.W.keepIn K (.ref f) = true ∧ Binds K fd ps [] ∧ FnOkG P w K mg base cx k f fd ps sp
section
variable {P : Program} {w : World} {K : PySem.W.Frag} {mg : Str → Option Value} {base : Heap} {x qual : Str} {params : Arguments} {body : List Stmt} {scope : Scope} {dvs : List V} {kws : List (Str × V)} {f : Addr} {fd : FuncData}
theorem CallDG.mono {cx : CXT} {j k : Nat} {x : Str} {ps : List Str} {sp : Sp} (c : CallDG P w K mg base cx j x ps sp) (h : j ≤ k) : CallDG P w K mg base cx k x ps sp := by
  obtain ⟨f, fd, h1, h2, h3, F⟩ := c.ex
  exact ⟨f, fd, h1, h2, h3, F.len, fun A outs s H args us vs Q E hA hr => F.go A outs s H args us vs Q E hA (hr.mono h)⟩
end
section
variable {X : Cx} {cx : CXT} {k : Nat} {ps : List Str} {sp : Sp} {E : XK} {x : Str} {p pos : Pos} {e : Expr} {es : List Expr} {t : TA}
end
section
variable {P : Program} {w : World} {K : PySem.W.Frag} {mg mb : Str → Option Value} {cx : CXT} {k : Nat} {fa a : Addr} {ts : List (Addr × Addr)} {fd : FuncData} {x : Str} {sp : Sp} {s1 : Shared} {vs : List Value} {ns : List Int}
end
end JW
namespace AL
open PySem PySem.Spec PyProof.Rows L2 LamX JW
section
variable {P : Program} {w : World} {K : PySem.W.Frag} {mg : Str → Option Value} {base : Heap} {c : AC K} {x qual : Str} {st : Stmt} {N ps : List Str} {k : Nat} {asp : ASp}
end
section
variable {X : Cx} {c : AC X.K} {H0 : Hp} {e : Expr} {es : List Expr} {as : ATA} {x : Str} {p pos : Pos} {k : Nat} {ps : List Str} {asp : ASp}
end
end AL
namespace JW
open PySem PySem.Spec PyProof.Rows L2
section
variable {X : Cx} {CX : CXT} {k : Nat} {ps : List Str} {sp : Sp} {E : XK} {C : Addr}
end
end JW
namespace AL
open PySem PySem.Spec PyProof.Rows L2 LamX JW
def tyM : Option MO → Option String
  | some (.lst _) => some "list"
  | some (.dct _) => some "dict"
  | _ => none
def tyN (L : Store) : D → Option String
  | .non => some "NoneType"
  | .bl _ => some "bool"
  | .int _ => some "int"
  | .str _ => some "str"
  | .tup _ => some "tuple"
  | .ref p => tyM (L p)
  | _ => none
def clsD : D → Option Value
  | .ty n => some (.type n)
  | .ref C => some (.ref C)
  | _ => none
def clsDs : List D → Option (List Value)
  | [] => some []
  | d :: ds => match clsD d, clsDs ds with
    | some u, some us => some (u :: us)
    | _, _ => none
def isiA (K : PySem.W.Frag) : List D → Store → AQ → Prop
  | [d, .tup cs], L, Q => ∃ T us b, tyN L d = some T ∧ clsDs cs = some us ∧ PySem.W.kitAny K (.type T) us = some b ∧ Q (.bl b) L
  | [.tree _, .ref C], L, Q => C = cF K ∧ Q (.bl true) L
  | [d, c], L, Q => ∃ T u b, tyN L d = some T ∧ clsD c = some u ∧ PySem.W.kitOne K (.type T) u = some b ∧ Q (.bl b) L
  | _, _, _ => False
section
variable {X : Cx} {c : AC X.K}
theorem tyN_low {L : Store} {H : Hp} {d : D} {v : V} {T : String} (r : Rep c H d v) (g : Good c L H) (h : tyN L d = some T) : TyX X.K H v (.type T) := by
  cases d with
  | non => cases rep_non.mp r; cases h; exact .base .non
  | bl b => cases rep_bl.mp r; cases h; exact .base (.bl b)
  | int i => cases rep_int.mp r; cases h; exact .base (.int i)
  | str s => cases rep_str.mp r; cases h; exact .base (.str s)
  | tup l =>
    obtain ⟨p, vs, rfl, e, rs⟩ := rep_tup.mp r
    cases h
    rcases e with (e | ⟨o, e⟩) | ⟨o, its, n, e, h1, _⟩
    · exact .base (.tup e)
    · exact .fTuple e
    · exact .kTuple e h1
  | ref p =>
    cases rep_ref.mp r
    have h : tyM (L p) = some T := h
    match e : L p, h with
    | some (.lst l), h =>
      cases h
      obtain ⟨vs, e1, _⟩ := good_lst g e
      exact .base (.lst e1)
    | some (.dct l), h =>
      cases h
      obtain ⟨kvs, e1, _⟩ := g.st _ _ e
      exact .base (.dK e1)
    | none, h => cases h
    | some (.ins _ _ _), h => cases h
    | some (.opq _), h => cases h
    | some (.lsq _), h => cases h
  | ty n => cases h
  | scr => cases h
  | tree t => cases h
  | obj C ks ds => cases h
  | err C ks ds => cases h
theorem clsD_low {H : Hp} {d : D} {v : V} {u : Value} (r : Rep c H d v) (h : clsD d = some u) : ClsV v u := by
  cases d with
  | ty n => cases rep_ty.mp r; cases h; exact .ty n
  | ref p => cases rep_ref.mp r; cases h; exact .own p
  | _ => cases h
theorem clsDs_low {H : Hp} : ∀ {ds : List D} {vs : List V} {us : List Value}, RepL c H ds vs → clsDs ds = some us → Paired ClsV vs us
  | [], vs, us, r, h => by
    cases repL_nil.mp r
    cases h
    exact .nil
  | d :: ds, vs, us, r, h => by
    obtain ⟨v, vr, rfl, r1, r2⟩ := repL_cons.mp r
    unfold clsDs at h
    split at h
    · rename_i u ur e1 e2
      cases h
      exact .cons (clsD_low r1 e1) (clsDs_low r2 e2)
    · cases h
def rIsiF (K : PySem.W.Frag) (xs : List V) (H : Hp) (Q : VK) : Prop := ∃ (x : V) (tp : Addr) (o : Obj) (cs : List V) (t : Value) (us : List Value) (b : Bool), xs = [x, .ref tp] ∧ H tp = some (.frz o (.tup cs)) ∧ Paired ClsV cs us ∧ TyX K H x t ∧ PySem.W.kitAny K t us = some b ∧ Q (.bl b) H
theorem call_isiF : CallR X (.builtin "isinstance") (rIsiF X.K) := by
  intro pins s σ H xs us Q I r h
  obtain ⟨x, tp, o, cs, t, ws, b, rfl, hT, k, ty, e, q⟩ := h
  obtain ⟨u1, u2, rfl, r1, r2⟩ := vals2 r
  cases (show u2 = Value.ref tp from r2)
  obtain ⟨P, Z, p, hx⟩ := kit_of I r1 ty
  obtain ⟨_, _, its, rv, ob, h1, h2, n, h3⟩ := (show ObjOk X.prog X.w H s.heap tp (.frz o (.tup cs)) from I.hok tp _ hT)
  cases ClsV.all k rv
  obtain ⟨oc, od, dt, sl⟩ := ob
  cases h2
  cases h3
  exact PySem.W.kia_tup Z I.kIn p h1 e hx fun tk => ⟨.bl b, H, I.tok tk, rfl, q⟩
theorem acb_isiA {K : PySem.W.Frag} (eK : X.K = K) (cl : ClsF X.K X.mg) : ACB X c (.builtin "isinstance") (isiA K) := by
  subst eK
  refine ACB.mk' (r := fun vs H Q => rIsi X.K vs H Q ∨ (rIsiT X.K vs H Q ∨ (rIsiF X.K vs H Q ∨ rIsiK X.K vs H Q))) (fun pins s σ H xs us Q I rv h => h.elim (call_isi pins s σ H xs us Q I rv) fun h => h.elim (call_isiT pins s σ H xs us Q I rv) fun h => h.elim (call_isiF pins s σ H xs us Q I rv) (call_isiK pins s σ H xs us Q I rv)) fun vs H Q ds L R r g h pq => ?_
  unfold isiA at h
  split at h
  · obtain ⟨T, us, b, e1, e2, e3, h⟩ := h
    obtain ⟨v, w, rfl, r1, r2⟩ := repL_two r
    obtain ⟨p, ws, rfl, e, rs⟩ := rep_tup.mp r2
    rcases e with (e | ⟨o, e⟩) | ⟨o, its, n, e, h1, hz⟩
    · exact .inr (.inl ⟨v, p, ws, _, us, b, rfl, e, clsDs_low rs e2, tyN_low r1 g e1, e3, pq.here h g (rep_bl.mpr rfl)⟩)
    · exact .inr (.inr (.inl ⟨v, p, o, ws, _, us, b, rfl, e, clsDs_low rs e2, tyN_low r1 g e1, e3, pq.here h g (rep_bl.mpr rfl)⟩))
    · obtain ⟨hs, _, rv⟩ := hz
      have eu := ClsV.all (clsDs_low rs e2) rv
      obtain ⟨oc, od, dt, sl⟩ := o
      cases h1
      cases hs
      exact .inr (.inr (.inr ⟨v, p, od, us, n, sl, _, b, rfl, by rw [e, ← eu], tyN_low r1 g e1, e3, pq.here h g (rep_bl.mpr rfl)⟩))
  · obtain ⟨hc, h⟩ := h
    obtain ⟨v, w, rfl, r1, r2⟩ := repL_two r
    cases rep_ref.mp r2
    subst hc
    obtain ⟨a, dx, b, n, vs, rfl, ha, _⟩ := ftn_iff.mp (rep_tree.mp r1)
    exact .inl ⟨_, _, _, _, true, rfl, .own _, cl.ty ha, isi_self, pq.here h g (rep_bl.mpr rfl)⟩
  · obtain ⟨T, u, b, e1, e2, e3, h⟩ := h
    obtain ⟨v, w, rfl, r1, r2⟩ := repL_two r
    exact .inl ⟨_, _, _, _, b, rfl, clsD_low r2 e2, tyN_low r1 g e1, e3, pq.here h g (rep_bl.mpr rfl)⟩
  · exact h.elim
end
section
variable {X : Cx} {c : AC X.K} {k : Nat} {ps : List Str} {asp : ASp} {qual : Str} {st : Stmt}
end
end AL
namespace JW
open PySem PySem.Spec PyProof.Rows L2 Builtin Builtin.Str
mutual
theorem codes_in : ∀ (t : T) (c : Nat), c ∈ t.codes → c = 40 ∨ c = 41 ∨ c = 111
  | .jet, c, h => .inr (.inr (List.mem_singleton.mp h))
  | .bas l, c, h => by
    have h : c ∈ 40 :: (codesL l ++ [41]) := h
    rcases List.mem_cons.mp h with e | h
    · exact .inl e
    · rcases List.mem_append.mp h with h | h
      · exact codesL_in l c h
      · exact .inr (.inl (List.mem_singleton.mp h))
theorem codesL_in : ∀ (l : List T) (c : Nat), c ∈ codesL l → c = 40 ∨ c = 41 ∨ c = 111
  | [], c, h => absurd h List.not_mem_nil
  | t :: l, c, h => by
    have h : c ∈ t.codes ++ codesL l := h
    rcases List.mem_append.mp h with h | h
    · exact codes_in t c h
    · exact codesL_in l c h
end
end JW
namespace AL
open PySem PySem.Spec PyProof.Rows L2 JW
theorem tx_length (t : T) : (tx t).length + t.jts = 2 * t.size := by
  have h := (codes_len t).1
  have e : (tx t).length = t.codes.length := by
    show (SX.S t.codes).length = _
    rw [SX.S_len]
  rw [e]
  exact h
end AL
namespace JW
open PySem PySem.Spec PyProof.Rows L2
section
variable {X : Cx} {CX : CXT} {k : Nat} {f C : Addr} {fd : FuncData} {ps : List Str} {sp : Sp} {dvs : List V} {ds : List Value} {E : L2.St → XK} {x : Str} {p pos : Pos} {e : Expr} {es : List Expr} {t : TA}
end
theorem kitAny_nil {K : PySem.W.Frag} {t : Value} : PySem.W.kitAny K t [] = some false := rfl
theorem kitAny_f {K : PySem.W.Frag} {t u : Value} {us : List Value} {b : Bool} (h : PySem.W.kitOne K t u = some false) (h2 : PySem.W.kitAny K t us = some b) : PySem.W.kitAny K t (u :: us) = some b := by
  unfold PySem.W.kitAny
  rw [h]
  exact h2
theorem kitAny_t {K : PySem.W.Frag} {t u : Value} {us : List Value} (h : PySem.W.kitOne K t u = some true) : PySem.W.kitAny K t (u :: us) = some true := by
  unfold PySem.W.kitAny
  rw [h]
end JW
namespace AL
open PySem PySem.Spec PyProof.Rows L2 LamX JW
section
variable {X : Cx} {c : AC X.K} {H0 : Hp} {e : Expr} {es : List Expr} {as : ATA} {x : Str} {p pos : Pos} {k : Nat} {ps : List Str} {asp : ASp} {RXe : En → AX} {dvs : List V} {C : Addr} {sp : Sp}
end
section
variable {X : Cx} {c : AC X.K} {H1 : Hp} {a : Addr} {oe : Obj} {cls : Value} {d : Option Addr} {pn : List (Addr × Obj)} {y : Str} {fs : List (Str × D)} {i : Nat} {n : Str} {p p1 p2 pos : Pos} {es : List Expr} {Cs : List Addr}
end
end AL
namespace AL
open PySem PySem.Spec PyProof.Rows L2 LamX JW
section
variable {X : Cx} {c : AC X.K} {H0 : Hp} {e : Expr} {as : ATA} {p pos tpos : Pos} {elts : List Expr} {kk : Nat}
end
end AL
namespace GK
open PySem PySem.Spec PyProof.Rows L2 LamX JW AL
section
variable {X : Cx} {c : AC X.K} {pins : List (Addr × Obj)} {env : En} {L : Store} {H : Hp} {s : Shared}
end
section
variable {X : Cx} {c : AC X.K} {e f : Expr} {a b : ATE} {as : ATA} {es : List Expr} {t : ATT} {pos p : Pos}
variable {x : Str} {C : Addr} {ps : List Str} {dvs : List V} {sp : Sp} {asp : ASp} {k : Nat}
end
end GK
namespace GK
open PySem PySem.Spec PyProof.Rows L2 LamX JW AL
section
variable {X : Cx} {c : AC X.K} {pins : List (Addr × Obj)} {env : En} {L : Store} {H : Hp} {s : Shared} {R : AQ} {f : Addr} {fd : FuncData} {ps : List Str} {asp : ASp} {k : Nat}
end
section
variable {X : Cx} {c : AC X.K} {e : Expr} {es : List Expr} {as : ATA} {a : ATE} {x : Str} {p pos : Pos} {ps : List Str} {asp : ASp} {k : Nat}
end
end GK
namespace GK
open PySem PySem.Spec PyProof.Rows L2 LamX JW AL
section
variable {P : Program} {w : World} {K : PySem.W.Frag} {mg : Str → Option Value} {base : Heap} {c : AC K} {x qual : Str} {st : Stmt} {N ps : List Str} {k : Nat} {asp : ASp}
end
end GK
namespace GK
open PySem PySem.Spec PyProof.Rows L2 LamX JW AL
section
variable {X : Cx} {c : AC X.K}
end
end GK
namespace GK
open PySem PySem.Spec PyProof.Rows L2 LamX JW AL
section
variable {X : Cx} {c : AC X.K} {pins : List (Addr × Obj)} {env : En} {L : Store} {H : Hp} {s : Shared} {R : AQ} {f : Addr} {fd : FuncData} {ps : List Str} {asp : ASp} {k : Nat}
end
section
variable {X : Cx} {c : AC X.K} {e : Expr} {es : List Expr} {as : ATA} {a : ATE} {x : Str} {p pos : Pos} {ps : List Str} {asp : ASp} {k : Nat}
end
end GK
theorem _root_.JW.CmD.imp {P : PySem.Program} {w : PySem.World} {K : PySem.W.Frag} {mg : PySem.Str → Option PySem.Value} {base : PySem.Heap} {CX : L2.CXT} {k : Nat} {C : PySem.Addr} {m : PySem.Str} {ps : List PySem.Str} {sp sp' : L2.Sp} (M : JW.CmD P w K mg base CX k C m ps sp) (h : ∀ vs H Q E, sp' vs H Q E → sp vs H Q E) : JW.CmD P w K mg base CX k C m ps sp' := by
  obtain ⟨mc, p, f, fd, h1, h2, h3, F⟩ := M.ex
  exact ⟨mc, p, f, fd, h1, h2, h3, F.imp h⟩
namespace GK
open PySem PySem.Spec PyProof.Rows L2 LamX JW AL
section
variable {X : Cx} {c : AC X.K} {e : Expr} {es : List Expr} {as : ATA} {x : Str} {p pos : Pos} {k : Nat} {ps : List Str} {asp : ASp}
end
end GK
namespace GK
open PySem PySem.Spec PyProof.Rows L2 LamX JW AL
section
variable {X : Cx} {c : AC X.K} {pins : List (Addr × Obj)} {env : En} {L : Store} {H : Hp} {s : Shared} {kk : Nat}
end
end GK
namespace GK
open PySem PySem.Spec PyProof.Rows L2 LamX JW AL
section
variable {X : Cx} {c : AC X.K} {pins : List (Addr × Obj)} {env : En} {L : Store} {H : Hp} {s : Shared}
end
section
variable {X : Cx} {c : AC X.K} {e : Expr} {es : List Expr} {as : ATA} {a : ATE} {pos : Pos}
end
end GK
namespace GK
open PySem PySem.Spec PyProof.Rows L2 LamX JW AL
section
variable {X : Cx} {c : AC X.K} {e f : Expr} {a b : ATE} {as : ATA} {es : List Expr} {t : ATT} {pos p : Pos} {x : Str} {C : Addr} {ps : List Str} {dvs : List V} {sp : Sp} {asp : ASp} {k : Nat}
end
end GK
namespace JW
open PySem PySem.Spec PyProof.Rows L2
end JW
namespace AL
open PySem PySem.Spec PyProof.Rows L2 LamX JW
section
variable {X : Cx} {c : AC X.K} {H0 : Hp} {e e2 : Expr} {as : ATA} {dv : ATE} {p pos kp : Pos} {x : Str}
end
end AL
namespace GK
open PySem PySem.Spec PyProof.Rows L2 LamX JW AL
section
variable {P : Program} {w : World} {K : PySem.W.Frag} {mg : Str → Option Value} {base : Heap} {c : AC K} {x qual : Str} {st : Stmt} {N ps : List Str} {k : Nat} {asp : ASp}
end
end GK
namespace AL
open PySem PySem.Spec PyProof.Rows L2 LamX JW
def sackM (g : Addr) : MO := .opq fun o => ∃ a b c : Int, o = .dK (sackD g a b c)
def intsM (ns : List Int) : MO := .lst (ns.map .int)
def SkAt (L : Store) (d g : Addr) : Prop := d ≠ g ∧ L d = some (sackM g) ∧ ∃ ns, L g = some (intsM ns)
def Sk (g : Addr) (L L' : Store) : Prop := ∀ p m, p ≠ g → L p = some m → L' p = some m
section
variable {L L1 L2 : Store} {d g p : Addr} {m : MO} {ns : List Int}
theorem Sk.refl (g : Addr) (L : Store) : Sk g L L := fun _ _ _ h => h
theorem Sk.trans (a : Sk g L L1) (b : Sk g L1 L2) : Sk g L L2 := fun p m n h => b p m n (a p m n h)
theorem Sk.of (s : SubS L L1) : Sk g L L1 := fun p m _ h => s p m h
theorem Sk.new (a : Sk g L L1) (hp : L1 p = none) : Sk g L (sput L1 p m) := fun q n ne h => sput_old (a q n ne h) hp
theorem Sk.at (a : Sk g L L1) : Sk g L (sput L1 g m) := fun q n ne h => by rw [sput_ne ne]; exact a q n ne h
theorem Sk.put (a : Sk g L L1) (hp : L p = none) : Sk g L (sput L1 p m) := fun q n ne h => by
  rw [sput_ne fun e => by rw [e, hp] at h; cases h]
  exact a q n ne h
theorem Sk.nil (a : Sk g L L1) (ne : p ≠ g) (hp : L1 p = none) : L p = none := by
  cases e : L p with
  | none => rfl
  | some m => rw [a p m ne e] at hp; cases hp
theorem SkAt.ne (h : SkAt L d g) (hp : L p = none) : p ≠ d ∧ p ≠ g := by
  obtain ⟨_, h1, ns, h2⟩ := h
  exact ⟨fun e => (by rw [e, h1] at hp; cases hp), fun e => (by rw [e, h2] at hp; cases hp)⟩
theorem SkAt.new (h : SkAt L d g) (hp : L p = none) : SkAt (sput L p m) d g := by
  obtain ⟨n1, n2⟩ := h.ne hp
  obtain ⟨n, h1, ns, h2⟩ := h
  exact ⟨n, by rw [sput_ne n1.symm]; exact h1, ns, by rw [sput_ne n2.symm]; exact h2⟩
theorem SkAt.at (h : SkAt L d g) (ns : List Int) : SkAt (sput L g (intsM ns)) d g := by
  obtain ⟨n, h1, _⟩ := h
  exact ⟨n, by rw [sput_ne n]; exact h1, ns, sput_same⟩
theorem SkAt.sub (h : SkAt L d g) (s : SubS L L1) : SkAt L1 d g := ⟨h.1, s _ _ h.2.1, let ⟨ns, e⟩ := h.2.2; ⟨ns, s _ _ e⟩⟩
theorem Sk.end (a : Sk g L L1) (h : SkAt L1 d g) {R : AQ} {x : D} (r : ∀ ns, R x (sput L g (intsM ns))) : ∃ L0, SubS L0 L1 ∧ R x L0 := by
  obtain ⟨_, _, ns, e⟩ := h
  refine ⟨sput L g (intsM ns), fun p m q => ?_, r ns⟩
  by_cases z : p = g
  · subst z
    rw [sput_same] at q
    cases q
    exact e
  · rw [sput_ne z] at q
    exact a p m z q
end
section
variable {K : PySem.W.Frag} {c : AC K} {H H' : Hp} {L : Store} {d g : Addr}
end
theorem comp_inv {α : Type} {g : ATG} {a : ATE} {G : Store → Prop} {p : Addr} {env : En} {Q : AQ} (f : α → D) (ws : List α) (I : List α → List D → Store → Prop) (hz : ws.length ≤ sizeLine)
    (hG : ∀ pre acc L, I pre acc L → G L ∧ L p = some (.lst acc) ∧ acc.length = pre.length)
    (step : ∀ (pre : List α) w (rest : List α) acc L (k : AQ), ws = pre ++ w :: rest → I pre acc L → (∀ x L3, L3 p = some (.lst acc) → I (pre ++ [w]) (acc ++ [x]) (sput L3 p (.lst (acc ++ [x]))) → k x L3) → g (f w) env L fun env1 L1 => L1 = L ∧ a env1 L1 k)
    (fin : ∀ acc L, I ws acc L → Q (.ref p) L) : ∀ L, I [] [] L → compA g aYes a G p env Q (ws.map f) [] L := by
  have : ∀ (rest pre : List α) acc, ws = pre ++ rest → ∀ L, I pre acc L → compA g aYes a G p env Q (rest.map f) acc L := by
    intro rest
    induction rest with
    | nil =>
      intro pre acc e L h
      rw [List.append_nil] at e
      obtain ⟨h1, h2, _⟩ := hG _ _ _ h
      exact ⟨h1, h2, fin acc L (by rw [e]; exact h)⟩
    | cons w rest ih =>
      intro pre acc e L h
      obtain ⟨h1, h2, h3⟩ := hG _ _ _ h
      refine ⟨h1, h2, ?_⟩
      have hl : acc.length < sizeLine := by
        have e2 := congrArg List.length e
        rw [List.length_append, List.length_cons] at e2
        omega
      exact step pre w rest acc L _ e h fun x L3 h4 h5 => ⟨hl, h4, ih (pre ++ [w]) (acc ++ [x]) (by rw [List.append_assoc]; exact e) _ h5⟩
  exact this ws [] [] rfl
theorem cutD_init {α : Type} {f : α → D} (a : List α) (x : α) : cutD ((a ++ [x]).map f) none (some (-1)) = a.map f := by
  unfold cutD
  have e1 : HT.sIx ((a ++ [x]).map f).length 0 none = 0 := rfl
  have e2 : HT.sIx ((a ++ [x]).map f).length ((a ++ [x]).map f).length (some (-1)) = a.length := by
    unfold HT.sIx
    simp
    omega
  rw [e1, e2, List.drop_zero, Nat.sub_zero, List.map_append, List.take_left' (by rw [List.length_map])]
end AL
namespace JW
end JW
namespace AL
open PySem PySem.Spec PyProof.Rows L2 LamX JW
section
variable {X : Cx} {c : AC X.K} {k : Nat} {ps : List Str} {pins : List (Addr × Obj)} {σ : L2.St} {H : Hp}
end
theorem kit_b {K : PySem.W.Frag} {n m : String} {r : Bool} (h : L2.kitB n m = some r) : PySem.W.kitOne K (.type n) (.type m) = some r := kit_ty h
end AL
namespace AL
open PySem PySem.Spec PyProof.Rows L2 LamX JW
section
variable {X : Cx} {c : AC X.K}
end
end AL
namespace AL
open PySem PySem.Spec PyProof.Rows L2 LamX JW
section
variable {K : PySem.W.Frag} {c : AC K} {H : Hp} {L : Store}
theorem walkA_zipT {p q : Addr} {l m : List D} {vs ws : List V} (e : SqT K H p vs) (e' : SqT K H q ws) (rs : RepL c H l vs) (rs' : RepL c H m ws) : WalkA c (RZ.ItzT K p q) (zipD l m) yes H := by
  have hl : (zipD l m).length = min l.length m.length := by
    unfold zipD
    rw [List.length_zipWith]
  refine ⟨fun H' => Fr c H H', ?_, fun L' H' s g' e' => s⟩
  rw [hl]
  refine ⟨fun i H' hi s => ?_, fun H' s => ⟨vs, ws, sqT_fr s e, sqT_fr s e', by rw [rs.len, rs'.len]; omega⟩, fun i H1 x H2 hi s y => ?_⟩
  · have h1 : i < vs.length := by rw [rs.len]; omega
    have h2 : i < ws.length := by rw [rs'.len]; omega
    exact ⟨vs, ws, vs[i], ws[i], sqT_fr s e, sqT_fr s e', List.getElem?_eq_getElem h1, List.getElem?_eq_getElem h2⟩
  · obtain ⟨T, v, w, rfl, hT, rfl, y1, y2⟩ := y
    obtain ⟨d, e4, r⟩ := (rs.fr s).getV (y1 vs (sqT_fr s e))
    obtain ⟨d2, e5, r5⟩ := (rs'.fr s).getV (y2 ws (sqT_fr s e'))
    obtain ⟨f1, f2, f3⟩ := pair_new hT r r5
    exact ⟨f1, f2, _, zipD_get e4 e5, f3⟩
end
section
variable {X : Cx} {c : AC X.K} {H0 : Hp} {e f : Expr} {as : ATA} {p pos tpos : Pos} {elts : List Expr} {kk : Nat}
end
theorem zipD_self : ∀ l : List D, zipD l l = l.map fun d => .tup [d, d]
  | [] => rfl
  | d :: l => by
    show D.tup [d, d] :: zipD l l = _
    rw [zipD_self l]
    rfl
theorem depD_mem {d : D} : ∀ {l : List D}, d ∈ l → depD d ≤ depDL l
  | x :: l, h => by
    show depD d ≤ max (depD x) (depDL l)
    rcases List.mem_cons.mp h with e | e
    · rw [e]; omega
    · have := depD_mem e
      omega
mutual
def alkD : D → Bool
  | .non => true
  | .bl _ => true
  | .int _ => true
  | .str z => decide (z.length ≤ 1000000)
  | .tup l => decide (l.length ≤ 10000) && alkL l
  | _ => false
def alkL : List D → Bool
  | [] => true
  | d :: l => alkD d && alkL l
end
theorem alkL_mem : ∀ {l : List D}, alkL l = true → ∀ d ∈ l, alkD d = true
  | x :: l, h, d, hd => by
    have h : (alkD x && alkL l) = true := h
    rw [Bool.and_eq_true] at h
    rcases List.mem_cons.mp hd with e | e
    · rw [e]; exact h.1
    · exact alkL_mem h.2 d e
theorem alkL_of : ∀ {l : List D}, (∀ d ∈ l, alkD d = true) → alkL l = true
  | [], _ => rfl
  | x :: l, h => by
    show (alkD x && alkL l) = true
    rw [h x List.mem_cons_self, alkL_of fun d hd => h d (List.mem_cons_of_mem _ hd)]
    rfl
end AL
namespace JW
open PySem PySem.Spec PyProof.Rows L2
section
variable {P : Program} {w : World} {K : PySem.W.Frag} {mg : Str → Option Value} {base : Heap}
theorem StarAt.okX {x qual : Str} {st : Stmt} {N ps : List Str} {pv : Str} {k : Nat} {sp : Sp} (D : StarAt K mg x qual st ps pv) (S : FnScope N (ps ++ [pv]) (defScope st))
    (hbody : ∀ (f : Addr) (cdv : Value) (A : Around) (outer : List Env) (s : Shared) (H : Hp) (vs : List V) (Q : VK) (E : XK), Room k (A.deeper (envOfC qual (defScope st) s.heap.objs.size f cdv)) → sp vs H Q E →
      ∃ t, PSs (cxOf (L2N.CX P w) P w K mg base N qual (defScope st) f cdv A outer s H E) (defBody st) t ∧ t { nx := fun _ H' => Q .non H', rt := Q } (start N vs) H) : CallS P w K mg base (L2N.CX P w) (k + 1) x (starSp ps.length sp) := by
  obtain ⟨f, fd, h1, F, hb⟩ := D.ex
  have hk := F.kp
  obtain ⟨oc, od, dV, kV, doc, pm, an, cdv, ct, osl, rfl, lk, hcd, _, _⟩ := F.ex
  exact ⟨f, h1, hk, StX.fn_star lk hcd S JW.cxUpN hb fun A outer s H vs Q E hr h => hbody f cdv A outer s H vs Q E hr h⟩
end
end JW
namespace AL
open PySem PySem.Spec PyProof.Rows L2 LamX JW
section
variable {P : Program} {w : World} {K : PySem.W.Frag} {mg : Str → Option Value} {base : Heap} {c : AC K} {x m qual : Str} {st : Stmt} {N : List Str} {k : Nat} {asp : ASp} {pv : Str}
theorem _root_.JW.StarAt.okAX {a : AX → ATS} (D : StarAt K mg x qual st [] pv) (S : FnScope N [pv] (defScope st))
    (body : ∀ (f : Addr) (cdv : Value) (A : Around) (outer : List Env) (s : Shared) (H : Hp) (E : XK) (RX : AX), Px c H RX E → Room k (A.deeper (envOfC qual (defScope st) s.heap.objs.size f cdv)) → ASs (cxOf (L2N.CX P w) P w K mg base N qual (defScope st) f cdv A outer s H E) c H (defBody st) (a RX))
    (vc : ∀ ds L R RX, asp ds L R RX → a RX (fnEnds R) (startA N ds) L) : CallS P w K mg base (L2N.CX P w) (k + 1) x (starSp 0 (spA c asp)) :=
  StarAt.okX (ps := []) D S fun f cdv A outer s H vs Q E hr ⟨ds, L, R, RX, r, g, h, pq, px⟩ => ⟨_, body f cdv A outer s H E RX px hr, body_low r g pq (vc ds L R RX h)⟩
end
section
variable {X : Cx} {c : AC X.K} {H0 : Hp} {e : Expr} {es : List Expr} {as : ATA} {x : Str} {p pos : Pos} {k : Nat} {asp : ASp} {CX : CXT} {E : XK} {RX : AX}
end
end AL
namespace L2
open PySem PySem.Spec PyProof.Rows
section
variable {X : Cx}
end
end L2
namespace AL
open PySem PySem.Spec PyProof.Rows L2 LamX JW
section
variable {X : Cx} {c : AC X.K}
end
end AL
namespace AL
open PySem PySem.Spec PyProof.Rows L2 LamX JW
theorem eqDL_map {α : Type} [DecidableEq α] {g : α → D} (hg : ∀ a b, eqDD (g a) (g b) = some (decide (a = b))) : ∀ l m : List α, ∃ b, eqDL (l.map g) (m.map g) = some b ∧ (b && l.length == m.length) = decide (l = m)
  | [], m => ⟨true, rfl, by cases m <;> simp⟩
  | a :: l, [] => ⟨true, rfl, by simp⟩
  | a :: l, b :: m => by
    obtain ⟨c, h1, h2⟩ := eqDL_map hg l m
    refine ⟨decide (a = b) && c, ?_, ?_⟩
    · show (match eqDD (g a) (g b), eqDL (l.map g) (m.map g) with | some a, some b => some (a && b) | _, _ => none) = _
      rw [hg, h1]
    · have e1 : ((a :: l).length == (b :: m).length) = (l.length == m.length) := by simp
      rw [e1, Bool.and_assoc, h2]
      by_cases ha : a = b
      · subst ha
        simp
      · simp [ha]
theorem eqSq_map {α : Type} [DecidableEq α] {g : α → D} (hg : ∀ a b, eqDD (g a) (g b) = some (decide (a = b))) {neg : Bool} {l m : List α} {L : Store} {Q : AQ} (hd : depDL (l.map g) ≤ 70) (q : Q (.bl (neg ^^ decide (l = m))) L) : eqSq neg (l.map g) (m.map g) L Q := by
  obtain ⟨b, h1, h2⟩ := eqDL_map hg l m
  refine ⟨b, h1, hd, ?_⟩
  rw [List.length_map, List.length_map, h2]
  exact q
end AL
namespace AL
open PySem PySem.Spec PyProof.Rows L2 LamX JW
section
variable {X : Cx} {c : AC X.K}
end
end AL
namespace JW
open PySem PySem.Spec PyProof.Rows
section
variable {α : Type} [DecidableEq α]
end
end JW
namespace JW
open PySem PySem.Spec PyProof.Rows
end JW
namespace JW
open PySem PySem.Spec PyProof.Rows
end JW
namespace JW
open PySem PySem.Spec PyProof.Rows
end JW
namespace JW
open PySem PySem.Spec PyProof.Rows
theorem lng_dep : ∀ t : T, t.lng ≤ t.dep := by
  apply T.ind'
  · exact Nat.le_refl _
  · intro l ih
    have hl : ∀ l : List T, (∀ t ∈ l, t.lng ≤ t.dep) → lngL l ≤ depL l := by
      intro l
      induction l with
      | nil => exact fun _ => Nat.le_refl _
      | cons t l ih =>
        intro h
        have h1 := h t List.mem_cons_self
        have h2 := ih fun u hu => h u (List.mem_cons_of_mem _ hu)
        simp only [lngL, depL]
        split <;> omega
    have := hl l ih
    show 1 + lngL l ≤ 1 + depL l
    omega
end JW
namespace AL
open PySem PySem.Spec PyProof.Rows L2 LamX JW
end AL
namespace AL
open PySem PySem.Spec PyProof.Rows L2 LamX JW
section
variable {X : Cx} {c : AC X.K} {H0 : Hp} {e : Expr} {es : List Expr} {as : ATA} {x : Str} {p pos : Pos} {k : Nat} {asp : ASp}
end
end AL
namespace PySem
namespace JWX
open Builtin Builtin.ObjectAttr PySem.HandSPX
section
open PySem.W (Looks InitBack kdv_tup)
variable {prog : Program} {w : World} {A : Around} {R : Result → Shared → Prop} {hp : Heap} {gs : Array GenState} {dr : Drawn} {tk : Nat} {os : OsState}
variable {nm qn : Str} {C N : Addr} {bs bm bmB : List Value} {hd : Bool} {sn : List Str} {sub : List Value} {ab : Bool} {col : Option Bool} {dd : Option Addr} {k0 k1 k2 k3 k5 : Option Value} {B newId initId : String}
end
end JWX
end PySem
namespace JW
open PySem PySem.Spec PyProof.Rows L2
section
variable {P : Program} {w : World} {K : PySem.W.Frag} {mg : Str → Option Value} {base : Heap} {C : Addr} {x f : Str}
end
section
variable {X : Cx} {p pos : Pos} {x f : Str} {C fI : Addr} {k : Nat} {ps : List Str} {fd : FuncData} {e : Expr} {te : TE} {kws : List Keyword} {tk : TA} {pins : List (Addr × Obj)} {σ : L2.St} {H : Hp} {s : Shared} {Q : VK}
end
section
variable {X : Cx} {p pos : Pos} {x : Str} {C : Addr} {k : Nat} {ps : List Str}
end
end JW
namespace JW
open PySem PySem.Spec PyProof.Rows L2 AL
section
variable {X : Cx} {pins : List (Addr × Obj)} {σ : L2.St} {H : Hp} {s : Shared} {a C : Addr} {fs : List (Str × V)} {o : Expr} {te : TE} {pos : Pos} {f : Str}
end
section
variable {P : Program} {w : World} {K : PySem.W.Frag} {mg : Str → Option Value} {base : Heap} {CX : CXT} {C : Addr} {x n : Str}
end
end JW
namespace AL
open PySem PySem.Spec PyProof.Rows L2 LamX JW
section
variable {X : Cx} {c : AC X.K} {H0 H1 : Hp} {e o : Expr} {a : ATE} {x f : Str} {p pos kpos : Pos} {C : Addr} {k : Nat} {ps : List Str} {L : Store} {R : AQ} {Q : VK}
end
end AL
namespace AL
open PySem PySem.Spec PyProof.Rows L2 LamX JW
def levOf (c : Nat) : Int := if c = 40 then 1 else if c = 41 then -1 else 0
def levK : List (Key × V) := [(.inr "(", .int 1), (.inr "o", .int 0), (.inr ")", .int (0 - 1))]
def tLev (tb : TE) : TE := fun σ H Q => ∀ p, H p = none → tb σ (upd (upd H p (.dK [])) p (.dK levK)) fun y H2 => ∃ a v, V.ref p = .ref a ∧ DGet H2 a y (some v) ∧ Q v H2
theorem lev_val {c : Nat} (h : c = 40 ∨ c = 41 ∨ c = 111) : valV levK (.inr (⟨#[c]⟩ : Str)) = some (.int (levOf c)) := by
  rcases h with rfl | rfl | rfl <;> decide +kernel
section
variable {X : Cx} {b : Expr} {tb : TE} {pos dp p1 p2 p3 p4 p5 p6 p7 p8 p9 : Pos} {j1 j2 j3 j4 j5 j6 j7}
theorem pe_lev (hu : X.A.units + 1 < cLine) (hb : PE X b tb) (hs : NoSl b) : PE X (.Subscript (.Dict [some (.Constant (.str "(") j1 p1), some (.Constant (.str "o") j2 p2), some (.Constant (.str ")") j3 p3)]
    [.Constant (.int 1) j4 p4, .Constant (.int 0) j5 p5, .BinOp (.Constant (.int 0) j6 p6) .Sub (.Constant (.int 1) j7 p7) p8] dp) b pos) (tLev tb) := by
  refine (pe_dget hu (pe_disp (pps_cons pe_str pe_int (pps_cons pe_str pe_int (pps_cons pe_str (pe_op op_sub pe_int pe_int) pps_nil))) rfl rfl (fun z => by cases z) (by show (3 : Nat) ≤ 15; decide)) hb hs).imp fun σ H Q h => ?_
  intro p hp
  exact ⟨_, _, rfl, rfl, upd_same, levK, rfl, by decide, h p hp⟩
end
def aLevIx (i j : Nat) : ATE := fun env L Q => ∃ z k c, env[i]? = some (some (.str z)) ∧ env[j]? = some (some (.int k)) ∧ z.length ≤ sizeLine ∧ atI z.cps.toList k = some c ∧ (c = 40 ∨ c = 41 ∨ c = 111) ∧ Q (.int (levOf c)) L
def aLevV (i : Nat) : ATE := fun env L Q => ∃ c, env[i]? = some (some (.str ⟨#[c]⟩)) ∧ (c = 40 ∨ c = 41 ∨ c = 111) ∧ Q (.int (levOf c)) L
section
variable {X : Cx} {c : AC X.K} {H0 : Hp} {i j : Nat} {x y : Str} {pos dp p1 p2 p3 p4 p5 p6 p7 p8 q1 q2 q3 : Pos} {j1 j2 j3 j4 j5 j6 j7}
theorem lev_end {H1 : Hp} {L : Store} {R : AQ} {Q : VK} {p : Addr} {k : Nat} (g : Good c L H1) (pq : Pq c H1 R Q) (hp : H1 p = none) (hk : k = 40 ∨ k = 41 ∨ k = 111) (h : R (.int (levOf k)) L) :
    ∃ a v, V.ref p = .ref a ∧ DGet (upd (upd H1 p (.dK [])) p (.dK levK)) a (.str ⟨#[k]⟩) (some v) ∧ Q v (upd (upd H1 p (.dK [])) p (.dK levK)) := by
  have e : upd (upd H1 p (.dK [])) p (.dK levK) = upd H1 p (.dK levK) := by
    funext b
    by_cases hb : b = p
    · rw [hb, upd_same, upd_same]
    · rw [upd_ne hb, upd_ne hb, upd_ne hb]
  rw [e]
  exact ⟨p, .int (levOf k), rfl, dget upd_same (lev_val hk), pq.new hp h g (rep_int.mpr rfl)⟩
theorem ae_levIx (hu : X.A.units + 1 < cLine) (hi : PE X (.Name x q1) (tVar i)) (hj : PE X (.Name y q2) (tVar j)) (hs : NoSl (.Subscript (.Name x q1) (.Name y q2) q3)) (hs2 : PlainIx (.Name y q2)) : AE X c H0 (.Subscript (.Dict [some (.Constant (.str "(") j1 p1), some (.Constant (.str "o") j2 p2), some (.Constant (.str ")") j3 p3)]
    [.Constant (.int 1) j4 p4, .Constant (.int 0) j5 p5, .BinOp (.Constant (.int 0) j6 p6) .Sub (.Constant (.int 1) j7 p7) p8] dp) (.Subscript (.Name x q1) (.Name y q2) q3) pos) (aLevIx i j) := by
  refine (pe_lev hu (pe_ix ix_str hi hj hs2) hs).imp fun σ H Q ⟨env, L, R, rl, h, pq⟩ => ?_
  obtain ⟨z, k, n, e1, e2, hz, ha, hk, h⟩ := h
  obtain ⟨v1, f1, r1⟩ := rl.env.get i _ e1
  obtain ⟨v2, f2, r2⟩ := rl.env.get j _ e2
  cases rep_str.mp r1
  cases rep_int.mp r2
  intro p hp
  exact ⟨_, f1, _, f2, z, k, n, rfl, rfl, hz, ha, lev_end rl.good pq hp hk h⟩
theorem ae_levV (hu : X.A.units + 1 < cLine) (hi : PE X (.Name x q1) (tVar i)) (hs : NoSl (.Name x q1)) : AE X c H0 (.Subscript (.Dict [some (.Constant (.str "(") j1 p1), some (.Constant (.str "o") j2 p2), some (.Constant (.str ")") j3 p3)]
    [.Constant (.int 1) j4 p4, .Constant (.int 0) j5 p5, .BinOp (.Constant (.int 0) j6 p6) .Sub (.Constant (.int 1) j7 p7) p8] dp) (.Name x q1) pos) (aLevV i) := by
  refine (pe_lev hu hi hs).imp fun σ H Q ⟨env, L, R, rl, h, pq⟩ => ?_
  obtain ⟨n, e1, hk, h⟩ := h
  obtain ⟨v1, f1, r1⟩ := rl.env.get i _ e1
  cases rep_str.mp r1
  intro p hp
  exact ⟨_, f1, lev_end rl.good pq hp hk h⟩
end
end AL
namespace JW
open PySem PySem.Spec PyProof.Rows L2 LamX He
structure ClsO (K : PySem.W.Frag) (mg : Str → Option Value) (x : Str) : Prop where
  g : mg x = some (.ref (He.ga K x))
  c : Cls K (He.ga K x)
  hcl : PySem.W.findIn K (.ref (He.ga K x)) "__class__" = some (some (.builtin "object.__class__"))
  hgs : PySem.W.specialIn K (.builtin "object.__class__") "__get__" = some (some (.builtin "getset_descriptor.__get__"))
  htk : PySem.W.takesIn K (.builtin "object.__class__") = some true
  hmro : PySem.W.mroIn K (He.ga K x) (.type "object") = some true
  hne : PySem.W.findIn K (.ref (He.ga K x)) "__ne__" = some (some (.builtin "object.__ne__"))
  sf : PySem.W.selfFirst K (He.ga K x) = true
theorem clsO_of {K : PySem.W.Frag} {mg : Str → Option Value} {x : Str} (g : mg x = some (.ref (He.ga K x))) (c : Cls K (He.ga K x)) (h : clsX K x = true) : ClsO K mg x := by
  obtain ⟨h1, h2⟩ := ba h
  obtain ⟨h3, h4⟩ := ba h2
  obtain ⟨h5, h6⟩ := ba h4
  obtain ⟨h7, h8⟩ := ba h6
  obtain ⟨h9, h10⟩ := ba h8
  exact ⟨g, c, eqO_ok h1, eqO_ok h3, of_decide_eq_true h5, of_decide_eq_true h7, eqO_ok h9, h10⟩
end JW
namespace AL
open PySem PySem.Spec PyProof.Rows L2 LamX JW
def valD (l : List (Key × D)) (k : Key) : Option D := (l.find? fun kv => decide (kv.1 = k)).map (·.2)
def setD (l : List (Key × D)) (k : Key) (d : D) : List (Key × D) := l.map fun kv => if kv.1 = k then (kv.1, d) else kv
section
variable {K : PySem.W.Frag} {c : AC K} {H : Hp}
theorem val_low {k : Key} : ∀ {l : List (Key × D)} {kvs : List (Key × V)} {d : D}, kvs.map (·.1) = l.map (·.1) → RepL c H (l.map (·.2)) (kvs.map (·.2)) → valD l k = some d → ∃ v, valV kvs k = some v ∧ Rep c H d v
  | [], kvs, d, _, _, h => by cases h
  | p :: l, kvs, d, e, r, h => by
    match kvs, e with
    | q :: kvs, e =>
      obtain ⟨e1, e2⟩ := List.cons.inj e
      obtain ⟨v, ws, e3, r1, r2⟩ := repL_cons.mp r
      obtain ⟨e4, e5⟩ := List.cons.inj e3
      subst e4 e5
      by_cases hk : p.1 = k
      · have : valD (p :: l) k = some p.2 := by simp [valD, List.find?_cons, hk]
        rw [this] at h
        cases h
        exact ⟨_, valV_pos (e1.trans hk), r1⟩
      · have : valD (p :: l) k = valD l k := by simp [valD, List.find?_cons, hk]
        rw [this] at h
        obtain ⟨v, h1, h2⟩ := val_low e2 r2 h
        exact ⟨v, by rw [valV_neg fun z => hk (e1.symm.trans z)]; exact h1, h2⟩
theorem put_low {k : Key} {d : D} {v : V} (rv : Rep c H d v) : ∀ {l : List (Key × D)} {kvs : List (Key × V)}, kvs.map (·.1) = l.map (·.1) → RepL c H (l.map (·.2)) (kvs.map (·.2)) →
    (kvs.map fun kv => if kv.1 = k then (kv.1, v) else kv).map (·.1) = (setD l k d).map (·.1) ∧ RepL c H ((setD l k d).map (·.2)) ((kvs.map fun kv => if kv.1 = k then (kv.1, v) else kv).map (·.2))
  | [], kvs, e, r => by
    cases kvs with
    | nil => exact ⟨rfl, RepL.nil⟩
    | cons q kvs => cases e
  | p :: l, kvs, e, r => by
    match kvs, e with
    | q :: kvs, e =>
      obtain ⟨e1, e2⟩ := List.cons.inj e
      obtain ⟨x, ws, e3, r1, r2⟩ := repL_cons.mp r
      obtain ⟨e4, e5⟩ := List.cons.inj e3
      subst e4 e5
      obtain ⟨h1, h2⟩ := put_low rv e2 r2
      have e1 : q.1 = p.1 := e1
      by_cases hk : p.1 = k
      · refine ⟨?_, ?_⟩
        · show (if q.1 = k then (q.1, v) else q).1 :: _ = (if p.1 = k then (p.1, d) else p).1 :: _
          rw [if_pos hk, if_pos (e1.trans hk), h1, e1]
          rfl
        · show RepL c H ((if p.1 = k then (p.1, d) else p).2 :: _) ((if q.1 = k then (q.1, v) else q).2 :: _)
          rw [if_pos hk, if_pos (e1.trans hk)]
          exact .cons rv h2
      · refine ⟨?_, ?_⟩
        · show (if q.1 = k then (q.1, v) else q).1 :: _ = (if p.1 = k then (p.1, d) else p).1 :: _
          rw [if_neg hk, if_neg fun z => hk (e1.symm.trans z), h1, e1]
          rfl
        · show RepL c H ((if p.1 = k then (p.1, d) else p).2 :: _) ((if q.1 = k then (q.1, v) else q).2 :: _)
          rw [if_neg hk, if_neg fun z => hk (e1.symm.trans z)]
          exact .cons r1 h2
end
def aDGet (a b : ATE) : ATE := fun env L Q => a env L fun d L1 => b env L1 fun e L2 => ∃ p s l v, d = .ref p ∧ e = .str s ∧ L2 p = some (.dct l) ∧ valD l (.inr s) = some v ∧ Q v L2
def agDSub (a b : ATE) : ATG := fun d env L Q => a env L fun x L1 => b env L1 fun e L2 => ∃ p s l v, x = .ref p ∧ e = .str s ∧ L2 p = some (.dct l) ∧ valD l (.inr s) = some v ∧ l.length < 1000 ∧ Q env (sput L2 p (.dct (setD l (.inr s) d)))
def aDct2 (k j : Str) (a b : ATE) : ATE := fun env L Q => ∀ p, L p = none → a env (sput L p (.dct [])) fun d L1 => b env L1 fun e L2 => L2 p = some (.dct []) ∧ Q (.ref p) (sput L2 p (.dct [(.inr k, d), (.inr j, e)]))
section
variable {X : Cx} {c : AC X.K} {H0 : Hp} {e f : Expr} {a b : ATE} {pos p1 p2 dp : Pos} {j1 j2}
theorem ae_dget (hu : X.A.units + 1 < cLine) (ha : AE X c H0 e a) (hb : AE X c H0 f b) (hs : NoSl f) : AE X c H0 (.Subscript e f pos) (aDGet a b) := by
  refine (pe_dget hu ha hb hs).imp fun σ H Q ⟨env, L, R, rl, h, pq⟩ => ?_
  refine ⟨env, L, _, rl, h, fun d L1 x H1 q1 s1 g1 r1 => ⟨env, L1, _, rl.step s1 g1, q1, fun e L2 y H2 q2 s2 g2 r2 => ?_⟩⟩
  obtain ⟨p, s, l, v, rfl, rfl, e1, e2, q⟩ := q2
  cases rep_ref.mp r1
  cases rep_str.mp r2
  obtain ⟨kvs, e3, ek, rs⟩ := g2.st _ _ e1
  obtain ⟨w, e4, r⟩ := val_low ek rs e2
  have hd : DGet H2 p (.str s) (valV kvs (Sum.inr s)) := DGet.k (k := .inr s) e3
  rw [e4] at hd
  exact ⟨p, w, rfl, hd, pq v L2 w H2 q (s1.trans s2) g2 r⟩
def rSetDk : TSet := fun o i v H Q => ∃ a H', o = .ref a ∧ DPut H a i v H' ∧ Q H'
theorem set_dct (hu : X.A.units + 1 < cLine) : PSet X rSetDk := by
  intro pins s σ H o i v ov iv u Q I ro ri rv h
  obtain ⟨a, H', rfl, g, q⟩ := h
  cases ro
  exact d_setItem hu I g ri rv fun s4 I4 => ⟨_, I4, q⟩
theorem ag_dsub (hu : X.A.units + 1 < cLine) (ha : AE X c H0 e a) (hb : AE X c H0 f b)
    (hd : ∀ v, assign (.Subscript e f pos) X.env v = (do
      let ov ← holding [v] (eval e X.env)
      let iv ← holding [v, ov] (eval f X.env)
      standAt pos
      holding [v, ov, iv] (setItem ov iv v)
      release [v, ov, iv] []) := by intro _; rfl) : AG X c H0 (.Subscript e f pos) (agDSub a b) := by
  refine (pg_sub ha hb (set_dct hu) hd).imp fun v σ H Q ⟨d, env, L, R, r, rl, h, pq⟩ => ?_
  refine ⟨env, L, _, rl, h, fun x L1 y H1 q1 s1 g1 r1 => ⟨env, L1, _, rl.step s1 g1, q1, fun z L2 w H2 q2 s2 g2 r2 => ?_⟩⟩
  obtain ⟨p, s, l, d0, rfl, rfl, e1, e2, hl, q⟩ := q2
  cases rep_ref.mp r1
  cases rep_str.mp r2
  obtain ⟨kvs, e3, ek, rs⟩ := g2.st _ _ e1
  obtain ⟨w, e4, _⟩ := val_low ek rs e2
  have hlen : kvs.length = l.length := by
    have := congrArg List.length ek
    rwa [List.length_map, List.length_map] at this
  have hsl := sizeLine_eq
  have ep : putK kvs (Sum.inr s) v = kvs.map fun kv => if kv.1 = (Sum.inr s : Key) then (kv.1, v) else kv := by
    unfold putK
    rw [if_pos (by rw [valV_any, e4]; rfl)]
  have f3 : Fr c H2 (upd H2 p (.dK (putK kvs (Sum.inr s) v))) := .put e3 fun z => z
  obtain ⟨h1, h2⟩ := put_low (k := .inr s) (r.fr (s1.trans s2)) ek rs
  obtain ⟨g3, _⟩ := g2.put (m' := .dct (setD l (.inr s) d)) e1 (.dK (putK kvs (Sum.inr s) v)) ⟨_, upd_same, by rw [ep]; exact h1, by rw [ep]; exact h2.fr (by rw [← ep]; exact f3)⟩
  exact ⟨p, _, rfl, DPut.k (k := .inr s) e3 (by omega), pq env _ σ _ q ((s1.trans s2).trans f3) (rl.step ((s1.trans s2).trans f3) g3)⟩
theorem ae_dct2 {k j : Str} (ha : AE X c H0 e a) (hb : AE X c H0 f b) (hkj : k ≠ j) : AE X c H0 (.Dict [some (.Constant (.str k) j1 p1), some (.Constant (.str j) j2 p2)] [e, f] dp) (aDct2 k j a b) := by
  refine (pe_disp (pps_cons pe_str ha (pps_cons pe_str hb pps_nil)) rfl rfl (fun z => by cases z) (by show (2 : Nat) ≤ 15; decide)).imp fun σ H Q ⟨env, L, R, rl, h, pq⟩ => ?_
  intro p hp
  have f0 : Fr c H (upd H p (.dK [])) := .new hp
  have g0 := rl.good.alloc (m := .dct []) hp (.dK []) ⟨[], upd_same, rfl, RepL.nil⟩
  refine ⟨env, _, _, rl.step f0 g0, h p (rl.good.fresh hp), fun d L1 x H1 q1 s1 g1 r1 => ⟨env, L1, _, rl.step (f0.trans s1) g1, q1, fun z L2 y H2 q2 s2 g2 r2 => ?_⟩⟩
  obtain ⟨e1, q⟩ := q2
  obtain ⟨kvs, e2, ek, _⟩ := g2.st _ _ e1
  have e0 : kvs = [] := by
    cases kvs with
    | nil => rfl
    | cons _ _ => cases ek
  subst e0
  refine ⟨e2, [(.inr k, x), (.inr j, y)], rfl, by show (2 : Nat) ≤ 15; decide, ?_⟩
  have em : mergeK [] [((Sum.inr k : Key), x), (Sum.inr j, y)] = [(Sum.inr k, x), (Sum.inr j, y)] := by
    have hne : ¬ ((Sum.inr k : Key) = Sum.inr j) := fun z => hkj (Sum.inr.inj z)
    show putK (putK [] (Sum.inr k : Key) x) (Sum.inr j) y = _
    have e1 : putK [] (Sum.inr k : Key) x = [(Sum.inr k, x)] := rfl
    rw [e1]
    unfold putK
    rw [if_neg (by simp [hne])]
    rfl
  rw [em]
  have f3 : Fr c H2 (upd H2 p (.dK [(Sum.inr k, x), (Sum.inr j, y)])) := .put e2 fun z => z
  obtain ⟨g3, _⟩ := g2.put (m' := .dct [(.inr k, d), (.inr j, z)]) e1 (.dK [(Sum.inr k, x), (Sum.inr j, y)]) ⟨_, upd_same, rfl, .cons ((r1.fr s2).fr f3) (.one (r2.fr f3))⟩
  exact pq _ _ _ _ q (((f0.trans s1).trans s2).trans f3) g3 (rep_ref.mpr rfl)
end
def aFldM (K : PySem.W.Frag) (f : Str) (a : ATE) : ATE := fun env L Q => a env L fun d L1 => ∃ p C ks ds v, d = .ref p ∧ L1 p = some (.ins C ks ds) ∧ Cls K C ∧ NoAttr K C f ∧ (ks.zip ds).lookup f = some v ∧ Q v L1
def asFldM (K : PySem.W.Frag) (f : Str) (a b : ATE) : ATS := fun D env L => b env L fun y L1 => a env L1 fun d L2 => ∃ p C ks ds, d = .ref p ∧ L2 p = some (.ins C ks ds) ∧ Cls K C ∧ NoAttr K C f ∧ (ks = [] ∨ ks = [f]) ∧ D.nx env (sput L2 p (.ins C [f] [y]))
def aPropM (K : PySem.W.Frag) (C : Addr) (m : Str) (asp : ASp) (a : ATE) : ATE := fun env L Q => a env L fun d L1 => recv K C m d L1 ∧ asp [d] L1 Q anyX
def aMethM (K : PySem.W.Frag) (C : Addr) (m : Str) (asp : ASp) (a : ATE) (as : ATA) : ATE := fun env L Q => a env L fun d L1 => recv K C m d L1 ∧ as env L1 fun ds L2 => asp (d :: ds) L2 Q anyX
def aMakeM (C : Addr) (asp : ASp) (as : ATA) : ATE := fun env L Q => as env L fun ds L1 => ∀ x, L1 x = none → asp (.ref x :: ds) (sput L1 x (.ins C [] [])) (fun d L2 => d = .non ∧ Q (.ref x) L2) anyX
def lenM (C : Addr) (asp : ASp) : List D → Store → AQ → Prop
  | [.ref p], L, Q => (∃ ks ds, L p = some (.ins C ks ds)) ∧ asp [.ref p] L (fun d L' => ∃ n : Nat, d = .int (n : Nat) ∧ n < 1000000 ∧ Q d L') anyX
  | _, _, _ => False
theorem zip_low {K : PySem.W.Frag} {c : AC K} {H : Hp} {f : Str} : ∀ {ks : List Str} {ds : List D} {vs : List V} {d : D}, RepL c H ds vs → (ks.zip ds).lookup f = some d → ∃ v, (ks.zip vs).lookup f = some v ∧ Rep c H d v
  | [], _, _, _, _, h => by cases h
  | _ :: _, [], _, _, _, h => by cases h
  | k :: ks, x :: ds, vs, d, r, h => by
    obtain ⟨v, ws, rfl, r1, r2⟩ := repL_cons.mp r
    rw [List.zip_cons_cons, List.lookup_cons] at h
    rw [List.zip_cons_cons, List.lookup_cons]
    cases hb : (f == k) with
    | true =>
      rw [hb] at h
      cases h
      exact ⟨v, rfl, r1⟩
    | false =>
      rw [hb] at h
      exact zip_low r2 h
section
variable {X : Cx} {c : AC X.K} {H0 : Hp} {e o value : Expr} {es : List Expr} {a b : ATE} {as : ATA} {f x m : Str} {p pos pos' apos : Pos} {k : Nat} {ps : List Str} {asp : ASp} {C : Addr}
theorem ae_fldM {K : PySem.W.Frag} (eK : X.K = K) (he : AE X c H0 e a) (hb : attributeBase e f X.env (eval e X.env) = eval e X.env) : AE X c H0 (.Attribute e f pos) (aFldM K f a) := by
  subst eK
  refine (pe_fld he hb).imp fun σ H Q ⟨env, L, R, rl, h, pq⟩ => ?_
  refine ⟨env, L, _, rl, h, fun d L1 x H1 q s1 g1 r1 => ?_⟩
  obtain ⟨p, C, ks, ds, v, rfl, e1, hc, hn, hl, q⟩ := q
  cases rep_ref.mp r1
  obtain ⟨dx, vs, e2, _, _, rs⟩ := g1.st _ _ e1
  obtain ⟨w, e3, rw'⟩ := zip_low rs hl
  exact ⟨p, C, dx, _, w, rfl, e2, hc, hn, e3, pq v L1 w H1 q s1 g1 rw'⟩
theorem as_fldM {K : PySem.W.Frag} (eK : X.K = K) (ha : AE X c H0 o a) (hv : AE X c H0 value b) (hs : swapsWith value (some (.Attribute o f pos')) pos.line X.env = pure false := by rfl) : AS X c H0 (.Assign [.Attribute o f pos'] value pos) (asFldM K f a b) := by
  subst eK
  refine (ps_fld ha hv hs).imp fun D σ H ⟨env, L, R, rl, h, er⟩ => ?_
  refine ⟨env, L, _, rl, h, fun y L1 v H1 q1 s1 g1 r1 => ⟨env, L1, _, rl.step s1 g1, q1, fun d L2 x H2 q2 s2 g2 r2 => ?_⟩⟩
  obtain ⟨p, C, ks, ds, rfl, e1, hc, hn, hk, q⟩ := q2
  cases rep_ref.mp r2
  obtain ⟨dx, vs, e2, ni, hl, rs⟩ := g2.st _ _ e1
  have ef : (ks.zip vs).length < 1000 ∧ putF f v (ks.zip vs) = [f].zip [v] := by
    rcases hk with rfl | rfl
    · exact ⟨by show (0 : Nat) < 1000; decide, rfl⟩
    · have hlv := rs.len
      rw [← hl] at hlv
      match vs, hlv with
      | [w], _ =>
        refine ⟨by show (1 : Nat) < 1000; decide, ?_⟩
        show putF f v [(f, w)] = [(f, v)]
        unfold putF
        simp
  have f3 : Fr c H2 (upd H2 p (.ins C dx (putF f v (ks.zip vs)))) := .put e2 ni
  obtain ⟨g3, _⟩ := g2.put (m' := .ins C [f] [y]) e1 (.ins C dx (putF f v (ks.zip vs))) ⟨dx, [v], by rw [upd_same, ef.2], ni, rfl, .one ((r1.fr s2).fr f3)⟩
  exact ⟨p, C, dx, _, rfl, e2, hc, hn, ef.1, er.nx env _ σ _ q ((s1.trans s2).trans f3) (rl.step ((s1.trans s2).trans f3) g3)⟩
theorem ae_propM {K : PySem.W.Frag} (eK : X.K = K) (cl : Cls X.K C) (M : PropD X.prog X.w X.K X.mg X.base CX0 k C f (spA c asp)) (hr : Room (k + 1) X.A) (he : AE X c H0 e a) (hab : attributeBase e f X.env (eval e X.env) = eval e X.env) : AE X c H0 (.Attribute e f pos) (aPropM K C f asp a) := by
  subst eK
  refine (pe_propD (E := fun _ _ _ => True) cl M hr pass0 he hab).imp fun σ H Q ⟨env, L, R, rl, h, pq⟩ => ?_
  refine ⟨env, L, _, rl, h, fun d L1 x H1 ⟨qr, q⟩ s1 g1 r1 => ?_⟩
  obtain ⟨p, dx, fs, rfl, e1, e2⟩ := recv_low r1 g1 qr
  exact ⟨p, dx, fs, rfl, e1, [d], L1, R, anyX, .one r1, g1, q, pq.fr s1, px_any⟩
theorem ae_methM {pl : Sem Bool} {K : PySem.W.Frag} (eK : X.K = K) (cl : Cls X.K C) (M : MethD X.prog X.w X.K X.mg X.base CX0 k C m ps [] (spA c asp)) (hr : Room k X.A) (he : AE X c H0 o a) (ha : AA X c H0 (e :: es) as)
    (hst : starEach (e :: es) X.env = (false, eval e X.env) :: starEach es X.env := by rfl) (hpl : (backTo pos (starEach es X.env)).any (·.1) = false := by rfl)
    (ht : eval (.Call (.Attribute o m apos) (e :: es) [] pos) X.env = (do
      let ov ← eval o X.env
      standAt apos.atName
      let (f, first) ← holding [ov] (getMethod ov m pl)
      callWith pos f first (backTo pos (starEach (e :: es) X.env)) (backToKw pos (keywordEach [] X.env))) := by rfl) : AE X c H0 (.Call (.Attribute o m apos) (e :: es) [] pos) (aMethM K C m asp a as) := by
  subst eK
  refine (pe_methD (E := fun _ _ _ => True) cl M hr pass0 he ha hst hpl ht).imp fun σ H Q ⟨env, L, R, rl, h, pq⟩ => ?_
  refine ⟨env, L, _, rl, h, fun d L1 x H1 ⟨qr, q⟩ s1 g1 r1 => ?_⟩
  obtain ⟨p, dx, fs, rfl, e1, e2⟩ := recv_low r1 g1 qr
  refine ⟨p, dx, fs, rfl, e1, e2, env, L1, _, rl.step s1 g1, q, fun ds L2 us H2 q2 s2 g2 r2 => ?_⟩
  show spA c asp (V.ref p :: (us ++ [])) H2 Q fun _ _ _ => True
  rw [List.append_nil]
  exact ⟨_, L2, R, anyX, .cons (r1.fr s2) r2, g2, q2, pq.fr (s1.trans s2), px_any⟩
theorem ae_meth0M {pl : Sem Bool} {K : PySem.W.Frag} (eK : X.K = K) (cl : Cls X.K C) (M : MethD X.prog X.w X.K X.mg X.base CX0 k C m ps [] (spA c asp)) (hr : Room k X.A) (he : AE X c H0 o a)
    (ht : eval (.Call (.Attribute o m apos) [] [] pos) X.env = (do
      let ov ← eval o X.env
      standAt apos.atName
      let (f, first) ← holding [ov] (getMethod ov m pl)
      callWith pos f first (backTo pos (starEach [] X.env)) (backToKw pos (keywordEach [] X.env))) := by rfl) : AE X c H0 (.Call (.Attribute o m apos) [] [] pos) (aMethM K C m asp a aNil) := by
  subst eK
  refine (pe_methD0 (E := fun _ _ _ => True) cl M hr pass0 he ht).imp fun σ H Q ⟨env, L, R, rl, h, pq⟩ => ?_
  refine ⟨env, L, _, rl, h, fun d L1 x H1 ⟨qr, q⟩ s1 g1 r1 => ?_⟩
  obtain ⟨p, dx, fs, rfl, e1, e2⟩ := recv_low r1 g1 qr
  exact ⟨p, dx, fs, rfl, e1, e2, [d], L1, R, anyX, .one r1, g1, q, pq.fr s1, px_any⟩
theorem ae_makeM (M : MakeD X.prog X.w X.K X.mg X.base CX0 k x C ps [] (spA c asp)) (hr : Room (k + 1) X.A) (hg : Gl X x) (ni : ¬ IC c C) (ha : AA X c H0 (e :: es) as) (hdb : (x == ("__debug__" : Str)) = false := by decide)
    (he : starEach (e :: es) X.env = (false, eval e X.env) :: starEach es X.env := by rfl) (hpl : (backTo pos (starEach es X.env)).any (·.1) = false := by rfl) : AE X c H0 (.Call (.Name x p) (e :: es) [] pos) (aMakeM C asp as) := by
  refine (pe_makeD (E := fun _ _ _ => True) M hr hg pass0 ha hdb he hpl).imp fun σ H Q ⟨env, L, R, rl, h, pq⟩ => ?_
  refine ⟨env, L, _, rl, h, fun ds L1 vs H1 q s1 g1 r1 x dx hx hdx ne => ?_⟩
  have f1 : Fr c H1 (upd H1 dx (.own x)) := .new hdx
  have hx2 : upd H1 dx (.own x) x = none := by rw [upd_ne (Ne.symm ne)]; exact hx
  have f2 : Fr c (upd H1 dx (.own x)) (upd (upd H1 dx (.own x)) x (.ins C dx [])) := .new hx2
  have g2 := (g1.new hdx (.own x)).alloc (m := .ins C [] []) hx2 (.ins C dx []) ⟨dx, [], upd_same, ni, rfl, RepL.nil⟩
  show spA c asp (V.ref x :: (vs ++ [])) _ _ _
  rw [List.append_nil]
  exact ⟨.ref x :: ds, _, _, anyX, .cons (rep_ref.mpr rfl) ((r1.fr f1).fr f2), g2, q x (g1.fresh hx), fun d L2 v H2 ⟨e1, q2⟩ s2 g2 r2 => ⟨by rw [e1] at r2; exact rep_non.mp r2, pq _ L2 _ H2 q2 (((s1.trans f1).trans f2).trans s2) g2 (rep_ref.mpr rfl)⟩, px_any⟩
theorem acb_lenM {qual : Str} {st : Stmt} (D : MethAt X.K C "__len__" qual st ps) (M : MethD X.prog X.w X.K X.mg X.base CX0 k C "__len__" ps [] (spA c asp)) (hr : Room (k + 1) X.A) : ACB X c (.builtin "len") (lenM C asp) := by
  refine .mk' (cr_lenOwn (E := fun _ _ _ => True) D M hr pass0) fun vs H Q ds L R r g h pq => ?_
  unfold lenM at h
  split at h
  · rename_i p
    obtain ⟨v, rfl, r1⟩ := repL_one r
    cases rep_ref.mp r1
    obtain ⟨⟨ks, ds, e1⟩, h⟩ := h
    obtain ⟨dx, vs, e2, _⟩ := g.st _ _ e1
    refine ⟨p, dx, _, rfl, e2, [.ref p], L, _, anyX, .one (rep_ref.mpr rfl), g, h, fun d L' v H' ⟨n, e3, hn, q⟩ s' g' r' => ?_, px_any⟩
    subst e3
    cases rep_int.mp r'
    exact ⟨(n : Nat), rfl, by omega, by omega, pq _ L' _ H' q s' g' (rep_int.mpr rfl)⟩
  · exact h.elim
end
section
variable {P : Program} {w : World} {K : PySem.W.Frag} {mg : Str → Option Value} {base : Heap} {c : AC K} {x m qual : Str} {st : Stmt} {N ps : List Str} {k : Nat} {asp : ASp} {C : Addr}
theorem _root_.JW.InitAt.okA {a : ATS} (D : InitAt K mg x C qual st [] ps) (S : FnScope N ps (defScope st)) (hl : ∀ ds L R RX, asp ds L R RX → ds.length = ps.length)
    (body : ∀ (f : Addr) (cdv : Value) (A : Around) (outer : List Env) (s : Shared) (H : Hp) (E : XK), Room k (A.deeper (envOfC qual (defScope st) s.heap.objs.size f cdv)) → ASs (cxOf CX0 P w K mg base N qual (defScope st) f cdv A outer s H E).nox c H (defBody st) a)
    (vc : ∀ ds L R RX, asp ds L R RX → a (fnEnds R) (startA N ds) L) : MakeD P w K mg base CX0 (k + 1) x C ps [] (spA c asp) :=
  D.ok 0 (Nat.zero_le _) S (spA_len hl) fun f cdv A outer s H vs Q E hr ⟨ds, L, R, RX, r, g, h, pq, px⟩ => ⟨_, body f cdv A outer s H E hr, body_low r g pq (vc ds L R RX h)⟩
theorem _root_.JW.PropAt.okA {a : ATS} (D : PropAt K C m qual st) (S : FnScope N ["self"] (defScope st)) (hl : ∀ ds L R RX, asp ds L R RX → ds.length = (["self"] : List Str).length)
    (body : ∀ (f : Addr) (cdv : Value) (A : Around) (outer : List Env) (s : Shared) (H : Hp) (E : XK), Room k (A.deeper (envOfC qual (defScope st) s.heap.objs.size f cdv)) → ASs (cxOf CX0 P w K mg base N qual (defScope st) f cdv A outer s H E).nox c H (defBody st) a)
    (vc : ∀ ds L R RX, asp ds L R RX → a (fnEnds R) (startA N ds) L) : PropD P w K mg base CX0 (k + 1) C m (spA c asp) :=
  D.ok S (spA_len hl) fun f cdv A outer s H vs Q E hr ⟨ds, L, R, RX, r, g, h, pq, px⟩ => ⟨_, body f cdv A outer s H E hr, body_low r g pq (vc ds L R RX h)⟩
end
end AL
namespace AL
open PySem PySem.Spec PyProof.Rows L2 LamX JW
theorem agDSub_go {i : Nat} {k : Str} {d : D} {env : En} {L : Store} {R : En → Store → Prop} (h : agDSub (aVar i) (aC (.str k)) d env L R) : ∃ L', R env L' := by
  unfold agDSub aVar at h
  split at h
  · obtain ⟨p, s, l, v, _, _, _, _, _, h⟩ := h
    exact ⟨_, h⟩
  · exact h.elim
theorem agDD_len {i j : Nat} {k1 k2 : Str} : ∀ ds env L R, agCons (agDSub (aVar i) (aC (.str k1))) (agCons (agDSub (aVar j) (aC (.str k2))) agNil) ds env L R → ds.length = 2
  | [], _, _, _, h => h.elim
  | [x], env, L, R, h => by
    obtain ⟨l1, h⟩ := agDSub_go (show agDSub (aVar i) (aC (.str k1)) x env L (fun e l => agCons (agDSub (aVar j) (aC (.str k2))) agNil [] e l R) from h)
    exact h.elim
  | x :: y :: ds, env, L, R, h => by
    obtain ⟨l1, h⟩ := agDSub_go (show agDSub (aVar i) (aC (.str k1)) x env L (fun e l => agCons (agDSub (aVar j) (aC (.str k2))) agNil (y :: ds) e l R) from h)
    obtain ⟨l2, h⟩ := agDSub_go (show agDSub (aVar j) (aC (.str k2)) y env l1 (fun e l => agNil ds e l R) from h)
    rw [h.1]
    rfl
end AL
namespace JW
def subP (i : Nat) (ps : List (List Nat × T)) : List (List Nat × T) := (ps.filter fun q => decide (q.1.head? = some i)).map fun q => (q.1.tail, q.2)
mutual
def swT : T → List (List Nat × T) → T
  | .jet, ps => match ps with
    | [] => .jet
    | q :: _ => if q.1 = [] then q.2 else .bas (sortT [])
  | .bas l, ps => match ps with
    | [] => .bas l
    | q :: r => if q.1 = [] then q.2 else .bas (sortT (swL 0 l (q :: r)))
def swL (i : Nat) : List T → List (List Nat × T) → List T
  | [], _ => []
  | t :: l, ps => swT t (subP i ps) :: swL (i + 1) l ps
end
theorem swT_nil (t : T) : swT t [] = t := by cases t <;> rfl
theorem swT_top (t : T) {q : List Nat × T} {r : List (List Nat × T)} (h : q.1 = []) : swT t (q :: r) = q.2 := by
  cases t with
  | jet => exact if_pos h
  | bas l => exact if_pos h
theorem swT_in (t : T) {q : List Nat × T} {r : List (List Nat × T)} (h : q.1 ≠ []) : swT t (q :: r) = .bas (sortT (swL 0 t.kd (q :: r))) := by
  cases t with
  | jet => exact if_neg h
  | bas l => exact if_neg h
def wtP (i : Nat) (ps : List (List Nat × T)) : Nat := (ps.map fun q => match q.1 with | [] => 0 | j :: _ => if i ≤ j then q.2.size else 0).sum
def wtA (ps : List (List Nat × T)) : Nat := (ps.map fun q => q.2.size).sum
theorem wt_split (i : Nat) : ∀ ps : List (List Nat × T), wtP i ps = wtA (subP i ps) + wtP (i + 1) ps
  | [] => rfl
  | q :: ps => by
    have ih := wt_split i ps
    obtain ⟨p, b⟩ := q
    cases p with
    | nil => 
      show 0 + wtP i ps = wtA (subP i ps) + (0 + wtP (i + 1) ps)
      omega
    | cons j r =>
      by_cases hj : j = i
      · subst hj
        have e1 : subP j ((j :: r, b) :: ps) = (r, b) :: subP j ps := by simp [subP]
        rw [e1]
        show (if j ≤ j then b.size else 0) + wtP j ps = (b.size + wtA (subP j ps)) + ((if j + 1 ≤ j then b.size else 0) + wtP (j + 1) ps)
        rw [if_pos (Nat.le_refl _), if_neg (by omega)]
        omega
      · have e1 : subP i ((j :: r, b) :: ps) = subP i ps := by simp [subP, hj]
        rw [e1]
        show (if i ≤ j then b.size else 0) + wtP i ps = wtA (subP i ps) + ((if i + 1 ≤ j then b.size else 0) + wtP (i + 1) ps)
        have : (if i ≤ j then b.size else 0) = (if i + 1 ≤ j then b.size else 0) := by
          by_cases h2 : i ≤ j
          · rw [if_pos h2, if_pos (by omega)]
          · rw [if_neg h2, if_neg (by omega)]
        omega
theorem wt_le (i : Nat) : ∀ ps : List (List Nat × T), wtP i ps ≤ wtA ps
  | [] => Nat.le_refl _
  | q :: ps => by
    have ih := wt_le i ps
    show (match q.1 with | [] => 0 | j :: _ => if i ≤ j then q.2.size else 0) + wtP i ps ≤ q.2.size + wtA ps
    have : (match q.1 with | [] => 0 | j :: _ => if i ≤ j then q.2.size else 0) ≤ q.2.size := by
      split
      · omega
      · split <;> omega
    omega
theorem wt_mem {q : List Nat × T} {ps : List (List Nat × T)} (h : q ∈ ps) : q.2.size ≤ wtA ps := by
  induction ps with
  | nil => cases h
  | cons x ps ih =>
    show _ ≤ x.2.size + wtA ps
    rcases List.mem_cons.mp h with e | e
    · rw [e]
      omega
    · have := ih e
      omega
mutual
theorem sw_size : ∀ (t : T) (ps : List (List Nat × T)), (swT t ps).size ≤ t.size + wtA ps
  | .jet, [] => Nat.le_refl _
  | .jet, q :: r => by
    by_cases h : q.1 = []
    · rw [swT_top _ h]
      have := wt_mem (List.mem_cons_self (a := q) (l := r))
      omega
    · rw [swT_in _ h]
      show 1 + sizeL (sortT (swL 0 T.jet.kd (q :: r))) ≤ 1 + _
      have : sizeL (sortT ([] : List T)) = 0 := sizeL_perm (sortT_perm [])
      have e1 : sizeL (sortT (swL 0 T.jet.kd (q :: r))) = 0 := this
      omega
  | .bas l, [] => Nat.le_refl _
  | .bas l, q :: r => by
    by_cases h : q.1 = []
    · rw [swT_top _ h]
      have := wt_mem (List.mem_cons_self (a := q) (l := r))
      omega
    · rw [swT_in _ h]
      have h1 := swL_size l 0 (q :: r)
      have h2 := wt_le 0 (q :: r)
      show 1 + sizeL (sortT (swL 0 l (q :: r))) ≤ 1 + sizeL l + _
      rw [sizeL_perm (sortT_perm _)]
      omega
theorem swL_size : ∀ (l : List T) (i : Nat) (ps : List (List Nat × T)), sizeL (swL i l ps) ≤ sizeL l + wtP i ps
  | [], _, _ => Nat.zero_le _
  | t :: l, i, ps => by
    have h1 := sw_size t (subP i ps)
    have h2 := swL_size l (i + 1) ps
    have h3 := wt_split i ps
    show (swT t (subP i ps)).size + sizeL (swL (i + 1) l ps) ≤ t.size + sizeL l + wtP i ps
    omega
end
theorem subP_mem {i : Nat} {ps : List (List Nat × T)} {q : List Nat × T} (h : q ∈ subP i ps) : ∃ p ∈ ps, q.2 = p.2 ∧ p.1 = i :: q.1 := by
  obtain ⟨p, hp, rfl⟩ := List.mem_map.mp h
  obtain ⟨h1, h2⟩ := List.mem_filter.mp hp
  have h2 := of_decide_eq_true h2
  refine ⟨p, h1, rfl, ?_⟩
  cases e : p.1 with
  | nil => rw [e] at h2; cases h2
  | cons j r =>
    rw [e] at h2
    have : j = i := by simpa using h2
    rw [this]
    rfl
mutual
theorem sw_dep {d : Nat} : ∀ (t : T) (ps : List (List Nat × T)), (∀ q ∈ ps, q.2.dep ≤ d) → (swT t ps).dep ≤ t.dep + d + 1
  | .jet, [], _ => Nat.zero_le _
  | .jet, q :: r, h => by
    by_cases e : q.1 = []
    · rw [swT_top _ e]
      have := h q List.mem_cons_self
      omega
    · rw [swT_in _ e]
      show 1 + depL (sortT []) ≤ 0 + d + 1
      have : depL (sortT ([] : List T)) = 0 := depL_perm (sortT_perm [])
      omega
  | .bas l, [], _ => by
    rw [swT_nil]
    omega
  | .bas l, q :: r, h => by
    by_cases e : q.1 = []
    · rw [swT_top _ e]
      have := h q List.mem_cons_self
      omega
    · rw [swT_in _ e]
      show 1 + depL (sortT (swL 0 l (q :: r))) ≤ 1 + depL l + d + 1
      rw [depL_perm (sortT_perm _)]
      have := swL_dep l 0 (q :: r) h
      omega
theorem swL_dep {d : Nat} : ∀ (l : List T) (i : Nat) (ps : List (List Nat × T)), (∀ q ∈ ps, q.2.dep ≤ d) → depL (swL i l ps) ≤ depL l + d + 1
  | [], _, _, _ => Nat.zero_le _
  | t :: l, i, ps, h => by
    have h1 := sw_dep t (subP i ps) fun q hq => by
      obtain ⟨p, hp, e, _⟩ := subP_mem hq
      rw [e]
      exact h p hp
    have h2 := swL_dep l (i + 1) ps h
    show max (swT t (subP i ps)).dep (depL (swL (i + 1) l ps)) ≤ max t.dep (depL l) + d + 1
    omega
end
theorem swL_can : ∀ (l : List T) (i : Nat) (ps : List (List Nat × T)), (∀ t ∈ l, ∀ ps, (∀ q ∈ ps, Can q.2) → Can (swT t ps)) → (∀ q ∈ ps, Can q.2) → CanL (swL i l ps)
  | [], _, _, _, _ => trivial
  | t :: l, i, ps, h, hp => ⟨h t List.mem_cons_self _ fun q hq => by
      obtain ⟨p, hpm, e, _⟩ := subP_mem hq
      rw [e]
      exact hp p hpm, swL_can l (i + 1) ps (fun u hu => h u (List.mem_cons_of_mem _ hu)) hp⟩
theorem sw_can : ∀ t : T, Can t → ∀ ps : List (List Nat × T), (∀ q ∈ ps, Can q.2) → Can (swT t ps) := by
  refine T.ind' (fun _ ps hp => ?_) fun l ih hc ps hp => ?_
  · cases ps with
    | nil => exact trivial
    | cons q r =>
      by_cases e : q.1 = []
      · rw [swT_top _ e]
        exact hp q List.mem_cons_self
      · rw [swT_in _ e]
        exact can_bas trivial
  · cases ps with
    | nil => rw [swT_nil]; exact hc
    | cons q r =>
      by_cases e : q.1 = []
      · rw [swT_top _ e]
        exact hp q List.mem_cons_self
      · rw [swT_in _ e]
        exact can_bas (swL_can l 0 (q :: r) (fun t ht ps h => ih t ht (canL_iff.mp hc.2 t ht) ps h) hp)
theorem swL_drop (l : List T) {i : Nat} (ps : List (List Nat × T)) (h : i < l.length) : swL i (l.drop i) ps = swT l[i] (subP i ps) :: swL (i + 1) (l.drop (i + 1)) ps := by
  rw [List.drop_eq_getElem_cons h]
  rfl
def NoPre (ps : List (List Nat × T)) : Prop := ps.Pairwise fun a b => ¬ a.1 <+: b.1 ∧ ¬ b.1 <+: a.1
theorem NoPre.sub {ps : List (List Nat × T)} (h : NoPre ps) (i : Nat) : NoPre (subP i ps) := by
  unfold NoPre subP
  rw [List.pairwise_map]
  have hd : ∀ q ∈ ps.filter (fun q => decide (q.1.head? = some i)), q.1 = i :: q.1.tail := fun q hq => by
    have h2 := of_decide_eq_true (List.mem_filter.mp hq).2
    cases e : q.1 with
    | nil => rw [e] at h2; cases h2
    | cons j r =>
      rw [e] at h2
      have : j = i := by simpa using h2
      rw [this]
      rfl
  refine (List.Pairwise.filter _ h).imp_of_mem fun {a b} ha hb ⟨h1, h2⟩ => ?_
  rw [hd a ha, hd b hb] at h1 h2
  exact ⟨fun z => h1 (List.cons_prefix_cons.mpr ⟨rfl, z⟩), fun z => h2 (List.cons_prefix_cons.mpr ⟨rfl, z⟩)⟩
theorem NoPre.ne {q : List Nat × T} {r : List (List Nat × T)} (h : NoPre (q :: r)) (hq : q.1 ≠ []) : ∀ p ∈ q :: r, p.1 ≠ [] := fun p hp => by
  rcases List.mem_cons.mp hp with e | e
  · rw [e]
    exact hq
  · intro z
    have := (List.pairwise_cons.mp h).1 p e
    exact this.2 (by rw [z]; exact List.nil_prefix)
theorem NoPre.one {q : List Nat × T} {r : List (List Nat × T)} (h : NoPre (q :: r)) (hq : q.1 = []) : r = [] := by
  cases r with
  | nil => rfl
  | cons p r =>
    have := (List.pairwise_cons.mp h).1 p List.mem_cons_self
    exact absurd (by rw [hq]; exact List.nil_prefix) this.1
theorem sub_bnd : ∀ (p : List Nat) (t s : T), subT p t = some s → s.size ≤ t.size ∧ s.dep ≤ t.dep
  | [], t, s, h => by
    rw [Option.some.inj h]
    exact ⟨Nat.le_refl _, Nat.le_refl _⟩
  | i :: r, t, s, h => by
    have h2 : (t.kd[i]?).bind (subT r) = some s := h
    obtain ⟨k, e1, e2⟩ := Option.bind_eq_some_iff.mp h2
    have h3 := sub_bnd r k s e2
    have h4 := size_mem (List.mem_of_getElem? e1)
    have h5 := dep_lt (List.mem_of_getElem? e1)
    rw [← kd_size e1] at h4 h5
    omega
theorem sub_can : ∀ (p : List Nat) (t s : T), Can t → subT p t = some s → Can s
  | [], t, s, hc, h => by
    rw [← Option.some.inj h]
    exact hc
  | i :: r, t, s, hc, h => by
    have h2 : (t.kd[i]?).bind (subT r) = some s := h
    obtain ⟨k, e1, e2⟩ := Option.bind_eq_some_iff.mp h2
    refine sub_can r k s ?_ e2
    have hm := List.mem_of_getElem? e1
    cases t with
    | jet => exact absurd hm List.not_mem_nil
    | bas l => exact canL_iff.mp hc.2 k hm
theorem depL_set : ∀ (l : List T) (i : Nat) (x : T), depL (l.set i x) ≤ max (depL l) x.dep
  | [], _, _ => Nat.zero_le _
  | t :: l, 0, x => by
    show max x.dep (depL l) ≤ max (max t.dep (depL l)) x.dep
    omega
  | t :: l, i + 1, x => by
    have := depL_set l i x
    show max t.dep (depL (l.set i x)) ≤ max (max t.dep (depL l)) x.dep
    omega
theorem rep_dep (b : T) : ∀ (p : List Nat) (t s : T), subT p t = some s → (repT b p t).dep ≤ t.dep + b.dep
  | [], t, s, _ => Nat.le_add_left _ _
  | i :: r, t, s, h => by
    have h2 : (t.kd[i]?).bind (subT r) = some s := h
    obtain ⟨k, e1, e2⟩ := Option.bind_eq_some_iff.mp h2
    have h3 := rep_dep b r k s e2
    have h5 := dep_lt (List.mem_of_getElem? e1)
    have h6 := depL_set t.kd i (repT b r k)
    have e : repT b (i :: r) t = .bas (sortT (t.kd.set i (repT b r (t.kd.getD i .jet)))) := rfl
    rw [e, kd_get e1]
    show 1 + depL (sortT (t.kd.set i (repT b r k))) ≤ _
    rw [depL_perm (sortT_perm _)]
    have h7 : t.dep = 1 + depL t.kd := by
      conv => lhs; rw [kd_size e1]
      rfl
    have h8 : k.dep < 1 + depL t.kd := h5
    omega
theorem cut_dep (b : T) : ∀ t : T, (cutT b t).dep ≤ t.dep := by
  refine T.ind' (Nat.le_refl _) fun l ih => ?_
  rw [cut_bas]
  split
  · exact Nat.zero_le _
  · split
    · exact Nat.le_refl _
    · show 1 + depL (sortT (l.map (cutT b))) ≤ 1 + depL l
      rw [depL_perm (sortT_perm _)]
      have : ∀ l : List T, (∀ t ∈ l, (cutT b t).dep ≤ t.dep) → depL (l.map (cutT b)) ≤ depL l := by
        intro l
        induction l with
        | nil => exact fun _ => Nat.le_refl _
        | cons t l ih =>
          intro h
          have h1 := h t List.mem_cons_self
          have h2 := ih fun u hu => h u (List.mem_cons_of_mem _ hu)
          show max (cutT b t).dep (depL (l.map (cutT b))) ≤ max t.dep (depL l)
          omega
      have := this l ih
      omega
theorem cut_can {b : T} : ∀ t : T, Can t → Can (cutT b t) := by
  refine T.ind' (fun _ => trivial) fun l ih hc => ?_
  rw [cut_bas]
  split
  · trivial
  · split
    · exact hc
    · exact can_bas (canL_iff.mpr fun t ht => by
        obtain ⟨u, hu, rfl⟩ := List.mem_map.mp ht
        exact ih u hu (canL_iff.mp hc.2 u hu))
def nested (p q : List Nat) : Prop := p.take (min p.length q.length) = q.take (min p.length q.length)
instance (p q : List Nat) : Decidable (nested p q) := inferInstanceAs (Decidable (_ = _))
theorem nopre_of {p q : List Nat} {a b : T} (h : ¬ nested p q) : NoPre [(p, a), (q, b)] := by
  refine List.pairwise_cons.mpr ⟨fun x hx => ?_, List.pairwise_singleton _ _⟩
  rw [List.mem_singleton.mp hx]
  refine ⟨fun z => h ?_, fun z => h ?_⟩
  · obtain ⟨r, e⟩ := z
    have e : p ++ r = q := e
    unfold nested
    rw [← e, List.length_append, Nat.min_eq_left (by omega), List.take_length, List.take_left]
  · obtain ⟨r, e⟩ := z
    have e : q ++ r = p := e
    unfold nested
    rw [← e, List.length_append, Nat.min_eq_right (by omega), List.take_length, List.take_left]
end JW
namespace AL
open PySem PySem.Spec PyProof.Rows L2 LamX JW
def aiEnumV (i : Nat) : ATI := fun env L Q => match env[i]? with
  | some (some (.ref p)) => ∃ l, L p = some (.lst l) ∧ Q (enumD l) (lstAt p l) L
  | some (some (.tup l)) => Q (enumD l) yes L
  | _ => False
section
variable {X : Cx} {c : AC X.K} {H0 : Hp} {e : Expr} {p pos tpos : Pos} {elts : List Expr} {kk i : Nat}
theorem pi_or {tg it : Expr} {t u : TI} (h : PI X tg it t) (k : PI X tg it u) : PI X tg it fun σ H R => t σ H R ∨ u σ H R :=
  ⟨fun pins s σ H R I q => q.elim (h.run pins s σ H R I) (k.run pins s σ H R I)⟩
theorem ai_enumV (hg : Gl X "enumerate") (hm : X.mg "enumerate" = none) (ha : AE X c H0 e (aVar i)) (hs : starEach [e] X.env = (false, eval e X.env) :: starEach [] X.env := by rfl) (hs2 : starEach [e] X.env = [(false, eval e X.env)] := by rfl) : AI X c H0 (.Tuple elts kk tpos) (.Call (.Name "enumerate" p) [e] [] pos) (aiEnumV i) := by
  refine (pi_or (pi_enum hg hm (aa_cons ha aa_nil hs) hs2) (pi_enumT hg hm (aa_cons ha aa_nil hs) hs2)).imp fun σ H Q ⟨env, L, R, rl, h, pq⟩ => ?_
  unfold aiEnumV at h
  split at h
  · rename_i q e0
    obtain ⟨l, e1, h⟩ := h
    have hA : aCons (aVar i) aNil env L (fun ds L1 => L1 = L ∧ ds = [.ref q]) := by
      show aVar i env L _
      unfold aVar
      rw [e0]
      exact ⟨rfl, rfl⟩
    refine .inl ⟨env, L, _, rl, hA, fun ds L1 vs H1 ⟨e2, e3⟩ s1 g1 r1 => ?_⟩
    subst e2 e3
    obtain ⟨v, rfl, r2⟩ := repL_one r1
    cases rep_ref.mp r2
    obtain ⟨ws, e2, rs⟩ := good_lst g1 e1
    exact ⟨_, ws, rfl, SqL.of e2, pq _ _ _ _ H1 h s1 g1 (walkA_enumL g1 e1)⟩
  · rename_i l e0
    have hA : aCons (aVar i) aNil env L (fun ds L1 => L1 = L ∧ ds = [.tup l]) := by
      show aVar i env L _
      unfold aVar
      rw [e0]
      exact ⟨rfl, rfl⟩
    refine .inr ⟨env, L, _, rl, hA, fun ds L1 vs H1 ⟨e2, e3⟩ s1 g1 r1 => ?_⟩
    subst e2 e3
    obtain ⟨v, rfl, r2⟩ := repL_one r1
    obtain ⟨p, vs, rfl, e1, rs⟩ := rep_tup.mp r2
    exact ⟨p, vs, rfl, e1, pq _ _ _ _ H1 h s1 g1 (walkA_enumT e1 rs)⟩
  · exact h.elim
end
end AL
namespace AL
open PySem PySem.Spec PyProof.Rows L2 LamX JW
section
variable {prog : Program} {w : World} {A : Around} {E : Value → Shared → Prop} {s : Shared}
theorem next_list_hot {it l x1 : Addr} {i : Nat} {items : Array Value} {Q : Option Value → Shared → Prop} (hot : HotX.HotAt A x1 s.heap) (hne : x1 ≠ it)
    (hit : s.heap.IsListIter it l i) (hl : s.heap.IsList l items) (hx : items[i]? = none) (hQ : ∀ h', Heap.ExtBut it s.heap h' → Q none { s with heap := h' }) : wpAny (model prog w) A (pyNext (.ref it)) Q E s := by
  obtain ⟨hh, o1, vs1, h1, d1, c1⟩ := hot
  obtain ⟨o, ho, hc, hd⟩ := id hit
  obtain ⟨ol, hol, _, nl, hdl⟩ := hl
  unfold pyNext
  refine wpAny_bind (wpAny_attempt (wpAny_callSpecial?_slot (name := Str.ofString "__next__") hit.typeIs slot_listiter_next (wpAny_call_entry slot_listiter_next hit.typeIs entry_listiter_next ?_ (args_listiter_next _))))
  show wpAny _ _ (field (.ref it) 0 >>= _) _ _ s
  refine wpAny_bind (wpAny_field ho hd (x := .ref l) rfl ?_)
  show wpAny _ _ (if (Value.ref l == Value.none) = true then _ else _) _ _ s
  rw [if_neg (show ¬ ((Value.ref l == Value.none) = true) from Bool.false_ne_true)]
  show wpAny _ _ (field (.ref it) 1 >>= _) _ _ s
  refine wpAny_bind (wpAny_field ho hd (x := .int i 0) rfl ?_)
  show wpAny _ _ (seqItems? (.ref l) >>= _) _ _ s
  refine wpAny_bind (wpAny_seqItems hol hdl ?_)
  simp only [Int.toNat_natCast, hx]
  refine wpAny_bind (wpAny_rule (wpAny_bind (wpAny_setField ho hd (by simp) ?_)))
  show wpAny _ _ (newExc (.type "StopIteration") [] >>= _) _ _ _
  refine wpAny_bind ?_
  simp only [newExc, newTuple]
  refine wpAny_bind (wpAny_newObj_type ?_ (by size_fits))
  refine wpAny_bind (m := firstArgMember _ _) (wpAny_of_eq (a := Value.none) (by first | rfl | (simp only [firstArgMember]; rfl)) ?_)
  refine wpAny_newObj_type ?_ (by size_fits)
  have k1 : ∀ b u, b ≠ it → s.heap.get? b = some u → (s.heap.update it (Obj.mapFields fun x => x.setIfInBounds 0 Value.none)).get? b = some u := fun b u hb e => (Heap.get?_update_other _ _ (Ne.symm hb)).trans e
  refine HotX.raiseNew_hot ⟨hh, o1, vs1, Heap.get?_push_of_some _ (Heap.get?_push_of_some _ (k1 _ _ hne h1)), d1, c1⟩ (Nat.ne_of_lt (Heap.lt_size (Heap.get?_push_of_some _ (k1 _ _ hne h1)))) (Heap.get?_push_size _ rfl) rfl (by first | (simp; done) | (simp; omega) | (simp only [Array.size_append]; simp; omega)) ?_
  refine wpAny_bind (wpAny_isInstance (T := "StopIteration") (b := true) ⟨_, Heap.get?_update_self _ (Heap.get?_push_size _ rfl) rfl, rfl⟩ isSubtype_stop ?_)
  refine wpAny_pure (hQ _ fun b u hb e => ?_)
  rw [Heap.get?_update_other _ _ (Nat.ne_of_gt (Heap.lt_size (Heap.get?_push_of_some _ (k1 b u hb e))))]
  exact Heap.get?_push_of_some _ (Heap.get?_push_of_some _ (k1 b u hb e))
end
section
variable {prog : Program} {w : World} {A : Around} {E : Value → Shared → Prop} {s : Shared}
theorem next_tup_hot {it t x1 : Addr} {i : Nat} {items : Array Value} {Q : Option Value → Shared → Prop} (hot : HotX.HotAt A x1 s.heap) (hne : x1 ≠ it)
    (hit : IsTupIter s.heap it t i) (ht : IsTup s.heap t items) (hx : items[i]? = none) (hQ : ∀ h', Heap.ExtBut it s.heap h' → Q none { s with heap := h' }) : wpAny (model prog w) A (pyNext (.ref it)) Q E s := by
  obtain ⟨hh, o1, vs1, h1, d1, c1⟩ := hot
  obtain ⟨o, ho, hc, hd⟩ := id hit
  obtain ⟨ol, hol, _, nl, hdl⟩ := ht
  unfold pyNext
  refine wpAny_bind (wpAny_attempt (wpAny_callSpecial?_slot (name := Str.ofString "__next__") hit.typeIs slot_tupleiter_next (wpAny_call_entry slot_tupleiter_next hit.typeIs entry_tupleiter_next ?_ (args_tupleiter_next _))))
  show wpAny _ _ (field (.ref it) 0 >>= _) _ _ s
  refine wpAny_bind (wpAny_field ho hd (x := .ref t) rfl ?_)
  show wpAny _ _ (if (Value.ref t == Value.none) = true then _ else _) _ _ s
  rw [if_neg (show ¬ ((Value.ref t == Value.none) = true) from Bool.false_ne_true)]
  show wpAny _ _ (field (.ref it) 1 >>= _) _ _ s
  refine wpAny_bind (wpAny_field ho hd (x := .int i 0) rfl ?_)
  show wpAny _ _ (seqItems? (.ref t) >>= _) _ _ s
  refine wpAny_bind (wpAny_seqItems hol hdl ?_)
  simp only [Int.toNat_natCast, hx]
  refine wpAny_bind (wpAny_rule (wpAny_bind (wpAny_setField ho hd (by simp) ?_)))
  show wpAny _ _ (newExc (.type "StopIteration") [] >>= _) _ _ _
  refine wpAny_bind ?_
  simp only [newExc, newTuple]
  refine wpAny_bind (wpAny_newObj_type ?_ (by size_fits))
  refine wpAny_bind (m := firstArgMember _ _) (wpAny_of_eq (a := Value.none) (by first | rfl | (simp only [firstArgMember]; rfl)) ?_)
  refine wpAny_newObj_type ?_ (by size_fits)
  have k1 : ∀ b u, b ≠ it → s.heap.get? b = some u → (s.heap.update it (Obj.mapFields fun x => x.setIfInBounds 0 Value.none)).get? b = some u := fun b u hb e => (Heap.get?_update_other _ _ (Ne.symm hb)).trans e
  refine HotX.raiseNew_hot ⟨hh, o1, vs1, Heap.get?_push_of_some _ (Heap.get?_push_of_some _ (k1 _ _ hne h1)), d1, c1⟩ (Nat.ne_of_lt (Heap.lt_size (Heap.get?_push_of_some _ (k1 _ _ hne h1)))) (Heap.get?_push_size _ rfl) rfl (by first | (simp; done) | (simp; omega) | (simp only [Array.size_append]; simp; omega)) ?_
  refine wpAny_bind (wpAny_isInstance (T := "StopIteration") (b := true) ⟨_, Heap.get?_update_self _ (Heap.get?_push_size _ rfl) rfl, rfl⟩ isSubtype_stop ?_)
  refine wpAny_pure (hQ _ fun b u hb e => ?_)
  rw [Heap.get?_update_other _ _ (Nat.ne_of_gt (Heap.lt_size (Heap.get?_push_of_some _ (k1 b u hb e))))]
  exact Heap.get?_push_of_some _ (Heap.get?_push_of_some _ (k1 b u hb e))
theorem unpack_hot {t x1 : Addr} {items : Array Value} {Q : List Value → Shared → Prop} (hot : HotX.HotAt A x1 s.heap) (ht : IsTup s.heap t items)
    (hQ : ∀ h', Heap.ExtBut s.heap.objs.size s.heap h' → Q items.toList { s with heap := h' }) : wpAny (model prog w) A (unpackItems (.ref t) items.size none) Q E s := by
  have ne : t ≠ s.heap.objs.size := by
    obtain ⟨o, ho, _⟩ := ht
    exact Nat.ne_of_lt (Heap.lt_size ho)
  obtain ⟨hh, o1, vs1, h1, d1, c1⟩ := hot
  have ne1 : x1 ≠ s.heap.objs.size := Nat.ne_of_lt (Heap.lt_size h1)
  unfold unpackItems
  refine wpAny_bind ?_
  unfold notIterableAtAll
  refine wpAny_bind (wpAny_specialOf ht.typeIs slot_tuple_iter.lookup (wpAny_pure ?_))
  simp only [Bool.false_eq_true, if_false]
  refine wpAny_bind (wpAny_holding (iter_tuple ht ?_))
  refine wpAny_bind (wpAny_holding (draw_tuple ne items.size 0 _ _ ⟨_, Heap.get?_push_size _ rfl, rfl, rfl⟩ (ht.push _) (by omega) fun ha ita sa => ?_))
  have all : List.take items.size (List.drop 0 items.toList) = items.toList := by
    rw [List.drop_zero]
    exact List.take_of_length_le (by simp)
  rw [all, if_neg (by simp)]
  have h1a : ha.get? x1 = some o1 := sa.extBut x1 o1 ne1 (Heap.get?_push_of_some _ h1)
  refine wpAny_bind (wpAny_holding (next_tup_hot ⟨hh, o1, vs1, h1a, d1, c1⟩ ne1 ita ((ht.push _).extBut sa.extBut ne) (by simp) fun hb eb => ?_))
  simp only [Option.isSome_none, Bool.false_eq_true, if_false]
  exact wpAny_pure (hQ hb fun b o nb e => eb b o nb (sa.extBut b o nb (Heap.get?_push_of_some _ e)))
end
def HotIn (X : Cx) : Prop := ∃ x1, ∀ (pins : List (Addr × Obj)) (σ : L2.St) (H : Hp) (s : Shared), Inv X pins σ H s → HotX.HotAt X.A x1 s.heap
theorem pg_tupX {X : Cx} {es : List Expr} {k : Nat} {pos : Pos} {t : TGs} {n : Nat} (hot : HotIn X) (h : PGs X es t) (hn : (assignEach es X.env).length = n := by rfl) (hst : (assignEach es X.env).findIdx? (·.1) = none := by rfl) : PG X (.Tuple es k pos) (gTup X.K n t) := by
  obtain ⟨x1, hot⟩ := hot
  refine ⟨fun pins s σ H v u Q I r ⟨a, xs, e1, hq, hl, hw⟩ => ?_⟩
  subst e1
  cases r
  obtain ⟨its, rv, ht, _⟩ := I.tuple hq
  have hsz : (assignEach es X.env).length = its.toArray.size := by simp [hn, ← hl, rv.length]
  rw [assign_Tuple]
  refine wpAny_bind (wpAny_standAt ?_)
  unfold unpack
  rw [hsz, hst]
  refine wpAny_bind (wpAny_holding (unpack_hot (hot pins σ H s I) ht fun h' hx => ?_))
  exact h.run pins _ σ H xs _ Q (I.kept (t' := s.toks) fun b o e => hx b o (Nat.ne_of_lt (Heap.lt_size e)) e) (by simpa using rv) hw
structure TurnX (P : Program) (w : World) (K : PySem.W.Frag) (tg : Expr) (J : It) (fp : List Addr) (it : Addr) (tn : Nat → Heap → Prop) : Prop where
  mem : it ∈ fp
  obj : ∀ i h, tn i h → ∀ b ∈ fp, ∃ o, h.get? b = some o ∧ ∀ v, o.data ≠ .cell v
  keep : ∀ i h h', tn i h → (∀ b ∈ fp, ∀ o, h.get? b = some o → h'.get? b = some o) → tn i h'
  item : ∀ (X : Cx), X.prog = P → X.w = w → X.K = K → ∀ (i : Nat) (pins : List (Addr × Obj)) (s : Shared) (σ : L2.St) (H : Hp) (E : Value → Shared → Prop), Inv X pins σ H s → (∀ b ∈ fp, FpOk X pins H b) → tn i s.heap → J.go i H →
    wpAny (model P w) X.A (pyNext (.ref it)) (fun r s1 => ∃ u, r = some u ∧ wpAny (model P w) X.A (letOwnedTupleGo tg (.ref it) u) (fun _ s2 => ∃ x H', Inv X pins σ H' s2 ∧ RelV x u ∧ J.yld i H x H' ∧ tn (i + 1) s2.heap ∧ ∀ b ∈ fp, H' b = none) E s1) E s
  done : ∀ (X : Cx), X.prog = P → X.w = w → X.K = K → ∀ (i : Nat) (pins : List (Addr × Obj)) (s : Shared) (σ : L2.St) (H : Hp) (E : Value → Shared → Prop) (x1 : Addr), HotX.HotAt X.A x1 s.heap → x1 ∉ fp → Inv X pins σ H s → (∀ b ∈ fp, FpOk X pins H b) → tn i s.heap → J.stop i H →
    wpAny (model P w) X.A (pyNext (.ref it)) (fun r s1 => r = none ∧ Inv X pins σ H s1) E s
  self : ∀ (A : Around) (i : Nat) (s : Shared) (Q : Value → Shared → Prop) (E : Value → Shared → Prop), tn i s.heap → Q (.ref it) s → wpAny (model P w) A (pyIter (.ref it)) Q E s
theorem turnX_list {P : Program} {w : World} {K : PySem.W.Frag} {tg : Expr} (a it : Addr) : TurnX P w K tg (Itl K a) [it] it (fun i h => h.IsListIter it a i) where
  mem := List.mem_singleton.mpr rfl
  obj := fun i h st b hb => by
    obtain ⟨o, e, _, d⟩ := st
    exact ⟨o, by rw [List.mem_singleton.mp hb]; exact e, fun v z => by rw [d] at z; cases z⟩
  keep := fun i h h' st k => st.at fun o e => k it (List.mem_singleton.mpr rfl) o e
  item := by
    intro X eP ew eK i pins s σ H E I ok st ⟨xs, x, hq, hx⟩
    subst eP ew eK
    obtain ⟨its, rv, p, _⟩ := I.list hq
    obtain ⟨u, hu, ru⟩ := rv.get hx
    obtain ⟨f0, f1, f2, f3, f4, f5⟩ := ok it (List.mem_singleton.mpr rfl)
    refine wpAny_pyNext_list_item st p.isList (x := u) (by simpa using hu) fun h' st' sb => ?_
    have J1 : Inv X pins σ H { s with heap := h' } := I.turned (t' := s.toks) (fun b o hb e => (sb.2 b hb).trans e) f0 f1 f3 f4 f5
    obtain ⟨o, e, c, d⟩ := id st'
    exact ⟨u, rfl, go_of (s := { s with heap := h' }) e c d (by decide) ⟨x, H, J1, ru, ⟨rfl, fun ys hy => by rw [I.list_inj hy hq]; exact hx⟩, st', fun b hb => (ok b hb).1⟩⟩
  done := by
    intro X eP ew eK i pins s σ H E x1 hot hn I ok st ⟨xs, hq, hx⟩
    subst eP ew eK
    obtain ⟨its, rv, p, _⟩ := I.list hq
    obtain ⟨f0, f1, f2, f3, f4, f5⟩ := ok it (List.mem_singleton.mpr rfl)
    have hl := rv.length
    exact next_list_hot hot (fun z => hn (List.mem_singleton.mpr z)) st p.isList (by simp; omega) fun h' eb => ⟨rfl, I.turned (t' := s.toks) (fun b o hb e => eb b o hb e) f0 f1 f3 f4 f5⟩
  self := fun _ _ _ _ _ st h => wpAny_pyIter_listiter st h
structure PIX (X : Cx) (tg iter : Expr) (wi : TI) : Prop where
  run : ∀ (pins : List (Addr × Obj)) (s : Shared) (σ : L2.St) (H : Hp) (R : It → Hp → Prop), Inv X pins σ H s → wi σ H R →
    wpAny (model X.prog X.w) X.A (eval iter X.env) (fun v s1 => wpAny (model X.prog X.w) X.A (pyIter v) (fun itv s2 => ∃ (it : Addr) (fp : List Addr) (tn : Nat → Heap → Prop) (J : It) (H' : Hp), itv = .ref it ∧ Inv X pins σ H' s2 ∧ TurnX X.prog X.w X.K tg J fp it tn ∧ tn 0 s2.heap ∧ (∀ b ∈ fp, FpOk X pins H' b) ∧ R J H') X.xe s1) X.xe s
theorem pix_list {X : Cx} {tg l : Expr} {tl : TE} (hl : PE X l tl) : PIX X tg l (iList X.K tl) := by
  refine ⟨fun pins s σ H R I h => thn (hl.run pins s σ H _ I h) fun v s1 ⟨x, H1, I1, r1, a, e, ⟨xs, hq⟩, q⟩ => ?_⟩
  subst e
  cases r1
  obtain ⟨its, rv, p, _⟩ := I1.list hq
  refine wpAny_pyIter_list p.isList ⟨s1.heap.objs.size, [s1.heap.objs.size], _, _, H1, rfl, I1.kept (t' := s1.toks) fun b o e => Heap.get?_push_of_some _ e, turnX_list a _, ⟨_, Heap.get?_push_size _ rfl, rfl, rfl⟩, fun b hb => ?_, q⟩
  rw [List.mem_singleton.mp hb]
  exact I1.fpOk (Nat.le_refl _) (I1.hok.fresh (Nat.le_refl _))
theorem pe_lcX {X : Cx} {elt tg iter : Expr} {ifs : List Expr} {scope : Scope} {own : List (Str × Nat)} {pos : Pos} {wi : TI} {g : TG} {tt : TT} {te : TE} (hot : L2H.HotC X) (hN : X.N.Nodup) (hi : PIX X tg iter wi) (ok : BlkOk X.N X.env.scope scope own)
    (hg : ∀ (s : Shared) (H : Hp) (C : Addr) (cl : List (Str × Addr)) (fp : List Addr), HotIn (X.blk s H scope (compEnvC scope cl C X.env) fp) → PG (X.blk s H scope (compEnvC scope cl C X.env) fp) tg g) (ht : ∀ (s : Shared) (H : Hp) (C : Addr) (cl : List (Str × Addr)) (fp : List Addr), PTs (X.blk s H scope (compEnvC scope cl C X.env) fp) ifs tt)
    (he : ∀ (s : Shared) (H : Hp) (C : Addr) (cl : List (Str × Addr)) (fp : List Addr), PE (X.blk s H scope (compEnvC scope cl C X.env) fp) elt te) (hs : ∀ x, foldedSetIterable iter X.env x = pure x := by intro _; rfl) :
    PE X (.ListComp elt [⟨tg, iter, ifs, 0⟩] scope pos) (tLc wi g tt te (own.map (·.2))) := by
  refine ⟨fun pins s σ H Q I h => ?_⟩
  rw [eval_ListComp]
  obtain ⟨p, ⟨hh, v1, d1, c1⟩, hp⟩ := hot
  have caps : ∀ y ∈ scope.names, y.2 = .free → ∃ c, X.env.cells.lookup y.1 = some c := fun y hy e => (ok.free y hy e).elim (fun k => I.ok.has _ (.inl k)) fun k => I.ok.has _ (.inr k)
  refine wpAny_comprehension_free (use := none) rfl hs (closure_ok caps) ok.kind (fun y hy e => by rw [ok.uniq y hy, e]) (thn (hi.run pins s σ H _ I h) fun xv s1 hx => thn hx fun itv s2 ⟨it, fp, tn, J, H2, e, I2, T, st2, f2, q⟩ => ?_)
  subst e
  refine wpAny_newObj_type (newEnv_comp ?_) (by show 0 ≤ sizeLine; decide)
  generalize hD : s2.heap.objs.size = D
  obtain ⟨W, ⟨m0, w0⟩, turn⟩ := q D (I2.hok.fresh (Nat.le_of_eq hD))
  generalize hs3 : ({ s2 with heap := s2.heap.push { cls := .type "list", data := .seq ([] : List Value).toArray } } : Shared) = s3
  have h3 : s3.heap = s2.heap.push { cls := .type "list", data := .seq ([] : List Value).toArray } := by rw [← hs3]
  have I3 : Inv X pins σ (upd H2 D (.lst [])) s3 := by
    rw [← hs3]
    exact I2.laid (t' := s2.toks) (fun b o e => Heap.get?_push_of_some _ e) (Nat.le_of_eq hD) ⟨Nat.zero_le _, [], 0, .nil, by rw [← hD]; exact Heap.get?_push_size _ rfl⟩
  have f3 : ∀ b ∈ fp, FpOk X pins (upd H2 D (.lst [])) b ∧ b < s3.heap.objs.size := fun b hb => by
    obtain ⟨o, e, _⟩ := T.obj _ _ st2 b hb
    have lt : b < s2.heap.objs.size := Heap.lt_size e
    exact ⟨⟨by rw [upd_ne (by rw [← hD]; exact Nat.ne_of_lt lt)]; exact (f2 b hb).1, (f2 b hb).2⟩, by rw [h3, Heap.size_push]; exact Nat.lt_succ_of_lt lt⟩
  have st3 : tn 0 s3.heap := T.keep _ _ _ st2 fun b _ o e => by rw [h3]; exact Heap.get?_push_of_some _ e
  have P3 := I3.pin p (List.mem_append_left _ hp)
  have pst : p.1 ∉ frs X.stack := fun hm => (List.mem_cons.mp (I3.stkSub p.1 hm)).elim P3.2.2.1 P3.2.2.2.1
  have pfp : p.1 ∉ fp := fun hm => (f3 p.1 hm).1.2.2.2.2.2 p (List.mem_append_left _ hp) rfl
  have I4 := block_start I3 ok hN f3
  have pg := hg s3 (upd H2 D (.lst [])) s3.heap.objs.size (cellsFrom (s3.heap.objs.size + 1) scope.names (cloFrom X.env.cells scope.names [])) fp ⟨p.1, fun pins' σ' H' s' J' => ⟨hh, p.2, v1, J'.base.keep p.1 p.2 P3.1 P3.2.1 pst pfp, d1, c1⟩⟩
  have pt := ht s3 (upd H2 D (.lst [])) s3.heap.objs.size (cellsFrom (s3.heap.objs.size + 1) scope.names (cloFrom X.env.cells scope.names [])) fp
  have pe := he s3 (upd H2 D (.lst [])) s3.heap.objs.size (cellsFrom (s3.heap.objs.size + 1) scope.names (cloFrom X.env.cells scope.names [])) fp
  show codeAny _ _ (.compStart (.ListComp elt [⟨tg, iter, ifs, 0⟩] scope pos) 0 (.ref it) (.ref D) (compEnvC scope (cellsFrom (s3.heap.objs.size + 1) scope.names (cloFrom X.env.cells scope.names [])) s3.heap.objs.size X.env)) (compPost (model X.prog X.w) X.A X.xe none (EP X pins σ Q) (.ref D) s3.heap.objs.size) { s3 with heap := pushCells (s3.heap.push { cls := .type "dict", data := .dict #[] }) scope.names }
  have nfp : ∀ b ∈ fp, (upd H2 D (.lst [])) b = none := fun b hb => (f3 b hb).1.1
  generalize hce : compEnvC scope (cellsFrom (s3.heap.objs.size + 1) scope.names (cloFrom X.env.cells scope.names [])) s3.heap.objs.size X.env = ce at I4 pg pt pe ⊢
  have cL : ce.locals = s3.heap.objs.size := by subst hce; rfl
  generalize hH3 : upd H2 D (.lst []) = H3 at I3 I4 pg pt pe w0 nfp f3 P3
  generalize hs4 : ({ s3 with heap := pushCells (s3.heap.push { cls := .type "dict", data := .dict #[] }) scope.names } : Shared) = s4 at I4 ⊢
  have st4 : tn 0 s4.heap := T.keep _ _ _ st3 fun b _ o e => by rw [← hs4]; exact pushCells_keeps _ _ _ _ (Heap.get?_push_of_some _ e)
  have stat : ∀ {σ' : L2.St} {H' : Hp} {s' : Shared}, Inv (X.blk s3 H3 scope ce fp) [] σ' H' s' → (∀ b ∈ fp, H' b = none) → ∀ b ∈ fp, FpOk (X.blk s3 H3 scope ce fp) [] H' b := fun {σ' H' s'} J' hn b hb =>
    ⟨hn b hb, (J'.ok.exf b hb).1, J'.ok.exfs b hb, .inl hb, fun x c e => (J'.ok.exf b hb).2 x c e, fun p hp => absurd (show p ∈ ([] : List (Addr × Obj)) ++ [] from hp) List.not_mem_nil⟩
  have loop : codeAny (model X.prog X.w) X.A (.compLoop (.ListComp elt [⟨tg, iter, ifs, 0⟩] scope pos) 0 (.ref it) (.ref D) ce) (compPost (model X.prog X.w) X.A X.xe none (EP X pins σ Q) (.ref D) s3.heap.objs.size) s4 := by
    refine compLoop_any (fun n s' => ∃ i H', Inv (X.blk s3 H3 scope ce fp) [] (wipe σ (own.map (·.2))) H' s' ∧ tn i s'.heap ∧ (∀ b ∈ fp, H' b = none) ∧ W i n H') ?_ m0 ⟨0, H3, I4, st4, nfp, w0⟩
    rintro n s5 ⟨i, H5, I5, st5, n5, w5⟩
    have hot5 : HotX.HotAt X.A p.1 s5.heap := ⟨hh, p.2, v1, I5.base.keep p.1 p.2 P3.1 P3.2.1 pst pfp, d1, c1⟩
    rcases turn i n H5 w5 with ⟨stop, qq⟩ | ⟨go, Nx, hNx, step⟩
    · refine thnF (T.done (X.blk s3 H3 scope ce fp) rfl rfl rfl i [] s5 _ H5 (fun _ _ => False) p.1 hot5 pfp I5 (stat I5 n5) st5 stop) fun r s6 ⟨hr, I6⟩ => ?_
      subst hr
      have I7 : Inv X pins σ H5 s6 := I3.call' (ch := fp) I6.os I6.base I6.hok I6.bare fun b hb => ⟨(f3 b hb).1.2.2.2.1, (f3 b hb).1.2.1, (f3 b hb).1.2.2.2.2.1, (f3 b hb).1.2.2.2.2.2⟩
      have nC : H5 s3.heap.objs.size = none := by
        rw [← cL]
        exact I6.free
      obtain ⟨m, hn, _⟩ := I6.loc
      have hn : s6.heap.Ns s3.heap.objs.size m := by
        rw [← cL]
        exact hn
      refine ⟨m, hn, fun h'' sb => ?_⟩
      obtain ⟨g0, g1, g2, g3, g4, g5⟩ := I3.fpOk (Nat.le_refl _) nC
      exact ⟨.ref D, H5, I7.turned (t' := s6.toks) (fun b o hb e => (sb.2 b hb).trans e) g0 g1 g3 g4 g5, rfl, qq⟩
    · refine thnF (T.item (X.blk s3 H3 scope ce fp) rfl rfl rfl i [] s5 _ H5 (fun _ _ => False) I5 (stat I5 n5) st5 go) fun r s6 ⟨u, hr, h6⟩ => ?_
      subst hr
      refine thnF h6 fun _ s7 ⟨x, H7, I7, r7, y7, st7, n7⟩ => ?_
      refine thnF (pg.run _ s7 _ H7 x u _ (I7.pinned (stat I7 n7) (T.obj _ _ st7)) r7 (step x H7 y7)) fun _ s8 ⟨σ8, H8, I8, hw8, q8⟩ => ?_
      refine thnF (pt.run _ s8 σ8 H8 _ I8 q8) fun b s9 ⟨H9, I9, q9⟩ => ?_
      have next : ∀ {s' : Shared} {H' : Hp}, Inv (X.blk s3 H3 scope ce fp) ([] ++ pinsAt fp s7.heap) σ8 H' s' → Nx H' → ∃ m, m < n ∧ ∃ i H', Inv (X.blk s3 H3 scope ce fp) [] (wipe σ (own.map (·.2))) H' s' ∧ tn i s'.heap ∧ (∀ b ∈ fp, H' b = none) ∧ W i m H' := fun {s' H'} J' nx => by
        obtain ⟨m', hm, w'⟩ := hNx H' nx
        have kept : ∀ b ∈ fp, ∀ o, s7.heap.get? b = some o → s'.heap.get? b = some o ∧ H' b = none := fun b hb o e =>
          let z := J'.pin (b, o) (List.mem_append_right _ (List.mem_append_right _ (mem_pinsAt hb e)))
          ⟨z.1, z.2.1⟩
        refine ⟨m', hm, i + 1, H', (J'.unpinned (pins := [])).weak (by rw [← hw8, wipe_length]) (fun j v e => ?_), T.keep _ _ _ st7 fun b hb o e => (kept b hb o e).1, fun b hb => ?_, w'⟩
        · rw [← hw8] at e
          exact (wipe_some e).1
        · obtain ⟨o, e, _⟩ := T.obj _ _ st7 b hb
          exact (kept b hb o e).2
      cases b with
      | false =>
        simp only [Bool.false_eq_true, if_false] at q9 ⊢
        exact next I9 q9
      | true =>
        simp only [if_true] at q9 ⊢
        exact thnF (pe.run _ s9 σ8 H9 _ I9 q9) fun z s10 ⟨yv, H10, I10, r10, acc, hD10, hz10, nx⟩ => app_ok (X := X.blk s3 H3 scope ce fp) I10 hD10 hz10 r10 fun s11 I11 => next I11 nx
  exact codeAny_compStart_list loop (T.self X.A 0 _ _ _ st4 loop)
theorem pg_tupXK {X : Cx} {K : PySem.W.Frag} {es : List Expr} {k : Nat} {pos : Pos} {t : TGs} {n : Nat} (eK : X.K = K) (hot : HotIn X) (h : PGs X es t) (hn : (assignEach es X.env).length = n := by rfl) (hst : (assignEach es X.env).findIdx? (·.1) = none := by rfl) : PG X (.Tuple es k pos) (gTup K n t) := by
  subst eK
  exact pg_tupX hot h hn hst
theorem PIX.imp {X : Cx} {tg it : Expr} {t t' : TI} (h : PIX X tg it t) (k : ∀ σ H R, t' σ H R → t σ H R) : PIX X tg it t' := ⟨fun pins s σ H R I q => h.run pins s σ H R I (k σ H R q)⟩
section
variable {X : Cx} {c : AC X.K} {H0 : Hp} {tg e : Expr} {a : ATE}
theorem aix_list (h : AE X c H0 e a) : PIX X tg e (lowI c H0 (aiList a)) := by
  refine (pix_list h).imp fun σ H Q ⟨env, L, R, rl, h, pq⟩ => ?_
  refine ⟨env, L, _, rl, h, fun d L1 x H1 q s1 g1 r1 => ?_⟩
  obtain ⟨p, rfl, l, e, q⟩ := ref_low r1 q
  obtain ⟨vs, e1, rs⟩ := good_lst g1 e
  exact ⟨p, rfl, ⟨vs, SqL.of e1⟩, pq _ _ L1 _ H1 q s1 g1 (walkA_list g1 e)⟩
theorem ae_lcIfX {elt iter cond : Expr} {scope : Scope} {own : List (Str × Nat)} {pos : Pos} {ai : ATI} {g : TG} {ag : ATG} {t : ATT} (hot : L2H.HotC X) (hN : X.N.Nodup) (hi : PIX X tg iter (lowI c H0 ai)) (ok : BlkOk X.N X.env.scope scope own) (hk : TgOk c g ag (own.map (·.2)))
    (hg : ∀ (s : Shared) (H : Hp) (C : Addr) (cl : List (Str × Addr)) (fp : List Addr), HotIn (X.blk s H scope (compEnvC scope cl C X.env) fp) → PG (X.blk s H scope (compEnvC scope cl C X.env) fp) tg g)
    (ht : ∀ (s : Shared) (H : Hp) (C : Addr) (cl : List (Str × Addr)) (fp : List Addr), AT (X.blk s H scope (compEnvC scope cl C X.env) fp) c H0 cond t)
    (he : ∀ (s : Shared) (H : Hp) (C : Addr) (cl : List (Str × Addr)) (fp : List Addr), AE (X.blk s H scope (compEnvC scope cl C X.env) fp) c H0 elt a) (hs : ∀ x, foldedSetIterable iter X.env x = pure x := by intro _; rfl) :
    AE X c H0 (.ListComp elt [⟨tg, iter, [cond], 0⟩] scope pos) (aLc ai ag t a (own.map (·.2))) :=
  (pe_lcX (tt := lowT (K := X.K) c H0 t) (te := lowE (K := X.K) c H0 a) hot hN hi ok hg (fun s H C cl fp => pts_one (ht s H C cl fp)) he hs).imp fun σ H Q q => low_lc hk (fun _ _ _ z => z) q
end
section
variable {X : Cx} {c : AC X.K} {H1 : Hp} {a : Addr} {oe : Obj} {cls : Value} {d : Option Addr} {y : Str} {fs : List (Str × D)} {i : Nat} {n z f : Str} {p p1 p2 pos : Pos} {C : Addr}
theorem call_isP (hp : (a, oe) ∈ X.pn) (hz : Zc cls d oe) (hf : ∃ vs, oe.data = .fields vs) : CallR X (.builtin "isinstance") (rIsX X.K cls d a) := by
  intro pins s σ H xs us Q I r ⟨D, c, cv, b, e0, C, e1, hcv, e, hd, q⟩
  subst e0 e1
  obtain ⟨u1, u2, rfl, r1, r2⟩ := vals2 r
  cases (show u1 = Value.ref a from r1)
  have ec := hcv _ r2
  subst ec
  obtain ⟨hget, _⟩ := I.pin (a, oe) (List.mem_append.mpr (.inl hp))
  obtain ⟨vs, hv⟩ := hf
  obtain ⟨od, J⟩ : ∃ od, PySem.W.InstAt s.heap a oe D od := by
    cases d with
    | none =>
      refine ⟨none, hget, hz.1, by unfold PySem.W.notCls; rw [hv] <;> rfl, ?_⟩
      rw [hz.2]
      trivial
    | some dd =>
      obtain ⟨fs, ed⟩ := hd dd rfl
      have hx : ObjOk X.prog X.w H s.heap dd (.xd fs) := I.hok dd _ ed
      obtain ⟨mA, hns, hr⟩ := hx
      obtain ⟨od, ho, hl⟩ := lookIn_ns hns
      exact ⟨some od, hget, hz.1, by unfold PySem.W.notCls; rw [hv] <;> rfl, by rw [hz.2]; exact ho⟩
  have hcl : (PySem.W.clsIn X.K D).isSome = true := by
    obtain ⟨cd, h1, _⟩ := PySem.W.any_some C.hd
    rw [h1] <;> rfl
  exact PySem.W.kia_one (PySem.W.kitx_exc hcl C.hg C.hk C.hs C.ha C.hn C.ht C.hm) I.kIn J e (fun z => nomatch z) fun tk => ⟨.bl b, H, I.kept (t' := tk) fun _ _ z => z, rfl, q⟩
theorem ae_isP {K : PySem.W.Frag} (eK : X.K = K) (hp : (a, oe) ∈ X.pn) (hz : Zc cls d oe) (hf : ∃ vs, oe.data = .fields vs) (ec : cls = .ref (He.ga X.K y)) (er : ErrR c H1 fs d) (hg : Gl X "isinstance") (hm : X.mg "isinstance" = none) (hN : X.N[i]? = some n) (hv : Vis X.env.scope n)
    (hz2 : Gl X z) (hC : X.mg z = some (.ref C)) (hd : (n == ("__debug__" : Str)) = false := by decide) (hcd : (n == ("__classdict__" : Str)) = false := by decide) (hd2 : (z == ("__debug__" : Str)) = false := by decide)
    (he : starEach [.Name n p1, .Name z p2] X.env = (false, eval (.Name n p1) X.env) :: starEach [.Name z p2] X.env := by rfl) (he2 : starEach [.Name z p2] X.env = (false, eval (.Name z p2) X.env) :: starEach [] X.env := by rfl) (hpl : (backTo pos (starEach [.Name z p2] X.env)).any (·.1) = false := by rfl) :
    AE X c H1 (.Call (.Name "isinstance" p) [.Name n p1, .Name z p2] [] pos) (aIsX K a y C i) := by
  subst eK
  refine (pe_callB (call_isP hp hz hf) hg hm (by decide +kernel) (pa_cons (pe_var (X := X) hN hv hd hcd) (pa_cons (pe_glob (v := .ref C) hz2 hC rfl hd2) pa_nil he2) he) (by decide) (by decide) he hpl).imp fun σ H Q ⟨env, L, R, rl, h, pq⟩ => ?_
  obtain ⟨e1, b, e2, e3, q⟩ := h
  obtain ⟨v, e4, r⟩ := rl.env.get i _ e1
  cases rep_ref.mp r
  exact ⟨_, e4, _, _, _, b, ec, e3, rfl, fun u h => h, e2, (er.fr rl.fr).xd, pq.here q rl.good (rep_bl.mpr rfl)⟩
theorem ae_xfP {K : PySem.W.Frag} (eK : X.K = K) (hp : (a, oe) ∈ X.pn) (hz : Zc cls d oe) (hf : ∃ vs, oe.data = .fields vs) (ec : cls = .ref (He.ga X.K y)) (er : ErrR c H1 fs d) (hN : X.N[i]? = some n) (hv : Vis X.env.scope n) (hd : (n == ("__debug__" : Str)) = false := by decide) (hcd : (n == ("__classdict__" : Str)) = false := by decide)
    (hb : attributeBase (.Name n p1) f X.env (eval (.Name n p1) X.env) = eval (.Name n p1) X.env := by rfl) : AE X c H1 (.Attribute (.Name n p1) f pos) (aXf K a y fs f i) := by
  subst eK
  refine ⟨fun pins s σ H Q I ⟨env, L, R, rl, ⟨e1, T, na, d', e2, q⟩, pq⟩ => ?_⟩
  obtain ⟨v, e4, r⟩ := rl.env.get i _ e1
  cases rep_ref.mp r
  refine attr_of hb (thn ((pe_var (X := X) hN hv hd hcd).run pins s σ H (fun x H' => x = .ref a ∧ H' = H) I ⟨_, e4, rfl, rfl⟩) fun u s1 ⟨x, H', I1, rx, ex, eH⟩ => ?_)
  subst ex eH ec
  obtain rfl : u = Value.ref a := rx
  obtain ⟨ha, _⟩ := I1.pin (a, oe) (List.mem_append_left _ hp)
  obtain ⟨vs, hdt⟩ := hf
  rcases er.fr rl.fr with ⟨e5, _⟩ | ⟨f2, d2, a2, v2, e5, e6, e7, r2⟩
  · rw [e2] at e5
    cases e5
  · rw [e2] at e5
    cases e5
    subst e6
    have hx : ObjOk X.prog X.w H' s1.heap a2 (.xd [(f, v2)]) := I1.hok a2 _ e7
    obtain ⟨mA, hns, hr⟩ := hx
    obtain ⟨od, ho, hl⟩ := lookIn_ns hns
    obtain ⟨u, hu, ru⟩ := RelO.some_of (v := v2) (o := mA f) (by rw [← show List.lookup f [(f, v2)] = some v2 from by simp [List.lookup]]; exact hr f)
    have J : PySem.W.InstAt s1.heap a oe (He.ga X.K y) (some od) := ⟨ha, hz.1, by unfold PySem.W.notCls; rw [hdt] <;> rfl, by rw [hz.2]; exact ho⟩
    exact HandSPX.exc_get I1.kIn J T.ga T.gg T.exC (PySem.W.findObj_own T.hdC na rfl (by rw [hl, hu])) (handed_of ru) ⟨v2, H', I1.tok _, ru, pq.here q rl.good r2⟩
end
abbrev AsE : Type := Str → List (Str × D) → Store → AQ → Prop
structure FnE (P : Program) (w : World) (K : PySem.W.Frag) (mg : Str → Option Value) (base : Heap) (k : Nat) (f : Addr) (fd : FuncData) (ps : List Str) (c : AC K) (asp : AsE) : Prop where
  run : ∀ (A : Around) (outer : List Env) (s : Shared) (H : Hp) (args : Args) (a : Addr) (oe : Obj) (cls : Value) (d : Option Addr) (y : Str) (fs : List (Str × D)) (L : Store) (R : AQ) (Q : VK), L2H.RoomH k A → L2H.Hot1 A (a, oe) → L2H.PinOk outer H s (a, oe) → Env0 P w K mg base A outer s H → BindsTo s fd args (ps.zip [.ref a]) →
    Zc cls d oe → cls = .ref (He.ga K y) → ErrR c H fs d → Good c L H → asp y fs L R → Pq c H R Q → codeAny (model P w) A (.call (.ref f) args) (CR CX0 outer P w H s Q fun _ _ _ => True) s
structure CallE (P : Program) (w : World) (K : PySem.W.Frag) (mg : Str → Option Value) (base : Heap) (k : Nat) (x : Str) (ps : List Str) (c : AC K) (asp : AsE) : Prop where
  ex : ∃ f fd, mg x = some (.ref f) ∧ PySem.W.keepIn K (.ref f) = true ∧ Binds K fd ps [] ∧ ps.length = 1 ∧ FnE P w K mg base k f fd ps c asp
section
variable {P : Program} {w : World} {K : PySem.W.Frag} {mg : Str → Option Value} {base : Heap} {c : AC K} {x qual : Str} {st : Stmt} {N ps : List Str} {k : Nat} {asp : AsE}
theorem _root_.JW.DefAt.okE {a : Addr → Str → List (Str × D) → ATS} (D : DefAt K mg x qual st [] ps) (S : FnScope N ps (defScope st)) (hl : ps.length = 1)
    (body : ∀ (f : Addr) (cdv : Value) (A : Around) (outer : List Env) (s : Shared) (H : Hp) (E : XK) (b : Addr) (oe : Obj) (cls : Value) (d : Option Addr) (y : Str) (fs : List (Str × AL.D)) (H1 : Hp), L2H.HotC (L2H.cxH CX0 P w K mg base N qual (defScope st) f cdv A outer s H E (b, oe)) → (b, oe) ∈ (L2H.cxH CX0 P w K mg base N qual (defScope st) f cdv A outer s H E (b, oe)).pn →
      L2H.RoomH k (A.deeper (envOfC qual (defScope st) s.heap.objs.size f cdv)) → Zc cls d oe → (∃ vs, oe.data = .fields vs) → cls = .ref (He.ga K y) → ErrR c H1 fs d → ASs (L2H.cxH CX0 P w K mg base N qual (defScope st) f cdv A outer s H E (b, oe)) c H1 (defBody st) (a b y fs))
    (vc : ∀ b y fs L R, asp y fs L R → a b y fs (fnEnds R) (startA N [.ref b]) L) : CallE P w K mg base (k + 1) x ps c asp := by
  obtain ⟨f, fd, h1, F, b⟩ := D.ex
  refine ⟨f, fd, h1, F.kp, b, hl, ⟨fun A outer s H args e oe cls d y fs L R Q hr hot hpin e0 hb hz ec er g h pq => ?_⟩⟩
  obtain ⟨oc, od, dV, kV, doc, pm, an, cdv, ct, osl, rfl, lk, hcd, _, _⟩ := F.ex
  have same : ∀ b o, base.get? b = some o → s.heap.get? b = some o := fun b o z => (e0.bs b o z).1
  have inK : K.In s.heap := e0.mod.kin.keeps same
  have kinds : ∀ y ∈ ps.zip [Value.ref e], (defScope st).names.lookup y.1 = some .local ∨ ((defScope st).names.lookup y.1 = some .cell ∧ ((cellsFrom (s.heap.objs.size + 1) (defScope st).names []).lookup y.1).isSome = true) := by
    rintro ⟨n, v⟩ hy
    exact (S.par n (List.of_mem_zip hy).1).elim .inl fun q => .inr ⟨q, PySem.W.cellsFrom_some _ _ _ (.inl q)⟩
  refine codeAny_call_function hr.depth (inK _ _ lk) rfl S.co S.gen rfl (PySem.W.codeRec_of inK hcd) (hb _ _ _ _ (wpAny_newFunctionEnv_cells S.kind kinds fun env he s1 ic => ?_))
  cases he
  refine ⟨(e0.mod.nolimit.keeps same).keeps ic.toInCall.keep, codeAny_func ?_⟩
  have J0 : Inv (L2H.cxH CX0 P w K mg base N qual (defScope st) f cdv A outer s H (fun _ _ _ => True) (e, oe)) [] (L2.start N [.ref e]) H s1 := L2H.inv_startH S hpin e0 (show ([V.ref e] : List V).length = ps.length by rw [hl]; rfl) (.cons rfl .nil) ic
  obtain ⟨hh, vs, hv, c1⟩ := hot
  have hotc : L2H.HotC (L2H.cxH CX0 P w K mg base N qual (defScope st) f cdv A outer s H (fun _ _ _ => True) (e, oe)) := ⟨(e, oe), ⟨hh, vs, hv, c1⟩, List.mem_singleton.mpr rfl⟩
  have bd := body f cdv A outer s H (fun _ _ _ => True) e oe cls d y fs H hotc (List.mem_singleton.mpr rfl) (hr.deeper _) hz ⟨vs, hv⟩ ec er
  refine wpAny_mono (bd.run [] s1 (L2.start N [.ref e]) H { nx := fun _ H' => Q .non H', rt := Q } J0 (body_low (RepL.one (rep_ref.mpr rfl)) g pq (vc e y fs L R h))) (fun fl s' post => ?_) fun _ _ post => post
  cases fl with
  | ret u =>
    obtain ⟨v, _, H', J, q1, q2⟩ := post
    exact ⟨v, H', J.os, J.bare, J.base, J.hok, q1, q2⟩
  | next =>
    obtain ⟨_, H', J, q2⟩ := post
    exact ⟨V.non, H', J.os, J.bare, J.base, J.hok, rfl, q2⟩
  | brk => exact post.elim fun _ z => z.elim fun _ z => z.2.elim
  | cont => exact post.elim fun _ z => z.elim fun _ z => z.2.elim
end
def aCallE (a : Addr) (y : Str) (fs : List (Str × D)) (asp : AsE) (i : Nat) : ATE := fun env L Q => env[i]? = some (some (.ref a)) ∧ asp y fs L Q
section
variable {X : Cx} {c : AC X.K} {H1 : Hp} {a : Addr} {oe : Obj} {cls : Value} {d : Option Addr} {pn : List (Addr × Obj)} {y : Str} {fs : List (Str × D)} {i : Nat} {n x : Str} {p p1 pos : Pos} {k : Nat} {ps : List Str} {asp : AsE}
theorem ae_callE (C : CallE X.prog X.w X.K X.mg X.base k x ps c asp) (hr : Room k X.A) (hz : Zc cls d oe) (hf : ∃ vs, oe.data = .fields vs) (hctx : PySem.PXN.CtxN oe) (ec : cls = .ref (He.ga X.K y)) (er : ErrR c H1 fs d) (hg : Gl X x) (hN : X.N[i]? = some n) (hv : Vis X.env.scope n)
    (hdb : (x == ("__debug__" : Str)) = false := by decide) (hd : (n == ("__debug__" : Str)) = false := by decide) (hcd : (n == ("__classdict__" : Str)) = false := by decide)
    (he : starEach [.Name n p1] X.env = (false, eval (.Name n p1) X.env) :: starEach [] X.env := by rfl) (hpl : (backTo pos (starEach [] X.env)).any (·.1) = false := by rfl) :
    AE (X.suite a ((a, oe) :: pn)) c H1 (.Call (.Name x p) [.Name n p1] [] pos) (aCallE a y fs asp i) := by
  obtain ⟨f, fd, hm, hk, hb, hl, F⟩ := C.ex
  refine ⟨fun pins s σ H Q I ⟨env, L, R, rl, ⟨e1, h⟩, pq⟩ => ?_⟩
  obtain ⟨v, e4, r⟩ := rl.env.get i _ e1
  cases rep_ref.mp r
  refine wpAny_Call_Name_kw (ld_glob (X := X.suite a ((a, oe) :: pn)) I hg hm ?_ hdb)
  have hE : PE (X.suite a ((a, oe) :: pn)) (.Name n p1) (tVar i) := pe_var (X := X.suite a ((a, oe) :: pn)) hN hv hd hcd
  refine PySem.W.callWith_K (h₀ := X.base) I.ok.mod.kin hk (thn ((pa_cons hE pa_nil he).run pos pins s σ H (fun vs H' => vs = [.ref a] ∧ H' = H) I ⟨_, e4, rfl, rfl⟩) fun us s1 ⟨vs, H', I1, rv, ev, eH⟩ => ⟨I1.kIn, ?_⟩) he hpl
  subst ev eH
  cases rv with
  | cons r0 rr =>
    cases rr
    cases r0
    have b := hb s1 [.ref a] I1.kIn (by rw [List.append_nil, hl]; rfl)
    rw [List.append_nil] at b
    have P1 := I1.pin (a, oe) (List.mem_append_left _ List.mem_cons_self)
    have hpin : L2H.PinOk (X.suite a ((a, oe) :: pn)).stack H' s1 (a, oe) := ⟨P1.1, P1.2.1, fun hm => (List.mem_cons.mp (I1.stkSub a hm)).elim P1.2.2.1 P1.2.2.2.1, P1.2.2.2.2⟩
    obtain ⟨vs, hvs⟩ := hf
    refine wpAny_call (codeAny_mono (F.run _ _ s1 H' ⟨[.ref a], []⟩ a oe cls d y fs L R Q ⟨hr.dp, hr.un⟩ ⟨rfl, vs, hvs, hctx vs hvs⟩ hpin I1.env0 b hz ec (er.fr rl.fr) rl.good h pq) fun r s' hq => ?_)
    cases r with
    | error e => exact False.elim hq
    | ok fl =>
      cases fl with
      | ret u => exact I1.after hq
      | next => exact False.elim hq
      | brk => exact False.elim hq
      | cont => exact False.elim hq
end
end AL
namespace AL
open PySem PySem.Spec PyProof.Rows L2 LamX JW
theorem nat_eqDD (a b : Nat) : eqDD (.int (a : Nat)) (.int (b : Nat)) = some (decide (a = b)) := by
  have : eqDD (.int (a : Nat)) (.int (b : Nat)) = some (decide (((a : Nat) : Int) = ((b : Nat) : Int))) := by
    show (if AL.flatB (.int (a : Nat)) && AL.flatB (.int (b : Nat)) then some (eqV (vD (.int (a : Nat))) (vD (.int (b : Nat)))) else none) = _
    rfl
  rw [this]
  congr 1
  exact decide_eq_decide.mpr ⟨Int.ofNat.inj, fun z => by rw [z]⟩
theorem at_eq_sl {i j k : Nat} {l m : List D} {n : Int} {env : En} {L : Store} {Q : Bool → Store → Prop} (h1 : env[i]? = some (some (.tup l))) (h2 : env[j]? = some (some (.tup m))) (h3 : env[k]? = some (some (.int n)))
    (h : eqSq false (cutD l none (some n)) (cutD m none (some n)) L fun d L1 => blD d fun b => Q b L1) : aBl (aOp (eqG false) (aSl (aVar i) aoNone (aoSome (aVar k))) (aSl (aVar j) aoNone (aoSome (aVar k)))) env L Q := by
  have e1 : ∀ (L : Store) (Q : AQ), aVar i env L Q = Q (.tup l) L := fun L Q => by unfold aVar; rw [h1]
  have e2 : ∀ (L : Store) (Q : AQ), aVar j env L Q = Q (.tup m) L := fun L Q => by unfold aVar; rw [h2]
  have e3 : ∀ (L : Store) (Q : AQ), aVar k env L Q = Q (.int n) L := fun L Q => by unfold aVar; rw [h3]
  unfold aBl aOp aSl aoSome aoNone
  simp only [e1, e2, e3]
  exact h
def aiZipV (as : ATA) : ATI := fun env L Q => as env L fun ds L1 => match ds with
  | [.tup l, .tup m] => Q (zipD l m) yes L1
  | [.ref p, .ref q] => ∃ l m, L1 p = some (.lst l) ∧ L1 q = some (.lst m) ∧ Q (zipD l m) (fun L => L p = some (.lst l) ∧ L q = some (.lst m)) L1
  | _ => False
section
variable {X : Cx} {c : AC X.K} {H0 : Hp} {e f : Expr} {as : ATA} {p pos tpos : Pos} {elts : List Expr} {kk : Nat}
theorem ai_zipV (hg : Gl X "zip") (hm : X.mg "zip" = none) (ha : AA X c H0 [e, f] as) (hs : starEach [e, f] X.env = (false, eval e X.env) :: starEach [f] X.env := by rfl) (hpl : (backTo pos (starEach [f] X.env)).any (·.1) = false := by rfl) : AI X c H0 (.Tuple elts kk tpos) (.Call (.Name "zip" p) [e, f] [] pos) (aiZipV as) := by
  refine (RZ.pi_zipA hg hm ha hs hpl).imp fun σ H Q ⟨env, L, R, rl, h, pq⟩ => ?_
  refine ⟨env, L, _, rl, h, fun ds L1 vs H1 q s1 g1 r1 => ?_⟩
  split at q
  · obtain ⟨v, w, rfl, r2, r3⟩ := repL_two r1
    obtain ⟨a, xs, rfl, e1, rs⟩ := rep_tup.mp r2
    obtain ⟨b, ys, rfl, e2, rs2⟩ := rep_tup.mp r3
    exact ⟨a, b, xs, ys, rfl, .inr ⟨e1, e2, pq _ _ L1 _ H1 q s1 g1 (walkA_zipT e1 e2 rs rs2)⟩⟩
  · obtain ⟨l, m, e1, e2, q⟩ := q
    obtain ⟨v, w, rfl, r2, r3⟩ := repL_two r1
    cases rep_ref.mp r2
    cases rep_ref.mp r3
    obtain ⟨ws, e3, rs⟩ := good_lst g1 e1
    obtain ⟨us, e4, rs2⟩ := good_lst g1 e2
    exact ⟨_, _, ws, us, rfl, .inl ⟨SqL.of e3, SqL.of e4, pq _ _ L1 _ H1 q s1 g1 (walkA_zip g1 e1 e2)⟩⟩
  · exact q.elim
end
theorem comp_accF {g : ATG} {t : ATT} {a : ATE} {G : Store → Prop} {p : Addr} {env : En} {Q : AQ} {L0 : Store} (P : D → Prop) (hG : ∀ l, G (sput L0 p (.lst l))) : ∀ (ds acc : List D), acc.length + ds.length ≤ sizeLine →
    (∀ d ∈ ds, ∀ (l : List D) (k : Bool → D → Store → Prop), k false .non (sput L0 p (.lst l)) → (∀ x, P x → k true x (sput L0 p (.lst l))) → g d env (sput L0 p (.lst l)) fun env1 L1 => L1 = sput L0 p (.lst l) ∧ t env1 L1 fun b L2 => if b = true then a env1 L2 fun x L3 => k true x L3 else k false .non L2) → (∀ x ∈ acc, P x) →
    (∀ xs : List D, xs.length ≤ acc.length + ds.length → (∀ x ∈ xs, P x) → Q (.ref p) (sput L0 p (.lst xs))) → compA g t a G p env Q ds acc (sput L0 p (.lst acc))
  | [], acc, hz, hs, ha, q => ⟨hG acc, sput_same, q acc (Nat.le_refl _) ha⟩
  | d :: ds, acc, hz, hs, ha, q => by
    rw [List.length_cons] at hz
    refine ⟨hG acc, sput_same, hs d List.mem_cons_self acc (fun b x L3 => if b = true then acc.length < sizeLine ∧ L3 p = some (.lst acc) ∧ compA g t a G p env Q ds (acc ++ [x]) (sput L3 p (.lst (acc ++ [x]))) else compA g t a G p env Q ds acc L3) ?_ fun x hx => ?_⟩
    · rw [if_neg Bool.false_ne_true]
      exact comp_accF P hG ds acc (by omega) (fun d' h' => hs d' (List.mem_cons_of_mem _ h')) ha fun xs hl hx => q xs (by rw [List.length_cons]; omega) hx
    · rw [if_pos rfl]
      refine ⟨by omega, sput_same, ?_⟩
      rw [sput_sput]
      refine comp_accF P hG ds (acc ++ [x]) (by rw [List.length_append, List.length_singleton]; omega) (fun d' h' => hs d' (List.mem_cons_of_mem _ h')) (fun y hy => ?_) fun xs hl hx => q xs ?_ hx
      · rcases List.mem_append.mp hy with e | e
        · exact ha y e
        · rw [List.mem_singleton.mp e]; exact hx
      · rw [List.length_append, List.length_singleton] at hl
        rw [List.length_cons]
        omega
theorem SubS.over {A B : Store} {y : Addr} {m : MO} (h : SubS A B) : SubS (sput A y m) (sput B y m) := fun q n e => by
  by_cases z : q = y
  · rw [z, sput_same] at e ⊢
    exact e
  · rw [sput_ne z] at e ⊢
    exact h q n e
end AL
namespace JW
open PySem PySem.Spec PyProof.Rows L2 LamX
theorem ClsO.ty {K : PySem.W.Frag} {mg : Str → Option Value} {x : Str} (c : ClsO K mg x) {H : Hp} {a dx : Addr} {fs : List (Str × V)} (e : H a = some (.ins (He.ga K x) dx fs)) : TyX K H (.ref a) (.ref (He.ga K x)) := .base (.ins e c.c c.hcl c.hgs c.htk c.hmro)
section
variable {X : Cx} {CX : CXT} {k : Nat} {C : Addr} {ps : List Str} {sp : Sp} {E : L2.St → XK}
end
end JW
namespace AL
open PySem PySem.Spec PyProof.Rows L2 LamX JW
section
variable {X : Cx} {c : AC X.K} {k : Nat} {ps : List Str} {asp : ASp} {x : Str}
end
section
variable {X : Cx} {c : AC X.K}
end
end AL
namespace AL
open PySem PySem.Spec PyProof.Rows L2 LamX JW
section
variable {X : Cx} {rest : List MatchCase} {body : List Stmt} {tb : TS} {tr : V → TS} {k : Str} {j} {p q pos : Pos} {e : Expr} {te : TE}
end
section
variable {X : Cx} {c : AC X.K} {H0 : Hp}
end
end AL
namespace JW
open PySem PySem.Spec PyProof.Rows L2 AL
open He
structure Txt (K : PySem.W.Frag) (mg : Str → Option Value) (base : Heap) : Prop where
  cls : ClsF K mg
  o_Yard : ClsO K mg "Yard"
  na_Yard_state : NoAttr K (He.ga K "Yard") "state"
  gMOST : ∃ t, mg "MOST" = some (.int (5000) t)
  gDEEPEST : ∃ t, mg "DEEPEST" = some (.int (120) t)
  gJET_TEXT : ∃ t, mg "JET_TEXT" = some (.str ("o") t)
  e_Closed : ErrAt K mg "Closed" (He.ga K "Closed") "Closed.__init__" s_Closed___init__ ["self"]
  e_TooLarge : ErrAt K mg "TooLarge" (He.ga K "TooLarge") "TooLarge.__init__" s_TooLarge___init__ ["self", "pieces"]
  na_TooLarge : PySem.W.findIn K (.ref (He.ga K "TooLarge")) "pieces" = some none
  e_TooDeep : ErrAt K mg "TooDeep" (He.ga K "TooDeep") "TooDeep.__init__" s_TooDeep___init__ ["self", "basins"]
  na_TooDeep : PySem.W.findIn K (.ref (He.ga K "TooDeep")) "basins" = some none
  e_Nested : ErrAt K mg "Nested" (He.ga K "Nested") "Nested.__init__" s_Nested___init__ ["self"]
  e_NoQuotient : ErrAt K mg "NoQuotient" (He.ga K "NoQuotient") "NoQuotient.__init__" s_NoQuotient___init__ ["self", "place"]
  na_NoQuotient : PySem.W.findIn K (.ref (He.ga K "NoQuotient")) "place" = some none
  d_check_numbers : DefAt K mg "check_numbers" "check_numbers" s_check_numbers [] ["numbers"]
  d_basin_numbers : DefAt K mg "basin_numbers" "basin_numbers" s_basin_numbers [] ["branches"]
  d_product_numbers : DefAt K mg "product_numbers" "product_numbers" s_product_numbers [] ["one", "other"]
  d_parsed : DefAt K mg "parsed" "parsed" s_parsed [] ["text"]
  d_made : DefAtP K mg "made" "made" s_made ["branches"]
  tb_made : LamX.TabB base mg (He.cT K ("made", none)).1 (He.cT K ("made", none)).2
  d_allowed : DefAt K mg "allowed" "allowed" s_allowed [] ["fountain"]
  d_grafted : DefAt K mg "grafted" "grafted" s_grafted [] ["fountain", "part"]
  d_cut : DefAt K mg "cut" "cut" s_cut [] ["fountain", "part"]
  d_bare_place : DefAt K mg "bare_place" "bare_place" s_bare_place [] ["fountain", "part", "path"]
  d_carries : DefAt K mg "carries" "carries" s_carries [] ["fountain", "part"]
  d_replaced : DefAt K mg "replaced" "replaced" s_replaced [] ["fountain", "path", "part"]
  d_multiplied : DefAt K mg "multiplied" "multiplied" s_multiplied [] ["factors"]
  init : InitAt K mg "Fountain" (cF K) "Fountain.__init__" s_Fountain___init__ [.non] ["self", "text", "branches"]
  c_basin : CmAt K (cF K) "basin" "Fountain.basin" s_Fountain_basin ["cls", "parts"]
  c_spray : CmAt K (cF K) "spray" "Fountain.spray" s_Fountain_spray ["cls", "count"]
  c_product : CmAt K (cF K) "product" "Fountain.product" s_Fountain_product ["cls", "parts"]
  p_text : PropAt K (cF K) "text" "Fountain.text" s_Fountain_text
  p_parts : PropAt K (cF K) "parts" "Fountain.parts" s_Fountain_parts
  p_size : PropAt K (cF K) "size" "Fountain.size" s_Fountain_size
  p_jets : PropAt K (cF K) "jets" "Fountain.jets" s_Fountain_jets
  p_depth : PropAt K (cF K) "depth" "Fountain.depth" s_Fountain_depth
  p_longest : PropAt K (cF K) "longest" "Fountain.longest" s_Fountain_longest
  p_shortest : PropAt K (cF K) "shortest" "Fountain.shortest" s_Fountain_shortest
  p_is_open : PropAt K (cF K) "is_open" "Fountain.is_open" s_Fountain_is_open
  p_is_jet : PropAt K (cF K) "is_jet" "Fountain.is_jet" s_Fountain_is_jet
  m___eq__ : MethAt K (cF K) "__eq__" "Fountain.__eq__" s_Fountain___eq__ ["self", "other"]
  m___repr__ : MethAt K (cF K) "__repr__" "Fountain.__repr__" s_Fountain___repr__ ["self"]
  m___len__ : MethAt K (cF K) "__len__" "Fountain.__len__" s_Fountain___len__ ["self"]
  m___getitem__ : MethAt K (cF K) "__getitem__" "Fountain.__getitem__" s_Fountain___getitem__ ["self", "at"]
  m___contains__ : MethAt K (cF K) "__contains__" "Fountain.__contains__" s_Fountain___contains__ ["self", "part"]
  m___add__ : MethAt K (cF K) "__add__" "Fountain.__add__" s_Fountain___add__ ["self", "other"]
  m___sub__ : MethAt K (cF K) "__sub__" "Fountain.__sub__" s_Fountain___sub__ ["self", "other"]
  m___mul__ : MethAt K (cF K) "__mul__" "Fountain.__mul__" s_Fountain___mul__ ["self", "other"]
  m___floordiv__ : MethAt K (cF K) "__floordiv__" "Fountain.__floordiv__" s_Fountain___floordiv__ ["self", "other"]
  m_at : MethAt K (cF K) "at" "Fountain.at" s_Fountain_at ["self", "path"]
  m_put : MethAt K (cF K) "put" "Fountain.put" s_Fountain_put ["self", "path", "part"]
  d_placed : DefAt K mg "placed" "placed" s_placed [] ["fountain", "pairs"]
  init_Yard : InitAt K mg "Yard" (He.ga K "Yard") "Yard.__init__" s_Yard___init__ [] ["self", "fountain"]
  p_Yard_now : PropAt K (He.ga K "Yard") "now" "Yard.now" s_Yard_now
  m_Yard___len__ : MethAt K (He.ga K "Yard") "__len__" "Yard.__len__" s_Yard___len__ ["self"]
  m_Yard___eq__ : MethAt K (He.ga K "Yard") "__eq__" "Yard.__eq__" s_Yard___eq__ ["self", "other"]
  m_Yard_check : MethAt K (He.ga K "Yard") "check" "Yard.check" s_Yard_check ["self", "fountain"]
  m_Yard_hold : MethAt K (He.ga K "Yard") "hold" "Yard.hold" s_Yard_hold ["self", "deed", "fountain"]
  m_Yard_put : MethAt K (He.ga K "Yard") "put" "Yard.put" s_Yard_put ["self", "path", "part"]
  m_Yard_exchange : MethAt K (He.ga K "Yard") "exchange" "Yard.exchange" s_Yard_exchange ["self", "path", "other"]
  m_Yard_grow : MethAt K (He.ga K "Yard") "grow" "Yard.grow" s_Yard_grow ["self", "part"]
  m_Yard_trim : MethAt K (He.ga K "Yard") "trim" "Yard.trim" s_Yard_trim ["self", "part"]
  m_Yard_undo : MethAt K (He.ga K "Yard") "undo" "Yard.undo" s_Yard_undo ["self"]
  m_Yard_log : MethAt K (He.ga K "Yard") "log" "Yard.log" s_Yard_log ["self"]
  m_Yard_copied : MethAt K (He.ga K "Yard") "copied" "Yard.copied" s_Yard_copied ["self"]
  d__law_box : DefAt K mg "_law_box" "_law_box" s__law_box [] ["_law_script", "_law_k"]
  d__law_take : DefAt K mg "_law_take" "_law_take" s__law_take [] ["_law_box_here", "_law_many"]
  d__law_pick : DefAt K mg "_law_pick" "_law_pick" s__law_pick [] ["_law_box_here", "_law_items"]
  d__law_parts : DefAt K mg "_law_parts" "_law_parts" s__law_parts [] ["_law_text"]
  d__law_basin : DefAt K mg "_law_basin" "_law_basin" s__law_basin [] ["_law_parts_here"]
  d__law_size : DefAt K mg "_law_size" "_law_size" s__law_size [] ["_law_text"]
  d__law_tree : DefAt K mg "_law_tree" "_law_tree" s__law_tree [] ["_law_box_here", "_law_size_here"]
  d__law_any : DefAt K mg "_law_any" "_law_any" s__law_any [] ["_law_box_here", "_law_most"]
  d__law_open : DefAt K mg "_law_open" "_law_open" s__law_open [] ["_law_box_here", "_law_most"]
  d__law_times : DefAt K mg "_law_times" "_law_times" s__law_times [] ["_law_one", "_law_other"]
  d__law_composed : DefAt K mg "_law_composed" "_law_composed" s__law_composed [] ["_law_box_here", "_law_most"]
  d__law_mixed : DefAt K mg "_law_mixed" "_law_mixed" s__law_mixed [] ["_law_box_here", "_law_items"]
  d__law_written : DefAt K mg "_law_written" "_law_written" s__law_written [] ["_law_box_here", "_law_text"]
  d__law_pieces : DefAt K mg "_law_pieces" "_law_pieces" s__law_pieces [] ["_law_text", "_law_path"]
  d__law_put : DefAt K mg "_law_put" "_law_put" s__law_put [] ["_law_text", "_law_path", "_law_part"]
  d__law_step : DefAt K mg "_law_step" "_law_step" s__law_step [] ["_law_text", "_law_path"]
  d__law_at : DefAt K mg "_law_at" "_law_at" s__law_at [] ["_law_text", "_law_path"]
  d__law_over : DefAt K mg "_law_over" "_law_over" s__law_over [] ["_law_text", "_law_end"]
  d__law_bare : DefAt K mg "_law_bare" "_law_bare" s__law_bare [] ["_law_text", "_law_end", "_law_path"]
  d__law_alike : DefAt K mg "_law_alike" "_law_alike" s__law_alike [] ["_law_one", "_law_other"]
  d__law_depth : DefAt K mg "_law_depth" "_law_depth" s__law_depth [] ["_law_text"]
  d__law_jet_depth : DefAt K mg "_law_jet_depth" "_law_jet_depth" s__law_jet_depth [] ["_law_text"]
  d__law_swapped : DefAt K mg "_law_swapped" "_law_swapped" s__law_swapped [] ["_law_text", "_law_pairs"]
  d__law_limits : DefAt K mg "_law_limits" "_law_limits" s__law_limits [] ["_law_pieces_here", "_law_basins"]
  d__law_exchanged : DefAt K mg "_law_exchanged" "_law_exchanged" s__law_exchanged [] ["_law_text", "_law_one", "_law_other"]
  d__law_grown : DefAt K mg "_law_grown" "_law_grown" s__law_grown [] ["_law_text", "_law_part"]
  d__law_next : DefAt K mg "_law_next" "_law_next" s__law_next [] ["_law_text", "_law_deed_here"]
  d__law_model : DefAt K mg "_law_model" "_law_model" s__law_model [] ["_law_text"]
  d__law_do : DefAt K mg "_law_do" "_law_do" s__law_do [] ["_law_mine", "_law_deed_here"]
  d__law_undo : DefAt K mg "_law_undo" "_law_undo" s__law_undo [] ["_law_mine"]
  d__law_refusal : DefAt K mg "_law_refusal" "_law_refusal" s__law_refusal [] ["_law_e"]
  d__law_does : DefAt K mg "_law_does" "_law_does" s__law_does [] ["_law_box_here", "_law_yard", "_law_deed_here"]
  d__law_deed : DefAt K mg "_law_deed" "_law_deed" s__law_deed [] ["_law_box_here", "_law_text"]
  d__law_stands : DefAt K mg "_law_stands" "_law_stands" s__law_stands [] ["_law_yard", "_law_mine"]
  d_law : DefAt K mg "law" "law" s_law [] ["_law_script"]
  b_JetError : mg "JetError" = some (.ref (He.ga K "JetError")) ∧ InitBy K (He.ga K "JetError")
  b_NoDivision : mg "NoDivision" = some (.ref (He.ga K "NoDivision")) ∧ InitBy K (He.ga K "NoDivision")
  e_JetError : BaseAt mg "JetError" (He.ga K "JetError")
  e_NoPlace : BaseAt mg "NoPlace" (He.ga K "NoPlace")
  e_NotKind : BaseAt mg "NotKind" (He.ga K "NotKind")
  k_Closed_NoPlace : PySem.W.kitOne K (.ref (He.ga K "Closed")) (.ref (He.ga K "NoPlace")) = some false
  k_Closed_NoQuotient : PySem.W.kitOne K (.ref (He.ga K "Closed")) (.ref (He.ga K "NoQuotient")) = some false
  k_Closed_TooLarge : PySem.W.kitOne K (.ref (He.ga K "Closed")) (.ref (He.ga K "TooLarge")) = some false
  k_Closed_TooDeep : PySem.W.kitOne K (.ref (He.ga K "Closed")) (.ref (He.ga K "TooDeep")) = some false
  k_Closed_Nested : PySem.W.kitOne K (.ref (He.ga K "Closed")) (.ref (He.ga K "Nested")) = some false
  k_Closed_Closed : PySem.W.kitOne K (.ref (He.ga K "Closed")) (.ref (He.ga K "Closed")) = some true
  k_Closed_NotKind : PySem.W.kitOne K (.ref (He.ga K "Closed")) (.ref (He.ga K "NotKind")) = some false
  k_NoQuotient_NoPlace : PySem.W.kitOne K (.ref (He.ga K "NoQuotient")) (.ref (He.ga K "NoPlace")) = some false
  k_NoQuotient_NoQuotient : PySem.W.kitOne K (.ref (He.ga K "NoQuotient")) (.ref (He.ga K "NoQuotient")) = some true
  k_NoQuotient_TooLarge : PySem.W.kitOne K (.ref (He.ga K "NoQuotient")) (.ref (He.ga K "TooLarge")) = some false
  k_NoQuotient_TooDeep : PySem.W.kitOne K (.ref (He.ga K "NoQuotient")) (.ref (He.ga K "TooDeep")) = some false
  k_NoQuotient_Nested : PySem.W.kitOne K (.ref (He.ga K "NoQuotient")) (.ref (He.ga K "Nested")) = some false
  k_NoQuotient_Closed : PySem.W.kitOne K (.ref (He.ga K "NoQuotient")) (.ref (He.ga K "Closed")) = some false
  k_NoQuotient_NotKind : PySem.W.kitOne K (.ref (He.ga K "NoQuotient")) (.ref (He.ga K "NotKind")) = some false
  k_Nested_NoPlace : PySem.W.kitOne K (.ref (He.ga K "Nested")) (.ref (He.ga K "NoPlace")) = some false
  k_Nested_NoQuotient : PySem.W.kitOne K (.ref (He.ga K "Nested")) (.ref (He.ga K "NoQuotient")) = some false
  k_Nested_TooLarge : PySem.W.kitOne K (.ref (He.ga K "Nested")) (.ref (He.ga K "TooLarge")) = some false
  k_Nested_TooDeep : PySem.W.kitOne K (.ref (He.ga K "Nested")) (.ref (He.ga K "TooDeep")) = some false
  k_Nested_Nested : PySem.W.kitOne K (.ref (He.ga K "Nested")) (.ref (He.ga K "Nested")) = some true
  k_Nested_Closed : PySem.W.kitOne K (.ref (He.ga K "Nested")) (.ref (He.ga K "Closed")) = some false
  k_Nested_NotKind : PySem.W.kitOne K (.ref (He.ga K "Nested")) (.ref (He.ga K "NotKind")) = some false
  x_Closed_JetError : PySem.W.exmOne K (.ref (He.ga K "Closed")) (.ref (He.ga K "JetError")) = some true
  x_NoQuotient_JetError : PySem.W.exmOne K (.ref (He.ga K "NoQuotient")) (.ref (He.ga K "JetError")) = some true
  x_Nested_JetError : PySem.W.exmOne K (.ref (He.ga K "Nested")) (.ref (He.ga K "JetError")) = some true
  ny_Yard : ¬ (He.ga K "Yard" = He.ga K "Fountain")
  n_NotImplemented : mg "NotImplemented" = none
  n_TypeError : mg "TypeError" = none
  n_all : mg "all" = none
  n_any : mg "any" = none
  n_bool : mg "bool" = none
  n_enumerate : mg "enumerate" = none
  n_int : mg "int" = none
  n_isinstance : mg "isinstance" = none
  n_len : mg "len" = none
  n_list : mg "list" = none
  n_max : mg "max" = none
  n_min : mg "min" = none
  n_range : mg "range" = none
  n_sorted : mg "sorted" = none
  n_str : mg "str" = none
  n_sum : mg "sum" = none
  n_tuple : mg "tuple" = none
  n_zip : mg "zip" = none
abbrev TT (K : PySem.W.Frag) : List (Addr × Str) := [((He.cT K ("made", none)).2, ("made.<locals>." : Str) ++ "<lambda>")]
abbrev cA (K : PySem.W.Frag) (scr : Option (Addr × List Int)) : AL.AC K := ⟨TT K, [], scr⟩
section
variable {P : Program} {w : World} {K : PySem.W.Frag} {mg : Str → Option Value} {base : Heap}
def sp_eq (K : PySem.W.Frag) : Sp := fun vs H Q _ => ∃ v t w u, vs = [v, w] ∧ Ftn (cF K) H t v ∧ Ftn (cF K) H u w ∧ Q (.bl (decide (t = u))) H
theorem ok_Fountain___eq__  (T : Txt K mg base) : MethD P w K mg base CX0 1 (cF K) "__eq__" ["self", "other"] [] (sp_eq K) := by
  refine T.m___eq__.ok sc_Fountain___eq__ (fun vs H Q E h => ?_) (fun f cdv A outer s H vs Q E hr h => ?_)
  · obtain ⟨v, t, w, u, rfl, _⟩ := h
    rfl
  · obtain ⟨v, t, w, u, rfl, hv, hw, k⟩ := h
    obtain ⟨a, dx, b, n, vs, rfl, ha, hb, hn, hk⟩ := ftn_iff.mp hv
    obtain ⟨a2, dx2, b2, n2, vs2, rfl, ha2, hb2, hn2, hk2⟩ := ftn_iff.mp hw
    refine ⟨_, (pss_one (ps_ret (pe_and (pe_callB call_isi (by rfl) T.n_isinstance (by decide +kernel) (pa_cons (pv 1) (pa_cons (pe_glob (v := .ref (cF K)) rfl T.cls.g rfl) pa_nil))) (pe_one (pe_cmpR op_eq (pe_fld (pv 0) rfl) (pe_fld (pv 1) rfl) (nomark _)))))), ?_⟩
    refine ⟨.ref a2, rfl, .ref a2, .ref (cF K), _, _, true, rfl, .own _, T.cls.ty ha2, isi_self, true, rfl, ite_t rfl ⟨.ref a, rfl, a, _, dx, _, _, rfl, ha, T.cls.c, T.cls.nw, fl_w, .ref a2, rfl, a2, _, dx2, _, _, rfl, ha2, T.cls.c, T.cls.nw, fl_w, rfl, ?_⟩⟩
    rw [show decide (V.str (tx t) = V.str (tx u)) = decide (t = u) from decide_eq_decide.mpr ⟨fun z => tx_inj (V.str.inj z), fun z => by rw [z]⟩]
    exact k
theorem okF_eq (T : Txt K mg base) : MethD P w K mg base CX0 1 (cF K) "__eq__" ["self", "other"] [] (spEqF K) := (ok_Fountain___eq__ T).imp fun vs H Q E ⟨x, y, t, u, e, h1, h2, q⟩ => ⟨x, t, y, u, e, h1, h2, q⟩

def boxL (l : List D) : Prop := ∃ a b c : Int, l = [.int a, .int b, .int c]
def boxM : MO := .lsq boxL
theorem lsq_open {K : PySem.W.Frag} {c : AL.AC K} {L : Store} {H : Hp} {p : Addr} {P : List D → Prop} (g : Good c L H) (e : L p = some (.lsq P)) : ∃ l, P l ∧ Good c (sput L p (.lst l)) H := by
  obtain ⟨vs, l, e1, r, q⟩ := g.st p _ e
  refine ⟨l, q, g.tabs, fun x m ex => ?_, fun a ns es => ?_⟩
  · by_cases hx : x = p
    · subst hx
      rw [sput_same] at ex
      cases ex
      exact ⟨vs, e1, r⟩
    · rw [sput_ne hx] at ex
      exact g.st x m ex
  · obtain ⟨h1, h2⟩ := g.scr a ns es
    refine ⟨h1, h2.imp (fun ⟨z1, z2⟩ => ⟨z1, ?_⟩) id⟩
    rw [sput_ne fun z => by rw [z, e] at z2; cases z2]
    exact z2
theorem lsq_shut {K : PySem.W.Frag} {c : AL.AC K} {L : Store} {H : Hp} {p : Addr} {P : List D → Prop} {l : List D} (g : Good c L H) (e : L p = some (.lst l)) (q : P l) : Good c (sput L p (.lsq P)) H := by
  obtain ⟨vs, e1, r⟩ := g.st p _ e
  refine ⟨g.tabs, fun x m ex => ?_, fun a ns es => ?_⟩
  · by_cases hx : x = p
    · subst hx
      rw [sput_same] at ex
      cases ex
      exact ⟨vs, l, e1, r, q⟩
    · rw [sput_ne hx] at ex
      exact g.st x m ex
  · obtain ⟨h1, h2⟩ := g.scr a ns es
    refine ⟨h1, h2.imp (fun ⟨z1, z2⟩ => ⟨z1, ?_⟩) id⟩
    rw [sput_ne fun z => by rw [z, e] at z2; cases z2]
    exact z2
theorem sput_back {L : Store} {p : Addr} {m m' : MO} (e : L p = some m) : sput (sput L p m') p m = L := by
  funext q
  by_cases h : q = p
  · rw [h, sput_same, e]
  · rw [sput_ne h, sput_ne h]
def aspE_take : ASp
  | [.ref p, .int n], L, Q, _ => (∃ a b c : Int, L p = some (.lst [.int a, .int b, .int c])) ∧ 0 < n ∧ n < 1073741824 ∧ ∀ (v a b c : Int), 0 ≤ v → v < n → Q (.int v) (sput L p (.lst [.int a, .int b, .int c]))
  | _, _, _, _ => False
def asp__law_take : ASp
  | [.ref p, .int n], L, Q, _ => L p = some boxM ∧ 0 < n ∧ n < 1073741824 ∧ ∀ v : Int, 0 ≤ v → v < n → Q (.int v) L
  | _, _, _, _ => False
theorem okE_take  (T : Txt K mg base) {scr : Option (Addr × List Int)} : CallD P w K mg base CX0 3 "_law_take" ["_law_box_here", "_law_many"] [] (spA (cA K scr) (aspE_take)) := by
  refine T.d__law_take.okA sc__law_take ?len (fun f cdv A outer s H E hr => (as_cons (as_if (at_cmp aop_gt (ae_ix (av 0) ae_int (fun _ _ => rfl)) ae_int (nomark _))
        (as_cons (as_set (i := 2) sc__law_take.nd rfl (by first | exact Or.inl rfl | exact Or.inr rfl) (ae_op aop_mod (ae_ix (av 0) ae_int (fun _ _ => rfl)) (av 1)))
        (as_cons (as_asg (ae_op aop_fdiv (ae_ix (av 0) ae_int (fun _ _ => rfl)) (av 1)) (ag_sub (av 0) ae_int))
        (as_one (as_ret (av 2)))))
        as_nil)
      (as_cons (as_asg (ae_op aop_add (ae_ix (av 0) ae_int (fun _ _ => rfl)) ae_int) (ag_sub (av 0) ae_int))
      (as_cons (as_set (i := 3) sc__law_take.nd rfl (by first | exact Or.inl rfl | exact Or.inr rfl) (ae_op aop_mod (ae_op aop_mul (ae_op aop_add (ae_ix (av 0) ae_int (fun _ _ => rfl)) (ae_op aop_mul ae_int (ae_ix (av 0) ae_int (fun _ _ => rfl)))) ae_int) ae_int))
      (as_cons (as_asg (ae_op aop_add (ae_op aop_mod (ae_op aop_add (ae_op aop_mul (av 3) ae_int) ae_int) ae_int) ae_int) (ag_sub (av 0) ae_int))
      (as_one (as_ret (ae_op aop_mod (ae_op aop_fdiv (ae_op aop_add (ae_op aop_mul (av 3) ae_int) (ae_ix (av 0) ae_int (fun _ _ => rfl))) ae_int) (av 1))))))))) ?vc
  case len =>
    intro ds L R RX h
    unfold aspE_take at h
    split at h <;> first | rfl | exact h.elim
  case vc =>
    intro ds L R RX h
    unfold aspE_take at h
    split at h
    · rename_i p n
      obtain ⟨⟨a, b, c, hp⟩, h0, h1, h⟩ := h
      have hlog : n.natAbs.log2 < 9000 := by
        have hz : n.natAbs ≠ 0 := by omega
        exact Nat.lt_of_lt_of_le ((Nat.log2_lt hz).mpr (show n.natAbs < 2 ^ 30 by omega)) (by decide)
      refine ⟨_, _, hp, rfl, ite2 (fun e => ?_) (fun _ => ?_)⟩
      · refine ⟨_, _, hp, rfl, h0, _, _, hp, rfl, ⟨h0, hlog⟩, _, 0, hp, rfl, ?_⟩
        exact ret_of (h _ _ _ _ (Int.emod_nonneg _ (by omega)) (Int.emod_lt_of_pos _ h0))
      refine ⟨_, _, hp, rfl, _, 2, hp, rfl, ?_⟩
      refine ⟨_, _, sput_same, rfl, _, _, sput_same, rfl, .inl (.inl (by decide)), .inl (.inr (by decide)), by decide, ?_⟩
      refine ⟨.inl (.inr (by decide)), by decide, _, 1, sput_same, rfl, ?_⟩
      refine ⟨.inl (.inr (by decide)), _, _, sput_same, rfl, ⟨by decide, by decide⟩, h0, ?_⟩
      exact ret_sub (h _ _ _ _ (Int.emod_nonneg _ (by omega)) (Int.emod_lt_of_pos _ h0)) (by rw [sput_sput]; exact SubS.refl _)
    · exact h.elim
theorem okA__law_take (T : Txt K mg base) {scr : Option (Addr × List Int)} : CallD P w K mg base CX0 3 "_law_take" ["_law_box_here", "_law_many"] [] (spA (cA K scr) asp__law_take) :=
  (okE_take T).imp fun vs H Q E ⟨ds, L, R, RX, r, g, h, pq, px⟩ => by
    unfold asp__law_take at h
    split at h
    · rename_i p n
      obtain ⟨hL, h0, h1, h⟩ := h
      obtain ⟨l, ⟨a, b, c, rfl⟩, g1⟩ := lsq_open g hL
      refine ⟨_, sput L p (.lst [.int a, .int b, .int c]), fun d L' => ∃ v a' b' c', 0 ≤ v ∧ v < n ∧ d = .int v ∧ L' = sput (sput L p (.lst [.int a, .int b, .int c])) p (.lst [.int a', .int b', .int c']), RX, r, g1, ⟨⟨a, b, c, sput_same⟩, h0, h1, fun v a' b' c' v0 v1 => ⟨v, a', b', c', v0, v1, rfl, rfl⟩⟩, ?_, px⟩
      rintro d L' v H' ⟨x, a', b', c', x0, x1, rfl, rfl⟩ f g2 r2
      have g3 := lsq_shut (P := boxL) g2 sput_same ⟨a', b', c', rfl⟩
      have e3 : sput (sput (sput L p (.lst [.int a, .int b, .int c])) p (.lst [.int a', .int b', .int c'])) p (.lsq boxL) = L := by
        rw [sput_sput]
        exact sput_back hL
      rw [e3] at g3
      exact pq _ L v H' (h x x0 x1) f g3 r2
    · exact h.elim

def sp__law_box (K : PySem.W.Frag) : Sp := fun vs H Q _ => ∃ (a : Addr) (ns : List Int) (i : Nat), vs = [.ref a, .int i] ∧ SqL K H a (ns.map V.int) ∧ ns.length ≤ 63 ∧ i ≤ 10 ∧ ∀ H' d (x y z : Int), Same H H' → H d = none → H' d = some (.lst [.int x, .int y, .int z]) → Q (.ref d) H'
theorem ok__law_box  (T : Txt K mg base) : CallD P w K mg base CX0 2 "_law_box" ["_law_script", "_law_k"] [] (sp__law_box K) := by
  refine T.d__law_box.ok sc__law_box (fun vs H Q E h => ?_) (fun f cdv A outer s H vs Q E hr h => ?_)
  · obtain ⟨a, ns, i, rfl, _⟩ := h
    rfl
  · obtain ⟨a, ns, i0, rfl, hS, hn, hi, k⟩ := h
    refine ⟨_, (pss_cons (ps_set (i := 2) sc__law_box.nd rfl (by first | exact Or.inl rfl | exact Or.inr rfl) (pe_op op_add (pe_op op_mul pe_int (pv 1)) pe_int))
      (pss_cons (ps_via (ps_if (pt_cmpR op_lt (pv 1) (pe_callB call_len (by rfl) T.n_len (by decide +kernel) (pa_cons (pv 0) pa_nil)) (nomark _))
        (pss_one (ps_set (i := 2) sc__law_box.nd rfl (by first | exact Or.inl rfl | exact Or.inr rfl) (pe_ix ix_list (pv 0) (pv 1) (fun _ _ => rfl))))
        (pss_one (ps_via (ps_if (pt_cmpR op_gt (pe_callB call_len (by rfl) T.n_len (by decide +kernel) (pa_cons (pv 0) pa_nil)) pe_int (nomark _))
          (pss_one (ps_set (i := 2) sc__law_box.nd rfl (by first | exact Or.inl rfl | exact Or.inr rfl) (pe_op op_add (pv 2) (pe_op op_mul (pe_op op_mod (pe_ix ix_list (pv 0) (pe_op op_mod (pv 1) (pe_callB call_len (by rfl) T.n_len (by decide +kernel) (pa_cons (pv 0) pa_nil))) (fun _ _ => rfl)) pe_int) pe_int))))
          pss_nil)))))
      (pss_cons (ps_set (i := 3) sc__law_box.nd rfl (by first | exact Or.inl rfl | exact Or.inr rfl) (pe_op op_add (pe_op op_mod (pe_op op_add (pe_op op_mul (pe_op op_mod (pv 2) pe_int) pe_int) (pe_op op_mul pe_int (pv 1))) pe_int) pe_int))
      (pss_one (ps_ret (pe_lst (pa_cons (pe_ix ix_list (pe_lst (pa_cons pe_int (pa_cons (pv 2) pa_nil))) (pe_callTy call_int1 (by rfl) T.n_int (by decide +kernel) (pa_cons (pe_cmpR op_ge (pv 2) (pe_op op_pow pe_int pe_int) (nomark _)) pa_nil)) (fun _ _ => rfl)) (pa_cons (pv 3) (pa_cons pe_int pa_nil))))))))), ?_⟩
    have hsl := sizeLine_eq
    have hat : ∀ j : Nat, j < ns.length → atI (ns.map V.int) (j : Nat) = some (.int (ns.getD j 0)) := fun j hj => atI_nat (by rw [List.getElem?_map, List.getElem?_eq_getElem hj, List.getD_eq_getElem?_getD, List.getElem?_eq_getElem hj]; rfl)
    have hml : (ns.map V.int).length = ns.length := List.length_map _
    refine ⟨_, rfl, _, _, rfl, rfl, .inl (by decide), _, _, rfl, rfl, fun σ' H' => ∃ c : Int, σ' = [some (.ref a), some (.int i0), some (.int c), none] ∧ H' = H, ?_, ?_⟩
    · refine ⟨_, rfl, .ref a, rfl, _, _, rfl, .inl ⟨_, hS, rfl⟩, _, _, rfl, rfl, _, rfl, ite2 (fun e => ?_) fun e => ?_⟩
      · have e1 := of_decide_eq_true e
        rw [hml] at e1
        exact ⟨.ref a, rfl, .int i0, rfl, a, _, _, _, rfl, rfl, hS, hat i0 (by omega), _, rfl, rfl⟩
      · refine ⟨fun σ' H' => ∃ c : Int, σ' = [some (.ref a), some (.int i0), some (.int c), none] ∧ H' = H, ⟨.ref a, rfl, _, _, rfl, .inl ⟨_, hS, rfl⟩, _, _, rfl, rfl, _, rfl, ite2 (fun e1 => ?_) fun e1 => ?_⟩, fun σ' H' z => z⟩
        · have e2 := of_decide_eq_true e1
          rw [hml] at e2
          have hm : ((i0 : Nat) : Int) % ((ns.map V.int).length : Nat) = ((i0 % ns.length : Nat) : Int) := by rw [hml]; rfl
          exact ⟨_, rfl, .ref a, rfl, .int i0, rfl, .ref a, rfl, _, _, rfl, .inl ⟨_, hS, rfl⟩, _, _, rfl, rfl, by rw [hml]; exact e2, a, _, _, _, rfl, rfl, hS, by rw [hm]; exact hat _ (Nat.mod_lt _ (by omega)), _, _, rfl, rfl, by show (0 : Int) < 2147483629; decide, _, _, rfl, rfl, .inr (by decide), _, _, rfl, rfl, _, rfl, rfl⟩
        · exact ⟨_, rfl, rfl⟩
    rintro σ' H' ⟨c, rfl, rfl⟩
    refine ⟨_, rfl, _, _, rfl, rfl, by show (0 : Int) < 2147483629; decide, _, _, rfl, rfl, .inr (by decide), _, rfl, _, _, rfl, rfl, .inl (by decide), _, _, rfl, rfl, _, _, rfl, rfl, by show (0 : Int) < 2147483629; decide, _, _, rfl, rfl, ?_⟩
    refine ⟨_, rfl, sz2, fun q hq => ⟨_, rfl, _, _, rfl, rfl, ⟨by decide, by decide, by decide⟩, _, _, rfl, rfl, .inr ⟨_, rfl, ?_⟩⟩⟩
    obtain ⟨v, hv⟩ : ∃ v : Int, atI [V.int 0, V.int c] (if decide ((10 : Int) ^ (18 : Int).toNat ≤ c) = true then 1 else 0) = some (.int v) := by
      split
      · exact ⟨c, rfl⟩
      · exact ⟨0, rfl⟩
    refine ⟨q, _, _, _, rfl, rfl, SqL.of upd_same, hv, _, rfl, by show (3 : Nat) ≤ sizeLine; omega, fun d hd => ?_⟩
    have hne : d ≠ q := fun z => by rw [z, upd_same] at hd; cases hd
    have hd1 := hd
    rw [upd_ne hne] at hd1
    exact k _ d v _ 0 (((Same.refl H').new hq).new hd) hd1 upd_same
def asp__law_box : ASp
  | [.scr, .int i], L, Q, _ => 0 ≤ i ∧ i ≤ 10 ∧ ∀ d, L d = none → Q (.ref d) (sput L d boxM)
  | _, _, _, _ => False
theorem okA__law_box (T : Txt K mg base) {scr : Option (Addr × List Int)} : CallD P w K mg base CX0 2 "_law_box" ["_law_script", "_law_k"] [] (spA (cA K scr) asp__law_box) :=
  (ok__law_box T).imp fun vs H Q E ⟨ds, L, R, RX, r, g, h, pq, px⟩ => by
    unfold asp__law_box at h
    split at h
    · rename_i i
      obtain ⟨h1, h2, h⟩ := h
      obtain ⟨v, w, rfl, r1, r2⟩ := repL_two r
      obtain ⟨a, ns, e1, rfl⟩ := rep_scr.mp r1
      cases rep_int.mp r2
      refine ⟨a, ns, i.toNat, by rw [Int.toNat_of_nonneg h1], g.seq e1, (g.scr a ns e1).1, by omega, fun H' d x y z s' hd f' => ?_⟩
      have hm : MRep (cA K scr) H' d boxM := ⟨_, [.int x, .int y, .int z], f', .cons (rep_int.mpr rfl) (.cons (rep_int.mpr rfl) (.one (rep_int.mpr rfl))), x, y, z, rfl⟩
      exact pq _ _ _ H' (h d (g.fresh hd)) (.same s') (g.sameNew s' hd hm) (rep_ref.mpr rfl)
    · exact h.elim

def asp__law_basin : ASp
  | [.ref p], L, Q, _ => ∃ ts : List JW.T, L p = some (.lst (ts.map dtx)) ∧ sizeL ts ≤ 5000 ∧ Q (.str (tx (.bas (sortT ts)))) L
  | _, _, _, _ => False
theorem okA__law_basin  (T : Txt K mg base) {scr : Option (Addr × List Int)} : CallD P w K mg base CX0 4 "_law_basin" ["_law_parts_here"] [] (spA (cA K scr) (asp__law_basin)) := by
  refine T.d__law_basin.okA sc__law_basin ?len (fun f cdv A outer s H E hr => (as_one (as_ret (ae_op aop_add (ae_op aop_add ae_str (ae_ms1 PySem.F.slot_str_join PySem.F.type_str_join mt_join low_join ae_str (ae_b acb_sortedB (by rfl) T.n_sorted (by decide +kernel) (aa_cons (av 0) aa_nil)))) ae_str)))) ?vc
  case len =>
    intro ds L R RX h
    unfold asp__law_basin at h
    split at h <;> first | rfl | exact h.elim
  case vc =>
    intro ds L R RX h
    unfold asp__law_basin at h
    split at h
    · rename_i p
      obtain ⟨ts, hp, hz, h⟩ := h
      have hsl := sizeLine_eq
      have l1 := length_le ts
      refine ⟨⟨_, rfl⟩, ts.map tx, by rw [hp, dtx_map], by rw [List.length_map]; omega, fun ys q py hy hq => ?_⟩
      have ey := sorted_tx py hy
      subst ey
      have hj := joinedS hz
      refine ⟨_, sput_same, joined hz, ?_, ?_, ?_⟩
      · show 1 + _ ≤ sizeLine
        omega
      · rw [len_cat]
        show (1 + _) + 1 ≤ sizeLine
        omega
      · rw [tx_bas]
        exact ret_sub h ((SubS.refl L).new hq)
    · exact h.elim
def asp__law_tree (n : Nat) : ASp
  | [.ref p, .int s], L, Q, _ => L p = some boxM ∧ ∃ k : Nat, s = (k : Nat) ∧ 1 ≤ k ∧ k < n ∧ k ≤ 60 ∧ ∀ t : JW.T, Can t → t.size = k → Q (.str (tx t)) L
  | _, _, _, _ => False
theorem pickT {i : Int} (h0 : 0 ≤ i) (h1 : i < 3) : ∃ t : JW.T, Can t ∧ t.size = 1 ∧ atI [D.str ("o" : Str), D.str ("o" : Str), D.str ("()" : Str)] i = some (.str (tx t)) := by
  have e1 : tx .jet = ("o" : Str) := tx_jet
  have e2 : tx (.bas []) = ("()" : Str) := by decide +kernel
  obtain ⟨k, rfl⟩ := Int.eq_ofNat_of_zero_le h0
  match k, h1 with
  | 0, _ => exact ⟨.jet, trivial, rfl, by rw [e1]; rfl⟩
  | 1, _ => exact ⟨.jet, trivial, rfl, by rw [e1]; rfl⟩
  | 2, _ => exact ⟨.bas [], ⟨List.Pairwise.nil, trivial⟩, rfl, by rw [e2]; rfl⟩
  | k + 3, h => exact absurd h (by omega)
theorem pickN {a b c d e : Int} {i : Int} (h0 : 0 ≤ i) (h1 : i < 5) : ∃ z : Int, (z = a ∨ z = b ∨ z = c ∨ z = d ∨ z = e) ∧ atI [D.int a, D.int b, D.int c, D.int d, D.int e] i = some (.int z) := by
  obtain ⟨k, rfl⟩ := Int.eq_ofNat_of_zero_le h0
  match k, h1 with
  | 0, _ => exact ⟨a, .inl rfl, rfl⟩
  | 1, _ => exact ⟨b, .inr (.inl rfl), rfl⟩
  | 2, _ => exact ⟨c, .inr (.inr (.inl rfl)), rfl⟩
  | 3, _ => exact ⟨d, .inr (.inr (.inr (.inl rfl))), rfl⟩
  | 4, _ => exact ⟨e, .inr (.inr (.inr (.inr rfl))), rfl⟩
  | k + 5, h => exact absurd h (by omega)
def TreeW (L : Store) (p : Addr) (k : Nat) (P : Addr) (f : Int) (m : Nat) (env : En) (L1 : Store) : Prop := ∃ (ts : List JW.T) (left : Int) (x5 x6 : Option D), env = [some (.ref p), some (.int (k : Nat)), some (.ref P), some (.int left), some (.int f), x5, x6] ∧ L1 P = some (.lst (ts.map dtx)) ∧ SubS L L1 ∧ CanL ts ∧ 0 ≤ left ∧ (sizeL ts : Int) + left = (k : Int) - 1 ∧ m = left.toNat
theorem can_snoc {ts : List JW.T} {t : JW.T} (h : CanL ts) (k : Can t) : CanL (ts ++ [t]) := canL_iff.mpr fun u hu => (List.mem_append.mp hu).elim (canL_iff.mp h u) fun z => by
  rw [List.mem_singleton.mp z]
  exact k
theorem size_snoc {ts : List JW.T} {t : JW.T} : sizeL (ts ++ [t]) = sizeL ts + t.size := by
  rw [sizeL_app]
  rfl
theorem stepA__law_tree  (T : Txt K mg base) {scr : Option (Addr × List Int)} (n : Nat) (ih : CallD P w K mg base CX0 (74 + n) "_law_tree" ["_law_box_here", "_law_size_here"] [] (spA (cA K scr) (asp__law_tree n))) : CallD P w K mg base CX0 (74 + n + 1) "_law_tree" ["_law_box_here", "_law_size_here"] [] (spA (cA K scr) (asp__law_tree (n + 1))) := by
  refine T.d__law_tree.okA sc__law_tree ?len (fun f cdv A outer s H E hr => (as_cons (as_if (at_cmp (aop_eqG (okF_eq T) (hr.mono (by omega)) hr.units) (av 1) ae_int (nomark _))
        (as_one (as_ret (ae_ix (ae_lst (aa_cons ae_str (aa_cons ae_str (aa_cons ae_str aa_nil)))) (ae_call (okA__law_take T) (hr.mono (by omega)) (by rfl) (aa_cons (av 0) (aa_cons ae_int aa_nil))) (fun _ _ => rfl))))
        as_nil)
      (as_cons (as_par3 (i := 2) (j := 3) (l := 4) (by rfl) sc__law_tree.nd rfl rfl rfl (by decide) (by decide) (by decide) rfl rfl rfl (aa_cons (ae_lst aa_nil) (aa_cons (ae_op aop_sub (av 1) ae_int) (aa_cons (ae_call (okA__law_take T) (hr.mono (by omega)) (by rfl) (aa_cons (av 0) (aa_cons ae_int aa_nil))) aa_nil))) (by rfl))
      (as_cons (as_while PassesOwn.never (at_cmp aop_gt (av 3) ae_int (nomark _))
        (as_cons (as_via (as_set (i := 5) sc__law_tree.nd rfl (by first | exact Or.inl rfl | exact Or.inr rfl) (ae_ix (ae_lst (aa_cons ae_int (aa_cons (av 3) (aa_cons (ae_op aop_add ae_int (ae_call (okA__law_take T) (hr.mono (by omega)) (by rfl) (aa_cons (av 0) (aa_cons (av 3) aa_nil)))) (aa_cons (ae_op aop_add ae_int (ae_call (okA__law_take T) (hr.mono (by omega)) (by rfl) (aa_cons (av 0) (aa_cons (ae_b (acb_min rfl) (by rfl) T.n_min (by decide +kernel) (aa_cons (av 3) (aa_cons ae_int aa_nil))) aa_nil)))) (aa_cons (ae_b (acb_max rfl) (by rfl) T.n_max (by decide +kernel) (aa_cons ae_int (aa_cons (ae_op aop_fdiv (av 3) ae_int) aa_nil))) aa_nil)))))) (av 4) (fun _ _ => rfl))))
        (as_cons (as_set (i := 6) sc__law_tree.nd rfl (by first | exact Or.inl rfl | exact Or.inr rfl) (ae_call ih (hr.mono (by omega)) (by rfl) (aa_cons (av 0) (aa_cons (av 5) aa_nil))))
        (as_cons (as_expr (ae_ml PySem.F.plainAttrs_list PySem.F.slot_list_append PySem.F.type_list_append mt_append low_append (av 2) (aa_cons (av 6) aa_nil)))
        (as_cons (as_set (i := 3) sc__law_tree.nd rfl (by first | exact Or.inl rfl | exact Or.inr rfl) (ae_op aop_sub (av 3) (av 5)))
        (as_one (as_while PassesOwn.never (at_via (AW.pt (aw_and (at_cmp aop_ge (av 3) (av 5) (nomark _)) (aw_and1 (at_cmp (aop_eqG (okF_eq T) (hr.mono (by omega)) hr.units) (ae_call (okA__law_take T) (hr.mono (by omega)) (by rfl) (aa_cons (av 0) (aa_cons ae_int aa_nil))) ae_int (nomark _))))))
          (as_cons (as_expr (ae_ml PySem.F.plainAttrs_list PySem.F.slot_list_append PySem.F.type_list_append mt_append low_append (av 2) (aa_cons (av 6) aa_nil)))
          (as_one (as_set (i := 3) sc__law_tree.nd rfl (by first | exact Or.inl rfl | exact Or.inr rfl) (ae_op aop_sub (av 3) (av 5))))))))))))
      (as_one (as_ret (ae_call (okA__law_basin T) (hr.mono (by omega)) (by rfl) (aa_cons (av 2) aa_nil)))))))) ?vc
  case len =>
    intro ds L R RX h
    unfold asp__law_tree at h
    split at h <;> first | rfl | exact h.elim
  case vc =>
    intro ds L R RX h
    unfold asp__law_tree at h
    split at h
    rotate_left
    · exact h.elim
    rename_i p s
    obtain ⟨hp, k, rfl, h1, hn, hz, h⟩ := h
    have hsl := sizeLine_eq
    refine ite2 (fun e => ?_) (fun e => ?_)
    · have e := of_decide_eq_true ((Bool.false_xor _).symm.trans e)
      obtain rfl : k = 1 := by omega
      refine ⟨by show (3 : Nat) ≤ sizeLine; omega, fun r hr => ⟨sput_old hp hr, by decide, by decide, fun v v0 v1 => ?_⟩⟩
      obtain ⟨t, hc, ht, hat⟩ := pickT v0 v1
      exact ⟨_, _, sput_same, hat, ret_sub (h t hc ht) ((SubS.refl L).new hr)⟩
    have e : k ≠ 1 := fun z => e (by rw [z]; rfl)
    refine ⟨Nat.zero_le _, fun P hP => ⟨sput_old hp hP, by decide, by decide, fun f f0 f1 => ?_⟩⟩
    refine ⟨TreeW L p k P f, ⟨_, [], _, none, none, rfl, sput_same, (SubS.refl L).new hP, trivial, by omega, by show ((0 : Nat) : Int) + _ = _; omega, rfl⟩, ?_⟩
    rintro m env L1 ⟨ts, left, x5, x6, rfl, hP1, sb, hc, l0, hz1, rfl⟩
    have hp1 := sb _ _ hp
    refine ite2 (fun e1 => ?_) (fun e1 => ?_)
    · have e1 := of_decide_eq_true e1
      refine ⟨fun env L2 => ∃ many : Int, 1 ≤ many ∧ many ≤ left ∧ env = [some (.ref p), some (.int (k : Nat)), some (.ref P), some (.int left), some (.int f), some (.int many), x6] ∧ L2 P = some (.lst (ts.map dtx)) ∧ SubS L L2, ?_, ?_⟩
      · refine ⟨hp1, by omega, by omega, fun v v0 v1 => ⟨hp1, ?_, ?_, fun u u0 u1 => ⟨⟨by decide, by decide⟩, ?_⟩⟩⟩
        · split <;> omega
        · split <;> omega
        refine ⟨by show (5 : Nat) ≤ sizeLine; omega, fun r hr => ?_⟩
        obtain ⟨z, hz2, hat⟩ := pickN (a := 1) (b := left) (c := 1 + v) (d := 1 + u) (e := if left / 2 > 1 then left / 2 else 1) f0 f1
        refine ⟨_, _, sput_same, hat, z, ?_, ?_, rfl, sput_old hP1 hr, sb.new hr⟩
        · rcases hz2 with rfl | rfl | rfl | rfl | rfl
          · omega
          · omega
          · omega
          · omega
          · split <;> omega
        · rcases hz2 with rfl | rfl | rfl | rfl | rfl
          · omega
          · omega
          · omega
          · revert u1
            split <;> omega
          · split <;> omega
      rintro _ L2 ⟨many, m1, m2, rfl, hP2, sb2⟩
      refine ⟨sb2 _ _ hp, many.toNat, by omega, by omega, by omega, by omega, fun t ht hts => ?_⟩
      refine ⟨⟨P, _, rfl, hP2⟩, _, hP2, by rw [List.length_map]; have := length_le ts; omega, ?_⟩
      have e2 : ts.map dtx ++ [D.str (tx t)] = (ts ++ [t]).map dtx := by rw [List.map_append]; rfl
      rw [e2]
      have hts2 : sizeL (ts ++ [t]) = sizeL ts + t.size := size_snoc
      refine ⟨fun m' env L3 => ∃ (us : List JW.T) (l3 : Int), env = [some (.ref p), some (.int (k : Nat)), some (.ref P), some (.int l3), some (.int f), some (.int many), some (.str (tx t))] ∧ L3 P = some (.lst (us.map dtx)) ∧ SubS L L3 ∧ CanL us ∧ 0 ≤ l3 ∧ l3 ≤ left - many ∧ (sizeL us : Int) + l3 = (k : Int) - 1 ∧ m' = l3.toNat, ⟨_, ts ++ [t], left - many, rfl, sput_same, sb2.put hP, can_snoc hc ht, by omega, Int.le_refl _, by omega, rfl⟩, ?_⟩
      rintro m' env L3 ⟨us, l3, rfl, hP3, sb3, hc3, z1, z2, z3, rfl⟩
      refine ⟨fun b L4 => L4 = L3 ∧ (b = true → many ≤ l3), ite2 (fun e3 => ?_) (fun e3 => ⟨rfl, fun z => by cases z⟩), fun b L4 ⟨e4, hb⟩ => ?_⟩
      · exact ⟨sb3 _ _ hp, by decide, by decide, fun v v0 v1 => ⟨rfl, fun _ => of_decide_eq_true e3⟩⟩
      subst e4
      refine ite2 (fun e5 => ?_) (fun e5 => ?_)
      · have hb := hb e5
        have hus := length_le us
        have hus2 : sizeL (us ++ [t]) = sizeL us + t.size := size_snoc
        refine ⟨⟨P, _, rfl, hP3⟩, _, hP3, by rw [List.length_map]; omega, ?_⟩
        have e6 : us.map dtx ++ [D.str (tx t)] = (us ++ [t]).map dtx := by rw [List.map_append]; rfl
        rw [e6]
        exact ⟨_, by omega, us ++ [t], l3 - many, rfl, sput_same, sb3.put hP, can_snoc hc3 ht, by omega, by omega, by omega, rfl⟩
      · exact ⟨_, by omega, us, l3, _, _, rfl, hP3, sb3, hc3, z1, z3, rfl⟩
    · have e1 : ¬ left > 0 := fun z => e1 (decide_eq_true z)
      refine ⟨ts, hP1, by omega, ret_sub (h _ (can_bas hc) ?_) sb⟩
      show 1 + sizeL (sortT ts) = k
      rw [sizeL_perm (sortT_perm _)]
      omega
theorem okA__law_tree  (T : Txt K mg base) {scr : Option (Addr × List Int)} (n : Nat) : CallD P w K mg base CX0 (74 + n) "_law_tree" ["_law_box_here", "_law_size_here"] [] (spA (cA K scr) (asp__law_tree n)) := callD_rec (sp := fun n => spA (cA K scr) (asp__law_tree n)) T.d__law_tree (fun vs H Q E ⟨ds, L, R, RX, _, _, h, _⟩ => by
    unfold asp__law_tree at h
    split at h
    · obtain ⟨_, k, _, _, z, _⟩ := h
      exact absurd z (Nat.not_lt_zero _)
    · exact h.elim
    ) (stepA__law_tree T) n
def asp__law_any : ASp
  | [.ref p, .int m], L, Q, _ => L p = some boxM ∧ 1 ≤ m ∧ m ≤ 60 ∧ ∀ t : JW.T, Can t → (t.size : Int) ≤ m → Q (.str (tx t)) L
  | _, _, _, _ => False
theorem okA__law_any  (T : Txt K mg base) {scr : Option (Addr × List Int)} : CallD P w K mg base CX0 137 "_law_any" ["_law_box_here", "_law_most"] [] (spA (cA K scr) (asp__law_any)) := by
  refine T.d__law_any.okA sc__law_any ?len (fun f cdv A outer s H E hr => (as_one (as_ret (ae_call (okA__law_tree T 61) (hr.mono (by decide)) (by rfl) (aa_cons (av 0) (aa_cons (ae_op aop_add ae_int (ae_call (okA__law_take T) (hr.mono (by decide)) (by rfl) (aa_cons (av 0) (aa_cons (av 1) aa_nil)))) aa_nil)))))) ?vc
  case len =>
    intro ds L R RX h
    unfold asp__law_any at h
    split at h <;> first | rfl | exact h.elim
  case vc =>
    intro ds L R RX h
    unfold asp__law_any at h
    split at h
    · rename_i p m
      obtain ⟨hp, h1, h2, h⟩ := h
      exact ⟨hp, by omega, by omega, fun v v0 v1 => ⟨hp, (1 + v).toNat, by omega, by omega, by omega, by omega, fun t hc hz => ret_of (h t hc (by omega))⟩⟩
    · exact h.elim
def rngI (k n : Nat) : List D := (List.range' k n).map fun i => D.int (i : Nat)
theorem rngI_succ (k n : Nat) : rngI k (n + 1) = .int (k : Nat) :: rngI (k + 1) n := rfl
theorem rngD_one (n : Nat) : rngD 1 n = rngI 1 n := by
  unfold rngD rngI
  rw [List.range'_eq_map_range, List.map_map]
  refine List.map_congr_left fun i _ => ?_
  show D.int (1 + (i : Nat)) = D.int ((1 + i : Nat) : Int)
  congr 1
def sgI (s q : Nat) : Int := if s = q then 1 else 0
def PStep (z : D) (c : List Nat) (P : Addr) (lp : List D → En → Store → Prop) : Prop := ∀ (k s : Nat) (r : List Nat) (rest : List D) (lev : Int) (beg : Nat) (x4 : Option D) (L : Store) (acc : List D), c.drop k = s :: r → L P = some (.lst acc) → acc.length ≤ k →
  (lev + sgI s 40 - sgI s 41 ≠ 0 → lp rest [some z, some (.ref P), some (.int (lev + sgI s 40 - sgI s 41)), some (.int (beg : Nat)), some (.int (k : Nat))] L) →
  (lev + sgI s 40 - sgI s 41 = 0 → lp rest [some z, some (.ref P), some (.int (lev + sgI s 40 - sgI s 41)), some (.int ((k + 1 : Nat))), some (.int (k : Nat))] (sput L P (.lst (acc ++ [.str ⟨((c.take (k + 1)).drop beg).toArray⟩])))) →
  lp (.int (k : Nat) :: rest) [some z, some (.ref P), some (.int lev), some (.int (beg : Nat)), x4] L
section
variable {z : D} {c : List Nat} {P : Addr} {lp : List D → En → Store → Prop}
theorem drop_more {c a r : List Nat} {k : Nat} (h : c.drop k = a ++ r) : c.drop (k + a.length) = r := by
  rw [← List.drop_drop, h, List.drop_left]
theorem parts_in (S : PStep z c P lp) {beg : Nat} {L : Store} {acc : List D} (hP : L P = some (.lst acc)) : ∀ (t : T) (k m : Nat) (lev : Int) (x4 : Option D) (r : List Nat), 1 ≤ lev → acc.length ≤ k → c.drop k = t.codes ++ r →
    (∀ x4, lp (rngI (k + t.codes.length) m) [some z, some (.ref P), some (.int lev), some (.int (beg : Nat)), x4] L) → lp (rngI k (t.codes.length + m)) [some z, some (.ref P), some (.int lev), some (.int (beg : Nat)), x4] L := by
  apply T.ind'
  · intro k m lev x4 r h1 ha hk h
    have e : T.jet.codes.length + m = m + 1 := Nat.add_comm _ _
    rw [e, rngI_succ]
    have e2 : lev + sgI 111 40 - sgI 111 41 = lev := by
      show lev + 0 - 0 = lev
      omega
    refine S k 111 r _ lev beg x4 L acc hk hP ha (fun _ => ?_) (fun z => ?_)
    · rw [e2]
      exact h _
    · rw [e2] at z
      omega
  · intro ts ih k m lev x4 r h1 ha hk h
    have hl : ∀ (us : List T) (k m : Nat) (lev : Int) (x4 : Option D) (r : List Nat), (∀ u ∈ us, u ∈ ts) → 1 ≤ lev → acc.length ≤ k → c.drop k = codesL us ++ r →
        (∀ x4, lp (rngI (k + (codesL us).length) m) [some z, some (.ref P), some (.int lev), some (.int (beg : Nat)), x4] L) → lp (rngI k ((codesL us).length + m)) [some z, some (.ref P), some (.int lev), some (.int (beg : Nat)), x4] L := by
      intro us
      induction us with
      | nil =>
        intro k m lev x4 r _ _ _ _ h
        have e : (codesL []).length + m = m := Nat.zero_add _
        rw [e]
        exact h x4
      | cons u us ih2 =>
        intro k m lev x4 r hm h1 ha hk h
        have e : (codesL (u :: us)).length = u.codes.length + (codesL us).length := List.length_append
        rw [e, Nat.add_assoc]
        have hk2 : c.drop k = u.codes ++ (codesL us ++ r) := by
          rw [hk]
          exact List.append_assoc _ _ _
        refine ih u (hm u List.mem_cons_self) k _ lev x4 _ h1 ha hk2 fun x4 => ?_
        refine ih2 _ m lev x4 r (fun v hv => hm v (List.mem_cons_of_mem _ hv)) h1 (by omega) (drop_more hk2) fun x4 => ?_
        rw [Nat.add_assoc, ← e]
        exact h x4
    have e : (T.bas ts).codes.length + m = ((codesL ts).length + (m + 1)) + 1 := by
      show (40 :: (codesL ts ++ [41])).length + m = _
      rw [List.length_cons, List.length_append, List.length_singleton]
      omega
    have e0 : k + (T.bas ts).codes.length = k + 1 + (codesL ts).length + 1 := by
      show k + (40 :: (codesL ts ++ [41])).length = _
      rw [List.length_cons, List.length_append, List.length_singleton]
      omega
    rw [e0] at h
    rw [e, rngI_succ]
    have hk1 : c.drop k = 40 :: (codesL ts ++ (41 :: r)) := by
      rw [hk]
      show 40 :: ((codesL ts ++ [41]) ++ r) = _
      rw [List.append_assoc]
      rfl
    have e1 : lev + sgI 40 40 - sgI 40 41 = lev + 1 := by
      show lev + 1 - 0 = lev + 1
      omega
    have e2 : lev + 1 + sgI 41 40 - sgI 41 41 = lev := by
      show lev + 1 + 0 - 1 = lev
      omega
    have hk2 : c.drop (k + 1) = codesL ts ++ (41 :: r) := by
      rw [← List.drop_drop, hk1]
      rfl
    refine S k 40 _ _ lev beg x4 L acc hk1 hP ha (fun _ => ?_) (fun z => by rw [e1] at z; omega)
    rw [e1]
    refine hl ts (k + 1) (m + 1) (lev + 1) _ _ (fun u h => h) (by omega) (by omega) hk2 fun x4 => ?_
    rw [rngI_succ]
    refine S _ 41 r _ (lev + 1) beg x4 L acc (drop_more hk2) hP (by omega) (fun _ => ?_) (fun z => by rw [e2] at z; omega)
    rw [e2]
    exact h _
theorem parts_one (S : PStep z c P lp) {L : Store} {acc : List D} (hP : L P = some (.lst acc)) (t : T) (k m : Nat) (x4 : Option D) (r : List Nat) (ha : acc.length ≤ k) (hk : c.drop k = t.codes ++ r)
    (h : ∀ x4, lp (rngI (k + t.codes.length) m) [some z, some (.ref P), some (.int 0), some (.int ((k + t.codes.length : Nat))), x4] (sput L P (.lst (acc ++ [dtx t])))) : lp (rngI k (t.codes.length + m)) [some z, some (.ref P), some (.int 0), some (.int (k : Nat)), x4] L := by
  have hs : (c.take (k + t.codes.length)).drop k = t.codes := by
    rw [List.drop_take, Nat.add_sub_cancel_left, hk, List.take_left]
  match t, hk, h, hs with
  | .jet, hk, h, hs =>
    have e : T.jet.codes.length + m = m + 1 := Nat.add_comm _ _
    rw [e, rngI_succ]
    have e2 : (0 : Int) + sgI 111 40 - sgI 111 41 = 0 := rfl
    refine S k 111 r _ 0 k x4 L acc hk hP ha (fun z => absurd e2 z) (fun _ => ?_)
    have e3 : (c.take (k + 1)).drop k = T.jet.codes := hs
    rw [e2, e3]
    exact h _
  | .bas ts, hk, h, hs =>
    have e : (T.bas ts).codes.length + m = ((codesL ts).length + (m + 1)) + 1 := by
      show (40 :: (codesL ts ++ [41])).length + m = _
      rw [List.length_cons, List.length_append, List.length_singleton]
      omega
    have e0 : k + (T.bas ts).codes.length = k + 1 + (codesL ts).length + 1 := by
      show k + (40 :: (codesL ts ++ [41])).length = _
      rw [List.length_cons, List.length_append, List.length_singleton]
      omega
    rw [e0] at h hs
    rw [e, rngI_succ]
    have hk1 : c.drop k = 40 :: (codesL ts ++ (41 :: r)) := by
      rw [hk]
      show 40 :: ((codesL ts ++ [41]) ++ r) = _
      rw [List.append_assoc]
      rfl
    have hk2 : c.drop (k + 1) = codesL ts ++ (41 :: r) := by
      rw [← List.drop_drop, hk1]
      rfl
    have e1 : (0 : Int) + sgI 40 40 - sgI 40 41 = 1 := rfl
    have e2 : (1 : Int) + sgI 41 40 - sgI 41 41 = 0 := rfl
    refine S k 40 _ _ 0 k x4 L acc hk1 hP ha (fun _ => ?_) (fun z => absurd z (by decide))
    rw [e1]
    have hl : ∀ (us : List T) (k' m : Nat) (x4 : Option D) (r : List Nat), acc.length ≤ k' → c.drop k' = codesL us ++ r →
        (∀ x4, lp (rngI (k' + (codesL us).length) m) [some z, some (.ref P), some (.int 1), some (.int (k : Nat)), x4] L) → lp (rngI k' ((codesL us).length + m)) [some z, some (.ref P), some (.int 1), some (.int (k : Nat)), x4] L := by
      intro us
      induction us with
      | nil =>
        intro k' m x4 r _ _ h
        have e : (codesL []).length + m = m := Nat.zero_add _
        rw [e]
        exact h x4
      | cons u us ih2 =>
        intro k' m x4 r ha hk h
        have e : (codesL (u :: us)).length = u.codes.length + (codesL us).length := List.length_append
        rw [e, Nat.add_assoc]
        have hk2 : c.drop k' = u.codes ++ (codesL us ++ r) := by
          rw [hk]
          exact List.append_assoc _ _ _
        refine parts_in S hP u k' _ 1 x4 _ (Int.le_refl _) ha hk2 fun x4 => ?_
        refine ih2 _ m x4 r (by omega) (drop_more hk2) fun x4 => ?_
        rw [Nat.add_assoc, ← e]
        exact h x4
    refine hl ts (k + 1) (m + 1) _ _ (by omega) hk2 fun x4 => ?_
    rw [rngI_succ]
    refine S _ 41 r _ 1 k x4 L acc (drop_more hk2) hP (by omega) (fun z => absurd e2 z) (fun _ => ?_)
    rw [e2, hs]
    exact h _
theorem codes_pos (t : T) : 1 ≤ t.codes.length := (codes_len t).2
theorem parts_all (S : PStep z c P lp) : ∀ (ts : List T) (k : Nat) (x4 : Option D) (r : List Nat) (L : Store) (acc : List D), L P = some (.lst acc) → acc.length ≤ k → c.drop k = codesL ts ++ r →
    (∀ k' x4 L', (∀ p, p ≠ P → L' p = L p) → L' P = some (.lst (acc ++ ts.map dtx)) → lp [] [some z, some (.ref P), some (.int 0), some (.int (k' : Nat)), x4] L') → lp (rngI k (codesL ts).length) [some z, some (.ref P), some (.int 0), some (.int (k : Nat)), x4] L
  | [], k, x4, r, L, acc, hP, _, _, h => h k x4 L (fun _ _ => rfl) (by rw [List.map_nil, List.append_nil]; exact hP)
  | t :: ts, k, x4, r, L, acc, hP, ha, hk, h => by
    have e : (codesL (t :: ts)).length = t.codes.length + (codesL ts).length := List.length_append
    rw [e]
    have hk2 : c.drop k = t.codes ++ (codesL ts ++ r) := by
      rw [hk]
      exact List.append_assoc _ _ _
    have hp := codes_pos t
    refine parts_one S hP t k _ x4 _ ha hk2 fun x4 => ?_
    refine parts_all S ts _ x4 r _ _ sput_same (by rw [List.length_append, List.length_singleton]; omega) (drop_more hk2) fun k' x4 L' h1 h2 => h k' x4 L' (fun p hp => by rw [h1 p hp, sput_ne hp]) ?_
    rw [h2, List.append_assoc]
    rfl
end
def asp__law_parts : ASp
  | [.str z], L, Q, _ => ∃ t : T, z = tx t ∧ t.size ≤ 5000 ∧ ∀ P, L P = none → Q (.ref P) (sput L P (.lst (t.kids.map dtx)))
  | _, _, _, _ => False
def bPartsB : ATS :=
  (aSeq (aAsg (aOp addD (aVar 2) (aLevIx 0 4)) (agName 2))
    (aIfS (aBl (aOp (eqG false) (aVar 2) (aC (D.int 0))))
      (aSeq (aDrop (aMl appendD (aVar 1) (aCons (aSl (aVar 0) (aoSome (aVar 3)) (aoSome (aOp addD (aVar 4) (aC (D.int 1))))) aNil)))
        (aAsg (aOp addD (aVar 4) (aC (D.int 1))) (agName 3)))
      aNext))
theorem okA__law_parts  (T : Txt K mg base) {scr : Option (Addr × List Int)} : CallD P w K mg base CX0 76 "_law_parts" ["_law_text"] [] (spA (cA K scr) (asp__law_parts)) := by
  refine T.d__law_parts.okA sc__law_parts ?len (fun f cdv A outer s H E hr => (as_cons (as_par3 (i := 1) (j := 2) (l := 3) (by rfl) sc__law_parts.nd rfl rfl rfl (by decide) (by decide) (by decide) rfl rfl rfl (aa_cons (ae_lst aa_nil) (aa_cons ae_int (aa_cons ae_int aa_nil))) (by rfl))
      (as_cons (as_for PassesOwn.never rfl (ai_rng2 (by rfl) T.n_range (aa_cons ae_int (aa_cons (ae_op aop_sub (ae_b acb_len (by rfl) T.n_len (by decide +kernel) (aa_cons (av 0) aa_nil)) ae_int) aa_nil))) (ag_name (i := 4) sc__law_parts.nd rfl (by first | exact Or.inl rfl | exact Or.inr rfl))
        (as_cons (as_set (i := 2) sc__law_parts.nd rfl (by first | exact Or.inl rfl | exact Or.inr rfl) (ae_op aop_add (av 2) (ae_levIx (hu_of hr) (pv 0) (pv 4) (fun _ _ => rfl) (fun _ _ => rfl))))
        (as_one (as_if (at_cmp (aop_eqG (okF_eq T) (hr.mono (by decide)) hr.units) (av 2) ae_int (nomark _))
          (as_cons (as_expr (ae_ml PySem.F.plainAttrs_list PySem.F.slot_list_append PySem.F.type_list_append mt_append low_append (av 1) (aa_cons (ae_sl (av 0) (ao_some (av 3)) (ao_some (ae_op aop_add (av 4) ae_int))) aa_nil)))
          (as_one (as_set (i := 3) sc__law_parts.nd rfl (by first | exact Or.inl rfl | exact Or.inr rfl) (ae_op aop_add (av 4) ae_int))))
          as_nil))))
      (as_one (as_ret (av 1)))))) ?vc
  case len =>
    intro ds L R RX h
    unfold asp__law_parts at h
    split at h <;> first | rfl | exact h.elim
  case vc =>
    intro ds L R RX h
    unfold asp__law_parts at h
    split at h
    · rename_i z
      obtain ⟨t, rfl, hz, h⟩ := h
      have hsl := sizeLine_eq
      have hcl := (codes_len t).1
      have hlen : (tx t).length = t.codes.length := by
        show (SX.S t.codes).length = _
        rw [SX.S_len]
      refine ⟨Nat.zero_le _, fun P hP => ⟨by omega, ⟨by decide, by decide, by omega, by omega⟩, ?_⟩⟩
      rw [rngD_one]
      have St : PStep (.str (tx t)) t.codes P (loopA (agName 4) bPartsB { nx := aRet (aVar 1) (fnEnds R), rt := (fnEnds R).rt, bk := (fnEnds R).bk, ct := (fnEnds R).ct } yes) := by
        intro k s r rest lev beg x4 L acc hk hP ha h1 h2
        have hkl : k < t.codes.length := by
          by_cases e : k < t.codes.length
          · exact e
          · rw [List.drop_eq_nil_of_le (by omega)] at hk
            cases hk
        have hck : t.codes[k]? = some s := by
          have e : (t.codes.drop k)[0]? = some s := by rw [hk]; rfl
          rw [List.getElem?_drop] at e
          exact e
        have hat : atI (tx t).cps.toList ((k : Nat) : Int) = some s := by
          show atI t.codes _ = _
          exact atI_nat hck
        have hs3 : s = 40 ∨ s = 41 ∨ s = 111 := codes_in t s (List.mem_of_getElem? hck)
        have hlv : lev + levOf s = lev + sgI s 40 - sgI s 41 := by
          rcases hs3 with rfl | rfl | rfl
          · show lev + 1 = lev + 1 - 0
            omega
          · show lev + -1 = lev + 0 - 1
            omega
          · show lev + 0 = lev + 0 - 0
            omega
        refine ⟨trivial, _, _, s, rfl, rfl, by omega, hat, hs3, ?_⟩
        show aIfS (aBl (aOp (eqG false) (aVar 2) (aC (D.int 0)))) (aSeq _ _) aNext _ [some (.str (tx t)), some (.ref P), some (.int (lev + levOf s)), some (.int (beg : Nat)), some (.int (k : Nat))] L
        rw [hlv]
        refine ite2 (fun e => ?_) (fun e => ?_)
        · have e := of_decide_eq_true ((Bool.false_xor _).symm.trans e)
          have hc : cutS (tx t) (some ((beg : Nat) : Int)) (some (((k : Nat) : Int) + 1)) = ⟨((t.codes.take (k + 1)).drop beg).toArray⟩ := by
            unfold cutS
            have e5 : (((k : Nat) : Int) + 1) = ((k + 1 : Nat) : Int) := rfl
            rw [e5, HT.sIx_nat, HT.sIx_nat]
            show (⟨((t.codes.drop (min beg (tx t).length)).take (min (k + 1) (tx t).length - min beg (tx t).length)).toArray⟩ : Str) = _
            rw [hlen, ← List.drop_take]
            congr 2
            rw [Nat.min_eq_left (by omega : k + 1 ≤ t.codes.length)]
            by_cases hb : beg ≤ t.codes.length
            · rw [Nat.min_eq_left hb]
            · rw [Nat.min_eq_right (by omega), List.drop_eq_nil_of_le (by rw [List.length_take]; omega), List.drop_eq_nil_of_le (by rw [List.length_take]; omega)]
          refine ⟨⟨P, _, rfl, hP⟩, by omega, _, hP, by omega, ?_⟩
          rw [hc]
          exact h2 e
        · exact h1 fun z => e (by rw [z]; rfl)
      match t, hz, hcl, hlen, h, St with
      | .jet, hz, hcl, hlen, h, St =>
        exact ⟨trivial, ret_of (h P hP)⟩
      | .bas ts, hz, hcl, hlen, h, St =>
        have e : ((tx (JW.T.bas ts)).length : Int) - 1 - 1 = ((codesL ts).length : Nat) := by
          rw [hlen]
          show (((40 :: (codesL ts ++ [41])).length : Nat) : Int) - 1 - 1 = _
          rw [List.length_cons, List.length_append, List.length_singleton]
          omega
        rw [e, Int.toNat_natCast]
        refine parts_all St ts 1 none [41] _ [] sput_same (by decide) rfl fun k' x4 L' h1 h2 => ⟨trivial, ?_⟩
        refine ret_sub (h P hP) fun q n hq => ?_
        by_cases eq : q = P
        · rw [eq, sput_same] at hq
          rw [eq, h2]
          exact hq
        · rw [sput_ne eq] at hq
          rw [h1 q eq, sput_ne eq]
          exact hq
    · exact h.elim
def asp__law_open : ASp
  | [.ref p, .int m], L, Q, _ => L p = some boxM ∧ 2 ≤ m ∧ m ≤ 60 ∧ ∀ t : JW.T, Can t → 0 < t.jts → (t.size : Int) ≤ m → Q (.str (tx t)) L
  | _, _, _, _ => False
theorem okA__law_open  (T : Txt K mg base) {scr : Option (Addr × List Int)} : CallD P w K mg base CX0 139 "_law_open" ["_law_box_here", "_law_most"] [] (spA (cA K scr) (asp__law_open)) := by
  refine T.d__law_open.okA sc__law_open ?len (fun f cdv A outer s H E hr => (as_cons (as_set (i := 2) sc__law_open.nd rfl (by first | exact Or.inl rfl | exact Or.inr rfl) (ae_call (okA__law_any T) (hr.mono (by decide)) (by rfl) (aa_cons (av 0) (aa_cons (ae_op aop_sub (av 1) ae_int) aa_nil))))
      (as_one (as_ret (ae_if (at_cmp aop_in ae_str (av 2) (by rfl)) (av 2) (ae_call (okA__law_basin T) (hr.mono (by decide)) (by rfl) (aa_cons (ae_op aop_add (ae_call (okA__law_parts T) (hr.mono (by decide)) (by rfl) (aa_cons (av 2) aa_nil)) (ae_lst (aa_cons ae_str aa_nil))) aa_nil))))))) ?vc
  case len =>
    intro ds L R RX h
    unfold asp__law_open at h
    split at h <;> first | rfl | exact h.elim
  case vc =>
    intro ds L R RX h
    unfold asp__law_open at h
    split at h
    · rename_i p m
      obtain ⟨hp, h1, h2, h⟩ := h
      refine ⟨hp, by omega, by omega, fun t hc hz => ?_⟩
      refine ite2 (fun e => ?_) (fun e => ?_)
      · have e2 : (false ^^ !(Builtin.Str.occurrences (tx t) ("o" : Str) 0 (tx t).length 1).isEmpty) = true := e
        rw [Bool.false_xor, in_o] at e2
        exact ret_of (h t hc (of_decide_eq_true e2) (by omega))
      have e2 : ¬ (false ^^ !(Builtin.Str.occurrences (tx t) ("o" : Str) 0 (tx t).length 1).isEmpty) = true := e
      rw [Bool.false_xor, in_o] at e2
      have hj : ¬ 0 < t.jts := fun z => e2 (decide_eq_true z)
      have hsl := sizeLine_eq
      cases t with
      | jet => exact absurd (show 0 < 1 by decide) hj
      | bas l =>
        have hs : (JW.T.bas l).size = 1 + sizeL l := rfl
        have hll := length_le l
        refine ⟨.bas l, rfl, by omega, fun P hP => ⟨by show (1 : Nat) ≤ sizeLine; omega, fun r hr => ?_⟩⟩
        refine ⟨_, _, sput_old sput_same hr, sput_same, by show (l.map dtx).length + 1 ≤ sizeLine; rw [List.length_map]; omega, fun q hq => ?_⟩
        have e3 : (l ++ [JW.T.jet]).map dtx = (JW.T.bas l).kids.map dtx ++ [D.str ("o" : Str)] := by
          rw [List.map_append, ← tx_jet]
          rfl
        have hz3 : sizeL (l ++ [JW.T.jet]) = sizeL l + 1 := size_snoc
        refine ⟨l ++ [.jet], by rw [sput_same, e3], by omega, ret_sub (h _ (can_bas (can_snoc (t := .jet) hc.2 trivial)) ?_ ?_) ((((SubS.refl L).new hP).new hr).new hq)⟩
        · show 0 < jtsL (sortT (l ++ [JW.T.jet]))
          rw [jtsL_perm (sortT_perm _), jtsL_sum, List.map_append, List.sum_append]
          show 0 < _ + (1 + 0)
          omega
        · show ((1 + sizeL (sortT (l ++ [JW.T.jet])) : Nat) : Int) ≤ m
          rw [sizeL_perm (sortT_perm _), hz3]
          omega
    · exact h.elim
def asp__law_times (n : Nat) : ASp
  | [.str x, .str y], L, Q, _ => ∃ t b : JW.T, x = tx t ∧ y = tx b ∧ Can t ∧ t.dep < n ∧ t.size ≤ 5000 ∧ (JW.T.grf b t).size ≤ 5000 ∧ Q (.str (tx (JW.T.grf b t))) L
  | _, _, _, _ => False
theorem stepA__law_times  (T : Txt K mg base) {scr : Option (Addr × List Int)} (n : Nat) (ih : CallD P w K mg base CX0 (76 + n) "_law_times" ["_law_one", "_law_other"] [] (spA (cA K scr) (asp__law_times n))) : CallD P w K mg base CX0 (76 + n + 1) "_law_times" ["_law_one", "_law_other"] [] (spA (cA K scr) (asp__law_times (n + 1))) := by
  refine T.d__law_times.okA sc__law_times ?len (fun f cdv A outer s H E hr => (as_cons (as_if (at_cmp (aop_eqG (okF_eq T) (hr.mono (by omega)) hr.units) (av 0) ae_str (nomark _))
        (as_one (as_ret (av 1)))
        as_nil)
      (as_cons (as_if (at_cmp aop_notin ae_str (av 0) (by rfl))
        (as_one (as_ret (av 0)))
        as_nil)
      (as_one (as_ret (ae_call (okA__law_basin T) (hr.mono (by omega)) (by rfl) (aa_cons (ae_lc (own := [("_law_part", 2)]) (by rfl) sc__law_times.nd (ai_list (ae_call (okA__law_parts T) (hr.mono (by omega)) (by rfl) (aa_cons (av 0) aa_nil))) (blkOk_by (by kernel_rfl)) (tgOk_name (by decide)) (fun _ _ _ _ _ => pg_name (i := 2) sc__law_times.nd rfl (by first | exact Or.inl rfl | exact Or.inr rfl)) (fun _ _ _ _ _ => (ae_call ih (hr.mono (by omega)) (by rfl) (aa_cons (av 2) (aa_cons (av 1) aa_nil))))) aa_nil))))))) ?vc
  case len =>
    intro ds L R RX h
    unfold asp__law_times at h
    split at h <;> first | rfl | exact h.elim
  case vc =>
    intro ds L R RX h
    unfold asp__law_times at h
    split at h
    rotate_left
    · exact h.elim
    obtain ⟨t, b, rfl, rfl, hc, hn, hz, hg, h⟩ := h
    have hsl := sizeLine_eq
    refine ite2 (fun e => ?_) (fun e => ?_)
    · have e1 := of_decide_eq_true ((Bool.false_xor _).symm.trans e)
      rw [← tx_jet] at e1
      rw [tx_inj e1] at h
      exact ret_of h
    refine ite2 (fun e2 => ?_) (fun e2 => ?_)
    · have e2 : (true ^^ !(Builtin.Str.occurrences (tx t) ("o" : Str) 0 (tx t).length 1).isEmpty) = true := e2
      rw [in_o] at e2
      have hj : t.jts = 0 := by
        cases z : opn t with
        | true => rw [z] at e2; cases e2
        | false => exact Nat.eq_zero_of_not_pos fun q => by rw [show opn t = true from decide_eq_true q] at z; cases z
      rw [grf_closed b t hc hj] at h
      exact ret_of h
    cases t with
    | jet => exact absurd (by rw [tx_jet]; rfl) e
    | bas l =>
      have hs : (JW.T.bas l).size = 1 + sizeL l := rfl
      have hll := length_le l
      rw [grf_bas] at h hg
      have hg2 : 1 + sizeL (sortT (l.map (JW.T.grf b))) ≤ 5000 := hg
      rw [sizeL_perm (sortT_perm _)] at hg2
      refine ⟨.bas l, rfl, hz, fun P hP => ⟨_, sput_same, fun B hB => ?_⟩⟩
      refine comp_mapA dtx (fun u => dtx (JW.T.grf b u)) (fun _ => sput_old sput_same hB) l [] (by show 0 + l.length ≤ _; omega) (fun u hu l2 k hk => ?_) ?_
      · have h1 := size_mem hu
        have h2 := len_le (List.mem_map_of_mem (f := JW.T.grf b) hu)
        have h3 := dep_lt hu
        exact ⟨rfl, u, b, rfl, rfl, canL_iff.mp hc.2 u hu, by omega, by omega, by omega, hk⟩
      refine ⟨l.map (JW.T.grf b), by rw [sput_same, List.nil_append, List.map_map]; rfl, by omega, ?_⟩
      exact ret_sub h (((SubS.refl _).new hP).new hB)
theorem okA__law_times  (T : Txt K mg base) {scr : Option (Addr × List Int)} (n : Nat) : CallD P w K mg base CX0 (76 + n) "_law_times" ["_law_one", "_law_other"] [] (spA (cA K scr) (asp__law_times n)) := callD_rec (sp := fun n => spA (cA K scr) (asp__law_times n)) T.d__law_times (fun vs H Q E ⟨ds, L, R, RX, _, _, h, _⟩ => by
    unfold asp__law_times at h
    split at h
    · obtain ⟨t, b, _, _, _, z, _⟩ := h
      exact absurd z (Nat.not_lt_zero _)
    · exact h.elim
    ) (stepA__law_times T) n
theorem cnt_codes : ∀ t : T, PyProof.Rows.cnt 40 t.codes + PyProof.Rows.cnt 111 t.codes = (t.size : Nat) := by
  apply T.ind'
  · decide
  · intro l ih
    have hl : ∀ l : List T, (∀ t ∈ l, PyProof.Rows.cnt 40 t.codes + PyProof.Rows.cnt 111 t.codes = (t.size : Nat)) → PyProof.Rows.cnt 40 (codesL l) + PyProof.Rows.cnt 111 (codesL l) = (sizeL l : Nat) := by
      intro l
      induction l with
      | nil => exact fun _ => by decide
      | cons t l ih =>
        intro h
        have h1 := h t List.mem_cons_self
        have h2 := ih fun u hu => h u (List.mem_cons_of_mem _ hu)
        show PyProof.Rows.cnt 40 (t.codes ++ codesL l) + PyProof.Rows.cnt 111 (t.codes ++ codesL l) = ((t.size + sizeL l : Nat) : Int)
        rw [PyProof.Rows.cnt_append, PyProof.Rows.cnt_append]
        omega
    show PyProof.Rows.cnt 40 (40 :: (codesL l ++ [41])) + PyProof.Rows.cnt 111 (40 :: (codesL l ++ [41])) = ((1 + sizeL l : Nat) : Int)
    rw [PyProof.Rows.cnt_cons, PyProof.Rows.cnt_cons, PyProof.Rows.cnt_append, PyProof.Rows.cnt_append]
    have := hl l ih
    simp [PyProof.Rows.cnt_cons, PyProof.Rows.cnt_nil]
    omega
def asp__law_size : ASp
  | [.str z], L, Q, _ => ∃ t : T, z = tx t ∧ Q (.int (t.size : Nat)) L
  | _, _, _, _ => False
theorem okA__law_size  (T : Txt K mg base) {scr : Option (Addr × List Int)} : CallD P w K mg base CX0 3 "_law_size" ["_law_text"] [] (spA (cA K scr) (asp__law_size)) := by
  refine T.d__law_size.okA sc__law_size ?len (fun f cdv A outer s H E hr => (as_one (as_ret (ae_op aop_add (ae_ms1 PySem.F.slot_str_count PySem.F.type_str_count mt_count low_count (av 0) ae_str) (ae_ms1 PySem.F.slot_str_count PySem.F.type_str_count mt_count low_count (av 0) ae_str))))) ?vc
  case len =>
    intro ds L R RX h
    unfold asp__law_size at h
    split at h <;> first | rfl | exact h.elim
  case vc =>
    intro ds L R RX h
    unfold asp__law_size at h
    split at h
    · rename_i z
      obtain ⟨t, rfl, h⟩ := h
      refine ⟨⟨_, rfl⟩, ⟨_, rfl⟩, ret_of ?_⟩
      show R (.int (Txt.count (tx t) ("(" : Str) + Txt.count (tx t) ("o" : Str))) L
      rw [op_S, o_S, PyProof.Rows.count_cnt, PyProof.Rows.count_cnt]
      have e : (tx t).cps.toList = t.codes := by unfold tx; rfl
      rw [e, cnt_codes t]
      exact h
    · exact h.elim
theorem cnt_o : ∀ t : T, PyProof.Rows.cnt 111 t.codes = (t.jts : Nat) := by
  apply T.ind'
  · decide
  · intro l ih
    have hl : ∀ l : List T, (∀ t ∈ l, PyProof.Rows.cnt 111 t.codes = (t.jts : Nat)) → PyProof.Rows.cnt 111 (codesL l) = (jtsL l : Nat) := by
      intro l
      induction l with
      | nil => exact fun _ => by decide
      | cons t l ih =>
        intro h
        have h1 := h t List.mem_cons_self
        have h2 := ih fun u hu => h u (List.mem_cons_of_mem _ hu)
        show PyProof.Rows.cnt 111 (t.codes ++ codesL l) = ((t.jts + jtsL l : Nat) : Int)
        rw [PyProof.Rows.cnt_append]
        omega
    show PyProof.Rows.cnt 111 (40 :: (codesL l ++ [41])) = ((jtsL l : Nat) : Int)
    rw [PyProof.Rows.cnt_cons, PyProof.Rows.cnt_append]
    have := hl l ih
    simp [PyProof.Rows.cnt_cons, PyProof.Rows.cnt_nil]
    omega
theorem count_o (t : T) : (Txt.count (tx t) ("o" : Str) : Int) = (t.jts : Nat) := by
  have e : (tx t).cps.toList = t.codes := by unfold tx; rfl
  rw [← cnt_o t, o_S, PyProof.Rows.count_cnt, e]
def asp__law_composed : ASp
  | [.ref p, .int m], L, Q, _ => L p = some boxM ∧ 1 ≤ m ∧ m ≤ 60 ∧ ∀ t : JW.T, Can t → (t.size : Int) ≤ m → Q (.str (tx t)) L
  | _, _, _, _ => False
theorem okA__law_composed  (T : Txt K mg base) {scr : Option (Addr × List Int)} : CallD P w K mg base CX0 151 "_law_composed" ["_law_box_here", "_law_most"] [] (spA (cA K scr) (asp__law_composed)) := by
  refine T.d__law_composed.okA sc__law_composed ?len (fun f cdv A outer s H E hr => (as_cons (as_via (as_set (i := 2) sc__law_composed.nd rfl (by first | exact Or.inl rfl | exact Or.inr rfl) (ae_call (okA__law_any T) (hr.mono (by decide)) (by rfl) (aa_cons (av 0) (aa_cons (ae_b (acb_max rfl) (by rfl) T.n_max (by decide +kernel) (aa_cons ae_int (aa_cons (ae_op aop_fdiv (av 1) ae_int) aa_nil))) aa_nil)))))
      (as_cons (as_for PassesOwn.never rfl (ai_rng1 (by rfl) T.n_range (aa_cons (ae_call (okA__law_take T) (hr.mono (by decide)) (by rfl) (aa_cons (av 0) (aa_cons ae_int aa_nil))) aa_nil)) (ag_name (i := 3) sc__law_composed.nd rfl (by first | exact Or.inl rfl | exact Or.inr rfl))
        (as_cons (as_set (i := 4) sc__law_composed.nd rfl (by first | exact Or.inl rfl | exact Or.inr rfl) (ae_call (okA__law_open T) (hr.mono (by decide)) (by rfl) (aa_cons (av 0) (aa_cons ae_int aa_nil))))
        (as_one (as_if (at_cmp aop_le (ae_op aop_add (ae_call (okA__law_size T) (hr.mono (by decide)) (by rfl) (aa_cons (av 4) aa_nil)) (ae_op aop_mul (ae_ms1 PySem.F.slot_str_count PySem.F.type_str_count mt_count low_count (av 4) ae_str) (ae_op aop_sub (ae_call (okA__law_size T) (hr.mono (by decide)) (by rfl) (aa_cons (av 2) aa_nil)) ae_int))) (av 1) (nomark _))
          (as_one (as_set (i := 2) sc__law_composed.nd rfl (by first | exact Or.inl rfl | exact Or.inr rfl) (ae_call (okA__law_times T 61) (hr.mono (by decide)) (by rfl) (aa_cons (av 4) (aa_cons (av 2) aa_nil)))))
          as_nil))))
      (as_one (as_ret (av 2)))))) ?vc
  case len =>
    intro ds L R RX h
    unfold asp__law_composed at h
    split at h <;> first | rfl | exact h.elim
  case vc =>
    intro ds L R RX h
    unfold asp__law_composed at h
    split at h
    · rename_i p m
      obtain ⟨hp, h1, h2, h⟩ := h
      refine ⟨fun env L2 => L2 = L ∧ ∃ t : JW.T, Can t ∧ (t.size : Int) ≤ m ∧ env = [some (.ref p), some (.int m), some (.str (tx t)), none, none], ⟨⟨by decide, by decide⟩, hp, ?_, ?_, fun t hc hz => ⟨rfl, t, hc, ?_, rfl⟩⟩, ?_⟩
      · split <;> omega
      · split <;> omega
      · revert hz
        split <;> omega
      rintro _ L2 ⟨e2, t, hc, hz, rfl⟩
      subst e2
      refine ⟨hp, by decide, by decide, fun v v0 v1 => ⟨by omega, by omega, ?_⟩⟩
      refine loop_k (rngD 0 v.toNat) (fun i env L' => L' = L2 ∧ ∃ t : JW.T, Can t ∧ (t.size : Int) ≤ m ∧ ∃ x3 x4, env = [some (.ref p), some (.int m), some (.str (tx t)), x3, x4]) (fun _ _ _ _ _ => trivial) ?step ?fin _ _ ⟨rfl, t, hc, hz, _, _, rfl⟩
      case fin =>
        rintro env L' ⟨rfl, t, hc, hz, x3, x4, rfl⟩
        exact ret_of (h t hc hz)
      case step =>
        rintro i d env L' nn hi kn ⟨rfl, t, hc, hz, x3, x4, rfl⟩
        refine ⟨hp, by decide, by decide, fun u hu hj huz => ?_⟩
        refine ⟨u, rfl, ⟨_, rfl⟩, t, rfl, .inl (.inl ?_), ?_⟩
        · rw [count_o]
          have := jts_le u
          exact ⟨by omega, by omega⟩
        rw [count_o]
        have hg := grf_sizeI t u
        refine ite2 (fun e => ?_) (fun e => ?_)
        · have e := of_decide_eq_true e
          refine ⟨u, t, rfl, rfl, hu, ?_, by omega, by omega, kn _ _ ⟨rfl, _, grf_can hc u, ?_, _, _, rfl⟩⟩
          · have := dep_le_size u
            omega
          · omega
        · exact kn _ _ ⟨rfl, t, hc, hz, _, _, rfl⟩
    · exact h.elim
theorem depDL_of {l : List D} {n : Nat} (h : ∀ x ∈ l, depD x ≤ n) : depDL l ≤ n := by
  induction l with
  | nil => exact Nat.zero_le _
  | cons x l ih =>
    show max (depD x) (depDL l) ≤ n
    have h1 := h x List.mem_cons_self
    have h2 := ih fun y hy => h y (List.mem_cons_of_mem _ hy)
    omega
theorem dep_memD {l : List D} {x : D} (h : x ∈ l) : depD x ≤ depDL l := by
  obtain ⟨i, hi, e⟩ := List.getElem_of_mem h
  exact depDL_get (i := i) (by rw [List.getElem?_eq_getElem hi, e])
theorem dep_dtx0 (l : List T) : depDL (l.map dtx) ≤ 70 := by rw [depDL_map fun _ => rfl]; omega
theorem listD_of {x : D} {l : List D} {L : Store} {Q : AQ} (h : x = .tup l ∨ ∃ p, x = .ref p ∧ L p = some (.lst l)) (q : ∀ r, L r = none → Q (.ref r) (sput L r (.lst l))) : listD [x] L Q := by
  rcases h with e | ⟨p, e, hp⟩
  · subst e
    exact q
  · subst e
    exact ⟨l, hp, q⟩
def asp__law_mixed : ASp
  | [.ref d, x], L, Q, _ => L d = some boxM ∧ ∃ l : List D, (x = .tup l ∨ ∃ p, x = .ref p ∧ L p = some (.lst l)) ∧ l.length ≤ 1000 ∧ depDL l ≤ 70 ∧ ∀ (m : List D) r, m.Perm l → L r = none → Q (.ref r) (sput L r (.lst m))
  | _, _, _, _ => False
theorem okA__law_mixed  (T : Txt K mg base) {scr : Option (Addr × List Int)} : CallD P w K mg base CX0 76 "_law_mixed" ["_law_box_here", "_law_items"] [] (spA (cA K scr) (asp__law_mixed)) := by
  refine T.d__law_mixed.okA sc__law_mixed ?len (fun f cdv A outer s H E hr => (as_cons (as_par (i := 2) (j := 3) (by rfl) sc__law_mixed.nd rfl rfl (by decide) rfl rfl (aa_cons (ae_ty acb_list (by rfl) T.n_list (by decide +kernel) (aa_cons (av 1) aa_nil)) (aa_cons (ae_lst aa_nil) aa_nil)) (by rfl))
      (as_cons (as_while PassesOwn.never (at_cmp (aop_neG T.cls (okF_eq T) (hr.mono (by decide)) hr.units) (av 2) (ae_lst aa_nil) (nomark _))
        (as_one (as_expr (ae_ml PySem.F.plainAttrs_list PySem.F.slot_list_append PySem.F.type_list_append mt_append low_append (av 3) (aa_cons (ae_ml PySem.F.plainAttrs_list PySem.F.slot_list_pop PySem.F.type_list_pop mt_popAt low_popAt (av 2) (aa_cons (ae_call (okA__law_take T) (hr.mono (by decide)) (by rfl) (aa_cons (av 0) (aa_cons (ae_b acb_len (by rfl) T.n_len (by decide +kernel) (aa_cons (av 2) aa_nil)) aa_nil))) aa_nil)) aa_nil)))))
      (as_one (as_ret (av 3)))))) ?vc
  case len =>
    intro ds L R RX h
    unfold asp__law_mixed at h
    split at h <;> first | rfl | exact h.elim
  case vc =>
    intro ds L R RX h
    unfold asp__law_mixed at h
    split at h
    · rename_i d x
      obtain ⟨hd, l, hx, hz, hp, h⟩ := h
      have hsl := sizeLine_eq
      refine listD_of hx fun P hP => ⟨Nat.zero_le _, fun F hF => ?_⟩
      have hPF : P ≠ F := fun e => by rw [e, sput_same] at hF; cases hF
      have hF0 : L F = none := by
        rw [sput_ne (Ne.symm hPF)] at hF
        exact hF
      refine ⟨fun m env L1 => ∃ xs fs : List D, env = [some (.ref d), some x, some (.ref P), some (.ref F)] ∧ L1 P = some (.lst xs) ∧ L1 F = some (.lst fs) ∧ SubS L L1 ∧ (fs ++ xs).Perm l ∧ m = xs.length, ⟨_, l, [], rfl, sput_old sput_same hF, sput_same, ((SubS.refl L).new hP).new hF, List.Perm.refl _, rfl⟩, ?_⟩
      rintro m env L1 ⟨xs, fs, rfl, hP1, hF1, sb, pm, rfl⟩
      have hlen := pm.length_eq
      rw [List.length_append] at hlen
      have hdx : depDL xs ≤ 70 := depDL_of fun y hy => Nat.le_trans (dep_memD (pm.subset (List.mem_append_right _ hy))) hp
      refine ⟨Nat.zero_le _, fun r hr => ⟨_, _, sput_old hP1 hr, sput_same, eqSq_nil hdx (ite2 (fun e => ?_) (fun e => ?_))⟩⟩
      rotate_left
      · cases xs with
        | nil =>
          rw [List.append_nil] at pm
          refine ret_sub (h fs F pm hF0) (show SubS (sput L F (.lst fs)) (sput L1 r (.lst [])) from fun q n hq => ?_)
          by_cases e : q = F
          · rw [e] at hq ⊢
            rw [sput_same] at hq
            rw [sput_old hF1 hr, hq]
          · rw [sput_ne e] at hq
            exact (sb.new hr) _ _ hq
        | cons y ys => exact absurd rfl e
      have hP2 := sput_old (n := .lst []) hP1 hr
      have hF2 := sput_old (n := .lst []) hF1 hr
      have sb2 := sb.new (m := .lst []) hr
      generalize sput L1 r (.lst []) = L2 at hP2 hF2 sb2
      cases xs with
      | nil => cases e
      | cons y ys =>
        have hyl : (y :: ys).length = ys.length + 1 := rfl
        refine ⟨⟨F, _, rfl, hF2⟩, ⟨P, _, rfl, hP2⟩, _, hP2, sb2 _ _ hd, by omega, by omega, fun v v0 v1 => ?_⟩
        have hv : v.toNat < (y :: ys).length := by omega
        refine ⟨_, v.toNat, (y :: ys)[v.toNat], hP2, by omega, by omega, seqIndex_nat v0 v1, by simp [hv], _, by rw [sput_ne (Ne.symm hPF)]; exact hF2, by omega, ?_⟩
        refine ⟨_, ?_, (y :: ys).eraseIdx v.toNat, fs ++ [(y :: ys)[v.toNat]], rfl, by rw [sput_ne hPF, sput_same], sput_same, (sb2.put hP).put hF0, ?_, rfl⟩
        · rw [List.length_eraseIdx, if_pos hv]
          omega
        · refine List.Perm.trans ?_ pm
          rw [List.append_assoc]
          exact List.Perm.append_left fs (eraseIdx_perm hv)
    · exact h.elim
theorem joinedU {l : List T} (h : sizeL l ≤ 5000) : ((l.map tx).map (·.length)).sum + (l.map tx).length * ("" : Str).length ≤ 16777216 := by
  have e : ("" : Str).length = 0 := rfl
  have h1 := codesL_len l
  rw [lens_tx, e]
  omega
theorem joinedUS {l : List T} (h : sizeL l ≤ 5000) : (Txt.join "" (l.map tx)).length ≤ 10000 := by
  have h1 := codesL_len l
  rw [join_tx, SX.S_len]
  omega
def asp__law_written (n : Nat) : ASp
  | [.ref p, .str z], L, Q, _ => L p = some boxM ∧ ∃ t : JW.T, z = tx t ∧ t.dep < n ∧ t.size ≤ 1000 ∧ ∀ u : JW.T, u.canon = t.canon → Q (.str (tx u)) L
  | _, _, _, _ => False
theorem stepA__law_written  (T : Txt K mg base) {scr : Option (Addr × List Int)} (n : Nat) (ih : CallD P w K mg base CX0 (77 + n) "_law_written" ["_law_box_here", "_law_text"] [] (spA (cA K scr) (asp__law_written n))) : CallD P w K mg base CX0 (77 + n + 1) "_law_written" ["_law_box_here", "_law_text"] [] (spA (cA K scr) (asp__law_written (n + 1))) := by
  refine T.d__law_written.okA sc__law_written ?len (fun f cdv A outer s H E hr => (as_cons (as_if (at_cmp (aop_eqG (okF_eq T) (hr.mono (by omega)) hr.units) (av 1) ae_str (nomark _))
        (as_one (as_ret (av 1)))
        as_nil)
      (as_one (as_ret (ae_op aop_add (ae_op aop_add ae_str (ae_ms1 PySem.F.slot_str_join PySem.F.type_str_join mt_join low_join ae_str (ae_lc (own := [("_law_part", 2)]) (by rfl) sc__law_written.nd (ai_list (ae_call (okA__law_mixed T) (hr.mono (by omega)) (by rfl) (aa_cons (av 0) (aa_cons (ae_call (okA__law_parts T) (hr.mono (by omega)) (by rfl) (aa_cons (av 1) aa_nil)) aa_nil)))) (blkOk_by (by kernel_rfl)) (tgOk_name (by decide)) (fun _ _ _ _ _ => pg_name (i := 2) sc__law_written.nd rfl (by first | exact Or.inl rfl | exact Or.inr rfl)) (fun _ _ _ _ _ => (ae_call ih (hr.mono (by omega)) (by rfl) (aa_cons (av 0) (aa_cons (av 2) aa_nil))))))) ae_str))))) ?vc
  case len =>
    intro ds L R RX h
    unfold asp__law_written at h
    split at h <;> first | rfl | exact h.elim
  case vc =>
    intro ds L R RX h
    unfold asp__law_written at h
    split at h
    rotate_left
    · exact h.elim
    rename_i p z
    obtain ⟨hp, t, rfl, hn, hz, h⟩ := h
    have hsl := sizeLine_eq
    refine ite2 (fun e => ?_) (fun e => ?_)
    · exact ret_of (h t rfl)
    cases t with
    | jet => exact absurd (by rw [tx_jet]; rfl) e
    | bas l =>
      have hs : (JW.T.bas l).size = 1 + sizeL l := rfl
      have hll := length_le l
      refine ⟨⟨_, rfl⟩, .bas l, rfl, by omega, fun P hP => ⟨sput_old hp hP, l.map dtx, .inr ⟨P, rfl, sput_same⟩, by rw [List.length_map]; omega, dep_dtx0 _, fun m r pm hr => ?_⟩⟩
      obtain ⟨us, pu, rfl⟩ := perm_mapD pm rfl
      have hul : us.length = l.length := pu.length_eq
      refine ⟨_, sput_same, fun B hB => ?_⟩
      have sb := ((SubS.refl L).new (m := .lst ((JW.T.bas l).kids.map dtx)) hP).new (m := .lst (us.map dtx)) hr
      have p1 : sput (sput L P (.lst ((JW.T.bas l).kids.map dtx))) r (.lst (us.map dtx)) r = some (.lst (us.map dtx)) := sput_same
      generalize sput (sput L P (.lst ((JW.T.bas l).kids.map dtx))) r (.lst (us.map dtx)) = L1 at sb p1 hB ⊢
      refine comp_inv dtx us (fun pre acc L' => ∃ zs : List JW.T, acc = zs.map dtx ∧ zs.map JW.T.canon = pre.map JW.T.canon ∧ L' = sput L1 B (.lst acc)) (by omega) ?hG ?step ?fin _ ⟨[], rfl, rfl, rfl⟩
      case hG =>
        rintro pre acc L' ⟨zs, rfl, ez, rfl⟩
        refine ⟨sput_old p1 hB, sput_same, ?_⟩
        have := congrArg List.length ez
        rw [List.length_map, List.length_map] at this
        rw [List.length_map]
        exact this
      case step =>
        rintro pre u rest acc L' kk e ⟨zs, rfl, ez, rfl⟩ hk
        have hu : u ∈ l := pu.subset (by rw [e]; simp)
        have hus := size_mem hu
        have hud := dep_lt hu
        refine ⟨rfl, (sb.new hB) _ _ hp, u, rfl, by omega, by omega, fun v cv => ?_⟩
        exact hk _ _ sput_same ⟨zs ++ [v], by rw [List.map_append]; rfl, by rw [List.map_append, List.map_append, ez]; exact congrArg _ (congrArg (fun x => [x]) cv), by rw [sput_sput]⟩
      case fin =>
        rintro acc L' ⟨zs, rfl, ez, rfl⟩
        have hzs : sizeL zs = sizeL l := by rw [← sizeL_canon zs, ez, sizeL_canon, sizeL_perm pu]
        have hl1 : sizeL zs ≤ 5000 := by omega
        have hj := joinedUS hl1
        refine ⟨zs.map tx, by rw [sput_same, dtx_map], joinedU hl1, ?_, ?_, ?_⟩
        · show 1 + _ ≤ sizeLine
          omega
        · rw [len_cat]
          show (1 + _) + 1 ≤ sizeLine
          omega
        · rw [tx_bas]
          refine ret_sub (h (.bas zs) ?_) (sb.new hB)
          rw [canon_bas, canon_bas, ez, sortT_congr (pu.map JW.T.canon)]
theorem okA__law_written  (T : Txt K mg base) {scr : Option (Addr × List Int)} (n : Nat) : CallD P w K mg base CX0 (77 + n) "_law_written" ["_law_box_here", "_law_text"] [] (spA (cA K scr) (asp__law_written n)) := callD_rec (sp := fun n => spA (cA K scr) (asp__law_written n)) T.d__law_written (fun vs H Q E ⟨ds, L, R, RX, _, _, h, _⟩ => by
    unfold asp__law_written at h
    split at h
    · obtain ⟨_, t, _, z, _⟩ := h
      exact absurd z (Nat.not_lt_zero _)
    · exact h.elim
    ) (stepA__law_written T) n
def asp__law_model : ASp
  | [.str z], L, Q, _ => ∀ q m, L q = none → L m = none → q ≠ m → Q (.ref m) (sput (sput L q (.lst [])) m (.dct [(.inr "now", .str z), (.inr "past", .ref q)]))
  | _, _, _, _ => False
theorem okA__law_model  (T : Txt K mg base) {scr : Option (Addr × List Int)} : CallD P w K mg base CX0 3 "_law_model" ["_law_text"] [] (spA (cA K scr) (asp__law_model)) := by
  refine T.d__law_model.okA sc__law_model ?len (fun f cdv A outer s H E hr => (as_one (as_ret (ae_dct2 (av 0) (ae_lst aa_nil) (by decide))))) ?vc
  case len =>
    intro ds L R RX h
    unfold asp__law_model at h
    split at h <;> first | rfl | exact h.elim
  case vc =>
    intro ds L R RX h
    unfold asp__law_model at h
    split at h
    · rename_i z
      refine fun m hm => ⟨Nat.zero_le _, fun q hq => ⟨sput_old sput_same hq, ?_⟩⟩
      have hne : q ≠ m := fun z => by rw [z, sput_same] at hq; cases hq
      have hq0 : L q = none := by rw [sput_ne hne] at hq; exact hq
      refine ret_sub (h q m hq0 hm hne) fun a n ha => ?_
      by_cases e : a = m
      · rw [e, sput_same] at ha ⊢
        exact ha
      · rw [sput_ne e] at ha ⊢
        by_cases e2 : a = q
        · rw [e2, sput_same] at ha ⊢
          exact ha
        · rw [sput_ne e2] at ha ⊢
          rw [sput_ne e]
          exact ha
    · exact h.elim
theorem sub_stepB {path : List Nat} {t u c : T} {i x : Nat} (h : subT path t = some u) (hx : path[i]? = some x) (hc : subT (path.take i) t = some c) : ∃ k, c.kd[x]? = some k ∧ subT (path.take (i + 1)) t = some k ∧ c.size ≤ t.size := by
  have app : ∀ (a b : List Nat) (t : JW.T), subT (a ++ b) t = (subT a t).bind (subT b) := by
    intro a
    induction a with
    | nil => intro b t; rfl
    | cons y r ih =>
      intro b t
      show (t.kd[y]?).bind (subT (r ++ b)) = ((t.kd[y]?).bind (subT r)).bind (subT b)
      cases t.kd[y]? with
      | none => rfl
      | some k => exact ih b k
  have e : path = path.take i ++ x :: path.drop (i + 1) := by
    have h1 := (List.getElem?_eq_some_iff.mp hx)
    obtain ⟨hl, he⟩ := h1
    conv => lhs; rw [← List.take_append_drop i path]
    rw [List.drop_eq_getElem_cons hl, he]
  rw [e, app, hc] at h
  have h2 : (c.kd[x]?).bind (subT (path.drop (i + 1))) = some u := h
  obtain ⟨k, e1, _⟩ := Option.bind_eq_some_iff.mp h2
  refine ⟨k, e1, ?_, ?_⟩
  · rw [List.take_succ, hx, app, hc]
    show (c.kd[x]?).bind (subT []) = some k
    rw [e1] <;> rfl
  · have h3 : ∀ (q : List Nat) (t c : JW.T), subT q t = some c → c.size ≤ t.size := by
      intro q
      induction q with
      | nil => intro t c h; exact Nat.le_of_eq (by rw [Option.some.inj h])
      | cons y r ih =>
        intro t c h
        have h2 : (t.kd[y]?).bind (subT r) = some c := h
        obtain ⟨k, e1, e2⟩ := Option.bind_eq_some_iff.mp h2
        have := ih k c e2
        have h4 := size_mem (List.mem_of_getElem? e1)
        rw [← kd_size e1] at h4
        omega
    exact h3 _ t c hc
theorem kids_kdB (t : T) : t.kids = t.kd := by cases t <;> rfl
def asp__law_step : ASp
  | [.str z, .tup x], L, Q, _ => ∃ (t s : JW.T) (p : List Nat), z = tx t ∧ x = p.map (fun k : Nat => D.int (k : Nat)) ∧ subT p t = some s ∧ t.size ≤ 5000 ∧ Q .non L
  | _, _, _, _ => False
theorem okA__law_step  (T : Txt K mg base) {scr : Option (Addr × List Int)} : CallD P w K mg base CX0 77 "_law_step" ["_law_text", "_law_path"] [] (spA (cA K scr) (asp__law_step)) := by
  refine T.d__law_step.okA sc__law_step ?len (fun f cdv A outer s H E hr => (as_cons (as_for PassesOwn.never rfl (ai_enumT (by rfl) T.n_enumerate (aa_cons (av 1) aa_nil)) (ag_tup (n := 2) rfl (ags_cons (ag_name (i := 2) sc__law_step.nd rfl (by first | exact Or.inl rfl | exact Or.inr rfl)) (ags_cons (ag_name (i := 3) sc__law_step.nd rfl (by first | exact Or.inl rfl | exact Or.inr rfl)) ags_nil)) (fun _ _ _ _ z => agNs_len (js := [2, 3]) z))
        (as_cons (as_set (i := 4) sc__law_step.nd rfl (by first | exact Or.inl rfl | exact Or.inr rfl) (ae_call (okA__law_parts T) (hr.mono (by decide)) (by rfl) (aa_cons (av 0) aa_nil)))
        (as_cons (as_if (at_not (at_chain aop_le aop_lt ae_int (av 3) (ae_b acb_len (by rfl) T.n_len (by decide +kernel) (aa_cons (av 4) aa_nil))))
          (as_one (as_ret (av 2)))
          as_nil)
        (as_one (as_set (i := 0) sc__law_step.nd rfl (by first | exact Or.inl rfl | exact Or.inr rfl) (ae_ix (av 4) (av 3) (fun _ _ => rfl)))))))
      (as_one (as_ret ae_non)))) ?vc
  case len =>
    intro ds L R RX h
    unfold asp__law_step at h
    split at h <;> first | rfl | exact h.elim
  case vc =>
    intro ds L R RX h
    unfold asp__law_step at h
    split at h
    · rename_i z x
      obtain ⟨t, s, p, rfl, rfl, hs, hz, h⟩ := h
      have hsl := sizeLine_eq
      have hpl : (p.map fun k : Nat => D.int (k : Nat)).length = p.length := List.length_map _
      refine loop_k (enumD (p.map fun k : Nat => D.int (k : Nat))) (fun i env L' => SubS L L' ∧ ∃ c x2 x3 x4, env = [some (.str (tx c)), some (.tup (p.map fun k : Nat => D.int (k : Nat))), x2, x3, x4] ∧ subT (p.take i) t = some c ∧ c.size ≤ t.size) (fun _ _ _ _ _ => trivial) ?step ?fin _ _ ⟨SubS.refl L, t, _, _, _, rfl, rfl, Nat.le_refl _⟩
      case fin =>
        rintro env L' ⟨sb, c, x2, x3, x4, rfl, _⟩
        exact ret_sub h sb
      case step =>
        rintro i d env L' nn hi kn ⟨sb, c, x2, x3, x4, rfl, e1, e2⟩
        have hil : i < p.length := by
          have := (List.getElem?_eq_some_iff.mp hi).1
          rwa [enumD_len, hpl] at this
        have ed : d = .tup [.int (i : Nat), .int (p[i] : Nat)] := by
          have e3 := enumD_get (l := p.map fun k : Nat => D.int (k : Nat)) (i := i) (d := .int (p[i] : Nat)) (by rw [List.getElem?_map, List.getElem?_eq_getElem hil]; rfl)
          rw [hi] at e3
          exact Option.some.inj e3
        subst ed
        obtain ⟨k, k1, k2, _⟩ := sub_stepB hs (List.getElem?_eq_getElem hil) e1
        have hkd : c.kids = c.kd := kids_kdB c
        have hkl : p[i] < c.kd.length := (List.getElem?_eq_some_iff.mp k1).1
        have hks : k.size < c.size := by
          have h4 := size_mem (List.mem_of_getElem? k1)
          rw [← kd_size k1] at h4
          exact h4
        refine ⟨rfl, c, rfl, by omega, fun P hP => ?_⟩
        rw [hkd]
        have kn2 := kn _ _ ⟨sb.new (m := .lst (c.kd.map dtx)) hP, k, some (.int (i : Nat)), some (.int (p[i] : Nat)), some (.ref P), rfl, k2, by omega⟩
        have e5 : atI (c.kd.map dtx) ((p[i] : Nat) : Int) = some (dtx k) := atI_nat (by rw [List.getElem?_map, k1]; rfl)
        generalize p[i] = x at *
        have e6 : decide ((0 : Int) ≤ (x : Nat)) = true := decide_eq_true (Int.natCast_nonneg _)
        have e7 : decide (((x : Nat) : Int) < ((c.kd.map dtx).length : Nat)) = true := decide_eq_true (by rw [List.length_map]; omega)
        have hP1 : sput L' P (.lst (c.kd.map dtx)) P = some (.lst (c.kd.map dtx)) := sput_same
        generalize sput L' P (.lst (c.kd.map dtx)) = L2 at *
        generalize ((x : Nat) : Int) = xi at *
        refine ite_t e6 ?_
        refine ⟨_, hP1, ?_⟩
        refine ite_f (by rw [e7]; rfl) ?_
        exact ⟨_, dtx k, hP1, e5, kn2⟩
    · exact h.elim
def asp__law_put (n : Nat) : ASp
  | [.str z, .tup x, .str y], L, Q, _ => ∃ (t b s : JW.T) (p : List Nat), z = tx t ∧ y = tx b ∧ x = p.map (fun k : Nat => D.int (k : Nat)) ∧ p.length < n ∧ subT p t = some s ∧ t.size + b.size ≤ 5000 ∧ Q (.str (tx (repT b p t))) L
  | _, _, _, _ => False
theorem stepA__law_put  (T : Txt K mg base) {scr : Option (Addr × List Int)} (n : Nat) (ih : CallD P w K mg base CX0 (76 + n) "_law_put" ["_law_text", "_law_path", "_law_part"] [] (spA (cA K scr) (asp__law_put n))) : CallD P w K mg base CX0 (76 + n + 1) "_law_put" ["_law_text", "_law_path", "_law_part"] [] (spA (cA K scr) (asp__law_put (n + 1))) := by
  refine T.d__law_put.okA sc__law_put ?len (fun f cdv A outer s H E hr => (as_cons (as_if (at_cmp (aop_eqG (okF_eq T) (hr.mono (by omega)) hr.units) (av 1) (ae_tup aa_nil) (nomark _))
        (as_one (as_ret (av 2)))
        as_nil)
      (as_cons (as_set (i := 3) sc__law_put.nd rfl (by first | exact Or.inl rfl | exact Or.inr rfl) (ae_call (okA__law_parts T) (hr.mono (by omega)) (by rfl) (aa_cons (av 0) aa_nil)))
      (as_cons (as_asg (ae_call ih (hr.mono (by omega)) (by rfl) (aa_cons (ae_ix (av 3) (ae_ix (av 1) ae_int (fun _ _ => rfl)) (fun _ _ => rfl)) (aa_cons (ae_sl (av 1) (ao_some ae_int) ao_none) (aa_cons (av 2) aa_nil)))) (ag_sub (av 3) (ae_ix (av 1) ae_int (fun _ _ => rfl))))
      (as_one (as_ret (ae_call (okA__law_basin T) (hr.mono (by omega)) (by rfl) (aa_cons (av 3) aa_nil)))))))) ?vc
  case len =>
    intro ds L R RX h
    unfold asp__law_put at h
    split at h <;> first | rfl | exact h.elim
  case vc =>
    intro ds L R RX h
    unfold asp__law_put at h
    split at h
    rotate_left
    · exact h.elim
    obtain ⟨t, b, s, p, rfl, rfl, rfl, hn, hs, hz, h⟩ := h
    have hsl := sizeLine_eq
    have hdl : depDL (p.map fun k : Nat => D.int (k : Nat)) ≤ 70 := by rw [depDL_map fun _ => rfl]; omega
    refine ⟨Nat.zero_le _, ?_⟩
    have z : ∀ (l : List D) (Q : AQ), eqG false (.tup l) (.tup []) L Q = eqSq false l [] L Q := fun l Q => rfl
    show eqG false (.tup (p.map fun k : Nat => D.int (k : Nat))) (.tup []) L _
    rw [z]
    refine eqSq_nil hdl ?_
    refine ite2 (fun e => ?_) (fun e => ?_)
    · cases p with
      | nil => exact ret_of h
      | cons i r => cases e
    cases p with
    | nil => exact absurd rfl e
    | cons i r =>
      have hs2 : (t.kd[i]?).bind (subT r) = some s := hs
      obtain ⟨kd, hk1, hk2⟩ := Option.bind_eq_some_iff.mp hs2
      have hkl : i < t.kd.length := (List.getElem?_eq_some_iff.mp hk1).1
      have hks : kd.size < t.size := by
        have h4 := size_mem (List.mem_of_getElem? hk1)
        rw [← kd_size hk1] at h4
        exact h4
      have hrl : (i :: r).length = r.length + 1 := rfl
      have hkd : t.kids = t.kd := by cases t <;> rfl
      refine ⟨t, rfl, by omega, fun P hP => ?_⟩
      rw [hkd]
      have e0 : atI ((i :: r).map fun k : Nat => D.int (k : Nat)) 0 = some (.int (i : Nat)) := show atI _ ((0 : Nat) : Int) = _ from atI_nat rfl
      refine ⟨.int (i : Nat), e0, _, dtx kd, sput_same, atI_nat (by rw [List.getElem?_map, hk1]; rfl), kd, b, s, r, rfl, rfl, cutD_drop (k := 1) rfl, by omega, hk2, by omega, .int (i : Nat), e0, _, i, sput_same, ?_, ?_⟩
      · unfold ixN
        rw [List.length_map, if_pos (Int.natCast_nonneg i), if_pos (by omega)]
        rfl
      have hsz := sizeL_set (repT b r kd) hk1
      have hrs := rep_size b r kd s hk2
      have htk : t.size = 1 + sizeL t.kd := by
        conv => lhs; rw [kd_size hk1]
        rfl
      refine ⟨t.kd.set i (repT b r kd), by rw [sput_same, List.map_set]; rfl, by omega, ?_⟩
      refine ret_sub (L0 := L) ?_ (((SubS.refl L).new hP).put hP)
      have h2 : R (.str (tx (.bas (sortT (t.kd.set i (repT b r (t.kd.getD i .jet))))))) L := h
      rw [kd_get hk1] at h2
      exact h2
theorem okA__law_put  (T : Txt K mg base) {scr : Option (Addr × List Int)} (n : Nat) : CallD P w K mg base CX0 (76 + n) "_law_put" ["_law_text", "_law_path", "_law_part"] [] (spA (cA K scr) (asp__law_put n)) := callD_rec (sp := fun n => spA (cA K scr) (asp__law_put n)) T.d__law_put (fun vs H Q E ⟨ds, L, R, RX, _, _, h, _⟩ => by
    unfold asp__law_put at h
    split at h
    · obtain ⟨t, b, s, p, _, _, _, z, _⟩ := h
      exact absurd z (Nat.not_lt_zero _)
    · exact h.elim
    ) (stepA__law_put T) n
def asp__law_limits : ASp
  | [.int a, .int b], L, Q, _ => a ≤ 5000 ∧ b ≤ 120 ∧ Q .non L
  | _, _, _, _ => False
theorem okA__law_limits  (T : Txt K mg base) {scr : Option (Addr × List Int)} : CallD P w K mg base CX0 3 "_law_limits" ["_law_pieces_here", "_law_basins"] [] (spA (cA K scr) (asp__law_limits)) := by
  refine T.d__law_limits.okA sc__law_limits ?len (fun f cdv A outer s H E hr => (as_cons (as_if (at_cmp aop_gt (av 0) ae_int (nomark _))
        (as_one (as_ret (ae_tup (aa_cons ae_str (aa_cons (av 0) aa_nil)))))
        as_nil)
      (as_one (as_ret (ae_if (at_cmp aop_gt (av 1) ae_int (nomark _)) (ae_tup (aa_cons ae_str (aa_cons (av 1) aa_nil))) ae_non))))) ?vc
  case len =>
    intro ds L R RX h
    unfold asp__law_limits at h
    split at h <;> first | rfl | exact h.elim
  case vc =>
    intro ds L R RX h
    unfold asp__law_limits at h
    split at h
    · rename_i a b
      obtain ⟨h1, h2, h⟩ := h
      exact ite_f (decide_eq_false (by omega)) (ite_f (decide_eq_false (by omega)) (ret_of h))
    · exact h.elim
def dpS (s : Int × Int) (c : Nat) : Int × Int := (s.1 + levOf c, if s.1 + levOf c > s.2 then s.1 + levOf c else s.2)
def mxI (m n : Int) : Int := if n > m then n else m
theorem mxI_le (m n : Int) : n ≤ mxI m n ∧ m ≤ mxI m n := by
  unfold mxI
  split <;> omega
theorem mxI_mxI (m a b : Int) (h : a ≤ b) : mxI (mxI m a) b = mxI m b := by
  unfold mxI
  split <;> split <;> (try split) <;> omega
theorem mxI_of {m n : Int} (h : n ≤ m) : mxI m n = m := by
  unfold mxI
  rw [if_neg (by omega)]
theorem dpS_o (k m : Int) (h : k ≤ m) : dpS (k, m) 111 = (k, m) := by
  have e : k + levOf 111 = k := by show k + 0 = k; omega
  show (k + levOf 111, if k + levOf 111 > m then k + levOf 111 else m) = _
  rw [e, if_neg (by omega)]
theorem dpS_l (k m : Int) : dpS (k, m) 40 = (k + 1, mxI m (k + 1)) := rfl
theorem dpS_r (k m : Int) (h : k ≤ m) : dpS (k + 1, m) 41 = (k, m) := by
  have e : k + 1 + levOf 41 = k := by show k + 1 + -1 = k; omega
  show (k + 1 + levOf 41, if k + 1 + levOf 41 > m then k + 1 + levOf 41 else m) = _
  rw [e, if_neg (by omega)]
mutual
theorem dp_run : ∀ (t : T) (k m : Int), k ≤ m → t.codes.foldl dpS (k, m) = (k, mxI m (k + (t.dep : Nat)))
  | .jet, k, m, h => by
    show dpS (k, m) 111 = _
    rw [dpS_o _ _ h, mxI_of (by show k + ((0 : Nat) : Int) ≤ m; omega)]
  | .bas l, k, m, h => by
    show ((codesL l ++ [41]).foldl dpS (dpS (k, m) 40)) = _
    have h1 := mxI_le m (k + 1)
    rw [dpS_l, List.foldl_append, dp_runL l _ _ h1.1]
    show dpS (k + 1, _) 41 = _
    have h2 := mxI_le (mxI m (k + 1)) (k + 1 + (depL l : Nat))
    have e : k + ((JW.T.bas l).dep : Nat) = k + 1 + (depL l : Nat) := by
      show k + ((1 + depL l : Nat) : Int) = _
      omega
    rw [dpS_r _ _ (by omega), e, mxI_mxI _ _ _ (by omega)]
theorem dp_runL : ∀ (l : List T) (k m : Int), k ≤ m → (codesL l).foldl dpS (k, m) = (k, mxI m (k + (depL l : Nat)))
  | [], k, m, h => by
    show (k, m) = (k, mxI m (k + ((0 : Nat) : Int)))
    rw [mxI_of (by omega)]
  | t :: l, k, m, h => by
    show (t.codes ++ codesL l).foldl dpS (k, m) = _
    have h1 := mxI_le m (k + (t.dep : Nat))
    rw [List.foldl_append, dp_run t _ _ h, dp_runL l _ _ (by omega)]
    have e : mxI (mxI m (k + (t.dep : Nat))) (k + (depL l : Nat)) = mxI m (k + (depL (t :: l) : Nat)) := by
      show _ = mxI m (k + ((max t.dep (depL l) : Nat) : Int))
      unfold mxI
      split <;> split <;> (try split) <;> omega
    rw [e]
end
def asp__law_depth : ASp
  | [.str z], L, Q, _ => ∃ t : T, z = tx t ∧ t.size ≤ 5000 ∧ Q (.int (t.dep : Nat)) L
  | _, _, _, _ => False
theorem okA__law_depth  (T : Txt K mg base) {scr : Option (Addr × List Int)} : CallD P w K mg base CX0 4 "_law_depth" ["_law_text"] [] (spA (cA K scr) (asp__law_depth)) := by
  refine T.d__law_depth.okA sc__law_depth ?len (fun f cdv A outer s H E hr => (as_cons (as_asg (ae_tup (aa_cons ae_int (aa_cons ae_int aa_nil))) (ag_tup (n := 2) rfl (ags_cons (ag_name (i := 1) sc__law_depth.nd rfl (by first | exact Or.inl rfl | exact Or.inr rfl)) (ags_cons (ag_name (i := 2) sc__law_depth.nd rfl (by first | exact Or.inl rfl | exact Or.inr rfl)) ags_nil)) (fun _ _ _ _ z => agNs_len (js := [1, 2]) z)))
      (as_cons (as_for PassesOwn.never rfl (ai_str (av 0)) (ag_name (i := 3) sc__law_depth.nd rfl (by first | exact Or.inl rfl | exact Or.inr rfl))
        (as_cons (as_set (i := 2) sc__law_depth.nd rfl (by first | exact Or.inl rfl | exact Or.inr rfl) (ae_op aop_add (av 2) (ae_levV (hu_of hr) (pv 3) (fun _ _ => rfl))))
        (as_one (as_via (as_set (i := 1) sc__law_depth.nd rfl (by first | exact Or.inl rfl | exact Or.inr rfl) (ae_b (acb_max rfl) (by rfl) T.n_max (by decide +kernel) (aa_cons (av 1) (aa_cons (av 2) aa_nil))))))))
      (as_one (as_ret (av 1)))))) ?vc
  case len =>
    intro ds L R RX h
    unfold asp__law_depth at h
    split at h <;> first | rfl | exact h.elim
  case vc =>
    intro ds L R RX h
    unfold asp__law_depth at h
    split at h
    · rename_i z
      obtain ⟨t, rfl, hz, h⟩ := h
      have hsl := sizeLine_eq
      have etx : (tx t).cps.toList = t.codes := by unfold tx; rfl
      have hcl := (codes_len t).1
      refine ⟨by show (2 : Nat) ≤ sizeLine; omega, rfl, ?_⟩
      refine loop_map (fun c : Nat => D.str ⟨#[c]⟩) (tx t).cps.toList (fun pre env L' => L' = L ∧ ∃ x3, env = [some (.str (tx t)), some (.int (pre.foldl dpS (0, 0)).2), some (.int (pre.foldl dpS (0, 0)).1), x3]) (fun _ _ _ _ => trivial) ?step ?fin _ _ ⟨rfl, _, rfl⟩
      case fin =>
        rintro env L' ⟨rfl, x4, rfl⟩
        rw [etx, dp_run t 0 0 (by omega)]
        have e1 : mxI 0 (0 + ((t.dep : Nat) : Int)) = (t.dep : Nat) := by
          unfold mxI
          split <;> omega
        show (fnEnds R).rt (.int (mxI 0 (0 + ((t.dep : Nat) : Int)))) L'
        rw [e1]
        exact ret_of h
      case step =>
        rintro pre c rest nn e1 kn env L' ⟨rfl, x4, rfl⟩
        have hc : c ∈ t.codes := by rw [← etx, e1]; simp
        have hs3 := codes_in t c hc
        have hs3 : c = 40 ∨ c = 41 ∨ c = 111 := hs3
        rw [List.foldl_append] at kn
        generalize pre.foldl dpS (0, 0) = s at *
        obtain ⟨k, m⟩ := s
        refine ⟨c, rfl, hs3, ⟨fun env L2 => L2 = L' ∧ env = [some (.str (tx t)), some (.int (if k + levOf c > m then k + levOf c else m)), some (.int (k + levOf c)), some (.str ⟨#[c]⟩)], ⟨rfl, rfl⟩, ?_⟩⟩
        rintro env L2 ⟨rfl, rfl⟩
        exact kn _ _ ⟨rfl, _, rfl⟩
    · exact h.elim
def asp__law_at : ASp
  | [.str z, .tup x], L, Q, _ => ∃ (t s : JW.T) (p : List Nat), z = tx t ∧ x = p.map (fun k : Nat => D.int (k : Nat)) ∧ subT p t = some s ∧ t.size ≤ 5000 ∧ Q (.str (tx s)) L
  | _, _, _, _ => False
theorem okA__law_at  (T : Txt K mg base) {scr : Option (Addr × List Int)} : CallD P w K mg base CX0 77 "_law_at" ["_law_text", "_law_path"] [] (spA (cA K scr) (asp__law_at)) := by
  refine T.d__law_at.okA sc__law_at ?len (fun f cdv A outer s H E hr => (as_cons (as_for PassesOwn.never rfl (ai_tup (av 1)) (ag_name (i := 2) sc__law_at.nd rfl (by first | exact Or.inl rfl | exact Or.inr rfl))
        (as_one (as_set (i := 0) sc__law_at.nd rfl (by first | exact Or.inl rfl | exact Or.inr rfl) (ae_ix (ae_call (okA__law_parts T) (hr.mono (by decide)) (by rfl) (aa_cons (av 0) aa_nil)) (av 2) (fun _ _ => rfl)))))
      (as_one (as_ret (av 0))))) ?vc
  case len =>
    intro ds L R RX h
    unfold asp__law_at at h
    split at h <;> first | rfl | exact h.elim
  case vc =>
    intro ds L R RX h
    unfold asp__law_at at h
    split at h
    · rename_i z x
      obtain ⟨t, s, p, rfl, rfl, hs, hz, h⟩ := h
      have hsl := sizeLine_eq
      refine loop_map (fun k : Nat => D.int (k : Nat)) p (fun pre env L' => SubS L L' ∧ ∃ c x2, env = [some (.str (tx c)), some (.tup (p.map fun k : Nat => D.int (k : Nat))), x2] ∧ subT pre t = some c ∧ c.size ≤ t.size) (fun _ _ _ _ => trivial) ?step ?fin _ _ ⟨SubS.refl L, t, _, rfl, rfl, Nat.le_refl _⟩
      case fin =>
        rintro env L' ⟨sb, c, x2, rfl, e1, _⟩
        rw [hs] at e1
        rw [Option.some.inj e1] at h
        exact ret_sub h sb
      case step =>
        rintro pre x rest nn e0 kn env L' ⟨sb, c, x2, rfl, e1, e2⟩
        have e1' : subT (p.take pre.length) t = some c := by rw [e0, List.take_left]; exact e1
        have hx : p[pre.length]? = some x := by
          rw [e0, List.getElem?_append_right (Nat.le_refl _), Nat.sub_self]
          rfl
        obtain ⟨k, k1, k2, _⟩ := sub_stepB hs hx e1'
        have k3 : p.take (pre.length + 1) = pre ++ [x] := by
          rw [e0, List.take_length_add_append]
          rfl
        rw [k3] at k2
        have hkd : c.kids = c.kd := kids_kdB c
        have hks : k.size < c.size := by
          have h4 := size_mem (List.mem_of_getElem? k1)
          rw [← kd_size k1] at h4
          exact h4
        refine ⟨c, rfl, by omega, fun P hP => ?_⟩
        rw [hkd]
        exact ⟨_, dtx k, sput_same, atI_nat (by rw [List.getElem?_map, k1]; rfl), kn _ _ ⟨sb.new hP, k, _, rfl, k2, by omega⟩⟩
    · exact h.elim
mutual
/-- the pieces of t, each with its path behind p, by ascending paths -/
def pcsP : List Nat → T → List (List Nat × T)
  | p, .jet => [(p, .jet)]
  | p, .bas l => (p, .bas l) :: pcsL p 0 l
def pcsL : List Nat → Nat → List T → List (List Nat × T)
  | _, _, [] => []
  | p, i, t :: l => pcsP (p ++ [i]) t ++ pcsL p (i + 1) l
end
theorem pcs_kids (p : List Nat) (t : JW.T) : pcsP p t = (p, t) :: pcsL p 0 t.kids := by
  cases t with
  | jet => rfl
  | bas l => rfl
mutual
theorem pcs_len : ∀ (t : T) (p : List Nat), (pcsP p t).length = t.size
  | .jet, _ => rfl
  | .bas l, p => by
    show (pcsL p 0 l).length + 1 = 1 + sizeL l
    rw [pcsL_len l p 0]
    omega
theorem pcsL_len : ∀ (l : List T) (p : List Nat) (i : Nat), (pcsL p i l).length = sizeL l
  | [], _, _ => rfl
  | t :: l, p, i => by
    show (pcsP (p ++ [i]) t ++ pcsL p (i + 1) l).length = t.size + sizeL l
    rw [List.length_append, pcs_len t, pcsL_len l]
end
mutual
/-- each piece stands where its path leads -/
theorem pcs_sub : ∀ (t : T) (p : List Nat) (q : List Nat × T), q ∈ pcsP p t → ∃ r, q.1 = p ++ r ∧ subT r t = some q.2
  | .jet, p, q, h => ⟨[], by rw [List.mem_singleton.mp h, List.append_nil], by rw [List.mem_singleton.mp h]; rfl⟩
  | .bas l, p, q, h => by
    rcases List.mem_cons.mp (show q ∈ (p, T.bas l) :: pcsL p 0 l from h) with z | z
    · rw [z]
      exact ⟨[], (List.append_nil _).symm, rfl⟩
    · obtain ⟨j, r, hj, e1, k, e2, e3⟩ := pcsL_sub l p 0 q z
      refine ⟨j :: r, e1, ?_⟩
      show (l[j]?).bind (subT r) = some q.2
      rw [Nat.sub_zero] at e2
      rw [e2]
      exact e3
theorem pcsL_sub : ∀ (l : List T) (p : List Nat) (i : Nat) (q : List Nat × T), q ∈ pcsL p i l → ∃ j r, i ≤ j ∧ q.1 = p ++ j :: r ∧ ∃ k, l[j - i]? = some k ∧ subT r k = some q.2
  | [], _, _, _, h => absurd h List.not_mem_nil
  | t :: l, p, i, q, h => by
    rcases List.mem_append.mp (show q ∈ pcsP (p ++ [i]) t ++ pcsL p (i + 1) l from h) with z | z
    · obtain ⟨r, e1, e2⟩ := pcs_sub t (p ++ [i]) q z
      exact ⟨i, r, Nat.le_refl _, by rw [e1, List.append_assoc]; rfl, t, by rw [Nat.sub_self]; rfl, e2⟩
    · obtain ⟨j, r, hj, e1, k, e2, e3⟩ := pcsL_sub l p (i + 1) q z
      refine ⟨j, r, by omega, e1, k, ?_, e3⟩
      have e : j - i = (j - (i + 1)) + 1 := by omega
      rw [e]
      exact e2
end
def dpth (p : List Nat) : D := .tup (p.map fun k : Nat => D.int (k : Nat))
def dpc (q : List Nat × T) : D := .tup [dpth q.1, .str (tx q.2)]
def asp__law_pieces (n : Nat) : ASp
  | [.str z, x], L, Q, _ => ∃ (t : JW.T) (p : List Nat), z = tx t ∧ x = dpth p ∧ t.dep < n ∧ t.size ≤ 5000 ∧ p.length + t.dep ≤ 10000 ∧ ∀ r, L r = none → Q (.ref r) (sput L r (.lst ((pcsP p t).map dpc)))
  | _, _, _, _ => False
theorem stepA__law_pieces  (T : Txt K mg base) {scr : Option (Addr × List Int)} (n : Nat) (ih : CallD P w K mg base CX0 (76 + n) "_law_pieces" ["_law_text", "_law_path"] [] (spA (cA K scr) (asp__law_pieces n))) : CallD P w K mg base CX0 (76 + n + 1) "_law_pieces" ["_law_text", "_law_path"] [] (spA (cA K scr) (asp__law_pieces (n + 1))) := by
  refine T.d__law_pieces.okA sc__law_pieces ?len (fun f cdv A outer s H E hr => (as_cons (as_set (i := 2) sc__law_pieces.nd rfl (by first | exact Or.inl rfl | exact Or.inr rfl) (ae_lst (aa_cons (ae_tup (aa_cons (av 1) (aa_cons (av 0) aa_nil))) aa_nil)))
      (as_cons (as_for PassesOwn.never rfl (ai_enumL (by rfl) T.n_enumerate (aa_cons (ae_call (okA__law_parts T) (hr.mono (by omega)) (by rfl) (aa_cons (av 0) aa_nil)) aa_nil)) (ag_tup (n := 2) rfl (ags_cons (ag_name (i := 3) sc__law_pieces.nd rfl (by first | exact Or.inl rfl | exact Or.inr rfl)) (ags_cons (ag_name (i := 4) sc__law_pieces.nd rfl (by first | exact Or.inl rfl | exact Or.inr rfl)) ags_nil)) (fun _ _ _ _ z => agNs_len (js := [3, 4]) z))
        (as_one (as_set (i := 2) sc__law_pieces.nd rfl (by first | exact Or.inl rfl | exact Or.inr rfl) (ae_op aop_add (av 2) (ae_call ih (hr.mono (by omega)) (by rfl) (aa_cons (av 4) (aa_cons (ae_op aop_add (av 1) (ae_tup (aa_cons (av 3) aa_nil))) aa_nil)))))))
      (as_one (as_ret (av 2)))))) ?vc
  case len =>
    intro ds L R RX h
    unfold asp__law_pieces at h
    split at h <;> first | rfl | exact h.elim
  case vc =>
    intro ds L R RX h
    unfold asp__law_pieces at h
    split at h
    rotate_left
    · exact h.elim
    obtain ⟨t, p, rfl, rfl, hn, hz, hp, h⟩ := h
    have hsl := sizeLine_eq
    have hkz : (t.kids.map dtx).length = t.kids.length := List.length_map _
    have hks := kids_size t
    have hkl := length_le t.kids
    refine ⟨by show (2 : Nat) ≤ sizeLine; omega, by show (1 : Nat) ≤ sizeLine; omega, fun F hF => ⟨t, rfl, hz, fun P hP => ⟨_, sput_same, ?_⟩⟩⟩
    have hF2 : sput (sput L F (.lst [dpc (p, t)])) P (.lst (t.kids.map dtx)) F = some (.lst [dpc (p, t)]) := sput_old sput_same hP
    have sb := ((SubS.refl L).new (m := .lst [dpc (p, t)]) hF).new (m := .lst (t.kids.map dtx)) hP
    have hP2 : sput (sput L F (.lst [dpc (p, t)])) P (.lst (t.kids.map dtx)) P = some (.lst (t.kids.map dtx)) := sput_same
    show loopA _ _ _ _ _ _ (sput (sput L F (.lst [dpc (p, t)])) P (.lst (t.kids.map dtx)))
    generalize sput (sput L F (.lst [dpc (p, t)])) P (.lst (t.kids.map dtx)) = L1 at hF2 sb hP2 ⊢
    refine loop_k (enumD (t.kids.map dtx)) (fun i env L' => ∃ G acc x3 x4, env = [some (.str (tx t)), some (dpth p), some (.ref G), x3, x4] ∧ L' G = some (.lst (acc.map dpc)) ∧ L G = none ∧ SubS L L' ∧ L' P = some (.lst (t.kids.map dtx)) ∧ acc.length ≤ 5000 ∧ pcsP p t = acc ++ pcsL p i (t.kids.drop i)) (fun _ _ _ _ ⟨_, _, _, _, _, _, _, _, z, _⟩ => z) ?step ?fin _ _ ⟨F, [(p, t)], _, _, rfl, hF2, hF, sb, hP2, by show (1 : Nat) ≤ 5000; decide, by rw [pcs_kids]; rfl⟩
    case fin =>
      rintro env L' ⟨G, acc, x3, x4, rfl, g1, g2, s1, _, _, ea⟩
      rw [enumD_len, hkz, List.drop_length] at ea
      have e2 : pcsP p t = acc := by rw [ea]; exact List.append_nil _
      rw [← e2] at g1
      exact ret_sub (h G g2) (s1.mine g1)
    case step =>
      rintro i d env L' nn hi kn ⟨G, acc, x3, x4, rfl, g1, g2, s1, q1, q2, ea⟩
      have hil : i < t.kids.length := by
        have := (List.getElem?_eq_some_iff.mp hi).1
        rwa [enumD_len, hkz] at this
      have ed : d = .tup [.int (i : Nat), dtx t.kids[i]] := by
        have e3 := enumD_get (l := t.kids.map dtx) (i := i) (d := dtx t.kids[i]) (by rw [List.getElem?_map, List.getElem?_eq_getElem hil]; rfl)
        rw [hi] at e3
        exact Option.some.inj e3
      subst ed
      have hku : t.kids[i].dep < t.dep ∧ t.kids[i].size < t.size := by
        have hm := List.getElem_mem hil
        cases t with
        | jet => exact absurd hil (Nat.not_lt_zero _)
        | bas l => exact ⟨dep_lt hm, size_mem hm⟩
      rw [List.drop_eq_getElem_cons hil] at ea
      have ea : pcsP p t = acc ++ (pcsP (p ++ [i]) t.kids[i] ++ pcsL p (i + 1) (t.kids.drop (i + 1))) := ea
      have hlen := congrArg List.length ea
      rw [List.length_append, List.length_append, pcs_len, pcs_len] at hlen
      have ep : (p.map fun i : Nat => D.int (i : Nat)) ++ [D.int (i : Nat)] = (p ++ [i]).map fun i : Nat => D.int (i : Nat) := by rw [List.map_append]; rfl
      refine ⟨rfl, by show (1 : Nat) ≤ sizeLine; omega, by show (p.map _).length + 1 ≤ sizeLine; rw [List.length_map]; omega, t.kids[i], p ++ [i], rfl, by rw [ep]; rfl, by omega, by omega, by rw [List.length_append]; show p.length + 1 + _ ≤ _; omega, fun B hB => ?_⟩
      refine ⟨_, _, sput_old g1 hB, sput_same, by rw [List.length_map, List.length_map, pcs_len]; omega, fun C hC => ?_⟩
      have hC2 := hC
      refine kn _ _ ⟨C, acc ++ pcsP (p ++ [i]) t.kids[i], _, _, rfl, by rw [sput_same, List.map_append], (s1.new hB).none hC, (s1.new hB).new hC, sput_old (sput_old q1 hB) hC, by rw [List.length_append, pcs_len]; omega, by rw [ea, List.append_assoc]⟩
theorem okA__law_pieces  (T : Txt K mg base) {scr : Option (Addr × List Int)} (n : Nat) : CallD P w K mg base CX0 (76 + n) "_law_pieces" ["_law_text", "_law_path"] [] (spA (cA K scr) (asp__law_pieces n)) := callD_rec (sp := fun n => spA (cA K scr) (asp__law_pieces n)) T.d__law_pieces (fun vs H Q E ⟨ds, L, R, RX, _, _, h, _⟩ => by
    unfold asp__law_pieces at h
    split at h
    · obtain ⟨t, p, _, _, z, _⟩ := h
      exact absurd z (Nat.not_lt_zero _)
    · exact h.elim
    ) (stepA__law_pieces T) n
def kpP (i : Nat) : D → Bool
  | .tup [.tup (.int j :: _), _] => decide (j = ((i : Nat) : Int))
  | _ => false
def fP : D → D
  | .tup [.tup (_ :: r), y] => .tup [.tup r, y]
  | d => d
theorem sub_pc (i : Nat) : ∀ ps : List (List Nat × T), ((ps.map dpc).filter (kpP i)).map fP = (subP i ps).map dpc
  | [] => rfl
  | (p, b) :: ps => by
    have ih := sub_pc i ps
    cases p with
    | nil =>
      have e1 : subP i (([], b) :: ps) = subP i ps := by simp [subP]
      have e2 : kpP i (dpc ([], b)) = false := rfl
      rw [e1, List.map_cons, List.filter_cons_of_neg (by rw [e2]; exact Bool.false_ne_true), ih]
    | cons j r =>
      by_cases hj : j = i
      · subst hj
        have e1 : subP j ((j :: r, b) :: ps) = (r, b) :: subP j ps := by simp [subP]
        have e2 : kpP j (dpc (j :: r, b)) = true := decide_eq_true rfl
        rw [e1, List.map_cons, List.filter_cons_of_pos e2, List.map_cons, ih]
        rfl
      · have e1 : subP i ((j :: r, b) :: ps) = subP i ps := by simp [subP, hj]
        have e2 : kpP i (dpc (j :: r, b)) = false := decide_eq_false fun z => hj (Int.ofNat.inj z)
        rw [e1, List.map_cons, List.filter_cons_of_neg (by rw [e2]; exact Bool.false_ne_true), ih]
theorem depDL_pc (l : List (List Nat × T)) : depDL (l.map dpc) ≤ 70 := depDL_of fun x hx => by
  obtain ⟨q, _, rfl⟩ := List.mem_map.mp hx
  have h : depDL (q.1.map fun k : Nat => D.int (k : Nat)) = 0 := depDL_map (fun _ => rfl) _
  show (max (depDL (q.1.map fun k : Nat => D.int (k : Nat)) + 1) (max 0 0)) + 1 ≤ 70
  omega
def asp__law_swapped (n : Nat) : ASp
  | [.str z, .ref P], L, Q, _ => ∃ (t : JW.T) (ps : List (List Nat × JW.T)), z = tx t ∧ L P = some (.lst (ps.map dpc)) ∧ NoPre ps ∧ ps.length ≤ 10 ∧ t.dep < n ∧ t.size + wtA ps ≤ 5000 ∧ Q (.str (tx (swT t ps))) L
  | _, _, _, _ => False
theorem stepA__law_swapped  (T : Txt K mg base) {scr : Option (Addr × List Int)} (n : Nat) (ih : CallD P w K mg base CX0 (77 + n) "_law_swapped" ["_law_text", "_law_pairs"] [] (spA (cA K scr) (asp__law_swapped n))) : CallD P w K mg base CX0 (77 + n + 1) "_law_swapped" ["_law_text", "_law_pairs"] [] (spA (cA K scr) (asp__law_swapped (n + 1))) := by
  refine T.d__law_swapped.okA sc__law_swapped ?len (fun f cdv A outer s H E hr => (as_cons (as_if (at_cmp (aop_eqG (okF_eq T) (hr.mono (by omega)) hr.units) (av 1) (ae_lst aa_nil) (nomark _))
        (as_one (as_ret (av 0)))
        as_nil)
      (as_cons (as_if (at_cmp (aop_eqG (okF_eq T) (hr.mono (by omega)) hr.units) (ae_ix (ae_ix (av 1) ae_int (fun _ _ => rfl)) ae_int (fun _ _ => rfl)) (ae_tup aa_nil) (nomark _))
        (as_one (as_ret (ae_ix (ae_ix (av 1) ae_int (fun _ _ => rfl)) ae_int (fun _ _ => rfl))))
        as_nil)
      (as_cons (as_set (i := 2) sc__law_swapped.nd rfl (by first | exact Or.inl rfl | exact Or.inr rfl) (ae_lst aa_nil))
      (as_cons (as_for PassesOwn.never rfl (ai_enumL (by rfl) T.n_enumerate (aa_cons (ae_call (okA__law_parts T) (hr.mono (by omega)) (by rfl) (aa_cons (av 0) aa_nil)) aa_nil)) (ag_tup (n := 2) rfl (ags_cons (ag_name (i := 3) sc__law_swapped.nd rfl (by first | exact Or.inl rfl | exact Or.inr rfl)) (ags_cons (ag_name (i := 4) sc__law_swapped.nd rfl (by first | exact Or.inl rfl | exact Or.inr rfl)) ags_nil)) (fun _ _ _ _ z => agNs_len (js := [3, 4]) z))
        (as_one (as_expr (ae_ml PySem.F.plainAttrs_list PySem.F.slot_list_append PySem.F.type_list_append mt_append low_append (av 2) (aa_cons (ae_call ih (hr.mono (by omega)) (by rfl) (aa_cons (av 4) (aa_cons (ae_lcIf (own := [("_law_path", 5), ("_law_more", 6)]) (by rfl) sc__law_swapped.nd (ai_list (av 1)) (blkOk_by (by kernel_rfl)) (tgOk_tup (js := [5, 6]) rfl (by decide)) (fun _ _ _ _ _ => pg_tupK (K := K) rfl rfl (pgs_cons (pg_name (i := 5) sc__law_swapped.nd rfl (by first | exact Or.inl rfl | exact Or.inr rfl)) (pgs_cons (pg_name (i := 6) sc__law_swapped.nd rfl (by first | exact Or.inl rfl | exact Or.inr rfl)) pgs_nil))) (fun _ _ _ _ _ => (at_cmp (aop_eqG (okF_eq T) (hr.mono (by omega)) hr.units) (ae_ix (av 5) ae_int (fun _ _ => rfl)) (av 3) (nomark _))) (fun _ _ _ _ _ => (ae_tup (aa_cons (ae_sl (av 5) (ao_some ae_int) ao_none) (aa_cons (av 6) aa_nil))))) aa_nil))) aa_nil)))))
      (as_one (as_ret (ae_call (okA__law_basin T) (hr.mono (by omega)) (by rfl) (aa_cons (av 2) aa_nil))))))))) ?vc
  case len =>
    intro ds L R RX h
    unfold asp__law_swapped at h
    split at h <;> first | rfl | exact h.elim
  case vc =>
    intro ds L R RX h
    unfold asp__law_swapped at h
    split at h
    rotate_left
    · exact h.elim
    rename_i z P
    obtain ⟨t, ps, rfl, hP, hn, hl, hd, hz, h⟩ := h
    have hsl := sizeLine_eq
    have hdl : ∀ p : List Nat, depDL (p.map fun k : Nat => D.int (k : Nat)) ≤ 70 := fun p => by rw [depDL_map fun _ => rfl]; omega
    have eqT : ∀ (l : List D) (L : Store) (Q : AQ), eqG false (.tup l) (.tup []) L Q = eqSq false l [] L Q := fun l L Q => rfl
    refine ⟨Nat.zero_le _, fun r hr => ⟨_, _, sput_old hP hr, sput_same, eqSq_nil (depDL_pc ps) (ite2 (fun e => ?_) (fun e => ?_))⟩⟩
    · cases ps with
      | nil =>
        rw [swT_nil] at h
        exact ret_sub h ((SubS.refl L).new hr)
      | cons q r => cases e
    cases ps with
    | nil => exact absurd rfl e
    | cons q rest =>
      have hP1 := sput_old (n := .lst []) hP hr
      have sb := (SubS.refl L).new (m := .lst []) hr
      generalize sput L r (.lst []) = L1 at hP1 sb
      have a0 : atI ((q :: rest).map dpc) 0 = some (dpc q) := show atI _ ((0 : Nat) : Int) = _ from atI_nat rfl
      have a1 : atI [dpth q.1, D.str (tx q.2)] 0 = some (dpth q.1) := show atI _ ((0 : Nat) : Int) = _ from atI_nat rfl
      have a2 : atI [dpth q.1, D.str (tx q.2)] 1 = some (D.str (tx q.2)) := show atI _ ((1 : Nat) : Int) = _ from atI_nat rfl
      refine ⟨_, dpc q, hP1, a0, dpth q.1, a1, Nat.zero_le _, ?_⟩
      show eqG false (.tup (q.1.map fun k : Nat => D.int (k : Nat))) (.tup []) L1 _
      rw [eqT]
      refine eqSq_nil (hdl _) ?_
      refine ite2 (fun e2 => ?_) (fun e2 => ?_)
      · have e3 : q.1 = [] := by
          cases hq : q.1 with
          | nil => rfl
          | cons _ _ => rw [hq] at e2; cases e2
        rw [swT_top t e3] at h
        exact ⟨_, dpc q, hP1, a0, _, a2, ret_sub h sb⟩
      have hne : q.1 ≠ [] := fun z => e2 (by rw [z]; rfl)
      rw [swT_in t hne] at h
      have hall := hn.ne hne
      have hkd : t.kids = t.kd := by cases t <;> rfl
      have hkz : (t.kids.map dtx).length = t.kids.length := List.length_map _
      have hks := kids_size t
      have hkl := length_le t.kids
      have hswz := swL_size t.kd 0 (q :: rest)
      have hwt := wt_le 0 (q :: rest)
      rw [← hkd] at h hswz
      generalize q :: rest = ps at *
      refine ⟨Nat.zero_le _, fun F hF => ⟨t, rfl, by omega, fun B hB => ⟨_, sput_same, ?_⟩⟩⟩
      have hF0 := sb.none hF
      have hF2 : sput (sput L1 F (.lst [])) B (.lst (t.kids.map dtx)) F = some (.lst []) := sput_old sput_same hB
      have hP2 : sput (sput L1 F (.lst [])) B (.lst (t.kids.map dtx)) P = some (.lst (ps.map dpc)) := sput_old (sput_old hP1 hF) hB
      have sb2 := (sb.new (m := .lst []) hF).new (m := .lst (t.kids.map dtx)) hB
      have hB2 : sput (sput L1 F (.lst [])) B (.lst (t.kids.map dtx)) B = some (.lst (t.kids.map dtx)) := sput_same
      have hBF : B ≠ F := fun z => by rw [z, sput_same] at hB; cases hB
      have hPF : P ≠ F := fun z => by rw [← z, hP1] at hF; cases hF
      generalize sput (sput L1 F (.lst [])) B (.lst (t.kids.map dtx)) = L2 at hF2 hP2 sb2 hB2 ⊢
      refine loop_k (enumD (t.kids.map dtx)) (fun i env L' => ∃ us x3 x4, env = [some (.str (tx t)), some (.ref P), some (.ref F), x3, x4, none, none] ∧ L' F = some (.lst (us.map dtx)) ∧ SubS L L' ∧ L' B = some (.lst (t.kids.map dtx)) ∧ L' P = some (.lst (ps.map dpc)) ∧ swL 0 t.kids ps = us ++ swL i (t.kids.drop i) ps) (fun _ _ _ _ ⟨_, _, _, _, _, _, z, _⟩ => z) ?step ?fin _ _ ⟨[], _, _, rfl, hF2, sb2, hB2, hP2, rfl⟩
      case fin =>
        rintro env L' ⟨us, x3, x4, rfl, f1, s1, _, _, es⟩
        rw [enumD_len, hkz, List.drop_length] at es
        have e3 : swL 0 t.kids ps = us := by rw [es]; exact List.append_nil _
        rw [e3] at h hswz
        exact ⟨us, f1, by omega, ret_sub h s1⟩
      case step =>
        rintro i d env L' nn hi kn ⟨us, x3, x4, rfl, f1, s1, b1, p1, es⟩
        have hil : i < t.kids.length := by
          have := (List.getElem?_eq_some_iff.mp hi).1
          rwa [enumD_len, hkz] at this
        have ed : d = .tup [.int (i : Nat), dtx t.kids[i]] := by
          have e3 := enumD_get (l := t.kids.map dtx) (i := i) (d := dtx t.kids[i]) (by rw [List.getElem?_map, List.getElem?_eq_getElem hil]; rfl)
          rw [hi] at e3
          exact Option.some.inj e3
        subst ed
        have hku : t.kids[i].dep < t.dep ∧ t.kids[i].size < t.size := by
          have hm := List.getElem_mem hil
          cases t with
          | jet => exact absurd hil (Nat.not_lt_zero _)
          | bas l => exact ⟨dep_lt hm, size_mem hm⟩
        rw [swL_drop _ _ hil] at es
        have hus : us.length ≤ 5000 := by
          have h1 := length_le us
          have h2 : sizeL (swL 0 t.kids ps) = sizeL us + sizeL (swT t.kids[i] (subP i ps) :: swL (i + 1) (t.kids.drop (i + 1)) ps) := by rw [es, sizeL_app]
          omega
        refine ⟨rfl, ⟨F, _, rfl, f1⟩, _, p1, fun C hC => ?_⟩
        refine comp_pure (ai := aiList (aVar 1)) (kpP i) fP (fun l => sput_old p1 hC) (ps.map dpc) [] (by rw [List.length_map]; show 0 + ps.length ≤ _; omega) (fun d hd L3 k ⟨l, eL⟩ hk => ?_) ?_
        · obtain ⟨⟨p, b⟩, hq, rfl⟩ := List.mem_map.mp hd
          cases p with
          | nil => exact absurd rfl (hall _ hq)
          | cons j r =>
            have e0 : atI ((j :: r).map fun k : Nat => D.int (k : Nat)) 0 = some (.int (j : Nat)) := show atI _ ((0 : Nat) : Int) = _ from atI_nat rfl
            have e5 : cutD ((j :: r).map fun k : Nat => D.int (k : Nat)) (some 1) none = r.map fun k : Nat => D.int (k : Nat) := cutD_drop (k := 1) rfl
            have e6 : fP (dpc (j :: r, b)) = dpc (r, b) := rfl
            have e7 : kpP i (dpc (j :: r, b)) = decide (((j : Nat) : Int) = ((i : Nat) : Int)) := rfl
            rw [e6, e7] at hk
            refine ⟨rfl, rfl, .int (j : Nat), e0, ?_⟩
            refine ite2 (fun e => ?_) (fun e => ?_)
            · rw [show decide (((j : Nat) : Int) = ((i : Nat) : Int)) = true from (Bool.false_xor _).symm.trans e] at hk
              refine ⟨by show (2 : Nat) ≤ sizeLine; omega, ?_⟩
              rw [e5]
              exact hk
            · rw [show decide (((j : Nat) : Int) = ((i : Nat) : Int)) = false from Bool.eq_false_iff.mpr fun z => e ((Bool.false_xor _).trans z)] at hk
              exact hk
        rw [List.nil_append, sub_pc]
        have hsl2 : (subP i ps).length ≤ ps.length := by
          unfold subP
          rw [List.length_map]
          exact List.length_filter_le _ _
        have hws := wt_split i ps
        have hws2 := wt_le i ps
        have hCF : F ≠ C := fun z => by rw [← z, f1] at hC; cases hC
        refine ⟨t.kids[i], subP i ps, rfl, sput_same, hn.sub i, by omega, by omega, by omega, _, sput_old f1 hC, by rw [List.length_map]; omega, kn _ _ ⟨us ++ [swT t.kids[i] (subP i ps)], _, _, rfl, by rw [sput_same, List.map_append]; rfl, (s1.new hC).put hF0, ?_, ?_, by rw [es, List.append_assoc]; rfl⟩⟩
        · rw [sput_ne hBF]
          exact sput_old b1 hC
        · rw [sput_ne hPF]
          exact sput_old p1 hC
theorem okA__law_swapped  (T : Txt K mg base) {scr : Option (Addr × List Int)} (n : Nat) : CallD P w K mg base CX0 (77 + n) "_law_swapped" ["_law_text", "_law_pairs"] [] (spA (cA K scr) (asp__law_swapped n)) := callD_rec (sp := fun n => spA (cA K scr) (asp__law_swapped n)) T.d__law_swapped (fun vs H Q E ⟨ds, L, R, RX, _, _, h, _⟩ => by
    unfold asp__law_swapped at h
    split at h
    · obtain ⟨t, b, _, _, _, _, z, _⟩ := h
      exact absurd z (Nat.not_lt_zero _)
    · exact h.elim
    ) (stepA__law_swapped T) n
def asp__law_exchanged : ASp
  | [.str z, .tup x, .tup y], L, Q, _ => ∃ (t a b : JW.T) (p q : List Nat), z = tx t ∧ x = p.map (fun k : Nat => D.int (k : Nat)) ∧ y = q.map (fun k : Nat => D.int (k : Nat)) ∧ subT p t = some a ∧ subT q t = some b ∧ t.size ≤ 160 ∧ t.dep ≤ 50 ∧
      (nested p q → Q (.tup [.tup [.str "nested"], .non]) L) ∧ (¬ nested p q → Q (.tup [.non, .str (tx (swT t [(p, b), (q, a)]))]) L)
  | _, _, _, _ => False
theorem okA__law_exchanged  (T : Txt K mg base) {scr : Option (Addr × List Int)} : CallD P w K mg base CX0 131 "_law_exchanged" ["_law_text", "_law_one", "_law_other"] [] (spA (cA K scr) (asp__law_exchanged)) := by
  refine T.d__law_exchanged.okA sc__law_exchanged ?len (fun f cdv A outer s H E hr => (as_cons (as_for PassesOwn.never rfl (ai_tup (ae_tup (aa_cons (av 1) (aa_cons (av 2) aa_nil)))) (ag_name (i := 3) sc__law_exchanged.nd rfl (by first | exact Or.inl rfl | exact Or.inr rfl))
        (as_cons (as_set (i := 4) sc__law_exchanged.nd rfl (by first | exact Or.inl rfl | exact Or.inr rfl) (ae_call (okA__law_step T) (hr.mono (by decide)) (by rfl) (aa_cons (av 0) (aa_cons (av 3) aa_nil))))
        (as_one (as_if (at_cmp aop_isnot (av 4) ae_non (nomark _))
          (as_one (as_ret (ae_tup (aa_cons (ae_tup (aa_cons ae_str (aa_cons (av 4) aa_nil))) (aa_cons ae_non aa_nil)))))
          as_nil))))
      (as_cons (as_via (as_set (i := 5) sc__law_exchanged.nd rfl (by first | exact Or.inl rfl | exact Or.inr rfl) (ae_b (acb_min rfl) (by rfl) T.n_min (by decide +kernel) (aa_cons (ae_b acb_len (by rfl) T.n_len (by decide +kernel) (aa_cons (av 1) aa_nil)) (aa_cons (ae_b acb_len (by rfl) T.n_len (by decide +kernel) (aa_cons (av 2) aa_nil)) aa_nil)))))
      (as_cons (as_if (at_cmp (aop_eqG (okF_eq T) (hr.mono (by decide)) hr.units) (ae_sl (av 1) ao_none (ao_some (av 5))) (ae_sl (av 2) ao_none (ao_some (av 5))) (nomark _))
        (as_one (as_ret (ae_tup (aa_cons (ae_tup (aa_cons ae_str aa_nil)) (aa_cons ae_non aa_nil)))))
        as_nil)
      (as_cons (as_set (i := 6) sc__law_exchanged.nd rfl (by first | exact Or.inl rfl | exact Or.inr rfl) (ae_call (okA__law_swapped T 52) (hr.mono (by decide)) (by rfl) (aa_cons (av 0) (aa_cons (ae_lst (aa_cons (ae_tup (aa_cons (av 1) (aa_cons (ae_call (okA__law_at T) (hr.mono (by decide)) (by rfl) (aa_cons (av 0) (aa_cons (av 2) aa_nil))) aa_nil))) (aa_cons (ae_tup (aa_cons (av 2) (aa_cons (ae_call (okA__law_at T) (hr.mono (by decide)) (by rfl) (aa_cons (av 0) (aa_cons (av 1) aa_nil))) aa_nil))) aa_nil))) aa_nil))))
      (as_one (as_ret (ae_tup (aa_cons (ae_call (okA__law_limits T) (hr.mono (by decide)) (by rfl) (aa_cons (ae_call (okA__law_size T) (hr.mono (by decide)) (by rfl) (aa_cons (av 6) aa_nil)) (aa_cons (ae_call (okA__law_depth T) (hr.mono (by decide)) (by rfl) (aa_cons (av 6) aa_nil)) aa_nil))) (aa_cons (av 6) aa_nil)))))))))) ?vc
  case len =>
    intro ds L R RX h
    unfold asp__law_exchanged at h
    split at h <;> first | rfl | exact h.elim
  case vc =>
    intro ds L R RX h
    unfold asp__law_exchanged at h
    split at h
    · rename_i z x y
      obtain ⟨t, a, b, p, q, rfl, rfl, rfl, hp, hq, hz, hd, h1, h2⟩ := h
      have hsl := sizeLine_eq
      have hsp := sub_bnd p t a hp
      have hsq := sub_bnd q t b hq
      have hdl : ∀ p : List Nat, depDL (p.map fun k : Nat => D.int (k : Nat)) ≤ 70 := fun p => by rw [depDL_map fun _ => rfl]; omega
      refine ⟨by show (2 : Nat) ≤ sizeLine; omega, trivial, t, a, p, rfl, rfl, hp, by omega, ?_⟩
      refine ite_f (A := True) rfl ⟨trivial, t, b, q, rfl, rfl, hq, by omega, ?_⟩
      refine ite_f (A := True) rfl ⟨trivial, ?_⟩
      refine ⟨fun env L2 => L2 = L ∧ env = [some (.str (tx t)), some (.tup (p.map fun k : Nat => D.int (k : Nat))), some (.tup (q.map fun k : Nat => D.int (k : Nat))), some (.tup (q.map fun k : Nat => D.int (k : Nat))), some .non, some (.int ((min p.length q.length : Nat) : Int)), none], ⟨rfl, ?_⟩, ?_⟩
      · have e : (if ((q.map fun k : Nat => D.int (k : Nat)).length : Int) < ((p.map fun k : Nat => D.int (k : Nat)).length : Int) then ((q.map fun k : Nat => D.int (k : Nat)).length : Int) else ((p.map fun k : Nat => D.int (k : Nat)).length : Int)) = ((min p.length q.length : Nat) : Int) := by
          rw [List.length_map, List.length_map]
          split <;> omega
        rw [← e]
        rfl
      rintro env L2 ⟨rfl, rfl⟩
      dsimp only
      unfold aSeq aIfS

      refine at_eq_sl (l := p.map fun k : Nat => D.int (k : Nat)) (m := q.map fun k : Nat => D.int (k : Nat)) (n := ((min p.length q.length : Nat) : Int)) ?c1 ?c2 ?c3 ?_
      case c1 => rfl
      case c2 => rfl
      case c3 => rfl
      rw [cutD_take rfl, cutD_take rfl]
      refine eqSq_map nat_eqDD (hdl _) ?_
      refine ite2 (fun e => ?_) (fun e => ?_)
      · exact ⟨by show (1 : Nat) ≤ sizeLine; omega, by show (2 : Nat) ≤ sizeLine; omega, ret_of (h1 (of_decide_eq_true ((Bool.false_xor _).symm.trans e)))⟩
      have hne : ¬ nested p q := fun z => e ((Bool.false_xor _).trans (decide_eq_true z))
      have hw : wtA [(p, b), (q, a)] = b.size + (a.size + 0) := rfl
      have hsz := sw_size t [(p, b), (q, a)]
      have hsd := sw_dep (d := 50) t [(p, b), (q, a)] fun x hx => by
        rcases List.mem_cons.mp hx with z | z
        · rw [z]
          show b.dep ≤ 50
          omega
        · rw [List.mem_singleton.mp z]
          show a.dep ≤ 50
          omega
      refine ⟨t, b, q, rfl, rfl, hq, by omega, by show (2 : Nat) ≤ sizeLine; omega, t, a, p, rfl, rfl, hp, by omega, by show (2 : Nat) ≤ sizeLine; omega, by show (2 : Nat) ≤ sizeLine; omega, fun P hP => ?_⟩
      refine ⟨t, [(p, b), (q, a)], rfl, sput_same, nopre_of hne, by show (2 : Nat) ≤ 10; decide, by omega, by omega, ?_⟩
      exact ⟨_, rfl, _, rfl, by omega, by omega, by omega, by show (2 : Nat) ≤ sizeLine; omega, ret_sub (h2 hne) ((SubS.refl L2).new hP)⟩
    · exact h.elim
def asp__law_jet_depth : ASp
  | [.str z], L, Q, _ => ∃ t : T, z = tx t ∧ t.size ≤ 5000 ∧ ∀ j : Int, j ≤ (t.dep : Nat) → Q (.int j) L
  | _, _, _, _ => False
theorem okA__law_jet_depth  (T : Txt K mg base) {scr : Option (Addr × List Int)} : CallD P w K mg base CX0 76 "_law_jet_depth" ["_law_text"] [] (spA (cA K scr) (asp__law_jet_depth)) := by
  refine T.d__law_jet_depth.okA sc__law_jet_depth ?len (fun f cdv A outer s H E hr => (as_cons (as_asg (ae_tup (aa_cons ae_int (aa_cons ae_int aa_nil))) (ag_tup (n := 2) rfl (ags_cons (ag_name (i := 1) sc__law_jet_depth.nd rfl (by first | exact Or.inl rfl | exact Or.inr rfl)) (ags_cons (ag_name (i := 2) sc__law_jet_depth.nd rfl (by first | exact Or.inl rfl | exact Or.inr rfl)) ags_nil)) (fun _ _ _ _ z => agNs_len (js := [1, 2]) z)))
      (as_cons (as_for PassesOwn.never rfl (ai_str (av 0)) (ag_name (i := 3) sc__law_jet_depth.nd rfl (by first | exact Or.inl rfl | exact Or.inr rfl))
        (as_cons (as_set (i := 2) sc__law_jet_depth.nd rfl (by first | exact Or.inl rfl | exact Or.inr rfl) (ae_op aop_add (av 2) (ae_levV (hu_of hr) (pv 3) (fun _ _ => rfl))))
        (as_one (as_if (at_cmp (aop_eqG (okF_eq T) (hr.mono (by decide)) hr.units) (av 3) ae_str (nomark _))
          (as_one (as_via (as_set (i := 1) sc__law_jet_depth.nd rfl (by first | exact Or.inl rfl | exact Or.inr rfl) (ae_b (acb_max rfl) (by rfl) T.n_max (by decide +kernel) (aa_cons (av 1) (aa_cons (av 2) aa_nil))))))
          as_nil))))
      (as_one (as_ret (av 1)))))) ?vc
  case len =>
    intro ds L R RX h
    unfold asp__law_jet_depth at h
    split at h <;> first | rfl | exact h.elim
  case vc =>
    intro ds L R RX h
    unfold asp__law_jet_depth at h
    split at h
    · rename_i z
      obtain ⟨t, rfl, hz, h⟩ := h
      have hsl := sizeLine_eq
      have etx : (tx t).cps.toList = t.codes := by unfold tx; rfl
      have hcl := (codes_len t).1
      refine ⟨by show (2 : Nat) ≤ sizeLine; omega, rfl, ?_⟩
      refine loop_map (fun c : Nat => D.str ⟨#[c]⟩) (tx t).cps.toList (fun pre env L' => L' = L ∧ ∃ x3 j, env = [some (.str (tx t)), some (.int j), some (.int (pre.foldl dpS (0, 0)).1), x3] ∧ j ≤ (pre.foldl dpS (0, 0)).2) (fun _ _ _ _ => trivial) ?step ?fin _ _ ⟨rfl, _, _, rfl, Int.le_refl _⟩
      case fin =>
        rintro env L' ⟨rfl, x4, j, rfl, hj⟩
        rw [etx, dp_run t 0 0 (by omega)] at hj
        have e1 : mxI 0 (0 + ((t.dep : Nat) : Int)) = (t.dep : Nat) := by
          unfold mxI
          split <;> omega
        have hj : j ≤ mxI 0 (0 + ((t.dep : Nat) : Int)) := hj
        rw [e1] at hj
        exact ret_of (h j hj)
      case step =>
        rintro pre c rest nn e1 kn env L' ⟨rfl, x4, j, rfl, hj⟩
        have hc : c ∈ t.codes := by rw [← etx, e1]; simp
        have hs3 : c = 40 ∨ c = 41 ∨ c = 111 := codes_in t c hc
        rw [List.foldl_append] at kn
        generalize pre.foldl dpS (0, 0) = s at *
        obtain ⟨k, m⟩ := s
        have hj : j ≤ m := hj
        have hm1 : k + levOf c ≤ (if k + levOf c > m then k + levOf c else m) ∧ m ≤ (if k + levOf c > m then k + levOf c else m) := by split <;> omega
        refine ⟨c, rfl, hs3, ite2 (fun e => ?_) (fun e => ?_)⟩
        · refine ⟨fun env L2 => L2 = L' ∧ ∃ j2, env = [some (.str (tx t)), some (.int j2), some (.int (k + levOf c)), some (.str ⟨#[c]⟩)] ∧ j2 ≤ (if k + levOf c > m then k + levOf c else m), ⟨rfl, _, rfl, ?_⟩, ?_⟩
          · split <;> omega
          rintro env L2 ⟨rfl, j2, rfl, h2⟩
          exact kn _ _ ⟨rfl, _, _, rfl, h2⟩
        · exact kn _ _ ⟨rfl, _, _, rfl, Int.le_trans hj hm1.2⟩
    · exact h.elim
def asp__law_grown : ASp
  | [.str z, .str y], L, Q, _ => ∃ t b : JW.T, z = tx t ∧ y = tx b ∧ Can t ∧ t.size ≤ 1000 ∧ t.dep ≤ 110 ∧ b.size ≤ 5 ∧ Q (.tup [.non, .str (tx (JW.T.grf b t))]) L
  | _, _, _, _ => False
theorem okA__law_grown  (T : Txt K mg base) {scr : Option (Addr × List Int)} : CallD P w K mg base CX0 191 "_law_grown" ["_law_text", "_law_part"] [] (spA (cA K scr) (asp__law_grown)) := by
  refine T.d__law_grown.okA sc__law_grown ?len (fun f cdv A outer s H E hr => (as_cons (as_if (at_cmp aop_notin ae_str (av 0) (by rfl))
        (as_one (as_ret (ae_tup (aa_cons ae_non (aa_cons (av 0) aa_nil)))))
        as_nil)
      (as_cons (as_set (i := 2) sc__law_grown.nd rfl (by first | exact Or.inl rfl | exact Or.inr rfl) (ae_op aop_add (ae_call (okA__law_size T) (hr.mono (by decide)) (by rfl) (aa_cons (av 0) aa_nil)) (ae_op aop_mul (ae_ms1 PySem.F.slot_str_count PySem.F.type_str_count mt_count low_count (av 0) ae_str) (ae_op aop_sub (ae_call (okA__law_size T) (hr.mono (by decide)) (by rfl) (aa_cons (av 1) aa_nil)) ae_int))))
      (as_cons (as_via (as_set (i := 3) sc__law_grown.nd rfl (by first | exact Or.inl rfl | exact Or.inr rfl) (ae_call (okA__law_limits T) (hr.mono (by decide)) (by rfl) (aa_cons (av 2) (aa_cons (ae_b (acb_max rfl) (by rfl) T.n_max (by decide +kernel) (aa_cons (ae_call (okA__law_depth T) (hr.mono (by decide)) (by rfl) (aa_cons (av 0) aa_nil)) (aa_cons (ae_op aop_add (ae_call (okA__law_jet_depth T) (hr.mono (by decide)) (by rfl) (aa_cons (av 0) aa_nil)) (ae_call (okA__law_depth T) (hr.mono (by decide)) (by rfl) (aa_cons (av 1) aa_nil))) aa_nil))) aa_nil)))))
      (as_one (as_ret (ae_tup (aa_cons (av 3) (aa_cons (ae_if (at_cmp aop_isnot (av 3) ae_non (nomark _)) ae_non (ae_call (okA__law_times T 112) (hr.mono (by decide)) (by rfl) (aa_cons (av 0) (aa_cons (av 1) aa_nil)))) aa_nil))))))))) ?vc
  case len =>
    intro ds L R RX h
    unfold asp__law_grown at h
    split at h <;> first | rfl | exact h.elim
  case vc =>
    intro ds L R RX h
    unfold asp__law_grown at h
    split at h
    · rename_i z y
      obtain ⟨t, b, rfl, rfl, hc, hz, hd, hb, h⟩ := h
      have hsl := sizeLine_eq
      refine ite2 (fun e => ?_) (fun e => ?_)
      · have e2 : (true ^^ !(Builtin.Str.occurrences (tx t) ("o" : Str) 0 (tx t).length 1).isEmpty) = true := e
        rw [in_o] at e2
        have hj : t.jts = 0 := by
          cases z : opn t with
          | true => rw [z] at e2; cases e2
          | false => exact Nat.eq_zero_of_not_pos fun q => by rw [show opn t = true from decide_eq_true q] at z; cases z
        rw [grf_closed b t hc hj] at h
        exact ⟨by show (2 : Nat) ≤ sizeLine; omega, ret_of h⟩
      have hjz := jts_le t
      have hg := grf_sizeI b t
      have hgz := grf_size b t
      have hmb : t.jts * b.size ≤ t.jts * 5 := Nat.mul_le_mul_left _ hb
      have hmb2 : t.jts * b.size ≤ 1000 * 5 := Nat.mul_le_mul (by omega) hb
      have hbp := size_pos b
      have hdb := dep_le_size b
      refine ⟨t, rfl, ⟨_, rfl⟩, b, rfl, .inl (.inl ?_), ?_⟩
      · rw [count_o]
        exact ⟨by omega, by omega⟩
      rw [count_o]
      refine ⟨fun env L2 => L2 = L ∧ env = [some (.str (tx t)), some (.str (tx b)), some (.int ((t.size : Nat) + (t.jts : Nat) * (((b.size : Nat) : Int) - 1))), some .non], ?_, ?_⟩
      · refine ⟨t, rfl, by omega, t, rfl, by omega, fun j hj => ⟨b, rfl, by omega, by omega, ?_, rfl, rfl⟩⟩
        split <;> omega
      rintro env L2 ⟨rfl, rfl⟩
      exact ite_f (A := True) rfl ⟨t, b, rfl, rfl, hc, by omega, by omega, by omega, by show (2 : Nat) ≤ sizeLine; omega, ret_of h⟩
    · exact h.elim
def ovD (b t : T) : D := if cov b t = true then .str (tx (cutT b t)) else .non
theorem ovD_flat (b : T) : ∀ l : List T, (l.map (ovD b)).all flatB = true
  | [] => rfl
  | t :: l => by
    have h : flatB (ovD b t) = true := by unfold ovD; split <;> rfl
    show (flatB (ovD b t) && (l.map (ovD b)).all flatB) = true
    rw [h, ovD_flat b l]
    rfl
theorem ovD_in (b : T) : ∀ l : List T, inL .non (l.map (ovD b)) = !covL b l
  | [] => rfl
  | t :: l => by
    have ih := ovD_in b l
    have e1 : covL b (t :: l) = (cov b t && covL b l) := rfl
    unfold inL at ih ⊢
    rw [List.map_cons, List.any_cons, ih, e1]
    cases h : cov b t with
    | true =>
      have : ovD b t = .str (tx (cutT b t)) := if_pos h
      rw [this]
      rfl
    | false =>
      have : ovD b t = .non := if_neg (by rw [h]; exact Bool.false_ne_true)
      rw [this]
      rfl
theorem ovD_all (b : T) : ∀ l : List T, covL b l = true → l.map (ovD b) = (l.map (cutT b)).map dtx
  | [], _ => rfl
  | t :: l, h => by
    have h : (cov b t && covL b l) = true := h
    rw [Bool.and_eq_true] at h
    have : ovD b t = .str (tx (cutT b t)) := if_pos h.1
    rw [List.map_cons, this, ovD_all b l h.2]
    rfl
theorem cov_closed (b : T) : ∀ t : T, t.jts = 0 → cov b t = true := by
  refine T.ind' (fun h => by cases h) fun l ih h => ?_
  show (decide (T.bas l = b) || covL b l) = true
  have h : jtsL l = 0 := h
  rw [covL_all.mpr fun t ht => ih t ht (jts_of_mem h ht), Bool.or_true]
def asp__law_over (n : Nat) : ASp
  | [.str z, .str y], L, Q, _ => ∃ t b : JW.T, z = tx t ∧ y = tx b ∧ Can t ∧ t.dep < n ∧ t.size ≤ 5000 ∧ Q (ovD b t) L
  | _, _, _, _ => False
theorem stepA__law_over  (T : Txt K mg base) {scr : Option (Addr × List Int)} (n : Nat) (ih : CallD P w K mg base CX0 (76 + n) "_law_over" ["_law_text", "_law_end"] [] (spA (cA K scr) (asp__law_over n))) : CallD P w K mg base CX0 (76 + n + 1) "_law_over" ["_law_text", "_law_end"] [] (spA (cA K scr) (asp__law_over (n + 1))) := by
  refine T.d__law_over.okA sc__law_over ?len (fun f cdv A outer s H E hr => (as_cons (as_if (at_cmp (aop_eqG (okF_eq T) (hr.mono (by omega)) hr.units) (av 0) (av 1) (nomark _))
        (as_one (as_ret ae_str))
        as_nil)
      (as_cons (as_if (at_cmp (aop_eqG (okF_eq T) (hr.mono (by omega)) hr.units) (av 0) ae_str (nomark _))
        (as_one (as_ret ae_non))
        as_nil)
      (as_cons (as_if (at_cmp aop_notin ae_str (av 0) (by rfl))
        (as_one (as_ret (av 0)))
        as_nil)
      (as_cons (as_setLc (own := [("_law_part", 3)]) (i := 2) (by rfl) sc__law_over.nd rfl rfl (sw_true rfl rfl rfl (by decide +kernel)) (ai_list (ae_call (okA__law_parts T) (hr.mono (by omega)) (by rfl) (aa_cons (av 0) aa_nil))) (blkOk_by (by kernel_rfl)) (tgOk_name (by decide)) (fun _ _ _ _ _ => pg_name (i := 3) sc__law_over.nd rfl (by first | exact Or.inl rfl | exact Or.inr rfl)) (fun _ _ _ _ _ => (ae_call ih (hr.mono (by omega)) (by rfl) (aa_cons (av 3) (aa_cons (av 1) aa_nil)))))
      (as_one (as_ret (ae_if (at_cmp aop_in ae_non (av 2) (by rfl)) ae_non (ae_call (okA__law_basin T) (hr.mono (by omega)) (by rfl) (aa_cons (av 2) aa_nil)))))))))) ?vc
  case len =>
    intro ds L R RX h
    unfold asp__law_over at h
    split at h <;> first | rfl | exact h.elim
  case vc =>
    intro ds L R RX h
    unfold asp__law_over at h
    split at h
    rotate_left
    · exact h.elim
    obtain ⟨t, b, rfl, rfl, hc, hn, hz, h⟩ := h
    have hsl := sizeLine_eq
    refine ite2 (fun e => ?_) (fun e => ?_)
    · have e1 := tx_inj (of_decide_eq_true ((Bool.false_xor _).symm.trans e))
      subst e1
      have e2 : ovD t t = .str ("o" : Str) := by
        unfold ovD
        rw [if_pos (cov_self t), cut_self, tx_jet]
      rw [e2] at h
      exact ret_of h
    have hne : t ≠ b := fun z => e (by rw [z, decide_eq_true rfl]; rfl)
    refine ite2 (fun e1 => ?_) (fun e1 => ?_)
    · have e1 := of_decide_eq_true ((Bool.false_xor _).symm.trans e1)
      rw [← tx_jet] at e1
      have e1 := tx_inj e1
      subst e1
      have e2 : ovD b .jet = .non := by
        unfold ovD
        rw [if_neg]
        show ¬ decide (JW.T.jet = b) = true
        rw [decide_eq_false hne]
        exact Bool.false_ne_true
      rw [e2] at h
      exact ret_of h
    refine ite2 (fun e2 => ?_) (fun e2 => ?_)
    · have e2 : (true ^^ !(Builtin.Str.occurrences (tx t) ("o" : Str) 0 (tx t).length 1).isEmpty) = true := e2
      rw [in_o] at e2
      have hj : t.jts = 0 := by
        cases z : opn t with
        | true => rw [z] at e2; cases e2
        | false => exact Nat.eq_zero_of_not_pos fun q => by rw [show opn t = true from decide_eq_true q] at z; cases z
      have e3 : ovD b t = .str (tx t) := by
        unfold ovD
        rw [if_pos (cov_closed b t hj), cut_closed hne hj]
      rw [e3] at h
      exact ret_of h
    have e2 : ¬ (true ^^ !(Builtin.Str.occurrences (tx t) ("o" : Str) 0 (tx t).length 1).isEmpty) = true := e2
    rw [in_o] at e2
    have hj : t.jts ≠ 0 := fun z => e2 (by
      have : opn t = false := decide_eq_false (by omega)
      rw [this]
      rfl)
    cases t with
    | jet => exact absurd (by rw [tx_jet]; rfl) e1
    | bas l =>
      have hs : (JW.T.bas l).size = 1 + sizeL l := rfl
      have hll := length_le l
      have e4 : ovD b (.bas l) = if covL b l = true then .str (tx (.bas (sortT (l.map (cutT b))))) else .non := by
        unfold ovD
        have : cov b (.bas l) = (decide (JW.T.bas l = b) || covL b l) := rfl
        rw [this, decide_eq_false hne, Bool.false_or, cut_open hne hj]
      rw [e4] at h
      refine ⟨.bas l, rfl, hz, fun P hP => ⟨_, sput_same, fun B hB => ?_⟩⟩
      refine comp_mapA dtx (ovD b) (fun _ => sput_old sput_same hB) l [] (by show 0 + l.length ≤ _; omega) (fun u hu l2 k hk => ?_) ?_
      · have h1 := size_mem hu
        have h3 := dep_lt hu
        exact ⟨rfl, u, b, rfl, rfl, canL_iff.mp hc.2 u hu, by omega, by omega, hk⟩
      rw [List.nil_append]
      refine ⟨_, sput_same, rfl, ovD_flat b l, ?_⟩
      rw [ovD_in]
      have sb := ((SubS.refl L).new (m := .lst ((JW.T.bas l).kids.map dtx)) hP).new (m := .lst (l.map (ovD b))) hB
      refine ite2 (fun e5 => ?_) (fun e5 => ?_)
      · have e6 : covL b l = false := by simpa using e5
        rw [e6] at h
        exact ret_sub h sb
      · have e6 : covL b l = true := by simpa using e5
        rw [e6] at h
        have hsm := sizeL_map_le (l := l) (f := cutT b) fun u _ => cut_size b u
        exact ⟨l.map (cutT b), by rw [sput_same, ovD_all b l e6], by omega, ret_sub h sb⟩
theorem okA__law_over  (T : Txt K mg base) {scr : Option (Addr × List Int)} (n : Nat) : CallD P w K mg base CX0 (76 + n) "_law_over" ["_law_text", "_law_end"] [] (spA (cA K scr) (asp__law_over n)) := callD_rec (sp := fun n => spA (cA K scr) (asp__law_over n)) T.d__law_over (fun vs H Q E ⟨ds, L, R, RX, _, _, h, _⟩ => by
    unfold asp__law_over at h
    split at h
    · obtain ⟨t, b, _, _, _, z, _⟩ := h
      exact absurd z (Nat.not_lt_zero _)
    · exact h.elim
    ) (stepA__law_over T) n
theorem ok_Fountain_is_jet  (T : Txt K mg base) : PropD P w K mg base CX0 1 (cF K) "is_jet" (spV K fun t => .bl (decide (t = .jet))) := by
  refine T.p_is_jet.ok sc_Fountain_is_jet (fun vs H Q E h => ?_) (fun f cdv A outer s H vs Q E hr h => ?_)
  · obtain ⟨v, t, rfl, _⟩ := h
    rfl
  · obtain ⟨v, t, rfl, hf, k⟩ := h
    obtain ⟨a, dx, b, n, vs, rfl, ha, hb, hn, hk⟩ := ftn_iff.mp hf
    refine ⟨_, (pss_one (ps_ret (pe_cmpR op_eq (pe_fld (pv 0) rfl) (pe_gstr rfl T.gJET_TEXT) (nomark _)))), ?_⟩
    refine ⟨.ref a, rfl, a, _, dx, _, _, rfl, ha, T.cls.c, T.cls.nw, fl_w, rfl, ?_⟩
    show Q (V.bl (decide (V.str (tx t) = V.str "o"))) H
    rw [show decide (V.str (tx t) = V.str "o") = decide (t = .jet) from decide_eq_decide.mpr ⟨fun z => tx_inj ((V.str.inj z).trans tx_jet.symm), fun z => by rw [z, tx_jet]⟩]
    exact k
theorem ok_Fountain_parts  (T : Txt K mg base) : PropD P w K mg base CX0 1 (cF K) "parts" (spKids K) := by
  refine T.p_parts.ok sc_Fountain_parts (fun vs H Q E h => ?_) (fun f cdv A outer s H vs Q E hr h => ?_)
  · obtain ⟨v, t, rfl, _⟩ := h
    rfl
  · obtain ⟨v, t, rfl, hf, k⟩ := h
    obtain ⟨a, dx, b, n, vs, rfl, ha, hb, hn, hk⟩ := ftn_iff.mp hf
    refine ⟨_, (pss_one (ps_ret (pe_fld (pv 0) rfl))), ?_⟩
    exact ⟨.ref a, rfl, a, _, dx, _, _, rfl, ha, T.cls.c, T.cls.nb, fl_b, k b vs hb hk⟩
mutual
/-- the least path of a jet that no piece that is b covers -/
def barT (b : T) : T → Option (List Nat)
  | .jet => if T.jet = b then none else some []
  | .bas l => if T.bas l = b then none else barL b 0 l
def barL (b : T) (i : Nat) : List T → Option (List Nat)
  | [] => none
  | t :: l => match barT b t with
    | some p => some (i :: p)
    | none => barL b (i + 1) l
end
theorem barT_eq (b t : T) : barT b t = if t = b then none else if t = .jet then some [] else barL b 0 t.kids := by
  cases t with
  | jet => rfl
  | bas l =>
    show (if T.bas l = b then none else barL b 0 l) = _
    rw [if_neg (show ¬ (T.bas l = .jet) from fun z => by cases z)]
    rfl
def pathD (ps : List Nat) : D := .tup (ps.map fun i => .int (i : Nat))
def placeD (ps : List D) : Option (List Nat) → D
  | none => .non
  | some p => .tup (ps ++ p.map fun i => .int (i : Nat))
def asp_bare_place_x (n : Nat) : ASp
  | [.tree t, .tree b, .tup ps], L, Q, _ => t.dep < n ∧ ps.length + t.dep ≤ 10000 ∧ Q (placeD ps (barT b t)) L
  | _, _, _, _ => False
theorem stepA_bare_place_x  (T : Txt K mg base) {scr : Option (Addr × List Int)} (n : Nat) (ih : CallD P w K mg base CX0 (3 + n) "bare_place" ["fountain", "part", "path"] [] (spA (cA K scr) (asp_bare_place_x n))) : CallD P w K mg base CX0 (3 + n + 1) "bare_place" ["fountain", "part", "path"] [] (spA (cA K scr) (asp_bare_place_x (n + 1))) := by
  refine T.d_bare_place.okA sc_bare_place ?len (fun f cdv A outer s H E hr => (as_cons (as_if (at_cmp (aop_eq (okF_eq T) (hr.mono (by omega)) hr.units) (av 0) (av 1) (nomark _))
        (as_one (as_ret ae_non))
        as_nil)
      (as_cons (as_if (at_bl (ae_propG (fun t => .bl (decide (t = .jet))) (fun _ _ => rep_bl.mpr rfl) T.cls.c (ok_Fountain_is_jet T) (hr.mono (by omega)) (av 0) rfl))
        (as_one (as_ret (av 2)))
        as_nil)
      (as_cons (as_for PassesOwn.never rfl (ai_enumT (by rfl) T.n_enumerate (aa_cons (ae_kids T.cls.c (ok_Fountain_parts T) (hr.mono (by omega)) (av 0) rfl) aa_nil)) (ag_tup (n := 2) rfl (ags_cons (ag_name (i := 3) sc_bare_place.nd rfl (by first | exact Or.inl rfl | exact Or.inr rfl)) (ags_cons (ag_name (i := 4) sc_bare_place.nd rfl (by first | exact Or.inl rfl | exact Or.inr rfl)) ags_nil)) (fun _ _ _ _ z => agNs_len (js := [3, 4]) z))
        (as_cons (as_set (i := 5) sc_bare_place.nd rfl (by first | exact Or.inl rfl | exact Or.inr rfl) (ae_call ih (hr.mono (by omega)) (by rfl) (aa_cons (av 4) (aa_cons (av 1) (aa_cons (ae_op aop_add (av 2) (ae_tup (aa_cons (av 3) aa_nil))) aa_nil)))))
        (as_one (as_if (at_cmp aop_isnot (av 5) ae_non (nomark _))
          (as_one (as_ret (av 5)))
          as_nil))))
      (as_one (as_ret ae_non)))))) ?vc
  case len =>
    intro ds L R RX h
    unfold asp_bare_place_x at h
    split at h <;> first | rfl | exact h.elim
  case vc =>
    intro ds L R RX h
    unfold asp_bare_place_x at h
    split at h
    rotate_left
    · exact h.elim
    rename_i t b ps
    obtain ⟨hd, hp, h⟩ := h
    rw [barT_eq] at h
    have hsl := sizeLine_eq
    refine ite2 (fun e => ?_) (fun e => ?_)
    · rw [if_pos (by simpa using e)] at h
      exact ret_of h
    rw [if_neg (by simpa using e)] at h
    refine ite2 (fun e2 => ?_) (fun e2 => ?_)
    · rw [if_pos (of_decide_eq_true e2)] at h
      refine ret_of ?_
      show R (.tup ps) L
      simpa [placeD] using h
    have ne : t ≠ .jet := fun z => e2 (decide_eq_true z)
    rw [if_neg ne] at h
    have hdk : ∀ u ∈ t.kids, u.dep + 1 ≤ t.dep := fun u hu => by
      cases t with
      | jet => exact absurd rfl ne
      | bas l => exact dep_lt hu
    have hkz : (t.kids.map D.tree).length = t.kids.length := List.length_map _
    refine loop_k (enumD (t.kids.map D.tree)) (fun i env L' => L' = L ∧ barL b 0 t.kids = barL b i (t.kids.drop i) ∧ ∃ x3 x4 x5 : Option D, env = [some (.tree t), some (.tree b), some (.tup ps), x3, x4, x5]) (fun _ _ _ _ _ => trivial) ?step ?fin _ _ ⟨rfl, rfl, _, _, _, rfl⟩
    case fin =>
      rintro env L' ⟨rfl, eb, x3, x4, x5, rfl⟩
      rw [eb, enumD_len, hkz, List.drop_length] at h
      exact ret_of h
    case step =>
      rintro i d env L' nn hi kn ⟨rfl, eb, x3, x4, x5, rfl⟩
      have hil : i < t.kids.length := by
        have := (List.getElem?_eq_some_iff.mp hi).1
        rwa [enumD_len, hkz] at this
      have ed : d = .tup [.int (i : Nat), .tree t.kids[i]] := by
        have e3 := enumD_get (l := t.kids.map D.tree) (i := i) (d := .tree t.kids[i]) (by rw [List.getElem?_map, List.getElem?_eq_getElem hil]; rfl)
        rw [hi] at e3
        exact Option.some.inj e3
      subst ed
      have hku := hdk _ (List.getElem_mem hil)
      rw [List.drop_eq_getElem_cons hil] at eb
      have eb2 : barL b i (t.kids[i] :: t.kids.drop (i + 1)) = match barT b t.kids[i] with | some p => some (i :: p) | none => barL b (i + 1) (t.kids.drop (i + 1)) := rfl
      rw [eb2] at eb
      refine ⟨rfl, by show (1 : Nat) ≤ sizeLine; omega, by show ps.length + 1 ≤ sizeLine; omega, by omega, by rw [List.length_append]; show ps.length + 1 + _ ≤ _; omega, ?_⟩
      cases eq : barT b t.kids[i] with
      | none =>
        rw [eq] at eb
        exact ite_f (A := True) rfl (kn _ _ ⟨rfl, eb, _, _, _, rfl⟩)
      | some p =>
        rw [eq] at eb
        rw [eb] at h
        refine ite_t (B := True) rfl (ret_of ?_)
        show R (.tup ((ps ++ [.int (i : Nat)]) ++ p.map fun i => .int (i : Nat))) L'
        rw [List.append_assoc]
        exact h
theorem okA_bare_place_x  (T : Txt K mg base) {scr : Option (Addr × List Int)} (n : Nat) : CallD P w K mg base CX0 (3 + n) "bare_place" ["fountain", "part", "path"] [] (spA (cA K scr) (asp_bare_place_x n)) := callD_rec (sp := fun n => spA (cA K scr) (asp_bare_place_x n)) T.d_bare_place (fun vs H Q E ⟨ds, L, R, RX, _, _, h, _⟩ => by
    unfold asp_bare_place_x at h
    split at h
    · exact absurd h.1 (Nat.not_lt_zero _)
    · exact h.elim
    ) (stepA_bare_place_x T) n
def asp__law_bare (n : Nat) : ASp
  | [.str z, .str y, .tup ps], L, Q, _ => ∃ t b : JW.T, z = tx t ∧ y = tx b ∧ t.dep < n ∧ t.size ≤ 5000 ∧ ps.length + t.dep ≤ 10000 ∧ Q (placeD ps (barT b t)) L
  | _, _, _, _ => False
theorem stepA__law_bare  (T : Txt K mg base) {scr : Option (Addr × List Int)} (n : Nat) (ih : CallD P w K mg base CX0 (76 + n) "_law_bare" ["_law_text", "_law_end", "_law_path"] [] (spA (cA K scr) (asp__law_bare n))) : CallD P w K mg base CX0 (76 + n + 1) "_law_bare" ["_law_text", "_law_end", "_law_path"] [] (spA (cA K scr) (asp__law_bare (n + 1))) := by
  refine T.d__law_bare.okA sc__law_bare ?len (fun f cdv A outer s H E hr => (as_cons (as_if (at_cmp (aop_eqG (okF_eq T) (hr.mono (by omega)) hr.units) (av 0) (av 1) (nomark _))
        (as_one (as_ret ae_non))
        as_nil)
      (as_cons (as_if (at_cmp (aop_eqG (okF_eq T) (hr.mono (by omega)) hr.units) (av 0) ae_str (nomark _))
        (as_one (as_ret (av 2)))
        as_nil)
      (as_cons (as_for PassesOwn.never rfl (ai_enumL (by rfl) T.n_enumerate (aa_cons (ae_call (okA__law_parts T) (hr.mono (by omega)) (by rfl) (aa_cons (av 0) aa_nil)) aa_nil)) (ag_tup (n := 2) rfl (ags_cons (ag_name (i := 3) sc__law_bare.nd rfl (by first | exact Or.inl rfl | exact Or.inr rfl)) (ags_cons (ag_name (i := 4) sc__law_bare.nd rfl (by first | exact Or.inl rfl | exact Or.inr rfl)) ags_nil)) (fun _ _ _ _ z => agNs_len (js := [3, 4]) z))
        (as_cons (as_set (i := 5) sc__law_bare.nd rfl (by first | exact Or.inl rfl | exact Or.inr rfl) (ae_call ih (hr.mono (by omega)) (by rfl) (aa_cons (av 4) (aa_cons (av 1) (aa_cons (ae_op aop_add (av 2) (ae_tup (aa_cons (av 3) aa_nil))) aa_nil)))))
        (as_one (as_if (at_cmp aop_isnot (av 5) ae_non (nomark _))
          (as_one (as_ret (av 5)))
          as_nil))))
      (as_one (as_ret ae_non)))))) ?vc
  case len =>
    intro ds L R RX h
    unfold asp__law_bare at h
    split at h <;> first | rfl | exact h.elim
  case vc =>
    intro ds L R RX h
    unfold asp__law_bare at h
    split at h
    rotate_left
    · exact h.elim
    rename_i z y ps
    obtain ⟨t, b, rfl, rfl, hd, hz, hp, h⟩ := h
    rw [barT_eq] at h
    have hsl := sizeLine_eq
    refine ite2 (fun e => ?_) (fun e => ?_)
    · have e1 := tx_inj (of_decide_eq_true ((Bool.false_xor _).symm.trans e))
      rw [if_pos e1] at h
      exact ret_of h
    have hne : t ≠ b := fun z => e (by rw [z, decide_eq_true rfl]; rfl)
    rw [if_neg hne] at h
    refine ite2 (fun e2 => ?_) (fun e2 => ?_)
    · have e1 := of_decide_eq_true ((Bool.false_xor _).symm.trans e2)
      rw [← tx_jet] at e1
      rw [if_pos (tx_inj e1)] at h
      refine ret_of ?_
      show R (.tup ps) L
      simpa [placeD] using h
    have ne : t ≠ .jet := fun z => e2 (by rw [z, tx_jet]; rfl)
    rw [if_neg ne] at h
    have hdk : ∀ u ∈ t.kids, u.dep + 1 ≤ t.dep ∧ u.size ≤ t.size := fun u hu => by
      cases t with
      | jet => exact absurd rfl ne
      | bas l => exact ⟨dep_lt hu, Nat.le_of_lt (size_mem hu)⟩
    have hkz : (t.kids.map dtx).length = t.kids.length := List.length_map _
    refine ⟨t, rfl, hz, fun P hP => ⟨_, sput_same, ?_⟩⟩
    refine loop_k (enumD (t.kids.map dtx)) (fun i env L' => L' = sput L P (.lst (t.kids.map dtx)) ∧ barL b 0 t.kids = barL b i (t.kids.drop i) ∧ ∃ x3 x4 x5 : Option D, env = [some (.str (tx t)), some (.str (tx b)), some (.tup ps), x3, x4, x5]) (fun _ _ _ _ z => by rw [z.1]; exact sput_same) ?step ?fin _ _ ⟨rfl, rfl, _, _, _, rfl⟩
    case fin =>
      rintro env L' ⟨rfl, eb, x3, x4, x5, rfl⟩
      rw [eb, enumD_len, hkz, List.drop_length] at h
      exact ret_sub h ((SubS.refl L).new hP)
    case step =>
      rintro i d env L' nn hi kn ⟨rfl, eb, x3, x4, x5, rfl⟩
      have hil : i < t.kids.length := by
        have := (List.getElem?_eq_some_iff.mp hi).1
        rwa [enumD_len, hkz] at this
      have ed : d = .tup [.int (i : Nat), dtx t.kids[i]] := by
        have e3 := enumD_get (l := t.kids.map dtx) (i := i) (d := dtx t.kids[i]) (by rw [List.getElem?_map, List.getElem?_eq_getElem hil]; rfl)
        rw [hi] at e3
        exact Option.some.inj e3
      subst ed
      have hku := hdk _ (List.getElem_mem hil)
      rw [List.drop_eq_getElem_cons hil] at eb
      have eb2 : barL b i (t.kids[i] :: t.kids.drop (i + 1)) = match barT b t.kids[i] with | some p => some (i :: p) | none => barL b (i + 1) (t.kids.drop (i + 1)) := rfl
      rw [eb2] at eb
      refine ⟨rfl, by show (1 : Nat) ≤ sizeLine; omega, by show ps.length + 1 ≤ sizeLine; omega, t.kids[i], b, rfl, rfl, by omega, by omega, by rw [List.length_append]; show ps.length + 1 + _ ≤ _; omega, ?_⟩
      cases eq : barT b t.kids[i] with
      | none =>
        rw [eq] at eb
        exact ite_f (A := True) rfl (kn _ _ ⟨rfl, eb, _, _, _, rfl⟩)
      | some p =>
        rw [eq] at eb
        rw [eb] at h
        refine ite_t (B := True) rfl (ret_sub ?_ ((SubS.refl L).new hP))
        show R (.tup ((ps ++ [.int (i : Nat)]) ++ p.map fun i => .int (i : Nat))) L
        rw [List.append_assoc]
        exact h
theorem okA__law_bare  (T : Txt K mg base) {scr : Option (Addr × List Int)} (n : Nat) : CallD P w K mg base CX0 (76 + n) "_law_bare" ["_law_text", "_law_end", "_law_path"] [] (spA (cA K scr) (asp__law_bare n)) := callD_rec (sp := fun n => spA (cA K scr) (asp__law_bare n)) T.d__law_bare (fun vs H Q E ⟨ds, L, R, RX, _, _, h, _⟩ => by
    unfold asp__law_bare at h
    split at h
    · obtain ⟨t, b, _, _, z, _⟩ := h
      exact absurd z (Nat.not_lt_zero _)
    · exact h.elim
    ) (stepA__law_bare T) n
inductive Deed where
  | put (p : List Nat) (b : T) | exch (p q : List Nat) | grow (b : T) | trim (b : T)
def deedD : Deed → D
  | .put p b => .tup [.str "put", dpth p, .str (tx b)]
  | .exch p q => .tup [.str "exchange", dpth p, dpth q]
  | .grow b => .tup [.str "grow", .str (tx b)]
  | .trim b => .tup [.str "trim", .str (tx b)]
def toldD : D := .tup [.str "told", .non]
def nxt (t : T) : Deed → D × Option T
  | .put p b => (.tup [.str "put", .str (tx ((subT p t).getD .jet))], some (repT b p t))
  | .exch p q => if nested p q then (.tup [.str "nested"], none) else (toldD, some (swT t [(p, (subT q t).getD .jet), (q, (subT p t).getD .jet)]))
  | .grow b => (toldD, some (T.grf b t))
  | .trim b => if b.jts = 0 then (.tup [.str "closed"], none) else if cov b t = true then (toldD, some (cutT b t)) else (.tup [.str "quotient", placeD [] (barT b t)], none)
def resD : Option T → D
  | none => .non
  | some u => .str (tx u)
def DOk (t : T) : Deed → Prop
  | .put p b => (∃ s, subT p t = some s) ∧ Can b ∧ b.size ≤ 12 ∧ t.size ≤ 1000 ∧ t.dep ≤ 110 ∧ (p = [] ∨ (t.size ≤ 150 ∧ t.dep ≤ 50))
  | .exch p q => (∃ s, subT p t = some s) ∧ (∃ s, subT q t = some s) ∧ t.size ≤ 150 ∧ t.dep ≤ 50
  | .grow b => Can b ∧ b.size ≤ 5 ∧ t.size ≤ 1000 ∧ t.dep ≤ 110
  | .trim b => Can b ∧ b.size ≤ 60 ∧ t.size ≤ 150 ∧ t.dep ≤ 50
def DSm (t : T) : Deed → Prop
  | .grow _ => t.size ≤ 150 ∧ t.dep ≤ 50
  | _ => True
theorem barL_none {b : JW.T} : ∀ (l : List JW.T) (i : Nat), (∀ t ∈ l, barT b t = none ↔ cov b t = true) → (barL b i l = none ↔ covL b l = true)
  | [], _, _ => ⟨fun _ => rfl, fun _ => rfl⟩
  | t :: l, i, h => by
    have h1 := h t List.mem_cons_self
    have h2 := barL_none l (i + 1) fun u hu => h u (List.mem_cons_of_mem _ hu)
    show (match barT b t with | some p => some (i :: p) | none => barL b (i + 1) l) = none ↔ (cov b t && covL b l) = true
    cases e : barT b t with
    | none =>
      rw [h1.mp e, Bool.true_and]
      exact h2
    | some p =>
      have : cov b t = false := by
        cases z : cov b t with
        | false => rfl
        | true => rw [h1.mpr z] at e; cases e
      rw [this]
      exact ⟨fun z => (by cases z), fun z => (by cases z)⟩
theorem bar_cov (b : JW.T) : ∀ t : JW.T, barT b t = none ↔ cov b t = true := by
  refine T.ind' ?_ fun l ih => ?_
  · show (if JW.T.jet = b then none else some []) = none ↔ decide (JW.T.jet = b) = true
    by_cases e : JW.T.jet = b
    · rw [if_pos e, decide_eq_true e]
      exact ⟨fun _ => rfl, fun _ => rfl⟩
    · rw [if_neg e, decide_eq_false e]
      exact ⟨fun z => (by cases z), fun z => (by cases z)⟩
  · show (if JW.T.bas l = b then none else barL b 0 l) = none ↔ (decide (JW.T.bas l = b) || covL b l) = true
    by_cases e : JW.T.bas l = b
    · rw [if_pos e, decide_eq_true e]
      exact ⟨fun _ => rfl, fun _ => rfl⟩
    · rw [if_neg e, decide_eq_false e, Bool.false_or]
      exact barL_none l 0 ih
theorem nxt_sm {t : T} {e : Deed} (hc : Can t) (h : DOk t e) (hs : DSm t e) : ∀ u, (nxt t e).2 = some u → Can u ∧ u.size ≤ 1000 ∧ u.dep ≤ 110 := by
  intro u hu
  cases e with
  | put p b =>
    obtain ⟨⟨s, hs⟩, hb, h1, h2, h3, h4⟩ := h
    cases hu
    have hz := rep_size b p t s hs
    have hd := rep_dep b p t s hs
    have hbd := dep_le_size b
    have hsp := size_pos s
    refine ⟨rep_can hb p t hc, ?_, ?_⟩
    · rcases h4 with e | e
      · subst e
        show b.size ≤ 1000
        omega
      · omega
    · rcases h4 with e | e
      · subst e
        show b.dep ≤ 110
        omega
      · omega
  | exch p q =>
    obtain ⟨⟨s, hs⟩, ⟨r, hr⟩, h1, h2⟩ := h
    have hu : (if nested p q then (D.tup [.str "nested"], none) else (toldD, some (swT t [(p, (subT q t).getD .jet), (q, (subT p t).getD .jet)]))).2 = some u := hu
    split at hu
    · cases hu
    · cases hu
      rw [hs, hr]
      have hbs := sub_bnd p t s hs
      have hbr := sub_bnd q t r hr
      have hz := sw_size t [(p, r), (q, s)]
      have hw : wtA [(p, r), (q, s)] = r.size + (s.size + 0) := rfl
      have hd := sw_dep (d := 50) t [(p, r), (q, s)] fun x hx => by
        rcases List.mem_cons.mp hx with z | z
        · rw [z]
          show r.dep ≤ 50
          omega
        · rw [List.mem_singleton.mp z]
          show s.dep ≤ 50
          omega
      refine ⟨sw_can t hc _ fun x hx => ?_, ?_, ?_⟩
      · rcases List.mem_cons.mp hx with z | z
        · rw [z]
          exact sub_can q t r hc hr
        · rw [List.mem_singleton.mp z]
          exact sub_can p t s hc hs
      · show (swT t [(p, r), (q, s)]).size ≤ 1000
        omega
      · show (swT t [(p, r), (q, s)]).dep ≤ 110
        omega
  | grow b =>
    obtain ⟨hb, h1, _, _⟩ := h
    obtain ⟨h2, h3⟩ := hs
    cases hu
    have hjz := jts_le t
    have hgz := grf_size b t
    have hmb : t.jts * b.size ≤ 150 * 5 := Nat.mul_le_mul (by omega) h1
    have hdb := dep_le_size b
    have hd := grf_dep b t
    refine ⟨grf_can hb t, by omega, ?_⟩
    rw [hd]
    split
    · omega
    · have := lng_dep t
      omega
  | trim b =>
    obtain ⟨hb, h1, h2, h3⟩ := h
    have hu : (if b.jts = 0 then (D.tup [.str "closed"], none) else if cov b t = true then (toldD, some (cutT b t)) else (D.tup [.str "quotient", placeD [] (barT b t)], none)).2 = some u := hu
    split at hu
    · cases hu
    · split at hu
      · cases hu
        have := cut_size b t
        have := cut_dep b t
        exact ⟨cut_can t hc, by omega, by omega⟩
      · cases hu
theorem nxt_ok {t : T} {e : Deed} (hc : Can t) (h : DOk t e) : ∀ u, (nxt t e).2 = some u → Can u ∧ u.size ≤ 5000 ∧ u.dep ≤ 120 := by
  intro u hu
  cases e with
  | grow b =>
    obtain ⟨hb, h1, h2, h3⟩ := h
    cases hu
    have hjz := jts_le t
    have hgz := grf_size b t
    have hmb : t.jts * b.size ≤ t.jts * 5 := Nat.mul_le_mul_left _ h1
    have hdb := dep_le_size b
    have hd := grf_dep b t
    refine ⟨grf_can hb t, by omega, ?_⟩
    rw [hd]
    split
    · omega
    · have := lng_dep t
      omega
  | put p b =>
    have := nxt_sm hc h trivial u hu
    exact ⟨this.1, by omega, by omega⟩
  | exch p q =>
    have := nxt_sm hc h trivial u hu
    exact ⟨this.1, by omega, by omega⟩
  | trim b =>
    have := nxt_sm hc h trivial u hu
    exact ⟨this.1, by omega, by omega⟩
theorem at3_0 {a b c : D} : atI [a, b, c] 0 = some a := show atI _ ((0 : Nat) : Int) = _ from atI_nat rfl
theorem at3_1 {a b c : D} : atI [a, b, c] 1 = some b := show atI _ ((1 : Nat) : Int) = _ from atI_nat rfl
theorem at3_2 {a b c : D} : atI [a, b, c] 2 = some c := show atI _ ((2 : Nat) : Int) = _ from atI_nat rfl
theorem at2_0 {a b : D} : atI [a, b] 0 = some a := show atI _ ((0 : Nat) : Int) = _ from atI_nat rfl
theorem at2_1 {a b : D} : atI [a, b] 1 = some b := show atI _ ((1 : Nat) : Int) = _ from atI_nat rfl
theorem atI_m1 (l : List D) (x : D) : atI (l ++ [x]) (-1) = some x := by
  have e : ixN (l ++ [x]).length (-1) = some l.length := by
    unfold ixN
    rw [List.length_append, List.length_singleton, if_neg (by decide), if_pos (by omega)]
    congr 1
    omega
  unfold atI
  rw [e]
  simp
theorem at3_m {a b c : D} : atI [a, b, c] (-1) = some c := atI_m1 [a, b] c
theorem at2_m {a b : D} : atI [a, b] (-1) = some b := atI_m1 [a] b
def asp__law_next : ASp
  | [.str z, x], L, Q, _ => ∃ (t : JW.T) (e : Deed), z = tx t ∧ x = deedD e ∧ Can t ∧ DOk t e ∧ Q (.tup [(nxt t e).1, resD (nxt t e).2]) L
  | _, _, _, _ => False
theorem okA__law_next  (T : Txt K mg base) {scr : Option (Addr × List Int)} : CallD P w K mg base CX0 193 "_law_next" ["_law_text", "_law_deed_here"] [] (spA (cA K scr) (asp__law_next)) := by
  refine T.d__law_next.okA sc__law_next ?len (fun f cdv A outer s H E hr => (as_cons (as_par (i := 2) (j := 3) (by rfl) sc__law_next.nd rfl rfl (by decide) rfl rfl (aa_cons (ae_ix (av 1) ae_int (fun _ _ => rfl)) (aa_cons (ae_ix (av 1) (ae_neg ae_int) (fun _ _ => rfl)) aa_nil)) (by rfl))
      (as_cons (as_if (at_cmp (aop_eqG (okF_eq T) (hr.mono (by decide)) hr.units) (av 2) ae_str (nomark _))
        (as_cons (as_set (i := 4) sc__law_next.nd rfl (by first | exact Or.inl rfl | exact Or.inr rfl) (ae_call (okA__law_step T) (hr.mono (by decide)) (by rfl) (aa_cons (av 0) (aa_cons (ae_ix (av 1) ae_int (fun _ _ => rfl)) aa_nil))))
        (as_cons (as_if (at_cmp aop_isnot (av 4) ae_non (nomark _))
          (as_one (as_ret (ae_tup (aa_cons (ae_tup (aa_cons ae_str (aa_cons (av 4) aa_nil))) (aa_cons ae_non aa_nil)))))
          as_nil)
        (as_cons (as_set (i := 5) sc__law_next.nd rfl (by first | exact Or.inl rfl | exact Or.inr rfl) (ae_call (okA__law_put T 52) (hr.mono (by decide)) (by rfl) (aa_cons (av 0) (aa_cons (ae_ix (av 1) ae_int (fun _ _ => rfl)) (aa_cons (av 3) aa_nil)))))
        (as_cons (as_set (i := 6) sc__law_next.nd rfl (by first | exact Or.inl rfl | exact Or.inr rfl) (ae_call (okA__law_limits T) (hr.mono (by decide)) (by rfl) (aa_cons (ae_call (okA__law_size T) (hr.mono (by decide)) (by rfl) (aa_cons (av 5) aa_nil)) (aa_cons (ae_call (okA__law_depth T) (hr.mono (by decide)) (by rfl) (aa_cons (av 5) aa_nil)) aa_nil))))
        (as_one (as_ret (ae_if (at_cmp aop_isnot (av 6) ae_non (nomark _)) (ae_tup (aa_cons (av 6) (aa_cons ae_non aa_nil))) (ae_tup (aa_cons (ae_tup (aa_cons ae_str (aa_cons (ae_call (okA__law_at T) (hr.mono (by decide)) (by rfl) (aa_cons (av 0) (aa_cons (ae_ix (av 1) ae_int (fun _ _ => rfl)) aa_nil))) aa_nil))) (aa_cons (av 5) aa_nil))))))))))
        as_nil)
      (as_cons (as_if (at_cmp (aop_eqG (okF_eq T) (hr.mono (by decide)) hr.units) (av 2) ae_str (nomark _))
        (as_one (as_asg (ae_call (okA__law_exchanged T) (hr.mono (by decide)) (by rfl) (aa_cons (av 0) (aa_cons (ae_ix (av 1) ae_int (fun _ _ => rfl)) (aa_cons (ae_ix (av 1) ae_int (fun _ _ => rfl)) aa_nil)))) (ag_tup (n := 2) rfl (ags_cons (ag_name (i := 6) sc__law_next.nd rfl (by first | exact Or.inl rfl | exact Or.inr rfl)) (ags_cons (ag_name (i := 5) sc__law_next.nd rfl (by first | exact Or.inl rfl | exact Or.inr rfl)) ags_nil)) (fun _ _ _ _ z => agNs_len (js := [6, 5]) z))))
        (as_one (as_if (at_cmp (aop_eqG (okF_eq T) (hr.mono (by decide)) hr.units) (av 2) ae_str (nomark _))
          (as_one (as_asg (ae_call (okA__law_grown T) (hr.mono (by decide)) (by rfl) (aa_cons (av 0) (aa_cons (av 3) aa_nil))) (ag_tup (n := 2) rfl (ags_cons (ag_name (i := 6) sc__law_next.nd rfl (by first | exact Or.inl rfl | exact Or.inr rfl)) (ags_cons (ag_name (i := 5) sc__law_next.nd rfl (by first | exact Or.inl rfl | exact Or.inr rfl)) ags_nil)) (fun _ _ _ _ z => agNs_len (js := [6, 5]) z))))
          (as_one (as_if (at_cmp aop_notin ae_str (av 3) (by rfl))
            (as_one (as_asg (ae_tup (aa_cons (ae_tup (aa_cons ae_str aa_nil)) (aa_cons ae_non aa_nil))) (ag_tup (n := 2) rfl (ags_cons (ag_name (i := 6) sc__law_next.nd rfl (by first | exact Or.inl rfl | exact Or.inr rfl)) (ags_cons (ag_name (i := 5) sc__law_next.nd rfl (by first | exact Or.inl rfl | exact Or.inr rfl)) ags_nil)) (fun _ _ _ _ z => agNs_len (js := [6, 5]) z))))
            (as_cons (as_set (i := 5) sc__law_next.nd rfl (by first | exact Or.inl rfl | exact Or.inr rfl) (ae_call (okA__law_over T 52) (hr.mono (by decide)) (by rfl) (aa_cons (av 0) (aa_cons (av 3) aa_nil))))
            (as_one (as_via (as_set (i := 6) sc__law_next.nd rfl (by first | exact Or.inl rfl | exact Or.inr rfl) (ae_if (at_cmp aop_isnot (av 5) ae_non (nomark _)) ae_non (ae_tup (aa_cons ae_str (aa_cons (ae_call (okA__law_bare T 52) (hr.mono (by decide)) (by rfl) (aa_cons (av 0) (aa_cons (av 3) (aa_cons (ae_tup aa_nil) aa_nil)))) aa_nil)))))))))))))
      (as_one (as_ret (ae_if (at_cmp aop_isnot (av 6) ae_non (nomark _)) (ae_tup (aa_cons (av 6) (aa_cons ae_non aa_nil))) (ae_tup (aa_cons (ae_tup (aa_cons ae_str (aa_cons ae_non aa_nil))) (aa_cons (av 5) aa_nil)))))))))) ?vc
  case len =>
    intro ds L R RX h
    unfold asp__law_next at h
    split at h <;> first | rfl | exact h.elim
  case vc =>
    intro ds L R RX h
    unfold asp__law_next at h
    split at h
    · rename_i z x
      obtain ⟨t, e, rfl, rfl, hc, ho, h⟩ := h
      have hsl := sizeLine_eq
      cases e with
      | put p b =>
        obtain ⟨⟨s, hs⟩, hb, h1, h2, h3, h4⟩ := ho
        have hres : R (.tup [.tup [.str "put", .str (tx s)], .str (tx (repT b p t))]) L := by
          have h5 : R (.tup [.tup [.str "put", .str (tx ((subT p t).getD .jet))], .str (tx (repT b p t))]) L := h
          rw [hs] at h5
          exact h5
        have hpd := sub_dep p t s hs
        have hpl : p.length < 52 := by
          rcases h4 with z | z
          · rw [z]
            decide
          · omega
        have hz := rep_size b p t s hs
        have hd : (repT b p t).dep ≤ 120 := by
          have hd1 := rep_dep b p t s hs
          have hbd := dep_le_size b
          rcases h4 with z | z
          · subst z
            show b.dep ≤ 120
            omega
          · omega
        refine ⟨_, at3_0, _, at3_m, ?_⟩
        refine ⟨_, at3_1, t, s, p, rfl, rfl, hs, by omega, ?_⟩
        refine ite_f (A := True) rfl ?_
        refine ⟨_, at3_1, t, b, s, p, rfl, rfl, rfl, hpl, hs, by omega, ?_⟩
        refine ⟨_, rfl, _, rfl, by omega, by omega, by omega, ?_⟩
        refine ite_f (A := True) rfl ⟨_, at3_1, t, s, p, rfl, rfl, hs, by omega, by show (2 : Nat) ≤ sizeLine; omega, by show (2 : Nat) ≤ sizeLine; omega, ret_of hres⟩
      | exch p q =>
        obtain ⟨⟨a, ha⟩, ⟨b, hb⟩, h1, h2⟩ := ho
        have h5 : R (.tup [(if nested p q then (D.tup [.str "nested"], none) else (toldD, some (swT t [(p, (subT q t).getD .jet), (q, (subT p t).getD .jet)]))).1, resD (if nested p q then (D.tup [.str "nested"], none) else (toldD, some (swT t [(p, (subT q t).getD .jet), (q, (subT p t).getD .jet)]))).2]) L := h
        refine ⟨_, at3_0, _, at3_m, ?_⟩
        refine ⟨_, at3_1, _, at3_2, t, a, b, p, q, rfl, rfl, rfl, ha, hb, by omega, by omega, fun hn => ?_, fun hn => ?_⟩
        · rw [if_pos hn] at h5
          exact ⟨rfl, ite_t (B := True) rfl ⟨by show (2 : Nat) ≤ sizeLine; omega, ret_of h5⟩⟩
        · rw [if_neg hn, ha, hb] at h5
          exact ⟨rfl, ite_f (A := True) rfl ⟨by show (2 : Nat) ≤ sizeLine; omega, by show (2 : Nat) ≤ sizeLine; omega, ret_of h5⟩⟩
      | grow b =>
        obtain ⟨hb, h1, h2, h3⟩ := ho
        refine ⟨_, at2_0, _, at2_m, ?_⟩
        exact ⟨t, b, rfl, rfl, hc, by omega, by omega, by omega, rfl, ite_f (A := True) rfl ⟨by show (2 : Nat) ≤ sizeLine; omega, by show (2 : Nat) ≤ sizeLine; omega, ret_of h⟩⟩
      | trim b =>
        obtain ⟨hb, h1, h2, h3⟩ := ho
        have h5 : R (.tup [(if b.jts = 0 then (D.tup [.str "closed"], none) else if cov b t = true then (toldD, some (cutT b t)) else (D.tup [.str "quotient", placeD [] (barT b t)], none)).1, resD (if b.jts = 0 then (D.tup [.str "closed"], none) else if cov b t = true then (toldD, some (cutT b t)) else (D.tup [.str "quotient", placeD [] (barT b t)], none)).2]) L := h
        refine ⟨_, at2_0, _, at2_m, ?_⟩
        refine ite2 (fun e => ?_) (fun e => ?_)
        · have e2 : (true ^^ !(Builtin.Str.occurrences (tx b) ("o" : Str) 0 (tx b).length 1).isEmpty) = true := e
          rw [in_o] at e2
          have hj : b.jts = 0 := by
            cases z : opn b with
            | true => rw [z] at e2; cases e2
            | false => exact Nat.eq_zero_of_not_pos fun q => by rw [show opn b = true from decide_eq_true q] at z; cases z
          rw [if_pos hj] at h5
          exact ⟨by show (1 : Nat) ≤ sizeLine; omega, by show (2 : Nat) ≤ sizeLine; omega, rfl, ite_t (B := True) rfl ⟨by show (2 : Nat) ≤ sizeLine; omega, ret_of h5⟩⟩
        · have e2 : ¬ (true ^^ !(Builtin.Str.occurrences (tx b) ("o" : Str) 0 (tx b).length 1).isEmpty) = true := e
          rw [in_o] at e2
          have hj : b.jts ≠ 0 := fun z => e2 (by
            have : opn b = false := decide_eq_false (by omega)
            rw [this]
            rfl)
          rw [if_neg hj] at h5
          refine ⟨t, b, rfl, rfl, hc, by omega, by omega, ?_⟩
          by_cases hv : cov b t = true
          · rw [if_pos hv] at h5
            have eo : ovD b t = .str (tx (cutT b t)) := if_pos hv
            rw [eo]
            refine ⟨fun env L2 => L2 = L ∧ env = [some (.str (tx t)), some (deedD (.trim b)), some (.str "trim"), some (.str (tx b)), none, some (.str (tx (cutT b t))), some .non], ite_t (B := True) rfl ⟨rfl, rfl⟩, ?_⟩
            rintro env L2 ⟨rfl, rfl⟩
            exact ite_f (A := True) rfl ⟨by show (2 : Nat) ≤ sizeLine; omega, by show (2 : Nat) ≤ sizeLine; omega, ret_of h5⟩
          · rw [if_neg hv] at h5
            have eo : ovD b t = .non := if_neg hv
            rw [eo]
            refine ⟨fun env L2 => L2 = L ∧ env = [some (.str (tx t)), some (deedD (.trim b)), some (.str "trim"), some (.str (tx b)), none, some .non, some (.tup [.str "quotient", placeD [] (barT b t)])], ite_f (A := True) rfl ⟨Nat.zero_le _, t, b, rfl, rfl, by omega, by omega, by show 0 + t.dep ≤ _; omega, by show (2 : Nat) ≤ sizeLine; omega, rfl, rfl⟩, ?_⟩
            rintro env L2 ⟨rfl, rfl⟩
            exact ite_t (B := True) rfl ⟨by show (2 : Nat) ≤ sizeLine; omega, ret_of h5⟩
    · exact h.elim
def pstD (x : Deed × T) : D := .tup [deedD x.1, .str (tx x.2)]
def MineS (L : Store) (m : Addr) (t : T) (past : List (Deed × T)) : Prop := ∃ q, L m = some (.dct [(.inr "now", .str (tx t)), (.inr "past", .ref q)]) ∧ L q = some (.lst (past.map pstD))
def KeepBut (m : Addr) (L L' : Store) : Prop := ∀ a x, a ≠ m → L a = some x → L' a = some x
theorem KeepBut.new {m p : Addr} {L L' : Store} {x : MO} (h : KeepBut m L L') (hp : L' p = none) : KeepBut m L (sput L' p x) := fun a y ha e => sput_old (h a y ha e) hp
theorem KeepBut.at {m : Addr} {L L' : Store} {x : MO} (h : KeepBut m L L') : KeepBut m L (sput L' m x) := fun a y ha e => by rw [sput_ne ha]; exact h a y ha e
theorem KeepBut.of {m : Addr} {L L' : Store} (h : SubS L L') : KeepBut m L L' := fun a x _ e => h a x e
theorem past_ne : ¬ ((Sum.inr ("now" : Str) : Key) = Sum.inr ("past" : Str)) := by decide +kernel
theorem now_val {t q : D} : AL.valD [(.inr "now", t), (.inr "past", q)] (.inr ("now" : Str)) = some t := by
  unfold AL.valD
  rw [List.find?_cons, decide_eq_true rfl]
  rfl
theorem past_val {t q : D} : AL.valD [(.inr "now", t), (.inr "past", q)] (.inr ("past" : Str)) = some q := by
  unfold AL.valD
  rw [List.find?_cons, decide_eq_false past_ne, List.find?_cons, decide_eq_true rfl]
  rfl
theorem now_set {t q d : D} : AL.setD [(.inr "now", t), (.inr "past", q)] (.inr ("now" : Str)) d = [(.inr "now", d), (.inr "past", q)] := by
  unfold AL.setD
  rw [List.map_cons, if_pos rfl, List.map_cons, if_neg fun z => past_ne z.symm]
  rfl
theorem past_set {t q d : D} : AL.setD [(.inr "now", t), (.inr "past", q)] (.inr ("past" : Str)) d = [(.inr "now", t), (.inr "past", d)] := by
  unfold AL.setD
  rw [List.map_cons, if_neg past_ne, List.map_cons, if_pos rfl]
  rfl
def asp__law_do : ASp
  | [.ref m, x], L, Q, _ => ∃ (t : T) (past : List (Deed × T)) (e : Deed), x = deedD e ∧ MineS L m t past ∧ past.length ≤ 1000 ∧ Can t ∧ DOk t e ∧
      ((nxt t e).2 = none → Q (nxt t e).1 L) ∧ ∀ u, (nxt t e).2 = some u → ∀ L', KeepBut m L L' → MineS L' m u (past ++ [(e, t)]) → Q (nxt t e).1 L'
  | _, _, _, _ => False
theorem okA__law_do  (T : Txt K mg base) {scr : Option (Addr × List Int)} : CallD P w K mg base CX0 195 "_law_do" ["_law_mine", "_law_deed_here"] [] (spA (cA K scr) (asp__law_do)) := by
  refine T.d__law_do.okA sc__law_do ?len (fun f cdv A outer s H E hr => (as_cons (as_asg (ae_call (okA__law_next T) (hr.mono (by decide)) (by rfl) (aa_cons (ae_dget (hu_of hr) (av 0) ae_str (fun _ _ => rfl)) (aa_cons (av 1) aa_nil))) (ag_tup (n := 2) rfl (ags_cons (ag_name (i := 2) sc__law_do.nd rfl (by first | exact Or.inl rfl | exact Or.inr rfl)) (ags_cons (ag_name (i := 3) sc__law_do.nd rfl (by first | exact Or.inl rfl | exact Or.inr rfl)) ags_nil)) (fun _ _ _ _ z => agNs_len (js := [2, 3]) z)))
      (as_cons (as_if (at_cmp aop_isnot (av 3) ae_non (nomark _))
        (as_cons (as_asg (ae_op aop_add (ae_dget (hu_of hr) (av 0) ae_str (fun _ _ => rfl)) (ae_lst (aa_cons (ae_tup (aa_cons (av 1) (aa_cons (ae_dget (hu_of hr) (av 0) ae_str (fun _ _ => rfl)) aa_nil))) aa_nil))) (ag_dsub (hu_of hr) (av 0) ae_str))
        (as_one (as_asg (av 3) (ag_dsub (hu_of hr) (av 0) ae_str))))
        as_nil)
      (as_one (as_ret (av 2)))))) ?vc
  case len =>
    intro ds L R RX h
    unfold asp__law_do at h
    split at h <;> first | rfl | exact h.elim
  case vc =>
    intro ds L R RX h
    unfold asp__law_do at h
    split at h
    · rename_i m x
      obtain ⟨t, past, e, rfl, ⟨q, hm, hq⟩, hz, hc, ho, h1, h2⟩ := h
      have hsl := sizeLine_eq
      refine ⟨m, _, _, _, rfl, rfl, hm, now_val, t, e, rfl, rfl, hc, ho, rfl, ?_⟩
      clear ho
      generalize nxt t e = r at *
      obtain ⟨dd, o⟩ := r
      cases o with
      | none => exact ite_f (A := True) rfl (ret_of (h1 rfl))
      | some u =>
        refine ite_t (B := True) rfl ?_
        refine ⟨m, _, _, _, rfl, rfl, hm, past_val, m, _, _, _, rfl, rfl, hm, now_val, by show (2 : Nat) ≤ sizeLine; omega, by show (1 : Nat) ≤ sizeLine; omega, fun r hr => ?_⟩
        refine ⟨_, _, sput_old hq hr, sput_same, by rw [List.length_map]; show past.length + 1 ≤ _; omega, fun r2 hr2 => ?_⟩
        have hm2 := sput_old (n := .lst (past.map pstD ++ [.tup [deedD e, .str (tx t)]])) (sput_old (n := .lst [.tup [deedD e, .str (tx t)]]) hm hr) hr2
        have kb2 : KeepBut m L (sput (sput L r (.lst [.tup [deedD e, .str (tx t)]])) r2 (.lst (past.map pstD ++ [.tup [deedD e, .str (tx t)]]))) := ((KeepBut.of (SubS.refl L)).new hr).new hr2
        have e2 : sput (sput L r (.lst [.tup [deedD e, .str (tx t)]])) r2 (.lst (past.map pstD ++ [.tup [deedD e, .str (tx t)]])) r2 = some (.lst ((past ++ [(e, t)]).map pstD)) := by
          rw [sput_same, List.map_append]
          rfl
        have hrm : r2 ≠ m := fun z => by rw [z, sput_old hm hr] at hr2; cases hr2
        generalize sput (sput L r (.lst [.tup [deedD e, .str (tx t)]])) r2 (.lst (past.map pstD ++ [.tup [deedD e, .str (tx t)]])) = L2 at hm2 kb2 e2 ⊢
        refine ⟨m, _, _, _, rfl, rfl, hm2, past_val, by show (2 : Nat) < 1000; decide, ?_⟩
        rw [past_set]
        refine ⟨m, _, _, _, rfl, rfl, sput_same, now_val, by show (2 : Nat) < 1000; decide, ?_⟩
        rw [now_set, sput_sput]
        exact ret_of (h2 u rfl _ kb2.at ⟨r2, sput_same, by rw [sput_ne hrm]; exact e2⟩)
    · exact h.elim
theorem dep_deed (e : Deed) : depD (deedD e) ≤ 5 := by
  have h : ∀ p : List Nat, depDL (p.map fun k : Nat => D.int (k : Nat)) = 0 := fun p => depDL_map (fun _ => rfl) p
  cases e with
  | put p b =>
    show max 0 (max (depDL (p.map fun k : Nat => D.int (k : Nat)) + 1) (max 0 0)) + 1 ≤ 5
    rw [h]
    decide
  | exch p q =>
    show max 0 (max (depDL (p.map fun k : Nat => D.int (k : Nat)) + 1) (max (depDL (q.map fun k : Nat => D.int (k : Nat)) + 1) 0)) + 1 ≤ 5
    rw [h, h]
    decide
  | grow b => show max 0 (max 0 0) + 1 ≤ 5; decide
  | trim b => show max 0 (max 0 0) + 1 ≤ 5; decide
theorem dep_pst (l : List (Deed × T)) : depDL (l.map pstD) ≤ 70 := depDL_of fun x hx => by
  obtain ⟨q, _, rfl⟩ := List.mem_map.mp hx
  have := dep_deed q.1
  show (max (depD (deedD q.1)) (max 0 0)) + 1 ≤ 70
  omega
def asp__law_undo : ASp
  | [.ref m], L, Q, _ => ∃ (t : T) (past : List (Deed × T)), MineS L m t past ∧ (past = [] → Q (.bl false) L) ∧ ∀ init e u, past = init ++ [(e, u)] → ∀ L', KeepBut m L L' → MineS L' m u init → Q (.bl true) L'
  | _, _, _, _ => False
theorem okA__law_undo  (T : Txt K mg base) {scr : Option (Addr × List Int)} : CallD P w K mg base CX0 143 "_law_undo" ["_law_mine"] [] (spA (cA K scr) (asp__law_undo)) := by
  refine T.d__law_undo.okA sc__law_undo ?len (fun f cdv A outer s H E hr => (as_cons (as_if (at_cmp (aop_eqG (okF_eq T) (hr.mono (by decide)) hr.units) (ae_dget (hu_of hr) (av 0) ae_str (fun _ _ => rfl)) (ae_lst aa_nil) (nomark _))
        (as_one (as_ret ae_bl))
        as_nil)
      (as_cons (as_asg (ae_tup (aa_cons (ae_ix (ae_ix (ae_dget (hu_of hr) (av 0) ae_str (fun _ _ => rfl)) (ae_neg ae_int) (fun _ _ => rfl)) ae_int (fun _ _ => rfl)) (aa_cons (ae_sl (ae_dget (hu_of hr) (av 0) ae_str (fun _ _ => rfl)) ao_none (ao_some (ae_neg ae_int))) aa_nil))) (ag_tup (n := 2) rfl (ags_cons (ag_dsub (hu_of hr) (av 0) ae_str) (ags_cons (ag_dsub (hu_of hr) (av 0) ae_str) ags_nil)) agDD_len))
      (as_one (as_ret ae_bl))))) ?vc
  case len =>
    intro ds L R RX h
    unfold asp__law_undo at h
    split at h <;> first | rfl | exact h.elim
  case vc =>
    intro ds L R RX h
    unfold asp__law_undo at h
    split at h
    · rename_i m
      obtain ⟨t, past, ⟨q, hm, hq⟩, h1, h2⟩ := h
      have hsl := sizeLine_eq
      refine ⟨m, _, _, _, rfl, rfl, hm, past_val, Nat.zero_le _, fun r hr => ⟨_, _, sput_old hq hr, sput_same, eqSq_nil (dep_pst _) (ite2 (fun e => ?_) (fun e => ?_))⟩⟩
      · cases past with
        | nil => exact ret_sub (h1 rfl) ((SubS.refl L).new hr)
        | cons x l => cases e
      have hne : past ≠ [] := fun z => e (by rw [z]; rfl)
      obtain ⟨init, ⟨e0, u⟩, rfl⟩ : ∃ i x, past = i ++ [x] := ⟨_, _, (List.dropLast_concat_getLast hne).symm⟩
      have hm1 := sput_old (n := .lst []) hm hr
      have hq1 := sput_old (n := .lst []) hq hr
      have kb : KeepBut m L (sput L r (.lst [])) := (KeepBut.of (SubS.refl L)).new hr
      generalize sput L r (.lst []) = L1 at hm1 hq1 kb
      have ea : atI ((init ++ [(e0, u)]).map pstD) (-1) = some (pstD (e0, u)) := by rw [List.map_append]; exact atI_m1 _ _
      refine ⟨m, _, _, _, rfl, rfl, hm1, past_val, _, pstD (e0, u), hq1, ea, .str (tx u), at2_1, m, _, _, _, rfl, rfl, hm1, past_val, _, hq1, fun r2 hr2 => ⟨by show (2 : Nat) ≤ sizeLine; omega, ?_⟩⟩
      have hm2 := sput_old (n := .lst (AL.cutD ((init ++ [(e0, u)]).map pstD) none (some (-1)))) hm1 hr2
      have kb2 : KeepBut m L (sput L1 r2 (.lst (AL.cutD ((init ++ [(e0, u)]).map pstD) none (some (-1))))) := kb.new hr2
      have e2 : sput L1 r2 (.lst (AL.cutD ((init ++ [(e0, u)]).map pstD) none (some (-1)))) r2 = some (.lst (init.map pstD)) := by rw [sput_same, cutD_init]
      have hrm : r2 ≠ m := fun z => by rw [z, hm1] at hr2; cases hr2
      generalize sput L1 r2 (.lst (AL.cutD ((init ++ [(e0, u)]).map pstD) none (some (-1)))) = L2 at hm2 kb2 e2 ⊢
      refine ⟨m, _, _, _, rfl, rfl, hm2, now_val, by show (2 : Nat) < 1000; decide, ?_⟩
      rw [now_set]
      refine ⟨m, _, _, _, rfl, rfl, sput_same, past_val, by show (2 : Nat) < 1000; decide, ?_⟩
      rw [past_set, sput_sput]
      exact ⟨rfl, ret_of (h2 init e0 u rfl _ kb2.at ⟨r2, sput_same, by rw [sput_ne hrm]; exact e2⟩)⟩
    · exact h.elim
def AlkV (L : Store) (n : Nat) (x y : D) : Prop := (x = y ∧ alkD x = true ∧ depD x < n ∧ depD x ≤ 60) ∨ ∃ p q l, x = .ref p ∧ y = .ref q ∧ L p = some (.lst l) ∧ L q = some (.lst l) ∧ l.length ≤ 10000 ∧ 0 < n ∧ ∀ d ∈ l, alkD d = true ∧ depD d + 1 < n ∧ depD d ≤ 60
def asp__law_alike (n : Nat) : ASp
  | [x, y], L, Q, _ => AlkV L n x y ∧ Q (.bl true) L
  | _, _, _, _ => False
theorem stepA__law_alike  (T : Txt K mg base) {scr : Option (Addr × List Int)} (n : Nat) (ih : CallD P w K mg base CX0 (77 + n) "_law_alike" ["_law_one", "_law_other"] [] (spA (cA K scr) (asp__law_alike n))) : CallD P w K mg base CX0 (77 + n + 1) "_law_alike" ["_law_one", "_law_other"] [] (spA (cA K scr) (asp__law_alike (n + 1))) := by
  refine T.d__law_alike.okA sc__law_alike ?len (fun f cdv A outer s H E hr => (as_cons (as_if (at_bl (ae_b (acb_isiA (K := K) rfl T.cls) (by rfl) T.n_isinstance (by decide +kernel) (aa_cons (av 1) (aa_cons (ae_tup (aa_cons (ae_c (d := .ty "tuple") (pe_bltn (v := .ty "tuple") (by rfl) T.n_tuple (by decide +kernel) rfl) (fun _ => rep_ty.mpr rfl)) (aa_cons (ae_c (d := .ty "list") (pe_bltn (v := .ty "list") (by rfl) T.n_list (by decide +kernel) rfl) (fun _ => rep_ty.mpr rfl)) aa_nil))) aa_nil))))
        (as_cons (as_if (at_via (AW.pt (aw_or (at_cmp (aop_neG T.cls (okF_eq T) (hr.mono (by omega)) hr.units) (ae_b (acb_isiA (K := K) rfl T.cls) (by rfl) T.n_isinstance (by decide +kernel) (aa_cons (av 0) (aa_cons (ae_c (d := .ty "tuple") (pe_bltn (v := .ty "tuple") (by rfl) T.n_tuple (by decide +kernel) rfl) (fun _ => rep_ty.mpr rfl)) aa_nil))) (ae_b (acb_isiA (K := K) rfl T.cls) (by rfl) T.n_isinstance (by decide +kernel) (aa_cons (av 1) (aa_cons (ae_c (d := .ty "tuple") (pe_bltn (v := .ty "tuple") (by rfl) T.n_tuple (by decide +kernel) rfl) (fun _ => rep_ty.mpr rfl)) aa_nil))) (nomark _)) (aw_or1 (at_cmp (aop_neG T.cls (okF_eq T) (hr.mono (by omega)) hr.units) (ae_b (acb_isiA (K := K) rfl T.cls) (by rfl) T.n_isinstance (by decide +kernel) (aa_cons (av 0) (aa_cons (ae_c (d := .ty "list") (pe_bltn (v := .ty "list") (by rfl) T.n_list (by decide +kernel) rfl) (fun _ => rep_ty.mpr rfl)) aa_nil))) (ae_b (acb_isiA (K := K) rfl T.cls) (by rfl) T.n_isinstance (by decide +kernel) (aa_cons (av 1) (aa_cons (ae_c (d := .ty "list") (pe_bltn (v := .ty "list") (by rfl) T.n_list (by decide +kernel) rfl) (fun _ => rep_ty.mpr rfl)) aa_nil))) (nomark _))))))
          (as_one (as_ret ae_bl))
          as_nil)
        (as_one (as_ret (ae_and (ae_cmp (aop_eqG (okF_eq T) (hr.mono (by omega)) hr.units) (ae_b acb_len (by rfl) T.n_len (by decide +kernel) (aa_cons (av 0) aa_nil)) (ae_b acb_len (by rfl) T.n_len (by decide +kernel) (aa_cons (av 1) aa_nil)) (nomark _)) (ae_one (ae_b (acb_all rfl) (by rfl) T.n_all (by decide +kernel) (aa_cons (ae_lc (own := [("_law_x", 2), ("_law_y", 3)]) (by rfl) sc__law_alike.nd (ai_zipV (by rfl) T.n_zip (aa_cons (av 0) (aa_cons (av 1) aa_nil))) (blkOk_by (by kernel_rfl)) (tgOk_tup (js := [2, 3]) rfl (by decide)) (fun _ _ _ _ _ => pg_tupK (K := K) rfl rfl (pgs_cons (pg_name (i := 2) sc__law_alike.nd rfl (by first | exact Or.inl rfl | exact Or.inr rfl)) (pgs_cons (pg_name (i := 3) sc__law_alike.nd rfl (by first | exact Or.inl rfl | exact Or.inr rfl)) pgs_nil))) (fun _ _ _ _ _ => (ae_call ih (hr.mono (by omega)) (by rfl) (aa_cons (av 2) (aa_cons (av 3) aa_nil))))) aa_nil)))))))
        as_nil)
      (as_cons (as_if (at_via (AW.pt (aw_or (at_cmp (aop_neG T.cls (okF_eq T) (hr.mono (by omega)) hr.units) (ae_b (acb_isiA (K := K) rfl T.cls) (by rfl) T.n_isinstance (by decide +kernel) (aa_cons (av 0) (aa_cons (ae_c (d := .ty "bool") (pe_bltn (v := .ty "bool") (by rfl) T.n_bool (by decide +kernel) rfl) (fun _ => rep_ty.mpr rfl)) aa_nil))) (ae_b (acb_isiA (K := K) rfl T.cls) (by rfl) T.n_isinstance (by decide +kernel) (aa_cons (av 1) (aa_cons (ae_c (d := .ty "bool") (pe_bltn (v := .ty "bool") (by rfl) T.n_bool (by decide +kernel) rfl) (fun _ => rep_ty.mpr rfl)) aa_nil))) (nomark _)) (aw_or1 (at_cmp (aop_neG T.cls (okF_eq T) (hr.mono (by omega)) hr.units) (ae_b (acb_isiA (K := K) rfl T.cls) (by rfl) T.n_isinstance (by decide +kernel) (aa_cons (av 0) (aa_cons (ae_c (d := .ty "str") (pe_bltn (v := .ty "str") (by rfl) T.n_str (by decide +kernel) rfl) (fun _ => rep_ty.mpr rfl)) aa_nil))) (ae_b (acb_isiA (K := K) rfl T.cls) (by rfl) T.n_isinstance (by decide +kernel) (aa_cons (av 1) (aa_cons (ae_c (d := .ty "str") (pe_bltn (v := .ty "str") (by rfl) T.n_str (by decide +kernel) rfl) (fun _ => rep_ty.mpr rfl)) aa_nil))) (nomark _))))))
        (as_one (as_ret ae_bl))
        as_nil)
      (as_one (as_ret (ae_and (ae_not (ae_b (acb_isiA (K := K) rfl T.cls) (by rfl) T.n_isinstance (by decide +kernel) (aa_cons (av 0) (aa_cons (ae_tup (aa_cons (ae_c (d := .ty "tuple") (pe_bltn (v := .ty "tuple") (by rfl) T.n_tuple (by decide +kernel) rfl) (fun _ => rep_ty.mpr rfl)) (aa_cons (ae_c (d := .ty "list") (pe_bltn (v := .ty "list") (by rfl) T.n_list (by decide +kernel) rfl) (fun _ => rep_ty.mpr rfl)) aa_nil))) aa_nil)))) (ae_one (ae_cmp (aop_eqG (okF_eq T) (hr.mono (by omega)) hr.units) (av 0) (av 1) (nomark _))))))))) ?vc
  case len =>
    intro ds L R RX h
    unfold asp__law_alike at h
    split at h <;> first | rfl | exact h.elim
  case vc =>
    intro ds L R RX h
    unfold asp__law_alike at h
    split at h
    rotate_left
    · exact h.elim
    rename_i x y
    obtain ⟨hv, h⟩ := h
    have hsl := sizeLine_eq
    rcases hv with ⟨rfl, ha, hn, hn2⟩ | ⟨a, b, l, rfl, rfl, ea, eb, hlen, hn, hmem⟩
    rotate_left
    · refine ⟨by show (2 : Nat) ≤ sizeLine; omega, "list", _, true, by show tyM (L b) = _; rw [eb]; rfl, rfl, kitAny_f (kit_b (by decide +kernel)) (kitAny_t (kit_b (by decide +kernel))), ite_t (B := True) rfl ?_⟩
      have tA : tyN L (.ref a) = some "list" := by show tyM (L a) = _; rw [ea]; rfl
      have tB : tyN L (.ref b) = some "list" := by show tyM (L b) = _; rw [eb]; rfl
      refine ⟨fun k L2 => k = false ∧ L2 = L, ?_, fun k L2 ⟨e1, e2⟩ => ?_⟩
      · refine ⟨_, _, false, tA, rfl, kit_b (by decide +kernel), _, _, false, tB, rfl, kit_b (by decide +kernel), ite_f (A := True) rfl ?_⟩
        exact ⟨_, _, true, tA, rfl, kit_b (by decide +kernel), _, _, true, tB, rfl, kit_b (by decide +kernel), rfl, rfl⟩
      subst e2
      refine ite_f e1 ?_
      refine ⟨l, ea, l, eb, ite2 (fun _ => ⟨l, l, ea, eb, fun p hp => ?_⟩) (fun e3 => absurd (by simp) e3)⟩
      rw [zipD_self]
      refine comp_mapA (fun d => .tup [d, d]) (fun _ => D.bl true) (fun _ => ⟨sput_old ea hp, sput_old eb hp⟩) l [] (by show 0 + l.length ≤ _; omega) (fun d hd l2 k hk => ?_) ?_
      · have h1 := hmem d hd
        exact ⟨rfl, rfl, .inl ⟨rfl, h1.1, by omega, h1.2.2⟩, hk⟩
      refine ⟨l.map fun _ => true, by rw [sput_same, List.nil_append, List.map_map]; rfl, ?_⟩
      have e3 : (l.map fun _ => true).all id = true := by rw [List.all_map]; simp
      rw [e3]
      exact ret_sub h ((SubS.refl _).new hp)
    cases x with
    | ref p => cases ha
    | ty n => cases ha
    | scr => cases ha
    | tree u => cases ha
    | obj C ks ds => cases ha
    | err C ks ds => cases ha
    | tup l =>
      have ha : (decide (l.length ≤ 10000) && alkL l) = true := ha
      rw [Bool.and_eq_true] at ha
      have hlen := of_decide_eq_true ha.1
      have hmem := alkL_mem ha.2
      have hdl : depD (.tup l) = depDL l + 1 := rfl
      refine ⟨by show (2 : Nat) ≤ sizeLine; omega, "tuple", _, true, rfl, rfl, kitAny_t (kit_b (by decide +kernel)), ite_t (B := True) rfl ?_⟩
      refine ⟨fun k L2 => k = false ∧ L2 = L, ?_, fun k L2 ⟨e1, e2⟩ => ?_⟩
      · refine ⟨_, _, true, rfl, rfl, kit_b (by decide +kernel), _, _, true, rfl, rfl, kit_b (by decide +kernel), ite_f (A := True) rfl ?_⟩
        exact ⟨_, _, false, rfl, rfl, kit_b (by decide +kernel), _, _, false, rfl, rfl, kit_b (by decide +kernel), rfl, rfl⟩
      subst e2
      refine ite_f e1 ?_
      refine ite2 (fun _ => fun p hp => ?_) (fun e3 => absurd (by simp) e3)
      rw [zipD_self]
      refine comp_mapA (fun d => .tup [d, d]) (fun _ => D.bl true) (fun _ => trivial) l [] (by show 0 + l.length ≤ _; omega) (fun d hd l2 k hk => ?_) ?_
      · have := depD_mem hd
        exact ⟨rfl, rfl, .inl ⟨rfl, hmem d hd, by omega, by omega⟩, hk⟩
      refine ⟨l.map fun _ => true, by rw [sput_same, List.nil_append, List.map_map]; rfl, ?_⟩
      have e3 : (l.map fun _ => true).all id = true := by rw [List.all_map]; simp
      rw [e3]
      exact ret_sub h ((SubS.refl _).new hp)
    | non =>
      refine ⟨by show (2 : Nat) ≤ sizeLine; omega, _, _, false, rfl, rfl, kitAny_f (kit_b (by decide +kernel)) (kitAny_f (kit_b (by decide +kernel)) kitAny_nil), ite_f (A := True) rfl ?_⟩
      refine ⟨fun k L2 => k = false ∧ L2 = L, ?_, fun k L2 ⟨e1, e2⟩ => ?_⟩
      · refine ⟨_, _, false, rfl, rfl, kit_b (by decide +kernel), _, _, false, rfl, rfl, kit_b (by decide +kernel), ite_f (A := True) rfl ?_⟩
        exact ⟨_, _, false, rfl, rfl, kit_b (by decide +kernel), _, _, false, rfl, rfl, kit_b (by decide +kernel), rfl, rfl⟩
      · subst e2
        refine ite_f e1 ?_
        refine ⟨by show (2 : Nat) ≤ sizeLine; omega, _, _, false, rfl, rfl, kitAny_f (kit_b (by decide +kernel)) (kitAny_f (kit_b (by decide +kernel)) kitAny_nil), ?_⟩
        exact ite_t (B := True) rfl ⟨.none, .none, rfl, rfl, by decide +kernel, by decide +kernel, ret_of h⟩
    | bl b =>
      refine ⟨by show (2 : Nat) ≤ sizeLine; omega, _, _, false, rfl, rfl, kitAny_f (kit_b (by decide +kernel)) (kitAny_f (kit_b (by decide +kernel)) kitAny_nil), ite_f (A := True) rfl ?_⟩
      refine ⟨fun k L2 => k = false ∧ L2 = L, ?_, fun k L2 ⟨e1, e2⟩ => ?_⟩
      · refine ⟨_, _, true, rfl, rfl, kit_b (by decide +kernel), _, _, true, rfl, rfl, kit_b (by decide +kernel), ite_f (A := True) rfl ?_⟩
        exact ⟨_, _, false, rfl, rfl, kit_b (by decide +kernel), _, _, false, rfl, rfl, kit_b (by decide +kernel), rfl, rfl⟩
      · subst e2
        refine ite_f e1 ?_
        refine ⟨by show (2 : Nat) ≤ sizeLine; omega, _, _, false, rfl, rfl, kitAny_f (kit_b (by decide +kernel)) (kitAny_f (kit_b (by decide +kernel)) kitAny_nil), ?_⟩
        refine ite_t (B := True) rfl (ret_of ?_)
        show R (.bl (false ^^ decide (b = b))) L2
        rw [decide_eq_true rfl]
        exact h
    | int i =>
      refine ⟨by show (2 : Nat) ≤ sizeLine; omega, _, _, false, rfl, rfl, kitAny_f (kit_b (by decide +kernel)) (kitAny_f (kit_b (by decide +kernel)) kitAny_nil), ite_f (A := True) rfl ?_⟩
      refine ⟨fun k L2 => k = false ∧ L2 = L, ?_, fun k L2 ⟨e1, e2⟩ => ?_⟩
      · refine ⟨_, _, false, rfl, rfl, kit_b (by decide +kernel), _, _, false, rfl, rfl, kit_b (by decide +kernel), ite_f (A := True) rfl ?_⟩
        exact ⟨_, _, false, rfl, rfl, kit_b (by decide +kernel), _, _, false, rfl, rfl, kit_b (by decide +kernel), rfl, rfl⟩
      · subst e2
        refine ite_f e1 ?_
        refine ⟨by show (2 : Nat) ≤ sizeLine; omega, _, _, false, rfl, rfl, kitAny_f (kit_b (by decide +kernel)) (kitAny_f (kit_b (by decide +kernel)) kitAny_nil), ?_⟩
        refine ite_t (B := True) rfl (ret_of ?_)
        show R (.bl (false ^^ decide (i = i))) L2
        rw [decide_eq_true rfl]
        exact h
    | str z =>
      refine ⟨by show (2 : Nat) ≤ sizeLine; omega, _, _, false, rfl, rfl, kitAny_f (kit_b (by decide +kernel)) (kitAny_f (kit_b (by decide +kernel)) kitAny_nil), ite_f (A := True) rfl ?_⟩
      refine ⟨fun k L2 => k = false ∧ L2 = L, ?_, fun k L2 ⟨e1, e2⟩ => ?_⟩
      · refine ⟨_, _, false, rfl, rfl, kit_b (by decide +kernel), _, _, false, rfl, rfl, kit_b (by decide +kernel), ite_f (A := True) rfl ?_⟩
        exact ⟨_, _, true, rfl, rfl, kit_b (by decide +kernel), _, _, true, rfl, rfl, kit_b (by decide +kernel), rfl, rfl⟩
      · subst e2
        refine ite_f e1 ?_
        refine ⟨by show (2 : Nat) ≤ sizeLine; omega, _, _, false, rfl, rfl, kitAny_f (kit_b (by decide +kernel)) (kitAny_f (kit_b (by decide +kernel)) kitAny_nil), ?_⟩
        refine ite_t (B := True) rfl (ret_of ?_)
        show R (.bl (false ^^ decide (z = z))) L2
        rw [decide_eq_true rfl]
        exact h
theorem okA__law_alike  (T : Txt K mg base) {scr : Option (Addr × List Int)} (n : Nat) : CallD P w K mg base CX0 (77 + n) "_law_alike" ["_law_one", "_law_other"] [] (spA (cA K scr) (asp__law_alike n)) := callD_rec (sp := fun n => spA (cA K scr) (asp__law_alike n)) T.d__law_alike (fun vs H Q E ⟨ds, L, R, RX, _, _, h, _⟩ => by
    unfold asp__law_alike at h
    split at h
    · obtain ⟨⟨_, _, z, _⟩ | ⟨_, _, _, _, _, _, _, _, z, _⟩, _⟩ := h
      · exact Nat.not_lt_zero _ z
      · exact Nat.not_lt_zero _ z
    · exact h.elim
    ) (stepA__law_alike T) n
def pyD (x : D × T) : D := .tup [x.1, .tree x.2]
def yst (t : T) (l : List (D × T)) : D := .tup [.tree t, .tup (l.map pyD)]
def YdM (K : PySem.W.Frag) (t : T) (l : List (D × T)) : MO := .ins (He.ga K "Yard") ["state"] [yst t l]
theorem at2_0y {a b : D} : atI [a, b] 0 = some a := show atI _ ((0 : Nat) : Int) = _ from atI_nat rfl
theorem at2_1y {a b : D} : atI [a, b] 1 = some b := show atI _ ((1 : Nat) : Int) = _ from atI_nat rfl
theorem look_st {d : D} : ((["state"] : List Str).zip [d]).lookup ("state" : Str) = some d := by
  show (match ("state" : Str) == ("state" : Str) with | true => some d | false => none) = some d
  rw [beq_self_eq_true]
theorem atI_m1y (l : List D) (x : D) : atI (l ++ [x]) (-1) = some x := by
  have e : ixN (l ++ [x]).length (-1) = some l.length := by
    unfold ixN
    rw [List.length_append, List.length_singleton, if_neg (by decide), if_pos (by omega)]
    congr 1
    omega
  unfold atI
  rw [e]
  simp
theorem ni_Yard (T : Txt K mg base) {scr : Option (Addr × List Int)} : ¬ IC (cA K scr) (He.ga K "Yard") := fun h => by
  rcases h with h | ⟨x, hx, _⟩
  · exact T.ny_Yard h
  · exact absurd hx List.not_mem_nil
def asp_Yard___init__ (K : PySem.W.Frag) : ASp
  | [.ref y, .tree t], L, Q, _ => L y = some (.ins (He.ga K "Yard") [] []) ∧ Q .non (sput L y (YdM K t []))
  | _, _, _, _ => False
theorem okA_Yard___init__  (T : Txt K mg base) {scr : Option (Addr × List Int)} : MakeD P w K mg base CX0 2 "Yard" (He.ga K "Yard") ["self", "fountain"] [] (spA (cA K scr) (asp_Yard___init__ K)) := by
  refine T.init_Yard.okA sc_Yard___init__ ?len (fun f cdv A outer s H E hr => (as_one (as_fldM (K := K) rfl (av 0) (ae_tup (aa_cons (av 1) (aa_cons (ae_tup aa_nil) aa_nil)))))) ?vc
  case len =>
    intro ds L R RX h
    unfold asp_Yard___init__ at h
    split at h <;> first | rfl | exact h.elim
  case vc =>
    intro ds L R RX h
    unfold asp_Yard___init__ at h
    split at h
    · rename_i y t
      obtain ⟨hy, h⟩ := h
      have hsl := sizeLine_eq
      exact ⟨Nat.zero_le _, by show (2 : Nat) ≤ sizeLine; omega, y, _, _, _, rfl, hy, T.o_Yard.c, T.na_Yard_state, .inl rfl, ret_of h⟩
    · exact h.elim
def asp_Yard_now (K : PySem.W.Frag) : ASp
  | [.ref y], L, Q, _ => ∃ t l, L y = some (YdM K t l) ∧ Q (.tree t) L
  | _, _, _, _ => False
theorem okA_Yard_now  (T : Txt K mg base) {scr : Option (Addr × List Int)} : PropD P w K mg base CX0 2 (He.ga K "Yard") "now" (spA (cA K scr) (asp_Yard_now K)) := by
  refine T.p_Yard_now.okA sc_Yard_now ?len (fun f cdv A outer s H E hr => (as_one (as_ret (ae_ix (ae_fldM (K := K) rfl (av 0) rfl) ae_int (fun _ _ => rfl))))) ?vc
  case len =>
    intro ds L R RX h
    unfold asp_Yard_now at h
    split at h <;> first | rfl | exact h.elim
  case vc =>
    intro ds L R RX h
    unfold asp_Yard_now at h
    split at h
    · rename_i y
      obtain ⟨t, l, hy, h⟩ := h
      exact ⟨y, _, _, _, _, rfl, hy, T.o_Yard.c, T.na_Yard_state, look_st, _, at2_0y, ret_of h⟩
    · exact h.elim
def asp_Yard___len__ (K : PySem.W.Frag) : ASp
  | [.ref y], L, Q, _ => ∃ t l, L y = some (YdM K t l) ∧ Q (.int (l.length : Nat)) L
  | _, _, _, _ => False
theorem okA_Yard___len__  (T : Txt K mg base) {scr : Option (Addr × List Int)} : MethD P w K mg base CX0 2 (He.ga K "Yard") "__len__" ["self"] [] (spA (cA K scr) (asp_Yard___len__ K)) := by
  refine T.m_Yard___len__.okA sc_Yard___len__ ?len (fun f cdv A outer s H E hr => (as_one (as_ret (ae_b acb_len (by rfl) T.n_len (by decide +kernel) (aa_cons (ae_ix (ae_fldM (K := K) rfl (av 0) rfl) ae_int (fun _ _ => rfl)) aa_nil))))) ?vc
  case len =>
    intro ds L R RX h
    unfold asp_Yard___len__ at h
    split at h <;> first | rfl | exact h.elim
  case vc =>
    intro ds L R RX h
    unfold asp_Yard___len__ at h
    split at h
    · rename_i y
      obtain ⟨t, l, hy, h⟩ := h
      refine ⟨y, _, _, _, _, rfl, hy, T.o_Yard.c, T.na_Yard_state, look_st, _, at2_1y, ?_⟩
      show ∃ L0, SubS L0 L ∧ R (.int ((l.map pyD).length : Nat)) L0
      rw [List.length_map]
      exact ret_of h
    · exact h.elim
def asp_Yard_log (K : PySem.W.Frag) : ASp
  | [.ref y], L, Q, _ => ∃ t l, L y = some (YdM K t l) ∧ l.length < 1000000 ∧ ∀ r, L r = none → Q (.ref r) (sput L r (.lst (l.map (·.1))))
  | _, _, _, _ => False
theorem okA_Yard_log  (T : Txt K mg base) {scr : Option (Addr × List Int)} : MethD P w K mg base CX0 4 (He.ga K "Yard") "log" ["self"] [] (spA (cA K scr) (asp_Yard_log K)) := by
  refine T.m_Yard_log.okA sc_Yard_log ?len (fun f cdv A outer s H E hr => (as_one (as_ret (ae_lc (own := [("deed", 1), ("fountain", 2)]) (by rfl) sc_Yard_log.nd (ai_tup (ae_ix (ae_fldM (K := K) rfl (av 0) rfl) ae_int (fun _ _ => rfl))) (blkOk_by (by kernel_rfl)) (tgOk_tup (js := [1, 2]) rfl (by decide)) (fun _ _ _ _ _ => pg_tupK (K := K) rfl rfl (pgs_cons (pg_name (i := 1) sc_Yard_log.nd rfl (by first | exact Or.inl rfl | exact Or.inr rfl)) (pgs_cons (pg_name (i := 2) sc_Yard_log.nd rfl (by first | exact Or.inl rfl | exact Or.inr rfl)) pgs_nil))) (fun _ _ _ _ _ => (av 1)))))) ?vc
  case len =>
    intro ds L R RX h
    unfold asp_Yard_log at h
    split at h <;> first | rfl | exact h.elim
  case vc =>
    intro ds L R RX h
    unfold asp_Yard_log at h
    split at h
    · rename_i y
      obtain ⟨t, l, hy, hl, h⟩ := h
      have hsl := sizeLine_eq
      refine ⟨y, _, _, _, _, rfl, hy, T.o_Yard.c, T.na_Yard_state, look_st, _, at2_1y, fun r hr => ?_⟩
      refine comp_mapA pyD (·.1) (fun _ => trivial) l [] (by show 0 + l.length ≤ sizeLine; omega) (fun w hw m k hk => ⟨rfl, rfl, hk⟩) ?_
      rw [List.nil_append]
      exact ret_of (h r hr)
    · exact h.elim
theorem ok_Fountain_text  (T : Txt K mg base) : PropD P w K mg base CX0 1 (cF K) "text" (spV K fun t => .str (tx t)) := by
  refine T.p_text.ok sc_Fountain_text (fun vs H Q E h => ?_) (fun f cdv A outer s H vs Q E hr h => ?_)
  · obtain ⟨v, t, rfl, _⟩ := h
    rfl
  · obtain ⟨v, t, rfl, hf, k⟩ := h
    obtain ⟨a, dx, b, n, vs, rfl, ha, hb, hn, hk⟩ := ftn_iff.mp hf
    refine ⟨_, (pss_one (ps_ret (pe_fld (pv 0) rfl))), ?_⟩
    exact ⟨.ref a, rfl, a, _, dx, _, _, rfl, ha, T.cls.c, T.cls.nw, fl_w, k⟩
def logY (past : List (Deed × T)) : List (D × T) := past.map fun x => (deedD x.1, x.2)
theorem barL_len (b : JW.T) : ∀ (l : List JW.T) (i : Nat), (∀ t ∈ l, ∀ p, barT b t = some p → p.length ≤ t.dep) → ∀ p, barL b i l = some p → p.length ≤ 1 + depL l
  | [], _, _, p, h => by cases h
  | t :: l, i, k, p, h => by
    have h2 : (match barT b t with | some p => some (i :: p) | none => barL b (i + 1) l) = some p := h
    show p.length ≤ 1 + max t.dep (depL l)
    cases e : barT b t with
    | some q =>
      rw [e] at h2
      have e2 : i :: q = p := Option.some.inj h2
      have := k t List.mem_cons_self q e
      rw [← e2, List.length_cons]
      omega
    | none =>
      rw [e] at h2
      have := barL_len b l (i + 1) (fun u hu => k u (List.mem_cons_of_mem _ hu)) p h2
      omega
theorem bar_len (b : JW.T) : ∀ t : JW.T, ∀ p, barT b t = some p → p.length ≤ t.dep := by
  refine T.ind' (fun p h => ?_) fun l ih p h => ?_
  · have h2 : (if JW.T.jet = b then none else some ([] : List Nat)) = some p := h
    split at h2
    · cases h2
    · cases h2
      exact Nat.zero_le _
  · have h2 : (if JW.T.bas l = b then none else barL b 0 l) = some p := h
    split at h2
    · cases h2
    · exact barL_len b l 0 ih p h2
theorem alk_tx {t : JW.T} (h : t.size ≤ 1000) : alkD (.str (tx t)) = true := decide_eq_true (by have := tx_length t; omega)
theorem alk_tup {l : List D} (h : l.length ≤ 10000) (k : ∀ d ∈ l, alkD d = true) : alkD (.tup l) = true := by
  show (decide (l.length ≤ 10000) && alkL l) = true
  rw [decide_eq_true h, alkL_of k]
  rfl
theorem alk_ints {p : List Nat} (h : p.length ≤ 10000) : alkD (.tup (p.map fun k : Nat => D.int (k : Nat))) = true := alk_tup (by rw [List.length_map]; exact h) fun d hd => by
  obtain ⟨k, _, rfl⟩ := List.mem_map.mp hd
  rfl
theorem alk_2 {a b : D} (h1 : alkD a = true) (h2 : alkD b = true) : alkD (.tup [a, b]) = true := alk_tup (by show (2 : Nat) ≤ 10000; decide) fun d hd => by
  rcases List.mem_cons.mp hd with e | hd
  · rw [e]; exact h1
  · rw [List.mem_singleton.mp hd]; exact h2
theorem alk_3 {a b c : D} (h1 : alkD a = true) (h2 : alkD b = true) (h3 : alkD c = true) : alkD (.tup [a, b, c]) = true := alk_tup (by show (3 : Nat) ≤ 10000; decide) fun d hd => by
  rcases List.mem_cons.mp hd with e | hd
  · rw [e]; exact h1
  rcases List.mem_cons.mp hd with e | hd
  · rw [e]; exact h2
  · rw [List.mem_singleton.mp hd]; exact h3
theorem alk_1 {a : D} (h1 : alkD a = true) : alkD (.tup [a]) = true := alk_tup (by show (1 : Nat) ≤ 10000; decide) fun d hd => by
  rw [List.mem_singleton.mp hd]; exact h1
theorem alk_deed {t : JW.T} {e : Deed} (h : DOk t e) : alkD (deedD e) = true := by
  cases e with
  | put p b =>
    obtain ⟨⟨s, hs⟩, _, h1, h2, h3, _⟩ := h
    have := sub_dep p t s hs
    exact alk_3 (by decide +kernel) (alk_ints (by omega)) (alk_tx (by omega))
  | exch p q =>
    obtain ⟨⟨s, hs⟩, ⟨r, hr⟩, h1, h2⟩ := h
    have := sub_dep p t s hs
    have := sub_dep q t r hr
    exact alk_3 (by decide +kernel) (alk_ints (by omega)) (alk_ints (by omega))
  | grow b =>
    obtain ⟨_, h1, _⟩ := h
    exact alk_2 (by decide +kernel) (alk_tx (by omega))
  | trim b =>
    obtain ⟨_, h1, _⟩ := h
    exact alk_2 (by decide +kernel) (alk_tx (by omega))
theorem depD_ints (p : List Nat) : depDL (p.map fun k : Nat => D.int (k : Nat)) = 0 := depDL_map (fun _ => rfl) p
theorem nxt_alk {t : JW.T} {e : Deed} (h : DOk t e) : alkD (nxt t e).1 = true ∧ depD (nxt t e).1 ≤ 5 := by
  cases e with
  | put p b =>
    obtain ⟨⟨s, hs⟩, _, h1, h2, h3, _⟩ := h
    have := sub_bnd p t s hs
    show alkD (.tup [.str "put", .str (tx ((subT p t).getD .jet))]) = true ∧ _
    rw [hs]
    exact ⟨alk_2 (by decide +kernel) (alk_tx (by show s.size ≤ 1000; omega)), by show max 0 (max 0 0) + 1 ≤ 5; decide⟩
  | exch p q =>
    by_cases hn : nested p q
    · have e : nxt t (.exch p q) = (.tup [.str "nested"], none) := if_pos hn
      rw [e]
      exact ⟨alk_1 (by decide +kernel), by show max 0 0 + 1 ≤ 5; decide⟩
    · have e : nxt t (.exch p q) = (toldD, some (swT t [(p, (subT q t).getD .jet), (q, (subT p t).getD .jet)])) := if_neg hn
      rw [e]
      exact ⟨alk_2 (by decide +kernel) rfl, by show max 0 (max 0 0) + 1 ≤ 5; decide⟩
  | grow b => exact ⟨alk_2 (by decide +kernel) rfl, by show max 0 (max 0 0) + 1 ≤ 5; decide⟩
  | trim b =>
    obtain ⟨_, h1, h2, h3⟩ := h
    by_cases hj : b.jts = 0
    · have e : nxt t (.trim b) = (.tup [.str "closed"], none) := if_pos hj
      rw [e]
      exact ⟨alk_1 (by decide +kernel), by show max 0 0 + 1 ≤ 5; decide⟩
    · by_cases hv : cov b t = true
      · have e : nxt t (.trim b) = (toldD, some (cutT b t)) := (if_neg hj).trans (if_pos hv)
        rw [e]
        exact ⟨alk_2 (by decide +kernel) rfl, by show max 0 (max 0 0) + 1 ≤ 5; decide⟩
      · have e : nxt t (.trim b) = (.tup [.str "quotient", placeD [] (barT b t)], none) := (if_neg hj).trans (if_neg hv)
        rw [e]
        cases hb : barT b t with
        | none => exact absurd ((bar_cov b t).mp hb) hv
        | some p =>
          have := bar_len b t p hb
          have e2 : placeD [] (some p) = .tup (p.map fun k : Nat => D.int (k : Nat)) := rfl
          rw [e2]
          refine ⟨alk_2 (by decide +kernel) (alk_ints (by omega)), ?_⟩
          show max 0 (max (depDL (p.map fun k : Nat => D.int (k : Nat)) + 1) 0) + 1 ≤ 5
          rw [depD_ints]
          decide
structure StY (K : PySem.W.Frag) (L : Store) (d y m : Addr) (t : JW.T) (past : List (Deed × JW.T)) (n : Nat) : Prop where
  box : L d = some boxM
  yd : L y = some (YdM K t (logY past))
  mn : MineS L m t past
  len : past.length ≤ n
  can : Can t
  sz : t.size ≤ 1000
  dp : t.dep ≤ 110
  alk : ∀ x ∈ past, alkD (deedD x.1) = true
  old : ∀ x ∈ past, Can x.2 ∧ x.2.size ≤ 1000 ∧ x.2.dep ≤ 110
theorem StY.sub {K : PySem.W.Frag} {L L' : Store} {d y m : Addr} {t : JW.T} {past : List (Deed × JW.T)} {n : Nat} (h : StY K L d y m t past n) (s : SubS L L') : StY K L' d y m t past n := by
  obtain ⟨q, h1, h2⟩ := h.mn
  exact ⟨s _ _ h.box, s _ _ h.yd, ⟨q, s _ _ h1, s _ _ h2⟩, h.len, h.can, h.sz, h.dp, h.alk, h.old⟩
theorem StY.mono {K : PySem.W.Frag} {L : Store} {d y m : Addr} {t : JW.T} {past : List (Deed × JW.T)} {n k : Nat} (h : StY K L d y m t past n) (e : n ≤ k) : StY K L d y m t past k := ⟨h.box, h.yd, h.mn, Nat.le_trans h.len e, h.can, h.sz, h.dp, h.alk, h.old⟩
theorem MineS.yd {K : PySem.W.Frag} {L : Store} {y m : Addr} {t u : JW.T} {past : List (Deed × JW.T)} {l : List (D × JW.T)} (h : MineS L m t past) (hy : L y = some (YdM K u l)) (x : MO) : MineS (sput L y x) m t past := by
  obtain ⟨q, h1, h2⟩ := h
  exact ⟨q, by rw [sput_ne fun z => by rw [z, hy] at h1; cases h1]; exact h1, by rw [sput_ne fun z => by rw [z, hy] at h2; cases h2]; exact h2⟩
theorem StY.ne {K : PySem.W.Frag} {L : Store} {d y m : Addr} {t : JW.T} {past : List (Deed × JW.T)} {n : Nat} (h : StY K L d y m t past n) : d ≠ m ∧ y ≠ m ∧ d ≠ y := by
  obtain ⟨q, h1, h2⟩ := h.mn
  refine ⟨fun z => ?_, fun z => ?_, fun z => ?_⟩
  · have := h.box
    rw [z, h1] at this
    cases this
  · have := h.yd
    rw [z, h1] at this
    cases this
  · have := h.box
    rw [z, h.yd] at this
    cases this
def KeepB2 (y m : Addr) (L L' : Store) : Prop := ∀ a x, a ≠ y → a ≠ m → L a = some x → L' a = some x
theorem KeepB2.refl (y m : Addr) (L : Store) : KeepB2 y m L L := fun _ _ _ _ h => h
theorem KeepB2.trans {y m : Addr} {L L1 L2 : Store} (a : KeepB2 y m L L1) (b : KeepB2 y m L1 L2) : KeepB2 y m L L2 := fun p x h1 h2 h => b p x h1 h2 (a p x h1 h2 h)
theorem KeepB2.of {y m : Addr} {L L' : Store} (h : SubS L L') : KeepB2 y m L L' := fun a x _ _ e => h a x e
theorem KeepB2.put {y m : Addr} {L : Store} {x : MO} : KeepB2 y m L (sput L y x) := fun a z h1 _ e => by rw [sput_ne h1]; exact e
def asp__law_stands (K : PySem.W.Frag) : ASp
  | [.ref y, .ref m], L, Q, _ => ∃ (t : T) (past : List (Deed × T)), L y = some (YdM K t (logY past)) ∧ MineS L m t past ∧ past.length ≤ 1000 ∧ t.size ≤ 1000 ∧ (∀ x ∈ past, alkD (deedD x.1) = true) ∧ Q (.bl true) L
  | _, _, _, _ => False
theorem okA__law_stands  (T : Txt K mg base) {scr : Option (Addr × List Int)} : CallD P w K mg base CX0 151 "_law_stands" ["_law_yard", "_law_mine"] [] (spA (cA K scr) (asp__law_stands K)) := by
  refine T.d__law_stands.okA sc__law_stands ?len (fun f cdv A outer s H E hr => (as_cons (as_setLc (own := [("_law_deed_here", 3), ("_law_text", 4)]) (i := 2) (by rfl) sc__law_stands.nd rfl rfl (sw_true rfl rfl rfl (by decide +kernel)) (ai_list (ae_dget (hu_of hr) (av 1) ae_str (fun _ _ => rfl))) (blkOk_by (by kernel_rfl)) (tgOk_tup (js := [3, 4]) rfl (by decide)) (fun _ _ _ _ _ => pg_tupK (K := K) rfl rfl (pgs_cons (pg_name (i := 3) sc__law_stands.nd rfl (by first | exact Or.inl rfl | exact Or.inr rfl)) (pgs_cons (pg_name (i := 4) sc__law_stands.nd rfl (by first | exact Or.inl rfl | exact Or.inr rfl)) pgs_nil))) (fun _ _ _ _ _ => (av 3)))
      (as_one (as_ret (ae_and (ae_cmp (aop_eqG (okF_eq T) (hr.mono (by decide)) hr.units) (ae_propG (fun t => .str (tx t)) (fun _ _ => rep_str.mpr rfl) T.cls.c (ok_Fountain_text T) (hr.mono (by decide)) (ae_propM (K := K) rfl T.o_Yard.c (okA_Yard_now T) (hr.mono (by decide)) (av 0) rfl) rfl) (ae_dget (hu_of hr) (av 1) ae_str (fun _ _ => rfl)) (nomark _)) (ae_and (ae_cmp (aop_eqG (okF_eq T) (hr.mono (by decide)) hr.units) (ae_b (acb_lenM T.m_Yard___len__ (okA_Yard___len__ T) (hr.mono (by decide))) (by rfl) T.n_len (by decide +kernel) (aa_cons (av 0) aa_nil)) (ae_b acb_len (by rfl) T.n_len (by decide +kernel) (aa_cons (av 2) aa_nil)) (nomark _)) (ae_one (ae_call (okA__law_alike T 8) (hr.mono (by decide)) (by rfl) (aa_cons (ae_meth0M (K := K) rfl T.o_Yard.c (okA_Yard_log T) (hr.mono (by decide)) (av 0)) (aa_cons (av 2) aa_nil)))))))))) ?vc
  case len =>
    intro ds L R RX h
    unfold asp__law_stands at h
    split at h <;> first | rfl | exact h.elim
  case vc =>
    intro ds L R RX h
    unfold asp__law_stands at h
    split at h
    · rename_i y m
      obtain ⟨t, past, hy, ⟨q, hm, hq⟩, hl, hz, ha, h⟩ := h
      have hsl := sizeLine_eq
      refine ⟨m, _, _, _, rfl, rfl, hm, past_val, _, hq, fun r hr => ?_⟩
      refine comp_mapA pstD (fun w => deedD w.1) (fun l => sput_old hq hr) past [] (by show 0 + past.length ≤ sizeLine; omega) (fun w hw l k hk => ⟨rfl, rfl, hk⟩) ?_
      rw [List.nil_append]
      have hy1 := sput_old (n := .lst (past.map fun w => deedD w.1)) hy hr
      have hm1 := sput_old (n := .lst (past.map fun w => deedD w.1)) hm hr
      have hr1 : sput L r (.lst (past.map fun w => deedD w.1)) r = some (.lst (past.map fun w => deedD w.1)) := sput_same
      have sb := (SubS.refl L).new (m := .lst (past.map fun w => deedD w.1)) hr
      generalize sput L r (.lst (past.map fun w => deedD w.1)) = L1 at hy1 hm1 hr1 sb ⊢
      have hll : (logY past).length = past.length := List.length_map _
      have hl2 : (past.map fun w => deedD w.1).length = past.length := List.length_map _
      refine ⟨⟨_, _, hy1, by decide⟩, t, _, hy1, m, _, _, _, rfl, rfl, hm1, now_val, ite2 (fun _ => ?_) (fun e => absurd (by simp) e)⟩
      refine ⟨⟨_, _, hy1⟩, t, _, hy1, (logY past).length, rfl, by omega, _, hr1, ite2 (fun _ => ?_) (fun e => absurd (by rw [hll, hl2]; simp) e)⟩
      refine ⟨⟨_, _, hy1, by decide⟩, t, _, hy1, by omega, fun r2 hr2 => ?_⟩
      have el : (logY past).map (·.1) = past.map fun w => deedD w.1 := by unfold logY; rw [List.map_map]; rfl
      rw [el]
      refine ⟨.inr ⟨r2, r, _, rfl, rfl, sput_same, sput_old hr1 hr2, by omega, by decide, fun d hd => ?_⟩, ret_sub h (sb.new hr2)⟩
      obtain ⟨w, hw, rfl⟩ := List.mem_map.mp hd
      have := dep_deed w.1
      exact ⟨ha w hw, by omega, by omega⟩
    · exact h.elim
def asp__law_pick : ASp
  | [.ref p, .ref q], L, Q, _ => L p = some boxM ∧ ∃ l, L q = some (.lst l) ∧ l ≠ [] ∧ l.length < 1073741824 ∧ ∀ d ∈ l, Q d L
  | _, _, _, _ => False
theorem okA__law_pick  (T : Txt K mg base) {scr : Option (Addr × List Int)} : CallD P w K mg base CX0 6 "_law_pick" ["_law_box_here", "_law_items"] [] (spA (cA K scr) (asp__law_pick)) := by
  refine T.d__law_pick.okA sc__law_pick ?len (fun f cdv A outer s H E hr => (as_one (as_ret (ae_ix (av 1) (ae_call (okA__law_take T) (hr.mono (by decide)) (by rfl) (aa_cons (av 0) (aa_cons (ae_b acb_len (by rfl) T.n_len (by decide +kernel) (aa_cons (av 1) aa_nil)) aa_nil))) (fun _ _ => rfl))))) ?vc
  case len =>
    intro ds L R RX h
    unfold asp__law_pick at h
    split at h <;> first | rfl | exact h.elim
  case vc =>
    intro ds L R RX h
    unfold asp__law_pick at h
    split at h
    · rename_i p q
      obtain ⟨hp, l, hq, hl, hz, h⟩ := h
      have h1 : 0 < l.length := List.length_pos_iff.mpr hl
      refine ⟨_, hq, hp, by omega, by omega, fun v v0 v1 => ?_⟩
      obtain ⟨i, rfl⟩ := Int.eq_ofNat_of_zero_le v0
      have hi : i < l.length := by omega
      exact ⟨l, l[i], hq, atI_nat (List.getElem?_eq_getElem hi), ret_of (h _ (List.getElem_mem hi))⟩
    · exact h.elim
def asp__law_deed : ASp
  | [.ref p, .str z], L, Q, _ => L p = some boxM ∧ ∃ t : JW.T, z = tx t ∧ Can t ∧ t.size ≤ 1000 ∧ t.dep ≤ 110 ∧ ∀ e, DOk t e → DSm t e → Q (deedD e) L
  | _, _, _, _ => False
theorem okA__law_deed  (T : Txt K mg base) {scr : Option (Addr × List Int)} : CallD P w K mg base CX0 191 "_law_deed" ["_law_box_here", "_law_text"] [] (spA (cA K scr) (asp__law_deed)) := by
  refine T.d__law_deed.okA sc__law_deed ?len (fun f cdv A outer s H E hr => (as_cons (as_par (i := 2) (j := 3) (by rfl) sc__law_deed.nd rfl rfl (by decide) rfl rfl (aa_cons (ae_call (okA__law_pieces T 112) (hr.mono (by decide)) (by rfl) (aa_cons (av 1) (aa_cons (ae_tup aa_nil) aa_nil))) (aa_cons (ae_call (okA__law_take T) (hr.mono (by decide)) (by rfl) (aa_cons (av 0) (aa_cons ae_int aa_nil))) aa_nil)) (by rfl))
      (as_cons (as_par (i := 4) (j := 5) (by rfl) sc__law_deed.nd rfl rfl (by decide) rfl rfl (aa_cons (ae_call (okA__law_pick T) (hr.mono (by decide)) (by rfl) (aa_cons (av 0) (aa_cons (av 2) aa_nil))) (aa_cons (ae_call (okA__law_pick T) (hr.mono (by decide)) (by rfl) (aa_cons (av 0) (aa_cons (av 2) aa_nil))) aa_nil)) (by rfl))
      (as_cons (as_if (at_via (AW.pt (aw_or (at_cmp aop_gt (ae_b acb_len (by rfl) T.n_len (by decide +kernel) (aa_cons (av 2) aa_nil)) ae_int (nomark _)) (aw_or1 (at_cmp aop_gt (ae_call (okA__law_depth T) (hr.mono (by decide)) (by rfl) (aa_cons (av 1) aa_nil)) ae_int (nomark _))))))
        (as_one (as_ret (ae_tup (aa_cons ae_str (aa_cons (ae_tup aa_nil) (aa_cons (ae_call (okA__law_composed T) (hr.mono (by decide)) (by rfl) (aa_cons (av 0) (aa_cons ae_int aa_nil))) aa_nil))))))
        as_nil)
      (as_cons (as_if (at_cmp aop_lt (av 3) ae_int (nomark _))
        (as_one (as_ret (ae_tup (aa_cons ae_str (aa_cons (ae_ix (av 4) ae_int (fun _ _ => rfl)) (aa_cons (ae_call (okA__law_any T) (hr.mono (by decide)) (by rfl) (aa_cons (av 0) (aa_cons ae_int aa_nil))) aa_nil))))))
        as_nil)
      (as_cons (as_if (at_cmp aop_lt (av 3) ae_int (nomark _))
        (as_one (as_ret (ae_tup (aa_cons ae_str (aa_cons (ae_ix (av 4) ae_int (fun _ _ => rfl)) (aa_cons (ae_ix (av 5) ae_int (fun _ _ => rfl)) aa_nil))))))
        as_nil)
      (as_cons (as_if (at_cmp aop_lt (av 3) ae_int (nomark _))
        (as_one (as_ret (ae_tup (aa_cons ae_str (aa_cons (ae_ix (ae_lst (aa_cons (ae_call (okA__law_open T) (hr.mono (by decide)) (by rfl) (aa_cons (av 0) (aa_cons ae_int aa_nil))) (aa_cons (ae_call (okA__law_any T) (hr.mono (by decide)) (by rfl) (aa_cons (av 0) (aa_cons ae_int aa_nil))) aa_nil))) (ae_call (okA__law_take T) (hr.mono (by decide)) (by rfl) (aa_cons (av 0) (aa_cons ae_int aa_nil))) (fun _ _ => rfl)) aa_nil)))))
        as_nil)
      (as_cons (as_setLcIf (own := [("_law_path", 7), ("_law_piece", 8)]) (i := 6) (by rfl) sc__law_deed.nd rfl rfl (sw_true rfl rfl rfl (by decide +kernel)) (ai_list (av 2)) (blkOk_by (by kernel_rfl)) (tgOk_tup (js := [7, 8]) rfl (by decide)) (fun _ _ _ _ _ => pg_tupK (K := K) rfl rfl (pgs_cons (pg_name (i := 7) sc__law_deed.nd rfl (by first | exact Or.inl rfl | exact Or.inr rfl)) (pgs_cons (pg_name (i := 8) sc__law_deed.nd rfl (by first | exact Or.inl rfl | exact Or.inr rfl)) pgs_nil))) (fun _ _ _ _ _ => (at_via (AW.pt (aw_and (at_cmp aop_lt (ae_call (okA__law_size T) (hr.mono (by decide)) (by rfl) (aa_cons (av 8) aa_nil)) ae_int (nomark _)) (aw_and1 (at_cmp aop_isnot (ae_call (okA__law_over T 52) (hr.mono (by decide)) (by rfl) (aa_cons (av 1) (aa_cons (av 8) aa_nil))) ae_non (nomark _))))))) (fun _ _ _ _ _ => (av 8)))
      (as_one (as_ret (ae_tup (aa_cons ae_str (aa_cons (ae_call (okA__law_pick T) (hr.mono (by decide)) (by rfl) (aa_cons (av 0) (aa_cons (ae_op aop_add (av 6) (ae_lst (aa_cons (ae_call (okA__law_any T) (hr.mono (by decide)) (by rfl) (aa_cons (av 0) (aa_cons ae_int aa_nil))) aa_nil))) aa_nil))) aa_nil))))))))))))) ?vc
  case len =>
    intro ds L R RX h
    unfold asp__law_deed at h
    split at h <;> first | rfl | exact h.elim
  case vc =>
    intro ds L R RX h
    unfold asp__law_deed at h
    split at h
    · rename_i p z
      obtain ⟨hp, t, rfl, hc, hz, hd, h⟩ := h
      have hsl := sizeLine_eq
      refine ⟨Nat.zero_le _, t, [], rfl, rfl, by omega, by omega, by show 0 + t.dep ≤ _; omega, fun r hr => ⟨sput_old hp hr, by decide, by decide, fun v v0 v1 => ?_⟩⟩
      have hp1 := sput_old (n := .lst ((pcsP [] t).map dpc)) hp hr
      have hr1 : sput L r (.lst ((pcsP [] t).map dpc)) r = some (.lst ((pcsP [] t).map dpc)) := sput_same
      have sb := (SubS.refl L).new (m := .lst ((pcsP [] t).map dpc)) hr
      generalize sput L r (.lst ((pcsP [] t).map dpc)) = L1 at hp1 hr1 sb ⊢
      have hpl : ((pcsP [] t).map dpc).length = t.size := by rw [List.length_map, pcs_len]
      have hsp := size_pos t
      have hne : (pcsP [] t).map dpc ≠ [] := fun z => by
        have z2 := congrArg List.length z
        rw [hpl] at z2
        have z3 : ([] : List D).length = 0 := rfl
        omega
      have sub : ∀ q ∈ pcsP [] t, subT q.1 t = some q.2 := fun q hq => by
        obtain ⟨r, e1, e2⟩ := pcs_sub t [] q hq
        rw [e1, List.nil_append]
        exact e2
      refine ⟨hp1, _, hr1, hne, by omega, fun d1 hd1 => ⟨hp1, _, hr1, hne, by omega, fun d2 hd2 => ?_⟩⟩
      obtain ⟨q1, hq1, rfl⟩ := List.mem_map.mp hd1
      obtain ⟨q2, hq2, rfl⟩ := List.mem_map.mp hd2
      have s1 := sub q1 hq1
      have s2 := sub q2 hq2
      refine ⟨fun k L2 => L2 = L1 ∧ (k = false → t.size ≤ 150 ∧ t.dep ≤ 50), ?_, fun k L2 ⟨e1, e2⟩ => ?_⟩
      · refine ⟨_, hr1, ite2 (fun e => ⟨rfl, fun z => by cases z⟩) (fun e => ⟨t, rfl, by omega, rfl, fun z => ?_⟩)⟩
        have e3 := of_decide_eq_false (Bool.eq_false_iff.mpr e)
        have e4 := of_decide_eq_false z
        rw [hpl] at e3
        exact ⟨by omega, by omega⟩
      subst e1
      cases k with
      | true => exact ite_t (B := True) rfl ⟨Nat.zero_le _, hp1, by decide, by decide, fun b hb hs => ⟨by show (3 : Nat) ≤ sizeLine; omega, ret_sub (h (.put [] b) ⟨⟨t, rfl⟩, hb, by omega, by omega, by omega, .inl rfl⟩ trivial) sb⟩⟩
      | false =>
        obtain ⟨z1, z2⟩ := e2 rfl
        refine ite_f (A := True) rfl ?_
        refine ite2 (fun _ => ⟨_, at2_0, hp1, by decide, by decide, fun b hb hs => ⟨by show (3 : Nat) ≤ sizeLine; omega, ret_sub (h (.put q1.1 b) ⟨⟨_, s1⟩, hb, by omega, by omega, by omega, .inr ⟨z1, z2⟩⟩ trivial) sb⟩⟩) (fun _ => ?_)
        refine ite2 (fun _ => ⟨_, at2_0, _, at2_0, by show (3 : Nat) ≤ sizeLine; omega, ret_sub (h (.exch q1.1 q2.1) ⟨⟨_, s1⟩, ⟨_, s2⟩, z1, z2⟩ trivial) sb⟩) (fun _ => ?_)
        refine ite2 (fun _ => ⟨hp1, by decide, by decide, fun b hb _ hs => ⟨hp1, by decide, by decide, fun b2 hb2 hs2 => ⟨by show (2 : Nat) ≤ sizeLine; omega, fun F hF => ⟨sput_old hp1 hF, by decide, by decide, fun w w0 w1 => ?_⟩⟩⟩⟩) (fun _ => ?_)
        · obtain rfl | rfl : w = 0 ∨ w = 1 := by omega
          · exact ⟨_, _, sput_same, at2_0, by show (2 : Nat) ≤ sizeLine; omega, ret_sub (h (.grow b) ⟨hb, by omega, by omega, by omega⟩ ⟨z1, z2⟩) (sb.new hF)⟩
          · exact ⟨_, _, sput_same, at2_1, by show (2 : Nat) ≤ sizeLine; omega, ret_sub (h (.grow b2) ⟨hb2, by omega, by omega, by omega⟩ ⟨z1, z2⟩) (sb.new hF)⟩
        refine ⟨_, hr1, fun P hP => ?_⟩
        refine comp_accF (fun x => ∃ b : JW.T, x = .str (tx b) ∧ Can b ∧ b.size ≤ 60) (fun l => sput_old hr1 hP) _ [] (by show 0 + _ ≤ _; omega) (fun d hd l k k0 k1 => ?_) (fun x hx => absurd hx List.not_mem_nil) (fun xs hl hx => ?_)
        · obtain ⟨q, hq, rfl⟩ := List.mem_map.mp hd
          have s3 := sub q hq
          have s4 := sub_bnd q.1 t q.2 s3
          refine ⟨rfl, rfl, fun k L9 => L9 = sput L2 P (.lst l) ∧ (k = true → q.2.size ≤ 60), ?_, ?_⟩
          · exact ⟨q.2, rfl, ite2 (fun e => ⟨t, q.2, rfl, rfl, hc, by omega, by omega, Eq.refl (sput L2 P (.lst l)), fun _ => by have := of_decide_eq_true e; omega⟩) (fun e => ⟨Eq.refl (sput L2 P (.lst l)), fun z => absurd z Bool.false_ne_true⟩)⟩
          · intro b L3 ⟨e, z⟩
            subst e
            cases b with
            | false => exact ite_f (A := True) rfl k0
            | true => exact ite_t (B := True) rfl (k1 _ ⟨q.2, rfl, sub_can q.1 t q.2 hc s3, z rfl⟩)
        · have hlen : xs.length ≤ 150 := by
            have z : ([] : List D).length = 0 := rfl
            omega
          refine ⟨sput_old hp1 hP, by decide, by decide, fun b hb hs => ⟨by show (1 : Nat) ≤ sizeLine; omega, fun F hF => ⟨xs, _, sput_old sput_same hF, sput_same, by show xs.length + 1 ≤ _; omega, fun C hC => ?_⟩⟩⟩
          refine ⟨sput_old (sput_old (sput_old hp1 hP) hF) hC, _, sput_same, by simp, by rw [List.length_append]; show xs.length + 1 < _; omega, fun d hd => ?_⟩
          obtain ⟨b2, rfl, c2, z3⟩ : ∃ b2, d = .str (tx b2) ∧ Can b2 ∧ b2.size ≤ 60 := by
            rcases List.mem_append.mp hd with e | e
            · exact hx d e
            · exact ⟨b, List.mem_singleton.mp e, hb, by omega⟩
          exact ⟨by show (2 : Nat) ≤ sizeLine; omega, ret_sub (h (.trim b2) ⟨c2, z3, z1, z2⟩ trivial) (((sb.new hP).new hF).new hC)⟩
    · exact h.elim
def kR : D → Bool
  | .tup [_, .bl b] => b
  | _ => false
def fR : D → D
  | .tup [x, _] => x
  | d => d
def asp__law_refusal : AsE := fun y fs L Q => ((y = "NoQuotient" ∧ ∃ d, fs = [(("place" : Str), d)] ∧ Q (.tup [.str "quotient", d]) L) ∨ (y = "Nested" ∧ fs = [] ∧ Q (.tup [.str "nested"]) L) ∨ (y = "Closed" ∧ fs = [] ∧ Q (.tup [.str "closed"]) L))
theorem okE__law_refusal (T : Txt K mg base) {scr : Option (Addr × List Int)} : CallE P w K mg base 11 "_law_refusal" ["_law_e"] (cA K scr) asp__law_refusal := by
  refine T.d__law_refusal.okE sc__law_refusal rfl (fun f cdv A outer s H E b oe cls d y fs H1 hotc hpn hr hz hfl he her => (as_cons (as_if (at_bl (ae_isP (K := K) (i := 0) rfl hpn hz hfl he her (by rfl) T.n_isinstance rfl (by first | exact Or.inl rfl | exact Or.inr rfl) (by rfl) T.e_NoPlace.g))
        (as_one (as_ret (ae_tup (aa_cons ae_str (aa_cons (ae_xfP (K := K) rfl hpn hz hfl he her (i := 0) rfl (by first | exact Or.inl rfl | exact Or.inr rfl)) aa_nil)))))
        as_nil)
      (as_cons (as_if (at_bl (ae_isP (K := K) (i := 0) rfl hpn hz hfl he her (by rfl) T.n_isinstance rfl (by first | exact Or.inl rfl | exact Or.inr rfl) (by rfl) T.e_NoQuotient.g))
        (as_one (as_ret (ae_tup (aa_cons ae_str (aa_cons (ae_xfP (K := K) rfl hpn hz hfl he her (i := 0) rfl (by first | exact Or.inl rfl | exact Or.inr rfl)) aa_nil)))))
        as_nil)
      (as_cons (as_if (at_bl (ae_isP (K := K) (i := 0) rfl hpn hz hfl he her (by rfl) T.n_isinstance rfl (by first | exact Or.inl rfl | exact Or.inr rfl) (by rfl) T.e_TooLarge.g))
        (as_one (as_ret (ae_tup (aa_cons ae_str (aa_cons (ae_xfP (K := K) rfl hpn hz hfl he her (i := 0) rfl (by first | exact Or.inl rfl | exact Or.inr rfl)) aa_nil)))))
        as_nil)
      (as_cons (as_if (at_bl (ae_isP (K := K) (i := 0) rfl hpn hz hfl he her (by rfl) T.n_isinstance rfl (by first | exact Or.inl rfl | exact Or.inr rfl) (by rfl) T.e_TooDeep.g))
        (as_one (as_ret (ae_tup (aa_cons ae_str (aa_cons (ae_xfP (K := K) rfl hpn hz hfl he her (i := 0) rfl (by first | exact Or.inl rfl | exact Or.inr rfl)) aa_nil)))))
        as_nil)
      (as_cons (as_set (i := 1) sc__law_refusal.nd rfl (by first | exact Or.inl rfl | exact Or.inr rfl) (ae_lst (aa_cons (ae_tup (aa_cons ae_str (aa_cons (ae_isP (K := K) (i := 0) rfl hpn hz hfl he her (by rfl) T.n_isinstance rfl (by first | exact Or.inl rfl | exact Or.inr rfl) (by rfl) T.e_Nested.g) aa_nil))) (aa_cons (ae_tup (aa_cons ae_str (aa_cons (ae_isP (K := K) (i := 0) rfl hpn hz hfl he her (by rfl) T.n_isinstance rfl (by first | exact Or.inl rfl | exact Or.inr rfl) (by rfl) T.e_Closed.g) aa_nil))) (aa_cons (ae_tup (aa_cons ae_str (aa_cons (ae_isP (K := K) (i := 0) rfl hpn hz hfl he her (by rfl) T.n_isinstance rfl (by first | exact Or.inl rfl | exact Or.inr rfl) (by rfl) T.e_NotKind.g) aa_nil))) aa_nil)))))
      (as_one (as_ret (ae_ty acb_tup (by rfl) T.n_tuple (by decide +kernel) (aa_cons (ae_lcIfX (own := [("_law_word", 2), ("_law_is_so", 3)]) hotc sc__law_refusal.nd (aix_list (av 1)) (blkOk_by (by kernel_rfl)) (tgOk_tup (js := [2, 3]) rfl (by decide)) (fun _ _ _ _ _ hh => pg_tupXK (K := K) rfl hh (pgs_cons (pg_name (i := 2) sc__law_refusal.nd rfl (by first | exact Or.inl rfl | exact Or.inr rfl)) (pgs_cons (pg_name (i := 3) sc__law_refusal.nd rfl (by first | exact Or.inl rfl | exact Or.inr rfl)) pgs_nil))) (fun _ _ _ _ _ => (at_bl (av 3))) (fun _ _ _ _ _ => (av 2))) aa_nil)))))))))) ?vc
  case vc =>
    intro b y fs L R h
    have hsl := sizeLine_eq
    rcases h with ⟨rfl, d, rfl, h⟩ | ⟨rfl, rfl, h⟩ | ⟨rfl, rfl, h⟩
    · exact ⟨rfl, false, T.k_NoQuotient_NoPlace, T.e_NoQuotient.c.ex, ite_f (A := True) rfl ⟨rfl, true, T.k_NoQuotient_NoQuotient, T.e_NoQuotient.c.ex, ite_t (B := True) rfl ⟨rfl, T.e_NoQuotient.c.xf, T.na_NoQuotient, d, rfl, by show (2 : Nat) ≤ sizeLine; omega, ret_of h⟩⟩⟩
    · refine ⟨rfl, false, T.k_Nested_NoPlace, T.e_Nested.c.ex, ite_f (A := True) rfl ?_⟩
      refine ⟨rfl, false, T.k_Nested_NoQuotient, T.e_Nested.c.ex, ite_f (A := True) rfl ?_⟩
      refine ⟨rfl, false, T.k_Nested_TooLarge, T.e_Nested.c.ex, ite_f (A := True) rfl ?_⟩
      refine ⟨rfl, false, T.k_Nested_TooDeep, T.e_Nested.c.ex, ite_f (A := True) rfl ?_⟩
      refine ⟨rfl, true, T.k_Nested_Nested, T.e_Nested.c.ex, by show (2 : Nat) ≤ sizeLine; omega, rfl, false, T.k_Nested_Closed, T.e_Nested.c.ex, by show (2 : Nat) ≤ sizeLine; omega, rfl, false, T.k_Nested_NotKind, T.e_Nested.c.ex, by show (2 : Nat) ≤ sizeLine; omega, by show (3 : Nat) ≤ sizeLine; omega, fun r hr => ⟨_, sput_same, fun P hP => ?_⟩⟩
      refine comp_pure (ai := aiList (aVar 1)) kR fR (fun l => sput_old sput_same hP) [.tup [.str "nested", .bl true], .tup [.str "closed", .bl false], .tup [.str "kind", .bl false]] [] (by show (0 + 3 : Nat) ≤ sizeLine; omega) (fun d hd L3 k ⟨l, eL⟩ hk => ?_) ?_
      · obtain ⟨w, z, rfl⟩ : ∃ w z, d = .tup [.str w, .bl z] := by
          rcases List.mem_cons.mp hd with e | hd
          · exact ⟨_, _, e⟩
          rcases List.mem_cons.mp hd with e | hd
          · exact ⟨_, _, e⟩
          exact ⟨_, _, List.mem_singleton.mp hd⟩
        cases z with
        | false => exact ⟨rfl, rfl, ite_f (A := True) rfl hk⟩
        | true => exact ⟨rfl, rfl, ite_t (B := True) rfl hk⟩
      exact ⟨_, sput_same, ret_sub h (((SubS.refl L).new hr).new hP)⟩
    · refine ⟨rfl, false, T.k_Closed_NoPlace, T.e_Closed.c.ex, ite_f (A := True) rfl ?_⟩
      refine ⟨rfl, false, T.k_Closed_NoQuotient, T.e_Closed.c.ex, ite_f (A := True) rfl ?_⟩
      refine ⟨rfl, false, T.k_Closed_TooLarge, T.e_Closed.c.ex, ite_f (A := True) rfl ?_⟩
      refine ⟨rfl, false, T.k_Closed_TooDeep, T.e_Closed.c.ex, ite_f (A := True) rfl ?_⟩
      refine ⟨rfl, false, T.k_Closed_Nested, T.e_Closed.c.ex, by show (2 : Nat) ≤ sizeLine; omega, rfl, true, T.k_Closed_Closed, T.e_Closed.c.ex, by show (2 : Nat) ≤ sizeLine; omega, rfl, false, T.k_Closed_NotKind, T.e_Closed.c.ex, by show (2 : Nat) ≤ sizeLine; omega, by show (3 : Nat) ≤ sizeLine; omega, fun r hr => ⟨_, sput_same, fun P hP => ?_⟩⟩
      refine comp_pure (ai := aiList (aVar 1)) kR fR (fun l => sput_old sput_same hP) [.tup [.str "nested", .bl false], .tup [.str "closed", .bl true], .tup [.str "kind", .bl false]] [] (by show (0 + 3 : Nat) ≤ sizeLine; omega) (fun d hd L3 k ⟨l, eL⟩ hk => ?_) ?_
      · obtain ⟨w, z, rfl⟩ : ∃ w z, d = .tup [.str w, .bl z] := by
          rcases List.mem_cons.mp hd with e | hd
          · exact ⟨_, _, e⟩
          rcases List.mem_cons.mp hd with e | hd
          · exact ⟨_, _, e⟩
          exact ⟨_, _, List.mem_singleton.mp hd⟩
        cases z with
        | false => exact ⟨rfl, rfl, ite_f (A := True) rfl hk⟩
        | true => exact ⟨rfl, rfl, ite_t (B := True) rfl hk⟩
      exact ⟨_, sput_same, ret_sub h (((SubS.refl L).new hr).new hP)⟩
def asp_Yard_check : ASp
  | [.ref _, .tree _], L, Q, _ => Q .non L
  | _, _, _, _ => False
theorem okA_Yard_check  (T : Txt K mg base) {scr : Option (Addr × List Int)} : MethD P w K mg base CX0 2 (He.ga K "Yard") "check" ["self", "fountain"] [] (spA (cA K scr) (asp_Yard_check)) := by
  refine T.m_Yard_check.okA sc_Yard_check ?len (fun f cdv A outer s H E hr => (as_one as_pass)) ?vc
  case len =>
    intro ds L R RX h
    unfold asp_Yard_check at h
    split at h <;> first | rfl | exact h.elim
  case vc =>
    intro ds L R RX h
    unfold asp_Yard_check at h
    split at h
    · exact ret_of h
    · exact h.elim
def asp_Yard_hold (K : PySem.W.Frag) : ASp
  | [.ref y, d, .tree u], L, Q, _ => ∃ t l, L y = some (YdM K t l) ∧ l.length < 1000000 ∧ Q .non (sput L y (YdM K u (l ++ [(d, t)])))
  | _, _, _, _ => False
theorem okA_Yard_hold  (T : Txt K mg base) {scr : Option (Addr × List Int)} : MethD P w K mg base CX0 4 (He.ga K "Yard") "hold" ["self", "deed", "fountain"] [] (spA (cA K scr) (asp_Yard_hold K)) := by
  refine T.m_Yard_hold.okA sc_Yard_hold ?len (fun f cdv A outer s H E hr => (as_cons (as_expr (ae_methM (K := K) rfl T.o_Yard.c (okA_Yard_check T) (hr.mono (by decide)) (av 0) (aa_cons (av 2) aa_nil)))
      (as_one (as_fldM (K := K) rfl (av 0) (ae_tup (aa_cons (av 2) (aa_cons (ae_op aop_add (ae_ix (ae_fldM (K := K) rfl (av 0) rfl) ae_int (fun _ _ => rfl)) (ae_tup (aa_cons (ae_tup (aa_cons (av 1) (aa_cons (ae_ix (ae_fldM (K := K) rfl (av 0) rfl) ae_int (fun _ _ => rfl)) aa_nil))) aa_nil))) aa_nil))))))) ?vc
  case len =>
    intro ds L R RX h
    unfold asp_Yard_hold at h
    split at h <;> first | rfl | exact h.elim
  case vc =>
    intro ds L R RX h
    unfold asp_Yard_hold at h
    split at h
    · rename_i y d u
      obtain ⟨t, l, hy, hl, h⟩ := h
      have hsl := sizeLine_eq
      have e : (l ++ [(d, t)]).map pyD = l.map pyD ++ [.tup [d, .tree t]] := by rw [List.map_append]; rfl
      unfold YdM yst at h
      rw [e] at h
      refine ⟨⟨_, _, hy, by decide⟩, ?_⟩
      exact ⟨y, _, _, _, _, rfl, hy, T.o_Yard.c, T.na_Yard_state, look_st, _, at2_1y, y, _, _, _, _, rfl, hy, T.o_Yard.c, T.na_Yard_state, look_st, _, at2_0y, by show (2 : Nat) ≤ sizeLine; omega, by show (1 : Nat) ≤ sizeLine; omega, by rw [List.length_map]; show l.length + 1 ≤ sizeLine; omega, by show (2 : Nat) ≤ sizeLine; omega, y, _, _, _, rfl, hy, T.o_Yard.c, T.na_Yard_state, .inr rfl, ret_of h⟩
    · exact h.elim
theorem sub_stepA {path : List Nat} {t u c : T} {i x : Nat} (h : subT path t = some u) (hx : path[i]? = some x) (hc : subT (path.take i) t = some c) : ∃ k, c.kd[x]? = some k ∧ subT (path.take (i + 1)) t = some k := by
  have app : ∀ (a b : List Nat) (t : JW.T), subT (a ++ b) t = (subT a t).bind (subT b) := by
    intro a
    induction a with
    | nil => intro b t; rfl
    | cons y r ih =>
      intro b t
      show (t.kd[y]?).bind (subT (r ++ b)) = ((t.kd[y]?).bind (subT r)).bind (subT b)
      cases t.kd[y]? with
      | none => rfl
      | some k => exact ih b k
  have e : path = path.take i ++ x :: path.drop (i + 1) := by
    have h1 := (List.getElem?_eq_some_iff.mp hx)
    obtain ⟨hl, he⟩ := h1
    conv => lhs; rw [← List.take_append_drop i path]
    rw [List.drop_eq_getElem_cons hl, he]
  rw [e, app, hc] at h
  have h2 : (c.kd[x]?).bind (subT (path.drop (i + 1))) = some u := h
  obtain ⟨k, e1, _⟩ := Option.bind_eq_some_iff.mp h2
  refine ⟨k, e1, ?_⟩
  rw [List.take_succ, hx, app, hc]
  show (c.kd[x]?).bind (subT []) = some k
  rw [e1] <;> rfl
def PthD (L : Store) (p : List Nat) (d : D) : Prop := d = .tup (p.map fun k : Nat => D.int (k : Nat)) ∨ ∃ q, d = .ref q ∧ L q = some (.lst (p.map fun k : Nat => D.int (k : Nat)))
def asp_Fountain_at_a : ASp
  | [.tree t, x], L, Q, _ => ∃ (p : List Nat) (s : JW.T), PthD L p x ∧ subT p t = some s ∧ Q (.tree s) L
  | _, _, _, _ => False
theorem okA_Fountain_at_a  (T : Txt K mg base) {scr : Option (Addr × List Int)} : MethD P w K mg base CX0 4 (cF K) "at" ["self", "path"] [] (spA (cA K scr) (asp_Fountain_at_a)) := by
  refine T.m_at.okA sc_Fountain_at ?len (fun f cdv A outer s H E hr => (as_cons (as_set (i := 2) sc_Fountain_at.nd rfl (by first | exact Or.inl rfl | exact Or.inr rfl) (av 0))
      (as_cons (as_for PassesOwn.never rfl (ai_enumV (by rfl) T.n_enumerate (av 1)) (ag_tup (n := 2) rfl (ags_cons (ag_name (i := 3) sc_Fountain_at.nd rfl (by first | exact Or.inl rfl | exact Or.inr rfl)) (ags_cons (ag_name (i := 4) sc_Fountain_at.nd rfl (by first | exact Or.inl rfl | exact Or.inr rfl)) ags_nil)) (fun _ _ _ _ z => agNs_len (js := [3, 4]) z))
        (as_cons (as_if (at_not (at_chain aop_le aop_lt ae_int (av 4) (ae_b acb_len (by rfl) T.n_len (by decide +kernel) (aa_cons (ae_kids T.cls.c (ok_Fountain_parts T) (hr.mono (by decide)) (av 2) rfl) aa_nil))))
          (as_one as_never)
          as_nil)
        (as_one (as_set (i := 2) sc_Fountain_at.nd rfl (by first | exact Or.inl rfl | exact Or.inr rfl) (ae_ix (ae_kids T.cls.c (ok_Fountain_parts T) (hr.mono (by decide)) (av 2) rfl) (av 4) (fun _ _ => rfl))))))
      (as_one (as_ret (av 2)))))) ?vc
  case len =>
    intro ds L R RX h
    unfold asp_Fountain_at_a at h
    split at h <;> first | rfl | exact h.elim
  case vc =>
    intro ds L R RX h
    unfold asp_Fountain_at_a at h
    split at h
    · rename_i t x
      obtain ⟨p, s, hx, hs, h⟩ := h
      have hpl : (p.map fun k : Nat => D.int (k : Nat)).length = p.length := List.length_map _
      have lp : ∀ (N : AEnds) (G : Store → Prop) (env0 : En), (∀ (i : Nat) (env : En) (L' : Store), i ≤ p.length → SubS L L' → G L') → env0 = [some (.tree t), some x, some (.tree t), none, none] → N.nx = aRet (aVar 2) (fnEnds R) → loopA (agTup (agCons (agName 3) (agCons (agName 4) agNil))) (aSeq
                (aIfS
                  (aNot
                    (aBl
                      (aChain leD ltD (aC (D.int 0)) (aVar 4)
                        (aB lenD (aCons (aProp (fun t => D.tup (List.map D.tree t.kids)) (aVar 2)) aNil)))))
                  aNever aNext)
                (aAsg (aOp ixD (aProp (fun t => D.tup (List.map D.tree t.kids)) (aVar 2)) (aVar 4)) (agName 2))) N G (enumD (p.map fun k : Nat => D.int (k : Nat))) env0 L := by
        intro N G env0 hG e0 eN
        subst e0
        refine loop_k (enumD (p.map fun k : Nat => D.int (k : Nat))) (fun i env L' => L' = L ∧ ∃ c x3 x4, env = [some (.tree t), some x, some (.tree c), x3, x4] ∧ subT (p.take i) t = some c) (fun i env L' hi z => hG i env L' (by rw [enumD_len, hpl] at hi; exact hi) (by rw [z.1]; exact SubS.refl L)) ?step ?fin _ _ ⟨rfl, t, _, _, rfl, rfl⟩
        case fin =>
          rintro env L' ⟨rfl, c, x3, x4, rfl, ec⟩
          rw [enumD_len, hpl, List.take_length, hs] at ec
          rw [Option.some.inj ec] at h
          rw [eN]
          exact ret_of h
        case step =>
          rintro i d env L' nn hi kn ⟨rfl, c, x3, x4, rfl, e1⟩
          have hil : i < p.length := by
            have := (List.getElem?_eq_some_iff.mp hi).1
            rwa [enumD_len, hpl] at this
          have ed : d = .tup [.int (i : Nat), .int (p[i] : Nat)] := by
            have e3 := enumD_get (l := p.map fun k : Nat => D.int (k : Nat)) (i := i) (d := .int (p[i] : Nat)) (by rw [List.getElem?_map, List.getElem?_eq_getElem hil]; rfl)
            rw [hi] at e3
            exact Option.some.inj e3
          subst ed
          obtain ⟨k, k1, k2⟩ := sub_stepA hs (List.getElem?_eq_getElem hil) e1
          have hkd : c.kids = c.kd := by cases c <;> rfl
          have hkl : p[i] < c.kd.length := (List.getElem?_eq_some_iff.mp k1).1
          have kn2 := kn [some (.tree t), some x, some (.tree k), some (.int (i : Nat)), some (.int (p[i] : Nat))] L' ⟨rfl, k, _, _, rfl, k2⟩
          have e5 : atI (c.kids.map D.tree) ((p[i] : Nat) : Int) = some (.tree k) := atI_nat (by rw [List.getElem?_map, hkd, k1]; rfl)
          generalize p[i] = y at *
          have e6 : decide ((0 : Int) ≤ (y : Nat)) = true := decide_eq_true (Int.natCast_nonneg _)
          have e7 : decide (((y : Nat) : Int) < ((c.kids.map D.tree).length : Nat)) = true := decide_eq_true (by rw [List.length_map, hkd]; omega)
          generalize ((y : Nat) : Int) = yi at *
          refine ⟨rfl, ?_⟩
          refine ite_t e6 ?_
          refine ite_f (by rw [e7]; rfl) ?_
          exact ⟨.tree k, e5, kn2⟩
      rcases hx with rfl | ⟨q, rfl, hq⟩
      · exact lp _ yes _ (fun _ _ _ _ _ => trivial) rfl rfl
      · exact ⟨_, hq, lp _ (lstAt q _) _ (fun _ _ _ _ sb => sb _ _ hq) rfl rfl⟩
    · exact h.elim
theorem kids_kd (t : T) : t.kids = t.kd := by cases t <;> rfl
theorem kd_at {C : Addr} {H : Hp} {c k : T} {xs : List V} {y : Nat} (h : FtnL C H c.kids xs) (hk : c.kd[y]? = some k) : y < xs.length ∧ ∃ v, xs[y]? = some v ∧ Ftn C H k v := by
  rw [kids_kd] at h
  have hl : y < c.kd.length := (List.getElem?_eq_some_iff.mp hk).1
  have hy : y < xs.length := by rw [h.len]; exact hl
  refine ⟨hy, xs[y], List.getElem?_eq_getElem hy, ?_⟩
  obtain ⟨t, e1, e2⟩ := h.get (List.getElem?_eq_getElem hy)
  rw [hk] at e1
  rw [Option.some.inj e1]
  exact e2
theorem ok_Fountain_size  (T : Txt K mg base) : PropD P w K mg base CX0 1 (cF K) "size" (spV K fun t => .int (t.size : Nat)) := by
  refine T.p_size.ok sc_Fountain_size (fun vs H Q E h => ?_) (fun f cdv A outer s H vs Q E hr h => ?_)
  · obtain ⟨v, t, rfl, _⟩ := h
    rfl
  · obtain ⟨v, t, rfl, hf, k⟩ := h
    obtain ⟨a, dx, b, n, vs, rfl, ha, hb, hn, hk⟩ := ftn_iff.mp hf
    refine ⟨_, (pss_one (ps_ret (pe_ix ix_tup (pe_fld (pv 0) rfl) pe_int (fun _ _ => rfl)))), ?_⟩
    exact ⟨.ref a, rfl, a, _, dx, _, _, rfl, ha, T.cls.c, T.cls.nn, fl_n, n, _, _, _, rfl, rfl, SqT.of hn, rfl, k⟩
theorem ok_Fountain_jets  (T : Txt K mg base) : PropD P w K mg base CX0 1 (cF K) "jets" (spV K fun t => .int (t.jts : Nat)) := by
  refine T.p_jets.ok sc_Fountain_jets (fun vs H Q E h => ?_) (fun f cdv A outer s H vs Q E hr h => ?_)
  · obtain ⟨v, t, rfl, _⟩ := h
    rfl
  · obtain ⟨v, t, rfl, hf, k⟩ := h
    obtain ⟨a, dx, b, n, vs, rfl, ha, hb, hn, hk⟩ := ftn_iff.mp hf
    refine ⟨_, (pss_one (ps_ret (pe_ix ix_tup (pe_fld (pv 0) rfl) pe_int (fun _ _ => rfl)))), ?_⟩
    exact ⟨.ref a, rfl, a, _, dx, _, _, rfl, ha, T.cls.c, T.cls.nn, fl_n, n, _, _, _, rfl, rfl, SqT.of hn, rfl, k⟩
theorem ok_Fountain_depth  (T : Txt K mg base) : PropD P w K mg base CX0 1 (cF K) "depth" (spV K fun t => .int (t.dep : Nat)) := by
  refine T.p_depth.ok sc_Fountain_depth (fun vs H Q E h => ?_) (fun f cdv A outer s H vs Q E hr h => ?_)
  · obtain ⟨v, t, rfl, _⟩ := h
    rfl
  · obtain ⟨v, t, rfl, hf, k⟩ := h
    obtain ⟨a, dx, b, n, vs, rfl, ha, hb, hn, hk⟩ := ftn_iff.mp hf
    refine ⟨_, (pss_one (ps_ret (pe_ix ix_tup (pe_fld (pv 0) rfl) pe_int (fun _ _ => rfl)))), ?_⟩
    exact ⟨.ref a, rfl, a, _, dx, _, _, rfl, ha, T.cls.c, T.cls.nn, fl_n, n, _, _, _, rfl, rfl, SqT.of hn, rfl, k⟩
theorem ok_Fountain_longest  (T : Txt K mg base) : PropD P w K mg base CX0 1 (cF K) "longest" (spV K fun t => if t.jts = 0 then .non else .int (t.lng : Nat)) := by
  refine T.p_longest.ok sc_Fountain_longest (fun vs H Q E h => ?_) (fun f cdv A outer s H vs Q E hr h => ?_)
  · obtain ⟨v, t, rfl, _⟩ := h
    rfl
  · obtain ⟨v, t, rfl, hf, k⟩ := h
    obtain ⟨a, dx, b, n, vs, rfl, ha, hb, hn, hk⟩ := ftn_iff.mp hf
    refine ⟨_, (pss_one (ps_ret (pe_ix ix_tup (pe_fld (pv 0) rfl) pe_int (fun _ _ => rfl)))), ?_⟩
    exact ⟨.ref a, rfl, a, _, dx, _, _, rfl, ha, T.cls.c, T.cls.nn, fl_n, n, _, _, _, rfl, rfl, SqT.of hn, rfl, k⟩
theorem ok_Fountain_shortest  (T : Txt K mg base) : PropD P w K mg base CX0 1 (cF K) "shortest" (spV K fun t => if t.jts = 0 then .non else .int (t.sht : Nat)) := by
  refine T.p_shortest.ok sc_Fountain_shortest (fun vs H Q E h => ?_) (fun f cdv A outer s H vs Q E hr h => ?_)
  · obtain ⟨v, t, rfl, _⟩ := h
    rfl
  · obtain ⟨v, t, rfl, hf, k⟩ := h
    obtain ⟨a, dx, b, n, vs, rfl, ha, hb, hn, hk⟩ := ftn_iff.mp hf
    refine ⟨_, (pss_one (ps_ret (pe_ix ix_tup (pe_fld (pv 0) rfl) pe_int (fun _ _ => rfl)))), ?_⟩
    exact ⟨.ref a, rfl, a, _, dx, _, _, rfl, ha, T.cls.c, T.cls.nn, fl_n, n, _, _, _, rfl, rfl, SqT.of hn, rfl, k⟩
theorem ok_Fountain_is_open  (T : Txt K mg base) : PropD P w K mg base CX0 1 (cF K) "is_open" (spV K fun t => .bl (decide (0 < t.jts))) := by
  refine T.p_is_open.ok sc_Fountain_is_open (fun vs H Q E h => ?_) (fun f cdv A outer s H vs Q E hr h => ?_)
  · obtain ⟨v, t, rfl, _⟩ := h
    rfl
  · obtain ⟨v, t, rfl, hf, k⟩ := h
    obtain ⟨a, dx, b, n, vs, rfl, ha, hb, hn, hk⟩ := ftn_iff.mp hf
    refine ⟨_, (pss_one (ps_ret (pe_cmpR op_gt (pe_ix ix_tup (pe_fld (pv 0) rfl) pe_int (fun _ _ => rfl)) pe_int (nomark _)))), ?_⟩
    refine ⟨.ref a, rfl, a, _, dx, _, _, rfl, ha, T.cls.c, T.cls.nn, fl_n, n, _, _, _, rfl, rfl, SqT.of hn, rfl, _, _, rfl, rfl, ?_⟩
    show Q (V.bl (decide ((0 : Int) < (t.jts : Nat)))) H
    rw [show decide ((0 : Int) < (t.jts : Nat)) = decide (0 < t.jts) from decide_eq_decide.mpr (by omega)]
    exact k
def sp_basin_numbers (K : PySem.W.Frag) : Sp := fun vs H Q _ => ∃ b xs l, vs = [.ref b] ∧ H b = some (.tup xs) ∧ FtnL (cF K) H l xs ∧ xs.length < sizeLine ∧ ∀ H' p, Same H H' → H' p = some (.tup (nums (.bas l))) → Q (.ref p) H'
theorem ok_basin_numbers  (T : Txt K mg base) : CallD P w K mg base CX0 3 "basin_numbers" ["branches"] [] (sp_basin_numbers K) := by
  refine T.d_basin_numbers.ok sc_basin_numbers (fun vs H Q E h => ?_) (fun f cdv A outer s H vs Q E hr h => ?_)
  · obtain ⟨b, xs, l, rfl, _⟩ := h
    rfl
  · obtain ⟨b, xs, l, rfl, hb, hl, hz, k⟩ := h
    refine ⟨_, (pss_cons (ps_set (i := 1) sc_basin_numbers.nd rfl (by first | exact Or.inl rfl | exact Or.inr rfl) (pe_op op_add pe_int (pe_callB (cr_sum rfl) (by rfl) T.n_sum (by decide +kernel) (pa_cons (pe_lc (own := [("branch", 6)]) (g := gName 6) (tt := tYes) (by rfl) sc_basin_numbers.nd (pi_tup (pv 0)) (blkOk_by (by kernel_rfl)) (fun _ _ _ _ _ => pg_name (i := 6) sc_basin_numbers.nd rfl (by first | exact Or.inl rfl | exact Or.inr rfl)) (fun _ _ _ _ _ => pts_nil) (fun _ _ _ _ _ => (pe_propD T.cls.c (ok_Fountain_size T) (hr.mono (by decide)) pass0 (pv 6) rfl))) pa_nil))))
      (pss_cons (ps_set (i := 2) sc_basin_numbers.nd rfl (by first | exact Or.inl rfl | exact Or.inr rfl) (pe_callB (cr_sum rfl) (by rfl) T.n_sum (by decide +kernel) (pa_cons (pe_lc (own := [("branch", 6)]) (g := gName 6) (tt := tYes) (by rfl) sc_basin_numbers.nd (pi_tup (pv 0)) (blkOk_by (by kernel_rfl)) (fun _ _ _ _ _ => pg_name (i := 6) sc_basin_numbers.nd rfl (by first | exact Or.inl rfl | exact Or.inr rfl)) (fun _ _ _ _ _ => pts_nil) (fun _ _ _ _ _ => (pe_propD T.cls.c (ok_Fountain_jets T) (hr.mono (by decide)) pass0 (pv 6) rfl))) pa_nil)))
      (pss_cons (ps_set (i := 3) sc_basin_numbers.nd rfl (by first | exact Or.inl rfl | exact Or.inr rfl) (pe_op op_add pe_int (pe_callBK (cr_maxDf rfl (hu_of hr)) (by rfl) T.n_max (by decide +kernel) (pa_cons (pe_lc (own := [("branch", 6)]) (g := gName 6) (tt := tYes) (by rfl) sc_basin_numbers.nd (pi_tup (pv 0)) (blkOk_by (by kernel_rfl)) (fun _ _ _ _ _ => pg_name (i := 6) sc_basin_numbers.nd rfl (by first | exact Or.inl rfl | exact Or.inr rfl)) (fun _ _ _ _ _ => pts_nil) (fun _ _ _ _ _ => (pe_propD T.cls.c (ok_Fountain_depth T) (hr.mono (by decide)) pass0 (pv 6) rfl))) pa_nil) (pk_cons pe_int pk_nil))))
      (pss_cons (ps_setLc (i := 4) (own := [("branch", 6)]) (g := gName 6) (by rfl) sc_basin_numbers.nd rfl rfl (sw_true rfl rfl rfl (by decide +kernel)) (pi_tup (pv 0)) (blkOk_by (by kernel_rfl)) (fun _ _ _ _ _ => pg_name (i := 6) sc_basin_numbers.nd rfl (by first | exact Or.inl rfl | exact Or.inr rfl)) (fun _ _ _ _ _ => pts_one (pt_val (pe_propD T.cls.c (ok_Fountain_is_open T) (hr.mono (by decide)) pass0 (pv 6) rfl))) (fun _ _ _ _ _ => (pv 6)))
      (pss_cons (ps_if (pt_cmpR op_eq (pe_callB call_len (by rfl) T.n_len (by decide +kernel) (pa_cons (pv 4) pa_nil)) pe_int (nomark _))
        (pss_one (ps_ret (pe_tup (pa_cons (pv 1) (pa_cons (pv 2) (pa_cons (pv 3) (pa_cons pe_non (pa_cons pe_non pa_nil))))))))
        pss_nil)
      (pss_cons (ps_set (i := 5) sc_basin_numbers.nd rfl (by first | exact Or.inl rfl | exact Or.inr rfl) (pe_op op_add pe_int (pe_callB (cr_max rfl) (by rfl) T.n_max (by decide +kernel) (pa_cons (pe_lc (own := [("branch", 6)]) (g := gName 6) (tt := tYes) (by rfl) sc_basin_numbers.nd (pi_list (pv 4)) (blkOk_by (by kernel_rfl)) (fun _ _ _ _ _ => pg_name (i := 6) sc_basin_numbers.nd rfl (by first | exact Or.inl rfl | exact Or.inr rfl)) (fun _ _ _ _ _ => pts_nil) (fun _ _ _ _ _ => (pe_propD T.cls.c (ok_Fountain_longest T) (hr.mono (by decide)) pass0 (pv 6) rfl))) pa_nil))))
      (pss_one (ps_ret (pe_tup (pa_cons (pv 1) (pa_cons (pv 2) (pa_cons (pv 3) (pa_cons (pv 5) (pa_cons (pe_op op_add pe_int (pe_callB (cr_min rfl) (by rfl) T.n_min (by decide +kernel) (pa_cons (pe_lc (own := [("branch", 6)]) (g := gName 6) (tt := tYes) (by rfl) sc_basin_numbers.nd (pi_list (pv 4)) (blkOk_by (by kernel_rfl)) (fun _ _ _ _ _ => pg_name (i := 6) sc_basin_numbers.nd rfl (by first | exact Or.inl rfl | exact Or.inr rfl)) (fun _ _ _ _ _ => pts_nil) (fun _ _ _ _ _ => (pe_propD T.cls.c (ok_Fountain_shortest T) (hr.mono (by decide)) pass0 (pv 6) rfl))) pa_nil))) pa_nil)))))))))))))), ?_⟩
    refine ⟨.ref b, rfl, b, rfl, ⟨xs, SqT.of hb⟩, fun D1 hD1 => lc_propT hD1 (SqT.of hb) hl hz (fun _ => rfl) (fun _ => rfl) fun H1 s1 e1 => ?_⟩
    refine ⟨D1, l.map fun t => (t.size : Int), rfl, SqL.of (by rw [e1, List.map_map]; rfl), _, _, rfl, rfl, ?_⟩
    have hb1 := s1 _ _ hb
    have hl1 := hl.same s1
    refine ⟨.ref b, rfl, b, rfl, ⟨xs, SqT.of hb1⟩, fun D2 hD2 => lc_propT hD2 (SqT.of hb1) hl1 hz (fun _ => rfl) (fun _ => rfl) fun H2 s2 e2 => ?_⟩
    refine ⟨D2, l.map fun t => (t.jts : Int), rfl, SqL.of (by rw [e2, List.map_map]; rfl), ?_⟩
    have hb2 := s2 _ _ hb1
    have hl2 := hl1.same s2
    refine ⟨.ref b, rfl, b, rfl, ⟨xs, SqT.of hb2⟩, fun D3 hD3 => lc_propT hD3 (SqT.of hb2) hl2 hz (fun _ => rfl) (fun _ => rfl) fun H3 s3 e3 => ?_⟩
    have hb3 := s3 _ _ hb2
    have hl3 := hl2.same s3
    refine ⟨D3, l.map fun t => (t.dep : Int), _, rfl, rfl, SqL.of (by rw [e3, List.map_map]; rfl), fun m hm => ?_⟩
    have em : m = (depL l : Nat) := by
      rcases hm with ⟨hn, e⟩ | ⟨n, r, hn, e⟩
      · rw [e]
        cases l with
        | nil => rfl
        | cons t q => cases hn
      · rw [e]
        exact dep_fold hn
    subst em
    refine ⟨_, _, rfl, rfl, ?_⟩
    refine ⟨.ref b, rfl, b, rfl, ⟨xs, SqT.of hb3⟩, fun D4 hD4 => lc_someT (bs := l.map opn) hD4 (SqT.of hb3) hz (by rw [List.length_map, hl.len]) (fun _ => rfl) (fun i x b H Q hx hb s q => ?_) (fun i x H Q hx s q => ⟨x, rfl, q H (Same.refl H)⟩) fun H4 s4 e4 => ?_⟩
    · obtain ⟨t, e1, e2⟩ := hl3.get hx
      rw [map_get e1 hb] at q
      exact ⟨x, rfl, ev_prop (e2.same s) ⟨_, rfl, q H (Same.refl H)⟩⟩
    have hl4 : FtnL (cF K) H4 (l.filter opn) _ := FtnL.filter (p := opn) (hl3.same s4)
    have hlen := hl4.len
    have hle : (l.filter opn).length ≤ l.length := List.length_filter_le _ _
    have hxl := hl.len
    have eS : (l.map fun t => (t.size : Int)).sum = (sizeL l : Nat) := by
      rw [sizeL_sum, ← nI_sum, List.map_map]
      rfl
    have eJ : (l.map fun t => (t.jts : Int)).sum = (jtsL l : Nat) := by
      rw [jtsL_sum, ← nI_sum, List.map_map]
      rfl
    have sAll : Same H H4 := (s1.trans s2).trans (s3.trans s4)
    refine ⟨.ref D4, rfl, .ref D4, _, rfl, .inl ⟨_, SqL.of e4, rfl⟩, rfl, _, rfl, ite2 (fun e => ?_) fun e => ?_⟩
    · have e0 : jtsL l = 0 := by
        refine jtsL_zero.mpr (List.eq_nil_of_length_eq_zero ?_)
        have := of_decide_eq_true e
        injection this with this
        omega
      refine ⟨_, rfl, _, rfl, _, rfl, sz5, fun p hp => ?_⟩
      refine k _ p (Same.new sAll hp) ?_
      rw [upd_same, eS, eJ, e0]
      show some (HO.tup [V.int (1 + (sizeL l : Nat)), V.int ((0 : Nat) : Int), V.int (1 + (depL l : Nat)), V.non, V.non]) = some (HO.tup [V.int ((1 + sizeL l : Nat) : Int), V.int (jtsL l : Nat), V.int ((1 + depL l : Nat) : Int), if jtsL l = 0 then V.non else V.int ((1 + lngL l : Nat) : Int), if jtsL l = 0 then V.non else V.int ((1 + shtL l : Nat) : Int)])
      rw [if_pos e0, if_pos e0, e0, Int.natCast_add, Int.natCast_add]
      rfl
    · have e0 : jtsL l ≠ 0 := fun z => by
        refine e (decide_eq_true ?_)
        rw [hlen, jtsL_zero.mp z]
        rfl
      have hne : (l.filter opn).length ≠ 0 := fun z => e0 (jtsL_zero.mpr (List.eq_nil_of_length_eq_zero z))
      have hz4 : (((xs.zip (l.map opn)).filter (·.2)).map (·.1)).length < sizeLine := by omega
      have hD4' : H4 D4 = some (HO.lst (((xs.zip (l.map opn)).filter (·.2)).map (·.1))) := e4
      refine ⟨.ref D4, rfl, D4, rfl, ⟨_, SqL.of hD4'⟩, fun D5 hD5 => lc_propL hD5 (SqL.of hD4') hl4 hz4 (fun _ => rfl) (fun _ => rfl) fun H5 s5 e5 => ?_⟩
      have eL : ∀ t ∈ l.filter opn, (if t.jts = 0 then V.non else V.int (t.lng : Nat)) = V.int (t.lng : Nat) ∧ (if t.jts = 0 then V.non else V.int (t.sht : Nat)) = V.int (t.sht : Nat) := fun t ht => by
        have h1 := (List.mem_filter.mp ht).2
        unfold opn at h1
        have h2 := of_decide_eq_true h1
        exact ⟨if_neg (by omega), if_neg (by omega)⟩
      refine ⟨D5, (l.filter opn).map fun t => (t.lng : Int), rfl, SqL.of (by rw [e5, List.map_map, List.map_congr_left fun t ht => (eL t ht).1]; rfl), by rw [List.length_map]; omega, fun m h1 h2 => ⟨_, _, rfl, rfl, ?_⟩⟩
      rw [lng_max e0 h1 h2]
      have hD5' := s5 _ _ hD4'
      refine ⟨_, rfl, _, rfl, _, rfl, _, rfl, .ref D4, rfl, D4, rfl, ⟨_, SqL.of hD5'⟩, fun D6 hD6 => lc_propL hD6 (SqL.of hD5') (hl4.same s5) hz4 (fun _ => rfl) (fun _ => rfl) fun H6 s6 e6 => ?_⟩
      refine ⟨D6, (l.filter opn).map fun t => (t.sht : Int), rfl, SqL.of (by rw [e6, List.map_map, List.map_congr_left fun t ht => (eL t ht).2]; rfl), by rw [List.length_map]; omega, fun m h1 h2 => ⟨_, _, rfl, rfl, ?_⟩⟩
      rw [sht_min e0 h1 h2]
      refine ⟨sz5, fun p hp => ?_⟩
      refine k _ p (Same.new (sAll.trans (s5.trans s6)) hp) ?_
      rw [upd_same, eS, eJ]
      show some (HO.tup [V.int (1 + (sizeL l : Nat)), V.int (jtsL l : Nat), V.int (1 + (depL l : Nat)), V.int (1 + (lngL l : Nat)), V.int (1 + (shtL l : Nat))]) = some (HO.tup [V.int ((1 + sizeL l : Nat) : Int), V.int (jtsL l : Nat), V.int ((1 + depL l : Nat) : Int), if jtsL l = 0 then V.non else V.int ((1 + lngL l : Nat) : Int), if jtsL l = 0 then V.non else V.int ((1 + shtL l : Nat) : Int)])
      rw [if_neg e0, if_neg e0, Int.natCast_add, Int.natCast_add, Int.natCast_add, Int.natCast_add]
      rfl
def sp_init (K : PySem.W.Frag) : Sp := fun vs H Q _ => ∃ x dx t b xs H0, vs = [.ref x, .str (tx t), .ref b] ∧ H0 x = none ∧ Same H0 H ∧ H x = some (.ins (cF K) dx []) ∧ H0 b = some (.tup xs) ∧ FtnL (cF K) H0 t.kids xs ∧ xs.length < sizeLine ∧
  ∀ H', Same H0 H' → Ftn (cF K) H' t (.ref x) → Q .non H'
theorem mk_jet {K : PySem.W.Frag} {H : Hp} {Q : VK} {E : XK} (q : ∀ v H', Same H H' → Ftn (cF K) H' .jet v → Q v H') : ([] : List V).length ≤ sizeLine ∧ ∀ p, H p = none → ∀ x dx, upd H p (.tup []) x = none → upd H p (.tup []) dx = none → dx ≠ x →
    sp_init K (V.ref x :: ([V.str "o", V.ref p] ++ [])) (upd (upd (upd H p (.tup [])) dx (.own x)) x (.ins (cF K) dx [])) (fun v H2 => v = .non ∧ Q (.ref x) H2) E := by
  refine ⟨Nat.zero_le _, fun p hp x dx hx hdx hne => ?_⟩
  have sQ : Same H (upd H p (.tup [])) := Same.new (Same.refl H) hp
  exact ⟨x, dx, .jet, p, [], upd H p (.tup []), by rw [tx_jet]; rfl, hx, Same.new (Same.new (Same.refl _) hdx) (by rw [upd_ne (Ne.symm hne)]; exact hx), upd_same, upd_same, rfl, by rw [sizeLine_eq]; decide, fun H5 s5 f5 => ⟨rfl, q _ _ (sQ.trans s5) f5⟩⟩
theorem ok_Fountain___init__  (T : Txt K mg base) : MakeD P w K mg base CX0 4 "Fountain" (cF K) ["self", "text", "branches"] [] (sp_init K) := by
  refine T.init.ok 1 (by decide) sc_Fountain___init__ (fun vs H Q E h => ?_) (fun f cdv A outer s H vs Q E hr h => ?_)
  · obtain ⟨x, dx, t, b, xs, H0, rfl, _⟩ := h
    rfl
  · obtain ⟨x, dx, t, b, xs, H0, rfl, hx0, s0, hx, hb, hk, hz, k⟩ := h
    refine ⟨_, (pss_cons (ps_set (i := 3) sc_Fountain___init__.nd rfl (by first | exact Or.inl rfl | exact Or.inr rfl) (pe_cmpR op_isN (pv 2) pe_non (nomark _)))
      (pss_cons (ps_if (pt_val (pv 3))
        pss_never
        pss_nil)
      (pss_cons (ps_fld (pv 0) (pv 1) (by rfl))
      (pss_cons (ps_fld (pv 0) (pv 2) (by rfl))
      (pss_cons (ps_fld (pv 0) (pe_via (pe_ifExp (pt_cmpR op_eq (pv 1) (pe_gstr rfl T.gJET_TEXT) (nomark _)) (pe_tup (pa_cons pe_int (pa_cons pe_int (pa_cons pe_int (pa_cons pe_int (pa_cons pe_int pa_nil)))))) (pe_callD (ok_basin_numbers T) (hr.mono (by decide)) (by rfl) pass0 (pa_cons (pv 2) pa_nil)))) (by rfl))
      (pss_one (ps_if (pt_val (pv 3))
        pss_never
        pss_nil))))))), ?_⟩
    have nx : ∀ {a : Addr} {o : HO}, H0 a = some o → a ≠ x := fun e => ne_of_none e hx0
    refine ⟨.ref b, rfl, rfl, _, rfl, _, rfl, ite_f (decide_eq_false (fun z => by cases z)) ⟨.str (tx t), rfl, .ref x, rfl, x, _, dx, _, rfl, hx, T.cls.c, T.cls.nw, by decide, .ref b, rfl, .ref x, rfl, x, _, dx, _, rfl, upd_same, T.cls.c, T.cls.nb, fl_l1,
      fun v H' => ∃ n, v = .ref n ∧ Same H0 H' ∧ H' x = some (.ins (cF K) dx (putF "branches" (.ref b) (putF "written" (.str (tx t)) []))) ∧ H' n = some (.tup (nums t)), ⟨_, rfl, rfl, _, rfl, ite2 (fun e => ?_) fun e => ?_⟩, fun v H' hv => ?_⟩⟩
    · have et : t = .jet := tx_inj ((V.str.inj (of_decide_eq_true e)).trans tx_jet.symm)
      subst et
      refine ⟨sz5, fun p hp => ⟨p, rfl, Same.new ?_ hp, ?_, ?_⟩⟩
      · exact fun a o e => by rw [upd_ne (nx e), upd_ne (nx e)]; exact s0 a o e
      · exact upd_old upd_same hp
      · rw [upd_same]
        rfl
    · cases t with
      | jet => exact absurd (decide_eq_true (by rw [tx_jet])) e
      | bas l =>
        have sH : ∀ o1 o2 : HO, Same H0 (upd (upd H x o1) x o2) := fun o1 o2 a o e => by rw [upd_ne (nx e), upd_ne (nx e)]; exact s0 a o e
        exact ⟨.ref b, rfl, b, xs, l, rfl, sH _ _ _ _ hb, FtnL.same hk (sH _ _), hz, fun H' p s e => ⟨p, rfl, (sH _ _).trans s, s _ _ upd_same, e⟩⟩
    · obtain ⟨n, rfl, s1, e1, e2⟩ := hv
      refine ⟨.ref x, rfl, x, _, dx, _, rfl, e1, T.cls.c, T.cls.nn, fl_l2, _, rfl, _, rfl, ite_f (decide_eq_false (fun z => by cases z)) (k _ ?_ ?_)⟩
      · exact fun a o e => by rw [upd_ne (nx e)]; exact s1 a o e
      · have sF : Same H0 (upd H' x (.ins (cF K) dx (putF "numbers" (.ref n) (putF "branches" (.ref b) (putF "written" (.str (tx t)) []))))) := fun a o e => by rw [upd_ne (nx e)]; exact s1 a o e
        have nn : n ≠ x := fun z => by
          subst z
          rw [e1] at e2
          cases e2
        exact ftn_iff.mpr ⟨x, dx, b, n, xs, rfl, by rw [upd_same, fl_put], sF _ _ hb, by rw [upd_ne nn]; exact e2, hk.same sF⟩
def sp_made (K : PySem.W.Frag) : Sp := fun vs H Q _ => ∃ v xs l, vs = [.ref v] ∧ Sq K H v xs ∧ FtnL (cF K) H l xs ∧ sizeL l ≤ 1048576 ∧ LamX.Tabs (TT K) H ∧ ∀ w H', LamX.ExtN H H' → LamX.Tabs (TT K) H' → Ftn (cF K) H' (.bas (sortT l)) w → Q w H'
theorem ok_made  (T : Txt K mg base) : CallD P w K mg base CX0 6 "made" ["branches"] [] (sp_made K) := by
  refine T.d_made.okC sc_made (fun vs H Q E h => ?_) (fun A outer s H vs Q E hr h => ?_)
  · obtain ⟨v, xs, l, rfl, _⟩ := h
    rfl
  · obtain ⟨v, xs, l, rfl, hq, hl, hsz, hT, k⟩ := h
    have hlen := hl.len
    have hll := length_le l
    have hzl : xs.length < sizeLine := by rw [sizeLine_eq]; omega
    refine ⟨_, (pss_cons (ps_set (i := 1) sc_made.nd rfl (by first | exact Or.inl rfl | exact Or.inr rfl) (pe_sortedKey (N := ["branch"]) (k := 2) (pv 0) (by rfl) T.n_sorted T.tb_made rfl (List.mem_singleton.mpr rfl) (fun q hq _ => by rw [List.mem_singleton.mp hq]) (hr.mono (by decide)) ⟨rfl, rfl, rfl, by decide +kernel, rfl, by decide +kernel, by decide +kernel⟩ (fun _ _ _ _ _ => rfl) (fun A outer s H f cd hr => (pe_propD T.cls.c (ok_Fountain_text T) (hr.mono (by decide)) pass0 (pv 0) rfl))))
      (pss_one (ps_ret (pe_makeD (ok_Fountain___init__ T) (hr.mono (by decide)) (by rfl) pass0 (pa_cons (pe_op op_add_str (pe_op op_add_str pe_str (pe_join pe_str (pe_lc (own := [("branch", 2)]) (g := gName 2) (tt := tYes) (by rfl) sc_made.nd (pi_list (pv 1)) (blkOk_by (by kernel_rfl)) (fun _ _ _ _ _ => pg_name (i := 2) sc_made.nd rfl (by first | exact Or.inl rfl | exact Or.inr rfl)) (fun _ _ _ _ _ => pts_nil) (fun _ _ _ _ _ => (pe_propD T.cls.c (ok_Fountain_text T) (hr.mono (by decide)) pass0 (pv 2) rfl))))) pe_str) (pa_cons (pe_callTy call_tuple_of (by rfl) T.n_tuple (by decide +kernel) (pa_cons (pv 1) pa_nil)) pa_nil)))))), ?_⟩
    refine ⟨.ref v, rfl, v, xs, l.map tx, rfl, hq, by rw [List.length_map, hlen], hT, fun H2 hE hT2 => ⟨fun H' => LamX.ExtN H2 H' ∧ LamX.Tabs (TT K) H', ⟨LamX.ExtN.refl H2, hT2⟩, fun H' z => z.1, fun i x z hx hz H' hR => ?_, fun D H' ys hR hD ky => ?_⟩⟩
    · obtain ⟨t, e1, e2⟩ := hl.get hx
      rw [map_get e1 hz]
      exact ⟨x, rfl, ev_prop (e2.ext (hE.trans hR.1)) ⟨rfl, hR⟩⟩
    have hlS : sizeL (sortT l) = sizeL l := sizeL_perm (sortT_perm l)
    have hl3 : FtnL (cF K) (upd H' D (.lst ys)) (sortT l) ys := (ftnL_sort (hl.ext (hE.trans hR.1)) ky).same (Same.new (Same.refl H') hD)
    have sD : Same H' (upd H' D (.lst ys)) := Same.new (Same.refl H') hD
    have eD : upd H' D (.lst ys) D = some (.lst ys) := upd_same
    generalize upd H' D (.lst ys) = H3 at hl3 sD eD ⊢
    have hz : ys.length < sizeLine := by
      rw [hl3.len, (sortT_perm l).length_eq]
      omega
    have hcl := codesL_len (sortT l)
    have hjl : (Txt.join "" ((sortT l).map tx)).length = (codesL (sortT l)).length := by rw [join_tx, SX.S_len]
    have hop : (("(" : Str)).length = 1 := by decide +kernel
    have hcp : ((")" : Str)).length = 1 := by decide +kernel
    have hem : (("" : Str)).length = 0 := by decide +kernel
    have hsl := sizeLine_eq
    refine ⟨⟨_, rfl⟩, .ref D, rfl, D, rfl, ⟨ys, SqL.of eD⟩, fun D2 hD2 => lc_propL hD2 (SqL.of eD) hl3 hz (fun _ => rfl) (fun _ => rfl) fun H4 s4 e4 => ⟨_, D2, (sortT l).map tx, rfl, rfl, .inl (SqL.of (by rw [e4, List.map_map]; rfl)), ?_, _, _, rfl, rfl, ?_, _, _, rfl, rfl, ?_, .ref D, rfl, D, ys, rfl, .inl ⟨SqL.of (s4 _ _ eD), fun p hp x dx hx hdx hne => ?_⟩⟩⟩
    · rw [lens_tx, hem]
      omega
    · rw [hop, hjl]
      omega
    · show (("(" : Str) ++ Txt.join "" ((sortT l).map tx)).length + ((")" : Str)).length ≤ sizeLine
      rw [join_tx, op_S, SX.S_cat, SX.S_len, hcp, List.length_append, List.length_singleton]
      omega
    have sP : Same H' (upd H4 p (.tup ys)) := Same.new (sD.trans s4) hp
    refine ⟨x, dx, .bas (sortT l), p, ys, upd H4 p (.tup ys), by rw [← tx_bas]; rfl, hx, Same.new (Same.new (Same.refl _) hdx) (by rw [upd_ne (Ne.symm hne)]; exact hx), upd_same, upd_same, FtnL.same (hl3.same s4) (Same.new (Same.refl H4) hp), hz, fun H5 s5 f5 => ⟨rfl, k _ H5 ?_ ?_ f5⟩⟩
    · exact (hE.trans hR.1).trans (.of (sP.trans s5))
    · exact LamX.Tabs.ext hR.2 (sP.trans s5)
def asp_made : ASp
  | [.ref p], L, Q, _ => ∃ ts : List T, L p = some (.lst (ts.map .tree)) ∧ sizeL ts ≤ 1048576 ∧ Q (.tree (.bas (sortT ts))) L
  | _, _, _, _ => False
theorem okA_made (T : Txt K mg base) {scr : Option (Addr × List Int)} : CallD P w K mg base CX0 6 "made" ["branches"] [] (spA (cA K scr) asp_made) :=
  (ok_made T).imp fun vs H Q E ⟨ds, L, R, RX, r, g, h, pq, px⟩ => by
    unfold asp_made at h
    split at h
    · rename_i p
      obtain ⟨ts, e0, hz, h⟩ := h
      obtain ⟨v, rfl, r1⟩ := repL_one r
      cases rep_ref.mp r1
      obtain ⟨ws, e1, rs⟩ := good_lst g e0
      exact ⟨p, ws, ts, rfl, .inl (SqL.of e1), RepL.trees.mp rs, hz, g.tabs, fun w H' e' T' hf => pq _ L _ H' h (.extN e') (g.extN T' e') (rep_tree.mpr hf)⟩
    · exact h.elim

def sp_replaced (K : PySem.W.Frag) (n : Nat) : Sp := fun vs H Q _ => ∃ v t p path b u s, vs = [v, .ref p, u] ∧ Ftn (cF K) H t v ∧ Ftn (cF K) H b u ∧ SqT K H p (path.map nI) ∧ subT path t = some s ∧ path.length < n ∧ t.size + b.size ≤ 1048576 ∧ LamX.Tabs (TT K) H ∧
  ∀ w H', LamX.ExtN H H' → LamX.Tabs (TT K) H' → Ftn (cF K) H' (repT b path t) w → Q w H'
theorem FtnL.set {C : Addr} {H : Hp} : ∀ {l : List T} {xs : List V} {i : Nat} {t : T} {v : V}, FtnL C H l xs → Ftn C H t v → FtnL C H (l.set i t) (xs.set i v)
  | [], xs, i, t, v, h, _ => by
    have e : xs = [] := h
    rw [e]
    rfl
  | u :: r, xs, i, t, v, h, hv => by
    obtain ⟨x, q, rfl, h1, h2⟩ := (show ∃ x q, xs = x :: q ∧ Ftn C H u x ∧ FtnL C H r q from h)
    cases i with
    | zero => exact ⟨v, q, rfl, hv, h2⟩
    | succ i => exact ⟨x, q.set i v, rfl, h1, FtnL.set h2 hv⟩
theorem step_replaced  (T : Txt K mg base) (n : Nat) (ih : CallD P w K mg base CX0 (6 + n) "replaced" ["fountain", "path", "part"] [] (sp_replaced K n)) : CallD P w K mg base CX0 (6 + n + 1) "replaced" ["fountain", "path", "part"] [] (sp_replaced K (n + 1)) := by
  refine T.d_replaced.ok sc_replaced (fun vs H Q E h => ?_) (fun f cdv A outer s H vs Q E hr h => ?_)
  · obtain ⟨v, t, p, path, b, u, s, rfl, _⟩ := h
    rfl
  · obtain ⟨v, t, p, path, b, u, sb, rfl, hv, hu, hp, hs, hn, hz, hT, k⟩ := h
    have hsl := sizeLine_eq
    refine ⟨_, (pss_cons (ps_if (pt_cmpR op_eq (pe_callB call_len (by rfl) T.n_len (by decide +kernel) (pa_cons (pv 1) pa_nil)) pe_int (nomark _))
        (pss_one (ps_ret (pv 2)))
        pss_nil)
      (pss_cons (ps_set (i := 3) sc_replaced.nd rfl (by first | exact Or.inl rfl | exact Or.inr rfl) (pe_callTy call_list_of (by rfl) T.n_list (by decide +kernel) (pa_cons (pe_propD T.cls.c (ok_Fountain_parts T) (hr.mono (by omega)) pass0 (pv 0) rfl) pa_nil)))
      (pss_cons (ps_asg (pe_callD ih (hr.mono (by omega)) (by rfl) pass0 (pa_cons (pe_ix ix_list (pv 3) (pe_ix ix_tup (pv 1) pe_int (fun _ _ => rfl)) (fun _ _ => rfl)) (pa_cons (pe_slice sl_tup (pv 1) (po_some pe_int) po_none) (pa_cons (pv 2) pa_nil)))) (pg_sub (pv 3) (pe_ix ix_tup (pv 1) pe_int (fun _ _ => rfl)) set_list))
      (pss_one (ps_ret (pe_callD (ok_made T) (hr.mono (by omega)) (by rfl) pass0 (pa_cons (pv 3) pa_nil))))))), ?_⟩
    cases path with
    | nil => exact ⟨.ref p, rfl, _, _, rfl, .inr ⟨_, hp, rfl⟩, rfl, _, rfl, ite_t rfl ⟨u, rfl, k u H (LamX.ExtN.refl H) hT hu⟩⟩
    | cons i r =>
      have hs2 : (t.kd[i]?).bind (subT r) = some sb := hs
      obtain ⟨kd, hk1, hk2⟩ := Option.bind_eq_some_iff.mp hs2
      have hlen : ((i :: r).map nI).length = r.length + 1 := by rw [List.length_map] <;> rfl
      refine ⟨.ref p, rfl, _, _, rfl, .inr ⟨_, hp, rfl⟩, rfl, _, rfl, ite_f (decide_eq_false fun z => ?_) ⟨v, rfl, ev_kids hv fun b' xs' hb' hk' => ⟨b', xs', rfl, .inr (SqT.of hb'), fun l hl => ?_⟩⟩⟩
      · have z2 := V.int.inj z
        rw [hlen] at z2
        omega
      have s1 : Same H (upd H l (.lst xs')) := Same.new (Same.refl H) hl
      have el : upd H l (.lst xs') l = some (.lst xs') := upd_same
      generalize upd H l (.lst xs') = H1 at s1 el ⊢
      obtain ⟨hy, vy, ey, fy⟩ := kd_at hk' hk1
      have hp1 : SqT K H1 p ((i :: r).map nI) := seqTN hp (.of s1)
      have at0 : atI ((i :: r).map nI) 0 = some (nI i) := show atI _ ((0 : Nat) : Int) = _ from atI_nat rfl
      refine ⟨.ref l, rfl, .ref p, rfl, p, _, _, _, rfl, rfl, hp1, at0, l, xs', _, vy, rfl, rfl, SqL.of el, atI_nat ey, .ref p, rfl, 1, rfl, p, _, rfl, hp1, ?_, fun q hq => ?_⟩
      · rintro ⟨z, _⟩
        rw [hlen] at z
        have z2 : (HT.sIx (r.length + 1) 0 (some 1)) = 1 := sIx_one r.length
        rw [z2] at z
        cases z
      have e2 : cutV ((i :: r).map nI) (some 1) none = r.map nI := cut_tail (nI i) (r.map nI)
      rw [e2]
      have s2 : Same H1 (upd H1 q (.tup (r.map nI))) := Same.new (Same.refl H1) hq
      have eq : upd H1 q (.tup (r.map nI)) q = some (.tup (r.map nI)) := upd_same
      generalize upd H1 q (.tup (r.map nI)) = H2 at s2 eq ⊢
      have s12 := s1.trans s2
      have hks : kd.size < t.size := by
        have h4 := size_mem (List.mem_of_getElem? hk1)
        rw [← kd_size hk1] at h4
        exact h4
      have hrl : (i :: r).length = r.length + 1 := rfl
      refine ⟨u, rfl, vy, kd, q, r, b, u, sb, rfl, fy.same s12, hu.same s12, SqT.of eq, hk2, by omega, by omega, Tabs.same hT s12, fun w H3 e3 T3 f3 => ?_⟩
      have el3 : H3 l = some (.lst xs') := e3 _ _ (s2 _ _ el) fun ps z => by cases z
      have e13 : LamX.ExtN H1 H3 := (LamX.ExtN.of s2).trans e3
      refine ⟨.ref l, rfl, .ref p, rfl, p, _, _, _, rfl, rfl, seqTN hp1 e13, at0, l, xs', _, i, rfl, rfl, el3, ?_, ?_⟩
      · unfold ixN
        rw [if_pos (Int.natCast_nonneg i), if_pos (by omega)]
        rfl
      have e03 : LamX.ExtN H H3 := (LamX.ExtN.of s12).trans e3
      have hl0 : ∀ o : HO, LamX.ExtN H (upd H3 l o) := fun o c w ec n => by
        rw [upd_ne (ne_of_none ec hl)]
        exact e03 _ _ ec n
      have hkk : FtnL (cF K) H3 t.kd xs' := by
        rw [← kids_kd]
        exact FtnL.ext hk' e03
      have hf4 : FtnL (cF K) (upd H3 l (.lst (xs'.set i w))) (t.kd.set i (JW.repT b r kd)) (xs'.set i w) := ftnL_extD el3 (ExtD.put (ExtD.refl l H3)) _ _ (FtnL.set hkk f3)
      have hsz := sizeL_set (JW.repT b r kd) hk1
      have hrs := rep_size b r kd sb hk2
      have htk : t.size = 1 + sizeL t.kd := by
        conv => lhs; rw [kd_size hk1]
        rfl
      refine ⟨.ref l, rfl, l, xs'.set i w, t.kd.set i (JW.repT b r kd), rfl, .inl (SqL.of upd_same), hf4, by omega, Tabs.put T3 el3, fun w4 H4 e4 T4 f4 => k w4 H4 ((hl0 _).trans e4) T4 ?_⟩
      show Ftn (cF K) H4 (.bas (sortT (t.kd.set i (JW.repT b r (t.kd.getD i .jet))))) w4
      rw [kd_get hk1]
      exact f4
theorem ok_replaced  (T : Txt K mg base) (n : Nat) : CallD P w K mg base CX0 (6 + n) "replaced" ["fountain", "path", "part"] [] (sp_replaced K n) := callD_rec (sp := sp_replaced K) T.d_replaced (by
    rintro vs H Q E ⟨v, t, p, path, b, u, s, _, _, _, _, _, z, _⟩
    exact absurd z (Nat.not_lt_zero _)
    ) (step_replaced T) n
def asp_replaced (n : Nat) : ASp
  | [.tree t, .tup x, .tree b], L, Q, _ => ∃ (p : List Nat) (s : JW.T), x = p.map (fun k : Nat => D.int (k : Nat)) ∧ subT p t = some s ∧ p.length < n ∧ t.size + b.size ≤ 1048576 ∧ Q (.tree (repT b p t)) L
  | _, _, _, _ => False
theorem okA_replaced (T : Txt K mg base) {scr : Option (Addr × List Int)} (n : Nat) : CallD P w K mg base CX0 (6 + n) "replaced" ["fountain", "path", "part"] [] (spA (cA K scr) (asp_replaced n)) :=
  (ok_replaced T n).imp fun vs H Q E ⟨ds, L, R, RX, r, g, h, pq, px⟩ => by
    unfold asp_replaced at h
    split at h
    · obtain ⟨p, s, rfl, h1, h2, h3, h⟩ := h
      obtain ⟨v, rs, rfl, r1, r2⟩ := repL_cons.mp r
      obtain ⟨x, y, rfl, r3, r4⟩ := repL_two r2
      obtain ⟨a, vs, rfl, e1, rv⟩ := rep_tup.mp r3
      have ev : vs = p.map nI := by
        have h5 : (p.map fun k : Nat => D.int (k : Nat)) = (p.map fun k : Nat => (k : Int)).map D.int := by rw [List.map_map]; rfl
        rw [h5] at rv
        rw [RepL.ints.mp rv, List.map_map]
        rfl
      subst ev
      exact ⟨v, _, a, p, _, y, s, rfl, rep_tree.mp r1, rep_tree.mp r4, e1, h1, h2, h3, g.tabs, fun z H' e' T' hf => pq _ L _ H' h (.extN e') (g.extN T' e') (rep_tree.mpr hf)⟩
    · exact h.elim

theorem ok_TooLarge___init__ (T : Txt K mg base) : ErrD P w K mg base 2 "TooLarge" (He.ga K "TooLarge") ["self", "pieces"] (spErr K (He.ga K "TooLarge") "pieces") := by
  refine T.e_TooLarge.ok sc_TooLarge___init__ (fun vs H Q E h => ?_) (fun f cdv A outer s H vs Q E hr h => ?_)
  · obtain ⟨a, v, rfl, _⟩ := h
    rfl
  · obtain ⟨a, v, rfl, ha, k⟩ := h
    refine ⟨_, (pss_cons (ps_expr (pe_cinit (by rfl) T.b_JetError.1 T.b_JetError.2 (pa_cons (pv 0) (pa_cons pe_str pa_nil))))
      (pss_one (ps_ost (pv 0) (pv 1)))), ?_⟩
    exact ⟨.ref a, rfl, a, He.ga K "TooLarge", [.str "TooLarge"], rfl, by show 1 ≤ 1000; decide, T.e_TooLarge.c.o, ha, v, rfl, .ref a, rfl, a, He.ga K "TooLarge", rfl, T.e_TooLarge.c.o, T.na_TooLarge, .inl ⟨ha, fun dx nd ne => k dx nd ne⟩⟩
theorem ok_TooDeep___init__ (T : Txt K mg base) : ErrD P w K mg base 2 "TooDeep" (He.ga K "TooDeep") ["self", "basins"] (spErr K (He.ga K "TooDeep") "basins") := by
  refine T.e_TooDeep.ok sc_TooDeep___init__ (fun vs H Q E h => ?_) (fun f cdv A outer s H vs Q E hr h => ?_)
  · obtain ⟨a, v, rfl, _⟩ := h
    rfl
  · obtain ⟨a, v, rfl, ha, k⟩ := h
    refine ⟨_, (pss_cons (ps_expr (pe_cinit (by rfl) T.b_JetError.1 T.b_JetError.2 (pa_cons (pv 0) (pa_cons pe_str pa_nil))))
      (pss_one (ps_ost (pv 0) (pv 1)))), ?_⟩
    exact ⟨.ref a, rfl, a, He.ga K "TooDeep", [.str "TooDeep"], rfl, by show 1 ≤ 1000; decide, T.e_TooDeep.c.o, ha, v, rfl, .ref a, rfl, a, He.ga K "TooDeep", rfl, T.e_TooDeep.c.o, T.na_TooDeep, .inl ⟨ha, fun dx nd ne => k dx nd ne⟩⟩
def OutN (K : PySem.W.Frag) (t : T) (H : Hp) (E : XK) (k : Prop) : Prop :=
  (5000 < t.size → ∀ d H', Same H H' → H' d = some (.xd [("pieces", .int (t.size : Nat))]) → E (.ref (He.ga K "TooLarge")) (some d) H') ∧
  (t.size ≤ 5000 → 120 < t.dep → ∀ d H', Same H H' → H' d = some (.xd [("basins", .int (t.dep : Nat))]) → E (.ref (He.ga K "TooDeep")) (some d) H') ∧ (t.size ≤ 5000 → t.dep ≤ 120 → k)
def sp_check_numbers_x (K : PySem.W.Frag) : Sp := fun vs H Q E => ∃ n t, vs = [.ref n] ∧ H n = some (.tup (nums t)) ∧ OutN K t H E (Q .non H)
theorem ok_check_numbers_x  (T : Txt K mg base) : CallD P w K mg base (L2N.CX P w) 4 "check_numbers" ["numbers"] [] (sp_check_numbers_x K) := by
  refine T.d_check_numbers.okX sc_check_numbers (fun vs H Q E h => ?_) (fun f cdv A outer s H vs Q E hr h => ?_)
  · obtain ⟨n, t, rfl, _⟩ := h
    rfl
  · obtain ⟨n, t, rfl, hn, k1, k2, k3⟩ := h
    refine ⟨_, (pss_cons (ps_if (pt_cmpR op_gt (pe_ix ix_tup (pv 0) pe_int (fun _ _ => rfl)) (pe_gint rfl T.gMOST) (nomark _))
        (pss_one (L2N.ps_raise rfl (L2N.takes_of rfl rfl rfl rfl) (pmk_errN (ok_TooLarge___init__ T) (hr.mono (by decide)) (by rfl) (pe_ix ix_tup (pv 0) pe_int (fun _ _ => rfl)))))
        pss_nil)
      (pss_one (ps_if (pt_cmpR op_gt (pe_ix ix_tup (pv 0) pe_int (fun _ _ => rfl)) (pe_gint rfl T.gDEEPEST) (nomark _))
        (pss_one (L2N.ps_raise rfl (L2N.takes_of rfl rfl rfl rfl) (pmk_errN (ok_TooDeep___init__ T) (hr.mono (by decide)) (by rfl) (pe_ix ix_tup (pv 0) pe_int (fun _ _ => rfl)))))
        pss_nil))), ?_⟩
    refine ⟨.ref n, rfl, n, _, _, _, rfl, rfl, SqT.of hn, rfl, _, _, rfl, rfl, _, rfl, ite2 (fun e => ?_) fun e => ⟨.ref n, rfl, n, _, _, _, rfl, rfl, SqT.of hn, rfl, _, _, rfl, rfl, _, rfl, ite2 (fun e2 => ?_) fun e2 => ?_⟩⟩
    · have h1 := of_decide_eq_true e
      exact ⟨.ref n, rfl, n, _, _, _, rfl, rfl, SqT.of hn, rfl, fun d H' s _ z => k1 (by omega) d H' s z⟩
    · have h1 : ¬ ((5000 : Int) < (t.size : Nat)) := fun z => e (decide_eq_true z)
      have h2 := of_decide_eq_true e2
      exact ⟨.ref n, rfl, n, _, _, _, rfl, rfl, SqT.of hn, rfl, fun d H' s _ z => k2 (by omega) (by omega) d H' s z⟩
    · have h1 : ¬ ((5000 : Int) < (t.size : Nat)) := fun z => e (decide_eq_true z)
      have h2 : ¬ ((120 : Int) < (t.dep : Nat)) := fun z => e2 (decide_eq_true z)
      exact k3 (by omega) (by omega)
def OutF (K : PySem.W.Frag) (t : T) (H : Hp) (Q : VK) (E : XK) : Prop :=
  (5000 < t.size → ∀ d H', LamX.ExtN H H' → LamX.Tabs (TT K) H' → H' d = some (.xd [("pieces", .int (t.size : Nat))]) → E (.ref (He.ga K "TooLarge")) (some d) H') ∧
  (t.size ≤ 5000 → 120 < t.dep → ∀ d H', LamX.ExtN H H' → LamX.Tabs (TT K) H' → H' d = some (.xd [("basins", .int (t.dep : Nat))]) → E (.ref (He.ga K "TooDeep")) (some d) H') ∧
  (t.size ≤ 5000 → t.dep ≤ 120 → ∀ w H', LamX.ExtN H H' → LamX.Tabs (TT K) H' → Ftn (cF K) H' t w → Q w H')
theorem OutF.from {K : PySem.W.Frag} {t : T} {H H1 : Hp} {Q : VK} {E : XK} (o : OutF K t H Q E) (e : LamX.ExtN H H1) : OutF K t H1 Q E :=
  ⟨fun h d H' e' => o.1 h d H' (e.trans e'), fun h h2 d H' e' => o.2.1 h h2 d H' (e.trans e'), fun h h2 w H' e' => o.2.2 h h2 w H' (e.trans e')⟩
theorem OutF.nums {K : PySem.W.Frag} {t : T} {H : Hp} {Q : VK} {E : XK} {k : Prop} (o : OutF K t H Q E) (hT : LamX.Tabs (TT K) H) (h : t.size ≤ 5000 → t.dep ≤ 120 → k) : OutN K t H E k :=
  ⟨fun h d H' s => o.1 h d H' (.of s) (Tabs.same hT s), fun h h2 d H' s => o.2.1 h h2 d H' (.of s) (Tabs.same hT s), h⟩
def sp_allowed (K : PySem.W.Frag) : Sp := fun vs H Q E => ∃ v t, vs = [v] ∧ Ftn (cF K) H t v ∧ LamX.Tabs (TT K) H ∧ OutF K t H Q E
theorem ok_allowed  (T : Txt K mg base) : CallD P w K mg base (L2N.CX P w) 5 "allowed" ["fountain"] [] (sp_allowed K) := by
  refine T.d_allowed.okX sc_allowed (fun vs H Q E h => ?_) (fun f cdv A outer s H vs Q E hr h => ?_)
  · obtain ⟨v, t, rfl, _⟩ := h
    rfl
  · obtain ⟨v, t, rfl, hf, hT, k⟩ := h
    obtain ⟨a, dx, b, n, vs, rfl, ha, hb, hn, hk⟩ := ftn_iff.mp hf
    refine ⟨_, (pss_cons (ps_expr (pe_callD (ok_check_numbers_x T) (hr.mono (by decide)) (by rfl) (passE rfl rfl rfl rfl) (pa_cons (pe_fld (pv 0) rfl) pa_nil)))
      (pss_one (ps_ret (pv 0)))), ?_⟩
    exact ⟨.ref a, rfl, a, _, dx, _, _, rfl, ha, T.cls.c, T.cls.nn, fl_n, n, t, rfl, hn, k.nums hT fun h1 h2 => ⟨.ref a, rfl, k.2.2 h1 h2 _ H (LamX.ExtN.refl H) hT hf⟩⟩
theorem out_low {K : PySem.W.Frag} {scr : Option (Addr × List Int)} {t : T} {H : Hp} {L : Store} {R : AQ} {RX : AX} {Q : VK} {E : XK} (h : outD t L R RX) (g : Good (cA K scr) L H) (pq : Pq (cA K scr) H R Q) (px : Px (cA K scr) H RX E) : OutF K t H Q E := by
  refine ⟨fun h5 d H' e' T' hd => ?_, fun h5 h12 d H' e' T' hd => ?_, fun h5 h12 w H' e' T' hf => pq _ L _ H' (h.2.2 h5 h12) (.extN e') (g.extN T' e') (rep_tree.mpr hf)⟩
  · exact px "TooLarge" _ L H' (some d) (h.1 h5) (.extN e') (g.extN T' e') (.inr ⟨"pieces", _, d, _, rfl, rfl, hd, rep_int.mpr rfl⟩)
  · exact px "TooDeep" _ L H' (some d) (h.2.1 h5 h12) (.extN e') (g.extN T' e') (.inr ⟨"basins", _, d, _, rfl, rfl, hd, rep_int.mpr rfl⟩)
def asp_allowed : ASp
  | [.tree t], L, Q, RX => outD t L Q RX
  | _, _, _, _ => False
theorem okA_allowed (T : Txt K mg base) {scr : Option (Addr × List Int)} : CallD P w K mg base (L2N.CX P w) 5 "allowed" ["fountain"] [] (spA (cA K scr) asp_allowed) :=
  (ok_allowed T).imp fun vs H Q E ⟨ds, L, R, RX, r, g, h, pq, px⟩ => by
    unfold asp_allowed at h
    split at h
    · obtain ⟨v, rfl, r1⟩ := repL_one r
      exact ⟨v, _, rfl, rep_tree.mp r1, g.tabs, out_low h g pq px⟩
    · exact h.elim

def asp_Fountain_put_a : ASp
  | [.tree t, x, .tree b], L, Q, _ => ∃ (p : List Nat) (s : JW.T), PthD L p x ∧ subT p t = some s ∧ p.length < 121 ∧ t.size + b.size ≤ 1048576 ∧ (repT b p t).size ≤ 5000 ∧ (repT b p t).dep ≤ 120 ∧ Q (.tree (repT b p t)) L
  | _, _, _, _ => False
theorem okA_Fountain_put_a  (T : Txt K mg base) {scr : Option (Addr × List Int)} : MethD P w K mg base CX0 131 (cF K) "put" ["self", "path", "part"] [] (spA (cA K scr) (asp_Fountain_put_a)) := by
  refine T.m_put.okA sc_Fountain_put ?len (fun f cdv A outer s H E hr => (as_cons (as_expr (ae_meth T.cls.c (okA_Fountain_at_a T) (fun _ _ _ => by kernel_rfl) (hr.mono (by decide)) (av 0) (aa_cons (av 1) aa_nil)))
      (as_one (as_ret (ae_callP (okA_allowed T) (hr.mono (by decide)) (by rfl) passA_no (aa_cons (ae_call (okA_replaced T 121) (hr.mono (by decide)) (by rfl) (aa_cons (av 0) (aa_cons (ae_ty acb_tup (by rfl) T.n_tuple (by decide +kernel) (aa_cons (av 1) aa_nil)) (aa_cons (av 2) aa_nil)))) aa_nil)))))) ?vc
  case len =>
    intro ds L R RX h
    unfold asp_Fountain_put_a at h
    split at h <;> first | rfl | exact h.elim
  case vc =>
    intro ds L R RX h
    unfold asp_Fountain_put_a at h
    split at h
    · rename_i t x b
      obtain ⟨p, s, hx, hs, hp, hz, h1, h2, h⟩ := h
      have hsl := sizeLine_eq
      refine ⟨p, s, hx, hs, ?_⟩
      rcases hx with rfl | ⟨q, rfl, hq⟩
      · exact ⟨p, s, rfl, hs, hp, hz, fun z => absurd z (by omega), fun _ z => absurd z (by omega), fun _ _ => ret_of h⟩
      · exact ⟨_, hq, p, s, rfl, hs, hp, hz, fun z => absurd z (by omega), fun _ z => absurd z (by omega), fun _ _ => ret_of h⟩
    · exact h.elim
def asp_Yard_put (K : PySem.W.Frag) : ASp
  | [.ref y, x, .tree b], L, Q, _ => ∃ t l p s, L y = some (YdM K t l) ∧ l.length < 1000000 ∧ PthD L p x ∧ subT p t = some s ∧ p.length < 121 ∧ t.size + b.size ≤ 1048576 ∧ (repT b p t).size ≤ 5000 ∧ (repT b p t).dep ≤ 120 ∧
      Q (.tree s) (sput L y (YdM K (repT b p t) (l ++ [(.tup [.str "put", .tup (p.map fun k : Nat => D.int (k : Nat)), .str (tx b)], t)])))
  | _, _, _, _ => False
theorem okA_Yard_put  (T : Txt K mg base) {scr : Option (Addr × List Int)} : MethD P w K mg base CX0 136 (He.ga K "Yard") "put" ["self", "path", "part"] [] (spA (cA K scr) (asp_Yard_put K)) := by
  refine T.m_Yard_put.okA sc_Yard_put ?len (fun f cdv A outer s H E hr => (as_cons (as_set (i := 3) sc_Yard_put.nd rfl (by first | exact Or.inl rfl | exact Or.inr rfl) (ae_meth T.cls.c (okA_Fountain_at_a T) (fun _ _ _ => by kernel_rfl) (hr.mono (by decide)) (ae_propM (K := K) rfl T.o_Yard.c (okA_Yard_now T) (hr.mono (by decide)) (av 0) rfl) (aa_cons (av 1) aa_nil)))
      (as_cons (as_expr (ae_methM (K := K) rfl T.o_Yard.c (okA_Yard_hold T) (hr.mono (by decide)) (av 0) (aa_cons (ae_tup (aa_cons ae_str (aa_cons (ae_ty acb_tup (by rfl) T.n_tuple (by decide +kernel) (aa_cons (av 1) aa_nil)) (aa_cons (ae_propG (fun t => .str (tx t)) (fun _ _ => rep_str.mpr rfl) T.cls.c (ok_Fountain_text T) (hr.mono (by decide)) (av 2) rfl) aa_nil)))) (aa_cons (ae_meth T.cls.c (okA_Fountain_put_a T) (fun _ _ _ => by kernel_rfl) (hr.mono (by decide)) (ae_propM (K := K) rfl T.o_Yard.c (okA_Yard_now T) (hr.mono (by decide)) (av 0) rfl) (aa_cons (av 1) (aa_cons (av 2) aa_nil))) aa_nil))))
      (as_one (as_ret (av 3)))))) ?vc
  case len =>
    intro ds L R RX h
    unfold asp_Yard_put at h
    split at h <;> first | rfl | exact h.elim
  case vc =>
    intro ds L R RX h
    unfold asp_Yard_put at h
    split at h
    · rename_i y x b
      obtain ⟨t, l, p, s, hy, hl, hx, hs, hp, hz, h1, h2, h⟩ := h
      have hsl := sizeLine_eq
      refine ⟨⟨_, _, hy, by decide⟩, t, l, hy, p, s, hx, hs, ⟨_, _, hy, by decide⟩, ?_⟩
      rcases hx with rfl | ⟨q, rfl, hq⟩
      · exact ⟨by show (3 : Nat) ≤ sizeLine; omega, ⟨_, _, hy, by decide⟩, t, l, hy, p, s, .inl rfl, hs, hp, hz, h1, h2, t, l, hy, hl, ret_of h⟩
      · exact ⟨_, hq, by show (3 : Nat) ≤ sizeLine; omega, ⟨_, _, hy, by decide⟩, t, l, hy, p, s, .inr ⟨q, rfl, hq⟩, hs, hp, hz, h1, h2, t, l, hy, hl, ret_of h⟩
    · exact h.elim
def dpt (q : List Nat × T) : D := .tup [.tup (q.1.map fun k : Nat => D.int (k : Nat)), .tree q.2]
def kpT (i : Nat) : D → Bool
  | .tup [.tup (.int j :: _), _] => decide (j = ((i : Nat) : Int))
  | _ => false
def fT : D → D
  | .tup [.tup (_ :: r), y] => .tup [.tup r, y]
  | d => d
theorem sub_pt (i : Nat) : ∀ ps : List (List Nat × T), ((ps.map dpt).filter (kpT i)).map fT = (subP i ps).map dpt
  | [] => rfl
  | (p, b) :: ps => by
    have ih := sub_pt i ps
    cases p with
    | nil =>
      have e1 : subP i (([], b) :: ps) = subP i ps := by simp [subP]
      have e2 : kpT i (dpt ([], b)) = false := rfl
      rw [e1, List.map_cons, List.filter_cons_of_neg (by rw [e2]; exact Bool.false_ne_true), ih]
    | cons j r =>
      by_cases hj : j = i
      · subst hj
        have e1 : subP j ((j :: r, b) :: ps) = (r, b) :: subP j ps := by simp [subP]
        have e2 : kpT j (dpt (j :: r, b)) = true := decide_eq_true rfl
        rw [e1, List.map_cons, List.filter_cons_of_pos e2, List.map_cons, ih]
        rfl
      · have e1 : subP i ((j :: r, b) :: ps) = subP i ps := by simp [subP, hj]
        have e2 : kpT i (dpt (j :: r, b)) = false := decide_eq_false fun z => hj (Int.ofNat.inj z)
        rw [e1, List.map_cons, List.filter_cons_of_neg (by rw [e2]; exact Bool.false_ne_true), ih]
def asp_placed (n : Nat) : ASp
  | [.tree t, .ref P], L, Q, _ => ∃ ps : List (List Nat × JW.T), L P = some (.lst (ps.map dpt)) ∧ NoPre ps ∧ ps.length ≤ 10 ∧ t.dep < n ∧ t.size + wtA ps ≤ 100000 ∧ Q (.tree (swT t ps)) L
  | _, _, _, _ => False
theorem stepA_placed  (T : Txt K mg base) {scr : Option (Addr × List Int)} (n : Nat) (ih : CallD P w K mg base CX0 (77 + n) "placed" ["fountain", "pairs"] [] (spA (cA K scr) (asp_placed n))) : CallD P w K mg base CX0 (77 + n + 1) "placed" ["fountain", "pairs"] [] (spA (cA K scr) (asp_placed (n + 1))) := by
  refine T.d_placed.okA sc_placed ?len (fun f cdv A outer s H E hr => (as_cons (as_if (at_cmp (aop_eqG (okF_eq T) (hr.mono (by omega)) hr.units) (ae_b acb_len (by rfl) T.n_len (by decide +kernel) (aa_cons (av 1) aa_nil)) ae_int (nomark _))
        (as_one (as_ret (av 0)))
        as_nil)
      (as_cons (as_if (at_cmp (aop_eqG (okF_eq T) (hr.mono (by omega)) hr.units) (ae_b acb_len (by rfl) T.n_len (by decide +kernel) (aa_cons (ae_ix (ae_ix (av 1) ae_int (fun _ _ => rfl)) ae_int (fun _ _ => rfl)) aa_nil)) ae_int (nomark _))
        (as_one (as_ret (ae_ix (ae_ix (av 1) ae_int (fun _ _ => rfl)) ae_int (fun _ _ => rfl))))
        as_nil)
      (as_cons (as_set (i := 2) sc_placed.nd rfl (by first | exact Or.inl rfl | exact Or.inr rfl) (ae_lst aa_nil))
      (as_cons (as_for PassesOwn.never rfl (ai_enumT (by rfl) T.n_enumerate (aa_cons (ae_kids T.cls.c (ok_Fountain_parts T) (hr.mono (by omega)) (av 0) rfl) aa_nil)) (ag_tup (n := 2) rfl (ags_cons (ag_name (i := 3) sc_placed.nd rfl (by first | exact Or.inl rfl | exact Or.inr rfl)) (ags_cons (ag_name (i := 4) sc_placed.nd rfl (by first | exact Or.inl rfl | exact Or.inr rfl)) ags_nil)) (fun _ _ _ _ z => agNs_len (js := [3, 4]) z))
        (as_one (as_expr (ae_ml PySem.F.plainAttrs_list PySem.F.slot_list_append PySem.F.type_list_append mt_append low_append (av 2) (aa_cons (ae_call ih (hr.mono (by omega)) (by rfl) (aa_cons (av 4) (aa_cons (ae_lcIf (own := [("path", 5), ("part", 6)]) (by rfl) sc_placed.nd (ai_list (av 1)) (blkOk_by (by kernel_rfl)) (tgOk_tup (js := [5, 6]) rfl (by decide)) (fun _ _ _ _ _ => pg_tupK (K := K) rfl rfl (pgs_cons (pg_name (i := 5) sc_placed.nd rfl (by first | exact Or.inl rfl | exact Or.inr rfl)) (pgs_cons (pg_name (i := 6) sc_placed.nd rfl (by first | exact Or.inl rfl | exact Or.inr rfl)) pgs_nil))) (fun _ _ _ _ _ => (at_cmp (aop_eqG (okF_eq T) (hr.mono (by omega)) hr.units) (ae_ix (av 5) ae_int (fun _ _ => rfl)) (av 3) (nomark _))) (fun _ _ _ _ _ => (ae_tup (aa_cons (ae_sl (av 5) (ao_some ae_int) ao_none) (aa_cons (av 6) aa_nil))))) aa_nil))) aa_nil)))))
      (as_one (as_ret (ae_call (okA_made T) (hr.mono (by omega)) (by rfl) (aa_cons (av 2) aa_nil))))))))) ?vc
  case len =>
    intro ds L R RX h
    unfold asp_placed at h
    split at h <;> first | rfl | exact h.elim
  case vc =>
    intro ds L R RX h
    unfold asp_placed at h
    split at h
    rotate_left
    · exact h.elim
    rename_i t P
    obtain ⟨ps, hP, hn, hl, hd, hz, h⟩ := h
    have hsl := sizeLine_eq
    refine ⟨_, hP, ite2 (fun e => ?_) (fun e => ?_)⟩
    · cases ps with
      | nil =>
        rw [swT_nil] at h
        exact ret_of h
      | cons q r => exact absurd (of_decide_eq_true ((Bool.false_xor _).symm.trans e)) (by show ¬ ((((r.map dpt).length + 1 : Nat)) : Int) = 0; omega)
    cases ps with
    | nil => exact absurd rfl e
    | cons q rest =>
      have a0 : atI ((q :: rest).map dpt) 0 = some (dpt q) := show atI _ ((0 : Nat) : Int) = _ from atI_nat rfl
      have a1 : atI [D.tup (q.1.map fun k : Nat => D.int (k : Nat)), D.tree q.2] 0 = some (D.tup (q.1.map fun k : Nat => D.int (k : Nat))) := show atI _ ((0 : Nat) : Int) = _ from atI_nat rfl
      have a2 : atI [D.tup (q.1.map fun k : Nat => D.int (k : Nat)), D.tree q.2] 1 = some (D.tree q.2) := show atI _ ((1 : Nat) : Int) = _ from atI_nat rfl
      refine ⟨_, dpt q, hP, a0, _, a1, ite2 (fun e2 => ?_) (fun e2 => ?_)⟩
      · have e3 : q.1 = [] := by
          cases hq : q.1 with
          | nil => rfl
          | cons _ _ => rw [hq] at e2; exact absurd (of_decide_eq_true ((Bool.false_xor _).symm.trans e2)) (by rw [List.map_cons, List.length_cons]; omega)
        rw [swT_top t e3] at h
        exact ⟨_, dpt q, hP, a0, _, a2, ret_of h⟩
      have hne : q.1 ≠ [] := fun z => e2 (by rw [z]; rfl)
      rw [swT_in t hne] at h
      have hall := hn.ne hne
      have hkd : t.kids = t.kd := by cases t <;> rfl
      have hkz : (t.kids.map D.tree).length = t.kids.length := List.length_map _
      have hks := kids_size t
      have hkl := length_le t.kids
      have hswz := swL_size t.kd 0 (q :: rest)
      have hwt := wt_le 0 (q :: rest)
      rw [← hkd] at h hswz
      generalize q :: rest = ps at *
      refine ⟨Nat.zero_le _, fun F hF => ?_⟩
      have hP2 : sput L F (.lst []) P = some (.lst (ps.map dpt)) := sput_old hP hF
      have sb2 := (SubS.refl L).new (m := .lst []) hF
      have hF2 : sput L F (.lst []) F = some (.lst []) := sput_same
      have hPF : P ≠ F := fun z => by rw [← z, hP] at hF; cases hF
      generalize sput L F (.lst []) = L2 at hF2 hP2 sb2 ⊢
      refine loop_k (enumD (t.kids.map D.tree)) (fun i env L' => ∃ us x3 x4, env = [some (.tree t), some (.ref P), some (.ref F), x3, x4, none, none] ∧ L' F = some (.lst (us.map D.tree)) ∧ SubS L L' ∧ L' P = some (.lst (ps.map dpt)) ∧ swL 0 t.kids ps = us ++ swL i (t.kids.drop i) ps) (fun _ _ _ _ _ => trivial) ?step ?fin _ _ ⟨[], _, _, rfl, hF2, sb2, hP2, rfl⟩
      case fin =>
        rintro env L' ⟨us, x3, x4, rfl, f1, s1, _, es⟩
        rw [enumD_len, hkz, List.drop_length] at es
        have e3 : swL 0 t.kids ps = us := by rw [es]; exact List.append_nil _
        rw [e3] at h hswz
        exact ⟨us, f1, by omega, ret_sub h s1⟩
      case step =>
        rintro i d env L' nn hi kn ⟨us, x3, x4, rfl, f1, s1, p1, es⟩
        have hil : i < t.kids.length := by
          have := (List.getElem?_eq_some_iff.mp hi).1
          rwa [enumD_len, hkz] at this
        have ed : d = .tup [.int (i : Nat), D.tree t.kids[i]] := by
          have e3 := enumD_get (l := t.kids.map D.tree) (i := i) (d := D.tree t.kids[i]) (by rw [List.getElem?_map, List.getElem?_eq_getElem hil]; rfl)
          rw [hi] at e3
          exact Option.some.inj e3
        subst ed
        have hku : t.kids[i].dep < t.dep ∧ t.kids[i].size < t.size := by
          have hm := List.getElem_mem hil
          cases t with
          | jet => exact absurd hil (Nat.not_lt_zero _)
          | bas l => exact ⟨dep_lt hm, size_mem hm⟩
        rw [swL_drop _ _ hil] at es
        have hus : us.length ≤ 100000 := by
          have h1 := length_le us
          have h2 : sizeL (swL 0 t.kids ps) = sizeL us + sizeL (swT t.kids[i] (subP i ps) :: swL (i + 1) (t.kids.drop (i + 1)) ps) := by rw [es, sizeL_app]
          omega
        refine ⟨rfl, ⟨F, _, rfl, f1⟩, _, p1, fun C hC => ?_⟩
        refine comp_pure (ai := aiList (aVar 1)) (kpT i) fT (fun l => sput_old p1 hC) (ps.map dpt) [] (by rw [List.length_map]; show 0 + ps.length ≤ _; omega) (fun d hd L3 k ⟨l, eL⟩ hk => ?_) ?_
        · obtain ⟨⟨p, b⟩, hq, rfl⟩ := List.mem_map.mp hd
          cases p with
          | nil => exact absurd rfl (hall _ hq)
          | cons j r =>
            have e0 : atI ((j :: r).map fun k : Nat => D.int (k : Nat)) 0 = some (.int (j : Nat)) := show atI _ ((0 : Nat) : Int) = _ from atI_nat rfl
            have e5 : cutD ((j :: r).map fun k : Nat => D.int (k : Nat)) (some 1) none = r.map fun k : Nat => D.int (k : Nat) := cutD_drop (k := 1) rfl
            have e6 : fT (dpt (j :: r, b)) = dpt (r, b) := rfl
            have e7 : kpT i (dpt (j :: r, b)) = decide (((j : Nat) : Int) = ((i : Nat) : Int)) := rfl
            rw [e6, e7] at hk
            refine ⟨rfl, rfl, .int (j : Nat), e0, ?_⟩
            refine ite2 (fun e => ?_) (fun e => ?_)
            · rw [show decide (((j : Nat) : Int) = ((i : Nat) : Int)) = true from (Bool.false_xor _).symm.trans e] at hk
              refine ⟨by show (2 : Nat) ≤ sizeLine; omega, ?_⟩
              rw [e5]
              exact hk
            · rw [show decide (((j : Nat) : Int) = ((i : Nat) : Int)) = false from Bool.eq_false_iff.mpr fun z => e ((Bool.false_xor _).trans z)] at hk
              exact hk
        rw [List.nil_append, sub_pt]
        have hsl2 : (subP i ps).length ≤ ps.length := by
          unfold subP
          rw [List.length_map]
          exact List.length_filter_le _ _
        have hws := wt_split i ps
        have hws2 := wt_le i ps
        have hCF : F ≠ C := fun z => by rw [← z, f1] at hC; cases hC
        have hF0 : L F = none := hF
        refine ⟨subP i ps, sput_same, hn.sub i, by omega, by omega, by omega, _, sput_old f1 hC, by rw [List.length_map]; omega, kn _ _ ⟨us ++ [swT t.kids[i] (subP i ps)], _, _, rfl, by rw [sput_same, List.map_append]; rfl, (s1.new hC).put hF0, ?_, by rw [es, List.append_assoc]; rfl⟩⟩
        rw [sput_ne hPF]
        exact sput_old p1 hC
theorem okA_placed  (T : Txt K mg base) {scr : Option (Addr × List Int)} (n : Nat) : CallD P w K mg base CX0 (77 + n) "placed" ["fountain", "pairs"] [] (spA (cA K scr) (asp_placed n)) := callD_rec (sp := fun n => spA (cA K scr) (asp_placed n)) T.d_placed (fun vs H Q E ⟨ds, L, R, RX, _, _, h, _⟩ => by
    unfold asp_placed at h
    split at h
    · obtain ⟨ps, _, _, _, z, _⟩ := h
      exact absurd z (Nat.not_lt_zero _)
    · exact h.elim
    ) (stepA_placed T) n
theorem ok_Nested___init__ (T : Txt K mg base) : ErrD P w K mg base 2 "Nested" (He.ga K "Nested") ["self"] (spErr0 K (He.ga K "Nested")) := by
  refine T.e_Nested.ok sc_Nested___init__ (fun vs H Q E h => ?_) (fun f cdv A outer s H vs Q E hr h => ?_)
  · obtain ⟨a, rfl, _⟩ := h
    rfl
  · obtain ⟨a, rfl, ha, k⟩ := h
    refine ⟨_, (pss_one (ps_expr (pe_cinit (by rfl) T.b_JetError.1 T.b_JetError.2 (pa_cons (pv 0) (pa_cons pe_str pa_nil))))), ?_⟩
    exact ⟨.ref a, rfl, a, He.ga K "Nested", [.str "Nested"], rfl, by show 1 ≤ 1000; decide, T.e_Nested.c.o, ha, k⟩
theorem tupD_pth {L : Store} {p : List Nat} {x : D} {Q : AQ} (h : PthD L p x) (q : Q (.tup (p.map fun k : Nat => D.int (k : Nat))) L) : tupD [x] L Q := by
  rcases h with rfl | ⟨r, rfl, hr⟩
  · exact q
  · exact ⟨_, hr, q⟩
def asp_Yard_exchange (K : PySem.W.Frag) : ASp
  | [.ref y, x1, x2], L, Q, RX => ∃ t l p q a b, L y = some (YdM K t l) ∧ l.length < 1000000 ∧ PthD L p x1 ∧ PthD L q x2 ∧ subT p t = some a ∧ subT q t = some b ∧ t.dep ≤ 121 ∧ t.size ≤ 10000 ∧ (nested p q → RX "Nested" [] L) ∧
      (¬ nested p q → (swT t [(p, b), (q, a)]).size ≤ 5000 ∧ (swT t [(p, b), (q, a)]).dep ≤ 120 ∧
        Q .non (sput L y (YdM K (swT t [(p, b), (q, a)]) (l ++ [(.tup [.str "exchange", .tup (p.map fun k : Nat => D.int (k : Nat)), .tup (q.map fun k : Nat => D.int (k : Nat))], t)]))))
  | _, _, _, _ => False
theorem okA_Yard_exchange  (T : Txt K mg base) {scr : Option (Addr × List Int)} : MethD P w K mg base (L2N.CX P w) 203 (He.ga K "Yard") "exchange" ["self", "path", "other"] [] (spA (cA K scr) (asp_Yard_exchange K)) := by
  refine T.m_Yard_exchange.okAX sc_Yard_exchange ?len (fun f cdv A outer s H E RX hE hr => (as_cons (as_par (i := 3) (j := 4) (by rfl) sc_Yard_exchange.nd rfl rfl (by decide) rfl rfl (aa_cons (ae_ty acb_tup (by rfl) T.n_tuple (by decide +kernel) (aa_cons (av 1) aa_nil)) (aa_cons (ae_ty acb_tup (by rfl) T.n_tuple (by decide +kernel) (aa_cons (av 2) aa_nil)) aa_nil)) (by rfl))
      (as_cons (as_par (i := 5) (j := 6) (by rfl) sc_Yard_exchange.nd rfl rfl (by decide) rfl rfl (aa_cons (ae_meth T.cls.c (okA_Fountain_at_a T) (fun _ _ _ => by kernel_rfl) (hr.mono (by decide)) (ae_propM (K := K) rfl T.o_Yard.c (okA_Yard_now T) (hr.mono (by decide)) (av 0) rfl) (aa_cons (av 3) aa_nil)) (aa_cons (ae_meth T.cls.c (okA_Fountain_at_a T) (fun _ _ _ => by kernel_rfl) (hr.mono (by decide)) (ae_propM (K := K) rfl T.o_Yard.c (okA_Yard_now T) (hr.mono (by decide)) (av 0) rfl) (aa_cons (av 4) aa_nil)) aa_nil)) (by rfl))
      (as_cons (as_via (as_set (i := 7) sc_Yard_exchange.nd rfl (by first | exact Or.inl rfl | exact Or.inr rfl) (ae_b (acb_min rfl) (by rfl) T.n_min (by decide +kernel) (aa_cons (ae_b acb_len (by rfl) T.n_len (by decide +kernel) (aa_cons (av 3) aa_nil)) (aa_cons (ae_b acb_len (by rfl) T.n_len (by decide +kernel) (aa_cons (av 4) aa_nil)) aa_nil)))))
      (as_cons (as_if (at_cmp (aop_eqG (okF_eq T) (hr.mono (by decide)) hr.units) (ae_sl (av 3) ao_none (ao_some (av 7))) (ae_sl (av 4) ao_none (ao_some (av 7))) (nomark _))
        (as_one (as_raise0 rfl (L2N.takes_of rfl rfl rfl rfl) hE (ok_Nested___init__ T) (hr.mono (by decide)) (by rfl)))
        as_nil)
      (as_one (as_expr (ae_methM (K := K) rfl T.o_Yard.c (okA_Yard_hold T) (hr.mono (by decide)) (av 0) (aa_cons (ae_tup (aa_cons ae_str (aa_cons (av 3) (aa_cons (av 4) aa_nil)))) (aa_cons (ae_callP (okA_allowed T) (hr.mono (by decide)) (by rfl) (passA_of (passE rfl rfl rfl rfl) hE) (aa_cons (ae_call (okA_placed T 122) (hr.mono (by decide)) (by rfl) (aa_cons (ae_propM (K := K) rfl T.o_Yard.c (okA_Yard_now T) (hr.mono (by decide)) (av 0) rfl) (aa_cons (ae_lst (aa_cons (ae_tup (aa_cons (av 3) (aa_cons (av 6) aa_nil))) (aa_cons (ae_tup (aa_cons (av 4) (aa_cons (av 5) aa_nil))) aa_nil))) aa_nil))) aa_nil)) aa_nil)))))))))) ?vc
  case len =>
    intro ds L R RX h
    unfold asp_Yard_exchange at h
    split at h <;> first | rfl | exact h.elim
  case vc =>
    intro ds L R RX h
    unfold asp_Yard_exchange at h
    split at h
    · rename_i y x1 x2
      obtain ⟨t, l, p, q, a, b, hy, hl, hx1, hx2, hp, hq, hd, hz, h1, h2⟩ := h
      have hsl := sizeLine_eq
      refine tupD_pth hx1 (tupD_pth hx2 ?_)
      refine ⟨⟨_, _, hy, by decide⟩, t, l, hy, p, a, .inl rfl, hp, ⟨_, _, hy, by decide⟩, t, l, hy, q, b, .inl rfl, hq, ?_⟩
      refine ⟨fun env L2 => L2 = L ∧ env = [some (.ref y), some x1, some x2, some (.tup (p.map fun k : Nat => D.int (k : Nat))), some (.tup (q.map fun k : Nat => D.int (k : Nat))), some (.tree a), some (.tree b), some (.int ((min p.length q.length : Nat) : Int))], ?_, ?_⟩
      · have e : (if ((q.map fun k : Nat => D.int (k : Nat)).length : Int) < ((p.map fun k : Nat => D.int (k : Nat)).length : Int) then ((q.map fun k : Nat => D.int (k : Nat)).length : Int) else ((p.map fun k : Nat => D.int (k : Nat)).length : Int)) = ((min p.length q.length : Nat) : Int) := by
          rw [List.length_map, List.length_map]
          split <;> omega
        rw [← e]
        exact ⟨rfl, rfl⟩
      rintro env L2 ⟨rfl, rfl⟩
      dsimp only
      unfold aSeq aIfS
      refine at_eq_sl (l := p.map fun k : Nat => D.int (k : Nat)) (m := q.map fun k : Nat => D.int (k : Nat)) (n := ((min p.length q.length : Nat) : Int)) ?c1 ?c2 ?c3 ?_
      case c1 => rfl
      case c2 => rfl
      case c3 => rfl
      have hdl : ∀ p : List Nat, depDL (p.map fun k : Nat => D.int (k : Nat)) ≤ 70 := fun p => by rw [depDL_map fun _ => rfl]; omega
      rw [cutD_take rfl, cutD_take rfl]
      refine eqSq_map nat_eqDD (hdl _) ?_
      refine ite2 (fun e => ?_) (fun e => ?_)
      · exact ⟨L2, SubS.refl L2, h1 (of_decide_eq_true ((Bool.false_xor _).symm.trans e))⟩
      have hne : ¬ nested p q := fun z => e ((Bool.false_xor _).trans (decide_eq_true z))
      obtain ⟨g1, g2, h⟩ := h2 hne
      have hsp := sub_bnd p t a hp
      have hsq := sub_bnd q t b hq
      have hw : wtA [(p, b), (q, a)] = b.size + (a.size + 0) := rfl
      refine ⟨⟨_, _, hy, by decide⟩, by show (3 : Nat) ≤ sizeLine; omega, ⟨_, _, hy, by decide⟩, t, l, hy, by show (2 : Nat) ≤ sizeLine; omega, by show (2 : Nat) ≤ sizeLine; omega, by show (2 : Nat) ≤ sizeLine; omega, fun P hP => ?_⟩
      refine ⟨[(p, b), (q, a)], sput_same, nopre_of hne, by show (2 : Nat) ≤ 10; decide, by omega, by omega, fun z => absurd z (by omega), fun _ z => absurd z (by omega), fun _ _ => ?_⟩
      exact ⟨t, l, sput_old hy hP, hl, ret_sub h ((SubS.refl L2).new hP).over⟩
    · exact h.elim
def sp_product_numbers (K : PySem.W.Frag) : Sp := fun vs H Q _ => ∃ n m a b, vs = [.ref n, .ref m] ∧ H n = some (.tup (nums a)) ∧ H m = some (.tup (nums b)) ∧ Can a ∧ (a.jts < 18446744073709551616 ∨ b.size < 18446744073709551616) ∧ ∀ p H', Same H H' → H' p = some (.tup (nums (JW.T.grf b a))) → Q (.ref p) H'
theorem ok_product_numbers  (T : Txt K mg base) : CallD P w K mg base CX0 1 "product_numbers" ["one", "other"] [] (sp_product_numbers K) := by
  refine T.d_product_numbers.ok sc_product_numbers (fun vs H Q E h => ?_) (fun f cdv A outer s H vs Q E hr h => ?_)
  · obtain ⟨n, m, a, b, rfl, _⟩ := h
    rfl
  · obtain ⟨n, m, a, b, rfl, hn, hm, hc, hj, k⟩ := h
    have hjb := jts_le b
    have cmA : CMul ((a.jts : Nat) : Int) ((b.size : Nat) - 1 : Int) := hj.elim (fun h => .inl ⟨by omega, by omega⟩) fun h => .inr ⟨by omega, by omega⟩
    have cmB : CMul ((a.jts : Nat) : Int) ((b.jts : Nat) : Int) := hj.elim (fun h => .inl ⟨by omega, by omega⟩) fun h => .inr ⟨by omega, by omega⟩
    have hgs := grf_sizeI b a
    have hgj := grf_jts b a
    have hgd := grf_dep b a
    refine ⟨_, (pss_cons (ps_if (pt_cmpR op_eq (pe_ix ix_tup (pv 0) pe_int (fun _ _ => rfl)) pe_int (nomark _))
        (pss_one (ps_ret (pv 0)))
        pss_nil)
      (pss_cons (ps_set (i := 2) sc_product_numbers.nd rfl (by first | exact Or.inl rfl | exact Or.inr rfl) (pe_callB (call_max2 rfl) (by rfl) T.n_max (by decide +kernel) (pa_cons (pe_ix ix_tup (pv 0) pe_int (fun _ _ => rfl)) (pa_cons (pe_op op_add (pe_ix ix_tup (pv 0) pe_int (fun _ _ => rfl)) (pe_ix ix_tup (pv 1) pe_int (fun _ _ => rfl))) pa_nil))))
      (pss_cons (ps_par (i := 3) (j := 4) (by rfl) sc_product_numbers.nd rfl rfl (by decide) rfl rfl (pa_cons (pe_op op_add (pe_ix ix_tup (pv 0) pe_int (fun _ _ => rfl)) (pe_op op_mul (pe_ix ix_tup (pv 0) pe_int (fun _ _ => rfl)) (pe_op op_sub (pe_ix ix_tup (pv 1) pe_int (fun _ _ => rfl)) pe_int))) (pa_cons (pe_op op_mul (pe_ix ix_tup (pv 0) pe_int (fun _ _ => rfl)) (pe_ix ix_tup (pv 1) pe_int (fun _ _ => rfl))) pa_nil)) (by rfl))
      (pss_cons (ps_if (pt_cmpR op_eq (pv 4) pe_int (nomark _))
        (pss_one (ps_ret (pe_tup (pa_cons (pv 3) (pa_cons (pv 4) (pa_cons (pv 2) (pa_cons pe_non (pa_cons pe_non pa_nil))))))))
        pss_nil)
      (pss_one (ps_ret (pe_tup (pa_cons (pv 3) (pa_cons (pv 4) (pa_cons (pv 2) (pa_cons (pe_op op_add (pe_ix ix_tup (pv 0) pe_int (fun _ _ => rfl)) (pe_ix ix_tup (pv 1) pe_int (fun _ _ => rfl))) (pa_cons (pe_op op_add (pe_ix ix_tup (pv 0) pe_int (fun _ _ => rfl)) (pe_ix ix_tup (pv 1) pe_int (fun _ _ => rfl))) pa_nil)))))))))))), ?_⟩
    refine ⟨.ref n, rfl, n, _, _, _, rfl, rfl, SqT.of hn, rfl, rfl, _, rfl, ite2 (fun e => ⟨.ref n, rfl, ?_⟩) fun e => ?_⟩
    · have e0 := of_decide_eq_true e
      have e1 : ((a.jts : Nat) : Int) = 0 := V.int.inj e0
      refine k n H (Same.refl H) ?_
      rw [grf_closed b a hc (by omega)]
      exact hn
    have hj0 : a.jts ≠ 0 := fun z => e (decide_eq_true (by rw [z]; rfl))
    have na : nums a = [.int (a.size : Nat), .int (a.jts : Nat), .int (a.dep : Nat), .int (a.lng : Nat), .int (a.sht : Nat)] := by
      unfold nums
      rw [if_neg hj0, if_neg hj0]
    rw [if_neg hj0] at hgd
    rw [na] at hn
    have hmx : ∀ i j : Nat, (if ((j : Nat) : Int) > (i : Nat) then ((j : Nat) : Int) else (i : Nat)) = ((max i j : Nat) : Int) := fun i j => by
      split <;> omega
    have hdd : ((a.lng : Nat) : Int) + (b.dep : Nat) = ((a.lng + b.dep : Nat) : Int) := by omega
    refine ⟨.ref n, rfl, n, _, _, _, rfl, rfl, SqT.of hn, rfl, .ref n, rfl, n, _, _, _, rfl, rfl, SqT.of hn, rfl, .ref m, rfl, m, _, _, _, rfl, rfl, SqT.of hm, rfl, _, _, rfl, rfl, _, _, rfl, .ref n, rfl, n, _, _, _, rfl, rfl, SqT.of hn, rfl, .ref n, rfl, n, _, _, _, rfl, rfl, SqT.of hn, rfl, .ref m, rfl, m, _, _, _, rfl, rfl, SqT.of hm, rfl, _, _, rfl, rfl, _, _, rfl, rfl, cmA, _, _, rfl, rfl, .ref n, rfl, n, _, _, _, rfl, rfl, SqT.of hn, rfl, .ref m, rfl, m, _, _, _, rfl, rfl, SqT.of hm, rfl, _, _, rfl, rfl, cmB, _, _, rfl, _, rfl, rfl, _, rfl, ite2 (fun e2 => ?_) fun e2 => ?_⟩
    · have e3 := V.int.inj (of_decide_eq_true e2)
      have hz : (JW.T.grf b a).jts = 0 := by
        rw [hgj]
        have := Int.mul_eq_zero.mp e3
        rcases this with h | h
        · exact absurd (by omega) hj0
        · rw [show b.jts = 0 by omega, Nat.mul_zero]
      refine ⟨_, rfl, _, rfl, _, rfl, sz5, fun p hp => k p _ (Same.new (Same.refl H) hp) ?_⟩
      rw [upd_same, hdd, hmx, ← hgd]
      dsimp only
      rw [e3]
      unfold nums
      rw [if_pos hz, if_pos hz, hgs, hz]
      rfl
    · have hb0 : b.jts ≠ 0 := fun z => e2 (decide_eq_true (show V.int (((a.jts : Nat) : Int) * ((b.jts : Nat) : Int)) = V.int 0 from by rw [z]; exact congrArg V.int (Int.mul_zero _)))
      have hz : (JW.T.grf b a).jts ≠ 0 := by
        rw [hgj]
        exact fun z => hj0 ((mul_zero_iff hb0).mp z)
      have nb : nums b = [.int (b.size : Nat), .int (b.jts : Nat), .int (b.dep : Nat), .int (b.lng : Nat), .int (b.sht : Nat)] := by
        unfold nums
        rw [if_neg hb0, if_neg hb0]
      rw [nb] at hm
      refine ⟨_, rfl, _, rfl, _, rfl, .ref n, rfl, n, _, _, _, rfl, rfl, SqT.of hn, rfl, .ref m, rfl, m, _, _, _, rfl, rfl, SqT.of hm, rfl, _, _, rfl, rfl, .ref n, rfl, n, _, _, _, rfl, rfl, SqT.of hn, rfl, .ref m, rfl, m, _, _, _, rfl, rfl, SqT.of hm, rfl, _, _, rfl, rfl, sz5, fun p hp => k p _ (Same.new (Same.refl H) hp) ?_⟩
      rw [upd_same, hdd, hmx, ← hgd]
      unfold nums
      rw [if_neg hz, if_neg hz, hgs, hgj, grf_lng hb0 a hj0, grf_sht hb0 a hj0]
      simp only [Int.natCast_add, Int.natCast_mul]
def sp_grafted (K : PySem.W.Frag) (n : Nat) : Sp := fun vs H Q _ => ∃ v t b u, vs = [v, u] ∧ Ftn (cF K) H t v ∧ Ftn (cF K) H b u ∧ Can t ∧ t.dep < n ∧ (JW.T.grf b t).size ≤ 1048576 ∧ LamX.Tabs (TT K) H ∧ ∀ w H', LamX.ExtN H H' → LamX.Tabs (TT K) H' → Ftn (cF K) H' (JW.T.grf b t) w → Q w H'
theorem sizeL_map_mem {f : T → T} {l : List T} {t : T} (h : t ∈ l) : (f t).size ≤ sizeL (l.map f) := len_le (List.mem_map.mpr ⟨t, h, rfl⟩)
theorem step_grafted  (T : Txt K mg base) (n : Nat) (ih : CallD P w K mg base CX0 (6 + n) "grafted" ["fountain", "part"] [] (sp_grafted K n)) : CallD P w K mg base CX0 (6 + n + 1) "grafted" ["fountain", "part"] [] (sp_grafted K (n + 1)) := by
  refine T.d_grafted.ok sc_grafted (fun vs H Q E h => ?_) (fun f cdv A outer s H vs Q E hr h => ?_)
  · obtain ⟨v, t, b, u, rfl, _⟩ := h
    rfl
  · obtain ⟨v, t, b, u, rfl, hv, hu, hc, hn, hsz, hT, k⟩ := h
    obtain ⟨av, dv, bv, nv, xv, rfl, hav, hbv, hnv, hkv⟩ := ftn_iff.mp hv
    obtain ⟨au, du, bu, nu, xu, rfl, hau, hbu, hnu, hku⟩ := ftn_iff.mp hu
    have hsl := sizeLine_eq
    refine ⟨_, (pss_cons (ps_if (pt_val (pe_propD T.cls.c (ok_Fountain_is_jet T) (hr.mono (by omega)) pass0 (pv 0) rfl))
        (pss_one (ps_ret (pv 1)))
        pss_nil)
      (pss_cons (ps_if (pt_not (pt_val (pe_propD T.cls.c (ok_Fountain_is_open T) (hr.mono (by omega)) pass0 (pv 0) rfl)))
        (pss_one (ps_ret (pv 0)))
        pss_nil)
      (pss_one (ps_ret (pe_callD (ok_made T) (hr.mono (by omega)) (by rfl) pass0 (pa_cons (pe_lc (own := [("branch", 2)]) (g := gName 2) (tt := tYes) (by rfl) sc_grafted.nd (pi_tup (pe_propD T.cls.c (ok_Fountain_parts T) (hr.mono (by omega)) pass0 (pv 0) rfl)) (blkOk_by (by kernel_rfl)) (fun _ _ _ _ _ => pg_name (i := 2) sc_grafted.nd rfl (by first | exact Or.inl rfl | exact Or.inr rfl)) (fun _ _ _ _ _ => pts_nil) (fun _ _ _ _ _ => (pe_callD ih (hr.mono (by omega)) (by rfl) pass0 (pa_cons (pv 2) (pa_cons (pv 1) pa_nil))))) pa_nil)))))), ?_⟩
    refine ⟨.ref av, rfl, ev_prop hv ⟨_, rfl, ite2 (fun e => ⟨.ref au, rfl, ?_⟩) fun e => ⟨.ref av, rfl, ev_prop hv ⟨_, rfl, ite2 (fun e1 => ⟨.ref av, rfl, ?_⟩) fun e1 => ?_⟩⟩⟩⟩
    · have e' : t = .jet := of_decide_eq_true e
      subst e'
      exact k _ _ (LamX.ExtN.refl H) hT hu
    · refine k _ _ (LamX.ExtN.refl H) hT ?_
      rw [grf_closed b t hc (by simpa using e1)]
      exact hv
    have hj : t.jts ≠ 0 := fun z => e1 (by rw [z]; rfl)
    cases t with
    | jet => exact absurd (decide_eq_true rfl) e
    | bas l =>
      rw [grf_bas] at k hsz
      have hs2 : 1 + sizeL (sortT (l.map (JW.T.grf b))) ≤ 1048576 := hsz
      rw [sizeL_perm (sortT_perm _)] at hs2
      have hll := length_le (l.map (JW.T.grf b))
      rw [List.length_map] at hll
      refine ⟨.ref av, rfl, ev_kids hv fun b' xs' hb' hk' => ⟨b', rfl, ⟨xs', SqT.of hb'⟩, fun D hD => lc_ftnT (l := l) (g := JW.T.grf b) hD (SqT.of hb') hk' ?_ hT (fun _ => rfl) (fun x t' H' Q' ht' hx' hE' hT' q' => ?_) (fun H' ys hE hT2 hy hfy => ?_)⟩⟩
      · have h1 : xs'.length = l.length := hk'.len
        omega
      · have h1 := dep_lt ht'
        have h2 := sizeL_map_mem (f := JW.T.grf b) ht'
        exact ⟨x, rfl, .ref au, rfl, x, t', b, .ref au, rfl, hx', hu.ext hE', canL_iff.mp hc.2 t' ht', by omega, by omega, hT', q'⟩
      · exact ⟨D, ys, l.map (JW.T.grf b), rfl, .inl (SqL.of hy), hfy, by omega, hT2, fun w H'' e1 e2 e3 => k w H'' (hE.trans e1) e2 e3⟩
theorem ok_grafted  (T : Txt K mg base) (n : Nat) : CallD P w K mg base CX0 (6 + n) "grafted" ["fountain", "part"] [] (sp_grafted K n) := callD_rec (sp := sp_grafted K) T.d_grafted (by
    rintro vs H Q E ⟨v, t, b, u, _, _, _, _, z, _⟩
    exact absurd z (Nat.not_lt_zero _)
    ) (step_grafted T) n
def sp_multiplied (K : PySem.W.Frag) : Sp := fun vs H Q E => ∃ v xs ts, vs = [.ref v] ∧ SqL K H v xs ∧ FtnL (cF K) H ts xs ∧ (∀ t ∈ ts, Can t) ∧ ((∀ i, (prodT (ts.take i)).jts < 18446744073709551616) ∨ ∀ t ∈ ts, t.size < 18446744073709551616) ∧ LamX.Tabs (TT K) H ∧ OutF K (prodT ts) H Q E
theorem ok_multiplied  (T : Txt K mg base) : CallD P w K mg base (L2N.CX P w) 129 "multiplied" ["factors"] [] (sp_multiplied K) := by
  refine T.d_multiplied.okX sc_multiplied (fun vs H Q E h => ?_) (fun f cdv A outer s H vs Q E hr h => ?_)
  · obtain ⟨v, xs, ts, rfl, _⟩ := h
    rfl
  · obtain ⟨v, xs, ts, rfl, hS, hf, hc, hj, hT, o⟩ := h
    have hlen := hf.len
    refine ⟨_, (pss_cons (ps_set (i := 1) sc_multiplied.nd rfl (by first | exact Or.inl rfl | exact Or.inr rfl) (pe_fld (pe_via (pe_makeD (ok_Fountain___init__ T) (hr.mono (by decide)) (by rfl) pass0 (pa_cons (pe_gstr rfl T.gJET_TEXT) (pa_cons (pe_tup pa_nil) pa_nil)))) rfl))
      (pss_cons (ps_for (passes_of rfl) rfl (pi_list (pv 0)) (pg_name (i := 2) sc_multiplied.nd rfl (by first | exact Or.inl rfl | exact Or.inr rfl))
        (pss_one (ps_set (i := 1) sc_multiplied.nd rfl (by first | exact Or.inl rfl | exact Or.inr rfl) (pe_callD (ok_product_numbers T) (hr.mono (by decide)) (by rfl) pass0 (pa_cons (pv 1) (pa_cons (pe_fld (pv 2) rfl) pa_nil))))))
      (pss_cons (ps_expr (pe_callD (ok_check_numbers_x T) (hr.mono (by decide)) (by rfl) (passE rfl rfl rfl rfl) (pa_cons (pv 1) pa_nil)))
      (pss_cons (ps_set (i := 3) sc_multiplied.nd rfl (by first | exact Or.inl rfl | exact Or.inr rfl) (pe_via (pe_makeD (ok_Fountain___init__ T) (hr.mono (by decide)) (by rfl) pass0 (pa_cons (pe_gstr rfl T.gJET_TEXT) (pa_cons (pe_tup pa_nil) pa_nil)))))
      (pss_cons (ps_for (passes_of rfl) rfl (pi_list (pv 0)) (pg_name (i := 2) sc_multiplied.nd rfl (by first | exact Or.inl rfl | exact Or.inr rfl))
        (pss_one (ps_set (i := 3) sc_multiplied.nd rfl (by first | exact Or.inl rfl | exact Or.inr rfl) (pe_callD (ok_grafted T 121) (hr.mono (by decide)) (by rfl) pass0 (pa_cons (pv 3) (pa_cons (pv 2) pa_nil))))))
      (pss_one (ps_ret (pv 3)))))))), ?_⟩
    refine ⟨fun v H' => Same H H' ∧ Ftn (cF K) H' .jet v, mk_jet (K := K) (H := H) (Q := fun v H' => Same H H' ∧ Ftn (cF K) H' .jet v) (E := E0) fun v H' s f => ⟨s, f⟩, fun v0 H1 ⟨s1, f0⟩ => ?_⟩
    obtain ⟨a0, d0, b0, n0, x0, rfl, ha0, hb0, hn0, hk0⟩ := ftn_iff.mp f0
    have hlt : ∀ {i : Nat} {x : V}, xs[i]? = some x → i < ts.length := fun h => by
      have := (List.getElem?_eq_some_iff.mp h).1
      omega
    have tk : ∀ {i : Nat} {t : JW.T}, ts[i]? = some t → prodT (ts.take (i + 1)) = JW.T.grf t (prodT (ts.take i)) := fun h => by
      rw [List.take_succ, h]
      exact prod_snoc _ _
    have ct : ∀ i, Can (prodT (ts.take i)) := fun i => prod_can fun t ht => hc t (List.mem_of_mem_take ht)
    refine ⟨a0, _, d0, _, _, rfl, ha0, T.cls.c, T.cls.nn, fl_n, .ref v, rfl, v, rfl, ⟨_, s1.seq hS⟩, for_list (K := K) (a := v) (xs := xs) (fun i σ' H' => ∃ n v2, σ' = [some (.ref v), some (.ref n), v2, none] ∧ Same H H' ∧ H' n = some (.tup (nums (prodT (ts.take i))))) ⟨n0, none, rfl, s1, hn0⟩ (fun i σ' H' _ ⟨_, _, _, s, _⟩ => s.seq hS) ?_ ?_⟩
    · rintro i x σ' H2 hx ⟨n, v2, rfl, s2, hn2⟩
      obtain ⟨t, e1, e2⟩ := hf.get hx
      obtain ⟨ax, dx, bx, nx, yx, rfl, hax, hbx, hnx, hkx⟩ := ftn_iff.mp (e2.same s2)
      refine ⟨.ref n, rfl, .ref ax, rfl, ax, _, dx, _, _, rfl, hax, T.cls.c, T.cls.nn, fl_n, n, nx, prodT (ts.take i), t, rfl, hn2, hnx, ct i, hj.elim (fun h => .inl (h i)) (fun h => .inr (h t (List.mem_of_getElem? e1))), fun p H3 s3 hp => ⟨p, some (.ref ax), rfl, s2.trans s3, ?_⟩⟩
      rw [tk e1]
      exact hp
    rintro σ' H2 ⟨n, v2, rfl, s2, hn2⟩
    rw [hlen, List.take_length] at hn2
    have T2 := Tabs.same hT s2
    refine ⟨.ref n, rfl, n, prodT ts, rfl, hn2, (o.from (.of s2)).nums T2 fun h5 h12 => ?_⟩
    refine ⟨fun v H' => Same H2 H' ∧ Ftn (cF K) H' .jet v, mk_jet (K := K) (H := H2) (Q := fun v H' => Same H2 H' ∧ Ftn (cF K) H' .jet v) (E := E0) fun v H' s f => ⟨s, f⟩, fun v3 H3 ⟨s3, f3⟩ => ?_⟩
    have s23 := s2.trans s3
    refine ⟨.ref v, rfl, v, rfl, ⟨_, s23.seq hS⟩, for_list (K := K) (a := v) (xs := xs) (fun i σ' H' => ∃ w v2, σ' = [some (.ref v), some (.ref n), v2, some w] ∧ LamX.ExtN H H' ∧ LamX.Tabs (TT K) H' ∧ Ftn (cF K) H' (prodT (ts.take i)) w) ⟨v3, _, rfl, .of s23, Tabs.same T2 s3, f3⟩ (fun i σ' H' _ ⟨_, _, _, e, _⟩ => seqN hS e) ?_ ?_⟩
    · rintro i x σ' H4 hx ⟨w, v2, rfl, e4, T4, f4⟩
      obtain ⟨t, e1, e2⟩ := hf.get hx
      have hle := prod_take_le ts i
      have hle2 := prod_take_le ts (i + 1)
      rw [tk e1] at hle2
      refine ⟨w, rfl, x, rfl, w, prodT (ts.take i), t, x, rfl, f4, e2.ext e4, ct i, by omega, by omega, T4, fun w' H5 e5 T5 f5 => ⟨w', some x, rfl, e4.trans e5, T5, ?_⟩⟩
      rw [tk e1]
      exact f5
    rintro σ' H4 ⟨w, v2, rfl, e4, T4, f4⟩
    rw [hlen, List.take_length] at f4
    exact ⟨w, rfl, o.2.2 h5 h12 w H4 e4 T4 f4⟩
def sp_mul (K : PySem.W.Frag) : Sp := fun vs H Q E => ∃ v t b u, vs = [v, u] ∧ Ftn (cF K) H t v ∧ Ftn (cF K) H b u ∧ Can t ∧ Can b ∧ t.jts < 18446744073709551616 ∧ t.jts * b.jts < 18446744073709551616 ∧ LamX.Tabs (TT K) H ∧ OutF K (T.grf b t) H Q E
theorem ok_Fountain___mul__  (T : Txt K mg base) : MethD P w K mg base (L2N.CX P w) 130 (cF K) "__mul__" ["self", "other"] [] (sp_mul K) := by
  refine T.m___mul__.okX sc_Fountain___mul__ (fun vs H Q E h => ?_) (fun f cdv A outer s H vs Q E hr h => ?_)
  · obtain ⟨v, t, b, u, rfl, _⟩ := h
    rfl
  · obtain ⟨v, t, b, u, rfl, hv, hu, hct, hcb, hj1, hj2, hT, o⟩ := h
    obtain ⟨au, du, bu, nu, xu, rfl, hau, hbu, hnu, hku⟩ := ftn_iff.mp hu
    refine ⟨_, (pss_cons (ps_if (pt_not (pt_val (pe_callB call_isi (by rfl) T.n_isinstance (by decide +kernel) (pa_cons (pv 1) (pa_cons (pe_glob (v := .ref (cF K)) rfl T.cls.g rfl) pa_nil)))))
        pss_never
        pss_nil)
      (pss_one (ps_ret (pe_callD (ok_multiplied T) (hr.mono (by decide)) (by rfl) (passE rfl rfl rfl rfl) (pa_cons (pe_lst (pa_cons (pv 0) (pa_cons (pv 1) pa_nil))) pa_nil))))), ?_⟩
    refine ⟨.ref au, rfl, .ref au, .ref (cF K), _, _, true, rfl, .own _, T.cls.ty hau, isi_self, _, rfl, ite_f rfl ⟨v, rfl, .ref au, rfl, sz2, fun p hp => ?_⟩⟩
    have s1 : Same H (upd H p (.lst [v, .ref au])) := Same.new (Same.refl H) hp
    refine ⟨p, [v, .ref au], [t, b], rfl, SqL.of upd_same, ⟨v, [.ref au], rfl, hv.same s1, .ref au, [], rfl, hu.same s1, rfl⟩, fun x hx => ?_, .inl fun i => ?_, Tabs.same hT s1, o.from (.of s1)⟩
    · rcases List.mem_cons.mp hx with e | e
      · rw [e]
        exact hct
      · rw [List.mem_singleton.mp e]
        exact hcb
    · match i with
      | 0 => show (1 : Nat) < _; decide
      | 1 => exact hj1
      | i + 2 =>
        rw [List.take_of_length_le (by show 2 ≤ i + 2; omega), prod_two, grf_jts]
        exact hj2
def asp_Fountain___mul__ : ASp
  | [.tree t, .tree u], L, Q, RX => Can t ∧ Can u ∧ t.jts < 18446744073709551616 ∧ t.jts * u.jts < 18446744073709551616 ∧ outD (T.grf u t) L Q RX
  | _, _, _, _ => False
theorem okA_Fountain___mul__ (T : Txt K mg base) {scr : Option (Addr × List Int)} : MethD P w K mg base (L2N.CX P w) 130 (cF K) "__mul__" ["self", "other"] [] (spA (cA K scr) asp_Fountain___mul__) :=
  (ok_Fountain___mul__ T).imp fun vs H Q E ⟨ds, L, R, RX, r, g, h, pq, px⟩ => by
    unfold asp_Fountain___mul__ at h
    split at h
    · obtain ⟨h1, h2, h3, h4, h⟩ := h
      obtain ⟨v, w, rfl, r1, r2⟩ := repL_two r
      exact ⟨v, _, _, w, rfl, rep_tree.mp r1, rep_tree.mp r2, h1, h2, h3, h4, g.tabs, out_low h g pq px⟩
    · exact h.elim

def asp_Yard_grow (K : PySem.W.Frag) : ASp
  | [.ref y, .tree b], L, Q, _ => ∃ t l, L y = some (YdM K t l) ∧ l.length < 1000000 ∧ Can t ∧ Can b ∧ t.jts < 18446744073709551616 ∧ t.jts * b.jts < 18446744073709551616 ∧ (T.grf b t).size ≤ 5000 ∧ (T.grf b t).dep ≤ 120 ∧
      Q .non (sput L y (YdM K (T.grf b t) (l ++ [(.tup [.str "grow", .str (tx b)], t)])))
  | _, _, _, _ => False
theorem okA_Yard_grow  (T : Txt K mg base) {scr : Option (Addr × List Int)} : MethD P w K mg base CX0 136 (He.ga K "Yard") "grow" ["self", "part"] [] (spA (cA K scr) (asp_Yard_grow K)) := by
  refine T.m_Yard_grow.okA sc_Yard_grow ?len (fun f cdv A outer s H E hr => (as_one (as_expr (ae_methM (K := K) rfl T.o_Yard.c (okA_Yard_hold T) (hr.mono (by decide)) (av 0) (aa_cons (ae_tup (aa_cons ae_str (aa_cons (ae_propG (fun t => .str (tx t)) (fun _ _ => rep_str.mpr rfl) T.cls.c (ok_Fountain_text T) (hr.mono (by decide)) (av 1) rfl) aa_nil))) (aa_cons (ae_binP (op := .Mult) T.cls (okA_Fountain___mul__ T) (hr.mono (by decide)) passA_no (ae_propM (K := K) rfl T.o_Yard.c (okA_Yard_now T) (hr.mono (by decide)) (av 0) rfl) (av 1)) aa_nil)))))) ?vc
  case len =>
    intro ds L R RX h
    unfold asp_Yard_grow at h
    split at h <;> first | rfl | exact h.elim
  case vc =>
    intro ds L R RX h
    unfold asp_Yard_grow at h
    split at h
    · rename_i y b
      obtain ⟨t, l, hy, hl, h1, h2, h3, h4, h5, h6, h⟩ := h
      have hsl := sizeLine_eq
      exact ⟨⟨_, _, hy, by decide⟩, by show (2 : Nat) ≤ sizeLine; omega, ⟨_, _, hy, by decide⟩, t, l, hy, h1, h2, h3, h4, fun z => absurd z (by omega), fun _ z => absurd z (by omega), fun _ _ => ⟨rfl, t, l, hy, hl, ret_of h⟩⟩
    · exact h.elim
def sp_cut (K : PySem.W.Frag) (n : Nat) : Sp := fun vs H Q _ => ∃ v t b u, vs = [v, u] ∧ Ftn (cF K) H t v ∧ Ftn (cF K) H b u ∧ t.dep < n ∧ t.size ≤ 1048576 ∧ LamX.Tabs (TT K) H ∧ ∀ w H', LamX.ExtN H H' → LamX.Tabs (TT K) H' → Ftn (cF K) H' (cutT b t) w → Q w H'
theorem step_cut  (T : Txt K mg base) (n : Nat) (ih : CallD P w K mg base CX0 (6 + n) "cut" ["fountain", "part"] [] (sp_cut K n)) : CallD P w K mg base CX0 (6 + n + 1) "cut" ["fountain", "part"] [] (sp_cut K (n + 1)) := by
  refine T.d_cut.ok sc_cut (fun vs H Q E h => ?_) (fun f cdv A outer s H vs Q E hr h => ?_)
  · obtain ⟨v, t, b, u, rfl, _⟩ := h
    rfl
  · obtain ⟨v, t, b, u, rfl, hv, hu, hn, hsz, hT, k⟩ := h
    obtain ⟨av, dv, bv, nv, xv, rfl, hav, hbv, hnv, hkv⟩ := ftn_iff.mp hv
    obtain ⟨au, du, bu, nu, xu, rfl, hau, hbu, hnu, hku⟩ := ftn_iff.mp hu
    have hks := kids_size t
    have hsl := sizeLine_eq
    refine ⟨_, (pss_cons (ps_if (pt_cmpR (op_own_eq (ok_Fountain___eq__ T) (hr.mono (by omega)) pass0) (pv 0) (pv 1) (nomark _))
        (pss_one (ps_ret (pe_makeD (ok_Fountain___init__ T) (hr.mono (by omega)) (by rfl) pass0 (pa_cons (pe_gstr rfl T.gJET_TEXT) (pa_cons (pe_tup pa_nil) pa_nil)))))
        pss_nil)
      (pss_cons (ps_if (PW.pt (pw_or (pt_not (pt_val (pe_propD T.cls.c (ok_Fountain_is_open T) (hr.mono (by omega)) pass0 (pv 0) rfl))) (pw_or1 (pt_val (pe_propD T.cls.c (ok_Fountain_is_jet T) (hr.mono (by omega)) pass0 (pv 0) rfl)))))
        (pss_one (ps_ret (pv 0)))
        pss_nil)
      (pss_one (ps_ret (pe_callD (ok_made T) (hr.mono (by omega)) (by rfl) pass0 (pa_cons (pe_lc (own := [("branch", 2)]) (g := gName 2) (tt := tYes) (by rfl) sc_cut.nd (pi_tup (pe_propD T.cls.c (ok_Fountain_parts T) (hr.mono (by omega)) pass0 (pv 0) rfl)) (blkOk_by (by kernel_rfl)) (fun _ _ _ _ _ => pg_name (i := 2) sc_cut.nd rfl (by first | exact Or.inl rfl | exact Or.inr rfl)) (fun _ _ _ _ _ => pts_nil) (fun _ _ _ _ _ => (pe_callD ih (hr.mono (by omega)) (by rfl) pass0 (pa_cons (pv 2) (pa_cons (pv 1) pa_nil))))) pa_nil)))))), ?_⟩
    refine ⟨.ref av, rfl, .ref au, rfl, av, dv, _, au, du, _, rfl, rfl, hav, hau, ⟨_, t, _, b, rfl, hv, hu, _, rfl, _, rfl, ite2 (fun e => ?_) fun e => ?_⟩⟩
    · have e' : t = b := of_decide_eq_true e
      subst e'
      rw [cut_self] at k
      exact mk_jet fun v H' s f => k v H' (.of s) (Tabs.same hT s) f
    have hne : t ≠ b := fun z => e (decide_eq_true z)
    refine ⟨.ref av, rfl, ev_prop hv ⟨_, rfl, ite2 (fun e1 => ite_t rfl ⟨.ref av, rfl, ?_⟩) fun e1 => ⟨.ref av, rfl, ev_prop hv ⟨_, rfl, ite2 (fun e2 => ⟨.ref av, rfl, ?_⟩) fun e2 => ?_⟩⟩⟩⟩
    · refine k _ _ (LamX.ExtN.refl H) hT ?_
      rw [cut_closed hne (by simpa using e1)]
      exact hv
    · have e' : t = .jet := of_decide_eq_true e2
      subst e'
      exact k _ _ (LamX.ExtN.refl H) hT hv
    have hj : t.jts ≠ 0 := fun z => e1 (by rw [z]; rfl)
    cases t with
    | jet => exact absurd (decide_eq_true rfl) e2
    | bas l =>
      rw [cut_open hne hj] at k
      have hks2 : sizeL l ≤ (JW.T.bas l).size := hks
      refine ⟨.ref av, rfl, ev_kids hv fun b' xs' hb' hk' => ⟨b', rfl, ⟨xs', SqT.of hb'⟩, fun D hD => lc_ftnT (l := l) (g := cutT b) hD (SqT.of hb') hk' ?_ hT (fun _ => rfl) (fun x t' H' Q' ht' hx' hE' hT' q' => ?_) (fun H' ys hE hT2 hy hfy => ?_)⟩⟩
      · have h1 : xs'.length = l.length := hk'.len
        have h2 := length_le l
        omega
      · have h1 := dep_lt ht'
        have h2 := size_mem ht'
        exact ⟨x, rfl, .ref au, rfl, x, t', b, .ref au, rfl, hx', hu.ext hE', by omega, by omega, hT', q'⟩
      · have h1 := sizeL_map_le (l := l) fun t _ => cut_size b t
        exact ⟨D, ys, l.map (cutT b), rfl, .inl (SqL.of hy), hfy, by omega, hT2, fun w H'' e1 e2 e3 => k w H'' (hE.trans e1) e2 e3⟩
theorem ok_cut  (T : Txt K mg base) (n : Nat) : CallD P w K mg base CX0 (6 + n) "cut" ["fountain", "part"] [] (sp_cut K n) := callD_rec (sp := sp_cut K) T.d_cut (by
    rintro vs H Q E ⟨v, t, b, u, _, _, _, z, _⟩
    exact absurd z (Nat.not_lt_zero _)
    ) (step_cut T) n
def asp_cut (n : Nat) : ASp
  | [.tree t, .tree b], L, Q, _ => t.dep < n ∧ t.size ≤ 1048576 ∧ Q (.tree (cutT b t)) L
  | _, _, _, _ => False
theorem okA_cut (T : Txt K mg base) {scr : Option (Addr × List Int)} (n : Nat) : CallD P w K mg base CX0 (6 + n) "cut" ["fountain", "part"] [] (spA (cA K scr) (asp_cut n)) :=
  (ok_cut T n).imp fun vs H Q E ⟨ds, L, R, RX, r, g, h, pq, px⟩ => by
    unfold asp_cut at h
    split at h
    · obtain ⟨h1, h2, h⟩ := h
      obtain ⟨v, w, rfl, r1, r2⟩ := repL_two r
      exact ⟨v, _, _, w, rfl, rep_tree.mp r1, rep_tree.mp r2, h1, h2, g.tabs, fun z H' e' T' hf => pq _ L _ H' h (.extN e') (g.extN T' e') (rep_tree.mpr hf)⟩
    · exact h.elim

theorem ok_Closed___init__ (T : Txt K mg base) : ErrD P w K mg base 2 "Closed" (He.ga K "Closed") ["self"] (spErr0 K (He.ga K "Closed")) := by
  refine T.e_Closed.ok sc_Closed___init__ (fun vs H Q E h => ?_) (fun f cdv A outer s H vs Q E hr h => ?_)
  · obtain ⟨a, rfl, _⟩ := h
    rfl
  · obtain ⟨a, rfl, ha, k⟩ := h
    refine ⟨_, (pss_one (ps_expr (pe_cinit (by rfl) T.b_JetError.1 T.b_JetError.2 (pa_cons (pv 0) (pa_cons pe_str pa_nil))))), ?_⟩
    exact ⟨.ref a, rfl, a, He.ga K "Closed", [.str "Closed"], rfl, by show 1 ≤ 1000; decide, T.e_Closed.c.o, ha, k⟩
theorem ok_NoQuotient___init__ (T : Txt K mg base) : ErrD P w K mg base 2 "NoQuotient" (He.ga K "NoQuotient") ["self", "place"] (spErr K (He.ga K "NoQuotient") "place") := by
  refine T.e_NoQuotient.ok sc_NoQuotient___init__ (fun vs H Q E h => ?_) (fun f cdv A outer s H vs Q E hr h => ?_)
  · obtain ⟨a, v, rfl, _⟩ := h
    rfl
  · obtain ⟨a, v, rfl, ha, k⟩ := h
    refine ⟨_, (pss_cons (ps_expr (pe_cinit (by rfl) T.b_NoDivision.1 T.b_NoDivision.2 (pa_cons (pv 0) (pa_cons pe_str pa_nil))))
      (pss_one (ps_ost (pv 0) (pv 1)))), ?_⟩
    exact ⟨.ref a, rfl, a, He.ga K "NoQuotient", [.str "NoQuotient"], rfl, by show 1 ≤ 1000; decide, T.e_NoQuotient.c.o, ha, v, rfl, .ref a, rfl, a, He.ga K "NoQuotient", rfl, T.e_NoQuotient.c.o, T.na_NoQuotient, .inl ⟨ha, fun dx nd ne => k dx nd ne⟩⟩
def asp_Fountain___floordiv___x : ASp
  | [.tree t, .tree b], L, Q, RX => t.dep < 121 ∧ t.size ≤ 1048576 ∧ (b.jts = 0 → RX "Closed" [] L) ∧ (0 < b.jts → (∀ p, barT b t = some p → RX "NoQuotient" [("place", pathD p)] L) ∧ (barT b t = none → Q (.tree (cutT b t)) L))
  | _, _, _, _ => False
theorem okA_Fountain___floordiv___x  (T : Txt K mg base) {scr : Option (Addr × List Int)} : MethD P w K mg base (L2N.CX P w) 131 (cF K) "__floordiv__" ["self", "other"] [] (spA (cA K scr) (asp_Fountain___floordiv___x)) := by
  refine T.m___floordiv__.okAX sc_Fountain___floordiv__ ?len (fun f cdv A outer s H E RX hE hr => (as_cons (as_if (at_not (at_bl (ae_b (acb_isiA (K := K) rfl T.cls) (by rfl) T.n_isinstance (by decide +kernel) (aa_cons (av 1) (aa_cons (ae_c (d := .ref (cF K)) (pe_glob (v := .ref (cF K)) rfl T.cls.g rfl) (fun _ => rep_ref.mpr rfl)) aa_nil)))))
        ass_never
        as_nil)
      (as_cons (as_if (at_not (at_bl (ae_propG (fun t => .bl (decide (0 < t.jts))) (fun _ _ => rep_bl.mpr rfl) T.cls.c (ok_Fountain_is_open T) (hr.mono (by decide)) (av 1) rfl)))
        (as_one (as_raise0 rfl (L2N.takes_of rfl rfl rfl rfl) hE (ok_Closed___init__ T) (hr.mono (by decide)) (by rfl)))
        as_nil)
      (as_cons (as_set (i := 2) sc_Fountain___floordiv__.nd rfl (by first | exact Or.inl rfl | exact Or.inr rfl) (ae_call (okA_bare_place_x T 121) (hr.mono (by decide)) (by rfl) (aa_cons (av 0) (aa_cons (av 1) (aa_cons (ae_tup aa_nil) aa_nil)))))
      (as_cons (as_if (at_cmp aop_isnot (av 2) ae_non (nomark _))
        (as_one (as_raise1 rfl (L2N.takes_of rfl rfl rfl rfl) hE (ok_NoQuotient___init__ T) (hr.mono (by decide)) (by rfl) (av 2)))
        as_nil)
      (as_one (as_ret (ae_call (okA_cut T 121) (hr.mono (by decide)) (by rfl) (aa_cons (av 0) (aa_cons (av 1) aa_nil)))))))))) ?vc
  case len =>
    intro ds L R RX h
    unfold asp_Fountain___floordiv___x at h
    split at h <;> first | rfl | exact h.elim
  case vc =>
    intro ds L R RX h
    unfold asp_Fountain___floordiv___x at h
    split at h
    · rename_i t b
      obtain ⟨hd, hz, hE, hO⟩ := h
      refine ⟨rfl, ?_⟩
      refine ite2 (fun e => ?_) (fun e => ?_)
      · exact ⟨L, SubS.refl L, hE (by simpa using e)⟩
      have hb : 0 < b.jts := Nat.pos_of_ne_zero (by simpa using e)
      obtain ⟨h1, h2⟩ := hO hb
      refine ⟨Nat.zero_le _, hd, by show 0 + t.dep ≤ _; omega, ?_⟩
      cases eb : barT b t with
      | none => exact ite_f (A := True) rfl ⟨hd, hz, ret_of (h2 eb)⟩
      | some p => exact ite_t (B := True) rfl ⟨L, SubS.refl L, h1 p eb⟩
    · exact h.elim
def asp_Yard_trim (K : PySem.W.Frag) : ASp
  | [.ref y, .tree b], L, Q, RX => ∃ t l, L y = some (YdM K t l) ∧ l.length < 1000000 ∧ t.dep < 121 ∧ t.size ≤ 1048576 ∧ (b.jts = 0 → RX "Closed" [] L) ∧ (0 < b.jts → (∀ p, barT b t = some p → RX "NoQuotient" [("place", pathD p)] L) ∧
      (barT b t = none → Q .non (sput L y (YdM K (cutT b t) (l ++ [(.tup [.str "trim", .str (tx b)], t)])))))
  | _, _, _, _ => False
theorem okA_Yard_trim  (T : Txt K mg base) {scr : Option (Addr × List Int)} : MethD P w K mg base (L2N.CX P w) 136 (He.ga K "Yard") "trim" ["self", "part"] [] (spA (cA K scr) (asp_Yard_trim K)) := by
  refine T.m_Yard_trim.okAX sc_Yard_trim ?len (fun f cdv A outer s H E RX hE hr => (as_one (as_expr (ae_methM (K := K) rfl T.o_Yard.c (okA_Yard_hold T) (hr.mono (by decide)) (av 0) (aa_cons (ae_tup (aa_cons ae_str (aa_cons (ae_propG (fun t => .str (tx t)) (fun _ _ => rep_str.mpr rfl) T.cls.c (ok_Fountain_text T) (hr.mono (by decide)) (av 1) rfl) aa_nil))) (aa_cons (ae_binP (op := .FloorDiv) T.cls (okA_Fountain___floordiv___x T) (hr.mono (by decide)) (passA_of (passE rfl rfl rfl rfl) hE) (ae_propM (K := K) rfl T.o_Yard.c (okA_Yard_now T) (hr.mono (by decide)) (av 0) rfl) (av 1)) aa_nil)))))) ?vc
  case len =>
    intro ds L R RX h
    unfold asp_Yard_trim at h
    split at h <;> first | rfl | exact h.elim
  case vc =>
    intro ds L R RX h
    unfold asp_Yard_trim at h
    split at h
    · rename_i y b
      obtain ⟨t, l, hy, hl, h1, h2, h3, h4⟩ := h
      have hsl := sizeLine_eq
      exact ⟨⟨_, _, hy, by decide⟩, by show (2 : Nat) ≤ sizeLine; omega, ⟨_, _, hy, by decide⟩, t, l, hy, h1, h2, h3, fun hb => ⟨(h4 hb).1, fun hc => ⟨rfl, t, l, hy, hl, ret_of ((h4 hb).2 hc)⟩⟩⟩
    · exact h.elim
def sp_check_numbers (K : PySem.W.Frag) : Sp := fun vs H Q _ => ∃ n t, vs = [.ref n] ∧ H n = some (.tup (nums t)) ∧ t.size ≤ 5000 ∧ t.dep ≤ 120 ∧ Q .non H
theorem ok_check_numbers  (T : Txt K mg base) : CallD P w K mg base CX0 1 "check_numbers" ["numbers"] [] (sp_check_numbers K) := by
  refine T.d_check_numbers.ok sc_check_numbers (fun vs H Q E h => ?_) (fun f cdv A outer s H vs Q E hr h => ?_)
  · obtain ⟨n, t, rfl, _⟩ := h
    rfl
  · obtain ⟨n, t, rfl, hn, h1, h2, k⟩ := h
    refine ⟨_, (pss_cons (ps_if (pt_cmpR op_gt (pe_ix ix_tup (pv 0) pe_int (fun _ _ => rfl)) (pe_gint rfl T.gMOST) (nomark _))
        pss_never
        pss_nil)
      (pss_one (ps_if (pt_cmpR op_gt (pe_ix ix_tup (pv 0) pe_int (fun _ _ => rfl)) (pe_gint rfl T.gDEEPEST) (nomark _))
        pss_never
        pss_nil))), ?_⟩
    exact ⟨.ref n, rfl, n, _, _, _, rfl, rfl, SqT.of hn, rfl, _, _, rfl, rfl, _, rfl, ite_f (decide_eq_false (by omega)) ⟨.ref n, rfl, n, _, _, _, rfl, rfl, SqT.of hn, rfl, _, _, rfl, rfl, _, rfl, ite_f (decide_eq_false (by omega)) k⟩⟩
def sp_parsed (K : PySem.W.Frag) : Sp := fun vs H Q _ => ∃ u : JW.T, vs = [.str (tx u)] ∧ u.size ≤ 500000 ∧ LamX.Tabs (TT K) H ∧ ∀ b xs H', LamX.ExtN H H' → LamX.Tabs (TT K) H' → H' b = some (.tup xs) → FtnL (cF K) H' u.canon.kids xs → Q (.ref b) H'
def PInv (K : PySem.W.Frag) (u : JW.T) (H : Hp) (i : Nat) (σ : L2.St) (H' : Hp) : Prop := ∃ D b qs st fd v4 v5 v6, σ = [some (.str (tx u)), some (.ref D), some (.ref b), some (.bl (Option.isSome fd)), v4, v5, v6] ∧ H D = none ∧ LamX.ExtN H H' ∧ LamX.Tabs (TT K) H' ∧ H' D = some (.lst (List.reverse qs)) ∧
  PendR (cF K) H' st qs ∧ (∃ xs, H' b = some (.tup xs) ∧ ∀ t, fd = some t → FtnL (cF K) H' (T.kids t) xs) ∧ prun (u.codes.drop i) (st, fd) = some ([], some u.canon) ∧ wtS (st, fd) ≤ i
theorem pinvA {K : PySem.W.Frag} {u : JW.T} {H H2 H3 : Hp} {i : Nat} {D a b q : Addr} {ws xs bx : List V} {p2 : List JW.T} {r2 : List (List JW.T)} {t : JW.T} {v : V} {v4 v5 v6 : Option V} (hD0 : H D = none) (hE : LamX.ExtN H H2) (hT : LamX.Tabs (TT K) H2) (s : Same H2 H3) (hD : H2 D = some (.lst (V.ref a :: ws).reverse))
    (hf : FtnL (cF K) H2 p2 xs) (hr : PendR (cF K) H2 r2 ws) (ht : Ftn (cF K) H2 t v) (hq : H3 q = some (.tup (xs ++ [v]))) (hb : H2 b = some (.tup bx)) (hrun : prun (u.codes.drop (i + 1)) ((p2 ++ [t]) :: r2, none) = some ([], some u.canon)) (hw : wtS ((p2 ++ [t]) :: r2, none) ≤ i + 1) :
    PInv K u H (i + 1) [some (.str (tx u)), some (.ref D), some (.ref b), some (.bl false), v4, v5, v6] (upd H3 D (.lst (V.ref q :: ws).reverse)) := by
  have hD3 := s _ _ hD
  have hT3 := Tabs.same hT s
  have nq : q ≠ D := ne_of hq hD3 fun z => by cases z
  have nb : b ≠ D := ne_of hb hD fun z => by cases z
  have hx : ExtD D H3 (upd H3 D (.lst (V.ref q :: ws).reverse)) := ExtD.put (ExtD.refl D H3)
  refine ⟨D, b, V.ref q :: ws, (p2 ++ [t]) :: r2, none, v4, v5, v6, rfl, hD0, fun c o e n => ?_, Tabs.put hT3 hD3, upd_same, ?_, ⟨bx, by rw [upd_ne nb]; exact s _ _ hb, fun t z => by cases z⟩, hrun, hw⟩
  · rw [upd_ne (ne_of_none e hD0)]
    exact s _ _ (hE _ _ e n)
  · exact ⟨q, xs ++ [v], ws, rfl, by rw [upd_ne nq]; exact hq, ftnL_extD hD3 hx _ _ ((hf.same s).app (FtnL.one (ht.same s))), PendR.extD hD3 hx (hr.ext (.of s))⟩
theorem pinvN {K : PySem.W.Frag} {u : JW.T} {H H2 H3 : Hp} {i : Nat} {D b q : Addr} {qs bx : List V} {st : List (List JW.T)} {v4 v5 v6 : Option V} (hD0 : H D = none) (hE : LamX.ExtN H H2) (hT : LamX.Tabs (TT K) H2) (s : Same H2 H3) (hD : H2 D = some (.lst qs.reverse))
    (hr : PendR (cF K) H2 st qs) (hq : H3 q = some (.tup [])) (hb : H2 b = some (.tup bx)) (hrun : prun (u.codes.drop (i + 1)) ([] :: st, none) = some ([], some u.canon)) (hw : wtS ([] :: st, none) ≤ i + 1) :
    PInv K u H (i + 1) [some (.str (tx u)), some (.ref D), some (.ref b), some (.bl false), v4, v5, v6] (upd H3 D (.lst (qs.reverse ++ [V.ref q]))) := by
  have hD3 := s _ _ hD
  have hT3 := Tabs.same hT s
  have nq : q ≠ D := ne_of hq hD3 fun z => by cases z
  have nb : b ≠ D := ne_of hb hD fun z => by cases z
  have hx : ExtD D H3 (upd H3 D (.lst (qs.reverse ++ [V.ref q]))) := ExtD.put (ExtD.refl D H3)
  refine ⟨D, b, V.ref q :: qs, [] :: st, none, v4, v5, v6, rfl, hD0, fun c o e n => ?_, Tabs.put hT3 hD3, by rw [upd_same, List.reverse_cons], ?_, ⟨bx, by rw [upd_ne nb]; exact s _ _ hb, fun t z => by cases z⟩, hrun, hw⟩
  · rw [upd_ne (ne_of_none e hD0)]
    exact s _ _ (hE _ _ e n)
  · exact ⟨q, [], qs, rfl, by rw [upd_ne nq]; exact hq, rfl, PendR.extD hD3 hx (hr.ext (.of s))⟩
theorem ok_parsed  (T : Txt K mg base) : CallD P w K mg base CX0 7 "parsed" ["text"] [] (sp_parsed K) := by
  refine T.d_parsed.ok sc_parsed (fun vs H Q E h => ?_) (fun f cdv A outer s H vs Q E hr h => ?_)
  · obtain ⟨u, rfl, _⟩ := h
    rfl
  · obtain ⟨u, rfl, hsz, hT, k⟩ := h
    have hcl := (codes_len u).1
    have hsl := sizeLine_eq
    have hcz : (tx u).cps.size = u.codes.length := by
      show (u.codes.toArray).size = _
      rw [List.size_toArray]
    refine ⟨_, (pss_cons (ps_set (i := 1) sc_parsed.nd rfl (by first | exact Or.inl rfl | exact Or.inr rfl) (pe_lst pa_nil))
      (pss_cons (ps_asg (pe_tup (pa_cons (pe_tup pa_nil) (pa_cons pe_bl pa_nil))) (pg_tup rfl (pgs_cons (pg_name (i := 2) sc_parsed.nd rfl (by first | exact Or.inl rfl | exact Or.inr rfl)) (pgs_cons (pg_name (i := 3) sc_parsed.nd rfl (by first | exact Or.inl rfl | exact Or.inr rfl)) pgs_nil))))
      (pss_cons (ps_for PassesOwn.never rfl (pi_enumS (by rfl) T.n_enumerate (pa_cons (pv 0) pa_nil)) (pg_tup rfl (pgs_cons (pg_name (i := 4) sc_parsed.nd rfl (by first | exact Or.inl rfl | exact Or.inr rfl)) (pgs_cons (pg_name (i := 5) sc_parsed.nd rfl (by first | exact Or.inl rfl | exact Or.inr rfl)) pgs_nil)))
        (pss_cons (ps_if (PW.pt (pw_or (pt_val (pv 3)) (pw_or (pt_cmpR op_notin_str (pv 5) pe_str (by rfl)) (pw_or1 (PW.pt (pw_and (pt_cmpR op_eq (pv 5) pe_str (nomark _)) (pw_and1 (pt_cmpR op_eq (pe_callB call_len (by rfl) T.n_len (by decide +kernel) (pa_cons (pv 1) pa_nil)) pe_int (nomark _)))))))))
          pss_never
          pss_nil)
        (pss_one (ps_via (ps_if (pt_cmpR op_eq (pv 5) pe_str (nomark _))
          (pss_one (ps_expr (pe_bm PySem.F.plainAttrs_list PySem.F.slot_list_append PySem.F.type_list_append mt_append (pv 1) (pa_cons (pe_tup pa_nil) pa_nil))))
          (pss_cons (ps_set (i := 6) sc_parsed.nd rfl (by first | exact Or.inl rfl | exact Or.inr rfl) (pe_via (pe_ifExp (pt_cmpR op_eq (pv 5) (pe_gstr rfl T.gJET_TEXT) (nomark _)) (pe_makeD (ok_Fountain___init__ T) (hr.mono (by decide)) (by rfl) pass0 (pa_cons (pe_gstr rfl T.gJET_TEXT) (pa_cons (pe_tup pa_nil) pa_nil))) (pe_callD (ok_made T) (hr.mono (by decide)) (by rfl) pass0 (pa_cons (pe_bm0 PySem.F.plainAttrs_list PySem.F.slot_list_pop PySem.F.type_list_pop mt_pop (pv 1)) pa_nil)))))
          (pss_one (ps_via (ps_if (pt_cmpR op_gt (pe_callB call_len (by rfl) T.n_len (by decide +kernel) (pa_cons (pv 1) pa_nil)) pe_int (nomark _))
            (pss_one (ps_asg (pe_op op_catA (pe_ix ix_list (pv 1) (pe_un un_neg pe_int) (fun _ _ => rfl)) (pe_tup (pa_cons (pv 6) pa_nil))) (pg_sub (pv 1) (pe_un un_neg pe_int) set_list)))
            (pss_one (ps_par (i := 2) (j := 3) (by rfl) sc_parsed.nd rfl rfl (by decide) rfl rfl (pa_cons (pe_propD T.cls.c (ok_Fountain_parts T) (hr.mono (by decide)) pass0 (pv 6) rfl) (pa_cons pe_bl pa_nil)) (by rfl))))))))))))
      (pss_cons (ps_if (pt_not (pt_val (pv 3)))
        pss_never
        pss_nil)
      (pss_one (ps_ret (pv 2))))))), ?_⟩
    refine ⟨by decide, fun D hD => ⟨by decide, fun b hb => ⟨sz2, fun p hp => ⟨p, _, rfl, SqT.of upd_same, rfl, _, _, rfl, _, _, rfl, rfl, .str (tx u), rfl, _, rfl, ?_⟩⟩⟩⟩
    refine for_enumS (PInv K u H) ?_ (fun i c σ H' Tp hc hP hTp => ?_) fun σ H' hP => ?_
    · have s3 : Same H (upd (upd (upd H D (.lst [])) b (.tup [])) p (.tup [.ref b, .bl false])) := Same.new (Same.new (Same.new (Same.refl H) hD) hb) hp
      exact ⟨D, b, [], [], none, none, none, none, rfl, hD, .of s3, Tabs.same hT s3, upd_old (upd_old upd_same hb) hp, rfl, ⟨[], upd_old upd_same hp, fun t z => by cases z⟩, prun_all u, Nat.le_refl _⟩
    · obtain ⟨D, b, qs, st, fd, v4, v5, v6, rfl, hD0, hE, hT', hDq, hp', ⟨bx, hbx, hfd⟩, hrun, hwt⟩ := hP
      have hc' : u.codes[i]? = some c := by
        have : (u.codes.toArray)[i]? = some c := hc
        rw [List.getElem?_toArray] at this
        exact this
      have hi : i < u.codes.length := (List.getElem?_eq_some_iff.mp hc').1
      obtain ⟨⟨st', fd'⟩, hst, hrun'⟩ := prun_step hc' hrun
      have hwt2 : wtS (st', fd') ≤ i + 1 := Nat.le_trans (pstep_wt hst) (Nat.succ_le_succ hwt)
      have hql := hp'.len
      have hsl2 := wtL_len st
      have hwl : wtL st ≤ i := Nat.le_trans (Nat.le_add_right _ _) hwt
      obtain ⟨rfl, hcs⟩ := pstep_cases hst
      have sT : Same H' (upd H' Tp (.tup [.int (i : Nat), .str ⟨#[c]⟩])) := Same.new (Same.refl H') hTp
      generalize hH1 : upd H' Tp (.tup [.int (i : Nat), .str ⟨#[c]⟩]) = H1 at sT ⊢
      have eT : H1 Tp = some (.tup [.int (i : Nat), .str ⟨#[c]⟩]) := by rw [← hH1, upd_same]
      have hE1 : LamX.ExtN H H1 := hE.trans (.of sT)
      have hT1 := Tabs.same hT' sT
      have hD1 := sT _ _ hDq
      have hp1 : PendR (cF K) H1 st qs := hp'.ext (.of sT)
      have hb1 := sT _ _ hbx
      refine ⟨Tp, _, rfl, SqT.of eT, rfl, _, _, rfl, _, _, rfl, rfl, .bl false, rfl, _, rfl, ite_f rfl ⟨.str ⟨#[c]⟩, rfl, _, _, rfl, rfl, _, rfl, ite_f ?_ ⟨.str ⟨#[c]⟩, rfl, rfl, _, rfl, ite2 (fun e => ?_) fun e => ite_f rfl ?_⟩⟩⟩
      · rcases hcs with ⟨rfl, _⟩ | ⟨rfl, _⟩ | ⟨rfl, _⟩ <;> decide +kernel
      · -- a closing sign: something is open
        have ec : c = 41 := by
          rcases hcs with ⟨rfl, _⟩ | ⟨rfl, _⟩ | ⟨rfl, _⟩
          · exact absurd e (by decide +kernel)
          · exact absurd e (by decide +kernel)
          · rfl
        subst ec
        rcases hcs with ⟨z, _⟩ | ⟨z, _⟩ | ⟨_, pp, r, rfl, hs'⟩
        · cases z
        · cases z
        have hql2 : qs.reverse.length = r.length + 1 := by rw [List.length_reverse, hql]; rfl
        refine ⟨.ref D, rfl, .ref D, _, rfl, .inl ⟨_, SqL.of hD1, rfl⟩, rfl, _, rfl, ite_f (decide_eq_false fun z => ?_) ⟨PInv K u H (i + 1), ⟨.str ⟨#[41]⟩, rfl, rfl, _, rfl, ite_f (by decide +kernel) ?_⟩, fun _ _ z => z⟩⟩
        · have z2 := V.int.inj z
          omega
        -- the piece is made
        obtain ⟨a, xs, ws, rfl, ha, hfp, hpr⟩ := (show ∃ a xs ws, qs = .ref a :: ws ∧ H1 a = some (.tup xs) ∧ FtnL (cF K) H1 pp xs ∧ PendR (cF K) H1 r ws from hp1)
        have hx : ExtD D H1 (upd H1 D (.lst ws.reverse)) := ExtD.put (ExtD.refl D H1)
        have hwp : sizeL pp ≤ i := by
          have : 1 + sizeL pp + wtL r ≤ i := hwl
          omega
        refine ⟨fun v H2 => H2 D = some (.lst ws.reverse) ∧ PendR (cF K) H2 r ws ∧ Ftn (cF K) H2 (.bas (sortT pp)) v ∧ LamX.ExtN H H2 ∧ LamX.Tabs (TT K) H2 ∧ H2 b = some (.tup bx), ⟨.str ⟨#[41]⟩, rfl, rfl, _, rfl, ite_f (by decide +kernel) ⟨.ref D, rfl, tyL hD1, D, _, .ref a, rfl, rfl, hD1, sq_last _ _, ?_⟩⟩, fun v H2 ⟨hD2, hp2, hv, hE2, hT2, hb2⟩ => ?_⟩
        · rw [sq_butlast]
          refine ⟨a, xs, pp, rfl, .inr (SqT.of (by rw [upd_ne (ne_of ha hD1 fun z => by cases z)]; exact ha)), ftnL_extD hD1 hx _ _ hfp, by omega, Tabs.put hT1 hD1, fun w H' e1 e2 e3 => ⟨e1 _ _ upd_same (fun ps z => by cases z), (PendR.extD hD1 hx hpr).ext e1, e3, fun c o ec n => e1 _ _ (by rw [upd_ne (ne_of_none ec hD0)]; exact hE1 _ _ ec n) n, e2, e1 _ _ (by rw [upd_ne (ne_of hb1 hD1 fun z => by cases z)]; exact hb1) (fun ps z => by cases z)⟩⟩
        · have hl2 := hp2.len
          refine ⟨PInv K u H (i + 1), ⟨.ref D, rfl, .ref D, _, rfl, .inl ⟨_, SqL.of hD2, rfl⟩, _, _, rfl, rfl, _, rfl, ite2 (fun e => ?_) fun e => ?_⟩, fun _ _ z => z⟩
          · cases r with
            | nil =>
              rw [List.length_reverse, hl2] at e
              exact absurd (of_decide_eq_true e) (by show ¬ ((0 : Int) < ((0 : Nat) : Int)); decide)
            | cons p2 r2 =>
              obtain ⟨a2, ys, ws2, rfl, ha2, hf2, hr2⟩ := (show ∃ a xs zs, ws = .ref a :: zs ∧ H2 a = some (.tup xs) ∧ FtnL (cF K) H2 p2 xs ∧ PendR (cF K) H2 r2 zs from hp2)
              have hs2 : st' = (p2 ++ [.bas (sortT pp)]) :: r2 ∧ fd' = none := by
                have e3 : (st', fd') = ((p2 ++ [.bas (sortT pp)]) :: r2, none) := hs'
                exact Prod.mk.inj e3
              obtain ⟨rfl, rfl⟩ := hs2
              have hyl : ys.length + 1 ≤ sizeLine := by
                have h1 := hf2.len
                have h2 := length_le p2
                have h3 : 1 + sizeL (p2 ++ [.bas (sortT pp)]) + wtL r2 + 0 ≤ i + 1 := hwt2
                rw [sizeL_app] at h3
                omega
              refine ⟨.ref D, rfl, 1, rfl, D, _, _, _, rfl, rfl, SqL.of hD2, at_last _ _, v, rfl, sz1, fun q hq => ⟨a2, q, ys, [v], rfl, rfl, SqT.of (upd_old ha2 hq), SqT.of upd_same, hyl, fun hy => ⟨.ref D, rfl, 1, rfl, D, _, _, _, rfl, rfl, upd_old hD2 hq, ix_last (by simp), ?_⟩, fun _ z => absurd z (by simp), fun _ _ q2 hq2 => ⟨.ref D, rfl, 1, rfl, D, _, _, _, rfl, rfl, upd_old (upd_old hD2 hq) hq2, ix_last (by simp), ?_⟩⟩⟩
              · subst hy
                rw [set_last]
                exact pinvA hD0 hE2 hT2 (Same.new (Same.refl H2) hq) hD2 hf2 hr2 hv (by rw [upd_same]; rfl) hb2 hrun' hwt2
              · rw [set_last]
                exact pinvA hD0 hE2 hT2 (Same.new (Same.new (Same.refl H2) hq) hq2) hD2 hf2 hr2 hv upd_same hb2 hrun' hwt2
          · cases r with
            | cons p2 r2 =>
              refine absurd (decide_eq_true ?_) e
              rw [List.length_reverse, hl2]
              show (0 : Int) < ((r2.length + 1 : Nat) : Int)
              omega
            | nil =>
              have hs2 : st' = [] ∧ fd' = some (.bas (sortT pp)) := Prod.mk.inj hs'
              obtain ⟨rfl, rfl⟩ := hs2
              refine ⟨v, rfl, ev_kids hv fun b' xs' hb' hk' => ⟨_, _, rfl, ?_⟩⟩
              exact ⟨D, b', ws, [], some (.bas (sortT pp)), _, _, _, rfl, hD0, hE2, hT2, hD2, hp2, ⟨xs', hb', fun t' z => by cases z; exact hk'⟩, hrun', hwt2⟩
      · -- no closing sign
        rcases hcs with ⟨rfl, hs'⟩ | ⟨rfl, hs'⟩ | ⟨rfl, _⟩
        · obtain ⟨rfl, rfl⟩ := Prod.mk.inj hs'
          refine ⟨PInv K u H (i + 1), ⟨.str ⟨#[40]⟩, rfl, rfl, _, rfl, ite_t (by decide +kernel) ⟨.ref D, rfl, tyL hD1, by decide, fun q hq => ⟨D, _, .ref q, rfl, rfl, upd_old hD1 hq, ?_, ?_⟩⟩⟩, fun _ _ z => z⟩
          · rw [List.length_reverse]
            omega
          · exact pinvN hD0 hE1 hT1 (Same.new (Same.refl H1) hq) hD1 hp1 upd_same hb1 hrun' hwt2
        · generalize hr0 : st = r at *
          generalize hq0 : qs = ws at *
          refine ⟨PInv K u H (i + 1), ⟨.str ⟨#[111]⟩, rfl, rfl, _, rfl, ite_f (by decide +kernel) ?_⟩, fun _ _ z => z⟩
          refine ⟨fun v H2 => H2 D = some (.lst ws.reverse) ∧ PendR (cF K) H2 r ws ∧ Ftn (cF K) H2 .jet v ∧ LamX.ExtN H H2 ∧ LamX.Tabs (TT K) H2 ∧ H2 b = some (.tup bx), ⟨.str ⟨#[111]⟩, rfl, rfl, _, rfl, ite_t (by decide +kernel) ⟨by decide, fun q hq x dx hx hdx hne => ?_⟩⟩, fun v H2 ⟨hD2, hp2, hv, hE2, hT2, hb2⟩ => ?_⟩
          · have sQ : Same H1 (upd H1 q (.tup [])) := Same.new (Same.refl H1) hq
            refine ⟨x, dx, .jet, q, [], upd H1 q (.tup []), by rw [tx_jet]; rfl, hx, Same.new (Same.new (Same.refl _) hdx) (by rw [upd_ne (Ne.symm hne)]; exact hx), upd_same, upd_same, rfl, by show 0 < sizeLine; omega, fun H5 s5 f5 => ⟨rfl, ?_⟩⟩
            have s6 : Same H1 H5 := sQ.trans s5
            exact ⟨s6 _ _ hD1, hp1.ext (.of s6), f5, hE1.trans (.of s6), Tabs.same hT1 s6, s6 _ _ hb1⟩
          · have hl2 := hp2.len
            refine ⟨PInv K u H (i + 1), ⟨.ref D, rfl, .ref D, _, rfl, .inl ⟨_, SqL.of hD2, rfl⟩, _, _, rfl, rfl, _, rfl, ite2 (fun e => ?_) fun e => ?_⟩, fun _ _ z => z⟩
            · cases r with
              | nil =>
                rw [List.length_reverse, hl2] at e
                exact absurd (of_decide_eq_true e) (by show ¬ ((0 : Int) < ((0 : Nat) : Int)); decide)
              | cons p2 r2 =>
                obtain ⟨a2, ys, ws2, rfl, ha2, hf2, hr2⟩ := (show ∃ a xs zs, ws = .ref a :: zs ∧ H2 a = some (.tup xs) ∧ FtnL (cF K) H2 p2 xs ∧ PendR (cF K) H2 r2 zs from hp2)
                have hs2 : st' = (p2 ++ [.jet]) :: r2 ∧ fd' = none := by
                  have e3 : (st', fd') = ((p2 ++ [.jet]) :: r2, none) := hs'
                  exact Prod.mk.inj e3
                obtain ⟨rfl, rfl⟩ := hs2
                have hyl : ys.length + 1 ≤ sizeLine := by
                  have h1 := hf2.len
                  have h2 := length_le p2
                  have h3 : 1 + sizeL (p2 ++ [.jet]) + wtL r2 + 0 ≤ i + 1 := hwt2
                  rw [sizeL_app] at h3
                  omega
                refine ⟨.ref D, rfl, 1, rfl, D, _, _, _, rfl, rfl, SqL.of hD2, at_last _ _, v, rfl, sz1, fun q hq => ⟨a2, q, ys, [v], rfl, rfl, SqT.of (upd_old ha2 hq), SqT.of upd_same, hyl, fun hy => ⟨.ref D, rfl, 1, rfl, D, _, _, _, rfl, rfl, upd_old hD2 hq, ix_last (by simp), ?_⟩, fun _ z => absurd z (by simp), fun _ _ q2 hq2 => ⟨.ref D, rfl, 1, rfl, D, _, _, _, rfl, rfl, upd_old (upd_old hD2 hq) hq2, ix_last (by simp), ?_⟩⟩⟩
                · subst hy
                  rw [set_last]
                  exact pinvA hD0 hE2 hT2 (Same.new (Same.refl H2) hq) hD2 hf2 hr2 hv (by rw [upd_same]; rfl) hb2 hrun' hwt2
                · rw [set_last]
                  exact pinvA hD0 hE2 hT2 (Same.new (Same.new (Same.refl H2) hq) hq2) hD2 hf2 hr2 hv upd_same hb2 hrun' hwt2
            · cases r with
              | cons p2 r2 =>
                refine absurd (decide_eq_true ?_) e
                rw [List.length_reverse, hl2]
                show (0 : Int) < ((r2.length + 1 : Nat) : Int)
                omega
              | nil =>
                have hs2 : st' = [] ∧ fd' = some (.jet) := Prod.mk.inj hs'
                obtain ⟨rfl, rfl⟩ := hs2
                refine ⟨v, rfl, ev_kids hv fun b' xs' hb' hk' => ⟨_, _, rfl, ?_⟩⟩
                exact ⟨D, b', ws, [], some (.jet), _, _, _, rfl, hD0, hE2, hT2, hD2, hp2, ⟨xs', hb', fun t' z => by cases z; exact hk'⟩, hrun', hwt2⟩
        · exact absurd (by decide +kernel) e
    · obtain ⟨D, b, qs, st, fd, v4, v5, v6, rfl, hD0, hE, hT', hDq, hp', ⟨bx, hbx, hfd⟩, hrun, hwt⟩ := hP
      rw [hcz, List.drop_length] at hrun
      have e : (st, fd) = ([], some u.canon) := Option.some.inj hrun
      obtain ⟨rfl, rfl⟩ := Prod.mk.inj e
      exact ⟨.bl true, rfl, true, rfl, ite_f rfl ⟨.ref b, rfl, k b bx H' hE hT' hbx (hfd _ rfl)⟩⟩
def sp_init_read (K : PySem.W.Frag) : Sp := fun vs H Q _ => ∃ x dx u H0, vs = [.ref x, .str (tx u), .non] ∧ u.size ≤ 5000 ∧ u.dep ≤ 120 ∧ H0 x = none ∧ Same H0 H ∧ H x = some (.ins (cF K) dx []) ∧ LamX.Tabs (TT K) H ∧
  ∀ H', LamX.ExtN H0 H' → LamX.Tabs (TT K) H' → Ftn (cF K) H' u.canon (.ref x) → Q .non H'
theorem ok_Fountain___init___read  (T : Txt K mg base) : MakeD P w K mg base CX0 8 "Fountain" (cF K) ["self", "text", "branches"] [.non] (sp_init_read K) := by
  refine T.init.ok 0 (by decide) sc_Fountain___init__ (fun vs H Q E h => ?_) (fun f cdv A outer s H vs Q E hr h => ?_)
  · obtain ⟨x, dx, u, H0, rfl, _⟩ := h
    rfl
  · obtain ⟨x, dx, u, H0, rfl, h5, h12, hx0, s0, hx, hT, k⟩ := h
    have hcs := canon_size u
    have hcd := canon_dep u
    have hks := kids_size u.canon
    have hcc := canon_can u
    have nx : ∀ {a : Addr} {o : HO}, H0 a = some o → a ≠ x := fun e => ne_of_none e hx0
    refine ⟨_, (pss_cons (ps_set (i := 3) sc_Fountain___init__.nd rfl (by first | exact Or.inl rfl | exact Or.inr rfl) (pe_cmpR op_isN (pv 2) pe_non (nomark _)))
      (pss_cons (ps_via (ps_if (pt_val (pv 3))
        (pss_cons (ps_set (i := 2) sc_Fountain___init__.nd rfl (by first | exact Or.inl rfl | exact Or.inr rfl) (pe_callD (ok_parsed T) (hr.mono (by decide)) (by rfl) pass0 (pa_cons (pv 1) pa_nil)))
        (pss_one (ps_set (i := 1) sc_Fountain___init__.nd rfl (by first | exact Or.inl rfl | exact Or.inr rfl) (pe_via (pe_ifExp (pt_cmpR op_eq (pv 1) (pe_gstr rfl T.gJET_TEXT) (nomark _)) (pe_gstr rfl T.gJET_TEXT) (pe_propD T.cls.c (ok_Fountain_text T) (hr.mono (by decide)) pass0 (pe_callD (ok_made T) (hr.mono (by decide)) (by rfl) pass0 (pa_cons (pv 2) pa_nil)) rfl))))))
        pss_nil))
      (pss_cons (ps_fld (pv 0) (pv 1) (by rfl))
      (pss_cons (ps_fld (pv 0) (pv 2) (by rfl))
      (pss_cons (ps_fld (pv 0) (pe_via (pe_ifExp (pt_cmpR op_eq (pv 1) (pe_gstr rfl T.gJET_TEXT) (nomark _)) (pe_tup (pa_cons pe_int (pa_cons pe_int (pa_cons pe_int (pa_cons pe_int (pa_cons pe_int pa_nil)))))) (pe_callD (ok_basin_numbers T) (hr.mono (by decide)) (by rfl) pass0 (pa_cons (pv 2) pa_nil)))) (by rfl))
      (pss_one (ps_via (ps_if (pt_val (pv 3))
        (pss_one (ps_expr (pe_callD (ok_check_numbers T) (hr.mono (by decide)) (by rfl) pass0 (pa_cons (pe_fld (pv 0) rfl) pa_nil))))
        pss_nil)))))))), ?_⟩
    refine ⟨.non, rfl, rfl, fun σ' H1 => ∃ b xs, σ' = [some (.ref x), some (.str (tx u.canon)), some (.ref b), some (.bl true)] ∧ LamX.ExtN H H1 ∧ LamX.Tabs (TT K) H1 ∧ H1 x = some (.ins (cF K) dx []) ∧ H1 b = some (.tup xs) ∧ FtnL (cF K) H1 u.canon.kids xs,
      ⟨_, rfl, _, rfl, ite_t rfl ⟨.str (tx u), rfl, u, rfl, by omega, hT, fun b xs H1 hE hT1 hb hk => ?_⟩⟩, fun σ' H1 hR => ?_⟩
    · refine ⟨fun v H2 => v = .str (tx u.canon) ∧ LamX.ExtN H1 H2 ∧ LamX.Tabs (TT K) H2, ⟨.str (tx u), rfl, rfl, _, rfl, ite2 (fun e => ?_) fun e => ?_⟩, fun v H2 ⟨ev, e2, hT2⟩ => ?_⟩
      · have et : u = .jet := tx_inj ((V.str.inj (of_decide_eq_true e)).trans tx_jet.symm)
        subst et
        exact ⟨by rw [← tx_jet]; rfl, LamX.ExtN.refl _, hT1⟩
      · refine ⟨.ref b, rfl, b, xs, u.canon.kids, rfl, .inr (SqT.of hb), hk, by omega, hT1, fun w H2 e1 e2 e3 => ev_prop e3 ⟨?_, e1, e2⟩⟩
        cases u with
        | jet => exact absurd (decide_eq_true (by rw [tx_jet])) e
        | bas l =>
          have ec : (JW.T.bas l).canon = .bas (sortT (l.map JW.T.canon)) := canon_bas l
          rw [ec]
          show V.str (tx (.bas (sortT (sortT (l.map JW.T.canon))))) = _
          rw [sortT_of (sortT_srt _)]
      · subst ev
        exact ⟨b, xs, rfl, hE.trans e2, hT2, e2 _ _ (hE _ _ hx fun ps z => by cases z) (fun ps z => by cases z), e2 _ _ hb (fun ps z => by cases z), hk.ext e2⟩
    obtain ⟨b, xs, rfl, hE1, hT1, hx1, hb1, hk1⟩ := hR
    have nbx : b ≠ x := ne_of hb1 hx1 fun z => by cases z
    have hl1 := hk1.len
    have hll := length_le u.canon.kids
    have hsl := sizeLine_eq
    have hD2 : ∀ o1 o2 : HO, ExtD x H1 (upd (upd H1 x o1) x o2) := fun o1 o2 => ExtD.put (ExtD.put (ExtD.refl x H1))
    have tT2 : ∀ (d1 d2 : Addr) (f1 f2 : List (Str × V)), LamX.Tabs (TT K) (upd (upd H1 x (.ins (cF K) d1 f1)) x (.ins (cF K) d2 f2)) := fun d1 d2 f1 f2 => Tabs.putI (Tabs.putI hT1 hx1) upd_same
    refine ⟨.str (tx u.canon), rfl, .ref x, rfl, x, _, dx, _, rfl, hx1, T.cls.c, T.cls.nw, by decide, .ref b, rfl, .ref x, rfl, x, _, dx, _, rfl, upd_same, T.cls.c, T.cls.nb, fl_l1,
      fun v H' => ∃ n, v = .ref n ∧ ExtD x H1 H' ∧ LamX.Tabs (TT K) H' ∧ H' x = some (.ins (cF K) dx (putF "branches" (.ref b) (putF "written" (.str (tx u.canon)) []))) ∧ H' n = some (.tup (nums u.canon)), ⟨_, rfl, rfl, _, rfl, ite2 (fun e => ?_) fun e => ?_⟩, fun v H' hv => ?_⟩
    · have et : u.canon = .jet := tx_inj ((V.str.inj (of_decide_eq_true e)).trans tx_jet.symm)
      refine ⟨sz5, fun p hp => ⟨p, rfl, ExtD.trans (hD2 _ _) (.of (.of (Same.new (Same.refl _) hp))), Tabs.same (tT2 _ _ _ _) (Same.new (Same.refl _) hp), upd_old upd_same hp, ?_⟩⟩
      rw [upd_same, et]
      rfl
    · cases hu : u.canon with
      | jet => exact absurd (decide_eq_true (by rw [hu, tx_jet])) e
      | bas l =>
        rw [hu] at hk1 hl1 hll hks hcs
        refine ⟨.ref b, rfl, b, xs, l, rfl, hD2 _ _ _ _ nbx hb1 (fun ps z => by cases z), ftnL_extX hx1 (by decide) (hD2 _ _) _ _ hk1, ?_, fun H' p s e => ⟨p, rfl, ExtD.trans (hD2 _ _) (.of (.of s)), Tabs.same (tT2 _ _ _ _) s, s _ _ upd_same, e⟩⟩
        have h1 : xs.length = l.length := hl1
        have h2 : l.length ≤ sizeL l := hll
        have h3 : sizeL l ≤ (JW.T.bas l).size := hks
        omega
    · obtain ⟨n, rfl, eD, tT, e1, e2⟩ := hv
      have nn : n ≠ x := ne_of e2 e1 fun z => by cases z
      refine ⟨.ref x, rfl, x, _, dx, _, rfl, e1, T.cls.c, T.cls.nn, fl_l2, fun _ HF => HF = upd H' x (.ins (cF K) dx (putF "numbers" (.ref n) (putF "branches" (.ref b) (putF "written" (.str (tx u.canon)) [])))), ⟨.bl true, rfl, _, rfl, ite_t rfl ⟨.ref x, rfl, x, _, dx, _, _, rfl, upd_same, T.cls.c, T.cls.nn, by rw [fl_put]; exact fl_n, n, u.canon, rfl, by rw [upd_ne nn]; exact e2, by omega, by omega, rfl⟩⟩, fun _ HF eF => ?_⟩
      subst eF
      refine k _ (fun a o e nt => ?_) (Tabs.putI tT e1) (ftn_iff.mpr ⟨x, dx, b, n, xs, rfl, by rw [upd_same, fl_put], ?_, by rw [upd_ne nn]; exact e2, ftnL_extX hx1 (by decide) (ExtD.put eD) _ _ hk1⟩)
      · rw [upd_ne (nx e)]
        exact eD _ _ (nx e) (hE1 _ _ (s0 _ _ e) nt) nt
      · rw [upd_ne nbx]
        exact eD _ _ nbx hb1 (fun ps z => by cases z)
def aspRead : ASp
  | [.str z], L, Q, _ => ∃ u : T, z = tx u ∧ u.size ≤ 5000 ∧ u.dep ≤ 120 ∧ Q (.tree u.canon) L
  | _, _, _, _ => False
theorem mkA_read {K : PySem.W.Frag} {scr : Option (Addr × List Int)} : ∀ ds vs H L R Q, RepL (cA K scr) H ds vs → Good (cA K scr) L H → aspRead ds L R anyX → Pq (cA K scr) H R Q → ∀ x dx, H x = none → H dx = none → dx ≠ x →
    sp_init_read K (.ref x :: (vs ++ [.non])) (upd (upd H dx (.own x)) x (.ins (cF K) dx [])) (fun v H2 => v = .non ∧ Q (.ref x) H2) (fun _ _ _ => True) := fun ds vs H L R Q r g h pq x dx hx hdx ne => by
  unfold aspRead at h
  split at h
  · obtain ⟨u, rfl, h1, h2, h⟩ := h
    obtain ⟨v, rfl, r1⟩ := repL_one r
    cases rep_str.mp r1
    have s : Same H (upd (upd H dx (.own x)) x (.ins (cF K) dx [])) := Same.new (Same.new (Same.refl H) hdx) (by rw [upd_ne (Ne.symm ne)]; exact hx)
    exact ⟨x, dx, u, H, rfl, h1, h2, hx, s, upd_same, Tabs.same g.tabs s, fun H' e' T' hf => ⟨rfl, pq _ _ _ H' h (.extN e') (g.extN T' e') (rep_tree.mpr hf)⟩⟩
  · exact h.elim

def PthX (L : Store) (P : Addr) (q : List Nat) (x : D) : Prop := x = dpth q ∨ ∃ r, r ≠ P ∧ x = .ref r ∧ L r = some (.lst (q.map fun k : Nat => D.int (k : Nat)))
theorem PthX.sub {L L' : Store} {P : Addr} {q : List Nat} {x : D} (h : PthX L P q x) (s : SubS L L') : PthX L' P q x := h.imp id fun ⟨r, h1, h2, h3⟩ => ⟨r, h1, h2, s _ _ h3⟩
theorem PthX.put {L : Store} {P : Addr} {q : List Nat} {x : D} {m : MO} (h : PthX L P q x) : PthX (sput L P m) P q x := h.imp id fun ⟨r, h1, h2, h3⟩ => ⟨r, h1, h2, by rw [sput_ne h1]; exact h3⟩
theorem PthX.pth {L : Store} {P : Addr} {q : List Nat} {x : D} (h : PthX L P q x) : PthD L q x := h.imp id fun ⟨r, h1, h2, h3⟩ => ⟨r, h2, h3⟩
theorem aVar_at {env : En} {i : Nat} {d : D} {L : Store} {Q : AQ} (h : env[i]? = some (some d)) : aVar i env L Q = Q d L := by
  unfold aVar
  rw [h]
theorem pathE_one {env : En} {p P : Addr} {q : List Nat} {i : Nat} {L : Store} {m : MO} {k : AQ} (h0 : env[0]? = some (some (.ref p))) (hi : env[i]? = some (some (dpth q))) (hp : L p = some boxM) (hP : L P = some m) (hk : ∀ x L', PthX L' P q x → SubS L L' → k x L') :
    aOp ixD (aLst (aCons (aVar i) (aCons (aB listD (aCons (aVar i) aNil)) aNil))) (aCall asp__law_take (aCons (aVar 0) (aCons (aC (.int 2)) aNil))) env L k := by
  have hsl := sizeLine_eq
  unfold aOp aLst aB aCall aCons aNil aC
  simp only [aVar_at h0, aVar_at hi]
  intro r hr
  refine ⟨by show (2 : Nat) ≤ sizeLine; omega, fun F hF => ⟨sput_old (sput_old hp hr) hF, by decide, by decide, fun v v0 v1 => ?_⟩⟩
  have sb := ((SubS.refl L).new (m := .lst (q.map fun k : Nat => D.int (k : Nat))) hr).new (m := .lst [dpth q, .ref r]) hF
  have hrP : r ≠ P := fun z => by rw [z, hP] at hr; cases hr
  obtain rfl | rfl : v = 0 ∨ v = 1 := by omega
  · exact ⟨_, _, sput_same, at2_0, hk _ _ (.inl rfl) sb⟩
  · exact ⟨_, _, sput_same, at2_1, hk _ _ (.inr ⟨r, hrP, rfl, sput_old sput_same hF⟩) sb⟩
theorem at1_0 {a : D} : atI [a] 0 = some a := show atI _ ((0 : Nat) : Int) = _ from atI_nat rfl
def asp__law_does (K : PySem.W.Frag) : ASp
  | [.ref p, .ref y, x], L, Q, _ => ∃ (t : T) (l : List (D × T)) (e : Deed), L p = some boxM ∧ x = deedD e ∧ L y = some (YdM K t l) ∧ l.length < 1000000 ∧ Can t ∧ DOk t e ∧ ((nxt t e).2 = none → Q (nxt t e).1 L) ∧ ∀ u, (nxt t e).2 = some u → Q (nxt t e).1 (sput L y (YdM K u (l ++ [(deedD e, t)])))
  | _, _, _, _ => False
theorem okA__law_does  (T : Txt K mg base) {scr : Option (Addr × List Int)} : CallD P w K mg base CX0 206 "_law_does" ["_law_box_here", "_law_yard", "_law_deed_here"] [] (spA (cA K scr) (asp__law_does K)) := by
  refine T.d__law_does.okA sc__law_does ?len (fun f cdv A outer s H E hr => (as_cons (as_par (i := 3) (j := 4) (by rfl) sc__law_does.nd rfl rfl (by decide) rfl rfl (aa_cons (ae_ix (av 2) ae_int (fun _ _ => rfl)) (aa_cons (ae_tup (aa_cons ae_str aa_nil)) aa_nil)) (by rfl))
      (as_cons (as_setLcIf (own := [("_law_path", 8)]) (i := 5) (by rfl) sc__law_does.nd rfl rfl (sw_true rfl rfl rfl (by decide +kernel)) (ai_tup (ae_sl (av 2) (ao_some ae_int) ao_none)) (blkOk_by (by kernel_rfl)) (tgOk_name (by decide)) (fun _ _ _ _ _ => pg_name (i := 8) sc__law_does.nd rfl (by first | exact Or.inl rfl | exact Or.inr rfl)) (fun _ _ _ _ _ => (at_bl (ae_b (acb_isiA (K := K) rfl T.cls) (by rfl) T.n_isinstance (by decide +kernel) (aa_cons (av 8) (aa_cons (ae_c (d := .ty "tuple") (pe_bltn (v := .ty "tuple") (by rfl) T.n_tuple (by decide +kernel) rfl) (fun _ => rep_ty.mpr rfl)) aa_nil))))) (fun _ _ _ _ _ => (ae_ix (ae_lst (aa_cons (av 8) (aa_cons (ae_ty acb_list (by rfl) T.n_list (by decide +kernel) (aa_cons (av 8) aa_nil)) aa_nil))) (ae_call (okA__law_take T) (hr.mono (by decide)) (by rfl) (aa_cons (av 0) (aa_cons ae_int aa_nil))) (fun _ _ => rfl))))
      (as_cons (as_via (as_set (i := 6) sc__law_does.nd rfl (by first | exact Or.inl rfl | exact Or.inr rfl) (ae_if (at_bl (ae_b (acb_isiA (K := K) rfl T.cls) (by rfl) T.n_isinstance (by decide +kernel) (aa_cons (ae_ix (av 2) (ae_neg ae_int) (fun _ _ => rfl)) (aa_cons (ae_c (d := .ty "str") (pe_bltn (v := .ty "str") (by rfl) T.n_str (by decide +kernel) rfl) (fun _ => rep_ty.mpr rfl)) aa_nil)))) (ae_make (dd := []) (asp := aspRead) (ok_Fountain___init___read T) (hr.mono (by decide)) (by rfl) (aa_cons (ae_call (okA__law_written T 112) (hr.mono (by decide)) (by rfl) (aa_cons (av 0) (aa_cons (ae_ix (av 2) (ae_neg ae_int) (fun _ _ => rfl)) aa_nil))) aa_nil) mkA_read) ae_non)))
      (as_cons (as_tryAs (K := K) rfl (i := 7) rfl rfl sc__law_does.nd rfl rfl ⟨rfl, by decide, .inl T.e_JetError.g⟩ (fun pn xe RXe H1 hp po => (as_one (as_if (at_cmp (aop_eqG (okF_eq T) (hr.mono (by decide)) hr.units) (av 3) ae_str (nomark _))
          (as_one (as_set (i := 4) sc__law_does.nd rfl (by first | exact Or.inl rfl | exact Or.inr rfl) (ae_tup (aa_cons ae_str (aa_cons (ae_propG (fun t => .str (tx t)) (fun _ _ => rep_str.mpr rfl) T.cls.c (ok_Fountain_text T) (hr.mono (by decide)) (ae_methM (K := K) rfl T.o_Yard.c (okA_Yard_put T) (hr.mono (by decide)) (av 1) (aa_cons (ae_ix (av 5) ae_int (fun _ _ => rfl)) (aa_cons (av 6) aa_nil))) rfl) aa_nil)))))
          (as_one (as_if (at_cmp (aop_eqG (okF_eq T) (hr.mono (by decide)) hr.units) (av 3) ae_str (nomark _))
            (as_one (as_set (i := 4) sc__law_does.nd rfl (by first | exact Or.inl rfl | exact Or.inr rfl) (ae_tup (aa_cons ae_str (aa_cons (ae_methP (K := K) rfl T.o_Yard.c (okA_Yard_exchange T) (hr.mono (by decide)) hp (av 1) (aa_cons (ae_ix (av 5) ae_int (fun _ _ => rfl)) (aa_cons (ae_ix (av 5) ae_int (fun _ _ => rfl)) aa_nil))) aa_nil)))))
            (as_one (as_via (as_set (i := 4) sc__law_does.nd rfl (by first | exact Or.inl rfl | exact Or.inr rfl) (ae_tup (aa_cons ae_str (aa_cons (ae_if (at_cmp (aop_eqG (okF_eq T) (hr.mono (by decide)) hr.units) (av 3) ae_str (nomark _)) (ae_methM (K := K) rfl T.o_Yard.c (okA_Yard_grow T) (hr.mono (by decide)) (av 1) (aa_cons (av 6) aa_nil)) (ae_methP (K := K) rfl T.o_Yard.c (okA_Yard_trim T) (hr.mono (by decide)) hp (av 1) (aa_cons (av 6) aa_nil))) aa_nil)))))))))))
        (fun a oe cls d pn y fs H1 hz hfl he her => (as_one (as_set (i := 4) sc__law_does.nd rfl (by first | exact Or.inl rfl | exact Or.inr rfl) (ae_callE (okE__law_refusal T) (hr.mono (by decide)) hz.zc hfl hz.2.2 he her (by rfl) (i := 7) rfl (by first | exact Or.inl rfl | exact Or.inr rfl))))))
      (as_one (as_ret (av 4)))))))) ?vc
  case len =>
    intro ds L R RX h
    unfold asp__law_does at h
    split at h <;> first | rfl | exact h.elim
  case vc =>
    intro ds L R RX h
    unfold asp__law_does at h
    split at h
    · rename_i p y x
      obtain ⟨t, l, e, hp, rfl, hy, hl, hc, ho, h1, h2⟩ := h
      have hsl := sizeLine_eq
      have ret : ∀ {d : D} {L2 : Store}, R d L → SubS L L2 → ∃ L0, SubS L0 L2 ∧ R d L0 := fun h s => ret_sub h s
      cases e with
      | put q b =>
        have ho0 := ho
        obtain ⟨⟨s, hs⟩, hb, b1, z1, z2, z3⟩ := ho
        have ec : AL.cutD [D.str "put", dpth q, D.str (tx b)] (some 1) none = [dpth q, .str (tx b)] := by
          have e := cutD_drop (f := (id : D → D)) (l := [D.str "put", dpth q, D.str (tx b)]) (i := 1) (k := 1) rfl
          rw [List.map_id, List.map_id] at e
          exact e
        have hres : R (.tup [.str "put", .str (tx s)]) (sput L y (YdM K (repT b q t) (l ++ [(deedD (.put q b), t)]))) := by
          have h5 : R (.tup [.str "put", .str (tx ((subT q t).getD .jet))]) (sput L y (YdM K (repT b q t) (l ++ [(deedD (.put q b), t)]))) := h2 _ rfl
          rw [hs] at h5
          exact h5
        have rdz : ∀ u : JW.T, u.canon = b.canon → u.size ≤ 5000 ∧ u.dep ≤ 120 ∧ u.canon = b := fun u hu => by
          have e1 := canon_size u
          have e2 := canon_dep u
          have bd := dep_le_size b
          have hu2 := hu.trans (can_canon b hb)
          rw [hu2] at e1 e2
          exact ⟨by omega, by omega, hu2⟩
        refine ⟨_, at3_0, by show (1 : Nat) ≤ sizeLine; omega, fun P hP => ?_⟩
        rw [ec]
        have yP : y ≠ P := fun z => by rw [← z, hy] at hP; cases hP
        refine ⟨trivial, sput_same, rfl, "tuple", _, true, rfl, rfl, kit_b (by decide +kernel), ite_t (B := True) rfl ?_⟩
        refine pathE_one (q := q) (i := 8) (P := P) rfl rfl (sput_old hp hP) sput_same fun x L1 hx sb1 => ⟨by show (0 : Nat) < sizeLine; omega, sb1 _ _ sput_same, ?_⟩
        refine ⟨trivial, sput_same, rfl, "str", _, false, rfl, rfl, kit_b (by decide +kernel), ite_f (A := True) rfl ⟨trivial, sput_same, ?_⟩⟩
        have sb2 : SubS L (sput L1 P (.lst [x])) := (((SubS.refl L).new hP).trans sb1).put hP
        have hx2 : PthX (sput L1 P (.lst [x])) P q x := hx.put
        have hP2 : sput L1 P (.lst [x]) P = some (.lst [x]) := sput_same
        rw [List.nil_append]
        generalize sput L1 P (.lst [x]) = L2 at sb2 hx2 hP2 ⊢
        have hp2 := sb2 _ _ hp
        have hy2 := sb2 _ _ hy
        refine ⟨fun env L9 => L9 = L2 ∧ env = [some (.ref p), some (.ref y), some (deedD (.put q b)), some (.str "put"), some (.tup [.str "other"]), some (.ref P), some (.tree b), none, none], ⟨_, at3_m, "str", _, true, rfl, rfl, kit_b (by decide +kernel), ite_t (B := True) rfl ⟨_, at3_m, hp2, b, rfl, by have := dep_le_size b; omega, by omega, fun u hu => ⟨u, rfl, (rdz u hu).1, (rdz u hu).2.1, by rw [(rdz u hu).2.2]; exact ⟨rfl, rfl⟩⟩⟩⟩, ?_⟩
        rintro env L9 ⟨rfl, rfl⟩
        have hpd := sub_dep q t s hs
        have hrz := rep_size b q t s hs
        have hok := nxt_ok hc ho0 _ rfl
        have hsp := size_pos s
        refine ⟨⟨_, _, hy2, by decide⟩, _, _, hP2, at1_0, t, l, q, s, hy2, hl, hx2.pth, hs, by omega, by omega, by omega, by omega, by show (2 : Nat) ≤ sizeLine; omega, ret_sub hres sb2.over⟩
      | exch q1 q2 =>
        have ho0 := ho
        obtain ⟨⟨a, ha⟩, ⟨b, hb⟩, z1, z2⟩ := ho
        have ec : AL.cutD [D.str "exchange", dpth q1, dpth q2] (some 1) none = [dpth q1, dpth q2] := by
          have e := cutD_drop (f := (id : D → D)) (l := [D.str "exchange", dpth q1, dpth q2]) (i := 1) (k := 1) rfl
          rw [List.map_id, List.map_id] at e
          exact e
        refine ⟨_, at3_0, by show (1 : Nat) ≤ sizeLine; omega, fun P hP => ?_⟩
        rw [ec]
        have yP : y ≠ P := fun z => by rw [← z, hy] at hP; cases hP
        refine ⟨trivial, sput_same, rfl, "tuple", _, true, rfl, rfl, kit_b (by decide +kernel), ite_t (B := True) rfl ?_⟩
        refine pathE_one (q := q1) (i := 8) (P := P) rfl rfl (sput_old hp hP) sput_same fun x1 L1 hx1 sb1 => ⟨by show (0 : Nat) < sizeLine; omega, sb1 _ _ sput_same, ?_⟩
        have sb2 : SubS L (sput L1 P (.lst [x1])) := (((SubS.refl L).new hP).trans sb1).put hP
        have hx2 : PthX (sput L1 P (.lst [x1])) P q1 x1 := hx1.put
        have hP2 : sput L1 P (.lst [x1]) P = some (.lst [x1]) := sput_same
        rw [List.nil_append]
        generalize sput L1 P (.lst [x1]) = L2 at sb2 hx2 hP2 ⊢
        refine ⟨trivial, hP2, rfl, "tuple", _, true, rfl, rfl, kit_b (by decide +kernel), ite_t (B := True) rfl ?_⟩
        refine pathE_one (q := q2) (i := 8) (P := P) rfl rfl (sb2 _ _ hp) hP2 fun x2 L3 hx3 sb3 => ⟨by show (1 : Nat) < sizeLine; omega, sb3 _ _ hP2, trivial, sput_same, ?_⟩
        have sb4 : SubS L (sput L3 P (.lst [x1, x2])) := (sb2.trans sb3).put hP
        have hx4 : PthX (sput L3 P (.lst [x1, x2])) P q1 x1 := (hx2.sub sb3).put
        have hx5 : PthX (sput L3 P (.lst [x1, x2])) P q2 x2 := hx3.put
        have hP4 : sput L3 P (.lst [x1, x2]) P = some (.lst [x1, x2]) := sput_same
        show AL.agName 5 (.ref P) _ (sput L3 P (.lst [x1, x2])) _
        generalize sput L3 P (.lst [x1, x2]) = L4 at sb4 hx4 hx5 hP4 ⊢
        have hp4 := sb4 _ _ hp
        have hy4 := sb4 _ _ hy
        refine ⟨fun env L9 => L9 = L4 ∧ env = [some (.ref p), some (.ref y), some (deedD (.exch q1 q2)), some (.str "exchange"), some (.tup [.str "other"]), some (.ref P), some .non, none, none], ⟨_, at3_m, "tuple", _, false, rfl, rfl, kit_b (by decide +kernel), ite_f (A := True) rfl ⟨rfl, rfl⟩⟩, ?_⟩
        rintro env L9 ⟨rfl, rfl⟩
        refine (⟨⟨_, _, hy4, by decide⟩, _, _, hP4, at2_0, _, _, hP4, at2_1, t, l, q1, q2, a, b, hy4, hl, hx4.pth, hx5.pth, ha, hb, by omega, by omega, fun hn => ⟨T.x_Nested_JetError, fun c => ⟨rfl, .inr (.inl ⟨rfl, rfl, ?_⟩)⟩⟩, fun hn => ?_⟩)
        · have e : nxt t (.exch q1 q2) = (.tup [.str "nested"], none) := if_pos hn
          rw [e] at h1
          exact ret_sub (h1 rfl) sb4
        · have e : nxt t (.exch q1 q2) = (toldD, some (swT t [(q1, (subT q2 t).getD .jet), (q2, (subT q1 t).getD .jet)])) := if_neg hn
          have hok := nxt_ok hc ho0 (swT t [(q1, (subT q2 t).getD .jet), (q2, (subT q1 t).getD .jet)]) (by rw [e])
          rw [e] at h2
          have h5 := h2 _ rfl
          rw [ha, hb] at hok h5
          exact ⟨by have := hok.2.1; exact Nat.le_trans this (by decide), by have := hok.2.2; exact Nat.le_trans this (by decide), by show (2 : Nat) ≤ sizeLine; omega, ret_sub h5 sb4.over⟩
      | grow b =>
        have ho0 := ho
        obtain ⟨hb, b1, z1, z3⟩ := ho
        have ec : AL.cutD [D.str "grow", D.str (tx b)] (some 1) none = [.str (tx b)] := by
          have e := cutD_drop (f := (id : D → D)) (l := [D.str "grow", D.str (tx b)]) (i := 1) (k := 1) rfl
          rw [List.map_id, List.map_id] at e
          exact e
        have rdz : ∀ u : JW.T, u.canon = b.canon → u.size ≤ 5000 ∧ u.dep ≤ 120 ∧ u.canon = b := fun u hu => by
          have e1 := canon_size u
          have e2 := canon_dep u
          have bd := dep_le_size b
          have hu2 := hu.trans (can_canon b hb)
          rw [hu2] at e1 e2
          exact ⟨by omega, by omega, hu2⟩
        refine ⟨_, at2_0, by show (1 : Nat) ≤ sizeLine; omega, fun P hP => ?_⟩
        rw [ec]
        have yP : y ≠ P := fun z => by rw [← z, hy] at hP; cases hP
        refine ⟨trivial, sput_same, rfl, "str", _, false, rfl, rfl, kit_b (by decide +kernel), ite_f (A := True) rfl ⟨trivial, sput_same, ?_⟩⟩
        have sb2 : SubS L (sput L P (.lst [])) := (SubS.refl L).new hP
        have hP2 : sput L P (.lst []) P = some (.lst []) := sput_same
        generalize sput L P (.lst []) = L2 at sb2 hP2 ⊢
        have hp2 := sb2 _ _ hp
        have hy2 := sb2 _ _ hy
        refine ⟨fun env L9 => L9 = L2 ∧ env = [some (.ref p), some (.ref y), some (deedD (.grow b)), some (.str "grow"), some (.tup [.str "other"]), some (.ref P), some (.tree b), none, none], ⟨_, at2_m, "str", _, true, rfl, rfl, kit_b (by decide +kernel), ite_t (B := True) rfl ⟨_, at2_m, hp2, b, rfl, by have := dep_le_size b; omega, by omega, fun u hu => ⟨u, rfl, (rdz u hu).1, (rdz u hu).2.1, by rw [(rdz u hu).2.2]; exact ⟨rfl, rfl⟩⟩⟩⟩, ?_⟩
        rintro env L9 ⟨rfl, rfl⟩
        have hok := nxt_ok hc ho0 (JW.T.grf b t) rfl
        have hjz := jts_le t
        have hjb := jts_le b
        have hjj : t.jts * b.jts ≤ 1000 * 5 := Nat.mul_le_mul (by omega) (by omega)
        refine ⟨fun env L8 => L8 = sput L9 y (YdM K (JW.T.grf b t) (l ++ [(deedD (.grow b), t)])) ∧ env = [some (.ref p), some (.ref y), some (deedD (.grow b)), some (.str "grow"), some toldD, some (.ref P), some (.tree b), none, none], ⟨⟨_, _, hy2, by decide⟩, t, l, hy2, hl, hc, hb, by omega, by omega, by omega, by omega, by show (2 : Nat) ≤ sizeLine; omega, rfl, rfl⟩, ?_⟩
        rintro env L8 ⟨rfl, rfl⟩
        exact ret_sub (h2 _ rfl) sb2.over
      | trim b =>
        have ho0 := ho
        obtain ⟨hb, b1, z1, z3⟩ := ho
        have ec : AL.cutD [D.str "trim", D.str (tx b)] (some 1) none = [.str (tx b)] := by
          have e := cutD_drop (f := (id : D → D)) (l := [D.str "trim", D.str (tx b)]) (i := 1) (k := 1) rfl
          rw [List.map_id, List.map_id] at e
          exact e
        have rdz : ∀ u : JW.T, u.canon = b.canon → u.size ≤ 5000 ∧ u.dep ≤ 120 ∧ u.canon = b := fun u hu => by
          have e1 := canon_size u
          have e2 := canon_dep u
          have bd := dep_le_size b
          have hu2 := hu.trans (can_canon b hb)
          rw [hu2] at e1 e2
          exact ⟨by omega, by omega, hu2⟩
        refine ⟨_, at2_0, by show (1 : Nat) ≤ sizeLine; omega, fun P hP => ?_⟩
        rw [ec]
        have yP : y ≠ P := fun z => by rw [← z, hy] at hP; cases hP
        refine ⟨trivial, sput_same, rfl, "str", _, false, rfl, rfl, kit_b (by decide +kernel), ite_f (A := True) rfl ⟨trivial, sput_same, ?_⟩⟩
        have sb2 : SubS L (sput L P (.lst [])) := (SubS.refl L).new hP
        have hP2 : sput L P (.lst []) P = some (.lst []) := sput_same
        generalize sput L P (.lst []) = L2 at sb2 hP2 ⊢
        have hp2 := sb2 _ _ hp
        have hy2 := sb2 _ _ hy
        refine ⟨fun env L9 => L9 = L2 ∧ env = [some (.ref p), some (.ref y), some (deedD (.trim b)), some (.str "trim"), some (.tup [.str "other"]), some (.ref P), some (.tree b), none, none], ⟨_, at2_m, "str", _, true, rfl, rfl, kit_b (by decide +kernel), ite_t (B := True) rfl ⟨_, at2_m, hp2, b, rfl, by have := dep_le_size b; omega, by omega, fun u hu => ⟨u, rfl, (rdz u hu).1, (rdz u hu).2.1, by rw [(rdz u hu).2.2]; exact ⟨rfl, rfl⟩⟩⟩⟩, ?_⟩
        rintro env L9 ⟨rfl, rfl⟩
        refine ⟨fun env L8 => L8 = sput L9 y (YdM K (cutT b t) (l ++ [(deedD (.trim b), t)])) ∧ cov b t = true ∧ 0 < b.jts ∧ env = [some (.ref p), some (.ref y), some (deedD (.trim b)), some (.str "trim"), some toldD, some (.ref P), some (.tree b), none, none], ⟨⟨_, _, hy2, by decide⟩, t, l, hy2, hl, by omega, by omega, fun hj => ⟨T.x_Closed_JetError, fun c => ⟨rfl, .inr (.inr ⟨rfl, rfl, ?_⟩)⟩⟩, fun hj => ⟨fun q hq => ⟨T.x_NoQuotient_JetError, fun c => ⟨rfl, .inl ⟨rfl, _, rfl, ?_⟩⟩⟩, fun hn => ⟨by show (2 : Nat) ≤ sizeLine; omega, rfl, (bar_cov b t).mp hn, hj, rfl⟩⟩⟩, ?_⟩
        · have e : nxt t (.trim b) = (.tup [.str "closed"], none) := if_pos hj
          rw [e] at h1
          exact ret_sub (h1 rfl) sb2
        · have hv : ¬ cov b t = true := fun z => by rw [(bar_cov b t).mpr z] at hq; cases hq
          have e : nxt t (.trim b) = (.tup [.str "quotient", placeD [] (barT b t)], none) := (if_neg (by omega)).trans (if_neg hv)
          rw [e, hq] at h1
          exact ret_sub (h1 rfl) sb2
        rintro env L8 ⟨rfl, hv, hj, rfl⟩
        have e : nxt t (.trim b) = (toldD, some (cutT b t)) := (if_neg (by omega)).trans (if_pos hv)
        rw [e] at h2
        exact ret_sub (h2 _ rfl) sb2.over
    · exact h.elim
def asp_Yard_undo (K : PySem.W.Frag) : ASp
  | [.ref y], L, Q, _ => ∃ t l, L y = some (YdM K t l) ∧ l.length < 1000000 ∧ (l = [] → Q (.bl false) L) ∧ ∀ init d u, l = init ++ [(d, u)] → Q (.bl true) (sput L y (YdM K u init))
  | _, _, _, _ => False
theorem okA_Yard_undo  (T : Txt K mg base) {scr : Option (Addr × List Int)} : MethD P w K mg base CX0 77 (He.ga K "Yard") "undo" ["self"] [] (spA (cA K scr) (asp_Yard_undo K)) := by
  refine T.m_Yard_undo.okA sc_Yard_undo ?len (fun f cdv A outer s H E hr => (as_cons (as_if (at_cmp (aop_eqG (okF_eq T) (hr.mono (by decide)) hr.units) (ae_b (acb_lenM T.m_Yard___len__ (okA_Yard___len__ T) (hr.mono (by decide))) (by rfl) T.n_len (by decide +kernel) (aa_cons (av 0) aa_nil)) ae_int (nomark _))
        (as_one (as_ret ae_bl))
        as_nil)
      (as_cons (as_asg (ae_ix (ae_ix (ae_fldM (K := K) rfl (av 0) rfl) ae_int (fun _ _ => rfl)) (ae_neg ae_int) (fun _ _ => rfl)) (ag_tup (n := 2) rfl (ags_cons (ag_name (i := 1) sc_Yard_undo.nd rfl (by first | exact Or.inl rfl | exact Or.inr rfl)) (ags_cons (ag_name (i := 2) sc_Yard_undo.nd rfl (by first | exact Or.inl rfl | exact Or.inr rfl)) ags_nil)) (fun _ _ _ _ z => agNs_len (js := [1, 2]) z)))
      (as_cons (as_fldM (K := K) rfl (av 0) (ae_tup (aa_cons (av 2) (aa_cons (ae_sl (ae_ix (ae_fldM (K := K) rfl (av 0) rfl) ae_int (fun _ _ => rfl)) ao_none (ao_some (ae_neg ae_int))) aa_nil))))
      (as_one (as_ret ae_bl)))))) ?vc
  case len =>
    intro ds L R RX h
    unfold asp_Yard_undo at h
    split at h <;> first | rfl | exact h.elim
  case vc =>
    intro ds L R RX h
    unfold asp_Yard_undo at h
    split at h
    · rename_i y
      obtain ⟨t, l, hy, hl, h1, h2⟩ := h
      have hsl := sizeLine_eq
      refine ⟨⟨_, _, hy⟩, t, l, hy, l.length, rfl, hl, ite2 (fun e => ?_) (fun e => ?_)⟩
      · cases l with
        | nil => exact ret_of (h1 rfl)
        | cons q r => exact absurd (of_decide_eq_true ((Bool.false_xor _).symm.trans e)) (by rw [List.length_cons]; omega)
      have hne : l ≠ [] := fun z => e (by rw [z]; rfl)
      obtain ⟨init, ⟨d, u⟩, rfl⟩ : ∃ i x, l = i ++ [x] := ⟨_, _, (List.dropLast_concat_getLast hne).symm⟩
      have ea : atI ((init ++ [(d, u)]).map pyD) (-1) = some (pyD (d, u)) := by rw [List.map_append]; exact atI_m1y _ _
      refine ⟨y, _, _, _, _, rfl, hy, T.o_Yard.c, T.na_Yard_state, look_st, _, at2_1y, pyD (d, u), ea, rfl, y, _, _, _, _, rfl, hy, T.o_Yard.c, T.na_Yard_state, look_st, _, at2_1y, by show (2 : Nat) ≤ sizeLine; omega, y, _, _, _, rfl, hy, T.o_Yard.c, T.na_Yard_state, .inr rfl, ?_⟩
      rw [cutD_init]
      exact ret_of (h2 init d u rfl)
    · exact h.elim
def sp_law (K : PySem.W.Frag) : Sp := fun vs H Q _ => ∃ (a : Addr) (ns : List Int), vs = [.ref a] ∧ SqL K H a (ns.map V.int) ∧ ns.length ≤ 63 ∧ LamX.Tabs (TT K) H ∧ ∀ H', Q (.bl true) H'
theorem fn_law (T : Txt K mg base) {f : Addr} {fd : FuncData} (F : FunD K "law" "law" (defArgs s_law) (defBody s_law) (defScope s_law) [] [] f fd) : FnOk P w K mg base CX0 211 f fd ["_law_script"] (sp_law K) := by
  refine okF F sc_law (fun vs H Q E h => ?_) (fun cdv A outer s H vs Q E hr h => ?_)
  · obtain ⟨a, ns, rfl, _⟩ := h
    rfl
  · obtain ⟨a, ns, rfl, hS, hlen, hT, k⟩ := h
    have hb : ASs (cxOf CX0 P w K mg base ["_law_script", "_law_k", "_law_box_here", "_law_text", "_law_yard", "_law_mine", "_law_turn", "_law_deed_here"] "law" (defScope s_law) f cdv A outer s H E).nox (cA K (some (a, ns))) H (defBody s_law) _ := (as_cons (as_for PassesOwn.never rfl (ai_rng1 (by rfl) T.n_range (aa_cons (ae_b (acb_max rfl) (by rfl) T.n_max (by decide +kernel) (aa_cons ae_int (aa_cons (ae_b (acb_min rfl) (by rfl) T.n_min (by decide +kernel) (aa_cons ae_int (aa_cons (ae_b acb_len (by rfl) T.n_len (by decide +kernel) (aa_cons (av 0) aa_nil)) aa_nil))) aa_nil))) aa_nil)) (ag_name (i := 1) sc_law.nd rfl (by first | exact Or.inl rfl | exact Or.inr rfl))
        (as_cons (as_set (i := 2) sc_law.nd rfl (by first | exact Or.inl rfl | exact Or.inr rfl) (ae_call (okA__law_box T) (hr.mono (by decide)) (by rfl) (aa_cons (av 0) (aa_cons (av 1) aa_nil))))
        (as_cons (as_set (i := 3) sc_law.nd rfl (by first | exact Or.inl rfl | exact Or.inr rfl) (ae_call (okA__law_composed T) (hr.mono (by decide)) (by rfl) (aa_cons (av 2) (aa_cons ae_int aa_nil))))
        (as_cons (as_par (i := 4) (j := 5) (by rfl) sc_law.nd rfl rfl (by decide) rfl rfl (aa_cons (ae_makeM (okA_Yard___init__ T) (hr.mono (by decide)) (by rfl) (ni_Yard T) (aa_cons (ae_make (dd := []) (asp := aspRead) (ok_Fountain___init___read T) (hr.mono (by decide)) (by rfl) (aa_cons (ae_call (okA__law_written T 112) (hr.mono (by decide)) (by rfl) (aa_cons (av 2) (aa_cons (av 3) aa_nil))) aa_nil) mkA_read) aa_nil)) (aa_cons (ae_call (okA__law_model T) (hr.mono (by decide)) (by rfl) (aa_cons (av 3) aa_nil)) aa_nil)) (by rfl))
        (as_cons (as_if (at_not (at_bl (ae_call (okA__law_stands T) (hr.mono (by decide)) (by rfl) (aa_cons (av 4) (aa_cons (av 5) aa_nil)))))
          (as_one (as_ret ae_bl))
          as_nil)
        (as_cons (as_for PassesOwn.never rfl (ai_rng1 (by rfl) T.n_range (aa_cons (ae_call (okA__law_take T) (hr.mono (by decide)) (by rfl) (aa_cons (av 2) (aa_cons ae_int aa_nil))) aa_nil)) (ag_name (i := 6) sc_law.nd rfl (by first | exact Or.inl rfl | exact Or.inr rfl))
          (as_cons (as_via (as_if (at_cmp (aop_eqG (okF_eq T) (hr.mono (by decide)) hr.units) (ae_call (okA__law_take T) (hr.mono (by decide)) (by rfl) (aa_cons (av 2) (aa_cons ae_int aa_nil))) ae_int (nomark _))
            (as_one (as_if (at_not (at_bl (ae_call (okA__law_alike T 8) (hr.mono (by decide)) (by rfl) (aa_cons (ae_meth0M (K := K) rfl T.o_Yard.c (okA_Yard_undo T) (hr.mono (by decide)) (av 4)) (aa_cons (ae_call (okA__law_undo T) (hr.mono (by decide)) (by rfl) (aa_cons (av 5) aa_nil)) aa_nil)))))
              (as_one (as_ret ae_bl))
              as_nil))
            (as_cons (as_set (i := 7) sc_law.nd rfl (by first | exact Or.inl rfl | exact Or.inr rfl) (ae_call (okA__law_deed T) (hr.mono (by decide)) (by rfl) (aa_cons (av 2) (aa_cons (ae_dget (hu_of hr) (av 5) ae_str (fun _ _ => rfl)) aa_nil))))
            (as_one (as_if (at_not (at_bl (ae_call (okA__law_alike T 8) (hr.mono (by decide)) (by rfl) (aa_cons (ae_call (okA__law_does T) (hr.mono (by decide)) (by rfl) (aa_cons (av 2) (aa_cons (av 4) (aa_cons (av 7) aa_nil)))) (aa_cons (ae_call (okA__law_do T) (hr.mono (by decide)) (by rfl) (aa_cons (av 5) (aa_cons (av 7) aa_nil))) aa_nil)))))
              (as_one (as_ret ae_bl))
              as_nil)))))
          (as_one (as_if (at_cmp (aop_eqG (okF_eq T) (hr.mono (by decide)) hr.units) (ae_call (okA__law_take T) (hr.mono (by decide)) (by rfl) (aa_cons (av 2) (aa_cons ae_int aa_nil))) ae_int (nomark _))
            (as_cons (as_expr (ae_ml PySem.F.plainAttrs_list PySem.F.slot_list_append PySem.F.type_list_append mt_append low_append (ae_meth0M (K := K) rfl T.o_Yard.c (okA_Yard_log T) (hr.mono (by decide)) (av 4)) (aa_cons ae_str aa_nil)))
            (as_one (as_if (at_not (at_bl (ae_call (okA__law_stands T) (hr.mono (by decide)) (by rfl) (aa_cons (av 4) (aa_cons (av 5) aa_nil)))))
              (as_one (as_ret ae_bl))
              as_nil)))
            as_nil))))
        (as_one (as_if (at_not (at_bl (ae_call (okA__law_stands T) (hr.mono (by decide)) (by rfl) (aa_cons (av 4) (aa_cons (av 5) aa_nil)))))
          (as_one (as_ret ae_bl))
          as_nil))))))))
      (as_one (as_ret ae_bl)))
    refine ⟨_, hb, ?_⟩
    refine law_low (c := cA K (some (a, ns))) rfl hlen hS hT (fun H' => k H') ?_
    clear hb
    have hsl := sizeLine_eq
    refine fun n hn => ⟨?_, ?_, ?_⟩
    · split <;> split <;> omega
    · split <;> split <;> omega
    have hm : (if (if (n : Int) < 4 then (n : Int) else 4) > 2 then (if (n : Int) < 4 then (n : Int) else 4) else 2).toNat ≤ 4 := by
      split <;> split <;> omega
    refine loop_map (fun i : Nat => D.int (0 + (i : Nat))) (List.range (if (if (n : Int) < 4 then (n : Int) else 4) > 2 then (if (n : Int) < 4 then (n : Int) else 4) else 2).toNat) (fun _ env _ => ∃ x1 x2 x3 x4 x5 x6 x7 : Option D, env = [some D.scr, x1, x2, x3, x4, x5, x6, x7]) (fun _ _ _ _ => trivial) ?step1 ?fin1 _ _ ⟨_, _, _, _, _, _, _, rfl⟩
    case fin1 =>
      intro env L ⟨x1, x2, x3, x4, x5, x6, x7, ee⟩
      subst ee
      exact ⟨L, SubS.refl L, Eq.refl (D.bl true)⟩
    case step1 =>
      intro pre i rest nn e kn env L ⟨x1, x2, x3, x4, x5, x6, x7, ee⟩
      subst ee
      have hi : i < 4 := by
        have h1 : i ∈ List.range (if (if (n : Int) < 4 then (n : Int) else 4) > 2 then (if (n : Int) < 4 then (n : Int) else 4) else 2).toNat := by rw [e]; simp
        have := List.mem_range.mp h1
        omega
      clear e hm
      refine ⟨by omega, by omega, fun d hd => ⟨sput_same, by decide, by decide, fun t hc hts => ?_⟩⟩
      have hdt := dep_le_size t
      refine ⟨sput_same, t, rfl, by omega, by omega, fun u hu => ?_⟩
      have hu2 : u.canon = t := hu.trans (can_canon t hc)
      have e1 := canon_size u
      have e2 := canon_dep u
      rw [hu2] at e1 e2
      refine ⟨u, rfl, by omega, by omega, ?_⟩
      rw [hu2]
      refine fun y hy => ⟨sput_same, rfl, fun q m hq hm hne => ?_⟩
      rw [sput_sput] at hq hm ⊢
      have st : StY K (sput (sput (sput (sput L d boxM) y (YdM K t [])) q (.lst [])) m (.dct [(.inr "now", .str (tx t)), (.inr "past", .ref q)])) d y m t [] 0 := {
        box := by
          have hm2 : (sput (sput (sput L d boxM) y (YdM K t [])) q (.lst [])) m = none := by rw [sput_ne (Ne.symm hne)]; exact hm
          exact sput_old (sput_old (sput_old sput_same hy) hq) hm2
        yd := by
          have hm2 : (sput (sput (sput L d boxM) y (YdM K t [])) q (.lst [])) m = none := by rw [sput_ne (Ne.symm hne)]; exact hm
          exact sput_old (sput_old sput_same hq) hm2
        mn := ⟨q, sput_same, by rw [sput_ne hne]; exact sput_same⟩
        len := Nat.le_refl _
        can := hc
        sz := by omega
        dp := by omega
        alk := fun x hx => absurd hx List.not_mem_nil
        old := fun x hx => absurd hx List.not_mem_nil }
      generalize sput (sput (sput (sput L d boxM) y (YdM K t [])) q (.lst [])) m (.dct [(.inr "now", .str (tx t)), (.inr "past", .ref q)]) = L1 at st ⊢
      refine ⟨t, [], st.yd, st.mn, by show (0 : Nat) ≤ 1000; decide, st.sz, st.alk, ite_f (A := True) rfl ?_⟩
      refine ⟨st.box, by decide, by decide, fun v v0 v1 => ⟨by omega, by omega, ?_⟩⟩
      have hv : v.toNat ≤ 30 := by omega
      refine loop_map (fun i : Nat => D.int (0 + (i : Nat))) (List.range v.toNat) (fun pre env L => ∃ t' past x6 x7, env = [some D.scr, some (.int (0 + (i : Nat))), some (.ref d), some (.str (tx t)), some (.ref y), some (.ref m), x6, x7] ∧ StY K L d y m t' past pre.length) (fun _ _ _ _ => trivial) ?step2 ?fin2 _ _ ⟨t, [], _, _, rfl, st⟩
      case fin2 =>
        rintro env L ⟨t', past, x6, x7, rfl, st⟩
        have := st.len
        rw [List.length_range] at this
        exact ⟨t', past, st.yd, st.mn, by omega, st.sz, st.alk, ite_f (A := True) rfl (kn _ _ ⟨_, _, _, _, _, _, _, rfl⟩)⟩
      case step2 =>
        rintro pre2 j rest2 n2 ee kn2 env L ⟨t', past, x6, x7, rfl, st⟩
        have hlp : pre2.length < v.toNat := by
          have := congrArg List.length ee
          rw [List.length_range, List.length_append, List.length_cons] at this
          omega
        clear ee
        refine ⟨fun env' L' => ∃ t' past' x7', env' = [some D.scr, some (.int (0 + (i : Nat))), some (.ref d), some (.str (tx t)), some (.ref y), some (.ref m), some (.int (0 + (j : Nat))), x7'] ∧ StY K L' d y m t' past' (pre2.length + 1), ?_, ?_⟩
        rotate_left
        · rintro env' L' ⟨t', past', x7', rfl, st'⟩
          have hl1 := st'.len
          have hll : (logY past').length = past'.length := List.length_map _
          refine ⟨st'.box, by decide, by decide, fun w w0 w1 => ite2 (fun _ => ?_) (fun _ => kn2 _ _ ⟨t', past', _, _, rfl, by rw [List.length_append]; exact st'⟩)⟩
          refine ⟨⟨_, _, st'.yd, by decide⟩, t', _, st'.yd, by omega, fun r hr => ⟨⟨r, _, rfl, sput_same⟩, _, sput_same, by rw [List.length_map]; omega, ?_⟩⟩
          have st2 := st'.sub (((SubS.refl L').new (m := .lst ((logY past').map (·.1))) hr).put (m := .lst ((logY past').map (·.1) ++ [.str "x"])) hr)
          exact ⟨t', past', st2.yd, st2.mn, by omega, st2.sz, st2.alk, ite_f (A := True) rfl (kn2 _ _ ⟨t', past', _, _, rfl, by rw [List.length_append]; exact st2⟩)⟩
        have hl0 := st.len
        have hll : (logY past).length = past.length := List.length_map _
        obtain ⟨dm, ym, dy⟩ := st.ne
        refine ⟨st.box, by decide, by decide, fun w w0 w1 => ite2 (fun _ => ?_) (fun _ => ?_)⟩
        · refine ⟨⟨_, _, st.yd, by decide⟩, t', _, st.yd, by omega, fun e0 => ?_, fun init0 d0 u0 e0 => ?_⟩
          · have ep : past = [] := List.map_eq_nil_iff.mp e0
            subst ep
            exact ⟨t', [], st.mn, fun _ => ⟨.inl ⟨rfl, rfl, by decide, by decide⟩, ite_f (A := True) rfl ⟨t', [], _, rfl, st.mono (Nat.le_succ _)⟩⟩, fun init e u h => absurd h (by simp)⟩
          · have hne : past ≠ [] := fun z => by
              rw [z] at e0
              exact absurd e0 (by simp [logY])
            obtain ⟨init, ⟨e, u⟩, rfl⟩ : ∃ i x, past = i ++ [x] := ⟨_, _, (List.dropLast_concat_getLast hne).symm⟩
            have el : logY (init ++ [(e, u)]) = logY init ++ [(deedD e, u)] := List.map_append
            rw [el] at e0
            obtain ⟨h1, h2⟩ := List.append_inj' e0 rfl
            obtain ⟨rfl, rfl⟩ := Prod.mk.inj (List.singleton_inj.mp h2)
            subst h1
            refine ⟨t', _, st.mn.yd st.yd _, fun h => absurd h (by simp), fun init' e' u' h L' kb mine => ?_⟩
            obtain ⟨h3, h4⟩ := List.append_inj' h rfl
            obtain ⟨rfl, rfl⟩ := Prod.mk.inj (List.singleton_inj.mp h4)
            subst h3
            have ho := st.old (e, u) (by simp)
            refine ⟨.inl ⟨rfl, rfl, by decide, by decide⟩, ite_f (A := True) rfl ⟨u, init, _, rfl, ?_⟩⟩
            exact ⟨kb _ _ dm (by rw [sput_ne dy]; exact st.box), kb _ _ ym sput_same, mine, by rw [List.length_append] at hl0; omega, ho.1, ho.2.1, ho.2.2, fun x hx => st.alk x (List.mem_append_left _ hx), fun x hx => st.old x (List.mem_append_left _ hx)⟩
        · obtain ⟨q, hm, hq⟩ := st.mn
          refine ⟨m, _, _, _, rfl, rfl, hm, now_val, st.box, t', rfl, st.can, st.sz, st.dp, fun e he hs => ?_⟩
          have hok := nxt_sm st.can he hs
          have ha := nxt_alk he
          refine ⟨t', logY past, e, st.box, rfl, st.yd, by omega, st.can, he, fun hn => ?_, fun u hu => ?_⟩
          · refine ⟨t', past, e, rfl, st.mn, by omega, st.can, he, fun _ => ?_, fun u h => by rw [hn] at h; cases h⟩
            exact ⟨.inl ⟨rfl, ha.1, by omega, by omega⟩, ite_f (A := True) rfl ⟨t', past, _, rfl, st.mono (Nat.le_succ _)⟩⟩
          · refine ⟨t', past, e, rfl, st.mn.yd st.yd _, by omega, st.can, he, ?_, fun u2 hu2 L' kb mine => ?_⟩
            · intro h
              rw [hu] at h
              cases h
            rw [hu] at hu2
            obtain rfl := Option.some.inj hu2
            have hk := hok u hu
            refine ⟨.inl ⟨rfl, ha.1, by omega, by omega⟩, ite_f (A := True) rfl ⟨u, past ++ [(e, t')], _, rfl, ?_⟩⟩
            have el : logY (past ++ [(e, t')]) = logY past ++ [(deedD e, t')] := List.map_append
            refine ⟨kb _ _ dm (by rw [sput_ne dy]; exact st.box), by rw [el]; exact kb _ _ ym sput_same, mine, by rw [List.length_append]; show past.length + 1 ≤ _; omega, hk.1, hk.2.1, hk.2.2, fun x hx => ?_, fun x hx => ?_⟩
            · rcases List.mem_append.mp hx with z | z
              · exact st.alk x z
              · rw [List.mem_singleton.mp z]
                exact alk_deed he
            · rcases List.mem_append.mp hx with z | z
              · exact st.old x z
              · rw [List.mem_singleton.mp z]
                exact ⟨st.can, st.sz, st.dp⟩
end
theorem txt_of {K : PySem.W.Frag} {h h0 base : Heap} {mg : Str → Option Value} (X : K.In h) (G : h.Ns mainGlobals mg) (c : SaysE fa fn tf ex fx h0 K) (TB : ∀ p ∈ tf.map (cT K), LamX.TabB base mg p.1 p.2) : Txt K mg base where
  cls := clsF_of (glo_ok X G (c.d.fact 0 (f := .glo "Fountain") rfl)) (cls_ok (c.d.fact 1 (f := .cls "Fountain") rfl)) (noat_ok (c.d.fact 2 (f := .noat "Fountain" "written") rfl)) (noat_ok (c.d.fact 3 (f := .noat "Fountain" "branches") rfl)) (noat_ok (c.d.fact 4 (f := .noat "Fountain" "numbers") rfl)) (exs c).1
  o_Yard := clsO_of (glo_ok X G (c.d.fact 5 (f := .glo "Yard") rfl)) (cls_ok (c.d.fact 6 (f := .cls "Yard") rfl)) (of_decide_eq_true (all_at (ba c.more).1 1 (a := fun K : PySem.W.Frag => decide (clsX K "Yard" = true)) rfl))
  na_Yard_state := noat_ok (c.d.fact 7 (f := .noat "Yard" "state") rfl)
  gMOST := int_ok X G (c.d.fact 8 (f := .int "MOST" 5000) rfl)
  gDEEPEST := int_ok X G (c.d.fact 9 (f := .int "DEEPEST" 120) rfl)
  gJET_TEXT := str_ok X G (c.d.fact 10 (f := .str "JET_TEXT" "o") rfl)
  e_Closed := by
    obtain ⟨fd, F⟩ := c.d.def_ 0 (d := dfn "Closed" (some "__init__") "__init__" "Closed.__init__" s_Closed___init__ [] []) rfl
    exact ⟨glo_ok X G (c.d.fact 11 (f := .glo "Closed") rfl), (errB_ok (all_at (exs c).2.2.2.1 0 (a := "Closed") rfl)).1, _, fd, (errB_ok (all_at (exs c).2.2.2.1 0 (a := "Closed") rfl)).2.1, (errB_ok (all_at (exs c).2.2.2.1 0 (a := "Closed") rfl)).2.2, F, F.bindsN fun _ _ _ _ _ _ us hl => match us, hl with | [_], _ => rfl⟩
  e_TooLarge := by
    obtain ⟨fd, F⟩ := c.d.def_ 1 (d := dfn "TooLarge" (some "__init__") "__init__" "TooLarge.__init__" s_TooLarge___init__ [] []) rfl
    exact ⟨glo_ok X G (c.d.fact 12 (f := .glo "TooLarge") rfl), (errB_ok (all_at (exs c).2.2.2.1 1 (a := "TooLarge") rfl)).1, _, fd, (errB_ok (all_at (exs c).2.2.2.1 1 (a := "TooLarge") rfl)).2.1, (errB_ok (all_at (exs c).2.2.2.1 1 (a := "TooLarge") rfl)).2.2, F, F.bindsN fun _ _ _ _ _ _ us hl => match us, hl with | [_, _], _ => rfl⟩
  na_TooLarge := noat_ok (c.d.fact 13 (f := .noat "TooLarge" "pieces") rfl)
  e_TooDeep := by
    obtain ⟨fd, F⟩ := c.d.def_ 2 (d := dfn "TooDeep" (some "__init__") "__init__" "TooDeep.__init__" s_TooDeep___init__ [] []) rfl
    exact ⟨glo_ok X G (c.d.fact 14 (f := .glo "TooDeep") rfl), (errB_ok (all_at (exs c).2.2.2.1 2 (a := "TooDeep") rfl)).1, _, fd, (errB_ok (all_at (exs c).2.2.2.1 2 (a := "TooDeep") rfl)).2.1, (errB_ok (all_at (exs c).2.2.2.1 2 (a := "TooDeep") rfl)).2.2, F, F.bindsN fun _ _ _ _ _ _ us hl => match us, hl with | [_, _], _ => rfl⟩
  na_TooDeep := noat_ok (c.d.fact 15 (f := .noat "TooDeep" "basins") rfl)
  e_Nested := by
    obtain ⟨fd, F⟩ := c.d.def_ 3 (d := dfn "Nested" (some "__init__") "__init__" "Nested.__init__" s_Nested___init__ [] []) rfl
    exact ⟨glo_ok X G (c.d.fact 16 (f := .glo "Nested") rfl), (errB_ok (all_at (exs c).2.2.2.1 3 (a := "Nested") rfl)).1, _, fd, (errB_ok (all_at (exs c).2.2.2.1 3 (a := "Nested") rfl)).2.1, (errB_ok (all_at (exs c).2.2.2.1 3 (a := "Nested") rfl)).2.2, F, F.bindsN fun _ _ _ _ _ _ us hl => match us, hl with | [_], _ => rfl⟩
  e_NoQuotient := by
    obtain ⟨fd, F⟩ := c.d.def_ 4 (d := dfn "NoQuotient" (some "__init__") "__init__" "NoQuotient.__init__" s_NoQuotient___init__ [] []) rfl
    exact ⟨glo_ok X G (c.d.fact 17 (f := .glo "NoQuotient") rfl), (errB_ok (all_at (exs c).2.2.2.1 4 (a := "NoQuotient") rfl)).1, _, fd, (errB_ok (all_at (exs c).2.2.2.1 4 (a := "NoQuotient") rfl)).2.1, (errB_ok (all_at (exs c).2.2.2.1 4 (a := "NoQuotient") rfl)).2.2, F, F.bindsN fun _ _ _ _ _ _ us hl => match us, hl with | [_, _], _ => rfl⟩
  na_NoQuotient := noat_ok (c.d.fact 18 (f := .noat "NoQuotient" "place") rfl)
  d_check_numbers := by
    obtain ⟨fd, F⟩ := c.d.def_ 5 (d := dfn "check_numbers" none "check_numbers" "check_numbers" s_check_numbers [] []) rfl
    exact ⟨_, fd, glo_ok X G (c.d.fact 19 (f := .glo "check_numbers") rfl), F, F.bindsN fun _ _ _ _ _ _ us hl => match us, hl with | [_], _ => rfl⟩
  d_basin_numbers := by
    obtain ⟨fd, F⟩ := c.d.def_ 6 (d := dfn "basin_numbers" none "basin_numbers" "basin_numbers" s_basin_numbers [] []) rfl
    exact ⟨_, fd, glo_ok X G (c.d.fact 20 (f := .glo "basin_numbers") rfl), F, F.bindsN fun _ _ _ _ _ _ us hl => match us, hl with | [_], _ => rfl⟩
  d_product_numbers := by
    obtain ⟨fd, F⟩ := c.d.def_ 7 (d := dfn "product_numbers" none "product_numbers" "product_numbers" s_product_numbers [] []) rfl
    exact ⟨_, fd, glo_ok X G (c.d.fact 21 (f := .glo "product_numbers") rfl), F, F.bindsN fun _ _ _ _ _ _ us hl => match us, hl with | [_, _], _ => rfl⟩
  d_parsed := by
    obtain ⟨fd, F⟩ := c.d.def_ 8 (d := dfn "parsed" none "parsed" "parsed" s_parsed [] []) rfl
    exact ⟨_, fd, glo_ok X G (c.d.fact 22 (f := .glo "parsed") rfl), F, F.bindsN fun _ _ _ _ _ _ us hl => match us, hl with | [_], _ => rfl⟩
  d_made := by
    obtain ⟨fd, F⟩ := c.d.def_ 9 (d := dfn "made" none "made" "made" s_made [] []) rfl
    exact ⟨glo_ok X G (c.d.fact 23 (f := .glo "made") rfl), fd, F, F.bindsN fun _ _ _ _ _ _ us hl => match us, hl with | [_], _ => rfl⟩
  tb_made := TB _ (List.mem_map.mpr ⟨("made", none), List.mem_of_getElem? (i := 0) rfl, rfl⟩)
  d_allowed := by
    obtain ⟨fd, F⟩ := c.d.def_ 10 (d := dfn "allowed" none "allowed" "allowed" s_allowed [] []) rfl
    exact ⟨_, fd, glo_ok X G (c.d.fact 24 (f := .glo "allowed") rfl), F, F.bindsN fun _ _ _ _ _ _ us hl => match us, hl with | [_], _ => rfl⟩
  d_grafted := by
    obtain ⟨fd, F⟩ := c.d.def_ 11 (d := dfn "grafted" none "grafted" "grafted" s_grafted [] []) rfl
    exact ⟨_, fd, glo_ok X G (c.d.fact 25 (f := .glo "grafted") rfl), F, F.bindsN fun _ _ _ _ _ _ us hl => match us, hl with | [_, _], _ => rfl⟩
  d_cut := by
    obtain ⟨fd, F⟩ := c.d.def_ 12 (d := dfn "cut" none "cut" "cut" s_cut [] []) rfl
    exact ⟨_, fd, glo_ok X G (c.d.fact 26 (f := .glo "cut") rfl), F, F.bindsN fun _ _ _ _ _ _ us hl => match us, hl with | [_, _], _ => rfl⟩
  d_bare_place := by
    obtain ⟨fd, F⟩ := c.d.def_ 13 (d := dfn "bare_place" none "bare_place" "bare_place" s_bare_place [] []) rfl
    exact ⟨_, fd, glo_ok X G (c.d.fact 27 (f := .glo "bare_place") rfl), F, F.bindsN fun _ _ _ _ _ _ us hl => match us, hl with | [_, _, _], _ => rfl⟩
  d_carries := by
    obtain ⟨fd, F⟩ := c.d.def_ 14 (d := dfn "carries" none "carries" "carries" s_carries [] []) rfl
    exact ⟨_, fd, glo_ok X G (c.d.fact 28 (f := .glo "carries") rfl), F, F.bindsN fun _ _ _ _ _ _ us hl => match us, hl with | [_, _], _ => rfl⟩
  d_replaced := by
    obtain ⟨fd, F⟩ := c.d.def_ 15 (d := dfn "replaced" none "replaced" "replaced" s_replaced [] []) rfl
    exact ⟨_, fd, glo_ok X G (c.d.fact 29 (f := .glo "replaced") rfl), F, F.bindsN fun _ _ _ _ _ _ us hl => match us, hl with | [_, _, _], _ => rfl⟩
  d_multiplied := by
    obtain ⟨fd, F⟩ := c.d.def_ 16 (d := dfn "multiplied" none "multiplied" "multiplied" s_multiplied [] []) rfl
    exact ⟨_, fd, glo_ok X G (c.d.fact 30 (f := .glo "multiplied") rfl), F, F.bindsN fun _ _ _ _ _ _ us hl => match us, hl with | [_], _ => rfl⟩
  init := by
    obtain ⟨fd, F⟩ := c.d.def_ 17 (d := dfn "Fountain" (some "__init__") "__init__" "Fountain.__init__" s_Fountain___init__ [.non] []) rfl
    refine ⟨_, fd, glo_ok X G (c.d.fact 0 (f := .glo "Fountain") rfl), mkr_ok (c.d.fact 31 (f := .mkr "Fountain") rfl), F, fun j hj => ?_⟩
    have e : j = 0 ∨ j = 1 := by
      have h : j ≤ 1 := hj
      omega
    rcases e with rfl | rfl
    · exact F.binds1 2 0 (List.cons_ne_nil _ _) rfl fun _ _ _ _ _ _ _ us its l1 l2 => match us, its, l1, l2 with | [_, _], [_], _, _ => ⟨_, rfl, rfl⟩
    · exact F.binds1 3 1 (List.cons_ne_nil _ _) rfl fun T kV doc pm an cdv ct us its l1 l2 => match us, its, l1, l2 with | [_, _, _], [_], _, _ => ⟨_, rfl, rfl⟩
  c_basin := by
    obtain ⟨fd, F⟩ := c.fxAt 0 (d := ⟨fun K => cgAd K ("Fountain", "basin"), "basin", "Fountain.basin", defArgs s_Fountain_basin, defBody s_Fountain_basin, defScope s_Fountain_basin⟩) rfl
    exact ⟨_, _, _, fd, (cmB_ok (all_at (exs c).2.2.1 0 (a := ("Fountain", "basin")) rfl)).1, (cmB_ok (all_at (exs c).2.2.1 0 (a := ("Fountain", "basin")) rfl)).2, F, F.bindsN fun _ _ _ _ _ _ us hl => match us, hl with | [_, _], _ => rfl⟩
  c_spray := by
    obtain ⟨fd, F⟩ := c.fxAt 1 (d := ⟨fun K => cgAd K ("Fountain", "spray"), "spray", "Fountain.spray", defArgs s_Fountain_spray, defBody s_Fountain_spray, defScope s_Fountain_spray⟩) rfl
    exact ⟨_, _, _, fd, (cmB_ok (all_at (exs c).2.2.1 1 (a := ("Fountain", "spray")) rfl)).1, (cmB_ok (all_at (exs c).2.2.1 1 (a := ("Fountain", "spray")) rfl)).2, F, F.bindsN fun _ _ _ _ _ _ us hl => match us, hl with | [_, _], _ => rfl⟩
  c_product := by
    obtain ⟨fd, F⟩ := c.fxAt 2 (d := ⟨fun K => cgAd K ("Fountain", "product"), "product", "Fountain.product", defArgs s_Fountain_product, defBody s_Fountain_product, defScope s_Fountain_product⟩) rfl
    exact ⟨_, _, _, fd, (cmB_ok (all_at (exs c).2.2.1 2 (a := ("Fountain", "product")) rfl)).1, (cmB_ok (all_at (exs c).2.2.1 2 (a := ("Fountain", "product")) rfl)).2, F, F.bindsN fun _ _ _ _ _ _ us hl => match us, hl with | [_, _], _ => rfl⟩
  p_text := by
    obtain ⟨fd, F⟩ := c.fxAt 3 (d := ⟨fun K => gAd K ("Fountain", "text"), "text", "Fountain.text", defArgs s_Fountain_text, defBody s_Fountain_text, defScope s_Fountain_text⟩) rfl
    exact ⟨_, _, fd, (propB_ok (all_at (exs c).2.1 0 (a := ("Fountain", "text")) rfl)), F, F.bindsN fun _ _ _ _ _ _ us hl => match us, hl with | [_], _ => rfl⟩
  p_parts := by
    obtain ⟨fd, F⟩ := c.fxAt 4 (d := ⟨fun K => gAd K ("Fountain", "parts"), "parts", "Fountain.parts", defArgs s_Fountain_parts, defBody s_Fountain_parts, defScope s_Fountain_parts⟩) rfl
    exact ⟨_, _, fd, (propB_ok (all_at (exs c).2.1 1 (a := ("Fountain", "parts")) rfl)), F, F.bindsN fun _ _ _ _ _ _ us hl => match us, hl with | [_], _ => rfl⟩
  p_size := by
    obtain ⟨fd, F⟩ := c.fxAt 5 (d := ⟨fun K => gAd K ("Fountain", "size"), "size", "Fountain.size", defArgs s_Fountain_size, defBody s_Fountain_size, defScope s_Fountain_size⟩) rfl
    exact ⟨_, _, fd, (propB_ok (all_at (exs c).2.1 2 (a := ("Fountain", "size")) rfl)), F, F.bindsN fun _ _ _ _ _ _ us hl => match us, hl with | [_], _ => rfl⟩
  p_jets := by
    obtain ⟨fd, F⟩ := c.fxAt 6 (d := ⟨fun K => gAd K ("Fountain", "jets"), "jets", "Fountain.jets", defArgs s_Fountain_jets, defBody s_Fountain_jets, defScope s_Fountain_jets⟩) rfl
    exact ⟨_, _, fd, (propB_ok (all_at (exs c).2.1 3 (a := ("Fountain", "jets")) rfl)), F, F.bindsN fun _ _ _ _ _ _ us hl => match us, hl with | [_], _ => rfl⟩
  p_depth := by
    obtain ⟨fd, F⟩ := c.fxAt 7 (d := ⟨fun K => gAd K ("Fountain", "depth"), "depth", "Fountain.depth", defArgs s_Fountain_depth, defBody s_Fountain_depth, defScope s_Fountain_depth⟩) rfl
    exact ⟨_, _, fd, (propB_ok (all_at (exs c).2.1 4 (a := ("Fountain", "depth")) rfl)), F, F.bindsN fun _ _ _ _ _ _ us hl => match us, hl with | [_], _ => rfl⟩
  p_longest := by
    obtain ⟨fd, F⟩ := c.fxAt 8 (d := ⟨fun K => gAd K ("Fountain", "longest"), "longest", "Fountain.longest", defArgs s_Fountain_longest, defBody s_Fountain_longest, defScope s_Fountain_longest⟩) rfl
    exact ⟨_, _, fd, (propB_ok (all_at (exs c).2.1 5 (a := ("Fountain", "longest")) rfl)), F, F.bindsN fun _ _ _ _ _ _ us hl => match us, hl with | [_], _ => rfl⟩
  p_shortest := by
    obtain ⟨fd, F⟩ := c.fxAt 9 (d := ⟨fun K => gAd K ("Fountain", "shortest"), "shortest", "Fountain.shortest", defArgs s_Fountain_shortest, defBody s_Fountain_shortest, defScope s_Fountain_shortest⟩) rfl
    exact ⟨_, _, fd, (propB_ok (all_at (exs c).2.1 6 (a := ("Fountain", "shortest")) rfl)), F, F.bindsN fun _ _ _ _ _ _ us hl => match us, hl with | [_], _ => rfl⟩
  p_is_open := by
    obtain ⟨fd, F⟩ := c.fxAt 10 (d := ⟨fun K => gAd K ("Fountain", "is_open"), "is_open", "Fountain.is_open", defArgs s_Fountain_is_open, defBody s_Fountain_is_open, defScope s_Fountain_is_open⟩) rfl
    exact ⟨_, _, fd, (propB_ok (all_at (exs c).2.1 7 (a := ("Fountain", "is_open")) rfl)), F, F.bindsN fun _ _ _ _ _ _ us hl => match us, hl with | [_], _ => rfl⟩
  p_is_jet := by
    obtain ⟨fd, F⟩ := c.fxAt 11 (d := ⟨fun K => gAd K ("Fountain", "is_jet"), "is_jet", "Fountain.is_jet", defArgs s_Fountain_is_jet, defBody s_Fountain_is_jet, defScope s_Fountain_is_jet⟩) rfl
    exact ⟨_, _, fd, (propB_ok (all_at (exs c).2.1 8 (a := ("Fountain", "is_jet")) rfl)), F, F.bindsN fun _ _ _ _ _ _ us hl => match us, hl with | [_], _ => rfl⟩
  m___eq__ := by
    obtain ⟨fd, F⟩ := c.d.def_ 18 (d := dfn "Fountain" (some "__eq__") "__eq__" "Fountain.__eq__" s_Fountain___eq__ [] []) rfl
    exact ⟨_, fd, meth_ok (c.d.fact 32 (f := .meth "Fountain" "__eq__") rfl), F, F.bindsN fun _ _ _ _ _ _ us hl => match us, hl with | [_, _], _ => rfl⟩
  m___repr__ := by
    obtain ⟨fd, F⟩ := c.d.def_ 19 (d := dfn "Fountain" (some "__repr__") "__repr__" "Fountain.__repr__" s_Fountain___repr__ [] []) rfl
    exact ⟨_, fd, meth_ok (c.d.fact 33 (f := .meth "Fountain" "__repr__") rfl), F, F.bindsN fun _ _ _ _ _ _ us hl => match us, hl with | [_], _ => rfl⟩
  m___len__ := by
    obtain ⟨fd, F⟩ := c.d.def_ 20 (d := dfn "Fountain" (some "__len__") "__len__" "Fountain.__len__" s_Fountain___len__ [] []) rfl
    exact ⟨_, fd, meth_ok (c.d.fact 34 (f := .meth "Fountain" "__len__") rfl), F, F.bindsN fun _ _ _ _ _ _ us hl => match us, hl with | [_], _ => rfl⟩
  m___getitem__ := by
    obtain ⟨fd, F⟩ := c.d.def_ 21 (d := dfn "Fountain" (some "__getitem__") "__getitem__" "Fountain.__getitem__" s_Fountain___getitem__ [] []) rfl
    exact ⟨_, fd, meth_ok (c.d.fact 35 (f := .meth "Fountain" "__getitem__") rfl), F, F.bindsN fun _ _ _ _ _ _ us hl => match us, hl with | [_, _], _ => rfl⟩
  m___contains__ := by
    obtain ⟨fd, F⟩ := c.d.def_ 22 (d := dfn "Fountain" (some "__contains__") "__contains__" "Fountain.__contains__" s_Fountain___contains__ [] []) rfl
    exact ⟨_, fd, meth_ok (c.d.fact 36 (f := .meth "Fountain" "__contains__") rfl), F, F.bindsN fun _ _ _ _ _ _ us hl => match us, hl with | [_, _], _ => rfl⟩
  m___add__ := by
    obtain ⟨fd, F⟩ := c.d.def_ 23 (d := dfn "Fountain" (some "__add__") "__add__" "Fountain.__add__" s_Fountain___add__ [] []) rfl
    exact ⟨_, fd, meth_ok (c.d.fact 37 (f := .meth "Fountain" "__add__") rfl), F, F.bindsN fun _ _ _ _ _ _ us hl => match us, hl with | [_, _], _ => rfl⟩
  m___sub__ := by
    obtain ⟨fd, F⟩ := c.d.def_ 24 (d := dfn "Fountain" (some "__sub__") "__sub__" "Fountain.__sub__" s_Fountain___sub__ [] []) rfl
    exact ⟨_, fd, meth_ok (c.d.fact 38 (f := .meth "Fountain" "__sub__") rfl), F, F.bindsN fun _ _ _ _ _ _ us hl => match us, hl with | [_, _], _ => rfl⟩
  m___mul__ := by
    obtain ⟨fd, F⟩ := c.d.def_ 25 (d := dfn "Fountain" (some "__mul__") "__mul__" "Fountain.__mul__" s_Fountain___mul__ [] []) rfl
    exact ⟨_, fd, meth_ok (c.d.fact 39 (f := .meth "Fountain" "__mul__") rfl), F, F.bindsN fun _ _ _ _ _ _ us hl => match us, hl with | [_, _], _ => rfl⟩
  m___floordiv__ := by
    obtain ⟨fd, F⟩ := c.d.def_ 26 (d := dfn "Fountain" (some "__floordiv__") "__floordiv__" "Fountain.__floordiv__" s_Fountain___floordiv__ [] []) rfl
    exact ⟨_, fd, meth_ok (c.d.fact 40 (f := .meth "Fountain" "__floordiv__") rfl), F, F.bindsN fun _ _ _ _ _ _ us hl => match us, hl with | [_, _], _ => rfl⟩
  m_at := by
    obtain ⟨fd, F⟩ := c.d.def_ 27 (d := dfn "Fountain" (some "at") "at" "Fountain.at" s_Fountain_at [] []) rfl
    exact ⟨_, fd, meth_ok (c.d.fact 41 (f := .meth "Fountain" "at") rfl), F, F.bindsN fun _ _ _ _ _ _ us hl => match us, hl with | [_, _], _ => rfl⟩
  m_put := by
    obtain ⟨fd, F⟩ := c.d.def_ 28 (d := dfn "Fountain" (some "put") "put" "Fountain.put" s_Fountain_put [] []) rfl
    exact ⟨_, fd, meth_ok (c.d.fact 42 (f := .meth "Fountain" "put") rfl), F, F.bindsN fun _ _ _ _ _ _ us hl => match us, hl with | [_, _, _], _ => rfl⟩
  d_placed := by
    obtain ⟨fd, F⟩ := c.d.def_ 29 (d := dfn "placed" none "placed" "placed" s_placed [] []) rfl
    exact ⟨_, fd, glo_ok X G (c.d.fact 43 (f := .glo "placed") rfl), F, F.bindsN fun _ _ _ _ _ _ us hl => match us, hl with | [_, _], _ => rfl⟩
  init_Yard := by
    obtain ⟨fd, F⟩ := c.d.def_ 30 (d := dfn "Yard" (some "__init__") "__init__" "Yard.__init__" s_Yard___init__ [] []) rfl
    refine ⟨_, fd, glo_ok X G (c.d.fact 5 (f := .glo "Yard") rfl), mkr_ok (c.d.fact 44 (f := .mkr "Yard") rfl), F, fun j hj => ?_⟩
    have e : j = 0 := Nat.le_zero.mp hj
    subst e
    exact ⟨[], .nil, F.bindsN fun _ _ _ _ _ _ us hl => match us, hl with | [_, _], _ => rfl⟩
  p_Yard_now := by
    obtain ⟨fd, F⟩ := c.fxAt 12 (d := ⟨fun K => gAd K ("Yard", "now"), "now", "Yard.now", defArgs s_Yard_now, defBody s_Yard_now, defScope s_Yard_now⟩) rfl
    exact ⟨_, _, fd, (propB_ok (all_at (exs c).2.1 9 (a := ("Yard", "now")) rfl)), F, F.bindsN fun _ _ _ _ _ _ us hl => match us, hl with | [_], _ => rfl⟩
  m_Yard___len__ := by
    obtain ⟨fd, F⟩ := c.d.def_ 31 (d := dfn "Yard" (some "__len__") "__len__" "Yard.__len__" s_Yard___len__ [] []) rfl
    exact ⟨_, fd, meth_ok (c.d.fact 45 (f := .meth "Yard" "__len__") rfl), F, F.bindsN fun _ _ _ _ _ _ us hl => match us, hl with | [_], _ => rfl⟩
  m_Yard___eq__ := by
    obtain ⟨fd, F⟩ := c.d.def_ 32 (d := dfn "Yard" (some "__eq__") "__eq__" "Yard.__eq__" s_Yard___eq__ [] []) rfl
    exact ⟨_, fd, meth_ok (c.d.fact 46 (f := .meth "Yard" "__eq__") rfl), F, F.bindsN fun _ _ _ _ _ _ us hl => match us, hl with | [_, _], _ => rfl⟩
  m_Yard_check := by
    obtain ⟨fd, F⟩ := c.d.def_ 33 (d := dfn "Yard" (some "check") "check" "Yard.check" s_Yard_check [] []) rfl
    exact ⟨_, fd, meth_ok (c.d.fact 47 (f := .meth "Yard" "check") rfl), F, F.bindsN fun _ _ _ _ _ _ us hl => match us, hl with | [_, _], _ => rfl⟩
  m_Yard_hold := by
    obtain ⟨fd, F⟩ := c.d.def_ 34 (d := dfn "Yard" (some "hold") "hold" "Yard.hold" s_Yard_hold [] []) rfl
    exact ⟨_, fd, meth_ok (c.d.fact 48 (f := .meth "Yard" "hold") rfl), F, F.bindsN fun _ _ _ _ _ _ us hl => match us, hl with | [_, _, _], _ => rfl⟩
  m_Yard_put := by
    obtain ⟨fd, F⟩ := c.d.def_ 35 (d := dfn "Yard" (some "put") "put" "Yard.put" s_Yard_put [] []) rfl
    exact ⟨_, fd, meth_ok (c.d.fact 49 (f := .meth "Yard" "put") rfl), F, F.bindsN fun _ _ _ _ _ _ us hl => match us, hl with | [_, _, _], _ => rfl⟩
  m_Yard_exchange := by
    obtain ⟨fd, F⟩ := c.d.def_ 36 (d := dfn "Yard" (some "exchange") "exchange" "Yard.exchange" s_Yard_exchange [] []) rfl
    exact ⟨_, fd, meth_ok (c.d.fact 50 (f := .meth "Yard" "exchange") rfl), F, F.bindsN fun _ _ _ _ _ _ us hl => match us, hl with | [_, _, _], _ => rfl⟩
  m_Yard_grow := by
    obtain ⟨fd, F⟩ := c.d.def_ 37 (d := dfn "Yard" (some "grow") "grow" "Yard.grow" s_Yard_grow [] []) rfl
    exact ⟨_, fd, meth_ok (c.d.fact 51 (f := .meth "Yard" "grow") rfl), F, F.bindsN fun _ _ _ _ _ _ us hl => match us, hl with | [_, _], _ => rfl⟩
  m_Yard_trim := by
    obtain ⟨fd, F⟩ := c.d.def_ 38 (d := dfn "Yard" (some "trim") "trim" "Yard.trim" s_Yard_trim [] []) rfl
    exact ⟨_, fd, meth_ok (c.d.fact 52 (f := .meth "Yard" "trim") rfl), F, F.bindsN fun _ _ _ _ _ _ us hl => match us, hl with | [_, _], _ => rfl⟩
  m_Yard_undo := by
    obtain ⟨fd, F⟩ := c.d.def_ 39 (d := dfn "Yard" (some "undo") "undo" "Yard.undo" s_Yard_undo [] []) rfl
    exact ⟨_, fd, meth_ok (c.d.fact 53 (f := .meth "Yard" "undo") rfl), F, F.bindsN fun _ _ _ _ _ _ us hl => match us, hl with | [_], _ => rfl⟩
  m_Yard_log := by
    obtain ⟨fd, F⟩ := c.d.def_ 40 (d := dfn "Yard" (some "log") "log" "Yard.log" s_Yard_log [] []) rfl
    exact ⟨_, fd, meth_ok (c.d.fact 54 (f := .meth "Yard" "log") rfl), F, F.bindsN fun _ _ _ _ _ _ us hl => match us, hl with | [_], _ => rfl⟩
  m_Yard_copied := by
    obtain ⟨fd, F⟩ := c.d.def_ 41 (d := dfn "Yard" (some "copied") "copied" "Yard.copied" s_Yard_copied [] []) rfl
    exact ⟨_, fd, meth_ok (c.d.fact 55 (f := .meth "Yard" "copied") rfl), F, F.bindsN fun _ _ _ _ _ _ us hl => match us, hl with | [_], _ => rfl⟩
  d__law_box := by
    obtain ⟨fd, F⟩ := c.d.def_ 42 (d := dfn "_law_box" none "_law_box" "_law_box" s__law_box [] []) rfl
    exact ⟨_, fd, glo_ok X G (c.d.fact 56 (f := .glo "_law_box") rfl), F, F.bindsN fun _ _ _ _ _ _ us hl => match us, hl with | [_, _], _ => rfl⟩
  d__law_take := by
    obtain ⟨fd, F⟩ := c.d.def_ 43 (d := dfn "_law_take" none "_law_take" "_law_take" s__law_take [] []) rfl
    exact ⟨_, fd, glo_ok X G (c.d.fact 57 (f := .glo "_law_take") rfl), F, F.bindsN fun _ _ _ _ _ _ us hl => match us, hl with | [_, _], _ => rfl⟩
  d__law_pick := by
    obtain ⟨fd, F⟩ := c.d.def_ 44 (d := dfn "_law_pick" none "_law_pick" "_law_pick" s__law_pick [] []) rfl
    exact ⟨_, fd, glo_ok X G (c.d.fact 58 (f := .glo "_law_pick") rfl), F, F.bindsN fun _ _ _ _ _ _ us hl => match us, hl with | [_, _], _ => rfl⟩
  d__law_parts := by
    obtain ⟨fd, F⟩ := c.d.def_ 45 (d := dfn "_law_parts" none "_law_parts" "_law_parts" s__law_parts [] []) rfl
    exact ⟨_, fd, glo_ok X G (c.d.fact 59 (f := .glo "_law_parts") rfl), F, F.bindsN fun _ _ _ _ _ _ us hl => match us, hl with | [_], _ => rfl⟩
  d__law_basin := by
    obtain ⟨fd, F⟩ := c.d.def_ 46 (d := dfn "_law_basin" none "_law_basin" "_law_basin" s__law_basin [] []) rfl
    exact ⟨_, fd, glo_ok X G (c.d.fact 60 (f := .glo "_law_basin") rfl), F, F.bindsN fun _ _ _ _ _ _ us hl => match us, hl with | [_], _ => rfl⟩
  d__law_size := by
    obtain ⟨fd, F⟩ := c.d.def_ 47 (d := dfn "_law_size" none "_law_size" "_law_size" s__law_size [] []) rfl
    exact ⟨_, fd, glo_ok X G (c.d.fact 61 (f := .glo "_law_size") rfl), F, F.bindsN fun _ _ _ _ _ _ us hl => match us, hl with | [_], _ => rfl⟩
  d__law_tree := by
    obtain ⟨fd, F⟩ := c.d.def_ 48 (d := dfn "_law_tree" none "_law_tree" "_law_tree" s__law_tree [] []) rfl
    exact ⟨_, fd, glo_ok X G (c.d.fact 62 (f := .glo "_law_tree") rfl), F, F.bindsN fun _ _ _ _ _ _ us hl => match us, hl with | [_, _], _ => rfl⟩
  d__law_any := by
    obtain ⟨fd, F⟩ := c.d.def_ 49 (d := dfn "_law_any" none "_law_any" "_law_any" s__law_any [] []) rfl
    exact ⟨_, fd, glo_ok X G (c.d.fact 63 (f := .glo "_law_any") rfl), F, F.bindsN fun _ _ _ _ _ _ us hl => match us, hl with | [_, _], _ => rfl⟩
  d__law_open := by
    obtain ⟨fd, F⟩ := c.d.def_ 50 (d := dfn "_law_open" none "_law_open" "_law_open" s__law_open [] []) rfl
    exact ⟨_, fd, glo_ok X G (c.d.fact 64 (f := .glo "_law_open") rfl), F, F.bindsN fun _ _ _ _ _ _ us hl => match us, hl with | [_, _], _ => rfl⟩
  d__law_times := by
    obtain ⟨fd, F⟩ := c.d.def_ 51 (d := dfn "_law_times" none "_law_times" "_law_times" s__law_times [] []) rfl
    exact ⟨_, fd, glo_ok X G (c.d.fact 65 (f := .glo "_law_times") rfl), F, F.bindsN fun _ _ _ _ _ _ us hl => match us, hl with | [_, _], _ => rfl⟩
  d__law_composed := by
    obtain ⟨fd, F⟩ := c.d.def_ 52 (d := dfn "_law_composed" none "_law_composed" "_law_composed" s__law_composed [] []) rfl
    exact ⟨_, fd, glo_ok X G (c.d.fact 66 (f := .glo "_law_composed") rfl), F, F.bindsN fun _ _ _ _ _ _ us hl => match us, hl with | [_, _], _ => rfl⟩
  d__law_mixed := by
    obtain ⟨fd, F⟩ := c.d.def_ 53 (d := dfn "_law_mixed" none "_law_mixed" "_law_mixed" s__law_mixed [] []) rfl
    exact ⟨_, fd, glo_ok X G (c.d.fact 67 (f := .glo "_law_mixed") rfl), F, F.bindsN fun _ _ _ _ _ _ us hl => match us, hl with | [_, _], _ => rfl⟩
  d__law_written := by
    obtain ⟨fd, F⟩ := c.d.def_ 54 (d := dfn "_law_written" none "_law_written" "_law_written" s__law_written [] []) rfl
    exact ⟨_, fd, glo_ok X G (c.d.fact 68 (f := .glo "_law_written") rfl), F, F.bindsN fun _ _ _ _ _ _ us hl => match us, hl with | [_, _], _ => rfl⟩
  d__law_pieces := by
    obtain ⟨fd, F⟩ := c.d.def_ 55 (d := dfn "_law_pieces" none "_law_pieces" "_law_pieces" s__law_pieces [] []) rfl
    exact ⟨_, fd, glo_ok X G (c.d.fact 69 (f := .glo "_law_pieces") rfl), F, F.bindsN fun _ _ _ _ _ _ us hl => match us, hl with | [_, _], _ => rfl⟩
  d__law_put := by
    obtain ⟨fd, F⟩ := c.d.def_ 56 (d := dfn "_law_put" none "_law_put" "_law_put" s__law_put [] []) rfl
    exact ⟨_, fd, glo_ok X G (c.d.fact 70 (f := .glo "_law_put") rfl), F, F.bindsN fun _ _ _ _ _ _ us hl => match us, hl with | [_, _, _], _ => rfl⟩
  d__law_step := by
    obtain ⟨fd, F⟩ := c.d.def_ 57 (d := dfn "_law_step" none "_law_step" "_law_step" s__law_step [] []) rfl
    exact ⟨_, fd, glo_ok X G (c.d.fact 71 (f := .glo "_law_step") rfl), F, F.bindsN fun _ _ _ _ _ _ us hl => match us, hl with | [_, _], _ => rfl⟩
  d__law_at := by
    obtain ⟨fd, F⟩ := c.d.def_ 58 (d := dfn "_law_at" none "_law_at" "_law_at" s__law_at [] []) rfl
    exact ⟨_, fd, glo_ok X G (c.d.fact 72 (f := .glo "_law_at") rfl), F, F.bindsN fun _ _ _ _ _ _ us hl => match us, hl with | [_, _], _ => rfl⟩
  d__law_over := by
    obtain ⟨fd, F⟩ := c.d.def_ 59 (d := dfn "_law_over" none "_law_over" "_law_over" s__law_over [] []) rfl
    exact ⟨_, fd, glo_ok X G (c.d.fact 73 (f := .glo "_law_over") rfl), F, F.bindsN fun _ _ _ _ _ _ us hl => match us, hl with | [_, _], _ => rfl⟩
  d__law_bare := by
    obtain ⟨fd, F⟩ := c.d.def_ 60 (d := dfn "_law_bare" none "_law_bare" "_law_bare" s__law_bare [] []) rfl
    exact ⟨_, fd, glo_ok X G (c.d.fact 74 (f := .glo "_law_bare") rfl), F, F.bindsN fun _ _ _ _ _ _ us hl => match us, hl with | [_, _, _], _ => rfl⟩
  d__law_alike := by
    obtain ⟨fd, F⟩ := c.d.def_ 61 (d := dfn "_law_alike" none "_law_alike" "_law_alike" s__law_alike [] []) rfl
    exact ⟨_, fd, glo_ok X G (c.d.fact 75 (f := .glo "_law_alike") rfl), F, F.bindsN fun _ _ _ _ _ _ us hl => match us, hl with | [_, _], _ => rfl⟩
  d__law_depth := by
    obtain ⟨fd, F⟩ := c.d.def_ 62 (d := dfn "_law_depth" none "_law_depth" "_law_depth" s__law_depth [] []) rfl
    exact ⟨_, fd, glo_ok X G (c.d.fact 76 (f := .glo "_law_depth") rfl), F, F.bindsN fun _ _ _ _ _ _ us hl => match us, hl with | [_], _ => rfl⟩
  d__law_jet_depth := by
    obtain ⟨fd, F⟩ := c.d.def_ 63 (d := dfn "_law_jet_depth" none "_law_jet_depth" "_law_jet_depth" s__law_jet_depth [] []) rfl
    exact ⟨_, fd, glo_ok X G (c.d.fact 77 (f := .glo "_law_jet_depth") rfl), F, F.bindsN fun _ _ _ _ _ _ us hl => match us, hl with | [_], _ => rfl⟩
  d__law_swapped := by
    obtain ⟨fd, F⟩ := c.d.def_ 64 (d := dfn "_law_swapped" none "_law_swapped" "_law_swapped" s__law_swapped [] []) rfl
    exact ⟨_, fd, glo_ok X G (c.d.fact 78 (f := .glo "_law_swapped") rfl), F, F.bindsN fun _ _ _ _ _ _ us hl => match us, hl with | [_, _], _ => rfl⟩
  d__law_limits := by
    obtain ⟨fd, F⟩ := c.d.def_ 65 (d := dfn "_law_limits" none "_law_limits" "_law_limits" s__law_limits [] []) rfl
    exact ⟨_, fd, glo_ok X G (c.d.fact 79 (f := .glo "_law_limits") rfl), F, F.bindsN fun _ _ _ _ _ _ us hl => match us, hl with | [_, _], _ => rfl⟩
  d__law_exchanged := by
    obtain ⟨fd, F⟩ := c.d.def_ 66 (d := dfn "_law_exchanged" none "_law_exchanged" "_law_exchanged" s__law_exchanged [] []) rfl
    exact ⟨_, fd, glo_ok X G (c.d.fact 80 (f := .glo "_law_exchanged") rfl), F, F.bindsN fun _ _ _ _ _ _ us hl => match us, hl with | [_, _, _], _ => rfl⟩
  d__law_grown := by
    obtain ⟨fd, F⟩ := c.d.def_ 67 (d := dfn "_law_grown" none "_law_grown" "_law_grown" s__law_grown [] []) rfl
    exact ⟨_, fd, glo_ok X G (c.d.fact 81 (f := .glo "_law_grown") rfl), F, F.bindsN fun _ _ _ _ _ _ us hl => match us, hl with | [_, _], _ => rfl⟩
  d__law_next := by
    obtain ⟨fd, F⟩ := c.d.def_ 68 (d := dfn "_law_next" none "_law_next" "_law_next" s__law_next [] []) rfl
    exact ⟨_, fd, glo_ok X G (c.d.fact 82 (f := .glo "_law_next") rfl), F, F.bindsN fun _ _ _ _ _ _ us hl => match us, hl with | [_, _], _ => rfl⟩
  d__law_model := by
    obtain ⟨fd, F⟩ := c.d.def_ 69 (d := dfn "_law_model" none "_law_model" "_law_model" s__law_model [] []) rfl
    exact ⟨_, fd, glo_ok X G (c.d.fact 83 (f := .glo "_law_model") rfl), F, F.bindsN fun _ _ _ _ _ _ us hl => match us, hl with | [_], _ => rfl⟩
  d__law_do := by
    obtain ⟨fd, F⟩ := c.d.def_ 70 (d := dfn "_law_do" none "_law_do" "_law_do" s__law_do [] []) rfl
    exact ⟨_, fd, glo_ok X G (c.d.fact 84 (f := .glo "_law_do") rfl), F, F.bindsN fun _ _ _ _ _ _ us hl => match us, hl with | [_, _], _ => rfl⟩
  d__law_undo := by
    obtain ⟨fd, F⟩ := c.d.def_ 71 (d := dfn "_law_undo" none "_law_undo" "_law_undo" s__law_undo [] []) rfl
    exact ⟨_, fd, glo_ok X G (c.d.fact 85 (f := .glo "_law_undo") rfl), F, F.bindsN fun _ _ _ _ _ _ us hl => match us, hl with | [_], _ => rfl⟩
  d__law_refusal := by
    obtain ⟨fd, F⟩ := c.d.def_ 72 (d := dfn "_law_refusal" none "_law_refusal" "_law_refusal" s__law_refusal [] []) rfl
    exact ⟨_, fd, glo_ok X G (c.d.fact 86 (f := .glo "_law_refusal") rfl), F, F.bindsN fun _ _ _ _ _ _ us hl => match us, hl with | [_], _ => rfl⟩
  d__law_does := by
    obtain ⟨fd, F⟩ := c.d.def_ 73 (d := dfn "_law_does" none "_law_does" "_law_does" s__law_does [] []) rfl
    exact ⟨_, fd, glo_ok X G (c.d.fact 87 (f := .glo "_law_does") rfl), F, F.bindsN fun _ _ _ _ _ _ us hl => match us, hl with | [_, _, _], _ => rfl⟩
  d__law_deed := by
    obtain ⟨fd, F⟩ := c.d.def_ 74 (d := dfn "_law_deed" none "_law_deed" "_law_deed" s__law_deed [] []) rfl
    exact ⟨_, fd, glo_ok X G (c.d.fact 88 (f := .glo "_law_deed") rfl), F, F.bindsN fun _ _ _ _ _ _ us hl => match us, hl with | [_, _], _ => rfl⟩
  d__law_stands := by
    obtain ⟨fd, F⟩ := c.d.def_ 75 (d := dfn "_law_stands" none "_law_stands" "_law_stands" s__law_stands [] []) rfl
    exact ⟨_, fd, glo_ok X G (c.d.fact 89 (f := .glo "_law_stands") rfl), F, F.bindsN fun _ _ _ _ _ _ us hl => match us, hl with | [_, _], _ => rfl⟩
  d_law := by
    obtain ⟨fd, F⟩ := c.d.def_ 76 (d := dfn "law" none "law" "law" s_law [] []) rfl
    exact ⟨_, fd, glo_ok X G (c.d.fact 90 (f := .glo "law") rfl), F, F.bindsN fun _ _ _ _ _ _ us hl => match us, hl with | [_], _ => rfl⟩
  b_JetError := ⟨glo_ok X G (c.d.fact 91 (f := .glo "JetError") rfl), baseB_ok (all_at (exs c).2.2.2.2.1 0 (a := "JetError") rfl)⟩
  b_NoDivision := ⟨glo_ok X G (c.d.fact 92 (f := .glo "NoDivision") rfl), baseB_ok (all_at (exs c).2.2.2.2.1 1 (a := "NoDivision") rfl)⟩
  e_JetError := ⟨glo_ok X G (c.d.fact 91 (f := .glo "JetError") rfl)⟩
  e_NoPlace := ⟨glo_ok X G (c.d.fact 93 (f := .glo "NoPlace") rfl)⟩
  e_NotKind := ⟨glo_ok X G (c.d.fact 94 (f := .glo "NotKind") rfl)⟩
  k_Closed_NoPlace := of_decide_eq_true (all_at (exs c).2.2.2.2.2.1 0 (a := ("Closed", "NoPlace", false)) rfl)
  k_Closed_NoQuotient := of_decide_eq_true (all_at (exs c).2.2.2.2.2.1 1 (a := ("Closed", "NoQuotient", false)) rfl)
  k_Closed_TooLarge := of_decide_eq_true (all_at (exs c).2.2.2.2.2.1 2 (a := ("Closed", "TooLarge", false)) rfl)
  k_Closed_TooDeep := of_decide_eq_true (all_at (exs c).2.2.2.2.2.1 3 (a := ("Closed", "TooDeep", false)) rfl)
  k_Closed_Nested := of_decide_eq_true (all_at (exs c).2.2.2.2.2.1 4 (a := ("Closed", "Nested", false)) rfl)
  k_Closed_Closed := of_decide_eq_true (all_at (exs c).2.2.2.2.2.1 5 (a := ("Closed", "Closed", true)) rfl)
  k_Closed_NotKind := of_decide_eq_true (all_at (exs c).2.2.2.2.2.1 6 (a := ("Closed", "NotKind", false)) rfl)
  k_NoQuotient_NoPlace := of_decide_eq_true (all_at (exs c).2.2.2.2.2.1 7 (a := ("NoQuotient", "NoPlace", false)) rfl)
  k_NoQuotient_NoQuotient := of_decide_eq_true (all_at (exs c).2.2.2.2.2.1 8 (a := ("NoQuotient", "NoQuotient", true)) rfl)
  k_NoQuotient_TooLarge := of_decide_eq_true (all_at (exs c).2.2.2.2.2.1 9 (a := ("NoQuotient", "TooLarge", false)) rfl)
  k_NoQuotient_TooDeep := of_decide_eq_true (all_at (exs c).2.2.2.2.2.1 10 (a := ("NoQuotient", "TooDeep", false)) rfl)
  k_NoQuotient_Nested := of_decide_eq_true (all_at (exs c).2.2.2.2.2.1 11 (a := ("NoQuotient", "Nested", false)) rfl)
  k_NoQuotient_Closed := of_decide_eq_true (all_at (exs c).2.2.2.2.2.1 12 (a := ("NoQuotient", "Closed", false)) rfl)
  k_NoQuotient_NotKind := of_decide_eq_true (all_at (exs c).2.2.2.2.2.1 13 (a := ("NoQuotient", "NotKind", false)) rfl)
  k_Nested_NoPlace := of_decide_eq_true (all_at (exs c).2.2.2.2.2.1 14 (a := ("Nested", "NoPlace", false)) rfl)
  k_Nested_NoQuotient := of_decide_eq_true (all_at (exs c).2.2.2.2.2.1 15 (a := ("Nested", "NoQuotient", false)) rfl)
  k_Nested_TooLarge := of_decide_eq_true (all_at (exs c).2.2.2.2.2.1 16 (a := ("Nested", "TooLarge", false)) rfl)
  k_Nested_TooDeep := of_decide_eq_true (all_at (exs c).2.2.2.2.2.1 17 (a := ("Nested", "TooDeep", false)) rfl)
  k_Nested_Nested := of_decide_eq_true (all_at (exs c).2.2.2.2.2.1 18 (a := ("Nested", "Nested", true)) rfl)
  k_Nested_Closed := of_decide_eq_true (all_at (exs c).2.2.2.2.2.1 19 (a := ("Nested", "Closed", false)) rfl)
  k_Nested_NotKind := of_decide_eq_true (all_at (exs c).2.2.2.2.2.1 20 (a := ("Nested", "NotKind", false)) rfl)
  x_Closed_JetError := of_decide_eq_true (all_at (exs c).2.2.2.2.2.2 0 (a := ("Closed", "JetError", true)) rfl)
  x_NoQuotient_JetError := of_decide_eq_true (all_at (exs c).2.2.2.2.2.2 1 (a := ("NoQuotient", "JetError", true)) rfl)
  x_Nested_JetError := of_decide_eq_true (all_at (exs c).2.2.2.2.2.2 2 (a := ("Nested", "JetError", true)) rfl)
  ny_Yard := of_decide_eq_true (all_at (ba c.more).1 0 (a := fun K : PySem.W.Frag => decide (¬ (He.ga K "Yard" = He.ga K "Fountain"))) rfl)
  n_NotImplemented := free_ok X G (c.d.fact 95 (f := .free "NotImplemented") rfl)
  n_TypeError := free_ok X G (c.d.fact 96 (f := .free "TypeError") rfl)
  n_all := free_ok X G (c.d.fact 97 (f := .free "all") rfl)
  n_any := free_ok X G (c.d.fact 98 (f := .free "any") rfl)
  n_bool := free_ok X G (c.d.fact 99 (f := .free "bool") rfl)
  n_enumerate := free_ok X G (c.d.fact 100 (f := .free "enumerate") rfl)
  n_int := free_ok X G (c.d.fact 101 (f := .free "int") rfl)
  n_isinstance := free_ok X G (c.d.fact 102 (f := .free "isinstance") rfl)
  n_len := free_ok X G (c.d.fact 103 (f := .free "len") rfl)
  n_list := free_ok X G (c.d.fact 104 (f := .free "list") rfl)
  n_max := free_ok X G (c.d.fact 105 (f := .free "max") rfl)
  n_min := free_ok X G (c.d.fact 106 (f := .free "min") rfl)
  n_range := free_ok X G (c.d.fact 107 (f := .free "range") rfl)
  n_sorted := free_ok X G (c.d.fact 108 (f := .free "sorted") rfl)
  n_str := free_ok X G (c.d.fact 109 (f := .free "str") rfl)
  n_sum := free_ok X G (c.d.fact 110 (f := .free "sum") rfl)
  n_tuple := free_ok X G (c.d.fact 111 (f := .free "tuple") rfl)
  n_zip := free_ok X G (c.d.fact 112 (f := .free "zip") rfl)
theorem tabs_of {K : PySem.W.Frag} {H : Hp} (hH : ∀ p ∈ tf.map (cT K), H p.2 = some (.tbl #[])) : LamX.Tabs (TT K) H := fun q hq => by
  rcases List.mem_cons.mp hq with e | hq
  · subst e
    exact LamX.TabS.nil (hH _ (List.mem_map.mpr ⟨("made", none), List.mem_of_getElem? (i := 0) rfl, rfl⟩))
  · exact absurd hq (by simp)
theorem facts {w : World} {K : PySem.W.Frag} {h : Heap} {mg : Str → Option Value} {f : Addr} (X : K.In h) (G : h.Ns mainGlobals mg) (hfa : mg ("law" : Str) = some (.ref f)) (c : SaysE fa fn tf ex fx h K) :
    LamX.LawAtS PySem.Challenge.rw_jetworks_k45_deeds w K CX0 211 63 "_law_script" mg f h := by
  obtain ⟨fd, F⟩ := c.d.def_ 76 (d := dfn "law" none "law" "law" s_law [] []) rfl
  have e := hfa.symm.trans (glo_ok X G (c.d.fact 90 (f := .glo "law") rfl))
  cases e
  refine ⟨fd, tf.map (cT K), sp_law K, fun p hp => ?_, fun p hp => ?_, fun p hp => ?_, fun s v => FunD.bindsA (ps := ["_law_script"]) F (fun _ _ _ _ _ _ us hl => match us, hl with | [_], _ => rfl) s [v] rfl, fun H a ns hl _ hH hS => ⟨a, ns, rfl, hS, hl, tabs_of hH, fun _ => rfl⟩, fun base kb nb TB => fn_law (txt_of kb nb c TB) F⟩
  · obtain ⟨q, hq, rfl⟩ := List.mem_map.mp hp
    exact c.empty q hq
  · obtain ⟨q, hq, rfl⟩ := List.mem_map.mp hp
    exact c.out q hq
  · obtain ⟨q, hq, rfl⟩ := List.mem_map.mp hp
    exact PySem.W.codeHd_of_K X (c.hd q hq)

end JW
open PySem PySem.W PySem.Calls PyProof.Rows
set_option maxRecDepth 100000 in
set_option maxHeartbeats 0 in
theorem PySem.Challenge.cw_jetworks_k45_deeds_holds : PySem.Challenge.rw_jetworks_k45_deeds.Holds := by
  w_on; o_law
  refine HandSHeadRun.head_any (r := OpenLaw.row PySem.Challenge.rw_jetworks_k45_deeds) (q := view (OpenLaw.row PySem.Challenge.rw_jetworks_k45_deeds).prog [76]) (H := JW.hk) (ob := JW.ob) (M := 200000) (loose := JW.loose) (d := HandSHeadRun.topDef (OpenLaw.row PySem.Challenge.rw_jetworks_k45_deeds).prog 76) (kwd := []) JW.ob_eq
    (by kernel_rfl) (fun s => by kernel_rfl) JW.run (by kernel_rfl) (by kernel_rfl) (by kernel_rfl) (by rfl) (by first | assumption | decide +kernel) (by decide +kernel) ⟨rfl, rfl, rfl, rfl, rfl, by decide +kernel⟩ ?hw ?hc
  case hw => w_witness2
  case hc =>
    refine LamX.walk_ofTsE (l := PySem.Challenge.rw_jetworks_k45_deeds) (n := 63) (k := 211) (x := "_law_script") (CX := fun _ => L2.CX0) rfl (by decide) (by kernel_rfl) ⟨rfl, by decide, by decide⟩ ?F (fun _ _ _ _ _ z => z)
    intro w mg fa h Y G hmg0
    obtain ⟨K, KX, c⟩ := Y
    have hmg : mg ("law" : PySem.Str) = some (.ref fa) := by
      have e : (HandSHeadRun.topDef (OpenLaw.row PySem.Challenge.rw_jetworks_k45_deeds).prog 76).name = ("law" : PySem.Str) := by kernel_rfl
      rw [← e]
      exact hmg0
    exact ⟨K, KX, JW.facts KX G hmg c⟩

